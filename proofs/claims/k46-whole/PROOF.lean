import PyProof.Rows.All
import Wide.All
import OpenK.AllK
import Wide.FinOn
import HandS.Base
import HandS.Call
import HandS.List
import HandS.Comp
import HandS.Dict
import HandS.Ends
import HandS.Words
import HandS.Evl
import HandS.Conv
import HandS.IsInst
import HandS.TupAny
import HandS.DictComp
import HandS.Iter
import HandS.WordsDict
import HandS.Flow
import HandS.SetKeys
import PySem.Challenge.RW_jointhands_k46_whole_people_led_to_two_s
import HandS.DictTup
import HandS.TupSets
import KE.KDictKeyed
import KE.KDictCopyH
import KE.KDictSum
import KE.KSortTupG
import HandS.ForMost
set_option Elab.async false
set_option linter.all false
set_option maxRecDepth 100000
set_option maxHeartbeats 4000000
/-! K46, part a: judgements over slots' predicates. F: the frozen part of the abstract heap H; a mode M says what else may change. -/
namespace K46
open PySem L2
open Evl (Ex ex_l ex_t)

/-! ### data -/
section
variable {K : PySem.W.Frag} {F F' : Hp}
mutual
theorem dp_mono (e : Ex F F') : ∀ {v : V} {d : PyData}, Dp K F v d → Dp K F' v d
  | _, _, .non => .non
  | _, _, .bl b => .bl b
  | _, _, .int i => .int i
  | _, _, .str x => .str x
  | _, _, .lst h hs => .lst (ex_l e h) (dpAll_mono e hs)
  | _, _, .tup h hs => .tup (ex_t e h) (dpAll_mono e hs)
theorem dpAll_mono (e : Ex F F') : ∀ {vs : List V} {ds : List PyData}, DpAll K F vs ds → DpAll K F' vs ds
  | _, _, .nil => .nil
  | _, _, .cons h hs => .cons (dp_mono e h) (dpAll_mono e hs)
end
theorem dpAll_length : ∀ {vs : List V} {ds : List PyData}, DpAll K F vs ds → vs.length = ds.length
  | _, _, .nil => rfl
  | _, _, .cons _ hs => congrArg (· + 1) (dpAll_length hs)
theorem dpAll_get : ∀ {vs : List V} {ds : List PyData} {i : Nat} {d : PyData}, DpAll K F vs ds → ds[i]? = some d → ∃ v, vs[i]? = some v ∧ Dp K F v d
  | _, _, 0, _, .cons h _, e => by
    simp at e; subst e; exact ⟨_, rfl, h⟩
  | _, _, i + 1, _, .cons _ hs, e => by
    obtain ⟨v, h1, h2⟩ := dpAll_get (i := i) hs (by simpa using e)
    exact ⟨v, by simpa using h1, h2⟩
theorem dpAll_getV : ∀ {vs : List V} {ds : List PyData} {i : Nat} {v : V}, DpAll K F vs ds → vs[i]? = some v → ∃ d, ds[i]? = some d ∧ Dp K F v d
  | _, _, 0, _, .cons h _, e => by
    simp at e; subst e; exact ⟨_, rfl, h⟩
  | _, _, i + 1, _, .cons _ hs, e => by
    obtain ⟨v, h1, h2⟩ := dpAll_getV (i := i) hs (by simpa using e)
    exact ⟨v, by simpa using h1, h2⟩
theorem dpAll_append : ∀ {vs us : List V} {ds es : List PyData}, DpAll K F vs ds → DpAll K F us es → DpAll K F (vs ++ us) (ds ++ es)
  | _, _, _, _, .nil, h => h
  | _, _, _, _, .cons a b, h => .cons a (dpAll_append b h)
theorem dpAll_one {v : V} {d : PyData} (h : Dp K F v d) : DpAll K F [v] [d] := .cons h .nil
theorem dpAll_ints : ∀ (is : List Int), DpAll K F (is.map V.int) (is.map PyData.int)
  | [] => .nil
  | i :: r => .cons (.int i) (dpAll_ints r)
theorem dpAll_intsV : ∀ {vs : List V} {is : List Int}, DpAll K F vs (is.map PyData.int) → vs = is.map V.int
  | _, [], .nil => rfl
  | _, i :: r, .cons (.int _) h => congrArg (V.int i :: ·) (dpAll_intsV h)
theorem dp_int {v : V} {i : Int} (h : Dp K F v (.int i)) : v = .int i := by cases h; rfl
theorem dp_bl {v : V} {b : Bool} (h : Dp K F v (.bool b)) : v = .bl b := by cases h; rfl
theorem dp_str {v : V} {x : Str} (h : Dp K F v (.str x)) : v = .str x := by cases h; rfl
theorem dp_non {v : V} (h : Dp K F v .none) : v = .non := by cases h; rfl
theorem dp_tup {v : V} {ds : List PyData} (h : Dp K F v (.tuple ds)) : ∃ a xs, v = .ref a ∧ SqT K F a xs ∧ DpAll K F xs ds := by cases h with | tup a b => exact ⟨_, _, rfl, a, b⟩
theorem dp_lst {v : V} {ds : List PyData} (h : Dp K F v (.list ds)) : ∃ a xs, v = .ref a ∧ SqL K F a xs ∧ DpAll K F xs ds := by cases h with | lst a b => exact ⟨_, _, rfl, a, b⟩
end

/-! ### predicates of a value over the frozen part -/
structure MP where
  R : Hp → V → Prop
  mono : ∀ {F F' : Hp} {v : V}, Ex F F' → R F v → R F' v
def dt (K : PySem.W.Frag) (d : PyData) : MP := ⟨fun F v => Dp K F v d, fun e h => dp_mono e h⟩
def rawv (w : V) : MP := ⟨fun _ v => v = w, fun _ h => h⟩
def anyD (K : PySem.W.Frag) (P : PyData → Prop) : MP := ⟨fun F v => ∃ d, P d ∧ Dp K F v d, fun e ⟨d, p, h⟩ => ⟨d, p, dp_mono e h⟩⟩
abbrev Gm := List (Option MP)
abbrev dI (K : PySem.W.Frag) (i : Int) : MP := dt K (.int i)

/-- the slots σ bear the predicates Γ -/
structure En (F : Hp) (σ : St) (Γ : Gm) : Prop where
  len : σ.length = Γ.length
  get : ∀ (i : Nat) (m : MP), Γ[i]? = some (some m) → ∃ v, σ[i]? = some (some v) ∧ m.R F v
theorem En.mono {F F' : Hp} {σ : St} {Γ : Gm} (e : Ex F F') (h : En F σ Γ) : En F' σ Γ := ⟨h.len, fun i m q => let ⟨v, a, b⟩ := h.get i m q; ⟨v, a, m.mono e b⟩⟩
theorem En.set {F : Hp} {σ : St} {Γ : Gm} {i : Nat} {v : V} {m : MP} (h : En F σ Γ) (hv : m.R F v) : En F (σ.set i (some v)) (Γ.set i (some m)) := by
  refine ⟨by simp [h.len], fun j n q => ?_⟩
  by_cases hj : i = j
  · subst hj
    by_cases hl : i < Γ.length
    · rw [List.getElem?_set_self hl] at q
      cases q
      exact ⟨v, by rw [List.getElem?_set_self (by rw [h.len]; exact hl)], hv⟩
    · rw [List.getElem?_eq_none (by simpa using hl)] at q; cases q
  · rw [List.getElem?_set_ne hj] at q
    obtain ⟨w, a, b⟩ := h.get j n q
    exact ⟨w, by rw [List.getElem?_set_ne hj]; exact a, b⟩
/-- less is known -/
def GmLe (Γ Δ : Gm) : Prop := Γ.length = Δ.length ∧ ∀ (i : Nat) (m : MP), Δ[i]? = some (some m) → Γ[i]? = some (some m)
theorem GmLe.refl (Γ : Gm) : GmLe Γ Γ := ⟨rfl, fun _ _ h => h⟩
theorem GmLe.nil : GmLe [] [] := .refl _
theorem GmLe.cons {m : Option MP} {Γ Δ : Gm} (h : GmLe Γ Δ) : GmLe (m :: Γ) (m :: Δ) := ⟨by simp [h.1], fun i n q => by cases i with | zero => simpa using q | succ i => simpa using h.2 i n (by simpa using q)⟩
theorem GmLe.drop {m : Option MP} {Γ Δ : Gm} (h : GmLe Γ Δ) : GmLe (m :: Γ) (none :: Δ) := ⟨by simp [h.1], fun i n q => by cases i with | zero => simp at q | succ i => simpa using h.2 i n (by simpa using q)⟩
theorem En.le {F : Hp} {σ : St} {Γ Δ : Gm} (h : En F σ Γ) (l : GmLe Γ Δ) : En F σ Δ := ⟨h.len.trans l.1, fun i m q => h.get i m (l.2 i m q)⟩

/-- the block's own slots forgotten -/
def wipeG (Γ : Gm) : List Nat → Gm
  | [] => Γ
  | v :: vs => (wipeG Γ vs).set v none
theorem En.wipe {F : Hp} {σ : St} {Γ : Gm} (h : En F σ Γ) : ∀ vs : List Nat, En F (wipe σ vs) (wipeG Γ vs)
  | [] => h
  | v :: vs => by
    have ih := En.wipe h vs
    refine ⟨by unfold L2.wipe wipeG; simp [ih.len], fun i m q => ?_⟩
    unfold wipeG at q
    unfold L2.wipe
    by_cases hj : v = i
    · subst hj
      by_cases hl : v < (wipeG Γ vs).length
      · rw [List.getElem?_set_self hl] at q; cases q
      · rw [List.getElem?_eq_none (by simpa using hl)] at q; cases q
    · rw [List.getElem?_set_ne hj] at q ⊢
      exact ih.get i m q

/-- values with predicates, pairwise -/
inductive PM (F : Hp) : List V → List MP → Prop
  | nil : PM F [] []
  | cons {v : V} {vs : List V} {m : MP} {ms : List MP} : m.R F v → PM F vs ms → PM F (v :: vs) (m :: ms)
theorem PM.mono {F F' : Hp} (e : Ex F F') : ∀ {vs : List V} {ms : List MP}, PM F vs ms → PM F' vs ms
  | _, _, .nil => .nil
  | _, _, .cons h t => .cons (MP.mono _ e h) (t.mono e)
theorem PM.length {F : Hp} : ∀ {vs : List V} {ms : List MP}, PM F vs ms → vs.length = ms.length
  | _, _, .nil => rfl
  | _, _, .cons _ t => congrArg (· + 1) t.length
theorem PM.get {F : Hp} : ∀ {vs : List V} {ms : List MP} {i : Nat} {m : MP}, PM F vs ms → ms[i]? = some m → ∃ v, vs[i]? = some v ∧ m.R F v
  | _, _, 0, _, .cons h _, e => by
    simp at e; subst e; exact ⟨_, rfl, h⟩
  | _, _, i + 1, _, .cons _ hs, e => by
    obtain ⟨v, h1, h2⟩ := PM.get (i := i) hs (by simpa using e)
    exact ⟨v, by simpa using h1, h2⟩
theorem PM.data {K : PySem.W.Frag} {F : Hp} : ∀ {vs : List V} {ds : List PyData}, PM F vs (ds.map (dt K)) → DpAll K F vs ds
  | _, [], .nil => .nil
  | _, _ :: _, .cons h t => .cons h (PM.data t)
theorem PM.ofData {K : PySem.W.Frag} {F : Hp} : ∀ {vs : List V} {ds : List PyData}, DpAll K F vs ds → PM F vs (ds.map (dt K))
  | _, _, .nil => .nil
  | _, _, .cons h t => .cons h (PM.ofData t)

/-! ### modes: what is owned and may change -/
structure Mode where
  S : Addr → Prop
  I : Hp → Hp → Prop
  st : ∀ {F F' H H' : Hp}, Ex F F' → (∀ a o, S a → H a = some o → H' a = some o) → I F H → I F' H'
/-- nothing may change -/
def pu : Mode := ⟨fun _ => False, fun _ _ => True, fun _ _ _ => trivial⟩
structure Mode.Ok (M : Mode) (F H : Hp) : Prop where
  ex : Ex F H
  ds : ∀ a, M.S a → F a = none
  al : ∀ a, M.S a → ∃ o, H a = some o
  iv : M.I F H
theorem pu_ok {F H : Hp} (e : Ex F H) : pu.Ok F H := ⟨e, fun _ h => h.elim, fun _ h => h.elim, trivial⟩
/-- from (F, H) to (F', H'): all but S kept, the frozen part grows by new things alone -/
structure Pu (S : Addr → Prop) (F H F' H' : Hp) : Prop where
  hx : ∀ a o, ¬ S a → H a = some o → H' a = some o
  fx : Ex F F'
  nw : ∀ a o, F' a = some o → F a = some o ∨ H a = none
  al : ∀ a o, H a = some o → ∃ o', H' a = some o'
theorem Pu.refl {S : Addr → Prop} {F H : Hp} : Pu S F H F H := ⟨fun _ _ _ h => h, Ex.refl F, fun _ _ h => .inl h, fun _ o h => ⟨o, h⟩⟩
theorem Pu.trans {S : Addr → Prop} {F H F1 H1 F2 H2 : Hp} (a : Pu S F H F1 H1) (b : Pu S F1 H1 F2 H2) : Pu S F H F2 H2 where
  hx := fun c o n h => b.hx c o n (a.hx c o n h)
  fx := a.fx.trans b.fx
  nw := fun c o h => by
    rcases b.nw c o h with h1 | h1
    · exact a.nw c o h1
    · refine .inr ?_
      cases q : H c with
      | none => rfl
      | some u =>
        obtain ⟨u', q'⟩ := a.al c u q
        rw [h1] at q'; cases q'
  al := fun c o h => let ⟨o', h'⟩ := a.al c o h; b.al c o' h'
theorem Pu.wide {S S' : Addr → Prop} {F H F' H' : Hp} (h : Pu S F H F' H') (w : ∀ a, S a → S' a) : Pu S' F H F' H' := ⟨fun a o n => h.hx a o fun z => n (w a z), h.fx, h.nw, h.al⟩
abbrev Pu0 (F H F' H' : Hp) : Prop := Pu pu.S F H F' H'
theorem Pu.ex {F H F' H' : Hp} (h : Pu0 F H F' H') : Ex H H' := fun a o q => h.hx a o (fun z => z) q
/-- a step that changes nothing, in any mode -/
theorem Pu.any {F H F' H' : Hp} (h : Pu0 F H F' H') (M : Mode) : Pu M.S F H F' H' := h.wide fun _ z => z.elim
theorem Mode.Ok.step {M : Mode} {F H F' H' : Hp} (k : M.Ok F H) (h : Pu0 F H F' H') (e : Ex F' H') : M.Ok F' H' where
  ex := e
  ds := fun a s => by
    cases q : F' a with
    | none => rfl
    | some o =>
      rcases h.nw a o q with z | z
      · rw [k.ds a s] at z; cases z
      · obtain ⟨u, w⟩ := k.al a s
        rw [w] at z; cases z
  al := fun a s => let ⟨o, q⟩ := k.al a s; ⟨o, h.ex a o q⟩
  iv := M.st h.fx (fun a o _ q => h.ex a o q) k.iv
/-- a new frozen object -/
theorem Pu.new {S : Addr → Prop} {F H : Hp} {p : Addr} {o : HO} (hp : H p = none) (e : Ex F H) : Pu S F H (upd F p o) (upd H p o) where
  hx := fun a u _ h => by rw [upd_ne (ne_of_none h hp)]; exact h
  fx := fun a u h => by rw [upd_ne (ne_of_none (e a u h) hp)]; exact h
  nw := fun a u h => by
    by_cases ha : a = p
    · subst ha; exact .inr hp
    · rw [upd_ne ha] at h; exact .inl h
  al := fun a u h => ⟨u, by rw [upd_ne (ne_of_none h hp)]; exact h⟩
theorem ex_upd {F H : Hp} {p : Addr} {o : HO} (e : Ex F H) : Ex (upd F p o) (upd H p o) := fun a u h => by
  by_cases ha : a = p
  · subst ha; rw [upd_same] at h ⊢; exact h
  · rw [upd_ne ha] at h ⊢; exact e a u h
/-- a new object that is not frozen -/
theorem Pu.newH {S : Addr → Prop} {F H : Hp} {p : Addr} {o : HO} (hp : H p = none) : Pu S F H F (upd H p o) where
  hx := fun a u _ h => by rw [upd_ne (ne_of_none h hp)]; exact h
  fx := Ex.refl F
  nw := fun a u h => .inl h
  al := fun a u h => ⟨u, by rw [upd_ne (ne_of_none h hp)]; exact h⟩
theorem ex_updH {F H : Hp} {p : Addr} {o : HO} (e : Ex F H) (hp : F p = none) : Ex F (upd H p o) := fun a u h => by
  rw [upd_ne (ne_of_none h hp)]; exact e a u h
theorem free_of {F H : Hp} {p : Addr} (e : Ex F H) (hp : H p = none) : F p = none := Evl.fresh_back e hp

/-! ### the judgements -/
variable {K : PySem.W.Frag}
def EE (M : Mode) (Γ : Gm) (te : TE) (m : MP) : Prop := ∀ F H σ, En F σ Γ → M.Ok F H → ∀ Q : VK, (∀ v F' H', Pu M.S F H F' H' → M.Ok F' H' → m.R F' v → Q v H') → te σ H Q
def EA (M : Mode) (Γ : Gm) (ta : TA) (ms : List MP) : Prop := ∀ F H σ, En F σ Γ → M.Ok F H → ∀ Q : List V → Hp → Prop, (∀ vs F' H', Pu M.S F H F' H' → M.Ok F' H' → PM F' vs ms → Q vs H') → ta σ H Q
def ET (M : Mode) (Γ : Gm) (tt : TT) (P : Bool → Prop) : Prop := ∀ F H σ, En F σ Γ → M.Ok F H → ∀ Q : Bool → Hp → Prop, (∀ b F' H', Pu M.S F H F' H' → M.Ok F' H' → P b → Q b H') → tt σ H Q
abbrev ETb (M : Mode) (Γ : Gm) (tt : TT) (b : Bool) : Prop := ET M Γ tt fun c => c = b

section
variable {M : Mode} {Γ : Gm} {ta tb te : TE} {m m' : MP} {d e : PyData}
theorem ee_imp (h : EE M Γ te m) (k : ∀ F v, m.R F v → m'.R F v) : EE M Γ te m' := fun F H σ en ok Q q => h F H σ en ok Q fun v F' H' p o r => q v F' H' p o (k F' v r)
theorem ee_cast (h : EE M Γ te (dt K d)) (k : d = e) : EE M Γ te (dt K e) := k ▸ h
theorem ee_any {P : PyData → Prop} (h : EE M Γ te (dt K d)) (k : P d) : EE M Γ te (anyD K P) := ee_imp h fun _ _ r => ⟨d, k, r⟩
theorem et_is {tt : TT} {b c : Bool} (h : ETb M Γ tt b) (k : b = c) : ETb M Γ tt c := k ▸ h
theorem et_imp {tt : TT} {P P' : Bool → Prop} (h : ET M Γ tt P) (k : ∀ b, P b → P' b) : ET M Γ tt P' := fun F H σ en ok Q q => h F H σ en ok Q fun b F' H' p o r => q b F' H' p o (k b r)
theorem ee_var {i : Nat} (h : Γ[i]? = some (some m)) : EE M Γ (tVar i) m := fun F H σ en ok Q q => by
  obtain ⟨v, a, b⟩ := en.get i m h
  exact ⟨v, a, q v F H .refl ok b⟩
theorem ee_c {v : V} (h : ∀ F, m.R F v) : EE M Γ (tC v) m := fun F H σ en ok Q q => q v F H .refl ok (h F)
theorem ee_raw {v : V} : EE M Γ (tC v) (rawv v) := ee_c fun _ => rfl
theorem ee_int {i : Int} : EE M Γ (tC (.int i)) (dt K (.int i)) := ee_c fun _ => .int i
theorem ee_str {x : Str} : EE M Γ (tC (.str x)) (dt K (.str x)) := ee_c fun _ => .str x
theorem ee_bl {b : Bool} : EE M Γ (tC (.bl b)) (dt K (.bool b)) := ee_c fun _ => .bl b
theorem ee_non : EE M Γ (tC .non) (dt K .none) := ee_c fun _ => .non

theorem ea_nil : EA M Γ tNil [] := fun F H σ en ok Q q => q [] F H .refl ok .nil
theorem ea_cons {tr : TA} {ms : List MP} (h : EE M Γ te m) (hr : EA M Γ tr ms) : EA M Γ (tCons te tr) (m :: ms) := fun F H σ en ok Q q =>
  h F H σ en ok _ fun v F1 H1 p1 o1 r1 => hr F1 H1 σ (en.mono p1.fx) o1 _ fun vs F2 H2 p2 o2 r2 => q (v :: vs) F2 H2 (p1.trans p2) o2 (.cons (m.mono p2.fx r1) r2)
/-- two places, then a rule on values -/
theorem ee_op {r : R2} {ma mb m : MP} (ha : EE M Γ ta ma) (hb : EE M Γ tb mb) (hr : ∀ F H x y, M.Ok F H → ma.R F x → mb.R F y → ∀ Q : VK, (∀ v F' H', Pu M.S F H F' H' → M.Ok F' H' → m.R F' v → Q v H') → r x y H Q) : EE M Γ (tOp r ta tb) m := fun F H σ en ok Q q =>
  ha F H σ en ok _ fun x F1 H1 p1 o1 r1 => hb F1 H1 σ (en.mono p1.fx) o1 _ fun y F2 H2 p2 o2 r2 => hr F2 H2 x y o2 (ma.mono p2.fx r1) r2 Q fun v F3 H3 p3 o3 r3 => q v F3 H3 ((p1.trans p2).trans p3) o3 r3
/-- .. that touches nothing -/
theorem ee_opv {r : R2} {ma mb m : MP} (ha : EE M Γ ta ma) (hb : EE M Γ tb mb) (hr : ∀ F H x y, M.Ok F H → ma.R F x → mb.R F y → ∀ Q : VK, (∀ v, m.R F v → Q v H) → r x y H Q) : EE M Γ (tOp r ta tb) m :=
  ee_op ha hb fun F H x y ok hx hy Q q => hr F H x y ok hx hy Q fun v hv => q v F H .refl ok hv
theorem ee_tup {t : TA} {ds : List PyData} (h : EA M Γ t (ds.map (dt K))) (hl : ds.length ≤ 100000) : EE M Γ (tTup t) (dt K (.tuple ds)) := fun F H σ en ok Q q =>
  h F H σ en ok _ fun vs F1 H1 p1 o1 r1 => by
    have da := r1.data
    refine ⟨Evl.sz_of (by rw [dpAll_length da]; exact hl), fun p hp => ?_⟩
    have pn : Pu0 F1 H1 (upd F1 p (.tup vs)) (upd H1 p (.tup vs)) := .new hp o1.ex
    exact q (.ref p) _ _ (p1.trans (pn.any M)) (o1.step pn (ex_upd o1.ex)) (.tup (SqT.of upd_same) (dpAll_mono pn.fx da))
theorem ee_lst {t : TA} {ds : List PyData} (h : EA M Γ t (ds.map (dt K))) (hl : ds.length ≤ 100000) : EE M Γ (tLst t) (dt K (.list ds)) := fun F H σ en ok Q q =>
  h F H σ en ok _ fun vs F1 H1 p1 o1 r1 => by
    have da := r1.data
    refine ⟨Evl.sz_of (by rw [dpAll_length da]; exact hl), fun p hp => ?_⟩
    have pn : Pu0 F1 H1 (upd F1 p (.lst vs)) (upd H1 p (.lst vs)) := .new hp o1.ex
    exact q (.ref p) _ _ (p1.trans (pn.any M)) (o1.step pn (ex_upd o1.ex)) (.lst (SqL.of upd_same) (dpAll_mono pn.fx da))

/-! ### arithmetic, comparisons -/
theorem ee_I0 {g : Int → Int → V} {i j : Int} (ha : EE M Γ ta (dt K (.int i))) (hb : EE M Γ tb (dt K (.int j))) (hg : ∀ F, m.R F (g i j)) : EE M Γ (tOp (rI0 g) ta tb) m :=
  ee_opv ha hb fun F H x y _ hx hy Q q => ⟨i, j, dp_int hx, dp_int hy, q _ (hg F)⟩
theorem ee_I {C : Int → Int → Prop} {g : Int → Int → V} {i j : Int} (ha : EE M Γ ta (dt K (.int i))) (hb : EE M Γ tb (dt K (.int j))) (hc : C i j) (hg : ∀ F, m.R F (g i j)) : EE M Γ (tOp (rI C g) ta tb) m :=
  ee_opv ha hb fun F H x y _ hx hy Q q => ⟨i, j, dp_int hx, dp_int hy, hc, q _ (hg F)⟩
theorem ee_add {i j : Int} (ha : EE M Γ ta (dt K (.int i))) (hb : EE M Γ tb (dt K (.int j))) : EE M Γ (tOp (rI0 fun i j => .int (i + j)) ta tb) (dt K (.int (i + j))) := ee_I0 ha hb fun _ => .int _
theorem ee_sub {i j : Int} (ha : EE M Γ ta (dt K (.int i))) (hb : EE M Γ tb (dt K (.int j))) : EE M Γ (tOp (rI0 fun i j => .int (i - j)) ta tb) (dt K (.int (i - j))) := ee_I0 ha hb fun _ => .int _
theorem ee_lt {i j : Int} (ha : EE M Γ ta (dt K (.int i))) (hb : EE M Γ tb (dt K (.int j))) : EE M Γ (tOp (rI0 fun i j => .bl (decide (i < j))) ta tb) (dt K (.bool (decide (i < j)))) := ee_I0 ha hb fun _ => .bl _
theorem ee_le {i j : Int} (ha : EE M Γ ta (dt K (.int i))) (hb : EE M Γ tb (dt K (.int j))) : EE M Γ (tOp (rI0 fun i j => .bl (decide (i ≤ j))) ta tb) (dt K (.bool (decide (i ≤ j)))) := ee_I0 ha hb fun _ => .bl _
theorem ee_gt {i j : Int} (ha : EE M Γ ta (dt K (.int i))) (hb : EE M Γ tb (dt K (.int j))) : EE M Γ (tOp (rI0 fun i j => .bl (decide (j < i))) ta tb) (dt K (.bool (decide (j < i)))) := ee_I0 ha hb fun _ => .bl _
theorem ee_ge {i j : Int} (ha : EE M Γ ta (dt K (.int i))) (hb : EE M Γ tb (dt K (.int j))) : EE M Γ (tOp (rI0 fun i j => .bl (decide (j ≤ i))) ta tb) (dt K (.bool (decide (j ≤ i)))) := ee_I0 ha hb fun _ => .bl _
theorem ee_mul {i j : Int} (ha : EE M Γ ta (dt K (.int i))) (hb : EE M Γ tb (dt K (.int j))) (hc : CMul i j) : EE M Γ (tOp (rI CMul fun i j => .int (i * j)) ta tb) (dt K (.int (i * j))) := ee_I ha hb hc fun _ => .int _
theorem ee_eqD (ha : EE M Γ ta (dt K d)) (hb : EE M Γ tb (dt K e)) (h1 : SeqAt.shaped d = true) (h2 : SeqAt.shaped e = true) : EE M Γ (tOp (rEqD K) ta tb) (dt K (.bool (PyData.eqv d e))) :=
  ee_opv ha hb fun F H x y ok hx hy Q q => ⟨d, e, dp_mono ok.ex hx, dp_mono ok.ex hy, h1, h2, q _ (.bl _)⟩
theorem ee_neD (ha : EE M Γ ta (dt K d)) (hb : EE M Γ tb (dt K e)) (h1 : SeqAt.shaped d = true) (h2 : SeqAt.shaped e = true) : EE M Γ (tOp (rNeD K) ta tb) (dt K (.bool (!PyData.eqv d e))) :=
  ee_opv ha hb fun F H x y ok hx hy Q q => ⟨d, e, dp_mono ok.ex hx, dp_mono ok.ex hy, h1, h2, q _ (.bl _)⟩
theorem ee_eqI {i j : Int} (ha : EE M Γ ta (dt K (.int i))) (hb : EE M Γ tb (dt K (.int j))) : EE M Γ (tOp rEq ta tb) (dt K (.bool (decide (i = j)))) :=
  ee_opv ha hb fun F H x y ok hx hy Q q => by
    cases dp_int hx; cases dp_int hy
    refine ⟨rfl, q _ ?_⟩
    have : decide (V.int i = V.int j) = decide (i = j) := by simp
    rw [this]
    exact .bl _
theorem ee_neI {i j : Int} (ha : EE M Γ ta (dt K (.int i))) (hb : EE M Γ tb (dt K (.int j))) : EE M Γ (tOp rNe ta tb) (dt K (.bool (!decide (i = j)))) :=
  ee_opv ha hb fun F H x y ok hx hy Q q => by
    cases dp_int hx; cases dp_int hy
    refine ⟨rfl, q _ ?_⟩
    have : decide (V.int i = V.int j) = decide (i = j) := by simp
    rw [this]
    exact .bl _
theorem ee_eqS {i j : Str} (ha : EE M Γ ta (dt K (.str i))) (hb : EE M Γ tb (dt K (.str j))) : EE M Γ (tOp rEq ta tb) (dt K (.bool (decide (i = j)))) :=
  ee_opv ha hb fun F H x y ok hx hy Q q => by
    cases dp_str hx; cases dp_str hy
    refine ⟨rfl, q _ ?_⟩
    have : decide (V.str i = V.str j) = decide (i = j) := by simp
    rw [this]
    exact .bl _
theorem ee_neS {i j : Str} (ha : EE M Γ ta (dt K (.str i))) (hb : EE M Γ tb (dt K (.str j))) : EE M Γ (tOp rNe ta tb) (dt K (.bool (!decide (i = j)))) :=
  ee_opv ha hb fun F H x y ok hx hy Q q => by
    cases dp_str hx; cases dp_str hy
    refine ⟨rfl, q _ ?_⟩
    have : decide (V.str i = V.str j) = decide (i = j) := by simp
    rw [this]
    exact .bl _
/-- is None -/
def isNoneD : PyData → Bool
  | .none => true
  | _ => false
theorem dp_isN {F : Hp} {v : V} {d : PyData} (h : Dp K F v d) : decide (v = .non) = isNoneD d := by
  cases h <;> first | rfl | simp [isNoneD]
theorem ee_isN (ha : EE M Γ ta (dt K d)) : EE M Γ (tOp (fun x y H Q => y = .non ∧ Q (.bl (decide (x = .non))) H) ta (tC .non)) (dt K (.bool (isNoneD d))) :=
  ee_opv ha (ee_raw (v := .non)) fun F H x y ok hx hy Q q => ⟨hy, q _ (by rw [dp_isN hx]; exact .bl _)⟩
theorem ee_notN (ha : EE M Γ ta (dt K d)) : EE M Γ (tOp (fun x y H Q => y = .non ∧ Q (.bl (!decide (x = .non))) H) ta (tC .non)) (dt K (.bool (!isNoneD d))) :=
  ee_opv ha (ee_raw (v := .non)) fun F H x y ok hx hy Q q => ⟨hy, q _ (by rw [dp_isN hx]; exact .bl _)⟩

/-! ### items -/
theorem ee_ixT {ds : List PyData} {i : Int} {j : Nat} (ha : EE M Γ ta (dt K (.tuple ds))) (hb : EE M Γ tb (dt K (.int i))) (hi : i = (j : Int)) (hd : ds[j]? = some d) : EE M Γ (tOp (rIx K) ta tb) (dt K d) :=
  ee_opv ha hb fun F H x y ok hx hy Q q => by
    obtain ⟨a, xs, rfl, hs, hall⟩ := dp_tup hx
    cases dp_int hy
    obtain ⟨v, hv, hdv⟩ := dpAll_get hall hd
    exact .inr (.inl ⟨a, xs, i, v, rfl, rfl, ex_t ok.ex hs, by rw [hi]; exact atI_nat hv, q v hdv⟩)
theorem ee_ixL {ds : List PyData} {i : Int} {j : Nat} (ha : EE M Γ ta (dt K (.list ds))) (hb : EE M Γ tb (dt K (.int i))) (hi : i = (j : Int)) (hd : ds[j]? = some d) : EE M Γ (tOp (rIx K) ta tb) (dt K d) :=
  ee_opv ha hb fun F H x y ok hx hy Q q => by
    obtain ⟨a, xs, rfl, hs, hall⟩ := dp_lst hx
    cases dp_int hy
    obtain ⟨v, hv, hdv⟩ := dpAll_get hall hd
    exact .inl ⟨a, xs, i, v, rfl, rfl, ex_l ok.ex hs, by rw [hi]; exact atI_nat hv, q v hdv⟩

/-! ### and, or, not, if -/
theorem et_B {b : Bool} (h : EE M Γ te (dt K (.bool b))) : ETb M Γ (tB te) b := fun F H σ en ok Q q => h F H σ en ok _ fun v F' H' p o r => ⟨b, dp_bl r, q b F' H' p o rfl⟩
theorem et_test {b : Bool} (h : EE M Γ te (dt K (.bool b))) : ETb M Γ (tTest te) b := fun F H σ en ok Q q => h F H σ en ok _ fun v F' H' p o r => ⟨b, dp_bl r, q b F' H' p o rfl⟩
theorem et_testN {P : Bool → Prop} (h : EE M Γ te (anyD K fun d => ∃ b, d = .bool b ∧ P b)) : ET M Γ (tTest te) P := fun F H σ en ok Q q => h F H σ en ok _ fun v F' H' p o ⟨_, ⟨b, e, hb⟩, r⟩ => by
  subst e
  exact ⟨b, dp_bl r, q b F' H' p o hb⟩
theorem et_and {t u : TT} {a b : Bool} (h1 : ETb M Γ t a) (h2 : a = true → ETb M Γ u b) : ETb M Γ (tAnd t u) (a && b) := fun F H σ en ok Q q => h1 F H σ en ok _ fun c F1 H1 p1 o1 e => by
  subst e
  cases c with
  | true =>
    show u σ H1 Q
    exact h2 rfl F1 H1 σ (en.mono p1.fx) o1 Q fun b' F2 H2 p2 o2 e2 => q b' F2 H2 (p1.trans p2) o2 (by simpa using e2)
  | false => exact q false F1 H1 p1 o1 rfl
theorem et_or {t u : TT} {a b : Bool} (h1 : ETb M Γ t a) (h2 : a = false → ETb M Γ u b) : ETb M Γ (tOr t u) (a || b) := fun F H σ en ok Q q => h1 F H σ en ok _ fun c F1 H1 p1 o1 e => by
  subst e
  cases c with
  | false =>
    show u σ H1 Q
    exact h2 rfl F1 H1 σ (en.mono p1.fx) o1 Q fun b' F2 H2 p2 o2 e2 => q b' F2 H2 (p1.trans p2) o2 (by simpa using e2)
  | true => exact q true F1 H1 p1 o1 rfl
theorem et_not {t : TT} {a : Bool} (h : ETb M Γ t a) : ETb M Γ (tNot t) (!a) := fun F H σ en ok Q q => h F H σ en ok _ fun c F1 H1 p1 o1 e => q _ F1 H1 p1 o1 (by rw [e])
theorem ee_and {a : Bool} {m : MP} (h1 : EE M Γ ta (dt K (.bool a))) (h2 : a = true → EE M Γ tb m) (h3 : a = false → ∀ F, m.R F (.bl false)) : EE M Γ (tAndV ta tb) m := fun F H σ en ok Q q => h1 F H σ en ok _ fun v F1 H1 p1 o1 r => ⟨a, dp_bl r, by
  cases a with
  | true =>
    show tb σ H1 Q
    exact h2 rfl F1 H1 σ (en.mono p1.fx) o1 Q fun b' F2 H2 p2 o2 e2 => q b' F2 H2 (p1.trans p2) o2 e2
  | false => exact q _ F1 H1 p1 o1 (h3 rfl F1)⟩
theorem ee_andB {a b : Bool} (h1 : EE M Γ ta (dt K (.bool a))) (h2 : a = true → EE M Γ tb (dt K (.bool b))) : EE M Γ (tAndV ta tb) (dt K (.bool (a && b))) :=
  ee_and h1 (fun e => by subst e; exact h2 rfl) fun e F => by subst e; exact .bl false
theorem ee_orB {a b : Bool} (h1 : EE M Γ ta (dt K (.bool a))) (h2 : a = false → EE M Γ tb (dt K (.bool b))) : EE M Γ (tOrV ta tb) (dt K (.bool (a || b))) := fun F H σ en ok Q q => h1 F H σ en ok _ fun v F1 H1 p1 o1 r => ⟨a, dp_bl r, by
  cases a with
  | false =>
    show tb σ H1 Q
    exact h2 rfl F1 H1 σ (en.mono p1.fx) o1 Q fun b' F2 H2 p2 o2 e2 => q b' F2 H2 (p1.trans p2) o2 e2
  | true => exact q _ F1 H1 p1 o1 (.bl true)⟩
theorem ee_not {a : Bool} (h : EE M Γ ta (dt K (.bool a))) : EE M Γ (tNotV ta) (dt K (.bool (!a))) := fun F H σ en ok Q q => h F H σ en ok _ fun v F1 H1 p1 o1 r => ⟨a, dp_bl r, q _ F1 H1 p1 o1 (.bl _)⟩
theorem ee_if {t : TT} {a : Bool} (h : ETb M Γ t a) (h1 : a = true → EE M Γ ta m) (h2 : a = false → EE M Γ tb m) : EE M Γ (tIf t ta tb) m := fun F H σ en ok Q q => h F H σ en ok _ fun c F1 H1 p1 o1 e => by
  subst e
  cases c with
  | true =>
    show ta σ H1 Q
    exact h1 rfl F1 H1 σ (en.mono p1.fx) o1 Q fun b' F2 H2 p2 o2 e2 => q b' F2 H2 (p1.trans p2) o2 e2
  | false =>
    show tb σ H1 Q
    exact h2 rfl F1 H1 σ (en.mono p1.fx) o1 Q fun b' F2 H2 p2 o2 e2 => q b' F2 H2 (p1.trans p2) o2 e2
/-- a < b < c -/
theorem ee_chain {r r' : R2} {tc : TE} {ma mb mc : MP} {a b : Bool} (ha : EE M Γ ta ma) (hb : EE M Γ tb mb) (hc : EE M Γ tc mc)
    (h1 : ∀ F H x y, M.Ok F H → ma.R F x → mb.R F y → ∀ Q : VK, Q (.bl a) H → r x y H Q) (h2 : ∀ F H x y, M.Ok F H → mb.R F x → mc.R F y → ∀ Q : VK, Q (.bl b) H → r' x y H Q) : EE M Γ (tChain r r' ta tb tc) (dt K (.bool (a && b))) := fun F H σ en ok Q q =>
  ha F H σ en ok _ fun x F1 H1 p1 o1 r1 => hb F1 H1 σ (en.mono p1.fx) o1 _ fun y F2 H2 p2 o2 r2 => h1 F2 H2 x y o2 (ma.mono p2.fx r1) r2 _ ⟨a, rfl, by
    cases a with
    | true =>
      show tc σ H2 _
      exact hc F2 H2 σ ((en.mono p1.fx).mono p2.fx) o2 _ fun z F3 H3 p3 o3 r3 => h2 F3 H3 y z o3 (mb.mono p3.fx r2) r3 _ (q _ F3 H3 ((p1.trans p2).trans p3) o3 (.bl _))
    | false => exact q _ F2 H2 (p1.trans p2) o2 (.bl false)⟩
theorem rI0_le {i j : Int} : ∀ (F H : Hp) (x y : V), M.Ok F H → (dt K (.int i)).R F x → (dt K (.int j)).R F y → ∀ Q : VK, Q (.bl (decide (i ≤ j))) H → rI0 (fun i j => .bl (decide (i ≤ j))) x y H Q := fun F H x y _ hx hy Q q => ⟨i, j, dp_int hx, dp_int hy, q⟩
theorem rI0_lt {i j : Int} : ∀ (F H : Hp) (x y : V), M.Ok F H → (dt K (.int i)).R F x → (dt K (.int j)).R F y → ∀ Q : VK, Q (.bl (decide (i < j))) H → rI0 (fun i j => .bl (decide (i < j))) x y H Q := fun F H x y _ hx hy Q q => ⟨i, j, dp_int hx, dp_int hy, q⟩
end
end K46
/-! K46, part b: statements, loops, comprehensions, calls, promises. -/
namespace K46
open PySem L2
open Evl (Ex ex_l ex_t)
theorem Ex.new {F : Hp} {p : Addr} {o : HO} (hp : F p = none) : Ex F (upd F p o) := Evl.Ex.new hp

/-- a def's entry: its mode, the frozen part and the heap there -/
structure Zr where
  M : Mode
  F : Hp
  H : Hp
/-- where one stands: from the entry Z, in the mode M, the slots bear Γ -/
structure At (Z : Zr) (M : Mode) (Γ : Gm) (σ : St) (H : Hp) : Prop where
  ex : ∃ F, Pu Z.M.S Z.F Z.H F H ∧ M.Ok F H ∧ En F σ Γ
  sub : ∀ a, Z.M.S a → M.S a
  own : ∀ a, M.S a → Z.M.S a ∨ Z.H a = none
  iv : ∀ F H, M.I F H → Z.M.I F H
/-- a step in the mode M, seen from the entry -/
theorem Pu.out {Z : Zr} {M : Mode} {F H F' H' : Hp} (own : ∀ a, M.S a → Z.M.S a ∨ Z.H a = none) (a : Pu Z.M.S Z.F Z.H F H) (b : Pu M.S F H F' H') : Pu Z.M.S Z.F Z.H F' H' where
  hx := fun c o n h => b.hx c o (fun z => by
    rcases own c z with w | w
    · exact n w
    · rw [w] at h; cases h) (a.hx c o n h)
  fx := a.fx.trans b.fx
  nw := fun c o h => by
    rcases b.nw c o h with h1 | h1
    · exact a.nw c o h1
    · refine .inr ?_
      cases q : Z.H c with
      | none => rfl
      | some u =>
        obtain ⟨u', q'⟩ := a.al c u q
        rw [h1] at q'; cases q'
  al := fun c o h => let ⟨o', h'⟩ := a.al c o h; b.al c o' h'
theorem At.le {Z : Zr} {M : Mode} {Γ Δ : Gm} {σ : St} {H : Hp} (a : At Z M Γ σ H) (l : GmLe Γ Δ) : At Z M Δ σ H := ⟨let ⟨F, p, o, e⟩ := a.ex; ⟨F, p, o, e.le l⟩, a.sub, a.own, a.iv⟩
/-- a later place as a new entry -/
structure Zr.Le (Z Z' : Zr) : Prop where
  pu : Pu Z.M.S Z.F Z.H Z'.F Z'.H
  sub : ∀ a, Z.M.S a → Z'.M.S a
  own : ∀ a, Z'.M.S a → Z.M.S a ∨ Z.H a = none
  iv : ∀ F H, Z'.M.I F H → Z.M.I F H
theorem Mode.Ok.up {M N : Mode} {F H : Hp} (o : M.Ok F H) (sub : ∀ a, N.S a → M.S a) (iv : ∀ F H, M.I F H → N.I F H) : N.Ok F H := ⟨o.ex, fun b s => o.ds b (sub b s), fun b s => o.al b (sub b s), iv F H o.iv⟩
theorem At.base {Z Z' : Zr} {M : Mode} {Γ : Gm} {σ : St} {H : Hp} (l : Z.Le Z') (a : At Z' M Γ σ H) : At Z M Γ σ H where
  ex := let ⟨F, p, o, e⟩ := a.ex; ⟨F, Pu.out l.own l.pu p, o, e⟩
  sub := fun b s => a.sub b (l.sub b s)
  own := fun b s => by
    rcases a.own b s with z | z
    · exact l.own b z
    · refine .inr ?_
      cases q : Z.H b with
      | none => rfl
      | some u =>
        obtain ⟨u', q'⟩ := l.pu.al b u q
        rw [z] at q'; cases q'
  iv := fun F H q => l.iv F H (a.iv F H q)
theorem At.here {Z : Zr} {M : Mode} {Γ : Gm} {σ : St} {H : Hp} (a : At Z M Γ σ H) : ∃ F, Z.Le ⟨M, F, H⟩ ∧ At ⟨M, F, H⟩ M Γ σ H :=
  let ⟨F, p, o, e⟩ := a.ex
  ⟨F, ⟨p, a.sub, a.own, a.iv⟩, ⟨⟨F, .refl, o, e⟩, fun _ s => s, fun _ s => .inl s, fun _ _ q => q⟩⟩
/-- a slot is filled by what is known at the entry -/
theorem At.put {Z : Zr} {M : Mode} {Γ : Gm} {σ : St} {H : Hp} {m : MP} {v : V} {j : Nat} (a : At Z M Γ σ H) (h : m.R Z.F v) : At Z M (Γ.set j (some m)) (σ.set j (some v)) H :=
  ⟨let ⟨F, p, o, e⟩ := a.ex; ⟨F, p, o, e.set (m.mono p.fx h)⟩, a.sub, a.own, a.iv⟩
/-- the end's promise: m of what is returned -/
def RtOk (Z : Zr) (rt : V → Hp → Prop) (m : MP) : Prop := ∀ v F H, Pu Z.M.S Z.F Z.H F H → Z.M.Ok F H → m.R F v → rt v H
theorem RtOk.base {Z Z' : Zr} {rt : V → Hp → Prop} {m : MP} (h : RtOk Z rt m) (l : Z.Le Z') : RtOk Z' rt m := fun v F H p o r => h v F H (Pu.out l.own l.pu p) (o.up l.sub l.iv) r
theorem RtOk.imp {Z : Zr} {rt : V → Hp → Prop} {m m' : MP} (h : RtOk Z rt m) (k : ∀ F v, m'.R F v → m.R F v) : RtOk Z rt m' := fun v F H p o r => h v F H p o (k F v r)
abbrev SS (Z : Zr) (M : Mode) (Γ : Gm) (N : St → Hp → Prop) : Prop := ∀ σ H, At Z M Γ σ H → N σ H

theorem PM.append_one {F : Hp} {v : V} {m : MP} (h : m.R F v) : ∀ {vs : List V} {ms : List MP}, PM F vs ms → PM F (vs ++ [v]) (ms ++ [m])
  | _, _, .nil => .cons h .nil
  | _, _, .cons a t => .cons a (PM.append_one h t)
variable {K : PySem.W.Frag}
section
variable {Z : Zr} {M : Mode} {Γ Δ : Gm} {te : TE} {m : MP} {D : Ends} {t u z : TS} {tt : TT}
theorem At.step {σ σ' : St} {H F F' H' : Hp} (a : At Z M Γ σ H) (p : Pu Z.M.S Z.F Z.H F H) (q : Pu M.S F H F' H') (o : M.Ok F' H') (e : En F' σ' Δ) : At Z M Δ σ' H' := ⟨⟨F', p.out a.own q, o, e⟩, a.sub, a.own, a.iv⟩
theorem ss_le {N : St → Hp → Prop} (h : SS Z M Δ N) (l : GmLe Γ Δ) : SS Z M Γ N := fun σ H a => h σ H (a.le l)
theorem ss_base {Z' : Zr} {N : St → Hp → Prop} (h : SS Z M Γ N) (l : Z.Le Z') : SS Z' M Γ N := fun σ H a => h σ H (a.base l)
theorem ss_at : SS Z M Γ (At Z M Γ) := fun _ _ a => a
theorem ss_next (h : SS Z M Γ D.nx) : SS Z M Γ (tNext D) := h
theorem ss_cont (h : SS Z M Γ D.ct) : SS Z M Γ (tCont D) := h
theorem ss_seq (h : SS Z M Γ (t { D with nx := u D })) : SS Z M Γ (tSeq t u D) := h
theorem ss_set {i : Nat} (h : EE M Γ te m) (k : SS Z M (Γ.set i (some m)) D.nx) : SS Z M Γ (tAsg te (gName i) D) := fun σ H a => by
  obtain ⟨F, p, o, e⟩ := a.ex
  exact h F H σ e o _ fun v F' H' q o' r => k _ _ (a.step p q o' ((e.mono q.fx).set r))
theorem sq_set {i : Nat} (h : EE M Γ te m) (k : SS Z M (Γ.set i (some m)) (u D)) : SS Z M Γ (tSeq (tAsg te (gName i)) u D) := ss_set (D := { D with nx := u D }) h k
theorem ss_drop (h : EE M Γ te m) (k : SS Z M Γ D.nx) : SS Z M Γ (tDrop te D) := fun σ H a => by
  obtain ⟨F, p, o, e⟩ := a.ex
  exact h F H σ e o _ fun v F' H' q o' r => k _ _ (a.step p q o' (e.mono q.fx))
theorem sq_drop (h : EE M Γ te m) (k : SS Z M Γ (u D)) : SS Z M Γ (tSeq (tDrop te) u D) := ss_drop (D := { D with nx := u D }) h k
theorem ss_ret (h : EE M Γ te m) (k : RtOk Z D.rt m) : SS Z M Γ (tRet te D) := fun σ H a => by
  obtain ⟨F, p, o, e⟩ := a.ex
  exact h F H σ e o _ fun v F' H' q o' r => k v F' H' (p.out a.own q) (o'.up a.sub a.iv) r
theorem ss_nx {N : V → Hp → Prop} (h : RtOk Z N (dt K .none)) : SS Z M Γ (fun _ H' => N .non H') := fun σ H a => by
  obtain ⟨F, p, o, e⟩ := a.ex
  exact h .non F H p (o.up a.sub a.iv) .non
theorem ss_if {b : Bool} (h : ETb M Γ tt b) (h1 : b = true → SS Z M Γ (t D)) (h2 : b = false → SS Z M Γ (u D)) : SS Z M Γ (tIfS tt t u D) := fun σ H a => by
  obtain ⟨F, p, o, e⟩ := a.ex
  refine h F H σ e o _ fun c F' H' q o' r => ?_
  have a' : At Z M Γ σ H' := a.step p q o' (e.mono q.fx)
  subst r
  cases c with
  | true => exact h1 rfl σ H' a'
  | false => exact h2 rfl σ H' a'
theorem ss_ifN {P : Bool → Prop} (h : ET M Γ tt P) (h1 : P true → SS Z M Γ (t D)) (h2 : P false → SS Z M Γ (u D)) : SS Z M Γ (tIfS tt t u D) := fun σ H a => by
  obtain ⟨F, p, o, e⟩ := a.ex
  refine h F H σ e o _ fun c F' H' q o' r => ?_
  have a' : At Z M Γ σ H' := a.step p q o' (e.mono q.fx)
  cases c with
  | true => exact h1 r σ H' a'
  | false => exact h2 r σ H' a'
/-- an if, then the rest -/
theorem sq_if {b : Bool} (h : ETb M Γ tt b) (h1 : b = true → SS Z M Γ (t { D with nx := z D })) (h2 : b = false → SS Z M Γ (u { D with nx := z D })) : SS Z M Γ (tSeq (tIfS tt t u) z D) := ss_if (D := { D with nx := z D }) h h1 h2
/-- an if that is not taken, then the rest -/
theorem sq_no {b : Bool} (h : ETb M Γ tt b) (hb : b = false) (k : SS Z M Γ (z D)) : SS Z M Γ (tSeq (tIfS tt t tNext) z D) := sq_if h (fun e => by rw [hb] at e; cases e) fun _ => k
theorem ss_no {b : Bool} (h : ETb M Γ tt b) (hb : b = false) (k : SS Z M Γ D.nx) : SS Z M Γ (tIfS tt t tNext D) := ss_if h (fun e => by rw [hb] at e; cases e) fun _ => k

/-! ### lists and tuples of things -/
def lsM (K : PySem.W.Frag) (ms : List MP) : MP := ⟨fun F v => ∃ p xs, v = .ref p ∧ SqL K F p xs ∧ PM F xs ms, fun e ⟨p, xs, a, b, c⟩ => ⟨p, xs, a, ex_l e b, c.mono e⟩⟩
def tpM (K : PySem.W.Frag) (ms : List MP) : MP := ⟨fun F v => ∃ p xs, v = .ref p ∧ SqT K F p xs ∧ PM F xs ms, fun e ⟨p, xs, a, b, c⟩ => ⟨p, xs, a, ex_t e b, c.mono e⟩⟩
theorem lsM_of {F : Hp} {v : V} {ds : List PyData} (h : Dp K F v (.list ds)) : (lsM K (ds.map (dt K))).R F v := let ⟨a, xs, e, s, q⟩ := dp_lst h; ⟨a, xs, e, s, .ofData q⟩
theorem lsM_to {F : Hp} {v : V} {ds : List PyData} (h : (lsM K (ds.map (dt K))).R F v) : Dp K F v (.list ds) := by obtain ⟨a, xs, rfl, s, q⟩ := h; exact .lst s q.data
theorem tpM_of {F : Hp} {v : V} {ds : List PyData} (h : Dp K F v (.tuple ds)) : (tpM K (ds.map (dt K))).R F v := let ⟨a, xs, e, s, q⟩ := dp_tup h; ⟨a, xs, e, s, .ofData q⟩
theorem tpM_to {F : Hp} {v : V} {ds : List PyData} (h : (tpM K (ds.map (dt K))).R F v) : Dp K F v (.tuple ds) := by obtain ⟨a, xs, rfl, s, q⟩ := h; exact .tup s q.data
def anyM (E : MP → Prop) : MP := ⟨fun F v => ∃ m, E m ∧ m.R F v, fun e ⟨m, a, b⟩ => ⟨m, a, m.mono e b⟩⟩

theorem ee_tupM {t : TA} {ms : List MP} (h : EA M Γ t ms) (hl : ms.length ≤ 100000) : EE M Γ (tTup t) (tpM K ms) := fun F H σ en ok Q q =>
  h F H σ en ok _ fun vs F1 H1 p1 o1 r1 => by
    refine ⟨Evl.sz_of (by rw [r1.length]; exact hl), fun p hp => ?_⟩
    have pn : Pu0 F1 H1 (upd F1 p (.tup vs)) (upd H1 p (.tup vs)) := .new hp o1.ex
    exact q (.ref p) _ _ (p1.trans (pn.any M)) (o1.step pn (ex_upd o1.ex)) ⟨p, vs, rfl, SqT.of upd_same, r1.mono pn.fx⟩
theorem ee_lstM {t : TA} {ms : List MP} (h : EA M Γ t ms) (hl : ms.length ≤ 100000) : EE M Γ (tLst t) (lsM K ms) := fun F H σ en ok Q q =>
  h F H σ en ok _ fun vs F1 H1 p1 o1 r1 => by
    refine ⟨Evl.sz_of (by rw [r1.length]; exact hl), fun p hp => ?_⟩
    have pn : Pu0 F1 H1 (upd F1 p (.lst vs)) (upd H1 p (.lst vs)) := .new hp o1.ex
    exact q (.ref p) _ _ (p1.trans (pn.any M)) (o1.step pn (ex_upd o1.ex)) ⟨p, vs, rfl, SqL.of upd_same, r1.mono pn.fx⟩
theorem ee_ixTM {ta tb : TE} {ms : List MP} {i : Int} {j : Nat} (ha : EE M Γ ta (tpM K ms)) (hb : EE M Γ tb (dt K (.int i))) (hi : i = (j : Int)) (hd : ms[j]? = some m) : EE M Γ (tOp (rIx K) ta tb) m :=
  ee_opv ha hb fun F H x y ok hx hy Q q => by
    obtain ⟨a, xs, rfl, hs, hall⟩ := hx
    cases dp_int hy
    obtain ⟨v, hv, hdv⟩ := hall.get hd
    exact .inr (.inl ⟨a, xs, i, v, rfl, rfl, ex_t ok.ex hs, by rw [hi]; exact atI_nat hv, q v hdv⟩)
theorem ee_ixLM {ta tb : TE} {ms : List MP} {i : Int} {j : Nat} (ha : EE M Γ ta (lsM K ms)) (hb : EE M Γ tb (dt K (.int i))) (hi : i = (j : Int)) (hd : ms[j]? = some m) : EE M Γ (tOp (rIx K) ta tb) m :=
  ee_opv ha hb fun F H x y ok hx hy Q q => by
    obtain ⟨a, xs, rfl, hs, hall⟩ := hx
    cases dp_int hy
    obtain ⟨v, hv, hdv⟩ := hall.get hd
    exact .inl ⟨a, xs, i, v, rfl, rfl, ex_l ok.ex hs, by rw [hi]; exact atI_nat hv, q v hdv⟩

/-! ### loops -/
theorem ss_forR1 {ta : TA} {j : Nat} {n : Int} {tb : TS} (h : EA M Γ ta [dt K (.int n)]) (hn : -100000 ≤ n ∧ n ≤ 100000) (Pv : Nat → St → Hp → Prop) (h0 : SS Z M Γ (Pv 0))
    (hs : ∀ (i : Nat) σ H, (i : Int) < n → Pv i σ H → tb { D with nx := Pv (i + 1), ct := Pv (i + 1), bk := D.nx } (σ.set j (some (.int (i : Int)))) H) (hd : ∀ σ H, Pv n.toNat σ H → D.nx σ H) : SS Z M Γ (tFor (iRng1 ta) (gName j) tb D) := fun σ H a => by
  obtain ⟨F, p, o, e⟩ := a.ex
  refine h F H σ e o _ fun vs F' H' q o' r => ?_
  have a' : At Z M Γ σ H' := a.step p q o' (e.mono q.fx)
  cases r with
  | cons r1 r2 =>
    cases r2
    refine ⟨n, by rw [dp_int r1], by omega, by omega, for_range (lo := 0) (n := n.toNat) Pv (h0 σ H' a') (fun i σ2 H2 hi p2 => ?_) hd⟩
    have e0 : (0 : Int) + (i : Int) = (i : Int) := Int.zero_add _
    show tb _ (σ2.set j (some (.int ((0 : Int) + (i : Int))))) H2
    rw [e0]
    exact hs i σ2 H2 (by omega) p2
theorem ss_forR2 {ta : TA} {j : Nat} {lo n : Int} {tb : TS} (h : EA M Γ ta [dt K (.int lo), dt K (.int n)]) (hn : -100000 ≤ n ∧ n ≤ 100000 ∧ -100000 ≤ lo ∧ lo ≤ 100000) (Pv : Nat → St → Hp → Prop) (h0 : SS Z M Γ (Pv 0))
    (hs : ∀ (i : Nat) σ H, lo + (i : Int) < n → Pv i σ H → tb { D with nx := Pv (i + 1), ct := Pv (i + 1), bk := D.nx } (σ.set j (some (.int (lo + (i : Int))))) H) (hd : ∀ σ H, Pv (n - lo).toNat σ H → D.nx σ H) : SS Z M Γ (tFor (iRng2 ta) (gName j) tb D) := fun σ H a => by
  obtain ⟨F, p, o, e⟩ := a.ex
  refine h F H σ e o _ fun vs F' H' q o' r => ?_
  have a' : At Z M Γ σ H' := a.step p q o' (e.mono q.fx)
  cases r with
  | cons r1 r2 =>
    cases r2 with
    | cons r2 r3 =>
      cases r3
      exact ⟨lo, n, by rw [dp_int r1, dp_int r2], by omega, for_range (lo := lo) (n := (n - lo).toNat) Pv (h0 σ H' a') (fun i σ2 H2 hi p2 => hs i σ2 H2 (by omega) p2) hd⟩
/-- the common case: slots G i behind i turns -/
theorem ss_forG {ta : TA} {j : Nat} {n : Int} {tb : TS} (G : Nat → Gm) (h : EA M Γ ta [dt K (.int n)]) (hn : -100000 ≤ n ∧ n ≤ 100000) (h0 : GmLe Γ (G 0))
    (hs : ∀ i : Nat, (i : Int) < n → SS Z M ((G i).set j (some (dt K (.int (i : Int))))) (tb { D with nx := At Z M (G (i + 1)), ct := At Z M (G (i + 1)), bk := D.nx })) (hd : SS Z M (G n.toNat) D.nx) : SS Z M Γ (tFor (iRng1 ta) (gName j) tb D) :=
  ss_forR1 h hn (fun i => At Z M (G i)) (fun σ H a => a.le h0) (fun i σ H hi a => hs i hi _ _ (a.put (m := dt K (.int i)) (.int _))) hd
/-- over what is frozen -/
theorem ss_forL {tl : TE} {j : Nat} {ms : List MP} {tb : TS} (h : EE M Γ tl (lsM K ms)) (Pv : Zr → Nat → St → Hp → Prop) (hp : ∀ Z' i σ H, Pv Z' i σ H → ∃ M' Δ, At Z' M' Δ σ H) (h0 : ∀ Z', Z.Le Z' → SS Z' M Γ (Pv Z' 0))
    (hs : ∀ Z', Z.Le Z' → ∀ (i : Nat) m v σ H, ms[i]? = some m → m.R Z'.F v → Pv Z' i σ H → tb { D with nx := Pv Z' (i + 1), ct := Pv Z' (i + 1), bk := D.nx } (σ.set j (some v)) H) (hd : ∀ Z', Z.Le Z' → ∀ σ H, Pv Z' ms.length σ H → D.nx σ H) : SS Z M Γ (tFor (iList K tl) (gName j) tb D) := fun σ H a => by
  obtain ⟨F, p, o, e⟩ := a.ex
  refine h F H σ e o _ fun v F' H' q o' r => ?_
  have a' : At Z M Γ σ H' := a.step p q o' (e.mono q.fx)
  obtain ⟨ad, xs, rfl, hx, hall⟩ := r
  have le : Z.Le ⟨M, F', H'⟩ := ⟨p.out a.own q, a.sub, a.own, a.iv⟩
  have ah : At ⟨M, F', H'⟩ M Γ σ H' := ⟨⟨F', .refl, o', e.mono q.fx⟩, fun _ s => s, fun _ s => .inl s, fun _ _ w => w⟩
  refine ⟨ad, rfl, ⟨xs, ex_l o'.ex hx⟩, for_list (K := K) (a := ad) (xs := xs) (Pv ⟨M, F', H'⟩) (h0 _ le σ H' ah) (fun i σ2 H2 _ p2 => ?_) (fun i x σ2 H2 hi p2 => ?_) (fun σ2 H2 p2 => ?_)⟩
  · obtain ⟨M', Δ, b⟩ := hp _ _ _ _ p2
    obtain ⟨F2, q2, o2, _⟩ := b.ex
    exact ex_l (q2.fx.trans o2.ex) hx
  · have hl : i < ms.length := by rw [← hall.length]; exact (List.getElem?_eq_some_iff.mp hi).1
    obtain ⟨v, e1, e2⟩ := hall.get (List.getElem?_eq_getElem hl)
    rw [hi] at e1
    cases e1
    exact hs _ le i _ x σ2 H2 (List.getElem?_eq_getElem hl) e2 p2
  · rw [hall.length] at p2
    exact hd _ le σ2 H2 p2
theorem ss_forT {tl : TE} {j : Nat} {ms : List MP} {tb : TS} (h : EE M Γ tl (tpM K ms)) (Pv : Zr → Nat → St → Hp → Prop) (hp : ∀ Z' i σ H, Pv Z' i σ H → ∃ M' Δ, At Z' M' Δ σ H) (h0 : ∀ Z', Z.Le Z' → SS Z' M Γ (Pv Z' 0))
    (hs : ∀ Z', Z.Le Z' → ∀ (i : Nat) m v σ H, ms[i]? = some m → m.R Z'.F v → Pv Z' i σ H → tb { D with nx := Pv Z' (i + 1), ct := Pv Z' (i + 1), bk := D.nx } (σ.set j (some v)) H) (hd : ∀ Z', Z.Le Z' → ∀ σ H, Pv Z' ms.length σ H → D.nx σ H) : SS Z M Γ (tFor (iTup K tl) (gName j) tb D) := fun σ H a => by
  obtain ⟨F, p, o, e⟩ := a.ex
  refine h F H σ e o _ fun v F' H' q o' r => ?_
  have a' : At Z M Γ σ H' := a.step p q o' (e.mono q.fx)
  obtain ⟨ad, xs, rfl, hx, hall⟩ := r
  have le : Z.Le ⟨M, F', H'⟩ := ⟨p.out a.own q, a.sub, a.own, a.iv⟩
  have ah : At ⟨M, F', H'⟩ M Γ σ H' := ⟨⟨F', .refl, o', e.mono q.fx⟩, fun _ s => s, fun _ s => .inl s, fun _ _ w => w⟩
  refine ⟨ad, rfl, ⟨xs, ex_t o'.ex hx⟩, for_tup (K := K) (a := ad) (xs := xs) (Pv ⟨M, F', H'⟩) (h0 _ le σ H' ah) (fun i σ2 H2 _ p2 => ?_) (fun i x σ2 H2 hi p2 => ?_) (fun σ2 H2 p2 => ?_)⟩
  · obtain ⟨M', Δ, b⟩ := hp _ _ _ _ p2
    obtain ⟨F2, q2, o2, _⟩ := b.ex
    exact ex_t (q2.fx.trans o2.ex) hx
  · have hl : i < ms.length := by rw [← hall.length]; exact (List.getElem?_eq_some_iff.mp hi).1
    obtain ⟨v, e1, e2⟩ := hall.get (List.getElem?_eq_getElem hl)
    rw [hi] at e1
    cases e1
    exact hs _ le i _ x σ2 H2 (List.getElem?_eq_getElem hl) e2 p2
  · rw [hall.length] at p2
    exact hd _ le σ2 H2 p2
/-- the common case over a list, over a tuple: slots G i behind i turns -/
theorem ss_forLG {tl : TE} {j : Nat} {ms : List MP} {tb : TS} (G : Nat → Gm) (h : EE M Γ tl (lsM K ms)) (h0 : GmLe Γ (G 0))
    (hs : ∀ Z', Z.Le Z' → ∀ (i : Nat) m, ms[i]? = some m → SS Z' M ((G i).set j (some m)) (tb { D with nx := At Z' M (G (i + 1)), ct := At Z' M (G (i + 1)), bk := D.nx })) (hd : SS Z M (G ms.length) D.nx) : SS Z M Γ (tFor (iList K tl) (gName j) tb D) :=
  ss_forL h (fun Z' i => At Z' M (G i)) (fun _ _ _ _ a => ⟨_, _, a⟩) (fun Z' _ σ H a => a.le h0) (fun Z' le i m v σ H hi hv a => hs Z' le i m hi _ _ (a.put hv)) (fun Z' le σ H a => hd σ H (a.base le))
theorem ss_forTG {tl : TE} {j : Nat} {ms : List MP} {tb : TS} (G : Nat → Gm) (h : EE M Γ tl (tpM K ms)) (h0 : GmLe Γ (G 0))
    (hs : ∀ Z', Z.Le Z' → ∀ (i : Nat) m, ms[i]? = some m → SS Z' M ((G i).set j (some m)) (tb { D with nx := At Z' M (G (i + 1)), ct := At Z' M (G (i + 1)), bk := D.nx })) (hd : SS Z M (G ms.length) D.nx) : SS Z M Γ (tFor (iTup K tl) (gName j) tb D) :=
  ss_forT h (fun Z' i => At Z' M (G i)) (fun _ _ _ _ a => ⟨_, _, a⟩) (fun Z' _ σ H a => a.le h0) (fun Z' le i m v σ H hi hv a => hs Z' le i m hi _ _ (a.put hv)) (fun Z' le σ H a => hd σ H (a.base le))

/-! ### comprehensions -/
/-- the new list at D bears ms, of which P; at most i -/
def LcW (M : Mode) (F0 H0 Fb : Hp) (D : Addr) (P : List MP → Prop) (i : Nat) (H : Hp) : Prop := H0 D = none ∧ ∃ F acc ms, Pu M.S F0 H0 F H ∧ Ex Fb F ∧ M.Ok F H ∧ F D = none ∧ ¬ M.S D ∧ H D = some (.lst acc) ∧ acc.length ≤ i ∧ PM F acc ms ∧ P ms
theorem lcw_start {F0 H0 : Hp} {D : Addr} {P : List MP → Prop} (ok : M.Ok F0 H0) (hD : H0 D = none) (h0 : P []) : LcW M F0 H0 F0 D P 0 (upd H0 D (.lst [])) := by
  have pn : Pu0 F0 H0 F0 (upd H0 D (.lst [])) := .newH hD
  refine ⟨hD, F0, [], [], pn.any M, Ex.refl F0, ok.step pn (ex_updH ok.ex (free_of ok.ex hD)), free_of ok.ex hD, fun s => ?_, upd_same, Nat.le_refl _, .nil, h0⟩
  obtain ⟨o, q⟩ := ok.al D s
  rw [hD] at q; cases q
theorem lcw_end {F0 H0 Fb H : Hp} {D : Addr} {P : List MP → Prop} {n : Nat} {Q : VK} (h : LcW M F0 H0 Fb D P n H) (q : ∀ v F H, Pu M.S F0 H0 F H → M.Ok F H → (anyM fun m => ∃ ms, m = lsM K ms ∧ P ms).R F v → Q v H) : Q (.ref D) H := by
  obtain ⟨hD, F, acc, ms, p, _, ok, hF, hS, hH, _, pm, hP⟩ := h
  have e : Ex F (upd F D (.lst acc)) := Ex.new hF
  refine q (.ref D) (upd F D (.lst acc)) H ⟨p.hx, p.fx.trans e, fun a o w => ?_, p.al⟩ ⟨fun a o w => ?_, fun a s => ?_, ok.al, M.st e (fun _ _ _ q => q) ok.iv⟩ ⟨_, ⟨ms, rfl, hP⟩, D, acc, rfl, SqL.of upd_same, pm.mono e⟩
  · by_cases ha : a = D
    · subst ha; exact .inr hD
    · rw [upd_ne ha] at w; exact p.nw a o w
  · by_cases ha : a = D
    · subst ha; rw [upd_same] at w; rw [hH]; exact w
    · rw [upd_ne ha] at w; exact ok.ex a o w
  · by_cases ha : a = D
    · subst ha; exact absurd s hS
    · rw [upd_ne ha]; exact ok.ds a s
theorem lcw_turn {F0 H0 Fb H : Hp} {D : Addr} {P P' : List MP → Prop} {B : Bool → Prop} {E : MP → Prop} {i : Nat} {σ2 : St} (w : LcW M F0 H0 Fb D P i H) (hi : i < 50000) (hen : ∀ F, Ex Fb F → En F σ2 Δ) (ht : ET M Δ tt B) (he : B true → EE M Δ te (anyM E))
    (h1 : ∀ ms m, P ms → B true → E m → P' (ms ++ [m])) (h2 : ∀ ms, P ms → B false → P' ms) :
    tt σ2 H fun b H3 => if b = true then te σ2 H3 fun y H4 => ∃ acc, H4 D = some (.lst acc) ∧ acc.length < sizeLine ∧ LcW M F0 H0 Fb D P' (i + 1) (upd H4 D (.lst (acc ++ [y]))) else LcW M F0 H0 Fb D P' (i + 1) H3 := by
  obtain ⟨hD, F, acc, ms, p, fb, ok, hF, hS, hH, hl, pm, hP⟩ := w
  have keepD : ∀ {F' H'}, Pu M.S F H F' H' → F' D = none ∧ H' D = some (.lst acc) := fun {F' H'} q => by
    refine ⟨?_, q.hx D _ hS hH⟩
    cases z : F' D with
    | none => rfl
    | some o =>
      rcases q.nw D o z with y | y
      · rw [hF] at y; cases y
      · rw [hH] at y; cases y
  refine ht F H σ2 (hen F fb) ok _ fun b F3 H3 p3 o3 hb => ?_
  cases b with
  | false => exact ⟨hD, F3, acc, ms, p.trans p3, fb.trans p3.fx, o3, (keepD p3).1, hS, (keepD p3).2, by omega, pm.mono p3.fx, h2 ms hP hb⟩
  | true =>
    refine he hb F3 H3 σ2 (hen F3 (fb.trans p3.fx)) o3 _ fun y F4 H4 p4 o4 ⟨m, em, hy⟩ => ?_
    have p34 := p3.trans p4
    obtain ⟨k1, k2⟩ := keepD p34
    have pp := p.trans p34
    refine ⟨acc, k2, Evl.sz_lt (by omega), hD, F4, acc ++ [y], ms ++ [m], ⟨fun a o n h => ?_, pp.fx, pp.nw, fun a o h => ?_⟩, fb.trans p34.fx, ⟨ex_updH o4.ex k1, o4.ds, fun a s => ?_, M.st (Ex.refl F4) (fun a o s h => ?_) o4.iv⟩, k1, hS, upd_same, by rw [List.length_append]; show acc.length + 1 ≤ i + 1; omega, PM.append_one hy (pm.mono p34.fx), h1 ms m hP hb em⟩
    · rw [upd_ne (ne_of_none h hD)]; exact pp.hx a o n h
    · obtain ⟨o', h'⟩ := pp.al a o h
      exact ⟨o', by rw [upd_ne (ne_of_none h hD)]; exact h'⟩
    · obtain ⟨o', h'⟩ := o4.al a s
      have ne : a ≠ D := fun e => hS (by rw [← e]; exact s)
      exact ⟨o', by rw [upd_ne ne]; exact h'⟩
    · have ne : a ≠ D := fun e => hS (by rw [← e]; exact s)
      rw [upd_ne ne]; exact h
theorem wipe_set {j : Nat} {x : Option V} : ∀ {vs : List Nat} {σ : St}, j ∈ vs → wipe ((wipe σ vs).set j x) vs = wipe σ vs := by
  have key : ∀ (vs : List Nat) (σ τ : St), σ.length = τ.length → (∀ i, i ∉ vs → σ[i]? = τ[i]?) → wipe σ vs = wipe τ vs := by
    intro vs σ τ hl h
    apply List.ext_getElem?
    intro i
    have aux : ∀ (vs : List Nat) (σ : St) (i : Nat), (wipe σ vs)[i]? = if i ∈ vs then (if i < σ.length then some none else none) else σ[i]? := by
      intro vs
      induction vs with
      | nil => intro σ i; simp [wipe]
      | cons v vs ih =>
        intro σ i
        unfold wipe
        by_cases hv : v = i
        · subst hv
          by_cases hl : v < σ.length
          · rw [List.getElem?_set_self (by rw [wipe_length]; exact hl)]; simp [hl]
          · rw [List.getElem?_eq_none (by simp [wipe_length]; omega)]; simp [hl]
        · rw [List.getElem?_set_ne hv, ih]
          have : i ≠ v := fun e => hv e.symm
          simp [this]
    rw [aux, aux, hl]
    by_cases hi : i ∈ vs
    · simp [hi]
    · simp [hi, h i hi]
  intro vs σ hj
  refine key vs _ _ (by simp [wipe_length]) fun i hi => ?_
  have hji : j ≠ i := fun e => hi (e ▸ hj)
  rw [List.getElem?_set_ne hji]
  induction vs with
  | nil => rfl
  | cons v vs ih =>
    have hvi : v ≠ i := fun e => hi (by simp [e])
    unfold wipe
    rw [List.getElem?_set_ne hvi]
    by_cases hjv : j ∈ vs
    · exact ih hjv fun z => hi (by simp [z])
    · exact wipe_out fun z => hi (by simp [z])
/-- over range(n): every turn's item, test, element -/
theorem ee_lcR1N {ta : TA} {j : Nat} {vs : List Nat} {n : Int} {P : Nat → List MP → Prop} {B : Nat → Bool → Prop} {E : Nat → MP → Prop} (h : EA M Γ ta [dt K (.int n)]) (hn : n ≤ 40000 ∧ -40000 ≤ n) (hj : j ∈ vs) (h0 : P 0 [])
    (ht : ∀ i : Nat, (i : Int) < n → ET M ((wipeG Γ vs).set j (some (dt K (.int (i : Int))))) tt (B i)) (he : ∀ i : Nat, (i : Int) < n → B i true → EE M ((wipeG Γ vs).set j (some (dt K (.int (i : Int))))) te (anyM (E i)))
    (h1 : ∀ (i : Nat) ms m, (i : Int) < n → P i ms → B i true → E i m → P (i + 1) (ms ++ [m])) (h2 : ∀ (i : Nat) ms, (i : Int) < n → P i ms → B i false → P (i + 1) ms) : EE M Γ (tLc (iRng1 ta) (gName j) tt te vs) (anyM fun m => ∃ ms, m = lsM K ms ∧ P n.toNat ms) := fun F H σ en ok Q q =>
  h F H σ en ok _ fun ws F1 H1 p1 o1 r1 => by
    cases r1 with
    | cons r1 r2 =>
      cases r2
      refine ⟨n, by rw [dp_int r1], by omega, by omega, fun D hD => ?_⟩
      refine lc_range (lo := 0) (n := n.toNat) (fun i => LcW M F1 H1 F1 D (P i) i) (lcw_start o1 hD h0) (fun i H' hi w => ?_) (fun H' w => lcw_end w fun v F2 H2 p2 o2 r => q v F2 H2 (p1.trans p2) o2 r)
      have e0 : (0 : Int) + (i : Int) = (i : Int) := Int.zero_add _
      have hi' : (i : Int) < n := by omega
      show wipe ((wipe σ vs).set j (some (.int ((0 : Int) + (i : Int))))) vs = wipe σ vs ∧ tt ((wipe σ vs).set j (some (.int ((0 : Int) + (i : Int))))) H' _
      rw [e0]
      exact ⟨wipe_set hj, lcw_turn w (by omega) (fun F2 e2 => (((en.mono p1.fx).mono e2).wipe vs).set (m := dt K (.int i)) (.int _)) (ht i hi') (he i hi') (fun ms m => h1 i ms m hi') (fun ms => h2 i ms hi')⟩
theorem ee_lcR2N {ta : TA} {j : Nat} {vs : List Nat} {lo n : Int} {P : Nat → List MP → Prop} {B : Nat → Bool → Prop} {E : Nat → MP → Prop} (h : EA M Γ ta [dt K (.int lo), dt K (.int n)]) (hn : n ≤ 40000 ∧ -40000 ≤ n ∧ 0 ≤ lo ∧ lo ≤ 40000) (hj : j ∈ vs) (h0 : P 0 [])
    (ht : ∀ i : Nat, lo + (i : Int) < n → ET M ((wipeG Γ vs).set j (some (dt K (.int (lo + (i : Int)))))) tt (B i)) (he : ∀ i : Nat, lo + (i : Int) < n → B i true → EE M ((wipeG Γ vs).set j (some (dt K (.int (lo + (i : Int)))))) te (anyM (E i)))
    (h1 : ∀ (i : Nat) ms m, lo + (i : Int) < n → P i ms → B i true → E i m → P (i + 1) (ms ++ [m])) (h2 : ∀ (i : Nat) ms, lo + (i : Int) < n → P i ms → B i false → P (i + 1) ms) : EE M Γ (tLc (iRng2 ta) (gName j) tt te vs) (anyM fun m => ∃ ms, m = lsM K ms ∧ P (n - lo).toNat ms) := fun F H σ en ok Q q =>
  h F H σ en ok _ fun ws F1 H1 p1 o1 r1 => by
    cases r1 with
    | cons r1 r2 =>
      cases r2 with
      | cons r2 r3 =>
        cases r3
        refine ⟨lo, n, by rw [dp_int r1, dp_int r2], by omega, fun D hD => ?_⟩
        refine lc_range (lo := lo) (n := (n - lo).toNat) (fun i => LcW M F1 H1 F1 D (P i) i) (lcw_start o1 hD h0) (fun i H' hi w => ?_) (fun H' w => lcw_end w fun v F2 H2 p2 o2 r => q v F2 H2 (p1.trans p2) o2 r)
        have hi' : lo + (i : Int) < n := by omega
        exact ⟨wipe_set hj, lcw_turn w (by omega) (fun F2 e2 => (((en.mono p1.fx).mono e2).wipe vs).set (m := dt K (.int (lo + (i : Int)))) (.int _)) (ht i hi') (he i hi') (fun ms m => h1 i ms m hi') (fun ms => h2 i ms hi')⟩
theorem ee_lcLN {tl : TE} {j : Nat} {vs : List Nat} {ns : List MP} {P : Nat → List MP → Prop} {B : Nat → Bool → Prop} {E : Nat → MP → Prop} (h : EE M Γ tl (lsM K ns)) (hn : ns.length ≤ 40000) (hj : j ∈ vs) (h0 : P 0 [])
    (ht : ∀ (i : Nat) x, ns[i]? = some x → ET M ((wipeG Γ vs).set j (some x)) tt (B i)) (he : ∀ (i : Nat) x, ns[i]? = some x → B i true → EE M ((wipeG Γ vs).set j (some x)) te (anyM (E i)))
    (h1 : ∀ (i : Nat) ms m, i < ns.length → P i ms → B i true → E i m → P (i + 1) (ms ++ [m])) (h2 : ∀ (i : Nat) ms, i < ns.length → P i ms → B i false → P (i + 1) ms) : EE M Γ (tLc (iList K tl) (gName j) tt te vs) (anyM fun m => ∃ ms, m = lsM K ms ∧ P ns.length ms) := fun F H σ en ok Q q =>
  h F H σ en ok _ fun v F1 H1 p1 o1 ⟨a, xs, e, hx, hall⟩ => by
    subst e
    refine ⟨a, rfl, ⟨xs, ex_l o1.ex hx⟩, fun D hD => ?_⟩
    refine lc_list (xs := xs) (fun i => LcW M F1 H1 F1 D (P i) i) (lcw_start o1 hD h0) (fun i H' hi ⟨_, F2, _, _, p2, _, o2, _⟩ => ex_l (p2.fx.trans o2.ex) hx) (fun i x H' hi w => ?_) (fun H' w => lcw_end (n := ns.length) (by rw [← hall.length]; exact w) fun v F2 H2 p2 o2 r => q v F2 H2 (p1.trans p2) o2 r)
    have hl : i < ns.length := by rw [← hall.length]; exact (List.getElem?_eq_some_iff.mp hi).1
    have hg := List.getElem?_eq_getElem hl
    obtain ⟨v, e1, e2⟩ := hall.get hg
    rw [hi] at e1
    cases e1
    exact ⟨wipe_set hj, lcw_turn w (by omega) (fun F2 e2' => (((en.mono p1.fx).mono e2').wipe vs).set (MP.mono _ e2' e2)) (ht i _ hg) (he i _ hg) (fun ms m => h1 i ms m hl) (fun ms => h2 i ms hl)⟩
theorem ee_lcTN {tl : TE} {j : Nat} {vs : List Nat} {ns : List MP} {P : Nat → List MP → Prop} {B : Nat → Bool → Prop} {E : Nat → MP → Prop} (h : EE M Γ tl (tpM K ns)) (hn : ns.length ≤ 40000) (hj : j ∈ vs) (h0 : P 0 [])
    (ht : ∀ (i : Nat) x, ns[i]? = some x → ET M ((wipeG Γ vs).set j (some x)) tt (B i)) (he : ∀ (i : Nat) x, ns[i]? = some x → B i true → EE M ((wipeG Γ vs).set j (some x)) te (anyM (E i)))
    (h1 : ∀ (i : Nat) ms m, i < ns.length → P i ms → B i true → E i m → P (i + 1) (ms ++ [m])) (h2 : ∀ (i : Nat) ms, i < ns.length → P i ms → B i false → P (i + 1) ms) : EE M Γ (tLc (iTup K tl) (gName j) tt te vs) (anyM fun m => ∃ ms, m = lsM K ms ∧ P ns.length ms) := fun F H σ en ok Q q =>
  h F H σ en ok _ fun v F1 H1 p1 o1 ⟨a, xs, e, hx, hall⟩ => by
    subst e
    refine ⟨a, rfl, ⟨xs, ex_t o1.ex hx⟩, fun D hD => ?_⟩
    refine lc_tup (xs := xs) (fun i => LcW M F1 H1 F1 D (P i) i) (lcw_start o1 hD h0) (fun i H' hi ⟨_, F2, _, _, p2, _, o2, _⟩ => ex_t (p2.fx.trans o2.ex) hx) (fun i x H' hi w => ?_) (fun H' w => lcw_end (n := ns.length) (by rw [← hall.length]; exact w) fun v F2 H2 p2 o2 r => q v F2 H2 (p1.trans p2) o2 r)
    have hl : i < ns.length := by rw [← hall.length]; exact (List.getElem?_eq_some_iff.mp hi).1
    have hg := List.getElem?_eq_getElem hl
    obtain ⟨v, e1, e2⟩ := hall.get hg
    rw [hi] at e1
    cases e1
    exact ⟨wipe_set hj, lcw_turn w (by omega) (fun F2 e2' => (((en.mono p1.fx).mono e2').wipe vs).set (MP.mono _ e2' e2)) (ht i _ hg) (he i _ hg) (fun ms m => h1 i ms m hl) (fun ms => h2 i ms hl)⟩
/-- the deterministic forms: no test, element i bears f i -/
theorem et_yes : ETb M Γ tYes true := fun F H σ en ok Q q => q true F H .refl ok rfl
theorem range_snoc {α : Type} (f : Nat → α) (i : Nat) : (List.range (i + 1)).map f = (List.range i).map f ++ [f i] := by rw [List.range_succ, List.map_append]; rfl
theorem ee_lcR1 {ta : TA} {j : Nat} {vs : List Nat} {n : Int} (f : Nat → MP) (h : EA M Γ ta [dt K (.int n)]) (hn : n ≤ 40000 ∧ -40000 ≤ n) (hj : j ∈ vs)
    (he : ∀ i : Nat, (i : Int) < n → EE M ((wipeG Γ vs).set j (some (dt K (.int (i : Int))))) te (f i)) : EE M Γ (tLc (iRng1 ta) (gName j) tYes te vs) (lsM K ((List.range n.toNat).map f)) :=
  ee_imp (ee_lcR1N (P := fun i ms => ms = (List.range i).map f) (B := fun _ b => b = true) (E := fun i m => m = f i) h hn hj rfl (fun _ _ => et_yes) (fun i hi _ => ee_imp (he i hi) fun _ _ r => ⟨_, rfl, r⟩)
    (fun i ms m _ e _ e2 => by rw [e, e2, range_snoc]) (fun i ms _ _ e => by cases e)) fun F v ⟨m, ⟨ms, e1, e2⟩, r⟩ => by subst e1; subst e2; exact r
theorem ee_lcR1D {ta : TA} {j : Nat} {vs : List Nat} {n : Int} (f : Nat → PyData) (h : EA M Γ ta [dt K (.int n)]) (hn : n ≤ 40000 ∧ -40000 ≤ n) (hj : j ∈ vs)
    (he : ∀ i : Nat, (i : Int) < n → EE M ((wipeG Γ vs).set j (some (dt K (.int (i : Int))))) te (dt K (f i))) : EE M Γ (tLc (iRng1 ta) (gName j) tYes te vs) (dt K (.list ((List.range n.toNat).map f))) :=
  ee_imp (ee_lcR1 (fun i => dt K (f i)) h hn hj he) fun F v r => lsM_to (by rw [List.map_map]; exact r)
theorem map_take_snoc {α β : Type} {f : α → β} {l : List α} {i : Nat} {x : α} (h : l[i]? = some x) : (l.take (i + 1)).map f = (l.take i).map f ++ [f x] := by
  rw [List.take_succ, h, List.map_append]; rfl
/-- over a list of data -/
theorem ee_lcLD {tl : TE} {j : Nat} {vs : List Nat} {ds : List PyData} (f : PyData → PyData) (h : EE M Γ tl (dt K (.list ds))) (hn : ds.length ≤ 40000) (hj : j ∈ vs)
    (he : ∀ (i : Nat) d, ds[i]? = some d → EE M ((wipeG Γ vs).set j (some (dt K d))) te (dt K (f d))) : EE M Γ (tLc (iList K tl) (gName j) tYes te vs) (dt K (.list (ds.map f))) :=
  ee_imp (ee_lcLN (ns := ds.map (dt K)) (P := fun i ms => ms = (ds.take i).map fun d => dt K (f d)) (B := fun _ b => b = true) (E := fun i m => ∃ d, ds[i]? = some d ∧ m = dt K (f d)) (ee_imp h fun _ _ r => lsM_of r) (by simpa using hn) hj rfl (fun _ _ _ => et_yes)
    (fun i x hx _ => by
      rw [List.getElem?_map] at hx
      cases e : ds[i]? with
      | none => rw [e] at hx; cases hx
      | some d =>
        rw [e] at hx
        cases hx
        exact ee_imp (he i d e) fun _ _ r => ⟨_, ⟨d, rfl, rfl⟩, r⟩)
    (fun i ms m _ e _ ⟨d, e2, e3⟩ => by rw [e, e3, map_take_snoc e2]) (fun i ms _ _ e => by cases e)) fun F v ⟨m, ⟨ms, e1, e2⟩, r⟩ => by
      subst e1; subst e2
      rw [List.length_map, List.take_length] at r
      exact lsM_to (by rw [List.map_map]; exact r)
theorem ee_lcTD {tl : TE} {j : Nat} {vs : List Nat} {ds : List PyData} (f : PyData → PyData) (h : EE M Γ tl (dt K (.tuple ds))) (hn : ds.length ≤ 40000) (hj : j ∈ vs)
    (he : ∀ (i : Nat) d, ds[i]? = some d → EE M ((wipeG Γ vs).set j (some (dt K d))) te (dt K (f d))) : EE M Γ (tLc (iTup K tl) (gName j) tYes te vs) (dt K (.list (ds.map f))) :=
  ee_imp (ee_lcTN (ns := ds.map (dt K)) (P := fun i ms => ms = (ds.take i).map fun d => dt K (f d)) (B := fun _ b => b = true) (E := fun i m => ∃ d, ds[i]? = some d ∧ m = dt K (f d)) (ee_imp h fun _ _ r => tpM_of r) (by simpa using hn) hj rfl (fun _ _ _ => et_yes)
    (fun i x hx _ => by
      rw [List.getElem?_map] at hx
      cases e : ds[i]? with
      | none => rw [e] at hx; cases hx
      | some d =>
        rw [e] at hx
        cases hx
        exact ee_imp (he i d e) fun _ _ r => ⟨_, ⟨d, rfl, rfl⟩, r⟩)
    (fun i ms m _ e _ ⟨d, e2, e3⟩ => by rw [e, e3, map_take_snoc e2]) (fun i ms _ _ e => by cases e)) fun F v ⟨m, ⟨ms, e1, e2⟩, r⟩ => by
      subst e1; subst e2
      rw [List.length_map, List.take_length] at r
      exact lsM_to (by rw [List.map_map]; exact r)
theorem yes_go {A B : Hp → Prop} {σ : St} {H : Hp} (h : A H) : tYes σ H (fun b H3 => if b = true then A H3 else B H3) := by
  show (if true = true then A H else B H)
  rw [if_pos rfl]
  exact h
/-- [e for x in t for y in x], t a tuple of tuples: every element bears E -/
theorem ee_lc2T {tl ti : TE} {j j1 : Nat} {vs vs1 : List Nat} {dss : List (List PyData)} {E : MP → Prop} {B : Nat} (h : EE M Γ tl (dt K (.tuple (dss.map .tuple)))) (hn : dss.length ≤ 200) (hB : B ≤ 200) (hl : ∀ ds ∈ dss, ds.length ≤ B) (hj : j ∈ vs) (hj1 : j1 ∈ vs1)
    (hi : ∀ (i : Nat) ds, dss[i]? = some ds → EE M ((wipeG Γ vs).set j (some (dt K (.tuple ds)))) ti (dt K (.tuple ds)))
    (he : ∀ (i k : Nat) ds d, dss[i]? = some ds → ds[k]? = some d → EE M ((wipeG ((wipeG Γ vs).set j (some (dt K (.tuple ds)))) vs1).set j1 (some (dt K d))) te (anyM E)) : EE M Γ (tLc2 (iTup K tl) (gName j) tYes (iTup K ti) (gName j1) tYes te vs vs1) (anyM fun m => ∃ ms, m = lsM K ms ∧ ∀ x ∈ ms, E x) := fun F H σ en ok Q q =>
  h F H σ en ok _ fun v F1 H1 p1 o1 r1 => by
    obtain ⟨a, xs, e, hx, hall⟩ := dp_tup r1
    subst e
    refine ⟨a, rfl, ⟨xs, ex_t o1.ex hx⟩, fun D hD => ?_⟩
    have hlen : xs.length = dss.length := by rw [dpAll_length hall, List.length_map]
    refine ⟨fun i m H => m = dss.length - i ∧ i ≤ dss.length ∧ LcW M F1 H1 F1 D (fun ms => ∀ x ∈ ms, E x) (i * B) H, ⟨dss.length, rfl, Nat.zero_le _, by rw [Nat.zero_mul]; exact lcw_start o1 hD (by simp)⟩, ?_⟩
    rintro i m H2 ⟨rfl, hil, w⟩
    obtain ⟨hD0, F2, acc, ms, p2, _, o2, kF, kS, kH, kl, pm, kP⟩ := id w
    have hx2 : SqT K H2 a xs := ex_t (p2.fx.trans o2.ex) hx
    by_cases hlt : i < dss.length
    · have hg : dss[i]? = some dss[i] := List.getElem?_eq_getElem hlt
      obtain ⟨v, hv, hd⟩ := dpAll_get hall (i := i) (d := .tuple dss[i]) (by rw [List.getElem?_map, hg]; rfl)
      refine .inr ⟨⟨xs, xs[i]'(by omega), hx2, by rw [List.getElem?_eq_getElem (by omega)]⟩, LcW M F1 H1 F1 D (fun ms => ∀ x ∈ ms, E x) ((i + 1) * B), fun H' w' => ⟨dss.length - (i + 1), by omega, rfl, hlt, w'⟩, fun x H' y => ?_⟩
      obtain ⟨e, y⟩ := y
      subst e
      have hy := y xs hx2
      rw [hv] at hy
      cases hy
      refine ⟨wipe_set hj, ?_⟩
      refine yes_go ?_
      have en2 : ∀ F', Ex F1 F' → En F' ((wipe σ vs).set j (some v)) ((wipeG Γ vs).set j (some (dt K (.tuple dss[i])))) := fun F' e' => (((en.mono p1.fx).mono e').wipe vs).set (m := dt K (.tuple dss[i])) (dp_mono e' hd)
      refine hi i _ hg F2 _ _ (en2 F2 p2.fx) o2 _ fun v3 F3 H3 p3 o3 r3 => ?_
      obtain ⟨a3, ys, e3, hy3, hall3⟩ := dp_tup r3
      subst e3
      have hlen3 : ys.length = dss[i].length := dpAll_length hall3
      have hB3 : dss[i].length ≤ B := hl _ (List.getElem_mem hlt)
      have kF3 : F3 D = none := by
        cases z : F3 D with
        | none => rfl
        | some o =>
          rcases p3.nw D o z with y | y
          · rw [kF] at y; cases y
          · rw [kH] at y; cases y
      have hiB : (i + 1) * B = i * B + B := Nat.succ_mul i B
      have hiB2 : (i + 1) * B ≤ 40000 := Nat.le_trans (Nat.mul_le_mul (by omega : i + 1 ≤ 200) hB) (by omega)
      refine ⟨a3, rfl, ⟨ys, ex_t o3.ex hy3⟩, fun k m H => m = dss[i].length - k ∧ k ≤ dss[i].length ∧ LcW M F1 H1 F3 D (fun ms => ∀ x ∈ ms, E x) (i * B + k) H, ⟨dss[i].length, rfl, Nat.zero_le _, hD0, F3, acc, ms, p2.trans p3, Ex.refl F3, o3, kF3, kS, p3.hx D _ kS kH, kl, pm.mono p3.fx, kP⟩, ?_⟩
      rintro k m H4 ⟨rfl, hkl, w4⟩
      obtain ⟨_, F4, acc4, ms4, p4, x4, o4, kF4, kS4, kH4, kl4, pm4, kP4⟩ := id w4
      have hy4 : SqT K H4 a3 ys := ex_t (x4.trans o4.ex) hy3
      by_cases hkt : k < dss[i].length
      · have hgk : dss[i][k]? = some dss[i][k] := List.getElem?_eq_getElem hkt
        obtain ⟨u, hu, hd3⟩ := dpAll_get hall3 hgk
        refine .inr ⟨⟨ys, ys[k]'(by omega), hy4, by rw [List.getElem?_eq_getElem (by omega)]⟩, LcW M F1 H1 F3 D (fun ms => ∀ x ∈ ms, E x) (i * B + (k + 1)), fun H' w' => ⟨dss[i].length - (k + 1), by omega, rfl, hkt, w'⟩, fun x H' y => ?_⟩
        obtain ⟨e, y⟩ := y
        subst e
        have hy := y ys hy4
        rw [hu] at hy
        cases hy
        refine ⟨wipe_set hj1, ?_⟩
        have hb5 : i * B + k < 50000 := by omega
        exact lcw_turn (i := i * B + k) w4 hb5 (fun F5 e5 => ((((en2 F5 (p2.fx.trans (p3.fx.trans e5))).wipe vs1)).set (m := dt K dss[i][k]) (dp_mono e5 hd3))) et_yes (fun _ => he i k _ _ hg hgk) (fun ms m hP _ hE x hx => by
          rcases List.mem_append.mp hx with h | h
          · exact hP x h
          · rw [List.mem_singleton.mp h]; exact hE) (fun ms hP _ => hP)
      · have e : k = dss[i].length := by omega
        refine .inl ⟨⟨ys, hy4, by omega⟩, ?_⟩
        exact ⟨hD0, F4, acc4, ms4, p4, p2.fx.trans (p3.fx.trans x4), o4, kF4, kS4, kH4, by omega, pm4, kP4⟩
    · have e : i = dss.length := by omega
      subst e
      refine .inl ⟨⟨xs, hx2, by omega⟩, lcw_end w fun v F2 H2 p2 o2 r => q v F2 H2 (p1.trans p2) o2 r⟩
end
end K46
/-! K46, part c: promises, calls, instances, built-ins. -/
namespace K46
open PySem L2
open Evl (Ex ex_l ex_t)

/-! ### promises -/
/-- called with what bears Rs, in the mode M: what comes back bears R -/
def spM (Rel : Mode → List MP → MP → Prop) : Sp := fun vs H Q _ => ∃ M F Rs R, Mode.Ok M F H ∧ PM F vs Rs ∧ Rel M Rs R ∧ ∀ v F' H', Pu M.S F H F' H' → M.Ok F' H' → R.R F' v → Q v H'
/-- .. that changes nothing -/
def spP (Rel : List MP → MP → Prop) : Sp := spM fun M Rs R => M = pu ∧ Rel Rs R
/-- an __init__ of the class at C: the new instance bears fs -/
abbrev Fs := List (Str × MP)
inductive PF (F : Hp) : List (Str × V) → Fs → Prop
  | nil : PF F [] []
  | cons {x : Str} {v : V} {m : MP} {vs : List (Str × V)} {ms : Fs} : m.R F v → PF F vs ms → PF F ((x, v) :: vs) ((x, m) :: ms)
theorem PF.mono {F F' : Hp} (e : Ex F F') : ∀ {vs : List (Str × V)} {ms : Fs}, PF F vs ms → PF F' vs ms
  | _, _, .nil => .nil
  | _, _, .cons h t => .cons (MP.mono _ e h) (t.mono e)
theorem PF.length {F : Hp} : ∀ {vs : List (Str × V)} {ms : Fs}, PF F vs ms → vs.length = ms.length
  | _, _, .nil => rfl
  | _, _, .cons _ t => congrArg (· + 1) t.length
theorem PF.look {F : Hp} {f : Str} : ∀ {vs : List (Str × V)} {ms : Fs} {m : MP}, PF F vs ms → ms.lookup f = some m → ∃ v, vs.lookup f = some v ∧ m.R F v
  | _, _, m, .nil, e => by cases e
  | _, _, m, .cons (x := x) h t, e => by
    rw [List.lookup_cons] at e ⊢
    cases q : f == x with
    | true =>
      rw [q] at e
      exact ⟨_, rfl, by cases e; exact h⟩
    | false =>
      rw [q] at e
      exact PF.look t e
theorem PF.none {F : Hp} {f : Str} : ∀ {vs : List (Str × V)} {ms : Fs}, PF F vs ms → ms.lookup f = Option.none → vs.lookup f = Option.none
  | _, _, .nil, e => rfl
  | _, _, .cons (x := x) h t, e => by
    rw [List.lookup_cons] at e ⊢
    cases q : f == x with
    | true =>
      rw [q] at e
      cases e
    | false =>
      rw [q] at e
      exact PF.none t e
def putM (f : Str) (m : MP) : Fs → Fs
  | [] => [(f, m)]
  | p :: r => if p.1 = f then (f, m) :: r else p :: putM f m r
theorem PF.put {F : Hp} {f : Str} {v : V} {m : MP} (h : m.R F v) : ∀ {vs : List (Str × V)} {ms : Fs}, PF F vs ms → PF F (putF f v vs) (putM f m ms)
  | _, _, .nil => .cons h .nil
  | _, _, .cons (x := x) a t => by
    unfold putF putM
    by_cases e : x = f
    · subst e; rw [if_pos rfl, if_pos rfl]; exact .cons h t
    · rw [if_neg e, if_neg e]; exact .cons a (PF.put h t)
def insM (C : Addr) (fs : Fs) : MP := ⟨fun F v => ∃ p dx vs, v = .ref p ∧ F p = some (.ins C dx vs) ∧ PF F vs fs, fun e ⟨p, dx, vs, a, b, c⟩ => ⟨p, dx, vs, a, e p _ b, c.mono e⟩⟩
def spI (C : Addr) (Rel : List MP → Fs → Prop) : Sp := fun vs H Q _ => ∃ x dx F ws Rs fs, vs = .ref x :: ws ∧ H x = some (.ins C dx []) ∧ F x = none ∧ Ex F H ∧ PM F ws Rs ∧ Rel Rs fs ∧
  ∀ F' H' dx' vf, Pu (fun a => a = x) F H F' H' → Ex F' H' → F' x = none → H' x = some (.ins C dx' vf) → PF F' vf fs → Q .non H'

/-- a def that stands in the module and keeps its promise -/
structure Cal (P : Program) (w : World) (K : PySem.W.Frag) (mg : Str → Option Value) (base : Heap) (k : Nat) (x : Str) (ps : List Str) (sp : Sp) : Prop where
  ex : ∃ f fd, mg x = some (.ref f) ∧ PySem.W.keepIn K (.ref f) = true ∧ Binds K fd ps [] ∧ FnOk P w K mg base CX0 k f fd ps sp
/-- a method of the class at C -/
structure CalM (P : Program) (w : World) (K : PySem.W.Frag) (mg : Str → Option Value) (base : Heap) (k : Nat) (C : Addr) (x : Str) (ps : List Str) (sp : Sp) : Prop where
  cl : Cls K C
  ex : ∃ f fd, Meth K C x f ∧ Binds K fd ps [] ∧ FnOk P w K mg base CX0 k f fd ps sp
/-- the making of an instance -/
structure CalC (P : Program) (w : World) (K : PySem.W.Frag) (mg : Str → Option Value) (base : Heap) (k : Nat) (C : Addr) (x : Str) (ps : List Str) (sp : Sp) : Prop where
  mc : mg x = some (.ref C)
  ex : ∃ f fd, Mk K C f ∧ Binds K fd ps [] ∧ FnOk P w K mg base CX0 k f fd ps sp
section
variable {P : Program} {w : World} {K : PySem.W.Frag} {mg : Str → Option Value} {base : Heap} {k : Nat} {x qual : Str} {ps N : List Str} {sp : Sp} {st : Stmt}
theorem Cal.imp {sp' : Sp} (c : Cal P w K mg base k x ps sp) (h : ∀ vs H Q E, sp' vs H Q E → sp vs H Q E) : Cal P w K mg base k x ps sp' := let ⟨f, fd, a, b, d, e⟩ := c.ex; ⟨f, fd, a, b, d, e.imp h⟩
theorem Cal.up {j : Nat} (c : Cal P w K mg base j x ps sp) (h : j ≤ k) : Cal P w K mg base k x ps sp := let ⟨f, fd, a, b, d, e⟩ := c.ex; ⟨f, fd, a, b, d, e.mono h⟩
theorem CalM.up {C : Addr} {j : Nat} (c : CalM P w K mg base j C x ps sp) (h : j ≤ k) : CalM P w K mg base k C x ps sp := ⟨c.cl, let ⟨f, fd, a, b, e⟩ := c.ex; ⟨f, fd, a, b, e.mono h⟩⟩
theorem CalC.up {C : Addr} {j : Nat} (c : CalC P w K mg base j C x ps sp) (h : j ≤ k) : CalC P w K mg base k C x ps sp := ⟨c.mc, let ⟨f, fd, a, b, e⟩ := c.ex; ⟨f, fd, a, b, e.mono h⟩⟩
/-- the def as the top left it -/
structure DefAt (K : PySem.W.Frag) (mg : Str → Option Value) (x qual : Str) (st : Stmt) (ps : List Str) : Prop where
  ex : ∃ f fd, mg x = some (.ref f) ∧ Fun K x qual st f fd ∧ Binds K fd ps []
structure MetAt (K : PySem.W.Frag) (C : Addr) (x qual : Str) (st : Stmt) (ps : List Str) : Prop where
  cl : Cls K C
  ex : ∃ f fd, Meth K C x f ∧ Fun K x qual st f fd ∧ Binds K fd ps []
structure IniAt (K : PySem.W.Frag) (mg : Str → Option Value) (C : Addr) (x qual : Str) (st : Stmt) (ps : List Str) : Prop where
  cl : Cls K C
  mc : mg x = some (.ref C)
  ex : ∃ f fd, Mk K C f ∧ Fun K "__init__" qual st f fd ∧ Binds K fd ps []

def ini (N : List Str) (Rs : List MP) : Gm := Rs.map some ++ List.replicate (N.length - Rs.length) none
theorem en_ini {F : Hp} {vs : List V} {Rs : List MP} (h : PM F vs Rs) : En F (L2.start N vs) (ini N Rs) := by
  have hl := h.length
  refine ⟨by unfold L2.start ini; simp [hl], fun i m q => ?_⟩
  unfold ini at q
  unfold L2.start
  by_cases hi : i < Rs.length
  · rw [List.getElem?_append_left (by simpa using hi), List.getElem?_map] at q
    cases e : Rs[i]? with
    | none => rw [e] at q; cases q
    | some m' =>
      rw [e] at q
      cases q
      obtain ⟨v, e1, e2⟩ := h.get e
      refine ⟨v, ?_, e2⟩
      rw [List.getElem?_append_left (by rw [List.length_map, hl]; exact hi), List.getElem?_map, e1]
      rfl
  · rw [List.getElem?_append_right (by simpa using hi)] at q
    obtain ⟨_, e⟩ := List.getElem?_eq_some_iff.mp q
    rw [List.getElem_replicate] at e
    cases e
/-- a body's proof: its term, and its reading for every promise -/
def Body (P : Program) (w : World) (K : PySem.W.Frag) (mg : Str → Option Value) (base : Heap) (k : Nat) (N : List Str) (qual : Str) (st : Stmt) (Rd : TS → Hp → Prop) : Prop :=
  ∀ (f : Addr) (cdv : Value) (A : Around) (outer : List Env) (s : Shared) (H : Hp) (E : XK), Room k (A.deeper (PyProof.Rows.envOfC qual (defScope st) s.heap.objs.size f cdv)) →
    ∃ t, PSs (cxOf CX0 P w K mg base N qual (defScope st) f cdv A outer s H E).nox (defBody st) t ∧ Rd t H
def RdM (N : List Str) (Rel : Mode → List MP → MP → Prop) (t : TS) (H : Hp) : Prop := ∀ M Rs R, Rel M Rs R → ∀ (F : Hp) (Q : VK), RtOk ⟨M, F, H⟩ Q R → SS ⟨M, F, H⟩ M (ini N Rs) (t { nx := fun _ H' => Q .non H', rt := Q })
theorem fn_M {Rel : Mode → List MP → MP → Prop} {f : Addr} {fd : FuncData} (D : Fun K x qual st f fd) (S : FnScope N ps (defScope st)) (hl : ∀ M Rs R, Rel M Rs R → Rs.length = ps.length) (hb : Body P w K mg base k N qual st (RdM N Rel)) : FnOk P w K mg base CX0 (k + 1) f fd ps (spM Rel) := by
  refine D.ok S (fun vs H Q E h => ?_) (fun cdv A outer s H vs Q E hr h => ?_)
  · obtain ⟨M, F, Rs, R, _, pm, rel, _⟩ := h
    rw [pm.length, hl M Rs R rel]
  · obtain ⟨M, F, Rs, R, ok, pm, rel, q⟩ := h
    obtain ⟨t, ht, rd⟩ := hb f cdv A outer s H E hr
    exact ⟨t, ht, rd M Rs R rel F Q q _ _ ⟨⟨F, .refl, ok, en_ini pm⟩, fun _ z => z, fun _ z => .inl z, fun _ _ z => z⟩⟩
theorem cal_M {Rel : Mode → List MP → MP → Prop} (D : DefAt K mg x qual st ps) (S : FnScope N ps (defScope st)) (hl : ∀ M Rs R, Rel M Rs R → Rs.length = ps.length) (hb : Body P w K mg base k N qual st (RdM N Rel)) : Cal P w K mg base (k + 1) x ps (spM Rel) :=
  let ⟨f, fd, a, b, c⟩ := D.ex; ⟨f, fd, a, b.kp, c, fn_M b S hl hb⟩
def RdP (N : List Str) (Rel : List MP → MP → Prop) (t : TS) (H : Hp) : Prop := ∀ Rs R, Rel Rs R → ∀ (F : Hp) (Q : VK), RtOk ⟨pu, F, H⟩ Q R → SS ⟨pu, F, H⟩ pu (ini N Rs) (t { nx := fun _ H' => Q .non H', rt := Q })
theorem rdM_P {Rel : List MP → MP → Prop} {t : TS} {H : Hp} (h : RdP N Rel t H) : RdM N (fun M Rs R => M = pu ∧ Rel Rs R) t H := fun M Rs R ⟨e, r⟩ => by subst e; exact h Rs R r
theorem cal_P {Rel : List MP → MP → Prop} (D : DefAt K mg x qual st ps) (S : FnScope N ps (defScope st)) (hl : ∀ Rs R, Rel Rs R → Rs.length = ps.length) (hb : Body P w K mg base k N qual st (RdP N Rel)) : Cal P w K mg base (k + 1) x ps (spP Rel) :=
  cal_M D S (fun _ Rs R h => hl Rs R h.2) fun f cdv A outer s H E hr => let ⟨t, a, b⟩ := hb f cdv A outer s H E hr; ⟨t, a, rdM_P b⟩
theorem calM_P {C : Addr} {Rel : List MP → MP → Prop} (D : MetAt K C x qual st ps) (S : FnScope N ps (defScope st)) (hl : ∀ Rs R, Rel Rs R → Rs.length = ps.length) (hb : Body P w K mg base k N qual st (RdP N Rel)) : CalM P w K mg base (k + 1) C x ps (spP Rel) :=
  let ⟨f, fd, a, b, c⟩ := D.ex
  ⟨D.cl, f, fd, a, c, fn_M b S (fun _ Rs R h => hl Rs R h.2) fun f cdv A outer s H E hr => let ⟨t, a, b⟩ := hb f cdv A outer s H E hr; ⟨t, a, rdM_P b⟩⟩
end

/-! ### calls, as terms -/
section
variable {X : Cx} {k : Nat} {sp : Sp} {ps : List Str} {x m : Str} {p pos apos : Pos} {e o : Expr} {es : List Expr} {ta : TE} {t : TA} {C : Addr}
theorem pe_c (c : Cal X.prog X.w X.K X.mg X.base k x ps sp) (hr : Room k X.A) (hg : Gl X x) (ha : PA X (e :: es) t) (hdb : (x == ("__debug__" : Str)) = false := by decide)
    (he : starEach (e :: es) X.env = (false, eval e X.env) :: starEach es X.env := by rfl) (hpl : (backTo pos (starEach es X.env)).any (·.1) = false := by rfl) : PE X (.Call (.Name x p) (e :: es) [] pos) (tCall sp [] E0 t) := by
  obtain ⟨f, fd, hm, hk, hb, G⟩ := c.ex
  exact pe_call G hr hg hm hk hb .nil pass0 ha hdb he hpl
theorem pe_m {pl : Sem Bool} (c : CalM X.prog X.w X.K X.mg X.base k C m ps sp) (hr : Room k X.A) (he : PE X o ta) (ha : PA X (e :: es) t)
    (hst : starEach (e :: es) X.env = (false, eval e X.env) :: starEach es X.env := by rfl) (hpl : (backTo pos (starEach es X.env)).any (·.1) = false := by rfl)
    (ht : eval (.Call (.Attribute o m apos) (e :: es) [] pos) X.env = (do
      let ov ← eval o X.env
      standAt apos.atName
      let (f, first) ← holding [ov] (getMethod ov m pl)
      callWith pos f first (backTo pos (starEach (e :: es) X.env)) (backToKw pos (keywordEach [] X.env))) := by rfl) :
    PE X (.Call (.Attribute o m apos) (e :: es) [] pos) (tMeth C m sp [] E0 ta t) := by
  obtain ⟨f, fd, hm, hb, G⟩ := c.ex
  exact pe_meth he c.cl hm G hr hb .nil pass0 ha hst hpl ht
theorem pe_m0 {pl : Sem Bool} (c : CalM X.prog X.w X.K X.mg X.base k C m ps sp) (hr : Room k X.A) (he : PE X o ta)
    (ht : eval (.Call (.Attribute o m apos) [] [] pos) X.env = (do
      let ov ← eval o X.env
      standAt apos.atName
      let (f, first) ← holding [ov] (getMethod ov m pl)
      callWith pos f first (backTo pos (starEach [] X.env)) (backToKw pos (keywordEach [] X.env))) := by rfl) :
    PE X (.Call (.Attribute o m apos) [] [] pos) (tMeth C m sp [] E0 ta tNil) := by
  obtain ⟨f, fd, hm, hb, G⟩ := c.ex
  exact pe_meth0 he c.cl hm G hr hb .nil pass0 ht
theorem pe_k (c : CalC X.prog X.w X.K X.mg X.base k C x ps sp) (hr : Room (k + 1) X.A) (hg : Gl X x) (ha : PA X (e :: es) t) (hdb : (x == ("__debug__" : Str)) = false := by decide)
    (he : starEach (e :: es) X.env = (false, eval e X.env) :: starEach es X.env := by rfl) (hpl : (backTo pos (starEach es X.env)).any (·.1) = false := by rfl) : PE X (.Call (.Name x p) (e :: es) [] pos) (tMake C sp [] E0 t) := by
  obtain ⟨f, fd, hm, hb, G⟩ := c.ex
  exact pe_make hm G hr hg c.mc hb .nil pass0 ha hdb he hpl
end

def rLenS (K : PySem.W.Frag) : List V → Hp → VK → Prop := fun xs H Q => ∃ p ys, xs = [.ref p] ∧ (SqL K H p ys ∨ SqT K H p ys) ∧ Q (.int ys.length) H
def rTupS (K : PySem.W.Frag) : List V → Hp → VK → Prop := fun xs H Q => ∃ p ys, xs = [.ref p] ∧ ((SqL K H p ys ∧ ∀ l, H l = none → Q (.ref l) (upd H l (.tup ys))) ∨ (SqT K H p ys ∧ Q (.ref p) H))
def rLisS (K : PySem.W.Frag) : List V → Hp → VK → Prop := fun xs H Q => ∃ p ys, xs = [.ref p] ∧ (SqL K H p ys ∨ SqT K H p ys) ∧ ∀ l, H l = none → Q (.ref l) (upd H l (.lst ys))
/-! ### rules with the written part named -/
section
variable {X : Cx} {e o a tg : Expr} {es : List Expr} {ta te : TE} {t : TA} {f : Str} {pos pos' p apos : Pos}
theorem k_len (K : PySem.W.Frag) (h : X.K = K := by rfl) : CallR X (.builtin "len") (rLenS K) := h ▸ call_len_seq
theorem k_all (K : PySem.W.Frag) (h : X.K = K := by rfl) (hc : X.calm = true := by rfl) : CallR X (.builtin "all") (rAll K) := h ▸ cr_all hc
theorem k_tup (K : PySem.W.Frag) (h : X.K = K := by rfl) : CallR X (.type "tuple") (rTupS K) := h ▸ call_tuple_of
theorem k_lis (K : PySem.W.Frag) (h : X.K = K := by rfl) : CallR X (.type "list") (rLisS K) := h ▸ call_list_of
theorem k_in (K : PySem.W.Frag) (h : X.K = K := by rfl) : OpR X (compareOp .In) (rIn K false) := h ▸ op_in_seq
theorem k_ni (K : PySem.W.Frag) (h : X.K = K := by rfl) : OpR X (compareOp .NotIn) (rIn K true) := h ▸ op_notIn_seq
theorem k_eqD (K : PySem.W.Frag) (hu : X.A.units + 64 < cLine) (h : X.K = K := by rfl) : OpR X (compareOp .Eq) (rEqD K) := h ▸ op_eqD hu
theorem k_neD (K : PySem.W.Frag) (hu : X.A.units + 64 < cLine) (h : X.K = K := by rfl) : OpR X (compareOp .NotEq) (rNeD K) := h ▸ op_neD hu
theorem k_fld (K : PySem.W.Frag) (he : PE X e ta) (hb : attributeBase e f X.env (eval e X.env) = eval e X.env) (h : X.K = K := by rfl) : PE X (.Attribute e f pos) (tFld K ta f) := h ▸ pe_fld he hb
theorem k_sfld (K : PySem.W.Frag) {tv : TE} {value : Expr} (ha : PE X o ta) (hv : PE X value tv) (hs : swapsWith value (some (.Attribute o f pos')) pos.line X.env = pure false) (h : X.K = K := by rfl) : PS X (.Assign [.Attribute o f pos'] value pos) (sFld K ta tv f) := h ▸ ps_fld ha hv hs
theorem k_sll (K : PySem.W.Frag) (h : X.K = K := by rfl) : SlR X (rSlL K) := h ▸ sl_list
theorem k_slt (K : PySem.W.Frag) (h : X.K = K := by rfl) : SlR X (rSlT K) := h ▸ sl_tup
theorem k_ix (K : PySem.W.Frag) (h : X.K = K := by rfl) : IxR X (rIx K) := h ▸ ix_seq
theorem k_pl (K : PySem.W.Frag) {l : Expr} {tl : TE} (hl : PE X l tl) (h : X.K = K := by rfl) : PI X tg l (iList K tl) := h ▸ pi_list hl
theorem k_pt (K : PySem.W.Frag) {l : Expr} {tl : TE} (hl : PE X l tl) (h : X.K = K := by rfl) : PI X tg l (iTup K tl) := h ▸ pi_tup hl
theorem k_isi (K : PySem.W.Frag) (h : X.K = K := by rfl) : CallR X (.builtin "isinstance") (rIsi K) := h ▸ call_isi
theorem k_isiT (K : PySem.W.Frag) (h : X.K = K := by rfl) : CallR X (.builtin "isinstance") (rIsiT K) := h ▸ call_isiT
theorem k_catA (K : PySem.W.Frag) (h : X.K = K := by rfl) : OpR X (binaryOp .Add) (rCatA K) := h ▸ op_catA
end
/-! ### calls, read -/
section
variable {K : PySem.W.Frag} {M : Mode} {Γ : Gm} {ta te : TE} {t : TA} {m R : MP} {Rs : List MP} {fs : Fs} {C : Addr} {d : PyData}
theorem ee_call {Rel : List MP → MP → Prop} (ha : EA M Γ t Rs) (h : Rel Rs R) : EE M Γ (tCall (spP Rel) [] E0 t) R := fun F H σ en ok Q q =>
  ha F H σ en ok _ fun vs F1 H1 p1 o1 pm => ⟨pu, F1, Rs, R, pu_ok o1.ex, by rw [List.append_nil]; exact pm, ⟨rfl, h⟩, fun v F2 H2 p2 o2 r => q v F2 H2 (p1.trans (p2.any M)) (o1.step p2 o2.ex) r⟩
theorem ee_callM {Rel : Mode → List MP → MP → Prop} (ha : EA M Γ t Rs) (h : Rel M Rs R) : EE M Γ (tCall (spM Rel) [] E0 t) R := fun F H σ en ok Q q =>
  ha F H σ en ok _ fun vs F1 H1 p1 o1 pm => ⟨M, F1, Rs, R, o1, by rw [List.append_nil]; exact pm, h, fun v F2 H2 p2 o2 r => q v F2 H2 (p1.trans p2) o2 r⟩
theorem ee_meth {Rel : List MP → MP → Prop} {x : Str} (hs : EE M Γ ta (insM C fs)) (hx : fs.lookup x = none) (ha : EA M Γ t Rs) (h : Rel (insM C fs :: Rs) R) : EE M Γ (tMeth C x (spP Rel) [] E0 ta t) R := fun F H σ en ok Q q =>
  hs F H σ en ok _ fun u F1 H1 p1 o1 r1 => by
    obtain ⟨a, dx, vf, e, ha1, hf⟩ := id r1
    refine ⟨a, dx, vf, e, o1.ex a _ ha1, hf.none hx, ?_⟩
    exact ha F1 H1 σ (en.mono p1.fx) o1 _ fun vs F2 H2 p2 o2 pm => ⟨pu, F2, _, R, pu_ok o2.ex, by rw [List.append_nil]; exact .cons (MP.mono _ p2.fx r1) pm, ⟨rfl, h⟩, fun v F3 H3 p3 o3 r => q v F3 H3 ((p1.trans p2).trans (p3.any M)) (o2.step p3 o3.ex) r⟩
theorem ee_fld {f : Str} (hs : EE M Γ ta (insM C fs)) (hc : Cls K C) (hn : NoAttr K C f) (hf : fs.lookup f = some m) : EE M Γ (tFld K ta f) m := fun F H σ en ok Q q =>
  hs F H σ en ok _ fun u F1 H1 p1 o1 r1 => by
    obtain ⟨a, dx, vf, e, ha1, hp⟩ := id r1
    obtain ⟨v, e1, e2⟩ := hp.look hf
    exact ⟨a, C, dx, vf, v, e, o1.ex a _ ha1, hc, hn, e1, q v F1 H1 p1 o1 e2⟩
theorem ee_make {Rel : List MP → Fs → Prop} (ha : EA M Γ t Rs) (h : Rel Rs fs) : EE M Γ (tMake C (spI C Rel) [] E0 t) (insM C fs) := fun F H σ en ok Q q =>
  ha F H σ en ok _ fun vs F1 H1 p1 o1 pm => by
    intro x dx hx hdx hne
    have hxd : x ≠ dx := fun e => hne e.symm
    have fx : F1 x = none := free_of o1.ex hx
    have n1 : Pu0 F1 H1 F1 (upd H1 dx (.own x)) := .newH hdx
    have hx1 : upd H1 dx (.own x) x = none := by rw [upd_ne hxd]; exact hx
    have n2 : Pu0 F1 (upd H1 dx (.own x)) F1 (upd (upd H1 dx (.own x)) x (.ins C dx [])) := .newH hx1
    have e2 : Ex F1 (upd (upd H1 dx (.own x)) x (.ins C dx [])) := ex_updH (ex_updH o1.ex (free_of o1.ex hdx)) fx
    refine ⟨x, dx, F1, vs, Rs, fs, by rw [List.append_nil], upd_same, fx, e2, pm, h, fun F2 H2 dx' vf p2 e3 f2 h2 pf => ⟨rfl, ?_⟩⟩
    have hnx : ∀ a o, H1 a = some o → a ≠ x := fun a o w e => by rw [e, hx] at w; cases w
    have n12 : Ex H1 (upd (upd H1 dx (.own x)) x (.ins C dx [])) := fun a o w => n2.ex a o (n1.ex a o w)
    have p12 : Pu0 F1 H1 F2 H2 := by
      refine ⟨fun a o _ w => p2.hx a o (hnx a o w) (n12 a o w), p2.fx, fun a o w => ?_, fun a o w => ⟨o, p2.hx a o (hnx a o w) (n12 a o w)⟩⟩
      rcases p2.nw a o w with z | z
      · exact .inl z
      · exact .inr (free_of n12 z)
    have e4 : Ex F2 (upd F2 x (.ins C dx' vf)) := Ex.new f2
    have e5 : Ex (upd F2 x (.ins C dx' vf)) H2 := fun a o w => by
      by_cases ha : a = x
      · subst ha; rw [upd_same] at w; rw [h2]; exact w
      · rw [upd_ne ha] at w; exact e3 a o w
    have p3 : Pu0 F1 H1 (upd F2 x (.ins C dx' vf)) H2 := by
      refine ⟨p12.hx, p12.fx.trans e4, fun a o w => ?_, p12.al⟩
      by_cases ha : a = x
      · subst ha; exact .inr hx
      · rw [upd_ne ha] at w; exact p12.nw a o w
    exact q (.ref x) _ H2 (p1.trans (p3.any M)) (o1.step p3 e5) ⟨x, dx', vf, rfl, upd_same, pf.mono e4⟩

theorem dpAll_bls {F : Hp} : ∀ {vs : List V} {bs : List Bool}, DpAll K F vs (bs.map PyData.bool) → vs = bs.map V.bl
  | _, [], .nil => rfl
  | _, b :: r, .cons (.bl _) h => congrArg (V.bl b :: ·) (dpAll_bls h)
/-! ### built-ins -/
theorem ee_cb {r : List V → Hp → VK → Prop} {ms : List MP} (ha : EA M Γ t ms) (hr : ∀ F H vs, M.Ok F H → PM F vs ms → ∀ Q : VK, (∀ v F' H', Pu M.S F H F' H' → M.Ok F' H' → m.R F' v → Q v H') → r vs H Q) : EE M Γ (tCB r t) m := fun F H σ en ok Q q =>
  ha F H σ en ok _ fun vs F1 H1 p1 o1 pm => hr F1 H1 vs o1 pm Q fun v F2 H2 p2 o2 r => q v F2 H2 (p1.trans p2) o2 r
theorem ee_lenTM {ms : List MP} (h : EE M Γ te (tpM K ms)) : EE M Γ (tCB (rLenS K) (tCons te tNil)) (dt K (.int (ms.length : Int))) :=
  ee_cb (ea_cons h ea_nil) fun F H vs ok pm Q q => by
    cases pm with
    | cons r1 r2 =>
      cases r2
      obtain ⟨a, xs, rfl, hs, hall⟩ := r1
      exact ⟨a, xs, rfl, .inr (ex_t ok.ex hs), q _ F H .refl ok (by rw [hall.length]; exact .int _)⟩
theorem ee_lenLM {ms : List MP} (h : EE M Γ te (lsM K ms)) : EE M Γ (tCB (rLenS K) (tCons te tNil)) (dt K (.int (ms.length : Int))) :=
  ee_cb (ea_cons h ea_nil) fun F H vs ok pm Q q => by
    cases pm with
    | cons r1 r2 =>
      cases r2
      obtain ⟨a, xs, rfl, hs, hall⟩ := r1
      exact ⟨a, xs, rfl, .inl (ex_l ok.ex hs), q _ F H .refl ok (by rw [hall.length]; exact .int _)⟩
theorem ee_lenT {ds : List PyData} (h : EE M Γ te (dt K (.tuple ds))) : EE M Γ (tCB (rLenS K) (tCons te tNil)) (dt K (.int (ds.length : Int))) := ee_cast (ee_lenTM (ee_imp h fun _ _ r => tpM_of r)) (by rw [List.length_map])
theorem ee_lenL {ds : List PyData} (h : EE M Γ te (dt K (.list ds))) : EE M Γ (tCB (rLenS K) (tCons te tNil)) (dt K (.int (ds.length : Int))) := ee_cast (ee_lenLM (ee_imp h fun _ _ r => lsM_of r)) (by rw [List.length_map])
theorem ee_tupOfM {ms : List MP} (h : EE M Γ te (lsM K ms)) : EE M Γ (tCB (rTupS K) (tCons te tNil)) (tpM K ms) :=
  ee_cb (ea_cons h ea_nil) fun F H vs ok pm Q q => by
    cases pm with
    | cons r1 r2 =>
      cases r2
      obtain ⟨a, xs, rfl, hs, hall⟩ := r1
      refine ⟨a, xs, rfl, .inl ⟨ex_l ok.ex hs, fun l hl => ?_⟩⟩
      have pn : Pu0 F H (upd F l (.tup xs)) (upd H l (.tup xs)) := .new hl ok.ex
      exact q _ _ _ (pn.any M) (ok.step pn (ex_upd ok.ex)) ⟨l, xs, rfl, SqT.of upd_same, hall.mono pn.fx⟩
theorem ee_tupOf {ds : List PyData} (h : EE M Γ te (dt K (.list ds))) : EE M Γ (tCB (rTupS K) (tCons te tNil)) (dt K (.tuple ds)) := ee_imp (ee_tupOfM (ee_imp h fun _ _ r => lsM_of r)) fun _ _ r => tpM_to r
theorem ee_lisOfM {ms : List MP} (h : EE M Γ te (lsM K ms)) : EE M Γ (tCB (rLisS K) (tCons te tNil)) (lsM K ms) :=
  ee_cb (ea_cons h ea_nil) fun F H vs ok pm Q q => by
    cases pm with
    | cons r1 r2 =>
      cases r2
      obtain ⟨a, xs, rfl, hs, hall⟩ := r1
      refine ⟨a, xs, rfl, .inl (ex_l ok.ex hs), fun l hl => ?_⟩
      have pn : Pu0 F H (upd F l (.lst xs)) (upd H l (.lst xs)) := .new hl ok.ex
      exact q _ _ _ (pn.any M) (ok.step pn (ex_upd ok.ex)) ⟨l, xs, rfl, SqL.of upd_same, hall.mono pn.fx⟩
theorem ee_lisOf {ds : List PyData} (h : EE M Γ te (dt K (.list ds))) : EE M Γ (tCB (rLisS K) (tCons te tNil)) (dt K (.list ds)) := ee_imp (ee_lisOfM (ee_imp h fun _ _ r => lsM_of r)) fun _ _ r => lsM_to r
/-- all of a list of truth values -/
theorem ee_all {bs : List Bool} (h : EE M Γ te (dt K (.list (bs.map .bool)))) : EE M Γ (tCB (rAll K) (tCons te tNil)) (dt K (.bool (bs.all id))) :=
  ee_cb (ea_cons h ea_nil) fun F H vs ok pm Q q => by
    cases pm with
    | cons r1 r2 =>
      cases r2
      obtain ⟨a, xs, rfl, hs, hall⟩ := dp_lst r1
      have e : xs = bs.map V.bl := dpAll_bls hall
      subst e
      exact ⟨a, bs, rfl, ex_l ok.ex hs, q _ F H .refl ok (.bl _)⟩
/-- list(range(lo, hi)) -/
theorem ee_lisRg {ta tb : TE} {lo hi : Int} (ha : EE M Γ ta (dt K (.int lo))) (hb : EE M Γ tb (dt K (.int hi))) (h : 0 ≤ lo ∧ lo ≤ 10000 ∧ 0 ≤ hi ∧ hi ≤ 10000) :
    EE M Γ (tLstRg (tRg2 ta tb)) (dt K (.list ((List.range (hi - lo).toNat).map fun i => .int (lo + (i : Nat))))) := fun F H σ en ok Q q =>
  ha F H σ en ok _ fun x F1 H1 p1 o1 r1 => hb F1 H1 σ (en.mono p1.fx) o1 _ fun y F2 H2 p2 o2 r2 => by
    refine ⟨lo, hi, dp_int r1, dp_int r2, .of_le (by omega) (by omega) (by omega) (by omega), fun l hl => ?_⟩
    have pn : Pu0 F2 H2 (upd F2 l (.lst (rgV lo hi))) (upd H2 l (.lst (rgV lo hi))) := .new hl o2.ex
    refine q _ _ _ ((p1.trans p2).trans (pn.any M)) (o2.step pn (ex_upd o2.ex)) (.lst (SqL.of upd_same) ?_)
    have : DpAll K (upd F2 l (.lst (rgV lo hi))) (((List.range (hi - lo).toNat).map fun i => lo + ((i : Nat) : Int)).map V.int) (((List.range (hi - lo).toNat).map fun i => lo + ((i : Nat) : Int)).map PyData.int) := dpAll_ints _
    rw [List.map_map, List.map_map] at this
    exact this
def rInt1 : List V → Hp → VK → Prop := fun xs H Q => (∃ i, xs = [.int i] ∧ Q (.int i) H) ∨ ∃ k, xs = [.bl k] ∧ Q (.int (if k then 1 else 0)) H
theorem call_intS {X : Cx} : CallR X (.type "int") rInt1 := call_int1
theorem ee_int1 {i : Int} (h : EE M Γ te (dt K (.int i))) : EE M Γ (tCB rInt1 (tCons te tNil)) (dt K (.int i)) :=
  ee_cb (ea_cons h ea_nil) fun F H vs ok pm Q q => by
    cases pm with
    | cons r1 r2 =>
      cases r2
      exact .inl ⟨i, by rw [dp_int r1], q _ F H .refl ok (.int _)⟩
theorem ee_intB {b : Bool} (h : EE M Γ te (dt K (.bool b))) : EE M Γ (tCB rInt1 (tCons te tNil)) (dt K (.int (if b then 1 else 0))) :=
  ee_cb (ea_cons h ea_nil) fun F H vs ok pm Q q => by
    cases pm with
    | cons r1 r2 =>
      cases r2
      exact .inr ⟨b, by rw [dp_bl r1], q _ F H .refl ok (.int _)⟩

/-! ### isinstance -/
def tyD : PyData → String
  | .none => "NoneType"
  | .bool _ => "bool"
  | .int _ => "int"
  | .str _ => "str"
  | .list _ => "list"
  | .tuple _ => "tuple"
  | .dict _ => "dict"
theorem tyx_l {H : Hp} {a : Addr} {xs : List V} (h : SqL K H a xs) : TyX K H (.ref a) (.type "list") := by
  rcases h with (h | ⟨o, h⟩) | ⟨o, its, n, hk, hc, _⟩
  · exact .base (.lst h)
  · exact .base (.frz h)
  · exact .kList hk hc
theorem tyx_t {H : Hp} {a : Addr} {xs : List V} (h : SqT K H a xs) : TyX K H (.ref a) (.type "tuple") := by
  rcases h with (h | ⟨o, h⟩) | ⟨o, its, n, hk, hc, _⟩
  · exact .base (.tup h)
  · exact .fTuple h
  · exact .kTuple hk hc
theorem tyx_d {F H : Hp} {v : V} {d : PyData} (e : Ex F H) (h : Dp K F v d) : TyX K H v (.type (tyD d)) := by
  cases h with
  | non => exact .base .non
  | bl b => exact .base (.bl b)
  | int i => exact .base (.int i)
  | str x => exact .base (.str x)
  | lst hs _ => exact tyx_l (ex_l e hs)
  | tup hs _ => exact tyx_t (ex_t e hs)
theorem ee_isi {n : String} {b : Bool} (h : EE M Γ te (dt K d)) (hb : kitB (tyD d) n = some b) : EE M Γ (tCB (rIsi K) (tCons te (tCons (tC (.ty n)) tNil))) (dt K (.bool b)) :=
  ee_cb (ea_cons h (ea_cons (ee_raw (v := .ty n)) ea_nil)) fun F H vs ok pm Q q => by
    cases pm with
    | cons r1 r2 =>
      cases r2 with
      | cons r2 r3 =>
        cases r3
        cases r2
        exact ⟨_, .ty n, .type (tyD d), .type n, b, rfl, .ty n, tyx_d ok.ex r1, kit_ty hb, q _ F H .refl ok (.bl b)⟩
/-- isinstance(x, (T1, T2)) -/
theorem ee_isi2 {n1 n2 : String} {b1 b2 : Bool} (h : EE M Γ te (dt K d)) (h1 : kitB (tyD d) n1 = some b1) (h2 : kitB (tyD d) n2 = some b2) : EE M Γ (tCB (rIsiT K) (tCons te (tCons (tTup (tCons (tC (.ty n1)) (tCons (tC (.ty n2)) tNil))) tNil))) (dt K (.bool (b1 || b2))) := fun F H σ en ok Q q =>
  h F H σ en ok _ fun v F1 H1 p1 o1 r1 => by
    refine ⟨by show 2 ≤ sizeLine; decide, fun p hp => ?_⟩
    have pn : Pu0 F1 H1 (upd F1 p (.tup [.ty n1, .ty n2])) (upd H1 p (.tup [.ty n1, .ty n2])) := .new hp o1.ex
    refine ⟨v, p, [.ty n1, .ty n2], .type (tyD d), [.type n1, .type n2], b1 || b2, rfl, upd_same, .cons (.ty _) (.cons (.ty _) .nil), tyx_d (pn.fx.trans (ex_upd o1.ex)) r1, ?_, q _ _ _ (p1.trans (pn.any M)) (o1.step pn (ex_upd o1.ex)) (.bl _)⟩
    refine kitAny_cons (kit_ty h1) (fun e => ?_) (fun e => by rw [e]; rfl)
    subst e
    exact kitAny_cons (kit_ty h2) (fun e => by rw [e]; exact kitAny_nil) (fun e => by rw [e]; rfl)
end
end K46
/-! K46, part e: dicts by ints, instances that are being made. -/
namespace K46
open PySem L2
open Evl (Ex ex_l ex_t)

/-! ### a dict with int keys whose values are known -/
def dkM (kvs : List (Key × V)) : MP := ⟨fun F v => ∃ p, v = .ref p ∧ F p = some (.dK kvs), fun e ⟨p, a, b⟩ => ⟨p, a, e p _ b⟩⟩
/-- f at the numbers ids -/
def shK (ids : List Nat) (f : Nat → Int) : List (Key × V) := ids.map fun (p : Nat) => ((Sum.inl (p : Int) : Key), V.int (f p))
theorem shK_val {ids : List Nat} {f : Nat → Int} {p : Nat} (h : p ∈ ids) : valV (shK ids f) (Sum.inl (p : Int)) = some (.int (f p)) := by
  unfold shK
  induction ids with
  | nil => cases h
  | cons a r ih =>
    by_cases e : a = p
    · subst e
      rw [List.map_cons, valV_pos rfl]
    · have e2 : ¬ (Sum.inl (a : Int) : Key) = Sum.inl (p : Int) := fun q => e (by have := Sum.inl.inj q; omega)
      rw [List.map_cons, valV_neg e2]
      exact ih (by rcases List.mem_cons.mp h with z | z; exact absurd z.symm e; exact z)
theorem shK_no {ids : List Nat} {f : Nat → Int} {p : Nat} (h : p ∉ ids) : valV (shK ids f) (Sum.inl (p : Int)) = none := by
  unfold shK
  induction ids with
  | nil => rfl
  | cons a r ih =>
    have e2 : ¬ (Sum.inl (a : Int) : Key) = Sum.inl (p : Int) := fun q => by
      have e3 := Sum.inl.inj q
      have e4 : p = a := by omega
      exact h (e4 ▸ List.mem_cons_self)
    rw [List.map_cons, valV_neg e2]
    exact ih fun z => h (List.mem_cons_of_mem _ z)
theorem shK_length (ids : List Nat) (f : Nat → Int) : (shK ids f).length = ids.length := List.length_map ..
section
variable {K : PySem.W.Frag} {M : Mode} {Γ : Gm} {td ty te : TE} {m : MP} {kvs : List (Key × V)} {ids : List Nat} {f : Nat → Int} {p : Nat}
theorem ee_dget (hd : EE M Γ td (dkM (shK ids f))) (hy : EE M Γ ty (dt K (.int (p : Int)))) (hp : p ∈ ids) : EE M Γ (tDGet td ty) (dt K (.int (f p))) := fun F H σ en ok Q q =>
  hd F H σ en ok _ fun x F1 H1 p1 o1 r1 => hy F1 H1 σ (en.mono p1.fx) o1 _ fun y F2 H2 p2 o2 r2 => by
    obtain ⟨a, rfl, ha⟩ := r1
    have h2 : H2 a = some (.dK (shK ids f)) := o2.ex a _ (p2.fx a _ ha)
    refine ⟨a, _, rfl, ?_, q (.int (f p)) F2 H2 (p1.trans p2) o2 (.int _)⟩
    have g := DGet.k (k := Sum.inl (p : Int)) h2
    rw [shK_val hp] at g
    rw [dp_int r2]
    exact g
theorem ee_din (hd : EE M Γ td (dkM (shK ids f))) (hy : EE M Γ ty (dt K (.int (p : Int)))) : EE M Γ (tDIn ty td) (dt K (.bool (decide (p ∈ ids)))) := fun F H σ en ok Q q =>
  hy F H σ en ok _ fun y F1 H1 p1 o1 r1 => hd F1 H1 σ (en.mono p1.fx) o1 _ fun x F2 H2 p2 o2 r2 => by
    obtain ⟨a, rfl, ha⟩ := r2
    have h2 : H2 a = some (.dK (shK ids f)) := o2.ex a _ ha
    have g := DGet.k (k := Sum.inl (p : Int)) h2
    cases dp_int r1
    refine ⟨a, _, rfl, g, q _ F2 H2 (p1.trans p2) o2 ?_⟩
    by_cases hp : p ∈ ids
    · rw [shK_val hp, decide_eq_true hp]; exact .bl true
    · rw [shK_no hp, decide_eq_false hp]; exact .bl false
theorem ee_lenD (hd : EE M Γ te (dkM kvs)) : EE M Γ (tCB (fun xs H Q => ∃ a kvs, xs = [V.ref a] ∧ H a = some (.dK kvs) ∧ Q (.int kvs.length) H) (tCons te tNil)) (dt K (.int (kvs.length : Int))) :=
  ee_cb (ea_cons hd ea_nil) fun F H vs ok pm Q q => by
    cases pm with
    | cons r1 r2 =>
      cases r2
      obtain ⟨a, rfl, ha⟩ := r1
      exact ⟨a, kvs, rfl, ok.ex a _ ha, q _ F H .refl ok (.int _)⟩
/-- a thing that was made and is ours is frozen now -/
theorem freeze {F0 H0 F H : Hp} {D : Addr} {o : HO} (p : Pu M.S F0 H0 F H) (ok : M.Ok F H) (hD : H0 D = none) (hF : F D = none) (hS : ¬ M.S D) (hH : H D = some o) : Pu M.S F0 H0 (upd F D o) H ∧ M.Ok (upd F D o) H ∧ Ex F (upd F D o) := by
  have e : Ex F (upd F D o) := Ex.new hF
  refine ⟨⟨p.hx, p.fx.trans e, fun a u w => ?_, p.al⟩, ⟨fun a u w => ?_, fun a s => ?_, ok.al, M.st e (fun _ _ _ q => q) ok.iv⟩, e⟩
  · by_cases ha : a = D
    · subst ha; exact .inr hD
    · rw [upd_ne ha] at w; exact p.nw a u w
  · by_cases ha : a = D
    · subst ha; rw [upd_same] at w; rw [hH]; exact w
    · rw [upd_ne ha] at w; exact ok.ex a u w
  · by_cases ha : a = D
    · subst ha; exact absurd s hS
    · rw [upd_ne ha]; exact ok.ds a s
/-- a thing of ours that is neither frozen nor watched stands through a step -/
theorem keep_own {F H F' H' : Hp} {D : Addr} {o : HO} (p : Pu M.S F H F' H') (hF : F D = none) (hS : ¬ M.S D) (hH : H D = some o) : F' D = none ∧ H' D = some o := by
  refine ⟨?_, p.hx D _ hS hH⟩
  cases z : F' D with
  | none => rfl
  | some u =>
    rcases p.nw D u z with y | y
    · rw [hF] at y; cases y
    · rw [hH] at y; cases y
/-- .. and may be changed -/
theorem write_own {F0 H0 F H : Hp} {D : Addr} {o : HO} (p : Pu M.S F0 H0 F H) (ok : M.Ok F H) (hD : H0 D = none) (hF : F D = none) (hS : ¬ M.S D) : Pu M.S F0 H0 F (upd H D o) ∧ M.Ok F (upd H D o) := by
  have ne : ∀ a, M.S a → a ≠ D := fun a s e => hS (by rw [← e]; exact s)
  refine ⟨⟨fun a u n h => ?_, p.fx, p.nw, fun a u h => ?_⟩, ⟨ex_updH ok.ex hF, ok.ds, fun a s => ?_, M.st (Ex.refl F) (fun a u s h => ?_) ok.iv⟩⟩
  · rw [upd_ne (ne_of_none h hD)]; exact p.hx a u n h
  · obtain ⟨u', h'⟩ := p.al a u h
    exact ⟨u', by rw [upd_ne (ne_of_none h hD)]; exact h'⟩
  · obtain ⟨u, h⟩ := ok.al a s
    exact ⟨u, by rw [upd_ne (ne a s)]; exact h⟩
  · rw [upd_ne (ne a s)]; exact h
theorem not_S {F H : Hp} {D : Addr} (ok : M.Ok F H) (hD : H D = none) : ¬ M.S D := fun s => by
  obtain ⟨o, q⟩ := ok.al D s
  rw [hD] at q; cases q
/-- {0: a, 1: b} -/
theorem ee_disp01 {k0 v0 k1 v1 : TE} {a b : Int} (h1 : EE M Γ k0 (dt K (.int 0))) (h2 : EE M Γ v0 (dt K (.int a))) (h3 : EE M Γ k1 (dt K (.int 1))) (h4 : EE M Γ v1 (dt K (.int b))) :
    EE M Γ (tDisp [(k0, v0), (k1, v1)]) (dkM (shK [0, 1] fun p => if p = 0 then a else b)) := fun F H σ en ok Q q p hp => by
  have nS := not_S ok hp
  have pn : Pu0 F H F (upd H p (.dK [])) := .newH hp
  have ok1 := ok.step pn (ex_updH ok.ex (free_of ok.ex hp))
  refine h1 F _ σ en ok1 _ fun x0 F1 H1 p1 o1 r0 => h2 F1 H1 σ (en.mono p1.fx) o1 _ fun y0 F2 H2 p2 o2 s0 => h3 F2 H2 σ ((en.mono p1.fx).mono p2.fx) o2 _ fun x1 F3 H3 p3 o3 r1 => h4 F3 H3 σ (((en.mono p1.fx).mono p2.fx).mono p3.fx) o3 _ fun y1 F4 H4 p4 o4 s1 => ?_
  have pp := ((p1.trans p2).trans p3).trans p4
  obtain ⟨k1, k2⟩ := keep_own pp (free_of ok.ex hp) nS upd_same
  refine ⟨k2, shK [0, 1] (fun p => if p = 0 then a else b), ?_, by rw [shK_length]; decide, ?_⟩
  · cases dp_int r0; cases dp_int s0; cases dp_int r1; cases dp_int s1; rfl
  · have p5 := (pn.any M).trans pp
    obtain ⟨p6, o6⟩ := write_own (o := .dK (mergeK [] (shK [0, 1] fun p => if p = 0 then a else b))) p5 o4 hp k1 nS
    obtain ⟨p7, o7, _⟩ := freeze p6 o6 hp k1 nS upd_same
    exact q (.ref p) _ _ p7 o7 ⟨p, rfl, upd_same⟩
theorem putK_end {kvs : List (Key × V)} {k : Key} {v : V} (h : valV kvs k = none) : putK kvs k v = kvs ++ [(k, v)] := putK_new v h
/-- {x: e for x in a list of numbers} -/
theorem ee_dcL {tl tk tv : TE} {j : Nat} {vs : List Nat} (h : EE M Γ tl (dt K (.list (ids.map fun (p : Nat) => .int (p : Int))))) (hn : ids.length ≤ 1000) (hnd : ids.Nodup) (hj : j ∈ vs)
    (hk : ∀ p ∈ ids, EE M ((wipeG Γ vs).set j (some (dt K (.int (p : Int))))) tk (dt K (.int (p : Int)))) (hv : ∀ p ∈ ids, EE M ((wipeG Γ vs).set j (some (dt K (.int (p : Int))))) tv (dt K (.int (f p)))) :
    EE M Γ (tDc (iList K tl) (gName j) tYes tk tv vs) (dkM (shK ids f)) := fun F H σ en ok Q q =>
  h F H σ en ok _ fun v F1 H1 p1 o1 r1 => by
    obtain ⟨a, xs, e, hx, hall⟩ := dp_lst r1
    subst e
    have exs : xs = ids.map fun (p : Nat) => V.int (p : Int) := by
      have e1 : ids.map (fun (p : Nat) => PyData.int (p : Int)) = (ids.map fun (p : Nat) => (p : Int)).map PyData.int := by rw [List.map_map]; rfl
      rw [e1] at hall
      rw [dpAll_intsV hall, List.map_map]; rfl
    subst exs
    refine ⟨a, rfl, ⟨_, ex_l o1.ex hx⟩, fun D hD => ?_⟩
    have nS := not_S o1 hD
    have fD := free_of o1.ex hD
    refine ⟨fun i m H => m = ids.length - i ∧ i ≤ ids.length ∧ ∃ F2, Pu M.S F1 H1 F2 H ∧ M.Ok F2 H ∧ F2 D = none ∧ H D = some (.dK (shK (ids.take i) f)), ⟨ids.length, rfl, Nat.zero_le _, F1, (Pu.newH hD).any M, o1.step (.newH hD) (ex_updH o1.ex fD), fD, upd_same⟩, ?_⟩
    rintro i m H2 ⟨rfl, hil, F2, p2, o2, k1, k2⟩
    have hx2 : SqL K H2 a _ := ex_l (p2.fx.trans o2.ex) hx
    by_cases hlt : i < ids.length
    · refine .inr ⟨⟨_, V.int (ids[i] : Nat), hx2, by simp [hlt]⟩, fun H => ∃ F2, Pu M.S F1 H1 F2 H ∧ M.Ok F2 H ∧ F2 D = none ∧ H D = some (.dK (shK (ids.take (i + 1)) f)), fun H' ⟨F3, w⟩ => ⟨ids.length - (i + 1), by omega, rfl, hlt, F3, w⟩, fun x H' y => ?_⟩
      obtain ⟨e, y⟩ := y
      subst e
      have hy := y _ hx2
      have hg : ids[i]? = some ids[i] := List.getElem?_eq_getElem hlt
      rw [List.getElem?_map, hg] at hy
      cases hy
      have hmem : ids[i] ∈ ids := List.getElem_mem hlt
      refine ⟨wipe_set hj, ?_⟩
      have en2 : En F2 ((wipe σ vs).set j (some (V.int (ids[i] : Nat)))) ((wipeG Γ vs).set j (some (dt K (.int (ids[i] : Nat))))) := (((en.mono p1.fx).mono p2.fx).wipe vs).set (m := dt K (.int (ids[i] : Nat))) (.int _)
      refine yes_go ?_
      refine hk _ hmem F2 _ _ en2 o2 _ fun y F3 H3 p3 o3 r3 => hv _ hmem F3 H3 _ (en2.mono p3.fx) o3 _ fun z F4 H4 p4 o4 r4 => ?_
      obtain ⟨k3, k4⟩ := keep_own (p3.trans p4) k1 nS k2
      obtain ⟨p5, o5⟩ := write_own (o := .dK (shK (ids.take (i + 1)) f)) (p2.trans (p3.trans p4)) o4 hD k3 nS
      have hno : ids[i] ∉ ids.take i := fun hm => by
        obtain ⟨k, hk1, hk2⟩ := List.mem_iff_getElem.mp hm
        rw [List.getElem_take] at hk2
        rw [List.length_take] at hk1
        have := (List.getElem_inj hnd).mp hk2
        omega
      have ep : putK (shK (ids.take i) f) (Sum.inl (ids[i] : Int)) (V.int (f ids[i])) = shK (ids.take (i + 1)) f := by
        rw [putK_end (shK_no hno)]
        unfold shK
        exact (map_take_snoc hg).symm
      cases dp_int r4
      refine ⟨_, Sum.inl (ids[i] : Int), dp_int r3, k4, ?_, ?_⟩
      · rw [shK_length]; exact small1000 (by rw [List.length_take]; omega)
      · rw [ep]
        exact ⟨F4, p5, o5, k3, upd_same⟩
    · have e : i = ids.length := by omega
      subst e
      rw [List.take_length] at k2
      obtain ⟨p6, o6, _⟩ := freeze p2 o2 hD k1 nS k2
      exact .inl ⟨⟨_, hx2, by simp⟩, q (.ref D) _ _ (p1.trans p6) o6 ⟨D, rfl, upd_same⟩⟩
end

/-! ### instances that are being made -/
/-- the instance at x of the class at C bears fs -/
def insO (C x : Addr) (fs : Fs) : Mode := ⟨fun a => a = x, fun F H => ∃ dx vf, H x = some (.ins C dx vf) ∧ PF F vf fs, fun e h ⟨dx, vf, a, b⟩ => ⟨dx, vf, h x _ rfl a, b.mono e⟩⟩
/-- .. whatever it bears -/
def insA (C x : Addr) : Mode := ⟨fun a => a = x, fun _ H => ∃ dx vf, H x = some (.ins C dx vf), fun e h ⟨dx, vf, a⟩ => ⟨dx, vf, h x _ rfl a⟩⟩
section
variable {K : PySem.W.Frag} {Z : Zr} {Γ : Gm} {ta te : TE} {m : MP} {D : Ends} {C x : Addr} {fs : Fs} {f : Str}
theorem ss_fld (hv : EE (insO C x fs) Γ te m) (hs : EE (insO C x fs) Γ ta (rawv (.ref x))) (hc : Cls K C) (hn : NoAttr K C f) (hl : fs.length < 900) (hz : ∀ F H, (insA C x).I F H → Z.M.I F H) (k : SS Z (insO C x (putM f m fs)) Γ D.nx) : SS Z (insO C x fs) Γ (sFld K ta te f D) := fun σ H a => by
  obtain ⟨F, p, o, e⟩ := a.ex
  refine hv F H σ e o _ fun y F1 H1 p1 o1 r1 => hs F1 H1 σ (e.mono p1.fx) o1 _ fun w F2 H2 p2 o2 r2 => ?_
  cases r2
  obtain ⟨dx, vf, hx, pf⟩ := o2.iv
  refine ⟨x, C, dx, vf, rfl, hx, hc, hn, by rw [pf.length]; omega, k _ _ ⟨⟨F2, ?_, ⟨ex_updH o2.ex (o2.ds x rfl), o2.ds, fun b s => ⟨_, by cases s; exact upd_same⟩, dx, _, upd_same, PF.put (m.mono p2.fx r1) pf⟩, (e.mono p1.fx).mono p2.fx⟩, a.sub, a.own, fun F' H' ⟨dx', vf', h', pf'⟩ => hz F' H' ⟨dx', vf', h'⟩⟩⟩
  · have q := Pu.out a.own p (p1.trans p2)
    refine ⟨fun b u n h => ?_, q.fx, q.nw, fun b u h => ?_⟩
    · by_cases hb : b = x
      · subst hb
        rcases a.own b rfl with w | w
        · exact absurd w n
        · rw [w] at h; cases h
      · rw [upd_ne hb]; exact q.hx b u n h
    · by_cases hb : b = x
      · subst hb; exact ⟨_, upd_same⟩
      · obtain ⟨u', h'⟩ := q.al b u h
        exact ⟨u', by rw [upd_ne hb]; exact h'⟩
end
section
variable {P : Program} {w : World} {K : PySem.W.Frag} {mg : Str → Option Value} {base : Heap} {k : Nat} {x qual : Str} {ps N : List Str} {st : Stmt} {C : Addr}
/-- an __init__'s reading -/
def RdI (N : List Str) (C : Addr) (Rel : List MP → Fs → Prop) (t : TS) (H : Hp) : Prop := ∀ x Rs fs, Rel Rs fs → ∀ (F : Hp) (Q : VK), SS ⟨insA C x, F, H⟩ (insO C x fs) [] (fun _ H' => Q .non H') →
  SS ⟨insA C x, F, H⟩ (insO C x []) (ini N (rawv (.ref x) :: Rs)) (t { nx := fun _ H' => Q .non H', rt := Q })
theorem calC_I {Rel : List MP → Fs → Prop} (D : IniAt K mg C x qual st ps) (S : FnScope N ps (defScope st)) (hl : ∀ Rs fs, Rel Rs fs → Rs.length + 1 = ps.length) (hb : Body P w K mg base k N qual st (RdI N C Rel)) : CalC P w K mg base (k + 1) C x ps (spI C Rel) := by
  obtain ⟨f, fd, M, G, b⟩ := D.ex
  refine ⟨D.mc, f, fd, M, b, G.ok S (fun vs H Q E h => ?_) (fun cdv A outer s H vs Q E hr h => ?_)⟩
  · obtain ⟨y, dx, F, ws, Rs, fs, rfl, _, _, _, pm, rel, _⟩ := h
    rw [List.length_cons, pm.length]
    exact hl Rs fs rel
  · obtain ⟨y, dx, F, ws, Rs, fs, rfl, hx, hF, hE, pm, rel, q⟩ := h
    obtain ⟨t, ht, rd⟩ := hb f cdv A outer s H E hr
    refine ⟨t, ht, rd y Rs fs rel F Q (fun σ H' a => ?_) _ _ ⟨⟨F, .refl, ⟨hE, fun b s => by cases s; exact hF, fun b s => by cases s; exact ⟨_, hx⟩, dx, [], hx, .nil⟩, en_ini (.cons (m := rawv (.ref y)) rfl pm)⟩, fun _ z => z, fun _ z => .inl z, fun F' H' ⟨dx', vf', h', _⟩ => ⟨dx', vf', h'⟩⟩⟩
    obtain ⟨F', p, o, _⟩ := a.ex
    obtain ⟨dx', vf, h1, h2⟩ := o.iv
    exact q F' H' dx' vf p o.ex (o.ds y rfl) h1 h2
theorem ss_iniEnd {Z : Zr} {y : Addr} {fs : Fs} {Γ : Gm} {Q : Hp → Prop} (h : SS Z (insO C y fs) [] (fun _ H' => Q H')) : SS Z (insO C y fs) Γ (fun _ H' => Q H') := fun σ H a => h [] H ⟨let ⟨F, p, o, e⟩ := a.ex; ⟨F, p, o, rfl, fun i m q => by simp at q⟩, a.sub, a.own, a.iv⟩
end
end K46
/-! K46, part d: the text by places, the first small defs. -/
namespace K46
open PySem L2
open Evl (Ex ex_l ex_t)
def top (i : Nat) : Stmt := PySem.Challenge.pw_jointhands_k46_whole_people_led_to_two_s.main.body.getD i (.Pass ⟨0, 0, 0, 0⟩)
/-- the names that the top leaves to the built-ins, and its constants -/
structure Nm (mg : Str → Option Value) : Prop where
  len : mg "len" = none
  isinstance : mg "isinstance" = none
  all : mg "all" = none
  abs : mg "abs" = none
  sorted : mg "sorted" = none
  enumerate : mg "enumerate" = none
  range : mg "range" = none
  int : mg "int" = none
  bool : mg "bool" = none
  tuple : mg "tuple" = none
  list : mg "list" = none
  MOST_LINES : ∃ t, mg "MOST_LINES" = some (.int 100 t)
  MOST_COINS : ∃ t, mg "MOST_COINS" = some (.int 256 t)
  MOST_DEPTH : ∃ t, mg "MOST_DEPTH" = some (.int 250 t)
  MOST_TREES : ∃ t, mg "MOST_TREES" = some (.int 40000 t)
  MOST_PEOPLE_TREES : ∃ t, mg "MOST_PEOPLE_TREES" = some (.int 200 t)
theorem pe_gi {X : Cx} {x : Str} {i : Int} {pos : Pos} (h : ∃ t, X.mg x = some (.int i t)) (hg : Gl X x) (hd : (x == ("__debug__" : Str)) = false := by decide) : PE X (.Name x pos) (tC (.int i)) := by
  obtain ⟨t, h⟩ := h
  exact pe_glob hg h ⟨t, rfl⟩ hd

/-! ### the data -/
abbrev Tab := List (List Int)
def rowD (r : List Int) : PyData := .tuple (r.map PyData.int)
def tabD (t : Tab) : PyData := .tuple (t.map rowD)
structure IsTab (n c : Nat) (t : Tab) : Prop where
  rows : t.length = n
  cols : ∀ r ∈ t, r.length = c
def BitsTab (t : Tab) : Prop := ∀ r ∈ t, ∀ b ∈ r, b = 0 ∨ b = 1

theorem kit_ii : kitB "int" "int" = some true := by decide +kernel
theorem kit_ib : kitB "int" "bool" = some false := by decide +kernel
theorem kit_tt : kitB "tuple" "tuple" = some true := by decide +kernel
theorem kit_tl : kitB "tuple" "list" = some false := by decide +kernel
theorem kit_ll : kitB "list" "list" = some true := by decide +kernel
theorem kit_lt : kitB "list" "tuple" = some false := by decide +kernel
theorem map_get {α β : Type} {f : α → β} {l : List α} {i : Nat} {y : β} (h : (l.map f)[i]? = some y) : ∃ x, l[i]? = some x ∧ y = f x := by
  rw [List.getElem?_map] at h
  cases e : l[i]? with
  | none => rw [e] at h; cases h
  | some x => rw [e] at h; cases h; exact ⟨x, rfl, rfl⟩
theorem int_of {is : List Int} {i : Nat} {d : PyData} (h : (is.map PyData.int)[i]? = some d) : ∃ z, d = .int z := let ⟨z, _, e⟩ := map_get h; ⟨z, e⟩
section
variable {K : PySem.W.Frag} {M : Mode} {Γ : Gm} {te tl : TE}
/-- all([..]) over what is all True -/
theorem ee_allN (h : EE M Γ te (anyM fun m => ∃ ms, m = lsM K ms ∧ ∀ x ∈ ms, x = dt K (.bool true))) : EE M Γ (tCB (rAll K) (tCons te tNil)) (dt K (.bool true)) := by
  refine fun F H σ en ok Q q => h F H σ en ok _ fun v F1 H1 p1 o1 ⟨m, ⟨ms, e, hm⟩, r⟩ => ?_
  subst e
  obtain ⟨a, xs, rfl, hs, hall⟩ := r
  have e : xs = (ms.map fun _ => true).map V.bl := by
    clear hs
    induction hall with
    | nil => rfl
    | cons h1 h2 ih =>
      have e1 := hm _ List.mem_cons_self
      subst e1
      rw [dp_bl h1, ih fun x hx => hm x (List.mem_cons_of_mem _ hx)]
      rfl
  subst e
  refine ⟨a, _, rfl, ex_l o1.ex hs, q _ F1 H1 p1 o1 ?_⟩
  have : (ms.map fun _ => true).all id = true := by simp
  rw [this]
  exact .bl true
theorem ee_allT {j : Nat} {vs : List Nat} {ds : List PyData} (h : EE M Γ tl (dt K (.tuple ds))) (hn : ds.length ≤ 40000) (hj : j ∈ vs) (he : ∀ (i : Nat) d, ds[i]? = some d → EE M ((wipeG Γ vs).set j (some (dt K d))) te (dt K (.bool true))) :
    EE M Γ (tCB (rAll K) (tCons (tLc (iTup K tl) (gName j) tYes te vs) tNil)) (dt K (.bool true)) :=
  ee_cast (ee_all (bs := ds.map fun _ => true) (ee_cast (ee_lcTD (fun _ => .bool true) h hn hj he) (by rw [List.map_map]; rfl))) (by simp)
theorem ee_allL {j : Nat} {vs : List Nat} {ds : List PyData} (h : EE M Γ tl (dt K (.list ds))) (hn : ds.length ≤ 40000) (hj : j ∈ vs) (he : ∀ (i : Nat) d, ds[i]? = some d → EE M ((wipeG Γ vs).set j (some (dt K d))) te (dt K (.bool true))) :
    EE M Γ (tCB (rAll K) (tCons (tLc (iList K tl) (gName j) tYes te vs) tNil)) (dt K (.bool true)) :=
  ee_cast (ee_all (bs := ds.map fun _ => true) (ee_cast (ee_lcLD (fun _ => .bool true) h hn hj he) (by rw [List.map_map]; rfl))) (by simp)
end
section
variable {P : Program} {w : World} {K : PySem.W.Frag} {mg : Str → Option Value} {base : Heap}
abbrev s_is_integer : Stmt := top 5
abbrev n_is_integer : List Str := ["value"]
abbrev p_is_integer : List Str := ["value"]
theorem sc_is_integer : FnScope n_is_integer p_is_integer (defScope s_is_integer) := ⟨rfl, rfl, rfl, by decide +kernel, rfl, by decide +kernel, by decide +kernel⟩
abbrev s_is_listed : Stmt := top 6
abbrev n_is_listed : List Str := ["values", "value"]
abbrev p_is_listed : List Str := ["values"]
def cs_is_listed_0 : Scope := { kind := PySem.ScopeKind.function, names := [ (PySem.Str.ofString ".0", PySem.NameKind.local), (PySem.Str.ofString "value", PySem.NameKind.local), (PySem.Str.ofString "is_integer", PySem.NameKind.globalImplicit)], isGenerator := false, isCoroutine := false, more := [] : PySem.Scope }
theorem sc_is_listed : FnScope n_is_listed p_is_listed (defScope s_is_listed) := ⟨rfl, rfl, rfl, by decide +kernel, rfl, by decide +kernel, by decide +kernel⟩
abbrev s_is_between : Stmt := top 14
abbrev n_is_between : List Str := ["value", "least", "most"]
abbrev p_is_between : List Str := ["value", "least", "most"]
theorem sc_is_between : FnScope n_is_between p_is_between (defScope s_is_between) := ⟨rfl, rfl, rfl, by decide +kernel, rfl, by decide +kernel, by decide +kernel⟩
abbrev s_are_told : Stmt := top 16
abbrev n_are_told : List Str := ["value", "many", "coins", "one"]
abbrev p_are_told : List Str := ["value", "many", "coins"]
def cs_are_told_0 : Scope := { kind := PySem.ScopeKind.function, names := [ (PySem.Str.ofString ".0", PySem.NameKind.local), (PySem.Str.ofString "one", PySem.NameKind.local), (PySem.Str.ofString "isinstance", PySem.NameKind.globalImplicit), (PySem.Str.ofString "tuple", PySem.NameKind.globalImplicit), (PySem.Str.ofString "len", PySem.NameKind.globalImplicit), (PySem.Str.ofString "is_listed", PySem.NameKind.globalImplicit), (PySem.Str.ofString "coins", PySem.NameKind.free)], isGenerator := false, isCoroutine := false, more := [] : PySem.Scope }
theorem sc_are_told : FnScope n_are_told p_are_told (defScope s_are_told) := ⟨rfl, rfl, rfl, by decide +kernel, rfl, by decide +kernel, by decide +kernel⟩
abbrev s_are_bits : Stmt := top 17
abbrev n_are_bits : List Str := ["value", "many", "coins", "one", "bit"]
abbrev p_are_bits : List Str := ["value", "many", "coins"]
def cs_are_bits_0 : Scope := { kind := PySem.ScopeKind.function, names := [ (PySem.Str.ofString ".0", PySem.NameKind.local), (PySem.Str.ofString "one", PySem.NameKind.local), (PySem.Str.ofString "bit", PySem.NameKind.local)], isGenerator := false, isCoroutine := false, more := [] : PySem.Scope }
theorem sc_are_bits : FnScope n_are_bits p_are_bits (defScope s_are_bits) := ⟨rfl, rfl, rfl, by decide +kernel, rfl, by decide +kernel, by decide +kernel⟩
def r_is_integer (K : PySem.W.Frag) : List MP → MP → Prop := fun Rs R => ∃ i : Int, Rs = [dt K (.int i)] ∧ R = dt K (.bool true)
abbrev C_is_integer (P : Program) (w : World) (K : PySem.W.Frag) (mg : Str → Option Value) (base : Heap) : Prop := Cal P w K mg base 1 "is_integer" p_is_integer (spP (r_is_integer K))
theorem cal_is_integer (D : DefAt K mg "is_integer" "is_integer" s_is_integer p_is_integer) (T : Nm mg) : C_is_integer P w K mg base := by
  refine cal_P D sc_is_integer (fun Rs R h => by obtain ⟨i, rfl, _⟩ := h; rfl) fun f cdv A outer s H E hr => ⟨_, (pss_one (ps_ret (pe_and (pe_callB (k_isi K) (by rfl) T.isinstance (by decide +kernel) (pa_cons (pv 0) (pa_cons (pe_bltn (v := .ty "int") (by rfl) T.int (by decide +kernel) rfl) pa_nil))) (pe_one (pe_not (pe_callB (k_isi K) (by rfl) T.isinstance (by decide +kernel) (pa_cons (pv 0) (pa_cons (pe_bltn (v := .ty "bool") (by rfl) T.bool (by decide +kernel) rfl) pa_nil)))))))), ?_⟩
  rintro Rs R ⟨i, rfl, rfl⟩ F Q q
  exact ss_ret (ee_andB (ee_isi (ee_var rfl) kit_ii) fun _ => ee_not (ee_isi (ee_var rfl) kit_ib)) q
/-- of a tuple of ints -/
def r_is_listed (K : PySem.W.Frag) : List MP → MP → Prop := fun Rs R => ∃ is : List Int, is.length ≤ 1000 ∧ Rs = [dt K (.tuple (is.map .int))] ∧ R = dt K (.bool true)
abbrev C_is_listed (P : Program) (w : World) (K : PySem.W.Frag) (mg : Str → Option Value) (base : Heap) : Prop := Cal P w K mg base 2 "is_listed" p_is_listed (spP (r_is_listed K))
theorem cal_is_listed (D : DefAt K mg "is_listed" "is_listed" s_is_listed p_is_listed) (T : Nm mg) (G_is_integer : C_is_integer P w K mg base) : C_is_listed P w K mg base := by
  refine cal_P D sc_is_listed (fun Rs R h => by obtain ⟨i, _, rfl, _⟩ := h; rfl) fun f cdv A outer s H E hr => ⟨_, (pss_one (ps_ret (pe_and (pe_callB (k_isiT K) (by rfl) T.isinstance (by decide +kernel) (pa_cons (pv 0) (pa_cons (pe_tup (pa_cons (pe_bltn (v := .ty "list") (by rfl) T.list (by decide +kernel) rfl) (pa_cons (pe_bltn (v := .ty "tuple") (by rfl) T.tuple (by decide +kernel) rfl) pa_nil))) pa_nil))) (pe_one (pe_callB (k_all K) (by rfl) T.all (by decide +kernel) (pa_cons (pe_lc (own := [("value", 1)]) rfl sc_is_listed.nd (k_pt K (pv 0)) (blkOk_by (N := n_is_listed) (sc := defScope s_is_listed) (scope := cs_is_listed_0) (own := [("value", 1)]) (by decide +kernel)) (fun _ _ _ _ _ => (pg_name (i := 1) sc_is_listed.nd rfl (Or.inl rfl))) (fun _ _ _ _ _ => pts_nil) (fun _ _ _ _ _ => (pe_c (G_is_integer.up (by decide)) hr (by rfl) (pa_cons (pv 1) pa_nil)))) pa_nil)))))), ?_⟩
  rintro Rs R ⟨is, hl, rfl, rfl⟩ F Q q
  refine ss_ret (ee_andB (ee_isi2 (ee_var rfl) kit_tl kit_tt) fun _ => ee_allT (ee_var rfl) (by simp; omega) (by decide) fun i d hd => ?_) q
  obtain ⟨z, rfl⟩ := int_of hd
  exact ee_call (ea_cons (ee_var rfl) ea_nil) ⟨z, rfl, rfl⟩
def r_is_between (K : PySem.W.Frag) : List MP → MP → Prop := fun Rs R => ∃ i lo hi : Int, lo ≤ i ∧ i ≤ hi ∧ Rs = [dt K (.int i), dt K (.int lo), dt K (.int hi)] ∧ R = dt K (.bool true)
abbrev C_is_between (P : Program) (w : World) (K : PySem.W.Frag) (mg : Str → Option Value) (base : Heap) : Prop := Cal P w K mg base 2 "is_between" p_is_between (spP (r_is_between K))
theorem cal_is_between (D : DefAt K mg "is_between" "is_between" s_is_between p_is_between) (T : Nm mg) (G_is_integer : C_is_integer P w K mg base) : C_is_between P w K mg base := by
  refine cal_P D sc_is_between (fun Rs R h => by obtain ⟨i, _, _, _, _, rfl, _⟩ := h; rfl) fun f cdv A outer s H E hr => ⟨_, (pss_one (ps_ret (pe_and (pe_c (G_is_integer.up (by decide)) hr (by rfl) (pa_cons (pv 0) pa_nil)) (pe_one (pe_chain op_le op_le (pv 1) (pv 0) (pv 2)))))), ?_⟩
  rintro Rs R ⟨i, lo, hi, h1, h2, rfl, rfl⟩ F Q q
  refine ss_ret (ee_andB (ee_call (ea_cons (ee_var rfl) ea_nil) ⟨i, rfl, rfl⟩) fun _ => ee_cast (ee_chain (ee_var rfl) (ee_var rfl) (ee_var rfl) rI0_le rI0_le) ?_) q
  rw [decide_eq_true h1, decide_eq_true h2]
  rfl
def r_are_told (K : PySem.W.Frag) : List MP → MP → Prop := fun Rs R => ∃ (t : Tab) (n c : Nat), IsTab n c t ∧ n ≤ 200 ∧ c ≤ 200 ∧ Rs = [dt K (tabD t), dt K (.int n), dt K (.int c)] ∧ R = dt K (.bool true)
abbrev C_are_told (P : Program) (w : World) (K : PySem.W.Frag) (mg : Str → Option Value) (base : Heap) : Prop := Cal P w K mg base 3 "are_told" p_are_told (spP (r_are_told K))
theorem cal_are_told (D : DefAt K mg "are_told" "are_told" s_are_told p_are_told) (T : Nm mg) (G_is_listed : C_is_listed P w K mg base) : C_are_told P w K mg base := by
  refine cal_P D sc_are_told (fun Rs R h => by obtain ⟨_, _, _, _, _, _, rfl, _⟩ := h; rfl) fun f cdv A outer s H E hr => ⟨_, (pss_cons (ps_if (PW.pt (pw_or (pt_not (pt_val (pe_callB (k_isi K) (by rfl) T.isinstance (by decide +kernel) (pa_cons (pv 0) (pa_cons (pe_bltn (v := .ty "tuple") (by rfl) T.tuple (by decide +kernel) rfl) pa_nil))))) (pw_or1 (pt_cmpR op_ne (pe_callB (k_len K) (by rfl) T.len (by decide +kernel) (pa_cons (pv 0) pa_nil)) (pv 1) (nomark _))))) (pss_one (ps_ret pe_bl)) pss_nil)
  (pss_one (ps_ret (pe_callB (k_all K) (by rfl) T.all (by decide +kernel) (pa_cons (pe_lc (own := [("one", 3)]) rfl sc_are_told.nd (k_pt K (pv 0)) (blkOk_by (N := n_are_told) (sc := defScope s_are_told) (scope := cs_are_told_0) (own := [("one", 3)]) (by decide +kernel)) (fun _ _ _ _ _ => (pg_name (i := 3) sc_are_told.nd rfl (Or.inl rfl))) (fun _ _ _ _ _ => pts_nil) (fun _ _ _ _ _ => (pe_and (pe_callB (k_isi K) (by rfl) T.isinstance (by decide +kernel) (pa_cons (pv 3) (pa_cons (pe_bltn (v := .ty "tuple") (by rfl) T.tuple (by decide +kernel) rfl) pa_nil))) (pe_and (pe_cmpR op_eq (pe_callB (k_len K) (by rfl) T.len (by decide +kernel) (pa_cons (pv 3) pa_nil)) (pv 2) (nomark _)) (pe_one (pe_c (G_is_listed.up (by decide)) hr (by rfl) (pa_cons (pv 3) pa_nil))))))) pa_nil))))), ?_⟩
  rintro Rs R ⟨t, n, c, ht, hn, hc, rfl, rfl⟩ F Q q
  refine ss_seq (ss_no (b := false) (et_is (et_or (et_not (et_B (ee_isi (d := tabD t) (ee_var rfl) kit_tt))) fun _ => et_test (ee_neI (ee_lenT (ds := t.map rowD) (ee_var rfl)) (ee_var rfl))) ?_) rfl ?_)
  · simp [ht.rows]
  refine ss_ret (ee_allT (ds := t.map rowD) (ee_var rfl) (by simp [ht.rows]; omega) (by decide) fun i d hd => ?_) q
  obtain ⟨r, hr1, rfl⟩ := map_get hd
  have hrc := ht.cols r (List.mem_of_getElem? hr1)
  refine ee_cast (ee_andB (ee_isi (d := rowD r) (ee_var rfl) kit_tt) fun _ => ee_andB (ee_eqI (ee_lenT (ds := r.map .int) (ee_var rfl)) (ee_var rfl)) fun _ => ee_call (ea_cons (ee_var rfl) ea_nil) ⟨r, by omega, rfl, rfl⟩) ?_
  simp [hrc]
def r_are_bits (K : PySem.W.Frag) : List MP → MP → Prop := fun Rs R => ∃ (t : Tab) (n c : Nat), IsTab n c t ∧ BitsTab t ∧ n ≤ 200 ∧ c ≤ 200 ∧ Rs = [dt K (tabD t), dt K (.int n), dt K (.int c)] ∧ R = dt K (.bool true)
abbrev C_are_bits (P : Program) (w : World) (K : PySem.W.Frag) (mg : Str → Option Value) (base : Heap) : Prop := Cal P w K mg base 4 "are_bits" p_are_bits (spP (r_are_bits K))
theorem cal_are_bits (D : DefAt K mg "are_bits" "are_bits" s_are_bits p_are_bits) (T : Nm mg) (G_are_told : C_are_told P w K mg base) : C_are_bits P w K mg base := by
  refine cal_P D sc_are_bits (fun Rs R h => by obtain ⟨_, _, _, _, _, _, _, rfl, _⟩ := h; rfl) fun f cdv A outer s H E hr => ⟨_, (pss_one (ps_ret (pe_and (pe_c (G_are_told.up (by decide)) hr (by rfl) (pa_cons (pv 0) (pa_cons (pv 1) (pa_cons (pv 2) pa_nil)))) (pe_one (pe_callB (k_all K) (by rfl) T.all (by decide +kernel) (pa_cons (pe_lc2 (vs1 := [4]) (own := [("one", 3), ("bit", 4)]) rfl sc_are_bits.nd (k_pt K (pv 0)) (blkOk_by (N := n_are_bits) (sc := defScope s_are_bits) (scope := cs_are_bits_0) (own := [("one", 3), ("bit", 4)]) (by decide +kernel)) (by decide) (fun _ _ _ _ _ => (pg_name (i := 3) sc_are_bits.nd rfl (Or.inl rfl))) (fun _ _ _ _ _ => pts_nil) (fun _ _ _ _ _ => (k_pt K (pv 3))) (fun _ _ _ _ _ => (pg_name (i := 4) sc_are_bits.nd rfl (Or.inl rfl))) (fun _ _ _ _ _ => pts_nil) (fun _ _ _ _ _ => (pe_or (pe_cmpR op_eq (pv 4) pe_int (nomark _)) (pe_one (pe_cmpR op_eq (pv 4) pe_int (nomark _)))))) pa_nil)))))), ?_⟩
  rintro Rs R ⟨t, n, c, ht, hb, hn, hc, rfl, rfl⟩ F Q q
  have e : tabD t = .tuple ((t.map fun r => r.map PyData.int).map .tuple) := by unfold tabD; rw [List.map_map]; rfl
  refine ss_ret (ee_andB (ee_call (ea_cons (ee_var rfl) (ea_cons (ee_var rfl) (ea_cons (ee_var rfl) ea_nil))) ⟨t, n, c, ht, hn, hc, rfl, rfl⟩) fun _ => ee_allN (ee_lc2T (dss := t.map fun r => r.map PyData.int) (B := c) (E := fun m => m = dt K (.bool true)) (e ▸ ee_var rfl) (by simp [ht.rows]; omega) (by omega) (fun ds hd => ?_) (by decide) (by decide) (fun i ds hd => ee_var rfl) fun i k ds d hd hk => ?_)) q
  · obtain ⟨r, hr1, rfl⟩ := List.mem_map.mp hd
    rw [List.length_map, ht.cols r hr1]
    exact Nat.le_refl _
  · obtain ⟨r, hr1, rfl⟩ := map_get hd
    obtain ⟨z, hz, rfl⟩ := map_get hk
    have hz := hb r (List.mem_of_getElem? hr1) z (List.mem_of_getElem? hz)
    refine ee_imp (ee_cast (e := .bool true) (ee_orB (ee_eqI (ee_var rfl) ee_int) fun _ => ee_eqI (ee_var rfl) ee_int) ?_) fun _ _ r => ⟨_, rfl, r⟩
    rcases hz with rfl | rfl <;> rfl
end
end K46
/-! K46, part f: the trees, Shape, check_tree. -/
namespace K46
open PySem L2
open Evl (Ex ex_l ex_t)
/-! ### trees -/
inductive Tr where
  | fin (as : List Tab)
  | say (i : Nat) (b : Tab) (f s : Tr)
def Tr.D (pp : Bool) : Tr → PyData
  | .fin as => if pp then .tuple [.str "end", .tuple (as.map tabD)] else .tuple (.str "end" :: as.map tabD)
  | .say i b f s => .tuple [.str "say", .int (i : Int), tabD b, f.D pp, s.D pp]
def Tr.Ok (ids : List Nat) (ns cs : Nat → Nat) : Tr → Prop
  | .fin as => as.length = ids.length ∧ ∀ (i : Nat) p a, ids[i]? = some p → as[i]? = some a → IsTab (ns p) (cs p) a
  | .say i b f s => i ∈ ids ∧ IsTab (ns i) (cs i) b ∧ BitsTab b ∧ f.Ok ids ns cs ∧ s.Ok ids ns cs
def Tr.ht : Tr → Nat
  | .fin _ => 1
  | .say _ _ f s => max f.ht s.ht + 1
def Tr.size : Tr → Nat
  | .fin _ => 1
  | .say _ _ f s => f.size + s.size + 1
theorem Tr.size_pos : ∀ t : Tr, 0 < t.size
  | .fin _ => Nat.one_pos
  | .say _ _ _ _ => Nat.succ_pos _
def Tr.isSay : Tr → Bool
  | .fin _ => false
  | .say _ _ _ _ => true
/-- the sizes that a shape tells -/
structure ShOk (pp : Bool) (ids : List Nat) (ns cs : Nat → Nat) : Prop where
  few : ids.length ≤ 10
  nd : ids.Nodup
  two : pp = false → ids = [0, 1]
  nsB : ∀ p ∈ ids, ns p ≤ 200
  csB : ∀ p ∈ ids, cs p ≤ 200
structure ShapeC (K : PySem.W.Frag) (C : Addr) : Prop where
  cl : Cls K C
  nI : NoAttr K C "inputs"
  nC : NoAttr K C "coins"
def shapeF (ids : List Nat) (ns cs : Nat → Nat) : Fs := [("inputs", dkM (shK ids fun p => (ns p : Int))), ("coins", dkM (shK ids fun p => (cs p : Int)))]
abbrev shapeM (C : Addr) (ids : List Nat) (ns cs : Nat → Nat) : MP := insM C (shapeF ids ns cs)
/-! ### a walk over a dict's keys: the dict is locked meanwhile -/
section
variable {K : PySem.W.Frag} {F : Hp} {d : Addr} {kvs : List (Key × V)} {o : HO}
mutual
theorem dp_lock (hd : F d = some (.dK kvs)) : ∀ {v : V} {x : PyData}, Dp K F v x → Dp K (upd F d o) v x
  | _, _, .non => .non
  | _, _, .bl b => .bl b
  | _, _, .int i => .int i
  | _, _, .str x => .str x
  | _, _, .lst h hs => .lst (by
      rcases h with (h | ⟨ob, h⟩) | h
      · exact .inl (.inl (by rw [upd_ne (ne_of h hd (by intro z; cases z))]; exact h))
      · exact .inl (.inr ⟨ob, by rw [upd_ne (ne_of h hd (by intro z; cases z))]; exact h⟩)
      · exact .inr h) (dpAll_lock hd hs)
  | _, _, .tup h hs => .tup (by
      rcases h with (h | ⟨ob, h⟩) | h
      · exact .inl (.inl (by rw [upd_ne (ne_of h hd (by intro z; cases z))]; exact h))
      · exact .inl (.inr ⟨ob, by rw [upd_ne (ne_of h hd (by intro z; cases z))]; exact h⟩)
      · exact .inr h) (dpAll_lock hd hs)
theorem dpAll_lock (hd : F d = some (.dK kvs)) : ∀ {vs : List V} {xs : List PyData}, DpAll K F vs xs → DpAll K (upd F d o) vs xs
  | _, _, .nil => .nil
  | _, _, .cons h hs => .cons (dp_lock hd h) (dpAll_lock hd hs)
end
/-- a dict that may be locked, at the address d or anywhere -/
def dkR (kvs : List (Key × V)) : MP := ⟨fun F v => ∃ p, v = .ref p ∧ Rd F p (.dK kvs), fun e ⟨p, a, b⟩ => ⟨p, a, Evl.ex_rd e b⟩⟩
def dkL (d : Addr) (kvs : List (Key × V)) : MP := ⟨fun F v => v = .ref d ∧ Rd F d (.dK kvs), fun e ⟨a, b⟩ => ⟨a, Evl.ex_rd e b⟩⟩
theorem ee_dgetR {M : Mode} {Γ : Gm} {td ty : TE} {ids : List Nat} {f : Nat → Int} {p : Nat} (hd : EE M Γ td (dkR (shK ids f))) (hy : EE M Γ ty (dt K (.int (p : Int)))) (hp : p ∈ ids) : EE M Γ (tDGet td ty) (dt K (.int (f p))) := fun F H σ en ok Q q =>
  hd F H σ en ok _ fun x F1 H1 p1 o1 r1 => hy F1 H1 σ (en.mono p1.fx) o1 _ fun y F2 H2 p2 o2 r2 => by
    obtain ⟨a, rfl, ha⟩ := r1
    have h2 : Rd H2 a (.dK (shK ids f)) := Evl.ex_rd (p2.fx.trans o2.ex) ha
    exact ⟨a, _, rfl, .inl ⟨_, Sum.inl (p : Int), h2, dp_int r2, (shK_val hp).symm⟩, q (.int (f p)) F2 H2 (p1.trans p2) o2 (.int _)⟩
/-- all([e for x in self.inputs]): the dict is the shape's own -/
theorem ee_allKeys {C : Addr} {ids : List Nat} {ns cs : Nat → Nat} {x : PyData} {te : TE} (S : ShapeC K C) (hl : ids.length ≤ 10)
    (he : ∀ d, ∀ p ∈ ids, EE pu [some (insM C [("inputs", dkL d (shK ids fun p => (ns p : Int))), ("coins", dkR (shK ids fun p => (cs p : Int)))]), some (dt K x), some (dt K (.int (p : Int)))] te (dt K (.bool true))) :
    EE pu [some (shapeM C ids ns cs), some (dt K x), none] (tCB (rAll K) (tCons (tLockE (tLc (iKeys (tFld K (tVar 0) "inputs")) (gName 2) tYes te [2])) tNil)) (dt K (.bool true)) := fun F H σ en ok Q q => by
  obtain ⟨v0, s0, p0, dx, vf, rfl, h0, pf⟩ := en.get 0 _ rfl
  obtain ⟨v1, s1, h1⟩ := en.get 1 _ rfl
  obtain ⟨vi, ei, d, rfl, hd⟩ := pf.look (f := "inputs") rfl
  obtain ⟨vc, ec, c, rfl, hc⟩ := pf.look (f := "coins") rfl
  obtain ⟨w2, hσ⟩ : ∃ w2, σ = [some (.ref p0), some v1, w2] := by
    have hl := en.len
    match σ, hl with
    | [a, b, c], _ =>
      simp at s0 s1
      exact ⟨c, by rw [s0, s1]⟩
  subst hσ
  have hd' := ok.ex d _ hd
  refine ⟨d, .dK (shK ids fun p => (ns p : Int)), hd', trivial, fun od => ?_⟩
  have np : p0 ≠ d := ne_of h0 hd (by intro z; cases z)
  have el : Ex (upd F d (.frz od (.dK (shK ids fun p => (ns p : Int))))) (upd H d (.frz od (.dK (shK ids fun p => (ns p : Int))))) := ex_upd ok.ex
  have ol : pu.Ok (upd F d (.frz od (.dK (shK ids fun p => (ns p : Int))))) (upd H d (.frz od (.dK (shK ids fun p => (ns p : Int))))) := pu_ok el
  have hlen : (shK ids fun p => (ns p : Int)).length = ids.length := shK_length _ _
  refine ⟨.ref p0, rfl, p0, C, dx, vf, .ref d, rfl, by rw [upd_ne np]; exact ok.ex p0 _ h0, S.cl, S.nI, ei, d, od, rfl, .inl ⟨_, upd_same, fun D hD => ?_⟩⟩
  have nDd : D ≠ d := fun e => by rw [e, upd_same] at hD; cases hD
  refine ⟨fun i m H' => m = ids.length - i ∧ i ≤ ids.length ∧ LcW pu _ _ (upd F d (.frz od (.dK (shK ids fun p => (ns p : Int))))) D (fun ms => ∀ y ∈ ms, y = dt K (.bool true)) i H', ⟨ids.length, rfl, Nat.zero_le _, lcw_start ol hD (by simp)⟩, ?_⟩
  rintro i m H2 ⟨rfl, hil, w⟩
  obtain ⟨_, F2, acc, ms, p2, fb, o2, k1, k2, k3, kl, pm, hP⟩ := id w
  have hd2 : H2 d = some (.frz od (.dK (shK ids fun p => (ns p : Int)))) := o2.ex d _ (fb d _ upd_same)
  by_cases hlt : i < ids.length
  · refine .inr ⟨⟨hd2, by rw [hlen]; exact hlt⟩, fun H' => LcW pu _ _ (upd F d (.frz od (.dK (shK ids fun p => (ns p : Int))))) D (fun ms => ∀ y ∈ ms, y = dt K (.bool true)) (i + 1) H', fun H' w' => ⟨ids.length - (i + 1), by omega, rfl, hlt, w'⟩, fun y H' hy => ?_⟩
    obtain ⟨e, kk, vv, hk, rfl⟩ := hy
    subst e
    have hg : ids[i]? = some ids[i] := List.getElem?_eq_getElem hlt
    unfold shK at hk
    rw [List.getElem?_map, hg] at hk
    cases hk
    refine ⟨rfl, ?_⟩
    refine lcw_turn (Δ := [some (insM C [("inputs", dkL d (shK ids fun p => (ns p : Int))), ("coins", dkR (shK ids fun p => (cs p : Int)))]), some (dt K x), some (dt K (.int (ids[i] : Int)))]) w (by omega) (fun F3 e3 => ⟨rfl, fun jx m hm => ?_⟩) et_yes (fun _ => ee_imp (he d _ (List.getElem_mem hlt)) fun _ _ r => ⟨_, rfl, r⟩) (fun ms m hPm _ hE y hy => ?_) (fun ms hPm _ => hPm)
    · match jx, hm with
      | 0, hm =>
        cases hm
        refine ⟨_, rfl, p0, dx, vf, rfl, e3 p0 _ (by rw [upd_ne np]; exact h0), ?_⟩
        match vf, pf, ei, ec with
        | [(_, _), (_, _)], .cons a (.cons b .nil), ei, ec =>
          cases ei
          cases ec
          refine .cons (m := dkL d _) ⟨rfl, .inr ⟨od, e3 d _ upd_same⟩⟩ (.cons (m := dkR _) ⟨c, rfl, Evl.ex_rd e3 ?_⟩ .nil)
          by_cases hcd : c = d
          · subst hcd
            rw [hd] at hc
            have e5 := HO.dK.inj (Option.some.inj hc)
            exact .inr ⟨od, by rw [upd_same, e5]⟩
          · exact .inl (by rw [upd_ne hcd]; exact hc)
      | 1, hm =>
        cases hm
        exact ⟨v1, rfl, dp_mono e3 (dp_lock hd h1)⟩
      | 2, hm =>
        cases hm
        exact ⟨_, rfl, .int _⟩
    · rcases List.mem_append.mp hy with h | h
      · exact hPm y h
      · rw [List.mem_singleton.mp h]; exact hE.symm
  · have e : i = ids.length := by omega
    have ea : acc = (ms.map fun _ => true).map V.bl := by
      clear k3 kl
      induction pm with
      | nil => rfl
      | cons h1 h2 ih =>
        have e1 := hP _ List.mem_cons_self
        subst e1
        rw [dp_bl h1, ih fun y hy => hP y (List.mem_cons_of_mem _ hy)]
        rfl
    refine .inl ⟨⟨hd2, by rw [hlen]; omega⟩, hd2, D, ms.map fun _ => true, rfl, .inl (.inl (by rw [upd_ne nDd, k3, ea])), ?_⟩
    have hall : (ms.map fun _ => true).all id = true := by simp
    rw [hall]
    have key : ∀ a o, H a = some o → upd H2 d (.dK (shK ids fun p => (ns p : Int))) a = some o := fun a o h => by
      by_cases ha : a = d
      · subst ha; rw [upd_same]; rw [hd'] at h; exact h
      · rw [upd_ne ha]; exact p2.hx a o id (by rw [upd_ne ha]; exact h)
    exact q (.bl true) F _ ⟨fun a o _ h => key a o h, Ex.refl F, fun a o h => .inl h, fun a o h => ⟨o, key a o h⟩⟩ (pu_ok fun a o h => key a o (ok.ex a o h)) (.bl true)
end
section
variable {P : Program} {w : World} {K : PySem.W.Frag} {mg : Str → Option Value} {base : Heap} {C : Addr}
abbrev s_Shape___init__ : Stmt := inClass (top 18) 0
abbrev n_Shape___init__ : List Str := ["self", "inputs", "coins"]
abbrev p_Shape___init__ : List Str := ["self", "inputs", "coins"]
theorem sc_Shape___init__ : FnScope n_Shape___init__ p_Shape___init__ (defScope s_Shape___init__) := ⟨rfl, rfl, rfl, by decide +kernel, rfl, by decide +kernel, by decide +kernel⟩
abbrev s_Shape_is_say : Stmt := inClass (top 18) 1
abbrev n_Shape_is_say : List Str := ["self", "tree", "side"]
abbrev p_Shape_is_say : List Str := ["self", "tree"]
theorem sc_Shape_is_say : FnScope n_Shape_is_say p_Shape_is_say (defScope s_Shape_is_say) := ⟨rfl, rfl, rfl, by decide +kernel, rfl, by decide +kernel, by decide +kernel⟩
abbrev s_Shape_is_end : Stmt := inClass (top 18) 2
abbrev n_Shape_is_end : List Str := ["self", "tree", "side"]
abbrev p_Shape_is_end : List Str := ["self", "tree"]
def cs_Shape_is_end_0 : Scope := { kind := PySem.ScopeKind.function, names := [ (PySem.Str.ofString ".0", PySem.NameKind.local), (PySem.Str.ofString "side", PySem.NameKind.local), (PySem.Str.ofString "are_told", PySem.NameKind.globalImplicit), (PySem.Str.ofString "self", PySem.NameKind.free), (PySem.Str.ofString "tree", PySem.NameKind.free)], isGenerator := false, isCoroutine := false, more := [] : PySem.Scope }
theorem sc_Shape_is_end : FnScope n_Shape_is_end p_Shape_is_end (defScope s_Shape_is_end) := ⟨rfl, rfl, rfl, by decide +kernel, rfl, by decide +kernel, by decide +kernel⟩
abbrev s_Shape_is_end_of_people : Stmt := inClass (top 18) 3
abbrev n_Shape_is_end_of_people : List Str := ["self", "tree", "one"]
abbrev p_Shape_is_end_of_people : List Str := ["self", "tree"]
def cs_Shape_is_end_of_people_0 : Scope := { kind := PySem.ScopeKind.function, names := [ (PySem.Str.ofString ".0", PySem.NameKind.local), (PySem.Str.ofString "one", PySem.NameKind.local), (PySem.Str.ofString "are_told", PySem.NameKind.globalImplicit), (PySem.Str.ofString "self", PySem.NameKind.free), (PySem.Str.ofString "tree", PySem.NameKind.free)], isGenerator := false, isCoroutine := false, more := [] : PySem.Scope }
theorem sc_Shape_is_end_of_people : FnScope n_Shape_is_end_of_people p_Shape_is_end_of_people (defScope s_Shape_is_end_of_people) := ⟨rfl, rfl, rfl, by decide +kernel, rfl, by decide +kernel, by decide +kernel⟩
abbrev s_check_tree : Stmt := top 19
abbrev n_check_tree : List Str := ["shape", "tree", "of_people", "waiting", "seen", "one", "depth"]
abbrev p_check_tree : List Str := ["shape", "tree", "of_people"]
theorem sc_check_tree : FnScope n_check_tree p_check_tree (defScope s_check_tree) := ⟨rfl, rfl, rfl, by decide +kernel, rfl, by decide +kernel, by decide +kernel⟩
def r_shape (K : PySem.W.Frag) : List MP → Fs → Prop := fun Rs fs => ∃ a b, Rs = [a, b] ∧ fs = ([("inputs", a), ("coins", b)] : Fs)
abbrev C_Shape (P : Program) (w : World) (K : PySem.W.Frag) (mg : Str → Option Value) (base : Heap) (C : Addr) : Prop := CalC P w K mg base 1 C "Shape" p_Shape___init__ (spI C (r_shape K))
theorem cal_Shape (D : IniAt K mg C "Shape" "Shape.__init__" s_Shape___init__ p_Shape___init__) (S : ShapeC K C) : C_Shape P w K mg base C := by
  refine calC_I D sc_Shape___init__ (fun Rs fs h => by obtain ⟨_, _, rfl, _⟩ := h; rfl) fun f cdv A outer s H E hr => ⟨_, (pss_cons (k_sfld K (pv 0) (pv 1) rfl)
  (pss_one (k_sfld K (pv 0) (pv 2) rfl))), ?_⟩
  rintro x Rs fs ⟨a, b, rfl, rfl⟩ F Q k
  exact ss_seq (ss_fld (ee_var rfl) (ee_var rfl) S.cl S.nI (by decide) (fun _ _ h => h) (ss_fld (ee_var rfl) (ee_var rfl) S.cl S.nC (by show 1 < 900; decide) (fun _ _ h => h) (ss_iniEnd k)))
def r_is_say (K : PySem.W.Frag) (C : Addr) : List MP → MP → Prop := fun Rs R => ∃ (pp : Bool) (ids : List Nat) (ns cs : Nat → Nat) (t : Tr), ShOk pp ids ns cs ∧ t.Ok ids ns cs ∧ Rs = [shapeM C ids ns cs, dt K (t.D pp)] ∧ R = dt K (.bool t.isSay)
abbrev C_is_say (P : Program) (w : World) (K : PySem.W.Frag) (mg : Str → Option Value) (base : Heap) (C : Addr) : Prop := CalM P w K mg base 5 C "is_say" p_Shape_is_say (spP (r_is_say K C))
theorem cal_is_say (D : MetAt K C "is_say" "Shape.is_say" s_Shape_is_say p_Shape_is_say) (T : Nm mg) (S : ShapeC K C) (G_is_integer : C_is_integer P w K mg base) (G_are_bits : C_are_bits P w K mg base) : C_is_say P w K mg base C := by
  refine calM_P D sc_Shape_is_say (fun Rs R h => by obtain ⟨_, _, _, _, _, _, _, rfl, _⟩ := h; rfl) fun f cdv A outer s H E hr => ?_
  have hu := hu_of hr
  refine ⟨_, (pss_cons (ps_if (PW.pt (pw_or (pt_not (pt_val (pe_callB (k_isi K) (by rfl) T.isinstance (by decide +kernel) (pa_cons (pv 1) (pa_cons (pe_bltn (v := .ty "tuple") (by rfl) T.tuple (by decide +kernel) rfl) pa_nil))))) (pw_or (pt_cmpR op_ne (pe_callB (k_len K) (by rfl) T.len (by decide +kernel) (pa_cons (pv 1) pa_nil)) pe_int (nomark _)) (pw_or1 (pt_cmpR op_ne (pe_ix (k_ix K) (pv 1) pe_int (fun _ _ => rfl)) pe_str (nomark _)))))) (pss_one (ps_ret pe_bl)) pss_nil)
  (pss_cons (ps_set (i := 2) sc_Shape_is_say.nd rfl (Or.inl rfl) (pe_ix (k_ix K) (pv 1) pe_int (fun _ _ => rfl)))
  (pss_one (ps_ret (pe_and (pe_c (G_is_integer.up (by decide)) hr (by rfl) (pa_cons (pv 2) pa_nil)) (pe_and (pe_cmp (pc_din hu (pv 2) (k_fld K (pv 0) rfl))) (pe_one (pe_c (G_are_bits.up (by decide)) hr (by rfl) (pa_cons (pe_ix (k_ix K) (pv 1) pe_int (fun _ _ => rfl)) (pa_cons (pe_dget hu (k_fld K (pv 0) rfl) (pv 2) (fun _ _ => rfl)) (pa_cons (pe_dget hu (k_fld K (pv 0) rfl) (pv 2) (fun _ _ => rfl)) pa_nil))))))))))), ?_⟩
  rintro Rs R ⟨pp, ids, ns, cs, t, so, ok, rfl, rfl⟩ F Q q
  cases t with
  | fin as =>
    obtain ⟨ds, hds, hl⟩ : ∃ ds, Tr.D pp (.fin as) = .tuple ds ∧ ds.length ≠ 5 := by
      cases pp with
      | true => exact ⟨_, rfl, by simp⟩
      | false => exact ⟨_, rfl, by simp [ok.1, so.two rfl]⟩
    rw [hds]
    refine ss_seq (ss_if (b := true) (et_is (et_or (et_not (et_B (ee_isi (ee_var rfl) kit_tt))) fun _ => et_or (b := false) (et_test (ee_neI (ee_lenT (ee_var rfl)) ee_int)) fun h => ?_) ?_) (fun _ => ss_ret ee_bl q) fun h => nomatch h)
    · simp at h; omega
    · simp; omega
  | say i b f s =>
    obtain ⟨h1, h2, h3, _, _⟩ := ok
    refine ss_seq (ss_no (b := false) (et_is (et_or (et_not (et_B (ee_isi (d := Tr.D pp (.say i b f s)) (ee_var rfl) kit_tt))) fun _ => et_or (et_test (ee_neI (ee_lenT (ee_var rfl)) ee_int)) fun _ => et_test (ee_neS (ee_ixT (ee_var rfl) ee_int rfl rfl) ee_str)) (by rfl)) rfl ?_)
    refine sq_set (ee_ixT (ds := [.str "say", .int (i : Int), tabD b, f.D pp, s.D pp]) (j := 1) (ee_var rfl) ee_int rfl rfl) ?_
    refine ss_ret (ee_cast (ee_andB (ee_call (ea_cons (ee_var rfl) ea_nil) ⟨_, rfl, rfl⟩) fun _ => ee_andB (ee_din (ee_fld (ee_var rfl) S.cl S.nI rfl) (ee_var rfl)) fun _ => ee_call (ea_cons (ee_ixT (ds := [.str "say", .int (i : Int), tabD b, f.D pp, s.D pp]) (j := 2) (ee_var rfl) ee_int rfl rfl) (ea_cons (ee_dget (ee_fld (ee_var rfl) S.cl S.nI rfl) (ee_var rfl) h1) (ea_cons (ee_dget (ee_fld (ee_var rfl) S.cl S.nC rfl) (ee_var rfl) h1) ea_nil))) ⟨b, ns i, cs i, h2, h3, so.nsB i h1, so.csB i h1, rfl, rfl⟩) ?_) q
    rw [decide_eq_true h1]; rfl
def r_is_end (K : PySem.W.Frag) (C : Addr) : List MP → MP → Prop := fun Rs R => ∃ (ns cs : Nat → Nat) (as : List Tab), ShOk false [0, 1] ns cs ∧ Tr.Ok [0, 1] ns cs (.fin as) ∧ Rs = [shapeM C [0, 1] ns cs, dt K (Tr.D false (.fin as))] ∧ R = dt K (.bool true)
abbrev C_is_end (P : Program) (w : World) (K : PySem.W.Frag) (mg : Str → Option Value) (base : Heap) (C : Addr) : Prop := CalM P w K mg base 4 C "is_end" p_Shape_is_end (spP (r_is_end K C))
theorem cal_is_end (D : MetAt K C "is_end" "Shape.is_end" s_Shape_is_end p_Shape_is_end) (T : Nm mg) (S : ShapeC K C) (G_are_told : C_are_told P w K mg base) : C_is_end P w K mg base C := by
  refine calM_P D sc_Shape_is_end (fun Rs R h => by obtain ⟨_, _, _, _, _, rfl, _⟩ := h; rfl) fun f cdv A outer s H E hr => ?_
  have hu := hu_of hr
  refine ⟨_, (pss_cons (ps_if (PW.pt (pw_or (pt_not (pt_val (pe_callB (k_isi K) (by rfl) T.isinstance (by decide +kernel) (pa_cons (pv 1) (pa_cons (pe_bltn (v := .ty "tuple") (by rfl) T.tuple (by decide +kernel) rfl) pa_nil))))) (pw_or (pt_cmpR op_ne (pe_callB (k_len K) (by rfl) T.len (by decide +kernel) (pa_cons (pv 1) pa_nil)) pe_int (nomark _)) (pw_or1 (pt_cmpR op_ne (pe_ix (k_ix K) (pv 1) pe_int (fun _ _ => rfl)) pe_str (nomark _)))))) (pss_one (ps_ret pe_bl)) pss_nil)
  (pss_one (ps_ret (pe_callB (k_all K) (by rfl) T.all (by decide +kernel) (pa_cons (pe_lc (own := [("side", 2)]) rfl sc_Shape_is_end.nd (k_pt K (pe_tup (pa_cons pe_int (pa_cons pe_int pa_nil)))) (blkOk_by (N := n_Shape_is_end) (sc := defScope s_Shape_is_end) (scope := cs_Shape_is_end_0) (own := [("side", 2)]) (by decide +kernel)) (fun _ _ _ _ _ => (pg_name (i := 2) sc_Shape_is_end.nd rfl (Or.inl rfl))) (fun _ _ _ _ _ => pts_nil) (fun _ _ _ _ _ => (pe_c (G_are_told.up (by decide)) hr (by rfl) (pa_cons (pe_ix (k_ix K) (pv 1) (pe_op op_add (pv 2) pe_int) (fun _ _ => rfl)) (pa_cons (pe_dget hu (k_fld K (pv 0) rfl) (pv 2) (fun _ _ => rfl)) (pa_cons (pe_dget hu (k_fld K (pv 0) rfl) (pv 2) (fun _ _ => rfl)) pa_nil)))))) pa_nil))))), ?_⟩
  rintro Rs R ⟨ns, cs, as, so, ok, rfl, rfl⟩ F Q q
  obtain ⟨a0, a1, rfl⟩ : ∃ a0 a1, as = [a0, a1] := by
    match as, ok.1 with
    | [a0, a1], _ => exact ⟨a0, a1, rfl⟩
  have e : Tr.D false (.fin [a0, a1]) = .tuple [.str "end", tabD a0, tabD a1] := rfl
  rw [e]
  refine ss_seq (ss_no (b := false) (et_is (et_or (et_not (et_B (ee_isi (ee_var rfl) kit_tt))) fun _ => et_or (et_test (ee_neI (ee_lenT (ee_var rfl)) ee_int)) fun _ => et_test (ee_neS (ee_ixT (ee_var rfl) ee_int rfl rfl) ee_str)) (by rfl)) rfl ?_)
  refine ss_ret (ee_allT (ee_tup (ds := [.int 0, .int 1]) (ea_cons ee_int (ea_cons ee_int ea_nil)) (by decide)) (by decide) (by decide) fun i d hd => ?_) q
  match i, hd with
  | 0, hd =>
    cases hd
    exact ee_call (ea_cons (ee_ixT (ds := [.str "end", tabD a0, tabD a1]) (j := 1) (ee_var rfl) (ee_add (ee_var rfl) ee_int) rfl rfl) (ea_cons (ee_dget (p := 0) (ee_fld (ee_var rfl) S.cl S.nI rfl) (ee_var rfl) (by decide)) (ea_cons (ee_dget (p := 0) (ee_fld (ee_var rfl) S.cl S.nC rfl) (ee_var rfl) (by decide)) ea_nil)))
      ⟨a0, ns 0, cs 0, ok.2 0 0 a0 rfl rfl, so.nsB 0 (by decide), so.csB 0 (by decide), rfl, rfl⟩
  | 1, hd =>
    cases hd
    exact ee_call (ea_cons (ee_ixT (ds := [.str "end", tabD a0, tabD a1]) (j := 2) (ee_var rfl) (ee_add (ee_var rfl) ee_int) rfl rfl) (ea_cons (ee_dget (p := 1) (ee_fld (ee_var rfl) S.cl S.nI rfl) (ee_var rfl) (by decide)) (ea_cons (ee_dget (p := 1) (ee_fld (ee_var rfl) S.cl S.nC rfl) (ee_var rfl) (by decide)) ea_nil)))
      ⟨a1, ns 1, cs 1, ok.2 1 1 a1 rfl rfl, so.nsB 1 (by decide), so.csB 1 (by decide), rfl, rfl⟩
def r_is_eop (K : PySem.W.Frag) (C : Addr) : List MP → MP → Prop := fun Rs R => ∃ (n : Nat) (ns cs : Nat → Nat) (as : List Tab), ShOk true (List.range' 1 n) ns cs ∧ Tr.Ok (List.range' 1 n) ns cs (.fin as) ∧ Rs = [shapeM C (List.range' 1 n) ns cs, dt K (Tr.D true (.fin as))] ∧ R = dt K (.bool true)
abbrev C_is_eop (P : Program) (w : World) (K : PySem.W.Frag) (mg : Str → Option Value) (base : Heap) (C : Addr) : Prop := CalM P w K mg base 4 C "is_end_of_people" p_Shape_is_end_of_people (spP (r_is_eop K C))
theorem cal_is_eop (D : MetAt K C "is_end_of_people" "Shape.is_end_of_people" s_Shape_is_end_of_people p_Shape_is_end_of_people) (T : Nm mg) (S : ShapeC K C) (G_are_told : C_are_told P w K mg base) : C_is_eop P w K mg base C := by
  refine calM_P D sc_Shape_is_end_of_people (fun Rs R h => by obtain ⟨_, _, _, _, _, _, rfl, _⟩ := h; rfl) fun f cdv A outer s H E hr => ?_
  have hu := hu_of hr
  refine ⟨_, (pss_cons (ps_if (PW.pt (pw_or (pt_not (pt_val (pe_callB (k_isi K) (by rfl) T.isinstance (by decide +kernel) (pa_cons (pv 1) (pa_cons (pe_bltn (v := .ty "tuple") (by rfl) T.tuple (by decide +kernel) rfl) pa_nil))))) (pw_or (pt_cmpR op_ne (pe_callB (k_len K) (by rfl) T.len (by decide +kernel) (pa_cons (pv 1) pa_nil)) pe_int (nomark _)) (pw_or1 (pt_cmpR op_ne (pe_ix (k_ix K) (pv 1) pe_int (fun _ _ => rfl)) pe_str (nomark _)))))) (pss_one (ps_ret pe_bl)) pss_nil)
  (pss_cons (ps_if (PW.pt (pw_or (pt_not (pt_val (pe_callB (k_isi K) (by rfl) T.isinstance (by decide +kernel) (pa_cons (pe_ix (k_ix K) (pv 1) pe_int (fun _ _ => rfl)) (pa_cons (pe_bltn (v := .ty "tuple") (by rfl) T.tuple (by decide +kernel) rfl) pa_nil))))) (pw_or1 (pt_cmpR op_ne (pe_callB (k_len K) (by rfl) T.len (by decide +kernel) (pa_cons (pe_ix (k_ix K) (pv 1) pe_int (fun _ _ => rfl)) pa_nil)) (pe_callB call_lenD (by rfl) T.len (by decide +kernel) (pa_cons (k_fld K (pv 0) rfl) pa_nil)) (nomark _))))) (pss_one (ps_ret pe_bl)) pss_nil)
  (pss_one (ps_ret (pe_callB (k_all K) (by rfl) T.all (by decide +kernel) (pa_cons (pe_lock (pe_lc (own := [("one", 2)]) rfl sc_Shape_is_end_of_people.nd (pi_keys (k_fld K (pv 0) rfl)) (blkOk_by (N := n_Shape_is_end_of_people) (sc := defScope s_Shape_is_end_of_people) (scope := cs_Shape_is_end_of_people_0) (own := [("one", 2)]) (by decide +kernel)) (fun _ _ _ _ _ => (pg_name (i := 2) sc_Shape_is_end_of_people.nd rfl (Or.inl rfl))) (fun _ _ _ _ _ => pts_nil) (fun _ _ _ _ _ => (pe_c (G_are_told.up (by decide)) hr (by rfl) (pa_cons (pe_ix (k_ix K) (pe_ix (k_ix K) (pv 1) pe_int (fun _ _ => rfl)) (pe_op op_sub (pv 2) pe_int) (fun _ _ => rfl)) (pa_cons (pe_dget hu (k_fld K (pv 0) rfl) (pv 2) (fun _ _ => rfl)) (pa_cons (pe_dget hu (k_fld K (pv 0) rfl) (pv 2) (fun _ _ => rfl)) pa_nil))))))) pa_nil)))))), ?_⟩
  rintro Rs R ⟨n, ns, cs, as, so, ok, rfl, rfl⟩ F Q q
  have e : Tr.D true (.fin as) = .tuple [.str "end", .tuple (as.map tabD)] := rfl
  rw [e]
  have hlen : as.length = n := by rw [ok.1, List.length_range']
  refine ss_seq (ss_no (b := false) (et_is (et_or (et_not (et_B (ee_isi (ee_var rfl) kit_tt))) fun _ => et_or (et_test (ee_neI (ee_lenT (ee_var rfl)) ee_int)) fun _ => et_test (ee_neS (ee_ixT (ee_var rfl) ee_int rfl rfl) ee_str)) (by rfl)) rfl ?_)
  have h1 : ∀ {Γ : Gm}, Γ[1]? = some (some (dt K (.tuple [.str "end", .tuple (as.map tabD)]))) → EE pu Γ (tOp (rIx K) (tVar 1) (tC (.int 1))) (dt K (.tuple (as.map tabD))) := fun h => ee_ixT (j := 1) (ee_var h) ee_int rfl rfl
  refine ss_seq (ss_no (b := false) (et_is (et_or (et_not (et_B (ee_isi (h1 rfl) kit_tt))) fun _ => et_test (ee_neI (ee_lenT (h1 rfl)) (ee_lenD (ee_fld (ee_var rfl) S.cl S.nI rfl)))) ?_) rfl ?_)
  · rw [shK_length]; simp [hlen]
  refine ss_ret (ee_allKeys (x := .tuple [.str "end", .tuple (as.map tabD)]) S so.few fun d p hp => ?_) q
  obtain ⟨i, hi, e1⟩ : ∃ i, i < n ∧ p = i + 1 := by
    obtain ⟨h1, h2⟩ := List.mem_range'_1.mp hp
    exact ⟨p - 1, by omega, by omega⟩
  subst e1
  have ha : as[i]? = some (as[i]'(by omega)) := List.getElem?_eq_getElem (by omega)
  refine ee_call (ea_cons (ee_ixT (j := i) (h1 rfl) (ee_sub (ee_var rfl) ee_int) (by omega) (by rw [List.getElem?_map, ha]; rfl))
    (ea_cons (ee_dgetR (ee_imp (ee_fld (ee_var rfl) S.cl S.nI rfl) fun F v r => ⟨d, r.1, r.2⟩) (ee_var rfl) hp) (ea_cons (ee_dgetR (ee_fld (ee_var rfl) S.cl S.nC rfl) (ee_var rfl) hp) ea_nil)))
    ⟨_, ns (i + 1), cs (i + 1), ok.2 i (i + 1) _ ?_ ha, so.nsB _ hp, so.csB _ hp, rfl, rfl⟩
  rw [List.getElem?_range' hi]
  simp; omega
end
end K46
/-! K46, part g: lists that a def owns and changes; while; targets of several names. -/
namespace K46
open PySem L2
open Evl (Ex ex_l ex_t)

/-- beside what M owns: the list at p, bearing ms -/
def ownL (p : Addr) (ms : List MP) (M : Mode) : Mode := ⟨fun a => a = p ∨ M.S a, fun F H => (¬ M.S p ∧ ∃ xs, H p = some (.lst xs) ∧ PM F xs ms) ∧ M.I F H, fun e h ⟨⟨n, xs, a, b⟩, c⟩ => ⟨⟨n, xs, h p _ (.inl rfl) a, b.mono e⟩, M.st e (fun a o s => h a o (.inr s)) c⟩⟩
theorem Pu.wr {Z : Zr} {S : Addr → Prop} {F H : Hp} {p : Addr} {o : HO} (own : ∀ a, S a → Z.M.S a ∨ Z.H a = none) (s : S p) (q : Pu Z.M.S Z.F Z.H F H) : Pu Z.M.S Z.F Z.H F (upd H p o) := by
  refine ⟨fun b u n h => ?_, q.fx, q.nw, fun b u h => ?_⟩
  · by_cases hb : b = p
    · subst hb
      rcases own b s with w | w
      · exact absurd w n
      · rw [w] at h; cases h
    · rw [upd_ne hb]; exact q.hx b u n h
  · by_cases hb : b = p
    · subst hb; exact ⟨_, upd_same⟩
    · obtain ⟨u', h'⟩ := q.al b u h
      exact ⟨u', by rw [upd_ne hb]; exact h'⟩
theorem ownL_wr {M : Mode} {p : Addr} {ms ms' : List MP} {F H : Hp} {ys : List V} (ok : (ownL p ms M).Ok F H) (pm : PM F ys ms') : (ownL p ms' M).Ok F (upd H p (.lst ys)) := by
  obtain ⟨⟨nS, _⟩, iv⟩ := ok.iv
  refine ⟨ex_updH ok.ex (ok.ds p (.inl rfl)), ok.ds, fun b s => ?_, ⟨nS, ys, upd_same, pm⟩, M.st (Ex.refl F) (fun b o s h => ?_) iv⟩
  · by_cases hb : b = p
    · subst hb; exact ⟨_, upd_same⟩
    · rw [upd_ne hb]; exact ok.al b s
  · have hb : b ≠ p := fun e => nS (by rw [← e]; exact s)
    rw [upd_ne hb]; exact h

section
variable {K : PySem.W.Frag} {Z : Zr} {M : Mode} {Γ Δ : Gm} {ta te : TE} {m : MP} {ms : List MP} {D : Ends} {p : Addr} {t u : TS} {c : TT}
/-- x = [a, b, ..], a list of one's own -/
theorem ss_newL {tr : TA} {i : Nat} (h : EA M Γ tr ms) (hl : ms.length ≤ 100000) (k : ∀ p, SS Z (ownL p ms M) (Γ.set i (some (rawv (.ref p)))) D.nx) : SS Z M Γ (tAsg (tLst tr) (gName i) D) := fun σ H a => by
  obtain ⟨F, p0, o, e⟩ := a.ex
  refine h F H σ e o _ fun vs F1 H1 p1 o1 r1 => ⟨Evl.sz_of (by rw [r1.length]; exact hl), fun p hp => ?_⟩
  have fp := free_of o1.ex hp
  have pn : Pu0 F1 H1 F1 (upd H1 p (.lst vs)) := .newH hp
  have o2 := o1.step pn (ex_updH o1.ex fp)
  have pz := Pu.out a.own p0 (p1.trans (pn.any M))
  have pz1 := Pu.out a.own p0 p1
  refine k p _ _ ⟨⟨F1, pz, ⟨o2.ex, fun b s => ?_, fun b s => ?_, ⟨not_S o1 hp, vs, upd_same, r1⟩, o2.iv⟩, (e.mono p1.fx).set rfl⟩, fun b s => .inr (a.sub b s), fun b s => ?_, fun F' H' w => a.iv F' H' w.2⟩
  · rcases s with rfl | s
    · exact fp
    · exact o2.ds b s
  · rcases s with rfl | s
    · exact ⟨_, upd_same⟩
    · exact o2.al b s
  · rcases s with rfl | s
    · refine .inr ?_
      cases q : Z.H b with
      | none => rfl
      | some w =>
        obtain ⟨w', h'⟩ := pz1.al b w q
        rw [hp] at h'; cases h'
    · exact a.own b s
/-- x.append(e) -/
theorem ss_append (hs : EE (ownL p ms M) Γ ta (rawv (.ref p))) (he : EE (ownL p ms M) Γ te m) (hl : ms.length < 90000) (hz : ∀ F H, M.I F H → Z.M.I F H) (k : SS Z (ownL p (ms ++ [m]) M) Γ D.nx) :
    SS Z (ownL p ms M) Γ (tDrop (tBM K "list" rAppend ta (tCons te tNil)) D) := fun σ H a => by
  obtain ⟨F, p0, o, e⟩ := a.ex
  refine hs F H σ e o _ fun w F1 H1 p1 o1 r1 => ?_
  cases r1
  obtain ⟨⟨nS, xs, hx, pm⟩, _⟩ := id o1.iv
  refine ⟨Or.inl ⟨rfl, xs, SqL.of hx⟩, he F1 H1 σ (e.mono p1.fx) o1 _ fun y F2 H2 p2 o2 r2 => ?_⟩
  obtain ⟨⟨_, ys, hy, pm2⟩, _⟩ := id o2.iv
  refine ⟨p, ys, y, rfl, rfl, hy, Evl.sz_lt (by rw [pm2.length]; omega), k _ _ ⟨⟨F2, Pu.wr a.own (.inl rfl) (Pu.out a.own p0 (p1.trans p2)), ownL_wr o2 (PM.append_one r2 pm2), (e.mono p1.fx).mono p2.fx⟩, a.sub, a.own, fun F' H' w => hz F' H' w.2⟩⟩
theorem sq_append (hs : EE (ownL p ms M) Γ ta (rawv (.ref p))) (he : EE (ownL p ms M) Γ te m) (hl : ms.length < 90000) (hz : ∀ F H, M.I F H → Z.M.I F H) (k : SS Z (ownL p (ms ++ [m]) M) Γ (u D)) :
    SS Z (ownL p ms M) Γ (tSeq (tDrop (tBM K "list" rAppend ta (tCons te tNil))) u D) := ss_append (D := { D with nx := u D }) hs he hl hz k
theorem PM.snoc_inv {F : Hp} : ∀ {vs : List V} {ms : List MP} {m : MP}, PM F vs (ms ++ [m]) → ∃ us v, vs = us ++ [v] ∧ PM F us ms ∧ m.R F v
  | _, [], m, .cons h .nil => ⟨[], _, rfl, .nil, h⟩
  | _, a :: r, m, .cons h t => by
    obtain ⟨us, v, rfl, h2, h3⟩ := PM.snoc_inv t
    exact ⟨_ :: us, v, rfl, .cons h h2, h3⟩
/-- x.pop() to a target -/
theorem ss_pop {g : TG} (hs : EE (ownL p (ms ++ [m]) M) Γ ta (rawv (.ref p))) (hz : ∀ F H, M.I F H → Z.M.I F H)
    (k : ∀ v F σ H, At Z (ownL p ms M) Γ σ H → (∀ Δ σ', En F σ' Δ → At Z (ownL p ms M) Δ σ' H) → (ownL p ms M).Ok F H → En F σ Γ → m.R F v → g v σ H D.nx) : SS Z (ownL p (ms ++ [m]) M) Γ (tAsg (tBM0 K "list" rPop ta) g D) := fun σ H a => by
  obtain ⟨F, p0, o, e⟩ := a.ex
  refine hs F H σ e o _ fun w F1 H1 p1 o1 r1 => ?_
  cases r1
  obtain ⟨⟨nS, xs, hx, pm⟩, _⟩ := id o1.iv
  obtain ⟨us, v, rfl, pm2, hv⟩ := PM.snoc_inv pm
  refine ⟨Or.inl ⟨rfl, _, SqL.of hx⟩, p, us ++ [v], v, rfl, rfl, hx, by simp, ?_⟩
  rw [List.dropLast_concat]
  have mk : ∀ Δ σ', En F1 σ' Δ → At Z (ownL p ms M) Δ σ' (upd H1 p (.lst us)) := fun Δ σ' en => ⟨⟨F1, Pu.wr a.own (.inl rfl) (Pu.out a.own p0 p1), ownL_wr o1 pm2, en⟩, a.sub, a.own, fun F' H' w => hz F' H' w.2⟩
  exact k v F1 σ _ (mk _ _ (e.mono p1.fx)) mk (ownL_wr o1 pm2) (e.mono p1.fx) hv
theorem ss_pop1 {i : Nat} (hs : EE (ownL p (ms ++ [m]) M) Γ ta (rawv (.ref p))) (hz : ∀ F H, M.I F H → Z.M.I F H) (k : SS Z (ownL p ms M) (Γ.set i (some m)) D.nx) : SS Z (ownL p (ms ++ [m]) M) Γ (tAsg (tBM0 K "list" rPop ta) (gName i) D) :=
  ss_pop hs hz fun v F σ H a mk ok en hv => k _ _ (mk _ _ (en.set hv))
/-- a, b = a tuple of two -/
theorem g_two {i j : Nat} {m1 m2 : MP} {F H : Hp} {σ : St} {v : V} {Q : St → Hp → Prop} (e : Ex F H) (hv : (tpM K [m1, m2]).R F v) (k : ∀ v1 v2, m1.R F v1 → m2.R F v2 → Q ((σ.set i (some v1)).set j (some v2)) H) : gTup K 2 (gCons (gName i) (gCons (gName j) gNil)) v σ H Q := by
  obtain ⟨a, xs, rfl, hs, pm⟩ := hv
  cases pm with
  | cons h1 pm =>
    cases pm with
    | cons h2 pm =>
      cases pm
      exact ⟨a, _, rfl, ex_t e hs, rfl, _, _, rfl, _, _, rfl, rfl, k _ _ h1 h2⟩
theorem ss_pop2 {i j : Nat} {m1 m2 : MP} (hs : EE (ownL p (ms ++ [tpM K [m1, m2]]) M) Γ ta (rawv (.ref p))) (hz : ∀ F H, M.I F H → Z.M.I F H) (k : SS Z (ownL p ms M) ((Γ.set i (some m1)).set j (some m2)) D.nx) :
    SS Z (ownL p (ms ++ [tpM K [m1, m2]]) M) Γ (tAsg (tBM0 K "list" rPop ta) (gTup K 2 (gCons (gName i) (gCons (gName j) gNil))) D) :=
  ss_pop hs hz fun v F σ H a mk ok en hv => g_two ok.ex hv fun v1 v2 h1 h2 => k _ _ (mk _ _ ((en.set h1).set h2))
/-- a, b = e -/
theorem ss_set2 {i j : Nat} {m1 m2 : MP} (h : EE M Γ te (tpM K [m1, m2])) (k : SS Z M ((Γ.set i (some m1)).set j (some m2)) D.nx) : SS Z M Γ (tAsg te (gTup K 2 (gCons (gName i) (gCons (gName j) gNil))) D) := fun σ H a => by
  obtain ⟨F, p0, o, e⟩ := a.ex
  exact h F H σ e o _ fun v F1 H1 p1 o1 r1 => g_two o1.ex r1 fun v1 v2 h1 h2 => k _ _ (a.step p0 p1 o1 (((e.mono p1.fx).set h1).set h2))
/-- a, b = e1, e2 -/
theorem ss_par {i j : Nat} {tr : TA} {m1 m2 : MP} (h : EA M Γ tr [m1, m2]) (k : SS Z M ((Γ.set i (some m1)).set j (some m2)) D.nx) : SS Z M Γ (tPar i j tr D) := fun σ H a => by
  obtain ⟨F, p0, o, e⟩ := a.ex
  refine h F H σ e o _ fun vs F1 H1 p1 o1 r1 => ?_
  cases r1 with
  | cons h1 r1 =>
    cases r1 with
    | cons h2 r1 =>
      cases r1
      exact ⟨_, _, rfl, k _ _ (a.step p0 p1 o1 (((e.mono p1.fx).set h1).set h2))⟩
theorem ee_lenO (hs : EE (ownL p ms M) Γ te (rawv (.ref p))) : EE (ownL p ms M) Γ (tCB (rLenS K) (tCons te tNil)) (dt K (.int (ms.length : Int))) :=
  ee_cb (ea_cons hs ea_nil) fun F H vs ok pm Q q => by
    cases pm with
    | cons r1 r2 =>
      cases r2
      cases r1
      obtain ⟨⟨_, xs, hx, pm⟩, _⟩ := id ok.iv
      exact ⟨p, xs, rfl, .inl (SqL.of hx), q _ F H .refl ok (by rw [pm.length]; exact .int _)⟩
theorem ee_ixO {i : Int} {j : Nat} (ha : EE (ownL p ms M) Γ ta (rawv (.ref p))) (hb : EE (ownL p ms M) Γ te (dt K (.int i))) (hi : i = (j : Int)) (hd : ms[j]? = some m) : EE (ownL p ms M) Γ (tOp (rIx K) ta te) m :=
  ee_opv ha hb fun F H x y ok hx hy Q q => by
    cases hx
    cases dp_int hy
    obtain ⟨⟨_, xs, hx, pm⟩, _⟩ := id ok.iv
    obtain ⟨v, hv, hm⟩ := pm.get hd
    exact .inl ⟨p, xs, i, v, rfl, rfl, SqL.of hx, by rw [hi]; exact atI_nat hv, q v hm⟩
theorem ee_tupOfO (hs : EE (ownL p ms M) Γ te (rawv (.ref p))) : EE (ownL p ms M) Γ (tCB (rTupS K) (tCons te tNil)) (tpM K ms) :=
  ee_cb (ea_cons hs ea_nil) fun F H vs ok pm Q q => by
    cases pm with
    | cons r1 r2 =>
      cases r2
      cases r1
      obtain ⟨⟨_, xs, hx, pm⟩, _⟩ := id ok.iv
      refine ⟨p, xs, rfl, .inl ⟨SqL.of hx, fun l hl => ?_⟩⟩
      have pn : Pu0 F H (upd F l (.tup xs)) (upd H l (.tup xs)) := .new hl ok.ex
      exact q _ _ _ (pn.any _) (ok.step pn (ex_upd ok.ex)) ⟨l, xs, rfl, SqT.of upd_same, pm.mono pn.fx⟩
/-- while -/
theorem ss_while (Pv : Nat → St → Hp → Prop) (h0 : SS Z M Γ fun σ H => ∃ n, Pv n σ H)
    (hs : ∀ n σ H, Pv n σ H → ∃ M' Γ' b, At Z M' Γ' σ H ∧ ETb M' Γ' c b ∧ (b = true → SS Z M' Γ' (t { D with nx := fun σ' H' => ∃ n', n' < n ∧ Pv n' σ' H', ct := fun σ' H' => ∃ n', n' < n ∧ Pv n' σ' H', bk := D.nx })) ∧ (b = false → SS Z M' Γ' D.nx)) : SS Z M Γ (tWhile c t D) := fun σ H a => by
  obtain ⟨n, hn⟩ := h0 σ H a
  refine ⟨Pv, ⟨n, hn⟩, fun n σ1 H1 p1 => ?_⟩
  obtain ⟨M', Γ', b, a1, et, h1, h2⟩ := hs n σ1 H1 p1
  obtain ⟨F, p, o, e⟩ := a1.ex
  refine et F H1 σ1 e o _ fun b' F' H' q o' r => ?_
  subst r
  have a2 := a1.step p q o' (e.mono q.fx)
  cases b' with
  | true => exact ⟨_, fun _ _ z => z, h1 rfl σ1 H' a2⟩
  | false => exact h2 rfl σ1 H' a2
end
/-! ### a if c else b, as a test -/
def tIfT (c t u : TT) : TT := fun σ H Q => c σ H fun b H1 => if b = true then t σ H1 Q else u σ H1 Q
theorem pt_ifExp {X : Cx} {c a b : Expr} {tc ta tb : TT} {pos : Pos} (hc : PT X c tc) (ha : PT X a ta) (hb : PT X b tb) : PT X (.IfExp c a b pos) (tIfT tc ta tb) := by
  refine ⟨fun pins s σ H Q I h => PyProof.Rows.isTrue_IfExp (thn (hc.run pins s σ H _ I h) fun d s1 ⟨H1, I1, q1⟩ => ?_)⟩
  cases d with
  | true => exact ha.run pins s1 σ H1 Q I1 q1
  | false => exact hb.run pins s1 σ H1 Q I1 q1
theorem et_if {M : Mode} {Γ : Gm} {c t u : TT} {a b : Bool} (h : ETb M Γ c a) (h1 : a = true → ETb M Γ t b) (h2 : a = false → ETb M Γ u b) : ETb M Γ (tIfT c t u) b := fun F H σ en ok Q q => h F H σ en ok _ fun d F1 H1 p1 o1 e => by
  subst e
  cases d with
  | true => exact h1 rfl F1 H1 σ (en.mono p1.fx) o1 Q fun b' F2 H2 p2 o2 e2 => q b' F2 H2 (p1.trans p2) o2 e2
  | false => exact h2 rfl F1 H1 σ (en.mono p1.fx) o1 Q fun b' F2 H2 p2 o2 e2 => q b' F2 H2 (p1.trans p2) o2 e2
theorem ee_two {M : Mode} {Γ : Gm} {ta tb : TE} {K : PySem.W.Frag} {m1 m2 : MP} (h1 : EE M Γ ta m1) (h2 : EE M Γ tb m2) : EE M Γ (tTup (tCons ta (tCons tb tNil))) (tpM K [m1, m2]) := ee_tupM (ea_cons h1 (ea_cons h2 ea_nil)) (by show 2 ≤ 100000; decide)
theorem ea_one {M : Mode} {Γ : Gm} {ta : TE} {m1 : MP} (h1 : EE M Γ ta m1) : EA M Γ (tCons ta tNil) [m1] := ea_cons h1 ea_nil
theorem ee_addN {M : Mode} {Γ : Gm} {ta tb : TE} {K : PySem.W.Frag} {i j : Nat} (ha : EE M Γ ta (dt K (.int (i : Int)))) (hb : EE M Γ tb (dt K (.int (j : Int)))) : EE M Γ (tOp (rI0 fun i j => .int (i + j)) ta tb) (dt K (.int ((i + j : Nat) : Int))) := ee_cast (ee_add ha hb) (by rw [Int.natCast_add])
theorem ee_suc {M : Mode} {Γ : Gm} {ta : TE} {K : PySem.W.Frag} {i : Nat} (ha : EE M Γ ta (dt K (.int (i : Int)))) : EE M Γ (tOp (rI0 fun i j => .int (i + j)) ta (tC (.int 1))) (dt K (.int ((i + 1 : Nat) : Int))) := ee_cast (ee_add ha ee_int) (by rw [Int.natCast_add]; rfl)
end K46
/-! K46, part h: check_tree, check_table, check_talk. -/
namespace K46
open PySem L2
open Evl (Ex ex_l ex_t)
section
variable {P : Program} {w : World} {K : PySem.W.Frag} {mg : Str → Option Value} {base : Heap} {C : Addr}
abbrev s_check_table : Stmt := top 15
abbrev n_check_table : List Str := ["table", "row"]
abbrev p_check_table : List Str := ["table"]
theorem sc_check_table : FnScope n_check_table p_check_table (defScope s_check_table) := ⟨rfl, rfl, rfl, by decide +kernel, rfl, by decide +kernel, by decide +kernel⟩
abbrev s_check_talk : Stmt := top 20
abbrev n_check_talk : List Str := ["talk", "table", "shape"]
abbrev p_check_talk : List Str := ["talk", "table"]
theorem sc_check_talk : FnScope n_check_talk p_check_talk (defScope s_check_talk) := ⟨rfl, rfl, rfl, by decide +kernel, rfl, by decide +kernel, by decide +kernel⟩
def tsize : List (Tr × Nat) → Nat
  | [] => 0
  | x :: r => x.1.size + tsize r
theorem tsize_snoc (x : Tr × Nat) : ∀ l : List (Tr × Nat), tsize (l ++ [x]) = tsize l + x.1.size
  | [] => by simp [tsize]
  | y :: r => by
    show y.1.size + tsize (r ++ [x]) = y.1.size + tsize r + x.1.size
    rw [tsize_snoc x r]; omega
abbrev itM (K : PySem.W.Frag) (pp : Bool) (x : Tr × Nat) : MP := tpM K [dt K (x.1.D pp), dt K (.int (x.2 : Int))]
def r_check_tree (K : PySem.W.Frag) (C : Addr) : List MP → MP → Prop := fun Rs R => ∃ (pp : Bool) (ids : List Nat) (ns cs : Nat → Nat) (t : Tr), ShOk pp ids ns cs ∧ (pp = true → ∃ n, ids = List.range' 1 n) ∧ t.Ok ids ns cs ∧ t.ht ≤ 100 ∧ t.size ≤ 200 ∧ Rs = [shapeM C ids ns cs, dt K (t.D pp), dt K (.bool pp)] ∧ R = dt K .none
abbrev C_check_tree (P : Program) (w : World) (K : PySem.W.Frag) (mg : Str → Option Value) (base : Heap) (C : Addr) : Prop := Cal P w K mg base 6 "check_tree" p_check_tree (spP (r_check_tree K C))
theorem cal_check_tree (D : DefAt K mg "check_tree" "check_tree" s_check_tree p_check_tree) (T : Nm mg) (G_Shape_is_say : C_is_say P w K mg base C) (G_Shape_is_end : C_is_end P w K mg base C) (G_Shape_is_end_of_people : C_is_eop P w K mg base C) : C_check_tree P w K mg base C := by
  refine cal_P D sc_check_tree (fun Rs R h => by obtain ⟨_, _, _, _, _, _, _, _, _, _, rfl, _⟩ := h; rfl) fun f cdv A outer s H E hr => ⟨_, (pss_cons (ps_set (i := 3) sc_check_tree.nd rfl (Or.inl rfl) (pe_lst (pa_cons (pe_tup (pa_cons (pv 1) (pa_cons pe_int pa_nil))) pa_nil)))
  (pss_cons (ps_set (i := 4) sc_check_tree.nd rfl (Or.inl rfl) pe_int)
  (pss_one (ps_while PassesOwn.never (pt_cmpR op_gt (pe_callB (k_len K) (by rfl) T.len (by decide +kernel) (pa_cons (pv 3) pa_nil)) pe_int (nomark _)) (pss_cons (ps_asg (pe_bm0 PySem.F.plainAttrs_list PySem.F.slot_list_pop PySem.F.type_list_pop mt_pop (pv 3)) (pg_tup rfl (pgs_cons (pg_name (i := 5) sc_check_tree.nd rfl (Or.inl rfl)) (pgs_cons (pg_name (i := 6) sc_check_tree.nd rfl (Or.inl rfl)) pgs_nil))))
  (pss_cons (ps_set (i := 4) sc_check_tree.nd rfl (Or.inl rfl) (pe_op op_add (pv 4) pe_int))
  (pss_cons (ps_if (PW.pt (pw_or (pt_cmpR op_gt (pv 6) (pe_gi T.MOST_DEPTH (by rfl)) (nomark _)) (pw_or1 (pt_cmpR op_gt (pv 4) (pe_ifExp (pt_val (pv 2)) (pe_gi T.MOST_PEOPLE_TREES (by rfl)) (pe_gi T.MOST_TREES (by rfl))) (nomark _))))) (pss_one ps_never) pss_nil)
  (pss_one (ps_if (pt_val (pe_m (G_Shape_is_say.up (by decide)) hr (pv 0) (pa_cons (pv 5) pa_nil))) (pss_cons (ps_expr (pe_bm PySem.F.plainAttrs_list PySem.F.slot_list_append PySem.F.type_list_append mt_append (pv 3) (pa_cons (pe_tup (pa_cons (pe_ix (k_ix K) (pv 5) pe_int (fun _ _ => rfl)) (pa_cons (pe_op op_add (pv 6) pe_int) pa_nil))) pa_nil)))
  (pss_one (ps_expr (pe_bm PySem.F.plainAttrs_list PySem.F.slot_list_append PySem.F.type_list_append mt_append (pv 3) (pa_cons (pe_tup (pa_cons (pe_ix (k_ix K) (pv 5) pe_int (fun _ _ => rfl)) (pa_cons (pe_op op_add (pv 6) pe_int) pa_nil))) pa_nil))))) (pss_one (ps_if (pt_not (pt_ifExp (pt_val (pv 2)) (pt_val (pe_m (G_Shape_is_end_of_people.up (by decide)) hr (pv 0) (pa_cons (pv 5) pa_nil))) (pt_val (pe_m (G_Shape_is_end.up (by decide)) hr (pv 0) (pa_cons (pv 5) pa_nil))))) (pss_one ps_never) pss_nil))))))))))), ?_⟩
  rintro Rs R ⟨pp, ids, ns, cs, t0, so, hpp, ok, hht, hsz, rfl, rfl⟩ F Q q
  have pz : ∀ (F H : Hp), pu.I F H → (⟨pu, F, H⟩ : Zr).M.I F H := fun _ _ h => h
  refine ss_seq (ss_newL (ms := [itM K pp (t0, 1)]) (ea_one (ee_two (ee_var rfl) ee_int)) (by show 1 ≤ 100000; decide) fun p => ?_)
  refine sq_set (m := dt K (.int 0)) ee_int ?_
  refine ss_while (fun n σ H' => ∃ (ts : List (Tr × Nat)) (seen : Nat), At ⟨pu, F, H⟩ (ownL p (ts.map (itM K pp)) pu) [some (shapeM C ids ns cs), some (dt K (t0.D pp)), some (dt K (.bool pp)), some (rawv (.ref p)), some (dt K (.int (seen : Int))), none, none] σ H' ∧
    (∀ x ∈ ts, x.1.Ok ids ns cs ∧ x.2 + x.1.ht ≤ 101) ∧ seen + tsize ts ≤ 200 ∧ n = tsize ts) (fun σ H' a => ⟨_, [(t0, 1)], 0, a, by simp [ok]; omega, by simp [tsize]; omega, rfl⟩) ?_
  rintro n σ1 H1 ⟨ts, seen, a, hts, hseen, rfl⟩
  refine ⟨_, _, _, a, et_test (ee_gt (ee_lenO (ee_var rfl)) ee_int), fun hb => ?_, fun _ => ss_nx q⟩
  rcases List.eq_nil_or_concat ts with rfl | ⟨l, x, rfl⟩
  · simp at hb
  obtain ⟨t, d⟩ := x
  obtain ⟨tok, tht⟩ := hts (t, d) (by simp)
  have hl : ∀ y ∈ l, y.1.Ok ids ns cs ∧ y.2 + y.1.ht ≤ 101 := fun y hy => hts y (by simp [hy])
  rw [List.concat_eq_append] at hseen ⊢
  rw [tsize_snoc] at hseen ⊢
  have hlen : (l.map (itM K pp)).length < 1000 := by
    rw [List.length_map]
    have : ∀ l : List (Tr × Nat), l.length ≤ tsize l := by
      intro l
      induction l with
      | nil => exact Nat.le_refl _
      | cons y r ih =>
        have := y.1.size_pos
        show r.length + 1 ≤ y.1.size + tsize r
        omega
    have := this l
    omega
  rw [List.map_append]
  have hht1 : 0 < t.ht := by cases t <;> simp [Tr.ht]
  have hsz1 := t.size_pos
  refine ss_seq (ss_pop2 (ms := l.map (itM K pp)) (ee_var rfl) pz ?_)
  refine sq_set (ee_add (ee_var rfl) ee_int) ?_
  refine sq_no (b := false) (et_is (et_or (b := false) (et_test (ee_gt (ee_var rfl) (ee_c fun _ => .int 250))) fun _ => et_is (et_test (ee_gt (j := if pp then 200 else 40000) (ee_var rfl) (ee_if (a := pp) (et_B (ee_var rfl)) (fun e => by subst e; exact ee_c fun _ => .int 200) fun e => by subst e; exact ee_c fun _ => .int 40000))) ?_) ?_) rfl ?_
  · have : seen + 1 ≤ 200 := by simp at hseen; omega
    cases pp <;> simp <;> omega
  · simp; omega
  refine ss_if (b := t.isSay) (et_B (ee_meth (ee_var rfl) rfl (ea_one (ee_var rfl)) ⟨pp, ids, ns, cs, t, so, tok, rfl, rfl⟩)) (fun hs => ?_) fun hs => ?_
  · cases t with
    | fin as => cases hs
    | say i b f g =>
      obtain ⟨_, _, _, fok, gok⟩ := tok
      refine sq_append (m := itM K pp (g, d + 1)) (ee_var rfl) (ee_two (ee_ixT (ds := [.str "say", .int (i : Int), tabD b, f.D pp, g.D pp]) (j := 4) (ee_var rfl) ee_int rfl rfl) (ee_suc (ee_var rfl))) (by omega) pz ?_
      refine ss_append (m := itM K pp (f, d + 1)) (ee_var rfl) (ee_two (ee_ixT (ds := [.str "say", .int (i : Int), tabD b, f.D pp, g.D pp]) (j := 3) (ee_var rfl) ee_int rfl rfl) (ee_suc (ee_var rfl))) (by rw [List.length_append]; show _ + 1 < 90000; omega) pz ?_
      intro σ2 H2 a2
      have e : l.map (itM K pp) ++ [itM K pp (g, d + 1)] ++ [itM K pp (f, d + 1)] = (l ++ [(g, d + 1), (f, d + 1)]).map (itM K pp) := by simp
      rw [e] at a2
      simp only [Tr.ht] at tht
      have e2 : tsize (l ++ [(g, d + 1), (f, d + 1)]) = tsize l + g.size + f.size := by
        rw [show l ++ [(g, d + 1), (f, d + 1)] = (l ++ [(g, d + 1)]) ++ [(f, d + 1)] by simp, tsize_snoc, tsize_snoc]
      have e3 : (Tr.say i b f g).size = f.size + g.size + 1 := rfl
      rw [e3] at hseen
      refine ⟨tsize l + g.size + f.size, by simp [Tr.size]; omega, l ++ [(g, d + 1), (f, d + 1)], seen + 1, a2.le ?_, fun y hy => ?_, by rw [e2]; omega, e2.symm⟩
      · exact .cons (.cons (.cons (.cons (.cons (.drop (.drop .nil))))))
      · rcases List.mem_append.mp hy with h | h
        · exact hl y h
        · rcases List.mem_cons.mp h with rfl | h
          · exact ⟨gok, by show d + 1 + g.ht ≤ 101; have := Nat.le_max_right f.ht g.ht; omega⟩
          · rw [List.mem_singleton.mp h]
            exact ⟨fok, by show d + 1 + f.ht ≤ 101; have := Nat.le_max_left f.ht g.ht; omega⟩
  · cases t with
    | say i b f g => cases hs
    | fin as =>
      refine ss_no (b := false) (et_is (et_not (et_if (b := true) (a := pp) (et_B (ee_var rfl)) (fun e => ?_) fun e => ?_)) rfl) rfl ?_
      · subst e
        obtain ⟨n, rfl⟩ := hpp rfl
        exact et_B (ee_meth (ee_var rfl) rfl (ea_one (ee_var rfl)) ⟨n, ns, cs, as, so, tok, rfl, rfl⟩)
      · subst e
        have e := so.two rfl
        subst e
        exact et_B (ee_meth (ee_var rfl) rfl (ea_one (ee_var rfl)) ⟨ns, cs, as, so, tok, rfl, rfl⟩)
      intro σ2 H2 a2
      refine ⟨tsize l, by simp [Tr.size], l, seen + 1, a2.le ?_, hl, by (have e9 : ((Tr.fin as, d) : Tr × Nat).1.size = 1 := rfl); omega, rfl⟩
      exact .cons (.cons (.cons (.cons (.cons (.drop (.drop .nil))))))
def r_check_table (K : PySem.W.Frag) : List MP → MP → Prop := fun Rs R => ∃ (t : Tab) (X Y : Nat), IsTab X Y t ∧ 1 ≤ X ∧ X ≤ 100 ∧ 1 ≤ Y ∧ Y ≤ 100 ∧ Rs = [dt K (tabD t)] ∧ R = dt K .none
abbrev C_check_table (P : Program) (w : World) (K : PySem.W.Frag) (mg : Str → Option Value) (base : Heap) : Prop := Cal P w K mg base 3 "check_table" p_check_table (spP (r_check_table K))
theorem le_chain {a b c : Int} (h1 : a ≤ b) (h2 : b ≤ c) : (decide (a ≤ b) && decide (b ≤ c)) = true := by rw [decide_eq_true h1, decide_eq_true h2]; rfl
theorem cal_check_table (D : DefAt K mg "check_table" "check_table" s_check_table p_check_table) (T : Nm mg) (G_is_listed : C_is_listed P w K mg base) : C_check_table P w K mg base := by
  refine cal_P D sc_check_table (fun Rs R h => by obtain ⟨_, _, _, _, _, _, _, _, rfl, _⟩ := h; rfl) fun f cdv A outer s H E hr => ⟨_, (pss_cons (ps_if (PW.pt (pw_or (pt_not (pt_val (pe_callB (k_isi K) (by rfl) T.isinstance (by decide +kernel) (pa_cons (pv 0) (pa_cons (pe_bltn (v := .ty "tuple") (by rfl) T.tuple (by decide +kernel) rfl) pa_nil))))) (pw_or (pt_not (pt_chain op_le op_le pe_int (pe_callB (k_len K) (by rfl) T.len (by decide +kernel) (pa_cons (pv 0) pa_nil)) (pe_gi T.MOST_LINES (by rfl)))) (pw_or1 (pt_not (pt_val (pe_callB (k_isi K) (by rfl) T.isinstance (by decide +kernel) (pa_cons (pe_ix (k_ix K) (pv 0) pe_int (fun _ _ => rfl)) (pa_cons (pe_bltn (v := .ty "tuple") (by rfl) T.tuple (by decide +kernel) rfl) pa_nil))))))))) (pss_one ps_never) pss_nil)
  (pss_one (ps_for PassesOwn.never rfl (k_pt K (pv 0)) (pg_name (i := 1) sc_check_table.nd rfl (Or.inl rfl)) (pss_cons (ps_if (PW.pt (pw_or (pt_not (pt_val (pe_callB (k_isi K) (by rfl) T.isinstance (by decide +kernel) (pa_cons (pv 1) (pa_cons (pe_bltn (v := .ty "tuple") (by rfl) T.tuple (by decide +kernel) rfl) pa_nil))))) (pw_or (pt_not (pt_chain op_le op_le pe_int (pe_callB (k_len K) (by rfl) T.len (by decide +kernel) (pa_cons (pv 1) pa_nil)) (pe_gi T.MOST_LINES (by rfl)))) (pw_or1 (pt_cmpR op_ne (pe_callB (k_len K) (by rfl) T.len (by decide +kernel) (pa_cons (pv 1) pa_nil)) (pe_callB (k_len K) (by rfl) T.len (by decide +kernel) (pa_cons (pe_ix (k_ix K) (pv 0) pe_int (fun _ _ => rfl)) pa_nil)) (nomark _)))))) (pss_one ps_never) pss_nil)
  (pss_one (ps_if (pt_not (pt_val (pe_c (G_is_listed.up (by decide)) hr (by rfl) (pa_cons (pv 1) pa_nil)))) (pss_one ps_never) pss_nil)))))), ?_⟩
  rintro Rs R ⟨t, X, Y, ht, hX, hX2, hY, hY2, rfl, rfl⟩ F Q q
  obtain ⟨r0, h0⟩ : ∃ r, t[0]? = some r := ⟨t[0]'(by rw [ht.rows]; omega), List.getElem?_eq_getElem _⟩
  have h00 : (t.map rowD)[0]? = some (rowD r0) := by rw [List.getElem?_map, h0]; rfl
  have hr0 := ht.cols r0 (List.mem_of_getElem? h0)
  have ix0 : ∀ {Γ : Gm}, Γ[0]? = some (some (dt K (tabD t))) → EE pu Γ (tOp (rIx K) (tVar 0) (tC (.int 0))) (dt K (rowD r0)) := fun h => ee_ixT (ds := t.map rowD) (j := 0) (ee_var h) ee_int rfl h00
  refine sq_no (b := false) (et_is (et_or (et_not (et_B (ee_isi (d := tabD t) (ee_var rfl) kit_tt))) fun _ => et_or (et_not (et_test (K := K) (ee_chain ee_int (ee_lenT (ds := t.map rowD) (ee_var rfl)) ee_int rI0_le rI0_le))) fun _ => et_not (et_B (ee_isi (ix0 rfl) kit_tt))) ?_) rfl ?_
  · rw [le_chain (by rw [List.length_map, ht.rows]; omega) (by rw [List.length_map, ht.rows]; omega)]; rfl
  refine ss_forTG (ms := (t.map rowD).map (dt K)) (fun _ => [some (dt K (tabD t)), none]) (ee_imp (ee_var rfl) fun _ _ r => tpM_of r) (.refl _) (fun Z' le i m hm => ?_) (ss_nx q)
  obtain ⟨d, hd, rfl⟩ := map_get hm
  obtain ⟨r, hr1, rfl⟩ := map_get hd
  have hrc := ht.cols r (List.mem_of_getElem? hr1)
  refine sq_no (b := false) (et_is (et_or (et_not (et_B (ee_isi (d := rowD r) (ee_var rfl) kit_tt))) fun _ => et_or (et_not (et_test (K := K) (ee_chain ee_int (ee_lenT (ds := r.map .int) (ee_var rfl)) ee_int rI0_le rI0_le))) fun _ => et_test (ee_neI (ee_lenT (ds := r.map .int) (ee_var rfl)) (ee_lenT (ds := r0.map .int) (ix0 rfl)))) ?_) rfl ?_
  · rw [le_chain (by rw [List.length_map, hrc]; omega) (by rw [List.length_map, hrc]; omega)]; simp [hrc, hr0]
  refine ss_no (b := false) (et_is (et_not (et_B (ee_call (ea_one (ee_var rfl)) ⟨r, by omega, rfl, rfl⟩))) rfl) rfl ?_
  exact ss_le ss_at (.cons (.drop .nil))
def sz2 (a b : Nat) : Nat → Nat := fun p => if p = 0 then a else b
def talkD (c0 c1 : Nat) (t : Tr) : PyData := .tuple [.str "talk", .int (c0 : Int), .int (c1 : Int), t.D false]
structure TalkOk (X Y c0 c1 : Nat) (t : Tr) : Prop where
  X1 : 1 ≤ X ∧ X ≤ 100
  Y1 : 1 ≤ Y ∧ Y ≤ 100
  b0 : 1 ≤ c0 ∧ c0 ≤ 200
  b1 : 1 ≤ c1 ∧ c1 ≤ 200
  ok : t.Ok [0, 1] (sz2 X Y) (sz2 c0 c1)
  ht : t.ht ≤ 100
  sz : t.size ≤ 200
theorem TalkOk.sh {X Y c0 c1 : Nat} {t : Tr} (h : TalkOk X Y c0 c1 t) : ShOk false [0, 1] (sz2 X Y) (sz2 c0 c1) := by
  obtain ⟨h1, h2, h3, h4, _⟩ := h
  refine ⟨by decide, by decide, fun _ => rfl, fun p hp => ?_, fun p hp => ?_⟩ <;> unfold sz2 <;> split <;> omega
def r_check_talk (K : PySem.W.Frag) : List MP → MP → Prop := fun Rs R => ∃ (t : Tab) (X Y c0 c1 : Nat) (tr : Tr), IsTab X Y t ∧ TalkOk X Y c0 c1 tr ∧ Rs = [dt K (talkD c0 c1 tr), dt K (tabD t)] ∧ R = dt K .none
abbrev C_check_talk (P : Program) (w : World) (K : PySem.W.Frag) (mg : Str → Option Value) (base : Heap) : Prop := Cal P w K mg base 7 "check_talk" p_check_talk (spP (r_check_talk K))
theorem cal_check_talk (D : DefAt K mg "check_talk" "check_talk" s_check_talk p_check_talk) (T : Nm mg) (G_check_table : C_check_table P w K mg base) (G_is_between : C_is_between P w K mg base) (G_Shape : C_Shape P w K mg base C) (G_check_tree : C_check_tree P w K mg base C) : C_check_talk P w K mg base := by
  refine cal_P D sc_check_talk (fun Rs R h => by obtain ⟨_, _, _, _, _, _, _, _, rfl, _⟩ := h; rfl) fun f cdv A outer s H E hr => ⟨_, (pss_cons (ps_expr (pe_c (G_check_table.up (by decide)) hr (by rfl) (pa_cons (pv 1) pa_nil)))
  (pss_cons (ps_if (PW.pt (pw_or (pt_not (pt_val (pe_callB (k_isi K) (by rfl) T.isinstance (by decide +kernel) (pa_cons (pv 0) (pa_cons (pe_bltn (v := .ty "tuple") (by rfl) T.tuple (by decide +kernel) rfl) pa_nil))))) (pw_or (pt_cmpR op_ne (pe_callB (k_len K) (by rfl) T.len (by decide +kernel) (pa_cons (pv 0) pa_nil)) pe_int (nomark _)) (pw_or1 (pt_cmpR op_ne (pe_ix (k_ix K) (pv 0) pe_int (fun _ _ => rfl)) pe_str (nomark _)))))) (pss_one ps_never) pss_nil)
  (pss_cons (ps_if (PW.pt (pw_or (pt_not (pt_val (pe_c (G_is_between.up (by decide)) hr (by rfl) (pa_cons (pe_ix (k_ix K) (pv 0) pe_int (fun _ _ => rfl)) (pa_cons pe_int (pa_cons (pe_gi T.MOST_COINS (by rfl)) pa_nil)))))) (pw_or1 (pt_not (pt_val (pe_c (G_is_between.up (by decide)) hr (by rfl) (pa_cons (pe_ix (k_ix K) (pv 0) pe_int (fun _ _ => rfl)) (pa_cons pe_int (pa_cons (pe_gi T.MOST_COINS (by rfl)) pa_nil))))))))) (pss_one ps_never) pss_nil)
  (pss_cons (ps_set (i := 2) sc_check_talk.nd rfl (Or.inl rfl) (pe_k (G_Shape.up (by decide)) hr (by rfl) (pa_cons (pe_disp (pps_cons pe_int (pe_callB (k_len K) (by rfl) T.len (by decide +kernel) (pa_cons (pv 1) pa_nil)) (pps_cons pe_int (pe_callB (k_len K) (by rfl) T.len (by decide +kernel) (pa_cons (pe_ix (k_ix K) (pv 1) pe_int (fun _ _ => rfl)) pa_nil)) pps_nil)) (by rfl) (by rfl) (fun z => by cases z) (by decide)) (pa_cons (pe_disp (pps_cons pe_int (pe_ix (k_ix K) (pv 0) pe_int (fun _ _ => rfl)) (pps_cons pe_int (pe_ix (k_ix K) (pv 0) pe_int (fun _ _ => rfl)) pps_nil)) (by rfl) (by rfl) (fun z => by cases z) (by decide)) pa_nil))))
  (pss_one (ps_expr (pe_c (G_check_tree.up (by decide)) hr (by rfl) (pa_cons (pv 2) (pa_cons (pe_ix (k_ix K) (pv 0) pe_int (fun _ _ => rfl)) (pa_cons pe_bl pa_nil)))))))))), ?_⟩
  rintro Rs R ⟨t, X, Y, c0, c1, tr, ht, ok, rfl, rfl⟩ F Q q
  obtain ⟨r0, h0⟩ : ∃ r, t[0]? = some r := ⟨t[0]'(by rw [ht.rows]; exact ok.X1.1), List.getElem?_eq_getElem _⟩
  have h00 : (t.map rowD)[0]? = some (rowD r0) := by rw [List.getElem?_map, h0]; rfl
  have hr0 := ht.cols r0 (List.mem_of_getElem? h0)
  refine sq_drop (ee_call (ea_one (ee_var rfl)) ⟨t, X, Y, ht, ok.X1.1, ok.X1.2, ok.Y1.1, ok.Y1.2, rfl, rfl⟩) ?_
  have ixT : ∀ {Γ : Gm} (j : Nat) (d : PyData), Γ[0]? = some (some (dt K (talkD c0 c1 tr))) → [.str "talk", .int (c0 : Int), .int (c1 : Int), tr.D false][j]? = some d → EE pu Γ (tOp (rIx K) (tVar 0) (tC (.int (j : Int)))) (dt K d) := fun j d h e => ee_ixT (j := j) (ee_var h) ee_int rfl e
  refine sq_no (b := false) (et_is (et_or (et_not (et_B (ee_isi (d := talkD c0 c1 tr) (ee_var rfl) kit_tt))) fun _ => et_or (et_test (ee_neI (ee_lenT (ds := [.str "talk", .int (c0 : Int), .int (c1 : Int), tr.D false]) (ee_var rfl)) ee_int)) fun _ => et_test (ee_neS (ixT 0 _ rfl rfl) ee_str)) (by rfl)) rfl ?_
  have hc0 := ok.b0
  have hc1 := ok.b1
  refine sq_no (b := false) (et_is (et_or (et_not (et_B (ee_call (ea_cons (ixT 1 _ rfl rfl) (ea_cons ee_int (ea_cons ee_int ea_nil))) ⟨(c0 : Int), 1, 256, by omega, by omega, rfl, rfl⟩))) fun _ => et_not (et_B (ee_call (ea_cons (ixT 2 _ rfl rfl) (ea_cons ee_int (ea_cons ee_int ea_nil))) ⟨(c1 : Int), 1, 256, by omega, by omega, rfl, rfl⟩))) rfl) rfl ?_
  refine sq_set (m := shapeM C [0, 1] (sz2 X Y) (sz2 c0 c1)) (ee_make (ea_cons (m := dkM (shK [0, 1] fun p => (sz2 X Y p : Int))) (ee_disp01 (K := K) ee_int (ee_cast (ee_lenT (ds := t.map rowD) (ee_var rfl)) (by rw [List.length_map, ht.rows]; rfl)) ee_int (ee_cast (ee_lenT (ds := r0.map .int) (ee_ixT (ds := t.map rowD) (j := 0) (ee_var rfl) ee_int rfl h00)) (by rw [List.length_map, hr0]; rfl)))
    (ea_cons (m := dkM (shK [0, 1] fun p => (sz2 c0 c1 p : Int))) (ee_disp01 (K := K) ee_int (ixT 1 _ rfl rfl) ee_int (ixT 2 _ rfl rfl)) ea_nil)) ⟨_, _, rfl, rfl⟩) ?_
  refine ss_drop (ee_call (ea_cons (ee_var rfl) (ea_cons (ixT 3 _ rfl rfl) (ea_cons ee_bl ea_nil))) ⟨false, [0, 1], sz2 X Y, sz2 c0 c1, tr, ok.sh, (fun e => by cases e), ok.ok, ok.ht, ok.sz, rfl, rfl⟩) (ss_nx q)
end
end K46
/-! K46, part i: lists of numbers; check_people_talk. -/
namespace K46
open PySem L2
open Evl (Ex ex_l ex_t)
theorem lay_ints : ∀ is : List Int, PyData.canLayAll0 (is.map .int) = true
  | [] => by simp [PyData.canLayAll0]
  | i :: r => by simp [PyData.canLayAll0, PyData.canLay0, lay_ints r]
theorem dep_ints : ∀ is : List Int, PyData.depthAll (is.map .int) = 0
  | [] => by simp [PyData.depthAll]
  | i :: r => by simp [PyData.depthAll, PyData.depth, dep_ints r]
theorem shaped_of {d : PyData} (h : d.canLay0 = true) (h2 : d.depth ≤ 64) : SeqAt.shaped d = true := by unfold SeqAt.shaped; rw [h, decide_eq_true h2]; rfl
theorem eqv_same (d : PyData) (h : d.canLay0 = true) : PyData.eqv d d = true := SeqAt.eqv_refl d h
theorem lay_l (is : List Int) : (PyData.list (is.map .int)).canLay0 = true := by simp [PyData.canLay0, lay_ints]
theorem shaped_l (is : List Int) : SeqAt.shaped (.list (is.map .int)) = true := shaped_of (by simp [PyData.canLay0, lay_ints]) (by simp [PyData.depth, dep_ints])
theorem shaped_t (is : List Int) : SeqAt.shaped (.tuple (is.map .int)) = true := shaped_of (by simp [PyData.canLay0, lay_ints]) (by simp [PyData.depth, dep_ints])
section
variable {K : PySem.W.Frag} {M : Mode} {Γ : Gm} {ta tb te tl : TE} {tt : TT} {i : Int} {is : List Int} {neg : Bool}
theorem inV_ints (i : Int) : ∀ is : List Int, inV (.int i) (is.map V.int) = decide (i ∈ is)
  | [] => rfl
  | j :: r => by
    have ih := inV_ints i r
    unfold inV at ih ⊢
    rw [List.map_cons, List.any_cons, ih]
    show (j == i || decide (i ∈ r)) = decide (i ∈ j :: r)
    by_cases e : j = i
    · subst e; simp
    · have e2 : ¬ i = j := fun h => e h.symm
      simp [e, e2]
theorem flat_ints : ∀ is : List Int, (is.map V.int).all flatV = true
  | [] => rfl
  | _ :: r => by rw [List.map_cons, List.all_cons, flat_ints r]; rfl
theorem ee_in (ha : EE M Γ ta (dt K (.int i))) (hb : EE M Γ tb (dt K (.list (is.map .int)))) : EE M Γ (tOp (rIn K neg) ta tb) (dt K (.bool (if neg then !decide (i ∈ is) else decide (i ∈ is)))) :=
  ee_opv ha hb fun F H x y ok hx hy Q q => by
    obtain ⟨a, xs, rfl, hs, hall⟩ := dp_lst hy
    have e := dpAll_intsV hall
    subst e
    cases dp_int hx
    refine ⟨a, _, rfl, .inl (ex_l ok.ex hs), rfl, flat_ints is, q _ ?_⟩
    rw [inV_ints]
    exact .bl _
theorem filter_take_snoc {α : Type} {f : α → Bool} {l : List α} {k : Nat} {x : α} (h : l[k]? = some x) : (l.take (k + 1)).filter f = (l.take k).filter f ++ (if f x then [x] else []) := by
  rw [List.take_succ, h, List.filter_append]
  cases e : f x <;> simp [e]
/-- [x for x in a list of numbers if ..] -/
theorem ee_lcF {j : Nat} {vs : List Nat} (f : Int → Bool) (h : EE M Γ tl (dt K (.list (is.map .int)))) (hn : is.length ≤ 40000) (hj : j ∈ vs) (hlt : j < Γ.length)
    (ht : ∀ z ∈ is, ETb M ((wipeG Γ vs).set j (some (dt K (.int z)))) tt (f z)) : EE M Γ (tLc (iList K tl) (gName j) tt (tVar j) vs) (dt K (.list ((is.filter f).map .int))) :=
  ee_imp (ee_lcLN (ns := (is.map PyData.int).map (dt K)) (P := fun k ms => ms = ((is.take k).filter f).map fun z => dt K (.int z)) (B := fun k b => ∃ z, is[k]? = some z ∧ b = f z) (E := fun k m => ∃ z, is[k]? = some z ∧ m = dt K (.int z)) (ee_imp h fun _ _ r => lsM_of r) (by simpa using hn) hj rfl
    (fun k x hx => by
      obtain ⟨d, hd, rfl⟩ := map_get hx
      obtain ⟨z, hz, rfl⟩ := map_get hd
      exact et_imp (ht z (List.mem_of_getElem? hz)) fun b hb => ⟨z, hz, hb⟩)
    (fun k x hx _ => by
      obtain ⟨d, hd, rfl⟩ := map_get hx
      obtain ⟨z, hz, rfl⟩ := map_get hd
      refine ee_imp (ee_var (m := dt K (.int z)) ?_) fun _ _ r => ⟨_, ⟨z, hz, rfl⟩, r⟩
      rw [List.getElem?_set_self]
      have : ∀ (vs : List Nat) (Γ : Gm), (wipeG Γ vs).length = Γ.length := by
        intro vs
        induction vs with
        | nil => intro Γ; rfl
        | cons v vs ih => intro Γ; unfold wipeG; rw [List.length_set, ih]
      rw [this]; exact hlt)
    (fun k ms m _ e ⟨z, hz, hb⟩ ⟨z', hz', e2⟩ => by
      rw [hz] at hz'
      cases hz'
      rw [e, e2, filter_take_snoc hz, ← hb]
      simp)
    (fun k ms _ e ⟨z, hz, hb⟩ => by rw [e, filter_take_snoc hz, ← hb]; simp)) fun F v ⟨m, ⟨ms, e1, e2⟩, r⟩ => by
      subst e1; subst e2
      rw [List.length_map, List.length_map, List.take_length] at r
      exact lsM_to (by rw [List.map_map]; exact r)
end
def numsD (ns : List Nat) : PyData := .tuple (ns.map fun (p : Nat) => .int (p : Int))
def ids_ (ns : List Nat) : PyData := .list (ns.map fun (p : Nat) => .int (p : Int))
theorem nums_ints (ns : List Nat) : ns.map (fun (p : Nat) => PyData.int (p : Int)) = (ns.map fun (p : Nat) => (p : Int)).map .int := by rw [List.map_map]; rfl
def peopleD (cn : List Nat) (t : Tr) : PyData := .tuple [.str "people", numsD cn, t.D true]
/-- the sizes and the coins of the people, by their numbers -/
def at1 (l : List Nat) : Nat → Nat := fun p => l.getD (p - 1) 0
structure PplOk (n : Nat) (sz cn : List Nat) (t : Tr) : Prop where
  n1 : 2 ≤ n ∧ n ≤ 4
  ls : sz.length = n
  lc : cn.length = n
  bs : ∀ x ∈ sz, 1 ≤ x ∧ x ≤ 3
  bc : ∀ x ∈ cn, 1 ≤ x ∧ x ≤ 4
  ok : t.Ok (List.range' 1 n) (at1 sz) (at1 cn)
  ht : t.ht ≤ 100
  sz2 : t.size ≤ 200
structure GrpOk (n : Nat) (g : List Nat) : Prop where
  few : 0 < g.length ∧ g.length < n
  asc : g = (List.range' 1 n).filter fun p => decide (p ∈ g)
theorem at1_le {l : List Nat} {p c : Nat} (h : ∀ x ∈ l, x ≤ c) : at1 l p ≤ c := by
  unfold at1
  by_cases hp : p - 1 < l.length
  · rw [List.getD_eq_getElem?_getD, List.getElem?_eq_getElem hp]
    exact h _ (List.getElem_mem hp)
  · rw [List.getD_eq_getElem?_getD, List.getElem?_eq_none (by omega)]
    exact Nat.zero_le _
theorem PplOk.sh {n : Nat} {sz cn : List Nat} {t : Tr} (h : PplOk n sz cn t) : ShOk true (List.range' 1 n) (at1 sz) (at1 cn) :=
  ⟨(by rw [List.length_range']; have := h.n1; omega), List.nodup_range', (fun e => by cases e), fun p _ => Nat.le_trans (at1_le (c := 3) fun x hx => (h.bs x hx).2) (by decide), fun p _ => Nat.le_trans (at1_le (c := 4) fun x hx => (h.bc x hx).2) (by decide)⟩
section
variable {P : Program} {w : World} {K : PySem.W.Frag} {mg : Str → Option Value} {base : Heap} {C : Addr}
abbrev s_check_people_talk : Stmt := top 26
abbrev n_check_people_talk : List Str := ["talk", "sizes", "group", "coins", "one", "n", "people", "shape"]
abbrev p_check_people_talk : List Str := ["talk", "sizes", "group"]
def cs_check_people_talk_0 : Scope := { kind := PySem.ScopeKind.function, names := [ (PySem.Str.ofString ".0", PySem.NameKind.local), (PySem.Str.ofString "one", PySem.NameKind.local), (PySem.Str.ofString "is_between", PySem.NameKind.globalImplicit)], isGenerator := false, isCoroutine := false, more := [] : PySem.Scope }
def cs_check_people_talk_1 : Scope := { kind := PySem.ScopeKind.function, names := [ (PySem.Str.ofString ".0", PySem.NameKind.local), (PySem.Str.ofString "one", PySem.NameKind.local), (PySem.Str.ofString "is_between", PySem.NameKind.globalImplicit)], isGenerator := false, isCoroutine := false, more := [] : PySem.Scope }
def cs_check_people_talk_2 : Scope := { kind := PySem.ScopeKind.function, names := [ (PySem.Str.ofString ".0", PySem.NameKind.local), (PySem.Str.ofString "one", PySem.NameKind.local), (PySem.Str.ofString "sizes", PySem.NameKind.free)], isGenerator := false, isCoroutine := false, more := [] : PySem.Scope }
def cs_check_people_talk_3 : Scope := { kind := PySem.ScopeKind.function, names := [ (PySem.Str.ofString ".0", PySem.NameKind.local), (PySem.Str.ofString "one", PySem.NameKind.local), (PySem.Str.ofString "coins", PySem.NameKind.free)], isGenerator := false, isCoroutine := false, more := [] : PySem.Scope }
def cs_check_people_talk_4 : Scope := { kind := PySem.ScopeKind.function, names := [ (PySem.Str.ofString ".0", PySem.NameKind.local), (PySem.Str.ofString "one", PySem.NameKind.local), (PySem.Str.ofString "group", PySem.NameKind.free)], isGenerator := false, isCoroutine := false, more := [] : PySem.Scope }
theorem sc_check_people_talk : FnScope n_check_people_talk p_check_people_talk (defScope s_check_people_talk) := ⟨rfl, rfl, rfl, by decide +kernel, rfl, by decide +kernel, by decide +kernel⟩
/-- of a list of ints -/
def r_is_listedL (K : PySem.W.Frag) : List MP → MP → Prop := fun Rs R => ∃ is : List Int, is.length ≤ 1000 ∧ Rs = [dt K (.list (is.map .int))] ∧ R = dt K (.bool true)
abbrev C_is_listedL (P : Program) (w : World) (K : PySem.W.Frag) (mg : Str → Option Value) (base : Heap) : Prop := Cal P w K mg base 2 "is_listed" p_is_listed (spP (r_is_listedL K))
theorem cal_is_listedL (D : DefAt K mg "is_listed" "is_listed" s_is_listed p_is_listed) (T : Nm mg) (G_is_integer : C_is_integer P w K mg base) : C_is_listedL P w K mg base := by
  refine cal_P D sc_is_listed (fun Rs R h => by obtain ⟨i, _, rfl, _⟩ := h; rfl) fun f cdv A outer s H E hr => ⟨_, (pss_one (ps_ret (pe_and (pe_callB (k_isiT K) (by rfl) T.isinstance (by decide +kernel) (pa_cons (pv 0) (pa_cons (pe_tup (pa_cons (pe_bltn (v := .ty "list") (by rfl) T.list (by decide +kernel) rfl) (pa_cons (pe_bltn (v := .ty "tuple") (by rfl) T.tuple (by decide +kernel) rfl) pa_nil))) pa_nil))) (pe_one (pe_callB (k_all K) (by rfl) T.all (by decide +kernel) (pa_cons (pe_lc (own := [("value", 1)]) rfl sc_is_listed.nd (k_pl K (pv 0)) (blkOk_by (N := n_is_listed) (sc := defScope s_is_listed) (scope := cs_is_listed_0) (own := [("value", 1)]) (by decide +kernel)) (fun _ _ _ _ _ => (pg_name (i := 1) sc_is_listed.nd rfl (Or.inl rfl))) (fun _ _ _ _ _ => pts_nil) (fun _ _ _ _ _ => (pe_c (G_is_integer.up (by decide)) hr (by rfl) (pa_cons (pv 1) pa_nil)))) pa_nil)))))), ?_⟩
  rintro Rs R ⟨is, hl, rfl, rfl⟩ F Q q
  refine ss_ret (ee_andB (ee_isi2 (ee_var rfl) kit_ll kit_lt) fun _ => ee_allL (ee_var rfl) (by simp; omega) (by decide) fun i d hd => ?_) q
  obtain ⟨z, rfl⟩ := int_of hd
  exact ee_call (ea_cons (ee_var rfl) ea_nil) ⟨z, rfl, rfl⟩
def r_cpt (K : PySem.W.Frag) : List MP → MP → Prop := fun Rs R => ∃ (n : Nat) (sz cn g : List Nat) (t : Tr), PplOk n sz cn t ∧ GrpOk n g ∧ Rs = [dt K (peopleD cn t), dt K (numsD sz), dt K (ids_ g)] ∧ R = dt K .none
abbrev C_cpt (P : Program) (w : World) (K : PySem.W.Frag) (mg : Str → Option Value) (base : Heap) : Prop := Cal P w K mg base 7 "check_people_talk" p_check_people_talk (spP (r_cpt K))
theorem cal_cpt (D : DefAt K mg "check_people_talk" "check_people_talk" s_check_people_talk p_check_people_talk) (T : Nm mg) (G_is_between : C_is_between P w K mg base) (G_is_listedL : C_is_listedL P w K mg base) (G_Shape : C_Shape P w K mg base C) (G_check_tree : C_check_tree P w K mg base C) : C_cpt P w K mg base := by
  refine cal_P D sc_check_people_talk (fun Rs R h => by obtain ⟨_, _, _, _, _, _, _, rfl, _⟩ := h; rfl) fun f cdv A outer s H E hr => ⟨_, (pss_cons (ps_if (PW.pt (pw_or (pt_not (pt_val (pe_callB (k_isi K) (by rfl) T.isinstance (by decide +kernel) (pa_cons (pv 0) (pa_cons (pe_bltn (v := .ty "tuple") (by rfl) T.tuple (by decide +kernel) rfl) pa_nil))))) (pw_or (pt_cmpR op_ne (pe_callB (k_len K) (by rfl) T.len (by decide +kernel) (pa_cons (pv 0) pa_nil)) pe_int (nomark _)) (pw_or1 (pt_cmpR op_ne (pe_ix (k_ix K) (pv 0) pe_int (fun _ _ => rfl)) pe_str (nomark _)))))) (pss_one ps_never) pss_nil)
  (pss_cons (ps_set (i := 3) sc_check_people_talk.nd rfl (Or.inr rfl) (pe_ix (k_ix K) (pv 0) pe_int (fun _ _ => rfl)))
  (pss_cons (ps_if (PW.pt (pw_or (pt_not (pt_val (pe_callB (k_isi K) (by rfl) T.isinstance (by decide +kernel) (pa_cons (pv 3) (pa_cons (pe_bltn (v := .ty "tuple") (by rfl) T.tuple (by decide +kernel) rfl) pa_nil))))) (pw_or (pt_not (pt_chain op_le op_le pe_int (pe_callB (k_len K) (by rfl) T.len (by decide +kernel) (pa_cons (pv 3) pa_nil)) pe_int)) (pw_or1 (pt_not (pt_val (pe_callB (k_all K) (by rfl) T.all (by decide +kernel) (pa_cons (pe_lc (own := [("one", 4)]) rfl sc_check_people_talk.nd (k_pt K (pv 3)) (blkOk_by (N := n_check_people_talk) (sc := defScope s_check_people_talk) (scope := cs_check_people_talk_0) (own := [("one", 4)]) (by decide +kernel)) (fun _ _ _ _ _ => (pg_name (i := 4) sc_check_people_talk.nd rfl (Or.inl rfl))) (fun _ _ _ _ _ => pts_nil) (fun _ _ _ _ _ => (pe_c (G_is_between.up (by decide)) hr (by rfl) (pa_cons (pv 4) (pa_cons pe_int (pa_cons pe_int pa_nil)))))) pa_nil)))))))) (pss_one ps_never) pss_nil)
  (pss_cons (ps_set (i := 5) sc_check_people_talk.nd rfl (Or.inl rfl) (pe_callB (k_len K) (by rfl) T.len (by decide +kernel) (pa_cons (pv 3) pa_nil)))
  (pss_cons (ps_if (PW.pt (pw_or (pt_not (pt_val (pe_callB (k_isi K) (by rfl) T.isinstance (by decide +kernel) (pa_cons (pv 1) (pa_cons (pe_bltn (v := .ty "tuple") (by rfl) T.tuple (by decide +kernel) rfl) pa_nil))))) (pw_or (pt_cmpR op_ne (pe_callB (k_len K) (by rfl) T.len (by decide +kernel) (pa_cons (pv 1) pa_nil)) (pv 5) (nomark _)) (pw_or1 (pt_not (pt_val (pe_callB (k_all K) (by rfl) T.all (by decide +kernel) (pa_cons (pe_lc (own := [("one", 4)]) rfl sc_check_people_talk.nd (k_pt K (pv 1)) (blkOk_by (N := n_check_people_talk) (sc := defScope s_check_people_talk) (scope := cs_check_people_talk_1) (own := [("one", 4)]) (by decide +kernel)) (fun _ _ _ _ _ => (pg_name (i := 4) sc_check_people_talk.nd rfl (Or.inl rfl))) (fun _ _ _ _ _ => pts_nil) (fun _ _ _ _ _ => (pe_c (G_is_between.up (by decide)) hr (by rfl) (pa_cons (pv 4) (pa_cons pe_int (pa_cons pe_int pa_nil)))))) pa_nil)))))))) (pss_one ps_never) pss_nil)
  (pss_cons (ps_set (i := 6) sc_check_people_talk.nd rfl (Or.inl rfl) (pe_listRg rfl (by rfl) T.list (prg_2 (by rfl) T.range pe_int (pe_op op_add (pv 5) pe_int))))
  (pss_cons (ps_set (i := 7) sc_check_people_talk.nd rfl (Or.inl rfl) (pe_k (G_Shape.up (by decide)) hr (by rfl) (pa_cons (pe_dc (own := [("one", 4)]) rfl sc_check_people_talk.nd (k_pl K (pv 6)) (blkOk_by (N := n_check_people_talk) (sc := defScope s_check_people_talk) (scope := cs_check_people_talk_2) (own := [("one", 4)]) (by decide +kernel)) (fun _ _ _ _ _ => (pg_name (i := 4) sc_check_people_talk.nd rfl (Or.inl rfl))) (fun _ _ _ _ _ => pts_nil) (fun _ _ _ _ _ => (pv 4)) (fun _ _ _ _ _ => (pe_ix (k_ix K) (pv 1) (pe_op op_sub (pv 4) pe_int) (fun _ _ => rfl)))) (pa_cons (pe_dc (own := [("one", 4)]) rfl sc_check_people_talk.nd (k_pl K (pv 6)) (blkOk_by (N := n_check_people_talk) (sc := defScope s_check_people_talk) (scope := cs_check_people_talk_3) (own := [("one", 4)]) (by decide +kernel)) (fun _ _ _ _ _ => (pg_name (i := 4) sc_check_people_talk.nd rfl (Or.inl rfl))) (fun _ _ _ _ _ => pts_nil) (fun _ _ _ _ _ => (pv 4)) (fun _ _ _ _ _ => (pe_ix (k_ix K) (pv 3) (pe_op op_sub (pv 4) pe_int) (fun _ _ => rfl)))) pa_nil))))
  (pss_cons (ps_expr (pe_c (G_check_tree.up (by decide)) hr (by rfl) (pa_cons (pv 7) (pa_cons (pe_ix (k_ix K) (pv 0) pe_int (fun _ _ => rfl)) (pa_cons pe_bl pa_nil)))))
  (pss_one (ps_if (PW.pt (pw_or (pt_not (pt_val (pe_c (G_is_listedL.up (by decide)) hr (by rfl) (pa_cons (pv 2) pa_nil)))) (pw_or (pt_not (pt_chain op_lt op_lt pe_int (pe_callB (k_len K) (by rfl) T.len (by decide +kernel) (pa_cons (pv 2) pa_nil)) (pv 5))) (pw_or1 (pt_cmpR (k_neD K hr.units) (pe_callTy (k_lis K) (by rfl) T.list (by decide +kernel) (pa_cons (pv 2) pa_nil)) (pe_lc (own := [("one", 4)]) rfl sc_check_people_talk.nd (k_pl K (pv 6)) (blkOk_by (N := n_check_people_talk) (sc := defScope s_check_people_talk) (scope := cs_check_people_talk_4) (own := [("one", 4)]) (by decide +kernel)) (fun _ _ _ _ _ => (pg_name (i := 4) sc_check_people_talk.nd rfl (Or.inl rfl))) (fun _ _ _ _ _ => (pts_one (pt_cmpR (k_in K) (pv 4) (pv 2) (by rfl)))) (fun _ _ _ _ _ => (pv 4))) (nomark _)))))) (pss_one ps_never) pss_nil)))))))))), ?_⟩
  rintro Rs R ⟨n, sz, cn, g, t, ok, gok, rfl, rfl⟩ F Q q
  have hn := ok.n1
  have ixT : ∀ {Γ : Gm} (j : Nat) (d : PyData), Γ[0]? = some (some (dt K (peopleD cn t))) → [.str "people", numsD cn, t.D true][j]? = some d → EE pu Γ (tOp (rIx K) (tVar 0) (tC (.int (j : Int)))) (dt K d) := fun j d h e => ee_ixT (j := j) (ee_var h) ee_int rfl e
  refine sq_no (b := false) (et_is (et_or (et_not (et_B (ee_isi (d := peopleD cn t) (ee_var rfl) kit_tt))) fun _ => et_or (et_test (ee_neI (ee_lenT (ds := [.str "people", numsD cn, t.D true]) (ee_var rfl)) ee_int)) fun _ => et_test (ee_neS (ixT 0 _ rfl rfl) ee_str)) (by rfl)) rfl ?_
  refine sq_set (ixT 1 _ rfl rfl) ?_
  refine sq_no (b := false) (et_is (et_or (et_not (et_B (ee_isi (d := numsD cn) (ee_var rfl) kit_tt))) fun _ => et_or (et_not (et_test (K := K) (ee_chain ee_int (ee_lenT (ds := cn.map fun (p : Nat) => PyData.int (p : Int)) (ee_var rfl)) ee_int rI0_le rI0_le))) fun _ => et_not (et_B (ee_allT (ds := cn.map fun (p : Nat) => PyData.int (p : Int)) (ee_var rfl) (by rw [List.length_map, ok.lc]; omega) (by decide) fun i d hd => ?_))) ?_) rfl ?_
  · obtain ⟨z, hz, rfl⟩ := map_get hd
    have := ok.bc z (List.mem_of_getElem? hz)
    exact ee_call (ea_cons (ee_var rfl) (ea_cons ee_int (ea_cons ee_int ea_nil))) ⟨(z : Int), 1, 4, by omega, by omega, rfl, rfl⟩
  · rw [le_chain (by rw [List.length_map, ok.lc]; omega) (by rw [List.length_map, ok.lc]; omega)]; rfl
  refine sq_set (m := dt K (.int (n : Int))) (ee_cast (ee_lenT (ds := cn.map fun (p : Nat) => PyData.int (p : Int)) (ee_var rfl)) (by rw [List.length_map, ok.lc])) ?_
  refine sq_no (b := false) (et_is (et_or (et_not (et_B (ee_isi (d := numsD sz) (ee_var rfl) kit_tt))) fun _ => et_or (et_test (ee_neI (ee_lenT (ds := sz.map fun (p : Nat) => PyData.int (p : Int)) (ee_var rfl)) (ee_var rfl))) fun _ => et_not (et_B (ee_allT (ds := sz.map fun (p : Nat) => PyData.int (p : Int)) (ee_var rfl) (by rw [List.length_map, ok.ls]; omega) (by decide) fun i d hd => ?_))) ?_) rfl ?_
  · obtain ⟨z, hz, rfl⟩ := map_get hd
    have := ok.bs z (List.mem_of_getElem? hz)
    exact ee_call (ea_cons (ee_var rfl) (ea_cons ee_int (ea_cons ee_int ea_nil))) ⟨(z : Int), 1, 3, by omega, by omega, rfl, rfl⟩
  · simp [ok.ls]
  have er : ∀ n : Nat, ((List.range ((n : Int) + 1 - 1).toNat).map fun i => PyData.int (1 + (i : Nat))) = (List.range' 1 n).map fun (p : Nat) => PyData.int (p : Int) := fun n => by
    have e1 : ((n : Int) + 1 - 1).toNat = n := by omega
    rw [e1, List.range'_eq_map_range, List.map_map]
    apply List.map_congr_left
    intro a _
    show PyData.int (1 + (a : Int)) = PyData.int ((1 + a : Nat) : Int)
    rw [Int.natCast_add]; rfl
  refine sq_set (m := dt K (ids_ (List.range' 1 n))) (ee_cast (ee_lisRg (K := K) ee_int (ee_add (ee_var rfl) ee_int) (by omega)) (congrArg PyData.list (er n))) ?_
  have hL : (List.range' 1 n).length ≤ 1000 := by rw [List.length_range']; omega
  have get : ∀ {l : List Nat}, l.length = n → ∀ p ∈ List.range' 1 n, (l.map fun (p : Nat) => PyData.int (p : Int))[p - 1]? = some (.int ((at1 l p : Nat) : Int)) := fun {l} hl p hp => by
    obtain ⟨h1, h2⟩ := List.mem_range'_1.mp hp
    unfold at1
    rw [List.getElem?_map, List.getD_eq_getElem?_getD, List.getElem?_eq_getElem (by omega)]
    rfl
  have sub1 : ∀ p ∈ List.range' 1 n, (p : Int) - 1 = ((p - 1 : Nat) : Int) := fun p hp => by
    obtain ⟨h1, h2⟩ := List.mem_range'_1.mp hp
    omega
  refine sq_set (m := shapeM C (List.range' 1 n) (at1 sz) (at1 cn)) (ee_make (ea_cons (m := dkM (shK (List.range' 1 n) fun p => (at1 sz p : Int))) (ee_dcL (K := K) (ee_var rfl) hL List.nodup_range' (by decide) (fun p hp => ee_var rfl) fun p hp => ee_ixT (ds := sz.map fun (p : Nat) => PyData.int (p : Int)) (ee_var rfl) (ee_sub (ee_var rfl) ee_int) (sub1 p hp) (get ok.ls p hp))
    (ea_cons (m := dkM (shK (List.range' 1 n) fun p => (at1 cn p : Int))) (ee_dcL (K := K) (ee_var rfl) hL List.nodup_range' (by decide) (fun p hp => ee_var rfl) fun p hp => ee_ixT (ds := cn.map fun (p : Nat) => PyData.int (p : Int)) (ee_var rfl) (ee_sub (ee_var rfl) ee_int) (sub1 p hp) (get ok.lc p hp)) ea_nil)) ⟨_, _, rfl, rfl⟩) ?_
  refine sq_drop (ee_call (ea_cons (ee_var rfl) (ea_cons (ixT 2 _ rfl rfl) (ea_cons ee_bl ea_nil))) ⟨true, _, at1 sz, at1 cn, t, ok.sh, fun _ => ⟨n, rfl⟩, ok.ok, ok.ht, ok.sz2, rfl, rfl⟩) ?_
  have hgl := gok.few
  have eg : ids_ g = .list ((g.map fun (p : Nat) => (p : Int)).map .int) := by unfold ids_; rw [nums_ints]
  have ep : ids_ (List.range' 1 n) = .list (((List.range' 1 n).map fun (p : Nat) => (p : Int)).map .int) := by unfold ids_; rw [nums_ints]
  have ef : (((List.range' 1 n).map fun (p : Nat) => (p : Int)).filter fun z => decide (z ∈ g.map fun (p : Nat) => (p : Int))) = g.map fun (p : Nat) => (p : Int) := by
    conv => rhs; rw [gok.asc]
    rw [List.filter_map]
    congr 1
    apply List.filter_congr
    intro p hp
    show decide ((p : Int) ∈ g.map fun (p : Nat) => (p : Int)) = decide (p ∈ g)
    congr 1
    apply propext
    rw [List.mem_map]
    exact ⟨fun ⟨a, h, e⟩ => by rw [show p = a by omega]; exact h, fun h => ⟨p, h, rfl⟩⟩
  have vg : ∀ {Γ : Gm}, Γ[2]? = some (some (dt K (ids_ g))) → EE pu Γ (tVar 2) (dt K (.list ((g.map fun (p : Nat) => (p : Int)).map .int))) := fun h => ee_cast (ee_var h) eg
  have vp : ∀ {Γ : Gm}, Γ[6]? = some (some (dt K (ids_ (List.range' 1 n)))) → EE pu Γ (tVar 6) (dt K (.list (((List.range' 1 n).map fun (p : Nat) => (p : Int)).map .int))) := fun h => ee_cast (ee_var h) ep
  refine ss_no (b := false) (et_is (et_or (et_not (et_B (ee_call (ea_one (vg rfl)) ⟨_, by rw [List.length_map]; omega, rfl, rfl⟩))) fun _ => et_or (et_not (et_test (K := K) (ee_chain ee_int (ee_lenL (ds := g.map fun (p : Nat) => PyData.int (p : Int)) (ee_var rfl)) (ee_var rfl) rI0_lt rI0_lt))) fun _ => et_test (ee_neD (ee_lisOf (ds := (g.map fun (p : Nat) => (p : Int)).map .int) (vg rfl)) (ee_lcF (is := (List.range' 1 n).map fun (p : Nat) => (p : Int)) (fun z => decide (z ∈ g.map fun (p : Nat) => (p : Int))) (vp rfl) (by rw [List.length_map, List.length_range']; omega) (by decide) (Nat.le_of_ble_eq_true rfl) fun z hz => et_test (ee_in (neg := false) (ee_var rfl) (vg rfl))) (shaped_l _) (shaped_l _))) ?_) rfl (ss_nx q)
  rw [ef, eqv_same _ (lay_l _)]
  have h1 : decide ((0 : Int) < ((g.map fun (p : Nat) => PyData.int (p : Int)).length : Int)) = true := decide_eq_true (by rw [List.length_map]; omega)
  have h2 : decide (((g.map fun (p : Nat) => PyData.int (p : Int)).length : Int) < (n : Int)) = true := decide_eq_true (by rw [List.length_map]; omega)
  rw [h1, h2]
  rfl
end
end K46
/-! K46, part j: two loops in a comprehension, tuples joined, two owned lists. -/
namespace K46
open PySem L2
open Evl (Ex ex_l ex_t)
section
variable {K : PySem.W.Frag} {M : Mode} {Γ : Gm} {ta tb te tl : TE} {Z : Zr}
/-- t + u of tracked tuples of ints: the very objects may be keys -/
def tkM (is : List Int) : MP := ⟨fun F v => ∃ b, v = .ref b ∧ F b = some (.tup (is.map V.int)), fun e ⟨b, h1, h2⟩ => ⟨b, h1, e b _ h2⟩⟩
theorem tkM_dt {F : Hp} {v : V} {is : List Int} (h : (tkM is).R F v) : Dp K F v (.tuple (is.map .int)) := by
  obtain ⟨b, rfl, hb⟩ := h
  exact .tup (SqT.of hb) (dpAll_ints is)
theorem ee_tk {is : List Int} (h : EE M Γ te (tkM is)) : EE M Γ te (dt K (.tuple (is.map .int))) := ee_imp h fun _ _ r => tkM_dt r
theorem ee_tupK {t : TA} {is : List Int} (h : EA M Γ t (is.map fun i => dt K (.int i))) (hl : is.length ≤ 100000) : EE M Γ (tTup t) (tkM is) := fun F H σ en ok Q q =>
  h F H σ en ok _ fun vs F1 H1 p1 o1 r1 => by
    have e : vs = is.map V.int := by
      have r2 : PM F1 vs ((is.map PyData.int).map (dt K)) := by rw [List.map_map]; exact r1
      exact dpAll_intsV r2.data
    subst e
    refine ⟨Evl.sz_of (by rw [List.length_map]; exact hl), fun p hp => ?_⟩
    have pn : Pu0 F1 H1 (upd F1 p (.tup (is.map V.int))) (upd H1 p (.tup (is.map V.int))) := .new hp o1.ex
    exact q (.ref p) _ _ (p1.trans (pn.any M)) (o1.step pn (ex_upd o1.ex)) ⟨p, rfl, upd_same⟩
theorem ee_catK {a b : List Int} (ha : EE M Γ ta (tkM a)) (hb : EE M Γ tb (tkM b)) (hl : a.length + b.length ≤ 100000) : EE M Γ (tOp (rCatA K) ta tb) (tkM (a ++ b)) :=
  ee_op ha hb fun F H x y ok hx hy Q q => by
    obtain ⟨p1, rfl, h1⟩ := hx
    obtain ⟨p2, rfl, h2⟩ := hy
    refine ⟨p1, p2, _, _, rfl, rfl, SqT.of (ok.ex p1 _ h1), SqT.of (ok.ex p2 _ h2), Evl.sz_of (by rw [List.length_map, List.length_map]; exact hl), fun e => ?_, fun _ e => ?_, fun _ _ p hp => ?_⟩
    · have ea : a = [] := by cases a with | nil => rfl | cons _ _ => cases e
      subst ea
      exact q _ F H .refl ok ⟨p2, rfl, h2⟩
    · have eb : b = [] := by cases b with | nil => rfl | cons _ _ => cases e
      subst eb
      exact q _ F H .refl ok ⟨p1, rfl, by rw [List.append_nil]; exact h1⟩
    · have pn : Pu0 F H (upd F p (.tup (a.map V.int ++ b.map V.int))) (upd H p (.tup (a.map V.int ++ b.map V.int))) := .new hp ok.ex
      exact q _ _ _ (pn.any M) (ok.step pn (ex_upd ok.ex)) ⟨p, rfl, by rw [upd_same, List.map_append]⟩
/-- [e for x in a list for k in range(c)] -/
theorem ee_lc2LR {tr : TA} {j j1 : Nat} {vs vs1 : List Nat} {ns : List MP} {c : Nat} (f : Nat → Nat → MP) (h : EE M Γ tl (lsM K ns)) (hn : ns.length ≤ 200) (hc : c ≤ 200) (hj : j ∈ vs) (hj1 : j1 ∈ vs1)
    (hi : ∀ (i : Nat) m, ns[i]? = some m → EA M ((wipeG Γ vs).set j (some m)) tr [dt K (.int (c : Int))])
    (he : ∀ (i k : Nat) m, ns[i]? = some m → k < c → EE M ((wipeG ((wipeG Γ vs).set j (some m)) vs1).set j1 (some (dt K (.int (k : Int))))) te (f i k)) :
    EE M Γ (tLc2 (iList K tl) (gName j) tYes (iRng1 tr) (gName j1) tYes te vs vs1) (lsM K ((List.range ns.length).flatMap fun i => (List.range c).map (f i))) := fun F H σ en ok Q q =>
  h F H σ en ok _ fun v F1 H1 p1 o1 ⟨a, xs, e, hx, hall⟩ => by
    subst e
    refine ⟨a, rfl, ⟨xs, ex_l o1.ex hx⟩, fun D hD => ?_⟩
    have hlen : xs.length = ns.length := hall.length
    let P : Nat → Nat → List MP → Prop := fun i k ms => ms = ((List.range i).flatMap fun i => (List.range c).map (f i)) ++ (List.range k).map (f i)
    refine ⟨fun i m H => m = ns.length - i ∧ i ≤ ns.length ∧ LcW M F1 H1 F1 D (P i 0) (i * c) H, ⟨ns.length, rfl, Nat.zero_le _, by rw [Nat.zero_mul]; exact lcw_start o1 hD rfl⟩, ?_⟩
    rintro i m H2 ⟨rfl, hil, w⟩
    obtain ⟨hD0, F2, acc, ms, p2, _, o2, kF, kS, kH, kl, pm, kP⟩ := id w
    have hx2 : SqL K H2 a xs := ex_l (p2.fx.trans o2.ex) hx
    by_cases hlt : i < ns.length
    · have hg : ns[i]? = some ns[i] := List.getElem?_eq_getElem hlt
      obtain ⟨v, hv, hd⟩ := hall.get hg
      refine .inr ⟨⟨xs, xs[i]'(by omega), hx2, by rw [List.getElem?_eq_getElem (by omega)]⟩, LcW M F1 H1 F1 D (P (i + 1) 0) ((i + 1) * c), fun H' w' => ⟨ns.length - (i + 1), by omega, rfl, hlt, w'⟩, fun x H' y => ?_⟩
      obtain ⟨e, y⟩ := y
      subst e
      have hy := y xs hx2
      rw [hv] at hy
      cases hy
      refine ⟨wipe_set hj, yes_go ?_⟩
      have en2 : ∀ F', Ex F1 F' → En F' ((wipe σ vs).set j (some v)) ((wipeG Γ vs).set j (some ns[i])) := fun F' e' => (((en.mono p1.fx).mono e').wipe vs).set (MP.mono _ e' hd)
      refine hi i _ hg F2 _ _ (en2 F2 p2.fx) o2 _ fun us F3 H3 p3 o3 r3 => ?_
      cases r3 with
      | cons r3 r4 =>
        cases r4
        have kF3 := (keep_own p3 kF kS kH).1
        have kH3 := (keep_own p3 kF kS kH).2
        have hiB : (i + 1) * c = i * c + c := Nat.succ_mul i c
        have hiB2 : (i + 1) * c ≤ 40000 := Nat.le_trans (Nat.mul_le_mul (by omega : i + 1 ≤ 200) hc) (by omega)
        have ec : (c : Int).toNat = c := Int.toNat_natCast c
        refine ⟨(c : Int), by rw [dp_int r3], by omega, by omega, fun k m H => m = c - k ∧ k ≤ c ∧ LcW M F1 H1 F3 D (P i k) (i * c + k) H, ⟨c, rfl, Nat.zero_le _, hD0, F3, acc, ms, p2.trans p3, Ex.refl F3, o3, kF3, kS, kH3, kl, pm.mono p3.fx, kP⟩, ?_⟩
        rintro k m H4 ⟨rfl, hkl, w4⟩
        obtain ⟨_, F4, acc4, ms4, p4, x4, o4, kF4, kS4, kH4, kl4, pm4, kP4⟩ := id w4
        by_cases hkt : k < c
        · refine .inr ⟨by rw [ec]; exact hkt, LcW M F1 H1 F3 D (P i (k + 1)) (i * c + (k + 1)), fun H' w' => ⟨c - (k + 1), by omega, rfl, hkt, w'⟩, fun x H' y => ?_⟩
          obtain ⟨e, y⟩ := y
          subst e y
          have e0 : (0 : Int) + (k : Int) = (k : Int) := Int.zero_add _
          rw [e0]
          refine ⟨wipe_set hj1, ?_⟩
          have hb5 : i * c + k < 50000 := by omega
          exact lcw_turn (i := i * c + k) w4 hb5 (fun F5 e5 => ((((en2 F5 (p2.fx.trans (p3.fx.trans e5))).wipe vs1)).set (m := dt K (.int (k : Int))) (.int _))) et_yes (fun _ => ee_imp (he i k _ hg hkt) fun _ _ r => ⟨_, rfl, r⟩) (E := fun m => m = f i k) (B := fun b => b = true) (fun ms m hP _ hE => by
            show ms ++ [m] = _
            rw [hP, hE, range_snoc, List.append_assoc]) (fun ms hP hb => by cases hb)
        · have e : k = c := by omega
          refine .inl ⟨by rw [ec]; exact Nat.le_of_eq e.symm, ?_⟩
          refine ⟨hD0, F4, acc4, ms4, p4, p2.fx.trans (p3.fx.trans x4), o4, kF4, kS4, kH4, Nat.le_trans kl4 (by omega), pm4, ?_⟩
          show ms4 = _
          rw [kP4, e, List.range_succ, List.flatMap_append]
          simp
    · have e : i = ns.length := by omega
      subst e
      refine .inl ⟨⟨xs, hx2, by omega⟩, lcw_end (K := K) w fun v F2 H2 p2 o2 ⟨m, ⟨ms, e1, e2⟩, r⟩ => q v F2 H2 (p1.trans p2) o2 (by
        subst e1
        rw [e2] at r
        simpa using r)⟩
/-- [e for x in a list of things told by xs] -/
theorem ee_lcLX {α : Type} {j : Nat} {vs : List Nat} {xs : List α} {g h : α → PyData} (hl : EE M Γ tl (dt K (.list (xs.map g)))) (hn : xs.length ≤ 40000) (hj : j ∈ vs)
    (he : ∀ x ∈ xs, EE M ((wipeG Γ vs).set j (some (dt K (g x)))) te (dt K (h x))) : EE M Γ (tLc (iList K tl) (gName j) tYes te vs) (dt K (.list (xs.map h))) :=
  ee_imp (ee_lcLN (ns := (xs.map g).map (dt K)) (P := fun i ms => ms = (xs.take i).map fun x => dt K (h x)) (B := fun _ b => b = true) (E := fun i m => ∃ x, xs[i]? = some x ∧ m = dt K (h x)) (ee_imp hl fun _ _ r => lsM_of r) (by simpa using hn) hj rfl (fun _ _ _ => et_yes)
    (fun i x hx _ => by
      rw [List.getElem?_map, List.getElem?_map] at hx
      cases e : xs[i]? with
      | none => rw [e] at hx; cases hx
      | some d =>
        rw [e] at hx
        cases hx
        exact ee_imp (he d (List.mem_of_getElem? e)) fun _ _ r => ⟨_, ⟨d, rfl, rfl⟩, r⟩)
    (fun i ms m _ e _ ⟨d, e2, e3⟩ => by rw [e, e3, map_take_snoc e2]) (fun i ms _ _ e => by cases e)) fun F v ⟨m, ⟨ms, e1, e2⟩, r⟩ => by
      subst e1; subst e2
      rw [List.length_map, List.length_map, List.take_length] at r
      exact lsM_to (by rw [List.map_map]; exact r)
theorem ee_lcTX {α : Type} {j : Nat} {vs : List Nat} {xs : List α} {g h : α → PyData} (hl : EE M Γ tl (dt K (.tuple (xs.map g)))) (hn : xs.length ≤ 40000) (hj : j ∈ vs)
    (he : ∀ x ∈ xs, EE M ((wipeG Γ vs).set j (some (dt K (g x)))) te (dt K (h x))) : EE M Γ (tLc (iTup K tl) (gName j) tYes te vs) (dt K (.list (xs.map h))) :=
  ee_imp (ee_lcTN (ns := (xs.map g).map (dt K)) (P := fun i ms => ms = (xs.take i).map fun x => dt K (h x)) (B := fun _ b => b = true) (E := fun i m => ∃ x, xs[i]? = some x ∧ m = dt K (h x)) (ee_imp hl fun _ _ r => tpM_of r) (by simpa using hn) hj rfl (fun _ _ _ => et_yes)
    (fun i x hx _ => by
      rw [List.getElem?_map, List.getElem?_map] at hx
      cases e : xs[i]? with
      | none => rw [e] at hx; cases hx
      | some d =>
        rw [e] at hx
        cases hx
        exact ee_imp (he d (List.mem_of_getElem? e)) fun _ _ r => ⟨_, ⟨d, rfl, rfl⟩, r⟩)
    (fun i ms m _ e _ ⟨d, e2, e3⟩ => by rw [e, e3, map_take_snoc e2]) (fun i ms _ _ e => by cases e)) fun F v ⟨m, ⟨ms, e1, e2⟩, r⟩ => by
      subst e1; subst e2
      rw [List.length_map, List.length_map, List.take_length] at r
      exact lsM_to (by rw [List.map_map]; exact r)
theorem flat_z : ∀ is : List Int, (is.map V.int).all flatV = true
  | [] => rfl
  | _ :: r => by rw [List.map_cons, List.all_cons, flat_z r]; rfl
/-- xs.index(i), xs numbers -/
theorem ee_index {is : List Int} {i : Int} (ha : EE M Γ ta (dt K (.list (is.map .int)))) (hb : EE M Γ te (dt K (.int i))) (hi : i ∈ is) : EE M Γ (tBM K "list" (rIndex K) ta (tCons te tNil)) (dt K (.int ((is.idxOf i : Nat) : Int))) := fun F H σ en ok Q q =>
  ha F H σ en ok _ fun x F1 H1 p1 o1 r1 => by
    obtain ⟨a, xs, rfl, hs, hall⟩ := dp_lst r1
    have e := dpAll_intsV hall
    subst e
    refine ⟨Or.inl ⟨rfl, _, ex_l o1.ex hs⟩, hb F1 H1 σ (en.mono p1.fx) o1 _ fun y F2 H2 p2 o2 r2 => ?_⟩
    cases dp_int r2
    have hlt : is.idxOf i < is.length := List.idxOf_lt_length_iff.mpr hi
    refine ⟨a, _, _, is.idxOf i, .int i, rfl, rfl, ex_l (p2.fx.trans o2.ex) hs, rfl, ?_, ?_, ?_, fun m z' hm hz => ?_, q _ F2 H2 (p1.trans p2) o2 (.int _)⟩
    · exact flat_z is
    · rw [List.getElem?_map, List.getElem?_eq_getElem hlt, List.getElem_idxOf]; rfl
    · show (i == i) = true
      exact beq_self_eq_true i
    · rw [List.getElem?_map] at hz
      cases e : is[m]? with
      | none => rw [e] at hz; cases hz
      | some w =>
        rw [e] at hz
        cases hz
        show (w == i) = false
        have hml : m < is.length := (List.getElem?_eq_some_iff.mp e).1
        rw [List.getElem?_eq_getElem hml] at e
        cases e
        have h3 : m < is.findIdx (· == i) := hm
        simpa using List.not_of_lt_findIdx h3
/-- [e for x in a list of things], element i bears f i -/
theorem ee_lcLM {j : Nat} {vs : List Nat} {ns : List MP} (f : Nat → MP) (hl : EE M Γ tl (lsM K ns)) (hn : ns.length ≤ 40000) (hj : j ∈ vs) (he : ∀ (i : Nat) x, ns[i]? = some x → EE M ((wipeG Γ vs).set j (some x)) te (f i)) :
    EE M Γ (tLc (iList K tl) (gName j) tYes te vs) (lsM K ((List.range ns.length).map f)) :=
  ee_imp (ee_lcLN (P := fun i ms => ms = (List.range i).map f) (B := fun _ b => b = true) (E := fun i m => m = f i) hl hn hj rfl (fun _ _ _ => et_yes) (fun i x hx _ => ee_imp (he i x hx) fun _ _ r => ⟨_, rfl, r⟩)
    (fun i ms m _ e _ e2 => by rw [e, e2, range_snoc]) (fun i ms _ _ e => by cases e)) fun F v ⟨m, ⟨ms, e1, e2⟩, r⟩ => by subst e1; subst e2; exact r
/-- two owned lists change places -/
theorem ss_swap {p q : Addr} {ms ns : List MP} {N : St → Hp → Prop} (h : SS Z (ownL p ms (ownL q ns M)) Γ N) : SS Z (ownL q ns (ownL p ms M)) Γ N := fun σ H a => by
  refine h σ H ⟨?_, fun b s => ?_, fun b s => ?_, fun F' H' w => ?_⟩
  · obtain ⟨F, p0, o, e⟩ := a.ex
    refine ⟨F, p0, ⟨o.ex, fun b s => o.ds b ?_, fun b s => o.al b ?_, ?_⟩, e⟩
    · rcases s with s | s | s
      · exact .inr (.inl s)
      · exact .inl s
      · exact .inr (.inr s)
    · rcases s with s | s | s
      · exact .inr (.inl s)
      · exact .inl s
      · exact .inr (.inr s)
    · obtain ⟨⟨n1, x1⟩, ⟨n2, x2⟩, i⟩ := o.iv
      exact ⟨⟨fun s => s.elim (fun e => n1 (.inl e.symm)) n2, x2⟩, ⟨fun s => n1 (.inr s), x1⟩, i⟩
  · rcases a.sub b s with s | s | s
    · exact .inr (.inl s)
    · exact .inl s
    · exact .inr (.inr s)
  · refine a.own b ?_
    rcases s with s | s | s
    · exact .inr (.inl s)
    · exact .inl s
    · exact .inr (.inr s)
  · obtain ⟨⟨n1, x1⟩, ⟨n2, x2⟩, i⟩ := w
    exact a.iv F' H' ⟨⟨fun s => s.elim (fun e => n1 (.inl e.symm)) n2, x2⟩, ⟨fun s => n1 (.inr s), x1⟩, i⟩
structure Mode.Eqv (M N : Mode) : Prop where
  S : ∀ a, M.S a ↔ N.S a
  I : ∀ F H, M.I F H ↔ N.I F H
theorem Mode.Eqv.ok {M N : Mode} (e : M.Eqv N) {F H : Hp} (o : M.Ok F H) : N.Ok F H := ⟨o.ex, fun b s => o.ds b ((e.S b).mpr s), fun b s => o.al b ((e.S b).mpr s), (e.I F H).mp o.iv⟩
theorem Mode.Eqv.symm {M N : Mode} (e : M.Eqv N) : N.Eqv M := ⟨fun a => (e.S a).symm, fun F H => (e.I F H).symm⟩
theorem Mode.Eqv.pu {M N : Mode} (e : M.Eqv N) {F H F' H' : Hp} (p : Pu M.S F H F' H') : Pu N.S F H F' H' := p.wide fun a s => (e.S a).mp s
theorem ee_eqv {N : Mode} {m : MP} (e : M.Eqv N) (h : EE M Γ te m) : EE N Γ te m := fun F H σ en ok Q q => h F H σ en (e.symm.ok ok) Q fun v F' H' p o r => q v F' H' (e.pu p) (e.ok o) r
theorem et_eqv {N : Mode} {tt : TT} {P : Bool → Prop} (e : M.Eqv N) (h : ET M Γ tt P) : ET N Γ tt P := fun F H σ en ok Q q => h F H σ en (e.symm.ok ok) Q fun v F' H' p o r => q v F' H' (e.pu p) (e.ok o) r
theorem own_swap {p q : Addr} {ms ns : List MP} : (ownL p ms (ownL q ns M)).Eqv (ownL q ns (ownL p ms M)) := by
  refine ⟨fun a => ⟨fun s => ?_, fun s => ?_⟩, fun F H => ⟨fun w => ?_, fun w => ?_⟩⟩
  · rcases s with s | s | s
    · exact .inr (.inl s)
    · exact .inl s
    · exact .inr (.inr s)
  · rcases s with s | s | s
    · exact .inr (.inl s)
    · exact .inl s
    · exact .inr (.inr s)
  · obtain ⟨⟨n1, x1⟩, ⟨n2, x2⟩, i⟩ := w
    exact ⟨⟨fun s => s.elim (fun e => n1 (.inl e.symm)) n2, x2⟩, ⟨fun s => n1 (.inr s), x1⟩, i⟩
  · obtain ⟨⟨n1, x1⟩, ⟨n2, x2⟩, i⟩ := w
    exact ⟨⟨fun s => s.elim (fun e => n1 (.inl e.symm)) n2, x2⟩, ⟨fun s => n1 (.inr s), x1⟩, i⟩
end
end K46
/-! K46, part k: all_rows, Team, two_sided, two_sides. -/
namespace K46
open PySem L2
open Evl (Ex ex_l ex_t)
/-! ### rows of numbers below given ones -/
def rowsOf : List Nat → List (List Int)
  | ms => ms.foldl (fun rows m => rows.flatMap fun r => (List.range m).map fun (k : Nat) => r ++ [(k : Int)]) [[]]
def rowsStep (rows : List (List Int)) (m : Nat) : List (List Int) := rows.flatMap fun r => (List.range m).map fun (k : Nat) => r ++ [(k : Int)]
theorem rowsOf_eq (ms : List Nat) : rowsOf ms = ms.foldl rowsStep [[]] := rfl
/-- a row of numbers below ms -/
structure RowIn (ms : List Nat) (r : List Int) : Prop where
  len : r.length = ms.length
  lt : ∀ (i : Nat) x m, r[i]? = some x → ms[i]? = some m → 0 ≤ x ∧ x < m
theorem rows_step_in {ms : List Nat} {m : Nat} {rows : List (List Int)} (h : ∀ r ∈ rows, RowIn ms r) : ∀ r ∈ rowsStep rows m, RowIn (ms ++ [m]) r := by
  intro r hr
  unfold rowsStep at hr
  obtain ⟨r0, h0, hr⟩ := List.mem_flatMap.mp hr
  obtain ⟨k, hk, rfl⟩ := List.mem_map.mp hr
  have hk := List.mem_range.mp hk
  obtain ⟨h1, h2⟩ := h r0 h0
  refine ⟨by simp [h1], fun i x m' e1 e2 => ?_⟩
  by_cases hi : i < r0.length
  · rw [List.getElem?_append_left hi] at e1
    rw [List.getElem?_append_left (by omega)] at e2
    exact h2 i x m' e1 e2
  · rw [List.getElem?_append_right (by omega)] at e1 e2
    have e : i - r0.length = 0 := by
      cases h : i - r0.length with
      | zero => rfl
      | succ n => rw [h] at e1; simp at e1
    have e' : i - ms.length = 0 := by omega
    rw [e] at e1
    rw [e'] at e2
    cases e1
    cases e2
    omega
theorem rows_take_succ {ms : List Nat} {i m : Nat} (h : ms[i]? = some m) : rowsOf (ms.take (i + 1)) = rowsStep (rowsOf (ms.take i)) m := by
  rw [rowsOf_eq, rowsOf_eq, List.take_succ, h, List.foldl_append]; rfl
theorem rows_in (ms : List Nat) : ∀ r ∈ rowsOf ms, RowIn ms r := by
  have : ∀ i, i ≤ ms.length → ∀ r ∈ rowsOf (ms.take i), RowIn (ms.take i) r := by
    intro i
    induction i with
    | zero =>
      intro _ r hr
      rw [List.take_zero] at hr ⊢
      have : r = [] := by simpa [rowsOf] using hr
      subst this
      exact ⟨rfl, fun i x m e => by simp at e⟩
    | succ i ih =>
      intro hi r hr
      have hg : ms[i]? = some ms[i] := List.getElem?_eq_getElem (by omega)
      rw [rows_take_succ hg] at hr
      rw [List.take_succ, hg]
      exact rows_step_in (ih (by omega)) r hr
  have h := this ms.length (Nat.le_refl _)
  rw [List.take_length] at h
  exact h
theorem rows_len_step (rows : List (List Int)) (m : Nat) : (rowsStep rows m).length = rows.length * m := by
  unfold rowsStep
  induction rows with
  | nil => simp
  | cons r rs ih =>
    rw [List.flatMap_cons, List.length_append, ih, List.length_map, List.length_range, List.length_cons, Nat.succ_mul]; omega
def rowsD (rs : List (List Int)) : PyData := .list (rs.map rowD)
section
variable {P : Program} {w : World} {K : PySem.W.Frag} {mg : Str → Option Value} {base : Heap} {C : Addr}
abbrev s_all_rows : Stmt := top 27
abbrev n_all_rows : List Str := ["many", "rows", "one", "row", "number"]
abbrev p_all_rows : List Str := ["many"]
def cs_all_rows_0 : Scope := { kind := PySem.ScopeKind.function, names := [ (PySem.Str.ofString ".0", PySem.NameKind.local), (PySem.Str.ofString "row", PySem.NameKind.local), (PySem.Str.ofString "number", PySem.NameKind.local), (PySem.Str.ofString "range", PySem.NameKind.globalImplicit), (PySem.Str.ofString "one", PySem.NameKind.free)], isGenerator := false, isCoroutine := false, more := [] : PySem.Scope }
theorem sc_all_rows : FnScope n_all_rows p_all_rows (defScope s_all_rows) := ⟨rfl, rfl, rfl, by decide +kernel, rfl, by decide +kernel, by decide +kernel⟩
abbrev s_Team___init__ : Stmt := inClass (top 28) 0
abbrev n_Team___init__ : List Str := ["self", "people", "sizes", "coins", "one"]
abbrev p_Team___init__ : List Str := ["self", "people", "sizes", "coins"]
def cs_Team___init___0 : Scope := { kind := PySem.ScopeKind.function, names := [ (PySem.Str.ofString ".0", PySem.NameKind.local), (PySem.Str.ofString "one", PySem.NameKind.local), (PySem.Str.ofString "sizes", PySem.NameKind.free)], isGenerator := false, isCoroutine := false, more := [] : PySem.Scope }
def cs_Team___init___1 : Scope := { kind := PySem.ScopeKind.function, names := [ (PySem.Str.ofString ".0", PySem.NameKind.local), (PySem.Str.ofString "one", PySem.NameKind.local), (PySem.Str.ofString "coins", PySem.NameKind.free)], isGenerator := false, isCoroutine := false, more := [] : PySem.Scope }
theorem sc_Team___init__ : FnScope n_Team___init__ p_Team___init__ (defScope s_Team___init__) := ⟨rfl, rfl, rfl, by decide +kernel, rfl, by decide +kernel, by decide +kernel⟩
abbrev s_Team_told : Stmt := inClass (top 28) 1
abbrev n_Team_told : List Str := ["self", "person", "values", "at", "coin", "row"]
abbrev p_Team_told : List Str := ["self", "person", "values"]
def cs_Team_told_0 : Scope := { kind := PySem.ScopeKind.function, names := [ (PySem.Str.ofString ".0", PySem.NameKind.local), (PySem.Str.ofString "row", PySem.NameKind.cell), (PySem.Str.ofString "tuple", PySem.NameKind.globalImplicit), (PySem.Str.ofString "at", PySem.NameKind.free), (PySem.Str.ofString "self", PySem.NameKind.free), (PySem.Str.ofString "values", PySem.NameKind.free)], isGenerator := false, isCoroutine := false, more := [] : PySem.Scope }
def cs_Team_told_1 : Scope := { kind := PySem.ScopeKind.function, names := [ (PySem.Str.ofString ".0", PySem.NameKind.local), (PySem.Str.ofString "coin", PySem.NameKind.local), (PySem.Str.ofString "at", PySem.NameKind.free), (PySem.Str.ofString "row", PySem.NameKind.free), (PySem.Str.ofString "values", PySem.NameKind.free)], isGenerator := false, isCoroutine := false, more := [] : PySem.Scope }
theorem sc_Team_told : FnScope n_Team_told p_Team_told (defScope s_Team_told) := ⟨rfl, rfl, rfl, by decide +kernel, rfl, by decide +kernel, by decide +kernel⟩
abbrev s_two_sided : Stmt := top 29
abbrev n_two_sided : List Str := ["tree", "teams", "waiting", "made", "one", "join", "first", "second", "side", "answers", "team"]
abbrev p_two_sided : List Str := ["tree", "teams"]
def cs_two_sided_0 : Scope := { kind := PySem.ScopeKind.function, names := [ (PySem.Str.ofString ".0", PySem.NameKind.local), (PySem.Str.ofString "team", PySem.NameKind.local), (PySem.Str.ofString "one", PySem.NameKind.free)], isGenerator := false, isCoroutine := false, more := [] : PySem.Scope }
theorem sc_two_sided : FnScope n_two_sided p_two_sided (defScope s_two_sided) := ⟨rfl, rfl, rfl, by decide +kernel, rfl, by decide +kernel, by decide +kernel⟩
abbrev s_two_sides : Stmt := top 30
abbrev n_two_sides : List Str := ["people_talk", "sizes", "group", "coins", "others", "one", "teams"]
abbrev p_two_sides : List Str := ["people_talk", "sizes", "group"]
def cs_two_sides_0 : Scope := { kind := PySem.ScopeKind.function, names := [ (PySem.Str.ofString ".0", PySem.NameKind.local), (PySem.Str.ofString "one", PySem.NameKind.local), (PySem.Str.ofString "group", PySem.NameKind.free)], isGenerator := false, isCoroutine := false, more := [] : PySem.Scope }
theorem sc_two_sides : FnScope n_two_sides p_two_sides (defScope s_two_sides) := ⟨rfl, rfl, rfl, by decide +kernel, rfl, by decide +kernel, by decide +kernel⟩
def r_all_rows (K : PySem.W.Frag) : List MP → MP → Prop := fun Rs R => ∃ ms : List Nat, (∀ m ∈ ms, 1 ≤ m) ∧ (rowsOf ms).length ≤ 200 ∧ ms.length ≤ 100 ∧ (∀ m ∈ ms, m ≤ 200) ∧ Rs = [dt K (ids_ ms)] ∧ R = lsM K ((rowsOf ms).map tkM)
abbrev C_all_rows (P : Program) (w : World) (K : PySem.W.Frag) (mg : Str → Option Value) (base : Heap) : Prop := Cal P w K mg base 1 "all_rows" p_all_rows (spP (r_all_rows K))
theorem rows_mono {ms : List Nat} (h : ∀ m ∈ ms, 1 ≤ m) (i : Nat) (hi : i < ms.length) : (rowsOf (ms.take i)).length ≤ (rowsOf (ms.take (i + 1))).length := by
  have hg : ms[i]? = some ms[i] := List.getElem?_eq_getElem hi
  rw [rows_take_succ hg, rows_len_step]
  exact Nat.le_mul_of_pos_right _ (h _ (List.getElem_mem hi))
theorem rows_le {ms : List Nat} (h : ∀ m ∈ ms, 1 ≤ m) : ∀ k i, i + k = ms.length → (rowsOf (ms.take i)).length ≤ (rowsOf ms).length
  | 0, i, e => by rw [show i = ms.length by omega, List.take_length]; exact Nat.le_refl _
  | k + 1, i, e => Nat.le_trans (rows_mono h i (by omega)) (rows_le h k (i + 1) (by omega))
theorem flat_rows (rows : List (List Int)) (m : Nat) : ((List.range (rows.map tkM).length).flatMap fun i => (List.range m).map fun (k : Nat) => tkM ((rows.getD i []) ++ [(k : Int)])) = (rowsStep rows m).map tkM := by
  unfold rowsStep
  rw [List.map_flatMap, List.length_map]
  have : ∀ (rows : List (List Int)) (g : List Int → List MP), ((List.range rows.length).flatMap fun i => g (rows.getD i [])) = rows.flatMap g := by
    intro rows g
    induction rows with
    | nil => rfl
    | cons r rs ih =>
      rw [List.length_cons, List.range_succ_eq_map, List.flatMap_cons, List.flatMap_cons, List.flatMap_map]
      have e : (fun a => g ((r :: rs).getD (Nat.succ a) [])) = fun i => g (rs.getD i []) := by funext i; simp
      rw [e, ih]; simp
  rw [this rows fun r => (List.range m).map fun (k : Nat) => tkM (r ++ [(k : Int)])]
  congr 1
  funext r
  rw [List.map_map]; rfl
theorem cal_all_rows (D : DefAt K mg "all_rows" "all_rows" s_all_rows p_all_rows) (T : Nm mg) : C_all_rows P w K mg base := by
  refine cal_P D sc_all_rows (fun Rs R h => by obtain ⟨_, _, _, _, _, rfl, _⟩ := h; rfl) fun f cdv A outer s H E hr => ⟨_, (pss_cons (ps_set (i := 1) sc_all_rows.nd rfl (Or.inl rfl) (pe_lst (pa_cons (pe_tup pa_nil) pa_nil)))
  (pss_cons (ps_for PassesOwn.never rfl (k_pl K (pv 0)) (pg_name (i := 2) sc_all_rows.nd rfl (Or.inr rfl)) (pss_one (ps_setLc2 (vs1 := [4]) (i := 1) (own := [("row", 3), ("number", 4)]) rfl sc_all_rows.nd rfl rfl (sw_true rfl rfl rfl (by decide +kernel)) (k_pl K (pv 1)) (blkOk_by (N := n_all_rows) (sc := defScope s_all_rows) (scope := cs_all_rows_0) (own := [("row", 3), ("number", 4)]) (by decide +kernel)) (by decide) (fun _ _ _ _ _ => (pg_name (i := 3) sc_all_rows.nd rfl (Or.inl rfl))) (fun _ _ _ _ _ => pts_nil) (fun _ _ _ _ _ => (pi_range1 (by rfl) T.range (pa_cons (pv 2) pa_nil))) (fun _ _ _ _ _ => (pg_name (i := 4) sc_all_rows.nd rfl (Or.inl rfl))) (fun _ _ _ _ _ => pts_nil) (fun _ _ _ _ _ => (pe_op (k_catA K) (pv 3) (pe_tup (pa_cons (pv 4) pa_nil)))))))
  (pss_one (ps_ret (pv 1))))), ?_⟩
  rintro Rs R ⟨ms, h1, hlen, hm, hm2, rfl, rfl⟩ F Q q
  refine sq_set (m := lsM K ((rowsOf []).map tkM)) (ee_lstM (ea_one (ee_tupK (K := K) (is := []) ea_nil (by decide))) (by show 1 ≤ 100000; decide)) ?_
  refine ss_seq (ss_forLG (ms := (ms.map fun (p : Nat) => PyData.int (p : Int)).map (dt K)) (fun i => [some (dt K (ids_ ms)), some (lsM K ((rowsOf (ms.take i)).map tkM)), none, none, none]) (ee_imp (ee_var rfl) fun _ _ r => lsM_of r) (.refl _) (fun Z' le i m hm => ?_) ?_)
  · obtain ⟨d, hd, rfl⟩ := map_get hm
    obtain ⟨p, hp, rfl⟩ := map_get hd
    have hi : i < ms.length := (List.getElem?_eq_some_iff.mp hp).1
    have hrl := rows_le h1 (ms.length - i) i (by omega)
    refine ss_set (m := lsM K ((rowsOf (ms.take (i + 1))).map tkM)) (ee_imp (ee_lc2LR (c := p) (fun i2 k => tkM (((rowsOf (ms.take i)).getD i2 []) ++ [(k : Int)])) (ee_var rfl) (by rw [List.length_map]; omega) (hm2 p (List.mem_of_getElem? hp)) (by decide) (by decide) (fun i m hm => ea_one (ee_var rfl)) fun i2 k m hm hk => ?_) fun F v r => ?_) (ss_le ss_at ?_)
    · obtain ⟨r, hr1, rfl⟩ := map_get hm
      have eg : (rowsOf (ms.take i)).getD i2 [] = r := by rw [List.getD_eq_getElem?_getD, hr1]; rfl
      have hl := (rows_in _ r (List.mem_of_getElem? hr1)).len
      rw [eg]
      exact ee_catK (ee_var rfl) (ee_tupK (K := K) (is := [(k : Int)]) (ea_one (ee_var rfl)) (by show 1 ≤ 100000; decide)) (by rw [hl, List.length_take]; show _ + 1 ≤ 100000; omega)
    · rw [flat_rows, ← rows_take_succ hp] at r
      exact r
    · exact .cons (.cons (.drop (.cons (.cons .nil))))
  · refine ss_ret (ee_imp (ee_var rfl) fun F v r => ?_) q
    rw [List.length_map, List.length_map, List.take_length] at r
    exact r
/-! ### teams -/
structure TeamC (K : PySem.W.Frag) (C : Addr) : Prop where
  cl : Cls K C
  nP : NoAttr K C "people"
  nI : NoAttr K C "inputs"
  nC : NoAttr K C "coins"
abbrev rowsT (sz g : List Nat) : List (List Int) := rowsOf (g.map (at1 sz))
def teamF (K : PySem.W.Frag) (sz cn g : List Nat) : Fs := [("people", dt K (ids_ g)), ("inputs", dt K (rowsD (rowsT sz g))), ("coins", dt K (rowsD (rowsT cn g)))]
abbrev teamM (K : PySem.W.Frag) (C : Addr) (sz cn g : List Nat) : MP := insM C (teamF K sz cn g)
structure TeamOk (n : Nat) (sz cn g : List Nat) : Prop where
  ls : sz.length = n
  lc : cn.length = n
  g0 : 0 < g.length ∧ g.length ≤ 10
  gb : ∀ p ∈ g, 1 ≤ p ∧ p ≤ n
  nd : g.Nodup
  bs : ∀ x ∈ sz, 1 ≤ x ∧ x ≤ 4
  bc : ∀ x ∈ cn, 1 ≤ x ∧ x ≤ 4
  rs : (rowsT sz g).length ≤ 200
  rc : (rowsT cn g).length ≤ 200
theorem lsM_tk {F : Hp} {v : V} {rs : List (List Int)} (h : (lsM K (rs.map tkM)).R F v) : Dp K F v (rowsD rs) := by
  obtain ⟨a, xs, rfl, hs, pm⟩ := h
  refine .lst hs ?_
  clear hs
  induction rs generalizing xs with
  | nil => cases pm; exact .nil
  | cons r rs ih =>
    cases pm with
    | cons h1 h2 => exact .cons (tkM_dt h1) (ih _ h2)
theorem at1_mem {l : List Nat} {n p : Nat} (hl : l.length = n) (hp : 1 ≤ p ∧ p ≤ n) : at1 l p ∈ l := by
  unfold at1
  rw [List.getD_eq_getElem?_getD, List.getElem?_eq_getElem (by omega)]
  exact List.getElem_mem _
theorem at1_get {l : List Nat} {n p : Nat} (hl : l.length = n) (hp : 1 ≤ p ∧ p ≤ n) : l[p - 1]? = some (at1 l p) := by
  unfold at1
  rw [List.getD_eq_getElem?_getD, List.getElem?_eq_getElem (by omega)]
  rfl
def r_team (K : PySem.W.Frag) : List MP → Fs → Prop := fun Rs fs => ∃ n sz cn g, TeamOk n sz cn g ∧ Rs = [dt K (ids_ g), dt K (numsD sz), dt K (numsD cn)] ∧ fs = teamF K sz cn g
abbrev C_Team (P : Program) (w : World) (K : PySem.W.Frag) (mg : Str → Option Value) (base : Heap) (C : Addr) : Prop := CalC P w K mg base 2 C "Team" p_Team___init__ (spI C (r_team K))
theorem cal_Team (D : IniAt K mg C "Team" "Team.__init__" s_Team___init__ p_Team___init__) (T : Nm mg) (S : TeamC K C) (G_all_rows : C_all_rows P w K mg base) : C_Team P w K mg base C := by
  refine calC_I D sc_Team___init__ (fun Rs fs h => by obtain ⟨_, _, _, _, _, rfl, _⟩ := h; rfl) fun f cdv A outer s H E hr => ⟨_, (pss_cons (k_sfld K (pv 0) (pv 1) rfl)
  (pss_cons (k_sfld K (pv 0) (pe_c (G_all_rows.up (by decide)) hr (by rfl) (pa_cons (pe_lc (own := [("one", 4)]) rfl sc_Team___init__.nd (k_pl K (pv 1)) (blkOk_by (N := n_Team___init__) (sc := defScope s_Team___init__) (scope := cs_Team___init___0) (own := [("one", 4)]) (by decide +kernel)) (fun _ _ _ _ _ => (pg_name (i := 4) sc_Team___init__.nd rfl (Or.inl rfl))) (fun _ _ _ _ _ => pts_nil) (fun _ _ _ _ _ => (pe_ix (k_ix K) (pv 2) (pe_op op_sub (pv 4) pe_int) (fun _ _ => rfl)))) pa_nil)) rfl)
  (pss_one (k_sfld K (pv 0) (pe_c (G_all_rows.up (by decide)) hr (by rfl) (pa_cons (pe_lc (own := [("one", 4)]) rfl sc_Team___init__.nd (k_pl K (pv 1)) (blkOk_by (N := n_Team___init__) (sc := defScope s_Team___init__) (scope := cs_Team___init___1) (own := [("one", 4)]) (by decide +kernel)) (fun _ _ _ _ _ => (pg_name (i := 4) sc_Team___init__.nd rfl (Or.inl rfl))) (fun _ _ _ _ _ => pts_nil) (fun _ _ _ _ _ => (pe_ix (k_ix K) (pv 3) (pe_op op_sub (pv 4) pe_int) (fun _ _ => rfl)))) pa_nil)) rfl)))), ?_⟩
  rintro x Rs fs ⟨n, sz, cn, g, ok, rfl, rfl⟩ F Q k
  have sub1 : ∀ p ∈ g, (p : Int) - 1 = ((p - 1 : Nat) : Int) := fun p hp => by have := ok.gb p hp; omega
  have gl := ok.g0.2
  have elt : ∀ {M : Mode} {Γ : Gm} {j : Nat} {l : List Nat}, l.length = n → Γ[1]? = some (some (dt K (ids_ g))) → Γ[j]? = some (some (dt K (numsD l))) → j < 4 → 1 < j → Γ.length = 5 →
      EE M Γ (tLc (iList K (tVar 1)) (gName 4) tYes (tOp (rIx K) (tVar j) (tOp (rI0 fun i j => .int (i - j)) (tVar 4) (tC (.int 1)))) [4]) (dt K (ids_ (g.map (at1 l)))) := fun {M Γ j l} hl h1 h2 hj hj1 hΓ => by
    have e : ids_ (g.map (at1 l)) = .list ((g.map fun (p : Nat) => PyData.int (p : Int)).map fun d => match d with | .int i => .int ((at1 l i.toNat : Nat) : Int) | d => d) := by
      unfold ids_; rw [List.map_map, List.map_map]; rfl
    rw [e]
    refine ee_lcLD _ (ee_var h1) (by rw [List.length_map]; omega) (by decide) fun i d hd => ?_
    obtain ⟨p, hp, rfl⟩ := map_get hd
    have hp := List.mem_of_getElem? hp
    have hw : ∀ k, k ≠ 4 → ((wipeG Γ [4]).set 4 (some (dt K (.int (p : Int)))))[k]? = Γ[k]? := fun k hk => by
      rw [List.getElem?_set_ne (fun e => hk e.symm)]
      unfold wipeG
      rw [List.getElem?_set_ne (fun e => hk e.symm)]; rfl
    refine ee_ixT (ds := l.map fun (p : Nat) => PyData.int (p : Int)) (j := p - 1) (ee_var (by rw [hw j (by omega)]; exact h2)) (ee_sub (ee_var (m := dt K (.int (p : Int))) (by rw [List.getElem?_set_self (by unfold wipeG wipeG; rw [List.length_set]; omega)])) ee_int) (sub1 p hp) ?_
    rw [List.getElem?_map, at1_get hl (ok.gb p hp)]
    rfl
  have b1 : ∀ {l : List Nat}, l.length = n → (∀ x ∈ l, 1 ≤ x ∧ x ≤ 4) → ∀ m ∈ g.map (at1 l), 1 ≤ m ∧ m ≤ 4 := fun {l} hl hb m hm => by
    obtain ⟨p, hp, rfl⟩ := List.mem_map.mp hm
    exact hb _ (at1_mem hl (ok.gb p hp))
  refine ss_seq (ss_fld (ee_var rfl) (ee_var rfl) S.cl S.nP (by decide) (fun _ _ h => h) (ss_seq (ss_fld (m := dt K (rowsD (rowsT sz g))) (ee_imp (ee_call (ea_one (elt ok.ls rfl rfl (by decide) (by decide) rfl)) ⟨_, fun m hm => (b1 ok.ls ok.bs m hm).1, ok.rs, by rw [List.length_map]; omega, fun m hm => by have := (b1 ok.ls ok.bs m hm).2; omega, rfl, rfl⟩) fun F v r => lsM_tk r) (ee_var rfl) S.cl S.nI (by show 1 < 900; decide) (fun _ _ h => h)
    (ss_fld (m := dt K (rowsD (rowsT cn g))) (ee_imp (ee_call (ea_one (elt ok.lc rfl rfl (by decide) (by decide) rfl)) ⟨_, fun m hm => (b1 ok.lc ok.bc m hm).1, ok.rc, by rw [List.length_map]; omega, fun m hm => by have := (b1 ok.lc ok.bc m hm).2; omega, rfl, rfl⟩) fun F v r => lsM_tk r) (ee_var rfl) S.cl S.nC (by show 2 < 900; decide) (fun _ _ h => h) (ss_iniEnd k)))))
/-! ### told -/
def cell (v : Tab) (x r : Int) : Int := (v.getD x.toNat []).getD r.toNat 0
def toldT (sz cn g : List Nat) (p : Nat) (vals : Tab) : Tab := (rowsT sz g).map fun x => (rowsT cn g).map fun r => cell vals (x.getD (g.idxOf p) 0) (r.getD (g.idxOf p) 0)
theorem cell_get {n c : Nat} {v : Tab} {x r : Int} (h : IsTab n c v) (hx : 0 ≤ x ∧ x < n) (hr : 0 ≤ r ∧ r < c) : ∃ row, v[x.toNat]? = some row ∧ row[r.toNat]? = some (cell v x r) := by
  have h1 : x.toNat < v.length := by rw [h.rows]; omega
  refine ⟨v[x.toNat], List.getElem?_eq_getElem h1, ?_⟩
  have h2 : r.toNat < v[x.toNat].length := by rw [h.cols _ (List.getElem_mem h1)]; omega
  unfold cell
  rw [List.getD_eq_getElem?_getD, List.getD_eq_getElem?_getD, List.getElem?_eq_getElem h1]
  show v[x.toNat][r.toNat]? = some ((v[x.toNat][r.toNat]?).getD 0)
  rw [List.getElem?_eq_getElem h2]
  rfl
theorem row_get {sz g : List Nat} {n p : Nat} {x : List Int} (hl : sz.length = n) (hp : p ∈ g) (hx : x ∈ rowsT sz g) : x[g.idxOf p]? = some (x.getD (g.idxOf p) 0) ∧ 0 ≤ x.getD (g.idxOf p) 0 ∧ x.getD (g.idxOf p) 0 < at1 sz p := by
  obtain ⟨h1, h2⟩ := rows_in _ x hx
  have hlt : g.idxOf p < g.length := List.idxOf_lt_length_iff.mpr hp
  rw [List.length_map] at h1
  have e : x[g.idxOf p]? = some (x.getD (g.idxOf p) 0) := by
    rw [List.getD_eq_getElem?_getD, List.getElem?_eq_getElem (by omega)]; rfl
  refine ⟨e, h2 _ _ (at1 sz p) e ?_⟩
  rw [List.getElem?_map, List.getElem?_eq_getElem hlt, List.getElem_idxOf]
  rfl
theorem told_tab {sz cn g : List Nat} {p : Nat} {vals : Tab} : IsTab (rowsT sz g).length (rowsT cn g).length (toldT sz cn g p vals) :=
  ⟨by unfold toldT; rw [List.length_map], fun r hr => by
    unfold toldT at hr
    obtain ⟨x, _, rfl⟩ := List.mem_map.mp hr
    rw [List.length_map]⟩
theorem idx_cast (p : Nat) : ∀ g : List Nat, (g.map fun (p : Nat) => (p : Int)).idxOf (p : Int) = g.idxOf p
  | [] => rfl
  | a :: r => by
    rw [List.map_cons, List.idxOf_cons, List.idxOf_cons, idx_cast p r]
    have : ((a : Int) == (p : Int)) = (a == p) := by
      by_cases h : a = p
      · subst h; simp
      · rw [beq_eq_false_iff_ne.mpr h, beq_eq_false_iff_ne.mpr (by omega)]
    rw [this]
def r_told (K : PySem.W.Frag) (C : Addr) : List MP → MP → Prop := fun Rs R => ∃ n sz cn g p vals, TeamOk n sz cn g ∧ p ∈ g ∧ IsTab (at1 sz p) (at1 cn p) vals ∧ Rs = [teamM K C sz cn g, dt K (.int (p : Int)), dt K (tabD vals)] ∧ R = dt K (tabD (toldT sz cn g p vals))
abbrev C_told (P : Program) (w : World) (K : PySem.W.Frag) (mg : Str → Option Value) (base : Heap) (C : Addr) : Prop := CalM P w K mg base 1 C "told" p_Team_told (spP (r_told K C))
theorem cal_told (D : MetAt K C "told" "Team.told" s_Team_told p_Team_told) (T : Nm mg) (S : TeamC K C) : C_told P w K mg base C := by
  refine calM_P D sc_Team_told (fun Rs R h => by obtain ⟨_, _, _, _, _, _, _, _, _, rfl, _⟩ := h; rfl) fun f cdv A outer s H E hr => ⟨_, (pss_cons (ps_set (i := 3) sc_Team_told.nd rfl (Or.inr rfl) (pe_bm PySem.F.plainAttrs_list PySem.F.slot_list_index PySem.F.type_list_index mt_index (k_fld K (pv 0) rfl) (pa_cons (pv 1) pa_nil)))
  (pss_one (ps_ret (pe_callTy (k_tup K) (by rfl) T.tuple (by decide +kernel) (pa_cons (pe_lc (own := [("row", 5)]) rfl sc_Team_told.nd (k_pl K (k_fld K (pv 0) rfl)) (blkOk_by (N := n_Team_told) (sc := defScope s_Team_told) (scope := cs_Team_told_0) (own := [("row", 5)]) (by decide +kernel)) (fun _ _ _ _ _ => (pg_name (i := 5) sc_Team_told.nd rfl (Or.inr rfl))) (fun _ _ _ _ _ => pts_nil) (fun _ _ _ _ _ => (pe_callTy (k_tup K) (by rfl) T.tuple (by decide +kernel) (pa_cons (pe_lc (own := [("coin", 4)]) rfl sc_Team_told.nd (k_pl K (k_fld K (pv 0) rfl)) (blkOk_by (N := n_Team_told) (sc := relS cs_Team_told_0 (defScope s_Team_told)) (scope := cs_Team_told_1) (own := [("coin", 4)]) (by decide +kernel)) (fun _ _ _ _ _ => (pg_name (i := 4) sc_Team_told.nd rfl (Or.inl rfl))) (fun _ _ _ _ _ => pts_nil) (fun _ _ _ _ _ => (pe_ix (k_ix K) (pe_ix (k_ix K) (pv 2) (pe_ix (k_ix K) (pv 5) (pv 3) (fun _ _ => rfl)) (fun _ _ => rfl)) (pe_ix (k_ix K) (pv 4) (pv 3) (fun _ _ => rfl)) (fun _ _ => rfl)))) pa_nil)))) pa_nil))))), ?_⟩
  rintro Rs R ⟨n, sz, cn, g, p, vals, ok, hp, ht, rfl, rfl⟩ F Q q
  have eg : ids_ g = .list ((g.map fun (p : Nat) => (p : Int)).map .int) := by unfold ids_; rw [nums_ints]
  refine sq_set (m := dt K (.int ((g.idxOf p : Nat) : Int))) (ee_cast (ee_index (is := g.map fun (p : Nat) => (p : Int)) (ee_cast (ee_fld (m := dt K (ids_ g)) (ee_var rfl) S.cl S.nP rfl) eg) (ee_var rfl) (List.mem_map.mpr ⟨p, hp, rfl⟩)) (by rw [idx_cast])) ?_
  refine ss_ret (ee_tupOf (ds := (toldT sz cn g p vals).map rowD) (ee_cast (ee_lcLX (xs := rowsT sz g) (g := rowD) (h := fun x => rowD ((rowsT cn g).map fun r => cell vals (x.getD (g.idxOf p) 0) (r.getD (g.idxOf p) 0))) (ee_fld (ee_var rfl) S.cl S.nI rfl) (by have := ok.rs; omega) (by decide) fun x hx => ?_) (by unfold toldT; rw [List.map_map]; rfl))) q
  show EE pu _ _ (dt K (.tuple (((rowsT cn g).map fun r => cell vals (x.getD (g.idxOf p) 0) (r.getD (g.idxOf p) 0)).map .int)))
  refine ee_tupOf (ee_cast (ee_lcLX (xs := rowsT cn g) (g := rowD) (h := fun r => .int (cell vals (x.getD (g.idxOf p) 0) (r.getD (g.idxOf p) 0))) (ee_fld (ee_var rfl) S.cl S.nC rfl) (by have := ok.rc; omega) (by decide) fun r hr => ?_) (by rw [List.map_map]; rfl))
  obtain ⟨x1, x2⟩ := row_get ok.ls hp hx
  obtain ⟨r1, r2⟩ := row_get ok.lc hp hr
  obtain ⟨row, h1, h2⟩ := cell_get ht x2 r2
  refine ee_ixT (ds := row.map .int) (j := (r.getD (g.idxOf p) 0).toNat) (ee_ixT (ds := vals.map rowD) (j := (x.getD (g.idxOf p) 0).toNat) (ee_var rfl) (ee_ixT (ds := x.map .int) (ee_var rfl) (ee_var rfl) rfl (by rw [List.getElem?_map, x1]; rfl)) (by omega) (by rw [List.getElem?_map, h1]; rfl)) (ee_ixT (ds := r.map .int) (ee_var rfl) (ee_var rfl) rfl (by rw [List.getElem?_map, r1]; rfl)) (by omega) (by rw [List.getElem?_map, h2]; rfl)
end
end K46
/-! K46, part l: two_sided, two_sides. -/
namespace K46
open PySem L2
open Evl (Ex ex_l ex_t)
/-! ### the talk of two sides -/
def toSides (sz cn g0 g1 : List Nat) : Tr → Tr
  | .fin as => .fin [toldT sz cn g0 (g0.headD 0) (as.getD (g0.headD 0 - 1) []), toldT sz cn g1 (g1.headD 0) (as.getD (g1.headD 0 - 1) [])]
  | .say p b f s => .say (if p ∈ g0 then 0 else 1) (toldT sz cn (if p ∈ g0 then g0 else g1) p b) (toSides sz cn g0 g1 f) (toSides sz cn g0 g1 s)
/-- what waits: a tree, or a join -/
inductive Wt where
  | tree (t : Tr)
  | join (i : Nat) (b : Tab)
def wrun (sz cn g0 g1 : List Nat) : List Wt → List Tr → List Tr
  | [], made => made
  | .tree t :: r, made => wrun sz cn g0 g1 r (toSides sz cn g0 g1 t :: made)
  | .join i b :: r, x :: y :: made => wrun sz cn g0 g1 r (.say i b x y :: made)
  | .join _ _ :: _, _ => []
def wsize : List Wt → Nat
  | [] => 0
  | .tree t :: r => 2 * t.size + wsize r
  | .join _ _ :: r => 1 + wsize r
def wItem (K : PySem.W.Frag) : Wt → MP
  | .tree t => tpM K [dt K (t.D true), dt K .none]
  | .join i b => tpM K [dt K .none, dt K (.tuple [.int (i : Int), tabD b])]
def wOk (ids : List Nat) (ns cs : Nat → Nat) : Wt → Prop
  | .tree t => t.Ok ids ns cs
  | .join _ _ => True
abbrev wMs (K : PySem.W.Frag) (ws : List Wt) : List MP := ws.reverse.map (wItem K)
abbrev tMs (K : PySem.W.Frag) (ts : List Tr) : List MP := ts.reverse.map fun t => dt K (t.D false)
theorem wMs_cons (K : PySem.W.Frag) (w : Wt) (ws : List Wt) : wMs K (w :: ws) = wMs K ws ++ [wItem K w] := by unfold wMs; rw [List.reverse_cons, List.map_append]; rfl
theorem tMs_cons (K : PySem.W.Frag) (t : Tr) (ts : List Tr) : tMs K (t :: ts) = tMs K ts ++ [dt K (t.D false)] := by unfold tMs; rw [List.reverse_cons, List.map_append]; rfl
/-- the group and the others -/
structure TwoOk (n : Nat) (sz cn g0 g1 : List Nat) : Prop where
  t0 : TeamOk n sz cn g0
  t1 : TeamOk n sz cn g1
  all : ∀ p, 1 ≤ p → p ≤ n → p ∈ g0 ∨ p ∈ g1
theorem ShOk_ppl {n : Nat} : ∀ p ∈ List.range' 1 n, 1 ≤ p ∧ p ≤ n := fun p hp => by
  obtain ⟨h1, h2⟩ := List.mem_range'_1.mp hp
  omega
section
variable {P : Program} {w : World} {K : PySem.W.Frag} {mg : Str → Option Value} {base : Heap} {C : Addr}
def r_two_sided (K : PySem.W.Frag) (C : Addr) : List MP → MP → Prop := fun Rs R => ∃ n sz cn g0 g1 t, TwoOk n sz cn g0 g1 ∧ t.Ok (List.range' 1 n) (at1 sz) (at1 cn) ∧ t.size ≤ 200 ∧ Rs = [dt K (t.D true), lsM K [teamM K C sz cn g0, teamM K C sz cn g1]] ∧ R = dt K ((toSides sz cn g0 g1 t).D false)
abbrev C_two_sided (P : Program) (w : World) (K : PySem.W.Frag) (mg : Str → Option Value) (base : Heap) (C : Addr) : Prop := Cal P w K mg base 2 "two_sided" p_two_sided (spP (r_two_sided K C))
theorem cal_two_sided (D : DefAt K mg "two_sided" "two_sided" s_two_sided p_two_sided) (T : Nm mg) (S : TeamC K C) (G_Team_told : C_told P w K mg base C) : C_two_sided P w K mg base C := by
  refine cal_P D sc_two_sided (fun Rs R h => by obtain ⟨_, _, _, _, _, _, _, _, _, rfl, _⟩ := h; rfl) fun f cdv A outer s H E hr => ⟨_, (pss_cons (ps_set (i := 2) sc_two_sided.nd rfl (Or.inl rfl) (pe_lst (pa_cons (pe_tup (pa_cons (pv 0) (pa_cons pe_non pa_nil))) pa_nil)))
  (pss_cons (ps_set (i := 3) sc_two_sided.nd rfl (Or.inl rfl) (pe_lst pa_nil))
  (pss_cons (ps_while PassesOwn.never (pt_cmpR op_gt (pe_callB (k_len K) (by rfl) T.len (by decide +kernel) (pa_cons (pv 2) pa_nil)) pe_int (nomark _)) (pss_cons (ps_asg (pe_bm0 PySem.F.plainAttrs_list PySem.F.slot_list_pop PySem.F.type_list_pop mt_pop (pv 2)) (pg_tup rfl (pgs_cons (pg_name (i := 4) sc_two_sided.nd rfl (Or.inr rfl)) (pgs_cons (pg_name (i := 5) sc_two_sided.nd rfl (Or.inl rfl)) pgs_nil))))
  (pss_one (ps_if (pt_cmpR op_isN (pv 4) pe_non (nomark _)) (pss_cons (ps_set (i := 6) sc_two_sided.nd rfl (Or.inl rfl) (pe_bm0 PySem.F.plainAttrs_list PySem.F.slot_list_pop PySem.F.type_list_pop mt_pop (pv 3)))
  (pss_cons (ps_set (i := 7) sc_two_sided.nd rfl (Or.inl rfl) (pe_bm0 PySem.F.plainAttrs_list PySem.F.slot_list_pop PySem.F.type_list_pop mt_pop (pv 3)))
  (pss_one (ps_expr (pe_bm PySem.F.plainAttrs_list PySem.F.slot_list_append PySem.F.type_list_append mt_append (pv 3) (pa_cons (pe_tup (pa_cons pe_str (pa_cons (pe_ix (k_ix K) (pv 5) pe_int (fun _ _ => rfl)) (pa_cons (pe_ix (k_ix K) (pv 5) pe_int (fun _ _ => rfl)) (pa_cons (pv 6) (pa_cons (pv 7) pa_nil)))))) pa_nil)))))) (pss_one (ps_if (pt_cmpR op_eq (pe_ix (k_ix K) (pv 4) pe_int (fun _ _ => rfl)) pe_str (nomark _)) (pss_cons (ps_set (i := 8) sc_two_sided.nd rfl (Or.inl rfl) (pe_ifExp (pt_cmpR (k_in K) (pe_ix (k_ix K) (pv 4) pe_int (fun _ _ => rfl)) (k_fld K (pe_ix (k_ix K) (pv 1) pe_int (fun _ _ => rfl)) rfl) (by rfl)) pe_int pe_int))
  (pss_cons (ps_expr (pe_bm PySem.F.plainAttrs_list PySem.F.slot_list_append PySem.F.type_list_append mt_append (pv 2) (pa_cons (pe_tup (pa_cons pe_non (pa_cons (pe_tup (pa_cons (pv 8) (pa_cons (pe_m (G_Team_told.up (by decide)) hr (pe_ix (k_ix K) (pv 1) (pv 8) (fun _ _ => rfl)) (pa_cons (pe_ix (k_ix K) (pv 4) pe_int (fun _ _ => rfl)) (pa_cons (pe_ix (k_ix K) (pv 4) pe_int (fun _ _ => rfl)) pa_nil))) pa_nil))) pa_nil))) pa_nil)))
  (pss_cons (ps_expr (pe_bm PySem.F.plainAttrs_list PySem.F.slot_list_append PySem.F.type_list_append mt_append (pv 2) (pa_cons (pe_tup (pa_cons (pe_ix (k_ix K) (pv 4) pe_int (fun _ _ => rfl)) (pa_cons pe_non pa_nil))) pa_nil)))
  (pss_one (ps_expr (pe_bm PySem.F.plainAttrs_list PySem.F.slot_list_append PySem.F.type_list_append mt_append (pv 2) (pa_cons (pe_tup (pa_cons (pe_ix (k_ix K) (pv 4) pe_int (fun _ _ => rfl)) (pa_cons pe_non pa_nil))) pa_nil))))))) (pss_cons (ps_setLc (i := 9) (own := [("team", 10)]) rfl sc_two_sided.nd rfl rfl (sw_true rfl rfl rfl (by decide +kernel)) (k_pl K (pv 1)) (blkOk_by (N := n_two_sided) (sc := defScope s_two_sided) (scope := cs_two_sided_0) (own := [("team", 10)]) (by decide +kernel)) (fun _ _ _ _ _ => (pg_name (i := 10) sc_two_sided.nd rfl (Or.inl rfl))) (fun _ _ _ _ _ => pts_nil) (fun _ _ _ _ _ => (pe_m (G_Team_told.up (by decide)) hr (pv 10) (pa_cons (pe_ix (k_ix K) (k_fld K (pv 10) rfl) pe_int (fun _ _ => rfl)) (pa_cons (pe_ix (k_ix K) (pe_ix (k_ix K) (pv 4) pe_int (fun _ _ => rfl)) (pe_op op_sub (pe_ix (k_ix K) (k_fld K (pv 10) rfl) pe_int (fun _ _ => rfl)) pe_int) (fun _ _ => rfl)) pa_nil)))))
  (pss_one (ps_expr (pe_bm PySem.F.plainAttrs_list PySem.F.slot_list_append PySem.F.type_list_append mt_append (pv 3) (pa_cons (pe_tup (pa_cons pe_str (pa_cons (pe_ix (k_ix K) (pv 9) pe_int (fun _ _ => rfl)) (pa_cons (pe_ix (k_ix K) (pv 9) pe_int (fun _ _ => rfl)) pa_nil)))) pa_nil)))))))))))
  (pss_one (ps_ret (pe_ix (k_ix K) (pv 3) pe_int (fun _ _ => rfl))))))), ?_⟩
  rintro Rs R ⟨n, sz, cn, g0, g1, t0, ok, tok, tsz, rfl, rfl⟩ F Q q
  have pz : ∀ {M : Mode} (F H : Hp), M.I F H → (⟨pu, F, H⟩ : Zr).M.I F H := fun _ _ _ => trivial
  refine ss_seq (ss_newL (ms := wMs K [.tree t0]) (ea_one (ee_two (ee_var rfl) ee_non)) (by show 1 ≤ 100000; decide) fun pw => ?_)
  refine ss_seq (ss_newL (ms := tMs K []) ea_nil (by show 0 ≤ 100000; decide) fun pm => ?_)
  refine ss_seq (ss_while (fun m σ H' => ∃ (ws : List Wt) (made : List Tr), At ⟨pu, F, H⟩ (ownL pm (tMs K made) (ownL pw (wMs K ws) pu)) [some (dt K (t0.D true)), some (lsM K [teamM K C sz cn g0, teamM K C sz cn g1]), some (rawv (.ref pw)), some (rawv (.ref pm)), none, none, none, none, none, none, none] σ H' ∧
    (∀ x ∈ ws, wOk (List.range' 1 n) (at1 sz) (at1 cn) x) ∧ wrun sz cn g0 g1 ws made = [toSides sz cn g0 g1 t0] ∧ m = wsize ws ∧ made.length + wsize ws ≤ 1000) (fun σ H' a => ⟨_, [.tree t0], [], a, by simp [wOk, tok], rfl, rfl, by show 0 + (2 * t0.size + 0) ≤ 1000; omega⟩) ?_)
  rintro m σ1 H1 ⟨ws, made, a, hws, hrun, rfl, hsz⟩
  have wlen : ∀ ws : List Wt, ws.length ≤ wsize ws := by
    intro ws
    induction ws with
    | nil => exact Nat.le_refl _
    | cons x r ih =>
      cases x with
      | tree t => have := t.size_pos; show r.length + 1 ≤ 2 * t.size + wsize r; omega
      | join i b => show r.length + 1 ≤ 1 + wsize r; omega
  refine ⟨_, _, decide ((0 : Int) < ((wMs K ws).length : Int)), a, et_test (K := K) (ee_gt (ee_eqv own_swap (ee_lenO (ee_var rfl))) ee_int), fun hb => ?_, fun hb => ?_⟩
  · cases ws with
    | nil => simp at hb
    | cons x r =>
      rw [wMs_cons]
      have hr : ∀ y ∈ r, wOk (List.range' 1 n) (at1 sz) (at1 cn) y := fun y hy => hws y (List.mem_cons_of_mem _ hy)
      have hlw : (wMs K r).length < 80000 := by
        have := wlen r
        rw [List.length_map, List.length_reverse]
        cases x <;> simp [wsize] at hsz <;> omega
      have hlm : (tMs K made).length < 80000 := by
        rw [List.length_map, List.length_reverse]
        omega
      refine ss_seq (ss_swap ?_)
      cases x with
      | join i b =>
        refine ss_pop2 (m1 := dt K .none) (m2 := dt K (.tuple [.int (i : Int), tabD b])) (ee_var rfl) pz (ss_swap ?_)
        refine ss_if (b := true) (et_test (ee_isN (d := .none) (ee_var rfl))) (fun _ => ?_) fun h => nomatch h
        match made, hrun with
        | [], hrun => cases hrun
        | [_], hrun => cases hrun
        | t1 :: t2 :: made, hrun =>
          rw [tMs_cons, tMs_cons] at *
          refine ss_seq (ss_pop1 (ee_var rfl) pz ?_)
          refine ss_seq (ss_pop1 (ee_var rfl) pz ?_)
          refine ss_append (m := dt K ((Tr.say i b t1 t2).D false)) (ee_var rfl) (ee_tup (ds := [.str "say", .int (i : Int), tabD b, t1.D false, t2.D false]) (ea_cons ee_str (ea_cons (ee_ixT (ds := [.int (i : Int), tabD b]) (j := 0) (ee_var rfl) ee_int rfl rfl) (ea_cons (ee_ixT (ds := [.int (i : Int), tabD b]) (j := 1) (ee_var rfl) ee_int rfl rfl) (ea_cons (ee_var rfl) (ea_cons (ee_var rfl) ea_nil))))) (by show 5 ≤ 100000; decide)) (by rw [List.length_map, List.length_reverse]; simp at hsz; omega) pz ?_
          intro σ2 H2 a2
          rw [← tMs_cons] at a2
          refine ⟨wsize r, by show wsize r < 1 + wsize r; omega, r, .say i b t1 t2 :: made, a2.le ?_, hr, hrun, rfl, by simp [wsize] at hsz ⊢; omega⟩
          exact .cons (.cons (.cons (.cons (.drop (.drop (.drop (.drop (.cons (.cons (.cons .nil))))))))))
      | tree t =>
        have hto := hws (.tree t) List.mem_cons_self
        refine ss_pop2 (m1 := dt K (t.D true)) (m2 := dt K .none) (ee_var rfl) pz (ss_swap ?_)
        refine ss_if (b := false) (et_is (et_test (ee_isN (ee_var rfl))) (by cases t <;> rfl)) (fun h => nomatch h) fun _ => ?_
        cases t with
        | say p b f g =>
          obtain ⟨hp, hb, _, fok, gok⟩ := hto
          have hpn := ShOk_ppl p hp
          have ixT : ∀ {M : Mode} {Γ : Gm} (j : Nat) (d : PyData), Γ[4]? = some (some (dt K (Tr.D true (.say p b f g)))) → [.str "say", .int (p : Int), tabD b, f.D true, g.D true][j]? = some d → EE M Γ (tOp (rIx K) (tVar 4) (tC (.int (j : Int)))) (dt K d) := fun j d h e => ee_ixT (j := j) (ee_var h) ee_int rfl e
          have eg : ids_ g0 = .list ((g0.map fun (p : Nat) => (p : Int)).map .int) := by unfold ids_; rw [nums_ints]
          have memc : decide ((p : Int) ∈ g0.map fun (p : Nat) => (p : Int)) = decide (p ∈ g0) := by
            congr 1
            apply propext
            rw [List.mem_map]
            exact ⟨fun ⟨a, h, e⟩ => by rw [show p = a by omega]; exact h, fun h => ⟨p, h, rfl⟩⟩
          obtain ⟨sd, gs, esd, egs, hgs, hts, hpg⟩ : ∃ (sd : Nat) (gs : List Nat), sd = (if p ∈ g0 then 0 else 1) ∧ gs = (if p ∈ g0 then g0 else g1) ∧ [teamM K C sz cn g0, teamM K C sz cn g1][sd]? = some (teamM K C sz cn gs) ∧ TeamOk n sz cn gs ∧ p ∈ gs := by
            by_cases h : p ∈ g0
            · exact ⟨0, g0, by rw [if_pos h], by rw [if_pos h], rfl, ok.t0, h⟩
            · exact ⟨1, g1, by rw [if_neg h], by rw [if_neg h], rfl, ok.t1, (ok.all p hpn.1 hpn.2).resolve_left h⟩
          refine ss_if (b := true) (et_test (ee_eqS (ixT 0 _ rfl rfl) ee_str)) (fun _ => ?_) fun h => nomatch h
          refine sq_set (m := dt K (.int (sd : Int))) (ee_if (a := decide (p ∈ g0)) (et_is (et_test (ee_in (neg := false) (ixT 1 _ rfl rfl) (ee_cast (ee_fld (m := dt K (ids_ g0)) (ee_ixLM (j := 0) (ee_var rfl) ee_int rfl rfl) S.cl S.nP rfl) eg))) memc) (fun h => by rw [esd, if_pos (of_decide_eq_true h)]; exact ee_int) fun h => by rw [esd, if_neg (of_decide_eq_false h)]; exact ee_int) ?_
          refine ss_seq (ss_swap (ss_append (m := wItem K (.join sd (toldT sz cn gs p b))) (ee_var rfl) (ee_two ee_non (ee_tup (ds := [.int (sd : Int), tabD (toldT sz cn gs p b)]) (ea_cons (ee_var rfl) (ea_one (ee_meth (ee_ixLM (j := sd) (ee_var rfl) (ee_var rfl) rfl hgs) rfl (ea_cons (ixT 1 _ rfl rfl) (ea_one (ixT 2 _ rfl rfl))) ⟨n, sz, cn, gs, p, b, hts, hpg, hb, rfl, rfl⟩))) (by show 2 ≤ 100000; decide))) (by omega) pz ?_))
          refine sq_append (m := wItem K (.tree f)) (ee_var rfl) (ee_two (ixT 3 _ rfl rfl) ee_non) (by rw [List.length_append]; show _ + 1 < 90000; omega) pz ?_
          refine ss_append (m := wItem K (.tree g)) (ee_var rfl) (ee_two (ixT 4 _ rfl rfl) ee_non) (by rw [List.length_append, List.length_append]; show _ + 1 + 1 < 90000; omega) pz (ss_swap ?_)
          intro σ2 H2 a2
          rw [← wMs_cons, ← wMs_cons, ← wMs_cons] at a2
          have e3 : (Tr.say p b f g).size = f.size + g.size + 1 := rfl
          refine ⟨_, ?_, .tree g :: .tree f :: .join sd (toldT sz cn gs p b) :: r, made, a2.le ?_, fun y hy => ?_, ?_, rfl, ?_⟩
          · show 2 * g.size + (2 * f.size + (1 + wsize r)) < 2 * (Tr.say p b f g).size + wsize r
            rw [e3]; omega
          · exact .cons (.cons (.cons (.cons (.drop (.drop (.cons (.cons (.drop (.cons (.cons .nil))))))))))
          · rcases List.mem_cons.mp hy with rfl | hy
            · exact gok
            · rcases List.mem_cons.mp hy with rfl | hy
              · exact fok
              · rcases List.mem_cons.mp hy with rfl | hy
                · trivial
                · exact hr y hy
          · rw [← hrun]
            show wrun sz cn g0 g1 r (.say sd (toldT sz cn gs p b) (toSides sz cn g0 g1 f) (toSides sz cn g0 g1 g) :: made) = wrun sz cn g0 g1 r (toSides sz cn g0 g1 (.say p b f g) :: made)
            rw [esd, egs]; rfl
          · show made.length + (2 * g.size + (2 * f.size + (1 + wsize r))) ≤ 1000
            have : wsize (.tree (.say p b f g) :: r) = 2 * (f.size + g.size + 1) + wsize r := rfl
            rw [this] at hsz
            omega
        | fin as =>
          obtain ⟨hl, has⟩ := hto
          rw [List.length_range'] at hl
          have ixT : ∀ {M : Mode} {Γ : Gm} (j : Nat) (d : PyData), Γ[4]? = some (some (dt K (Tr.D true (.fin as)))) → [.str "end", .tuple (as.map tabD)][j]? = some d → EE M Γ (tOp (rIx K) (tVar 4) (tC (.int (j : Int)))) (dt K d) := fun j d h e => ee_ixT (j := j) (ee_var h) ee_int rfl e
          refine ss_if (b := false) (et_is (et_test (ee_eqS (ixT 0 _ rfl rfl) ee_str)) (by decide +kernel)) (fun h => nomatch h) fun _ => ?_
          have one : ∀ {M : Mode} {Γ : Gm} (g : List Nat), TeamOk n sz cn g → Γ[4]? = some (some (dt K (Tr.D true (.fin as)))) → Γ[10]? = some (some (teamM K C sz cn g)) →
              EE M Γ (tMeth C "told" (spP (r_told K C)) [] E0 (tVar 10) (tCons (tOp (rIx K) (tFld K (tVar 10) "people") (tC (.int 0))) (tCons (tOp (rIx K) (tOp (rIx K) (tVar 4) (tC (.int 1))) (tOp (rI0 fun i j => .int (i - j)) (tOp (rIx K) (tFld K (tVar 10) "people") (tC (.int 0))) (tC (.int 1)))) tNil))) (dt K (tabD (toldT sz cn g (g.headD 0) (as.getD (g.headD 0 - 1) [])))) := fun {M Γ} g gk h4 h10 => by
            obtain ⟨p, g', rfl⟩ : ∃ p g', g = p :: g' := by
              cases g with
              | nil => exact absurd gk.g0.1 (by decide)
              | cons p g' => exact ⟨p, g', rfl⟩
            have hpb := gk.gb p List.mem_cons_self
            have ha : as[p - 1]? = some (as.getD (p - 1) []) := by rw [List.getD_eq_getElem?_getD, List.getElem?_eq_getElem (by omega)]; rfl
            have hp0 : EE M Γ (tOp (rIx K) (tFld K (tVar 10) "people") (tC (.int 0))) (dt K (.int (p : Int))) := ee_ixL (ds := (p :: g').map fun (p : Nat) => PyData.int (p : Int)) (j := 0) (ee_fld (ee_var h10) S.cl S.nP rfl) ee_int rfl rfl
            refine ee_meth (ee_var h10) rfl (ea_cons hp0 (ea_one (ee_ixT (ds := as.map tabD) (j := p - 1) (ixT 1 _ h4 rfl) (ee_sub hp0 ee_int) (by omega) (by rw [List.getElem?_map, ha]; rfl)))) ⟨n, sz, cn, p :: g', p, _, gk, List.mem_cons_self, has (p - 1) p _ ?_ ha, rfl, rfl⟩
            rw [List.getElem?_range' (by omega)]
            simp; omega
          refine sq_set (m := lsM K ((List.range 2).map fun i => dt K (tabD (if i = 0 then toldT sz cn g0 (g0.headD 0) (as.getD (g0.headD 0 - 1) []) else toldT sz cn g1 (g1.headD 0) (as.getD (g1.headD 0 - 1) []))))) (ee_lcLM (ns := [teamM K C sz cn g0, teamM K C sz cn g1]) _ (ee_var rfl) (by show 2 ≤ 40000; decide) (by decide) fun i x hx => ?_) ?_
          · match i, hx with
            | 0, hx => cases hx; exact one g0 ok.t0 rfl rfl
            | 1, hx => cases hx; exact one g1 ok.t1 rfl rfl
          refine ss_append (m := dt K ((toSides sz cn g0 g1 (.fin as)).D false)) (ee_var rfl) (ee_tup (ds := [.str "end", tabD (toldT sz cn g0 (g0.headD 0) (as.getD (g0.headD 0 - 1) [])), tabD (toldT sz cn g1 (g1.headD 0) (as.getD (g1.headD 0 - 1) []))]) (ea_cons ee_str (ea_cons (ee_ixLM (j := 0) (ee_var rfl) ee_int rfl rfl) (ea_one (ee_ixLM (j := 1) (ee_var rfl) ee_int rfl rfl)))) (by show 3 ≤ 100000; decide)) (by omega) pz ?_
          intro σ2 H2 a2
          rw [← tMs_cons] at a2
          have e3 : wsize (.tree (.fin as) :: r) = 2 + wsize r := rfl
          rw [e3] at hsz
          refine ⟨wsize r, by rw [e3]; omega, r, _, a2.le ?_, hr, hrun, rfl, by show made.length + 1 + wsize r ≤ 1000; omega⟩
          exact .cons (.cons (.cons (.cons (.drop (.drop (.cons (.cons (.cons (.drop (.cons .nil))))))))))
  · cases ws with
    | cons x r => rw [wMs_cons] at hb; simp at hb
    | nil =>
      have e : made = [toSides sz cn g0 g1 t0] := hrun
      subst e
      exact ss_ret (ee_ixO (j := 0) (ee_var rfl) ee_int rfl rfl) q
/-- [p for p in range(1, n + 1) if ..] -/
theorem ee_lcRF {M : Mode} {Γ : Gm} {tr : TA} {tt : TT} {j : Nat} {vs : List Nat} {n : Nat} (f : Nat → Bool) (h : EA M Γ tr [dt K (.int 1), dt K (.int ((n : Int) + 1))]) (hn : n ≤ 1000) (hj : j ∈ vs) (hlt : j < Γ.length)
    (ht : ∀ p, 1 ≤ p → p ≤ n → ETb M ((wipeG Γ vs).set j (some (dt K (.int (p : Int))))) tt (f p)) : EE M Γ (tLc (iRng2 tr) (gName j) tt (tVar j) vs) (dt K (ids_ ((List.range' 1 n).filter f))) := by
  have e1 : ∀ i : Nat, (1 : Int) + (i : Int) = ((i + 1 : Nat) : Int) := fun i => by rw [Int.natCast_add]; show (1 : Int) + i = i + 1; omega
  have len : ∀ (vs : List Nat) (Γ : Gm), (wipeG Γ vs).length = Γ.length := by
    intro vs
    induction vs with
    | nil => intro Γ; rfl
    | cons v vs ih => intro Γ; unfold wipeG; rw [List.length_set, ih]
  have snoc : ∀ i, (List.range' 1 (i + 1)).filter f = (List.range' 1 i).filter f ++ (if f (i + 1) then [i + 1] else []) := fun i => by
    rw [List.range'_1_concat, List.filter_append]
    rw [show 1 + i = i + 1 by omega]
    cases e : f (i + 1) <;> simp [e]
  refine ee_imp (ee_lcR2N (P := fun i ms => ms = ((List.range' 1 i).filter f).map fun (p : Nat) => dt K (.int (p : Int))) (B := fun i b => b = f (i + 1)) (E := fun i m => m = dt K (.int ((i + 1 : Nat) : Int))) h (by omega) hj rfl (fun i hi => by rw [e1]; exact ht (i + 1) (by omega) (by omega)) (fun i hi _ => ?_)
    (fun i ms m _ e hb e2 => by rw [e, e2, snoc, ← hb]; simp) (fun i ms _ e hb => by rw [e, snoc, ← hb]; simp)) fun F v ⟨m, ⟨ms, e1, e2⟩, r⟩ => ?_
  · rw [e1]
    refine ee_imp (ee_var (m := dt K (.int ((i + 1 : Nat) : Int))) ?_) fun _ _ r => ⟨_, rfl, r⟩
    rw [List.getElem?_set_self (by rw [len]; exact hlt)]
  · subst e1; subst e2
    rw [show ((n : Int) + 1 - 1).toNat = n by omega] at r
    exact lsM_to (by rw [List.map_map]; exact r)
def othersOf (n : Nat) (g : List Nat) : List Nat := (List.range' 1 n).filter fun p => decide (p ∉ g)
def r_two_sides (K : PySem.W.Frag) : List MP → MP → Prop := fun Rs R => ∃ n sz cn g t, PplOk n sz cn t ∧ GrpOk n g ∧ TwoOk n sz cn g (othersOf n g) ∧ Rs = [dt K (peopleD cn t), dt K (numsD sz), dt K (ids_ g)] ∧ R = dt K (talkD (rowsT cn g).length (rowsT cn (othersOf n g)).length (toSides sz cn g (othersOf n g) t))
abbrev C_two_sides (P : Program) (w : World) (K : PySem.W.Frag) (mg : Str → Option Value) (base : Heap) : Prop := Cal P w K mg base 8 "two_sides" p_two_sides (spP (r_two_sides K))
theorem cal_two_sides (D : DefAt K mg "two_sides" "two_sides" s_two_sides p_two_sides) (T : Nm mg) (S : TeamC K C) (G_check_people_talk : C_cpt P w K mg base) (G_Team : C_Team P w K mg base C) (G_two_sided : C_two_sided P w K mg base C) : C_two_sides P w K mg base := by
  refine cal_P D sc_two_sides (fun Rs R h => by obtain ⟨_, _, _, _, _, _, _, _, rfl, _⟩ := h; rfl) fun f cdv A outer s H E hr => ⟨_, (pss_cons (ps_expr (pe_c (G_check_people_talk.up (by decide)) hr (by rfl) (pa_cons (pv 0) (pa_cons (pv 1) (pa_cons (pv 2) pa_nil)))))
  (pss_cons (ps_set (i := 3) sc_two_sides.nd rfl (Or.inl rfl) (pe_ix (k_ix K) (pv 0) pe_int (fun _ _ => rfl)))
  (pss_cons (ps_setLc (i := 4) (own := [("one", 5)]) rfl sc_two_sides.nd rfl rfl (sw_true rfl rfl rfl (by decide +kernel)) (pi_range2 (by rfl) T.range (pa_cons pe_int (pa_cons (pe_op op_add (pe_callB (k_len K) (by rfl) T.len (by decide +kernel) (pa_cons (pv 3) pa_nil)) pe_int) pa_nil))) (blkOk_by (N := n_two_sides) (sc := defScope s_two_sides) (scope := cs_two_sides_0) (own := [("one", 5)]) (by decide +kernel)) (fun _ _ _ _ _ => (pg_name (i := 5) sc_two_sides.nd rfl (Or.inl rfl))) (fun _ _ _ _ _ => (pts_one (pt_cmpR (k_ni K) (pv 5) (pv 2) (by rfl)))) (fun _ _ _ _ _ => (pv 5)))
  (pss_cons (ps_set (i := 6) sc_two_sides.nd rfl (Or.inl rfl) (pe_lst (pa_cons (pe_k (G_Team.up (by decide)) hr (by rfl) (pa_cons (pe_callTy (k_lis K) (by rfl) T.list (by decide +kernel) (pa_cons (pv 2) pa_nil)) (pa_cons (pv 1) (pa_cons (pv 3) pa_nil)))) (pa_cons (pe_k (G_Team.up (by decide)) hr (by rfl) (pa_cons (pv 4) (pa_cons (pv 1) (pa_cons (pv 3) pa_nil)))) pa_nil))))
  (pss_one (ps_ret (pe_tup (pa_cons pe_str (pa_cons (pe_callB (k_len K) (by rfl) T.len (by decide +kernel) (pa_cons (k_fld K (pe_ix (k_ix K) (pv 6) pe_int (fun _ _ => rfl)) rfl) pa_nil)) (pa_cons (pe_callB (k_len K) (by rfl) T.len (by decide +kernel) (pa_cons (k_fld K (pe_ix (k_ix K) (pv 6) pe_int (fun _ _ => rfl)) rfl) pa_nil)) (pa_cons (pe_c (G_two_sided.up (by decide)) hr (by rfl) (pa_cons (pe_ix (k_ix K) (pv 0) pe_int (fun _ _ => rfl)) (pa_cons (pv 6) pa_nil))) pa_nil))))))))))), ?_⟩
  rintro Rs R ⟨n, sz, cn, g, t, pok, gok, ok, rfl, rfl⟩ F Q q
  have hn := pok.n1
  have ixT : ∀ {Γ : Gm} (j : Nat) (d : PyData), Γ[0]? = some (some (dt K (peopleD cn t))) → [.str "people", numsD cn, t.D true][j]? = some d → EE pu Γ (tOp (rIx K) (tVar 0) (tC (.int (j : Int)))) (dt K d) := fun j d h e => ee_ixT (j := j) (ee_var h) ee_int rfl e
  have eg : ids_ g = .list ((g.map fun (p : Nat) => (p : Int)).map .int) := by unfold ids_; rw [nums_ints]
  refine sq_drop (ee_call (ea_cons (ee_var rfl) (ea_cons (ee_var rfl) (ea_one (ee_var rfl)))) ⟨n, sz, cn, g, t, pok, gok, rfl, rfl⟩) ?_
  refine sq_set (ixT 1 _ rfl rfl) ?_
  refine sq_set (m := dt K (ids_ (othersOf n g))) (ee_lcRF (n := n) (fun p => decide (p ∉ g)) (ea_cons ee_int (ea_one (ee_add (ee_cast (ee_lenT (ds := cn.map fun (p : Nat) => PyData.int (p : Int)) (ee_var rfl)) (by rw [List.length_map, pok.lc])) ee_int))) (by omega) (by decide) (Nat.le_of_ble_eq_true rfl) fun p hp1 hp2 => et_is (et_test (ee_in (neg := true) (ee_var rfl) (ee_cast (ee_var rfl) eg))) ?_) ?_
  · show (!decide ((p : Int) ∈ g.map fun (p : Nat) => (p : Int))) = decide (p ∉ g)
    have : ((p : Int) ∈ g.map fun (p : Nat) => (p : Int)) = (p ∈ g) := by
      apply propext
      rw [List.mem_map]
      exact ⟨fun ⟨a, h, e⟩ => by rw [show p = a by omega]; exact h, fun h => ⟨p, h, rfl⟩⟩
    simp only [this]
    by_cases h : p ∈ g <;> simp [h]
  refine sq_set (m := lsM K [teamM K C sz cn g, teamM K C sz cn (othersOf n g)]) (ee_lstM (ea_cons (ee_make (ea_cons (ee_lisOf (ee_var rfl)) (ea_cons (ee_var rfl) (ea_one (ee_var rfl)))) ⟨n, sz, cn, g, ok.t0, rfl, rfl⟩) (ea_one (ee_make (ea_cons (ee_var rfl) (ea_cons (ee_var rfl) (ea_one (ee_var rfl)))) ⟨n, sz, cn, othersOf n g, ok.t1, rfl, rfl⟩))) (by show 2 ≤ 100000; decide)) ?_
  have ln : ∀ {Γ : Gm} (j : Nat) (g' : List Nat), Γ[6]? = some (some (lsM K [teamM K C sz cn g, teamM K C sz cn (othersOf n g)])) → [teamM K C sz cn g, teamM K C sz cn (othersOf n g)][j]? = some (teamM K C sz cn g') →
      EE pu Γ (tCB (rLenS K) (tCons (tFld K (tOp (rIx K) (tVar 6) (tC (.int (j : Int)))) "coins") tNil)) (dt K (.int ((rowsT cn g').length : Int))) := fun j g' h e => ee_cast (ee_lenL (ds := (rowsT cn g').map rowD) (ee_fld (ee_ixLM (j := j) (ee_var h) ee_int rfl e) S.cl S.nC rfl)) (by rw [List.length_map])
  refine ss_ret (ee_tup (ds := [.str "talk", .int ((rowsT cn g).length : Int), .int ((rowsT cn (othersOf n g)).length : Int), (toSides sz cn g (othersOf n g) t).D false]) (ea_cons ee_str (ea_cons (ln 0 _ rfl rfl) (ea_cons (ln 1 _ rfl rfl) (ea_one (ee_call (ea_cons (ixT 2 _ rfl rfl) (ea_one (ee_var rfl))) ⟨n, sz, cn, g, othersOf n g, t, ok, pok.ok, pok.sz2, rfl, rfl⟩))))) (by show 4 ≤ 100000; decide)) q
end
end K46
/-! K46, part m: talks held. -/
namespace K46
open PySem L2
open Evl (Ex ex_l ex_t)
theorem ss_go {Z : Zr} {M : Mode} {Γ : Gm} {σ : St} {H : Hp} {N : St → Hp → Prop} (a : At Z M Γ σ H) (h : SS Z M Γ N) : N σ H := h σ H a
/-- what is sent, and both answers -/
def heldS (x y r s : Int) : Tr → List Int × Int × Int
  | .fin as => ([], cell (as.getD 0 []) x r, cell (as.getD 1 []) y s)
  | .say i b f g =>
    let bit := if i = 0 then cell b x r else cell b y s
    let rest := if bit = 0 then heldS x y r s f else heldS x y r s g
    (bit :: rest.1, rest.2)
structure InOk (X Y c0 c1 : Nat) (x y r s : Int) : Prop where
  x : 0 ≤ x ∧ x < X
  y : 0 ≤ y ∧ y < Y
  r : 0 ≤ r ∧ r < c0
  s : 0 ≤ s ∧ s < c1
abbrev pairD (x y : Int) : PyData := .tuple [.int x, .int y]
theorem mem01 {i : Nat} (h : i ∈ [0, 1]) : i = 0 ∨ i = 1 := by simpa using h
/-- what a say sends -/
def bitOf (i : Nat) (b : Tab) (x y r s : Int) : Int := if i = 0 then cell b x r else cell b y s
theorem bit_ok {X Y c0 c1 i : Nat} {b : Tab} {x y r s : Int} (hi : i ∈ [0, 1]) (h : IsTab (sz2 X Y i) (sz2 c0 c1 i) b) (hb : BitsTab b) (io : InOk X Y c0 c1 x y r s) :
    ∃ row, b[(if i = 0 then x else y).toNat]? = some row ∧ row[(if i = 0 then r else s).toNat]? = some (bitOf i b x y r s) ∧ (bitOf i b x y r s = 0 ∨ bitOf i b x y r s = 1) := by
  rcases mem01 hi with rfl | rfl
  · obtain ⟨row, h1, h2⟩ := cell_get (n := X) (c := c0) h io.x io.r
    exact ⟨row, h1, h2, hb row (List.mem_of_getElem? h1) _ (List.mem_of_getElem? h2)⟩
  · obtain ⟨row, h1, h2⟩ := cell_get (n := Y) (c := c1) h io.y io.s
    exact ⟨row, h1, h2, hb row (List.mem_of_getElem? h1) _ (List.mem_of_getElem? h2)⟩
section
variable {K : PySem.W.Frag} {M : Mode} {Γ : Gm} {ta tb te : TE}
theorem ee_tupOfK {p : Addr} {is : List Int} (hs : EE (ownL p (is.map fun i => dt K (.int i)) M) Γ te (rawv (.ref p))) : EE (ownL p (is.map fun i => dt K (.int i)) M) Γ (tCB (rTupS K) (tCons te tNil)) (tkM is) :=
  ee_cb (ea_cons hs ea_nil) fun F H vs ok pm Q q => by
    cases pm with
    | cons r1 r2 =>
      cases r2
      cases r1
      obtain ⟨⟨_, xs, hx, pm⟩, _⟩ := id ok.iv
      have e : xs = is.map V.int := by
        have r2 : PM F xs ((is.map PyData.int).map (dt K)) := by rw [List.map_map]; exact pm
        exact dpAll_intsV r2.data
      subst e
      refine ⟨p, _, rfl, .inl ⟨SqL.of hx, fun l hl => ?_⟩⟩
      have pn : Pu0 F H (upd F l (.tup (is.map V.int))) (upd H l (.tup (is.map V.int))) := .new hl ok.ex
      exact q _ _ _ (pn.any _) (ok.step pn (ex_upd ok.ex)) ⟨l, rfl, upd_same⟩
/-- side i's of a pair -/
theorem ee_side {x y : Int} {i : Nat} (hi : i ∈ [0, 1]) (ha : EE M Γ ta (dt K (pairD x y))) (hb : EE M Γ tb (dt K (.int (i : Int)))) : EE M Γ (tOp (rIx K) ta tb) (dt K (.int (if i = 0 then x else y))) := by
  rcases mem01 hi with rfl | rfl
  · exact ee_ixT (j := 0) ha hb rfl rfl
  · exact ee_ixT (j := 1) ha hb rfl rfl
/-- table[x][r] -/
theorem ee_cell {v : Tab} {row : List Int} {x r z : Int} {tx tr : TE} (ha : EE M Γ ta (dt K (tabD v))) (hx : EE M Γ tx (dt K (.int x))) (hr : EE M Γ tr (dt K (.int r))) (h0 : 0 ≤ x) (h1 : 0 ≤ r) (e1 : v[x.toNat]? = some row) (e2 : row[r.toNat]? = some z) :
    EE M Γ (tOp (rIx K) (tOp (rIx K) ta tx) tr) (dt K (.int z)) :=
  ee_ixT (ds := row.map .int) (j := r.toNat) (ee_ixT (ds := v.map rowD) (j := x.toNat) ha hx (by omega) (by rw [List.getElem?_map, e1]; rfl)) hr (by omega) (by rw [List.getElem?_map, e2]; rfl)
end
abbrev heldM (K : PySem.W.Frag) (h : List Int × Int × Int) : MP := tpM K [tkM h.1, dt K (pairD h.2.1 h.2.2)]
section
variable {P : Program} {w : World} {K : PySem.W.Frag} {mg : Str → Option Value} {base : Heap} {C : Addr}
abbrev s_hold_talk : Stmt := top 21
abbrev n_hold_talk : List Str := ["talk", "inputs", "coins", "tree", "bits", "side", "bit"]
abbrev p_hold_talk : List Str := ["talk", "inputs", "coins"]
theorem sc_hold_talk : FnScope n_hold_talk p_hold_talk (defScope s_hold_talk) := ⟨rfl, rfl, rfl, by decide +kernel, rfl, by decide +kernel, by decide +kernel⟩
abbrev s_pair_of : Stmt := top 22
abbrev n_pair_of : List Str := ["side", "own", "other"]
abbrev p_pair_of : List Str := ["side", "own", "other"]
theorem sc_pair_of : FnScope n_pair_of p_pair_of (defScope s_pair_of) := ⟨rfl, rfl, rfl, by decide +kernel, rfl, by decide +kernel, by decide +kernel⟩
abbrev s__law_held : Stmt := top 36
abbrev n__law_held : List Str := ["_law_talk", "_law_inputs", "_law_coins", "_law_tree", "_law_bits_here", "_law_turn", "_law_bit"]
abbrev p__law_held : List Str := ["_law_talk", "_law_inputs", "_law_coins"]
theorem sc__law_held : FnScope n__law_held p__law_held (defScope s__law_held) := ⟨rfl, rfl, rfl, by decide +kernel, rfl, by decide +kernel, by decide +kernel⟩
abbrev s__law_answer : Stmt := top 38
abbrev n__law_answer : List Str := ["_law_table_here", "_law_side", "_law_mine", "_law_other"]
abbrev p__law_answer : List Str := ["_law_table_here", "_law_side", "_law_mine", "_law_other"]
theorem sc__law_answer : FnScope n__law_answer p__law_answer (defScope s__law_answer) := ⟨rfl, rfl, rfl, by decide +kernel, rfl, by decide +kernel, by decide +kernel⟩
abbrev s__law_whole : Stmt := top 39
abbrev n__law_whole : List Str := ["_law_value", "_law_most"]
abbrev p__law_whole : List Str := ["_law_value", "_law_most"]
theorem sc__law_whole : FnScope n__law_whole p__law_whole (defScope s__law_whole) := ⟨rfl, rfl, rfl, by decide +kernel, rfl, by decide +kernel, by decide +kernel⟩
abbrev s__law_number : Stmt := top 44
abbrev n__law_number : List Str := ["_law_numbers", "_law_sizes", "_law_people", "_law_found", "_law_person"]
abbrev p__law_number : List Str := ["_law_numbers", "_law_sizes", "_law_people"]
theorem sc__law_number : FnScope n__law_number p__law_number (defScope s__law_number) := ⟨rfl, rfl, rfl, by decide +kernel, rfl, by decide +kernel, by decide +kernel⟩
abbrev s__law_many : Stmt := top 45
abbrev n__law_many : List Str := ["_law_sizes", "_law_people", "_law_found", "_law_person"]
abbrev p__law_many : List Str := ["_law_sizes", "_law_people"]
theorem sc__law_many : FnScope n__law_many p__law_many (defScope s__law_many) := ⟨rfl, rfl, rfl, by decide +kernel, rfl, by decide +kernel, by decide +kernel⟩
abbrev s__law_held_people : Stmt := top 43
abbrev n__law_held_people : List Str := ["_law_tree", "_law_inputs", "_law_coins", "_law_bits_here", "_law_turn", "_law_p", "_law_bit"]
abbrev p__law_held_people : List Str := ["_law_tree", "_law_inputs", "_law_coins"]
def cs__law_held_people_0 : Scope := { kind := PySem.ScopeKind.function, names := [ (PySem.Str.ofString ".0", PySem.NameKind.local), (PySem.Str.ofString "_law_p", PySem.NameKind.local), (PySem.Str.ofString "_law_coins", PySem.NameKind.free), (PySem.Str.ofString "_law_inputs", PySem.NameKind.free), (PySem.Str.ofString "_law_tree", PySem.NameKind.free)], isGenerator := false, isCoroutine := false, more := [] : PySem.Scope }
theorem sc__law_held_people : FnScope n__law_held_people p__law_held_people (defScope s__law_held_people) := ⟨rfl, rfl, rfl, by decide +kernel, rfl, by decide +kernel, by decide +kernel⟩
def r_hold (K : PySem.W.Frag) : List MP → MP → Prop := fun Rs R => ∃ X Y c0 c1 t x y r s, TalkOk X Y c0 c1 t ∧ InOk X Y c0 c1 x y r s ∧ Rs = [dt K (talkD c0 c1 t), dt K (pairD x y), dt K (pairD r s)] ∧ R = heldM K (heldS x y r s t)
abbrev C_hold (P : Program) (w : World) (K : PySem.W.Frag) (mg : Str → Option Value) (base : Heap) : Prop := Cal P w K mg base 1 "hold_talk" p_hold_talk (spP (r_hold K))
theorem fin_two {X Y c0 c1 : Nat} {as : List Tab} (h : Tr.Ok [0, 1] (sz2 X Y) (sz2 c0 c1) (.fin as)) : ∃ a0 a1, as = [a0, a1] ∧ IsTab X c0 a0 ∧ IsTab Y c1 a1 := by
  obtain ⟨h1, h2⟩ := h
  match as, h1 with
  | [a0, a1], _ => exact ⟨a0, a1, rfl, h2 0 0 a0 rfl rfl, h2 1 1 a1 rfl rfl⟩
theorem cal_hold (D : DefAt K mg "hold_talk" "hold_talk" s_hold_talk p_hold_talk) (T : Nm mg) : C_hold P w K mg base := by
  refine cal_P D sc_hold_talk (fun Rs R h => by obtain ⟨_, _, _, _, _, _, _, _, _, _, _, rfl, _⟩ := h; rfl) fun f cdv A outer s H E hr => ⟨_, (pss_cons (ps_set (i := 3) sc_hold_talk.nd rfl (Or.inl rfl) (pe_ix (k_ix K) (pv 0) pe_int (fun _ _ => rfl)))
  (pss_cons (ps_set (i := 4) sc_hold_talk.nd rfl (Or.inl rfl) (pe_lst pa_nil))
  (pss_cons (ps_while PassesOwn.never (pt_cmpR op_eq (pe_ix (k_ix K) (pv 3) pe_int (fun _ _ => rfl)) pe_str (nomark _)) (pss_cons (ps_set (i := 5) sc_hold_talk.nd rfl (Or.inl rfl) (pe_ix (k_ix K) (pv 3) pe_int (fun _ _ => rfl)))
  (pss_cons (ps_set (i := 6) sc_hold_talk.nd rfl (Or.inl rfl) (pe_ix (k_ix K) (pe_ix (k_ix K) (pe_ix (k_ix K) (pv 3) pe_int (fun _ _ => rfl)) (pe_ix (k_ix K) (pv 1) (pv 5) (fun _ _ => rfl)) (fun _ _ => rfl)) (pe_ix (k_ix K) (pv 2) (pv 5) (fun _ _ => rfl)) (fun _ _ => rfl)))
  (pss_cons (ps_expr (pe_bm PySem.F.plainAttrs_list PySem.F.slot_list_append PySem.F.type_list_append mt_append (pv 4) (pa_cons (pv 6) pa_nil)))
  (pss_one (ps_set (i := 3) sc_hold_talk.nd rfl (Or.inl rfl) (pe_ix (k_ix K) (pv 3) (pe_op op_add pe_int (pv 6)) (fun _ _ => rfl))))))))
  (pss_one (ps_ret (pe_tup (pa_cons (pe_callTy (k_tup K) (by rfl) T.tuple (by decide +kernel) (pa_cons (pv 4) pa_nil)) (pa_cons (pe_tup (pa_cons (pe_ix (k_ix K) (pe_ix (k_ix K) (pe_ix (k_ix K) (pv 3) pe_int (fun _ _ => rfl)) (pe_ix (k_ix K) (pv 1) pe_int (fun _ _ => rfl)) (fun _ _ => rfl)) (pe_ix (k_ix K) (pv 2) pe_int (fun _ _ => rfl)) (fun _ _ => rfl)) (pa_cons (pe_ix (k_ix K) (pe_ix (k_ix K) (pe_ix (k_ix K) (pv 3) pe_int (fun _ _ => rfl)) (pe_ix (k_ix K) (pv 1) pe_int (fun _ _ => rfl)) (fun _ _ => rfl)) (pe_ix (k_ix K) (pv 2) pe_int (fun _ _ => rfl)) (fun _ _ => rfl)) pa_nil))) pa_nil)))))))), ?_⟩
  rintro Rs R ⟨X, Y, c0, c1, t, x, y, r, s, ok, io, rfl, rfl⟩ F Q q
  have pz : ∀ {M : Mode} (F H : Hp), M.I F H → (⟨pu, F, H⟩ : Zr).M.I F H := fun _ _ _ => trivial
  refine sq_set (m := dt K (t.D false)) (ee_ixT (ds := [.str "talk", .int (c0 : Int), .int (c1 : Int), t.D false]) (j := 3) (ee_var rfl) ee_int rfl rfl) ?_
  refine ss_seq (ss_newL (ms := []) ea_nil (by show 0 ≤ 100000; decide) fun pb => ?_)
  refine ss_seq (ss_while (fun m σ H' => ∃ (t' : Tr) (pre : List Int), At ⟨pu, F, H⟩ (ownL pb (pre.map fun i => dt K (.int i)) pu) [some (dt K (talkD c0 c1 t)), some (dt K (pairD x y)), some (dt K (pairD r s)), some (dt K (t'.D false)), some (rawv (.ref pb)), none, none] σ H' ∧
    t'.Ok [0, 1] (sz2 X Y) (sz2 c0 c1) ∧ heldS x y r s t = (pre ++ (heldS x y r s t').1, (heldS x y r s t').2) ∧ m = t'.ht ∧ pre.length + t'.ht ≤ 200) (fun σ H' a => ⟨_, t, [], a, ok.ok, rfl, rfl, by have := ok.ht; show 0 + t.ht ≤ 200; omega⟩) ?_)
  rintro m σ1 H1 ⟨t', pre, a, tok, hh, rfl, hl⟩
  cases t' with
  | fin as =>
    refine ⟨_, _, false, a, et_is (et_test (ee_eqS (ee_ixT (ds := .str "end" :: as.map tabD) (j := 0) (ee_var rfl) ee_int rfl rfl) ee_str)) (by decide +kernel), (fun h => nomatch h), fun _ => ?_⟩
    obtain ⟨a0, a1, rfl, t0, t1⟩ := fin_two tok
    obtain ⟨w0, e1, e2⟩ := cell_get t0 io.x io.r
    obtain ⟨w1, e3, e4⟩ := cell_get t1 io.y io.s
    have hx : ∀ {M : Mode} {Γ : Gm} (i k : Nat), i ∈ [0, 1] → k = i → ∀ x y j, Γ[j]? = some (some (dt K (pairD x y))) → EE M Γ (tOp (rIx K) (tVar j) (tC (.int (k : Int)))) (dt K (.int (if i = 0 then x else y))) := fun i k hi e x y j h => by subst e; exact ee_side hi (ee_var h) ee_int
    have e9 : heldS x y r s t = (pre, cell a0 x r, cell a1 y s) := by rw [hh]; simp [heldS]
    rw [e9] at q
    refine ss_ret (m := heldM K (pre, cell a0 x r, cell a1 y s)) (ee_two (ee_tupOfK (ee_var rfl)) (ee_tup (ds := [.int (cell a0 x r), .int (cell a1 y s)]) (ea_cons (ee_cell (v := a0) (x := x) (r := r) (ee_ixT (ds := [.str "end", tabD a0, tabD a1]) (j := 1) (ee_var rfl) ee_int rfl rfl) (hx 0 0 (by decide) rfl x y 1 rfl) (hx 0 0 (by decide) rfl r s 2 rfl) io.x.1 io.r.1 e1 e2)
      (ea_one (ee_cell (v := a1) (x := y) (r := s) (ee_ixT (ds := [.str "end", tabD a0, tabD a1]) (j := 2) (ee_var rfl) ee_int rfl rfl) (hx 1 1 (by decide) rfl x y 1 rfl) (hx 1 1 (by decide) rfl r s 2 rfl) io.y.1 io.s.1 e3 e4))) (by show 2 ≤ 100000; decide))) q
  | say i b f g =>
    obtain ⟨hi, hb, hbb, fok, gok⟩ := tok
    obtain ⟨row, e1, e2, hbit⟩ := bit_ok hi hb hbb io
    have ixT : ∀ {M : Mode} {Γ : Gm} (j : Nat) (d : PyData), Γ[3]? = some (some (dt K (Tr.D false (.say i b f g)))) → [.str "say", .int (i : Int), tabD b, f.D false, g.D false][j]? = some d → EE M Γ (tOp (rIx K) (tVar 3) (tC (.int (j : Int)))) (dt K d) := fun j d h e => ee_ixT (j := j) (ee_var h) ee_int rfl e
    refine ⟨_, _, true, a, et_test (ee_eqS (ixT 0 _ rfl rfl) ee_str), fun _ => ?_, fun h => nomatch h⟩
    refine sq_set (ixT 1 _ rfl rfl) ?_
    refine sq_set (m := dt K (.int (bitOf i b x y r s))) (ee_cell (v := b) (x := if i = 0 then x else y) (r := if i = 0 then r else s) (ixT 2 _ rfl rfl) (ee_side hi (ee_var rfl) (ee_var rfl)) (ee_side hi (ee_var rfl) (ee_var rfl)) (by have := io.x; have := io.y; split <;> omega) (by have := io.r; have := io.s; split <;> omega) e1 e2) ?_
    refine sq_append (m := dt K (.int (bitOf i b x y r s))) (ee_var rfl) (ee_var rfl) (by rw [List.length_map]; omega) pz ?_
    have ht : (Tr.say i b f g).ht = max f.ht g.ht + 1 := rfl
    have hf := Nat.le_max_left f.ht g.ht
    have hg := Nat.le_max_right f.ht g.ht
    rw [ht] at hl
    obtain ⟨t2, k, tk, hle, hsel, hk, hget⟩ : ∃ t2 k, t2.Ok [0, 1] (sz2 X Y) (sz2 c0 c1) ∧ t2.ht ≤ max f.ht g.ht ∧ heldS x y r s (.say i b f g) = (bitOf i b x y r s :: (heldS x y r s t2).1, (heldS x y r s t2).2) ∧ (3 + bitOf i b x y r s : Int) = ((k : Nat) : Int) ∧ [.str "say", .int (i : Int), tabD b, f.D false, g.D false][k]? = some (t2.D false) := by
      rcases hbit with h | h
      · refine ⟨f, 3, fok, hf, ?_, by rw [h]; rfl, rfl⟩
        show (bitOf i b x y r s :: (if bitOf i b x y r s = 0 then heldS x y r s f else heldS x y r s g).1, (if bitOf i b x y r s = 0 then heldS x y r s f else heldS x y r s g).2) = _
        rw [if_pos h]
      · refine ⟨g, 4, gok, hg, ?_, by rw [h]; rfl, rfl⟩
        show (bitOf i b x y r s :: (if bitOf i b x y r s = 0 then heldS x y r s f else heldS x y r s g).1, (if bitOf i b x y r s = 0 then heldS x y r s f else heldS x y r s g).2) = _
        rw [if_neg (by rw [h]; decide)]
    refine ss_set (m := dt K (t2.D false)) (ee_ixT (j := k) (ee_var rfl) (ee_add ee_int (ee_var rfl)) hk hget) fun σ2 H2 a2 => ⟨t2.ht, by rw [ht]; omega, t2, pre ++ [bitOf i b x y r s], ?_, tk, ?_, rfl, by rw [List.length_append]; show pre.length + 1 + t2.ht ≤ 200; omega⟩
    · have e : (pre ++ [bitOf i b x y r s]).map (fun i => dt K (.int i)) = pre.map (fun i => dt K (.int i)) ++ [dt K (.int (bitOf i b x y r s))] := by rw [List.map_append]; rfl
      rw [e]
      exact a2.le (.cons (.cons (.cons (.cons (.cons (.drop (.drop .nil)))))))
    · rw [hh, hsel]
      simp
end
end K46
/-! K46, part n: the law's own small defs. -/
namespace K46
open PySem L2
open Evl (Ex ex_l ex_t)
def ansT (t : Tab) (side : Nat) (mine other : Int) : Int := if side = 0 then cell t mine other else cell t other mine
def numOf (sz : List Nat) (nums : List Int) (g : List Nat) : Int := g.foldl (fun acc p => acc * (at1 sz p : Int) + nums.getD (p - 1) 0) 0
def manyOf (sz : List Nat) (g : List Nat) : Int := g.foldl (fun acc p => acc * (at1 sz p : Int)) 1
/-- what the people send, and their answers -/
def heldP (n : Nat) (ins cns : List Int) : Tr → List Int × List Int
  | .fin as => ([], (List.range n).map fun p => cell (as.getD p []) (ins.getD p 0) (cns.getD p 0))
  | .say i b f g =>
    let bit := cell b (ins.getD (i - 1) 0) (cns.getD (i - 1) 0)
    let rest := if bit = 0 then heldP n ins cns f else heldP n ins cns g
    (bit :: rest.1, rest.2)
structure NumsIn (n : Nat) (sz : List Nat) (nums : List Int) : Prop where
  len : nums.length = n
  lt : ∀ p, 1 ≤ p → p ≤ n → 0 ≤ nums.getD (p - 1) 0 ∧ nums.getD (p - 1) 0 < at1 sz p
abbrev intsL (is : List Int) : PyData := .list (is.map .int)
section
variable {P : Program} {w : World} {K : PySem.W.Frag} {mg : Str → Option Value} {base : Heap} {C : Addr}
def r_pair (K : PySem.W.Frag) : List MP → MP → Prop := fun Rs R => ∃ (i : Nat) (a b : Int), i ∈ [0, 1] ∧ Rs = [dt K (.int (i : Int)), dt K (.int a), dt K (.int b)] ∧ R = tkM (if i = 0 then [a, b] else [b, a])
abbrev C_pair (P : Program) (w : World) (K : PySem.W.Frag) (mg : Str → Option Value) (base : Heap) : Prop := Cal P w K mg base 1 "pair_of" p_pair_of (spP (r_pair K))
theorem cal_pair (D : DefAt K mg "pair_of" "pair_of" s_pair_of p_pair_of) (T : Nm mg) : C_pair P w K mg base := by
  refine cal_P D sc_pair_of (fun Rs R h => by obtain ⟨_, _, _, _, rfl, _⟩ := h; rfl) fun f cdv A outer s H E hr => ⟨_, (pss_one (ps_ret (pe_ifExp (pt_cmpR op_eq (pv 0) pe_int (nomark _)) (pe_tup (pa_cons (pv 1) (pa_cons (pv 2) pa_nil))) (pe_tup (pa_cons (pv 2) (pa_cons (pv 1) pa_nil)))))), ?_⟩
  rintro Rs R ⟨i, a, b, hi, rfl, rfl⟩ F Q q
  refine ss_ret (ee_if (a := decide ((i : Int) = 0)) (et_test (ee_eqI (ee_var rfl) ee_int)) (fun h => ?_) fun h => ?_) q
  · have h := of_decide_eq_true h
    rw [if_pos (by omega)]
    exact ee_tupK (is := [a, b]) (ea_cons (ee_var rfl) (ea_one (ee_var rfl))) (by show 2 ≤ 100000; decide)
  · have h := of_decide_eq_false h
    rw [if_neg (by omega)]
    exact ee_tupK (is := [b, a]) (ea_cons (ee_var rfl) (ea_one (ee_var rfl))) (by show 2 ≤ 100000; decide)
abbrev C_lheld (P : Program) (w : World) (K : PySem.W.Frag) (mg : Str → Option Value) (base : Heap) : Prop := Cal P w K mg base 1 "_law_held" p__law_held (spP (r_hold K))
theorem cal_lheld (D : DefAt K mg "_law_held" "_law_held" s__law_held p__law_held) (T : Nm mg) : C_lheld P w K mg base := by
  refine cal_P D sc__law_held (fun Rs R h => by obtain ⟨_, _, _, _, _, _, _, _, _, _, _, rfl, _⟩ := h; rfl) fun f cdv A outer s H E hr => ⟨_, (pss_cons (ps_set (i := 3) sc__law_held.nd rfl (Or.inl rfl) (pe_ix (k_ix K) (pv 0) pe_int (fun _ _ => rfl)))
  (pss_cons (ps_set (i := 4) sc__law_held.nd rfl (Or.inl rfl) (pe_tup pa_nil))
  (pss_cons (ps_for PassesOwn.never rfl (pi_range1 (by rfl) T.range (pa_cons pe_int pa_nil)) (pg_name (i := 5) sc__law_held.nd rfl (Or.inl rfl)) (pss_cons (ps_if (pt_cmpR op_eq (pe_ix (k_ix K) (pv 3) pe_int (fun _ _ => rfl)) pe_str (nomark _)) (pss_one (ps_ret (pe_tup (pa_cons (pv 4) (pa_cons (pe_tup (pa_cons (pe_ix (k_ix K) (pe_ix (k_ix K) (pe_ix (k_ix K) (pv 3) pe_int (fun _ _ => rfl)) (pe_ix (k_ix K) (pv 1) pe_int (fun _ _ => rfl)) (fun _ _ => rfl)) (pe_ix (k_ix K) (pv 2) pe_int (fun _ _ => rfl)) (fun _ _ => rfl)) (pa_cons (pe_ix (k_ix K) (pe_ix (k_ix K) (pe_ix (k_ix K) (pv 3) pe_int (fun _ _ => rfl)) (pe_ix (k_ix K) (pv 1) pe_int (fun _ _ => rfl)) (fun _ _ => rfl)) (pe_ix (k_ix K) (pv 2) pe_int (fun _ _ => rfl)) (fun _ _ => rfl)) pa_nil))) pa_nil))))) pss_nil)
  (pss_cons (ps_set (i := 6) sc__law_held.nd rfl (Or.inl rfl) (pe_ix (k_ix K) (pe_ix (k_ix K) (pe_ix (k_ix K) (pv 3) pe_int (fun _ _ => rfl)) (pe_ix (k_ix K) (pv 1) (pe_ix (k_ix K) (pv 3) pe_int (fun _ _ => rfl)) (fun _ _ => rfl)) (fun _ _ => rfl)) (pe_ix (k_ix K) (pv 2) (pe_ix (k_ix K) (pv 3) pe_int (fun _ _ => rfl)) (fun _ _ => rfl)) (fun _ _ => rfl)))
  (pss_cons (ps_set (i := 4) sc__law_held.nd rfl (Or.inl rfl) (pe_op (k_catA K) (pv 4) (pe_tup (pa_cons (pv 6) pa_nil))))
  (pss_one (ps_set (i := 3) sc__law_held.nd rfl (Or.inl rfl) (pe_ix (k_ix K) (pv 3) (pe_op op_add pe_int (pv 6)) (fun _ _ => rfl))))))))
  (pss_one (ps_ret pe_non))))), ?_⟩
  rintro Rs R ⟨X, Y, c0, c1, t, x, y, r, s, ok, io, rfl, rfl⟩ F Q q
  refine sq_set (m := dt K (t.D false)) (ee_ixT (ds := [.str "talk", .int (c0 : Int), .int (c1 : Int), t.D false]) (j := 3) (ee_var rfl) ee_int rfl rfl) ?_
  refine sq_set (m := tkM []) (ee_tupK (K := K) ea_nil (by show 0 ≤ 100000; decide)) ?_
  refine ss_seq (ss_forR1 (K := K) (n := 300) (ea_one ee_int) (by omega) (fun k σ H' => ∃ (t' : Tr) (pre : List Int), At ⟨pu, F, H⟩ pu [some (dt K (talkD c0 c1 t)), some (dt K (pairD x y)), some (dt K (pairD r s)), some (dt K (t'.D false)), some (tkM pre), none, none] σ H' ∧
    t'.Ok [0, 1] (sz2 X Y) (sz2 c0 c1) ∧ heldS x y r s t = (pre ++ (heldS x y r s t').1, (heldS x y r s t').2) ∧ k + t'.ht ≤ 200 ∧ pre.length ≤ k) (fun σ H' a => ⟨t, [], a, ok.ok, rfl, by have := ok.ht; omega, Nat.le_refl _⟩) ?_ ?_)
  · rintro k σ1 H1 hk ⟨t', pre, a, tok, hh, hl, hpl⟩
    refine ss_go (a.put (m := dt K (.int (k : Int))) (.int _)) ?_
    cases t' with
    | fin as =>
      obtain ⟨a0, a1, rfl, t0, t1⟩ := fin_two tok
      obtain ⟨w0, e1, e2⟩ := cell_get t0 io.x io.r
      obtain ⟨w1, e3, e4⟩ := cell_get t1 io.y io.s
      have hx : ∀ {M : Mode} {Γ : Gm} (i k : Nat), i ∈ [0, 1] → k = i → ∀ x y j, Γ[j]? = some (some (dt K (pairD x y))) → EE M Γ (tOp (rIx K) (tVar j) (tC (.int (k : Int)))) (dt K (.int (if i = 0 then x else y))) := fun i k hi e x y j h => by subst e; exact ee_side hi (ee_var h) ee_int
      have e9 : heldS x y r s t = (pre, cell a0 x r, cell a1 y s) := by rw [hh]; simp [heldS]
      rw [e9] at q
      refine sq_if (b := true) (et_test (ee_eqS (ee_ixT (ds := [.str "end", tabD a0, tabD a1]) (j := 0) (ee_var rfl) ee_int rfl rfl) ee_str)) (fun _ => ?_) fun h => nomatch h
      exact ss_ret (m := heldM K (pre, cell a0 x r, cell a1 y s)) (ee_two (ee_var rfl) (ee_tup (ds := [.int (cell a0 x r), .int (cell a1 y s)]) (ea_cons (ee_cell (v := a0) (x := x) (r := r) (ee_ixT (ds := [.str "end", tabD a0, tabD a1]) (j := 1) (ee_var rfl) ee_int rfl rfl) (hx 0 0 (by decide) rfl x y 1 rfl) (hx 0 0 (by decide) rfl r s 2 rfl) io.x.1 io.r.1 e1 e2)
        (ea_one (ee_cell (v := a1) (x := y) (r := s) (ee_ixT (ds := [.str "end", tabD a0, tabD a1]) (j := 2) (ee_var rfl) ee_int rfl rfl) (hx 1 1 (by decide) rfl x y 1 rfl) (hx 1 1 (by decide) rfl r s 2 rfl) io.y.1 io.s.1 e3 e4))) (by show 2 ≤ 100000; decide))) q
    | say i b f g =>
      obtain ⟨hi, hb, hbb, fok, gok⟩ := tok
      obtain ⟨row, e1, e2, hbit⟩ := bit_ok hi hb hbb io
      have ixT : ∀ {M : Mode} {Γ : Gm} (j : Nat) (d : PyData), Γ[3]? = some (some (dt K (Tr.D false (.say i b f g)))) → [.str "say", .int (i : Int), tabD b, f.D false, g.D false][j]? = some d → EE M Γ (tOp (rIx K) (tVar 3) (tC (.int (j : Int)))) (dt K d) := fun j d h e => ee_ixT (j := j) (ee_var h) ee_int rfl e
      refine sq_no (b := false) (et_is (et_test (ee_eqS (ixT 0 _ rfl rfl) ee_str)) (by decide +kernel)) rfl ?_
      refine sq_set (m := dt K (.int (bitOf i b x y r s))) (ee_cell (v := b) (x := if i = 0 then x else y) (r := if i = 0 then r else s) (ixT 2 _ rfl rfl) (ee_side hi (ee_var rfl) (ixT 1 _ rfl rfl)) (ee_side hi (ee_var rfl) (ixT 1 _ rfl rfl)) (by have := io.x; have := io.y; split <;> omega) (by have := io.r; have := io.s; split <;> omega) e1 e2) ?_
      refine sq_set (m := tkM (pre ++ [bitOf i b x y r s])) (ee_catK (ee_var rfl) (ee_tupK (K := K) (is := [bitOf i b x y r s]) (ea_one (ee_var rfl)) (by show 1 ≤ 100000; decide)) (by show pre.length + 1 ≤ 100000; omega)) ?_
      have ht : (Tr.say i b f g).ht = max f.ht g.ht + 1 := rfl
      have hf := Nat.le_max_left f.ht g.ht
      have hg := Nat.le_max_right f.ht g.ht
      rw [ht] at hl
      obtain ⟨t2, k2, tk, hle, hsel, hk2, hget⟩ : ∃ t2 k2, t2.Ok [0, 1] (sz2 X Y) (sz2 c0 c1) ∧ t2.ht ≤ max f.ht g.ht ∧ heldS x y r s (.say i b f g) = (bitOf i b x y r s :: (heldS x y r s t2).1, (heldS x y r s t2).2) ∧ (3 + bitOf i b x y r s : Int) = ((k2 : Nat) : Int) ∧ [.str "say", .int (i : Int), tabD b, f.D false, g.D false][k2]? = some (t2.D false) := by
        rcases hbit with h | h
        · refine ⟨f, 3, fok, hf, ?_, by rw [h]; rfl, rfl⟩
          show (bitOf i b x y r s :: (if bitOf i b x y r s = 0 then heldS x y r s f else heldS x y r s g).1, (if bitOf i b x y r s = 0 then heldS x y r s f else heldS x y r s g).2) = _
          rw [if_pos h]
        · refine ⟨g, 4, gok, hg, ?_, by rw [h]; rfl, rfl⟩
          show (bitOf i b x y r s :: (if bitOf i b x y r s = 0 then heldS x y r s f else heldS x y r s g).1, (if bitOf i b x y r s = 0 then heldS x y r s f else heldS x y r s g).2) = _
          rw [if_neg (by rw [h]; decide)]
      refine ss_set (m := dt K (t2.D false)) (ee_ixT (j := k2) (ee_var rfl) (ee_add ee_int (ee_var rfl)) hk2 hget) fun σ2 H2 a2 => ⟨t2, pre ++ [bitOf i b x y r s], ?_, tk, ?_, by omega, by rw [List.length_append]; show pre.length + 1 ≤ k + 1; omega⟩
      · exact a2.le (.cons (.cons (.cons (.cons (.cons (.drop (.drop .nil)))))))
      · rw [hh, hsel]
        simp
  · rintro σ1 H1 ⟨t', pre, a, tok, hh, hl, hpl⟩
    have : 0 < t'.ht := by cases t' <;> simp [Tr.ht]
    have : (300 : Int).toNat = 300 := rfl
    omega
def r_lanswer (K : PySem.W.Frag) : List MP → MP → Prop := fun Rs R => ∃ (X Y i : Nat) (t : Tab) (a b : Int), IsTab X Y t ∧ i ∈ [0, 1] ∧ (0 ≤ a ∧ a < (sz2 X Y i : Nat)) ∧ (0 ≤ b ∧ b < (sz2 Y X i : Nat)) ∧ Rs = [dt K (tabD t), dt K (.int (i : Int)), dt K (.int a), dt K (.int b)] ∧ R = dt K (.int (ansT t i a b))
abbrev C_lanswer (P : Program) (w : World) (K : PySem.W.Frag) (mg : Str → Option Value) (base : Heap) : Prop := Cal P w K mg base 1 "_law_answer" p__law_answer (spP (r_lanswer K))
theorem cal_lanswer (D : DefAt K mg "_law_answer" "_law_answer" s__law_answer p__law_answer) (T : Nm mg) : C_lanswer P w K mg base := by
  refine cal_P D sc__law_answer (fun Rs R h => by obtain ⟨_, _, _, _, _, _, _, _, _, _, rfl, _⟩ := h; rfl) fun f cdv A outer s H E hr => ⟨_, (pss_cons (ps_if (pt_cmpR op_eq (pv 1) pe_int (nomark _)) (pss_one (ps_ret (pe_ix (k_ix K) (pe_ix (k_ix K) (pv 0) (pv 2) (fun _ _ => rfl)) (pv 3) (fun _ _ => rfl)))) pss_nil)
  (pss_one (ps_ret (pe_ix (k_ix K) (pe_ix (k_ix K) (pv 0) (pv 3) (fun _ _ => rfl)) (pv 2) (fun _ _ => rfl))))), ?_⟩
  rintro Rs R ⟨X, Y, i, t, a, b, ht, hi, ha, hb, rfl, rfl⟩ F Q q
  rcases mem01 hi with rfl | rfl
  · obtain ⟨row, e1, e2⟩ := cell_get (n := X) (c := Y) ht ha hb
    exact sq_if (b := true) (et_is (et_test (ee_eqI (ee_var rfl) ee_int)) (by decide)) (fun _ => ss_ret (m := dt K (.int (cell t a b))) (ee_cell (ee_var rfl) (ee_var rfl) (ee_var rfl) ha.1 hb.1 e1 e2) q) fun h => nomatch h
  · obtain ⟨row, e1, e2⟩ := cell_get (n := X) (c := Y) ht hb ha
    exact sq_no (b := false) (et_is (et_test (ee_eqI (ee_var rfl) ee_int)) (by decide)) rfl (ss_ret (m := dt K (.int (cell t b a))) (ee_cell (ee_var rfl) (ee_var rfl) (ee_var rfl) hb.1 ha.1 e1 e2) q)
def r_whole (K : PySem.W.Frag) : List MP → MP → Prop := fun Rs R => ∃ (v m : Int), Rs = [dt K (.int v), dt K (.int m)] ∧ R = dt K (.bool (decide (0 ≤ v) && decide (v < m)))
abbrev C_whole (P : Program) (w : World) (K : PySem.W.Frag) (mg : Str → Option Value) (base : Heap) : Prop := Cal P w K mg base 1 "_law_whole" p__law_whole (spP (r_whole K))
theorem cal_whole (D : DefAt K mg "_law_whole" "_law_whole" s__law_whole p__law_whole) (T : Nm mg) : C_whole P w K mg base := by
  refine cal_P D sc__law_whole (fun Rs R h => by obtain ⟨_, _, rfl, _⟩ := h; rfl) fun f cdv A outer s H E hr => ⟨_, (pss_one (ps_ret (pe_and (pe_callB (k_isi K) (by rfl) T.isinstance (by decide +kernel) (pa_cons (pv 0) (pa_cons (pe_bltn (v := .ty "int") (by rfl) T.int (by decide +kernel) rfl) pa_nil))) (pe_and (pe_not (pe_callB (k_isi K) (by rfl) T.isinstance (by decide +kernel) (pa_cons (pv 0) (pa_cons (pe_bltn (v := .ty "bool") (by rfl) T.bool (by decide +kernel) rfl) pa_nil)))) (pe_and (pe_cmpR op_le pe_int (pv 0) (nomark _)) (pe_one (pe_cmpR op_lt (pv 0) (pv 1) (nomark _)))))))), ?_⟩
  rintro Rs R ⟨v, m, rfl, rfl⟩ F Q q
  exact ss_ret (ee_cast (ee_andB (ee_isi (ee_var rfl) kit_ii) fun _ => ee_andB (ee_not (ee_isi (ee_var rfl) kit_ib)) fun _ => ee_andB (ee_le ee_int (ee_var rfl)) fun _ => ee_lt (ee_var rfl) (ee_var rfl)) rfl) q
def PplB (n : Nat) (g : List Nat) : Prop := ∀ p ∈ g, 1 ≤ p ∧ p ≤ n
def r_lnumber (K : PySem.W.Frag) : List MP → MP → Prop := fun Rs R => ∃ (n : Nat) (sz g : List Nat) (nums : List Int), sz.length = n ∧ nums.length = n ∧ (∀ x ∈ sz, x ≤ 100) ∧ PplB n g ∧ Rs = [dt K (intsL nums), dt K (numsD sz), dt K (ids_ g)] ∧ R = dt K (.int (numOf sz nums g))
abbrev C_lnumber (P : Program) (w : World) (K : PySem.W.Frag) (mg : Str → Option Value) (base : Heap) : Prop := Cal P w K mg base 1 "_law_number" p__law_number (spP (r_lnumber K))
theorem foldl_snoc {α β : Type} (f : β → α → β) (b : β) {l : List α} {i : Nat} {x : α} (h : l[i]? = some x) : (l.take (i + 1)).foldl f b = f ((l.take i).foldl f b) x := by rw [List.take_succ, h, List.foldl_append]; rfl
theorem size_get {sz : List Nat} {n p : Nat} (hl : sz.length = n) (hp : 1 ≤ p ∧ p ≤ n) : (sz.map fun (p : Nat) => PyData.int (p : Int))[p - 1]? = some (.int (at1 sz p : Int)) := by rw [List.getElem?_map, at1_get hl hp]; rfl
theorem cal_lnumber (D : DefAt K mg "_law_number" "_law_number" s__law_number p__law_number) (T : Nm mg) : C_lnumber P w K mg base := by
  refine cal_P D sc__law_number (fun Rs R h => by obtain ⟨_, _, _, _, _, _, _, _, rfl, _⟩ := h; rfl) fun f cdv A outer s H E hr => ⟨_, (pss_cons (ps_set (i := 3) sc__law_number.nd rfl (Or.inl rfl) pe_int)
  (pss_cons (ps_for PassesOwn.never rfl (k_pl K (pv 2)) (pg_name (i := 4) sc__law_number.nd rfl (Or.inl rfl)) (pss_one (ps_set (i := 3) sc__law_number.nd rfl (Or.inl rfl) (pe_op op_add (pe_op op_mul (pv 3) (pe_ix (k_ix K) (pv 1) (pe_op op_sub (pv 4) pe_int) (fun _ _ => rfl))) (pe_ix (k_ix K) (pv 0) (pe_op op_sub (pv 4) pe_int) (fun _ _ => rfl))))))
  (pss_one (ps_ret (pv 3))))), ?_⟩
  rintro Rs R ⟨n, sz, g, nums, hl, hl2, hb, hg, rfl, rfl⟩ F Q q
  refine sq_set (m := dt K (.int (numOf sz nums (g.take 0)))) ee_int ?_
  refine ss_seq (ss_forLG (ms := (g.map fun (p : Nat) => PyData.int (p : Int)).map (dt K)) (fun i => [some (dt K (intsL nums)), some (dt K (numsD sz)), some (dt K (ids_ g)), some (dt K (.int (numOf sz nums (g.take i)))), none]) (ee_imp (ee_var rfl) fun _ _ r => lsM_of r) (.refl _) (fun Z' le i m hm => ?_) ?_)
  · obtain ⟨d, hd, rfl⟩ := map_get hm
    obtain ⟨p, hp, rfl⟩ := map_get hd
    have hpb := hg p (List.mem_of_getElem? hp)
    have ex : (p : Int) - 1 = ((p - 1 : Nat) : Int) := by omega
    have hs : at1 sz p ≤ 100 := hb _ (at1_mem hl hpb)
    refine ss_set (m := dt K (.int (numOf sz nums (g.take (i + 1))))) (ee_cast (ee_add (ee_mul (ee_var rfl) (ee_ixT (ds := sz.map fun (p : Nat) => PyData.int (p : Int)) (ee_var rfl) (ee_sub (ee_var rfl) ee_int) ex (size_get hl hpb)) (.inr (by omega))) (ee_ixL (ds := nums.map .int) (d := .int (nums.getD (p - 1) 0)) (ee_var rfl) (ee_sub (ee_var rfl) ee_int) ex ?_)) ?_) (ss_le ss_at (.cons (.cons (.cons (.cons (.drop .nil))))))
    · rw [List.getElem?_map, List.getD_eq_getElem?_getD, List.getElem?_eq_getElem (by omega)]; rfl
    · unfold numOf
      rw [foldl_snoc _ _ hp]
  · rw [List.length_map, List.length_map, List.take_length]
    exact ss_ret (ee_var rfl) q
def r_lmany (K : PySem.W.Frag) : List MP → MP → Prop := fun Rs R => ∃ (n : Nat) (sz g : List Nat), sz.length = n ∧ (∀ x ∈ sz, x ≤ 100) ∧ PplB n g ∧ Rs = [dt K (numsD sz), dt K (ids_ g)] ∧ R = dt K (.int (manyOf sz g))
abbrev C_lmany (P : Program) (w : World) (K : PySem.W.Frag) (mg : Str → Option Value) (base : Heap) : Prop := Cal P w K mg base 1 "_law_many" p__law_many (spP (r_lmany K))
theorem cal_lmany (D : DefAt K mg "_law_many" "_law_many" s__law_many p__law_many) (T : Nm mg) : C_lmany P w K mg base := by
  refine cal_P D sc__law_many (fun Rs R h => by obtain ⟨_, _, _, _, _, _, rfl, _⟩ := h; rfl) fun f cdv A outer s H E hr => ⟨_, (pss_cons (ps_set (i := 2) sc__law_many.nd rfl (Or.inl rfl) pe_int)
  (pss_cons (ps_for PassesOwn.never rfl (k_pl K (pv 1)) (pg_name (i := 3) sc__law_many.nd rfl (Or.inl rfl)) (pss_one (ps_set (i := 2) sc__law_many.nd rfl (Or.inl rfl) (pe_op op_mul (pv 2) (pe_ix (k_ix K) (pv 0) (pe_op op_sub (pv 3) pe_int) (fun _ _ => rfl))))))
  (pss_one (ps_ret (pv 2))))), ?_⟩
  rintro Rs R ⟨n, sz, g, hl, hb, hg, rfl, rfl⟩ F Q q
  refine sq_set (m := dt K (.int (manyOf sz (g.take 0)))) ee_int ?_
  refine ss_seq (ss_forLG (ms := (g.map fun (p : Nat) => PyData.int (p : Int)).map (dt K)) (fun i => [some (dt K (numsD sz)), some (dt K (ids_ g)), some (dt K (.int (manyOf sz (g.take i)))), none]) (ee_imp (ee_var rfl) fun _ _ r => lsM_of r) (.refl _) (fun Z' le i m hm => ?_) ?_)
  · obtain ⟨d, hd, rfl⟩ := map_get hm
    obtain ⟨p, hp, rfl⟩ := map_get hd
    have hpb := hg p (List.mem_of_getElem? hp)
    have ex : (p : Int) - 1 = ((p - 1 : Nat) : Int) := by omega
    have hs : at1 sz p ≤ 100 := hb _ (at1_mem hl hpb)
    refine ss_set (m := dt K (.int (manyOf sz (g.take (i + 1))))) (ee_cast (ee_mul (ee_var rfl) (ee_ixT (ds := sz.map fun (p : Nat) => PyData.int (p : Int)) (ee_var rfl) (ee_sub (ee_var rfl) ee_int) ex (size_get hl hpb)) (.inr (by omega))) ?_) (ss_le ss_at (.cons (.cons (.cons (.drop .nil)))))
    unfold manyOf
    rw [foldl_snoc _ _ hp]
  · rw [List.length_map, List.length_map, List.take_length]
    exact ss_ret (ee_var rfl) q
abbrev heldPM (K : PySem.W.Frag) (h : List Int × List Int) : MP := tpM K [tkM h.1, dt K (intsL h.2)]
def r_lhp (K : PySem.W.Frag) : List MP → MP → Prop := fun Rs R => ∃ (n : Nat) (sz cn : List Nat) (ins cns : List Int) (t : Tr), 1 ≤ n ∧ n ≤ 10 ∧ sz.length = n ∧ cn.length = n ∧ NumsIn n sz ins ∧ NumsIn n cn cns ∧ t.Ok (List.range' 1 n) (at1 sz) (at1 cn) ∧ t.ht ≤ 18 ∧ Rs = [dt K (t.D true), dt K (intsL ins), dt K (intsL cns)] ∧ R = heldPM K (heldP n ins cns t)
abbrev C_lhp (P : Program) (w : World) (K : PySem.W.Frag) (mg : Str → Option Value) (base : Heap) : Prop := Cal P w K mg base 1 "_law_held_people" p__law_held_people (spP (r_lhp K))
theorem nums_get {n : Nat} {sz : List Nat} {nums : List Int} (h : NumsIn n sz nums) {j : Nat} (hj : j < n) : (nums.map PyData.int)[j]? = some (.int (nums.getD j 0)) := by
  rw [List.getElem?_map, List.getD_eq_getElem?_getD, List.getElem?_eq_getElem (by rw [h.len]; exact hj)]; rfl
theorem cal_lhp (D : DefAt K mg "_law_held_people" "_law_held_people" s__law_held_people p__law_held_people) (T : Nm mg) : C_lhp P w K mg base := by
  refine cal_P D sc__law_held_people (fun Rs R h => by obtain ⟨_, _, _, _, _, _, _, _, _, _, _, _, _, _, rfl, _⟩ := h; rfl) fun f cdv A outer s H E hr => ⟨_, (pss_cons (ps_set (i := 3) sc__law_held_people.nd rfl (Or.inl rfl) (pe_tup pa_nil))
  (pss_cons (ps_for PassesOwn.never rfl (pi_range1 (by rfl) T.range (pa_cons pe_int pa_nil)) (pg_name (i := 4) sc__law_held_people.nd rfl (Or.inl rfl)) (pss_cons (ps_if (pt_cmpR op_eq (pe_ix (k_ix K) (pv 0) pe_int (fun _ _ => rfl)) pe_str (nomark _)) (pss_one (ps_ret (pe_tup (pa_cons (pv 3) (pa_cons (pe_lc (own := [("_law_p", 5)]) rfl sc__law_held_people.nd (pi_range1 (by rfl) T.range (pa_cons (pe_callB (k_len K) (by rfl) T.len (by decide +kernel) (pa_cons (pv 1) pa_nil)) pa_nil)) (blkOk_by (N := n__law_held_people) (sc := defScope s__law_held_people) (scope := cs__law_held_people_0) (own := [("_law_p", 5)]) (by decide +kernel)) (fun _ _ _ _ _ => (pg_name (i := 5) sc__law_held_people.nd rfl (Or.inl rfl))) (fun _ _ _ _ _ => pts_nil) (fun _ _ _ _ _ => (pe_ix (k_ix K) (pe_ix (k_ix K) (pe_ix (k_ix K) (pe_ix (k_ix K) (pv 0) pe_int (fun _ _ => rfl)) (pv 5) (fun _ _ => rfl)) (pe_ix (k_ix K) (pv 1) (pv 5) (fun _ _ => rfl)) (fun _ _ => rfl)) (pe_ix (k_ix K) (pv 2) (pv 5) (fun _ _ => rfl)) (fun _ _ => rfl)))) pa_nil))))) pss_nil)
  (pss_cons (ps_set (i := 5) sc__law_held_people.nd rfl (Or.inl rfl) (pe_op op_sub (pe_ix (k_ix K) (pv 0) pe_int (fun _ _ => rfl)) pe_int))
  (pss_cons (ps_set (i := 6) sc__law_held_people.nd rfl (Or.inl rfl) (pe_ix (k_ix K) (pe_ix (k_ix K) (pe_ix (k_ix K) (pv 0) pe_int (fun _ _ => rfl)) (pe_ix (k_ix K) (pv 1) (pv 5) (fun _ _ => rfl)) (fun _ _ => rfl)) (pe_ix (k_ix K) (pv 2) (pv 5) (fun _ _ => rfl)) (fun _ _ => rfl)))
  (pss_cons (ps_set (i := 3) sc__law_held_people.nd rfl (Or.inl rfl) (pe_op (k_catA K) (pv 3) (pe_tup (pa_cons (pv 6) pa_nil))))
  (pss_one (ps_set (i := 0) sc__law_held_people.nd rfl (Or.inr rfl) (pe_ix (k_ix K) (pv 0) (pe_op op_add pe_int (pv 6)) (fun _ _ => rfl)))))))))
  (pss_one (ps_ret pe_non)))), ?_⟩
  rintro Rs R ⟨n, sz, cn, ins, cns, t, hn1, hn, hls, hlc, hi, hc, tok, hht, rfl, rfl⟩ F Q q
  refine sq_set (m := tkM []) (ee_tupK (K := K) ea_nil (by show 0 ≤ 100000; decide)) ?_
  refine ss_seq (ss_forR1 (K := K) (n := 20) (ea_one ee_int) (by omega) (fun k σ H' => ∃ (t' : Tr) (pre : List Int), At ⟨pu, F, H⟩ pu [some (dt K (t'.D true)), some (dt K (intsL ins)), some (dt K (intsL cns)), some (tkM pre), none, none, none] σ H' ∧
    t'.Ok (List.range' 1 n) (at1 sz) (at1 cn) ∧ heldP n ins cns t = (pre ++ (heldP n ins cns t').1, (heldP n ins cns t').2) ∧ k + t'.ht ≤ 19 ∧ pre.length ≤ k) (fun σ H' a => ⟨t, [], a, tok, rfl, by omega, Nat.le_refl _⟩) ?_ ?_)
  · rintro k σ1 H1 hk ⟨t', pre, a, tok, hh, hl, hpl⟩
    refine ss_go (a.put (m := dt K (.int (k : Int))) (.int _)) ?_
    cases t' with
    | fin as =>
      obtain ⟨hla, has⟩ := tok
      rw [List.length_range'] at hla
      have e9 : heldP n ins cns t = (pre, (List.range n).map fun p => cell (as.getD p []) (ins.getD p 0) (cns.getD p 0)) := by rw [hh]; simp [heldP]
      rw [e9] at q
      have ixT : ∀ {M : Mode} {Γ : Gm} (j : Nat) (d : PyData), Γ[0]? = some (some (dt K (Tr.D true (.fin as)))) → [.str "end", .tuple (as.map tabD)][j]? = some d → EE M Γ (tOp (rIx K) (tVar 0) (tC (.int (j : Int)))) (dt K d) := fun j d h e => ee_ixT (j := j) (ee_var h) ee_int rfl e
      refine sq_if (b := true) (et_test (ee_eqS (ixT 0 _ rfl rfl) ee_str)) (fun _ => ?_) fun h => nomatch h
      refine ss_ret (m := heldPM K (pre, (List.range n).map fun p => cell (as.getD p []) (ins.getD p 0) (cns.getD p 0))) (ee_two (ee_var rfl) (ee_cast (ee_lcR1D (n := (n : Int)) (fun p => .int (cell (as.getD p []) (ins.getD p 0) (cns.getD p 0))) (ea_one (ee_cast (ee_lenL (ds := ins.map .int) (ee_var rfl)) (by rw [List.length_map, hi.len]))) (by omega) (by decide) fun p hp => ?_) ?_)) q
      · have hp : p < n := by omega
        have ha : as[p]? = some (as.getD p []) := by rw [List.getD_eq_getElem?_getD, List.getElem?_eq_getElem (by omega)]; rfl
        have htab := has p (p + 1) _ (by rw [List.getElem?_range' hp]; simp; omega) ha
        have h1 := hi.lt (p + 1) (by omega) (by omega)
        have h2 := hc.lt (p + 1) (by omega) (by omega)
        obtain ⟨row, e1, e2⟩ := cell_get htab h1 h2
        exact ee_cell (v := as.getD p []) (row := row) (x := ins.getD p 0) (r := cns.getD p 0) (ee_ixT (ds := as.map tabD) (j := p) (ixT 1 _ rfl rfl) (ee_var rfl) rfl (by rw [List.getElem?_map, ha]; rfl)) (ee_ixL (ds := ins.map .int) (j := p) (ee_var rfl) (ee_var rfl) rfl (nums_get hi hp)) (ee_ixL (ds := cns.map .int) (j := p) (ee_var rfl) (ee_var rfl) rfl (nums_get hc hp)) h1.1 h2.1 e1 e2
      · rw [Int.toNat_natCast]
        show PyData.list _ = PyData.list (((List.range n).map _).map _)
        rw [List.map_map]; rfl
    | say i b f g =>
      obtain ⟨him, hb, hbb, fok, gok⟩ := tok
      have hib := ShOk_ppl i him
      have h1 := hi.lt i hib.1 hib.2
      have h2 := hc.lt i hib.1 hib.2
      obtain ⟨row, e1, e2⟩ := cell_get hb h1 h2
      have hbit := hbb row (List.mem_of_getElem? e1) _ (List.mem_of_getElem? e2)
      have ixT : ∀ {M : Mode} {Γ : Gm} (j : Nat) (d : PyData), Γ[0]? = some (some (dt K (Tr.D true (.say i b f g)))) → [.str "say", .int (i : Int), tabD b, f.D true, g.D true][j]? = some d → EE M Γ (tOp (rIx K) (tVar 0) (tC (.int (j : Int)))) (dt K d) := fun j d h e => ee_ixT (j := j) (ee_var h) ee_int rfl e
      refine sq_no (b := false) (et_is (et_test (ee_eqS (ixT 0 _ rfl rfl) ee_str)) (by decide +kernel)) rfl ?_
      have ex : (i : Int) - 1 = ((i - 1 : Nat) : Int) := by omega
      refine sq_set (m := dt K (.int ((i - 1 : Nat) : Int))) (ee_cast (ee_sub (ixT 1 _ rfl rfl) ee_int) (by rw [ex])) ?_
      generalize hz : cell b (ins.getD (i - 1) 0) (cns.getD (i - 1) 0) = z at e2 hbit
      refine sq_set (m := dt K (.int z)) (ee_cell (v := b) (row := row) (x := ins.getD (i - 1) 0) (r := cns.getD (i - 1) 0) (ixT 2 _ rfl rfl) (ee_ixL (ds := ins.map .int) (j := i - 1) (ee_var rfl) (ee_var rfl) rfl (nums_get hi (by omega))) (ee_ixL (ds := cns.map .int) (j := i - 1) (ee_var rfl) (ee_var rfl) rfl (nums_get hc (by omega))) h1.1 h2.1 e1 e2) ?_
      refine sq_set (m := tkM (pre ++ [z])) (ee_catK (ee_var rfl) (ee_tupK (K := K) (is := [z]) (ea_one (ee_var rfl)) (by show 1 ≤ 100000; decide)) (by show pre.length + 1 ≤ 100000; omega)) ?_
      have ht : (Tr.say i b f g).ht = max f.ht g.ht + 1 := rfl
      have hf := Nat.le_max_left f.ht g.ht
      have hg := Nat.le_max_right f.ht g.ht
      rw [ht] at hl
      have hdef : heldP n ins cns (.say i b f g) = (z :: (if z = 0 then heldP n ins cns f else heldP n ins cns g).1, (if z = 0 then heldP n ins cns f else heldP n ins cns g).2) := by rw [← hz]; rfl
      obtain ⟨t2, k2, tk, hle, hsel, hk2, hget⟩ : ∃ t2 k2, t2.Ok (List.range' 1 n) (at1 sz) (at1 cn) ∧ t2.ht ≤ max f.ht g.ht ∧ heldP n ins cns (.say i b f g) = (z :: (heldP n ins cns t2).1, (heldP n ins cns t2).2) ∧ (3 + z : Int) = ((k2 : Nat) : Int) ∧ [.str "say", .int (i : Int), tabD b, f.D true, g.D true][k2]? = some (t2.D true) := by
        rcases hbit with h | h
        · exact ⟨f, 3, fok, hf, by rw [hdef, if_pos h], by rw [h]; rfl, rfl⟩
        · exact ⟨g, 4, gok, hg, by rw [hdef, if_neg (by rw [h]; decide)], by rw [h]; rfl, rfl⟩
      refine ss_set (m := dt K (t2.D true)) (ee_ixT (j := k2) (ee_var rfl) (ee_add ee_int (ee_var rfl)) hk2 hget) fun σ2 H2 a2 => ⟨t2, pre ++ [z], ?_, tk, ?_, by omega, by rw [List.length_append]; show pre.length + 1 ≤ k + 1; omega⟩
      · exact a2.le (.cons (.cons (.cons (.cons (.drop (.drop (.drop .nil)))))))
      · rw [hh, hsel]
        simp
  · rintro σ1 H1 ⟨t', pre, a, tok, hh, hl, hpl⟩
    have : 0 < t'.ht := by cases t' <;> simp [Tr.ht]
    have : (20 : Int).toNat = 20 := rfl
    omega
end
end K46
/-! K46, part p: dicts whose keys are tuples: compared, joined. -/
namespace K46
open PySem
section
variable {prog : Program} {w : World} {KT : Type} [DecidableEq KT] {knd : HeapKind prog w KT} {A : Around} {E : Value → Shared → Prop} {s : Shared}
abbrev Ent (KT : Type) := List (KT × Addr × Value)
/-- the answer: every key of xs stands in ys, its value alike -/
def sameH (e : Value → Value → Bool) (ys : Ent KT) (xs : Ent KT) : Bool := xs.all fun x => match atKey ys x.1 with
  | some p => e x.2.2 p.2
  | none => false
theorem atKey_at {ys : Ent KT} {k : KT} {j : Nat} {p : Addr × Value} (hn : (ys.map (·.1)).Nodup) (h : ys[j]? = some (k, p)) : atKey ys k = some p := by
  induction ys generalizing j with
  | nil => simp at h
  | cons y r ih =>
    cases j with
    | zero =>
      have e0 : y = (k, p) := by simpa using h
      subst e0
      simp [atKey]
    | succ j =>
      rw [List.map_cons, List.nodup_cons] at hn
      have h' : r[j]? = some (k, p) := by simpa using h
      have hne : ¬ y.1 = k := fun e => hn.1 (by rw [e]; exact List.mem_map.mpr ⟨_, List.mem_of_getElem? h', rfl⟩)
      have e1 := ih hn.2 h'
      unfold atKey at e1 ⊢
      rw [List.find?_cons]
      simp only [hne, decide_false]
      exact e1
theorem atKey_no {ys : Ent KT} {k : KT} (h : ∀ (j : Nat) (p : Addr × Value), ys[j]? ≠ some (k, p)) : atKey ys k = none := by
  unfold atKey
  cases q : ys.find? fun x => decide (x.1 = k) with
  | none => rfl
  | some y =>
    have h1 : y.1 = k := by simpa using List.find?_some q
    obtain ⟨j, hj⟩ := List.mem_iff_getElem?.mp (List.mem_of_find?_eq_some q)
    exact absurd (by rw [hj, ← h1]) (h j y.2)
/-- two dicts compared entry by entry -/
theorem pairs_alike {nm : String} {a b : Addr} {xs ys : Ent KT} {e : Value → Value → Bool} {Q : Bool → Shared → Prop} (hu : knd.room A) (na : (a == sysModules) = false) (nb : (b == sysModules) = false)
    (hx : s.heap.DictOfH knd a xs) (hy : s.heap.DictOfH knd b ys) (he : ∀ x ∈ xs, ∀ y ∈ ys, SeqAt.EqAt A s x.2.2 y.2.2 (e x.2.2 y.2.2)) (h : Q (xs.length == ys.length && sameH e ys xs) s) :
    wpAny (model prog w) A (Builtin.Dict.samePairs nm a b) Q E s := by
  obtain ⟨o1, es1, ep1, g1, _, d1, l1, k1, _⟩ := hx
  obtain ⟨o2, es2, ep2, g2, _, d2, l2, k2, n2⟩ := hy
  have z1 : es1.size = xs.length := size_of_entries l1
  have z2 : es2.size = ys.length := size_of_entries l2
  unfold Builtin.Dict.samePairs Builtin.Dict.showsAll
  rw [if_neg (by rw [na]; exact Bool.false_ne_true), if_neg (by rw [nb]; exact Bool.false_ne_true)]
  refine wpAny_bind (wpAny_pure (wpAny_bind (wpAny_pure (wpAny_bind (wpAny_dictEntries g1 d1 ?_)))))
  dsimp only
  refine wpAny_bind (wpAny_dictEntries g2 d2 ?_)
  by_cases hz : xs.length = ys.length
  · rw [if_neg (by rw [z1, z2, hz]; simp)]
    have h0 : Q (sameH e ys xs) s := by simpa [hz] using h
    refine wpAny_bind (wpAny_dictEpoch g1 d1 (wpAny_bind ?_))
    rw [Std.Legacy.Range.forIn_eq_forIn_range']
    simp only [Std.Legacy.Range.size, Nat.sub_zero, Nat.add_sub_cancel, Nat.div_one]
    refine wpAny_forIn_list _ (fun rest q s' => s' = s ∧ q = (none, ()) ∧ ∃ i, rest = List.range' i (es1.size - i) ∧ i ≤ es1.size ∧ Q (sameH e ys (xs.drop i)) s) _ ?_ ?_ _ _ ⟨rfl, rfl, 0, by simp, Nat.zero_le _, by simpa using h0⟩
    · rintro i0 rest q s' ⟨rfl, rfl, i, hr, hi, hq⟩
      have hlt : i < es1.size := by
        cases Nat.lt_or_ge i es1.size with
        | inl g => exact g
        | inr g => rw [Nat.sub_eq_zero_of_le g] at hr; simp at hr
      have er : es1.size - i = (es1.size - (i + 1)) + 1 := by omega
      rw [er, List.range'_succ] at hr
      injection hr with hr1 hr2
      subst hr1
      have hlx : i0 < xs.length := by omega
      have gx : xs[i0]? = some xs[i0] := List.getElem?_eq_getElem hlx
      obtain ⟨kx, bx, vx, exx⟩ : ∃ kx bx vx, xs[i0] = (kx, bx, vx) := ⟨_, _, _, rfl⟩
      have ent : es1[i0]? = some (entryOfKey knd (kx, bx, vx)) := by rw [entry_at l1 i0, gx, exx]; rfl
      have kin := k1 _ (List.mem_of_getElem? gx)
      rw [exx] at kin
      have hd : xs.drop i0 = (kx, bx, vx) :: xs.drop (i0 + 1) := by rw [List.drop_eq_getElem_cons hlx, exx]
      have hqs : sameH e ys (xs.drop i0) = ((match atKey ys kx with | some p => e vx p.2 | none => false) && sameH e ys (xs.drop (i0 + 1))) := by
        rw [hd]; rfl
      refine wpAny_bind (wpAny_dictEntries g1 d1 ?_)
      rw [ent]
      show wpAny _ _ (holding [(entryOfKey knd (kx, bx, vx)).key, (entryOfKey knd (kx, bx, vx)).val] _ >>= _) _ _ _
      refine wpAny_bind (wpAny_holding (wpAny_bind (wpAny_dictFind_heap hu kin g2 d2 l2 k2 n2 (fun no => ?_) fun j p hj => ?_)))
      · refine wpAny_pure ?_
        show wpAny _ _ (if (!false) = true then _ else _) _ _ _
        rw [if_pos (by decide)]
        rw [hqs, atKey_no no] at hq
        exact wpAny_pure (wpAny_pure hq)
      · have ent2 : es2[j]? = some (entryOfKey knd (kx, p)) := by rw [entry_at l2 j, hj]; rfl
        refine wpAny_bind (wpAny_dictEntries g2 d2 ?_)
        rw [ent2]
        rw [hqs, atKey_at n2 hj] at hq
        have hq : Q (e vx p.2 && sameH e ys (xs.drop (i0 + 1))) s' := hq
        have eq1 := he _ (List.mem_of_getElem? gx) _ (List.mem_of_getElem? hj)
        rw [exx] at eq1
        refine wpAny_holding (eq1 prog w _ _ ?_)
        cases c : e vx p.2 with
        | false =>
          rw [c] at hq
          show wpAny _ _ (if (!false) = true then _ else _) _ _ _
          rw [if_pos (by decide)]
          exact wpAny_pure (wpAny_pure hq)
        | true =>
          rw [c, Bool.true_and] at hq
          show wpAny _ _ (if (!true) = true then _ else _) _ _ _
          rw [if_neg (by decide)]
          refine wpAny_bind (wpAny_dictEpoch g1 d1 ?_)
          rw [if_neg (by simp)]
          exact wpAny_pure ⟨rfl, rfl, i0 + 1, hr2, hlt, hq⟩
    · rintro q s' ⟨rfl, rfl, i, hr, hi, hq⟩
      have e1 : i = es1.size := by
        cases Nat.lt_or_ge i es1.size with
        | inl g =>
          have er : es1.size - i = (es1.size - (i + 1)) + 1 := by omega
          rw [er, List.range'_succ] at hr
          exact nomatch hr
        | inr g => exact Nat.le_antisymm hi g
      refine wpAny_pure ?_
      rw [e1, z1, List.drop_length] at hq
      exact hq
  · rw [if_pos (by rw [z1, z2]; simpa using hz)]
    have hf : (xs.length == ys.length) = false := by simpa using hz
    rw [hf, Bool.false_and] at h
    exact wpAny_bind (wpAny_rule (wpAny_pure h))
/-- a != b -/
theorem differ {a b : Addr} {xs ys : Ent KT} {e : Value → Value → Bool} {Q : Value → Shared → Prop} (hr : knd.room A.in1) (hu : A.units < cLine) (na : (a == sysModules) = false) (nb : (b == sysModules) = false)
    (hx : s.heap.DictOfH knd a xs) (hy : s.heap.DictOfH knd b ys) (he : ∀ x ∈ xs, ∀ y ∈ ys, SeqAt.EqAt A.in1 s x.2.2 y.2.2 (e x.2.2 y.2.2)) (h : Q (.bool (!(xs.length == ys.length && sameH e ys xs))) s) :
    wpAny (model prog w) A (compareOp .NotEq (.ref a) (.ref b)) Q E s := by
  refine wpAny_richCompare_same_room (op := .NotEq) hx.typeIs hy.typeIs PySem.F.slot_dict_ne (wpAny_call_entry PySem.F.slot_dict_ne hx.typeIs PySem.F.entry_dict_ne ?_ (PySem.F.args_dict_ne_2 _ _)) hu
  show wpAny _ _ (Builtin.Dict.dictSlotArgs "__ne__" ⟨[.ref a, .ref b], []⟩ >>= _) _ _ s
  unfold Builtin.Dict.dictSlotArgs
  refine wpAny_bind (wpAny_bind (wpAny_notOrdered_dict hx.typeIs ?_))
  show wpAny _ _ (pure (Value.ref a, Value.ref b)) _ _ s
  refine wpAny_pure (wpAny_bind (wpAny_isInstance (T := "dict") hy.typeIs PySem.F.sub_dict_dict ?_))
  simp only [Bool.not_true, Bool.false_eq_true, if_false]
  refine wpAny_bind (wpAny_pure (wpAny_bind (wpAny_pure (wpAny_bind (pairs_alike hr na nb hx hy he (wpAny_pure ⟨_, rfl, (fun x => nomatch x), ?_⟩))))))
  simpa using h
end
end K46
/-! K46, part q: rules for |, sorted and != on dicts with keys that are tuples of ints. -/
namespace K46
open PySem L2
section
variable {prog : Program} {w : World} {KT : Type} [DecidableEq KT] {knd : HeapKind prog w KT} {A : Around} {E : Value → Shared → Prop} {s : Shared}
/-- a | b -/
theorem joined {a b : Addr} {xs ys : Ent KT} {Q : Value → Shared → Prop} (hr : knd.room A.in1) (na : (a == sysModules) = false) (nb : (b == sysModules) = false)
    (hx : s.heap.DictOfH knd a xs) (hy : s.heap.DictOfH knd b ys) (h0 : xs ≠ []) (hty : ∀ x ∈ xs, s.TypeIs (.ref x.2.1) "tuple") (hap : (xs.map fun x => knd.hash x.1).Nodup) (hsz : xs.length + ys.length ≤ sizeLine)
    (hst : ∀ h' k c, (∀ b o, s.heap.get? b = some o → h'.get? b = some o) → knd.is s.heap k c → knd.is h' k c)
    (h : ∀ h', h'.DictOfH knd s.heap.objs.size (storedAllH xs ys) → (∀ b o, s.heap.get? b = some o → h'.get? b = some o) → Q (.ref s.heap.objs.size) { s with heap := h' }) :
    wpAny (model prog w) A (binaryOp .BitOr (.ref a) (.ref b)) Q E s := by
  refine wpAny_binaryOp_same (op := .BitOr) hx.typeIs hy.typeIs PySem.F.fills_dict_or PySem.F.slot_dict_or (wpAny_call_entry PySem.F.slot_dict_or hx.typeIs PySem.F.entry_dict_or ?_ (PySem.F.args_dict_or_2 _ _))
  obtain ⟨o, es, ep, ho, hc, hdat, hes, his, hn⟩ := id hx
  show wpAny _ _ (Builtin.Dict.dictSlotArgs "__or__" ⟨[.ref a, .ref b], []⟩ >>= _) _ _ s
  unfold Builtin.Dict.dictSlotArgs
  refine wpAny_bind (wpAny_bind (wpAny_notOrdered_dict hx.typeIs ?_))
  refine wpAny_pure ?_
  show wpAny _ _ ((isInstance (.ref a) (.type "dict") <&&> isInstance (.ref b) (.type "dict")) >>= _) _ _ s
  refine wpAny_bind (wpAny_bind (wpAny_isInstance (T := "dict") hx.typeIs PySem.F.sub_dict_dict ?_))
  show wpAny _ _ (isInstance (.ref b) (.type "dict")) _ _ s
  refine wpAny_isInstance (T := "dict") hy.typeIs PySem.F.sub_dict_dict ?_
  simp only [Bool.not_true, Bool.false_eq_true, if_false]
  show wpAny _ _ (Builtin.Dict.copyOf "dict.__or__" (.ref a) >>= _) _ _ s
  refine wpAny_bind ?_
  unfold Builtin.Dict.copyOf
  refine wpAny_bind (wpAny_pure ?_)
  unfold Builtin.Dict.showsAll
  rw [if_neg (by rw [na]; exact Bool.false_ne_true)]
  refine wpAny_bind (wpAny_pure ?_)
  refine wpAny_bind (wpAny_dictEntries ho hdat ?_)
  have hsz1 : es.size = xs.length := size_of_entries hes
  have hne : ¬ es.isEmpty = true := fun z => h0 (List.length_eq_zero_iff.mp (by rw [← hsz1, Array.isEmpty_iff.mp z]; rfl))
  rw [if_neg hne]
  refine wpAny_bind ?_
  unfold Builtin.Dict.readDirectly
  refine wpAny_bind (wpAny_isInstance hx.typeIs isSubtype_dict_dict ?_)
  simp only [Bool.not_true, Bool.false_eq_true, if_false]
  refine wpAny_bind (wpAny_specialOf hx.typeIs F.slot_dict_iter.lookup (wpAny_pure ?_))
  simp only [beq_self_eq_true, if_true]
  refine wpAny_bind (wpAny_entriesForEmpty_raw ho hdat (keysApart hes hty hap) (wpAny_newObj_type ?_ (show es.size ≤ sizeLine + 1 by omega)))
  have keep : ∀ b o, s.heap.get? b = some o → (s.heap.push { cls := .type "dict", data := .dict es }).get? b = some o := fun b o e => Heap.get?_push_of_some _ e
  have hx2 : (s.heap.push { cls := .type "dict", data := .dict es }).DictOfH knd s.heap.objs.size xs := ⟨_, es, 0, Heap.get?_push_size _ rfl, ⟨rfl, rfl, rfl⟩, rfl, hes, fun x hm => hst _ _ _ keep (his x hm), hn⟩
  have hy2 : (s.heap.push { cls := .type "dict", data := .dict es }).DictOfH knd b ys := by
    obtain ⟨o2, es2, ep2, ho2, hc2, hdat2, hes2, his2, hn2⟩ := hy
    exact ⟨o2, es2, ep2, keep b o2 ho2, hc2, hdat2, hes2, fun x hm => hst _ _ _ keep (his2 x hm), hn2⟩
  have hab : s.heap.objs.size ≠ b := fun e => by
    obtain ⟨o2, es2, ep2, ho2, _⟩ := hy
    have q := Heap.lt_size ho2
    rw [← e] at q
    exact absurd q (Nat.lt_irrefl _)
  show wpAny _ _ (holding [Value.ref s.heap.objs.size] _) _ _ _
  refine wpAny_holding ?_
  show wpAny _ _ (Builtin.Dict.updateFrom "dict.__or__" s.heap.objs.size (.ref b) [] (.ref s.heap.objs.size)) _ _ _
  unfold Builtin.Dict.updateFrom
  refine wpAny_bind (wpAny_typeOf hy2.typeIs ?_)
  rw [if_neg (by decide)]
  refine wpAny_bind ?_
  unfold Builtin.Dict.merge
  refine wpAny_bind ?_
  unfold Builtin.Dict.readDirectly
  refine wpAny_bind (wpAny_isInstance hy2.typeIs isSubtype_dict_dict ?_)
  simp only [Bool.not_true, Bool.false_eq_true, if_false]
  refine wpAny_bind (wpAny_specialOf hy2.typeIs F.slot_dict_iter.lookup (wpAny_pure ?_))
  simp only [beq_self_eq_true, if_true]
  refine wpAny_bind (wpAny_pure ?_)
  refine wpAny_mergeDict_heap (hsz := hsz) hr hab nb hx2 hy2 (.inl h0) fun h' hd' ho' hs' => ?_
  show wpAny _ _ (Builtin.Dict.addKeywords s.heap.objs.size [] >>= _) _ _ _
  refine wpAny_bind (wpAny_pure (wpAny_pure ⟨_, rfl, (fun z => nomatch z), h h' hd' fun c u e => ?_⟩))
  exact (hs'.2 c (Nat.ne_of_lt (Heap.lt_size e))).trans (keep c u e)
end
/-! ### dicts with keys that are objects, each key's place told -/
structure Kd (P : Program) (w : World) (KT : Type) [DecidableEq KT] where
  knd : HeapKind P w KT
  kin : Hp → KT → Addr → Prop
  sound : ∀ {H : Hp} {h : Heap} {k : KT} {b : Addr}, HOk P w H h → kin H k b → knd.is h k b
  mono : ∀ {H H' : Hp} {k : KT} {b : Addr}, kin H k b → (∀ c xs, H c = some (.tup xs) → H' c = some (.tup xs)) → kin H' k b
  room : ∀ {A : Around}, A.units + 64 < cLine → knd.room A.in1
  stays : knd.Stays
section
variable {P : Program} {w : World} {KT : Type} [DecidableEq KT] {D : Kd P w KT} {H H' : Hp} {h : Heap} {a b : Addr} {k : KT}
abbrev NX (KT : Type) := List (KT × Addr × V)
abbrev NR : NX KT → Ent KT → Prop := Paired fun p q => p.1 = q.1 ∧ p.2.1 = q.2.1 ∧ RelV p.2.2 q.2.2
def nd (D : Kd P w KT) (a : Addr) (xs : NX KT) : HO := .ext fun h => (a == sysModules) = false ∧ xs.length ≤ sizeLine ∧ ∃ ws, NR xs ws ∧ ∃ o es ep, h.get? a = some o ∧ o.ExactDict ∧ o.data = .dict es ep ∧ es.toList = ws.map (entryOfKey D.knd) ∧ (ws.map (·.1)).Nodup
abbrev KIn (D : Kd P w KT) (H : Hp) (xs : NX KT) : Prop := ∀ x ∈ xs, D.kin H x.1 x.2.1
theorem NR.mem {xs : NX KT} {ws : Ent KT} (r : NR xs ws) : ∀ x ∈ ws, ∃ y ∈ xs, y.1 = x.1 ∧ y.2.1 = x.2.1 ∧ RelV y.2.2 x.2.2 := by
  induction r with
  | nil => exact fun x h => nomatch h
  | cons h t ih =>
    intro x hx
    rcases List.mem_cons.mp hx with e | hx
    · subst e; exact ⟨_, List.mem_cons_self, h⟩
    · obtain ⟨y, h1, h2⟩ := ih x hx
      exact ⟨y, List.mem_cons_of_mem _ h1, h2⟩
theorem nd_of {xs : NX KT} (ok : HOk P w H h) (e : H a = some (nd D a xs)) (hk : KIn D H xs) : (a == sysModules) = false ∧ xs.length ≤ sizeLine ∧ ∃ ws, NR xs ws ∧ h.DictOfH D.knd a ws := by
  obtain ⟨⟨n, l, ws, r, o, es, ep, h1, h2, h3, h4, h5⟩, _⟩ := (show ObjOk P w H h a (nd D a xs) from ok a _ e)
  refine ⟨n, l, ws, r, o, es, ep, h1, h2, h3, h4, fun x hx => ?_, h5⟩
  obtain ⟨y, hy, e1, e2, _⟩ := r.mem x hx
  rw [← e1, ← e2]
  exact D.sound ok (hk y hy)
theorem nd_ok {xs : NX KT} {ws : Ent KT} (n : (a == sysModules) = false) (l : xs.length ≤ sizeLine) (r : NR xs ws) (d : h.DictOfH D.knd a ws) : ObjOk P w H h a (nd D a xs) := by
  obtain ⟨o, es, ep, h1, h2, h3, h4, _, h5⟩ := d
  refine ⟨⟨n, l, ws, r, o, es, ep, h1, h2, h3, h4, h5⟩, ⟨o, h1⟩, fun g1 g2 ⟨n, l, ws, r, o, es, ep, h1, h2, h3, h4, h5⟩ k => ⟨n, l, ws, r, o, es, ep, k o h1, h2, h3, h4, h5⟩⟩
def ndVal (xs : NX KT) (k : KT) : Option V := (xs.find? fun x => decide (x.1 = k)).map (·.2.2)
def ndPut (xs : NX KT) (k : KT) (b : Addr) (v : V) : NX KT := if xs.any (fun x => decide (x.1 = k)) then xs.map fun x => if x.1 = k then (x.1, x.2.1, v) else x else xs ++ [(k, b, v)]
theorem NR.val {xs : NX KT} {ws : Ent KT} (r : NR xs ws) (k : KT) : RelO (ndVal xs k) ((atKey ws k).map (·.2)) := by
  induction r with
  | nil => exact True.intro
  | @cons p q ps qs h t ih =>
    by_cases e : p.1 = k
    · have e2 : q.1 = k := h.1 ▸ e
      have f1 : ndVal (p :: ps) k = some p.2.2 := by simp [ndVal, e]
      have f2 : (atKey (q :: qs) k).map (·.2) = some q.2.2 := by simp [atKey, e2]
      rw [f1, f2]
      exact h.2.2
    · have e2 : ¬ q.1 = k := h.1 ▸ e
      have f1 : ndVal (p :: ps) k = ndVal ps k := by simp [ndVal, e]
      have f2 : (atKey (q :: qs) k).map (·.2) = (atKey qs k).map (·.2) := by simp [atKey, e2]
      rw [f1, f2]
      exact ih
theorem NR.any {xs : NX KT} {ws : Ent KT} (r : NR xs ws) (k : KT) : (xs.any fun x => decide (x.1 = k)) = (atKey ws k).isSome := by
  induction r with
  | nil => rfl
  | @cons p q ps qs h t ih =>
    rw [List.any_cons, ih]
    by_cases e : p.1 = k
    · have e2 : q.1 = k := h.1 ▸ e
      simp [atKey, e, e2]
    · have e2 : ¬ q.1 = k := h.1 ▸ e
      simp [atKey, e, e2]
theorem NR.repl {xs : NX KT} {ws : Ent KT} (r : NR xs ws) (k : KT) {v : V} {u : Value} (rv : RelV v u) : NR (xs.map fun x => if x.1 = k then (x.1, x.2.1, v) else x) (ws.map (putAt k u)) := by
  induction r with
  | nil => exact .nil
  | @cons p q ps qs h t ih =>
    rw [List.map_cons, List.map_cons]
    refine .cons ?_ ih
    by_cases e : p.1 = k
    · have e2 : q.1 = k := h.1 ▸ e
      rw [if_pos e]
      unfold putAt
      rw [if_pos e2]
      exact ⟨h.1, h.2.1, rv⟩
    · have e2 : ¬ q.1 = k := h.1 ▸ e
      rw [if_neg e]
      unfold putAt
      rw [if_neg e2]
      exact h
theorem NR.put {xs : NX KT} {ws : Ent KT} (r : NR xs ws) (k : KT) (b : Addr) {v : V} {u : Value} (rv : RelV v u) : NR (ndPut xs k b v) (storedH ws k b u) := by
  unfold ndPut
  rw [r.any k]
  cases e : atKey ws k with
  | none =>
    rw [storedH_new e]
    exact Paired.snoc r ⟨rfl, rfl, rv⟩
  | some p =>
    rw [storedH_old e]
    exact r.repl k rv
theorem ndPut_len (xs : NX KT) (k : KT) (b : Addr) (v : V) : (ndPut xs k b v).length ≤ xs.length + 1 := by
  unfold ndPut
  split
  · rw [List.length_map]; omega
  · rw [List.length_append]; exact Nat.le_refl _
theorem KIn.put {xs : NX KT} {v : V} (hx : KIn D H xs) (hk : D.kin H k b) : KIn D H (ndPut xs k b v) := by
  intro x hm
  unfold ndPut at hm
  split at hm
  · obtain ⟨y, hy, rfl⟩ := List.mem_map.mp hm
    split
    · exact hx y hy
    · exact hx y hy
  · rcases List.mem_append.mp hm with hm | hm
    · exact hx x hm
    · rw [List.mem_singleton.mp hm]; exact hk
theorem KIn.ex {xs : NX KT} (hx : KIn D H xs) (e : ∀ c o, H c = some o → H' c = some o) : KIn D H' xs := fun x hm => D.mono (hx x hm) fun c xs q => e c _ q
def tNdNew (D : Kd P w KT) : TE := fun _ H Q => ∀ p, H p = none → Q (.ref p) (upd H p (nd D p []))
def sNdPut (D : Kd P w KT) (td ty tv : TE) : TS := fun E σ H => tv σ H fun v H1 => td σ H1 fun x H2 => ty σ H2 fun y H3 => ∃ a xs k b, x = .ref a ∧ H3 a = some (nd D a xs) ∧ KIn D H3 xs ∧ y = .ref b ∧ D.kin H3 k b ∧ xs.length < sizeLine ∧ E.nx σ (upd H3 a (nd D a (ndPut xs k b v)))
def tNdGet (D : Kd P w KT) (td ty : TE) : TE := fun σ H Q => td σ H fun x H1 => ty σ H1 fun y H2 => ∃ a xs k b v, x = .ref a ∧ H2 a = some (nd D a xs) ∧ KIn D H2 xs ∧ y = .ref b ∧ D.kin H2 k b ∧ ndVal xs k = some v ∧ Q v H2
def tNdGet2 (D : Kd P w KT) (td ty tx : TE) : TE := fun σ H Q => td σ H fun x H1 => ∃ a, x = .ref a ∧ (∃ xs, H1 a = some (nd D a xs) ∧ KIn D H1 xs) ∧ ty σ H1 fun y H2 => tx σ H2 fun z H3 => ∃ xs k b, H3 a = some (nd D a xs) ∧ KIn D H3 xs ∧ y = .ref b ∧ D.kin H3 k b ∧ Q ((ndVal xs k).getD z) H3
end
section
variable {X : Cx} {KT : Type} [DecidableEq KT] {D : Kd X.prog X.w KT} {o e f i value : Expr} {pos pos' apos cpos : Pos} {td ty tx tv : TE}
theorem pe_ndNew (D : Kd X.prog X.w KT) : PE X (.Dict [] [] pos) (tNdNew D) := ⟨fun pins s σ H Q I h =>
  wpAny_Dict_empty ⟨.ref s.heap.objs.size, _, I.laid (a := s.heap.objs.size) (o := nd D s.heap.objs.size []) (t' := s.toks) (fun _ _ q => Heap.get?_push_of_some _ q) (Nat.le_refl _) (nd_ok (beq_eq_false_iff_ne.mpr (Nat.ne_of_gt I.big)) (Nat.zero_le _) .nil (Heap.DictOfH.new s.heap)), rfl, h _ (I.hok.fresh (Nat.le_refl _))⟩⟩
theorem ps_ndPut (D : Kd X.prog X.w KT) (hu : X.A.units + 64 < cLine) (ho : PE X o td) (hi : PE X i ty) (hv : PE X value tv) (hs : swapsWith value (some (.Subscript o i pos')) pos.line X.env = pure false) :
    PS X (.Assign [.Subscript o i pos'] value pos) (sNdPut D td ty tv) := by
  refine ⟨fun pins s σ H E I h => ?_⟩
  refine wpAny_Assign_Subscript (thn (hv.run pins s σ H _ I h) fun r s1 ⟨v, H1, I1, rv, q1⟩ => thn (ho.run pins s1 σ H1 _ I1 q1) fun u s2 ⟨x, H2, I2, rx, q2⟩ => thn (hi.run pins s2 σ H2 _ I2 q2) fun iv s3 ⟨y, H3, I3, ry, a, xs, k, b, ex, e, hk, ey, kb, hl, q3⟩ => ?_) hs
  subst ex ey
  obtain rfl : u = Value.ref a := rx
  cases (show iv = Value.ref b from ry)
  obtain ⟨n, z, ws, rel, dd⟩ := nd_of I3.hok e hk
  refine wpAny_setItem_heap (hsz := by rw [← Paired.length rel]; exact z) (D.room hu) (D.sound I3.hok kb) dd fun h' dd' hs => ⟨σ, _, d_write I3 (by rw [e]; exact True.intro) hs ?_ (nd_ok n (Nat.le_trans (ndPut_len xs k b v) hl) (rel.put k b rv) dd'), q3⟩
  obtain ⟨q, _, _, hq, _⟩ := dd'
  exact ⟨q, hq⟩
theorem pe_ndGet (D : Kd X.prog X.w KT) (hu : X.A.units + 64 < cLine) (ho : PE X o td) (hi : PE X i ty) (hs : NoSl i) : PE X (.Subscript o i pos) (tNdGet D td ty) := by
  refine ⟨fun pins s σ H Q I h => ?_⟩
  refine subD_of PySem.F.slot_dict_getitem.lookup hs (thn (ho.run pins s σ H _ I h) fun u s1 ⟨x, H1, I1, rx, q1⟩ => thn (hi.run pins s1 σ H1 _ I1 q1) fun iv s2 ⟨y, H2, I2, ry, a, xs, k, b, v, ex, e, hk, ey, kb, hv, q2⟩ => ?_)
  subst ex ey
  obtain rfl : u = Value.ref a := rx
  cases (show iv = Value.ref b from ry)
  obtain ⟨n, z, ws, rel, dd⟩ := nd_of I2.hok e hk
  obtain ⟨w', hw, rw'⟩ := RelO.some_of (v := v) (o := (atKey ws k).map (·.2)) (by rw [← hv]; exact rel.val k)
  obtain ⟨p, hp, hp2⟩ := Option.map_eq_some_iff.mp hw
  refine ⟨dd.typeIs, wpAny_getItem_heap (D.room hu) (D.sound I2.hok kb) dd hp ⟨v, H2, I2.tok _, ?_, q2⟩⟩
  rw [hp2]
  exact rw'
theorem pe_ndGet2 (D : Kd X.prog X.w KT) (hu : X.A.units + 64 < cLine) (ho : PE X o td) (he : PE X e ty) (hf : PE X f tx) (m : M2 X o "get" apos e f cpos) : PE X (.Call (.Attribute o "get" apos) [e, f] [] cpos) (tNdGet2 D td ty tx) := by
  refine ⟨fun pins s σ H Q I h => ?_⟩
  refine wpAny_Call_method m.base m.few m.line PySem.F.plainAttrs_dict PySem.F.slot_dict_get PySem.F.type_dict_get (thn (ho.run pins s σ H _ I h) fun u s1 ⟨x, H1, I1, rx, a, ex, ⟨xs1, e1, k1⟩, q1⟩ => ?_)
  subst ex
  obtain rfl : u = Value.ref a := rx
  obtain ⟨_, _, _, _, dd1⟩ := nd_of I1.hok e1 k1
  have nod : ∀ b, Value.ref a = .ref b → ∃ ob, s1.heap.get? b = some ob ∧ ob.dict = none := fun b q => by
    cases q
    obtain ⟨ob, _, _, h1, h2, _⟩ := dd1
    exact ⟨ob, h1, h2.2.1⟩
  refine ⟨dd1.typeIs, nod, ?_⟩
  rw [m.trees]
  refine Calls.callWith_builtin rfl (Calls.evalArgs_plain (Calls.spliced_cons (thn (he.run pins s1 σ H1 _ I1 q1) fun iv s2 ⟨y, H2, I2, ry, q2⟩ =>
    Calls.spliced_cons (thn (hf.run pins s2 σ H2 _ I2 q2) fun fv s3 ⟨z, H3, I3, rz, xs, k, b, e3, k3, ey, kb, q3⟩ => Calls.spliced_nil ?_))))
  subst ey
  cases (show iv = Value.ref b from ry)
  obtain ⟨n, l, ws, rel, dd⟩ := nd_of I3.hok e3 k3
  refine call_meetsIn PySem.F.slot_dict_get dd.typeIs PySem.F.entry_dict_get (PySem.F.args_dict_get_3 _ _ _) (meetsH_dict_get_default D.knd a b n fv) ⟨D.room hu, k, ws, D.sound I3.hok kb, dd, ⟨_, H3, I3.tok _, ?_, q3⟩⟩
  exact (rel.val k).getD rz
end
/-- keys that are tuples of ints -/
abbrev kI (k : List Int) : List Key := k.map Sum.inl
theorem kI_inj {a b : List Int} (h : kI a = kI b) : a = b := by
  have e := congrArg (List.map fun x : Key => match x with | .inl i => i | .inr _ => 0) h
  rw [List.map_map, List.map_map] at e
  have g : ((fun x : Key => match x with | .inl i => i | .inr _ => (0 : Int)) ∘ Sum.inl) = (id : Int → Int) := rfl
  rw [g, List.map_id, List.map_id] at e
  exact e
theorem kI_V (k : List Int) : (kI k).map kV = k.map V.int := by rw [List.map_map]; rfl
def kdT (P : Program) (w : World) : Kd P w (List Key) where
  knd := tupleKind (mixKind P w)
  kin := fun H k b => ∃ j : List Int, k = kI j ∧ H b = some (.tup (j.map V.int))
  sound := fun ok ⟨j, e, hb⟩ => by subst e; exact key_of ok (by rw [kI_V]; exact hb)
  mono := fun ⟨j, e, hb⟩ m => ⟨j, e, m _ _ hb⟩
  room := fun {A} h => show A.units + 1 < cLine by omega
  stays := tupleKind_stays
/-! ### rules -/
abbrev Ct := List (List Int × Int)
def cfind (c : Ct) (k : List Int) : Option Int := (c.find? fun x => decide (x.1 = k)).map (·.2)
def cget (c : Ct) (k : List Int) : Int := (cfind c k).getD 0
def cput (c : Ct) (k : List Int) (n : Int) : Ct := if c.any (fun x => decide (x.1 = k)) then c.map fun x => if x.1 = k then (x.1, n) else x else c ++ [(k, n)]
def cmerge (c d : Ct) : Ct := d.foldl (fun acc x => cput acc x.1 x.2) c
def ctNe (c d : Ct) : Bool := !(c.length == d.length && c.all fun x => match cfind d x.1 with | some n => decide (x.2 = n) | none => false)
/-- xs are the entries of c -/
abbrev CX (H : Hp) : NX (List Key) → Ct → Prop := Paired fun e x => e.1 = kI x.1 ∧ H e.2.1 = some (.tup (x.1.map V.int)) ∧ e.2.2 = V.int x.2
section
variable {P : Program} {w : World} {H H' : Hp}
theorem CX.kin {xs : NX (List Key)} {c : Ct} (h : CX H xs c) : KIn (kdT P w) H xs := by
  induction h with
  | nil => exact fun x hx => nomatch hx
  | cons r t ih =>
    intro x hx
    rcases List.mem_cons.mp hx with e | hx
    · subst e; exact ⟨_, r.1, r.2.1⟩
    · exact ih x hx
theorem CX.ex {xs : NX (List Key)} {c : Ct} (h : CX H xs c) (e : ∀ b o, H b = some o → H' b = some o) : CX H' xs c := Paired.mapP h fun _ _ r => ⟨r.1, e _ _ r.2.1, r.2.2⟩
theorem CX.val {xs : NX (List Key)} {c : Ct} (h : CX H xs c) (k : List Int) : ndVal xs (kI k) = (cfind c k).map V.int := by
  induction h with
  | nil => rfl
  | @cons p q ps qs r t ih =>
    by_cases e : q.1 = k
    · have e2 : p.1 = kI k := by rw [r.1, e]
      simp [ndVal, cfind, e, e2, r.2.2]
    · have e2 : ¬ p.1 = kI k := fun z => e (kI_inj (r.1.symm.trans z))
      have f1 : ndVal (p :: ps) (kI k) = ndVal ps (kI k) := by simp [ndVal, e2]
      have f2 : cfind (q :: qs) k = cfind qs k := by simp [cfind, e]
      rw [f1, f2]; exact ih
theorem CX.any {xs : NX (List Key)} {c : Ct} (h : CX H xs c) (k : List Int) : (xs.any fun x => decide (x.1 = kI k)) = c.any fun x => decide (x.1 = k) := by
  induction h with
  | nil => rfl
  | @cons p q ps qs r t ih =>
    rw [List.any_cons, List.any_cons, ih]
    congr 1
    by_cases e : q.1 = k
    · rw [r.1, e]; simp
    · have e2 : ¬ p.1 = kI k := fun z => e (kI_inj (r.1.symm.trans z))
      rw [decide_eq_false e, decide_eq_false e2]
theorem CX.put {xs : NX (List Key)} {c : Ct} (h : CX H xs c) (k : List Int) (n : Int) {b : Addr} (hb : H b = some (.tup (k.map V.int))) : CX H (ndPut xs (kI k) b (.int n)) (cput c k n) := by
  unfold ndPut cput
  rw [h.any]
  split
  · rename_i hz
    clear hz
    induction h with
    | nil => exact .nil
    | @cons p q ps qs r t ih =>
      rw [List.map_cons, List.map_cons]
      refine .cons ?_ ih
      by_cases e : q.1 = k
      · rw [if_pos (show p.1 = kI k by rw [r.1, e]), if_pos e]
        exact ⟨r.1, r.2.1, rfl⟩
      · rw [if_neg (fun z => e (kI_inj (r.1.symm.trans z))), if_neg e]
        exact r
  · exact Paired.snoc h ⟨rfl, hb, rfl⟩
theorem CX.keys {xs : NX (List Key)} {c : Ct} (h : CX H xs c) : xs.map (·.1) = c.map fun x => kI x.1 := by
  induction h with
  | nil => rfl
  | cons r t ih => rw [List.map_cons, List.map_cons, ih, r.1]
theorem CX.len {xs : NX (List Key)} {c : Ct} (h : CX H xs c) : xs.length = c.length := Paired.length h
def ndMerge (xs ys : NX (List Key)) : NX (List Key) := ys.foldl (fun acc e => ndPut acc e.1 e.2.1 e.2.2) xs
theorem CX.merge : ∀ {ys xs : NX (List Key)} {d c : Ct}, CX H xs c → CX H ys d → CX H (ndMerge xs ys) (cmerge c d)
  | _, _, _, _, h, .nil => h
  | e :: ys, xs, x :: d, c, h, .cons r t => by
    show CX H (ndMerge (ndPut xs e.1 e.2.1 e.2.2) ys) (cmerge (cput c x.1 x.2) d)
    rw [r.1, r.2.2]
    exact CX.merge (ys := ys) (h.put x.1 x.2 r.2.1) t
theorem NR.merge : ∀ {ys xs : NX (List Key)} {us ws : Ent (List Key)}, NR xs ws → NR ys us → NR (ndMerge xs ys) (storedAllH ws us)
  | _, _, _, _, h, .nil => h
  | e :: ys, xs, q :: us, ws, h, .cons r t => by
    show NR (ndMerge (ndPut xs e.1 e.2.1 e.2.2) ys) (storedAllH (storedH ws q.1 q.2.1 q.2.2) us)
    rw [r.1, r.2.1]
    exact NR.merge (ys := ys) (h.put q.1 q.2.1 r.2.2) t
theorem ndMerge_len (ys xs : NX (List Key)) : (ndMerge xs ys).length ≤ xs.length + ys.length := by
  induction ys generalizing xs with
  | nil => exact Nat.le_refl _
  | cons y r ih =>
    have h1 := ih (ndPut xs y.1 y.2.1 y.2.2)
    have h2 := ndPut_len xs y.1 y.2.1 y.2.2
    show (ndMerge (ndPut xs y.1 y.2.1 y.2.2) r).length ≤ xs.length + (r.length + 1)
    omega
theorem NR.keys {KT : Type} [DecidableEq KT] {xs : NX KT} {ws : Ent KT} (h : NR xs ws) : ws.map (·.1) = xs.map (·.1) := by
  induction h with
  | nil => rfl
  | cons r t ih => rw [List.map_cons, List.map_cons, ih, r.1]
end
abbrev hashK (P : Program) (w : World) (k : List Key) : Int := (tupleKind (mixKind P w)).hash k
/-- a dict of counts stands at a -/
abbrev CtAt (P : Program) (w : World) (H : Hp) (a : Addr) (xs : NX (List Key)) (c : Ct) : Prop := H a = some (nd (kdT P w) a xs) ∧ CX H xs c
def rOrT (P : Program) (w : World) : R2 := fun x y H Q => ∃ a b xs ys c d, x = .ref a ∧ y = .ref b ∧ CtAt P w H a xs c ∧ CtAt P w H b ys d ∧ c ≠ [] ∧ (c.map fun x => hashK P w (kI x.1)).Nodup ∧ c.length + d.length ≤ 10000 ∧
  ∀ p, H p = none → Q (.ref p) (upd H p (nd (kdT P w) p (ndMerge xs ys)))
variable {X : Cx}
theorem op_orT (hu : X.A.units + 64 < cLine) : OpR X (binaryOp .BitOr) (rOrT X.prog X.w) := by
  intro pins s σ H x y v u Q I rx ry h
  obtain ⟨a, b, xs, ys, c, d, rfl, rfl, ⟨ha, ca⟩, ⟨hb, cb⟩, h0, hap, hl, q⟩ := h
  cases (show v = Value.ref a from rx)
  cases (show u = Value.ref b from ry)
  obtain ⟨n1, z1, ws, r1, d1⟩ := nd_of I.hok ha ca.kin
  obtain ⟨n2, z2, us, r2, d2⟩ := nd_of I.hok hb cb.kin
  have l1 := Paired.length r1
  have l2 := Paired.length r2
  have m1 := ca.len
  have m2 := cb.len
  have hty : ∀ x ∈ ws, s.TypeIs (.ref x.2.1) "tuple" := by
    obtain ⟨_, _, _, _, _, _, _, his, _⟩ := id d1
    exact fun x hx => tupleKind_stays.tuple (his x hx)
  have hap2 : (ws.map fun x => (tupleKind (mixKind X.prog X.w)).hash x.1).Nodup := by
    have e : (ws.map fun x => (tupleKind (mixKind X.prog X.w)).hash x.1) = (ws.map (·.1)).map (tupleKind (mixKind X.prog X.w)).hash := by rw [List.map_map]; rfl
    rw [e, r1.keys, ca.keys, List.map_map]
    exact hap
  refine joined (knd := tupleKind (mixKind X.prog X.w)) (show X.A.in1.units < cLine by show X.A.units + 1 < cLine; omega) n1 n2 d1 d2 (fun z => h0 (List.length_eq_zero_iff.mp (by rw [← m1, l1, z]; rfl))) hty hap2 (by rw [← l1, ← l2, sizeLine_eq]; omega) (fun h' k c hk hi => tupleKind_stays.stays (fun b o vs n e _ => hk b o e) hi) fun h' hd hk => ?_
  refine ⟨.ref _, upd H s.heap.objs.size (nd (kdT X.prog X.w) s.heap.objs.size (ndMerge xs ys)), I.laid (t' := s.toks) hk (Nat.le_refl _) (nd_ok (beq_eq_false_iff_ne.mpr (Nat.ne_of_gt I.big)) ?_ (r1.merge r2) hd), rfl, q _ (I.hok.fresh (Nat.le_refl _))⟩
  have := ndMerge_len ys xs
  rw [sizeLine_eq]; omega
def eInt (u v : Value) : Bool := match u, v with
  | .int a _, .int b _ => a == b
  | _, _ => false
def rNeT (P : Program) (w : World) : R2 := fun x y H Q => ∃ a b xs ys c d, x = .ref a ∧ y = .ref b ∧ CtAt P w H a xs c ∧ CtAt P w H b ys d ∧ Q (.bl (ctNe c d)) H
theorem ints_at {H : Hp} : ∀ {xs : NX (List Key)} {c : Ct} {ws : Ent (List Key)}, CX H xs c → NR xs ws → ∀ x ∈ ws, ∃ i t, x.2.2 = Value.int i t
  | _, _, _, .nil, .nil, x, hx => nomatch hx
  | _, _, _, .cons r t, .cons r2 t2, x, hx => by
    rcases List.mem_cons.mp hx with e | hx
    · subst e
      have h := r2.2.2
      rw [r.2.2] at h
      obtain ⟨u, e⟩ := h
      exact ⟨_, u, e⟩
    · exact ints_at t t2 x hx
theorem ct_at {H : Hp} {ys : NX (List Key)} {d : Ct} {us : Ent (List Key)} (h1 : CX H ys d) (h2 : NR ys us) (k : List Int) : (cfind d k = none ∧ atKey us (kI k) = none) ∨ ∃ n b t, cfind d k = some n ∧ atKey us (kI k) = some (b, Value.int n t) := by
  have r := h2.val (kI k)
  rw [h1.val] at r
  cases e : cfind d k with
  | none =>
    rw [e] at r
    cases e2 : atKey us (kI k) with
    | none => exact .inl ⟨rfl, rfl⟩
    | some p => rw [e2] at r; cases r
  | some n =>
    rw [e] at r
    cases e2 : atKey us (kI k) with
    | none => rw [e2] at r; cases r
    | some p =>
      rw [e2] at r
      obtain ⟨b, u⟩ := p
      obtain ⟨t, z⟩ : ∃ t, u = Value.int n t := r
      exact .inr ⟨n, b, t, rfl, by rw [z]⟩
theorem same_ct {H : Hp} {ys : NX (List Key)} {d : Ct} {us : Ent (List Key)} (h1 : CX H ys d) (h2 : NR ys us) : ∀ {xs : NX (List Key)} {c : Ct} {ws : Ent (List Key)}, CX H xs c → NR xs ws →
    sameH eInt us ws = c.all fun x => match cfind d x.1 with | some n => decide (x.2 = n) | none => false
  | _, _, _, .nil, .nil => rfl
  | _, x :: r, _, .cons g t, .cons (b := q) (l₂ := qs) g2 t2 => by
    have ih := same_ct h1 h2 t t2
    have e : kI x.1 = q.1 := g.1.symm.trans g2.1
    have hv := g2.2.2
    rw [g.2.2] at hv
    obtain ⟨tk, ev⟩ := hv
    show ((match atKey us q.1 with | some p => eInt q.2.2 p.2 | none => false) && sameH eInt us qs) = _
    rw [List.all_cons, ih]
    congr 1
    rw [← e, ev]
    rcases ct_at h1 h2 x.1 with ⟨e1, e2⟩ | ⟨n, b, t, e1, e2⟩
    · rw [e1, e2]
    · rw [e1, e2]
      show (x.2 == n) = decide (x.2 = n)
      rfl
theorem op_neT (hu : X.A.units + 64 < cLine) : OpR X (compareOp .NotEq) (rNeT X.prog X.w) := by
  intro pins s σ H x y v u Q I rx ry h
  obtain ⟨a, b, xs, ys, c, d, rfl, rfl, ⟨ha, ca⟩, ⟨hb, cb⟩, q⟩ := h
  cases (show v = Value.ref a from rx)
  cases (show u = Value.ref b from ry)
  obtain ⟨n1, z1, ws, r1, d1⟩ := nd_of I.hok ha ca.kin
  obtain ⟨n2, z2, us, r2, d2⟩ := nd_of I.hok hb cb.kin
  refine differ (knd := tupleKind (mixKind X.prog X.w)) (e := eInt) (show X.A.in1.units < cLine by show X.A.units + 1 < cLine; omega) (by omega) n1 n2 d1 d2 (fun x hx y hy => ?_) ⟨.bl _, H, I, rfl, ?_⟩
  · obtain ⟨i, t, e1⟩ := ints_at ca r1 x hx
    obtain ⟨j, t2, e2⟩ := ints_at cb r2 y hy
    rw [e1, e2]
    exact SeqAt.EqAt.int_int i t j t2
  · rw [same_ct cb r2 ca r1, ← Paired.length r1, ← Paired.length r2, ca.len, cb.len]
    exact q
/-! ### sorted(d) -/
theorem perm_map {α β : Type} (f : α → β) : ∀ {xs : List α} {l : List β}, l.Perm (xs.map f) → ∃ xs' : List α, xs'.Perm xs ∧ l = xs'.map f
  | [], l, h => ⟨[], .refl _, List.Perm.eq_nil h⟩
  | x :: r, l, h => by
    have hm : f x ∈ l := h.mem_iff.mpr List.mem_cons_self
    obtain ⟨s, t, rfl⟩ := List.append_of_mem hm
    have h2 : (s ++ t).Perm (r.map f) := List.Perm.cons_inv ((List.perm_middle.symm).trans h)
    obtain ⟨ys, h3, h4⟩ := perm_map f h2
    obtain ⟨y1, y2, rfl, rfl, rfl⟩ := List.map_eq_append_iff.mp h4.symm
    exact ⟨y1 ++ x :: y2, List.perm_middle.trans (.cons x h3), by simp⟩
def rSortDT (P : Program) (w : World) : List V → Hp → VK → Prop := fun vs H Q => ∃ (a : Addr) (xs : NX (List Key)) (c : Ct), vs = [.ref a] ∧ CtAt P w H a xs c ∧ c.length ≤ 10000 ∧ (2 ≤ c.length → ∀ x ∈ c, x.1 ≠ []) ∧
  ∀ zs : List (Addr × List Int), (zs.map (·.2)).Perm (c.map (·.1)) → (∀ z ∈ zs, ∃ e ∈ xs, e.1 = kI z.2 ∧ e.2.1 = z.1) → ∀ p, H p = none → Q (.ref p) (upd H p (.lst (zs.map fun z => V.ref z.1)))
theorem items_ints : ∀ {k : List Int} {us : List Value} (i : Nat), Vals (k.map V.int) us → PyProof.Rows.tupItems (fun _ => false) i us = some (k.map Sum.inl)
  | [], _, _, .nil => rfl
  | x :: r, _, i, .cons h t => by
    obtain ⟨tk, rfl⟩ := h
    show (if (false : Bool) = true then none else (PyProof.Rows.tupItems (fun _ => false) (i + 1) _).map (Sum.inl x :: ·)) = _
    rw [if_neg Bool.false_ne_true, items_ints (k := r) (i + 1) t]
    rfl
/-- a tracked tuple of ints -/
theorem tup_obj {P : Program} {w : World} {H : Hp} {h : Heap} (ok : HOk P w H h) {b : Addr} {j : List Int} (e : H b = some (.tup (j.map V.int))) : ∃ o its n, h.get? b = some o ∧ o.cls = .type "tuple" ∧ o.data = .seq its n ∧ Vals (j.map V.int) its.toList := by
  obtain ⟨_, its, r, o, h1, h2, n, h3⟩ := (show ObjOk P w H h b (.tup (j.map V.int)) from ok b _ e)
  exact ⟨o, its.toArray, n, h1, h2, h3, by simpa using r⟩
theorem CX_tups {H : Hp} : ∀ {xs : NX (List Key)} {c : Ct} {ws : Ent (List Key)}, CX H xs c → NR xs ws → ∃ zs : List (Addr × List Int), ws.map (fun x => Value.ref x.2.1) = zs.map (fun z => Value.ref z.1) ∧ zs.map (·.2) = c.map (·.1) ∧ (∀ z ∈ zs, H z.1 = some (.tup (z.2.map V.int))) ∧ ∀ z ∈ zs, ∃ e ∈ xs, e.1 = kI z.2 ∧ e.2.1 = z.1
  | _, _, _, .nil, .nil => ⟨[], rfl, rfl, (fun _ h => nomatch h), (fun _ h => nomatch h)⟩
  | _, x :: r, _, .cons (a := p) g t, .cons (b := q) g2 t2 => by
    obtain ⟨zs, h1, h2, h3, h4⟩ := CX_tups t t2
    refine ⟨(p.2.1, x.1) :: zs, by rw [List.map_cons, List.map_cons, h1, g2.2.1], by rw [List.map_cons, List.map_cons, h2], fun z hz => ?_, fun z hz => ?_⟩
    · rcases List.mem_cons.mp hz with rfl | hz
      · exact g.2.1
      · exact h3 z hz
    · rcases List.mem_cons.mp hz with rfl | hz
      · exact ⟨p, List.mem_cons_self, g.1, rfl⟩
      · obtain ⟨e, he, e1⟩ := h4 z hz
        exact ⟨e, List.mem_cons_of_mem _ he, e1⟩
theorem tupsOf {P : Program} {w : World} {H : Hp} {h : Heap} (ok : HOk P w H h) : ∀ (zs : List (Addr × List Int)), (∀ z ∈ zs, H z.1 = some (.tup (z.2.map V.int))) → (∀ z ∈ zs, z.2 ≠ []) → ∃ fs, PyProof.Rows.TupsOf h (fun _ => false) (zs.map fun z => Value.ref z.1) fs
  | [], _, _ => ⟨[], .nil⟩
  | z :: r, h1, h2 => by
    obtain ⟨fs, ih⟩ := tupsOf ok r (fun y hy => h1 y (List.mem_cons_of_mem _ hy)) fun y hy => h2 y (List.mem_cons_of_mem _ hy)
    obtain ⟨o, its, n, e1, e2, e3, e4⟩ := tup_obj ok (h1 z List.mem_cons_self)
    obtain ⟨ad, k⟩ := z
    cases k with
    | nil => exact absurd rfl (h2 _ List.mem_cons_self)
    | cons x k =>
      have e4 : Vals (V.int x :: k.map V.int) its.toList := e4
      cases hi : its.toList with
      | nil => rw [hi] at e4; cases e4
      | cons u us =>
        rw [hi] at e4
        cases e4 with
        | cons g1 g2 =>
          obtain ⟨tk, rfl⟩ := g1
          exact ⟨_ :: fs, .cons ⟨ad, o, its, n, rfl, e1, e2, e3, by rw [← Array.getElem?_toList, hi]; rfl, fun _ => ⟨x, tk, rfl⟩, fun z => nomatch z⟩ ih⟩
theorem vals_refs : ∀ (zs : List (Addr × List Int)), Vals (zs.map fun z => V.ref z.1) (zs.map fun z => Value.ref z.1)
  | [] => .nil
  | z :: r => .cons (show RelV (.ref z.1) (.ref z.1) from rfl) (vals_refs r)
open PyProof.Rows PyProof.Rows.G in
theorem call_sortDT (hcalm : X.calm = true) : CallR X (.builtin "sorted") (rSortDT X.prog X.w) := by
  intro pins s σ H xs us Q I r q
  obtain ⟨a, xs0, c, ex, ⟨hd, cx⟩, hlen, hne, q⟩ := q
  subst ex
  obtain ⟨u, eu, rx⟩ := vals1 r
  subst eu
  cases rx
  obtain ⟨lo, z, ws, rel, dd⟩ := nd_of I.hok hd cx.kin
  obtain ⟨o, es, ep, ho, hc, hdat, hes, his, hn⟩ := dd
  obtain ⟨zs, z1, z2, z3, z4⟩ := CX_tups cx rel
  have hzl : zs.length = c.length := by have := congrArg List.length z2; simpa using this
  have hsz : es.size = zs.length := by
    have e1 : es.toList.length = ws.length := by rw [hes, List.length_map]
    have e2 : ws.length = zs.length := by have := congrArg List.length z1; simpa using this
    rw [← Array.length_toList, e1, e2]
  have hkeys : es.toList.map (·.key) = zs.map fun z => Value.ref z.1 := by
    rw [hes, List.map_map, ← z1]; rfl
  refine Calls.call_function_entry kind_sorted plain_sorted entry_sorted (args_sorted1 _) ?_
  unfold Builtin.«sorted»
  refine wpAny_bind (m := checkCount "sorted" 1 1 _) (wpAny_pure ?_)
  refine wpAny_bind (PySem.W.kdu_collect (A := X.A.in1) (KdlSrc.rawDict (es := es) (ep := ep) lo) (I.ok.hd hcalm) ⟨o, ho, hc, hdat⟩ (by rw [hsz, hzl, sizeLine_eq]; omega) fun h' tk acc hk hacc => ?_)
  have hvs : acc.toList = zs.map fun z => Value.ref z.1 := by
    rw [← hkeys]
    refine List.ext_getElem? fun i => ?_
    have h1 := hacc.1
    by_cases hi : i < es.size
    · have hi2 : i < acc.toList.length := by rw [Array.length_toList, h1]; exact hi
      rw [List.getElem?_eq_getElem hi2, List.getElem?_map]
      obtain ⟨hi3, e⟩ := hacc.2 i acc.toList[i] (by rw [← Array.getElem?_toList, List.getElem?_eq_getElem hi2])
      rw [e, Array.getElem?_toList, Array.getElem?_eq_getElem hi3]; rfl
    · rw [List.getElem?_eq_none (by rw [Array.length_toList, h1]; omega), List.getElem?_eq_none (by rw [List.length_map, Array.length_toList]; omega)]
  have I1 : Inv X pins σ H { s with heap := h', toks := tk } := I.kept hk
  have hal : acc.toList.length = c.length := by rw [hvs, List.length_map, hzl]
  refine wpAny_bind (wpAny_newList ?_ (by rw [hal, sizeLine_eq]; omega))
  have hoL : (h'.push (seqObj "list" acc.toList.toArray 0)).get? h'.objs.size = some (seqObj "list" acc.toList.toArray 0) := Heap.get?_push_size _ rfl
  have I2 : HOk X.prog X.w H (h'.push (seqObj "list" acc.toList.toArray 0)) := I1.hok.kept fun b u e => Heap.get?_push_of_some _ e
  have kt : ∀ v, v ∈ acc.toList → ∃ l, tupKeyC (h'.push (seqObj "list" acc.toList.toArray 0)) (fun _ => false) v = some l := fun v hv => by
    rw [hvs] at hv
    obtain ⟨z, hz, rfl⟩ := List.mem_map.mp hv
    obtain ⟨o', its, n, e1, e2, e3, e4⟩ := tup_obj I2 (z3 z hz)
    refine ⟨z.2.map Sum.inl, ?_⟩
    have f1 : isTupObj (h'.push (seqObj "list" acc.toList.toArray 0)) (.ref z.1) = true := by
      unfold isTupObj
      simp only [e1, e2]
      rfl
    unfold tupKeyC
    rw [if_pos f1]
    unfold tupKey
    simp only [e1, e3]
    exact items_ints 0 e4
  show wpAny _ _ _ _ _ { s with heap := h'.push (seqObj "list" acc.toList.toArray 0), toks := tk }
  have k6 := keeps_sort6 (vs := acc.toList) hoL
  refine wpAny_bind (wpAny_holding (wpAny_call_entry slot_list_sort ⟨_, hoL, rfl⟩ entry_list_sort
    (list_sort_treeG (s := { s with heap := h'.push (seqObj "list" acc.toList.toArray 0), toks := tk }) (kd := tuples' true) hoL (tupKeys kt) (tupC_ltAt true k6) (fun h2 _ hq => ?_) (by rw [hal, sizeLine_eq]; omega) fun st' hp _ _ => ⟨_, rfl, ?_⟩)
    (args_list_sort _)))
  · obtain ⟨fs, ht⟩ := tupsOf I2 zs z3 fun z hz => by
      have hm : z.2 ∈ c.map (·.1) := by rw [← z2]; exact List.mem_map.mpr ⟨z, hz, rfl⟩
      obtain ⟨x, hx, e⟩ := List.mem_map.mp hm
      rw [← e]
      exact hne (by rw [← hal]; exact h2) x hx
    rw [← hvs] at ht
    exact tup_kind (by rw [TupsOf.length ht]; omega) (TupsOf.keep k6 ht) hq
  · obtain ⟨e', he'⟩ := sortedHeap_at (vs := acc.toList) (out := (arrOf st').map (·.2)) hoL
    have hpl : ((arrOf st').map (·.2)).toList.Perm (zs.map fun z => Value.ref z.1) := by
      have h1 := (Array.perm_iff_toList_perm.mp hp).map Prod.snd
      rw [pairsOf_toList, List.map_snd_zip (Nat.le_refl _), hvs] at h1
      rw [Array.toList_map]
      exact h1
    obtain ⟨zs', p1, p2⟩ := perm_map _ hpl
    have z3' : ∀ z ∈ zs', H z.1 = some (.tup (z.2.map V.int)) := fun z hz => z3 z (p1.mem_iff.mp hz)
    refine wpAny_pure ⟨_, rfl, .ref h'.objs.size, upd H h'.objs.size (.lst (zs'.map fun z => V.ref z.1)), I1.laid (t' := tk) (fun b u e => ?_) (Nat.le_refl _) ⟨?_, ((arrOf st').map (·.2)).toList, e', by rw [p2]; exact vals_refs zs', by rw [Array.toArray_toList]; exact he'⟩, rfl, q zs' ?_ (fun z hz => z4 z (p1.mem_iff.mp hz)) _ (I1.hok.fresh (Nat.le_refl _))⟩
    · have hb : b < h'.objs.size := Heap.lt_size e
      rw [sortedHeap_old (Nat.ne_of_lt hb) (by rw [size_push']; exact Nat.lt_succ_of_lt hb)]
      exact Heap.get?_push_of_some _ e
    · rw [List.length_map, p1.length_eq, hzl, sizeLine_eq]; omega
    · rw [← z2]
      exact p1.map _
end K46
/-! K46, part r: dicts of counts, dicts of things, in the layer. -/
namespace K46
open PySem L2
open Evl (Ex ex_l ex_t)
def topM (M : Mode) : Mode := ⟨M.S, fun _ _ => True, fun _ _ _ => trivial⟩
/-- predicates of an object -/
structure OP where
  R : Hp → HO → Prop
  mono : ∀ {F F' : Hp} {o : HO}, Ex F F' → R F o → R F' o
/-- beside what M owns: at p stands an o -/
def ownO (p : Addr) (o : OP) (M : Mode) : Mode := ⟨fun a => a = p ∨ M.S a, fun F H => (¬ M.S p ∧ ∃ ob, H p = some ob ∧ o.R F ob) ∧ M.I F H, fun e h ⟨⟨n, ob, a, b⟩, c⟩ => ⟨⟨n, ob, h p _ (.inl rfl) a, o.mono e b⟩, M.st e (fun a o s => h a o (.inr s)) c⟩⟩
theorem ownO_wr {M : Mode} {p : Addr} {o o' : OP} {ob : HO} {F H : Hp} (ok : (ownO p o M).Ok F H) (h : o'.R F ob) : (ownO p o' M).Ok F (upd H p ob) := by
  obtain ⟨⟨nS, _⟩, iv⟩ := ok.iv
  refine ⟨ex_updH ok.ex (ok.ds p (.inl rfl)), ok.ds, fun b s => ?_, ⟨nS, ob, upd_same, h⟩, M.st (Ex.refl F) (fun b o s h => ?_) iv⟩
  · by_cases hb : b = p
    · subst hb; exact ⟨_, upd_same⟩
    · rw [upd_ne hb]; exact ok.al b s
  · have hb : b ≠ p := fun e => nS (by rw [← e]; exact s)
    rw [upd_ne hb]; exact h
/-- a frozen dict of counts -/
def ctM (P : Program) (w : World) (c : Ct) : MP := ⟨fun F v => ∃ p xs, v = .ref p ∧ CtAt P w F p xs c, fun e ⟨p, xs, a, b, d⟩ => ⟨p, xs, a, e p _ b, d.ex e⟩⟩
def ctO (P : Program) (w : World) (p : Addr) (c : Ct) : OP := ⟨fun F ob => ∃ xs, ob = nd (kdT P w) p xs ∧ CX F xs c, fun e ⟨xs, a, b⟩ => ⟨xs, a, b.ex e⟩⟩
/-- entries by ints, each value with its predicate -/
inductive KM (F : Hp) : List (Key × V) → List (Int × MP) → Prop
  | nil : KM F [] []
  | cons {i : Int} {v : V} {m : MP} {vs : List (Key × V)} {ms : List (Int × MP)} : m.R F v → KM F vs ms → KM F ((Sum.inl i, v) :: vs) ((i, m) :: ms)
theorem KM.mono {F F' : Hp} (e : Ex F F') : ∀ {vs : List (Key × V)} {ms : List (Int × MP)}, KM F vs ms → KM F' vs ms
  | _, _, .nil => .nil
  | _, _, .cons h t => .cons (MP.mono _ e h) (t.mono e)
theorem KM.length {F : Hp} : ∀ {vs : List (Key × V)} {ms : List (Int × MP)}, KM F vs ms → vs.length = ms.length
  | _, _, .nil => rfl
  | _, _, .cons _ t => congrArg (· + 1) t.length
def mfind (ms : List (Int × MP)) (i : Int) : Option MP := (ms.find? fun x => decide (x.1 = i)).map (·.2)
def mput (ms : List (Int × MP)) (i : Int) (m : MP) : List (Int × MP) := if ms.any (fun x => decide (x.1 = i)) then ms.map fun x => if x.1 = i then (x.1, m) else x else ms ++ [(i, m)]
theorem mput_len (ms : List (Int × MP)) (i : Int) (m : MP) : (mput ms i m).length ≤ ms.length + 1 := by
  unfold mput
  split
  · rw [List.length_map]; omega
  · rw [List.length_append]; exact Nat.le_refl _
theorem KM.find {F : Hp} {i : Int} : ∀ {vs : List (Key × V)} {ms : List (Int × MP)}, KM F vs ms → (mfind ms i = none ∧ valV vs (Sum.inl i) = none) ∨ ∃ m v, mfind ms i = some m ∧ valV vs (Sum.inl i) = some v ∧ m.R F v
  | _, _, .nil => .inl ⟨rfl, rfl⟩
  | _, _, .cons (i := j) (v := v) (m := m) (ms := ms) h t => by
    by_cases e : j = i
    · subst e
      exact .inr ⟨m, v, by simp [mfind], valV_pos rfl, h⟩
    · have e2 : ¬ (Sum.inl j : Key) = Sum.inl i := fun q => e (Sum.inl.inj q)
      have e3 : mfind ((j, m) :: ms) i = mfind ms i := by simp [mfind, e]
      rw [e3]
      rcases t.find (i := i) with ⟨h1, h2⟩ | ⟨m', v', h1, h2, h3⟩
      · exact .inl ⟨h1, (valV_neg e2).trans h2⟩
      · exact .inr ⟨m', v', h1, (valV_neg e2).trans h2, h3⟩
theorem KM.repl {F : Hp} {i : Int} {m : MP} {v : V} (hv : m.R F v) : ∀ {vs : List (Key × V)} {ms : List (Int × MP)}, KM F vs ms →
    KM F (vs.map fun kv => if kv.1 = Sum.inl i then (kv.1, v) else kv) (ms.map fun x => if x.1 = i then (x.1, m) else x)
  | _, _, .nil => .nil
  | _, _, .cons (i := j) h t => by
    rw [List.map_cons, List.map_cons]
    by_cases e : j = i
    · subst e
      rw [if_pos rfl, if_pos rfl]
      exact .cons hv (t.repl hv)
    · have e2 : ¬ (Sum.inl j : Key) = Sum.inl i := fun q => e (Sum.inl.inj q)
      rw [if_neg e, if_neg e2]
      exact .cons h (t.repl hv)
theorem KM.snoc {F : Hp} {i : Int} {m : MP} {v : V} (hv : m.R F v) : ∀ {vs : List (Key × V)} {ms : List (Int × MP)}, KM F vs ms → KM F (vs ++ [(Sum.inl i, v)]) (ms ++ [(i, m)])
  | _, _, .nil => .cons hv .nil
  | _, _, .cons h t => .cons h (t.snoc hv)
theorem KM.any {F : Hp} {i : Int} : ∀ {vs : List (Key × V)} {ms : List (Int × MP)}, KM F vs ms → (vs.any fun kv => decide (kv.1 = Sum.inl i)) = ms.any fun x => decide (x.1 = i)
  | _, _, .nil => rfl
  | _, _, .cons (i := j) h t => by
    rw [List.any_cons, List.any_cons, t.any]
    congr 1
    by_cases e : j = i
    · subst e; simp
    · have e2 : ¬ (Sum.inl j : Key) = Sum.inl i := fun q => e (Sum.inl.inj q)
      show decide ((Sum.inl j : Key) = Sum.inl i) = decide (j = i)
      rw [decide_eq_false e, decide_eq_false e2]
theorem KM.put {F : Hp} {i : Int} {m : MP} {v : V} (hv : m.R F v) {vs : List (Key × V)} {ms : List (Int × MP)} (h : KM F vs ms) : KM F (putK vs (Sum.inl i) v) (mput ms i m) := by
  unfold putK mput
  rw [h.any]
  split
  · exact h.repl hv
  · exact h.snoc hv
def dkO (ms : List (Int × MP)) : OP := ⟨fun F ob => ∃ kvs, ob = .dK kvs ∧ KM F kvs ms, fun e ⟨xs, a, b⟩ => ⟨xs, a, b.mono e⟩⟩
/-- an expression that changes what is owned -/
def EE2 (M N : Mode) (Γ : Gm) (te : TE) (m : MP) : Prop := ∀ F H σ, En F σ Γ → M.Ok F H → ∀ Q : VK, (∀ v F' H', Pu M.S F H F' H' → N.Ok F' H' → m.R F' v → Q v H') → te σ H Q
structure Mode.Sm (M N : Mode) : Prop where
  S : ∀ a, M.S a ↔ N.S a
section
variable {K : PySem.W.Frag} {Z : Zr} {M N : Mode} {Γ Δ : Gm} {ta tb te td ty tx tv : TE} {m m' : MP} {ms : List (Int × MP)} {D : Ends} {p : Addr} {t u z : TS} {tt : TT} {c d : Ct} {k : List Int} {i : Int} {j : Nat}
/-- the place is made one of one's own -/
theorem own_new {o : HO} {σ σ' : St} {H F1 H1 : Hp} (a : At Z M Γ σ H) {F : Hp} (p0 : Pu Z.M.S Z.F Z.H F H) (p1 : Pu M.S F H F1 H1) (o1 : M.Ok F1 H1) (hp : H1 p = none) (W : Mode) (hS : ∀ b, W.S b ↔ (b = p ∨ M.S b))
    (hI : ¬ M.S p → M.I F1 (upd H1 p o) → W.I F1 (upd H1 p o)) (hz : ∀ F H, W.I F H → M.I F H) (e : En F1 σ' Δ) : At Z W Δ σ' (upd H1 p o) := by
  have fp := free_of o1.ex hp
  have pn : Pu0 F1 H1 F1 (upd H1 p o) := .newH hp
  have o2 := o1.step pn (ex_updH o1.ex fp)
  have pz := Pu.out a.own p0 (p1.trans (pn.any M))
  have pz1 := Pu.out a.own p0 p1
  refine ⟨⟨F1, pz, ⟨o2.ex, fun b s => ?_, fun b s => ?_, hI (not_S o1 hp) o2.iv⟩, e⟩, fun b s => (hS b).mpr (.inr (a.sub b s)), fun b s => ?_, fun F' H' w => a.iv F' H' (hz _ _ w)⟩
  · rcases (hS b).mp s with rfl | s
    · exact fp
    · exact o2.ds b s
  · rcases (hS b).mp s with rfl | s
    · exact ⟨_, upd_same⟩
    · exact o2.al b s
  · rcases (hS b).mp s with rfl | s
    · refine .inr ?_
      cases q : Z.H b with
      | none => rfl
      | some w =>
        obtain ⟨w', h'⟩ := pz1.al b w q
        rw [hp] at h'; cases h'
    · exact a.own b s
/-- x = {}, a dict of counts -/
theorem ss_newT {P : Program} {w : World} (h : ∀ p, SS Z (ownO p (ctO P w p []) M) (Γ.set j (some (rawv (.ref p)))) D.nx) : SS Z M Γ (tAsg (tNdNew (kdT P w)) (gName j) D) := fun σ H a => by
  obtain ⟨F, p0, o, e⟩ := a.ex
  intro p hp
  exact h p _ _ (own_new a p0 .refl o hp _ (fun _ => .rfl) (fun nS iv => ⟨⟨nS, _, upd_same, [], rfl, .nil⟩, iv⟩) (fun F' H' w => w.2) (e.set (v := .ref p) (m := rawv (.ref p)) rfl))
/-- x = {}, a dict of things -/
theorem ss_newD (h : ∀ p, SS Z (ownO p (dkO []) M) (Γ.set j (some (rawv (.ref p)))) D.nx) : SS Z M Γ (tAsg tDNewK (gName j) D) := fun σ H a => by
  obtain ⟨F, p0, o, e⟩ := a.ex
  intro p hp
  exact h p _ _ (own_new a p0 .refl o hp _ (fun _ => .rfl) (fun nS iv => ⟨⟨nS, _, upd_same, [], rfl, .nil⟩, iv⟩) (fun F' H' w => w.2) (e.set (v := .ref p) (m := rawv (.ref p)) rfl))
theorem sq_newT {P : Program} {w : World} (h : ∀ p, SS Z (ownO p (ctO P w p []) M) (Γ.set j (some (rawv (.ref p)))) (u D)) : SS Z M Γ (tSeq (tAsg (tNdNew (kdT P w)) (gName j)) u D) := ss_newT (D := { D with nx := u D }) h
theorem sq_newD (h : ∀ p, SS Z (ownO p (dkO []) M) (Γ.set j (some (rawv (.ref p)))) (u D)) : SS Z M Γ (tSeq (tAsg tDNewK (gName j)) u D) := ss_newD (D := { D with nx := u D }) h
section
variable {P : Program} {w : World}
theorem kin_tk {F : Hp} {b : Addr} (h : F b = some (.tup (k.map V.int))) : (kdT P w).kin F (kI k) b := ⟨k, rfl, h⟩
theorem cget_val {H : Hp} {xs : NX (List Key)} (h : CX H xs c) : (ndVal xs (kI k)).getD (V.int 0) = .int (cget c k) := by
  rw [h.val]
  unfold cget
  cases cfind c k <;> rfl
/-- d.get(k, 0), d one's own -/
theorem ee_getT (h1 : EE (ownO p (ctO P w p c) M) Γ td (rawv (.ref p))) (h2 : EE (ownO p (ctO P w p c) M) Γ ty (tkM k)) (h3 : EE (ownO p (ctO P w p c) M) Γ tx (dt K (.int 0))) : EE (ownO p (ctO P w p c) M) Γ (tNdGet2 (kdT P w) td ty tx) (dt K (.int (cget c k))) := fun F H σ en ok Q q =>
  h1 F H σ en ok _ fun v F1 H1 p1 o1 r1 => by
    cases r1
    obtain ⟨⟨_, _, hp1, xs1, rfl, cx1⟩, _⟩ := id o1.iv
    refine ⟨p, rfl, ⟨xs1, hp1, (cx1.ex o1.ex).kin⟩, h2 F1 H1 σ (en.mono p1.fx) o1 _ fun y F2 H2 p2 o2 r2 => h3 F2 H2 σ ((en.mono p1.fx).mono p2.fx) o2 _ fun z F3 H3 p3 o3 r3 => ?_⟩
    cases dp_int r3
    obtain ⟨b, rfl, hb⟩ := r2
    obtain ⟨⟨_, _, hp3, xs3, rfl, cx3⟩, _⟩ := id o3.iv
    refine ⟨xs3, kI k, b, hp3, (cx3.ex o3.ex).kin, rfl, kin_tk (o3.ex b _ (p3.fx b _ hb)), ?_⟩
    rw [cget_val cx3]
    exact q _ F3 H3 ((p1.trans p2).trans p3) o3 (.int _)
/-- .. d frozen -/
theorem ee_getF (h1 : EE M Γ td (ctM P w c)) (h2 : EE M Γ ty (tkM k)) (h3 : EE M Γ tx (dt K (.int 0))) : EE M Γ (tNdGet2 (kdT P w) td ty tx) (dt K (.int (cget c k))) := fun F H σ en ok Q q =>
  h1 F H σ en ok _ fun v F1 H1 p1 o1 r1 => by
    obtain ⟨p, xs, rfl, hp, cx⟩ := r1
    refine ⟨p, rfl, ⟨xs, o1.ex p _ hp, (cx.ex o1.ex).kin⟩, h2 F1 H1 σ (en.mono p1.fx) o1 _ fun y F2 H2 p2 o2 r2 => h3 F2 H2 σ ((en.mono p1.fx).mono p2.fx) o2 _ fun z F3 H3 p3 o3 r3 => ?_⟩
    cases dp_int r3
    obtain ⟨b, rfl, hb⟩ := r2
    have fx := p2.fx.trans p3.fx
    refine ⟨xs, kI k, b, o3.ex p _ (fx p _ hp), ((cx.ex fx).ex o3.ex).kin, rfl, kin_tk (o3.ex b _ (p3.fx b _ hb)), ?_⟩
    rw [cget_val cx]
    exact q _ F3 H3 ((p1.trans p2).trans p3) o3 (.int _)
/-- d[k] = n -/
theorem ss_putT {n : Int} (hv : EE (ownO p (ctO P w p c) M) Γ tv (dt K (.int n))) (hd : EE (ownO p (ctO P w p c) M) Γ td (rawv (.ref p))) (hk : EE (ownO p (ctO P w p c) M) Γ ty (tkM k)) (hl : c.length < 10000) (hz : ∀ F H, M.I F H → Z.M.I F H) (h : SS Z (ownO p (ctO P w p (cput c k n)) M) Γ D.nx) :
    SS Z (ownO p (ctO P w p c) M) Γ (sNdPut (kdT P w) td ty tv D) := fun σ H a => by
  obtain ⟨F, p0, o, e⟩ := a.ex
  refine hv F H σ e o _ fun v F1 H1 p1 o1 r1 => hd F1 H1 σ (e.mono p1.fx) o1 _ fun x F2 H2 p2 o2 r2 => hk F2 H2 σ ((e.mono p1.fx).mono p2.fx) o2 _ fun y F3 H3 p3 o3 r3 => ?_
  cases r2
  cases dp_int r1
  obtain ⟨b, rfl, hb⟩ := r3
  obtain ⟨⟨_, _, hp3, xs3, rfl, cx3⟩, _⟩ := id o3.iv
  refine ⟨p, xs3, kI k, b, rfl, hp3, (cx3.ex o3.ex).kin, rfl, kin_tk (o3.ex b _ hb), by rw [cx3.len, sizeLine_eq]; omega, ?_⟩
  exact h _ _ ⟨⟨F3, Pu.wr a.own (.inl rfl) (Pu.out a.own p0 ((p1.trans p2).trans p3)), ownO_wr o3 ⟨_, rfl, cx3.put k n hb⟩, ((e.mono p1.fx).mono p2.fx).mono p3.fx⟩, a.sub, a.own, fun F' H' w => hz F' H' w.2⟩
/-- what was one's own is returned, and stays as it is -/
theorem ss_retO {o : OP} {q : MP} (hs : EE (ownO p o M) Γ te (rawv (.ref p))) (hq : ∀ F ob, o.R F ob → F p = some ob → q.R F (.ref p)) (hM : Z.M = M) (k : RtOk Z D.rt q) : SS Z (ownO p o M) Γ (tRet te D) := fun σ H a => by
  obtain ⟨F, p0, ok, e⟩ := a.ex
  have hp : Z.H p = none := by
    rcases a.own p (.inl rfl) with w | w
    · rw [hM] at w; exact absurd w ok.iv.1.1
    · exact w
  refine hs F H σ e ok _ fun w F1 H1 p1 o1 r1 => ?_
  cases r1
  have pz := Pu.out a.own p0 p1
  subst hM
  have o2 : Z.M.Ok F1 H1 := o1.up (fun a s => .inr s) fun F H w => w.2
  obtain ⟨⟨nS, ob, hob, hR⟩, _⟩ := id o1.iv
  obtain ⟨p2, o3, x⟩ := freeze pz o2 hp (o1.ds p (.inl rfl)) nS hob
  exact k _ _ _ p2 o3 (hq _ ob (o.mono x hR) upd_same)
theorem ee_neT (ha : EE M Γ ta (ctM P w c)) (hb : EE M Γ tb (ctM P w d)) : EE M Γ (tOp (rNeT P w) ta tb) (dt K (.bool (ctNe c d))) :=
  ee_opv ha hb fun F H x y ok ⟨a, xs, ea, hx, cx⟩ ⟨b, ys, eb, hy, cy⟩ Q q => ⟨a, b, xs, ys, c, d, ea, eb, ⟨ok.ex a _ hx, cx.ex ok.ex⟩, ⟨ok.ex b _ hy, cy.ex ok.ex⟩, q _ (.bl _)⟩
theorem ee_orT (ha : EE M Γ ta (ctM P w c)) (hb : EE M Γ tb (ctM P w d)) (h0 : c ≠ []) (hap : (c.map fun x => hashK P w (kI x.1)).Nodup) (hl : c.length + d.length ≤ 10000) : EE M Γ (tOp (rOrT P w) ta tb) (ctM P w (cmerge c d)) :=
  ee_op ha hb fun F H x y ok ⟨a, xs, ea, hx, cx⟩ ⟨b, ys, eb, hy, cy⟩ Q q => by
    refine ⟨a, b, xs, ys, c, d, ea, eb, ⟨ok.ex a _ hx, cx.ex ok.ex⟩, ⟨ok.ex b _ hy, cy.ex ok.ex⟩, h0, hap, hl, fun p hp => ?_⟩
    have pn : Pu0 F H (upd F p (nd (kdT P w) p (ndMerge xs ys))) (upd H p (nd (kdT P w) p (ndMerge xs ys))) := .new hp ok.ex
    exact q _ _ _ (pn.any M) (ok.step pn (ex_upd ok.ex)) ⟨p, _, rfl, upd_same, (cx.merge cy).ex pn.fx⟩
theorem CX.at {H : Hp} {xs : NX (List Key)} (h : CX H xs c) : ∀ e ∈ xs, ∀ j : List Int, e.1 = kI j → H e.2.1 = some (.tup (j.map V.int)) := by
  induction h with
  | nil => exact fun e he => nomatch he
  | cons r t ih =>
    intro e he j hj
    rcases List.mem_cons.mp he with rfl | he
    · rw [← kI_inj (r.1.symm.trans hj)]
      exact r.2.1
    · exact ih e he j hj
theorem PM.tups {F : Hp} : ∀ {zs : List (Addr × List Int)}, (∀ z ∈ zs, F z.1 = some (.tup (z.2.map V.int))) → PM F (zs.map fun z => V.ref z.1) (zs.map fun z => tkM z.2)
  | [], _ => .nil
  | z :: r, h => .cons ⟨z.1, rfl, h z List.mem_cons_self⟩ (PM.tups fun y hy => h y (List.mem_cons_of_mem _ hy))
theorem ee_sortT (h : EE M Γ te (ctM P w c)) (hl : c.length ≤ 10000) (hne : 2 ≤ c.length → ∀ x ∈ c, x.1 ≠ []) :
    EE M Γ (tCB (rSortDT P w) (tCons te tNil)) (anyM fun m => ∃ js : List (List Int), js.Perm (c.map (·.1)) ∧ m = lsM K (js.map tkM)) :=
  ee_cb (ea_cons h ea_nil) fun F H vs ok pm Q q => by
    cases pm with
    | cons r1 r2 =>
      cases r2
      obtain ⟨a, xs, rfl, ha, cx⟩ := r1
      refine ⟨a, xs, c, rfl, ⟨ok.ex a _ ha, cx.ex ok.ex⟩, hl, hne, fun zs hp hz p hpn => ?_⟩
      have pn : Pu0 F H (upd F p (.lst (zs.map fun z => V.ref z.1))) (upd H p (.lst (zs.map fun z => V.ref z.1))) := .new hpn ok.ex
      have hF : ∀ z ∈ zs, F z.1 = some (.tup (z.2.map V.int)) := fun z hm => by
        obtain ⟨e, he, e1, e2⟩ := hz z hm
        rw [← e2]
        exact cx.at e he _ e1
      refine q _ _ _ (pn.any M) (ok.step pn (ex_upd ok.ex)) ⟨_, ⟨zs.map (·.2), hp, rfl⟩, p, _, rfl, SqL.of upd_same, ?_⟩
      rw [List.map_map]
      exact (PM.tups hF).mono pn.fx
/-- over one of several lists -/
theorem ss_forLA {tl : TE} {G : List MP → Prop} (h : EE M Γ tl (anyM fun m => ∃ ms, G ms ∧ m = lsM K ms)) (Pv : List MP → Zr → Nat → St → Hp → Prop) (hp : ∀ ms Z' i σ H, Pv ms Z' i σ H → ∃ M' Δ, At Z' M' Δ σ H) (h0 : ∀ ms, G ms → ∀ Z', Z.Le Z' → SS Z' M Γ (Pv ms Z' 0))
    (hs : ∀ ms, G ms → ∀ Z', Z.Le Z' → ∀ (i : Nat) m v σ H, ms[i]? = some m → m.R Z'.F v → Pv ms Z' i σ H → t { D with nx := Pv ms Z' (i + 1), ct := Pv ms Z' (i + 1), bk := D.nx } (σ.set j (some v)) H) (hd : ∀ ms, G ms → ∀ Z', Z.Le Z' → ∀ σ H, Pv ms Z' ms.length σ H → D.nx σ H) : SS Z M Γ (tFor (iList K tl) (gName j) t D) := fun σ H a => by
  obtain ⟨F, p, o, e⟩ := a.ex
  refine h F H σ e o _ fun v F' H' q o' r => ?_
  have a' : At Z M Γ σ H' := a.step p q o' (e.mono q.fx)
  obtain ⟨_, ⟨ms, hG, rfl⟩, ad, xs, rfl, hx, hall⟩ := r
  have le : Z.Le ⟨M, F', H'⟩ := ⟨p.out a.own q, a.sub, a.own, a.iv⟩
  have ah : At ⟨M, F', H'⟩ M Γ σ H' := ⟨⟨F', .refl, o', e.mono q.fx⟩, fun _ s => s, fun _ s => .inl s, fun _ _ w => w⟩
  refine ⟨ad, rfl, ⟨xs, ex_l o'.ex hx⟩, for_list (K := K) (a := ad) (xs := xs) (Pv ms ⟨M, F', H'⟩) (h0 ms hG _ le σ H' ah) (fun i σ2 H2 _ p2 => ?_) (fun i x σ2 H2 hi p2 => ?_) (fun σ2 H2 p2 => ?_)⟩
  · obtain ⟨M', Δ, b⟩ := hp _ _ _ _ _ p2
    obtain ⟨F2, q2, o2, _⟩ := b.ex
    exact ex_l (q2.fx.trans o2.ex) hx
  · have hl : i < ms.length := by rw [← hall.length]; exact (List.getElem?_eq_some_iff.mp hi).1
    obtain ⟨v, e1, e2⟩ := hall.get (List.getElem?_eq_getElem hl)
    rw [hi] at e1
    cases e1
    exact hs ms hG _ le i _ x σ2 H2 (List.getElem?_eq_getElem hl) e2 p2
  · rw [hall.length] at p2
    exact hd ms hG _ le σ2 H2 p2
/-- enumerate -/
theorem ss_forE {tl : TE} {j1 j2 : Nat} {ms : List MP} (h : EE M Γ tl (lsM K ms)) (hz : ∀ F H, Z.M.I F H) (Pv : Zr → Nat → St → Hp → Prop) (hp : ∀ Z' i σ H, Pv Z' i σ H → ∃ M' Δ, At Z' M' Δ σ H) (h0 : ∀ Z', (∀ F H, Z'.M.I F H) → Z.Le Z' → SS Z' M Γ (Pv Z' 0))
    (hs : ∀ Z', (∀ F H, Z'.M.I F H) → Z.Le Z' → ∀ (i : Nat) m v σ H H', ms[i]? = some m → m.R Z'.F v → Pv Z' i σ H → (∀ M' Δ, At Z' M' Δ σ H → At Z' M' Δ σ H') → t { D with nx := Pv Z' (i + 1), ct := Pv Z' (i + 1), bk := D.nx } ((σ.set j1 (some (.int (i : Int)))).set j2 (some v)) H') (hd : ∀ Z', Z.Le Z' → ∀ σ H, Pv Z' ms.length σ H → D.nx σ H) :
    SS Z M Γ (tFor (iEnum K (tCons tl tNil)) (gTup K 2 (gCons (gName j1) (gCons (gName j2) gNil))) t D) := fun σ H a => by
  obtain ⟨F, p, o, e⟩ := a.ex
  refine h F H σ e o _ fun v F' H' q o' r => ?_
  have a' : At Z M Γ σ H' := a.step p q o' (e.mono q.fx)
  obtain ⟨ad, xs, rfl, hx, hall⟩ := r
  have le : Z.Le ⟨topM M, F', H'⟩ := ⟨p.out a.own q, a.sub, a.own, fun F H _ => hz F H⟩
  have tt : ∀ F H, (topM M).I F H := fun _ _ => trivial
  have ah : At ⟨topM M, F', H'⟩ M Γ σ H' := ⟨⟨F', .refl, o', e.mono q.fx⟩, fun _ s => s, fun _ s => .inl s, fun _ _ _ => trivial⟩
  have hlen := hall.length
  have hq : ∀ i σ2 H2, Pv ⟨topM M, F', H'⟩ i σ2 H2 → SqL K H2 ad xs := fun i σ2 H2 p2 => by
    obtain ⟨M', Δ, b⟩ := hp _ _ _ _ p2
    obtain ⟨F2, q2, o2, _⟩ := b.ex
    exact ex_l (q2.fx.trans o2.ex) hx
  refine ⟨ad, xs, rfl, ex_l o'.ex hx, fun i m σ2 H2 => m = xs.length - i ∧ i ≤ xs.length ∧ Pv ⟨topM M, F', H'⟩ i σ2 H2, ⟨xs.length, rfl, Nat.zero_le _, h0 _ tt le σ H' ah⟩, ?_⟩
  rintro i m σ2 H2 ⟨rfl, hil, p2⟩
  have hx2 := hq _ _ _ p2
  by_cases hlt : i < xs.length
  · have hg : xs[i]? = some xs[i] := List.getElem?_eq_getElem hlt
    refine .inr ⟨⟨xs, _, hx2, hg⟩, Pv ⟨topM M, F', H'⟩ (i + 1), fun σ' H' w' => ⟨xs.length - (i + 1), by omega, rfl, hlt, w'⟩, fun x H3 y => ?_⟩
    obtain ⟨T, x', rfl, hT, rfl, y⟩ := y
    have hy := y xs hx2
    rw [hg] at hy
    cases hy
    have hl : i < ms.length := by omega
    obtain ⟨v, e1, e2⟩ := hall.get (List.getElem?_eq_getElem hl)
    rw [hg] at e1
    cases e1
    refine ⟨T, [.int (i : Nat), xs[i]], rfl, SqT.of upd_same, rfl, _, _, rfl, _, _, rfl, rfl, ?_⟩
    refine hs _ tt le i _ _ σ2 H2 _ (List.getElem?_eq_getElem hl) e2 p2 fun M' Δ b => ?_
    obtain ⟨F2, q2, o2, e2⟩ := b.ex
    have pn : Pu0 F2 H2 F2 (upd H2 T (.tup [.int (i : Nat), xs[i]])) := .newH hT
    exact b.step q2 (pn.any _) (o2.step pn (ex_updH o2.ex (free_of o2.ex hT))) e2
  · have e : i = xs.length := by omega
    subst e
    exact .inl ⟨⟨xs, hx2, Nat.le_refl _⟩, hd _ le σ2 H2 (by rw [← hlen]; exact p2)⟩
/-- one of several things is known of a slot -/
theorem ss_case {E : MP → Prop} {N : St → Hp → Prop} {Γ Γ' : Gm} (hj : j < Γ.length) (hΓ : Γ' = Γ.set j (some (anyM E))) (h : ∀ m, E m → SS Z M (Γ.set j (some m)) N) : SS Z M Γ' N := fun σ H a => by
  subst hΓ
  obtain ⟨F, p, o, e⟩ := a.ex
  obtain ⟨v, h1, m, hm, hv⟩ := e.get j (anyM E) (by rw [List.getElem?_set_self hj])
  refine h m hm σ H ⟨⟨F, p, o, ⟨by rw [e.len, List.length_set, List.length_set], fun i m' q => ?_⟩⟩, a.sub, a.own, a.iv⟩
  by_cases hi : j = i
  · subst hi
    rw [List.getElem?_set_self hj] at q
    cases q
    exact ⟨v, h1, hv⟩
  · rw [List.getElem?_set_ne hi] at q
    exact e.get i m' (by rw [List.getElem?_set_ne hi]; exact q)
end
end
end K46
/-! K46, part s: counts: what they say; first_unlike. -/
namespace K46
open PySem L2
open Evl (Ex ex_l ex_t)
/-! ### counts -/
structure CtOk (c : Ct) : Prop where
  nd : (c.map (·.1)).Nodup
  pos : ∀ x ∈ c, 1 ≤ x.2
theorem cfind_mem {c : Ct} {k : List Int} {n : Int} (h : cfind c k = some n) : (k, n) ∈ c := by
  unfold cfind at h
  cases e : c.find? fun x => decide (x.1 = k) with
  | none => rw [e] at h; cases h
  | some x =>
    rw [e] at h
    have h1 : x.2 = n := Option.some.inj h
    have h2 : x.1 = k := by simpa using List.find?_some e
    have h3 := List.mem_of_find?_eq_some e
    obtain ⟨a, b⟩ := x
    cases h1; cases h2
    exact h3
theorem cfind_of {c : Ct} (hn : (c.map (·.1)).Nodup) {x : List Int × Int} (h : x ∈ c) : cfind c x.1 = some x.2 := by
  induction c with
  | nil => cases h
  | cons y r ih =>
    rw [List.map_cons, List.nodup_cons] at hn
    rcases List.mem_cons.mp h with rfl | h
    · simp [cfind]
    · have : ¬ y.1 = x.1 := fun e => hn.1 (by rw [e]; exact List.mem_map.mpr ⟨x, h, rfl⟩)
      have e : cfind (y :: r) x.1 = cfind r x.1 := by simp [cfind, this]
      rw [e]
      exact ih hn.2 h
theorem cfind_none {c : Ct} {k : List Int} (h : k ∉ c.map (·.1)) : cfind c k = none := by
  cases e : cfind c k with
  | none => rfl
  | some n => exact absurd (List.mem_map.mpr ⟨_, cfind_mem e, rfl⟩) h
theorem cget_of {c : Ct} (hn : (c.map (·.1)).Nodup) {x : List Int × Int} (h : x ∈ c) : cget c x.1 = x.2 := by unfold cget; rw [cfind_of hn h]; rfl
theorem nd_sub {α : Type} [DecidableEq α] : ∀ {l1 l2 : List α}, l1.Nodup → (∀ x ∈ l1, x ∈ l2) → l1.length ≤ l2.length
  | [], _, _, _ => Nat.zero_le _
  | a :: r, l2, hn, hs => by
    rw [List.nodup_cons] at hn
    have h1 := nd_sub (l1 := r) (l2 := l2.erase a) hn.2 fun x hx => (List.mem_erase_of_ne (a := x) (b := a) fun e => hn.1 (by rw [← e]; exact hx)).mpr (hs x (List.mem_cons_of_mem _ hx))
    have ha := hs a List.mem_cons_self
    have h2 := List.length_erase_of_mem ha
    have h3 := List.length_pos_of_mem ha
    rw [List.length_cons]
    omega
theorem ctNe_false {c d : Ct} (hc : CtOk c) (hd : CtOk d) : ctNe c d = false ↔ ∀ k, cget c k = cget d k := by
  constructor
  · intro h k
    have h : (c.length == d.length && c.all fun x => match cfind d x.1 with | some n => decide (x.2 = n) | none => false) = true := by
      unfold ctNe at h
      have nb : ∀ b : Bool, (!b) = false → b = true := by decide
      exact nb _ h
    rw [Bool.and_eq_true] at h
    obtain ⟨hl, ha⟩ := h
    have hl : c.length = d.length := by simpa using hl
    have hall : ∀ x ∈ c, cfind d x.1 = some x.2 := fun x hx => by
      have := List.all_eq_true.mp ha x hx
      cases e : cfind d x.1 with
      | none => rw [e] at this; cases this
      | some n => rw [e] at this; rw [of_decide_eq_true this]
    have sub : ∀ k, k ∈ c.map (·.1) → k ∈ d.map (·.1) := fun k hk => by
      obtain ⟨x, hx, rfl⟩ := List.mem_map.mp hk
      exact List.mem_map.mpr ⟨_, cfind_mem (hall x hx), rfl⟩
    have sup : ∀ k, k ∈ d.map (·.1) → k ∈ c.map (·.1) := fun k hk => Classical.byContradiction fun hn => by
      have p := nd_sub (List.nodup_cons.mpr ⟨hn, hc.nd⟩) (l2 := d.map (·.1)) fun x hx => by
        rcases List.mem_cons.mp hx with rfl | hx
        · exact hk
        · exact sub x hx
      rw [List.length_cons, List.length_map, List.length_map] at p
      omega
    by_cases hk : k ∈ c.map (·.1)
    · obtain ⟨x, hx, rfl⟩ := List.mem_map.mp hk
      rw [cget_of hc.nd hx]
      unfold cget
      rw [hall x hx]; rfl
    · unfold cget
      rw [cfind_none hk, cfind_none fun z => hk (sup k z)]
  · intro h
    have mem : ∀ {c d : Ct}, CtOk c → (∀ k, cget c k = cget d k) → ∀ x ∈ c, cfind d x.1 = some x.2 := fun {c d} hc h x hx => by
      have h1 := h x.1
      rw [cget_of hc.nd hx] at h1
      have h2 := hc.pos x hx
      unfold cget at h1
      cases e : cfind d x.1 with
      | none => rw [e] at h1; simp at h1; omega
      | some n => rw [e] at h1; simp at h1; rw [h1]
    have sub : ∀ {c d : Ct}, CtOk c → (∀ k, cget c k = cget d k) → c.length ≤ d.length := fun {c d} hc h => by
      have := nd_sub hc.nd (l2 := d.map (·.1)) fun k hk => by
        obtain ⟨x, hx, rfl⟩ := List.mem_map.mp hk
        exact List.mem_map.mpr ⟨_, cfind_mem (mem hc h x hx), rfl⟩
      rw [List.length_map, List.length_map] at this
      exact this
    have hl : c.length = d.length := Nat.le_antisymm (sub hc h) (sub hd fun k => (h k).symm)
    unfold ctNe
    rw [Bool.not_eq_false', Bool.and_eq_true]
    refine ⟨by simp [hl], List.all_eq_true.mpr fun x hx => ?_⟩
    rw [mem hc h x hx]
    exact decide_eq_true rfl
theorem cput_keys (c : Ct) (k : List Int) (n : Int) : (cput c k n).map (·.1) = if k ∈ c.map (·.1) then c.map (·.1) else c.map (·.1) ++ [k] := by
  unfold cput
  have e : (c.any fun x => decide (x.1 = k)) = decide (k ∈ c.map (·.1)) := by
    rw [Bool.eq_iff_iff]
    rw [List.any_eq_true, decide_eq_true_iff, List.mem_map]
    exact ⟨fun ⟨x, h1, h2⟩ => ⟨x, h1, of_decide_eq_true h2⟩, fun ⟨x, h1, h2⟩ => ⟨x, h1, decide_eq_true h2⟩⟩
  rw [e]
  by_cases h : k ∈ c.map (·.1)
  · rw [if_pos h, if_pos (decide_eq_true h), List.map_map]
    refine List.map_congr_left fun x _ => ?_
    show (if x.1 = k then (x.1, n) else x).1 = x.1
    split <;> rfl
  · rw [if_neg h, if_neg (by simpa using h), List.map_append]; rfl
theorem cput_nd {c : Ct} {k : List Int} {n : Int} (h : (c.map (·.1)).Nodup) : ((cput c k n).map (·.1)).Nodup := by
  rw [cput_keys]
  split
  · exact h
  · rename_i hk
    exact List.nodup_append.mpr ⟨h, by simp, fun a ha b hb e => hk (by rw [← List.mem_singleton.mp hb, ← e]; exact ha)⟩
theorem cput_mem {c : Ct} {k : List Int} {n : Int} {x : List Int × Int} (h : x ∈ cput c k n) : x ∈ c ∨ x = (k, n) := by
  unfold cput at h
  split at h
  · obtain ⟨y, hy, rfl⟩ := List.mem_map.mp h
    split
    · rename_i e; subst e; exact .inr rfl
    · exact .inl hy
  · rcases List.mem_append.mp h with h | h
    · exact .inl h
    · exact .inr (List.mem_singleton.mp h)
theorem cput_len (c : Ct) (k : List Int) (n : Int) : (cput c k n).length ≤ c.length + 1 := by
  unfold cput
  split
  · rw [List.length_map]; omega
  · rw [List.length_append]; exact Nat.le_refl _
theorem cput_get {c : Ct} {k j : List Int} {n : Int} (hn : (c.map (·.1)).Nodup) : cget (cput c k n) j = if j = k then n else cget c j := by
  by_cases hj : j = k
  · subst hj
    rw [if_pos rfl]
    have hm : (j, n) ∈ cput c j n := by
      unfold cput
      split
      · rename_i h
        obtain ⟨x, h1, h2⟩ := List.any_eq_true.mp h
        have h2 := of_decide_eq_true h2
        exact List.mem_map.mpr ⟨x, h1, by rw [if_pos h2, h2]⟩
      · exact List.mem_append.mpr (.inr (List.mem_singleton.mpr rfl))
    exact cget_of (cput_nd hn) hm
  · rw [if_neg hj]
    by_cases hm : j ∈ c.map (·.1)
    · obtain ⟨x, hx, rfl⟩ := List.mem_map.mp hm
      rw [cget_of hn hx]
      refine cget_of (cput_nd hn) ?_
      unfold cput
      split
      · exact List.mem_map.mpr ⟨x, hx, by rw [if_neg hj]⟩
      · exact List.mem_append.mpr (.inl hx)
    · have h2 : j ∉ (cput c k n).map (·.1) := fun z => by
        rw [cput_keys] at z
        split at z
        · exact hm z
        · rcases List.mem_append.mp z with z | z
          · exact hm z
          · exact hj (List.mem_singleton.mp z)
      unfold cget
      rw [cfind_none hm, cfind_none h2]
theorem cmerge_keys : ∀ (d c : Ct), (∀ k, k ∈ c.map (·.1) ∨ k ∈ d.map (·.1) ↔ k ∈ (cmerge c d).map (·.1))
  | [], c => fun k => ⟨fun h => h.elim id (fun z => nomatch z), .inl⟩
  | x :: r, c => fun k => by
    show _ ↔ k ∈ (cmerge (cput c x.1 x.2) r).map (·.1)
    rw [← cmerge_keys r (cput c x.1 x.2) k, cput_keys]
    split
    · rename_i h
      constructor
      · rintro (z | z)
        · exact .inl z
        · rcases List.mem_cons.mp z with z | z
          · exact .inl (z ▸ h)
          · exact .inr z
      · rintro (z | z)
        · exact .inl z
        · exact .inr (List.mem_cons_of_mem _ z)
    · constructor
      · rintro (z | z)
        · exact .inl (List.mem_append.mpr (.inl z))
        · rcases List.mem_cons.mp z with z | z
          · exact .inl (List.mem_append.mpr (.inr (by rw [z]; exact List.mem_singleton.mpr rfl)))
          · exact .inr z
      · rintro (z | z)
        · rcases List.mem_append.mp z with z | z
          · exact .inl z
          · exact .inr (by rw [List.mem_singleton.mp z]; exact List.mem_cons_self)
        · exact .inr (List.mem_cons_of_mem _ z)
theorem cmerge_len : ∀ (d c : Ct), (cmerge c d).length ≤ c.length + d.length
  | [], c => Nat.le_refl _
  | x :: r, c => by
    have h1 := cmerge_len r (cput c x.1 x.2)
    have h2 := cput_len c x.1 x.2
    show (cmerge (cput c x.1 x.2) r).length ≤ c.length + (r.length + 1)
    omega
/-! ### keys' hashes -/
def tupHI (k : List Int) : Int := reduceHash (Builtin.Tuple.tupleHashOf (k.map hashInt))
theorem hashK_int (P : Program) (w : World) (k : List Int) : hashK P w (kI k) = tupHI k := by
  show reduceHash (Builtin.Tuple.tupleHashOf ((k.map Sum.inl).map (keyH w))) = _
  rw [List.map_map]; rfl
def bits3 : List (List Int) := [[], [0], [1], [0, 0], [0, 1], [1, 0], [1, 1], [0, 0, 0], [0, 0, 1], [0, 1, 0], [0, 1, 1], [1, 0, 0], [1, 0, 1], [1, 1, 0], [1, 1, 1]]
theorem bits3_inj : ∀ a ∈ bits3, ∀ b ∈ bits3, tupHI a = tupHI b → a = b := by decide +kernel
theorem bits3_mem : ∀ k : List Int, k.length ≤ 3 → (∀ b ∈ k, b = 0 ∨ b = 1) → k ∈ bits3
  | [], _, _ => by decide
  | [a], _, h => by
    rcases h a (by simp) with rfl | rfl <;> decide
  | [a, b], _, h => by
    rcases h a (by simp) with rfl | rfl <;> rcases h b (by simp) with rfl | rfl <;> decide
  | [a, b, c], _, h => by
    rcases h a (by simp) with rfl | rfl <;> rcases h b (by simp) with rfl | rfl <;> rcases h c (by simp) with rfl | rfl <;> decide
  | _ :: _ :: _ :: _ :: _, hl, _ => absurd hl (by simp)
theorem hash_nd {P : Program} {w : World} {c : Ct} (hn : (c.map (·.1)).Nodup) (hb : ∀ x ∈ c, x.1 ∈ bits3) : (c.map fun x => hashK P w (kI x.1)).Nodup := by
  have e : (c.map fun x => hashK P w (kI x.1)) = (c.map (·.1)).map tupHI := by
    rw [List.map_map]
    exact List.map_congr_left fun x _ => hashK_int P w x.1
  rw [e]
  refine List.pairwise_map.mpr (List.Pairwise.imp_of_mem (fun {a b} ha hb' hne he => hne ?_) hn)
  obtain ⟨x, hx, rfl⟩ := List.mem_map.mp ha
  obtain ⟨y, hy, rfl⟩ := List.mem_map.mp hb'
  exact bits3_inj _ (hb x hx) _ (hb y hy) he
end K46
/-! K46, part t: first_unlike. -/
namespace K46
open PySem L2
open Evl (Ex ex_l ex_t)
section
variable {P : Program} {w : World} {K : PySem.W.Frag} {mg : Str → Option Value} {base : Heap} {C : Addr}
theorem pe_gr {X : Cx} {x : Str} {a : Addr} {pos : Pos} (h : X.mg x = some (.ref a)) (hg : Gl X x) (hd : (x == ("__debug__" : Str)) = false := by decide) : PE X (.Name x pos) (tC (.ref a)) := pe_glob hg h rfl hd
abbrev s_first_unlike : Stmt := top 24
abbrev n_first_unlike : List Str := ["counts", "others", "bits", "numbers"]
abbrev p_first_unlike : List Str := ["counts", "others"]
theorem sc_first_unlike : FnScope n_first_unlike p_first_unlike (defScope s_first_unlike) := ⟨rfl, rfl, rfl, by decide +kernel, rfl, by decide +kernel, by decide +kernel⟩
structure CtIn (c : Ct) : Prop where
  ok : CtOk c
  few : c.length ≤ 1000
  bits : ∀ x ∈ c, x.1 ∈ bits3
  ne : ∀ x ∈ c, x.1 ≠ []
def unlikeM (K : PySem.W.Frag) (c d : Ct) : MP := anyM fun m => ∃ k, cget c k ≠ cget d k ∧ m = tpM K [tkM k, dt K (pairD (cget c k) (cget d k))]
def r_first (P : Program) (w : World) (K : PySem.W.Frag) : List MP → MP → Prop := fun Rs R => ∃ c d, CtIn c ∧ CtIn d ∧ c ≠ [] ∧ ctNe c d = true ∧ Rs = [ctM P w c, ctM P w d] ∧ R = unlikeM K c d
abbrev C_first (P : Program) (w : World) (K : PySem.W.Frag) (mg : Str → Option Value) (base : Heap) : Prop := Cal P w K mg base 1 "first_unlike" p_first_unlike (spP (r_first P w K))
theorem cal_first {na : Addr} (D : DefAt K mg "first_unlike" "first_unlike" s_first_unlike p_first_unlike) (T : Nm mg) (hNo : mg "NOTHING" = some (.ref na)) : C_first P w K mg base := by
  refine cal_P D sc_first_unlike (fun Rs R h => by obtain ⟨_, _, _, _, _, _, rfl, _⟩ := h; rfl) fun f cdv A outer s H E hr => ⟨_, (pss_cons (ps_for PassesOwn.never rfl (k_pl K (pe_callB (call_sortDT (by rfl)) (by rfl) T.sorted (by decide +kernel) (pa_cons (pe_op (op_orT hr.units) (pv 0) (pv 1)) pa_nil))) (pg_name (i := 2) sc_first_unlike.nd rfl (Or.inl rfl)) (pss_cons (ps_set (i := 3) sc_first_unlike.nd rfl (Or.inl rfl) (pe_tup (pa_cons (pe_ndGet2 (kdT P w) hr.units (pv 0) (pv 2) pe_int ⟨by rfl, by rfl, by rfl, by rfl⟩) (pa_cons (pe_ndGet2 (kdT P w) hr.units (pv 1) (pv 2) pe_int ⟨by rfl, by rfl, by rfl, by rfl⟩) pa_nil))))
  (pss_one (ps_if (pt_cmpR op_ne (pe_ix (k_ix K) (pv 3) pe_int (fun _ _ => rfl)) (pe_ix (k_ix K) (pv 3) pe_int (fun _ _ => rfl)) (nomark _)) (pss_one (ps_ret (pe_tup (pa_cons (pv 2) (pa_cons (pv 3) pa_nil))))) pss_nil))))
  (pss_one (ps_ret (pe_tup (pa_cons (pe_tup pa_nil) (pa_cons (pe_gr hNo (by rfl)) pa_nil)))))), ?_⟩
  rintro Rs R ⟨c, d, hc, hd, h0, hne, rfl, rfl⟩ F Q q
  have hml := cmerge_len d c
  have hmk : ∀ x ∈ cmerge c d, x.1 ≠ [] := fun x hx => by
    rcases (cmerge_keys d c x.1).mpr (List.mem_map.mpr ⟨x, hx, rfl⟩) with h | h
    · obtain ⟨y, hy, e⟩ := List.mem_map.mp h
      rw [← e]; exact hc.ne y hy
    · obtain ⟨y, hy, e⟩ := List.mem_map.mp h
      rw [← e]; exact hd.ne y hy
  have hG : ∀ F v, (anyM fun m => ∃ js : List (List Int), js.Perm ((cmerge c d).map (·.1)) ∧ m = lsM K (js.map tkM)).R F v → (anyM fun m => ∃ ms, (∃ js : List (List Int), js.Perm ((cmerge c d).map (·.1)) ∧ ms = js.map tkM) ∧ m = lsM K ms).R F v := fun F v ⟨m, ⟨js, h1, h2⟩, r⟩ => ⟨m, ⟨_, ⟨js, h1, rfl⟩, h2⟩, r⟩
  refine ss_seq (ss_forLA (K := K) (G := fun ms => ∃ js : List (List Int), js.Perm ((cmerge c d).map (·.1)) ∧ ms = js.map tkM) (ee_imp (ee_sortT (K := K) (c := cmerge c d) (ee_orT (P := P) (w := w) (c := c) (d := d) (ee_var rfl) (ee_var rfl) h0 (hash_nd hc.ok.nd hc.bits) (by have := hc.few; have := hd.few; omega)) (by have := hc.few; have := hd.few; omega) fun _ => hmk) hG) (fun ms Z' i σ H => ∃ js : List (List Int), js.Perm ((cmerge c d).map (·.1)) ∧ ms = js.map tkM ∧ At Z' pu [some (ctM P w c), some (ctM P w d), none, none] σ H ∧ ∀ k ∈ js.take i, cget c k = cget d k) (fun ms Z' i σ H ⟨_, _, _, a, _⟩ => ⟨_, _, a⟩) ?_ ?_ ?_)
  · rintro ms ⟨js, jp, rfl⟩ Z' le σ H a
    exact ⟨js, jp, rfl, a, fun k hk => by simp at hk⟩
  · rintro ms _ Z' le i m v σ H hm hv ⟨js, jp, rfl, a, hk⟩
    obtain ⟨k, hj, rfl⟩ := map_get hm
    refine ss_go (a.put hv) ?_
    refine sq_set (m := dt K (pairD (cget c k) (cget d k))) (ee_tup (ds := [.int (cget c k), .int (cget d k)]) (ea_cons (ee_getF (ee_var rfl) (ee_var rfl) ee_int) (ea_one (ee_getF (ee_var rfl) (ee_var rfl) ee_int))) (by show 2 ≤ 100000; decide)) ?_
    refine ss_if (b := !decide (cget c k = cget d k)) (et_test (ee_neI (ee_ixT (ds := [.int (cget c k), .int (cget d k)]) (j := 0) (ee_var rfl) ee_int rfl rfl) (ee_ixT (ds := [.int (cget c k), .int (cget d k)]) (j := 1) (ee_var rfl) ee_int rfl rfl))) (fun h => ?_) fun h => ?_
    · exact ss_ret (m := unlikeM K c d) (ee_imp (ee_two (ee_var rfl) (ee_var rfl)) fun F v r => ⟨_, ⟨k, by simpa using h, rfl⟩, r⟩) (q.base le)
    · intro σ2 H2 a2
      refine ⟨js, jp, rfl, a2.le (.cons (.cons (.drop (.drop .nil)))), fun k' hk' => ?_⟩
      rw [List.take_succ, hj] at hk'
      rcases List.mem_append.mp hk' with z | z
      · exact hk k' z
      · have : k' = k := by simpa using z
        rw [this]
        simpa using h
  · rintro ms _ Z' le σ H ⟨js, jp, rfl, a, hk⟩
    exfalso
    have hjs : ∀ k, k ∈ (cmerge c d).map (·.1) → cget c k = cget d k := fun k hm => by
      refine hk k ?_
      rw [List.length_map, List.take_length]
      exact jp.mem_iff.mpr hm
    have hall : ∀ k, cget c k = cget d k := fun k => by
      by_cases hm : k ∈ (cmerge c d).map (·.1)
      · exact hjs k hm
      · have h1 : k ∉ c.map (·.1) := fun z => hm ((cmerge_keys d c k).mp (.inl z))
        have h2 : k ∉ d.map (·.1) := fun z => hm ((cmerge_keys d c k).mp (.inr z))
        unfold cget
        rw [cfind_none h1, cfind_none h2]
    rw [(ctNe_false hc.ok hd.ok).mpr hall] at hne
    cases hne
end
end K46
/-! K46, part u: the law's counts. -/
namespace K46
open PySem L2
open Evl (Ex ex_l ex_t)
def ctOf (bs : List (List Int)) : Ct := bs.foldl (fun c k => cput c k (cget c k + 1)) []
/-- what is sent, told from one side -/
def bitsAt (t : Tr) (side : Nat) (own other coin another : Int) : List Int := if side = 0 then (heldS own other coin another t).1 else (heldS other own another coin t).1
def cntOf (t : Tr) (side : Nat) (own coin other : Int) (n : Nat) : Ct := ctOf ((List.range n).map fun (k : Nat) => bitsAt t side own other coin (k : Int))
theorem ctOf_snoc (bs : List (List Int)) (k : List Int) : ctOf (bs ++ [k]) = cput (ctOf bs) k (cget (ctOf bs) k + 1) := by unfold ctOf; rw [List.foldl_append]; rfl
theorem cget_nn {c : Ct} (h : CtOk c) (k : List Int) : 0 ≤ cget c k := by
  by_cases hm : k ∈ c.map (·.1)
  · obtain ⟨x, hx, rfl⟩ := List.mem_map.mp hm
    rw [cget_of h.nd hx]
    have := h.pos x hx
    omega
  · unfold cget
    rw [cfind_none hm]
    exact Int.le_refl _
theorem ctOf_ind : ∀ (m : Nat) (bs : List (List Int)), bs.length = m → CtOk (ctOf bs) ∧ (ctOf bs).length ≤ bs.length ∧ (∀ x ∈ ctOf bs, x.1 ∈ bs) ∧ (bs ≠ [] → ctOf bs ≠ [])
  | 0, bs, h => by
    have : bs = [] := List.length_eq_zero_iff.mp h
    subst this
    exact ⟨⟨List.nodup_nil, fun _ h => nomatch h⟩, Nat.le_refl _, (fun _ h => nomatch h), fun z => absurd rfl z⟩
  | m + 1, bs, h => by
    have h0 : bs ≠ [] := fun z => by rw [z] at h; cases h
    obtain ⟨r, k, rfl⟩ : ∃ r k, bs = r ++ [k] := ⟨bs.dropLast, bs.getLast h0, (List.dropLast_concat_getLast h0).symm⟩
    rw [List.length_append] at h
    obtain ⟨ok, l, mem, _⟩ := ctOf_ind m r (by simpa using h)
    rw [ctOf_snoc]
    have cl := cput_len (ctOf r) k (cget (ctOf r) k + 1)
    have nn := cget_nn ok k
    refine ⟨⟨cput_nd ok.nd, fun x hx => ?_⟩, by rw [List.length_append]; show _ ≤ r.length + 1; omega, fun x hx => ?_, fun _ z => ?_⟩
    · rcases cput_mem hx with hx | rfl
      · exact ok.pos x hx
      · show (1 : Int) ≤ cget (ctOf r) k + 1
        omega
    · rcases cput_mem hx with hx | rfl
      · exact List.mem_append.mpr (.inl (mem x hx))
      · exact List.mem_append.mpr (.inr (List.mem_singleton.mpr rfl))
    · have h1 := congrArg (List.map (·.1)) z
      rw [cput_keys] at h1
      split at h1
      · rename_i hk
        rw [show (ctOf r).map (·.1) = [] from h1] at hk
        cases hk
      · exact absurd h1 (by simp)
theorem heldS_len {X Y c0 c1 : Nat} {x y r s : Int} (io : InOk X Y c0 c1 x y r s) : ∀ {t : Tr}, t.Ok [0, 1] (sz2 X Y) (sz2 c0 c1) → (heldS x y r s t).1.length + 1 ≤ t.ht ∧ ∀ b ∈ (heldS x y r s t).1, b = 0 ∨ b = 1
  | .fin as, _ => ⟨Nat.le_refl _, fun b h => nomatch h⟩
  | .say i b f g, ⟨hi, hb, hbb, fok, gok⟩ => by
    obtain ⟨row, e1, e2, hbit⟩ := bit_ok hi hb hbb io
    have h1 := heldS_len io fok
    have h2 := heldS_len io gok
    have ht : (Tr.say i b f g).ht = max f.ht g.ht + 1 := rfl
    have hf := Nat.le_max_left f.ht g.ht
    have hg := Nat.le_max_right f.ht g.ht
    have e : (heldS x y r s (.say i b f g)).1 = bitOf i b x y r s :: (if bitOf i b x y r s = 0 then heldS x y r s f else heldS x y r s g).1 := rfl
    rw [e, ht]
    refine ⟨?_, fun z hz => ?_⟩
    · rw [List.length_cons]
      split <;> omega
    · rcases List.mem_cons.mp hz with rfl | hz
      · exact hbit
      · split at hz
        · exact h1.2 z hz
        · exact h2.2 z hz
/-- one side's place -/
structure SideOk (X Y c0 c1 side : Nat) (own coin other : Int) : Prop where
  sd : side ∈ [0, 1]
  own : 0 ≤ own ∧ own < (sz2 X Y side : Nat)
  coin : 0 ≤ coin ∧ coin < (sz2 c0 c1 side : Nat)
  oth : 0 ≤ other ∧ other < (sz2 Y X side : Nat)
theorem SideOk.io {X Y c0 c1 side : Nat} {own coin other another : Int} (h : SideOk X Y c0 c1 side own coin other) (ha : 0 ≤ another ∧ another < (sz2 c1 c0 side : Nat)) :
    (side = 0 ∧ InOk X Y c0 c1 own other coin another) ∨ (side = 1 ∧ InOk X Y c0 c1 other own another coin) := by
  obtain ⟨h0, h1, h2, h3⟩ := h
  rcases mem01 h0 with rfl | rfl
  · exact .inl ⟨rfl, h1, h3, h2, ha⟩
  · exact .inr ⟨rfl, h3, h1, ha, h2⟩
theorem bitsAt_ok {X Y c0 c1 side : Nat} {own coin other another : Int} {t : Tr} (tk : t.Ok [0, 1] (sz2 X Y) (sz2 c0 c1)) (h : SideOk X Y c0 c1 side own coin other) (ha : 0 ≤ another ∧ another < (sz2 c1 c0 side : Nat)) :
    (bitsAt t side own other coin another).length + 1 ≤ t.ht ∧ ∀ b ∈ bitsAt t side own other coin another, b = 0 ∨ b = 1 := by
  rcases h.io ha with ⟨rfl, io⟩ | ⟨rfl, io⟩
  · exact heldS_len io tk
  · exact heldS_len io tk
theorem cnt_in {X Y c0 c1 side : Nat} {own coin other : Int} {t : Tr} (ok : TalkOk X Y c0 c1 t) (h4 : t.ht ≤ 4) (hs : ∃ i b f g, t = .say i b f g) (h : SideOk X Y c0 c1 side own coin other) : CtIn (cntOf t side own coin other (sz2 c1 c0 side)) := by
  obtain ⟨h1, h2, h3, _⟩ := ctOf_ind _ ((List.range (sz2 c1 c0 side)).map fun (k : Nat) => bitsAt t side own other coin (k : Int)) rfl
  have key : ∀ x ∈ cntOf t side own coin other (sz2 c1 c0 side), ∃ k : Nat, k < sz2 c1 c0 side ∧ x.1 = bitsAt t side own other coin (k : Int) := fun x hx => by
    obtain ⟨k, hk, e⟩ := List.mem_map.mp (h3 x hx)
    exact ⟨k, List.mem_range.mp hk, e.symm⟩
  have hn : sz2 c1 c0 side ≤ 200 := by
    have := ok.b0; have := ok.b1
    unfold sz2; split <;> omega
  refine ⟨h1, ?_, fun x hx => ?_, fun x hx => ?_⟩
  · rw [List.length_map, List.length_range] at h2
    show (ctOf _).length ≤ 1000
    omega
  · obtain ⟨k, hk, e⟩ := key x hx
    have b := bitsAt_ok ok.ok h (another := (k : Int)) (by omega)
    rw [e]
    exact bits3_mem _ (by omega) b.2
  · obtain ⟨k, hk, e⟩ := key x hx
    obtain ⟨i, b, f, g, rfl⟩ := hs
    rw [e]
    unfold bitsAt
    split <;> exact fun z => nomatch z
theorem cnt_ok (t : Tr) (side : Nat) (own coin other : Int) (n : Nat) : CtOk (cntOf t side own coin other n) := (ctOf_ind _ _ rfl).1
theorem cnt_ne {t : Tr} {side : Nat} {own coin other : Int} {n : Nat} (h : 1 ≤ n) : cntOf t side own coin other n ≠ [] := (ctOf_ind _ _ rfl).2.2.2 fun z => by
  have := congrArg List.length z
  rw [List.length_map, List.length_range] at this
  exact absurd this (by simp; omega)
theorem cnt_fin {as : List Tab} {side : Nat} {own coin other : Int} {n : Nat} (o2 : Int) : cntOf (.fin as) side own coin other n = cntOf (.fin as) side own coin o2 n := by
  unfold cntOf
  rfl
section
variable {P : Program} {w : World} {K : PySem.W.Frag} {mg : Str → Option Value} {base : Heap} {C : Addr}
abbrev s__law_counts : Stmt := top 37
abbrev n__law_counts : List Str := ["_law_talk", "_law_side", "_law_mine", "_law_coin", "_law_other", "_law_found", "_law_theirs", "_law_inputs", "_law_coins", "_law_bits_here"]
abbrev p__law_counts : List Str := ["_law_talk", "_law_side", "_law_mine", "_law_coin", "_law_other"]
theorem sc__law_counts : FnScope n__law_counts p__law_counts (defScope s__law_counts) := ⟨rfl, rfl, rfl, by decide +kernel, rfl, by decide +kernel, by decide +kernel⟩
def r_lcounts (P : Program) (w : World) (K : PySem.W.Frag) : List MP → MP → Prop := fun Rs R => ∃ (X Y c0 c1 side : Nat) (t : Tr) (own coin other : Int), TalkOk X Y c0 c1 t ∧ SideOk X Y c0 c1 side own coin other ∧
  Rs = [dt K (talkD c0 c1 t), dt K (.int (side : Int)), dt K (.int own), dt K (.int coin), dt K (.int other)] ∧ R = ctM P w (cntOf t side own coin other (sz2 c1 c0 side))
abbrev C_lcounts (P : Program) (w : World) (K : PySem.W.Frag) (mg : Str → Option Value) (base : Heap) : Prop := Cal P w K mg base 2 "_law_counts" p__law_counts (spP (r_lcounts P w K))
theorem cal_lcounts (D : DefAt K mg "_law_counts" "_law_counts" s__law_counts p__law_counts) (T : Nm mg) (G__law_held : C_lheld P w K mg base) : C_lcounts P w K mg base := by
  refine cal_P D sc__law_counts (fun Rs R h => by obtain ⟨_, _, _, _, _, _, _, _, _, _, _, rfl, _⟩ := h; rfl) fun f cdv A outer s H E hr => ⟨_, (pss_cons (ps_set (i := 5) sc__law_counts.nd rfl (Or.inl rfl) (pe_ndNew (kdT P w)))
  (pss_cons (ps_for PassesOwn.never rfl (pi_range1 (by rfl) T.range (pa_cons (pe_ix (k_ix K) (pv 0) (pe_op op_sub pe_int (pv 1)) (fun _ _ => rfl)) pa_nil)) (pg_name (i := 6) sc__law_counts.nd rfl (Or.inl rfl)) (pss_cons (ps_par (i := 7) (j := 8) (by rfl) sc__law_counts.nd rfl rfl (by decide) rfl rfl (pa_cons (pe_tup (pa_cons (pv 2) (pa_cons (pv 4) pa_nil))) (pa_cons (pe_tup (pa_cons (pv 3) (pa_cons (pv 6) pa_nil))) pa_nil)) (by rfl))
  (pss_cons (ps_if (pt_cmpR op_eq (pv 1) pe_int (nomark _)) (pss_one (ps_par (i := 7) (j := 8) (by rfl) sc__law_counts.nd rfl rfl (by decide) rfl rfl (pa_cons (pe_tup (pa_cons (pv 4) (pa_cons (pv 2) pa_nil))) (pa_cons (pe_tup (pa_cons (pv 6) (pa_cons (pv 3) pa_nil))) pa_nil)) (by rfl))) pss_nil)
  (pss_cons (ps_set (i := 9) sc__law_counts.nd rfl (Or.inl rfl) (pe_ix (k_ix K) (pe_c (G__law_held.up (by decide)) hr (by rfl) (pa_cons (pv 0) (pa_cons (pv 7) (pa_cons (pv 8) pa_nil)))) pe_int (fun _ _ => rfl)))
  (pss_one (ps_ndPut (kdT P w) hr.units (pv 5) (pv 9) (pe_op op_add (pe_ndGet2 (kdT P w) hr.units (pv 5) (pv 9) pe_int ⟨by rfl, by rfl, by rfl, by rfl⟩) pe_int) rfl))))))
  (pss_one (ps_ret (pv 5))))), ?_⟩
  rintro Rs R ⟨X, Y, c0, c1, side, t, own, coin, other, ok, so, rfl, rfl⟩ F Q q
  have pz : ∀ {M : Mode} (F H : Hp), M.I F H → (⟨pu, F, H⟩ : Zr).M.I F H := fun _ _ _ => trivial
  have hn : sz2 c1 c0 side ≤ 200 := by
    have := ok.b0; have := ok.b1
    unfold sz2; split <;> omega
  refine sq_newT (P := P) (w := w) fun p => ?_
  refine ss_seq (ss_forR1 (K := K) (n := (sz2 c1 c0 side : Nat)) (ea_one ?_) (by omega) (fun k σ H' => At ⟨pu, F, H⟩ (ownO p (ctO P w p (ctOf ((List.range k).map fun (k : Nat) => bitsAt t side own other coin (k : Int)))) pu) [some (dt K (talkD c0 c1 t)), some (dt K (.int (side : Int))), some (dt K (.int own)), some (dt K (.int coin)), some (dt K (.int other)), some (rawv (.ref p)), none, none, none, none] σ H') (fun σ H' a => ?_) ?_ ?_)
  rotate_left
  · exact a
  rotate_right
  · rcases mem01 so.sd with rfl | rfl
    · exact ee_ixT (ds := [.str "talk", .int (c0 : Int), .int (c1 : Int), t.D false]) (j := 2) (ee_var rfl) (ee_sub ee_int (ee_var rfl)) rfl rfl
    · exact ee_ixT (ds := [.str "talk", .int (c0 : Int), .int (c1 : Int), t.D false]) (j := 1) (ee_var rfl) (ee_sub ee_int (ee_var rfl)) rfl rfl
  · rintro k σ1 H1 hk a
    have hk' : k < sz2 c1 c0 side := by omega
    refine ss_go (a.put (m := dt K (.int (k : Int))) (.int _)) ?_
    have hlen := (ctOf_ind _ ((List.range k).map fun (k : Nat) => bitsAt t side own other coin (k : Int)) rfl).2.1
    rw [List.length_map, List.length_range] at hlen
    have rest : ∀ (Dk : Ends), Dk.nx = At ⟨pu, F, H⟩ (ownO p (ctO P w p (ctOf ((List.range (k + 1)).map fun (k : Nat) => bitsAt t side own other coin (k : Int)))) pu) [some (dt K (talkD c0 c1 t)), some (dt K (.int (side : Int))), some (dt K (.int own)), some (dt K (.int coin)), some (dt K (.int other)), some (rawv (.ref p)), none, none, none, none] →
        ∀ {x y r s : Int}, InOk X Y c0 c1 x y r s → (heldS x y r s t).1 = bitsAt t side own other coin (k : Int) → SS ⟨pu, F, H⟩ (ownO p (ctO P w p (ctOf ((List.range k).map fun (k : Nat) => bitsAt t side own other coin (k : Int)))) pu)
        [some (dt K (talkD c0 c1 t)), some (dt K (.int (side : Int))), some (dt K (.int own)), some (dt K (.int coin)), some (dt K (.int other)), some (rawv (.ref p)), some (dt K (.int (k : Int))), some (dt K (pairD x y)), some (dt K (pairD r s)), none]
        (tSeq (tAsg (tOp (rIx K) (tCall (spP (r_hold K)) [] E0 (tCons (tVar 0) (tCons (tVar 7) (tCons (tVar 8) tNil)))) (tC (V.int 0))) (gName 9)) (sNdPut (kdT P w) (tVar 5) (tVar 9) (tOp (rI0 fun i j => V.int (i + j)) (tNdGet2 (kdT P w) (tVar 5) (tVar 9) (tC (V.int 0))) (tC (V.int 1)))) Dk) := fun Dk hD {x y r s} io e => by
      refine sq_set (i := 9) (m := tkM (heldS x y r s t).1) (ee_ixTM (K := K) (ms := [tkM (heldS x y r s t).1, dt K (pairD (heldS x y r s t).2.1 (heldS x y r s t).2.2)]) (j := 0) (ee_call (Rel := r_hold K) (ea_cons (ee_var (i := 0) rfl) (ea_cons (ee_var (i := 7) rfl) (ea_one (ee_var (i := 8) rfl)))) ⟨X, Y, c0, c1, t, x, y, r, s, ok, io, rfl, rfl⟩) ee_int rfl rfl) ?_
      rw [e]
      refine ss_putT (K := K) (ee_add (ee_getT (K := K) (ee_var (i := 5) rfl) (ee_var (i := 9) rfl) ee_int) ee_int) (ee_var (i := 5) rfl) (ee_var (i := 9) rfl) (by omega) pz ?_
      rw [← ctOf_snoc, ← range_snoc, hD]
      exact ss_le ss_at (.cons (.cons (.cons (.cons (.cons (.cons (.drop (.drop (.drop (.drop .nil))))))))))
    refine ss_seq (ss_par (m1 := dt K (pairD own other)) (m2 := dt K (pairD coin (k : Int))) (ea_cons (ee_tup (ds := [.int own, .int other]) (ea_cons (ee_var rfl) (ea_one (ee_var rfl))) (by show 2 ≤ 100000; decide)) (ea_one (ee_tup (ds := [.int coin, .int (k : Int)]) (ea_cons (ee_var rfl) (ea_one (ee_var rfl))) (by show 2 ≤ 100000; decide)))) ?_)
    rcases so.io (another := (k : Int)) (by omega) with ⟨rfl, io⟩ | ⟨rfl, io⟩
    · exact sq_no (b := false) (et_is (et_test (ee_eqI (ee_var rfl) ee_int)) (by decide)) rfl (rest _ rfl io rfl)
    · refine sq_if (b := true) (et_is (et_test (ee_eqI (ee_var rfl) ee_int)) (by decide)) (fun _ => ?_) fun h => nomatch h
      exact ss_par (m1 := dt K (pairD other own)) (m2 := dt K (pairD (k : Int) coin)) (ea_cons (ee_tup (ds := [.int other, .int own]) (ea_cons (ee_var rfl) (ea_one (ee_var rfl))) (by show 2 ≤ 100000; decide)) (ea_one (ee_tup (ds := [.int (k : Int), .int coin]) (ea_cons (ee_var rfl) (ea_one (ee_var rfl))) (by show 2 ≤ 100000; decide)))) (rest _ rfl io rfl)
  · rw [Int.toNat_natCast]
    exact ss_retO (q := ctM P w (cntOf t side own coin other (sz2 c1 c0 side))) (ee_var rfl) (fun F ob ⟨xs, e, cx⟩ hp => ⟨p, xs, rfl, by rw [← e]; exact hp, cx⟩) rfl q
end
end K46
/-! K46, part v: the dict of what is sent; methods that change their instance. -/
namespace K46
open PySem L2
open Evl (Ex ex_l ex_t)
/-! ### keys ((x, y), (r, s)) -/
def nk (x y r s : Int) : NestedKey := .tup [.tup [.num x, .num y], .tup [.num r, .num s]]
theorem nk_inj {x y r s x' y' r' s' : Int} (h : nk x y r s = nk x' y' r' s') : x = x' ∧ y = y' ∧ r = r' ∧ s = s' := by
  unfold nk at h
  injection h with h
  injection h with h1 h2
  injection h1 with h1
  injection h1 with a1 a2
  injection a1 with a1
  injection a2 with a2 _
  injection a2 with a2
  injection h2 with h2 _
  injection h2 with h2
  injection h2 with b1 b2
  injection b1 with b1
  injection b2 with b2 _
  injection b2 with b2
  exact ⟨a1, a2, b1, b2⟩
theorem any_obj {P : Program} {w : World} {H : Hp} {h : Heap} (ok : HOk P w H h) {b : Addr} {xs : List V} (e : H b = some (.tup xs)) : ∃ o its n, h.get? b = some o ∧ o.cls = .type "tuple" ∧ o.data = .seq its n ∧ Vals xs its.toList := by
  obtain ⟨_, its, r, o, h1, h2, n, h3⟩ := (show ObjOk P w H h b (.tup xs) from ok b _ e)
  exact ⟨o, its.toArray, n, h1, h2, h3, by simpa using r⟩
theorem pair_is {P : Program} {w : World} {H : Hp} {h : Heap} (ok : HOk P w H h) {b : Addr} {x y : Int} (e : H b = some (.tup [.int x, .int y])) : NestedIs h (.tup [.num x, .num y]) (.ref b) := by
  obtain ⟨o, its, n, h1, h2, h3, h4⟩ := any_obj ok e
  refine .tup h1 h2 h3 ?_
  generalize its.toList = us at h4
  cases h4 with
  | cons a h4 =>
    cases h4 with
    | cons b h4 =>
      cases h4
      obtain ⟨t, rfl⟩ := a
      obtain ⟨u, rfl⟩ := b
      exact .cons (.int _ _) (.cons (.int _ _) .nil)
abbrev NkAt (H : Hp) (x y r s : Int) (b : Addr) : Prop := ∃ p q, H b = some (.tup [.ref p, .ref q]) ∧ H p = some (.tup [.int x, .int y]) ∧ H q = some (.tup [.int r, .int s])
def kdN (P : Program) (w : World) : Kd P w NestedKey where
  knd := nestedKind P w
  kin := fun H k b => ∃ x y r s, k = nk x y r s ∧ NkAt H x y r s b
  sound := fun {H h k b} ok ⟨x, y, r, s, e, p, q, hb, hp, hq⟩ => by
    subst e
    obtain ⟨o, its, n, h1, h2, h3, h4⟩ := any_obj ok hb
    refine ⟨.tup h1 h2 h3 ?_, Nat.le_of_ble_eq_true rfl⟩
    generalize its.toList = us at h4
    cases h4 with
    | cons a h4 =>
      cases h4 with
      | cons b h4 =>
        cases h4
        cases a
        cases b
        exact .cons (pair_is ok hp) (.cons (pair_is ok hq) .nil)
  mono := fun ⟨x, y, r, s, e, p, q, hb, hp, hq⟩ m => ⟨x, y, r, s, e, p, q, m _ _ hb, m _ _ hp, m _ _ hq⟩
  room := fun {A} h => show A.units + 1 + 8 < cLine by omega
  stays := nestedKind_stays
theorem ndVal_put {KT : Type} [DecidableEq KT] (xs : NX KT) (k j : KT) (b : Addr) (v : V) : ndVal (ndPut xs k b v) j = if j = k then some v else ndVal xs j := by
  have fnd : ∀ (xs : NX KT), (∀ x ∈ xs, x.1 ≠ k) → ndVal (xs ++ [(k, b, v)]) j = if j = k then some v else ndVal xs j := by
    intro xs hx
    induction xs with
    | nil =>
      by_cases e : j = k
      · simp [ndVal, e]
      · rw [if_neg e]
        have e' : ¬ k = j := fun z => e z.symm
        simp [ndVal, e']
    | cons y r ih =>
      have h1 := hx y List.mem_cons_self
      by_cases e2 : y.1 = j
      · have e3 : ¬ j = k := fun z => h1 (e2.trans z)
        rw [if_neg e3]
        simp [ndVal, e2]
      · have f1 : ndVal ((y :: r) ++ [(k, b, v)]) j = ndVal (r ++ [(k, b, v)]) j := by simp [ndVal, e2]
        have f2 : ndVal (y :: r) j = ndVal r j := by simp [ndVal, e2]
        rw [f1, f2]
        exact ih fun x hm => hx x (List.mem_cons_of_mem _ hm)
  have rep : ∀ (xs : NX KT), ndVal (xs.map fun x => if x.1 = k then (x.1, x.2.1, v) else x) j = (ndVal xs j).map fun u => if j = k then v else u := by
    intro xs
    induction xs with
    | nil => rfl
    | cons y r ih =>
      rw [List.map_cons]
      by_cases e2 : y.1 = j
      · have f2 : ndVal (y :: r) j = some y.2.2 := by simp [ndVal, e2]
        rw [f2]
        by_cases e : y.1 = k
        · rw [if_pos e]
          have : j = k := e2 ▸ e
          simp [ndVal, e2, this]
        · rw [if_neg e]
          have : ¬ j = k := fun z => e (e2.trans z)
          simp [ndVal, e2, this]
      · have f2 : ndVal (y :: r) j = ndVal r j := by simp [ndVal, e2]
        rw [f2, ← ih]
        by_cases e : y.1 = k
        · rw [if_pos e]; simp [ndVal, e2]
        · rw [if_neg e]; simp [ndVal, e2]
  unfold ndPut
  split
  · rename_i h
    rw [rep]
    by_cases e : j = k
    · subst e
      rw [if_pos rfl]
      obtain ⟨x, hx, e⟩ := List.any_eq_true.mp h
      cases q : ndVal xs j with
      | none =>
        unfold ndVal at q
        rw [Option.map_eq_none_iff, List.find?_eq_none] at q
        exact absurd e (q x hx)
      | some u => simp
    · rw [if_neg e]
      cases ndVal xs j <;> simp [e]
  · rename_i h
    exact fnd xs fun x hx e => h (List.any_eq_true.mpr ⟨x, hx, decide_eq_true e⟩)
/-- the entries xs tell what is sent, at least where done -/
structure BX (F : Hp) (xs : NX NestedKey) (t : Tr) (done : Int → Int → Int → Int → Prop) (n : Nat) : Prop where
  kin : ∀ x ∈ xs, ∃ a b c d, x.1 = nk a b c d ∧ NkAt F a b c d x.2.1
  len : xs.length ≤ n
  at' : ∀ x y r s, done x y r s → ∃ v, ndVal xs (nk x y r s) = some (.ref v) ∧ F v = some (.tup ((heldS x y r s t).1.map V.int))
theorem BX.ex {F F' : Hp} {xs : NX NestedKey} {t : Tr} {done : Int → Int → Int → Int → Prop} {n : Nat} (h : BX F xs t done n) (e : ∀ b o, F b = some o → F' b = some o) : BX F' xs t done n where
  kin := fun x hx => let ⟨a, b, c, d, e1, p, q, h1, h2, h3⟩ := h.kin x hx; ⟨a, b, c, d, e1, p, q, e _ _ h1, e _ _ h2, e _ _ h3⟩
  len := h.len
  at' := fun x y r s hd => let ⟨v, h1, h2⟩ := h.at' x y r s hd; ⟨v, h1, e _ _ h2⟩
def bitsO (P : Program) (w : World) (b : Addr) (t : Tr) (done : Int → Int → Int → Int → Prop) (n : Nat) : OP := ⟨fun F ob => ∃ xs, ob = nd (kdN P w) b xs ∧ BX F xs t done n, fun e ⟨xs, a, b⟩ => ⟨xs, a, b.ex e⟩⟩
def bitsM (P : Program) (w : World) (t : Tr) (done : Int → Int → Int → Int → Prop) : MP := ⟨fun F v => ∃ b xs n, v = .ref b ∧ F b = some (nd (kdN P w) b xs) ∧ BX F xs t done n, fun e ⟨b, xs, n, a, h, k⟩ => ⟨b, xs, n, a, e b _ h, k.ex e⟩⟩
def key4M (x y r s : Int) : MP := ⟨fun F v => ∃ b, v = .ref b ∧ NkAt F x y r s b, fun e ⟨b, a, p, q, h1, h2, h3⟩ => ⟨b, a, p, q, e _ _ h1, e _ _ h2, e _ _ h3⟩⟩
section
variable {P : Program} {w : World} {K : PySem.W.Frag} {Z : Zr} {M : Mode} {Γ Δ : Gm} {ta tb te td ty tx tv : TE} {m : MP} {D : Ends} {p : Addr} {t : Tr} {x y r s : Int} {done done' : Int → Int → Int → Int → Prop} {n : Nat} {N : St → Hp → Prop}
theorem ee_key4 {tr : TA} (h : EA M Γ tr [tkM [x, y], tkM [r, s]]) : EE M Γ (tTup tr) (key4M x y r s) := fun F H σ en ok Q q =>
  h F H σ en ok _ fun vs F1 H1 p1 o1 r1 => by
    have hl := r1.length
    cases r1 with
    | cons r1 r2 =>
      cases r2 with
      | cons r2 r3 =>
        cases r3
        obtain ⟨a, rfl, ha⟩ := r1
        obtain ⟨b, rfl, hb⟩ := r2
        refine ⟨Evl.sz_of (by show 2 ≤ 100000; decide), fun p hp => ?_⟩
        have pn : Pu0 F1 H1 (upd F1 p (.tup [.ref a, .ref b])) (upd H1 p (.tup [.ref a, .ref b])) := .new hp o1.ex
        exact q (.ref p) _ _ (p1.trans (pn.any M)) (o1.step pn (ex_upd o1.ex)) ⟨p, rfl, a, b, upd_same, pn.fx _ _ ha, pn.fx _ _ hb⟩
theorem ee_nget (h1 : EE M Γ td (bitsM P w t done)) (h2 : EE M Γ ty (key4M x y r s)) (hd : done x y r s) : EE M Γ (tNdGet (kdN P w) td ty) (tkM (heldS x y r s t).1) := fun F H σ en ok Q q =>
  h1 F H σ en ok _ fun v F1 H1 p1 o1 r1 => h2 F1 H1 σ (en.mono p1.fx) o1 _ fun u F2 H2 p2 o2 r2 => by
    obtain ⟨b, xs, n, rfl, hb, bx⟩ := r1
    obtain ⟨c, rfl, hc⟩ := r2
    obtain ⟨v, e1, e2⟩ := bx.at' x y r s hd
    have bx2 := (bx.ex p2.fx).ex o2.ex
    obtain ⟨c1, c2, k1, k2, k3⟩ := hc
    exact ⟨b, xs, nk x y r s, c, .ref v, rfl, o2.ex b _ (p2.fx b _ hb), bx2.kin, rfl, ⟨x, y, r, s, rfl, c1, c2, o2.ex _ _ k1, o2.ex _ _ k2, o2.ex _ _ k3⟩, e1, q _ F2 H2 (p1.trans p2) o2 ⟨v, rfl, p2.fx _ _ e2⟩⟩
theorem ss_nput (hv : EE (ownO p (bitsO P w p t done n) M) Γ tv (tkM (heldS x y r s t).1)) (hd : EE (ownO p (bitsO P w p t done n) M) Γ td (rawv (.ref p))) (hk : EE (ownO p (bitsO P w p t done n) M) Γ ty (key4M x y r s)) (hl : n < 100000)
    (hdone : ∀ a b c d, done' a b c d → done a b c d ∨ (a = x ∧ b = y ∧ c = r ∧ d = s)) (hz : ∀ F H, M.I F H → Z.M.I F H) (h : SS Z (ownO p (bitsO P w p t done' (n + 1)) M) Γ D.nx) : SS Z (ownO p (bitsO P w p t done n) M) Γ (sNdPut (kdN P w) td ty tv D) := fun σ H a => by
  obtain ⟨F, p0, o, e⟩ := a.ex
  refine hv F H σ e o _ fun v F1 H1 p1 o1 r1 => hd F1 H1 σ (e.mono p1.fx) o1 _ fun u F2 H2 p2 o2 r2 => hk F2 H2 σ ((e.mono p1.fx).mono p2.fx) o2 _ fun z F3 H3 p3 o3 r3 => ?_
  cases r2
  obtain ⟨c, rfl, hc⟩ := r3
  obtain ⟨vb, rfl, hvb⟩ := r1
  obtain ⟨⟨_, _, hp3, xs3, rfl, bx⟩, _⟩ := id o3.iv
  have bx2 := bx.ex o3.ex
  obtain ⟨c1, c2, k1, k2, k3⟩ := id hc
  refine ⟨p, xs3, nk x y r s, c, rfl, hp3, bx2.kin, rfl, ⟨x, y, r, s, rfl, c1, c2, o3.ex _ _ k1, o3.ex _ _ k2, o3.ex _ _ k3⟩, by rw [sizeLine_eq]; have := bx.len; omega, ?_⟩
  refine h _ _ ⟨⟨F3, Pu.wr a.own (.inl rfl) (Pu.out a.own p0 ((p1.trans p2).trans p3)), ownO_wr o3 ⟨_, rfl, ⟨fun e he => ?_, ?_, fun x' y' r' s' hd' => ?_⟩⟩, ((e.mono p1.fx).mono p2.fx).mono p3.fx⟩, a.sub, a.own, fun F' H' w => hz F' H' w.2⟩
  · have kn : ∀ e ∈ xs3, (kdN P w).kin F3 e.1 e.2.1 := bx.kin
    exact KIn.put (D := kdN P w) kn ⟨x, y, r, s, rfl, hc⟩ e he
  · have h1 := ndPut_len xs3 (nk x y r s) c (.ref vb)
    have h2 := bx.len
    omega
  · rw [ndVal_put]
    by_cases e : nk x' y' r' s' = nk x y r s
    · rw [if_pos e]
      obtain ⟨rfl, rfl, rfl, rfl⟩ := nk_inj e
      exact ⟨vb, rfl, p3.fx _ _ (p2.fx _ _ hvb)⟩
    · rw [if_neg e]
      rcases hdone _ _ _ _ hd' with z | ⟨rfl, rfl, rfl, rfl⟩
      · exact bx.at' _ _ _ _ z
      · exact absurd rfl e
/-- what is owned is frozen -/
theorem ss_freeze {M' : Mode} {o : OP} (hS : ∀ a, M'.S a ↔ M.S a) (hsub : ∀ a, Z.M.S a → M.S a) (hI : ∀ F H ob, o.R F ob → F p = some ob → M.I F H → M'.I F H) (hz : ∀ F H, M'.I F H → Z.M.I F H) (k : SS Z M' Γ N) : SS Z (ownO p o M) Γ N := fun σ H a => by
  obtain ⟨F, p0, ok, e⟩ := a.ex
  obtain ⟨⟨nS, ob, hob, hR⟩, hM⟩ := id ok.iv
  have hp : Z.H p = none := by
    rcases a.own p (.inl rfl) with w | w
    · exact absurd (hsub _ w) nS
    · exact w
  obtain ⟨p2, o2, x⟩ := freeze p0 (ok.up (fun b s => a.sub b s) a.iv) hp (ok.ds p (.inl rfl)) (fun z => nS (hsub _ z)) hob
  refine k σ H ⟨⟨_, p2, ⟨o2.ex, fun b sb => ?_, fun b sb => ok.al b (.inr ((hS b).mp sb)), hI _ H ob (o.mono x hR) upd_same (M.st x (fun _ _ _ q => q) hM)⟩, e.mono x⟩, fun b sb => (hS b).mpr (hsub b sb), fun b sb => a.own b (.inr ((hS b).mp sb)), hz⟩
  have hb : b ≠ p := fun z => nS (by rw [← z]; exact (hS b).mp sb)
  rw [upd_ne hb]
  exact ok.ds b (.inr ((hS b).mp sb))
/-- less is known of what is owned -/
theorem ss_mode {M' : Mode} (hS : ∀ a, M'.S a ↔ M.S a) (hI : ∀ F H, M.I F H → M'.I F H) (hz : ∀ F H, M'.I F H → Z.M.I F H) (k : SS Z M' Γ N) : SS Z M Γ N := fun σ H a => by
  obtain ⟨F, p0, ok, e⟩ := a.ex
  exact k σ H ⟨⟨F, p0, ⟨ok.ex, fun b s => ok.ds b ((hS b).mp s), fun b s => ok.al b ((hS b).mp s), hI F H ok.iv⟩, e⟩, fun b s => (hS b).mpr (a.sub b s), fun b s => a.own b ((hS b).mp s), hz⟩
end
/-! ### an instance that is one's own, beside more -/
section
variable {P : Program} {w : World} {K : PySem.W.Frag} {Z : Zr} {M : Mode} {Γ Δ : Gm} {ta tb te td ty tx tv : TE} {m : MP} {D : Ends} {b x C : Addr} {f : Str} {fs : Fs} {o : OP} {N : St → Hp → Prop}
abbrev insB (b : Addr) (o : OP) (C x : Addr) (fs : Fs) : Mode := ownO b o (insO C x fs)
theorem ee_fldO (hs : EE (insB b o C x fs) Γ ta (rawv (.ref x))) (hc : Cls K C) (hn : NoAttr K C f) (hf : fs.lookup f = some m) : EE (insB b o C x fs) Γ (tFld K ta f) m := fun F H σ en ok Q q =>
  hs F H σ en ok _ fun u F1 H1 p1 o1 r1 => by
    cases r1
    obtain ⟨_, dx, vf, hx, hp⟩ := id o1.iv
    obtain ⟨v, e1, e2⟩ := hp.look hf
    exact ⟨x, C, dx, vf, v, rfl, hx, hc, hn, e1, q v F1 H1 p1 o1 e2⟩
theorem ee_fldI (hs : EE (insO C x fs) Γ ta (rawv (.ref x))) (hc : Cls K C) (hn : NoAttr K C f) (hf : fs.lookup f = some m) : EE (insO C x fs) Γ (tFld K ta f) m := fun F H σ en ok Q q =>
  hs F H σ en ok _ fun u F1 H1 p1 o1 r1 => by
    cases r1
    obtain ⟨dx, vf, hx, hp⟩ := id o1.iv
    obtain ⟨v, e1, e2⟩ := hp.look hf
    exact ⟨x, C, dx, vf, v, rfl, hx, hc, hn, e1, q v F1 H1 p1 o1 e2⟩
theorem ss_fldO (hv : EE (insB b o C x fs) Γ te m) (hs : EE (insB b o C x fs) Γ ta (rawv (.ref x))) (hc : Cls K C) (hn : NoAttr K C f) (hl : fs.length < 900) (hz : ∀ F H, (insB b o C x (putM f m fs)).I F H → Z.M.I F H) (k : SS Z (insB b o C x (putM f m fs)) Γ D.nx) :
    SS Z (insB b o C x fs) Γ (sFld K ta te f D) := fun σ H a => by
  obtain ⟨F, p, ok, e⟩ := a.ex
  refine hv F H σ e ok _ fun y F1 H1 p1 o1 r1 => hs F1 H1 σ (e.mono p1.fx) o1 _ fun w F2 H2 p2 o2 r2 => ?_
  cases r2
  obtain ⟨⟨nS, ob, hb, hR⟩, dx, vf, hx, pf⟩ := id o2.iv
  have hbx : b ≠ x := fun z => nS z
  refine ⟨x, C, dx, vf, rfl, hx, hc, hn, by rw [pf.length]; omega, k _ _ ⟨⟨F2, Pu.wr a.own (.inr rfl) (Pu.out a.own p (p1.trans p2)), ⟨ex_updH o2.ex (o2.ds x (.inr rfl)), o2.ds, fun c s => ?_, ⟨nS, ob, by rw [upd_ne hbx]; exact hb, hR⟩, dx, _, upd_same, PF.put (m.mono p2.fx r1) pf⟩, (e.mono p1.fx).mono p2.fx⟩, a.sub, a.own, hz⟩⟩
  by_cases hc' : c = x
  · subst hc'; exact ⟨_, upd_same⟩
  · rw [upd_ne hc']; exact o2.al c s
/-- self.f = {}, the dict one's own -/
theorem ss_fldN {t : Tr} (hs : ∀ b, EE (insB b (bitsO P w b t (fun _ _ _ _ => False) 0) C x fs) Γ ta (rawv (.ref x))) (hc : Cls K C) (hn : NoAttr K C f) (hl : fs.length < 900) (hz : ∀ F H, (insA C x).I F H → Z.M.I F H)
    (k : ∀ b, SS Z (insB b (bitsO P w b t (fun _ _ _ _ => False) 0) C x (putM f (rawv (.ref b)) fs)) Γ D.nx) : SS Z (insO C x fs) Γ (sFld K ta (tNdNew (kdN P w)) f D) := fun σ H a => by
  obtain ⟨F, p, ok, e⟩ := a.ex
  intro b hb
  have a2 : At Z (insB b (bitsO P w b t (fun _ _ _ _ => False) 0) C x fs) Γ σ (upd H b (nd (kdN P w) b [])) := own_new a p .refl ok hb _ (fun _ => .rfl) (fun nS iv => ⟨⟨nS, _, upd_same, [], rfl, ⟨(fun _ h => nomatch h), Nat.le_refl _, fun _ _ _ _ (h : False) => h.elim⟩⟩, iv⟩) (fun F' H' w => w.2) e
  obtain ⟨F2, p2, o2, e2⟩ := a2.ex
  refine hs b F2 _ σ e2 o2 _ fun w F3 H3 p3 o3 r3 => ?_
  cases r3
  obtain ⟨⟨nS, ob, hb2, hR⟩, dx, vf, hx, pf⟩ := id o3.iv
  have hbx : b ≠ x := fun z => nS z
  refine ⟨x, C, dx, vf, rfl, hx, hc, hn, by rw [pf.length]; omega, k b _ _ ⟨⟨F3, Pu.wr a2.own (.inr rfl) (Pu.out a2.own p2 p3), ⟨ex_updH o3.ex (o3.ds x (.inr rfl)), o3.ds, fun c s => ?_, ⟨nS, ob, by rw [upd_ne hbx]; exact hb2, hR⟩, dx, _, upd_same, PF.put (m := rawv (.ref b)) rfl pf⟩, e2.mono p3.fx⟩, a2.sub, a2.own, fun F' H' ⟨_, dx', vf', h', _⟩ => hz F' H' ⟨dx', vf', h'⟩⟩⟩
  by_cases hc' : c = x
  · subst hc'; exact ⟨_, upd_same⟩
  · rw [upd_ne hc']; exact o3.al c s
end
/-! ### methods that change their instance -/
/-- called in the mode M: then N holds -/
def spT (Rel : Mode → Mode → List MP → Prop) : Sp := fun vs H Q _ => ∃ M N F Rs, Mode.Ok M F H ∧ PM F vs Rs ∧ Rel M N Rs ∧ ∀ F' H', Pu M.S F H F' H' → N.Ok F' H' → Q .non H'
section
variable {P : Program} {w : World} {K : PySem.W.Frag} {mg : Str → Option Value} {base : Heap} {k : Nat} {x qual : Str} {ps N : List Str} {st : Stmt} {C : Addr}
def RdT (N : List Str) (Rel : Mode → Mode → List MP → Prop) (t : TS) (H : Hp) : Prop := ∀ M M' Rs, Rel M M' Rs → (∀ a, M.S a ↔ M'.S a) ∧ ∀ (F : Hp) (Q : VK), SS ⟨topM M, F, H⟩ M' [] (fun _ H' => Q .non H') → SS ⟨topM M, F, H⟩ M (ini N Rs) (t { nx := fun _ H' => Q .non H', rt := Q })
theorem calM_T {Rel : Mode → Mode → List MP → Prop} (D : MetAt K C x qual st ps) (S : FnScope N ps (defScope st)) (hl : ∀ M M' Rs, Rel M M' Rs → Rs.length = ps.length) (hb : Body P w K mg base k N qual st (RdT N Rel)) : CalM P w K mg base (k + 1) C x ps (spT Rel) := by
  obtain ⟨f, fd, a, b, c⟩ := D.ex
  refine ⟨D.cl, f, fd, a, c, b.ok S (fun vs H Q E h => ?_) (fun cdv A outer s H vs Q E hr h => ?_)⟩
  · obtain ⟨M, M', F, Rs, _, pm, rel, _⟩ := h
    rw [pm.length, hl M M' Rs rel]
  · obtain ⟨M, M', F, Rs, ok, pm, rel, q⟩ := h
    obtain ⟨t, ht, rd⟩ := hb f cdv A outer s H E hr
    obtain ⟨hS, rd⟩ := rd M M' Rs rel
    refine ⟨t, ht, rd F Q (fun σ H' a => ?_) _ _ ⟨⟨F, .refl, ok, en_ini pm⟩, fun _ z => z, fun _ z => .inl z, fun _ _ _ => trivial⟩⟩
    obtain ⟨F', p, o, _⟩ := a.ex
    exact q F' H' p o
theorem ss_end {Z : Zr} {M : Mode} {Γ : Gm} {Q : Hp → Prop} (h : SS Z M [] (fun _ H' => Q H')) : SS Z M Γ (fun _ H' => Q H') := fun σ H a => h [] H ⟨let ⟨F, p, o, e⟩ := a.ex; ⟨F, p, o, rfl, fun i m q => by simp at q⟩, a.sub, a.own, a.iv⟩
/-- self.m(..) in an instance of one's own -/
theorem ss_callT {Rel : Mode → Mode → List MP → Prop} {Z : Zr} {M M' : Mode} {Γ : Gm} {D : Ends} {ta : TE} {t : TA} {Rs : List MP} {m : Str} {y : Addr} (hs : EE M Γ ta (rawv (.ref y))) (hi : ∀ F H, M.I F H → ∃ dx vf, H y = some (.ins C dx vf) ∧ vf.lookup m = none)
    (ha : EA M Γ t Rs) (h : Rel M M' (rawv (.ref y) :: Rs)) (hS : ∀ a, M.S a ↔ M'.S a) (hz : ∀ F H, M'.I F H → Z.M.I F H) (k : SS Z M' Γ D.nx) : SS Z M Γ (tDrop (tMeth C m (spT Rel) [] E0 ta t) D) := fun σ H a => by
  obtain ⟨F, p, o, e⟩ := a.ex
  refine hs F H σ e o _ fun u F1 H1 p1 o1 r1 => ?_
  cases r1
  obtain ⟨dx, vf, h1, h2⟩ := hi F1 H1 o1.iv
  refine ⟨y, dx, vf, rfl, h1, h2, ha F1 H1 σ (e.mono p1.fx) o1 _ fun vs F2 H2 p2 o2 pm => ⟨M, M', F2, _, o2, by rw [List.append_nil]; exact .cons (m := rawv (.ref y)) rfl pm, h, fun F3 H3 p3 o3 => ?_⟩⟩
  exact k σ H3 ⟨⟨F3, Pu.out a.own p ((p1.trans p2).trans p3), o3, ((e.mono p1.fx).mono p2.fx).mono p3.fx⟩, fun b s => (hS b).mp (a.sub b s), fun b s => a.own b ((hS b).mpr s), hz⟩
end
end K46
/-! K46, part w: Held: its making. -/
namespace K46
open PySem L2
open Evl (Ex ex_l ex_t)
def ansS (t : Tr) (x y r s : Int) (side : Nat) : Int := if side = 0 then (heldS x y r s t).2.1 else (heldS x y r s t).2.2
abbrev wrongD (x y r s : Int) (side : Nat) : PyData := .tuple [.str "wrong", pairD x y, pairD r s, .int (side : Int)]
/-- what stands in wrong, ag: none is wrong so far -/
def wrE (K : PySem.W.Frag) (X Y c0 c1 : Nat) (t : Tr) (tab : Tab) (ag : Prop) : MP → Prop := fun m => (m = dt K .none ∧ ag) ∨ ∃ x y r s side, InOk X Y c0 c1 x y r s ∧ side ∈ [0, 1] ∧ ansS t x y r s side ≠ cell tab x y ∧ m = dt K (wrongD x y r s side)
theorem wrE_imp {K : PySem.W.Frag} {X Y c0 c1 : Nat} {t : Tr} {tab : Tab} {a b : Prop} (h : a → b) {F : Hp} {v : V} (r : (anyM (wrE K X Y c0 c1 t tab a)).R F v) : (anyM (wrE K X Y c0 c1 t tab b)).R F v := by
  obtain ⟨m, e, r⟩ := r
  refine ⟨m, ?_, r⟩
  rcases e with ⟨e, ha⟩ | e
  · exact .inl ⟨e, h ha⟩
  · exact .inr e
abbrev heldF (K : PySem.W.Frag) (X Y c0 c1 : Nat) (tab : Tab) (bm wm : MP) : Fs := [("table", dt K (tabD tab)), ("inputs", dt K (pairD (X : Int) (Y : Int))), ("coins", dt K (pairD (c0 : Int) (c1 : Int))), ("bits", bm), ("wrong", wm)]
structure HeldC (K : PySem.W.Frag) (C : Addr) : Prop where
  cl : Cls K C
  nT : NoAttr K C "table"
  nI : NoAttr K C "inputs"
  nC : NoAttr K C "coins"
  nB : NoAttr K C "bits"
  nW : NoAttr K C "wrong"
structure FlawOk (X Y c0 c1 : Nat) (t : Tr) (tab : Tab) : Prop where
  tk : TalkOk X Y c0 c1 t
  tb : IsTab X Y tab
  h4 : t.ht ≤ 4
  few : X * Y * (c0 * c1) ≤ 90000
section
variable {P : Program} {w : World} {K : PySem.W.Frag} {Z : Zr} {M : Mode} {Γ Δ : Gm} {te : TE} {m m' : MP} {D : Ends} {b x C : Addr} {o o' : OP} {N : St → Hp → Prop} {X Y c0 c1 : Nat} {tab : Tab} {bm : MP} {j : Nat} {tb : TS}
theorem PF.last {F : Hp} {vf : List (Str × V)} (h : PF F vf (heldF K X Y c0 c1 tab bm m)) (k : ∀ v, m.R F v → m'.R F v) : PF F vf (heldF K X Y c0 c1 tab bm m') := by
  cases h with
  | cons a h => cases h with
    | cons b h => cases h with
      | cons c h => cases h with
        | cons d h => cases h with
          | cons e h =>
            cases h
            exact .cons a (.cons b (.cons c (.cons d (.cons (k _ e) .nil))))
theorem PF.lastE {E : MP → Prop} {F : Hp} {vf : List (Str × V)} (h : PF F vf (heldF K X Y c0 c1 tab bm (anyM E))) : ∃ m, E m ∧ PF F vf (heldF K X Y c0 c1 tab bm m) := by
  cases h with
  | cons a h => cases h with
    | cons b h => cases h with
      | cons c h => cases h with
        | cons d h => cases h with
          | cons e h =>
            cases h
            obtain ⟨m, hm, e⟩ := e
            exact ⟨m, hm, .cons a (.cons b (.cons c (.cons d (.cons e .nil))))⟩
/-- one of several things stands in wrong -/
theorem ss_fcase {E : MP → Prop} (hz : ∀ F H, Z.M.I F H) (k : ∀ m, E m → SS Z (insB b o C x (heldF K X Y c0 c1 tab bm m)) Γ N) : SS Z (insB b o C x (heldF K X Y c0 c1 tab bm (anyM E))) Γ N := fun σ H a => by
  obtain ⟨F, p, ok, e⟩ := a.ex
  obtain ⟨⟨nS, ob, hb, hR⟩, dx, vf, hx, pf⟩ := id ok.iv
  obtain ⟨m, hm, pf2⟩ := pf.lastE
  exact k m hm σ H ⟨⟨F, p, ⟨ok.ex, ok.ds, ok.al, ⟨nS, ob, hb, hR⟩, dx, vf, hx, pf2⟩, e⟩, a.sub, a.own, fun F H _ => hz F H⟩
theorem ss_fweak (hz : ∀ F H, Z.M.I F H) (ho : ∀ F ob, o.R F ob → o'.R F ob) (hm : ∀ F v, m.R F v → m'.R F v) (k : SS Z (insB b o' C x (heldF K X Y c0 c1 tab bm m')) Γ N) : SS Z (insB b o C x (heldF K X Y c0 c1 tab bm m)) Γ N :=
  ss_mode (M' := insB b o' C x (heldF K X Y c0 c1 tab bm m')) (fun _ => .rfl) (fun F H ⟨⟨nS, ob, hb, hR⟩, dx, vf, hx, pf⟩ => ⟨⟨nS, ob, hb, ho F ob hR⟩, dx, vf, hx, pf.last (hm F)⟩) (fun F H _ => hz F H) k
/-- for j in (0, 1), whatever changes -/
theorem ss_for01 (h : EE M Γ te (tpM K [dt K (.int 0), dt K (.int 1)])) (hz : ∀ F H, Z.M.I F H) (Pv : Zr → Nat → St → Hp → Prop) (hp : ∀ Z' i σ H, Pv Z' i σ H → ∃ M' Δ, At Z' M' Δ σ H) (h0 : ∀ Z', (∀ F H, Z'.M.I F H) → Z.Le Z' → SS Z' M Γ (Pv Z' 0))
    (hs : ∀ Z', (∀ F H, Z'.M.I F H) → Z.Le Z' → ∀ (i : Nat) σ H, i ∈ [0, 1] → Pv Z' i σ H → tb { D with nx := Pv Z' (i + 1), ct := Pv Z' (i + 1), bk := D.nx } (σ.set j (some (.int (i : Int)))) H) (hd : ∀ Z', Z.Le Z' → ∀ σ H, Pv Z' 2 σ H → D.nx σ H) : SS Z M Γ (tFor (iTup K te) (gName j) tb D) := fun σ H a => by
  obtain ⟨F, p, ok, e⟩ := a.ex
  refine h F H σ e ok _ fun v F' H' q o' r => ?_
  obtain ⟨ad, xs, rfl, hx, hall⟩ := r
  have le : Z.Le ⟨topM M, F', H'⟩ := ⟨p.out a.own q, a.sub, a.own, fun F H _ => hz F H⟩
  have ah : At ⟨topM M, F', H'⟩ M Γ σ H' := ⟨⟨F', .refl, o', e.mono q.fx⟩, fun _ s => s, fun _ s => .inl s, fun _ _ _ => trivial⟩
  cases hall with
  | cons h1 hall => cases hall with
    | cons h2 hall =>
      cases hall
      cases dp_int h1
      cases dp_int h2
      refine ⟨ad, rfl, ⟨_, ex_t o'.ex hx⟩, for_tup (K := K) (a := ad) (xs := [.int 0, .int 1]) (Pv ⟨topM M, F', H'⟩) (h0 _ (fun _ _ => trivial) le σ H' ah) (fun i σ2 H2 _ p2 => ?_) (fun i x σ2 H2 hi p2 => ?_) (fun σ2 H2 p2 => hd _ le σ2 H2 p2)⟩
      · obtain ⟨M', Δ, b⟩ := hp _ _ _ _ p2
        obtain ⟨F2, q2, o2, _⟩ := b.ex
        exact ex_t (q2.fx.trans o2.ex) hx
      · match i, hi with
        | 0, hi => cases hi; exact hs _ (fun _ _ => trivial) le 0 σ2 H2 (by decide) p2
        | 1, hi => cases hi; exact hs _ (fun _ _ => trivial) le 1 σ2 H2 (by decide) p2
end
section
variable {P : Program} {w : World} {K : PySem.W.Frag} {mg : Str → Option Value} {base : Heap} {C : Addr}
abbrev s_Held_hold_all : Stmt := inClass (top 23) 1
abbrev n_Held_hold_all : List Str := ["self", "talk", "inputs", "answer", "one", "other", "bits", "answers", "side"]
abbrev p_Held_hold_all : List Str := ["self", "talk", "inputs"]
theorem sc_Held_hold_all : FnScope n_Held_hold_all p_Held_hold_all (defScope s_Held_hold_all) := ⟨rfl, rfl, rfl, by decide +kernel, rfl, by decide +kernel, by decide +kernel⟩
abbrev s_Held___init__ : Stmt := inClass (top 23) 0
abbrev n_Held___init__ : List Str := ["self", "talk", "table", "x", "y"]
abbrev p_Held___init__ : List Str := ["self", "talk", "table"]
theorem sc_Held___init__ : FnScope n_Held___init__ p_Held___init__ (defScope s_Held___init__) := ⟨rfl, rfl, rfl, by decide +kernel, rfl, by decide +kernel, by decide +kernel⟩
abbrev agOn (t : Tr) (tab : Tab) (done : Int → Int → Int → Int → Prop) : Prop := ∀ x y r s, done x y r s → ∀ side ∈ [0, 1], ansS t x y r s side = cell tab x y
/-- a Held that is being made -/
abbrev hM (P : Program) (w : World) (K : PySem.W.Frag) (C : Addr) (X Y c0 c1 : Nat) (t : Tr) (tab : Tab) (b x : Addr) (done : Int → Int → Int → Int → Prop) (n : Nat) (ag : Prop) : Mode :=
  insB b (bitsO P w b t done n) C x (heldF K X Y c0 c1 tab (rawv (.ref b)) (anyM (wrE K X Y c0 c1 t tab ag)))
def rowDone (done : Int → Int → Int → Int → Prop) (x y : Int) (c1 : Nat) (k j : Int) : Int → Int → Int → Int → Prop := fun a b c d => done a b c d ∨ (a = x ∧ b = y ∧ ((0 ≤ c ∧ c < k ∧ 0 ≤ d ∧ d < (c1 : Int)) ∨ (c = k ∧ 0 ≤ d ∧ d < j)))
def r_hall (P : Program) (w : World) (K : PySem.W.Frag) (C : Addr) : Mode → Mode → List MP → Prop := fun M M' Rs => ∃ X Y c0 c1 t tab b x' x y done n, FlawOk X Y c0 c1 t tab ∧ (0 ≤ x ∧ x < (X : Int)) ∧ (0 ≤ y ∧ y < (Y : Int)) ∧ n + c0 * c1 ≤ 90000 ∧
  M = hM P w K C X Y c0 c1 t tab b x' done n (agOn t tab done) ∧ M' = hM P w K C X Y c0 c1 t tab b x' (rowDone done x y c1 c0 0) (n + c0 * c1) (agOn t tab (rowDone done x y c1 c0 0)) ∧ Rs = [rawv (.ref x'), dt K (talkD c0 c1 t), tkM [x, y]]
abbrev C_hall (P : Program) (w : World) (K : PySem.W.Frag) (mg : Str → Option Value) (base : Heap) (C : Addr) : Prop := CalM P w K mg base 2 C "hold_all" p_Held_hold_all (spT (r_hall P w K C))
theorem cal_hall (D : MetAt K C "hold_all" "Held.hold_all" s_Held_hold_all p_Held_hold_all) (T : Nm mg) (S : HeldC K C) (G_hold_talk : C_hold P w K mg base) : C_hall P w K mg base C := by
  refine calM_T D sc_Held_hold_all (fun M M' Rs h => by obtain ⟨_, _, _, _, _, _, _, _, _, _, _, _, _, _, _, _, _, _, rfl⟩ := h; rfl) fun f cdv A outer s H E hr => ⟨_, (pss_cons (ps_set (i := 3) sc_Held_hold_all.nd rfl (Or.inl rfl) (pe_ix (k_ix K) (pe_ix (k_ix K) (k_fld K (pv 0) rfl) (pe_ix (k_ix K) (pv 2) pe_int (fun _ _ => rfl)) (fun _ _ => rfl)) (pe_ix (k_ix K) (pv 2) pe_int (fun _ _ => rfl)) (fun _ _ => rfl)))
  (pss_one (ps_for PassesOwn.never rfl (pi_range1 (by rfl) T.range (pa_cons (pe_ix (k_ix K) (k_fld K (pv 0) rfl) pe_int (fun _ _ => rfl)) pa_nil)) (pg_name (i := 4) sc_Held_hold_all.nd rfl (Or.inl rfl)) (pss_one (ps_for PassesOwn.never rfl (pi_range1 (by rfl) T.range (pa_cons (pe_ix (k_ix K) (k_fld K (pv 0) rfl) pe_int (fun _ _ => rfl)) pa_nil)) (pg_name (i := 5) sc_Held_hold_all.nd rfl (Or.inl rfl)) (pss_cons (ps_asg (pe_c (G_hold_talk.up (by decide)) hr (by rfl) (pa_cons (pv 1) (pa_cons (pv 2) (pa_cons (pe_tup (pa_cons (pv 4) (pa_cons (pv 5) pa_nil))) pa_nil)))) (pg_tup rfl (pgs_cons (pg_name (i := 6) sc_Held_hold_all.nd rfl (Or.inl rfl)) (pgs_cons (pg_name (i := 7) sc_Held_hold_all.nd rfl (Or.inl rfl)) pgs_nil))))
  (pss_cons (ps_ndPut (kdN P w) hr.units (k_fld K (pv 0) rfl) (pe_tup (pa_cons (pv 2) (pa_cons (pe_tup (pa_cons (pv 4) (pa_cons (pv 5) pa_nil))) pa_nil))) (pv 6) rfl)
  (pss_one (ps_for PassesOwn.never rfl (k_pt K (pe_tup (pa_cons pe_int (pa_cons pe_int pa_nil)))) (pg_name (i := 8) sc_Held_hold_all.nd rfl (Or.inl rfl)) (pss_one (ps_if (PW.pt (pw_and (pt_cmpR op_isN (k_fld K (pv 0) rfl) pe_non (nomark _)) (pw_and1 (pt_cmpR op_ne (pe_ix (k_ix K) (pv 7) (pv 8) (fun _ _ => rfl)) (pv 3) (nomark _))))) (pss_one (k_sfld K (pv 0) (pe_tup (pa_cons pe_str (pa_cons (pv 2) (pa_cons (pe_tup (pa_cons (pv 4) (pa_cons (pv 5) pa_nil))) (pa_cons (pv 8) pa_nil))))) rfl)) pss_nil))))))))))), ?_⟩
  rintro M M' Rs ⟨X, Y, c0, c1, t, tab, b, x', x, y, done, n, ok, hx, hy, hn, rfl, rfl, rfl⟩
  refine ⟨fun _ => .rfl, fun F Q q => ?_⟩
  obtain ⟨row, e1, e2⟩ := cell_get ok.tb hx hy
  have c0b := ok.tk.b0
  have c1b := ok.tk.b1
  have kk : ∀ k j : Nat, k < c0 → j ≤ c1 → n + (k * c1 + j) ≤ 90000 := fun k j h1 h2 => by
    have h3 : (k + 1) * c1 ≤ c0 * c1 := Nat.mul_le_mul_right c1 h1
    rw [Nat.succ_mul] at h3
    omega
  have hz : ∀ (F' H' : Hp), (⟨topM (hM P w K C X Y c0 c1 t tab b x' done n (agOn t tab done)), F, H⟩ : Zr).M.I F' H' := fun _ _ => trivial
  have coin : ∀ {o : OP} {m : MP} {Γ : Gm} (i : Nat) (z : Nat), Γ[0]? = some (some (rawv (.ref x'))) → [PyData.int (c0 : Int), .int (c1 : Int)][i]? = some (.int (z : Int)) → EA (insB b o C x' (heldF K X Y c0 c1 tab (rawv (.ref b)) m)) Γ (tCons (tOp (rIx K) (tFld K (tVar 0) "coins") (tC (.int (i : Int)))) tNil) [dt K (.int (z : Int))] := fun i z h0 hi =>
    ea_one (ee_ixT (ds := [.int (c0 : Int), .int (c1 : Int)]) (j := i) (ee_fldO (ee_var h0) S.cl S.nC rfl) ee_int rfl hi)
  refine sq_set (m := dt K (.int (cell tab x y))) (ee_cell (v := tab) (row := row) (x := x) (r := y) (ee_fldO (ee_var rfl) S.cl S.nT rfl) (ee_ixT (ds := [.int x, .int y]) (j := 0) (ee_tk (is := [x, y]) (ee_var rfl)) ee_int rfl rfl) (ee_ixT (ds := [.int x, .int y]) (j := 1) (ee_tk (is := [x, y]) (ee_var rfl)) ee_int rfl rfl) hx.1 hy.1 e1 e2) ?_
  refine ss_forR1 (K := K) (n := (c0 : Int)) (coin 0 c0 rfl rfl) (by omega) (fun k σ H' => At ⟨topM (hM P w K C X Y c0 c1 t tab b x' done n (agOn t tab done)), F, H⟩ (hM P w K C X Y c0 c1 t tab b x' (rowDone done x y c1 k 0) (n + k * c1) (agOn t tab (rowDone done x y c1 k 0))) [some (rawv (.ref x')), some (dt K (talkD c0 c1 t)), some (tkM [x, y]), some (dt K (.int (cell tab x y))), none, none, none, none, none] σ H') ?_ ?_ ?_
  · have im : ∀ a b' c d, rowDone done x y c1 (0 : Nat) 0 a b' c d → done a b' c d := fun a b' c d h => by
      rcases h with h | ⟨_, _, h | h⟩
      · exact h
      · omega
      · omega
    refine ss_fweak hz ?_ ?_ ss_at
    · rintro F ob ⟨xs, e, bx⟩
      exact ⟨xs, e, bx.kin, Nat.le_trans bx.len (by omega), fun a b' c d h => bx.at' a b' c d (im _ _ _ _ h)⟩
    · exact fun F v => wrE_imp fun ha a b' c d h => ha a b' c d (im _ _ _ _ h)
  · rintro k σ1 H1 hk a
    have hk' : k < c0 := by omega
    refine ss_go (a.put (m := dt K (.int (k : Int))) (.int _)) ?_
    refine ss_forR1 (K := K) (n := (c1 : Int)) (coin 1 c1 rfl rfl) (by omega) (fun j σ H' => At ⟨topM (hM P w K C X Y c0 c1 t tab b x' done n (agOn t tab done)), F, H⟩ (hM P w K C X Y c0 c1 t tab b x' (rowDone done x y c1 k j) (n + (k * c1 + j)) (agOn t tab (rowDone done x y c1 k j))) [some (rawv (.ref x')), some (dt K (talkD c0 c1 t)), some (tkM [x, y]), some (dt K (.int (cell tab x y))), some (dt K (.int (k : Int))), none, none, none, none] σ H') (fun σ H' a => ?_) ?_ ?_
    · exact a
    · rintro j σ2 H2 hj a2
      have hj' : j < c1 := by omega
      have io : InOk X Y c0 c1 x y (k : Int) (j : Int) := ⟨hx, hy, by omega, by omega⟩
      refine ss_go (a2.put (m := dt K (.int (j : Int))) (.int _)) ?_
      refine ss_seq (ss_set2 (m1 := tkM (heldS x y k j t).1) (m2 := dt K (pairD (heldS x y k j t).2.1 (heldS x y k j t).2.2)) (ee_call (Rel := r_hold K) (ea_cons (ee_var rfl) (ea_cons (ee_tk (is := [x, y]) (ee_var rfl)) (ea_one (ee_tup (ds := [.int (k : Int), .int (j : Int)]) (ea_cons (ee_var rfl) (ea_one (ee_var rfl))) (by show 2 ≤ 100000; decide))))) ⟨X, Y, c0, c1, t, x, y, k, j, ok.tk, io, rfl, rfl⟩) ?_)
      have kj := kk k j hk' (by omega)
      refine ss_seq (ss_nput (x := x) (y := y) (r := k) (s := j) (done' := rowDone done x y c1 k ((j + 1 : Nat) : Int)) (ee_var rfl) (ee_fldO (ee_var rfl) S.cl S.nB rfl) (ee_key4 (ea_cons (ee_var rfl) (ea_one (ee_tupK (K := K) (is := [(k : Int), (j : Int)]) (ea_cons (ee_var rfl) (ea_one (ee_var rfl))) (by show 2 ≤ 100000; decide))))) (by omega) (fun a b' c d h => ?_) (fun _ _ _ => trivial) ?_)
      · rcases h with h | ⟨h1, h2, h | h⟩
        · exact .inl (.inl h)
        · exact .inl (.inr ⟨h1, h2, .inl h⟩)
        · by_cases hd : d < (j : Int)
          · exact .inl (.inr ⟨h1, h2, .inr ⟨h.1, h.2.1, hd⟩⟩)
          · exact .inr ⟨h1, h2, h.1, by omega⟩
      refine ss_for01 (K := K) (ee_tupM (ms := [dt K (.int 0), dt K (.int 1)]) (ea_cons ee_int (ea_one ee_int)) (by show 2 ≤ 100000; decide)) (fun _ _ => trivial)
        (fun Z' i σ H => At Z' (insB b (bitsO P w b t (rowDone done x y c1 k ((j + 1 : Nat) : Int)) (n + (k * c1 + j) + 1)) C x' (heldF K X Y c0 c1 tab (rawv (.ref b)) (anyM (wrE K X Y c0 c1 t tab (agOn t tab (rowDone done x y c1 k j) ∧ ∀ side ∈ [0, 1], side < i → ansS t x y k j side = cell tab x y)))))
          [some (rawv (.ref x')), some (dt K (talkD c0 c1 t)), some (tkM [x, y]), some (dt K (.int (cell tab x y))), some (dt K (.int (k : Int))), some (dt K (.int (j : Int))), some (tkM (heldS x y k j t).1), some (dt K (pairD (heldS x y k j t).2.1 (heldS x y k j t).2.2)), none] σ H) (fun Z' i σ H a => ⟨_, _, a⟩) (fun Z' hz' le => ?_) (fun Z' hz' le i σ3 H3 hi a3 => ?_) fun Z' le σ3 H3 a3 => ?_
      · exact ss_fweak hz' (fun _ _ h => h) (fun F v => wrE_imp fun ha => ⟨ha, fun side _ h => absurd h (Nat.not_lt_zero _)⟩) ss_at
      · refine ss_go (a3.put (m := dt K (.int (i : Int))) (.int _)) ?_
        refine ss_fcase hz' fun m hm => ?_
        have nxt : ∀ {m : MP}, (∀ F v, m.R F v → (anyM (wrE K X Y c0 c1 t tab (agOn t tab (rowDone done x y c1 k j) ∧ ∀ side ∈ [0, 1], side < i + 1 → ansS t x y k j side = cell tab x y))).R F v) →
            SS Z' (insB b (bitsO P w b t (rowDone done x y c1 k ((j + 1 : Nat) : Int)) (n + (k * c1 + j) + 1)) C x' (heldF K X Y c0 c1 tab (rawv (.ref b)) m)) [some (rawv (.ref x')), some (dt K (talkD c0 c1 t)), some (tkM [x, y]), some (dt K (.int (cell tab x y))), some (dt K (.int (k : Int))), some (dt K (.int (j : Int))), some (tkM (heldS x y k j t).1), some (dt K (pairD (heldS x y k j t).2.1 (heldS x y k j t).2.2)), some (dt K (.int (i : Int)))]
            (At Z' (insB b (bitsO P w b t (rowDone done x y c1 k ((j + 1 : Nat) : Int)) (n + (k * c1 + j) + 1)) C x' (heldF K X Y c0 c1 tab (rawv (.ref b)) (anyM (wrE K X Y c0 c1 t tab (agOn t tab (rowDone done x y c1 k j) ∧ ∀ side ∈ [0, 1], side < i + 1 → ansS t x y k j side = cell tab x y)))))
              [some (rawv (.ref x')), some (dt K (talkD c0 c1 t)), some (tkM [x, y]), some (dt K (.int (cell tab x y))), some (dt K (.int (k : Int))), some (dt K (.int (j : Int))), some (tkM (heldS x y k j t).1), some (dt K (pairD (heldS x y k j t).2.1 (heldS x y k j t).2.2)), none]) := fun h => ss_fweak hz' (fun _ _ h => h) h (ss_le ss_at (.cons (.cons (.cons (.cons (.cons (.cons (.cons (.cons (.drop .nil))))))))))
        have eans : ∀ {M : Mode} {Γ : Gm}, Γ[7]? = some (some (dt K (pairD (heldS x y k j t).2.1 (heldS x y k j t).2.2))) → Γ[8]? = some (some (dt K (.int (i : Int)))) → EE M Γ (tOp (rIx K) (tVar 7) (tVar 8)) (dt K (.int (ansS t x y k j i))) := fun h7 h8 => ee_side hi (ee_var h7) (ee_var h8)
        rcases hm with ⟨rfl, ha⟩ | ⟨x2, y2, r2, s2, sd, io2, hsd, hne, rfl⟩
        · refine ss_if (b := true && !decide (ansS t x y k j i = cell tab x y)) (et_and (et_test (ee_isN (d := .none) (ee_fldO (ee_var rfl) S.cl S.nW rfl))) fun _ => et_test (ee_neI (eans rfl rfl) (ee_var rfl))) (fun h => ?_) fun h => ?_
          · have hne : ansS t x y k j i ≠ cell tab x y := by simpa using h
            refine ss_fldO (m := dt K (wrongD x y k j i)) (ee_tup (ds := [.str "wrong", pairD x y, pairD k j, .int (i : Int)]) (ea_cons ee_str (ea_cons (ee_tk (is := [x, y]) (ee_var rfl)) (ea_cons (ee_tup (ds := [.int (k : Int), .int (j : Int)]) (ea_cons (ee_var rfl) (ea_one (ee_var rfl))) (by show 2 ≤ 100000; decide)) (ea_one (ee_var rfl))))) (by show 4 ≤ 100000; decide)) (ee_var rfl) S.cl S.nW (by show 5 < 900; decide) (fun F H _ => hz' F H) ?_
            exact nxt fun F v r => ⟨_, .inr ⟨x, y, k, j, i, io, hi, hne, rfl⟩, r⟩
          · have heq : ansS t x y k j i = cell tab x y := by simpa using h
            refine nxt fun F v r => ⟨_, .inl ⟨rfl, ha.1, fun side hs hlt => ?_⟩, r⟩
            by_cases e : side = i
            · rw [e]; exact heq
            · exact ha.2 side hs (by omega)
        · refine ss_if (b := false) (et_and (a := false) (b := false) (et_test (ee_isN (d := wrongD x2 y2 r2 s2 sd) (ee_fldO (ee_var rfl) S.cl S.nW rfl))) fun h => nomatch h) (fun h => nomatch h) fun _ => ?_
          exact nxt fun F v r => ⟨_, .inr ⟨x2, y2, r2, s2, sd, io2, hsd, hne, rfl⟩, r⟩
      · refine ss_go (a3.base le) (ss_fweak hz ?_ ?_ (ss_le ss_at (.cons (.cons (.cons (.cons (.cons (.drop (.drop (.drop (.drop .nil)))))))))))
        · rintro F ob ⟨xs, e, bx⟩
          exact ⟨xs, e, bx.kin, Nat.le_trans bx.len (by omega), bx.at'⟩
        · refine fun F v => wrE_imp fun ha a b' c d h side hs => ?_
          rcases h with h | ⟨h1, h2, h | h⟩
          · exact ha.1 a b' c d (.inl h) side hs
          · exact ha.1 a b' c d (.inr ⟨h1, h2, .inl h⟩) side hs
          · by_cases hd : d < (j : Int)
            · exact ha.1 a b' c d (.inr ⟨h1, h2, .inr ⟨h.1, h.2.1, hd⟩⟩) side hs
            · have : d = (j : Int) := by omega
              rw [h1, h2, h.1, this]
              refine ha.2 side hs ?_
              rcases mem01 hs with rfl | rfl <;> decide
    · rw [Int.toNat_natCast]
      have im : ∀ a b' c d, rowDone done x y c1 ((k + 1 : Nat) : Int) 0 a b' c d → rowDone done x y c1 k (c1 : Int) a b' c d := fun a b' c d h => by
        rcases h with h | ⟨h1, h2, h | h⟩
        · exact .inl h
        · by_cases hc : c < (k : Int)
          · exact .inr ⟨h1, h2, .inl ⟨h.1, hc, h.2.2⟩⟩
          · exact .inr ⟨h1, h2, .inr ⟨by omega, h.2.2⟩⟩
        · omega
      refine ss_fweak hz ?_ ?_ (ss_le ss_at (.cons (.cons (.cons (.cons (.drop (.cons (.cons (.cons (.cons .nil))))))))))
      · rintro F ob ⟨xs, e, bx⟩
        exact ⟨xs, e, bx.kin, Nat.le_trans bx.len (by rw [Nat.succ_mul]; omega), fun a b' c d h => bx.at' a b' c d (im _ _ _ _ h)⟩
      · exact fun F v => wrE_imp fun ha a b' c d h => ha a b' c d (im _ _ _ _ h)
  · rw [Int.toNat_natCast]
    exact ss_end q
end
end K46
/-! K46, part x: Held: its making, counts, answer. -/
namespace K46
open PySem L2
open Evl (Ex ex_l ex_t)
section
variable {P : Program} {w : World} {K : PySem.W.Frag} {mg : Str → Option Value} {base : Heap} {C : Addr}
theorem ss_fweakA {Z : Zr} {Γ : Gm} {m m' : MP} {b x : Addr} {o o' : OP} {N : St → Hp → Prop} {X Y c0 c1 : Nat} {tab : Tab} {bm : MP} (hz : ∀ F H, (insA C x).I F H → Z.M.I F H) (ho : ∀ F ob, o.R F ob → o'.R F ob) (hm : ∀ F v, m.R F v → m'.R F v) (k : SS Z (insB b o' C x (heldF K X Y c0 c1 tab bm m')) Γ N) : SS Z (insB b o C x (heldF K X Y c0 c1 tab bm m)) Γ N :=
  ss_mode (M' := insB b o' C x (heldF K X Y c0 c1 tab bm m')) (fun _ => .rfl) (fun F H ⟨⟨nS, ob, hb, hR⟩, dx, vf, hx, pf⟩ => ⟨⟨nS, ob, hb, ho F ob hR⟩, dx, vf, hx, pf.last (hm F)⟩) (fun F H ⟨_, dx, vf, hx, _⟩ => hz F H ⟨dx, vf, hx⟩) k
theorem PF.bits {F : Hp} {vf : List (Str × V)} {X Y c0 c1 : Nat} {tab : Tab} {bm bm' wm : MP} (h : PF F vf (heldF K X Y c0 c1 tab bm wm)) (k : ∀ v, bm.R F v → bm'.R F v) : PF F vf (heldF K X Y c0 c1 tab bm' wm) := by
  cases h with
  | cons a h => cases h with
    | cons b h => cases h with
      | cons c h => cases h with
        | cons d h => exact .cons a (.cons b (.cons c (.cons (k _ d) h)))
def colDone (X Y c0 c1 : Nat) (k j : Int) : Int → Int → Int → Int → Prop := fun a b c d => InOk X Y c0 c1 a b c d ∧ (a < k ∨ (a = k ∧ b < j))
abbrev heldM' (P : Program) (w : World) (K : PySem.W.Frag) (C : Addr) (X Y c0 c1 : Nat) (t : Tr) (tab : Tab) : Fs := heldF K X Y c0 c1 tab (bitsM P w t (InOk X Y c0 c1)) (anyM (wrE K X Y c0 c1 t tab (agOn t tab (InOk X Y c0 c1))))
def r_Held (P : Program) (w : World) (K : PySem.W.Frag) (C : Addr) : List MP → Fs → Prop := fun Rs fs => ∃ X Y c0 c1 t tab, FlawOk X Y c0 c1 t tab ∧ Rs = [dt K (talkD c0 c1 t), dt K (tabD tab)] ∧ fs = heldM' P w K C X Y c0 c1 t tab
abbrev C_Held (P : Program) (w : World) (K : PySem.W.Frag) (mg : Str → Option Value) (base : Heap) (C : Addr) : Prop := CalC P w K mg base 3 C "Held" p_Held___init__ (spI C (r_Held P w K C))
theorem tab_len {X Y : Nat} {tab : Tab} (h : IsTab X Y tab) : (tab.map rowD).length = X := by rw [List.length_map, h.rows]
theorem tab_row0 {X Y : Nat} {tab : Tab} (h : IsTab X Y tab) (hX : 1 ≤ X) : ∃ r, (tab.map rowD)[0]? = some (rowD r) ∧ r.length = Y := by
  have hl := h.rows
  match tab, hl with
  | r :: _, _ => exact ⟨r, rfl, h.cols r List.mem_cons_self⟩
  | [], hl => simp at hl; omega
theorem cal_Held (D : IniAt K mg C "Held" "Held.__init__" s_Held___init__ p_Held___init__) (T : Nm mg) (S : HeldC K C) (G_Held_hold_all : C_hall P w K mg base C) : C_Held P w K mg base C := by
  refine calC_I D sc_Held___init__ (fun Rs fs h => by obtain ⟨_, _, _, _, _, _, _, rfl, _⟩ := h; rfl) fun f cdv A outer s H E hr => ⟨_, (pss_cons (k_sfld K (pv 0) (pv 2) rfl)
  (pss_cons (k_sfld K (pv 0) (pe_tup (pa_cons (pe_callB (k_len K) (by rfl) T.len (by decide +kernel) (pa_cons (pv 2) pa_nil)) (pa_cons (pe_callB (k_len K) (by rfl) T.len (by decide +kernel) (pa_cons (pe_ix (k_ix K) (pv 2) pe_int (fun _ _ => rfl)) pa_nil)) pa_nil))) rfl)
  (pss_cons (k_sfld K (pv 0) (pe_tup (pa_cons (pe_ix (k_ix K) (pv 1) pe_int (fun _ _ => rfl)) (pa_cons (pe_ix (k_ix K) (pv 1) pe_int (fun _ _ => rfl)) pa_nil))) rfl)
  (pss_cons (k_sfld K (pv 0) (pe_ndNew (kdN P w)) rfl)
  (pss_cons (k_sfld K (pv 0) pe_non rfl)
  (pss_one (ps_for PassesOwn.never rfl (pi_range1 (by rfl) T.range (pa_cons (pe_ix (k_ix K) (k_fld K (pv 0) rfl) pe_int (fun _ _ => rfl)) pa_nil)) (pg_name (i := 3) sc_Held___init__.nd rfl (Or.inl rfl)) (pss_one (ps_for PassesOwn.never rfl (pi_range1 (by rfl) T.range (pa_cons (pe_ix (k_ix K) (k_fld K (pv 0) rfl) pe_int (fun _ _ => rfl)) pa_nil)) (pg_name (i := 4) sc_Held___init__.nd rfl (Or.inl rfl)) (pss_one (ps_expr (pe_m (G_Held_hold_all.up (by decide)) hr (pv 0) (pa_cons (pv 1) (pa_cons (pe_tup (pa_cons (pv 3) (pa_cons (pv 4) pa_nil))) pa_nil)))))))))))))), ?_⟩
  rintro x Rs fs ⟨X, Y, c0, c1, t, tab, ok, rfl, rfl⟩ F Q k
  have X1 := ok.tk.X1
  have Y1 := ok.tk.Y1
  have hzA : ∀ (F' H' : Hp), (insA C x).I F' H' → (⟨insA C x, F, H⟩ : Zr).M.I F' H' := fun _ _ h => h
  obtain ⟨r0, hr0, hr0l⟩ := tab_row0 ok.tb X1.1
  refine ss_seq (ss_fld (m := dt K (tabD tab)) (ee_var rfl) (ee_var rfl) S.cl S.nT (by decide) hzA ?_)
  refine ss_seq (ss_fld (m := dt K (pairD (X : Int) (Y : Int))) (ee_tup (ds := [.int (X : Int), .int (Y : Int)]) (ea_cons (ee_cast (ee_lenT (ds := tab.map rowD) (ee_var rfl)) (by rw [tab_len ok.tb])) (ea_one (ee_cast (ee_lenT (ds := r0.map .int) (ee_ixT (ds := tab.map rowD) (j := 0) (ee_var rfl) ee_int rfl hr0)) (by rw [List.length_map, hr0l])))) (by show 2 ≤ 100000; decide)) (ee_var rfl) S.cl S.nI (by show 1 < 900; decide) hzA ?_)
  refine ss_seq (ss_fld (m := dt K (pairD (c0 : Int) (c1 : Int))) (ee_tup (ds := [.int (c0 : Int), .int (c1 : Int)]) (ea_cons (ee_ixT (ds := [.str "talk", .int (c0 : Int), .int (c1 : Int), t.D false]) (j := 1) (ee_var rfl) ee_int rfl rfl) (ea_one (ee_ixT (ds := [.str "talk", .int (c0 : Int), .int (c1 : Int), t.D false]) (j := 2) (ee_var rfl) ee_int rfl rfl))) (by show 2 ≤ 100000; decide)) (ee_var rfl) S.cl S.nC (by show 2 < 900; decide) hzA ?_)
  refine ss_seq (ss_fldN (P := P) (w := w) (t := t) (fun b => ee_var rfl) S.cl S.nB ?_ hzA fun b => ?_)
  · show 3 < 900
    decide
  refine ss_seq (ss_fldO (m := dt K .none) ee_non (ee_var rfl) S.cl S.nW (by show 4 < 900; decide) (fun F H ⟨_, dx, vf, hx, _⟩ => ⟨dx, vf, hx⟩) ?_)
  have bd : ∀ k j : Nat, k < X → j < Y → (k * Y + j) * (c0 * c1) + c0 * c1 ≤ 90000 := fun k j h1 h2 => by
    have e1 : (k * Y + j) * (c0 * c1) + c0 * c1 = (k * Y + j + 1) * (c0 * c1) := (Nat.succ_mul _ _).symm
    rw [e1]
    refine Nat.le_trans (Nat.mul_le_mul_right _ ?_) ok.few
    have h3 : (k + 1) * Y ≤ X * Y := Nat.mul_le_mul_right Y h1
    rw [Nat.succ_mul] at h3
    omega
  refine ss_forR1 (K := K) (n := (X : Int)) (ea_one (ee_ixT (ds := [.int (X : Int), .int (Y : Int)]) (j := 0) (ee_fldO (ee_var rfl) S.cl S.nI rfl) ee_int rfl rfl)) (by omega)
    (fun k σ H' => At ⟨insA C x, F, H⟩ (hM P w K C X Y c0 c1 t tab b x (colDone X Y c0 c1 k 0) (k * Y * (c0 * c1)) (agOn t tab (colDone X Y c0 c1 k 0))) [some (rawv (.ref x)), some (dt K (talkD c0 c1 t)), some (dt K (tabD tab)), none, none] σ H') ?_ ?_ ?_
  · refine ss_fweakA (o := bitsO P w b t (fun _ _ _ _ => False) 0) (m := dt K .none) hzA ?_ ?_ ss_at
    · rintro F' ob ⟨xs, e, bx⟩
      exact ⟨xs, e, bx.kin, Nat.le_trans bx.len (Nat.zero_le _), fun a b c d ⟨io, h⟩ => by have := io.x; have := io.y; omega⟩
    · exact fun F' v r => ⟨_, .inl ⟨rfl, fun a b c d ⟨io, h⟩ => by have := io.x; have := io.y; omega⟩, r⟩
  · rintro i σ1 H1 hi a
    refine ss_go (a.put (m := dt K (.int (i : Int))) (.int _)) ?_
    refine ss_forR1 (K := K) (n := (Y : Int)) (ea_one (ee_ixT (ds := [.int (X : Int), .int (Y : Int)]) (j := 1) (ee_fldO (ee_var rfl) S.cl S.nI rfl) ee_int rfl rfl)) (by omega)
      (fun j σ H' => At ⟨insA C x, F, H⟩ (hM P w K C X Y c0 c1 t tab b x (colDone X Y c0 c1 i j) ((i * Y + j) * (c0 * c1)) (agOn t tab (colDone X Y c0 c1 i j))) [some (rawv (.ref x)), some (dt K (talkD c0 c1 t)), some (dt K (tabD tab)), some (dt K (.int (i : Int))), none] σ H') (fun σ H' a => ?_) ?_ ?_
    · exact a
    · rintro j σ2 H2 hj a2
      refine ss_go (a2.put (m := dt K (.int (j : Int))) (.int _)) ?_
      refine ss_callT (Rel := r_hall P w K C) (M' := hM P w K C X Y c0 c1 t tab b x (rowDone (colDone X Y c0 c1 i j) i j c1 c0 0) ((i * Y + j) * (c0 * c1) + c0 * c1) (agOn t tab (rowDone (colDone X Y c0 c1 i j) i j c1 c0 0))) (Rs := [dt K (talkD c0 c1 t), tkM [(i : Int), (j : Int)]]) (ee_var rfl) (fun F H ⟨_, dx, vf, hx, pf⟩ => ⟨dx, vf, hx, pf.none rfl⟩) (ea_cons (ee_var rfl) (ea_one (ee_tupK (K := K) (is := [(i : Int), (j : Int)]) (ea_cons (ee_var rfl) (ea_one (ee_var rfl))) (by show 2 ≤ 100000; decide))))
        ⟨X, Y, c0, c1, t, tab, b, x, (i : Int), (j : Int), _, _, ok, by omega, by omega, bd i j (by omega) (by omega), rfl, rfl, rfl⟩ (fun _ => .rfl) (fun F H ⟨_, dx, vf, hx, _⟩ => ⟨dx, vf, hx⟩) ?_
      have im : ∀ a b c d, colDone X Y c0 c1 i ((j + 1 : Nat) : Int) a b c d → rowDone (colDone X Y c0 c1 i j) i j c1 c0 0 a b c d := fun a b c d ⟨io, h⟩ => by
        by_cases e : a = (i : Int) ∧ b = (j : Int)
        · exact .inr ⟨e.1, e.2, .inl ⟨io.r.1, io.r.2, io.s.1, io.s.2⟩⟩
        · refine .inl ⟨io, ?_⟩
          rcases h with h | h
          · exact .inl h
          · exact .inr ⟨h.1, by omega⟩
      refine ss_fweakA hzA ?_ ?_ (ss_le ss_at (.cons (.cons (.cons (.cons (.drop .nil))))))
      · rintro F' ob ⟨xs, e, bx⟩
        refine ⟨xs, e, bx.kin, Nat.le_trans bx.len ?_, fun a b c d h => bx.at' a b c d (im _ _ _ _ h)⟩
        rw [← Nat.add_assoc, Nat.succ_mul]
        exact Nat.le_refl _
      · exact fun F' v => wrE_imp fun ha a b c d h => ha a b c d (im _ _ _ _ h)
    · rw [Int.toNat_natCast]
      have im : ∀ a b c d, colDone X Y c0 c1 ((i + 1 : Nat) : Int) 0 a b c d → colDone X Y c0 c1 i (Y : Int) a b c d := fun a b c d ⟨io, h⟩ => ⟨io, by have := io.y; omega⟩
      refine ss_fweakA hzA ?_ ?_ (ss_le ss_at (.cons (.cons (.cons (.drop (.cons .nil))))))
      · rintro F' ob ⟨xs, e, bx⟩
        refine ⟨xs, e, bx.kin, Nat.le_trans bx.len ?_, fun a b c d h => bx.at' a b c d (im _ _ _ _ h)⟩
        rw [Nat.succ_mul i Y]
        exact Nat.le_refl _
      · exact fun F' v => wrE_imp fun ha a b c d h => ha a b c d (im _ _ _ _ h)
  · rw [Int.toNat_natCast]
    have im : ∀ a b c d, InOk X Y c0 c1 a b c d → colDone X Y c0 c1 (X : Int) 0 a b c d := fun a b c d io => ⟨io, by have := io.x; omega⟩
    refine ss_end (ss_freeze (M' := insO C x (heldM' P w K C X Y c0 c1 t tab)) (fun _ => .rfl) (fun _ h => h) ?_ (fun F H ⟨dx, vf, hx, _⟩ => ⟨dx, vf, hx⟩) k)
    rintro F' H' ob ⟨xs, rfl, bx⟩ hp ⟨dx, vf, hx, pf⟩
    refine ⟨dx, vf, hx, (pf.bits (bm' := bitsM P w t (InOk X Y c0 c1)) fun v hv => ?_).last fun v => wrE_imp fun ha a b c d h => ha a b c d (im _ _ _ _ h)⟩
    exact ⟨b, xs, _, hv, hp, bx.kin, bx.len, fun a b c d h => bx.at' a b c d (im _ _ _ _ h)⟩
end
end K46
/-! K46, part y: what is learned; flaw_of. -/
namespace K46
open PySem L2
open Evl (Ex ex_l ex_t)
theorem mfind_put (ms : List (Int × MP)) (k j : Int) (v : MP) : mfind (mput ms k v) j = if j = k then some v else mfind ms j := by
  have fnd : ∀ (xs : List (Int × MP)), (∀ x ∈ xs, x.1 ≠ k) → mfind (xs ++ [(k, v)]) j = if j = k then some v else mfind xs j := by
    intro xs hx
    induction xs with
    | nil =>
      by_cases e : j = k
      · simp [mfind, e]
      · rw [if_neg e]
        have e' : ¬ k = j := fun z => e z.symm
        simp [mfind, e']
    | cons y r ih =>
      have h1 := hx y List.mem_cons_self
      by_cases e2 : y.1 = j
      · have e3 : ¬ j = k := fun z => h1 (e2.trans z)
        rw [if_neg e3]
        simp [mfind, e2]
      · have f1 : mfind ((y :: r) ++ [(k, v)]) j = mfind (r ++ [(k, v)]) j := by simp [mfind, e2]
        have f2 : mfind (y :: r) j = mfind r j := by simp [mfind, e2]
        rw [f1, f2]
        exact ih fun x hm => hx x (List.mem_cons_of_mem _ hm)
  have rep : ∀ (xs : List (Int × MP)), mfind (xs.map fun x => if x.1 = k then (x.1, v) else x) j = (mfind xs j).map fun u => if j = k then v else u := by
    intro xs
    induction xs with
    | nil => rfl
    | cons y r ih =>
      rw [List.map_cons]
      by_cases e2 : y.1 = j
      · have f2 : mfind (y :: r) j = some y.2 := by simp [mfind, e2]
        rw [f2]
        by_cases e : y.1 = k
        · rw [if_pos e]
          have : j = k := e2 ▸ e
          simp [mfind, e2, this]
        · rw [if_neg e]
          have : ¬ j = k := fun z => e (e2.trans z)
          simp [mfind, e2, this]
      · have f2 : mfind (y :: r) j = mfind r j := by simp [mfind, e2]
        rw [f2, ← ih]
        by_cases e : y.1 = k
        · rw [if_pos e]; simp [mfind, e2]
        · rw [if_neg e]; simp [mfind, e2]
  unfold mput
  split
  · rename_i h
    rw [rep]
    by_cases e : j = k
    · subst e
      rw [if_pos rfl]
      obtain ⟨x, hx, e⟩ := List.any_eq_true.mp h
      cases q : mfind ms j with
      | none =>
        unfold mfind at q
        rw [Option.map_eq_none_iff, List.find?_eq_none] at q
        exact absurd e (q x hx)
      | some u => simp
    · rw [if_neg e]
      cases mfind ms j <;> simp [e]
  · rename_i h
    exact fnd ms fun x hx e => h (List.any_eq_true.mpr ⟨x, hx, decide_eq_true e⟩)
section
variable {P : Program} {w : World} {K : PySem.W.Frag} {Z : Zr} {M : Mode} {Γ Δ : Gm} {ta tb te td ty tx tv tz : TE} {m : MP} {D : Ends} {p : Addr} {t u : TS} {ms : List (Int × MP)} {i : Int} {c d : Ct}
/-- if e.setdefault(k, x) != y -/
theorem ss_ifSetd (hd : EE (ownO p (dkO ms) M) Γ td (rawv (.ref p))) (hy : EE (ownO p (dkO ms) M) Γ ty (dt K (.int i))) (hx : EE (ownO p (dkO ms) M) Γ tx (ctM P w c)) (hzz : ∀ ms', EE (ownO p (dkO ms') M) Γ tz (ctM P w d)) (hl : ms.length < 90000) (hz : ∀ F H, Z.M.I F H)
    (k1 : ∀ m, mfind ms i = some m → ∃ c', m = ctM P w c' ∧ (ctNe c' d = true → SS Z (ownO p (dkO ms) M) Γ (t D)) ∧ (ctNe c' d = false → SS Z (ownO p (dkO ms) M) Γ (u D)))
    (k2 : mfind ms i = none → (ctNe c d = true → SS Z (ownO p (dkO (mput ms i (ctM P w c))) M) Γ (t D)) ∧ (ctNe c d = false → SS Z (ownO p (dkO (mput ms i (ctM P w c))) M) Γ (u D))) :
    SS Z (ownO p (dkO ms) M) Γ (tIfS (tTest (tOp (rNeT P w) (tDSetd td ty tx) tz)) t u D) := fun σ H a => by
  obtain ⟨F, p0, o, e⟩ := a.ex
  refine hd F H σ e o _ fun v F1 H1 p1 o1 r1 => ?_
  cases r1
  obtain ⟨⟨_, _, hp1, kvs1, rfl, _⟩, _⟩ := id o1.iv
  refine ⟨p, rfl, .inl ⟨kvs1, .inl hp1⟩, hy F1 H1 σ (e.mono p1.fx) o1 _ fun y F2 H2 p2 o2 r2 => hx F2 H2 σ ((e.mono p1.fx).mono p2.fx) o2 _ fun z F3 H3 p3 o3 r3 => ?_⟩
  cases dp_int r2
  have e3 := ((e.mono p1.fx).mono p2.fx).mono p3.fx
  have pp := (p1.trans p2).trans p3
  obtain ⟨⟨_, _, hp3, kvs, rfl, km⟩, _⟩ := id o3.iv
  refine ⟨kvs, .inl i, hp3, rfl, by rw [km.length, sizeLine_eq]; omega, fun v hv => ?_, fun hn => ?_⟩
  · rcases km.find (i := i) with ⟨_, h2⟩ | ⟨m, v', h1, h2, h3⟩
    · rw [h2] at hv; cases hv
    · rw [h2] at hv
      cases hv
      obtain ⟨c', rfl, kt, kf⟩ := k1 m h1
      refine hzz ms F3 H3 σ e3 o3 _ fun q F4 H4 p4 o4 r4 => ?_
      obtain ⟨a1, xs, rfl, hx1, cx⟩ := h3
      obtain ⟨a2, ys, rfl, hx2, cy⟩ := r4
      have a4 : At Z (ownO p (dkO ms) M) Γ σ H4 := a.step p0 (pp.trans p4) o4 (e3.mono p4.fx)
      refine ⟨a1, a2, xs, ys, c', d, rfl, rfl, ⟨o4.ex _ _ (p4.fx _ _ hx1), (cx.ex p4.fx).ex o4.ex⟩, ⟨o4.ex _ _ hx2, cy.ex o4.ex⟩, ctNe c' d, rfl, ?_⟩
      cases hb : ctNe c' d with
      | true => exact kt hb σ H4 a4
      | false => exact kf hb σ H4 a4
  · rcases km.find (i := i) with ⟨h1, _⟩ | ⟨m, v', h1, h2, h3⟩
    · obtain ⟨kt, kf⟩ := k2 h1
      have o5 : (ownO p (dkO (mput ms i (ctM P w c))) M).Ok F3 (upd H3 p (.dK (putK kvs (.inl i) z))) := ownO_wr o3 ⟨_, rfl, km.put r3⟩
      have a3 : At Z (ownO p (dkO (mput ms i (ctM P w c))) M) Γ σ (upd H3 p (.dK (putK kvs (.inl i) z))) := ⟨⟨F3, Pu.wr a.own (.inl rfl) (Pu.out a.own p0 pp), o5, e3⟩, a.sub, a.own, fun F H _ => hz F H⟩
      refine hzz _ F3 _ σ e3 o5 _ fun q F4 H4 p4 o4 r4 => ?_
      obtain ⟨a1, xs, rfl, hx1, cx⟩ := r3
      obtain ⟨a2, ys, rfl, hx2, cy⟩ := r4
      have a4 : At Z (ownO p (dkO (mput ms i (ctM P w c))) M) Γ σ H4 := by
        obtain ⟨F3', p3', _, _⟩ := id a3.ex
        exact ⟨⟨F4, Pu.out a3.own (Pu.wr a.own (.inl rfl) (Pu.out a.own p0 pp)) p4, o4, e3.mono p4.fx⟩, a3.sub, a3.own, a3.iv⟩
      refine ⟨a1, a2, xs, ys, c, d, rfl, rfl, ⟨o4.ex _ _ (p4.fx _ _ hx1), (cx.ex p4.fx).ex o4.ex⟩, ⟨o4.ex _ _ hx2, cy.ex o4.ex⟩, ctNe c d, rfl, ?_⟩
      cases hb : ctNe c d with
      | true => exact kt hb σ H4 a4
      | false => exact kf hb σ H4 a4
    · rw [h2] at hn; cases hn
theorem tk_tp {F : Hp} {v : V} {x y : Int} (h : (tkM [x, y]).R F v) : (tpM K [dt K (.int x), dt K (.int y)]).R F v := by
  obtain ⟨b, rfl, hb⟩ := h
  exact ⟨b, _, rfl, SqT.of hb, .cons (.int x) (.cons (.int y) .nil)⟩
end
section
variable {P : Program} {w : World} {K : PySem.W.Frag} {mg : Str → Option Value} {base : Heap} {C : Addr}
abbrev s_Held_counts : Stmt := inClass (top 23) 2
abbrev n_Held_counts : List Str := ["self", "side", "own", "coin", "other", "found", "another", "bits"]
abbrev p_Held_counts : List Str := ["self", "side", "own", "coin", "other"]
theorem sc_Held_counts : FnScope n_Held_counts p_Held_counts (defScope s_Held_counts) := ⟨rfl, rfl, rfl, by decide +kernel, rfl, by decide +kernel, by decide +kernel⟩
abbrev s_Held_answer : Stmt := inClass (top 23) 3
abbrev n_Held_answer : List Str := ["self", "side", "own", "other", "x", "y"]
abbrev p_Held_answer : List Str := ["self", "side", "own", "other"]
theorem sc_Held_answer : FnScope n_Held_answer p_Held_answer (defScope s_Held_answer) := ⟨rfl, rfl, rfl, by decide +kernel, rfl, by decide +kernel, by decide +kernel⟩
abbrev s_Held_learned_with : Stmt := inClass (top 23) 4
abbrev n_Held_learned_with : List Str := ["self", "side", "own", "coin", "counts", "other", "answers", "first", "is_like", "answer", "y", "z", "bits", "numbers"]
abbrev p_Held_learned_with : List Str := ["self", "side", "own", "coin"]
def cs_Held_learned_with_0 : Scope := { kind := PySem.ScopeKind.function, names := [ (PySem.Str.ofString ".0", PySem.NameKind.local), (PySem.Str.ofString "other", PySem.NameKind.local), (PySem.Str.ofString "coin", PySem.NameKind.free), (PySem.Str.ofString "own", PySem.NameKind.free), (PySem.Str.ofString "self", PySem.NameKind.free), (PySem.Str.ofString "side", PySem.NameKind.free)], isGenerator := false, isCoroutine := false, more := [] : PySem.Scope }
def cs_Held_learned_with_1 : Scope := { kind := PySem.ScopeKind.function, names := [ (PySem.Str.ofString ".0", PySem.NameKind.local), (PySem.Str.ofString "other", PySem.NameKind.local), (PySem.Str.ofString "own", PySem.NameKind.free), (PySem.Str.ofString "self", PySem.NameKind.free), (PySem.Str.ofString "side", PySem.NameKind.free)], isGenerator := false, isCoroutine := false, more := [] : PySem.Scope }
theorem sc_Held_learned_with : FnScope n_Held_learned_with p_Held_learned_with (defScope s_Held_learned_with) := ⟨rfl, rfl, rfl, by decide +kernel, rfl, by decide +kernel, by decide +kernel⟩
abbrev s_Held_learned : Stmt := inClass (top 23) 5
abbrev n_Held_learned : List Str := ["self", "side", "own", "coin", "found"]
abbrev p_Held_learned : List Str := ["self"]
theorem sc_Held_learned : FnScope n_Held_learned p_Held_learned (defScope s_Held_learned) := ⟨rfl, rfl, rfl, by decide +kernel, rfl, by decide +kernel, by decide +kernel⟩
abbrev s_flaw_of : Stmt := top 25
abbrev n_flaw_of : List Str := ["talk", "table", "held"]
abbrev p_flaw_of : List Str := ["talk", "table"]
theorem sc_flaw_of : FnScope n_flaw_of p_flaw_of (defScope s_flaw_of) := ⟨rfl, rfl, rfl, by decide +kernel, rfl, by decide +kernel, by decide +kernel⟩
abbrev heldI (P : Program) (w : World) (K : PySem.W.Frag) (C : Addr) (X Y c0 c1 : Nat) (t : Tr) (tab : Tab) (wm : MP) : MP := insM C (heldF K X Y c0 c1 tab (bitsM P w t (InOk X Y c0 c1)) wm)
def r_hcounts (P : Program) (w : World) (K : PySem.W.Frag) (C : Addr) : List MP → MP → Prop := fun Rs R => ∃ (X Y c0 c1 side : Nat) (t : Tr) (tab : Tab) (wm : MP) (own coin other : Int), TalkOk X Y c0 c1 t ∧ SideOk X Y c0 c1 side own coin other ∧
  Rs = [heldI P w K C X Y c0 c1 t tab wm, dt K (.int (side : Int)), dt K (.int own), dt K (.int coin), dt K (.int other)] ∧ R = ctM P w (cntOf t side own coin other (sz2 c1 c0 side))
abbrev C_hcounts (P : Program) (w : World) (K : PySem.W.Frag) (mg : Str → Option Value) (base : Heap) (C : Addr) : Prop := CalM P w K mg base 2 C "counts" p_Held_counts (spP (r_hcounts P w K C))
theorem side_io {X Y c0 c1 side : Nat} {own coin other another : Int} (h : SideOk X Y c0 c1 side own coin other) (ha : 0 ≤ another ∧ another < (sz2 c1 c0 side : Nat)) (t : Tr) :
    ∃ x y r s, (if side = 0 then [own, other] else [other, own]) = [x, y] ∧ (if side = 0 then [coin, another] else [another, coin]) = [r, s] ∧ InOk X Y c0 c1 x y r s ∧ (heldS x y r s t).1 = bitsAt t side own other coin another := by
  rcases h.io ha with ⟨rfl, io⟩ | ⟨rfl, io⟩
  · exact ⟨_, _, _, _, rfl, rfl, io, rfl⟩
  · exact ⟨_, _, _, _, rfl, rfl, io, rfl⟩
theorem other_len {K : PySem.W.Frag} {M : Mode} {Γ : Gm} {te ts : TE} {side a b : Nat} (hs : side ∈ [0, 1]) (h1 : EE M Γ te (dt K (pairD (a : Int) (b : Int)))) (h2 : EE M Γ ts (dt K (.int (side : Int)))) : EE M Γ (tOp (rIx K) te (tOp (rI0 fun i j => .int (i - j)) (tC (.int 1)) ts)) (dt K (.int (sz2 b a side : Nat))) := by
  rcases mem01 hs with rfl | rfl
  · exact ee_ixT (ds := [.int (a : Int), .int (b : Int)]) (j := 1) h1 (ee_sub ee_int h2) rfl rfl
  · exact ee_ixT (ds := [.int (a : Int), .int (b : Int)]) (j := 0) h1 (ee_sub ee_int h2) rfl rfl
theorem cal_hcounts (D : MetAt K C "counts" "Held.counts" s_Held_counts p_Held_counts) (T : Nm mg) (S : HeldC K C) (G_pair_of : C_pair P w K mg base) : C_hcounts P w K mg base C := by
  refine calM_P D sc_Held_counts (fun Rs R h => by obtain ⟨_, _, _, _, _, _, _, _, _, _, _, _, _, rfl, _⟩ := h; rfl) fun f cdv A outer s H E hr => ⟨_, (pss_cons (ps_set (i := 5) sc_Held_counts.nd rfl (Or.inl rfl) (pe_ndNew (kdT P w)))
  (pss_cons (ps_for PassesOwn.never rfl (pi_range1 (by rfl) T.range (pa_cons (pe_ix (k_ix K) (k_fld K (pv 0) rfl) (pe_op op_sub pe_int (pv 1)) (fun _ _ => rfl)) pa_nil)) (pg_name (i := 6) sc_Held_counts.nd rfl (Or.inl rfl)) (pss_cons (ps_set (i := 7) sc_Held_counts.nd rfl (Or.inl rfl) (pe_ndGet (kdN P w) hr.units (k_fld K (pv 0) rfl) (pe_tup (pa_cons (pe_c (G_pair_of.up (by decide)) hr (by rfl) (pa_cons (pv 1) (pa_cons (pv 2) (pa_cons (pv 4) pa_nil)))) (pa_cons (pe_c (G_pair_of.up (by decide)) hr (by rfl) (pa_cons (pv 1) (pa_cons (pv 3) (pa_cons (pv 6) pa_nil)))) pa_nil))) (fun _ _ => rfl)))
  (pss_one (ps_ndPut (kdT P w) hr.units (pv 5) (pv 7) (pe_op op_add (pe_ndGet2 (kdT P w) hr.units (pv 5) (pv 7) pe_int ⟨by rfl, by rfl, by rfl, by rfl⟩) pe_int) rfl))))
  (pss_one (ps_ret (pv 5))))), ?_⟩
  rintro Rs R ⟨X, Y, c0, c1, side, t, tab, wm, own, coin, other, ok, so, rfl, rfl⟩ F Q q
  have pz : ∀ {M : Mode} (F H : Hp), M.I F H → (⟨pu, F, H⟩ : Zr).M.I F H := fun _ _ _ => trivial
  have hn : sz2 c1 c0 side ≤ 200 := by
    have := ok.b0; have := ok.b1
    unfold sz2; split <;> omega
  refine sq_newT (P := P) (w := w) fun p => ?_
  refine ss_seq (ss_forR1 (K := K) (n := (sz2 c1 c0 side : Nat)) (ea_one (other_len so.sd (ee_fld (ee_var rfl) S.cl S.nC rfl) (ee_var rfl))) (by omega) (fun k σ H' => At ⟨pu, F, H⟩ (ownO p (ctO P w p (ctOf ((List.range k).map fun (k : Nat) => bitsAt t side own other coin (k : Int)))) pu) [some (heldI P w K C X Y c0 c1 t tab wm), some (dt K (.int (side : Int))), some (dt K (.int own)), some (dt K (.int coin)), some (dt K (.int other)), some (rawv (.ref p)), none, none] σ H') (fun σ H' a => ?_) ?_ ?_)
  · exact a
  · rintro k σ1 H1 hk a
    have hk' : k < sz2 c1 c0 side := by omega
    refine ss_go (a.put (m := dt K (.int (k : Int))) (.int _)) ?_
    have hlen := (ctOf_ind _ ((List.range k).map fun (k : Nat) => bitsAt t side own other coin (k : Int)) rfl).2.1
    rw [List.length_map, List.length_range] at hlen
    obtain ⟨x, y, r, s, e1, e2, io, e⟩ := side_io so (another := (k : Int)) (by omega) t
    refine sq_set (m := tkM (heldS x y r s t).1) (ee_nget (x := x) (y := y) (r := r) (s := s) (ee_fld (ee_var rfl) S.cl S.nB rfl) (ee_key4 (ea_cons (ee_call (Rel := r_pair K) (R := tkM [x, y]) (ea_cons (ee_var (i := 1) rfl) (ea_cons (ee_var (i := 2) rfl) (ea_one (ee_var (i := 4) rfl)))) ⟨side, own, other, so.sd, rfl, by rw [e1]⟩)
      (ea_one (ee_call (Rel := r_pair K) (R := tkM [r, s]) (ea_cons (ee_var (i := 1) rfl) (ea_cons (ee_var (i := 3) rfl) (ea_one (ee_var (i := 6) rfl)))) ⟨side, coin, (k : Int), so.sd, rfl, by rw [e2]⟩)))) io) ?_
    rw [e]
    refine ss_putT (K := K) (ee_add (ee_getT (K := K) (ee_var rfl) (ee_var rfl) ee_int) ee_int) (ee_var rfl) (ee_var rfl) (by omega) pz ?_
    rw [← ctOf_snoc, ← range_snoc]
    exact ss_le ss_at (.cons (.cons (.cons (.cons (.cons (.cons (.drop (.drop .nil))))))))
  · rw [Int.toNat_natCast]
    exact ss_retO (q := ctM P w (cntOf t side own coin other (sz2 c1 c0 side))) (ee_var rfl) (fun F ob ⟨xs, e, cx⟩ hp => ⟨p, xs, rfl, by rw [← e]; exact hp, cx⟩) rfl q
def r_hans (P : Program) (w : World) (K : PySem.W.Frag) (C : Addr) : List MP → MP → Prop := fun Rs R => ∃ (X Y c0 c1 side : Nat) (t : Tr) (tab : Tab) (wm : MP) (own other : Int), IsTab X Y tab ∧ side ∈ [0, 1] ∧ (0 ≤ own ∧ own < (sz2 X Y side : Nat)) ∧ (0 ≤ other ∧ other < (sz2 Y X side : Nat)) ∧
  Rs = [heldI P w K C X Y c0 c1 t tab wm, dt K (.int (side : Int)), dt K (.int own), dt K (.int other)] ∧ R = dt K (.int (ansT tab side own other))
abbrev C_hans (P : Program) (w : World) (K : PySem.W.Frag) (mg : Str → Option Value) (base : Heap) (C : Addr) : Prop := CalM P w K mg base 2 C "answer" p_Held_answer (spP (r_hans P w K C))
theorem cal_hans (D : MetAt K C "answer" "Held.answer" s_Held_answer p_Held_answer) (T : Nm mg) (S : HeldC K C) (G_pair_of : C_pair P w K mg base) : C_hans P w K mg base C := by
  refine calM_P D sc_Held_answer (fun Rs R h => by obtain ⟨_, _, _, _, _, _, _, _, _, _, _, _, _, _, rfl, _⟩ := h; rfl) fun f cdv A outer s H E hr => ⟨_, (pss_cons (ps_asg (pe_c (G_pair_of.up (by decide)) hr (by rfl) (pa_cons (pv 1) (pa_cons (pv 2) (pa_cons (pv 3) pa_nil)))) (pg_tup rfl (pgs_cons (pg_name (i := 4) sc_Held_answer.nd rfl (Or.inl rfl)) (pgs_cons (pg_name (i := 5) sc_Held_answer.nd rfl (Or.inl rfl)) pgs_nil))))
  (pss_one (ps_ret (pe_ix (k_ix K) (pe_ix (k_ix K) (k_fld K (pv 0) rfl) (pv 4) (fun _ _ => rfl)) (pv 5) (fun _ _ => rfl))))), ?_⟩
  rintro Rs R ⟨X, Y, c0, c1, side, t, tab, wm, own, other, ht, hs, h1, h2, rfl, rfl⟩ F Q q
  obtain ⟨x, y, e, hx, hy, ea⟩ : ∃ x y, (if side = 0 then [own, other] else [other, own]) = [x, y] ∧ (0 ≤ x ∧ x < (X : Int)) ∧ (0 ≤ y ∧ y < (Y : Int)) ∧ ansT tab side own other = cell tab x y := by
    rcases mem01 hs with rfl | rfl
    · exact ⟨own, other, rfl, h1, h2, rfl⟩
    · exact ⟨other, own, rfl, h2, h1, rfl⟩
  obtain ⟨row, e1, e2⟩ := cell_get ht hx hy
  refine ss_seq (ss_set2 (m1 := dt K (.int x)) (m2 := dt K (.int y)) (ee_imp (ee_call (Rel := r_pair K) (R := tkM [x, y]) (ea_cons (ee_var rfl) (ea_cons (ee_var rfl) (ea_one (ee_var rfl)))) ⟨side, own, other, hs, rfl, by rw [e]⟩) fun F v r => tk_tp r) ?_)
  rw [ea] at q
  exact ss_ret (ee_cell (v := tab) (row := row) (x := x) (r := y) (ee_fld (ee_var rfl) S.cl S.nT rfl) (ee_var rfl) (ee_var rfl) hx.1 hy.1 e1 e2) q
end
end K46
/-! K46, part ya: learned_with. -/
namespace K46
open PySem L2
open Evl (Ex ex_l ex_t)
/-- the first things of each answer stand in ms -/
structure FirstInv (P : Program) (w : World) (cnt : Nat → Ct) (ans : Nat → Int) (j : Nat) (b : Bool) (ms : List (Int × MP)) : Prop where
  len : ms.length ≤ j
  no : ∀ a, mfind ms a = none → ∀ i, i < j → ans i ≠ a
  so : ∀ a m, mfind ms a = some m → ∃ i, i < j ∧ ans i = a ∧ m = ctM P w (cnt i) ∧ (b = true → ∀ i', i' < j → ans i' = a → ctNe (cnt i) (cnt i') = false)
theorem ctNe_self {c : Ct} (h : CtOk c) : ctNe c c = false := (ctNe_false h h).mpr fun _ => rfl
theorem ctNe_sym {c d : Ct} (hc : CtOk c) (hd : CtOk d) (h : ctNe c d = false) : ctNe d c = false := (ctNe_false hd hc).mpr fun k => ((ctNe_false hc hd).mp h k).symm
theorem ctNe_tr {c d e : Ct} (hc : CtOk c) (hd : CtOk d) (he : CtOk e) (h1 : ctNe c d = false) (h2 : ctNe c e = false) : ctNe d e = false := (ctNe_false hd he).mpr fun k => ((ctNe_false hc hd).mp h1 k).symm.trans ((ctNe_false hc he).mp h2 k)
section
variable {P : Program} {w : World} {cnt : Nat → Ct} {ans : Nat → Int} {j : Nat} {b : Bool} {ms : List (Int × MP)}
theorem FirstInv.start : FirstInv P w cnt ans 0 true [] := ⟨Nat.le_refl _, (fun _ _ i h => absurd h (Nat.not_lt_zero _)), fun a m h => nomatch h⟩
theorem FirstInv.old (I : FirstInv P w cnt ans j b ms) {i : Nat} {m : MP} (hf : mfind ms (ans j) = some m) (b' : Bool) (hb : b' = true → b = true ∧ ∀ i, i < j → ans i = ans j → m = ctM P w (cnt i) → (∀ i', i' < j → ans i' = ans j → ctNe (cnt i) (cnt i') = false) → ctNe (cnt i) (cnt j) = false) : FirstInv P w cnt ans (j + 1) b' ms := by
  refine ⟨Nat.le_succ_of_le I.len, fun a ha i hi e => ?_, fun a m' ha => ?_⟩
  · by_cases hij : i = j
    · subst hij
      rw [e, ha] at hf; cases hf
    · exact I.no a ha i (by omega) e
  · obtain ⟨i, h1, h2, h3, h4⟩ := I.so a m' ha
    refine ⟨i, by omega, h2, h3, fun hb' i' hi' e => ?_⟩
    obtain ⟨hb1, hb2⟩ := hb hb'
    by_cases hij : i' = j
    · subst hij
      have em : m' = m := by
        rw [← e] at ha
        rw [ha] at hf
        exact Option.some.inj hf
      exact hb2 i h1 (h2.trans e.symm) (em ▸ h3) fun i'' h h' => h4 hb1 i'' h (h'.trans e)
    · exact h4 hb1 i' (by omega) e
theorem FirstInv.new (I : FirstInv P w cnt ans j b ms) (hok : ∀ i, CtOk (cnt i)) (hf : mfind ms (ans j) = none) : FirstInv P w cnt ans (j + 1) b (mput ms (ans j) (ctM P w (cnt j))) := by
  refine ⟨Nat.le_trans (mput_len _ _ _) (Nat.succ_le_succ I.len), fun a ha i hi e => ?_, fun a m' ha => ?_⟩
  · rw [mfind_put] at ha
    split at ha
    · cases ha
    · rename_i hne
      by_cases hij : i = j
      · subst hij; exact hne e.symm
      · exact I.no a ha i (by omega) e
  · rw [mfind_put] at ha
    split at ha
    · rename_i e
      cases ha
      refine ⟨j, Nat.lt_succ_self _, e.symm, rfl, fun _ i' hi' e' => ?_⟩
      by_cases hij : i' = j
      · subst hij; exact ctNe_self (hok _)
      · exact absurd (e'.trans e) (I.no _ hf i' (by omega))
    · rename_i hne
      obtain ⟨i, h1, h2, h3, h4⟩ := I.so a m' ha
      refine ⟨i, by omega, h2, h3, fun hb i' hi' e' => ?_⟩
      by_cases hij : i' = j
      · subst hij; exact absurd e'.symm hne
      · exact h4 hb i' (by omega) e'
theorem FirstInv.like (I : FirstInv P w cnt ans j true ms) (hok : ∀ i, CtOk (cnt i)) : ∀ y z, y < j → z < j → ans y = ans z → ctNe (cnt y) (cnt z) = false := fun y z hy hz e => by
  cases hf : mfind ms (ans y) with
  | none => exact absurd rfl (I.no _ hf y hy)
  | some m =>
    obtain ⟨i, h1, h2, h3, h4⟩ := I.so _ m hf
    exact ctNe_tr (hok i) (hok y) (hok z) (h4 rfl y hy rfl) (h4 rfl z hz e.symm)
end
section
variable {P : Program} {w : World} {K : PySem.W.Frag} {mg : Str → Option Value} {base : Heap} {C : Addr}
/-- a, b = e, of which one of several is known -/
theorem ss_set2A {Z : Zr} {M : Mode} {Γ : Gm} {te : TE} {D : Ends} {i j : Nat} {E : MP → Prop} (h : EE M Γ te (anyM E)) (k : ∀ m, E m → ∃ m1 m2, m = tpM K [m1, m2] ∧ SS Z M ((Γ.set i (some m1)).set j (some m2)) D.nx) : SS Z M Γ (tAsg te (gTup K 2 (gCons (gName i) (gCons (gName j) gNil))) D) := fun σ H a => by
  obtain ⟨F, p0, o, e⟩ := a.ex
  refine h F H σ e o _ fun v F1 H1 p1 o1 ⟨m, hm, r1⟩ => ?_
  obtain ⟨m1, m2, rfl, k⟩ := k m hm
  exact g_two o1.ex r1 fun v1 v2 h1 h2 => k _ _ (a.step p0 p1 o1 (((e.mono p1.fx).set h1).set h2))
abbrev cntN (t : Tr) (c0 c1 side : Nat) (own coin : Int) (i : Nat) : Ct := cntOf t side own coin (i : Int) (sz2 c1 c0 side)
abbrev ansN (tab : Tab) (side : Nat) (own : Int) (i : Nat) : Int := ansT tab side own (i : Int)
abbrev learnsM (K : PySem.W.Frag) (side : Nat) (own coin y z : Int) (k : List Int) (n1 n2 : Int) : MP := tpM K [dt K (.str "learns"), dt K (.int (side : Int)), dt K (.int own), dt K (.int coin), dt K (pairD y z), tkM k, dt K (pairD n1 n2)]
/-- nothing is learned with this coin -/
abbrev NoL (Y X c0 c1 : Nat) (t : Tr) (tab : Tab) (side : Nat) (own coin : Int) : Prop := ∀ y z, y < sz2 Y X side → z < sz2 Y X side → ansN tab side own y = ansN tab side own z → ctNe (cntN t c0 c1 side own coin y) (cntN t c0 c1 side own coin z) = false
def learnsE (K : PySem.W.Frag) (X Y c0 c1 : Nat) (t : Tr) (tab : Tab) (side : Nat) (own coin : Int) : MP → Prop := fun m => ∃ (y z : Nat) (k : List Int), y < z ∧ z < sz2 Y X side ∧ ansN tab side own y = ansN tab side own z ∧
  cget (cntN t c0 c1 side own coin y) k ≠ cget (cntN t c0 c1 side own coin z) k ∧ m = learnsM K side own coin y z k (cget (cntN t c0 c1 side own coin y) k) (cget (cntN t c0 c1 side own coin z) k)
def r_lw (P : Program) (w : World) (K : PySem.W.Frag) (C : Addr) : List MP → MP → Prop := fun Rs R => ∃ (X Y c0 c1 side : Nat) (t : Tr) (tab : Tab) (wm : MP) (own coin : Int), FlawOk X Y c0 c1 t tab ∧ side ∈ [0, 1] ∧ (0 ≤ own ∧ own < (sz2 X Y side : Nat)) ∧ (0 ≤ coin ∧ coin < (sz2 c0 c1 side : Nat)) ∧
  Rs = [heldI P w K C X Y c0 c1 t tab wm, dt K (.int (side : Int)), dt K (.int own), dt K (.int coin)] ∧ R = anyM fun m => (m = dt K .none ∧ NoL Y X c0 c1 t tab side own coin) ∨ learnsE K X Y c0 c1 t tab side own coin m
abbrev C_lw (P : Program) (w : World) (K : PySem.W.Frag) (mg : Str → Option Value) (base : Heap) (C : Addr) : Prop := CalM P w K mg base 3 C "learned_with" p_Held_learned_with (spP (r_lw P w K C))
theorem cal_lw (D : MetAt K C "learned_with" "Held.learned_with" s_Held_learned_with p_Held_learned_with) (T : Nm mg) (S : HeldC K C) (G_Held_counts : C_hcounts P w K mg base C) (G_Held_answer : C_hans P w K mg base C) (G_first_unlike : C_first P w K mg base) : C_lw P w K mg base C := by
  refine calM_P D sc_Held_learned_with (fun Rs R h => by obtain ⟨_, _, _, _, _, _, _, _, _, _, _, _, _, _, rfl, _⟩ := h; rfl) fun f cdv A outer s H E hr => ⟨_, (pss_cons (ps_setLc (i := 4) (own := [("other", 5)]) rfl sc_Held_learned_with.nd rfl rfl (sw_true rfl rfl rfl (by decide +kernel)) (pi_range1 (by rfl) T.range (pa_cons (pe_ix (k_ix K) (k_fld K (pv 0) rfl) (pe_op op_sub pe_int (pv 1)) (fun _ _ => rfl)) pa_nil)) (blkOk_by (N := n_Held_learned_with) (sc := defScope s_Held_learned_with) (scope := cs_Held_learned_with_0) (own := [("other", 5)]) (by decide +kernel)) (fun _ _ _ _ _ => (pg_name (i := 5) sc_Held_learned_with.nd rfl (Or.inl rfl))) (fun _ _ _ _ _ => pts_nil) (fun _ _ _ _ _ => (pe_m (G_Held_counts.up (by decide)) hr (pv 0) (pa_cons (pv 1) (pa_cons (pv 2) (pa_cons (pv 3) (pa_cons (pv 5) pa_nil)))))))
  (pss_cons (ps_setLc (i := 6) (own := [("other", 5)]) rfl sc_Held_learned_with.nd rfl rfl (sw_true rfl rfl rfl (by decide +kernel)) (pi_range1 (by rfl) T.range (pa_cons (pe_ix (k_ix K) (k_fld K (pv 0) rfl) (pe_op op_sub pe_int (pv 1)) (fun _ _ => rfl)) pa_nil)) (blkOk_by (N := n_Held_learned_with) (sc := defScope s_Held_learned_with) (scope := cs_Held_learned_with_1) (own := [("other", 5)]) (by decide +kernel)) (fun _ _ _ _ _ => (pg_name (i := 5) sc_Held_learned_with.nd rfl (Or.inl rfl))) (fun _ _ _ _ _ => pts_nil) (fun _ _ _ _ _ => (pe_m (G_Held_answer.up (by decide)) hr (pv 0) (pa_cons (pv 1) (pa_cons (pv 2) (pa_cons (pv 5) pa_nil))))))
  (pss_cons (ps_set (i := 7) sc_Held_learned_with.nd rfl (Or.inl rfl) (pe_dnewK))
  (pss_cons (ps_set (i := 8) sc_Held_learned_with.nd rfl (Or.inl rfl) pe_bl)
  (pss_cons (ps_for PassesOwn.never rfl (pi_enum (by rfl) T.enumerate (pa_cons (pv 6) pa_nil)) (pg_tup rfl (pgs_cons (pg_name (i := 5) sc_Held_learned_with.nd rfl (Or.inl rfl)) (pgs_cons (pg_name (i := 9) sc_Held_learned_with.nd rfl (Or.inl rfl)) pgs_nil))) (pss_one (ps_if (pt_cmpR (op_neT hr.units) (pe_dsetd (pv 7) (pv 9) (pe_ix (k_ix K) (pv 4) (pv 5) (fun _ _ => rfl)) ⟨by rfl, by rfl, by rfl, by rfl⟩) (pe_ix (k_ix K) (pv 4) (pv 5) (fun _ _ => rfl)) (nomark _)) (pss_one (ps_set (i := 8) sc_Held_learned_with.nd rfl (Or.inl rfl) pe_bl)) pss_nil)))
  (pss_cons (ps_if (pt_val (pv 8)) (pss_one (ps_ret pe_non)) pss_nil)
  (pss_cons (ps_for PassesOwn.never rfl (pi_range1 (by rfl) T.range (pa_cons (pe_callB (k_len K) (by rfl) T.len (by decide +kernel) (pa_cons (pv 6) pa_nil)) pa_nil)) (pg_name (i := 10) sc_Held_learned_with.nd rfl (Or.inl rfl)) (pss_one (ps_for PassesOwn.never rfl (pi_range2 (by rfl) T.range (pa_cons (pe_op op_add (pv 10) pe_int) (pa_cons (pe_callB (k_len K) (by rfl) T.len (by decide +kernel) (pa_cons (pv 6) pa_nil)) pa_nil))) (pg_name (i := 11) sc_Held_learned_with.nd rfl (Or.inl rfl)) (pss_one (ps_if (PW.pt (pw_and (pt_cmpR op_eq (pe_ix (k_ix K) (pv 6) (pv 10) (fun _ _ => rfl)) (pe_ix (k_ix K) (pv 6) (pv 11) (fun _ _ => rfl)) (nomark _)) (pw_and1 (pt_cmpR (op_neT hr.units) (pe_ix (k_ix K) (pv 4) (pv 10) (fun _ _ => rfl)) (pe_ix (k_ix K) (pv 4) (pv 11) (fun _ _ => rfl)) (nomark _))))) (pss_cons (ps_asg (pe_c (G_first_unlike.up (by decide)) hr (by rfl) (pa_cons (pe_ix (k_ix K) (pv 4) (pv 10) (fun _ _ => rfl)) (pa_cons (pe_ix (k_ix K) (pv 4) (pv 11) (fun _ _ => rfl)) pa_nil))) (pg_tup rfl (pgs_cons (pg_name (i := 12) sc_Held_learned_with.nd rfl (Or.inl rfl)) (pgs_cons (pg_name (i := 13) sc_Held_learned_with.nd rfl (Or.inl rfl)) pgs_nil))))
  (pss_one (ps_ret (pe_tup (pa_cons pe_str (pa_cons (pv 1) (pa_cons (pv 2) (pa_cons (pv 3) (pa_cons (pe_tup (pa_cons (pv 10) (pa_cons (pv 11) pa_nil))) (pa_cons (pv 12) (pa_cons (pv 13) pa_nil))))))))))) pss_nil)))))
  (pss_one (ps_ret pe_non))))))))), ?_⟩
  rintro Rs R ⟨X, Y, c0, c1, side, t, tab, wm, own, coin, ok, hs, h1, h2, rfl, rfl⟩ F Q q
  have hn1 : sz2 Y X side ≤ 100 := by
    have := ok.tk.X1; have := ok.tk.Y1
    unfold sz2; split <;> omega
  have hcc : 1 ≤ sz2 c1 c0 side := by
    have := ok.tk.b0; have := ok.tk.b1
    unfold sz2; split <;> omega
  have so : ∀ i : Nat, i < sz2 Y X side → SideOk X Y c0 c1 side own coin (i : Int) := fun i hi => ⟨hs, h1, h2, by omega⟩
  have cok : ∀ i, CtOk (cntN t c0 c1 side own coin i) := fun i => cnt_ok _ _ _ _ _ _
  generalize hn : sz2 Y X side = n at *
  have g0 : ∀ {Γ : Gm}, Γ[0]? = some (some (heldI P w K C X Y c0 c1 t tab wm)) → Γ[1]? = some (some (dt K (.int (side : Int)))) → EA pu Γ (tCons (tOp (rIx K) (tFld K (tVar 0) "inputs") (tOp (rI0 fun i j => .int (i - j)) (tC (.int 1)) (tVar 1))) tNil) [dt K (.int (n : Nat))] := fun h h' => by
    rw [← hn]
    exact ea_one (other_len hs (ee_fld (ee_var h) S.cl S.nI rfl) (ee_var h'))
  have hc : ∀ i : Nat, i < n → ((List.range n).map fun i => ctM P w (cntN t c0 c1 side own coin i))[i]? = some (ctM P w (cntN t c0 c1 side own coin i)) := fun i hi => by
    rw [List.getElem?_map, List.getElem?_range hi]; rfl
  have ha : ∀ i : Nat, i < n → ((List.range n).map fun i => dt K (.int (ansN tab side own i)))[i]? = some (dt K (.int (ansN tab side own i))) := fun i hi => by
    rw [List.getElem?_map, List.getElem?_range hi]; rfl
  refine sq_set (m := lsM K ((List.range n).map fun i => ctM P w (cntN t c0 c1 side own coin i))) (ee_lcR1 (n := (n : Nat)) _ (g0 rfl rfl) (by omega) (by decide) fun i hi => ?_) ?_
  · exact ee_meth (ee_var rfl) rfl (ea_cons (ee_var rfl) (ea_cons (ee_var rfl) (ea_cons (ee_var rfl) (ea_one (ee_var rfl))))) ⟨X, Y, c0, c1, side, t, tab, wm, own, coin, (i : Int), ok.tk, so i (by omega), rfl, rfl⟩
  refine sq_set (m := lsM K ((List.range n).map fun i => dt K (.int (ansN tab side own i)))) (ee_lcR1 (n := (n : Nat)) _ (g0 rfl rfl) (by omega) (by decide) fun i hi => ?_) ?_
  · exact ee_meth (ee_var rfl) rfl (ea_cons (ee_var rfl) (ea_cons (ee_var rfl) (ea_one (ee_var rfl)))) ⟨X, Y, c0, c1, side, t, tab, wm, own, (i : Int), ok.tb, hs, h1, by rw [hn]; omega, rfl, rfl⟩
  refine sq_newD fun p => ?_
  refine sq_set (m := dt K (.bool true)) ee_bl ?_
  let Γ0 : Bool → Gm := fun b => [some (heldI P w K C X Y c0 c1 t tab wm), some (dt K (.int (side : Int))), some (dt K (.int own)), some (dt K (.int coin)), some (lsM K ((List.range n).map fun i => ctM P w (cntN t c0 c1 side own coin i))), none, some (lsM K ((List.range n).map fun i => dt K (.int (ansN tab side own i)))), some (rawv (.ref p)), some (dt K (.bool b)), none, none, none, none, none]
  refine ss_seq (ss_forE (K := K) (ms := (List.range n).map fun i => dt K (.int (ansN tab side own i))) (ee_var rfl) (fun _ _ => trivial)
    (fun Z' j σ H => ∃ (b : Bool) (ms : List (Int × MP)), At Z' (ownO p (dkO ms) pu) (Γ0 b) σ H ∧ FirstInv P w (cntN t c0 c1 side own coin) (ansN tab side own) j b ms) (fun Z' j σ H ⟨b, ms, a, _⟩ => ⟨_, _, a⟩) (fun Z' hz' le σ H a => ⟨true, [], a, .start⟩) ?_ ?_)
  · rintro Z' hz' le j m v σ1 H1 H2 hm hv ⟨b, ms, a, I⟩ up
    have hj : j < n := by
      have := (List.getElem?_eq_some_iff.mp hm).1
      rwa [List.length_map, List.length_range] at this
    rw [ha j hj] at hm
    cases hm
    have a2 := ((up _ _ a).put (m := dt K (.int (j : Int))) (j := 5) (.int _)).put (j := 9) hv
    refine ss_go a2 ?_
    have ect : ∀ ms', EE (ownO p (dkO ms') pu) [some (heldI P w K C X Y c0 c1 t tab wm), some (dt K (.int (side : Int))), some (dt K (.int own)), some (dt K (.int coin)), some (lsM K ((List.range n).map fun i => ctM P w (cntN t c0 c1 side own coin i))), some (dt K (.int (j : Int))), some (lsM K ((List.range n).map fun i => dt K (.int (ansN tab side own i)))), some (rawv (.ref p)), some (dt K (.bool b)), some (dt K (.int (ansN tab side own j))), none, none, none, none] (tOp (rIx K) (tVar 4) (tVar 5)) (ctM P w (cntN t c0 c1 side own coin j)) := fun ms' => ee_ixLM (j := j) (ee_var rfl) (ee_var rfl) rfl (hc j hj)
    refine ss_ifSetd (ms := ms) (i := ansN tab side own j) (ee_var rfl) (ee_var rfl) (ect ms) ect (by have := I.len; omega) hz' (fun m hf => ?_) fun hf => ?_
    · obtain ⟨i, hi1, hi2, rfl, hi4⟩ := I.so _ m hf
      refine ⟨_, rfl, fun hne => ?_, fun hne => ?_⟩
      · exact ss_set (m := dt K (.bool false)) ee_bl fun σ3 H3 a3 => ⟨false, ms, a3.le (.cons (.cons (.cons (.cons (.cons (.drop (.cons (.cons (.cons (.drop (.cons (.cons (.cons (.cons .nil)))))))))))))), I.old (i := i) hf false fun z => nomatch z⟩
      · intro σ3 H3 a3
        refine ⟨b, ms, a3.le (.cons (.cons (.cons (.cons (.cons (.drop (.cons (.cons (.cons (.drop (.cons (.cons (.cons (.cons .nil)))))))))))))), I.old (i := i) hf b fun hb => ⟨hb, fun i' h1' h2' _ h4' => ?_⟩⟩
        exact ctNe_tr (cok i) (cok i') (cok j) (hi4 hb i' h1' h2') hne
    · refine ⟨fun hne => ?_, fun _ σ3 H3 a3 => ?_⟩
      · rw [ctNe_self (cok j)] at hne; cases hne
      · exact ⟨b, _, a3.le (.cons (.cons (.cons (.cons (.cons (.drop (.cons (.cons (.cons (.drop (.cons (.cons (.cons (.cons .nil)))))))))))))), I.new cok hf⟩
  · rintro Z' le σ1 H1 ⟨b, ms, a, I⟩
    rw [List.length_map, List.length_range] at I
    refine ss_go (a.base le) ?_
    refine sq_if (b := b) (et_B (ee_var rfl)) (fun hb => ?_) fun hb => ?_
    · subst hb
      exact ss_ret (m := anyM fun m => (m = dt K .none ∧ NoL Y X c0 c1 t tab side own coin) ∨ learnsE K X Y c0 c1 t tab side own coin m) (ee_imp (m := dt K .none) ee_non fun F v r => ⟨_, .inl ⟨rfl, by rw [NoL, hn]; exact I.like cok⟩, r⟩) q
    · have elen : ∀ {Γ : Gm}, Γ[6]? = some (some (lsM K ((List.range n).map fun i => dt K (.int (ansN tab side own i))))) → EE (ownO p (dkO ms) pu) Γ (tCB (rLenS K) (tCons (tVar 6) tNil)) (dt K (.int (n : Int))) := fun h => ee_cast (ee_lenLM (ee_var h)) (by rw [List.length_map, List.length_range])
      refine ss_seq (ss_forR1 (K := K) (n := (n : Int)) (ea_one (elen rfl)) (by omega) (fun y σ H' => At ⟨pu, F, H⟩ (ownO p (dkO ms) pu) (Γ0 b) σ H' ∧ ∀ y' z', y' < y → y' < z' → z' < n → ansN tab side own y' = ansN tab side own z' → ctNe (cntN t c0 c1 side own coin y') (cntN t c0 c1 side own coin z') = false) (fun σ H' a => ⟨a, fun y' z' h => absurd h (Nat.not_lt_zero _)⟩) ?_ ?_)
      · rintro y σ2 H2 hy ⟨a2, hp⟩
        have hy' : y < n := by omega
        refine ss_go (a2.put (m := dt K (.int (y : Int))) (j := 10) (.int _)) ?_
        refine ss_forR2 (K := K) (lo := (y : Int) + 1) (n := (n : Int)) (ea_cons (ee_add (ee_var rfl) ee_int) (ea_one (elen rfl))) (by omega) (fun i σ H' => At ⟨pu, F, H⟩ (ownO p (dkO ms) pu) [some (heldI P w K C X Y c0 c1 t tab wm), some (dt K (.int (side : Int))), some (dt K (.int own)), some (dt K (.int coin)), some (lsM K ((List.range n).map fun i => ctM P w (cntN t c0 c1 side own coin i))), none, some (lsM K ((List.range n).map fun i => dt K (.int (ansN tab side own i)))), some (rawv (.ref p)), some (dt K (.bool b)), none, some (dt K (.int (y : Int))), none, none, none] σ H' ∧
          ∀ z', y < z' → z' < y + 1 + i → z' < n → ansN tab side own y = ansN tab side own z' → ctNe (cntN t c0 c1 side own coin y) (cntN t c0 c1 side own coin z') = false) (fun σ H' a => ⟨a, fun z' h1 h2 => absurd h1 (by omega)⟩) ?_ ?_
        · rintro i σ3 H3 hi ⟨a3, hq⟩
          have ez : (y : Int) + 1 + (i : Int) = ((y + 1 + i : Nat) : Int) := by omega
          rw [ez]
          have hz' : y + 1 + i < n := by omega
          generalize hzz : y + 1 + i = z at *
          refine ss_go (a3.put (m := dt K (.int (z : Int))) (j := 11) (.int _)) ?_
          refine ss_if (b := decide (ansN tab side own y = ansN tab side own z) && ctNe (cntN t c0 c1 side own coin y) (cntN t c0 c1 side own coin z)) (et_and (et_test (ee_eqI (ee_ixLM (j := y) (ee_var rfl) (ee_var rfl) rfl (ha y hy')) (ee_ixLM (j := z) (ee_var rfl) (ee_var rfl) rfl (ha z hz')))) fun _ => et_test (K := K) (ee_neT (ee_ixLM (j := y) (ee_var rfl) (ee_var rfl) rfl (hc y hy')) (ee_ixLM (j := z) (ee_var rfl) (ee_var rfl) rfl (hc z hz')))) (fun hb => ?_) fun hb => ?_
          · rw [Bool.and_eq_true] at hb
            obtain ⟨hb1, hb2⟩ := hb
            have hb1 := of_decide_eq_true hb1
            have hsay : ∃ i b f g, t = .say i b f g := by
              cases t with
              | say i b f g => exact ⟨i, b, f, g, rfl⟩
              | fin as =>
                rw [show cntN (.fin as) c0 c1 side own coin z = cntN (.fin as) c0 c1 side own coin y from cnt_fin _, ctNe_self (cok y)] at hb2
                cases hb2
            refine ss_seq (ss_set2A (K := K) (E := fun m => ∃ k, cget (cntN t c0 c1 side own coin y) k ≠ cget (cntN t c0 c1 side own coin z) k ∧ m = tpM K [tkM k, dt K (pairD (cget (cntN t c0 c1 side own coin y) k) (cget (cntN t c0 c1 side own coin z) k))]) (ee_call (Rel := r_first P w K) (R := unlikeM K (cntN t c0 c1 side own coin y) (cntN t c0 c1 side own coin z)) (ea_cons (ee_ixLM (j := y) (ee_var rfl) (ee_var rfl) rfl (hc y hy')) (ea_one (ee_ixLM (j := z) (ee_var rfl) (ee_var rfl) rfl (hc z hz')))) ⟨_, _, cnt_in ok.tk ok.h4 hsay (so y hy'), cnt_in ok.tk ok.h4 hsay (so z hz'), cnt_ne hcc, hb2, rfl, rfl⟩) ?_)
            rintro m ⟨k, hk, rfl⟩
            refine ⟨_, _, rfl, ?_⟩
            refine ss_ret (m := anyM fun m => (m = dt K .none ∧ NoL Y X c0 c1 t tab side own coin) ∨ learnsE K X Y c0 c1 t tab side own coin m) (ee_imp (m := learnsM K side own coin y z k (cget (cntN t c0 c1 side own coin y) k) (cget (cntN t c0 c1 side own coin z) k)) (ee_tupM (ea_cons ee_str (ea_cons (ee_var rfl) (ea_cons (ee_var rfl) (ea_cons (ee_var rfl) (ea_cons (ee_tup (ds := [.int (y : Int), .int (z : Int)]) (ea_cons (ee_var rfl) (ea_one (ee_var rfl))) (by show 2 ≤ 100000; decide)) (ea_cons (ee_var rfl) (ea_one (ee_var rfl)))))))) (by show 7 ≤ 100000; decide)) fun F v r => ⟨_, .inr ⟨y, z, k, by omega, by rw [hn]; exact hz', hb1, hk, rfl⟩, r⟩) q
          · intro σ4 H4 a4
            refine ⟨a4.le (.cons (.cons (.cons (.cons (.cons (.cons (.cons (.cons (.cons (.cons (.cons (.drop (.cons (.cons .nil)))))))))))))), fun z' g1 g2 g3 g4 => ?_⟩
            by_cases e : z' = z
            · subst e
              have : decide (ansN tab side own y = ansN tab side own z') = true := decide_eq_true g4
              rw [this, Bool.true_and] at hb
              exact hb
            · exact hq z' g1 (by omega) g3 g4
        · rintro σ3 H3 ⟨a3, hq⟩
          refine ⟨a3.le (.cons (.cons (.cons (.cons (.cons (.cons (.cons (.cons (.cons (.cons (.drop (.cons (.cons (.cons .nil)))))))))))))), fun y' z' g1 g2 g3 g4 => ?_⟩
          by_cases e : y' = y
          · subst e
            exact hq z' g2 (by omega) g3 g4
          · exact hp y' z' (by omega) g2 g3 g4
      · rintro σ2 H2 ⟨a2, hp⟩
        rw [Int.toNat_natCast] at hp
        refine ss_go (N := tRet (tC V.non) { nx := fun _ H' => Q .non H', rt := Q }) a2 (ss_ret (m := anyM fun m => (m = dt K .none ∧ NoL Y X c0 c1 t tab side own coin) ∨ learnsE K X Y c0 c1 t tab side own coin m) (ee_imp (m := dt K .none) ee_non fun F v r => ⟨_, .inl ⟨rfl, ?_⟩, r⟩) q)
        rw [NoL, hn]
        intro y z hy hz e
        by_cases h : y < z
        · exact hp y z hy h hz e
        · by_cases h' : z < y
          · exact ctNe_sym (cok z) (cok y) (hp z y hz h' hy e.symm)
          · have : y = z := by omega
            subst this
            exact ctNe_self (cok y)
end
end K46
/-! K46, part yb: learned, flaw_of. -/
namespace K46
open PySem L2
open Evl (Ex ex_l ex_t)
section
variable {P : Program} {w : World} {K : PySem.W.Frag} {mg : Str → Option Value} {base : Heap} {C : Addr}
theorem ee_notNT {M : Mode} {Γ : Gm} {ta : TE} {ms : List MP} (ha : EE M Γ ta (tpM K ms)) : EE M Γ (tOp (fun x y H Q => y = .non ∧ Q (.bl (!decide (x = .non))) H) ta (tC .non)) (dt K (.bool true)) :=
  ee_opv ha (ee_raw (v := .non)) fun F H x y ok ⟨p, xs, hx, _⟩ hy Q q => ⟨hy, q _ (by subst hx; exact .bl true)⟩
abbrev NoAll (X Y c0 c1 : Nat) (t : Tr) (tab : Tab) : Prop := ∀ side ∈ [0, 1], ∀ own coin : Nat, own < sz2 X Y side → coin < sz2 c0 c1 side → NoL Y X c0 c1 t tab side own coin
def someE (K : PySem.W.Frag) (X Y c0 c1 : Nat) (t : Tr) (tab : Tab) : MP → Prop := fun m => ∃ (side own coin : Nat), side ∈ [0, 1] ∧ own < sz2 X Y side ∧ coin < sz2 c0 c1 side ∧ learnsE K X Y c0 c1 t tab side own coin m
def lrnM (K : PySem.W.Frag) (X Y c0 c1 : Nat) (t : Tr) (tab : Tab) : MP := anyM fun m => (m = dt K .none ∧ NoAll X Y c0 c1 t tab) ∨ someE K X Y c0 c1 t tab m
def r_learned (P : Program) (w : World) (K : PySem.W.Frag) (C : Addr) : List MP → MP → Prop := fun Rs R => ∃ (X Y c0 c1 : Nat) (t : Tr) (tab : Tab) (wm : MP), FlawOk X Y c0 c1 t tab ∧ Rs = [heldI P w K C X Y c0 c1 t tab wm] ∧ R = lrnM K X Y c0 c1 t tab
abbrev C_learned (P : Program) (w : World) (K : PySem.W.Frag) (mg : Str → Option Value) (base : Heap) (C : Addr) : Prop := CalM P w K mg base 4 C "learned" p_Held_learned (spP (r_learned P w K C))
theorem sz2_ix {K : PySem.W.Frag} {M : Mode} {Γ : Gm} {te ts : TE} {side a b : Nat} (hs : side ∈ [0, 1]) (h1 : EE M Γ te (dt K (pairD (a : Int) (b : Int)))) (h2 : EE M Γ ts (dt K (.int (side : Int)))) : EE M Γ (tOp (rIx K) te ts) (dt K (.int (sz2 a b side : Nat))) := by
  rcases mem01 hs with rfl | rfl
  · exact ee_ixT (ds := [.int (a : Int), .int (b : Int)]) (j := 0) h1 h2 rfl rfl
  · exact ee_ixT (ds := [.int (a : Int), .int (b : Int)]) (j := 1) h1 h2 rfl rfl
theorem cal_learned (D : MetAt K C "learned" "Held.learned" s_Held_learned p_Held_learned) (T : Nm mg) (S : HeldC K C) (G_Held_learned_with : C_lw P w K mg base C) : C_learned P w K mg base C := by
  refine calM_P D sc_Held_learned (fun Rs R h => by obtain ⟨_, _, _, _, _, _, _, _, rfl, _⟩ := h; rfl) fun f cdv A outer s H E hr => ⟨_, (pss_cons (ps_for PassesOwn.never rfl (k_pt K (pe_tup (pa_cons pe_int (pa_cons pe_int pa_nil)))) (pg_name (i := 1) sc_Held_learned.nd rfl (Or.inl rfl)) (pss_one (ps_for PassesOwn.never rfl (pi_range1 (by rfl) T.range (pa_cons (pe_ix (k_ix K) (k_fld K (pv 0) rfl) (pv 1) (fun _ _ => rfl)) pa_nil)) (pg_name (i := 2) sc_Held_learned.nd rfl (Or.inl rfl)) (pss_one (ps_for PassesOwn.never rfl (pi_range1 (by rfl) T.range (pa_cons (pe_ix (k_ix K) (k_fld K (pv 0) rfl) (pv 1) (fun _ _ => rfl)) pa_nil)) (pg_name (i := 3) sc_Held_learned.nd rfl (Or.inl rfl)) (pss_cons (ps_set (i := 4) sc_Held_learned.nd rfl (Or.inl rfl) (pe_m (G_Held_learned_with.up (by decide)) hr (pv 0) (pa_cons (pv 1) (pa_cons (pv 2) (pa_cons (pv 3) pa_nil)))))
  (pss_one (ps_if (pt_cmpR op_notN (pv 4) pe_non (nomark _)) (pss_one (ps_ret (pv 4))) pss_nil))))))))
  (pss_one (ps_ret pe_non))), ?_⟩
  rintro Rs R ⟨X, Y, c0, c1, t, tab, wm, ok, rfl, rfl⟩ F Q q
  have bd : ∀ side, sz2 X Y side ≤ 100 ∧ sz2 c0 c1 side ≤ 200 := fun side => by
    have := ok.tk.X1; have := ok.tk.Y1; have := ok.tk.b0; have := ok.tk.b1
    unfold sz2; split <;> omega
  refine ss_seq (ss_for01 (K := K) (ee_tupM (ms := [dt K (.int 0), dt K (.int 1)]) (ea_cons ee_int (ea_one ee_int)) (by show 2 ≤ 100000; decide)) (fun _ _ => trivial)
    (fun Z' i σ H => At Z' pu [some (heldI P w K C X Y c0 c1 t tab wm), none, none, none, none] σ H ∧ ∀ side ∈ [0, 1], side < i → ∀ own coin : Nat, own < sz2 X Y side → coin < sz2 c0 c1 side → NoL Y X c0 c1 t tab side own coin) (fun Z' i σ H a => ⟨_, _, a.1⟩) (fun Z' hz' le σ H a => ⟨a, fun _ _ h => absurd h (Nat.not_lt_zero _)⟩) (fun Z' hz' le i σ1 H1 hi => ?_) fun Z' le σ1 H1 => ?_)
  · rintro ⟨a, hp⟩
    refine ss_go (a.put (m := dt K (.int (i : Int))) (j := 1) (.int _)) ?_
    have b1 := (bd i).1
    have b2 := (bd i).2
    refine ss_forR1 (K := K) (n := (sz2 X Y i : Nat)) (ea_one (sz2_ix hi (ee_fld (ee_var rfl) S.cl S.nI rfl) (ee_var rfl))) (by omega) (fun k σ H => At Z' pu [some (heldI P w K C X Y c0 c1 t tab wm), some (dt K (.int (i : Int))), none, none, none] σ H ∧ ∀ own coin : Nat, own < k → coin < sz2 c0 c1 i → NoL Y X c0 c1 t tab i own coin) (fun σ H a => ⟨a, fun _ _ h => absurd h (Nat.not_lt_zero _)⟩) ?_ ?_
    · rintro k σ2 H2 hk ⟨a2, hp2⟩
      refine ss_go (a2.put (m := dt K (.int (k : Int))) (j := 2) (.int _)) ?_
      refine ss_forR1 (K := K) (n := (sz2 c0 c1 i : Nat)) (ea_one (sz2_ix hi (ee_fld (ee_var rfl) S.cl S.nC rfl) (ee_var rfl))) (by omega) (fun c σ H => At Z' pu [some (heldI P w K C X Y c0 c1 t tab wm), some (dt K (.int (i : Int))), some (dt K (.int (k : Int))), none, none] σ H ∧ ∀ coin : Nat, coin < c → NoL Y X c0 c1 t tab i k coin) (fun σ H a => ⟨a, fun _ h => absurd h (Nat.not_lt_zero _)⟩) ?_ ?_
      · rintro c σ3 H3 hc ⟨a3, hp3⟩
        refine ss_go (a3.put (m := dt K (.int (c : Int))) (j := 3) (.int _)) ?_
        refine sq_set (m := anyM fun m => (m = dt K .none ∧ NoL Y X c0 c1 t tab i (k : Int) (c : Int)) ∨ learnsE K X Y c0 c1 t tab i (k : Int) (c : Int) m) (ee_meth (Rel := r_lw P w K C) (ee_var rfl) rfl (ea_cons (ee_var rfl) (ea_cons (ee_var rfl) (ea_one (ee_var rfl)))) ⟨X, Y, c0, c1, i, t, tab, wm, (k : Int), (c : Int), ok, hi, by omega, by omega, rfl, rfl⟩) ?_
        refine ss_case (j := 4) (by show 4 < 5; decide) rfl fun m hm => ?_
        rcases hm with ⟨rfl, hno⟩ | hl
        · refine ss_no (b := false) (et_is (et_test (ee_notN (d := .none) (ee_var rfl))) rfl) rfl ?_
          intro σ4 H4 a4
          refine ⟨a4.le (.cons (.cons (.cons (.drop (.drop .nil))))), fun coin hcn => ?_⟩
          by_cases e : coin = c
          · rw [e]; exact hno
          · exact hp3 coin (by omega)
        · obtain ⟨y, z, kk, g1, g2, g3, g4, rfl⟩ := id hl
          refine ss_if (b := true) (et_test (ee_notNT (ee_var rfl))) (fun _ => ?_) fun h => nomatch h
          exact ss_ret (m := lrnM K X Y c0 c1 t tab) (ee_imp (ee_var rfl) fun F v r => ⟨_, .inr ⟨i, k, c, hi, by omega, by omega, hl⟩, r⟩) (q.base le)
      · rintro σ3 H3 ⟨a3, hp3⟩
        refine ⟨a3.le (.cons (.cons (.drop (.drop (.drop .nil))))), fun own coin h1 h2 => ?_⟩
        by_cases e : own = k
        · rw [e]; exact hp3 coin (by omega)
        · exact hp2 own coin (by omega) h2
    · rintro σ2 H2 ⟨a2, hp2⟩
      refine ⟨a2.le (.cons (.drop (.drop (.drop (.drop .nil))))), fun side hs hlt own coin h1 h2 => ?_⟩
      by_cases e : side = i
      · subst e
        exact hp2 own coin (by omega) h2
      · exact hp side hs (by omega) own coin h1 h2
  · rintro ⟨a, hp⟩
    refine ss_go (N := tRet (tC V.non) { nx := fun _ H' => Q .non H', rt := Q }) (a.base le) (ss_ret (m := lrnM K X Y c0 c1 t tab) (ee_imp (m := dt K .none) ee_non fun F v r => ⟨_, .inl ⟨rfl, fun side hs own coin => hp side hs ?_ own coin⟩, r⟩) q)
    rcases mem01 hs with rfl | rfl <;> decide
/-- a flaw, or none -/
def flawM (K : PySem.W.Frag) (X Y c0 c1 : Nat) (t : Tr) (tab : Tab) : MP := anyM fun m => (m = dt K .none ∧ agOn t tab (InOk X Y c0 c1) ∧ NoAll X Y c0 c1 t tab) ∨ (∃ x y r s side, InOk X Y c0 c1 x y r s ∧ side ∈ [0, 1] ∧ ansS t x y r s side ≠ cell tab x y ∧ m = dt K (wrongD x y r s side)) ∨ someE K X Y c0 c1 t tab m
def r_flaw (K : PySem.W.Frag) : List MP → MP → Prop := fun Rs R => ∃ (X Y c0 c1 : Nat) (t : Tr) (tab : Tab), FlawOk X Y c0 c1 t tab ∧ Rs = [dt K (talkD c0 c1 t), dt K (tabD tab)] ∧ R = flawM K X Y c0 c1 t tab
abbrev C_flaw (P : Program) (w : World) (K : PySem.W.Frag) (mg : Str → Option Value) (base : Heap) : Prop := Cal P w K mg base 8 "flaw_of" p_flaw_of (spP (r_flaw K))
theorem cal_flaw (D : DefAt K mg "flaw_of" "flaw_of" s_flaw_of p_flaw_of) (T : Nm mg) (S : HeldC K C) (G_check_talk : C_check_talk P w K mg base) (G_Held : C_Held P w K mg base C) (G_Held_learned : C_learned P w K mg base C) : C_flaw P w K mg base := by
  refine cal_P D sc_flaw_of (fun Rs R h => by obtain ⟨_, _, _, _, _, _, _, rfl, _⟩ := h; rfl) fun f cdv A outer s H E hr => ⟨_, (pss_cons (ps_expr (pe_c (G_check_talk.up (by decide)) hr (by rfl) (pa_cons (pv 0) (pa_cons (pv 1) pa_nil))))
  (pss_cons (ps_set (i := 2) sc_flaw_of.nd rfl (Or.inl rfl) (pe_k (G_Held.up (by decide)) hr (by rfl) (pa_cons (pv 0) (pa_cons (pv 1) pa_nil))))
  (pss_one (ps_ret (pe_ifExp (pt_cmpR op_isN (k_fld K (pv 2) rfl) pe_non (nomark _)) (pe_m0 (G_Held_learned.up (by decide)) hr (pv 2)) (k_fld K (pv 2) rfl)))))), ?_⟩
  rintro Rs R ⟨X, Y, c0, c1, t, tab, ok, rfl, rfl⟩ F Q q
  refine sq_drop (m := dt K .none) (ee_call (Rel := r_check_talk K) (ea_cons (ee_var rfl) (ea_one (ee_var rfl))) ⟨tab, X, Y, c0, c1, t, ok.tb, ok.tk, rfl, rfl⟩) ?_
  refine sq_set (m := anyM fun m => ∃ m0, wrE K X Y c0 c1 t tab (agOn t tab (InOk X Y c0 c1)) m0 ∧ m = heldI P w K C X Y c0 c1 t tab m0) (ee_imp (ee_make (Rel := r_Held P w K C) (fs := heldM' P w K C X Y c0 c1 t tab) (ea_cons (ee_var rfl) (ea_one (ee_var rfl))) ⟨X, Y, c0, c1, t, tab, ok, rfl, rfl⟩) fun F v ⟨p, dx, vs, e, hp, pf⟩ => ?_) ?_
  · obtain ⟨m0, hm0, pf2⟩ := pf.lastE
    exact ⟨_, ⟨m0, hm0, rfl⟩, p, dx, vs, e, hp, pf2⟩
  refine ss_case (j := 2) (by show 2 < 3; decide) rfl fun m hm => ?_
  obtain ⟨m0, hm0, rfl⟩ := hm
  rcases hm0 with ⟨rfl, hag⟩ | ⟨x, y, r, s, side, io, hs, hne, rfl⟩
  · refine ss_ret (m := flawM K X Y c0 c1 t tab) (ee_if (a := true) (et_test (ee_isN (d := .none) (ee_fld (ee_var rfl) S.cl S.nW rfl))) (fun _ => ?_) fun h => nomatch h) q
    refine ee_imp (ee_meth (Rel := r_learned P w K C) (Rs := []) (R := lrnM K X Y c0 c1 t tab) (ee_var rfl) rfl ea_nil ⟨X, Y, c0, c1, t, tab, _, ok, rfl, rfl⟩) fun F v ⟨m, hm, r⟩ => ⟨m, ?_, r⟩
    rcases hm with ⟨e, hno⟩ | hm
    · exact .inl ⟨e, hag, hno⟩
    · exact .inr (.inr hm)
  · refine ss_ret (m := flawM K X Y c0 c1 t tab) (ee_if (a := false) (et_is (et_test (ee_isN (d := wrongD x y r s side) (ee_fld (ee_var rfl) S.cl S.nW rfl))) rfl) (fun h => nomatch h) fun _ => ?_) q
    exact ee_imp (ee_fld (m := dt K (wrongD x y r s side)) (ee_var rfl) S.cl S.nW rfl) fun F v r' => ⟨_, .inr (.inl ⟨x, y, r, s, side, io, hs, hne, rfl⟩), r'⟩
end
end K46
/-! K46, part yc: the law's own search and test. -/
namespace K46
open PySem L2
open Evl (Ex ex_l ex_t)
section
variable {P : Program} {w : World} {K : PySem.W.Frag} {Z : Zr} {M : Mode} {Γ : Gm} {ta td ty tx tv : TE} {m m0 : MP} {D : Ends} {p : Addr} {t : TS} {ms : List (Int × MP)} {i : Int} {o : OP} {N : St → Hp → Prop}
/-- what is owned is owned no more -/
theorem ss_forget (hsub : ∀ a, Z.M.S a → M.S a) (hz : ∀ F H, M.I F H → Z.M.I F H) (k : SS Z M Γ N) : SS Z (ownO p o M) Γ N := fun σ H a => by
  obtain ⟨F, p0, ok, e⟩ := a.ex
  exact k σ H ⟨⟨F, p0, ok.up (fun _ s => .inr s) (fun _ _ w => w.2), e⟩, hsub, fun b s => a.own b (.inr s), hz⟩
theorem ee_getK (h1 : EE (ownO p (dkO ms) M) Γ td (rawv (.ref p))) (h2 : EE (ownO p (dkO ms) M) Γ ty (dt K (.int i))) (h3 : EE (ownO p (dkO ms) M) Γ tx m0) : EE (ownO p (dkO ms) M) Γ (tDGet2 td ty tx) ((mfind ms i).getD m0) := fun F H σ en ok Q q =>
  h1 F H σ en ok _ fun v F1 H1 p1 o1 r1 => by
    cases r1
    obtain ⟨⟨_, _, hp1, kvs1, rfl, _⟩, _⟩ := id o1.iv
    refine ⟨p, rfl, .inl ⟨kvs1, .inl hp1⟩, h2 F1 H1 σ (en.mono p1.fx) o1 _ fun y F2 H2 p2 o2 r2 => h3 F2 H2 σ ((en.mono p1.fx).mono p2.fx) o2 _ fun z F3 H3 p3 o3 r3 => ?_⟩
    cases dp_int r2
    obtain ⟨⟨_, _, hp3, kvs, rfl, km⟩, _⟩ := id o3.iv
    refine ⟨_, DGet.k (k := .inl i) hp3, ?_⟩
    rcases km.find (i := i) with ⟨e1, e2⟩ | ⟨m, v', e1, e2, e3⟩
    · rw [e2]
      rw [e1] at q
      exact q _ F3 H3 ((p1.trans p2).trans p3) o3 r3
    · rw [e2]
      rw [e1] at q
      exact q _ F3 H3 ((p1.trans p2).trans p3) o3 e3
theorem ss_putK (hv : EE (ownO p (dkO ms) M) Γ tv m) (hd : EE (ownO p (dkO ms) M) Γ td (rawv (.ref p))) (hk : EE (ownO p (dkO ms) M) Γ ty (dt K (.int i))) (hl : ms.length < 90000) (hz : ∀ F H, M.I F H → Z.M.I F H) (h : SS Z (ownO p (dkO (mput ms i m)) M) Γ D.nx) :
    SS Z (ownO p (dkO ms) M) Γ (sDPut td ty tv D) := fun σ H a => by
  obtain ⟨F, p0, o, e⟩ := a.ex
  refine hv F H σ e o _ fun v F1 H1 p1 o1 r1 => hd F1 H1 σ (e.mono p1.fx) o1 _ fun x F2 H2 p2 o2 r2 => hk F2 H2 σ ((e.mono p1.fx).mono p2.fx) o2 _ fun y F3 H3 p3 o3 r3 => ?_
  cases r2
  cases dp_int r3
  obtain ⟨⟨_, _, hp3, kvs, rfl, km⟩, _⟩ := id o3.iv
  refine ⟨p, _, rfl, DPut.k (k := .inl i) hp3 (by rw [km.length, sizeLine_eq]; omega), ?_⟩
  exact h _ _ ⟨⟨F3, Pu.wr a.own (.inl rfl) (Pu.out a.own p0 ((p1.trans p2).trans p3)), ownO_wr o3 ⟨_, rfl, km.put (m.mono (p2.fx.trans p3.fx) r1)⟩, ((e.mono p1.fx).mono p2.fx).mono p3.fx⟩, a.sub, a.own, fun F' H' w => hz F' H' w.2⟩
end
theorem eqv_pair (a b c d : Int) : PyData.eqv (pairD a b) (pairD c d) = (decide (a = c) && decide (b = d)) := by
  by_cases h1 : a = c <;> by_cases h2 : b = d <;> simp [PyData.eqv, PyData.eqvAll, h1, h2]
section
variable {P : Program} {w : World} {K : PySem.W.Frag} {mg : Str → Option Value} {base : Heap} {C : Addr}
abbrev s__law_has_flaw : Stmt := top 41
abbrev n__law_has_flaw : List Str := ["_law_talk", "_law_table_here", "_law_sizes", "_law_x", "_law_y", "_law_r", "_law_s", "_law_side", "_law_mine", "_law_coin", "_law_seen", "_law_other", "_law_answer_here", "_law_counts_here"]
abbrev p__law_has_flaw : List Str := ["_law_talk", "_law_table_here"]
theorem sc__law_has_flaw : FnScope n__law_has_flaw p__law_has_flaw (defScope s__law_has_flaw) := ⟨rfl, rfl, rfl, by decide +kernel, rfl, by decide +kernel, by decide +kernel⟩
abbrev s__law_is_flaw : Stmt := top 40
abbrev n__law_is_flaw : List Str := ["_law_talk", "_law_table_here", "_law_flaw", "_law_sizes", "_law_kind", "_law_inputs", "_law_coins", "_law_side", "_law_right", "_law_mine", "_law_coin", "_law_others", "_law_bits_here", "_law_counts_here", "_law_first", "_law_second"]
abbrev p__law_is_flaw : List Str := ["_law_talk", "_law_table_here", "_law_flaw"]
theorem sc__law_is_flaw : FnScope n__law_is_flaw p__law_is_flaw (defScope s__law_is_flaw) := ⟨rfl, rfl, rfl, by decide +kernel, rfl, by decide +kernel, by decide +kernel⟩
def r_has (K : PySem.W.Frag) : List MP → MP → Prop := fun Rs R => ∃ (X Y c0 c1 : Nat) (t : Tr) (tab : Tab), FlawOk X Y c0 c1 t tab ∧ agOn t tab (InOk X Y c0 c1) ∧ NoAll X Y c0 c1 t tab ∧ Rs = [dt K (talkD c0 c1 t), dt K (tabD tab)] ∧ R = dt K (.bool false)
abbrev C_has (P : Program) (w : World) (K : PySem.W.Frag) (mg : Str → Option Value) (base : Heap) : Prop := Cal P w K mg base 3 "_law_has_flaw" p__law_has_flaw (spP (r_has K))
theorem cal_has (D : DefAt K mg "_law_has_flaw" "_law_has_flaw" s__law_has_flaw p__law_has_flaw) (T : Nm mg) (G__law_held : C_lheld P w K mg base) (G__law_answer : C_lanswer P w K mg base) (G__law_counts : C_lcounts P w K mg base) : C_has P w K mg base := by
  refine cal_P D sc__law_has_flaw (fun Rs R h => by obtain ⟨_, _, _, _, _, _, _, _, _, rfl, _⟩ := h; rfl) fun f cdv A outer s H E hr => ?_
  have hu := hu_of hr
  refine ⟨_, (pss_cons (ps_set (i := 2) sc__law_has_flaw.nd rfl (Or.inl rfl) (pe_tup (pa_cons (pe_callB (k_len K) (by rfl) T.len (by decide +kernel) (pa_cons (pv 1) pa_nil)) (pa_cons (pe_callB (k_len K) (by rfl) T.len (by decide +kernel) (pa_cons (pe_ix (k_ix K) (pv 1) pe_int (fun _ _ => rfl)) pa_nil)) pa_nil))))
  (pss_cons (ps_for PassesOwn.never rfl (pi_range1 (by rfl) T.range (pa_cons (pe_ix (k_ix K) (pv 2) pe_int (fun _ _ => rfl)) pa_nil)) (pg_name (i := 3) sc__law_has_flaw.nd rfl (Or.inl rfl)) (pss_one (ps_for PassesOwn.never rfl (pi_range1 (by rfl) T.range (pa_cons (pe_ix (k_ix K) (pv 2) pe_int (fun _ _ => rfl)) pa_nil)) (pg_name (i := 4) sc__law_has_flaw.nd rfl (Or.inl rfl)) (pss_one (ps_for PassesOwn.never rfl (pi_range1 (by rfl) T.range (pa_cons (pe_ix (k_ix K) (pv 0) pe_int (fun _ _ => rfl)) pa_nil)) (pg_name (i := 5) sc__law_has_flaw.nd rfl (Or.inl rfl)) (pss_one (ps_for PassesOwn.never rfl (pi_range1 (by rfl) T.range (pa_cons (pe_ix (k_ix K) (pv 0) pe_int (fun _ _ => rfl)) pa_nil)) (pg_name (i := 6) sc__law_has_flaw.nd rfl (Or.inl rfl)) (pss_one (ps_if (pt_cmpR (k_neD K hr.units) (pe_ix (k_ix K) (pe_c (G__law_held.up (by decide)) hr (by rfl) (pa_cons (pv 0) (pa_cons (pe_tup (pa_cons (pv 3) (pa_cons (pv 4) pa_nil))) (pa_cons (pe_tup (pa_cons (pv 5) (pa_cons (pv 6) pa_nil))) pa_nil)))) pe_int (fun _ _ => rfl)) (pe_tup (pa_cons (pe_ix (k_ix K) (pe_ix (k_ix K) (pv 1) (pv 3) (fun _ _ => rfl)) (pv 4) (fun _ _ => rfl)) (pa_cons (pe_ix (k_ix K) (pe_ix (k_ix K) (pv 1) (pv 3) (fun _ _ => rfl)) (pv 4) (fun _ _ => rfl)) pa_nil))) (nomark _)) (pss_one (ps_ret pe_bl)) pss_nil)))))))))
  (pss_cons (ps_for PassesOwn.never rfl (pi_range1 (by rfl) T.range (pa_cons pe_int pa_nil)) (pg_name (i := 7) sc__law_has_flaw.nd rfl (Or.inl rfl)) (pss_one (ps_for PassesOwn.never rfl (pi_range1 (by rfl) T.range (pa_cons (pe_ix (k_ix K) (pv 2) (pv 7) (fun _ _ => rfl)) pa_nil)) (pg_name (i := 8) sc__law_has_flaw.nd rfl (Or.inl rfl)) (pss_one (ps_for PassesOwn.never rfl (pi_range1 (by rfl) T.range (pa_cons (pe_ix (k_ix K) (pv 0) (pe_op op_add pe_int (pv 7)) (fun _ _ => rfl)) pa_nil)) (pg_name (i := 9) sc__law_has_flaw.nd rfl (Or.inl rfl)) (pss_cons (ps_set (i := 10) sc__law_has_flaw.nd rfl (Or.inl rfl) (pe_dnewK))
  (pss_one (ps_for PassesOwn.never rfl (pi_range1 (by rfl) T.range (pa_cons (pe_ix (k_ix K) (pv 2) (pe_op op_sub pe_int (pv 7)) (fun _ _ => rfl)) pa_nil)) (pg_name (i := 11) sc__law_has_flaw.nd rfl (Or.inl rfl)) (pss_cons (ps_set (i := 12) sc__law_has_flaw.nd rfl (Or.inl rfl) (pe_c (G__law_answer.up (by decide)) hr (by rfl) (pa_cons (pv 1) (pa_cons (pv 7) (pa_cons (pv 8) (pa_cons (pv 11) pa_nil))))))
  (pss_cons (ps_set (i := 13) sc__law_has_flaw.nd rfl (Or.inl rfl) (pe_c (G__law_counts.up (by decide)) hr (by rfl) (pa_cons (pv 0) (pa_cons (pv 7) (pa_cons (pv 8) (pa_cons (pv 9) (pa_cons (pv 11) pa_nil)))))))
  (pss_cons (ps_if (pt_cmpR (op_neT hr.units) (pe_dget2 hu (pv 10) (pv 12) (pv 13) ⟨by rfl, by rfl, by rfl, by rfl⟩) (pv 13) (nomark _)) (pss_one (ps_ret pe_bl)) pss_nil)
  (pss_one (ps_dput hu (pv 10) (pv 12) (pv 13) rfl)))))))))))))
  (pss_one (ps_ret pe_bl))))), ?_⟩
  rintro Rs R ⟨X, Y, c0, c1, t, tab, ok, hag, hno, rfl, rfl⟩ F Q q
  have X1 := ok.tk.X1
  have Y1 := ok.tk.Y1
  have b0 := ok.tk.b0
  have b1 := ok.tk.b1
  obtain ⟨r0, hr0, hr0l⟩ := tab_row0 ok.tb X1.1
  have bd : ∀ side, sz2 X Y side ≤ 100 ∧ sz2 c0 c1 side ≤ 200 ∧ sz2 Y X side ≤ 100 := fun side => by
    unfold sz2; refine ⟨?_, ?_, ?_⟩ <;> split <;> omega
  let g : MP → MP → Option MP → Option MP → Option MP → Option MP → Option MP → Option MP → Option MP → Gm := fun a b x y r s sd mi co => [some a, some b, some (dt K (pairD (X : Int) (Y : Int))), x, y, r, s, sd, mi, co, none, none, none, none]
  let g0 := g (dt K (talkD c0 c1 t)) (dt K (tabD tab))
  have tk : ∀ {Γ : Gm} {M : Mode} {te : TE} (j : Nat) (z : Int), Γ[0]? = some (some (dt K (talkD c0 c1 t))) → EE M Γ te (dt K (.int z)) → z = (j : Int) → ∀ d, [PyData.str "talk", .int (c0 : Int), .int (c1 : Int), t.D false][j]? = some d → EE M Γ (tOp (rIx K) (tVar 0) te) (dt K d) := fun j z h0 he ez d hd => ee_ixT (ds := [.str "talk", .int (c0 : Int), .int (c1 : Int), t.D false]) (j := j) (ee_var h0) he ez hd
  have szs : ∀ {Γ : Gm} {M : Mode} {te : TE} (j : Nat) (z : Int), Γ[2]? = some (some (dt K (pairD (X : Int) (Y : Int)))) → EE M Γ te (dt K (.int z)) → z = (j : Int) → ∀ d, [PyData.int (X : Int), .int (Y : Int)][j]? = some d → EE M Γ (tOp (rIx K) (tVar 2) te) (dt K d) := fun j z h0 he ez d hd => ee_ixT (ds := [.int (X : Int), .int (Y : Int)]) (j := j) (ee_var h0) he ez hd
  refine sq_set (m := dt K (pairD (X : Int) (Y : Int))) (ee_tup (ds := [.int (X : Int), .int (Y : Int)]) (ea_cons (ee_cast (ee_lenT (ds := tab.map rowD) (ee_var rfl)) (by rw [tab_len ok.tb])) (ea_one (ee_cast (ee_lenT (ds := r0.map .int) (ee_ixT (ds := tab.map rowD) (j := 0) (ee_var rfl) ee_int rfl hr0)) (by rw [List.length_map, hr0l])))) (by show 2 ≤ 100000; decide)) ?_
  refine ss_seq (ss_forG (K := K) (n := (X : Int)) (fun _ => g0 none none none none none none none) (ea_one (szs 0 _ rfl ee_int rfl _ rfl)) (by omega) (.refl _) (fun x hx => ?_) ?_)
  · refine ss_forG (K := K) (n := (Y : Int)) (fun _ => g0 (some (dt K (.int (x : Int)))) none none none none none none) (ea_one (szs 1 _ rfl ee_int rfl _ rfl)) (by omega) (.refl _) (fun y hy => ?_) (ss_le ss_at (.cons (.cons (.cons (.drop (.refl _))))))
    refine ss_forG (K := K) (n := (c0 : Int)) (fun _ => g0 (some (dt K (.int (x : Int)))) (some (dt K (.int (y : Int)))) none none none none none) (ea_one (tk 1 _ rfl ee_int rfl _ rfl)) (by omega) (.refl _) (fun r hr' => ?_) (ss_le ss_at (.cons (.cons (.cons (.cons (.drop (.refl _)))))))
    refine ss_forG (K := K) (n := (c1 : Int)) (fun _ => g0 (some (dt K (.int (x : Int)))) (some (dt K (.int (y : Int)))) (some (dt K (.int (r : Int)))) none none none none) (ea_one (tk 2 _ rfl ee_int rfl _ rfl)) (by omega) (.refl _) (fun s hs => ?_) (ss_le ss_at (.cons (.cons (.cons (.cons (.cons (.drop (.refl _))))))))
    have io : InOk X Y c0 c1 (x : Int) (y : Int) (r : Int) (s : Int) := ⟨by omega, by omega, by omega, by omega⟩
    obtain ⟨row, e1, e2⟩ := cell_get ok.tb io.x io.y
    have cl : ∀ {M : Mode} {Γ : Gm}, Γ[1]? = some (some (dt K (tabD tab))) → Γ[3]? = some (some (dt K (.int (x : Int)))) → Γ[4]? = some (some (dt K (.int (y : Int)))) → EE M Γ (tOp (rIx K) (tOp (rIx K) (tVar 1) (tVar 3)) (tVar 4)) (dt K (.int (cell tab x y))) := fun h1 h3 h4 => ee_cell (v := tab) (row := row) (ee_var h1) (ee_var h3) (ee_var h4) io.x.1 io.y.1 e1 e2
    have a0 := hag _ _ _ _ io 0 (by decide)
    have a1 := hag _ _ _ _ io 1 (by decide)
    refine ss_no (b := false) (et_is (et_test (ee_neD (d := pairD (heldS x y r s t).2.1 (heldS x y r s t).2.2) (e := pairD (cell tab x y) (cell tab x y)) (ee_ixTM (ms := [tkM (heldS x y r s t).1, dt K (pairD (heldS x y r s t).2.1 (heldS x y r s t).2.2)]) (j := 1) (ee_call (Rel := r_hold K) (ea_cons (ee_var (i := 0) rfl) (ea_cons (ee_tup (ds := [.int (x : Int), .int (y : Int)]) (ea_cons (ee_var (i := 3) rfl) (ea_one (ee_var (i := 4) rfl))) (by show 2 ≤ 100000; decide)) (ea_one (ee_tup (ds := [.int (r : Int), .int (s : Int)]) (ea_cons (ee_var (i := 5) rfl) (ea_one (ee_var (i := 6) rfl))) (by show 2 ≤ 100000; decide))))) ⟨X, Y, c0, c1, t, x, y, r, s, ok.tk, io, rfl, rfl⟩) ee_int rfl rfl)
      (ee_tup (ds := [.int (cell tab x y), .int (cell tab x y)]) (ea_cons (cl rfl rfl rfl) (ea_one (cl rfl rfl rfl))) (by show 2 ≤ 100000; decide)) rfl rfl)) ?_) rfl (ss_le ss_at (.cons (.cons (.cons (.cons (.cons (.cons (.drop (.refl _)))))))))
    have a0 : (heldS x y r s t).2.1 = cell tab x y := a0
    have a1 : (heldS x y r s t).2.2 = cell tab x y := a1
    rw [a0, a1, eqv_pair]
    simp
  refine ss_seq (ss_forG (K := K) (n := 2) (fun _ => g0 none none none none none none none) (ea_one ee_int) (by omega) (.refl _) (fun side hsd => ?_) ?_)
  · have hs : side ∈ [0, 1] := by
      have : side = 0 ∨ side = 1 := by omega
      rcases this with rfl | rfl <;> decide
    have b := bd side
    refine ss_forG (K := K) (n := (sz2 X Y side : Nat)) (fun _ => g0 none none none none (some (dt K (.int (side : Int)))) none none) (ea_one (sz2_ix hs (ee_var rfl) (ee_var rfl))) (by omega) (.refl _) (fun mine hm => ?_) (ss_le ss_at (.cons (.cons (.cons (.cons (.cons (.cons (.cons (.drop (.refl _))))))))))
    have esz : ∀ {M : Mode} {Γ : Gm}, Γ[0]? = some (some (dt K (talkD c0 c1 t))) → Γ[7]? = some (some (dt K (.int (side : Int)))) → EE M Γ (tOp (rIx K) (tVar 0) (tOp (rI0 fun i j => .int (i + j)) (tC (.int 1)) (tVar 7))) (dt K (.int (sz2 c0 c1 side : Nat))) := fun h0 h7 => by
      rcases mem01 hs with rfl | rfl
      · exact tk 1 _ h0 (ee_add ee_int (ee_var h7)) rfl _ rfl
      · exact tk 2 _ h0 (ee_add ee_int (ee_var h7)) rfl _ rfl
    refine ss_forG (K := K) (n := (sz2 c0 c1 side : Nat)) (fun _ => g0 none none none none (some (dt K (.int (side : Int)))) (some (dt K (.int (mine : Int)))) none) (ea_one (esz rfl rfl)) (by omega) (.refl _) (fun coin hc => ?_) (ss_le ss_at (.cons (.cons (.cons (.cons (.cons (.cons (.cons (.cons (.drop (.refl _)))))))))))
    refine sq_newD fun p => ?_
    have hno1 := hno side hs mine coin (by omega) (by omega)
    have cok : ∀ i, CtOk (cntN t c0 c1 side (mine : Int) (coin : Int) i) := fun i => cnt_ok _ _ _ _ _ _
    let Γ1 : Gm := [some (dt K (talkD c0 c1 t)), some (dt K (tabD tab)), some (dt K (pairD (X : Int) (Y : Int))), none, none, none, none, some (dt K (.int (side : Int))), some (dt K (.int (mine : Int))), some (dt K (.int (coin : Int))), some (rawv (.ref p)), none, none, none]
    refine ss_forR1 (K := K) (n := (sz2 Y X side : Nat)) (ea_one (other_len hs (ee_var rfl) (ee_var rfl))) (by omega) (fun j σ H' => ∃ ms : List (Int × MP), At ⟨pu, F, H⟩ (ownO p (dkO ms) pu) Γ1 σ H' ∧ ms.length ≤ j ∧ ∀ a m, mfind ms a = some m → ∃ i, i < j ∧ ansN tab side (mine : Int) i = a ∧ m = ctM P w (cntN t c0 c1 side (mine : Int) (coin : Int) i)) (fun σ H' a => ⟨[], a, Nat.le_refl _, fun a m h => nomatch h⟩) ?_ ?_
    · rintro j σ1 H1 hj ⟨ms, a, hl, hms⟩
      have hj' : j < sz2 Y X side := by omega
      refine ss_go (a.put (m := dt K (.int (j : Int))) (j := 11) (.int _)) ?_
      have so : SideOk X Y c0 c1 side (mine : Int) (coin : Int) (j : Int) := ⟨hs, by omega, by omega, by omega⟩
      refine sq_set (m := dt K (.int (ansN tab side (mine : Int) j))) (ee_call (Rel := r_lanswer K) (ea_cons (ee_var rfl) (ea_cons (ee_var rfl) (ea_cons (ee_var rfl) (ea_one (ee_var rfl))))) ⟨X, Y, side, tab, (mine : Int), (j : Int), ok.tb, hs, so.own, so.oth, rfl, rfl⟩) ?_
      refine sq_set (m := ctM P w (cntN t c0 c1 side (mine : Int) (coin : Int) j)) (ee_call (Rel := r_lcounts P w K) (ea_cons (ee_var rfl) (ea_cons (ee_var rfl) (ea_cons (ee_var rfl) (ea_cons (ee_var rfl) (ea_one (ee_var rfl)))))) ⟨X, Y, c0, c1, side, t, (mine : Int), (coin : Int), (j : Int), ok.tk, so, rfl, rfl⟩) ?_
      obtain ⟨c', ec, hne⟩ : ∃ c', (mfind ms (ansN tab side (mine : Int) j)).getD (ctM P w (cntN t c0 c1 side (mine : Int) (coin : Int) j)) = ctM P w c' ∧ ctNe c' (cntN t c0 c1 side (mine : Int) (coin : Int) j) = false := by
        cases hf : mfind ms (ansN tab side (mine : Int) j) with
        | none => exact ⟨_, rfl, ctNe_self (cok j)⟩
        | some m =>
          obtain ⟨i, hi, hi2, rfl⟩ := hms _ m hf
          exact ⟨_, rfl, hno1 i j (by omega) hj' hi2⟩
      refine sq_no (b := false) (et_is (et_test (K := K) (ee_neT (c := c') (ec ▸ ee_getK (K := K) (ee_var rfl) (ee_var rfl) (ee_var rfl)) (ee_var rfl))) hne) rfl ?_
      refine ss_putK (K := K) (ee_var rfl) (ee_var rfl) (ee_var rfl) (by omega) (fun _ _ _ => trivial) fun σ2 H2 a2 => ⟨_, a2.le (.cons (.cons (.cons (.cons (.cons (.cons (.cons (.cons (.cons (.cons (.cons (.drop (.drop (.drop .nil)))))))))))))), Nat.le_trans (mput_len _ _ _) (Nat.succ_le_succ hl), fun a m hm => ?_⟩
      rw [mfind_put] at hm
      split at hm
      · rename_i e
        cases hm
        exact ⟨j, Nat.lt_succ_self _, e.symm, rfl⟩
      · obtain ⟨i, h1, h2, h3⟩ := hms a m hm
        exact ⟨i, by omega, h2, h3⟩
    · rintro σ1 H1 ⟨ms, a, _⟩
      refine ss_go a (ss_forget (Z := ⟨pu, F, H⟩) (M := pu) (fun _ h => h) (fun _ _ _ => trivial) (ss_le ss_at ?_))
      exact .cons (.cons (.cons (.cons (.cons (.cons (.cons (.cons (.cons (.drop (.drop (.refl _)))))))))))
  · exact ss_ret (Z := ⟨pu, F, H⟩) (D := { nx := fun _ H' => Q .non H', rt := Q }) (m := dt K (.bool false)) ee_bl q
end
end K46
/-! K46, part yd: the law's test of a flaw. -/
namespace K46
open PySem L2
open Evl (Ex ex_l ex_t)
section
variable {P : Program} {w : World} {K : PySem.W.Frag} {mg : Str → Option Value} {base : Heap} {C : Addr}
def gAll : List Nat → TGs
  | [] => gNil
  | i :: r => gCons (gName i) (gAll r)
def setAll : Gm → List Nat → List MP → Gm
  | Γ, i :: r, m :: s => setAll (Γ.set i (some m)) r s
  | Γ, _, _ => Γ
theorem g_all {F H : Hp} {Q : St → Hp → Prop} : ∀ {is : List Nat} {ms : List MP} {xs : List V} {Γ : Gm} {σ : St}, is.length = ms.length → PM F xs ms → En F σ Γ → (∀ σ', En F σ' (setAll Γ is ms) → Q σ' H) → gAll is xs σ H Q
  | [], [], _, Γ, σ, _, .nil, e, k => ⟨rfl, k σ e⟩
  | i :: r, m :: s, _, Γ, σ, hl, .cons h t, e, k => ⟨_, _, rfl, g_all (is := r) (ms := s) (by simpa using hl) t (e.set h) k⟩
  | [], _ :: _, _, _, _, hl, _, _, _ => by simp at hl
  | _ :: _, [], _, _, _, hl, _, _, _ => by simp at hl
/-- a, b, .. = e -/
theorem ss_setN {Z : Zr} {M : Mode} {Γ : Gm} {te : TE} {D : Ends} {ms : List MP} {n : Nat} (is : List Nat) (h : EE M Γ te (tpM K ms)) (hl : is.length = ms.length) (hn : ms.length = n) (k : SS Z M (setAll Γ is ms) D.nx) : SS Z M Γ (tAsg te (gTup K n (gAll is)) D) := fun σ H a => by
  obtain ⟨F, p0, o, e⟩ := a.ex
  refine h F H σ e o _ fun v F1 H1 p1 o1 ⟨b, xs, ev, hs, pm⟩ => ⟨b, xs, ev, ex_t o1.ex hs, by rw [pm.length, hn], g_all hl pm (e.mono p1.fx) fun σ' e' => k _ _ (a.step p0 p1 o1 e')⟩
theorem ee_isiT {M : Mode} {Γ : Gm} {te : TE} {ms : List MP} {n : String} {b : Bool} (h : EE M Γ te (tpM K ms)) (hb : kitB "tuple" n = some b) : EE M Γ (tCB (rIsi K) (tCons te (tCons (tC (.ty n)) tNil))) (dt K (.bool b)) :=
  ee_cb (ea_cons h (ea_cons (ee_raw (v := .ty n)) ea_nil)) fun F H vs ok pm Q q => by
    cases pm with
    | cons r1 r2 =>
      cases r2 with
      | cons r2 r3 =>
        cases r3
        cases r2
        obtain ⟨p, xs, rfl, hs, _⟩ := r1
        exact ⟨_, .ty n, .type "tuple", .type n, b, rfl, .ty n, tyx_t (ex_t ok.ex hs), kit_ty hb, q _ F H .refl ok (.bl b)⟩
theorem ee_whole {M : Mode} {Γ : Gm} {ta tb : TE} {v m : Int} (h1 : EE M Γ ta (dt K (.int v))) (h2 : EE M Γ tb (dt K (.int m))) (h : 0 ≤ v ∧ v < m) : EE M Γ (tCall (spP (r_whole K)) [] E0 (tCons ta (tCons tb tNil))) (dt K (.bool true)) :=
  ee_cast (ee_call (Rel := r_whole K) (ea_cons h1 (ea_one h2)) ⟨v, m, rfl, rfl⟩) (by rw [decide_eq_true h.1, decide_eq_true h.2]; rfl)
def r_isf (K : PySem.W.Frag) : List MP → MP → Prop := fun Rs R => ∃ (X Y c0 c1 : Nat) (t : Tr) (tab : Tab) (m : MP), FlawOk X Y c0 c1 t tab ∧ ((∃ x y r s side, InOk X Y c0 c1 x y r s ∧ side ∈ [0, 1] ∧ ansS t x y r s side ≠ cell tab x y ∧ m = dt K (wrongD x y r s side)) ∨ someE K X Y c0 c1 t tab m) ∧ Rs = [dt K (talkD c0 c1 t), dt K (tabD tab), m] ∧ R = dt K (.bool true)
abbrev C_isf (P : Program) (w : World) (K : PySem.W.Frag) (mg : Str → Option Value) (base : Heap) : Prop := Cal P w K mg base 3 "_law_is_flaw" p__law_is_flaw (spP (r_isf K))
theorem cal_isf (D : DefAt K mg "_law_is_flaw" "_law_is_flaw" s__law_is_flaw p__law_is_flaw) (T : Nm mg) (G__law_held : C_lheld P w K mg base) (G__law_answer : C_lanswer P w K mg base) (G__law_counts : C_lcounts P w K mg base) (G__law_whole : C_whole P w K mg base) : C_isf P w K mg base := by
  refine cal_P D sc__law_is_flaw (fun Rs R h => by obtain ⟨_, _, _, _, _, _, _, _, _, rfl, _⟩ := h; rfl) fun f cdv A outer s H E hr => ⟨_, (pss_cons (ps_set (i := 3) sc__law_is_flaw.nd rfl (Or.inl rfl) (pe_tup (pa_cons (pe_callB (k_len K) (by rfl) T.len (by decide +kernel) (pa_cons (pv 1) pa_nil)) (pa_cons (pe_callB (k_len K) (by rfl) T.len (by decide +kernel) (pa_cons (pe_ix (k_ix K) (pv 1) pe_int (fun _ _ => rfl)) pa_nil)) pa_nil))))
  (pss_cons (ps_if (PW.pt (pw_or (pt_not (pt_val (pe_callB (k_isi K) (by rfl) T.isinstance (by decide +kernel) (pa_cons (pv 2) (pa_cons (pe_bltn (v := .ty "tuple") (by rfl) T.tuple (by decide +kernel) rfl) pa_nil))))) (pw_or1 (pt_cmpR (k_ni K) (pe_callB (k_len K) (by rfl) T.len (by decide +kernel) (pa_cons (pv 2) pa_nil)) (pe_lst (pa_cons pe_int (pa_cons pe_int pa_nil))) (by rfl))))) (pss_one (ps_ret pe_bl)) pss_nil)
  (pss_cons (ps_if (PW.pt (pw_and (pt_cmpR op_eq (pe_ix (k_ix K) (pv 2) pe_int (fun _ _ => rfl)) pe_str (nomark _)) (pw_and1 (pt_cmpR op_eq (pe_callB (k_len K) (by rfl) T.len (by decide +kernel) (pa_cons (pv 2) pa_nil)) pe_int (nomark _))))) (pss_cons (ps_asg (pv 2) (pg_tup rfl (pgs_cons (pg_name (i := 4) sc__law_is_flaw.nd rfl (Or.inl rfl)) (pgs_cons (pg_name (i := 5) sc__law_is_flaw.nd rfl (Or.inl rfl)) (pgs_cons (pg_name (i := 6) sc__law_is_flaw.nd rfl (Or.inl rfl)) (pgs_cons (pg_name (i := 7) sc__law_is_flaw.nd rfl (Or.inl rfl)) pgs_nil))))))
  (pss_cons (ps_set (i := 8) sc__law_is_flaw.nd rfl (Or.inl rfl) (pe_and (pe_c (G__law_whole.up (by decide)) hr (by rfl) (pa_cons (pe_ix (k_ix K) (pv 5) pe_int (fun _ _ => rfl)) (pa_cons (pe_ix (k_ix K) (pv 3) pe_int (fun _ _ => rfl)) pa_nil))) (pe_and (pe_c (G__law_whole.up (by decide)) hr (by rfl) (pa_cons (pe_ix (k_ix K) (pv 5) pe_int (fun _ _ => rfl)) (pa_cons (pe_ix (k_ix K) (pv 3) pe_int (fun _ _ => rfl)) pa_nil))) (pe_one (pe_c (G__law_whole.up (by decide)) hr (by rfl) (pa_cons (pv 7) (pa_cons pe_int pa_nil)))))))
  (pss_cons (ps_set (i := 8) sc__law_is_flaw.nd rfl (Or.inl rfl) (pe_and (pv 8) (pe_and (pe_c (G__law_whole.up (by decide)) hr (by rfl) (pa_cons (pe_ix (k_ix K) (pv 6) pe_int (fun _ _ => rfl)) (pa_cons (pe_ix (k_ix K) (pv 0) pe_int (fun _ _ => rfl)) pa_nil))) (pe_one (pe_c (G__law_whole.up (by decide)) hr (by rfl) (pa_cons (pe_ix (k_ix K) (pv 6) pe_int (fun _ _ => rfl)) (pa_cons (pe_ix (k_ix K) (pv 0) pe_int (fun _ _ => rfl)) pa_nil)))))))
  (pss_cons (ps_if (PW.pt (pw_or (pt_not (pt_val (pv 8))) (pw_or (pt_cmpR (k_neD K hr.units) (pe_tup (pa_cons (pe_callB (k_len K) (by rfl) T.len (by decide +kernel) (pa_cons (pv 5) pa_nil)) (pa_cons (pe_callB (k_len K) (by rfl) T.len (by decide +kernel) (pa_cons (pv 6) pa_nil)) pa_nil))) (pe_tup (pa_cons pe_int (pa_cons pe_int pa_nil))) (nomark _)) (pw_or (pt_not (pt_val (pe_callB (k_isi K) (by rfl) T.isinstance (by decide +kernel) (pa_cons (pv 5) (pa_cons (pe_bltn (v := .ty "tuple") (by rfl) T.tuple (by decide +kernel) rfl) pa_nil))))) (pw_or1 (pt_not (pt_val (pe_callB (k_isi K) (by rfl) T.isinstance (by decide +kernel) (pa_cons (pv 6) (pa_cons (pe_bltn (v := .ty "tuple") (by rfl) T.tuple (by decide +kernel) rfl) pa_nil)))))))))) (pss_one (ps_ret pe_bl)) pss_nil)
  (pss_one (ps_ret (pe_cmpR op_ne (pe_ix (k_ix K) (pe_ix (k_ix K) (pe_c (G__law_held.up (by decide)) hr (by rfl) (pa_cons (pv 0) (pa_cons (pv 5) (pa_cons (pv 6) pa_nil)))) pe_int (fun _ _ => rfl)) (pv 7) (fun _ _ => rfl)) (pe_ix (k_ix K) (pe_ix (k_ix K) (pv 1) (pe_ix (k_ix K) (pv 5) pe_int (fun _ _ => rfl)) (fun _ _ => rfl)) (pe_ix (k_ix K) (pv 5) pe_int (fun _ _ => rfl)) (fun _ _ => rfl)) (nomark _)))))))) pss_nil)
  (pss_cons (ps_if (PW.pt (pw_or (pt_cmpR op_ne (pe_ix (k_ix K) (pv 2) pe_int (fun _ _ => rfl)) pe_str (nomark _)) (pw_or1 (pt_cmpR op_ne (pe_callB (k_len K) (by rfl) T.len (by decide +kernel) (pa_cons (pv 2) pa_nil)) pe_int (nomark _))))) (pss_one (ps_ret pe_bl)) pss_nil)
  (pss_cons (ps_asg (pv 2) (pg_tup rfl (pgs_cons (pg_name (i := 4) sc__law_is_flaw.nd rfl (Or.inl rfl)) (pgs_cons (pg_name (i := 7) sc__law_is_flaw.nd rfl (Or.inl rfl)) (pgs_cons (pg_name (i := 9) sc__law_is_flaw.nd rfl (Or.inl rfl)) (pgs_cons (pg_name (i := 10) sc__law_is_flaw.nd rfl (Or.inl rfl)) (pgs_cons (pg_name (i := 11) sc__law_is_flaw.nd rfl (Or.inl rfl)) (pgs_cons (pg_name (i := 12) sc__law_is_flaw.nd rfl (Or.inl rfl)) (pgs_cons (pg_name (i := 13) sc__law_is_flaw.nd rfl (Or.inl rfl)) pgs_nil)))))))))
  (pss_cons (ps_if (PW.pt (pw_or (pt_not (pt_val (pe_c (G__law_whole.up (by decide)) hr (by rfl) (pa_cons (pv 7) (pa_cons pe_int pa_nil))))) (pw_or (pt_not (pt_val (pe_c (G__law_whole.up (by decide)) hr (by rfl) (pa_cons (pv 9) (pa_cons (pe_ix (k_ix K) (pv 3) (pv 7) (fun _ _ => rfl)) pa_nil))))) (pw_or1 (pt_not (pt_val (pe_c (G__law_whole.up (by decide)) hr (by rfl) (pa_cons (pv 10) (pa_cons (pe_ix (k_ix K) (pv 0) (pe_op op_add pe_int (pv 7)) (fun _ _ => rfl)) pa_nil))))))))) (pss_one (ps_ret pe_bl)) pss_nil)
  (pss_cons (ps_if (PW.pt (pw_or (pt_not (pt_val (pe_callB (k_isi K) (by rfl) T.isinstance (by decide +kernel) (pa_cons (pv 11) (pa_cons (pe_bltn (v := .ty "tuple") (by rfl) T.tuple (by decide +kernel) rfl) pa_nil))))) (pw_or (pt_cmpR op_ne (pe_callB (k_len K) (by rfl) T.len (by decide +kernel) (pa_cons (pv 11) pa_nil)) pe_int (nomark _)) (pw_or1 (pt_not (pt_val (pe_c (G__law_whole.up (by decide)) hr (by rfl) (pa_cons (pe_ix (k_ix K) (pv 11) pe_int (fun _ _ => rfl)) (pa_cons (pe_ix (k_ix K) (pv 3) (pe_op op_sub pe_int (pv 7)) (fun _ _ => rfl)) pa_nil))))))))) (pss_one (ps_ret pe_bl)) pss_nil)
  (pss_cons (ps_if (pt_not (pt_val (pe_c (G__law_whole.up (by decide)) hr (by rfl) (pa_cons (pe_ix (k_ix K) (pv 11) pe_int (fun _ _ => rfl)) (pa_cons (pe_ix (k_ix K) (pv 11) pe_int (fun _ _ => rfl)) pa_nil))))) (pss_one (ps_ret pe_bl)) pss_nil)
  (pss_cons (ps_if (pt_cmpR op_ne (pe_c (G__law_answer.up (by decide)) hr (by rfl) (pa_cons (pv 1) (pa_cons (pv 7) (pa_cons (pv 9) (pa_cons (pe_ix (k_ix K) (pv 11) pe_int (fun _ _ => rfl)) pa_nil))))) (pe_c (G__law_answer.up (by decide)) hr (by rfl) (pa_cons (pv 1) (pa_cons (pv 7) (pa_cons (pv 9) (pa_cons (pe_ix (k_ix K) (pv 11) pe_int (fun _ _ => rfl)) pa_nil))))) (nomark _)) (pss_one (ps_ret pe_bl)) pss_nil)
  (pss_cons (ps_set (i := 14) sc__law_is_flaw.nd rfl (Or.inl rfl) (pe_ndGet2 (kdT P w) hr.units (pe_c (G__law_counts.up (by decide)) hr (by rfl) (pa_cons (pv 0) (pa_cons (pv 7) (pa_cons (pv 9) (pa_cons (pv 10) (pa_cons (pe_ix (k_ix K) (pv 11) pe_int (fun _ _ => rfl)) pa_nil)))))) (pv 12) pe_int ⟨by rfl, by rfl, by rfl, by rfl⟩))
  (pss_cons (ps_set (i := 15) sc__law_is_flaw.nd rfl (Or.inl rfl) (pe_ndGet2 (kdT P w) hr.units (pe_c (G__law_counts.up (by decide)) hr (by rfl) (pa_cons (pv 0) (pa_cons (pv 7) (pa_cons (pv 9) (pa_cons (pv 10) (pa_cons (pe_ix (k_ix K) (pv 11) pe_int (fun _ _ => rfl)) pa_nil)))))) (pv 12) pe_int ⟨by rfl, by rfl, by rfl, by rfl⟩))
  (pss_one (ps_ret (pe_and (pe_cmpR (k_eqD K hr.units) (pe_tup (pa_cons (pv 14) (pa_cons (pv 15) pa_nil))) (pv 13) (nomark _)) (pe_one (pe_cmpR op_ne (pv 14) (pv 15) (nomark _))))))))))))))))), ?_⟩
  rintro Rs R ⟨X, Y, c0, c1, t, tab, m, ok, hm, rfl, rfl⟩ F Q q
  have X1 := ok.tk.X1
  obtain ⟨r0, hr0, hr0l⟩ := tab_row0 ok.tb X1.1
  have tk : ∀ {Γ : Gm} {M : Mode} {te : TE} (j : Nat) (z : Int), Γ[0]? = some (some (dt K (talkD c0 c1 t))) → EE M Γ te (dt K (.int z)) → z = (j : Int) → ∀ d, [PyData.str "talk", .int (c0 : Int), .int (c1 : Int), t.D false][j]? = some d → EE M Γ (tOp (rIx K) (tVar 0) te) (dt K d) := fun j z h0 he ez d hd => ee_ixT (ds := [.str "talk", .int (c0 : Int), .int (c1 : Int), t.D false]) (j := j) (ee_var h0) he ez hd
  have pr : ∀ {Γ : Gm} {M : Mode} {a b : Int} (i j : Nat), Γ[i]? = some (some (dt K (pairD a b))) → ∀ d, [PyData.int a, .int b][j]? = some d → EE M Γ (tOp (rIx K) (tVar i) (tC (.int (j : Int)))) (dt K d) := fun {Γ M a b} i j h0 d hd => ee_ixT (ds := [.int a, .int b]) (j := j) (ee_var h0) ee_int rfl hd
  refine sq_set (m := dt K (pairD (X : Int) (Y : Int))) (ee_tup (ds := [.int (X : Int), .int (Y : Int)]) (ea_cons (ee_cast (ee_lenT (ds := tab.map rowD) (ee_var rfl)) (by rw [tab_len ok.tb])) (ea_one (ee_cast (ee_lenT (ds := r0.map .int) (ee_ixT (ds := tab.map rowD) (j := 0) (ee_var rfl) ee_int rfl hr0)) (by rw [List.length_map, hr0l])))) (by show 2 ≤ 100000; decide)) ?_
  rcases hm with ⟨x, y, r, s, side, io, hs, hne, rfl⟩ | ⟨side, own, coin, hs, ho, hc, y, z, k, g1, g2, g3, g4, rfl⟩
  · obtain ⟨row, e1, e2⟩ := cell_get ok.tb io.x io.y
    refine sq_no (b := false) (et_is (et_or (a := false) (b := false) (et_not (a := true) (et_B (K := K) (ee_isi (d := wrongD x y r s side) (ee_var rfl) kit_tt))) fun _ => et_test (K := K) (ee_cast (ee_in (neg := true) (is := [4, 7]) (i := 4) (ee_lenT (ds := [.str "wrong", pairD x y, pairD r s, .int (side : Int)]) (ee_var rfl)) (ee_lst (ds := [.int 4, .int 7]) (ea_cons ee_int (ea_one ee_int)) (by show 2 ≤ 100000; decide))) rfl)) rfl) rfl ?_
    refine sq_if (b := true) (et_is (et_and (a := true) (b := true) (et_test (K := K) (ee_eqS (ee_ixT (ds := [.str "wrong", pairD x y, pairD r s, .int (side : Int)]) (j := 0) (ee_var rfl) ee_int rfl rfl) ee_str)) fun _ => et_test (K := K) (ee_eqI (ee_lenT (ds := [.str "wrong", pairD x y, pairD r s, .int (side : Int)]) (ee_var rfl)) ee_int)) rfl) (fun _ => ?_) fun h => nomatch h
    refine ss_seq (ss_setN (K := K) (n := 4) [4, 5, 6, 7] (ms := [dt K (.str "wrong"), dt K (pairD x y), dt K (pairD r s), dt K (.int (side : Int))]) (ee_imp (ee_var rfl) fun F v r' => tpM_of (ds := [.str "wrong", pairD x y, pairD r s, .int (side : Int)]) r') rfl rfl ?_)
    have sd2 : (0 : Int) ≤ (side : Int) ∧ (side : Int) < 2 := by
      rcases mem01 hs with rfl | rfl <;> omega
    refine sq_set (m := dt K (.bool true)) (ee_cast (ee_andB (a := true) (b := true) (ee_whole (pr 5 0 rfl _ rfl) (pr 3 0 rfl _ rfl) io.x) fun _ => ee_andB (a := true) (b := true) (ee_whole (pr 5 1 rfl _ rfl) (pr 3 1 rfl _ rfl) io.y) fun _ => ee_whole (ee_var rfl) ee_int sd2) rfl) ?_
    refine sq_set (m := dt K (.bool true)) (ee_cast (ee_andB (a := true) (b := true) (ee_var rfl) fun _ => ee_andB (a := true) (b := true) (ee_whole (pr 6 0 rfl _ rfl) (tk 1 _ rfl ee_int rfl _ rfl) io.r) fun _ => ee_whole (pr 6 1 rfl _ rfl) (tk 2 _ rfl ee_int rfl _ rfl) io.s) rfl) ?_
    have l2 : ∀ {Γ : Gm} {M : Mode} {a b : Int} (i : Nat), Γ[i]? = some (some (dt K (pairD a b))) → EE M Γ (tCB (rLenS K) (tCons (tVar i) tNil)) (dt K (.int 2)) := fun {Γ M a b} i h => ee_lenT (ds := [.int a, .int b]) (ee_var h)
    refine sq_no (b := false) (et_is (et_or (a := false) (b := false) (et_not (a := true) (et_B (ee_var rfl))) fun _ => et_or (a := false) (b := false) (et_is (et_test (K := K) (ee_neD (d := pairD 2 2) (e := pairD 2 2) (ee_tup (ds := [.int 2, .int 2]) (ea_cons (l2 5 rfl) (ea_one (l2 6 rfl))) (by show 2 ≤ 100000; decide)) (ee_tup (ds := [.int 2, .int 2]) (ea_cons ee_int (ea_one ee_int)) (by show 2 ≤ 100000; decide)) rfl rfl)) (by rw [eqv_pair]; rfl)) fun _ => et_or (a := false) (b := false) (et_not (a := true) (et_B (K := K) (ee_isi (d := pairD x y) (ee_var rfl) kit_tt))) fun _ => et_not (a := true) (et_B (K := K) (ee_isi (d := pairD r s) (ee_var rfl) kit_tt))) rfl) rfl ?_
    refine ss_ret (m := dt K (.bool true)) (ee_cast (ee_neI (i := ansS t x y r s side) (j := cell tab x y) (ee_side hs (ee_ixTM (ms := [tkM (heldS x y r s t).1, dt K (pairD (heldS x y r s t).2.1 (heldS x y r s t).2.2)]) (j := 1) (ee_call (Rel := r_hold K) (ea_cons (ee_var (i := 0) rfl) (ea_cons (ee_var (i := 5) rfl) (ea_one (ee_var (i := 6) rfl)))) ⟨X, Y, c0, c1, t, x, y, r, s, ok.tk, io, rfl, rfl⟩) ee_int rfl rfl) (ee_var rfl)) (ee_cell (v := tab) (row := row) (x := x) (r := y) (ee_var rfl) (pr 5 0 rfl _ rfl) (pr 5 1 rfl _ rfl) io.x.1 io.y.1 e1 e2)) (by rw [decide_eq_false hne]; rfl)) q
  · have hz : (z : Int) < (sz2 Y X side : Nat) := by omega
    have so : ∀ i : Nat, i < sz2 Y X side → SideOk X Y c0 c1 side (own : Int) (coin : Int) (i : Int) := fun i hi => ⟨hs, by omega, by omega, by omega⟩
    have sd2 : (0 : Int) ≤ (side : Int) ∧ (side : Int) < 2 := by
      rcases mem01 hs with rfl | rfl <;> omega
    generalize hn1 : cget (cntN t c0 c1 side (own : Int) (coin : Int) y) k = n1 at g4
    generalize hn2 : cget (cntN t c0 c1 side (own : Int) (coin : Int) z) k = n2 at g4
    have l7 : ∀ {M : Mode} {Γ : Gm}, Γ[2]? = some (some (learnsM K side (own : Int) (coin : Int) (y : Int) (z : Int) k n1 n2)) → EE M Γ (tCB (rLenS K) (tCons (tVar 2) tNil)) (dt K (.int 7)) := fun h => ee_lenTM (ms := [dt K (.str "learns"), dt K (.int (side : Int)), dt K (.int (own : Int)), dt K (.int (coin : Int)), dt K (pairD (y : Int) (z : Int)), tkM k, dt K (pairD n1 n2)]) (ee_var h)
    have f0 : ∀ {M : Mode} {Γ : Gm}, Γ[2]? = some (some (learnsM K side (own : Int) (coin : Int) (y : Int) (z : Int) k n1 n2)) → EE M Γ (tOp (rIx K) (tVar 2) (tC (.int 0))) (dt K (.str "learns")) := fun h => ee_ixTM (ms := [dt K (.str "learns"), dt K (.int (side : Int)), dt K (.int (own : Int)), dt K (.int (coin : Int)), dt K (pairD (y : Int) (z : Int)), tkM k, dt K (pairD n1 n2)]) (j := 0) (ee_var h) ee_int rfl rfl
    refine sq_no (b := false) (et_is (et_or (a := false) (b := false) (et_not (a := true) (et_B (K := K) (ee_isiT (ms := [dt K (.str "learns"), dt K (.int (side : Int)), dt K (.int (own : Int)), dt K (.int (coin : Int)), dt K (pairD (y : Int) (z : Int)), tkM k, dt K (pairD n1 n2)]) (ee_var rfl) kit_tt))) fun _ => et_test (K := K) (ee_cast (ee_in (neg := true) (is := [4, 7]) (i := 7) (l7 rfl) (ee_lst (ds := [.int 4, .int 7]) (ea_cons ee_int (ea_one ee_int)) (by show 2 ≤ 100000; decide))) rfl)) rfl) rfl ?_
    refine sq_if (b := false) (et_is (et_and (a := false) (b := false) (et_is (et_test (K := K) (ee_eqS (i := "learns") (j := "wrong") (f0 rfl) ee_str)) (by decide +kernel)) fun h => nomatch h) rfl) (fun h => nomatch h) fun _ => ?_
    refine sq_no (b := false) (et_is (et_or (a := false) (b := false) (et_is (et_test (K := K) (ee_neS (i := "learns") (j := "learns") (f0 rfl) ee_str)) (by decide +kernel)) fun _ => et_is (et_test (K := K) (ee_neI (i := 7) (j := 7) (l7 rfl) ee_int)) (by decide)) rfl) rfl ?_
    refine ss_seq (ss_setN (K := K) (n := 7) [4, 7, 9, 10, 11, 12, 13] (ms := [dt K (.str "learns"), dt K (.int (side : Int)), dt K (.int (own : Int)), dt K (.int (coin : Int)), dt K (pairD (y : Int) (z : Int)), tkM k, dt K (pairD n1 n2)]) (ee_var rfl) rfl rfl ?_)
    have esz : ∀ {M : Mode} {Γ : Gm}, Γ[0]? = some (some (dt K (talkD c0 c1 t))) → Γ[7]? = some (some (dt K (.int (side : Int)))) → EE M Γ (tOp (rIx K) (tVar 0) (tOp (rI0 fun i j => .int (i + j)) (tC (.int 1)) (tVar 7))) (dt K (.int (sz2 c0 c1 side : Nat))) := fun h0 h7 => by
      rcases mem01 hs with rfl | rfl
      · exact tk 1 _ h0 (ee_add ee_int (ee_var h7)) rfl _ rfl
      · exact tk 2 _ h0 (ee_add ee_int (ee_var h7)) rfl _ rfl
    refine sq_no (b := false) (et_is (et_or (a := false) (b := false) (et_not (a := true) (et_B (K := K) (ee_whole (ee_var rfl) ee_int sd2))) fun _ => et_or (a := false) (b := false) (et_not (a := true) (et_B (K := K) (ee_whole (ee_var rfl) (sz2_ix hs (ee_var rfl) (ee_var rfl)) (by omega)))) fun _ => et_not (a := true) (et_B (K := K) (ee_whole (ee_var rfl) (esz rfl rfl) (by omega)))) rfl) rfl ?_
    refine sq_no (b := false) (et_is (et_or (a := false) (b := false) (et_not (a := true) (et_B (K := K) (ee_isi (d := pairD (y : Int) (z : Int)) (ee_var rfl) kit_tt))) fun _ => et_or (a := false) (b := false) (et_is (et_test (K := K) (ee_neI (i := 2) (j := 2) (ee_lenT (ds := [.int (y : Int), .int (z : Int)]) (ee_var rfl)) ee_int)) (by decide)) fun _ => et_not (a := true) (et_B (K := K) (ee_whole (pr 11 1 rfl _ rfl) (other_len hs (ee_var rfl) (ee_var rfl)) (by omega)))) rfl) rfl ?_
    refine sq_no (b := false) (et_not (a := true) (et_B (K := K) (ee_whole (pr 11 0 rfl _ rfl) (pr 11 1 rfl _ rfl) (by omega)))) rfl ?_
    have an : ∀ {M : Mode} {Γ : Gm} (j i : Nat), i < sz2 Y X side → [PyData.int (y : Int), .int (z : Int)][j]? = some (.int (i : Int)) → Γ[1]? = some (some (dt K (tabD tab))) → Γ[7]? = some (some (dt K (.int (side : Int)))) → Γ[9]? = some (some (dt K (.int (own : Int)))) → Γ[11]? = some (some (dt K (pairD (y : Int) (z : Int)))) →
        EE M Γ (tCall (spP (r_lanswer K)) [] E0 (tCons (tVar 1) (tCons (tVar 7) (tCons (tVar 9) (tCons (tOp (rIx K) (tVar 11) (tC (.int (j : Int)))) tNil))))) (dt K (.int (ansN tab side (own : Int) i))) := fun j i hi hd a1 a7 a9 a11 =>
      ee_call (Rel := r_lanswer K) (ea_cons (ee_var a1) (ea_cons (ee_var a7) (ea_cons (ee_var a9) (ea_one (pr 11 j a11 _ hd))))) ⟨X, Y, side, tab, (own : Int), (i : Int), ok.tb, hs, (so i hi).own, (so i hi).oth, rfl, rfl⟩
    refine sq_no (b := false) (et_is (et_test (K := K) (ee_neI (an 0 y (by omega) rfl rfl rfl rfl rfl) (an 1 z g2 rfl rfl rfl rfl rfl))) (by rw [decide_eq_true g3]; rfl)) rfl ?_
    have cn : ∀ {M : Mode} {Γ : Gm} (j i : Nat), i < sz2 Y X side → [PyData.int (y : Int), .int (z : Int)][j]? = some (.int (i : Int)) → Γ[0]? = some (some (dt K (talkD c0 c1 t))) → Γ[7]? = some (some (dt K (.int (side : Int)))) → Γ[9]? = some (some (dt K (.int (own : Int)))) → Γ[10]? = some (some (dt K (.int (coin : Int)))) → Γ[11]? = some (some (dt K (pairD (y : Int) (z : Int)))) → Γ[12]? = some (some (tkM k)) →
        EE M Γ (tNdGet2 (kdT P w) (tCall (spP (r_lcounts P w K)) [] E0 (tCons (tVar 0) (tCons (tVar 7) (tCons (tVar 9) (tCons (tVar 10) (tCons (tOp (rIx K) (tVar 11) (tC (.int (j : Int)))) tNil)))))) (tVar 12) (tC (.int 0))) (dt K (.int (cget (cntN t c0 c1 side (own : Int) (coin : Int) i) k))) := fun j i hi hd a0 a7 a9 a10 a11 a12 =>
      ee_getF (ee_call (Rel := r_lcounts P w K) (ea_cons (ee_var a0) (ea_cons (ee_var a7) (ea_cons (ee_var a9) (ea_cons (ee_var a10) (ea_one (pr 11 j a11 _ hd)))))) ⟨X, Y, c0, c1, side, t, (own : Int), (coin : Int), (i : Int), ok.tk, so i hi, rfl, rfl⟩) (ee_var a12) ee_int
    refine sq_set (m := dt K (.int n1)) (ee_cast (cn 0 y (by omega) rfl rfl rfl rfl rfl rfl rfl) (by rw [hn1])) ?_
    refine sq_set (m := dt K (.int n2)) (ee_cast (cn 1 z g2 rfl rfl rfl rfl rfl rfl rfl) (by rw [hn2])) ?_
    refine ss_ret (m := dt K (.bool true)) (ee_cast (ee_andB (a := true) (b := true) (ee_cast (ee_eqD (d := pairD n1 n2) (e := pairD n1 n2) (ee_tup (ds := [.int n1, .int n2]) (ea_cons (ee_var rfl) (ea_one (ee_var rfl))) (by show 2 ≤ 100000; decide)) (ee_var rfl) rfl rfl) (by rw [eqv_pair]; simp)) fun _ => ee_cast (ee_neI (ee_var rfl) (ee_var rfl)) (by rw [decide_eq_false g4]; rfl)) rfl) q
end
end K46
/-! K46, part ye: owned lists by comprehension, items set; the hand. -/
namespace K46
open PySem L2
open Evl (Ex ex_l ex_t)
section
variable {K : PySem.W.Frag} {Z : Zr} {M : Mode} {Γ Δ : Gm} {ta tb te tl : TE} {m : MP} {ms : List MP} {D : Ends} {p : Addr} {t u : TS} {c : TT}
/-- x = [e for y in a list], a list of one's own -/
theorem ss_lcLO {i j : Nat} {vs : List Nat} {ns : List MP} (f : Nat → MP) (h : EE M Γ tl (lsM K ns)) (hn : ns.length ≤ 40000) (hj : j ∈ vs) (he : ∀ (i : Nat) x, ns[i]? = some x → EE M ((wipeG Γ vs).set j (some x)) te (f i))
    (k : ∀ p, SS Z (ownL p ((List.range ns.length).map f) M) (Γ.set i (some (rawv (.ref p)))) D.nx) : SS Z M Γ (tAsg (tLc (iList K tl) (gName j) tYes te vs) (gName i) D) := fun σ H a => by
  obtain ⟨F, p0, o, e⟩ := a.ex
  refine h F H σ e o _ fun v F1 H1 p1 o1 ⟨a', xs, ev, hx, hall⟩ => ?_
  subst ev
  refine ⟨a', rfl, ⟨xs, ex_l o1.ex hx⟩, fun D' hD => ?_⟩
  refine lc_list (xs := xs) (fun i => LcW M F1 H1 F1 D' (fun ms => ms = (List.range i).map f) i) (lcw_start o1 hD rfl) (fun i H' hi ⟨_, F2, _, _, p2, _, o2, _⟩ => ex_l (p2.fx.trans o2.ex) hx) (fun i x H' hi w => ?_) (fun H' w => ?_)
  · have hl : i < ns.length := by rw [← hall.length]; exact (List.getElem?_eq_some_iff.mp hi).1
    have hg := List.getElem?_eq_getElem hl
    obtain ⟨v, e1, e2⟩ := hall.get hg
    rw [hi] at e1
    cases e1
    exact ⟨wipe_set hj, lcw_turn (B := fun b => b = true) (E := fun m => m = f i) w (by omega) (fun F2 e2' => (((e.mono p1.fx).mono e2').wipe vs).set (MP.mono _ e2' e2)) et_yes (fun _ => ee_imp (he i _ hg) fun _ _ r => ⟨_, rfl, r⟩) (fun ms m e _ e2 => by rw [e, e2, range_snoc]) (fun ms _ e => by cases e)⟩
  · obtain ⟨_, F2, acc, ms, p2, _, o2, fD, nS, hD2, _, pm, rfl⟩ := w
    rw [hall.length] at pm
    have pz1 := Pu.out a.own p0 p1
    refine k D' _ _ ⟨⟨F2, Pu.out a.own p0 (p1.trans p2), ⟨o2.ex, fun b s => ?_, fun b s => ?_, ⟨nS, acc, hD2, pm⟩, o2.iv⟩, ((e.mono p1.fx).mono p2.fx).set rfl⟩, fun b s => .inr (a.sub b s), fun b s => ?_, fun F' H' w => a.iv F' H' w.2⟩
    · rcases s with rfl | s
      · exact fD
      · exact o2.ds b s
    · rcases s with rfl | s
      · exact ⟨_, hD2⟩
      · exact o2.al b s
    · rcases s with rfl | s
      · refine .inr ?_
        cases q : Z.H b with
        | none => rfl
        | some w =>
          obtain ⟨w', h'⟩ := pz1.al b w q
          rw [hD] at h'; cases h'
      · exact a.own b s
theorem PM.set {F : Hp} {v : V} (h : m.R F v) : ∀ {vs : List V} {ms : List MP} (j : Nat), PM F vs ms → PM F (vs.set j v) (ms.set j m)
  | _, _, _, .nil => .nil
  | _, _, 0, .cons _ t => .cons h t
  | _, _, j + 1, .cons a t => .cons a (PM.set h j t)
/-- x[j] = e -/
theorem ss_setL {ti : TE} {i : Int} {j : Nat} (he : EE (ownL p ms M) Γ te m) (hs : EE (ownL p ms M) Γ ta (rawv (.ref p))) (hi : EE (ownL p ms M) Γ ti (dt K (.int i))) (ei : i = (j : Int)) (hj : j < ms.length) (hz : ∀ F H, M.I F H → Z.M.I F H) (k : SS Z (ownL p (ms.set j m) M) Γ D.nx) :
    SS Z (ownL p ms M) Γ (tAsg te (gSub ta ti rSetL) D) := fun σ H a => by
  obtain ⟨F, p0, o, e⟩ := a.ex
  refine he F H σ e o _ fun v F1 H1 p1 o1 r1 => hs F1 H1 σ (e.mono p1.fx) o1 _ fun w F2 H2 p2 o2 r2 => hi F2 H2 σ ((e.mono p1.fx).mono p2.fx) o2 _ fun y F3 H3 p3 o3 r3 => ?_
  cases r2
  cases dp_int r3
  obtain ⟨⟨nS, xs, hx, pm⟩, _⟩ := id o3.iv
  have hl := pm.length
  refine ⟨p, xs, i, j, rfl, rfl, hx, by rw [ei]; unfold ixN; rw [if_pos (by omega), if_pos (by omega)]; simp, k _ _ ⟨⟨F3, Pu.wr a.own (.inl rfl) (Pu.out a.own p0 ((p1.trans p2).trans p3)), ownL_wr o3 (PM.set (m.mono (p2.fx.trans p3.fx) r1) j pm), ((e.mono p1.fx).mono p2.fx).mono p3.fx⟩, a.sub, a.own, fun F' H' w => hz F' H' w.2⟩⟩
/-- the own list is returned -/
theorem ss_retL {ds : List PyData} {q : MP} (hs : EE (ownL p (ds.map (dt K)) M) Γ te (rawv (.ref p))) (hS : ∀ a, Z.M.S a → M.S a) (hq : ∀ F v, Dp K F v (.list ds) → q.R F v) (k : RtOk Z D.rt q) : SS Z (ownL p (ds.map (dt K)) M) Γ (tRet te D) := fun σ H a => by
  obtain ⟨F, p0, ok, e⟩ := a.ex
  refine hs F H σ e ok _ fun w F1 H1 p1 o1 r1 => ?_
  cases r1
  have pz := Pu.out a.own p0 p1
  have o2 : Z.M.Ok F1 H1 := o1.up a.sub a.iv
  obtain ⟨⟨nS, xs, hx, pm⟩, _⟩ := id o1.iv
  have hp : Z.H p = none := by
    rcases a.own p (.inl rfl) with w | w
    · exact absurd (hS _ w) nS
    · exact w
  obtain ⟨p2, o3, x⟩ := freeze pz o2 hp (o1.ds p (.inl rfl)) (fun z => nS (hS _ z)) hx
  exact k _ _ _ p2 o3 (hq _ _ (.lst (SqL.of upd_same) (dpAll_mono x pm.data)))
/-- one of several: a test -/
theorem etN_or {P : Bool → Prop} {a : Bool} {t u : TT} (h1 : ETb M Γ t a) (h2 : a = false → ET M Γ u P) (hp : a = true → P true) : ET M Γ (tOr t u) P := fun F H σ en ok Q q => h1 F H σ en ok _ fun c F1 H1 p1 o1 e => by
  subst e
  cases c with
  | true => exact q true F1 H1 p1 o1 (hp rfl)
  | false => exact h2 rfl F1 H1 σ (en.mono p1.fx) o1 Q fun b F2 H2 p2 o2 hb => q b F2 H2 (p1.trans p2) o2 hb
/-- numbers below n; data of a kind -/
def zB (K : PySem.W.Frag) (n : Int) : MP := anyM fun m => ∃ v : Int, (0 ≤ v ∧ v < n) ∧ m = dt K (.int v)
def someD {α : Type} (K : PySem.W.Frag) (E : α → Prop) (g : α → PyData) : MP := anyM fun m => ∃ x, E x ∧ m = dt K (g x)
theorem ee_lcR1A {α : Type} {ta : TA} {j : Nat} {vs : List Nat} {n : Nat} {E : α → Prop} {g : α → PyData} (h : EA M Γ ta [dt K (.int (n : Int))]) (hn : n ≤ 40000) (hj : j ∈ vs) (he : ∀ i : Nat, i < n → EE M ((wipeG Γ vs).set j (some (dt K (.int (i : Int))))) te (someD K E g)) :
    EE M Γ (tLc (iRng1 ta) (gName j) tYes te vs) (someD K (fun xs : List α => xs.length = n ∧ ∀ x ∈ xs, E x) fun xs => .list (xs.map g)) :=
  ee_imp (ee_lcR1N (P := fun i ms => ∃ xs : List α, xs.length = i ∧ (∀ x ∈ xs, E x) ∧ ms = xs.map fun x => dt K (g x)) (B := fun _ b => b = true) (E := fun i m => ∃ x, E x ∧ m = dt K (g x)) h (by omega) hj ⟨[], rfl, (fun _ h => nomatch h), rfl⟩ (fun _ _ => et_yes) (fun i hi _ => he i (by omega))
    (fun i ms m _ ⟨xs, h1, h2, h3⟩ _ ⟨x, hx, e⟩ => ⟨xs ++ [x], by rw [List.length_append, h1]; rfl, fun y hy => by
      rcases List.mem_append.mp hy with z | z
      · exact h2 y z
      · rw [List.mem_singleton.mp z]; exact hx, by rw [h3, e, List.map_append]; rfl⟩) (fun i ms _ _ e => by cases e)) fun F v ⟨m, ⟨ms, e1, xs, h1, h2, h3⟩, r⟩ => by
      subst e1; subst h3
      exact ⟨_, ⟨xs, ⟨by rw [h1, Int.toNat_natCast], h2⟩, rfl⟩, lsM_to (by rw [List.map_map]; exact r)⟩
/-- over a list of things told by ys -/
theorem ee_tupOfA {α : Type} {E : List α → Prop} {g : α → PyData} (h : EE M Γ te (someD K E fun xs => .list (xs.map g))) : EE M Γ (tCB (rTupS K) (tCons te tNil)) (someD K E fun xs => .tuple (xs.map g)) :=
  ee_cb (ea_cons h ea_nil) fun F H vs ok pm Q q => by
    cases pm with
    | cons r1 r2 =>
      cases r2
      obtain ⟨_, ⟨ds, hE, rfl⟩, r1⟩ := r1
      obtain ⟨p, xs, rfl, hs, hall⟩ := dp_lst r1
      refine ⟨p, xs, rfl, .inl ⟨ex_l ok.ex hs, fun l hl => ?_⟩⟩
      have pn : Pu0 F H (upd F l (.tup xs)) (upd H l (.tup xs)) := .new hl ok.ex
      exact q _ _ _ (pn.any _) (ok.step pn (ex_upd ok.ex)) ⟨_, ⟨ds, hE, rfl⟩, .tup (SqT.of upd_same) (dpAll_mono pn.fx hall)⟩
theorem someD_imp {α β : Type} {E : α → Prop} {E' : β → Prop} {g : α → PyData} {g' : β → PyData} (k : ∀ x, E x → ∃ y, E' y ∧ g x = g' y) (h : EE M Γ te (someD K E g)) : EE M Γ te (someD K E' g') := ee_imp h fun F v ⟨m, ⟨x, hx, e⟩, r⟩ => by
  obtain ⟨y, hy, e2⟩ := k x hx
  exact ⟨_, ⟨y, hy, rfl⟩, by rw [← e2, ← e]; exact r⟩
/-! ### the hand -/
def handO (K : PySem.W.Frag) : OP := ⟨fun F ob => ∃ d pos ds, ob = .lst [d, .int pos] ∧ 0 ≤ pos ∧ Dp K F d (intsL ds), fun e ⟨d, pos, ds, a, b, c⟩ => ⟨d, pos, ds, a, b, dp_mono e c⟩⟩
abbrev handM (K : PySem.W.Frag) (p : Addr) : Mode := ownO p (handO K) pu
theorem ee_hand1 (hs : EE (handM K p) Γ ta (rawv (.ref p))) : EE (handM K p) Γ (tOp (rIx K) ta (tC (.int 1))) (someD K (fun i : Int => 0 ≤ i) .int) :=
  ee_opv hs (ee_raw (v := .int 1)) fun F H x y ok hx hy Q q => by
    cases hx
    cases hy
    obtain ⟨⟨_, _, hp, d, pos, ds, rfl, h0, hd⟩, _⟩ := id ok.iv
    exact .inl ⟨p, _, 1, .int pos, rfl, rfl, SqL.of hp, rfl, q _ ⟨_, ⟨pos, h0, rfl⟩, .int pos⟩⟩
theorem ee_hand0 (hs : EE (handM K p) Γ ta (rawv (.ref p))) : EE (handM K p) Γ (tOp (rIx K) ta (tC (.int 0))) (someD K (fun _ : List Int => True) intsL) :=
  ee_opv hs (ee_raw (v := .int 0)) fun F H x y ok hx hy Q q => by
    cases hx
    cases hy
    obtain ⟨⟨_, _, hp, d, pos, ds, rfl, h0, hd⟩, _⟩ := id ok.iv
    exact .inl ⟨p, _, 0, d, rfl, rfl, SqL.of hp, rfl, q _ ⟨_, ⟨ds, trivial, rfl⟩, hd⟩⟩
theorem ss_hand {i : Int} (he : EE (handM K p) Γ te (dt K (.int i))) (h0 : 0 ≤ i) (hs : EE (handM K p) Γ ta (rawv (.ref p))) (hz : Z.M = handM K p) (k : SS Z (handM K p) Γ D.nx) : SS Z (handM K p) Γ (tAsg te (gSub ta (tC (.int 1)) rSetL) D) := fun σ H a => by
  obtain ⟨F, p0, o, e⟩ := a.ex
  refine he F H σ e o _ fun v F1 H1 p1 o1 r1 => hs F1 H1 σ (e.mono p1.fx) o1 _ fun w F2 H2 p2 o2 r2 => ?_
  cases r2
  cases dp_int r1
  obtain ⟨⟨nS, _, hx, d, pos, ds, rfl, _, hd⟩, _⟩ := id o2.iv
  refine ⟨p, _, 1, 1, rfl, rfl, hx, rfl, k _ _ ⟨⟨F2, Pu.wr a.own (.inl rfl) (Pu.out a.own p0 (p1.trans p2)), ownO_wr o2 ⟨d, i, ds, rfl, h0, hd⟩, (e.mono p1.fx).mono p2.fx⟩, a.sub, a.own, a.iv⟩⟩
end
end K46
/-! K46, part yf: the hand's defs. -/
namespace K46
open PySem L2
open Evl (Ex ex_l ex_t)
section
variable {P : Program} {w : World} {K : PySem.W.Frag} {mg : Str → Option Value} {base : Heap} {C : Addr}
theorem ee_fdiv {M : Mode} {Γ : Gm} {ta tb : TE} {i j : Int} (ha : EE M Γ ta (dt K (.int i))) (hb : EE M Γ tb (dt K (.int j))) (hc : CDiv i j) : EE M Γ (tOp (rI CDiv fun i j => .int (i / j)) ta tb) (dt K (.int (i / j))) := ee_I (g := fun i j => .int (i / j)) ha hb hc fun _ => .int _
theorem ee_mod {M : Mode} {Γ : Gm} {ta tb : TE} {i j : Int} (ha : EE M Γ ta (dt K (.int i))) (hb : EE M Γ tb (dt K (.int j))) (hc : 0 < j) : EE M Γ (tOp (rI (fun _ j => 0 < j) fun i j => .int (i % j)) ta tb) (dt K (.int (i % j))) := ee_I (C := fun _ j => 0 < j) (g := fun i j => .int (i % j)) ha hb hc fun _ => .int _
abbrev s__law_take : Stmt := top 33
abbrev n__law_take : List Str := ["_law_hand", "_law_many_here", "_law_at", "_law_draws_here"]
abbrev p__law_take : List Str := ["_law_hand", "_law_many_here"]
theorem sc__law_take : FnScope n__law_take p__law_take (defScope s__law_take) := ⟨rfl, rfl, rfl, by decide +kernel, rfl, by decide +kernel, by decide +kernel⟩
abbrev s__law_table : Stmt := top 34
abbrev n__law_table : List Str := ["_law_hand", "_law_rows", "_law_columns", "_law_answers", "_law_y", "_law_x"]
abbrev p__law_table : List Str := ["_law_hand", "_law_rows", "_law_columns", "_law_answers"]
def cs__law_table_0 : Scope := { kind := PySem.ScopeKind.function, names := [ (PySem.Str.ofString ".0", PySem.NameKind.local), (PySem.Str.ofString "_law_x", PySem.NameKind.local), (PySem.Str.ofString "tuple", PySem.NameKind.globalImplicit), (PySem.Str.ofString "range", PySem.NameKind.globalImplicit), (PySem.Str.ofString "_law_answers", PySem.NameKind.free), (PySem.Str.ofString "_law_columns", PySem.NameKind.free), (PySem.Str.ofString "_law_hand", PySem.NameKind.free)], isGenerator := false, isCoroutine := false, more := [] : PySem.Scope }
def cs__law_table_1 : Scope := { kind := PySem.ScopeKind.function, names := [ (PySem.Str.ofString ".0", PySem.NameKind.local), (PySem.Str.ofString "_law_y", PySem.NameKind.local), (PySem.Str.ofString "_law_take", PySem.NameKind.globalImplicit), (PySem.Str.ofString "_law_answers", PySem.NameKind.free), (PySem.Str.ofString "_law_hand", PySem.NameKind.free)], isGenerator := false, isCoroutine := false, more := [] : PySem.Scope }
theorem sc__law_table : FnScope n__law_table p__law_table (defScope s__law_table) := ⟨rfl, rfl, rfl, by decide +kernel, rfl, by decide +kernel, by decide +kernel⟩
abbrev s__law_bits : Stmt := top 35
abbrev n__law_bits : List Str := ["_law_hand", "_law_inputs", "_law_coins", "_law_most", "_law_r", "_law_x"]
abbrev p__law_bits : List Str := ["_law_hand", "_law_inputs", "_law_coins", "_law_most"]
def cs__law_bits_0 : Scope := { kind := PySem.ScopeKind.function, names := [ (PySem.Str.ofString ".0", PySem.NameKind.local), (PySem.Str.ofString "_law_x", PySem.NameKind.local), (PySem.Str.ofString "tuple", PySem.NameKind.globalImplicit), (PySem.Str.ofString "range", PySem.NameKind.globalImplicit), (PySem.Str.ofString "_law_coins", PySem.NameKind.free), (PySem.Str.ofString "_law_hand", PySem.NameKind.free), (PySem.Str.ofString "_law_most", PySem.NameKind.free)], isGenerator := false, isCoroutine := false, more := [] : PySem.Scope }
def cs__law_bits_1 : Scope := { kind := PySem.ScopeKind.function, names := [ (PySem.Str.ofString ".0", PySem.NameKind.local), (PySem.Str.ofString "_law_r", PySem.NameKind.local), (PySem.Str.ofString "_law_take", PySem.NameKind.globalImplicit), (PySem.Str.ofString "_law_hand", PySem.NameKind.free), (PySem.Str.ofString "_law_most", PySem.NameKind.free)], isGenerator := false, isCoroutine := false, more := [] : PySem.Scope }
theorem sc__law_bits : FnScope n__law_bits p__law_bits (defScope s__law_bits) := ⟨rfl, rfl, rfl, by decide +kernel, rfl, by decide +kernel, by decide +kernel⟩
abbrev s__law_people_tree : Stmt := top 42
abbrev n__law_people_tree : List Str := ["_law_hand", "_law_sizes", "_law_coins", "_law_depth", "_law_n", "_law_p", "_law_bits_here", "_law_first"]
abbrev p__law_people_tree : List Str := ["_law_hand", "_law_sizes", "_law_coins", "_law_depth"]
def cs__law_people_tree_0 : Scope := { kind := PySem.ScopeKind.function, names := [ (PySem.Str.ofString ".0", PySem.NameKind.local), (PySem.Str.ofString "_law_p", PySem.NameKind.local), (PySem.Str.ofString "_law_bits", PySem.NameKind.globalImplicit), (PySem.Str.ofString "_law_coins", PySem.NameKind.free), (PySem.Str.ofString "_law_hand", PySem.NameKind.free), (PySem.Str.ofString "_law_sizes", PySem.NameKind.free)], isGenerator := false, isCoroutine := false, more := [] : PySem.Scope }
theorem sc__law_people_tree : FnScope n__law_people_tree p__law_people_tree (defScope s__law_people_tree) := ⟨rfl, rfl, rfl, by decide +kernel, rfl, by decide +kernel, by decide +kernel⟩
abbrev s__law_draws : Stmt := top 32
abbrev n__law_draws : List Str := ["_law_script", "_law_many_here", "_law_rests", "_law_cell", "_law_draws_here", "_law_k", "_law_at", "_law_mixed"]
abbrev p__law_draws : List Str := ["_law_script", "_law_many_here"]
def cs__law_draws_0 : Scope := { kind := PySem.ScopeKind.function, names := [ (PySem.Str.ofString ".0", PySem.NameKind.local), (PySem.Str.ofString "_law_cell", PySem.NameKind.local), (PySem.Str.ofString "abs", PySem.NameKind.globalImplicit), (PySem.Str.ofString "int", PySem.NameKind.globalImplicit)], isGenerator := false, isCoroutine := false, more := [] : PySem.Scope }
theorem sc__law_draws : FnScope n__law_draws p__law_draws (defScope s__law_draws) := ⟨rfl, rfl, rfl, by decide +kernel, rfl, by decide +kernel, by decide +kernel⟩
def r_take (K : PySem.W.Frag) : Mode → List MP → MP → Prop := fun M Rs R => ∃ (p : Addr) (k : Int), M = handM K p ∧ 1 ≤ k ∧ Rs = [rawv (.ref p), dt K (.int k)] ∧ R = zB K k
abbrev C_take (P : Program) (w : World) (K : PySem.W.Frag) (mg : Str → Option Value) (base : Heap) : Prop := Cal P w K mg base 1 "_law_take" p__law_take (spM (r_take K))
theorem cal_take (D : DefAt K mg "_law_take" "_law_take" s__law_take p__law_take) (T : Nm mg) : C_take P w K mg base := by
  refine cal_M D sc__law_take (fun M Rs R h => by obtain ⟨_, _, _, _, rfl, _⟩ := h; rfl) fun f cdv A outer s H E hr => ⟨_, (pss_cons (ps_set (i := 2) sc__law_take.nd rfl (Or.inl rfl) (pe_ix (k_ix K) (pv 0) pe_int (fun _ _ => rfl)))
  (pss_cons (ps_asg (pe_op op_add (pv 2) pe_int) (pg_sub (pv 0) pe_int set_list))
  (pss_cons (ps_set (i := 3) sc__law_take.nd rfl (Or.inl rfl) (pe_ix (k_ix K) (pv 0) pe_int (fun _ _ => rfl)))
  (pss_cons (ps_if (pt_cmpR op_ge (pv 2) (pe_callB (k_len K) (by rfl) T.len (by decide +kernel) (pa_cons (pv 3) pa_nil)) (nomark _)) (pss_one (ps_ret pe_int)) pss_nil)
  (pss_one (ps_ret (pe_op op_mod (pe_op op_fdiv (pe_callTy call_intS (by rfl) T.int (by decide +kernel) (pa_cons (pe_ix (k_ix K) (pv 3) (pv 2) (fun _ _ => rfl)) pa_nil)) pe_int) (pv 1)))))))), ?_⟩
  rintro M Rs R ⟨p, k, rfl, hk, rfl, rfl⟩ F Q q
  refine sq_set (m := someD K (fun i : Int => 0 ≤ i) .int) (ee_hand1 (ee_var rfl)) ?_
  refine ss_case (j := 2) (by show 2 < 4; decide) rfl fun m hm => ?_
  obtain ⟨i, h0, rfl⟩ := hm
  refine ss_seq (ss_hand (i := i + 1) (ee_add (ee_var rfl) ee_int) (by omega) (ee_var rfl) rfl ?_)
  refine sq_set (m := someD K (fun _ : List Int => True) intsL) (ee_hand0 (ee_var rfl)) ?_
  refine ss_case (j := 3) (by show 3 < 4; decide) rfl fun m hm => ?_
  obtain ⟨ds, _, rfl⟩ := hm
  refine sq_if (b := decide ((ds.length : Int) ≤ i)) (et_test (ee_ge (ee_var rfl) (ee_cast (ee_lenL (ds := ds.map .int) (ee_var rfl)) (by rw [List.length_map])))) (fun _ => ?_) fun hb => ?_
  · exact ss_ret (m := zB K k) (ee_imp (m := dt K (.int 0)) ee_int fun F v r => ⟨_, ⟨0, by omega, rfl⟩, r⟩) q
  · have hb := of_decide_eq_false hb
    have hj : i.toNat < ds.length := by omega
    refine ss_ret (m := zB K k) (ee_imp (m := dt K (.int (ds[i.toNat] / 7 % k))) (ee_mod (i := ds[i.toNat] / 7) (j := k) (ee_fdiv (i := ds[i.toNat]) (j := 7) (ee_int1 (ee_ixL (ds := ds.map .int) (j := i.toNat) (ee_var rfl) (ee_var rfl) (by omega) (by rw [List.getElem?_map, List.getElem?_eq_getElem hj]; rfl))) ee_int ⟨by decide, by decide⟩) (ee_var rfl) (by omega)) fun F v r => ⟨_, ⟨_, ⟨Int.emod_nonneg _ (by omega), Int.emod_lt_of_pos _ (by omega)⟩, rfl⟩, r⟩) q
/-- tables of numbers below k -/
def TabB (n c : Nat) (k : Int) (t : Tab) : Prop := IsTab n c t ∧ ∀ r ∈ t, ∀ b ∈ r, 0 ≤ b ∧ b < k
theorem tabB_of {n c : Nat} {k : Int} {t : Tab} (h1 : t.length = n) (h2 : ∀ r ∈ t, r.length = c ∧ ∀ b ∈ r, 0 ≤ b ∧ b < k) : TabB n c k t := ⟨⟨h1, fun r hr => (h2 r hr).1⟩, fun r hr => (h2 r hr).2⟩
theorem ee_drawTab {p : Addr} {Γ : Gm} {a b c : Nat} {j1 j2 : Nat} {X Y : Nat} {k : Int} (hk : 1 ≤ k) (hX : X ≤ 1000) (hY : Y ≤ 1000) (hj1 : j1 ≠ 0 ∧ j1 ≠ b ∧ j1 ≠ c) (hj2 : j2 ≠ 0 ∧ j2 ≠ c)
    (h0 : Γ[0]? = some (some (rawv (.ref p)))) (ha : Γ[a]? = some (some (dt K (.int (X : Int))))) (hb : Γ[b]? = some (some (dt K (.int (Y : Int))))) (hc : Γ[c]? = some (some (dt K (.int k)))) :
    EE (handM K p) Γ (tCB (rTupS K) (tCons (tLc (iRng1 (tCons (tVar a) tNil)) (gName j1) tYes (tCB (rTupS K) (tCons (tLc (iRng1 (tCons (tVar b) tNil)) (gName j2) tYes (tCall (spM (r_take K)) [] E0 (tCons (tVar 0) (tCons (tVar c) tNil))) [j2]) tNil)) [j1]) tNil)) (someD K (TabB X Y k) tabD) := by
  have g1 : ∀ {Γ : Gm} {m : MP} (i j : Nat), i ≠ j → ((wipeG Γ [j]).set j (some m))[i]? = Γ[i]? := fun {Γ m} i j h => by
    show ((Γ.set j none).set j _)[i]? = _
    rw [List.getElem?_set_ne (Ne.symm h), List.getElem?_set_ne (Ne.symm h)]
  refine someD_imp (E := fun t : Tab => t.length = X ∧ ∀ r ∈ t, r.length = Y ∧ ∀ b ∈ r, 0 ≤ b ∧ b < k) (g := fun t => .tuple (t.map rowD)) (fun t ht => ⟨t, tabB_of ht.1 ht.2, rfl⟩) ?_
  refine ee_tupOfA (ee_lcR1A (n := X) (ea_one (ee_var ha)) (by omega) (by simp) fun i hi => ?_)
  refine someD_imp (E := fun r : List Int => r.length = Y ∧ ∀ b ∈ r, 0 ≤ b ∧ b < k) (g := fun r => .tuple (r.map .int)) (fun r hr => ⟨r, hr, rfl⟩) ?_
  refine ee_tupOfA (ee_lcR1A (n := Y) (E := fun b : Int => 0 ≤ b ∧ b < k) (ea_one (ee_var (by rw [g1 _ _ (Ne.symm hj1.2.1)]; exact hb))) (by omega) (by simp) fun i hi => ?_)
  exact ee_callM (Rel := r_take K) (R := zB K k) (ea_cons (ee_var (by rw [g1 _ _ (Ne.symm hj2.1), g1 _ _ (Ne.symm hj1.1)]; exact h0)) (ea_one (ee_var (by rw [g1 _ _ (Ne.symm hj2.2), g1 _ _ (Ne.symm hj1.2.2)]; exact hc)))) ⟨p, k, rfl, hk, rfl, rfl⟩
def r_tab (K : PySem.W.Frag) : Mode → List MP → MP → Prop := fun M Rs R => ∃ (p : Addr) (X Y : Nat) (k : Int), M = handM K p ∧ 1 ≤ k ∧ X ≤ 1000 ∧ Y ≤ 1000 ∧ Rs = [rawv (.ref p), dt K (.int (X : Int)), dt K (.int (Y : Int)), dt K (.int k)] ∧ R = someD K (TabB X Y k) tabD
abbrev C_tab (P : Program) (w : World) (K : PySem.W.Frag) (mg : Str → Option Value) (base : Heap) : Prop := Cal P w K mg base 2 "_law_table" p__law_table (spM (r_tab K))
abbrev C_bits (P : Program) (w : World) (K : PySem.W.Frag) (mg : Str → Option Value) (base : Heap) : Prop := Cal P w K mg base 2 "_law_bits" p__law_bits (spM (r_tab K))
theorem cal_tab (D : DefAt K mg "_law_table" "_law_table" s__law_table p__law_table) (T : Nm mg) (G__law_take : C_take P w K mg base) : C_tab P w K mg base := by
  refine cal_M D sc__law_table (fun M Rs R h => by obtain ⟨_, _, _, _, _, _, _, _, rfl, _⟩ := h; rfl) fun f cdv A outer s H E hr => ⟨_, (pss_one (ps_ret (pe_callTy (k_tup K) (by rfl) T.tuple (by decide +kernel) (pa_cons (pe_lc (own := [("_law_x", 5)]) rfl sc__law_table.nd (pi_range1 (by rfl) T.range (pa_cons (pv 1) pa_nil)) (blkOk_by (N := n__law_table) (sc := defScope s__law_table) (scope := cs__law_table_0) (own := [("_law_x", 5)]) (by decide +kernel)) (fun _ _ _ _ _ => (pg_name (i := 5) sc__law_table.nd rfl (Or.inl rfl))) (fun _ _ _ _ _ => pts_nil) (fun _ _ _ _ _ => (pe_callTy (k_tup K) (by rfl) T.tuple (by decide +kernel) (pa_cons (pe_lc (own := [("_law_y", 4)]) rfl sc__law_table.nd (pi_range1 (by rfl) T.range (pa_cons (pv 2) pa_nil)) (blkOk_by (N := n__law_table) (sc := relS cs__law_table_0 (defScope s__law_table)) (scope := cs__law_table_1) (own := [("_law_y", 4)]) (by decide +kernel)) (fun _ _ _ _ _ => (pg_name (i := 4) sc__law_table.nd rfl (Or.inl rfl))) (fun _ _ _ _ _ => pts_nil) (fun _ _ _ _ _ => (pe_c (G__law_take.up (by decide)) hr (by rfl) (pa_cons (pv 0) (pa_cons (pv 3) pa_nil))))) pa_nil)))) pa_nil)))), ?_⟩
  rintro M Rs R ⟨p, X, Y, k, rfl, hk, hX, hY, rfl, rfl⟩ F Q q
  exact ss_ret (ee_drawTab (a := 1) (b := 2) (c := 3) hk hX hY (by decide) (by decide) rfl rfl rfl rfl) q
theorem cal_bits (D : DefAt K mg "_law_bits" "_law_bits" s__law_bits p__law_bits) (T : Nm mg) (G__law_take : C_take P w K mg base) : C_bits P w K mg base := by
  refine cal_M D sc__law_bits (fun M Rs R h => by obtain ⟨_, _, _, _, _, _, _, _, rfl, _⟩ := h; rfl) fun f cdv A outer s H E hr => ⟨_, (pss_one (ps_ret (pe_callTy (k_tup K) (by rfl) T.tuple (by decide +kernel) (pa_cons (pe_lc (own := [("_law_x", 5)]) rfl sc__law_bits.nd (pi_range1 (by rfl) T.range (pa_cons (pv 1) pa_nil)) (blkOk_by (N := n__law_bits) (sc := defScope s__law_bits) (scope := cs__law_bits_0) (own := [("_law_x", 5)]) (by decide +kernel)) (fun _ _ _ _ _ => (pg_name (i := 5) sc__law_bits.nd rfl (Or.inl rfl))) (fun _ _ _ _ _ => pts_nil) (fun _ _ _ _ _ => (pe_callTy (k_tup K) (by rfl) T.tuple (by decide +kernel) (pa_cons (pe_lc (own := [("_law_r", 4)]) rfl sc__law_bits.nd (pi_range1 (by rfl) T.range (pa_cons (pv 2) pa_nil)) (blkOk_by (N := n__law_bits) (sc := relS cs__law_bits_0 (defScope s__law_bits)) (scope := cs__law_bits_1) (own := [("_law_r", 4)]) (by decide +kernel)) (fun _ _ _ _ _ => (pg_name (i := 4) sc__law_bits.nd rfl (Or.inl rfl))) (fun _ _ _ _ _ => pts_nil) (fun _ _ _ _ _ => (pe_c (G__law_take.up (by decide)) hr (by rfl) (pa_cons (pv 0) (pa_cons (pv 3) pa_nil))))) pa_nil)))) pa_nil)))), ?_⟩
  rintro M Rs R ⟨p, X, Y, k, rfl, hk, hX, hY, rfl, rfl⟩ F Q q
  exact ss_ret (ee_drawTab (a := 1) (b := 2) (c := 3) hk hX hY (by decide) (by decide) rfl rfl rfl rfl) q
end
end K46
/-! K46, part yg: drawn trees. -/
namespace K46
open PySem L2
open Evl (Ex ex_l ex_t)
section
variable {K : PySem.W.Frag} {M : Mode} {Γ : Gm} {ta tb te : TE}
theorem ee_lcR1I {α : Type} {ta : TA} {j : Nat} {vs : List Nat} {n : Nat} {E : Nat → α → Prop} {g : α → PyData} (h : EA M Γ ta [dt K (.int (n : Int))]) (hn : n ≤ 40000) (hj : j ∈ vs) (he : ∀ i : Nat, i < n → EE M ((wipeG Γ vs).set j (some (dt K (.int (i : Int))))) te (someD K (E i) g)) :
    EE M Γ (tLc (iRng1 ta) (gName j) tYes te vs) (someD K (fun xs : List α => xs.length = n ∧ ∀ (i : Nat) x, xs[i]? = some x → E i x) fun xs => .list (xs.map g)) :=
  ee_imp (ee_lcR1N (P := fun i ms => ∃ xs : List α, xs.length = i ∧ (∀ (i : Nat) x, xs[i]? = some x → E i x) ∧ ms = xs.map fun x => dt K (g x)) (B := fun _ b => b = true) (E := fun i m => ∃ x, E i x ∧ m = dt K (g x)) h (by omega) hj ⟨[], rfl, (fun _ _ h => by simp at h), rfl⟩ (fun _ _ => et_yes) (fun i hi _ => he i (by omega))
    (fun i ms m _ ⟨xs, h1, h2, h3⟩ _ ⟨x, hx, e⟩ => ⟨xs ++ [x], by rw [List.length_append, h1]; rfl, fun i' y hy => by
      by_cases hi : i' < xs.length
      · rw [List.getElem?_append_left hi] at hy; exact h2 i' y hy
      · rw [List.getElem?_append_right (by omega)] at hy
        have hi2 : i' = i := by
          have := (List.getElem?_eq_some_iff.mp hy).1
          simp at this
          omega
        subst hi2
        rw [show i' - xs.length = 0 by omega] at hy
        cases hy
        exact hx, by rw [h3, e, List.map_append]; rfl⟩) (fun i ms _ _ e => by cases e)) fun F v ⟨m, ⟨ms, e1, xs, h1, h2, h3⟩, r⟩ => by
      subst e1; subst h3
      exact ⟨_, ⟨xs, ⟨by rw [h1, Int.toNat_natCast], h2⟩, rfl⟩, lsM_to (by rw [List.map_map]; exact r)⟩
theorem et_eqN {E : Int → Prop} {j : Int} (ha : EE M Γ ta (someD K E .int)) (hb : EE M Γ tb (dt K (.int j))) : ET M Γ (tTest (tOp rEq ta tb)) fun _ => True :=
  et_testN (K := K) (ee_opv ha hb fun F H x y ok ⟨_, ⟨i, _, e⟩, hx⟩ hy Q q => by
    subst e
    cases dp_int hx; cases dp_int hy
    exact ⟨rfl, q _ ⟨_, ⟨_, rfl, trivial⟩, .bl _⟩⟩)
end
section
variable {P : Program} {w : World} {K : PySem.W.Frag} {mg : Str → Option Value} {base : Heap} {C : Addr}
theorem cal_none {x qual : Str} {st : Stmt} {ps N : List Str} (D : DefAt K mg x qual st ps) (S : FnScope N ps (defScope st)) (k : Nat) : Cal P w K mg base (k + 1) x ps (spM fun _ _ _ => False) := by
  obtain ⟨f, fd, a, b, c⟩ := D.ex
  exact ⟨f, fd, a, b.kp, c, b.ok S (fun vs H Q E ⟨_, _, _, _, _, _, h, _⟩ => h.elim) (fun cdv A outer s H vs Q E hr ⟨_, _, _, _, _, _, h, _⟩ => h.elim)⟩
structure TreeOk (n : Nat) (sz cn : List Nat) (dep : Nat) (t : Tr) : Prop where
  ok : t.Ok (List.range' 1 n) (at1 sz) (at1 cn)
  ht : t.ht ≤ dep + 1
  sz : t.size + 1 ≤ 2 ^ (dep + 1)
def r_tree (K : PySem.W.Frag) (d : Nat) : Mode → List MP → MP → Prop := fun M Rs R => ∃ (p : Addr) (n dep : Nat) (sz cn : List Nat), M = handM K p ∧ 1 ≤ n ∧ n ≤ 10 ∧ sz.length = n ∧ cn.length = n ∧ (∀ x ∈ sz, x ≤ 100) ∧ (∀ x ∈ cn, x ≤ 100) ∧ dep ≤ d ∧ Rs = [rawv (.ref p), dt K (numsD sz), dt K (numsD cn), dt K (.int (dep : Int))] ∧ R = someD K (TreeOk n sz cn dep) (Tr.D true)
theorem cal_tree_step (D : DefAt K mg "_law_people_tree" "_law_people_tree" s__law_people_tree p__law_people_tree) (T : Nm mg) (G__law_take : C_take P w K mg base) (G__law_bits : C_bits P w K mg base) (d : Nat) (Rl : Mode → List MP → MP → Prop)
    (hR : ∀ M Rs R, 1 ≤ d → r_tree K (d - 1) M Rs R → Rl M Rs R) (G__law_people_tree : Cal P w K mg base (2 + d) "_law_people_tree" p__law_people_tree (spM Rl)) : Cal P w K mg base (2 + d + 1) "_law_people_tree" p__law_people_tree (spM (r_tree K d)) := by
  have up1 : 1 ≤ 2 + d := by omega
  have up2 : 2 ≤ 2 + d := by omega
  have up3 : 2 + d ≤ 2 + d := by omega
  refine cal_M D sc__law_people_tree (fun M Rs R h => by obtain ⟨_, _, _, _, _, _, _, _, _, _, _, _, _, rfl, _⟩ := h; rfl) fun f cdv A outer s H E hr => ⟨_, (pss_cons (ps_set (i := 4) sc__law_people_tree.nd rfl (Or.inl rfl) (pe_callB (k_len K) (by rfl) T.len (by decide +kernel) (pa_cons (pv 1) pa_nil)))
  (pss_cons (ps_if (PW.pt (pw_or (pt_cmpR op_eq (pv 3) pe_int (nomark _)) (pw_or1 (pt_cmpR op_eq (pe_c (G__law_take.up (by first | decide | omega)) hr (by rfl) (pa_cons (pv 0) (pa_cons pe_int pa_nil))) pe_int (nomark _))))) (pss_one (ps_ret (pe_tup (pa_cons pe_str (pa_cons (pe_callTy (k_tup K) (by rfl) T.tuple (by decide +kernel) (pa_cons (pe_lc (own := [("_law_p", 5)]) rfl sc__law_people_tree.nd (pi_range1 (by rfl) T.range (pa_cons (pv 4) pa_nil)) (blkOk_by (N := n__law_people_tree) (sc := defScope s__law_people_tree) (scope := cs__law_people_tree_0) (own := [("_law_p", 5)]) (by decide +kernel)) (fun _ _ _ _ _ => (pg_name (i := 5) sc__law_people_tree.nd rfl (Or.inl rfl))) (fun _ _ _ _ _ => pts_nil) (fun _ _ _ _ _ => (pe_c (G__law_bits.up (by first | decide | omega)) hr (by rfl) (pa_cons (pv 0) (pa_cons (pe_ix (k_ix K) (pv 1) (pv 5) (fun _ _ => rfl)) (pa_cons (pe_ix (k_ix K) (pv 2) (pv 5) (fun _ _ => rfl)) (pa_cons pe_int pa_nil))))))) pa_nil)) pa_nil))))) pss_nil)
  (pss_cons (ps_set (i := 5) sc__law_people_tree.nd rfl (Or.inl rfl) (pe_c (G__law_take.up (by first | decide | omega)) hr (by rfl) (pa_cons (pv 0) (pa_cons (pv 4) pa_nil))))
  (pss_cons (ps_set (i := 6) sc__law_people_tree.nd rfl (Or.inl rfl) (pe_c (G__law_bits.up (by first | decide | omega)) hr (by rfl) (pa_cons (pv 0) (pa_cons (pe_ix (k_ix K) (pv 1) (pv 5) (fun _ _ => rfl)) (pa_cons (pe_ix (k_ix K) (pv 2) (pv 5) (fun _ _ => rfl)) (pa_cons pe_int pa_nil))))))
  (pss_cons (ps_set (i := 7) sc__law_people_tree.nd rfl (Or.inl rfl) (pe_c (G__law_people_tree.up (by first | decide | omega)) hr (by rfl) (pa_cons (pv 0) (pa_cons (pv 1) (pa_cons (pv 2) (pa_cons (pe_op op_sub (pv 3) pe_int) pa_nil))))))
  (pss_one (ps_ret (pe_tup (pa_cons pe_str (pa_cons (pe_op op_add (pv 5) pe_int) (pa_cons (pv 6) (pa_cons (pv 7) (pa_cons (pe_c (G__law_people_tree.up (by first | decide | omega)) hr (by rfl) (pa_cons (pv 0) (pa_cons (pv 1) (pa_cons (pv 2) (pa_cons (pe_op op_sub (pv 3) pe_int) pa_nil))))) pa_nil))))))))))))), ?_⟩
  rintro M Rs R ⟨p, n, dep, sz, cn, rfl, h1, hn, hs, hc, hsb, hcb, hd, rfl, rfl⟩ F Q q
  have szi : ∀ {Γ : Gm} {M : Mode} {te : TE} (l : List Nat) (a i : Nat), l.length = n → i < n → Γ[a]? = some (some (dt K (numsD l))) → EE M Γ te (dt K (.int (i : Int))) → EE M Γ (tOp (rIx K) (tVar a) te) (dt K (.int (at1 l (i + 1) : Int))) := fun l a i hl hi ha he => ee_ixT (ds := l.map fun (p : Nat) => PyData.int (p : Int)) (j := i) (ee_var ha) he rfl (size_get (p := i + 1) hl (by omega))
  have b100 : ∀ (l : List Nat) (i : Nat), l.length = n → (∀ x ∈ l, x ≤ 100) → i < n → at1 l (i + 1) ≤ 100 := fun l i hl hb hi => hb _ (at1_mem hl (by omega))
  refine sq_set (m := dt K (.int (n : Int))) (ee_cast (ee_lenT (ds := sz.map fun (p : Nat) => PyData.int (p : Int)) (ee_var rfl)) (by rw [List.length_map, hs])) ?_
  refine ss_seq (ss_ifN (P := fun b => b = false → dep ≠ 0) (etN_or (a := decide ((dep : Int) = 0)) (et_test (ee_eqI (ee_var rfl) ee_int)) (fun h => et_imp (et_eqN (K := K) (E := fun v => 0 ≤ v ∧ v < 5) (ee_callM (Rel := r_take K) (R := zB K 5) (ea_cons (ee_var rfl) (ea_one ee_int)) ⟨p, 5, rfl, by omega, rfl, rfl⟩) ee_int) fun b _ _ e => of_decide_eq_false h (by rw [e]; rfl)) (fun _ h => nomatch h)) (fun _ => ?_) fun hdep => ?_)
  · refine ss_ret (m := someD K (TreeOk n sz cn dep) (Tr.D true)) (ee_imp (ee_tupM (K := K) (ms := [dt K (.str "end"), someD K (fun as : List Tab => as.length = n ∧ ∀ (i : Nat) x, as[i]? = some x → TabB (at1 sz (i + 1)) (at1 cn (i + 1)) 2 x) fun xs => .tuple (xs.map tabD)]) (ea_cons ee_str (ea_one (ee_tupOfA (ee_lcR1I (K := K) (n := n) (ea_one (ee_var rfl)) (by omega) (by decide) fun i hi => ?_)))) (by show 2 ≤ 100000; decide)) fun F v r => ?_) q
    · exact ee_callM (Rel := r_tab K) (R := someD K (TabB (at1 sz (i + 1)) (at1 cn (i + 1)) 2) tabD) (ea_cons (ee_var rfl) (ea_cons (szi sz 1 i hs hi rfl (ee_var rfl)) (ea_cons (szi cn 2 i hc hi rfl (ee_var rfl)) (ea_one ee_int)))) ⟨p, _, _, 2, rfl, by omega, by have := b100 sz i hs hsb hi; omega, by have := b100 cn i hc hcb hi; omega, rfl, rfl⟩
    · obtain ⟨b, xs, rfl, hx, pm⟩ := r
      cases pm with
      | cons r1 pm => cases pm with
        | cons r2 pm =>
          cases pm
          obtain ⟨_, ⟨as, ⟨ha1, ha2⟩, rfl⟩, r2⟩ := r2
          refine ⟨_, ⟨.fin as, ⟨⟨by rw [ha1, List.length_range'], fun i pp a e1 e2 => ?_⟩, ?_, ?_⟩, rfl⟩, .tup hx (.cons r1 (.cons r2 .nil))⟩
          · have hi : i < n := by
              have := (List.getElem?_eq_some_iff.mp e2).1
              omega
            rw [List.getElem?_range' hi] at e1
            cases e1
            have := (ha2 i a e2).1
            rw [show 1 + 1 * i = i + 1 by omega]
            exact this
          · show 1 ≤ dep + 1
            omega
          · show 1 + 1 ≤ 2 ^ (dep + 1)
            have : 2 ^ dep ≥ 1 := Nat.one_le_two_pow
            rw [Nat.pow_succ]; omega
  · have hdep := hdep rfl
    refine sq_set (m := zB K (n : Int)) (ee_callM (Rel := r_take K) (ea_cons (ee_var rfl) (ea_one (ee_var rfl))) ⟨p, n, rfl, by omega, rfl, rfl⟩) ?_
    refine ss_case (j := 5) (by show 5 < 8; decide) rfl fun m hm => ?_
    obtain ⟨v, ⟨hv0, hv1⟩, rfl⟩ := hm
    obtain ⟨i, rfl⟩ : ∃ i : Nat, v = (i : Int) := ⟨v.toNat, by omega⟩
    have hi : i < n := by omega
    refine sq_set (m := someD K (TabB (at1 sz (i + 1)) (at1 cn (i + 1)) 2) tabD) (ee_callM (Rel := r_tab K) (ea_cons (ee_var rfl) (ea_cons (szi sz 1 i hs hi rfl (ee_var rfl)) (ea_cons (szi cn 2 i hc hi rfl (ee_var rfl)) (ea_one ee_int)))) ⟨p, _, _, 2, rfl, by omega, by have := b100 sz i hs hsb hi; omega, by have := b100 cn i hc hcb hi; omega, rfl, rfl⟩) ?_
    refine ss_case (j := 6) (by show 6 < 8; decide) rfl fun m hm => ?_
    obtain ⟨bt, hbt, rfl⟩ := hm
    have recc : ∀ {Γ : Gm}, Γ[0]? = some (some (rawv (.ref p))) → Γ[1]? = some (some (dt K (numsD sz))) → Γ[2]? = some (some (dt K (numsD cn))) → Γ[3]? = some (some (dt K (.int (dep : Int)))) → EE (handM K p) Γ (tCall (spM Rl) [] E0 (tCons (tVar 0) (tCons (tVar 1) (tCons (tVar 2) (tCons (tOp (rI0 fun i j => .int (i - j)) (tVar 3) (tC (.int 1))) tNil))))) (someD K (TreeOk n sz cn (dep - 1)) (Tr.D true)) := fun g0 g1 g2 g3 =>
      ee_callM (ea_cons (ee_var g0) (ea_cons (ee_var g1) (ea_cons (ee_var g2) (ea_one (ee_sub (ee_var g3) ee_int))))) (hR _ _ _ (by omega) ⟨p, n, dep - 1, sz, cn, rfl, h1, hn, hs, hc, hsb, hcb, by omega, by rw [show ((dep - 1 : Nat) : Int) = (dep : Int) - 1 by omega], rfl⟩)
    refine sq_set (m := someD K (TreeOk n sz cn (dep - 1)) (Tr.D true)) (recc rfl rfl rfl rfl) ?_
    refine ss_case (j := 7) (by show 7 < 8; decide) rfl fun m hm => ?_
    obtain ⟨t1, ht1, rfl⟩ := hm
    refine ss_ret (m := someD K (TreeOk n sz cn dep) (Tr.D true)) (ee_imp (ee_tupM (K := K) (ms := [dt K (.str "say"), dt K (.int ((i : Int) + 1)), dt K (tabD bt), dt K (t1.D true), someD K (TreeOk n sz cn (dep - 1)) (Tr.D true)]) (ea_cons ee_str (ea_cons (ee_add (ee_var rfl) ee_int) (ea_cons (ee_var rfl) (ea_cons (ee_var rfl) (ea_one (recc rfl rfl rfl rfl)))))) (by show 5 ≤ 100000; decide)) fun F v r => ?_) q
    obtain ⟨b, xs, rfl, hx, pm⟩ := r
    cases pm with
    | cons r1 pm => cases pm with
      | cons r2 pm => cases pm with
        | cons r3 pm => cases pm with
          | cons r4 pm => cases pm with
            | cons r5 pm =>
              cases pm
              obtain ⟨_, ⟨t2, ht2, rfl⟩, r5⟩ := r5
              refine ⟨_, ⟨.say (i + 1) bt t1 t2, ⟨⟨?_, hbt.1, fun r hr b hb => ?_, ht1.ok, ht2.ok⟩, ?_, ?_⟩, rfl⟩, .tup hx (.cons r1 (.cons r2 (.cons r3 (.cons r4 (.cons r5 .nil)))))⟩
              · exact List.mem_range'_1.mpr (by omega)
              · have := hbt.2 r hr b hb
                omega
              · have e1 := ht1.ht
                have e2 := ht2.ht
                show max t1.ht t2.ht + 1 ≤ dep + 1
                have := Nat.max_le.mpr ⟨e1, e2⟩
                omega
              · have e1 := ht1.sz
                have e2 := ht2.sz
                show t1.size + t2.size + 1 + 1 ≤ 2 ^ (dep + 1)
                rw [show dep - 1 + 1 = dep by omega] at e1 e2
                rw [Nat.pow_succ]
                omega
abbrev C_tree (P : Program) (w : World) (K : PySem.W.Frag) (mg : Str → Option Value) (base : Heap) : Prop := Cal P w K mg base 6 "_law_people_tree" p__law_people_tree (spM (r_tree K 3))
theorem cal_tree (D : DefAt K mg "_law_people_tree" "_law_people_tree" s__law_people_tree p__law_people_tree) (T : Nm mg) (G__law_take : C_take P w K mg base) (G__law_bits : C_bits P w K mg base) : C_tree P w K mg base := by
  have t0 : Cal P w K mg base 3 "_law_people_tree" p__law_people_tree (spM (r_tree K 0)) := cal_tree_step D T G__law_take G__law_bits 0 _ (fun _ _ _ h => absurd h (by decide)) (cal_none D sc__law_people_tree 1)
  have t1 : Cal P w K mg base 4 "_law_people_tree" p__law_people_tree (spM (r_tree K 1)) := cal_tree_step D T G__law_take G__law_bits 1 _ (fun _ _ _ _ h => h) t0
  have t2 : Cal P w K mg base 5 "_law_people_tree" p__law_people_tree (spM (r_tree K 2)) := cal_tree_step D T G__law_take G__law_bits 2 _ (fun _ _ _ _ h => h) t1
  exact cal_tree_step D T G__law_take G__law_bits 3 _ (fun _ _ _ _ h => h) t2
end
end K46
/-! K46, part yh: draws. -/
namespace K46
open PySem L2
open Evl (Ex ex_l ex_t)
section
variable {K : PySem.W.Frag} {Z : Zr} {M : Mode} {Γ : Gm} {ta tb te : TE} {D : Ends} {t u z : TS} {tt : TT}
theorem sq_ifJ {α : Type} {b : Bool} (G : α → Gm) (h : ETb M Γ tt b) (rest : ∀ c, SS Z M (G c) (z D)) (h1 : (∀ c, SS Z M (G c) (z D)) → b = true → SS Z M Γ (t { D with nx := z D })) (h2 : (∀ c, SS Z M (G c) (z D)) → b = false → SS Z M Γ (u { D with nx := z D })) : SS Z M Γ (tSeq (tIfS tt t u) z D) := sq_if h (h1 rest) (h2 rest)
theorem ee_abs {i : Int} (h : EE M Γ te (dt K (.int i))) : EE M Γ (tCB (fun xs H Q => ∃ i, xs = [V.int i] ∧ Q (.int (if i < 0 then -i else i)) H) (tCons te tNil)) (dt K (.int (if i < 0 then -i else i))) :=
  ee_cb (ea_cons h ea_nil) fun F H vs ok pm Q q => by
    cases pm with
    | cons r1 r2 =>
      cases r2
      cases dp_int r1
      exact ⟨i, rfl, q _ F H .refl ok (.int _)⟩
theorem ee_pow {i j : Int} (ha : EE M Γ ta (dt K (.int i))) (hb : EE M Γ tb (dt K (.int j))) (hc : CPow i j) : EE M Γ (tOp (rI CPow fun i j => .int (i ^ j.toNat)) ta tb) (dt K (.int (i ^ j.toNat))) := ee_I (g := fun i j => .int (i ^ j.toNat)) ha hb hc fun _ => .int _
end
section
variable {P : Program} {w : World} {K : PySem.W.Frag} {mg : Str → Option Value} {base : Heap} {C : Addr}
abbrev zs (K : PySem.W.Frag) (is : List Int) : List MP := (is.map PyData.int).map (dt K)
def r_draws (K : PySem.W.Frag) : List MP → MP → Prop := fun Rs R => ∃ (ns : List Int) (N : Nat), ns.length ≤ 1000 ∧ N ≤ 1000 ∧ Rs = [dt K (intsL ns), dt K (.int (N : Int))] ∧ R = someD K (fun _ : List Int => True) intsL
abbrev C_draws (P : Program) (w : World) (K : PySem.W.Frag) (mg : Str → Option Value) (base : Heap) : Prop := Cal P w K mg base 1 "_law_draws" p__law_draws (spP (r_draws K))
theorem cal_draws (D : DefAt K mg "_law_draws" "_law_draws" s__law_draws p__law_draws) (T : Nm mg) : C_draws P w K mg base := by
  refine cal_P D sc__law_draws (fun Rs R h => by obtain ⟨_, _, _, _, rfl, _⟩ := h; rfl) fun f cdv A outer s H E hr => ⟨_, (pss_cons (ps_setLc (i := 2) (own := [("_law_cell", 3)]) rfl sc__law_draws.nd rfl rfl (sw_true rfl rfl rfl (by decide +kernel)) (k_pl K (pv 0)) (blkOk_by (N := n__law_draws) (sc := defScope s__law_draws) (scope := cs__law_draws_0) (own := [("_law_cell", 3)]) (by decide +kernel)) (fun _ _ _ _ _ => (pg_name (i := 3) sc__law_draws.nd rfl (Or.inl rfl))) (fun _ _ _ _ _ => pts_nil) (fun _ _ _ _ _ => (pe_callB call_abs (by rfl) T.abs (by decide +kernel) (pa_cons (pe_callTy call_intS (by rfl) T.int (by decide +kernel) (pa_cons (pv 3) pa_nil)) pa_nil))))
  (pss_cons (ps_set (i := 4) sc__law_draws.nd rfl (Or.inl rfl) (pe_lst pa_nil))
  (pss_cons (ps_for PassesOwn.never rfl (pi_range1 (by rfl) T.range (pa_cons (pv 1) pa_nil)) (pg_name (i := 5) sc__law_draws.nd rfl (Or.inl rfl)) (pss_cons (ps_set (i := 3) sc__law_draws.nd rfl (Or.inl rfl) (pv 5))
  (pss_cons (ps_if (pt_cmpR op_gt (pe_callB (k_len K) (by rfl) T.len (by decide +kernel) (pa_cons (pv 0) pa_nil)) pe_int (nomark _)) (pss_cons (ps_set (i := 6) sc__law_draws.nd rfl (Or.inl rfl) (pe_op op_mod (pv 5) (pe_callB (k_len K) (by rfl) T.len (by decide +kernel) (pa_cons (pv 0) pa_nil))))
  (pss_cons (ps_set (i := 3) sc__law_draws.nd rfl (Or.inl rfl) (pe_callTy call_intS (by rfl) T.int (by decide +kernel) (pa_cons (pe_ix (k_ix K) (pv 0) (pv 6) (fun _ _ => rfl)) pa_nil)))
  (pss_one (ps_if (PW.pt (pw_and (pt_cmpR op_ge (pv 3) (pe_op op_pow pe_int pe_int) (nomark _)) (pw_and1 (pt_cmpR op_gt (pe_ix (k_ix K) (pv 2) (pv 6) (fun _ _ => rfl)) pe_int (nomark _))))) (pss_cons (ps_expr (pe_bm PySem.F.plainAttrs_list PySem.F.slot_list_append PySem.F.type_list_append mt_append (pv 4) (pa_cons (pe_op op_mod (pe_callTy call_intS (by rfl) T.int (by decide +kernel) (pa_cons (pe_ix (k_ix K) (pv 2) (pv 6) (fun _ _ => rfl)) pa_nil)) pe_int) pa_nil)))
  (pss_cons (ps_asg (pe_op op_fdiv (pe_callTy call_intS (by rfl) T.int (by decide +kernel) (pa_cons (pe_ix (k_ix K) (pv 2) (pv 6) (fun _ _ => rfl)) pa_nil)) pe_int) (pg_sub (pv 2) (pv 6) set_list))
  (pss_one ps_continue))) pss_nil)))) pss_nil)
  (pss_cons (ps_set (i := 7) sc__law_draws.nd rfl (Or.inl rfl) (pe_op op_mod (pe_callTy call_intS (by rfl) T.int (by decide +kernel) (pa_cons (pe_op op_add (pe_op op_add (pe_op op_mul (pv 3) pe_int) (pe_op op_mul (pv 5) pe_int)) pe_int) pa_nil)) pe_int))
  (pss_cons (ps_set (i := 7) sc__law_draws.nd rfl (Or.inl rfl) (pe_op op_mod (pe_callTy call_intS (by rfl) T.int (by decide +kernel) (pa_cons (pe_op op_add (pe_op op_fdiv (pe_op op_mul (pv 7) (pv 7)) pe_int) (pv 7)) pa_nil)) pe_int))
  (pss_one (ps_expr (pe_bm PySem.F.plainAttrs_list PySem.F.slot_list_append PySem.F.type_list_append mt_append (pv 4) (pa_cons (pe_op op_mod (pe_callTy call_intS (by rfl) T.int (by decide +kernel) (pa_cons (pe_op op_add (pe_op op_fdiv (pe_op op_mul (pv 7) (pv 7)) pe_int) (pe_op op_mul (pv 5) pe_int)) pa_nil)) pe_int) pa_nil)))))))))
  (pss_one (ps_ret (pv 4)))))), ?_⟩
  rintro Rs R ⟨ns, N, hns, hN, rfl, rfl⟩ F Q q
  have pz : ∀ {M : Mode} (F H : Hp), M.I F H → (⟨pu, F, H⟩ : Zr).M.I F H := fun _ _ _ => trivial
  refine ss_seq (ss_lcLO (K := K) (ns := (ns.map PyData.int).map (dt K)) (fun i => dt K (.int (if ns.getD i 0 < 0 then -(ns.getD i 0) else ns.getD i 0))) (ee_imp (ee_var rfl) fun F v r => lsM_of r) (by rw [List.length_map, List.length_map]; omega) (by decide) (fun i x hx => ?_) fun pr => ?_)
  · obtain ⟨d, hd, rfl⟩ := map_get hx
    obtain ⟨z, hz, rfl⟩ := map_get hd
    rw [show ns.getD i 0 = z by rw [List.getD_eq_getElem?_getD, hz]; rfl]
    exact ee_abs (ee_int1 (ee_var rfl))
  have er : (List.range ((ns.map PyData.int).map (dt K)).length).map (fun i => dt K (.int (if ns.getD i 0 < 0 then -(ns.getD i 0) else ns.getD i 0))) = zs K ((List.range ns.length).map fun i => if ns.getD i 0 < 0 then -(ns.getD i 0) else ns.getD i 0) := by
    rw [List.length_map, List.length_map]
    unfold zs
    rw [List.map_map, List.map_map]; rfl
  rw [er]
  refine ss_seq (ss_newL (ms := []) ea_nil (by show 0 ≤ 100000; decide) fun pd => ?_)
  refine ss_seq (ss_forR1 (K := K) (n := (N : Int)) (ea_one (ee_var rfl)) (by omega) (fun k σ H' => ∃ rs ds : List Int, rs.length = ns.length ∧ ds.length ≤ k ∧ At ⟨pu, F, H⟩ (ownL pd (zs K ds) (ownL pr (zs K rs) pu)) [some (dt K (intsL ns)), some (dt K (.int (N : Int))), some (rawv (.ref pr)), none, some (rawv (.ref pd)), none, none, none] σ H') (fun σ H' a => ⟨_, [], by simp, Nat.le_refl _, a⟩) ?_ ?_)
  · rintro k σ1 H1 hk ⟨rs, ds, hrs, hds, a⟩
    refine ss_go (a.put (m := dt K (.int (k : Int))) (j := 5) (.int _)) ?_
    have hk' : k < N := by omega
    have lz : ∀ l : List Int, (zs K l).length = l.length := fun l => by rw [List.length_map, List.length_map]
    have snoc : ∀ (l : List Int) (x : Int), zs K l ++ [dt K (.int x)] = zs K (l ++ [x]) := fun l x => by unfold zs; rw [List.map_append, List.map_append]; rfl
    have done : ∀ {Γ : Gm} {rs' ds' : List Int}, GmLe Γ [some (dt K (intsL ns)), some (dt K (.int (N : Int))), some (rawv (.ref pr)), none, some (rawv (.ref pd)), none, none, none] → rs'.length = ns.length → ds'.length ≤ k + 1 → SS ⟨pu, F, H⟩ (ownL pd (zs K ds') (ownL pr (zs K rs') pu)) Γ (fun σ H' => ∃ rs ds : List Int, rs.length = ns.length ∧ ds.length ≤ k + 1 ∧ At ⟨pu, F, H⟩ (ownL pd (zs K ds) (ownL pr (zs K rs) pu)) [some (dt K (intsL ns)), some (dt K (.int (N : Int))), some (rawv (.ref pr)), none, some (rawv (.ref pd)), none, none, none] σ H') := fun l h1 h2 σ H a => ⟨_, _, h1, h2, a.le l⟩
    refine sq_set (m := dt K (.int (k : Int))) (ee_var rfl) ?_
    refine sq_ifJ (fun c : Int => [some (dt K (intsL ns)), some (dt K (.int (N : Int))), some (rawv (.ref pr)), some (dt K (.int c)), some (rawv (.ref pd)), some (dt K (.int (k : Int))), none, none]) (b := decide ((0 : Int) < (ns.length : Int))) (et_test (K := K) (ee_gt (ee_cast (ee_lenL (ds := ns.map .int) (ee_var rfl)) (by rw [List.length_map])) ee_int)) (fun c => ?_) (fun rest hb => ?_) fun rest _ => ss_le (rest (k : Int)) (.cons (.cons (.cons (.cons (.cons (.cons (.cons (.cons .nil))))))))
    · refine sq_set (m := dt K (.int ((c * 48271 + (k : Int) * 69621 + 11) % 2147483647))) (ee_mod (ee_int1 (ee_add (ee_add (ee_mul (ee_var rfl) ee_int (.inr (by omega))) (ee_mul (ee_var rfl) ee_int (.inr (by omega)))) ee_int)) ee_int (by omega)) ?_
      have m1 := Int.emod_nonneg (c * 48271 + (k : Int) * 69621 + 11) (show (2147483647 : Int) ≠ 0 by omega)
      have m2 := Int.emod_lt_of_pos (c * 48271 + (k : Int) * 69621 + 11) (show (0 : Int) < 2147483647 by omega)
      generalize (c * 48271 + (k : Int) * 69621 + 11) % 2147483647 = x at *
      refine sq_set (m := dt K (.int ((x * x / 4096 + x) % 2147483629))) (ee_mod (ee_int1 (ee_add (ee_fdiv (ee_mul (ee_var rfl) (ee_var rfl) (.inl (by omega))) ee_int ⟨by decide, by decide⟩) (ee_var rfl))) ee_int (by omega)) ?_
      have n1 := Int.emod_nonneg (x * x / 4096 + x) (show (2147483629 : Int) ≠ 0 by omega)
      have n2 := Int.emod_lt_of_pos (x * x / 4096 + x) (show (0 : Int) < 2147483629 by omega)
      generalize (x * x / 4096 + x) % 2147483629 = y at *
      refine ss_append (m := dt K (.int ((y * y / 4096 + (k : Int) * 7919) % 2147483629))) (ee_var rfl) (ee_mod (ee_int1 (ee_add (ee_fdiv (ee_mul (ee_var rfl) (ee_var rfl) (.inl (by omega))) ee_int ⟨by decide, by decide⟩) (ee_mul (ee_var rfl) ee_int (.inr (by omega))))) ee_int (by omega)) (by rw [lz]; omega) pz ?_
      rw [snoc]
      exact done (.cons (.cons (.cons (.drop (.cons (.drop (.cons (.drop .nil)))))))) hrs (by rw [List.length_append]; show ds.length + 1 ≤ k + 1; omega)
    · have hb := of_decide_eq_true hb
      have hl : 0 < ns.length := by omega
      have hat : (k : Int) % (ns.length : Int) = ((k % ns.length : Nat) : Int) := by rw [Int.natCast_emod]
      have hlt : k % ns.length < ns.length := Nat.mod_lt _ hl
      refine sq_set (m := dt K (.int ((k % ns.length : Nat) : Int))) (ee_cast (ee_mod (ee_var rfl) (ee_cast (ee_lenL (ds := ns.map .int) (ee_var rfl)) (by rw [List.length_map])) (by omega)) (by rw [hat])) ?_
      generalize k % ns.length = j at hlt
      refine sq_set (m := dt K (.int ns[j])) (ee_int1 (ee_ixL (ds := ns.map .int) (j := j) (ee_var rfl) (ee_var rfl) rfl (by rw [List.getElem?_map, List.getElem?_eq_getElem hlt]; rfl))) ?_
      have hrj : j < rs.length := by omega
      have rj : ∀ {Γ : Gm} (ds : List Int), Γ[2]? = some (some (rawv (.ref pr))) → Γ[6]? = some (some (dt K (.int (j : Int)))) → EE (ownL pd (zs K ds) (ownL pr (zs K rs) pu)) Γ (tOp (rIx K) (tVar 2) (tVar 6)) (dt K (.int rs[j])) := fun ds g2 g6 => ee_eqv own_swap (ee_ixO (j := j) (ee_var g2) (ee_var g6) rfl (by unfold zs; rw [List.getElem?_map, List.getElem?_map, List.getElem?_eq_getElem hrj]; rfl))
      refine ss_if (b := decide (((10 : Int) ^ (18 : Int).toNat) ≤ ns[j]) && decide (0 < rs[j])) (et_and (et_test (K := K) (ee_ge (ee_var rfl) (ee_pow ee_int ee_int ⟨by decide, by decide, by decide⟩))) fun _ => et_test (K := K) (ee_gt (rj ds rfl rfl) ee_int)) (fun _ => ?_) fun _ => ss_le (rest ns[j]) (.cons (.cons (.cons (.cons (.cons (.cons (.drop (.cons .nil))))))))
      refine sq_append (m := dt K (.int (rs[j] % 1000003))) (ee_var rfl) (ee_mod (ee_int1 (rj ds rfl rfl)) ee_int (by omega)) (by rw [lz]; omega) pz ?_
      rw [snoc]
      refine ss_seq (ss_swap (ss_setL (K := K) (m := dt K (.int (rs[j] / 1000003))) (j := j) (ee_eqv own_swap (ee_fdiv (ee_int1 (rj _ rfl rfl)) ee_int ⟨by decide, by decide⟩)) (ee_var rfl) (ee_var rfl) rfl (by rw [lz]; omega) pz (ss_swap ?_)))
      have eset : (zs K rs).set j (dt K (.int (rs[j] / 1000003))) = zs K (rs.set j (rs[j] / 1000003)) := by unfold zs; rw [List.map_set, List.map_set]
      rw [eset]
      exact done (.cons (.cons (.cons (.drop (.cons (.drop (.drop (.cons .nil)))))))) (by rw [List.length_set]; exact hrs) (by rw [List.length_append]; show ds.length + 1 ≤ k + 1; omega)
  · rintro σ1 H1 ⟨rs, ds, _, _, a⟩
    exact ss_go (N := tRet (tVar 4) { nx := fun _ H' => Q .non H', rt := Q }) a (ss_retL (Z := ⟨pu, F, H⟩) (q := someD K (fun _ : List Int => True) intsL) (ds := ds.map .int) (ee_var rfl) (fun _ h => h.elim) (fun F v h => ⟨_, ⟨ds, trivial, rfl⟩, h⟩) q)
end
end K46
/-! K46, part yi: the talk of two sides says what the people say. -/
namespace K46
open PySem L2
/-! ### rows -/
theorem rowsOf_snoc (ms : List Nat) (m : Nat) : rowsOf (ms ++ [m]) = rowsStep (rowsOf ms) m := by
  rw [rowsOf_eq, rowsOf_eq, List.foldl_append]; rfl
theorem step_at {rows : List (List Int)} {m k : Nat} (hk : k < m) : ∀ {i : Nat} {r : List Int}, rows[i]? = some r → (rowsStep rows m)[i * m + k]? = some (r ++ [(k : Int)]) := by
  induction rows with
  | nil => intro i r h; simp at h
  | cons a l ih =>
    intro i r h
    have e : rowsStep (a :: l) m = ((List.range m).map fun (k : Nat) => a ++ [(k : Int)]) ++ rowsStep l m := by unfold rowsStep; rw [List.flatMap_cons]
    rw [e]
    cases i with
    | zero =>
      have h : a = r := by simpa using h
      subst h
      rw [Nat.zero_mul, Nat.zero_add, List.getElem?_append_left (by rw [List.length_map, List.length_range]; exact hk), List.getElem?_map, List.getElem?_range hk]; rfl
    | succ i =>
      rw [List.getElem?_append_right (by rw [List.length_map, List.length_range, Nat.succ_mul]; omega), List.length_map, List.length_range, show (i + 1) * m + k - m = i * m + k by rw [Nat.succ_mul]; omega]
      exact ih (by simpa using h)
theorem step_len (rows : List (List Int)) (m : Nat) : (rowsStep rows m).length = rows.length * m := by
  induction rows with
  | nil => show 0 = 0 * m; omega
  | cons a l ih =>
    have e : rowsStep (a :: l) m = ((List.range m).map fun (k : Nat) => a ++ [(k : Int)]) ++ rowsStep l m := by unfold rowsStep; rw [List.flatMap_cons]
    rw [e, List.length_append, ih, List.length_map, List.length_range, List.length_cons, Nat.succ_mul]
    omega
theorem rowsT_snoc (sz g : List Nat) (p : Nat) : rowsT sz (g ++ [p]) = rowsStep (rowsT sz g) (at1 sz p) := by
  unfold rowsT
  rw [List.map_append]
  exact rowsOf_snoc _ _
theorem snoc_ind {P : List Nat → Prop} (h0 : P []) (h1 : ∀ g p, P g → P (g ++ [p])) : ∀ g, P g := by
  have key : ∀ n (g : List Nat), g.length = n → P g := by
    intro n
    induction n with
    | zero => intro g h; rw [List.length_eq_zero_iff.mp h]; exact h0
    | succ n ih =>
      intro g h
      have hg : g ≠ [] := fun z => by rw [z] at h; cases h
      have e := (List.dropLast_concat_getLast hg).symm
      rw [e]
      exact h1 _ _ (ih _ (by rw [List.length_dropLast, h]; rfl))
  exact fun g => key _ g rfl
theorem many_len (sz : List Nat) : ∀ g, manyOf sz g = ((rowsT sz g).length : Int) := snoc_ind rfl fun g p ih => by
  rw [rowsT_snoc, step_len]
  have e : manyOf sz (g ++ [p]) = manyOf sz g * (at1 sz p : Int) := by unfold manyOf; rw [List.foldl_append]; rfl
  rw [e, ih, Int.natCast_mul]
theorem len_le (sz : List Nat) (b : Nat) : ∀ g, (∀ p ∈ g, at1 sz p ≤ b) → (rowsT sz g).length ≤ b ^ g.length := snoc_ind (fun _ => Nat.le_refl _) fun g p ih h => by
  rw [rowsT_snoc, step_len, List.length_append, List.length_singleton, Nat.pow_succ]
  exact Nat.mul_le_mul (ih fun q hq => h q (List.mem_append.mpr (.inl hq))) (h p (List.mem_append.mpr (.inr (List.mem_singleton.mpr rfl))))
theorem len_ge (sz : List Nat) : ∀ g, (∀ p ∈ g, 1 ≤ at1 sz p) → 1 ≤ (rowsT sz g).length := snoc_ind (fun _ => Nat.le_refl _) fun g p ih h => by
  rw [rowsT_snoc, step_len]
  exact Nat.mul_le_mul (ih fun q hq => h q (List.mem_append.mpr (.inl hq))) (h p (List.mem_append.mpr (.inr (List.mem_singleton.mpr rfl))))
theorem row_at {n : Nat} {sz : List Nat} {nums : List Int} (hi : NumsIn n sz nums) : ∀ g, PplB n g → 0 ≤ numOf sz nums g ∧ numOf sz nums g < ((rowsT sz g).length : Int) ∧ (rowsT sz g)[(numOf sz nums g).toNat]? = some (g.map fun p => nums.getD (p - 1) 0) := snoc_ind (fun _ => ⟨Int.le_refl _, (show (0 : Int) < 1 by decide), rfl⟩) fun g p ih h => by
  obtain ⟨h1, h2, h3⟩ := ih fun q hq => h q (List.mem_append.mpr (.inl hq))
  have hp := h p (List.mem_append.mpr (.inr (List.mem_singleton.mpr rfl)))
  have hn := hi.lt p hp.1 hp.2
  have e : numOf sz nums (g ++ [p]) = numOf sz nums g * (at1 sz p : Int) + nums.getD (p - 1) 0 := by unfold numOf; rw [List.foldl_append]; rfl
  obtain ⟨i, hi'⟩ : ∃ i : Nat, numOf sz nums g = (i : Int) := ⟨_, (Int.toNat_of_nonneg h1).symm⟩
  obtain ⟨k, hk⟩ : ∃ k : Nat, nums.getD (p - 1) 0 = (k : Int) := ⟨_, (Int.toNat_of_nonneg hn.1).symm⟩
  rw [e, rowsT_snoc, step_len, hi', hk]
  rw [hi'] at h2 h3
  rw [hk] at hn
  have hkm : k < at1 sz p := by omega
  have hil : i < (rowsT sz g).length := by omega
  have e2 : (i : Int) * (at1 sz p : Int) + (k : Int) = ((i * at1 sz p + k : Nat) : Int) := by rw [Int.natCast_add, Int.natCast_mul]
  rw [e2]
  refine ⟨Int.natCast_nonneg _, ?_, ?_⟩
  · have h4 : (i + 1) * at1 sz p ≤ (rowsT sz g).length * at1 sz p := Nat.mul_le_mul_right _ hil
    rw [Nat.succ_mul] at h4
    omega
  · rw [Int.toNat_natCast] at h3 ⊢
    rw [step_at hkm h3, List.map_append]
    show some (_ ++ [(k : Int)]) = some (_ ++ [nums.getD (p - 1) 0])
    rw [hk]
/-! ### tables told to a team -/
theorem map_range_getD (f : Nat → Int) {n i : Nat} (h : i < n) : ((List.range n).map f).getD i 0 = f i := by
  rw [List.getD_eq_getElem?_getD, List.getElem?_map, List.getElem?_range h]; rfl
theorem cell_bit {v : Tab} (h : BitsTab v) (x r : Int) : cell v x r = 0 ∨ cell v x r = 1 := by
  unfold cell
  rw [List.getD_eq_getElem?_getD, List.getD_eq_getElem?_getD]
  cases e : v[x.toNat]? with
  | none => exact .inl (by simp)
  | some row =>
    show (row[r.toNat]?).getD 0 = 0 ∨ (row[r.toNat]?).getD 0 = 1
    cases e2 : row[r.toNat]? with
    | none => exact .inl rfl
    | some b => exact h row (List.mem_of_getElem? e) b (List.mem_of_getElem? e2)
theorem told_bits {v : Tab} (h : BitsTab v) (sz cn g : List Nat) (p : Nat) : BitsTab (toldT sz cn g p v) := fun r hr b hb => by
  unfold toldT at hr
  obtain ⟨x, _, rfl⟩ := List.mem_map.mp hr
  obtain ⟨y, _, rfl⟩ := List.mem_map.mp hb
  exact cell_bit h _ _
theorem told_cell {n : Nat} {sz cn g : List Nat} {ins cns : List Int} (hi : NumsIn n sz ins) (hc : NumsIn n cn cns) (hg : PplB n g) {p : Nat} (hp : p ∈ g) (v : Tab) :
    cell (toldT sz cn g p v) (numOf sz ins g) (numOf cn cns g) = cell v (ins.getD (p - 1) 0) (cns.getD (p - 1) 0) := by
  obtain ⟨_, _, h3⟩ := row_at hi g hg
  obtain ⟨_, _, k3⟩ := row_at hc g hg
  have ix : ∀ l : List Int, (g.map fun p => l.getD (p - 1) 0).getD (g.idxOf p) 0 = l.getD (p - 1) 0 := fun l => by
    have hl : g.idxOf p < g.length := List.idxOf_lt_length_iff.mpr hp
    rw [List.getD_eq_getElem?_getD, List.getElem?_map, List.getElem?_eq_getElem hl, List.getElem_idxOf]; rfl
  conv => lhs; unfold cell
  unfold toldT
  rw [List.getD_eq_getElem?_getD, List.getD_eq_getElem?_getD, List.getElem?_map, h3]
  show ((List.map _ (rowsT cn g))[(numOf cn cns g).toNat]?).getD 0 = _
  rw [List.getElem?_map, k3]
  show cell v ((g.map fun p => ins.getD (p - 1) 0).getD (g.idxOf p) 0) ((g.map fun p => cns.getD (p - 1) 0).getD (g.idxOf p) 0) = _
  rw [ix, ix]
/-! ### the talk -/
theorem sides_ht (sz cn g0 g1 : List Nat) : ∀ t, (toSides sz cn g0 g1 t).ht = t.ht
  | .fin _ => rfl
  | .say p b f s => by
    show max (toSides sz cn g0 g1 f).ht (toSides sz cn g0 g1 s).ht + 1 = max f.ht s.ht + 1
    rw [sides_ht sz cn g0 g1 f, sides_ht sz cn g0 g1 s]
theorem sides_size (sz cn g0 g1 : List Nat) : ∀ t, (toSides sz cn g0 g1 t).size = t.size
  | .fin _ => rfl
  | .say p b f s => by
    show (toSides sz cn g0 g1 f).size + (toSides sz cn g0 g1 s).size + 1 = f.size + s.size + 1
    rw [sides_size sz cn g0 g1 f, sides_size sz cn g0 g1 s]
theorem sides_ok {n : Nat} (sz cn g0 g1 : List Nat) : ∀ t : Tr, t.Ok (List.range' 1 n) (at1 sz) (at1 cn) → (toSides sz cn g0 g1 t).Ok [0, 1] (sz2 (rowsT sz g0).length (rowsT sz g1).length) (sz2 (rowsT cn g0).length (rowsT cn g1).length)
  | .fin as, _ => by
    refine ⟨rfl, fun i p a h1 h2 => ?_⟩
    match i, h1, h2 with
    | 0, h1, h2 => cases h1; cases h2; exact told_tab
    | 1, h1, h2 => cases h1; cases h2; exact told_tab
    | i + 2, h1, h2 => simp at h1
  | .say p b f s, ⟨hp, hb, hbb, hf, hs⟩ => by
    refine ⟨?_, ?_, told_bits hbb _ _ _ _, sides_ok sz cn g0 g1 f hf, sides_ok sz cn g0 g1 s hs⟩
    · by_cases h : p ∈ g0 <;> simp [h]
    · by_cases h : p ∈ g0
      · rw [if_pos h, if_pos h]; exact told_tab
      · rw [if_neg h, if_neg h]; exact told_tab
theorem sides_held {n : Nat} {sz cn g0 g1 : List Nat} {ins cns : List Int} (hi : NumsIn n sz ins) (hc : NumsIn n cn cns) (h0 : PplB n g0) (h1 : PplB n g1) (e0 : g0 ≠ []) (e1 : g1 ≠ []) (hall : ∀ p, 1 ≤ p → p ≤ n → p ∈ g0 ∨ p ∈ g1) : ∀ t : Tr, t.Ok (List.range' 1 n) (at1 sz) (at1 cn) →
    heldS (numOf sz ins g0) (numOf sz ins g1) (numOf cn cns g0) (numOf cn cns g1) (toSides sz cn g0 g1 t) = ((heldP n ins cns t).1, (heldP n ins cns t).2.getD (g0.headD 0 - 1) 0, (heldP n ins cns t).2.getD (g1.headD 0 - 1) 0)
  | .fin as, _ => by
    have one : ∀ g : List Nat, PplB n g → g ≠ [] → cell (toldT sz cn g (g.headD 0) (as.getD (g.headD 0 - 1) [])) (numOf sz ins g) (numOf cn cns g) = ((List.range n).map fun p => cell (as.getD p []) (ins.getD p 0) (cns.getD p 0)).getD (g.headD 0 - 1) 0 := fun g hg hn => by
      obtain ⟨p, g', rfl⟩ : ∃ p g', g = p :: g' := by
        cases g with
        | nil => exact absurd rfl hn
        | cons p g' => exact ⟨p, g', rfl⟩
      have hp := hg p List.mem_cons_self
      rw [told_cell hi hc hg (show (p :: g').headD 0 ∈ p :: g' from List.mem_cons_self)]
      exact (map_range_getD (fun p => cell (as.getD p []) (ins.getD p 0) (cns.getD p 0)) (i := p - 1) (by omega)).symm
    show (([] : List Int), cell (toldT sz cn g0 _ _) _ _, cell (toldT sz cn g1 _ _) _ _) = _
    rw [one g0 h0 e0, one g1 h1 e1]; rfl
  | .say p b f s, ⟨hp, hb, hbb, hf, hs⟩ => by
    have hpn := ShOk_ppl p hp
    have ebit : (if (if p ∈ g0 then 0 else 1) = 0 then cell (toldT sz cn (if p ∈ g0 then g0 else g1) p b) (numOf sz ins g0) (numOf cn cns g0) else cell (toldT sz cn (if p ∈ g0 then g0 else g1) p b) (numOf sz ins g1) (numOf cn cns g1)) = cell b (ins.getD (p - 1) 0) (cns.getD (p - 1) 0) := by
      by_cases h : p ∈ g0
      · simp only [h, if_true]
        exact told_cell hi hc h0 h b
      · simp only [h, if_false]
        exact told_cell hi hc h1 ((hall p hpn.1 hpn.2).resolve_left h) b
    have i1 := sides_held hi hc h0 h1 e0 e1 hall f hf
    have i2 := sides_held hi hc h0 h1 e0 e1 hall s hs
    show (((if (if p ∈ g0 then 0 else 1) = 0 then cell (toldT sz cn (if p ∈ g0 then g0 else g1) p b) (numOf sz ins g0) (numOf cn cns g0) else cell (toldT sz cn (if p ∈ g0 then g0 else g1) p b) (numOf sz ins g1) (numOf cn cns g1)) :: (if (if (if p ∈ g0 then 0 else 1) = 0 then cell (toldT sz cn (if p ∈ g0 then g0 else g1) p b) (numOf sz ins g0) (numOf cn cns g0) else cell (toldT sz cn (if p ∈ g0 then g0 else g1) p b) (numOf sz ins g1) (numOf cn cns g1)) = 0 then heldS _ _ _ _ (toSides sz cn g0 g1 f) else heldS _ _ _ _ (toSides sz cn g0 g1 s)).1), (if (if (if p ∈ g0 then 0 else 1) = 0 then cell (toldT sz cn (if p ∈ g0 then g0 else g1) p b) (numOf sz ins g0) (numOf cn cns g0) else cell (toldT sz cn (if p ∈ g0 then g0 else g1) p b) (numOf sz ins g1) (numOf cn cns g1)) = 0 then heldS _ _ _ _ (toSides sz cn g0 g1 f) else heldS _ _ _ _ (toSides sz cn g0 g1 s)).2) = _
    rw [ebit, i1, i2]
    show _ = (cell b (ins.getD (p - 1) 0) (cns.getD (p - 1) 0) :: (if cell b (ins.getD (p - 1) 0) (cns.getD (p - 1) 0) = 0 then heldP n ins cns f else heldP n ins cns s).1, (if cell b (ins.getD (p - 1) 0) (cns.getD (p - 1) 0) = 0 then heldP n ins cns f else heldP n ins cns s).2.getD (g0.headD 0 - 1) 0, (if cell b (ins.getD (p - 1) 0) (cns.getD (p - 1) 0) = 0 then heldP n ins cns f else heldP n ins cns s).2.getD (g1.headD 0 - 1) 0)
    by_cases h : cell b (ins.getD (p - 1) 0) (cns.getD (p - 1) 0) = 0
    · simp only [h, if_true]
    · simp only [h, if_false]
end K46
/-! K46, part yj: what the law's own def needs. -/
namespace K46
open PySem L2
open Evl (Ex ex_l ex_t)
section
variable {K : PySem.W.Frag} {Z : Zr} {M : Mode} {Γ : Gm} {ta tb te : TE} {m : MP} {D : Ends} {p : Addr}
theorem ee_addA {E : Int → Prop} {i : Int} (ha : EE M Γ ta (dt K (.int i))) (hb : EE M Γ tb (someD K E .int)) : EE M Γ (tOp (rI0 fun i j => .int (i + j)) ta tb) (someD K (fun v : Int => ∃ x, E x ∧ v = i + x) .int) :=
  ee_opv ha hb fun F H x y ok hx ⟨_, ⟨j, hj, e⟩, hy⟩ Q q => by
    subst e
    cases dp_int hx; cases dp_int hy
    exact ⟨i, j, rfl, rfl, q _ ⟨_, ⟨_, ⟨j, hj, rfl⟩, rfl⟩, .int _⟩⟩
theorem PM.lastA {F : Hp} {α : Type} {E : α → Prop} {g : α → PyData} : ∀ {vs : List V} {Rs : List MP}, PM F vs (Rs ++ [someD K E g]) → ∃ x, E x ∧ PM F vs (Rs ++ [dt K (g x)])
  | _, [], .cons h .nil => by
    obtain ⟨_, ⟨x, hx, rfl⟩, h⟩ := h
    exact ⟨x, hx, .cons h .nil⟩
  | _, _ :: _, .cons h t => by
    obtain ⟨x, hx, t'⟩ := PM.lastA t
    exact ⟨x, hx, .cons h t'⟩
/-- a call whose last argument is one of several -/
theorem ee_callM1 {α : Type} {E : α → Prop} {g : α → PyData} {Rel : Mode → List MP → MP → Prop} {t : TA} {Rs : List MP} {R : MP} (ha : EA M Γ t (Rs ++ [someD K E g])) (h : ∀ x, E x → ∃ R', Rel M (Rs ++ [dt K (g x)]) R' ∧ ∀ F v, R'.R F v → R.R F v) : EE M Γ (tCall (spM Rel) [] E0 t) R := fun F H σ en ok Q q =>
  ha F H σ en ok _ fun vs F1 H1 p1 o1 pm => by
    obtain ⟨x, hx, pm⟩ := PM.lastA pm
    obtain ⟨R', hr, imp⟩ := h x hx
    exact ⟨M, F1, _, R', o1, by rw [List.append_nil]; exact pm, hr, fun v F2 H2 p2 o2 r => q v F2 H2 (p1.trans p2) o2 (imp _ _ r)⟩
theorem ee_isNT {ms : List MP} (ha : EE M Γ ta (tpM K ms)) : EE M Γ (tOp (fun x y H Q => y = .non ∧ Q (.bl (decide (x = .non))) H) ta (tC .non)) (dt K (.bool false)) :=
  ee_opv ha (ee_raw (v := .non)) fun F H x y ok ⟨p, xs, hx, _⟩ hy Q q => ⟨hy, q _ (by subst hx; exact .bl false)⟩
theorem dpAll_take {F : Hp} : ∀ {vs : List V} {ds : List PyData} (k : Nat), DpAll K F vs ds → DpAll K F (vs.take k) (ds.take k)
  | _, _, 0, _ => by rw [List.take_zero, List.take_zero]; exact .nil
  | _, _, k + 1, .nil => .nil
  | _, _, k + 1, .cons h t => .cons h (dpAll_take k t)
/-- x[:k] of a list -/
theorem ee_slLA {α : Type} {E : List α → Prop} {h : α → PyData} {k : Nat} (ha : EE M Γ ta (someD K E fun g => .list (g.map h))) (hb : EE M Γ tb (dt K (.int (k : Int)))) : EE M Γ (tSl (rSlL K) ta tNoPart (tPart tb)) (someD K (fun g' : List α => ∃ g, E g ∧ g' = g.take k) fun g => .list (g.map h)) := fun F H σ en ok Q q =>
  ha F H σ en ok _ fun v F1 H1 p1 o1 ⟨_, ⟨g, hg, e⟩, r1⟩ => hb F1 H1 σ (en.mono p1.fx) o1 _ fun y F2 H2 p2 o2 r2 => by
    subst e
    obtain ⟨a, xs, rfl, hs, hall⟩ := dp_lst r1
    refine ⟨(k : Int), dp_int r2, a, xs, rfl, ex_l (p2.fx.trans o2.ex) hs, fun p hp => ?_⟩
    have ec : cutV xs none (some (k : Int)) = xs.take k := by
      unfold cutV
      rw [HT.sIx_none, HT.sIx_nat, List.drop_zero, Nat.sub_zero]
      by_cases hk : k ≤ xs.length
      · rw [Nat.min_eq_left hk]
      · rw [Nat.min_eq_right (by omega), List.take_length, List.take_of_length_le (by omega)]
    rw [ec]
    have pn : Pu0 F2 H2 (upd F2 p (.lst (xs.take k))) (upd H2 p (.lst (xs.take k))) := .new hp o2.ex
    refine q _ _ _ ((p1.trans p2).trans (pn.any M)) (o2.step pn (ex_upd o2.ex)) ⟨_, ⟨g.take k, ⟨g, hg, rfl⟩, rfl⟩, .lst (SqL.of upd_same) ?_⟩
    rw [List.map_take]
    exact dpAll_take k (dpAll_mono (p2.fx.trans pn.fx) hall)
/-- x[:k] of a tuple, not the whole -/
theorem ee_slT {ds : List PyData} {k : Nat} (hk : k < ds.length) (ha : EE M Γ ta (dt K (.tuple ds))) (hb : EE M Γ tb (dt K (.int (k : Int)))) : EE M Γ (tSl (rSlT K) ta tNoPart (tPart tb)) (dt K (.tuple (ds.take k))) := fun F H σ en ok Q q =>
  ha F H σ en ok _ fun v F1 H1 p1 o1 r1 => hb F1 H1 σ (en.mono p1.fx) o1 _ fun y F2 H2 p2 o2 r2 => by
    obtain ⟨a, xs, rfl, hs, hall⟩ := dp_tup r1
    have hl := dpAll_length hall
    refine ⟨(k : Int), dp_int r2, a, xs, rfl, ex_t (p2.fx.trans o2.ex) hs, fun z => ?_, fun p hp => ?_⟩
    · have := z.2
      rw [HT.sIx_nat, Nat.min_eq_left (by omega)] at this
      omega
    have ec : cutV xs none (some (k : Int)) = xs.take k := by
      unfold cutV
      rw [HT.sIx_none, HT.sIx_nat, List.drop_zero, Nat.sub_zero, Nat.min_eq_left (by omega)]
    rw [ec]
    have pn : Pu0 F2 H2 (upd F2 p (.tup (xs.take k))) (upd H2 p (.tup (xs.take k))) := .new hp o2.ex
    exact q _ _ _ ((p1.trans p2).trans (pn.any M)) (o2.step pn (ex_upd o2.ex)) (.tup (SqT.of upd_same) (dpAll_take k (dpAll_mono (p2.fx.trans pn.fx) hall)))
/-- the drawn group -/
theorem ee_group {tr : TA} {tt : TT} {j : Nat} {vs : List Nat} {n : Nat} (h : EA M Γ tr [dt K (.int 1), dt K (.int ((n : Int) + 1))]) (hn : n ≤ 1000) (hj : j ∈ vs) (hlt : j < Γ.length) (ht : ∀ i : Nat, ET M ((wipeG Γ vs).set j (some (dt K (.int (1 + (i : Int)))))) tt fun _ => True) :
    EE M Γ (tLc (iRng2 tr) (gName j) tt (tVar j) vs) (someD K (fun g : List Nat => g.Sublist (List.range' 1 n)) ids_) := by
  have len : ∀ (vs : List Nat) (Γ : Gm), (wipeG Γ vs).length = Γ.length := by
    intro vs
    induction vs with
    | nil => intro Γ; rfl
    | cons v vs ih => intro Γ; unfold wipeG; rw [List.length_set, ih]
  refine ee_imp (ee_lcR2N (P := fun i ms => ∃ g : List Nat, g.Sublist (List.range' 1 i) ∧ ms = g.map fun (p : Nat) => dt K (.int (p : Int))) (B := fun _ _ => True) (E := fun i m => m = dt K (.int ((i + 1 : Nat) : Int))) h (by omega) hj ⟨[], List.nil_sublist _, rfl⟩ (fun i hi => ht i) (fun i hi _ => ?_)
    (fun i ms m _ ⟨g, hg, e⟩ _ e2 => ⟨g ++ [i + 1], ?_, by rw [e, e2, List.map_append]; rfl⟩) (fun i ms _ ⟨g, hg, e⟩ _ => ⟨g, ?_, e⟩)) fun F v ⟨m, ⟨ms, e1, g, hg, e2⟩, r⟩ => ?_
  · have e1 : (1 : Int) + (i : Int) = ((i + 1 : Nat) : Int) := by omega
    rw [e1]
    refine ee_imp (ee_var (m := dt K (.int ((i + 1 : Nat) : Int))) ?_) fun _ _ r => ⟨_, rfl, r⟩
    rw [List.getElem?_set_self (by rw [len]; exact hlt)]
  · rw [List.range'_1_concat, show 1 + i = i + 1 by omega]
    exact List.Sublist.append hg (List.Sublist.refl _)
  · rw [List.range'_1_concat]
    exact hg.trans (List.sublist_append_left _ _)
  · subst e1; subst e2
    rw [show ((n : Int) + 1 - 1).toNat = n by omega] at hg
    exact ⟨_, ⟨g, hg, rfl⟩, lsM_to (by rw [List.map_map]; exact r)⟩
end
theorem sub_filter {α : Type} [DecidableEq α] : ∀ {g l : List α}, g.Sublist l → l.Nodup → g = l.filter fun p => decide (p ∈ g)
  | _, _, .slnil, _ => rfl
  | g, _, .cons (l₂ := l) a h, hn => by
    rw [List.nodup_cons] at hn
    have ha : a ∉ g := fun z => hn.1 (h.subset z)
    rw [List.filter_cons_of_neg (by simpa using ha)]
    exact sub_filter h hn.2
  | _, _, .cons₂ (l₁ := g) (l₂ := l) a h, hn => by
    rw [List.nodup_cons] at hn
    rw [List.filter_cons_of_pos (by simp)]
    congr 1
    refine (sub_filter h hn.2).trans (List.filter_congr fun p hp => ?_)
    have : p ≠ a := fun e => hn.1 (e ▸ hp)
    simp [this]
abbrev heldD (h : List Int × Int × Int) : PyData := .tuple [.tuple (h.1.map .int), pairD h.2.1 h.2.2]
theorem held_dt {K : PySem.W.Frag} {F : Hp} {v : V} {h : List Int × Int × Int} (r : (heldM K h).R F v) : Dp K F v (heldD h) := by
  obtain ⟨a, xs, rfl, hs, pm⟩ := r
  cases pm with
  | cons r1 pm => cases pm with
    | cons r2 pm =>
      cases pm
      exact .tup hs (.cons (tkM_dt r1) (.cons r2 .nil))
theorem held_lay (h : List Int × Int × Int) : (heldD h).canLay0 = true := by simp [PyData.canLay0, lay_ints, PyData.canLayAll0]
theorem held_shaped (h : List Int × Int × Int) : SeqAt.shaped (heldD h) = true := shaped_of (held_lay h) (by simp [PyData.depth, dep_ints, PyData.depthAll])
theorem held_eqv (h : List Int × Int × Int) : PyData.eqv (heldD h) (heldD h) = true := SeqAt.eqv_refl _ (held_lay h)
end K46
/-! K46, part yk: the law's def. -/
namespace K46
open PySem L2
open Evl (Ex ex_l ex_t)
/-! ### the drawn talk -/
structure DrawnOk (n : Nat) (sz cn g : List Nat) (t : Tr) : Prop where
  n1 : 2 ≤ n ∧ n ≤ 4
  ls : sz.length = n
  lc : cn.length = n
  bs : ∀ x ∈ sz, 1 ≤ x ∧ x ≤ 2
  bc : ∀ x ∈ cn, 1 ≤ x ∧ x ≤ 3
  ok : t.Ok (List.range' 1 n) (at1 sz) (at1 cn)
  ht : t.ht ≤ 4
  sz2 : t.size ≤ 100
  sub : g.Sublist (List.range' 1 n)
  few : 0 < g.length ∧ g.length < n
section
variable {n : Nat} {sz cn g : List Nat} {t : Tr}
theorem DrawnOk.gb (h : DrawnOk n sz cn g t) : PplB n g := fun p hp => ShOk_ppl p (h.sub.subset hp)
theorem DrawnOk.gnd (h : DrawnOk n sz cn g t) : g.Nodup := h.sub.nodup (List.nodup_range' ..)
theorem oth_b (n : Nat) (g : List Nat) : PplB n (othersOf n g) := fun p hp => ShOk_ppl p (List.mem_filter.mp hp).1
theorem oth_nd (n : Nat) (g : List Nat) : (othersOf n g).Nodup := (List.filter_sublist).nodup (List.nodup_range' ..)
theorem DrawnOk.all (h : DrawnOk n sz cn g t) : ∀ p, 1 ≤ p → p ≤ n → p ∈ g ∨ p ∈ othersOf n g := fun p h1 h2 => by
  by_cases hg : p ∈ g
  · exact .inl hg
  · exact .inr (List.mem_filter.mpr ⟨List.mem_range'_1.mpr (by omega), by simpa using hg⟩)
theorem DrawnOk.ofew (h : DrawnOk n sz cn g t) : 0 < (othersOf n g).length ∧ (othersOf n g).length ≤ 3 := by
  constructor
  · refine Nat.pos_of_ne_zero fun z => ?_
    have z := List.length_eq_zero_iff.mp z
    have := nd_sub (l1 := List.range' 1 n) (l2 := g) (List.nodup_range' ..) fun p hp => by
      have hb := ShOk_ppl p hp
      rcases h.all p hb.1 hb.2 with w | w
      · exact w
      · rw [z] at w; cases w
    rw [List.length_range'] at this
    have := h.few
    omega
  · obtain ⟨p, hp⟩ : ∃ p, p ∈ g := List.exists_mem_of_length_pos h.few.1
    have := nd_sub (l1 := p :: othersOf n g) (l2 := List.range' 1 n) (List.nodup_cons.mpr ⟨fun z => by simpa [hp] using (List.mem_filter.mp z).2, oth_nd n g⟩) fun q hq => by
      rcases List.mem_cons.mp hq with rfl | hq
      · exact h.sub.subset hp
      · exact (List.mem_filter.mp hq).1
    rw [List.length_cons, List.length_range'] at this
    have := h.n1
    omega
theorem DrawnOk.gfew (h : DrawnOk n sz cn g t) : g.length ≤ 3 := by have := h.few; have := h.n1; omega
theorem at1_bd {l : List Nat} {a b : Nat} (hl : l.length = n) (h : ∀ x ∈ l, a ≤ x ∧ x ≤ b) {p : Nat} (hp : 1 ≤ p ∧ p ≤ n) : a ≤ at1 l p ∧ at1 l p ≤ b := h _ (at1_mem hl hp)
theorem DrawnOk.len (h : DrawnOk n sz cn g t) {g' : List Nat} (hb : PplB n g') (hl : g'.length ≤ 3) : 1 ≤ (rowsT sz g').length ∧ (rowsT sz g').length ≤ 8 ∧ 1 ≤ (rowsT cn g').length ∧ (rowsT cn g').length ≤ 27 := by
  have a1 := len_le sz 2 g' fun p hp => (at1_bd h.ls h.bs (hb p hp)).2
  have a2 := len_le cn 3 g' fun p hp => (at1_bd h.lc h.bc (hb p hp)).2
  have a3 := len_ge sz g' fun p hp => (at1_bd h.ls h.bs (hb p hp)).1
  have a4 := len_ge cn g' fun p hp => (at1_bd h.lc h.bc (hb p hp)).1
  have b1 : 2 ^ g'.length ≤ 2 ^ 3 := Nat.pow_le_pow_right (by omega) hl
  have b2 : 3 ^ g'.length ≤ 3 ^ 3 := Nat.pow_le_pow_right (by omega) hl
  omega
theorem DrawnOk.team (h : DrawnOk n sz cn g t) {g' : List Nat} (hb : PplB n g') (hl : 0 < g'.length ∧ g'.length ≤ 3) (hn : g'.Nodup) : TeamOk n sz cn g' := by
  have := h.len hb hl.2
  exact ⟨h.ls, h.lc, by omega, hb, hn, fun x hx => by have := h.bs x hx; omega, fun x hx => by have := h.bc x hx; omega, by omega, by omega⟩
theorem DrawnOk.two (h : DrawnOk n sz cn g t) : TwoOk n sz cn g (othersOf n g) := ⟨h.team h.gb ⟨h.few.1, h.gfew⟩ h.gnd, h.team (oth_b n g) h.ofew (oth_nd n g), h.all⟩
theorem DrawnOk.ppl (h : DrawnOk n sz cn g t) : PplOk n sz cn t := ⟨h.n1, h.ls, h.lc, fun x hx => by have := h.bs x hx; omega, fun x hx => by have := h.bc x hx; omega, h.ok, by have := h.ht; omega, by have := h.sz2; omega⟩
theorem DrawnOk.grp (h : DrawnOk n sz cn g t) : GrpOk n g := ⟨h.few, sub_filter h.sub (List.nodup_range' ..)⟩
abbrev sidesT (sz cn g : List Nat) (n : Nat) (t : Tr) : Tr := toSides sz cn g (othersOf n g) t
theorem DrawnOk.talk (h : DrawnOk n sz cn g t) : TalkOk (rowsT sz g).length (rowsT sz (othersOf n g)).length (rowsT cn g).length (rowsT cn (othersOf n g)).length (sidesT sz cn g n t) := by
  have a := h.len h.gb h.gfew
  have b := h.len (oth_b n g) h.ofew.2
  exact ⟨by omega, by omega, by omega, by omega, sides_ok sz cn g _ t h.ok, by rw [sides_ht]; have := h.ht; omega, by rw [sides_size]; have := h.sz2; omega⟩
theorem DrawnOk.flaw (h : DrawnOk n sz cn g t) {tab : Tab} (ht : IsTab (rowsT sz g).length (rowsT sz (othersOf n g)).length tab) : FlawOk (rowsT sz g).length (rowsT sz (othersOf n g)).length (rowsT cn g).length (rowsT cn (othersOf n g)).length (sidesT sz cn g n t) tab := by
  have a := h.len h.gb h.gfew
  have b := h.len (oth_b n g) h.ofew.2
  refine ⟨h.talk, ht, by rw [sides_ht]; exact h.ht, ?_⟩
  have m1 : (rowsT sz g).length * (rowsT sz (othersOf n g)).length ≤ 8 * 8 := Nat.mul_le_mul a.2.1 b.2.1
  have m2 : (rowsT cn g).length * (rowsT cn (othersOf n g)).length ≤ 27 * 27 := Nat.mul_le_mul a.2.2.2 b.2.2.2
  exact Nat.le_trans (Nat.mul_le_mul m1 m2) (by decide)
theorem heldP_len (n : Nat) (ins cns : List Int) : ∀ t, (heldP n ins cns t).2.length = n
  | .fin as => by simp [heldP]
  | .say i b f s => by
    show (if cell b (ins.getD (i - 1) 0) (cns.getD (i - 1) 0) = 0 then heldP n ins cns f else heldP n ins cns s).2.length = n
    split
    · exact heldP_len n ins cns f
    · exact heldP_len n ins cns s
end
section
variable {P : Program} {w : World} {K : PySem.W.Frag} {mg : Str → Option Value} {base : Heap} {C : Addr}
abbrev s_law : Stmt := top 46
abbrev n_law : List Str := ["_law_script", "_law_hand", "_law_n", "_law_sizes", "_law_p", "_law_coins", "_law_tree", "_law_group", "_law_person", "_law_rest", "_law_talk", "_law_turn", "_law_inputs", "_law_drawn", "_law_bits_here", "_law_answers", "_law_pair", "_law_coin", "_law_table_here", "_law_flaw"]
abbrev p_law : List Str := ["_law_script"]
def cs_law_0 : Scope := { kind := PySem.ScopeKind.function, names := [ (PySem.Str.ofString ".0", PySem.NameKind.local), (PySem.Str.ofString "_law_p", PySem.NameKind.local), (PySem.Str.ofString "_law_take", PySem.NameKind.globalImplicit), (PySem.Str.ofString "_law_hand", PySem.NameKind.free)], isGenerator := false, isCoroutine := false, more := [] : PySem.Scope }
def cs_law_1 : Scope := { kind := PySem.ScopeKind.function, names := [ (PySem.Str.ofString ".0", PySem.NameKind.local), (PySem.Str.ofString "_law_p", PySem.NameKind.local), (PySem.Str.ofString "_law_take", PySem.NameKind.globalImplicit), (PySem.Str.ofString "int", PySem.NameKind.globalImplicit), (PySem.Str.ofString "_law_hand", PySem.NameKind.free), (PySem.Str.ofString "_law_n", PySem.NameKind.free)], isGenerator := false, isCoroutine := false, more := [] : PySem.Scope }
def cs_law_2 : Scope := { kind := PySem.ScopeKind.function, names := [ (PySem.Str.ofString ".0", PySem.NameKind.local), (PySem.Str.ofString "_law_person", PySem.NameKind.local), (PySem.Str.ofString "_law_take", PySem.NameKind.globalImplicit), (PySem.Str.ofString "_law_hand", PySem.NameKind.free)], isGenerator := false, isCoroutine := false, more := [] : PySem.Scope }
def cs_law_3 : Scope := { kind := PySem.ScopeKind.function, names := [ (PySem.Str.ofString ".0", PySem.NameKind.local), (PySem.Str.ofString "_law_person", PySem.NameKind.local), (PySem.Str.ofString "_law_group", PySem.NameKind.free)], isGenerator := false, isCoroutine := false, more := [] : PySem.Scope }
def cs_law_4 : Scope := { kind := PySem.ScopeKind.function, names := [ (PySem.Str.ofString ".0", PySem.NameKind.local), (PySem.Str.ofString "_law_p", PySem.NameKind.local), (PySem.Str.ofString "_law_take", PySem.NameKind.globalImplicit), (PySem.Str.ofString "_law_hand", PySem.NameKind.free), (PySem.Str.ofString "_law_sizes", PySem.NameKind.free)], isGenerator := false, isCoroutine := false, more := [] : PySem.Scope }
def cs_law_5 : Scope := { kind := PySem.ScopeKind.function, names := [ (PySem.Str.ofString ".0", PySem.NameKind.local), (PySem.Str.ofString "_law_p", PySem.NameKind.local), (PySem.Str.ofString "_law_take", PySem.NameKind.globalImplicit), (PySem.Str.ofString "_law_coins", PySem.NameKind.free), (PySem.Str.ofString "_law_hand", PySem.NameKind.free)], isGenerator := false, isCoroutine := false, more := [] : PySem.Scope }
theorem sc_law : FnScope n_law p_law (defScope s_law) := ⟨rfl, rfl, rfl, by decide +kernel, rfl, by decide +kernel, by decide +kernel⟩
def r_law (K : PySem.W.Frag) : List MP → MP → Prop := fun Rs R => ∃ ns : List Int, ns.length ≤ 1000 ∧ Rs = [dt K (intsL ns)] ∧ R = dt K (.bool true)
theorem ok_law {f : Addr} {fd : FuncData} (FL : Fun K "law" "law" s_law f fd) (T : Nm mg) (G__law_draws : C_draws P w K mg base) (G__law_take : C_take P w K mg base) (G__law_people_tree : C_tree P w K mg base) (G_two_sides : C_two_sides P w K mg base) (G__law_many : C_lmany P w K mg base) (G__law_held_people : C_lhp P w K mg base) (G__law_number : C_lnumber P w K mg base)
    (G_hold_talk : C_hold P w K mg base) (G__law_table : C_tab P w K mg base) (G_flaw_of : C_flaw P w K mg base) (G__law_has_flaw : C_has P w K mg base) (G__law_is_flaw : C_isf P w K mg base) : FnOk P w K mg base CX0 9 f fd p_law (spP (r_law K)) := by
  refine fn_M FL sc_law (fun _ Rs R h => by obtain ⟨_, _, _, rfl, _⟩ := h; rfl) fun f cdv A outer s H E hr => ⟨_, (pss_cons (ps_set (i := 1) sc_law.nd rfl (Or.inr rfl) (pe_lst (pa_cons (pe_c (G__law_draws.up (by first | decide | omega)) hr (by rfl) (pa_cons (pv 0) (pa_cons pe_int pa_nil))) (pa_cons pe_int pa_nil))))
  (pss_cons (ps_set (i := 2) sc_law.nd rfl (Or.inr rfl) (pe_op op_add pe_int (pe_c (G__law_take.up (by first | decide | omega)) hr (by rfl) (pa_cons (pv 1) (pa_cons pe_int pa_nil)))))
  (pss_cons (ps_set (i := 3) sc_law.nd rfl (Or.inr rfl) (pe_callTy (k_tup K) (by rfl) T.tuple (by decide +kernel) (pa_cons (pe_lc (own := [("_law_p", 4)]) rfl sc_law.nd (pi_range1 (by rfl) T.range (pa_cons (pv 2) pa_nil)) (blkOk_by (N := n_law) (sc := defScope s_law) (scope := cs_law_0) (own := [("_law_p", 4)]) (by decide +kernel)) (fun _ _ _ _ _ => (pg_name (i := 4) sc_law.nd rfl (Or.inl rfl))) (fun _ _ _ _ _ => pts_nil) (fun _ _ _ _ _ => (pe_op op_add pe_int (pe_c (G__law_take.up (by first | decide | omega)) hr (by rfl) (pa_cons (pv 1) (pa_cons pe_int pa_nil)))))) pa_nil)))
  (pss_cons (ps_set (i := 5) sc_law.nd rfl (Or.inr rfl) (pe_callTy (k_tup K) (by rfl) T.tuple (by decide +kernel) (pa_cons (pe_lc (own := [("_law_p", 4)]) rfl sc_law.nd (pi_range1 (by rfl) T.range (pa_cons (pv 2) pa_nil)) (blkOk_by (N := n_law) (sc := defScope s_law) (scope := cs_law_1) (own := [("_law_p", 4)]) (by decide +kernel)) (fun _ _ _ _ _ => (pg_name (i := 4) sc_law.nd rfl (Or.inl rfl))) (fun _ _ _ _ _ => pts_nil) (fun _ _ _ _ _ => (pe_op op_add pe_int (pe_c (G__law_take.up (by first | decide | omega)) hr (by rfl) (pa_cons (pv 1) (pa_cons (pe_op op_add pe_int (pe_callTy call_intS (by rfl) T.int (by decide +kernel) (pa_cons (pe_cmpR op_lt (pv 2) pe_int (nomark _)) pa_nil))) pa_nil)))))) pa_nil)))
  (pss_cons (ps_set (i := 6) sc_law.nd rfl (Or.inl rfl) (pe_c (G__law_people_tree.up (by first | decide | omega)) hr (by rfl) (pa_cons (pv 1) (pa_cons (pv 3) (pa_cons (pv 5) (pa_cons (pe_op op_add pe_int (pe_c (G__law_take.up (by first | decide | omega)) hr (by rfl) (pa_cons (pv 1) (pa_cons pe_int pa_nil)))) pa_nil))))))
  (pss_cons (ps_set (i := 7) sc_law.nd rfl (Or.inr rfl) (pe_slice (k_sll K) (pe_lc (own := [("_law_person", 8)]) rfl sc_law.nd (pi_range2 (by rfl) T.range (pa_cons pe_int (pa_cons (pe_op op_add (pv 2) pe_int) pa_nil))) (blkOk_by (N := n_law) (sc := defScope s_law) (scope := cs_law_2) (own := [("_law_person", 8)]) (by decide +kernel)) (fun _ _ _ _ _ => (pg_name (i := 8) sc_law.nd rfl (Or.inl rfl))) (fun _ _ _ _ _ => (pts_one (pt_cmpR op_eq (pe_c (G__law_take.up (by first | decide | omega)) hr (by rfl) (pa_cons (pv 1) (pa_cons pe_int pa_nil))) pe_int (nomark _)))) (fun _ _ _ _ _ => (pv 8))) po_none (po_some (pe_op op_sub (pv 2) pe_int))))
  (pss_cons (ps_if (pt_cmpR op_eq (pe_callB (k_len K) (by rfl) T.len (by decide +kernel) (pa_cons (pv 7) pa_nil)) pe_int (nomark _)) (pss_one (ps_set (i := 7) sc_law.nd rfl (Or.inr rfl) (pe_lst (pa_cons (pe_op op_add pe_int (pe_c (G__law_take.up (by first | decide | omega)) hr (by rfl) (pa_cons (pv 1) (pa_cons (pv 2) pa_nil)))) pa_nil)))) pss_nil)
  (pss_cons (ps_setLc (i := 9) (own := [("_law_person", 8)]) rfl sc_law.nd rfl rfl (sw_true rfl rfl rfl (by decide +kernel)) (pi_range2 (by rfl) T.range (pa_cons pe_int (pa_cons (pe_op op_add (pv 2) pe_int) pa_nil))) (blkOk_by (N := n_law) (sc := defScope s_law) (scope := cs_law_3) (own := [("_law_person", 8)]) (by decide +kernel)) (fun _ _ _ _ _ => (pg_name (i := 8) sc_law.nd rfl (Or.inl rfl))) (fun _ _ _ _ _ => (pts_one (pt_cmpR (k_ni K) (pv 8) (pv 7) (by rfl)))) (fun _ _ _ _ _ => (pv 8)))
  (pss_cons (ps_set (i := 10) sc_law.nd rfl (Or.inl rfl) (pe_c (G_two_sides.up (by first | decide | omega)) hr (by rfl) (pa_cons (pe_tup (pa_cons pe_str (pa_cons (pv 5) (pa_cons (pv 6) pa_nil)))) (pa_cons (pv 3) (pa_cons (pv 7) pa_nil)))))
  (pss_cons (ps_if (pt_cmpR (k_neD K hr.units) (pe_slice (k_slt K) (pv 10) po_none (po_some pe_int)) (pe_tup (pa_cons pe_str (pa_cons (pe_c (G__law_many.up (by first | decide | omega)) hr (by rfl) (pa_cons (pv 5) (pa_cons (pv 7) pa_nil))) (pa_cons (pe_c (G__law_many.up (by first | decide | omega)) hr (by rfl) (pa_cons (pv 5) (pa_cons (pv 9) pa_nil))) pa_nil)))) (nomark _)) (pss_one (ps_ret pe_bl)) pss_nil)
  (pss_cons (ps_for PassesOwn.never rfl (pi_range1 (by rfl) T.range (pa_cons pe_int pa_nil)) (pg_name (i := 11) sc_law.nd rfl (Or.inl rfl)) (pss_cons (ps_setLc (i := 12) (own := [("_law_p", 4)]) rfl sc_law.nd rfl rfl (sw_true rfl rfl rfl (by decide +kernel)) (pi_range1 (by rfl) T.range (pa_cons (pv 2) pa_nil)) (blkOk_by (N := n_law) (sc := defScope s_law) (scope := cs_law_4) (own := [("_law_p", 4)]) (by decide +kernel)) (fun _ _ _ _ _ => (pg_name (i := 4) sc_law.nd rfl (Or.inl rfl))) (fun _ _ _ _ _ => pts_nil) (fun _ _ _ _ _ => (pe_c (G__law_take.up (by first | decide | omega)) hr (by rfl) (pa_cons (pv 1) (pa_cons (pe_ix (k_ix K) (pv 3) (pv 4) (fun _ _ => rfl)) pa_nil)))))
  (pss_cons (ps_setLc (i := 13) (own := [("_law_p", 4)]) rfl sc_law.nd rfl rfl (sw_true rfl rfl rfl (by decide +kernel)) (pi_range1 (by rfl) T.range (pa_cons (pv 2) pa_nil)) (blkOk_by (N := n_law) (sc := defScope s_law) (scope := cs_law_5) (own := [("_law_p", 4)]) (by decide +kernel)) (fun _ _ _ _ _ => (pg_name (i := 4) sc_law.nd rfl (Or.inl rfl))) (fun _ _ _ _ _ => pts_nil) (fun _ _ _ _ _ => (pe_c (G__law_take.up (by first | decide | omega)) hr (by rfl) (pa_cons (pv 1) (pa_cons (pe_ix (k_ix K) (pv 5) (pv 4) (fun _ _ => rfl)) pa_nil)))))
  (pss_cons (ps_asg (pe_c (G__law_held_people.up (by first | decide | omega)) hr (by rfl) (pa_cons (pv 6) (pa_cons (pv 12) (pa_cons (pv 13) pa_nil)))) (pg_tup rfl (pgs_cons (pg_name (i := 14) sc_law.nd rfl (Or.inl rfl)) (pgs_cons (pg_name (i := 15) sc_law.nd rfl (Or.inl rfl)) pgs_nil))))
  (pss_cons (ps_set (i := 16) sc_law.nd rfl (Or.inl rfl) (pe_tup (pa_cons (pe_c (G__law_number.up (by first | decide | omega)) hr (by rfl) (pa_cons (pv 12) (pa_cons (pv 3) (pa_cons (pv 7) pa_nil)))) (pa_cons (pe_c (G__law_number.up (by first | decide | omega)) hr (by rfl) (pa_cons (pv 12) (pa_cons (pv 3) (pa_cons (pv 9) pa_nil)))) pa_nil))))
  (pss_cons (ps_set (i := 17) sc_law.nd rfl (Or.inl rfl) (pe_tup (pa_cons (pe_c (G__law_number.up (by first | decide | omega)) hr (by rfl) (pa_cons (pv 13) (pa_cons (pv 5) (pa_cons (pv 7) pa_nil)))) (pa_cons (pe_c (G__law_number.up (by first | decide | omega)) hr (by rfl) (pa_cons (pv 13) (pa_cons (pv 5) (pa_cons (pv 9) pa_nil)))) pa_nil))))
  (pss_one (ps_if (pt_cmpR (k_neD K hr.units) (pe_c (G_hold_talk.up (by first | decide | omega)) hr (by rfl) (pa_cons (pv 10) (pa_cons (pv 16) (pa_cons (pv 17) pa_nil)))) (pe_tup (pa_cons (pv 14) (pa_cons (pe_tup (pa_cons (pe_ix (k_ix K) (pv 15) (pe_op op_sub (pe_ix (k_ix K) (pv 7) pe_int (fun _ _ => rfl)) pe_int) (fun _ _ => rfl)) (pa_cons (pe_ix (k_ix K) (pv 15) (pe_op op_sub (pe_ix (k_ix K) (pv 9) pe_int (fun _ _ => rfl)) pe_int) (fun _ _ => rfl)) pa_nil))) pa_nil))) (nomark _)) (pss_one (ps_ret pe_bl)) pss_nil))))))))
  (pss_cons (ps_set (i := 18) sc_law.nd rfl (Or.inl rfl) (pe_c (G__law_table.up (by first | decide | omega)) hr (by rfl) (pa_cons (pv 1) (pa_cons (pe_c (G__law_many.up (by first | decide | omega)) hr (by rfl) (pa_cons (pv 3) (pa_cons (pv 7) pa_nil))) (pa_cons (pe_c (G__law_many.up (by first | decide | omega)) hr (by rfl) (pa_cons (pv 3) (pa_cons (pv 9) pa_nil))) (pa_cons pe_int pa_nil))))))
  (pss_cons (ps_set (i := 19) sc_law.nd rfl (Or.inl rfl) (pe_c (G_flaw_of.up (by first | decide | omega)) hr (by rfl) (pa_cons (pv 10) (pa_cons (pv 18) pa_nil))))
  (pss_cons (ps_if (pt_cmpR op_isN (pv 19) pe_non (nomark _)) (pss_one (ps_ret (pe_not (pe_c (G__law_has_flaw.up (by first | decide | omega)) hr (by rfl) (pa_cons (pv 10) (pa_cons (pv 18) pa_nil)))))) pss_nil)
  (pss_one (ps_ret (pe_c (G__law_is_flaw.up (by first | decide | omega)) hr (by rfl) (pa_cons (pv 10) (pa_cons (pv 18) (pa_cons (pv 19) pa_nil)))))))))))))))))))), rdM_P ?_⟩
  rintro Rs R ⟨ns, hns, rfl, rfl⟩ F Q q
  refine ss_seq (ss_newL (ms := [someD K (fun _ : List Int => True) intsL, dt K (.int 0)]) (ea_cons (ee_call (Rel := r_draws K) (ea_cons (ee_var rfl) (ea_one ee_int)) ⟨ns, 300, hns, by omega, rfl, rfl⟩) (ea_one ee_int)) (by show 2 ≤ 100000; decide) fun p => ?_)
  refine ss_mode (M' := handM K p) (fun _ => .rfl) (fun F H ⟨⟨nS, xs, hx, pm⟩, iv⟩ => ?_) (fun _ _ _ => trivial) ?_
  · cases pm with
    | cons r1 pm => cases pm with
      | cons r2 pm =>
        cases pm
        cases dp_int r2
        obtain ⟨_, ⟨ds, _, rfl⟩, r1⟩ := r1
        exact ⟨⟨nS, _, hx, _, 0, ds, rfl, Int.le_refl _, r1⟩, iv⟩
  have take : ∀ {Γ : Gm} {te : TE} {k : Int}, 1 ≤ k → Γ[1]? = some (some (rawv (.ref p))) → EE (handM K p) Γ te (dt K (.int k)) → EE (handM K p) Γ (tCall (spM (r_take K)) [] E0 (tCons (tVar 1) (tCons te tNil))) (someD K (fun v : Int => 0 ≤ v ∧ v < k) .int) := fun hk h1 he => ee_callM (Rel := r_take K) (R := zB K _) (ea_cons (ee_var h1) (ea_one he)) ⟨p, _, rfl, hk, rfl, rfl⟩
  refine sq_set (m := someD K (fun n : Nat => 2 ≤ n ∧ n ≤ 4) fun n => .int (n : Int)) (someD_imp (fun v ⟨x, hx, e⟩ => ⟨v.toNat, by omega, by rw [Int.toNat_of_nonneg (by omega)]⟩) (ee_addA ee_int (take (by omega) rfl ee_int))) ?_
  refine ss_case (j := 2) (by show 2 < 20; decide) rfl fun m hm => ?_
  obtain ⟨n, hn, rfl⟩ := hm
  refine sq_set (m := someD K (fun xs : List Nat => xs.length = n ∧ ∀ x ∈ xs, 1 ≤ x ∧ x ≤ 2) numsD) (ee_tupOfA (ee_lcR1A (n := n) (E := fun x : Nat => 1 ≤ x ∧ x ≤ 2) (g := fun x => .int (x : Int)) (ea_one (ee_var rfl)) (by omega) (by decide) fun i hi => someD_imp (fun v ⟨x, hx, e⟩ => ⟨v.toNat, by omega, by rw [Int.toNat_of_nonneg (by omega)]⟩) (ee_addA ee_int (take (by omega) rfl ee_int)))) ?_
  refine ss_case (j := 3) (by show 3 < 20; decide) rfl fun m hm => ?_
  obtain ⟨sz, ⟨ls, bs⟩, rfl⟩ := hm
  have k23 : 2 ≤ (2 : Int) + (if decide ((n : Int) < 4) = true then (1 : Int) else 0) ∧ (2 : Int) + (if decide ((n : Int) < 4) = true then (1 : Int) else 0) ≤ 3 := by split <;> omega
  refine sq_set (m := someD K (fun xs : List Nat => xs.length = n ∧ ∀ x ∈ xs, 1 ≤ x ∧ x ≤ 3) numsD) (ee_tupOfA (ee_lcR1A (n := n) (E := fun x : Nat => 1 ≤ x ∧ x ≤ 3) (g := fun x => .int (x : Int)) (ea_one (ee_var rfl)) (by omega) (by decide) fun i hi => someD_imp (fun v ⟨x, hx, e⟩ => ⟨v.toNat, by omega, by rw [Int.toNat_of_nonneg (by omega)]⟩) (ee_addA ee_int (take (k := (2 : Int) + (if decide ((n : Int) < 4) = true then (1 : Int) else 0)) (by omega) rfl (ee_add ee_int (ee_intB (ee_lt (ee_var rfl) ee_int))))))) ?_
  refine ss_case (j := 5) (by show 5 < 20; decide) rfl fun m hm => ?_
  obtain ⟨cn, ⟨lc, bc⟩, rfl⟩ := hm
  refine sq_set (m := someD K (fun t : Tr => t.Ok (List.range' 1 n) (at1 sz) (at1 cn) ∧ t.ht ≤ 4 ∧ t.size ≤ 100) (Tr.D true)) (ee_callM1 (Rel := r_tree K 3) (Rs := [rawv (.ref p), dt K (numsD sz), dt K (numsD cn)]) (E := fun d : Nat => 1 ≤ d ∧ d ≤ 3) (g := fun d => .int (d : Int)) (ea_cons (ee_var rfl) (ea_cons (ee_var rfl) (ea_cons (ee_var rfl) (ea_one (someD_imp (fun v ⟨x, hx, e⟩ => ⟨v.toNat, by omega, by rw [Int.toNat_of_nonneg (by omega)]⟩) (ee_addA ee_int (take (by omega) rfl ee_int))))))) fun d hd => ⟨_, ⟨p, n, d, sz, cn, rfl, by omega, by omega, ls, lc, fun x hx => by have := bs x hx; omega, fun x hx => by have := bc x hx; omega, hd.2, rfl, rfl⟩, fun F v ⟨_, ⟨t, ht, e⟩, r⟩ => ?_⟩) ?_
  · subst e
    have e1 : 2 ^ (d + 1) ≤ 2 ^ 4 := Nat.pow_le_pow_right (by omega) (by omega)
    have e2 := ht.sz
    have e3 := ht.ht
    exact ⟨_, ⟨t, ⟨ht.ok, by omega, by omega⟩, rfl⟩, r⟩
  refine ss_case (j := 6) (by show 6 < 20; decide) rfl fun m hm => ?_
  obtain ⟨t, ⟨tok, tht, tsz⟩, rfl⟩ := hm
  refine sq_set (m := someD K (fun g' : List Nat => ∃ g : List Nat, g.Sublist (List.range' 1 n) ∧ g' = g.take (n - 1)) ids_) (ee_slLA (h := fun (p : Nat) => .int (p : Int)) (ee_group (n := n) (ea_cons ee_int (ea_one (ee_add (ee_var rfl) ee_int))) (by omega) (by decide) (Nat.le_of_ble_eq_true rfl) fun i => et_eqN (K := K) (take (by omega) rfl ee_int) ee_int) (ee_cast (ee_sub (ee_var rfl) ee_int) (by rw [show ((n - 1 : Nat) : Int) = (n : Int) - 1 by omega]))) ?_
  refine ss_case (j := 7) (by show 7 < 20; decide) rfl fun m hm => ?_
  obtain ⟨g0, ⟨gg, hgg, hg0⟩, rfl⟩ := hm
  have hs0 : g0.Sublist (List.range' 1 n) := by rw [hg0]; exact (List.take_sublist _ _).trans hgg
  have hl0 : g0.length ≤ n - 1 := by rw [hg0]; exact List.length_take_le _ _
  refine sq_ifJ (fun g : { g : List Nat // g.Sublist (List.range' 1 n) ∧ 0 < g.length ∧ g.length < n } => [some (dt K (intsL ns)), some (rawv (.ref p)), some (dt K (.int (n : Int))), some (dt K (numsD sz)), none, some (dt K (numsD cn)), some (dt K (t.D true)), some (dt K (ids_ g.1)), none, none, none, none, none, none, none, none, none, none, none, none]) (b := decide ((g0.length : Int) = 0)) (et_test (ee_eqI (ee_cast (ee_lenL (ds := g0.map fun (p : Nat) => PyData.int (p : Int)) (ee_var rfl)) (by rw [List.length_map])) ee_int)) (fun g => ?_) (fun rest hb => ?_) fun rest hb => ?_
  · obtain ⟨g, gsub, gfew⟩ := g
    have dk : DrawnOk n sz cn g t := ⟨hn, ls, lc, bs, bc, tok, tht, tsz, gsub, gfew⟩
    have gl := dk.len dk.gb dk.gfew
    have ol := dk.len (oth_b n g) dk.ofew.2
    have sb : ∀ x ∈ sz, x ≤ 100 := fun x hx => by have := bs x hx; omega
    have cb : ∀ x ∈ cn, x ≤ 100 := fun x hx => by have := bc x hx; omega
    have eg : ids_ g = .list ((g.map fun (p : Nat) => (p : Int)).map .int) := by unfold ids_; rw [nums_ints]
    generalize ho : othersOf n g = o at *
    have ob : PplB n o := by rw [← ho]; exact oth_b n g
    refine sq_set (m := dt K (ids_ o)) (ee_cast (ee_lcRF (n := n) (fun p => decide (p ∉ g)) (ea_cons ee_int (ea_one (ee_add (ee_var rfl) ee_int))) (by omega) (by decide) (Nat.le_of_ble_eq_true rfl) fun p hp1 hp2 => et_is (et_test (ee_in (neg := true) (ee_var rfl) (ee_cast (ee_var rfl) eg))) ?_) (by rw [← ho]; rfl)) ?_
    · show (!decide ((p : Int) ∈ g.map fun (p : Nat) => (p : Int))) = decide (p ∉ g)
      have : ((p : Int) ∈ g.map fun (p : Nat) => (p : Int)) = (p ∈ g) := by
        apply propext
        rw [List.mem_map]
        exact ⟨fun ⟨a, h, e⟩ => by rw [show p = a by omega]; exact h, fun h => ⟨p, h, rfl⟩⟩
      simp only [this]
      by_cases h : p ∈ g <;> simp [h]
    have etk : talkD (rowsT cn g).length (rowsT cn (othersOf n g)).length (toSides sz cn g (othersOf n g) t) = talkD (rowsT cn g).length (rowsT cn o).length (toSides sz cn g o t) := by rw [ho]
    refine sq_set (m := dt K (talkD (rowsT cn g).length (rowsT cn o).length (toSides sz cn g o t))) (ee_cast (ee_call (Rel := r_two_sides K) (ea_cons (ee_tup (ds := [.str "people", numsD cn, t.D true]) (ea_cons ee_str (ea_cons (ee_var rfl) (ea_one (ee_var rfl)))) (by show 3 ≤ 100000; decide)) (ea_cons (ee_var rfl) (ea_one (ee_var rfl)))) ⟨n, sz, cn, g, t, dk.ppl, dk.grp, dk.two, rfl, rfl⟩) etk) ?_
    have mny : ∀ {M : Mode} {Γ : Gm} (l : List Nat) (a b : Nat) (g' : List Nat), l.length = n → (∀ x ∈ l, x ≤ 100) → PplB n g' → Γ[a]? = some (some (dt K (numsD l))) → Γ[b]? = some (some (dt K (ids_ g'))) → EE M Γ (tCall (spP (r_lmany K)) [] E0 (tCons (tVar a) (tCons (tVar b) tNil))) (dt K (.int ((rowsT l g').length : Int))) := fun l a b g' hl hb hg ha hb' => ee_cast (ee_call (Rel := r_lmany K) (ea_cons (ee_var ha) (ea_one (ee_var hb'))) ⟨n, l, g', hl, hb, hg, rfl, rfl⟩) (by rw [many_len])
    have shl : (PyData.tuple [.str "talk", .int ((rowsT cn g).length : Int), .int ((rowsT cn o).length : Int)]).canLay0 = true := by
      simp [PyData.canLay0, PyData.canLayAll0]
      decide +kernel
    have shs := shaped_of shl (by simp [PyData.depth, PyData.depthAll])
    refine sq_no (b := false) (et_is (et_test (K := K) (ee_neD (d := .tuple [.str "talk", .int ((rowsT cn g).length : Int), .int ((rowsT cn o).length : Int)]) (e := .tuple [.str "talk", .int ((rowsT cn g).length : Int), .int ((rowsT cn o).length : Int)])
      (ee_cast (ee_slT (ds := [.str "talk", .int ((rowsT cn g).length : Int), .int ((rowsT cn o).length : Int), (toSides sz cn g o t).D false]) (k := 3) (by show 3 < 4; decide) (ee_var rfl) ee_int) rfl)
      (ee_tup (ds := [.str "talk", .int ((rowsT cn g).length : Int), .int ((rowsT cn o).length : Int)]) (ea_cons ee_str (ea_cons (mny cn 5 7 g lc cb dk.gb rfl rfl) (ea_one (mny cn 5 9 o lc cb ob rfl rfl)))) (by show 3 ≤ 100000; decide)) shs shs)) (by rw [eqv_same _ shl]; rfl)) rfl ?_
    have szi : ∀ {Γ : Gm} {M : Mode} {te : TE} (l : List Nat) (a i : Nat), l.length = n → i < n → Γ[a]? = some (some (dt K (numsD l))) → EE M Γ te (dt K (.int (i : Int))) → EE M Γ (tOp (rIx K) (tVar a) te) (dt K (.int (at1 l (i + 1) : Int))) := fun l a i hl hi ha he => ee_ixT (ds := l.map fun (p : Nat) => PyData.int (p : Int)) (j := i) (ee_var ha) he rfl (size_get (p := i + 1) hl (by omega))
    have nin : ∀ (l : List Nat) (xs : List Int), xs.length = n → (∀ (i : Nat) x, xs[i]? = some x → 0 ≤ x ∧ x < (at1 l (i + 1) : Int)) → NumsIn n l xs := fun l xs hl hx => ⟨hl, fun pp h1 h2 => by
      have h3 : pp - 1 < xs.length := by omega
      have h4 := hx (pp - 1) xs[pp - 1] (List.getElem?_eq_getElem h3)
      rw [List.getD_eq_getElem?_getD, List.getElem?_eq_getElem h3]
      rw [show pp - 1 + 1 = pp by omega] at h4
      exact h4⟩
    refine ss_seq (ss_forG (K := K) (n := 6) (fun _ => [some (dt K (intsL ns)), some (rawv (.ref p)), some (dt K (.int (n : Int))), some (dt K (numsD sz)), none, some (dt K (numsD cn)), some (dt K (t.D true)), some (dt K (ids_ g)), none, some (dt K (ids_ o)), some (dt K (talkD (rowsT cn g).length (rowsT cn o).length (toSides sz cn g o t))), none, none, none, none, none, none, none, none, none]) (ea_one ee_int) (by omega) (.refl _) (fun turn _ => ?_) ?_)
    · refine sq_set (m := someD K (fun xs : List Int => xs.length = n ∧ ∀ (i : Nat) x, xs[i]? = some x → 0 ≤ x ∧ x < (at1 sz (i + 1) : Int)) intsL) (ee_lcR1I (n := n) (E := fun i v => 0 ≤ v ∧ v < (at1 sz (i + 1) : Int)) (g := .int) (ea_one (ee_var rfl)) (by omega) (by decide) fun i hi => take (by have := at1_bd ls bs (p := i + 1) (by omega); omega) rfl (szi sz 3 i ls hi rfl (ee_var rfl))) ?_
      refine ss_case (j := 12) (by show 12 < 20; decide) rfl fun m hm => ?_
      obtain ⟨ins, ⟨i1, i2⟩, rfl⟩ := hm
      refine sq_set (m := someD K (fun xs : List Int => xs.length = n ∧ ∀ (i : Nat) x, xs[i]? = some x → 0 ≤ x ∧ x < (at1 cn (i + 1) : Int)) intsL) (ee_lcR1I (n := n) (E := fun i v => 0 ≤ v ∧ v < (at1 cn (i + 1) : Int)) (g := .int) (ea_one (ee_var rfl)) (by omega) (by decide) fun i hi => take (by have := at1_bd lc bc (p := i + 1) (by omega); omega) rfl (szi cn 5 i lc hi rfl (ee_var rfl))) ?_
      refine ss_case (j := 13) (by show 13 < 20; decide) rfl fun m hm => ?_
      obtain ⟨cns, ⟨j1, j2⟩, rfl⟩ := hm
      have hi := nin sz ins i1 i2
      have hc := nin cn cns j1 j2
      refine ss_seq (ss_set2 (K := K) (m1 := tkM (heldP n ins cns t).1) (m2 := dt K (intsL (heldP n ins cns t).2)) (ee_call (Rel := r_lhp K) (ea_cons (ee_var rfl) (ea_cons (ee_var rfl) (ea_one (ee_var rfl)))) ⟨n, sz, cn, ins, cns, t, by omega, by omega, ls, lc, hi, hc, tok, by omega, rfl, rfl⟩) ?_)
      have num : ∀ {M : Mode} {Γ : Gm} (l : List Nat) (xs : List Int) (a b c : Nat) (g' : List Nat), l.length = n → xs.length = n → (∀ x ∈ l, x ≤ 100) → PplB n g' → Γ[a]? = some (some (dt K (intsL xs))) → Γ[b]? = some (some (dt K (numsD l))) → Γ[c]? = some (some (dt K (ids_ g'))) → EE M Γ (tCall (spP (r_lnumber K)) [] E0 (tCons (tVar a) (tCons (tVar b) (tCons (tVar c) tNil)))) (dt K (.int (numOf l xs g'))) := fun l xs a b c g' hl hx hb hg ha hb' hc' => ee_call (Rel := r_lnumber K) (ea_cons (ee_var ha) (ea_cons (ee_var hb') (ea_one (ee_var hc')))) ⟨n, l, g', xs, hl, hx, hb, hg, rfl, rfl⟩
      refine sq_set (m := dt K (pairD (numOf sz ins g) (numOf sz ins o))) (ee_tup (ds := [.int (numOf sz ins g), .int (numOf sz ins o)]) (ea_cons (num sz ins 12 3 7 g ls i1 sb dk.gb rfl rfl rfl) (ea_one (num sz ins 12 3 9 o ls i1 sb ob rfl rfl rfl))) (by show 2 ≤ 100000; decide)) ?_
      refine sq_set (m := dt K (pairD (numOf cn cns g) (numOf cn cns o))) (ee_tup (ds := [.int (numOf cn cns g), .int (numOf cn cns o)]) (ea_cons (num cn cns 13 5 7 g lc j1 cb dk.gb rfl rfl rfl) (ea_one (num cn cns 13 5 9 o lc j1 cb ob rfl rfl rfl))) (by show 2 ≤ 100000; decide)) ?_
      have gne : g ≠ [] := fun z => by rw [z] at gfew; exact absurd gfew.1 (by decide)
      have one : o ≠ [] := fun z => by have := dk.ofew.1; rw [ho, z] at this; exact absurd this (by decide)
      have hall : ∀ pp, 1 ≤ pp → pp ≤ n → pp ∈ g ∨ pp ∈ o := fun pp h1 h2 => by have := dk.all pp h1 h2; rw [ho] at this; exact this
      have same := sides_held hi hc dk.gb ob gne one hall t tok
      have r1 := row_at hi g dk.gb
      have r2 := row_at hi o ob
      have r3 := row_at hc g dk.gb
      have r4 := row_at hc o ob
      have hd0 : ∀ {M : Mode} {Γ : Gm} (a : Nat) (g' : List Nat), g' ≠ [] → PplB n g' → Γ[a]? = some (some (dt K (ids_ g'))) → Γ[15]? = some (some (dt K (intsL (heldP n ins cns t).2))) → EE M Γ (tOp (rIx K) (tVar 15) (tOp (rI0 fun i j => .int (i - j)) (tOp (rIx K) (tVar a) (tC (.int 0))) (tC (.int 1)))) (dt K (.int ((heldP n ins cns t).2.getD (g'.headD 0 - 1) 0))) := fun a g' hg hb ha h15 => by
        obtain ⟨q', g2, rfl⟩ : ∃ q' g2, g' = q' :: g2 := by
          cases g' with
          | nil => exact absurd rfl hg
          | cons q' g2 => exact ⟨q', g2, rfl⟩
        have hq := hb q' List.mem_cons_self
        have hlt : q' - 1 < (heldP n ins cns t).2.length := by rw [heldP_len]; omega
        refine ee_ixL (ds := (heldP n ins cns t).2.map .int) (j := q' - 1) (ee_var h15) (ee_sub (ee_ixL (ds := (q' :: g2).map fun (p : Nat) => PyData.int (p : Int)) (j := 0) (ee_var ha) ee_int rfl rfl) ee_int) (by omega) ?_
        show ((heldP n ins cns t).2.map PyData.int)[q' - 1]? = some (.int ((heldP n ins cns t).2.getD (q' - 1) 0))
        rw [List.getElem?_map, List.getD_eq_getElem?_getD, List.getElem?_eq_getElem hlt]; rfl
      refine ss_no (b := false) (et_is (et_test (K := K) (ee_neD (d := heldD ((heldP n ins cns t).1, (heldP n ins cns t).2.getD (g.headD 0 - 1) 0, (heldP n ins cns t).2.getD (o.headD 0 - 1) 0)) (e := heldD ((heldP n ins cns t).1, (heldP n ins cns t).2.getD (g.headD 0 - 1) 0, (heldP n ins cns t).2.getD (o.headD 0 - 1) 0))
        (ee_imp (ee_call (Rel := r_hold K) (ea_cons (ee_var rfl) (ea_cons (ee_var rfl) (ea_one (ee_var rfl)))) ⟨(rowsT sz g).length, (rowsT sz o).length, (rowsT cn g).length, (rowsT cn o).length, toSides sz cn g o t, numOf sz ins g, numOf sz ins o, numOf cn cns g, numOf cn cns o, by have := dk.talk; rw [sidesT, ho] at this; exact this, ⟨⟨r1.1, r1.2.1⟩, ⟨r2.1, r2.2.1⟩, ⟨r3.1, r3.2.1⟩, ⟨r4.1, r4.2.1⟩⟩, rfl, rfl⟩) fun F v r => by rw [same] at r; exact held_dt r)
        (ee_tup (ds := [.tuple ((heldP n ins cns t).1.map .int), pairD ((heldP n ins cns t).2.getD (g.headD 0 - 1) 0) ((heldP n ins cns t).2.getD (o.headD 0 - 1) 0)]) (ea_cons (ee_tk (ee_var rfl)) (ea_one (ee_tup (ds := [.int ((heldP n ins cns t).2.getD (g.headD 0 - 1) 0), .int ((heldP n ins cns t).2.getD (o.headD 0 - 1) 0)]) (ea_cons (hd0 7 g gne dk.gb rfl rfl) (ea_one (hd0 9 o one ob rfl rfl))) (by show 2 ≤ 100000; decide)))) (by show 2 ≤ 100000; decide)) (held_shaped _) (held_shaped _))) (by rw [held_eqv]; rfl)) rfl (ss_le ss_at ?_)
      exact .cons (.cons (.cons (.cons (.cons (.cons (.cons (.cons (.cons (.cons (.cons (.drop (.drop (.drop (.drop (.drop (.drop (.drop (.cons (.cons .nil)))))))))))))))))))
    refine sq_set (m := someD K (TabB (rowsT sz g).length (rowsT sz o).length 2) tabD) (ee_callM (Rel := r_tab K) (ea_cons (ee_var rfl) (ea_cons (mny sz 3 7 g ls sb dk.gb rfl rfl) (ea_cons (mny sz 3 9 o ls sb ob rfl rfl) (ea_one ee_int)))) ⟨p, _, _, 2, rfl, by omega, by omega, by omega, rfl, rfl⟩) ?_
    refine ss_case (j := 18) (by show 18 < 20; decide) rfl fun m hm => ?_
    obtain ⟨tab, htab, rfl⟩ := hm
    have fok : FlawOk (rowsT sz g).length (rowsT sz o).length (rowsT cn g).length (rowsT cn o).length (toSides sz cn g o t) tab := by
      have h1 : IsTab (rowsT sz g).length (rowsT sz (othersOf n g)).length tab := by rw [ho]; exact htab.1
      have := dk.flaw h1
      rw [sidesT, ho] at this
      exact this
    refine sq_set (m := flawM K (rowsT sz g).length (rowsT sz o).length (rowsT cn g).length (rowsT cn o).length (toSides sz cn g o t) tab) (ee_call (Rel := r_flaw K) (ea_cons (ee_var rfl) (ea_one (ee_var rfl))) ⟨_, _, _, _, _, tab, fok, rfl, rfl⟩) ?_
    refine ss_case (j := 19) (by show 19 < 20; decide) rfl fun m hm => ?_
    rcases hm with ⟨rfl, hag, hno⟩ | hm
    · refine sq_if (b := true) (et_test (ee_isN (d := .none) (ee_var rfl))) (fun _ => ?_) fun h => nomatch h
      exact ss_ret (m := dt K (.bool true)) (ee_cast (ee_not (ee_call (Rel := r_has K) (ea_cons (ee_var rfl) (ea_one (ee_var rfl))) ⟨_, _, _, _, _, tab, fok, hag, hno, rfl, rfl⟩)) rfl) q
    · refine sq_if (b := false) ?_ (fun h => nomatch h) fun _ => ?_
      · rcases hm with ⟨x, y, r, s, side, _, _, _, rfl⟩ | ⟨side, own, coin, _, _, _, y, z, k, _, _, _, _, rfl⟩
        · exact et_is (et_test (ee_isN (d := wrongD x y r s side) (ee_var rfl))) rfl
        · exact et_test (ee_isNT (ee_var rfl))
      · exact ss_ret (m := dt K (.bool true)) (ee_call (Rel := r_isf K) (ea_cons (ee_var rfl) (ea_cons (ee_var rfl) (ea_one (ee_var rfl)))) ⟨_, _, _, _, _, tab, _, fok, hm, rfl, rfl⟩) q
  · refine ss_set (m := someD K (fun g : List Nat => ∃ v, 1 ≤ v ∧ v ≤ n ∧ g = [v]) ids_) (ee_imp (ee_lstM (K := K) (ms := [someD K (fun v : Int => ∃ x, (0 ≤ x ∧ x < (n : Int)) ∧ v = 1 + x) .int]) (ea_one (ee_addA ee_int (take (by omega) rfl (ee_var rfl)))) (by show 1 ≤ 100000; decide)) fun F v r => ?_) ?_
    · obtain ⟨a, xs, rfl, hx, pm⟩ := r
      cases pm with
      | cons r1 pm =>
        cases pm
        obtain ⟨_, ⟨v, ⟨x, hx1, e⟩, rfl⟩, r1⟩ := r1
        refine ⟨_, ⟨[v.toNat], ⟨v.toNat, by omega, by omega, rfl⟩, rfl⟩, .lst hx (.cons ?_ .nil)⟩
        have ev : ((v.toNat : Nat) : Int) = v := by omega
        show Dp K F _ (.int ((v.toNat : Nat) : Int))
        rw [ev]
        exact r1
    refine ss_case (j := 7) (by show 7 < 20; decide) rfl fun m hm => ?_
    obtain ⟨g, ⟨v, v1, v2, rfl⟩, rfl⟩ := hm
    exact ss_le (rest ⟨[v], List.singleton_sublist.mpr (List.mem_range'_1.mpr (by omega)), by show 0 < 1; decide, by show 1 < n; omega⟩) (.cons (.cons (.cons (.cons (.cons (.cons (.cons (.cons (.refl _)))))))))
  · have hb := of_decide_eq_false hb
    exact ss_le (rest ⟨g0, hs0, by omega, by omega⟩) (.cons (.cons (.cons (.cons (.cons (.cons (.cons (.cons (.refl _)))))))))
end
end K46
namespace K46
open PySem L2
open Evl (Ex ex_l ex_t)
/-! ### the end: what the top has written -/
/-- a def in the module -/
def GDef (K : PySem.W.Frag) (x qual : Str) (st : Stmt) (f : Addr) : Prop := ∃ (oc : Value) (od an : Option Addr) (osl : Array (Option Value)) (kV doc pm cdv ct : Value), K.lookup f = some ⟨oc, od, .func (PySem.W.fnOf x qual (defArgs st) (defBody st) (defScope st) .none kV doc pm an cdv ct), osl⟩ ∧ PySem.W.codeIn K cdv qual = true ∧ PySem.W.keepIn K (.ref f) = true
def TopD (K : PySem.W.Frag) (x : Str) (st : Stmt) : Prop := ∃ f, PySem.W.nsIn K mainGlobals x = some (some (.ref f)) ∧ GDef K x x st f
def ClsD (K : PySem.W.Frag) (C : Addr) (x qual : Str) (st : Stmt) : Prop := ∃ f, PySem.W.findIn K (.ref C) x = some (some (.ref f)) ∧ PySem.W.isFn K (.ref f) = true ∧ GDef K x qual st f
section
variable {K : PySem.W.Frag} {C f : Addr} {x qual : Str} {st : Stmt} {oc : Value} {od an : Option Addr} {osl : Array (Option Value)} {kV doc pm cdv ct : Value}
theorem TopD.mk (qa : PySem.W.nsIn K mainGlobals x = some (some (.ref f))) (ql : K.lookup f = some ⟨oc, od, .func (PySem.W.fnOf x x (defArgs st) (defBody st) (defScope st) .none kV doc pm an cdv ct), osl⟩) (qc : PySem.W.codeIn K cdv x = true) (qk : PySem.W.keepIn K (.ref f) = true) : TopD K x st := ⟨f, qa, oc, od, an, osl, kV, doc, pm, cdv, ct, ql, qc, qk⟩
theorem ClsD.mk (qa : PySem.W.findIn K (.ref C) x = some (some (.ref f))) (qi : PySem.W.isFn K (.ref f) = true) (ql : K.lookup f = some ⟨oc, od, .func (PySem.W.fnOf x qual (defArgs st) (defBody st) (defScope st) .none kV doc pm an cdv ct), osl⟩) (qc : PySem.W.codeIn K cdv qual = true) (qk : PySem.W.keepIn K (.ref f) = true) : ClsD K C x qual st := ⟨f, qa, qi, oc, od, an, osl, kV, doc, pm, cdv, ct, ql, qc, qk⟩
theorem IntD.mk {i : Int} {t : Tok} (qa : PySem.W.nsIn K mainGlobals x = some (some (.int i t))) : ∃ t, PySem.W.nsIn K mainGlobals x = some (some (.int i t)) := ⟨t, qa⟩
theorem RefD.mk (qa : PySem.W.nsIn K mainGlobals x = some (some (.ref f))) : ∃ na, PySem.W.nsIn K mainGlobals x = some (some (.ref na)) := ⟨f, qa⟩
end
def MkC (K : PySem.W.Frag) (C : Addr) (x : Str) : Prop := PySem.W.nsIn K mainGlobals x = some (some (.ref C)) ∧ Cls K C ∧ PySem.W.makesIn K C = true ∧ PySem.W.keepIn K (.ref C) = true
theorem GDef.fn {K : PySem.W.Frag} {x qual : Str} {st : Stmt} {f : Addr} (g : GDef K x qual st f) {ps : List Str} (hb : ∀ (kV doc pm : Value) (an : Option Addr) (cdv ct : Value) (us : List Value), us.length = ps.length → bindArgs (PySem.W.fnOf x qual (defArgs st) (defBody st) (defScope st) .none kV doc pm an cdv ct) ⟨us, []⟩ = pure (ps.zip us)) : ∃ fd, Fun K x qual st f fd ∧ Binds K fd ps [] := by
  obtain ⟨oc, od, an, osl, kV, doc, pm, cdv, ct, h1, h2, h3⟩ := g
  exact ⟨_, fun_mk h1 h2 h3, Binds.all fun us hl => hb _ _ _ _ _ _ us hl⟩
theorem TopD.at {K : PySem.W.Frag} {mg : Str → Option Value} {x : Str} {st : Stmt} {h : Heap} {ps : List Str} (X : K.In h) (G : h.Ns mainGlobals mg) (d : TopD K x st) (hb : ∀ (kV doc pm : Value) (an : Option Addr) (cdv ct : Value) (us : List Value), us.length = ps.length → bindArgs (PySem.W.fnOf x x (defArgs st) (defBody st) (defScope st) .none kV doc pm an cdv ct) ⟨us, []⟩ = pure (ps.zip us)) : DefAt K mg x x st ps := by
  obtain ⟨f, a, g⟩ := d
  obtain ⟨fd, h1, h2⟩ := g.fn hb
  exact ⟨f, fd, PySem.W.mg_of X G a, h1, h2⟩
theorem ClsD.met {K : PySem.W.Frag} {C : Addr} {x qual : Str} {st : Stmt} {ps : List Str} (c : Cls K C) (d : ClsD K C x qual st) (hb : ∀ (kV doc pm : Value) (an : Option Addr) (cdv ct : Value) (us : List Value), us.length = ps.length → bindArgs (PySem.W.fnOf x qual (defArgs st) (defBody st) (defScope st) .none kV doc pm an cdv ct) ⟨us, []⟩ = pure (ps.zip us)) : MetAt K C x qual st ps := by
  obtain ⟨f, a, i, g⟩ := d
  obtain ⟨fd, h1, h2⟩ := g.fn hb
  exact ⟨c, f, fd, ⟨a, i, h1.kp⟩, h1, h2⟩
theorem ClsD.ini {K : PySem.W.Frag} {mg : Str → Option Value} {h : Heap} (X : K.In h) (G : h.Ns mainGlobals mg) {C : Addr} {x qual : Str} {st : Stmt} {ps : List Str} (m : MkC K C x) (d : ClsD K C "__init__" qual st) (hb : ∀ (kV doc pm : Value) (an : Option Addr) (cdv ct : Value) (us : List Value), us.length = ps.length → bindArgs (PySem.W.fnOf "__init__" qual (defArgs st) (defBody st) (defScope st) .none kV doc pm an cdv ct) ⟨us, []⟩ = pure (ps.zip us)) : IniAt K mg C x qual st ps := by
  obtain ⟨f, a, i, g⟩ := d
  obtain ⟨fd, h1, h2⟩ := g.fn hb
  exact ⟨m.2.1, PySem.W.mg_of X G m.1, f, fd, ⟨m.2.2.1, a, i, m.2.2.2⟩, h1, h2⟩
theorem all_mk {l : PySem.W.OpenLaw} {w : World} {K : PySem.W.Frag} {h : Heap} {mg : Str → Option Value} {fa CShape CTeam CHeld : Addr} (X : K.In h) (G : h.Ns mainGlobals mg) (hfa : mg "law" = some (.ref fa)) (eL : TopD K "law" s_law)
    (ed__law_draws : TopD K "_law_draws" s__law_draws)
    (ed__law_take : TopD K "_law_take" s__law_take)
    (ed__law_bits : TopD K "_law_bits" s__law_bits)
    (ed__law_people_tree : TopD K "_law_people_tree" s__law_people_tree)
    (ed_is_integer : TopD K "is_integer" s_is_integer)
    (ed_is_between : TopD K "is_between" s_is_between)
    (ed_is_listed : TopD K "is_listed" s_is_listed)
    (ed_Shape___init__ : ClsD K CShape "__init__" "Shape.__init__" s_Shape___init__)
    (ed_are_told : TopD K "are_told" s_are_told)
    (ed_are_bits : TopD K "are_bits" s_are_bits)
    (ed_Shape_is_say : ClsD K CShape "is_say" "Shape.is_say" s_Shape_is_say)
    (ed_Shape_is_end : ClsD K CShape "is_end" "Shape.is_end" s_Shape_is_end)
    (ed_Shape_is_end_of_people : ClsD K CShape "is_end_of_people" "Shape.is_end_of_people" s_Shape_is_end_of_people)
    (ed_check_tree : TopD K "check_tree" s_check_tree)
    (ed_check_people_talk : TopD K "check_people_talk" s_check_people_talk)
    (ed_all_rows : TopD K "all_rows" s_all_rows)
    (ed_Team___init__ : ClsD K CTeam "__init__" "Team.__init__" s_Team___init__)
    (ed_Team_told : ClsD K CTeam "told" "Team.told" s_Team_told)
    (ed_two_sided : TopD K "two_sided" s_two_sided)
    (ed_two_sides : TopD K "two_sides" s_two_sides)
    (ed__law_many : TopD K "_law_many" s__law_many)
    (ed__law_held_people : TopD K "_law_held_people" s__law_held_people)
    (ed__law_number : TopD K "_law_number" s__law_number)
    (ed_hold_talk : TopD K "hold_talk" s_hold_talk)
    (ed__law_table : TopD K "_law_table" s__law_table)
    (ed_check_table : TopD K "check_table" s_check_table)
    (ed_check_talk : TopD K "check_talk" s_check_talk)
    (ed_Held_hold_all : ClsD K CHeld "hold_all" "Held.hold_all" s_Held_hold_all)
    (ed_Held___init__ : ClsD K CHeld "__init__" "Held.__init__" s_Held___init__)
    (ed_pair_of : TopD K "pair_of" s_pair_of)
    (ed_Held_counts : ClsD K CHeld "counts" "Held.counts" s_Held_counts)
    (ed_Held_answer : ClsD K CHeld "answer" "Held.answer" s_Held_answer)
    (ed_first_unlike : TopD K "first_unlike" s_first_unlike)
    (ed_Held_learned_with : ClsD K CHeld "learned_with" "Held.learned_with" s_Held_learned_with)
    (ed_Held_learned : ClsD K CHeld "learned" "Held.learned" s_Held_learned)
    (ed_flaw_of : TopD K "flaw_of" s_flaw_of)
    (ed__law_held : TopD K "_law_held" s__law_held)
    (ed__law_answer : TopD K "_law_answer" s__law_answer)
    (ed__law_counts : TopD K "_law_counts" s__law_counts)
    (ed__law_has_flaw : TopD K "_law_has_flaw" s__law_has_flaw)
    (ed__law_whole : TopD K "_law_whole" s__law_whole)
    (ed__law_is_flaw : TopD K "_law_is_flaw" s__law_is_flaw)
    (mShape : MkC K CShape "Shape")
    (mTeam : MkC K CTeam "Team")
    (mHeld : MkC K CHeld "Held")
    (nShape_inputs : PySem.W.findIn K (.ref CShape) "inputs" = some none)
    (nShape_coins : PySem.W.findIn K (.ref CShape) "coins" = some none)
    (nTeam_people : PySem.W.findIn K (.ref CTeam) "people" = some none)
    (nTeam_inputs : PySem.W.findIn K (.ref CTeam) "inputs" = some none)
    (nTeam_coins : PySem.W.findIn K (.ref CTeam) "coins" = some none)
    (nHeld_table : PySem.W.findIn K (.ref CHeld) "table" = some none)
    (nHeld_inputs : PySem.W.findIn K (.ref CHeld) "inputs" = some none)
    (nHeld_coins : PySem.W.findIn K (.ref CHeld) "coins" = some none)
    (nHeld_bits : PySem.W.findIn K (.ref CHeld) "bits" = some none)
    (nHeld_wrong : PySem.W.findIn K (.ref CHeld) "wrong" = some none)
    (z_len : PySem.W.nsIn K mainGlobals "len" = some none)
    (z_isinstance : PySem.W.nsIn K mainGlobals "isinstance" = some none)
    (z_all : PySem.W.nsIn K mainGlobals "all" = some none)
    (z_abs : PySem.W.nsIn K mainGlobals "abs" = some none)
    (z_sorted : PySem.W.nsIn K mainGlobals "sorted" = some none)
    (z_enumerate : PySem.W.nsIn K mainGlobals "enumerate" = some none)
    (z_range : PySem.W.nsIn K mainGlobals "range" = some none)
    (z_int : PySem.W.nsIn K mainGlobals "int" = some none)
    (z_bool : PySem.W.nsIn K mainGlobals "bool" = some none)
    (z_tuple : PySem.W.nsIn K mainGlobals "tuple" = some none)
    (z_list : PySem.W.nsIn K mainGlobals "list" = some none)
    (z_MOST_LINES : ∃ t, PySem.W.nsIn K mainGlobals "MOST_LINES" = some (some (.int 100 t)))
    (z_MOST_COINS : ∃ t, PySem.W.nsIn K mainGlobals "MOST_COINS" = some (some (.int 256 t)))
    (z_MOST_DEPTH : ∃ t, PySem.W.nsIn K mainGlobals "MOST_DEPTH" = some (some (.int 250 t)))
    (z_MOST_TREES : ∃ t, PySem.W.nsIn K mainGlobals "MOST_TREES" = some (some (.int 40000 t)))
    (z_MOST_PEOPLE_TREES : ∃ t, PySem.W.nsIn K mainGlobals "MOST_PEOPLE_TREES" = some (some (.int 200 t)))
    (z_NO : ∃ na, PySem.W.nsIn K mainGlobals "NOTHING" = some (some (.ref na))) :
    ∃ fd : FuncData, (∀ (s : Shared) (v : Value), BindsTo s fd ⟨[v], []⟩ [("_law_script", v)]) ∧ ∀ base : Heap, K.In base → base.Ns mainGlobals mg → FnOk l.prog w K mg base CX0 9 fa fd ["_law_script"] (spP (r_law K)) := by
  obtain ⟨fL, aL, oc, od, an, osl, kV, doc, pm, cdv, ct, h1, h2, h3⟩ := eL
  have e := hfa.symm.trans (PySem.W.mg_of X G aL)
  cases e
  refine ⟨PySem.W.fnOf "law" "law" (defArgs s_law) (defBody s_law) (defScope s_law) .none kV doc pm an cdv ct, fun s v => .of_eq rfl, fun base _ _ => ?_⟩
  · have FL := fun_mk h1 h2 h3
    obtain ⟨t_MOST_LINES, z_MOST_LINES⟩ := z_MOST_LINES
    obtain ⟨t_MOST_COINS, z_MOST_COINS⟩ := z_MOST_COINS
    obtain ⟨t_MOST_DEPTH, z_MOST_DEPTH⟩ := z_MOST_DEPTH
    obtain ⟨t_MOST_TREES, z_MOST_TREES⟩ := z_MOST_TREES
    obtain ⟨t_MOST_PEOPLE_TREES, z_MOST_PEOPLE_TREES⟩ := z_MOST_PEOPLE_TREES
    obtain ⟨na, z_NO⟩ := z_NO
    have hNo := PySem.W.mg_of X G z_NO
    have T : Nm mg := ⟨PySem.W.mg_none_of X G z_len, PySem.W.mg_none_of X G z_isinstance, PySem.W.mg_none_of X G z_all, PySem.W.mg_none_of X G z_abs, PySem.W.mg_none_of X G z_sorted, PySem.W.mg_none_of X G z_enumerate, PySem.W.mg_none_of X G z_range, PySem.W.mg_none_of X G z_int, PySem.W.mg_none_of X G z_bool, PySem.W.mg_none_of X G z_tuple, PySem.W.mg_none_of X G z_list, ⟨_, PySem.W.mg_of X G z_MOST_LINES⟩, ⟨_, PySem.W.mg_of X G z_MOST_COINS⟩, ⟨_, PySem.W.mg_of X G z_MOST_DEPTH⟩, ⟨_, PySem.W.mg_of X G z_MOST_TREES⟩, ⟨_, PySem.W.mg_of X G z_MOST_PEOPLE_TREES⟩⟩
    have SShape : ShapeC K CShape := ⟨mShape.2.1, nShape_inputs, nShape_coins⟩
    have STeam : TeamC K CTeam := ⟨mTeam.2.1, nTeam_people, nTeam_inputs, nTeam_coins⟩
    have SHeld : HeldC K CHeld := ⟨mHeld.2.1, nHeld_table, nHeld_inputs, nHeld_coins, nHeld_bits, nHeld_wrong⟩
    have d__law_draws : DefAt K mg "_law_draws" "_law_draws" s__law_draws p__law_draws := ed__law_draws.at X G (fun _ _ _ _ _ _ us hl => match us, hl with | [_, _], _ => rfl)
    have d__law_take : DefAt K mg "_law_take" "_law_take" s__law_take p__law_take := ed__law_take.at X G (fun _ _ _ _ _ _ us hl => match us, hl with | [_, _], _ => rfl)
    have d__law_bits : DefAt K mg "_law_bits" "_law_bits" s__law_bits p__law_bits := ed__law_bits.at X G (fun _ _ _ _ _ _ us hl => match us, hl with | [_, _, _, _], _ => rfl)
    have d__law_people_tree : DefAt K mg "_law_people_tree" "_law_people_tree" s__law_people_tree p__law_people_tree := ed__law_people_tree.at X G (fun _ _ _ _ _ _ us hl => match us, hl with | [_, _, _, _], _ => rfl)
    have d_is_integer : DefAt K mg "is_integer" "is_integer" s_is_integer p_is_integer := ed_is_integer.at X G (fun _ _ _ _ _ _ us hl => match us, hl with | [_], _ => rfl)
    have d_is_between : DefAt K mg "is_between" "is_between" s_is_between p_is_between := ed_is_between.at X G (fun _ _ _ _ _ _ us hl => match us, hl with | [_, _, _], _ => rfl)
    have d_is_listed : DefAt K mg "is_listed" "is_listed" s_is_listed p_is_listed := ed_is_listed.at X G (fun _ _ _ _ _ _ us hl => match us, hl with | [_], _ => rfl)
    have d_Shape___init__ : IniAt K mg CShape "Shape" "Shape.__init__" s_Shape___init__ p_Shape___init__ := ed_Shape___init__.ini X G mShape (fun _ _ _ _ _ _ us hl => match us, hl with | [_, _, _], _ => rfl)
    have d_are_told : DefAt K mg "are_told" "are_told" s_are_told p_are_told := ed_are_told.at X G (fun _ _ _ _ _ _ us hl => match us, hl with | [_, _, _], _ => rfl)
    have d_are_bits : DefAt K mg "are_bits" "are_bits" s_are_bits p_are_bits := ed_are_bits.at X G (fun _ _ _ _ _ _ us hl => match us, hl with | [_, _, _], _ => rfl)
    have d_Shape_is_say : MetAt K CShape "is_say" "Shape.is_say" s_Shape_is_say p_Shape_is_say := ed_Shape_is_say.met mShape.2.1 (fun _ _ _ _ _ _ us hl => match us, hl with | [_, _], _ => rfl)
    have d_Shape_is_end : MetAt K CShape "is_end" "Shape.is_end" s_Shape_is_end p_Shape_is_end := ed_Shape_is_end.met mShape.2.1 (fun _ _ _ _ _ _ us hl => match us, hl with | [_, _], _ => rfl)
    have d_Shape_is_end_of_people : MetAt K CShape "is_end_of_people" "Shape.is_end_of_people" s_Shape_is_end_of_people p_Shape_is_end_of_people := ed_Shape_is_end_of_people.met mShape.2.1 (fun _ _ _ _ _ _ us hl => match us, hl with | [_, _], _ => rfl)
    have d_check_tree : DefAt K mg "check_tree" "check_tree" s_check_tree p_check_tree := ed_check_tree.at X G (fun _ _ _ _ _ _ us hl => match us, hl with | [_, _, _], _ => rfl)
    have d_check_people_talk : DefAt K mg "check_people_talk" "check_people_talk" s_check_people_talk p_check_people_talk := ed_check_people_talk.at X G (fun _ _ _ _ _ _ us hl => match us, hl with | [_, _, _], _ => rfl)
    have d_all_rows : DefAt K mg "all_rows" "all_rows" s_all_rows p_all_rows := ed_all_rows.at X G (fun _ _ _ _ _ _ us hl => match us, hl with | [_], _ => rfl)
    have d_Team___init__ : IniAt K mg CTeam "Team" "Team.__init__" s_Team___init__ p_Team___init__ := ed_Team___init__.ini X G mTeam (fun _ _ _ _ _ _ us hl => match us, hl with | [_, _, _, _], _ => rfl)
    have d_Team_told : MetAt K CTeam "told" "Team.told" s_Team_told p_Team_told := ed_Team_told.met mTeam.2.1 (fun _ _ _ _ _ _ us hl => match us, hl with | [_, _, _], _ => rfl)
    have d_two_sided : DefAt K mg "two_sided" "two_sided" s_two_sided p_two_sided := ed_two_sided.at X G (fun _ _ _ _ _ _ us hl => match us, hl with | [_, _], _ => rfl)
    have d_two_sides : DefAt K mg "two_sides" "two_sides" s_two_sides p_two_sides := ed_two_sides.at X G (fun _ _ _ _ _ _ us hl => match us, hl with | [_, _, _], _ => rfl)
    have d__law_many : DefAt K mg "_law_many" "_law_many" s__law_many p__law_many := ed__law_many.at X G (fun _ _ _ _ _ _ us hl => match us, hl with | [_, _], _ => rfl)
    have d__law_held_people : DefAt K mg "_law_held_people" "_law_held_people" s__law_held_people p__law_held_people := ed__law_held_people.at X G (fun _ _ _ _ _ _ us hl => match us, hl with | [_, _, _], _ => rfl)
    have d__law_number : DefAt K mg "_law_number" "_law_number" s__law_number p__law_number := ed__law_number.at X G (fun _ _ _ _ _ _ us hl => match us, hl with | [_, _, _], _ => rfl)
    have d_hold_talk : DefAt K mg "hold_talk" "hold_talk" s_hold_talk p_hold_talk := ed_hold_talk.at X G (fun _ _ _ _ _ _ us hl => match us, hl with | [_, _, _], _ => rfl)
    have d__law_table : DefAt K mg "_law_table" "_law_table" s__law_table p__law_table := ed__law_table.at X G (fun _ _ _ _ _ _ us hl => match us, hl with | [_, _, _, _], _ => rfl)
    have d_check_table : DefAt K mg "check_table" "check_table" s_check_table p_check_table := ed_check_table.at X G (fun _ _ _ _ _ _ us hl => match us, hl with | [_], _ => rfl)
    have d_check_talk : DefAt K mg "check_talk" "check_talk" s_check_talk p_check_talk := ed_check_talk.at X G (fun _ _ _ _ _ _ us hl => match us, hl with | [_, _], _ => rfl)
    have d_Held_hold_all : MetAt K CHeld "hold_all" "Held.hold_all" s_Held_hold_all p_Held_hold_all := ed_Held_hold_all.met mHeld.2.1 (fun _ _ _ _ _ _ us hl => match us, hl with | [_, _, _], _ => rfl)
    have d_Held___init__ : IniAt K mg CHeld "Held" "Held.__init__" s_Held___init__ p_Held___init__ := ed_Held___init__.ini X G mHeld (fun _ _ _ _ _ _ us hl => match us, hl with | [_, _, _], _ => rfl)
    have d_pair_of : DefAt K mg "pair_of" "pair_of" s_pair_of p_pair_of := ed_pair_of.at X G (fun _ _ _ _ _ _ us hl => match us, hl with | [_, _, _], _ => rfl)
    have d_Held_counts : MetAt K CHeld "counts" "Held.counts" s_Held_counts p_Held_counts := ed_Held_counts.met mHeld.2.1 (fun _ _ _ _ _ _ us hl => match us, hl with | [_, _, _, _, _], _ => rfl)
    have d_Held_answer : MetAt K CHeld "answer" "Held.answer" s_Held_answer p_Held_answer := ed_Held_answer.met mHeld.2.1 (fun _ _ _ _ _ _ us hl => match us, hl with | [_, _, _, _], _ => rfl)
    have d_first_unlike : DefAt K mg "first_unlike" "first_unlike" s_first_unlike p_first_unlike := ed_first_unlike.at X G (fun _ _ _ _ _ _ us hl => match us, hl with | [_, _], _ => rfl)
    have d_Held_learned_with : MetAt K CHeld "learned_with" "Held.learned_with" s_Held_learned_with p_Held_learned_with := ed_Held_learned_with.met mHeld.2.1 (fun _ _ _ _ _ _ us hl => match us, hl with | [_, _, _, _], _ => rfl)
    have d_Held_learned : MetAt K CHeld "learned" "Held.learned" s_Held_learned p_Held_learned := ed_Held_learned.met mHeld.2.1 (fun _ _ _ _ _ _ us hl => match us, hl with | [_], _ => rfl)
    have d_flaw_of : DefAt K mg "flaw_of" "flaw_of" s_flaw_of p_flaw_of := ed_flaw_of.at X G (fun _ _ _ _ _ _ us hl => match us, hl with | [_, _], _ => rfl)
    have d__law_held : DefAt K mg "_law_held" "_law_held" s__law_held p__law_held := ed__law_held.at X G (fun _ _ _ _ _ _ us hl => match us, hl with | [_, _, _], _ => rfl)
    have d__law_answer : DefAt K mg "_law_answer" "_law_answer" s__law_answer p__law_answer := ed__law_answer.at X G (fun _ _ _ _ _ _ us hl => match us, hl with | [_, _, _, _], _ => rfl)
    have d__law_counts : DefAt K mg "_law_counts" "_law_counts" s__law_counts p__law_counts := ed__law_counts.at X G (fun _ _ _ _ _ _ us hl => match us, hl with | [_, _, _, _, _], _ => rfl)
    have d__law_has_flaw : DefAt K mg "_law_has_flaw" "_law_has_flaw" s__law_has_flaw p__law_has_flaw := ed__law_has_flaw.at X G (fun _ _ _ _ _ _ us hl => match us, hl with | [_, _], _ => rfl)
    have d__law_whole : DefAt K mg "_law_whole" "_law_whole" s__law_whole p__law_whole := ed__law_whole.at X G (fun _ _ _ _ _ _ us hl => match us, hl with | [_, _], _ => rfl)
    have d__law_is_flaw : DefAt K mg "_law_is_flaw" "_law_is_flaw" s__law_is_flaw p__law_is_flaw := ed__law_is_flaw.at X G (fun _ _ _ _ _ _ us hl => match us, hl with | [_, _, _], _ => rfl)
    have g_C_draws := cal_draws (P := l.prog) (w := w) (base := base) d__law_draws T
    have g_C_take := cal_take (P := l.prog) (w := w) (base := base) d__law_take T
    have g_C_bits := cal_bits (P := l.prog) (w := w) (base := base) d__law_bits T g_C_take
    have g_C_tree := cal_tree (P := l.prog) (w := w) (base := base) d__law_people_tree T g_C_take g_C_bits
    have g_C_is_integer := cal_is_integer (P := l.prog) (w := w) (base := base) d_is_integer T
    have g_C_is_between := cal_is_between (P := l.prog) (w := w) (base := base) d_is_between T g_C_is_integer
    have g_C_is_listedL := cal_is_listedL (P := l.prog) (w := w) (base := base) d_is_listed T g_C_is_integer
    have g_C_Shape := cal_Shape (P := l.prog) (w := w) (base := base) d_Shape___init__ SShape
    have g_C_is_listed := cal_is_listed (P := l.prog) (w := w) (base := base) d_is_listed T g_C_is_integer
    have g_C_are_told := cal_are_told (P := l.prog) (w := w) (base := base) d_are_told T g_C_is_listed
    have g_C_are_bits := cal_are_bits (P := l.prog) (w := w) (base := base) d_are_bits T g_C_are_told
    have g_C_is_say := cal_is_say (P := l.prog) (w := w) (base := base) d_Shape_is_say T SShape g_C_is_integer g_C_are_bits
    have g_C_is_end := cal_is_end (P := l.prog) (w := w) (base := base) d_Shape_is_end T SShape g_C_are_told
    have g_C_is_eop := cal_is_eop (P := l.prog) (w := w) (base := base) d_Shape_is_end_of_people T SShape g_C_are_told
    have g_C_check_tree := cal_check_tree (P := l.prog) (w := w) (base := base) d_check_tree T g_C_is_say g_C_is_end g_C_is_eop
    have g_C_cpt := cal_cpt (P := l.prog) (w := w) (base := base) d_check_people_talk T g_C_is_between g_C_is_listedL g_C_Shape g_C_check_tree
    have g_C_all_rows := cal_all_rows (P := l.prog) (w := w) (base := base) d_all_rows T
    have g_C_Team := cal_Team (P := l.prog) (w := w) (base := base) d_Team___init__ T STeam g_C_all_rows
    have g_C_told := cal_told (P := l.prog) (w := w) (base := base) d_Team_told T STeam
    have g_C_two_sided := cal_two_sided (P := l.prog) (w := w) (base := base) d_two_sided T STeam g_C_told
    have g_C_two_sides := cal_two_sides (P := l.prog) (w := w) (base := base) d_two_sides T STeam g_C_cpt g_C_Team g_C_two_sided
    have g_C_lmany := cal_lmany (P := l.prog) (w := w) (base := base) d__law_many T
    have g_C_lhp := cal_lhp (P := l.prog) (w := w) (base := base) d__law_held_people T
    have g_C_lnumber := cal_lnumber (P := l.prog) (w := w) (base := base) d__law_number T
    have g_C_hold := cal_hold (P := l.prog) (w := w) (base := base) d_hold_talk T
    have g_C_tab := cal_tab (P := l.prog) (w := w) (base := base) d__law_table T g_C_take
    have g_C_check_table := cal_check_table (P := l.prog) (w := w) (base := base) d_check_table T g_C_is_listed
    have g_C_check_talk := cal_check_talk (P := l.prog) (w := w) (base := base) d_check_talk T g_C_check_table g_C_is_between g_C_Shape g_C_check_tree
    have g_C_hall := cal_hall (P := l.prog) (w := w) (base := base) d_Held_hold_all T SHeld g_C_hold
    have g_C_Held := cal_Held (P := l.prog) (w := w) (base := base) d_Held___init__ T SHeld g_C_hall
    have g_C_pair := cal_pair (P := l.prog) (w := w) (base := base) d_pair_of T
    have g_C_hcounts := cal_hcounts (P := l.prog) (w := w) (base := base) d_Held_counts T SHeld g_C_pair
    have g_C_hans := cal_hans (P := l.prog) (w := w) (base := base) d_Held_answer T SHeld g_C_pair
    have g_C_first := cal_first (P := l.prog) (w := w) (base := base) d_first_unlike T hNo
    have g_C_lw := cal_lw (P := l.prog) (w := w) (base := base) d_Held_learned_with T SHeld g_C_hcounts g_C_hans g_C_first
    have g_C_learned := cal_learned (P := l.prog) (w := w) (base := base) d_Held_learned T SHeld g_C_lw
    have g_C_flaw := cal_flaw (P := l.prog) (w := w) (base := base) d_flaw_of T SHeld g_C_check_talk g_C_Held g_C_learned
    have g_C_lheld := cal_lheld (P := l.prog) (w := w) (base := base) d__law_held T
    have g_C_lanswer := cal_lanswer (P := l.prog) (w := w) (base := base) d__law_answer T
    have g_C_lcounts := cal_lcounts (P := l.prog) (w := w) (base := base) d__law_counts T g_C_lheld
    have g_C_has := cal_has (P := l.prog) (w := w) (base := base) d__law_has_flaw T g_C_lheld g_C_lanswer g_C_lcounts
    have g_C_whole := cal_whole (P := l.prog) (w := w) (base := base) d__law_whole T
    have g_C_isf := cal_isf (P := l.prog) (w := w) (base := base) d__law_is_flaw T g_C_lheld g_C_lanswer g_C_lcounts g_C_whole
    exact ok_law (P := l.prog) (w := w) (base := base) FL T g_C_draws g_C_take g_C_tree g_C_two_sides g_C_lmany g_C_lhp g_C_lnumber g_C_hold g_C_tab g_C_flaw g_C_has g_C_isf
theorem walk {l : PySem.W.OpenLaw} {q : Program} {loose : List Str} {XP : (Str → Option Value) → Heap → Prop} {YP : World → Heap → Prop} {d : DefRec} {K : Params → PySem.W.Frag} (hn : l.most = some 63) (hdf : d.params.defaults = [])
    (hY : ∀ (w : World) (h : Heap), YP w h → (K w.params).In h)
    (F : ∀ (w : World) (mg : Str → Option Value) (fa : Addr) (h : Heap), (K w.params).In h → h.Ns mainGlobals mg → mg d.name = some (.ref fa) →
      ∃ fd : FuncData, (∀ (s : Shared) (u : Value), BindsTo s fd ⟨[u], []⟩ [("_law_script", u)]) ∧ ∀ base : Heap, (K w.params).In base → base.Ns mainGlobals mg → FnOk l.prog w (K w.params) mg base CX0 9 fa fd ["_law_script"] (spP (r_law (K w.params)))) :
    PySem.W.WalkO q loose XP YP l.row.toRowW d [] (fun f vs => PySem.call f vs) :=
  L2.walk_of (n := 63) (k := 9) (x := "_law_script") (CX := fun _ => CX0) (sp := fun w => spP (r_law (K w.params))) hn (by decide) hdf ⟨rfl, by decide, by decide⟩ hY F
    (fun w H a ns hl _ hS => ⟨pu, H, [dt (K w.params) (intsL ns)], _, pu_ok (Ex.refl H), .cons (.lst hS (dpAll_ints ns)) .nil, ⟨rfl, ns, by omega, rfl, rfl⟩, fun v F' H' _ _ r => dp_bl r⟩) fun _ _ _ _ _ z => z
end K46
open PySem PySem.W PyProof.Rows
set_option maxRecDepth 100000 in
set_option maxHeartbeats 0 in
theorem PySem.Challenge.cw_jointhands_k46_whole_people_led_to_two_s_holds : PySem.Challenge.rw_jointhands_k46_whole_people_led_to_two_s.Holds := by
  w_on; o_law; k_head; (case hw => w_witness2)
  k_fill
  refine K46.walk (l := PySem.Challenge.rw_jointhands_k46_whole_people_led_to_two_s) rfl rfl (fun w h Y => PySem.W.kIn_of Y) ?F
  case F =>
    intro w mg fa h KX G hmg
    refine' K46.all_mk KX G hmg ?eL ?ed__law_draws ?ed__law_take ?ed__law_bits ?ed__law_people_tree ?ed_is_integer ?ed_is_between ?ed_is_listed ?ed_Shape___init__ ?ed_are_told ?ed_are_bits ?ed_Shape_is_say ?ed_Shape_is_end ?ed_Shape_is_end_of_people ?ed_check_tree ?ed_check_people_talk ?ed_all_rows ?ed_Team___init__ ?ed_Team_told ?ed_two_sided ?ed_two_sides ?ed__law_many ?ed__law_held_people ?ed__law_number ?ed_hold_talk ?ed__law_table ?ed_check_table ?ed_check_talk ?ed_Held_hold_all ?ed_Held___init__ ?ed_pair_of ?ed_Held_counts ?ed_Held_answer ?ed_first_unlike ?ed_Held_learned_with ?ed_Held_learned ?ed_flaw_of ?ed__law_held ?ed__law_answer ?ed__law_counts ?ed__law_has_flaw ?ed__law_whole ?ed__law_is_flaw ?mShape ?mTeam ?mHeld ?nShape_inputs ?nShape_coins ?nTeam_people ?nTeam_inputs ?nTeam_coins ?nHeld_table ?nHeld_inputs ?nHeld_coins ?nHeld_bits ?nHeld_wrong ?z_len ?z_isinstance ?z_all ?z_abs ?z_sorted ?z_enumerate ?z_range ?z_int ?z_bool ?z_tuple ?z_list ?z_MOST_LINES ?z_MOST_COINS ?z_MOST_DEPTH ?z_MOST_TREES ?z_MOST_PEOPLE_TREES ?z_NO
    case mShape =>
      refine' ⟨?qa_mShape, ⟨?qp_mShape, ?qh_mShape, ?qo_mShape, ?qs_mShape⟩, ?qm_mShape, ?qk_mShape⟩
      (case qa_mShape => k_is)
      (case qp_mShape => k_is)
      (case qh_mShape => k_is)
      (case qo_mShape => k_is)
      (case qs_mShape => k_is)
      (case qm_mShape => k_is)
      (case qk_mShape => k_is)
    case mTeam =>
      refine' ⟨?qa_mTeam, ⟨?qp_mTeam, ?qh_mTeam, ?qo_mTeam, ?qs_mTeam⟩, ?qm_mTeam, ?qk_mTeam⟩
      (case qa_mTeam => k_is)
      (case qp_mTeam => k_is)
      (case qh_mTeam => k_is)
      (case qo_mTeam => k_is)
      (case qs_mTeam => k_is)
      (case qm_mTeam => k_is)
      (case qk_mTeam => k_is)
    case mHeld =>
      refine' ⟨?qa_mHeld, ⟨?qp_mHeld, ?qh_mHeld, ?qo_mHeld, ?qs_mHeld⟩, ?qm_mHeld, ?qk_mHeld⟩
      (case qa_mHeld => k_is)
      (case qp_mHeld => k_is)
      (case qh_mHeld => k_is)
      (case qo_mHeld => k_is)
      (case qs_mHeld => k_is)
      (case qm_mHeld => k_is)
      (case qk_mHeld => k_is)
    case eL =>
      refine' K46.TopD.mk ?qa_eL ?ql_eL ?qc_eL ?qk_eL
      (case qa_eL => k_is)
      (case ql_eL => k_is)
      (case qc_eL => k_is)
      (case qk_eL => k_is)
    case ed__law_draws =>
      refine' K46.TopD.mk ?qa_ed__law_draws ?ql_ed__law_draws ?qc_ed__law_draws ?qk_ed__law_draws
      (case qa_ed__law_draws => k_is)
      (case ql_ed__law_draws => k_is)
      (case qc_ed__law_draws => k_is)
      (case qk_ed__law_draws => k_is)
    case ed__law_take =>
      refine' K46.TopD.mk ?qa_ed__law_take ?ql_ed__law_take ?qc_ed__law_take ?qk_ed__law_take
      (case qa_ed__law_take => k_is)
      (case ql_ed__law_take => k_is)
      (case qc_ed__law_take => k_is)
      (case qk_ed__law_take => k_is)
    case ed__law_bits =>
      refine' K46.TopD.mk ?qa_ed__law_bits ?ql_ed__law_bits ?qc_ed__law_bits ?qk_ed__law_bits
      (case qa_ed__law_bits => k_is)
      (case ql_ed__law_bits => k_is)
      (case qc_ed__law_bits => k_is)
      (case qk_ed__law_bits => k_is)
    case ed__law_people_tree =>
      refine' K46.TopD.mk ?qa_ed__law_people_tree ?ql_ed__law_people_tree ?qc_ed__law_people_tree ?qk_ed__law_people_tree
      (case qa_ed__law_people_tree => k_is)
      (case ql_ed__law_people_tree => k_is)
      (case qc_ed__law_people_tree => k_is)
      (case qk_ed__law_people_tree => k_is)
    case ed_is_integer =>
      refine' K46.TopD.mk ?qa_ed_is_integer ?ql_ed_is_integer ?qc_ed_is_integer ?qk_ed_is_integer
      (case qa_ed_is_integer => k_is)
      (case ql_ed_is_integer => k_is)
      (case qc_ed_is_integer => k_is)
      (case qk_ed_is_integer => k_is)
    case ed_is_between =>
      refine' K46.TopD.mk ?qa_ed_is_between ?ql_ed_is_between ?qc_ed_is_between ?qk_ed_is_between
      (case qa_ed_is_between => k_is)
      (case ql_ed_is_between => k_is)
      (case qc_ed_is_between => k_is)
      (case qk_ed_is_between => k_is)
    case ed_is_listed =>
      refine' K46.TopD.mk ?qa_ed_is_listed ?ql_ed_is_listed ?qc_ed_is_listed ?qk_ed_is_listed
      (case qa_ed_is_listed => k_is)
      (case ql_ed_is_listed => k_is)
      (case qc_ed_is_listed => k_is)
      (case qk_ed_is_listed => k_is)
    case ed_Shape___init__ =>
      refine' K46.ClsD.mk ?qa_ed_Shape___init__ ?qi_ed_Shape___init__ ?ql_ed_Shape___init__ ?qc_ed_Shape___init__ ?qk_ed_Shape___init__
      (case qa_ed_Shape___init__ => k_is)
      (case qi_ed_Shape___init__ => k_is)
      (case ql_ed_Shape___init__ => k_is)
      (case qc_ed_Shape___init__ => k_is)
      (case qk_ed_Shape___init__ => k_is)
    case ed_are_told =>
      refine' K46.TopD.mk ?qa_ed_are_told ?ql_ed_are_told ?qc_ed_are_told ?qk_ed_are_told
      (case qa_ed_are_told => k_is)
      (case ql_ed_are_told => k_is)
      (case qc_ed_are_told => k_is)
      (case qk_ed_are_told => k_is)
    case ed_are_bits =>
      refine' K46.TopD.mk ?qa_ed_are_bits ?ql_ed_are_bits ?qc_ed_are_bits ?qk_ed_are_bits
      (case qa_ed_are_bits => k_is)
      (case ql_ed_are_bits => k_is)
      (case qc_ed_are_bits => k_is)
      (case qk_ed_are_bits => k_is)
    case ed_Shape_is_say =>
      refine' K46.ClsD.mk ?qa_ed_Shape_is_say ?qi_ed_Shape_is_say ?ql_ed_Shape_is_say ?qc_ed_Shape_is_say ?qk_ed_Shape_is_say
      (case qa_ed_Shape_is_say => k_is)
      (case qi_ed_Shape_is_say => k_is)
      (case ql_ed_Shape_is_say => k_is)
      (case qc_ed_Shape_is_say => k_is)
      (case qk_ed_Shape_is_say => k_is)
    case ed_Shape_is_end =>
      refine' K46.ClsD.mk ?qa_ed_Shape_is_end ?qi_ed_Shape_is_end ?ql_ed_Shape_is_end ?qc_ed_Shape_is_end ?qk_ed_Shape_is_end
      (case qa_ed_Shape_is_end => k_is)
      (case qi_ed_Shape_is_end => k_is)
      (case ql_ed_Shape_is_end => k_is)
      (case qc_ed_Shape_is_end => k_is)
      (case qk_ed_Shape_is_end => k_is)
    case ed_Shape_is_end_of_people =>
      refine' K46.ClsD.mk ?qa_ed_Shape_is_end_of_people ?qi_ed_Shape_is_end_of_people ?ql_ed_Shape_is_end_of_people ?qc_ed_Shape_is_end_of_people ?qk_ed_Shape_is_end_of_people
      (case qa_ed_Shape_is_end_of_people => k_is)
      (case qi_ed_Shape_is_end_of_people => k_is)
      (case ql_ed_Shape_is_end_of_people => k_is)
      (case qc_ed_Shape_is_end_of_people => k_is)
      (case qk_ed_Shape_is_end_of_people => k_is)
    case ed_check_tree =>
      refine' K46.TopD.mk ?qa_ed_check_tree ?ql_ed_check_tree ?qc_ed_check_tree ?qk_ed_check_tree
      (case qa_ed_check_tree => k_is)
      (case ql_ed_check_tree => k_is)
      (case qc_ed_check_tree => k_is)
      (case qk_ed_check_tree => k_is)
    case ed_check_people_talk =>
      refine' K46.TopD.mk ?qa_ed_check_people_talk ?ql_ed_check_people_talk ?qc_ed_check_people_talk ?qk_ed_check_people_talk
      (case qa_ed_check_people_talk => k_is)
      (case ql_ed_check_people_talk => k_is)
      (case qc_ed_check_people_talk => k_is)
      (case qk_ed_check_people_talk => k_is)
    case ed_all_rows =>
      refine' K46.TopD.mk ?qa_ed_all_rows ?ql_ed_all_rows ?qc_ed_all_rows ?qk_ed_all_rows
      (case qa_ed_all_rows => k_is)
      (case ql_ed_all_rows => k_is)
      (case qc_ed_all_rows => k_is)
      (case qk_ed_all_rows => k_is)
    case ed_Team___init__ =>
      refine' K46.ClsD.mk ?qa_ed_Team___init__ ?qi_ed_Team___init__ ?ql_ed_Team___init__ ?qc_ed_Team___init__ ?qk_ed_Team___init__
      (case qa_ed_Team___init__ => k_is)
      (case qi_ed_Team___init__ => k_is)
      (case ql_ed_Team___init__ => k_is)
      (case qc_ed_Team___init__ => k_is)
      (case qk_ed_Team___init__ => k_is)
    case ed_Team_told =>
      refine' K46.ClsD.mk ?qa_ed_Team_told ?qi_ed_Team_told ?ql_ed_Team_told ?qc_ed_Team_told ?qk_ed_Team_told
      (case qa_ed_Team_told => k_is)
      (case qi_ed_Team_told => k_is)
      (case ql_ed_Team_told => k_is)
      (case qc_ed_Team_told => k_is)
      (case qk_ed_Team_told => k_is)
    case ed_two_sided =>
      refine' K46.TopD.mk ?qa_ed_two_sided ?ql_ed_two_sided ?qc_ed_two_sided ?qk_ed_two_sided
      (case qa_ed_two_sided => k_is)
      (case ql_ed_two_sided => k_is)
      (case qc_ed_two_sided => k_is)
      (case qk_ed_two_sided => k_is)
    case ed_two_sides =>
      refine' K46.TopD.mk ?qa_ed_two_sides ?ql_ed_two_sides ?qc_ed_two_sides ?qk_ed_two_sides
      (case qa_ed_two_sides => k_is)
      (case ql_ed_two_sides => k_is)
      (case qc_ed_two_sides => k_is)
      (case qk_ed_two_sides => k_is)
    case ed__law_many =>
      refine' K46.TopD.mk ?qa_ed__law_many ?ql_ed__law_many ?qc_ed__law_many ?qk_ed__law_many
      (case qa_ed__law_many => k_is)
      (case ql_ed__law_many => k_is)
      (case qc_ed__law_many => k_is)
      (case qk_ed__law_many => k_is)
    case ed__law_held_people =>
      refine' K46.TopD.mk ?qa_ed__law_held_people ?ql_ed__law_held_people ?qc_ed__law_held_people ?qk_ed__law_held_people
      (case qa_ed__law_held_people => k_is)
      (case ql_ed__law_held_people => k_is)
      (case qc_ed__law_held_people => k_is)
      (case qk_ed__law_held_people => k_is)
    case ed__law_number =>
      refine' K46.TopD.mk ?qa_ed__law_number ?ql_ed__law_number ?qc_ed__law_number ?qk_ed__law_number
      (case qa_ed__law_number => k_is)
      (case ql_ed__law_number => k_is)
      (case qc_ed__law_number => k_is)
      (case qk_ed__law_number => k_is)
    case ed_hold_talk =>
      refine' K46.TopD.mk ?qa_ed_hold_talk ?ql_ed_hold_talk ?qc_ed_hold_talk ?qk_ed_hold_talk
      (case qa_ed_hold_talk => k_is)
      (case ql_ed_hold_talk => k_is)
      (case qc_ed_hold_talk => k_is)
      (case qk_ed_hold_talk => k_is)
    case ed__law_table =>
      refine' K46.TopD.mk ?qa_ed__law_table ?ql_ed__law_table ?qc_ed__law_table ?qk_ed__law_table
      (case qa_ed__law_table => k_is)
      (case ql_ed__law_table => k_is)
      (case qc_ed__law_table => k_is)
      (case qk_ed__law_table => k_is)
    case ed_check_table =>
      refine' K46.TopD.mk ?qa_ed_check_table ?ql_ed_check_table ?qc_ed_check_table ?qk_ed_check_table
      (case qa_ed_check_table => k_is)
      (case ql_ed_check_table => k_is)
      (case qc_ed_check_table => k_is)
      (case qk_ed_check_table => k_is)
    case ed_check_talk =>
      refine' K46.TopD.mk ?qa_ed_check_talk ?ql_ed_check_talk ?qc_ed_check_talk ?qk_ed_check_talk
      (case qa_ed_check_talk => k_is)
      (case ql_ed_check_talk => k_is)
      (case qc_ed_check_talk => k_is)
      (case qk_ed_check_talk => k_is)
    case ed_Held_hold_all =>
      refine' K46.ClsD.mk ?qa_ed_Held_hold_all ?qi_ed_Held_hold_all ?ql_ed_Held_hold_all ?qc_ed_Held_hold_all ?qk_ed_Held_hold_all
      (case qa_ed_Held_hold_all => k_is)
      (case qi_ed_Held_hold_all => k_is)
      (case ql_ed_Held_hold_all => k_is)
      (case qc_ed_Held_hold_all => k_is)
      (case qk_ed_Held_hold_all => k_is)
    case ed_Held___init__ =>
      refine' K46.ClsD.mk ?qa_ed_Held___init__ ?qi_ed_Held___init__ ?ql_ed_Held___init__ ?qc_ed_Held___init__ ?qk_ed_Held___init__
      (case qa_ed_Held___init__ => k_is)
      (case qi_ed_Held___init__ => k_is)
      (case ql_ed_Held___init__ => k_is)
      (case qc_ed_Held___init__ => k_is)
      (case qk_ed_Held___init__ => k_is)
    case ed_pair_of =>
      refine' K46.TopD.mk ?qa_ed_pair_of ?ql_ed_pair_of ?qc_ed_pair_of ?qk_ed_pair_of
      (case qa_ed_pair_of => k_is)
      (case ql_ed_pair_of => k_is)
      (case qc_ed_pair_of => k_is)
      (case qk_ed_pair_of => k_is)
    case ed_Held_counts =>
      refine' K46.ClsD.mk ?qa_ed_Held_counts ?qi_ed_Held_counts ?ql_ed_Held_counts ?qc_ed_Held_counts ?qk_ed_Held_counts
      (case qa_ed_Held_counts => k_is)
      (case qi_ed_Held_counts => k_is)
      (case ql_ed_Held_counts => k_is)
      (case qc_ed_Held_counts => k_is)
      (case qk_ed_Held_counts => k_is)
    case ed_Held_answer =>
      refine' K46.ClsD.mk ?qa_ed_Held_answer ?qi_ed_Held_answer ?ql_ed_Held_answer ?qc_ed_Held_answer ?qk_ed_Held_answer
      (case qa_ed_Held_answer => k_is)
      (case qi_ed_Held_answer => k_is)
      (case ql_ed_Held_answer => k_is)
      (case qc_ed_Held_answer => k_is)
      (case qk_ed_Held_answer => k_is)
    case ed_first_unlike =>
      refine' K46.TopD.mk ?qa_ed_first_unlike ?ql_ed_first_unlike ?qc_ed_first_unlike ?qk_ed_first_unlike
      (case qa_ed_first_unlike => k_is)
      (case ql_ed_first_unlike => k_is)
      (case qc_ed_first_unlike => k_is)
      (case qk_ed_first_unlike => k_is)
    case ed_Held_learned_with =>
      refine' K46.ClsD.mk ?qa_ed_Held_learned_with ?qi_ed_Held_learned_with ?ql_ed_Held_learned_with ?qc_ed_Held_learned_with ?qk_ed_Held_learned_with
      (case qa_ed_Held_learned_with => k_is)
      (case qi_ed_Held_learned_with => k_is)
      (case ql_ed_Held_learned_with => k_is)
      (case qc_ed_Held_learned_with => k_is)
      (case qk_ed_Held_learned_with => k_is)
    case ed_Held_learned =>
      refine' K46.ClsD.mk ?qa_ed_Held_learned ?qi_ed_Held_learned ?ql_ed_Held_learned ?qc_ed_Held_learned ?qk_ed_Held_learned
      (case qa_ed_Held_learned => k_is)
      (case qi_ed_Held_learned => k_is)
      (case ql_ed_Held_learned => k_is)
      (case qc_ed_Held_learned => k_is)
      (case qk_ed_Held_learned => k_is)
    case ed_flaw_of =>
      refine' K46.TopD.mk ?qa_ed_flaw_of ?ql_ed_flaw_of ?qc_ed_flaw_of ?qk_ed_flaw_of
      (case qa_ed_flaw_of => k_is)
      (case ql_ed_flaw_of => k_is)
      (case qc_ed_flaw_of => k_is)
      (case qk_ed_flaw_of => k_is)
    case ed__law_held =>
      refine' K46.TopD.mk ?qa_ed__law_held ?ql_ed__law_held ?qc_ed__law_held ?qk_ed__law_held
      (case qa_ed__law_held => k_is)
      (case ql_ed__law_held => k_is)
      (case qc_ed__law_held => k_is)
      (case qk_ed__law_held => k_is)
    case ed__law_answer =>
      refine' K46.TopD.mk ?qa_ed__law_answer ?ql_ed__law_answer ?qc_ed__law_answer ?qk_ed__law_answer
      (case qa_ed__law_answer => k_is)
      (case ql_ed__law_answer => k_is)
      (case qc_ed__law_answer => k_is)
      (case qk_ed__law_answer => k_is)
    case ed__law_counts =>
      refine' K46.TopD.mk ?qa_ed__law_counts ?ql_ed__law_counts ?qc_ed__law_counts ?qk_ed__law_counts
      (case qa_ed__law_counts => k_is)
      (case ql_ed__law_counts => k_is)
      (case qc_ed__law_counts => k_is)
      (case qk_ed__law_counts => k_is)
    case ed__law_has_flaw =>
      refine' K46.TopD.mk ?qa_ed__law_has_flaw ?ql_ed__law_has_flaw ?qc_ed__law_has_flaw ?qk_ed__law_has_flaw
      (case qa_ed__law_has_flaw => k_is)
      (case ql_ed__law_has_flaw => k_is)
      (case qc_ed__law_has_flaw => k_is)
      (case qk_ed__law_has_flaw => k_is)
    case ed__law_whole =>
      refine' K46.TopD.mk ?qa_ed__law_whole ?ql_ed__law_whole ?qc_ed__law_whole ?qk_ed__law_whole
      (case qa_ed__law_whole => k_is)
      (case ql_ed__law_whole => k_is)
      (case qc_ed__law_whole => k_is)
      (case qk_ed__law_whole => k_is)
    case ed__law_is_flaw =>
      refine' K46.TopD.mk ?qa_ed__law_is_flaw ?ql_ed__law_is_flaw ?qc_ed__law_is_flaw ?qk_ed__law_is_flaw
      (case qa_ed__law_is_flaw => k_is)
      (case ql_ed__law_is_flaw => k_is)
      (case qc_ed__law_is_flaw => k_is)
      (case qk_ed__law_is_flaw => k_is)
    case nShape_inputs => k_is
    case nShape_coins => k_is
    case nTeam_people => k_is
    case nTeam_inputs => k_is
    case nTeam_coins => k_is
    case nHeld_table => k_is
    case nHeld_inputs => k_is
    case nHeld_coins => k_is
    case nHeld_bits => k_is
    case nHeld_wrong => k_is
    case z_len => k_is
    case z_isinstance => k_is
    case z_all => k_is
    case z_abs => k_is
    case z_sorted => k_is
    case z_enumerate => k_is
    case z_range => k_is
    case z_int => k_is
    case z_bool => k_is
    case z_tuple => k_is
    case z_list => k_is
    case z_MOST_LINES =>
      refine' K46.IntD.mk ?qa_z_MOST_LINES
      (case qa_z_MOST_LINES => k_is)
    case z_MOST_COINS =>
      refine' K46.IntD.mk ?qa_z_MOST_COINS
      (case qa_z_MOST_COINS => k_is)
    case z_MOST_DEPTH =>
      refine' K46.IntD.mk ?qa_z_MOST_DEPTH
      (case qa_z_MOST_DEPTH => k_is)
    case z_MOST_TREES =>
      refine' K46.IntD.mk ?qa_z_MOST_TREES
      (case qa_z_MOST_TREES => k_is)
    case z_MOST_PEOPLE_TREES =>
      refine' K46.IntD.mk ?qa_z_MOST_PEOPLE_TREES
      (case qa_z_MOST_PEOPLE_TREES => k_is)
    case z_NO =>
      refine' K46.RefD.mk ?qa_z_NO
      (case qa_z_NO => k_is)
