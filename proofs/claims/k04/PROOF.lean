import PyProof.Rows.All
import Wide.All
import OpenK.AllK
import Wide.FinOn
import HandS.ForMost
import HandS.Exc
import HandS.WordsExc
import HandS.TupAny
import HandS.ExcOwn
import HandS.Codes
import HandS.IsInst
import KE.GoesMore
import KE.GoesEnum
import HandS.Text
import HandS.StrMore
import HandS.List
import KE.DataMinMax
import HandS.ExcInit
import HandS.ExcField
import HandS.ExcIs
import HandS.HeadHook2
import KE.KExcIs
import PyProof.StrLawsIn
import KE.KStateDown
import HandS.Ends
import HandS.Head0
import HandS.Head1
import HandS.Head2
import HandS.HeadEnd
import HandS.HeadHook1
import PySem.Challenge.RW_breakwords_k04_what_writes_no_pattern
set_option Elab.async false
set_option linter.all false
set_option maxRecDepth 100000
set_option maxHeartbeats 0
namespace Fw
open PySem L2

/-! ## 0. arguments without stars -/
def isStar : Expr → Bool
  | .Starred _ _ => true
  | _ => false
theorem star_c {e : Expr} {es : List Expr} {env : Env} (h : isStar e = false) : starEach (e :: es) env = (false, eval e env) :: starEach es env := by
  cases e <;> first | (simp only [starEach]; done) | cases h
theorem star_2 {a b : Expr} {env : Env} (h : isStar a = false) (k : isStar b = false) : starEach [a, b] env = [(false, eval a env), (false, eval b env)] := by
  rw [star_c h, star_c k]; simp only [starEach]
/-! ## 1. weakest promises of the syntax, as readings -/
@[irreducible] def wE (X : Cx) (e : Expr) : TE := fun σ H Q => ∀ (pins : List (Addr × Obj)) (s : Shared), Inv X pins σ H s → wpAny (model X.prog X.w) X.A (eval e X.env) (EP X pins σ Q) X.xe s
@[irreducible] def wT (X : Cx) (e : Expr) : TT := fun σ H Q => ∀ (pins : List (Addr × Obj)) (s : Shared), Inv X pins σ H s → wpAny (model X.prog X.w) X.A (isTrue e X.env (eval e X.env)) (TP X pins σ Q) X.xe s
@[irreducible] def wW (X : Cx) (e : Expr) : TT := fun σ H Q => ∀ (whole : Sem Value) (pins : List (Addr × Obj)) (s : Shared), Inv X pins σ H s → wpAny (model X.prog X.w) X.A (isTrue e X.env whole) (TP X pins σ Q) X.xe s
@[irreducible] def wA (X : Cx) (es : List Expr) : TA := fun σ H Q => ∀ (pos : Pos) (pins : List (Addr × Obj)) (s : Shared), Inv X pins σ H s → wpAny (model X.prog X.w) X.A (spliced (backTo pos (starEach es X.env))) (AP X pins σ Q) X.xe s
@[irreducible] def wS (X : Cx) (st : Stmt) : TS := fun D σ H => ∀ (pins : List (Addr × Obj)) (s : Shared), Inv X pins σ H s → wpAny (model X.prog X.w) X.A (exec st X.env) (SP X pins D) X.xe s
@[irreducible] def wSs (X : Cx) (st : List Stmt) : TS := fun D σ H => ∀ (pins : List (Addr × Obj)) (s : Shared), Inv X pins σ H s → wpAny (model X.prog X.w) X.A (execs st X.env) (SP X pins D) X.xe s
section
variable {X : Cx} {e : Expr} {es : List Expr} {st : Stmt} {sts : List Stmt} {σ : St} {H : Hp}
theorem pe_w : PE X e (wE X e) := ⟨fun pins s _ _ _ I h => by unfold wE at h; exact h pins s I⟩
theorem pt_w : PT X e (wT X e) := ⟨fun pins s _ _ _ I h => by unfold wT at h; exact h pins s I⟩
theorem pw_w : PW X e (wW X e) := ⟨fun whole pins s _ _ _ I h => by unfold wW at h; exact h whole pins s I⟩
theorem pa_w : PA X es (wA X es) := ⟨fun pos pins s _ _ _ I h => by unfold wA at h; exact h pos pins s I⟩
theorem ps_w : PS X st (wS X st) := ⟨fun pins s _ _ _ I h => by unfold wS at h; exact h pins s I⟩
theorem pss_w : PSs X sts (wSs X sts) := ⟨fun pins s _ _ _ I h => by unfold wSs at h; exact h pins s I⟩
theorem PE_to {t : TE} (p : PE X e t) {Q : VK} (h : t σ H Q) : wE X e σ H Q := by unfold wE; exact fun pins s I => p.run pins s σ H Q I h
theorem PT_to {t : TT} (p : PT X e t) {Q} (h : t σ H Q) : wT X e σ H Q := by unfold wT; exact fun pins s I => p.run pins s σ H Q I h
theorem PW_to {t : TT} (p : PW X e t) {Q} (h : t σ H Q) : wW X e σ H Q := by unfold wW; exact fun w pins s I => p.run w pins s σ H Q I h
theorem PA_to {t : TA} (p : PA X es t) {Q} (h : t σ H Q) : wA X es σ H Q := by unfold wA; exact fun pos pins s I => p.run pos pins s σ H Q I h
theorem PS_to {t : TS} (p : PS X st t) {D} (h : t D σ H) : wS X st D σ H := by unfold wS; exact fun pins s I => p.run pins s σ H D I h
theorem PSs_to {t : TS} (p : PSs X sts t) {D} (h : t D σ H) : wSs X sts D σ H := by unfold wSs; exact fun pins s I => p.run pins s σ H D I h
theorem wE_mono {Q Q' : VK} (h : wE X e σ H Q) (k : ∀ v H', Q v H' → Q' v H') : wE X e σ H Q' := by unfold wE at h ⊢; exact fun pins s I => thn (h pins s I) fun u s' ⟨v, H', I', r, q⟩ => ⟨v, H', I', r, k v H' q⟩
theorem wT_mono {Q Q' : Bool → Hp → Prop} (h : wT X e σ H Q) (k : ∀ v H', Q v H' → Q' v H') : wT X e σ H Q' := by unfold wT at h ⊢; exact fun pins s I => thn (h pins s I) fun u s' ⟨H', I', q⟩ => ⟨H', I', k u H' q⟩
end

/-! ## 2. what stands in the heap: an immutable part I, owned regions L -/
theorem Same.upd {H : Hp} {p : Addr} {o : HO} (h : H p = none) : Same H (upd H p o) := fun b u e => by
  rw [upd_ne (ne_of_none e h)]
  exact e
theorem Same.upd2 {I H : Hp} {p : Addr} {o : HO} (h : Same I H) : Same (L2.upd I p o) (L2.upd H p o) := fun b u e => by
  by_cases hb : b = p
  · subst hb
    rw [upd_same] at e ⊢
    exact e
  · rw [upd_ne hb] at e ⊢
    exact h b u e
theorem Same.rd {I H : Hp} {p : Addr} {o : HO} (h : Same I H) (r : Rd I p o) : Rd H p o := by
  rcases r with r | ⟨u, r⟩
  · exact .inl (h _ _ r)
  · exact .inr ⟨u, h _ _ r⟩
theorem Same.sql {K : PySem.W.Frag} {I H : Hp} {p : Addr} {xs : List V} (h : Same I H) (r : SqL K I p xs) : SqL K H p xs := by
  rcases r with r | r
  · exact .inl (Same.rd h r)
  · exact .inr r
theorem Same.sqt {K : PySem.W.Frag} {I H : Hp} {p : Addr} {xs : List V} (h : Same I H) (r : SqT K I p xs) : SqT K H p xs := by
  rcases r with r | r
  · exact .inl (Same.rd h r)
  · exact .inr r

/-- a type of data: which value shows a datum, in an immutable heap -/
structure Ty (α : Type) where
  rep : Hp → V → α → Prop
  mono : ∀ {I I' : Hp} {v : V} {d : α}, Same I I' → rep I v d → rep I' v d

/-- a region: what an owned part of the heap is -/
structure Rg where
  h : Hp → Hp → Prop
  mono : ∀ {I I' R : Hp}, Same I I' → h I R → h I' R
/-- the content of one owned object -/
structure CP where
  h : Hp → HO → Prop
  mono : ∀ {I I' : Hp} {o : HO}, Same I I' → h I o → h I' o
def single (p : Addr) (o : HO) : Hp := fun b => if b = p then some o else none
theorem single_same {p : Addr} {o : HO} : single p o p = some o := if_pos rfl
theorem single_ne {p b : Addr} {o : HO} (h : b ≠ p) : single p o b = none := if_neg h
theorem single_sub {p : Addr} {o : HO} {H : Hp} (h : H p = some o) : Same (single p o) H := fun b u q => by
  by_cases hb : b = p
  · subst hb; rw [single_same] at q; rw [h]; exact q
  · rw [single_ne hb] at q; cases q
def cell (p : Addr) (c : CP) : Rg := ⟨fun I R => ∃ o, R = single p o ∧ c.h I o, fun e ⟨o, a, b⟩ => ⟨o, a, c.mono e b⟩⟩

def Disj (R R' : Hp) : Prop := ∀ a, R a = none ∨ R' a = none
theorem Disj.symm {R R' : Hp} (h : Disj R R') : Disj R' R := fun a => (h a).symm

/-- the heap H holds the immutable part I and, apart from it and each other, regions L -/
def Sep (I : Hp) (L : List Rg) (H : Hp) : Prop :=
  ∃ Z : List (Rg × Hp), Z.map (·.1) = L ∧ Same I H ∧ (∀ z ∈ Z, z.1.h I z.2 ∧ Same z.2 H ∧ Disj I z.2) ∧ Z.Pairwise fun y z => Disj y.2 z.2

section
variable {I I' H H' : Hp} {L L' : List Rg} {p : Addr} {o : HO} {c : Rg}
theorem Sep.same (h : Sep I L H) : Same I H := let ⟨_, _, s, _⟩ := h; s
theorem Sep.nil (h : Same I H) : Sep I [] H := ⟨[], rfl, h, fun _ z => by simp at z, .nil⟩
/-- a new object, immutable from now on -/
theorem Sep.imm (h : Sep I L H) (hp : H p = none) : Sep (upd I p o) L (upd H p o) := by
  obtain ⟨Z, e, s, a, d⟩ := h
  refine ⟨Z, e, Same.upd2 s, fun z hz => ?_, d⟩
  obtain ⟨a1, a2, a3⟩ := a z hz
  have zp : z.2 p = none := a2.free hp
  refine ⟨z.1.mono (Same.upd (s.free hp)) a1, a2.trans (Same.upd hp), fun b => ?_⟩
  by_cases hb : b = p
  · subst hb; exact .inr zp
  · rw [upd_ne hb]; exact a3 b
/-- a new object, owned -/
theorem Sep.new (h : Sep I L H) (hp : H p = none) {φ : CP} (ho : φ.h I o) : Sep I (cell p φ :: L) (upd H p o) := by
  obtain ⟨Z, e, s, a, d⟩ := h
  refine ⟨(cell p φ, single p o) :: Z, by rw [List.map_cons, e], s.trans (Same.upd hp), fun z hz => ?_, List.Pairwise.cons (fun z hz b => ?_) d⟩
  · rcases List.mem_cons.mp hz with rfl | hz
    · refine ⟨⟨o, rfl, ho⟩, single_sub upd_same, fun b => ?_⟩
      · by_cases hb : b = p
        · subst hb; exact .inl (s.free hp)
        · exact .inr (single_ne hb)
    · obtain ⟨a1, a2, a3⟩ := a z hz
      exact ⟨a1, a2.trans (Same.upd hp), a3⟩
  · obtain ⟨_, a2, _⟩ := a z hz
    by_cases hb : b = p
    · subst hb; exact .inr (a2.free hp)
    · exact .inl (single_ne hb)
theorem mem_map_perm {α β : Type _} {f : α → β} : ∀ {Z : List α} {L L' : List β}, Z.map f = L → L.Perm L' → ∃ Z', Z'.map f = L' ∧ Z.Perm Z' := by
  intro Z L L' e h
  induction h generalizing Z with
  | nil => exact ⟨Z, e, .refl _⟩
  | cons x _ ih =>
    cases Z with
    | nil => cases e
    | cons z Z =>
      rw [List.map_cons] at e
      injection e with e1 e2
      obtain ⟨Z', h1, h2⟩ := ih e2
      exact ⟨z :: Z', by rw [List.map_cons, e1, h1], h2.cons _⟩
  | swap x y l =>
    match Z, e with
    | a :: b :: Z, e =>
      rw [List.map_cons, List.map_cons] at e
      injection e with e1 e2
      injection e2 with e2 e3
      exact ⟨b :: a :: Z, by rw [List.map_cons, List.map_cons, e1, e2, e3], .swap _ _ _⟩
  | trans _ _ ih1 ih2 =>
    obtain ⟨Z1, h1, h2⟩ := ih1 e
    obtain ⟨Z2, h3, h4⟩ := ih2 h1
    exact ⟨Z2, h3, h2.trans h4⟩
theorem Sep.perm (h : Sep I L H) (q : L.Perm L') : Sep I L' H := by
  obtain ⟨Z, e, s, a, d⟩ := h
  obtain ⟨Z', e', z⟩ := mem_map_perm e q
  exact ⟨Z', e', s, fun y hy => a y (z.mem_iff.mpr hy), d.perm z fun q => q.symm⟩
theorem Sep.tail (h : Sep I (c :: L) H) : Sep I L H := by
  obtain ⟨Z, e, s, a, d⟩ := h
  cases Z with
  | nil => cases e
  | cons z Z =>
    rw [List.map_cons] at e
    injection e with e1 e2
    cases d with
    | cons d1 d2 => exact ⟨Z, e2, s, fun y hy => a y (List.mem_cons_of_mem _ hy), d2⟩
/-- what stands in the first cell -/
theorem Sep.get {φ : CP} (h : Sep I (cell p φ :: L) H) : ∃ o, H p = some o ∧ φ.h I o ∧ I p = none := by
  obtain ⟨Z, e, s, a, d⟩ := h
  cases Z with
  | nil => cases e
  | cons z Z =>
    rw [List.map_cons] at e
    injection e with e1 e2
    obtain ⟨a1, a2, a3⟩ := a z (List.mem_cons_self ..)
    rw [e1] at a1
    obtain ⟨o, r, q⟩ := a1
    refine ⟨o, a2 p o (by rw [r]; exact single_same), q, ?_⟩
    rcases a3 p with z | z
    · exact z
    · rw [r, single_same] at z; cases z
/-- the first cell is written -/
theorem Sep.put {φ ψ : CP} (h : Sep I (cell p φ :: L) H) (ho : ψ.h I o) : Sep I (cell p ψ :: L) (upd H p o) := by
  obtain ⟨Z, e, s, a, d⟩ := h
  cases Z with
  | nil => cases e
  | cons z Z =>
    rw [List.map_cons] at e
    injection e with e1 e2
    obtain ⟨a1, a2, a3⟩ := a z (List.mem_cons_self ..)
    rw [e1] at a1
    obtain ⟨o1, r, q⟩ := a1
    have ip : I p = none := by
      rcases a3 p with z | z
      · exact z
      · rw [r, single_same] at z; cases z
    have other : ∀ {R : Hp}, R p = none → Same R H → Same R (upd H p o) := fun hr hs b u q => by
      rw [upd_ne (ne_of_none q hr)]
      exact hs b u q
    cases d with
    | cons d1 d2 =>
      have zp : ∀ y ∈ Z, y.2 p = none := fun y hy => by
        rcases d1 y hy p with q | q
        · rw [r, single_same] at q; cases q
        · exact q
      refine ⟨(cell p ψ, single p o) :: Z, by rw [List.map_cons, e2], other ip s, fun y hy => ?_, List.Pairwise.cons (fun y hy b => ?_) d2⟩
      · rcases List.mem_cons.mp hy with rfl | hy
        · refine ⟨⟨o, rfl, ho⟩, single_sub upd_same, fun b => ?_⟩
          · by_cases hb : b = p
            · subst hb; exact .inl ip
            · exact .inr (single_ne hb)
        · obtain ⟨b1, b2, b3⟩ := a y (List.mem_cons_of_mem _ hy)
          exact ⟨b1, other (zp y hy) b2, b3⟩
      · by_cases hb : b = p
        · subst hb; exact .inr (zp y hy)
        · exact .inl (single_ne hb)
/-- the first cell becomes immutable -/
theorem Sep.freeze {φ : CP} (h : Sep I (cell p φ :: L) H) : ∃ o, H p = some o ∧ φ.h I o ∧ I p = none ∧ Sep (upd I p o) L H := by
  obtain ⟨o, ho, hφ, hi⟩ := h.get
  refine ⟨o, ho, hφ, hi, ?_⟩
  obtain ⟨Z, e, s, a, d⟩ := h
  cases Z with
  | nil => cases e
  | cons z Z =>
    rw [List.map_cons] at e
    injection e with e1 e2
    cases d with
    | cons d1 d2 =>
      obtain ⟨a1, a2, a3⟩ := a z (List.mem_cons_self ..)
      rw [e1] at a1
      obtain ⟨o1, r, q⟩ := a1
      refine ⟨Z, e2, fun b u q => ?_, fun y hy => ?_, d2⟩
      · by_cases hb : b = p
        · subst hb; rw [upd_same] at q; rw [ho]; exact q
        · rw [upd_ne hb] at q; exact s b u q
      · obtain ⟨b1, b2, b3⟩ := a y (List.mem_cons_of_mem _ hy)
        refine ⟨y.1.mono (Same.upd hi) b1, b2, fun b => ?_⟩
        by_cases hb : b = p
        · subst hb
          rcases d1 y hy b with q | q
          · rw [r, single_same] at q; cases q
          · exact .inr q
        · rw [upd_ne hb]; exact b3 b
end
end Fw

namespace Fw
open PySem L2
/-! ## 3. frames -/
inductive Slot : Type 1 where
  | unk
  | dat {α : Type} (A : Ty α) (d : α)
def slotOk (I : Hp) (o : Option V) : Slot → Prop
  | .unk => True
  | .dat A d => ∃ v, o = some v ∧ A.rep I v d
def SlotsOk (I : Hp) (σ : St) (Γ : List Slot) : Prop := ∀ (i : Nat) (s : Slot), Γ[i]? = some s → slotOk I (σ[i]?.getD none) s
structure FrOk (I : Hp) (σ : St) (Γ : List Slot) (L : List Rg) (H : Hp) : Prop where
  sep : Sep I L H
  len : σ.length = Γ.length
  sl : SlotsOk I σ Γ
/-- the slots that Δ knows stand in Γ -/
def Wk (Γ Δ : List Slot) : Prop := ∀ (i : Nat) (s : Slot), Δ[i]? = some s → s = .unk ∨ Γ[i]? = some s
theorem Wk.nil {Γ : List Slot} : Wk Γ [] := fun i s h => by simp at h
theorem Wk.u {Γ Δ : List Slot} {s : Slot} (h : Wk Γ Δ) : Wk (s :: Γ) (.unk :: Δ) := fun i t e => by
  cases i with
  | zero => left; simpa using e.symm
  | succ i => exact h i t (by simpa using e)
theorem Wk.s {Γ Δ : List Slot} {s : Slot} (h : Wk Γ Δ) : Wk (s :: Γ) (s :: Δ) := fun i t e => by
  cases i with
  | zero => right; exact e
  | succ i => exact h i t (by simpa using e)
theorem Wk.rfl {Γ : List Slot} : Wk Γ Γ := fun i s h => .inr h
theorem Wk.trans {Γ Δ Θ : List Slot} (h : Wk Γ Δ) (k : Wk Δ Θ) : Wk Γ Θ := fun i s e => by
  rcases k i s e with q | q
  · exact .inl q
  · exact h i s q
section
variable {I I' H H' : Hp} {σ : St} {Γ Δ : List Slot} {L L' : List Rg}
theorem slotOk.mono {o : Option V} {s : Slot} (e : Same I I') (h : slotOk I o s) : slotOk I' o s := by
  cases s with
  | unk => trivial
  | dat A d => exact let ⟨v, a, b⟩ := h; ⟨v, a, A.mono e b⟩
theorem SlotsOk.mono (e : Same I I') (h : SlotsOk I σ Γ) : SlotsOk I' σ Γ := fun i s q => (h i s q).mono e
theorem SlotsOk.wk (h : SlotsOk I σ Γ) (w : Wk Γ Δ) : SlotsOk I σ Δ := fun i s q => by
  rcases w i s q with rfl | e
  · trivial
  · exact h i s e
theorem FrOk.step (h : FrOk I σ Γ L H) (e : Same I I') (s : Sep I' L' H') : FrOk I' σ Γ L' H' := ⟨s, h.len, h.sl.mono e⟩
theorem FrOk.wk (h : FrOk I σ Γ L H) (w : Wk Γ Δ) (l : Δ.length = Γ.length) : FrOk I σ Δ L H := ⟨h.sep, by rw [l]; exact h.len, h.sl.wk w⟩
theorem FrOk.perm (h : FrOk I σ Γ L H) (p : L.Perm L') : FrOk I σ Γ L' H := ⟨h.sep.perm p, h.len, h.sl⟩
theorem FrOk.get {α : Type} {A : Ty α} {d : α} {i : Nat} (h : FrOk I σ Γ L H) (e : Γ[i]? = some (.dat A d)) : ∃ v, σ[i]? = some (some v) ∧ A.rep I v d := by
  obtain ⟨v, a, b⟩ := h.sl i _ e
  refine ⟨v, ?_, b⟩
  cases q : σ[i]? with
  | none => rw [q] at a; cases a
  | some o => rw [q] at a; exact congrArg some a
theorem FrOk.set {α : Type} {A : Ty α} {d : α} {v : V} (h : FrOk I σ Γ L H) (r : A.rep I v d) (i : Nat) : FrOk I (σ.set i (some v)) (Γ.set i (.dat A d)) L H := by
  refine ⟨h.sep, by rw [List.length_set, List.length_set]; exact h.len, fun j s e => ?_⟩
  by_cases hj : i = j
  · subst hj
    have hi : i < Γ.length := by
      have := (List.getElem?_eq_some_iff.mp e).1
      rwa [List.length_set] at this
    rw [List.getElem?_set_self hi] at e
    cases e
    refine ⟨v, ?_, r⟩
    rw [List.getElem?_set_self (by rw [h.len]; exact hi)]
    rfl
  · rw [List.getElem?_set_ne hj] at e ⊢
    exact h.sl j s e
theorem FrOk.setU {o : Option V} (h : FrOk I σ Γ L H) (i : Nat) : FrOk I (σ.set i o) (Γ.set i .unk) L H := by
  refine ⟨h.sep, by rw [List.length_set, List.length_set]; exact h.len, fun j s e => ?_⟩
  by_cases hj : i = j
  · subst hj
    have hi : i < Γ.length := by
      have := (List.getElem?_eq_some_iff.mp e).1
      rwa [List.length_set] at this
    rw [List.getElem?_set_self hi] at e
    cases e
    trivial
  · rw [List.getElem?_set_ne hj] at e ⊢
    exact h.sl j s e
end

/-! ## 4. what is computed -/
inductive Res (ε ν : Type) where
  | stuck
  | val (n : ν)
  | exn (x : ε)
namespace Res
def bnd {ε α γ ν : Type} (m : Res ε (α × γ)) (k : α → γ → Res ε ν) : Res ε ν := match m with
  | stuck => stuck
  | val p => k p.1 p.2
  | exn x => exn x
def grd {ε ν : Type} (P : Prop) [Decidable P] (n : ν) : Res ε ν := if P then val n else stuck
/-- no exception may come -/
def nox {ε ε' ν : Type} : Res ε ν → Res ε' ν
  | stuck => stuck
  | val n => val n
  | exn _ => stuck
@[simp] theorem bnd_val {ε α γ ν : Type} (d : α) (s : γ) (k : α → γ → Res ε ν) : bnd (val (d, s)) k = k d s := rfl
@[simp] theorem bnd_valp {ε α γ ν : Type} (p : α × γ) (k : α → γ → Res ε ν) : bnd (val p) k = k p.1 p.2 := rfl
@[simp] theorem bnd_exn {ε α γ ν : Type} (x : ε) (k : α → γ → Res ε ν) : bnd (exn x) k = exn x := rfl
@[simp] theorem bnd_stuck {ε α γ ν : Type} (k : α → γ → Res ε ν) : bnd stuck k = stuck := rfl
@[simp] theorem grd_true {ε ν : Type} {P : Prop} [Decidable P] (h : P) (n : ν) : (grd P n : Res ε ν) = val n := if_pos h
@[simp] theorem grd_T {ε ν : Type} (n : ν) : (grd True n : Res ε ν) = val n := rfl
@[simp] theorem nox_val {ε ε' ν : Type} (n : ν) : (nox (val n : Res ε ν) : Res ε' ν) = val n := rfl
end Res
inductive Out (ε ρ ν : Type) where
  | stuck
  | nx (n : ν)
  | ret (r : ρ)
  | exn (x : ε)
namespace Out
def seq {ε ρ ν ν' : Type} (m : Out ε ρ ν) (k : ν → Out ε ρ ν') : Out ε ρ ν' := match m with
  | stuck => stuck
  | nx n => k n
  | ret r => ret r
  | exn x => exn x
def bnd {ε ρ α γ ν : Type} (m : Res ε (α × γ)) (k : α → γ → Out ε ρ ν) : Out ε ρ ν := match m with
  | .stuck => stuck
  | .val p => k p.1 p.2
  | .exn x => exn x
/-- what a def hands back -/
def fn {ε ρ ν : Type} (m : Out ε ρ ν) : Res ε ρ := match m with
  | stuck => .stuck
  | nx _ => .stuck
  | ret r => .val r
  | exn x => .exn x
def forL {ε ρ ν α : Type} : List α → ν → (ν → α → Out ε ρ ν) → Out ε ρ ν
  | [], n, _ => nx n
  | x :: xs, n, B => (B n x).seq fun n' => forL xs n' B
@[simp] theorem seq_nx {ε ρ ν ν' : Type} (n : ν) (k : ν → Out ε ρ ν') : seq (nx n) k = k n := rfl
@[simp] theorem seq_ret {ε ρ ν ν' : Type} (r : ρ) (k : ν → Out ε ρ ν') : seq (ret r) k = ret r := rfl
@[simp] theorem seq_exn {ε ρ ν ν' : Type} (x : ε) (k : ν → Out ε ρ ν') : seq (exn x) k = exn x := rfl
@[simp] theorem seq_stuck {ε ρ ν ν' : Type} (k : ν → Out ε ρ ν') : seq stuck k = stuck := rfl
@[simp] theorem bnd_val {ε ρ α γ ν : Type} (d : α) (s : γ) (k : α → γ → Out ε ρ ν) : bnd (.val (d, s)) k = k d s := rfl
@[simp] theorem bnd_valp {ε ρ α γ ν : Type} (p : α × γ) (k : α → γ → Out ε ρ ν) : bnd (.val p) k = k p.1 p.2 := rfl
@[simp] theorem bnd_exn {ε ρ α γ ν : Type} (x : ε) (k : α → γ → Out ε ρ ν) : bnd (.exn x) k = exn x := rfl
@[simp] theorem bnd_stuck {ε ρ α γ ν : Type} (k : α → γ → Out ε ρ ν) : bnd .stuck k = stuck := rfl
@[simp] theorem fn_ret {ε ρ ν : Type} (r : ρ) : fn (ret r : Out ε ρ ν) = .val r := rfl
@[simp] theorem fn_exn {ε ρ ν : Type} (x : ε) : fn (exn x : Out ε ρ ν) = .exn x := rfl
@[simp] theorem forL_nil {ε ρ ν α : Type} (n : ν) (B : ν → α → Out ε ρ ν) : forL [] n B = nx n := rfl
@[simp] theorem forL_cons {ε ρ ν α : Type} (x : α) (xs : List α) (n : ν) (B : ν → α → Out ε ρ ν) : forL (x :: xs) n B = (B n x).seq fun n' => forL xs n' B := rfl
end Out

/-- how an exception's datum lies -/
structure XT (ε : Type) where
  rep : Hp → ε → Value → Option Addr → Prop
  mono : ∀ {I I' : Hp} {x : ε} {c : Value} {d : Option Addr}, Same I I' → rep I x c d → rep I' x c d
  regs : ε → List Rg
def xt0 : XT Empty := ⟨fun _ _ _ _ => False, fun _ h => h, fun x => nomatch x⟩
/-- what is wanted of an exception -/
def wX (X : Cx) (c : Value) (da : Option Addr) (σ : St) (H : Hp) : Prop := ∃ W : WX, Takes X W ∧ W c da σ H
theorem takesW {X : Cx} : Takes X (wX X) := fun u s' x => by
  obtain ⟨a1, a2, a3, a4, a5, a6, a7, a8, a9, a10, a11, a12, a13, a14, a15, a16, W, tk, z⟩ := x
  exact tk u s' ⟨a1, a2, a3, a4, a5, a6, a7, a8, a9, a10, a11, a12, a13, a14, a15, a16, z⟩

section
variable (X : Cx) {α β γ ε ρ ν τ : Type}
def Then (I : Hp) (F : List Rg) (σ : St) (Γ : List Slot) (L : γ → List Rg) (A : Ty α) (xt : XT ε) (Q : VK) : Res ε (α × γ) → Prop
  | .stuck => False
  | .val p => ∀ I' v H', Same I I' → FrOk I' σ Γ (L p.2 ++ F) H' → A.rep I' v p.1 → Q v H'
  | .exn x => ∀ I' H' c da, Same I I' → FrOk I' σ Γ (xt.regs x ++ F) H' → xt.rep I' x c da → wX X c da σ H'
def ThenT (I : Hp) (F : List Rg) (σ : St) (Γ : List Slot) (L : γ → List Rg) (xt : XT ε) (Q : Bool → Hp → Prop) : Res ε (Bool × γ) → Prop
  | .stuck => False
  | .val p => ∀ I' H', Same I I' → FrOk I' σ Γ (L p.2 ++ F) H' → Q p.1 H'
  | .exn x => ∀ I' H' c da, Same I I' → FrOk I' σ Γ (xt.regs x ++ F) H' → xt.rep I' x c da → wX X c da σ H'
/-- an expression computes m -/
def EF (e : Expr) (Γ : List Slot) (L : γ → List Rg) (s : γ) (A : Ty α) (xt : XT ε) (m : Res ε (α × γ)) : Prop :=
  ∀ (I : Hp) (σ : St) (F : List Rg) (H : Hp) (Q : VK), FrOk I σ Γ (L s ++ F) H → Then X I F σ Γ L A xt Q m → wE X e σ H Q
/-- a test -/
def TF (e : Expr) (Γ : List Slot) (L : γ → List Rg) (s : γ) (xt : XT ε) (m : Res ε (Bool × γ)) : Prop :=
  ∀ (I : Hp) (σ : St) (F : List Rg) (H : Hp) (Q : Bool → Hp → Prop), FrOk I σ Γ (L s ++ F) H → ThenT X I F σ Γ L xt Q m → wT X e σ H Q
def WF (e : Expr) (Γ : List Slot) (L : γ → List Rg) (s : γ) (xt : XT ε) (m : Res ε (Bool × γ)) : Prop :=
  ∀ (I : Hp) (σ : St) (F : List Rg) (H : Hp) (Q : Bool → Hp → Prop), FrOk I σ Γ (L s ++ F) H → ThenT X I F σ Γ L xt Q m → wW X e σ H Q
/-- pure, total, no exception -/
def EP (e : Expr) (Γ : List Slot) (L : List Rg) (A : Ty α) (d : α) : Prop := EF X e Γ (fun _ : Unit => L) () A xt0 (.val (d, ()))
def TP' (e : Expr) (Γ : List Slot) (L : List Rg) (b : Bool) : Prop := TF X e Γ (fun _ : Unit => L) () xt0 (.val (b, ()))
/-- arguments -/
structure Tys (τ : Type) where
  rep : Hp → List V → τ → Prop
  mono : ∀ {I I' : Hp} {v : List V} {d : τ}, Same I I' → rep I v d → rep I' v d
  slots : τ → List Slot
  len : ∀ {I : Hp} {v : List V} {d : τ}, rep I v d → v.length = (slots d).length
  ok : ∀ {I : Hp} {v : List V} {d : τ}, rep I v d → ∀ (i : Nat) (s : Slot), (slots d)[i]? = some s → slotOk I v[i]? s
def Tys.nil : Tys Unit := ⟨fun _ v _ => v = [], fun _ h => h, fun _ => [], fun h => by rw [h]; rfl, fun _ i s e => by simp at e⟩
def Tys.cons (A : Ty α) (T : Tys τ) : Tys (α × τ) := ⟨fun I v p => ∃ x xs, v = x :: xs ∧ A.rep I x p.1 ∧ T.rep I xs p.2, fun e ⟨x, xs, a, b, c⟩ => ⟨x, xs, a, A.mono e b, T.mono e c⟩,
  fun p => .dat A p.1 :: T.slots p.2, fun ⟨x, xs, a, b, c⟩ => by rw [a, List.length_cons, List.length_cons, T.len c], fun {I v d} ⟨x, xs, a, b, c⟩ i s e => by
    subst a
    cases i with
    | zero =>
      have e' : Slot.dat A d.1 = s := by simpa using e
      subst e'
      exact ⟨x, rfl, b⟩
    | succ i => exact T.ok c i s (by simpa using e)⟩
def AF (es : List Expr) (Γ : List Slot) (L : γ → List Rg) (s : γ) (T : Tys τ) (xt : XT ε) (m : Res ε (τ × γ)) : Prop :=
  ∀ (I : Hp) (σ : St) (F : List Rg) (H : Hp) (Q : List V → Hp → Prop), FrOk I σ Γ (L s ++ F) H → (match m with
    | .stuck => False
    | .val p => ∀ I' vs H', Same I I' → FrOk I' σ Γ (L p.2 ++ F) H' → T.rep I' vs p.1 → Q vs H'
    | .exn x => ∀ I' H' c da, Same I I' → FrOk I' σ Γ (xt.regs x ++ F) H' → xt.rep I' x c da → wX X c da σ H') → wA X es σ H Q
/-- how a def's result lies -/
structure RT (ρ : Type) where
  rep : ρ → Hp → V → Prop
  regs : ρ → V → List Rg
def SThen (I : Hp) (F : List Rg) (gn : ν → List Slot) (ln : ν → List Rg) (rt : RT ρ) (xt : XT ε) (gx : List Slot) (D : Ends) : Out ε ρ ν → Prop
  | .stuck => False
  | .nx n => ∀ I' σ' H', Same I I' → FrOk I' σ' (gn n) (ln n ++ F) H' → D.nx σ' H'
  | .ret r => ∀ I' v H', Same I I' → Sep I' (rt.regs r v ++ F) H' → rt.rep r I' v → D.rt v H'
  | .exn x => ∀ I' σ' H' c da, Same I I' → Sep I' (xt.regs x ++ F) H' → SlotsOk I' σ' gx → xt.rep I' x c da → wX X c da σ' H'
/-- statements compute M -/
def SF (ss : List Stmt) (Γ : List Slot) (L : List Rg) (gn : ν → List Slot) (ln : ν → List Rg) (rt : RT ρ) (xt : XT ε) (gx : List Slot) (M : Out ε ρ ν) : Prop :=
  ∀ (I : Hp) (σ : St) (F : List Rg) (H : Hp) (D : Ends), FrOk I σ Γ (L ++ F) H → SThen X I F gn ln rt xt gx D M → wSs X ss D σ H
end
end Fw


namespace Fw
open PySem L2
/-! ## 5. types of data -/
def tInt : Ty Int := ⟨fun _ v d => v = .int d, fun _ h => h⟩
def tBool : Ty Bool := ⟨fun _ v d => v = .bl d, fun _ h => h⟩
def tNone : Ty Unit := ⟨fun _ v _ => v = .non, fun _ h => h⟩
/-- a text: its codes -/
abbrev Tx := List Nat
def tTx : Ty Tx := ⟨fun _ v d => v = .str ⟨d.toArray⟩, fun _ h => h⟩
/-- an owned object, by its address -/
def tCell (a : Addr) : Ty Unit := ⟨fun _ v _ => v = .ref a, fun _ h => h⟩
def tOpt {α : Type} (A : Ty α) : Ty (Option α) := ⟨fun I v d => match d with | none => v = .non | some d => v ≠ .non ∧ A.rep I v d, fun {I I' v d} e h => match d, h with | none, h => h | some _, ⟨h1, h2⟩ => ⟨h1, A.mono e h2⟩⟩
theorem paired_mono {α : Type} {A : Ty α} {I I' : Hp} (e : Same I I') {vs : List V} {xs : List α} (h : Paired (A.rep I) vs xs) : Paired (A.rep I') vs xs := Paired.mapP h fun _ _ q => A.mono e q
/-- a list that is read: the script, too -/
def tSeq (K : PySem.W.Frag) {α : Type} (A : Ty α) : Ty (List α) := ⟨fun I v xs => ∃ p vs, v = .ref p ∧ SqL K I p vs ∧ Paired (A.rep I) vs xs, fun e ⟨p, vs, a, b, c⟩ => ⟨p, vs, a, Same.sql e b, paired_mono e c⟩⟩
def tLst {α : Type} (A : Ty α) : Ty (List α) := ⟨fun I v xs => ∃ p vs, v = .ref p ∧ I p = some (.lst vs) ∧ Paired (A.rep I) vs xs, fun e ⟨p, vs, a, b, c⟩ => ⟨p, vs, a, e _ _ b, paired_mono e c⟩⟩
/-- a tuple of things of one type -/
def tTuL {α : Type} (A : Ty α) : Ty (List α) := ⟨fun I v xs => ∃ p vs, v = .ref p ∧ I p = some (.tup vs) ∧ Paired (A.rep I) vs xs, fun e ⟨p, vs, a, b, c⟩ => ⟨p, vs, a, e _ _ b, paired_mono e c⟩⟩
/-- a tuple of things of written types -/
def tTup {τ : Type} (T : Tys τ) : Ty τ := ⟨fun I v d => ∃ p vs, v = .ref p ∧ I p = some (.tup vs) ∧ T.rep I vs d, fun e ⟨p, vs, a, b, c⟩ => ⟨p, vs, a, e _ _ b, T.mono e c⟩⟩
theorem seq_of {K : PySem.W.Frag} {α : Type} {A : Ty α} {I : Hp} {v : V} {xs : List α} (h : (tLst A).rep I v xs) : (tSeq K A).rep I v xs := let ⟨p, vs, a, b, c⟩ := h; ⟨p, vs, a, .of b, c⟩
/-- an owned list -/
def cLst {α : Type} (A : Ty α) (xs : List α) : CP := ⟨fun I o => ∃ vs, o = .lst vs ∧ Paired (A.rep I) vs xs, fun e ⟨vs, a, b⟩ => ⟨vs, a, paired_mono e b⟩⟩

section
variable {α β : Type} {R : α → β → Prop}
theorem paired_len : ∀ {xs : List α} {ys : List β}, Paired R xs ys → xs.length = ys.length
  | _, _, .nil => rfl
  | _, _, .cons _ t => congrArg Nat.succ (paired_len t)
theorem paired_app : ∀ {xs xs' : List α} {ys ys' : List β}, Paired R xs ys → Paired R xs' ys' → Paired R (xs ++ xs') (ys ++ ys')
  | _, _, _, _, .nil, h => h
  | _, _, _, _, .cons r t, h => .cons r (paired_app t h)
theorem paired_get : ∀ {xs : List α} {ys : List β} {i : Nat} {x : α}, Paired R xs ys → xs[i]? = some x → ∃ y, ys[i]? = some y ∧ R x y
  | _, _, _, _, .nil, e => by simp at e
  | _, _, 0, _, .cons r t, e => ⟨_, rfl, by simp at e; subst e; exact r⟩
  | _, _, i + 1, x, .cons _ t, e => by
    obtain ⟨y, h1, h2⟩ := paired_get (i := i) t (by simpa using e)
    exact ⟨y, by simpa using h1, h2⟩
theorem paired_get' : ∀ {xs : List α} {ys : List β} {i : Nat} {y : β}, Paired R xs ys → ys[i]? = some y → ∃ x, xs[i]? = some x ∧ R x y
  | _, _, _, _, .nil, e => by simp at e
  | _, _, 0, _, .cons r t, e => ⟨_, rfl, by simp at e; subst e; exact r⟩
  | _, _, i + 1, x, .cons _ t, e => by
    obtain ⟨y, h1, h2⟩ := paired_get' (i := i) t (by simpa using e)
    exact ⟨y, by simpa using h1, h2⟩
theorem paired_drop : ∀ {xs : List α} {ys : List β} (n : Nat), Paired R xs ys → Paired R (xs.drop n) (ys.drop n)
  | _, _, 0, h => h
  | _, _, _ + 1, .nil => .nil
  | _, _, n + 1, .cons _ t => paired_drop n t
theorem paired_take : ∀ {xs : List α} {ys : List β} (n : Nat), Paired R xs ys → Paired R (xs.take n) (ys.take n)
  | _, _, 0, _ => .nil
  | _, _, _ + 1, .nil => .nil
  | _, _, n + 1, .cons r t => .cons r (paired_take n t)
theorem paired_set {x : α} {y : β} (r : R x y) : ∀ {xs : List α} {ys : List β} (i : Nat), Paired R xs ys → Paired R (xs.set i x) (ys.set i y)
  | _, _, _, .nil => .nil
  | _, _, 0, .cons _ t => .cons r t
  | _, _, i + 1, .cons q t => .cons q (paired_set r i t)
theorem paired_erase : ∀ {xs : List α} {ys : List β} (i : Nat), Paired R xs ys → Paired R (xs.eraseIdx i) (ys.eraseIdx i)
  | _, _, _, .nil => .nil
  | _, _, 0, .cons _ t => t
  | _, _, i + 1, .cons r t => .cons r (paired_erase i t)
theorem paired_rev {xs : List α} {ys : List β} (h : Paired R xs ys) : Paired R xs.reverse ys.reverse := by
  induction h with
  | nil => exact .nil
  | cons r t ih => rw [List.reverse_cons, List.reverse_cons]; exact paired_app ih (.cons r .nil)
theorem paired_int {I : Hp} : ∀ {vs : List V} {ns : List Int}, Paired (tInt.rep I) vs ns → vs = ns.map V.int
  | _, _, .nil => rfl
  | _, _, .cons r t => by rw [List.map_cons, paired_int t, show _ = _ from r]
theorem int_paired {I : Hp} : ∀ {ns : List Int}, Paired (tInt.rep I) (ns.map V.int) ns
  | [] => .nil
  | _ :: _ => .cons rfl int_paired
theorem paired_bool {I : Hp} : ∀ {vs : List V} {ns : List Bool}, Paired (tBool.rep I) vs ns → vs = ns.map V.bl
  | _, _, .nil => rfl
  | _, _, .cons r t => by rw [List.map_cons, paired_bool t, show _ = _ from r]
theorem paired_tx {I : Hp} : ∀ {vs : List V} {ns : List Tx}, Paired (tTx.rep I) vs ns → vs = (ns.map fun t => (⟨t.toArray⟩ : Str)).map V.str
  | _, _, .nil => rfl
  | _, _, .cons r t => by rw [List.map_cons, List.map_cons, paired_tx t, show _ = _ from r]
end

/-! ## 6. a def's names -/
def visB (sc : Scope) (x : Str) : Bool := (match sc.names.lookup x with | some .local => true | some .cell => true | some .free => true | _ => false) && !(x == ("__debug__" : Str)) && !(x == ("__classdict__" : Str))
def locB (sc : Scope) (x : Str) : Bool := match sc.names.lookup x with | some .local => true | some .cell => true | _ => false
def glB (sc : Scope) (x : Str) : Bool := (match sc.names.lookup x with | some .globalImplicit => true | _ => false) && !(x == ("__debug__" : Str)) && !(x == ("__name__" : Str))
structure Cxt (X : Cx) (N : List Str) (sc : Scope) (own : Str → Bool) : Prop where
  hN : X.N = N
  hsc : X.env.scope = sc
  nd : N.Nodup
  st : ∀ x, own x = true → L2.Loc X.env.scope x ∧ (X.fn x = true ∨ X.env.scope.names.lookup x = some .local)
/-- no exception is being handled -/
structure Calm (X : Cx) : Prop where
  calm : X.calm = true
  po : PassesOwn (model X.prog X.w) X.A X.env X.xe
section
variable {X : Cx} {N : List Str} {sc : Scope} {own : Str → Bool} {x : Str}
theorem visB_vis (h : visB sc x = true) : Vis sc x ∧ (x == ("__debug__" : Str)) = false ∧ (x == ("__classdict__" : Str)) = false := by
  unfold visB at h
  simp only [Bool.and_eq_true, Bool.not_eq_true'] at h
  obtain ⟨⟨a, b⟩, c⟩ := h
  refine ⟨?_, b, c⟩
  unfold Vis
  split at a
  · exact .inl (by assumption)
  · exact .inr (.inl (by assumption))
  · exact .inr (.inr (by assumption))
  · cases a
theorem glB_gl (C : Cxt X N sc own) (h : glB sc x = true) : Gl X x ∧ (x == ("__debug__" : Str)) = false ∧ x ≠ "__name__" := by
  unfold glB at h
  simp only [Bool.and_eq_true, Bool.not_eq_true'] at h
  obtain ⟨⟨a, b⟩, c⟩ := h
  refine ⟨?_, b, fun z => by rw [z] at c; revert c; decide⟩
  unfold Gl
  show X.env.scope.names.lookup x = _
  rw [C.hsc]
  split at a
  · assumption
  · cases a
theorem locB_st {X : Cx} (hs : X.env.scope = sc) (hf : ∀ x, X.fn x = true) (x : Str) (h : locB sc x = true) : L2.Loc X.env.scope x ∧ (X.fn x = true ∨ X.env.scope.names.lookup x = some .local) := by
  refine ⟨?_, .inl (hf x)⟩
  rw [hs]
  unfold locB at h
  unfold L2.Loc
  split at h
  · exact .inl (by assumption)
  · exact .inr (by assumption)
  · cases h
theorem cxt_def0 {CX : CXT} {P : Program} {w : World} {K : PySem.W.Frag} {mg : Str → Option Value} {base : Heap} {qual : Str} {f : Addr} {cd : Value} {A : Around} {outer : List Env} {s : Shared} {H : Hp} {E : XK} (nd : N.Nodup) :
    Cxt (cxOf CX P w K mg base N qual sc f cd A outer s H E).nox N sc (locB sc) := ⟨rfl, rfl, nd, locB_st rfl fun _ => rfl⟩
theorem cxt_defX {P : Program} {w : World} {K : PySem.W.Frag} {mg : Str → Option Value} {base : Heap} {qual : Str} {f : Addr} {cd : Value} {A : Around} {outer : List Env} {s : Shared} {H : Hp} {E : XK} (nd : N.Nodup) :
    Cxt (cxOf (L2.CX P w) P w K mg base N qual sc f cd A outer s H E) N sc (locB sc) := ⟨rfl, rfl, nd, locB_st rfl fun _ => rfl⟩
theorem calm_defX {P : Program} {w : World} {K : PySem.W.Frag} {mg : Str → Option Value} {base : Heap} {qual : Str} {f : Addr} {cd : Value} {A : Around} {outer : List Env} {s : Shared} {H : Hp} {E : XK} :
    Calm (cxOf (L2.CX P w) P w K mg base N qual sc f cd A outer s H E) := ⟨rfl, passes_of rfl⟩
end

/-! ## 7. expressions -/
section
variable {X : Cx} {N : List Str} {sc : Scope} {own : Str → Bool} {α β γ δ ε τ : Type} {A : Ty α} {B : Ty β} {C : Ty δ} {e a b c : Expr} {es : List Expr} {x : Str} {pos : Pos} {Γ : List Slot} {L : γ → List Rg} {s : γ} {xt : XT ε} {L0 : List Rg}
theorem ef_pure {d : α} (h : EP X e Γ (L s) A d) : EF X e Γ L s A xt (.val (d, s)) := fun I σ F H Q fr th => h I σ F H Q fr fun I' v H' e1 fr' r => th I' v H' e1 fr' r
theorem ep_mk {d : α} (h : ∀ (I : Hp) (σ : St) (F : List Rg) (H : Hp) (Q : VK), FrOk I σ Γ (L0 ++ F) H → (∀ I' v H', Same I I' → FrOk I' σ Γ (L0 ++ F) H' → A.rep I' v d → Q v H') → wE X e σ H Q) : EP X e Γ L0 A d := fun I σ F H Q fr th => h I σ F H Q fr th
theorem EP.run {d : α} (h : EP X e Γ L0 A d) {I : Hp} {σ : St} {F : List Rg} {H : Hp} {Q : VK} (fr : FrOk I σ Γ (L0 ++ F) H) (k : ∀ I' v H', Same I I' → FrOk I' σ Γ (L0 ++ F) H' → A.rep I' v d → Q v H') : wE X e σ H Q := h I σ F H Q fr k
theorem ep_var (c : Cxt X N sc own) (i : Nat) {d : α} (hi : N[i]? = some x := by rfl) (hv : visB sc x = true := by decide +kernel) (hΓ : Γ[i]? = some (.dat A d) := by rfl) : EP X (.Name x pos) Γ L0 A d := fun I σ F H Q fr th => by
  obtain ⟨v, e, r⟩ := fr.get hΓ
  obtain ⟨h1, h2, h3⟩ := visB_vis hv
  exact PE_to (pe_var (by rw [c.hN]; exact hi) (by rw [c.hsc]; exact h1) h2 h3) ⟨v, e, th I v H (Same.refl _) fr r⟩
theorem ep_int {i : Int} {j} : EP X (.Constant (.int i) j pos) Γ L0 tInt i := fun I σ F H Q fr th => PE_to pe_int (th I _ H (Same.refl _) fr rfl)
theorem ep_bool {i : Bool} {j} : EP X (.Constant (.bool i) j pos) Γ L0 tBool i := fun I σ F H Q fr th => PE_to pe_bl (th I _ H (Same.refl _) fr rfl)
theorem ep_none {j} : EP X (.Constant .none j pos) Γ L0 tNone () := fun I σ F H Q fr th => PE_to pe_non (th I _ H (Same.refl _) fr rfl)
theorem ep_noneO {j} : EP X (.Constant .none j pos) Γ L0 (tOpt A) none := fun I σ F H Q fr th => PE_to pe_non (th I _ H (Same.refl _) fr rfl)
theorem ep_str {z : Str} {t : Tx} {j} (h : z.cps.toList = t) : EP X (.Constant (.str z) j pos) Γ L0 tTx t := fun I σ F H Q fr th => PE_to pe_str (th I _ H (Same.refl _) fr (by subst h; rfl))
theorem ep_globT (c : Cxt X N sc own) {z : Str} {k : Tok} {t : Tx} (hm : X.mg x = some (.str z k)) (h : z.cps.toList = t) (hg : glB sc x = true := by decide +kernel) : EP X (.Name x pos) Γ L0 tTx t := fun I σ F H Q fr th =>
  let ⟨h1, h2, _⟩ := glB_gl c hg
  PE_to (pe_glob (v := .str z) h1 hm ⟨_, rfl⟩ h2) (th I _ H (Same.refl _) fr (by subst h; rfl))
theorem ep_globI (c : Cxt X N sc own) {z : Int} {k : Tok} (hm : X.mg x = some (.int z k)) (hg : glB sc x = true := by decide +kernel) : EP X (.Name x pos) Γ L0 tInt z := fun I σ F H Q fr th =>
  let ⟨h1, h2, _⟩ := glB_gl c hg
  PE_to (pe_glob (v := .int z) h1 hm ⟨_, rfl⟩ h2) (th I _ H (Same.refl _) fr rfl)

/-- an operation on two values -/
def D2 (r : R2) (A : Ty α) (B : Ty β) (C : Ty δ) (P : α → β → Prop) (g : α → β → δ) : Prop := ∀ (I : Hp) (L : List Rg) (H : Hp) (v w : V) (a : α) (b : β) (Q : VK), Sep I L H → A.rep I v a → B.rep I w b → P a b →
  (∀ I' z H', Same I I' → Sep I' L H' → C.rep I' z (g a b) → Q z H') → r v w H Q
def D1 (r : V → Hp → VK → Prop) (A : Ty α) (C : Ty δ) (P : α → Prop) (g : α → δ) : Prop := ∀ (I : Hp) (L : List Rg) (H : Hp) (v : V) (a : α) (Q : VK), Sep I L H → A.rep I v a → P a →
  (∀ I' z H', Same I I' → Sep I' L H' → C.rep I' z (g a) → Q z H') → r v H Q
def DN (r : List V → Hp → VK → Prop) (T : Tys τ) (C : Ty δ) (P : τ → Prop) (g : τ → δ) : Prop := ∀ (I : Hp) (L : List Rg) (H : Hp) (vs : List V) (t : τ) (Q : VK), Sep I L H → T.rep I vs t → P t →
  (∀ I' z H', Same I I' → Sep I' L H' → C.rep I' z (g t) → Q z H') → r vs H Q

theorem then_up {X : Cx} {I I1 : Hp} {F : List Rg} {σ : St} {Q : VK} (e1 : Same I I1) {m : Res ε (δ × γ)} (h : Then X I F σ Γ L C xt Q m) : Then X I1 F σ Γ L C xt Q m := by
  cases m with
  | stuck => exact h
  | val p => exact fun I' v H' e fr r => h I' v H' (e1.trans e) fr r
  | exn x => exact fun I' H' c da e fr r => h I' H' c da (e1.trans e) fr r
/-- one part, then the rest -/
theorem Then.bnd {X : Cx} {I : Hp} {F : List Rg} {σ : St} {H : Hp} {Q Q' : VK} {m : Res ε (α × γ)} {k : α → γ → Res ε (δ × γ)} (ha : EF X a Γ L s A xt m) (fr : FrOk I σ Γ (L s ++ F) H) (th : Then X I F σ Γ L C xt Q (m.bnd k))
    (h : ∀ (I' : Hp) (v : V) (H' : Hp) (d : α) (s' : γ), Same I I' → FrOk I' σ Γ (L s' ++ F) H' → A.rep I' v d → Then X I' F σ Γ L C xt Q (k d s') → Q' v H') : wE X a σ H Q' := by
  refine ha I σ F H _ fr ?_
  cases m with
  | stuck => exact th
  | exn x => exact th
  | val p => exact fun I' v H' e1 fr1 r => h I' v H' p.1 p.2 e1 fr1 r (then_up e1 th)
theorem Then.grd {X : Cx} {I : Hp} {F : List Rg} {σ : St} {Q : VK} {P : Prop} [Decidable P] {d : δ} {s' : γ} (th : Then X I F σ Γ L C xt Q (Res.grd P (d, s'))) : P ∧ Then X I F σ Γ L C xt Q (.val (d, s')) := by
  by_cases h : P
  · rw [Res.grd_true h] at th; exact ⟨h, th⟩
  · unfold Res.grd at th; rw [if_neg h] at th; exact th.elim
theorem ef_op {mm : Res ε (δ × γ)} {op : Operator} {r : R2} {P : α → β → Prop} [∀ x y, Decidable (P x y)] {g : α → β → δ} {ma : Res ε (α × γ)} {mb : α → γ → Res ε (β × γ)} (ho : OpR X (binaryOp op) r) (D : D2 r A B C P g) (ha : EF X a Γ L s A xt ma) (hb : ∀ x s1, EF X b Γ L s1 B xt (mb x s1)) (heq : mm = (ma.bnd fun x s1 => (mb x s1).bnd fun y s2 => Res.grd (P x y) (g x y, s2)) := by exact rfl) :
    EF X (.BinOp a op b pos) Γ L s C xt mm := by
  subst heq
  intro I σ F H Q fr th
  refine PE_to (pe_op ho pe_w pe_w) ?_
  refine Then.bnd ha fr th fun I1 v H1 d s1 e1 fr1 rv th1 => ?_
  refine Then.bnd (hb d s1) fr1 th1 fun I2 w H2 d2 s2 e2 fr2 rw th2 => ?_
  obtain ⟨hp, th3⟩ := Then.grd th2
  exact D I2 _ H2 v w d d2 Q fr2.sep (A.mono e2 rv) rw hp fun I' z H' e3 se rz => th3 I' z H' e3 (fr2.step e3 se) rz
theorem ef_cmp {mm : Res ε (δ × γ)} {op : CmpOp} {r : R2} {P : α → β → Prop} [∀ x y, Decidable (P x y)] {g : α → β → δ} {ma : Res ε (α × γ)} {mb : α → γ → Res ε (β × γ)} (ho : OpR X (compareOp op) r) (D : D2 r A B C P g) (ha : EF X a Γ L s A xt ma) (hb : ∀ x s1, EF X b Γ L s1 B xt (mb x s1))
    (hm : behindInMarks op b = false := by first | exact nomark _ | rfl) (heq : mm = (ma.bnd fun x s1 => (mb x s1).bnd fun y s2 => Res.grd (P x y) (g x y, s2)) := by exact rfl) :
    EF X (.Compare a [op] [b] pos) Γ L s C xt mm := by
  subst heq
  intro I σ F H Q fr th
  refine PE_to (pe_cmpR ho pe_w pe_w hm) ?_
  refine Then.bnd ha fr th fun I1 v H1 d s1 e1 fr1 rv th1 => ?_
  refine Then.bnd (hb d s1) fr1 th1 fun I2 w H2 d2 s2 e2 fr2 rw th2 => ?_
  obtain ⟨hp, th3⟩ := Then.grd th2
  exact D I2 _ H2 v w d d2 Q fr2.sep (A.mono e2 rv) rw hp fun I' z H' e3 se rz => th3 I' z H' e3 (fr2.step e3 se) rz
theorem ef_ix {mm : Res ε (δ × γ)} {r : R2} {P : α → β → Prop} [∀ x y, Decidable (P x y)] {g : α → β → δ} {ma : Res ε (α × γ)} {mb : α → γ → Res ε (β × γ)} (ho : IxR X r) (D : D2 r A B C P g) (ha : EF X a Γ L s A xt ma) (hb : ∀ x s1, EF X b Γ L s1 B xt (mb x s1))
    (hs : PlainIx b := by exact fun _ _ => rfl) (heq : mm = (ma.bnd fun x s1 => (mb x s1).bnd fun y s2 => Res.grd (P x y) (g x y, s2)) := by exact rfl) :
    EF X (.Subscript a b pos) Γ L s C xt mm := by
  subst heq
  intro I σ F H Q fr th
  refine PE_to (pe_ix ho pe_w pe_w hs) ?_
  refine Then.bnd ha fr th fun I1 v H1 d s1 e1 fr1 rv th1 => ?_
  refine Then.bnd (hb d s1) fr1 th1 fun I2 w H2 d2 s2 e2 fr2 rw th2 => ?_
  obtain ⟨hp, th3⟩ := Then.grd th2
  exact D I2 _ H2 v w d d2 Q fr2.sep (A.mono e2 rv) rw hp fun I' z H' e3 se rz => th3 I' z H' e3 (fr2.step e3 se) rz
theorem ef_un {mm : Res ε (δ × γ)} {op : UnaryOp} {r : V → Hp → VK → Prop} {P : α → Prop} [∀ x, Decidable (P x)] {g : α → δ} {ma : Res ε (α × γ)} (ho : UnR X (unaryOp op) r) (D : D1 r A C P g) (ha : EF X a Γ L s A xt ma) (heq : mm = (ma.bnd fun x s1 => Res.grd (P x) (g x, s1)) := by exact rfl) :
    EF X (.UnaryOp op a pos) Γ L s C xt mm := by
  subst heq
  intro I σ F H Q fr th
  refine PE_to (pe_un ho pe_w) ?_
  refine Then.bnd ha fr th fun I1 v H1 d s1 e1 fr1 rv th1 => ?_
  obtain ⟨hp, th3⟩ := Then.grd th1
  exact D I1 _ H1 v d Q fr1.sep rv hp fun I' z H' e3 se rz => th3 I' z H' e3 (fr1.step e3 se) rz
/-- pure forms -/
theorem ep_op {z : δ} {op : Operator} {r : R2} {P : α → β → Prop} {g : α → β → δ} {x : α} {y : β} (ho : OpR X (binaryOp op) r) (D : D2 r A B C P g) (ha : EP X a Γ L0 A x) (hb : EP X b Γ L0 B y) (hp : P x y) (heq : z = (g x y) := by exact rfl) : EP X (.BinOp a op b pos) Γ L0 C z := by
  subst heq
  intro I σ F H Q fr th
  refine PE_to (pe_op ho pe_w pe_w) ?_
  refine ha.run fr fun I1 v H1 e1 fr1 rv => ?_
  refine hb.run fr1 fun I2 w H2 e2 fr2 rw => ?_
  exact D I2 _ H2 v w _ _ Q fr2.sep (A.mono e2 rv) rw hp fun I' z H' e3 se rz => th I' z H' ((e1.trans e2).trans e3) (fr2.step e3 se) rz
theorem ep_cmp {z : δ} {op : CmpOp} {r : R2} {P : α → β → Prop} {g : α → β → δ} {x : α} {y : β} (ho : OpR X (compareOp op) r) (D : D2 r A B C P g) (ha : EP X a Γ L0 A x) (hb : EP X b Γ L0 B y) (hp : P x y) (hm : behindInMarks op b = false := by first | exact nomark _ | rfl) (heq : z = (g x y) := by exact rfl) : EP X (.Compare a [op] [b] pos) Γ L0 C z := by
  subst heq
  intro I σ F H Q fr th
  refine PE_to (pe_cmpR ho pe_w pe_w hm) ?_
  refine ha.run fr fun I1 v H1 e1 fr1 rv => ?_
  refine hb.run fr1 fun I2 w H2 e2 fr2 rw => ?_
  exact D I2 _ H2 v w _ _ Q fr2.sep (A.mono e2 rv) rw hp fun I' z H' e3 se rz => th I' z H' ((e1.trans e2).trans e3) (fr2.step e3 se) rz
theorem ep_ix {z : δ} {r : R2} {P : α → β → Prop} {g : α → β → δ} {x : α} {y : β} (ho : IxR X r) (D : D2 r A B C P g) (ha : EP X a Γ L0 A x) (hb : EP X b Γ L0 B y) (hp : P x y) (hs : PlainIx b := by exact fun _ _ => rfl) (heq : z = (g x y) := by exact rfl) : EP X (.Subscript a b pos) Γ L0 C z := by
  subst heq
  intro I σ F H Q fr th
  refine PE_to (pe_ix ho pe_w pe_w hs) ?_
  refine ha.run fr fun I1 v H1 e1 fr1 rv => ?_
  refine hb.run fr1 fun I2 w H2 e2 fr2 rw => ?_
  exact D I2 _ H2 v w _ _ Q fr2.sep (A.mono e2 rv) rw hp fun I' z H' e3 se rz => th I' z H' ((e1.trans e2).trans e3) (fr2.step e3 se) rz
theorem ep_un {z : δ} {op : UnaryOp} {r : V → Hp → VK → Prop} {P : α → Prop} {g : α → δ} {x : α} (ho : UnR X (unaryOp op) r) (D : D1 r A C P g) (ha : EP X a Γ L0 A x) (hp : P x) (heq : z = (g x) := by exact rfl) : EP X (.UnaryOp op a pos) Γ L0 C z := by
  subst heq
  intro I σ F H Q fr th
  refine PE_to (pe_un ho pe_w) ?_
  refine ha.run fr fun I1 v H1 e1 fr1 rv => ?_
  exact D I1 _ H1 v _ Q fr1.sep rv hp fun I' z H' e3 se rz => th I' z H' (e1.trans e3) (fr1.step e3 se) rz

/-! ### operations -/
theorem d2_I0 {g : Int → Int → V} {h : Int → Int → δ} (q : ∀ I i j, C.rep I (g i j) (h i j)) : D2 (rI0 g) tInt tInt C (fun _ _ => True) h := fun I L H v w i j Q se rv rw _ k => by
  cases rv; cases rw
  exact ⟨i, j, rfl, rfl, k I _ H (Same.refl _) se (q I i j)⟩
theorem d2_I {P : Int → Int → Prop} {g : Int → Int → V} {h : Int → Int → δ} (q : ∀ I i j, C.rep I (g i j) (h i j)) : D2 (rI P g) tInt tInt C P h := fun I L H v w i j Q se rv rw hp k => by
  cases rv; cases rw
  exact ⟨i, j, rfl, rfl, hp, k I _ H (Same.refl _) se (q I i j)⟩
theorem d_add : D2 (rI0 fun i j => .int (i + j)) tInt tInt tInt (fun _ _ => True) (fun i j => i + j) := d2_I0 fun _ _ _ => rfl
theorem d_sub : D2 (rI0 fun i j => .int (i - j)) tInt tInt tInt (fun _ _ => True) (fun i j => i - j) := d2_I0 fun _ _ _ => rfl
instance {i j : Int} : Decidable (CMul i j) := by unfold CMul; infer_instance
instance {i j : Int} : Decidable (CDivN i j) := by unfold CDivN; infer_instance
instance {i j : Int} : Decidable (CPow i j) := by unfold CPow; infer_instance
theorem d_mul : D2 (rI CMul fun i j => .int (i * j)) tInt tInt tInt CMul (fun i j => i * j) := d2_I fun _ _ _ => rfl
theorem d_div : D2 (rI CDivN fun i j => .int (i.fdiv j)) tInt tInt tInt CDivN (fun i j => i.fdiv j) := d2_I fun _ _ _ => rfl
theorem d_mod : D2 (rI (fun _ j => j ≠ 0) fun i j => .int (i.fmod j)) tInt tInt tInt (fun _ j => j ≠ 0) (fun i j => i.fmod j) := d2_I fun _ _ _ => rfl
theorem d_pow : D2 (rI CPow fun i j => .int (i ^ j.toNat)) tInt tInt tInt CPow (fun i j => i ^ j.toNat) := d2_I fun _ _ _ => rfl
theorem d_lt : D2 (rI0 fun i j => .bl (decide (i < j))) tInt tInt tBool (fun _ _ => True) (fun i j => decide (i < j)) := d2_I0 fun _ _ _ => rfl
theorem d_le : D2 (rI0 fun i j => .bl (decide (i ≤ j))) tInt tInt tBool (fun _ _ => True) (fun i j => decide (i ≤ j)) := d2_I0 fun _ _ _ => rfl
theorem d_gt : D2 (rI0 fun i j => .bl (decide (j < i))) tInt tInt tBool (fun _ _ => True) (fun i j => decide (j < i)) := d2_I0 fun _ _ _ => rfl
theorem d_ge : D2 (rI0 fun i j => .bl (decide (j ≤ i))) tInt tInt tBool (fun _ _ => True) (fun i j => decide (j ≤ i)) := d2_I0 fun _ _ _ => rfl
theorem d_neg : D1 (rU fun i => .int (-i)) tInt tInt (fun _ => True) (fun i => -i) := fun I L H v i Q se rv _ k => by
  cases rv
  exact ⟨i, rfl, k I _ H (Same.refl _) se rfl⟩
theorem dec_int (i j : Int) : decide (V.int i = V.int j) = decide (i = j) := by simp
theorem dec_bl (i j : Bool) : decide (V.bl i = V.bl j) = decide (i = j) := by simp
theorem dec_tx (s t : Tx) : decide (V.str ⟨s.toArray⟩ = V.str ⟨t.toArray⟩) = decide (s = t) := by simp
theorem d_eqI : D2 rEq tInt tInt tBool (fun _ _ => True) (fun i j => decide (i = j)) := fun I L H v w i j Q se rv rw _ k => by
  cases rv; cases rw
  exact ⟨rfl, k I _ H (Same.refl _) se (congrArg V.bl (dec_int i j))⟩
theorem d_neI : D2 rNe tInt tInt tBool (fun _ _ => True) (fun i j => !decide (i = j)) := fun I L H v w i j Q se rv rw _ k => by
  cases rv; cases rw
  exact ⟨rfl, k I _ H (Same.refl _) se (congrArg (fun b => V.bl (!b)) (dec_int i j))⟩
theorem d_eqB : D2 rEq tBool tBool tBool (fun _ _ => True) (fun i j => decide (i = j)) := fun I L H v w i j Q se rv rw _ k => by
  cases rv; cases rw
  exact ⟨rfl, k I _ H (Same.refl _) se (congrArg V.bl (dec_bl i j))⟩
theorem d_neB : D2 rNe tBool tBool tBool (fun _ _ => True) (fun i j => !decide (i = j)) := fun I L H v w i j Q se rv rw _ k => by
  cases rv; cases rw
  exact ⟨rfl, k I _ H (Same.refl _) se (congrArg (fun b => V.bl (!b)) (dec_bl i j))⟩
theorem d_eqT : D2 rEq tTx tTx tBool (fun _ _ => True) (fun i j => decide (i = j)) := fun I L H v w i j Q se rv rw _ k => by
  cases rv; cases rw
  exact ⟨rfl, k I _ H (Same.refl _) se (congrArg V.bl (dec_tx i j))⟩
theorem d_neT : D2 rNe tTx tTx tBool (fun _ _ => True) (fun i j => !decide (i = j)) := fun I L H v w i j Q se rv rw _ k => by
  cases rv; cases rw
  exact ⟨rfl, k I _ H (Same.refl _) se (congrArg (fun b => V.bl (!b)) (dec_tx i j))⟩
/-- sign in text -/
theorem d_inS : D2 (fun x y H Q => ∃ (c : Nat) (z : Str), x = .str ⟨#[c]⟩ ∧ y = .str z ∧ Q (.bl (decide (c ∈ z.cps.toList))) H) tTx tTx tBool (fun s _ => s.length = 1) (fun s t => decide (s.headD 0 ∈ t)) := fun I L H v w s t Q se rv rw hp k => by
  cases rv; cases rw
  match s, hp with
  | [c], _ => exact ⟨c, _, rfl, rfl, k I _ H (Same.refl _) se rfl⟩
theorem d_ninS : D2 (fun x y H Q => ∃ (c : Nat) (z : Str), x = .str ⟨#[c]⟩ ∧ y = .str z ∧ Q (.bl (!decide (c ∈ z.cps.toList))) H) tTx tTx tBool (fun s _ => s.length = 1) (fun s t => !decide (s.headD 0 ∈ t)) := fun I L H v w s t Q se rv rw hp k => by
  cases rv; cases rw
  match s, hp with
  | [c], _ => exact ⟨c, _, rfl, rfl, k I _ H (Same.refl _) se rfl⟩
theorem d_catT : D2 (fun x y H Q => ∃ i j, x = .str i ∧ y = .str j ∧ i.length + j.length ≤ sizeLine ∧ Q (.str (i ++ j)) H) tTx tTx tTx (fun s t => s.length + t.length ≤ sizeLine) (fun s t => s ++ t) := fun I L H v w s t Q se rv rw hp k => by
  cases rv; cases rw
  refine ⟨_, _, rfl, rfl, ?_, k I _ H (Same.refl _) se ?_⟩
  · show s.toArray.size + t.toArray.size ≤ _
    simpa using hp
  · show V.str ⟨s.toArray ++ t.toArray⟩ = V.str ⟨(s ++ t).toArray⟩
    simp
theorem d_ixS : D2 rIxS tTx tInt tTx (fun t i => t.length ≤ sizeLine ∧ (atI t i).isSome) (fun t i => [(atI t i).getD 0]) := fun I L H v w t i Q se rv rw hp k => by
  cases rv; cases rw
  obtain ⟨h1, h2⟩ := hp
  obtain ⟨c, hc⟩ := Option.isSome_iff_exists.mp h2
  refine ⟨_, i, c, rfl, rfl, ?_, ?_, k I _ H (Same.refl _) se ?_⟩
  · show t.toArray.size ≤ _
    simpa using h1
  · show atI t.toArray.toList i = _
    simpa using hc
  · show V.str _ = V.str ⟨[(atI t i).getD 0].toArray⟩
    rw [hc]; rfl
theorem ix_lt {α : Type} {xs : List α} {i : Int} {j : Nat} (h : ixN xs.length i = some j) : j < xs.length := by
  unfold ixN at h
  split at h
  · split at h
    · cases h; omega
    · cases h
  · split at h
    · cases h; omega
    · cases h
theorem at_some {α : Type} {xs : List α} {i : Int} : (atI xs i).isSome = (ixN xs.length i).isSome := by
  unfold atI
  cases e : ixN xs.length i with
  | none => rfl
  | some j => simp [ix_lt e]
theorem d_ixQ {K : PySem.W.Frag} [Inhabited α] : D2 (rIxL K) (tSeq K A) tInt A (fun xs i => (atI xs i).isSome) (fun xs i => (atI xs i).getD default) := fun I L H v w xs i Q se rv rw hp k => by
  obtain ⟨p, vs, rfl, hl, pr⟩ := rv
  cases rw
  have hp : (atI xs i).isSome = true := hp
  rw [at_some] at hp
  obtain ⟨j, hj⟩ := Option.isSome_iff_exists.mp hp
  have hlt := ix_lt hj
  obtain ⟨y, hy⟩ : ∃ y, vs[j]? = some y := ⟨_, List.getElem?_eq_getElem (by rw [paired_len pr]; exact hlt)⟩
  obtain ⟨d, hd, rd⟩ := paired_get pr hy
  refine ⟨p, vs, i, y, rfl, rfl, Same.sql se.same hl, ?_, k I _ H (Same.refl _) se ?_⟩
  · unfold atI; rw [paired_len pr, hj]; exact hy
  · show A.rep I y ((atI xs i).getD default)
    unfold atI; rw [hj]; show A.rep I y ((xs[j]?).getD default); rw [hd]; exact rd
theorem D2.imp {A' : Ty α} {r : R2} {P : α → β → Prop} {g : α → β → δ} (D : D2 r A B C P g) (h : ∀ {I v d}, A'.rep I v d → A.rep I v d) : D2 r A' B C P g := fun I L H v w a b Q se rv rw hp k => D I L H v w a b Q se (h rv) rw hp k
theorem d_ixL {K : PySem.W.Frag} [Inhabited α] : D2 (rIxL K) (tLst A) tInt A (fun xs i => (atI xs i).isSome) (fun xs i => (atI xs i).getD default) := d_ixQ.imp seq_of
theorem d_ixT {K : PySem.W.Frag} [Inhabited α] : D2 (rIxT K) (tTuL A) tInt A (fun xs i => (atI xs i).isSome) (fun xs i => (atI xs i).getD default) := fun I L H v w xs i Q se rv rw hp k => by
  obtain ⟨p, vs, rfl, hl, pr⟩ := rv
  cases rw
  have hp : (atI xs i).isSome = true := hp
  rw [at_some] at hp
  obtain ⟨j, hj⟩ := Option.isSome_iff_exists.mp hp
  have hlt := ix_lt hj
  obtain ⟨y, hy⟩ : ∃ y, vs[j]? = some y := ⟨_, List.getElem?_eq_getElem (by rw [paired_len pr]; exact hlt)⟩
  obtain ⟨d, hd, rd⟩ := paired_get pr hy
  refine ⟨p, vs, i, y, rfl, rfl, .of (se.same _ _ hl), ?_, k I _ H (Same.refl _) se ?_⟩
  · unfold atI; rw [paired_len pr, hj]; exact hy
  · show A.rep I y ((atI xs i).getD default)
    unfold atI; rw [hj]; show A.rep I y ((xs[j]?).getD default); rw [hd]; exact rd
end
end Fw


namespace Fw
open PySem L2
section
variable {X : Cx} {N : List Str} {sc : Scope} {own : Str → Bool} {α β γ δ ε τ : Type} {A : Ty α} {B : Ty β} {C : Ty δ} {T : Tys τ} {e a b c : Expr} {es : List Expr} {x : Str} {pos : Pos} {Γ : List Slot} {L : γ → List Rg} {s : γ} {xt : XT ε} {L0 : List Rg}
/-! ## 8. arguments, calls of built-ins -/
theorem af_nil : AF X [] Γ L s Tys.nil xt (.val ((), s)) := fun I σ F H Q fr th => PA_to pa_nil (th I [] H (Same.refl _) fr rfl)
theorem af_cons {ma : Res ε (α × γ)} {mr : α → γ → Res ε (τ × γ)} (ha : EF X e Γ L s A xt ma) (hr : ∀ d s1, AF X es Γ L s1 T xt (mr d s1)) (hs : starEach (e :: es) X.env = (false, eval e X.env) :: starEach es X.env := by exact star_c rfl) :
    AF X (e :: es) Γ L s (Tys.cons A T) xt (ma.bnd fun d s1 => (mr d s1).bnd fun t s2 => .val ((d, t), s2)) := fun I σ F H Q fr th => by
  refine PA_to (pa_cons pe_w pa_w hs) ?_
  refine ha I σ F H _ fr ?_
  cases ma with
  | stuck => exact th
  | exn x => exact th
  | val p =>
    intro I1 v H1 e1 fr1 rv
    refine hr p.1 p.2 I1 σ F H1 _ fr1 ?_
    dsimp only [Res.bnd] at th
    cases hm : mr p.1 p.2 with
    | stuck => rw [hm] at th; exact th
    | exn x =>
      rw [hm] at th
      exact fun I' H' c da e2 fr' r => th I' H' c da (e1.trans e2) fr' r
    | val q =>
      rw [hm] at th
      intro I2 vs H2 e2 fr2 rvs
      exact th I2 (v :: vs) H2 (e1.trans e2) fr2 ⟨v, vs, rfl, A.mono e2 rv, rvs⟩
/-- pure arguments -/
def AP' (X : Cx) (es : List Expr) (Γ : List Slot) (L : List Rg) (T : Tys τ) (t : τ) : Prop := AF X es Γ (fun _ : Unit => L) () T xt0 (.val (t, ()))
theorem ap_nil : AP' X [] Γ L0 Tys.nil () := af_nil
theorem ap_cons {d : α} {t : τ} (ha : EP X e Γ L0 A d) (hr : AP' X es Γ L0 T t) (hs : starEach (e :: es) X.env = (false, eval e X.env) :: starEach es X.env := by exact star_c rfl) : AP' X (e :: es) Γ L0 (Tys.cons A T) (d, t) :=
  af_cons (γ := Unit) (L := fun _ => L0) ha (fun _ _ => hr) hs
theorem af_pure {t : τ} (h : AP' X es Γ (L s) T t) : AF X es Γ L s T xt (.val (t, s)) := fun I σ F H Q fr th => h I σ F H Q fr th
/-- the arguments, then the rest -/
theorem Then.bndA {I : Hp} {F : List Rg} {σ : St} {H : Hp} {Q : VK} {Q' : List V → Hp → Prop} {m : Res ε (τ × γ)} {k : τ → γ → Res ε (δ × γ)} (ha : AF X es Γ L s T xt m) (fr : FrOk I σ Γ (L s ++ F) H) (th : Then X I F σ Γ L C xt Q (m.bnd k))
    (h : ∀ (I' : Hp) (v : List V) (H' : Hp) (d : τ) (s' : γ), Same I I' → FrOk I' σ Γ (L s' ++ F) H' → T.rep I' v d → Then X I' F σ Γ L C xt Q (k d s') → Q' v H') : wA X es σ H Q' := by
  refine ha I σ F H _ fr ?_
  cases m with
  | stuck => exact th
  | exn x => exact th
  | val p => exact fun I' v H' e1 fr1 r => h I' v H' p.1 p.2 e1 fr1 r (then_up e1 th)
theorem ef_callB {mm : Res ε (δ × γ)} {id : String} {r : List V → Hp → VK → Prop} {P : τ → Prop} [∀ x, Decidable (P x)] {g : τ → δ} {m : Res ε (τ × γ)} {p : Pos} (cx : Cxt X N sc own) (hc : CallR X (.builtin id) r) (D : DN r T C P g) (hm : X.mg x = none) (hv : bootBuiltins x = some (.builtin id)) (ha : AF X (e :: es) Γ L s T xt m)
    (hg : glB sc x = true := by decide +kernel) (he : starEach (e :: es) X.env = (false, eval e X.env) :: starEach es X.env := by exact star_c rfl) (hpl : (backTo pos (starEach es X.env)).any (·.1) = false := by rfl) (heq : mm = (m.bnd fun t s1 => Res.grd (P t) (g t, s1)) := by exact rfl) :
    EF X (.Call (.Name x p) (e :: es) [] pos) Γ L s C xt mm := by
  subst heq
  intro I σ F H Q fr th
  obtain ⟨h1, h2, h3⟩ := glB_gl cx hg
  refine PE_to (pe_callB hc h1 hm hv pa_w h3 h2 he hpl) ?_
  refine Then.bndA ha fr th fun I1 v H1 d s1 e1 fr1 rv th1 => ?_
  obtain ⟨hp, th3⟩ := Then.grd th1
  exact D I1 _ H1 v d Q fr1.sep rv hp fun I' z H' e3 se rz => th3 I' z H' e3 (fr1.step e3 se) rz
theorem ef_callTy {mm : Res ε (δ × γ)} {id : String} {r : List V → Hp → VK → Prop} {P : τ → Prop} [∀ x, Decidable (P x)] {g : τ → δ} {m : Res ε (τ × γ)} {p : Pos} (cx : Cxt X N sc own) (hc : CallR X (.type id) r) (D : DN r T C P g) (hm : X.mg x = none) (hv : bootBuiltins x = some (.type id)) (ha : AF X (e :: es) Γ L s T xt m)
    (hg : glB sc x = true := by decide +kernel) (he : starEach (e :: es) X.env = (false, eval e X.env) :: starEach es X.env := by exact star_c rfl) (hpl : (backTo pos (starEach es X.env)).any (·.1) = false := by rfl) (heq : mm = (m.bnd fun t s1 => Res.grd (P t) (g t, s1)) := by exact rfl) :
    EF X (.Call (.Name x p) (e :: es) [] pos) Γ L s C xt mm := by
  subst heq
  intro I σ F H Q fr th
  obtain ⟨h1, h2, h3⟩ := glB_gl cx hg
  refine PE_to (pe_callTy hc h1 hm hv pa_w h3 h2 he hpl) ?_
  refine Then.bndA ha fr th fun I1 v H1 d s1 e1 fr1 rv th1 => ?_
  obtain ⟨hp, th3⟩ := Then.grd th1
  exact D I1 _ H1 v d Q fr1.sep rv hp fun I' z H' e3 se rz => th3 I' z H' e3 (fr1.step e3 se) rz
theorem ep_callB {z : δ} {id : String} {r : List V → Hp → VK → Prop} {P : τ → Prop} {g : τ → δ} {t : τ} {p : Pos} (cx : Cxt X N sc own) (hc : CallR X (.builtin id) r) (D : DN r T C P g) (hm : X.mg x = none) (hv : bootBuiltins x = some (.builtin id)) (ha : AP' X (e :: es) Γ L0 T t) (hp : P t)
    (hg : glB sc x = true := by decide +kernel) (he : starEach (e :: es) X.env = (false, eval e X.env) :: starEach es X.env := by exact star_c rfl) (hpl : (backTo pos (starEach es X.env)).any (·.1) = false := by rfl) (heq : z = (g t) := by exact rfl) :
    EP X (.Call (.Name x p) (e :: es) [] pos) Γ L0 C z := by
  subst heq
  haveI : ∀ x, Decidable (P x) := fun x => Classical.propDecidable _
  have h := ef_callB (pos := pos) (p := p) (xt := xt0) (γ := Unit) (L := fun _ => L0) (s := ()) cx hc D hm hv ha hg he hpl
  have q : (Res.bnd (.val (t, ())) fun t s1 => Res.grd (P t) (g t, s1) : Res Empty (δ × Unit)) = .val (g t, ()) := Res.grd_true hp _
  rw [q] at h
  exact h
theorem ep_callTy {z : δ} {id : String} {r : List V → Hp → VK → Prop} {P : τ → Prop} {g : τ → δ} {t : τ} {p : Pos} (cx : Cxt X N sc own) (hc : CallR X (.type id) r) (D : DN r T C P g) (hm : X.mg x = none) (hv : bootBuiltins x = some (.type id)) (ha : AP' X (e :: es) Γ L0 T t) (hp : P t)
    (hg : glB sc x = true := by decide +kernel) (he : starEach (e :: es) X.env = (false, eval e X.env) :: starEach es X.env := by exact star_c rfl) (hpl : (backTo pos (starEach es X.env)).any (·.1) = false := by rfl) (heq : z = (g t) := by exact rfl) :
    EP X (.Call (.Name x p) (e :: es) [] pos) Γ L0 C z := by
  subst heq
  haveI : ∀ x, Decidable (P x) := fun x => Classical.propDecidable _
  have h := ef_callTy (pos := pos) (p := p) (xt := xt0) (γ := Unit) (L := fun _ => L0) (s := ()) cx hc D hm hv ha hg he hpl
  have q : (Res.bnd (.val (t, ())) fun t s1 => Res.grd (P t) (g t, s1) : Res Empty (δ × Unit)) = .val (g t, ()) := Res.grd_true hp _
  rw [q] at h
  exact h
abbrev Tys1 (A : Ty α) : Tys (α × Unit) := Tys.cons A Tys.nil
abbrev Tys2 (A : Ty α) (B : Ty β) : Tys (α × β × Unit) := Tys.cons A (Tys.cons B Tys.nil)
theorem tys1 {I : Hp} {vs : List V} {t : α × Unit} (h : (Tys1 A).rep I vs t) : ∃ v, vs = [v] ∧ A.rep I v t.1 := by
  obtain ⟨v, xs, rfl, h1, rfl⟩ := h
  exact ⟨v, rfl, h1⟩
theorem tys2 {I : Hp} {vs : List V} {t : α × β × Unit} (h : (Tys2 A B).rep I vs t) : ∃ v w, vs = [v, w] ∧ A.rep I v t.1 ∧ B.rep I w t.2.1 := by
  obtain ⟨v, xs, rfl, h1, w, ys, rfl, h2, rfl⟩ := h
  exact ⟨v, w, rfl, h1, h2⟩
theorem dn_lenT : DN (fun xs H Q => ∃ z, xs = [.str z] ∧ z.length ≤ sizeLine ∧ Q (.int z.length) H) (Tys1 tTx) tInt (fun t => t.1.length ≤ sizeLine) (fun t => (t.1.length : Int)) := fun I L H vs t Q se rv hp k => by
  obtain ⟨v, rfl, rfl⟩ := tys1 rv
  refine ⟨_, rfl, ?_, k I _ H (Same.refl _) se ?_⟩
  · show t.1.toArray.size ≤ _
    simpa using hp
  · show V.int _ = V.int _
    congr 1
theorem DN.imp {T' : Tys τ} {r : List V → Hp → VK → Prop} {P : τ → Prop} {g : τ → δ} (D : DN r T C P g) (h : ∀ {I v d}, T'.rep I v d → T.rep I v d) : DN r T' C P g := fun I L H v a Q se rv hp k => D I L H v a Q se (h rv) hp k
theorem tys1_imp {A' : Ty α} (h : ∀ {I v d}, A'.rep I v d → A.rep I v d) {I : Hp} {v : List V} {d : α × Unit} (q : (Tys1 A').rep I v d) : (Tys1 A).rep I v d := let ⟨x, xs, a, b, c⟩ := q; ⟨x, xs, a, h b, c⟩
theorem dn_lenQ {K : PySem.W.Frag} : DN (fun xs H Q => ∃ p ys, xs = [.ref p] ∧ (SqL K H p ys ∨ SqT K H p ys) ∧ Q (.int ys.length) H) (Tys1 (tSeq K A)) tInt (fun _ => True) (fun t => (t.1.length : Int)) := fun I L H vs t Q se rv hp k => by
  obtain ⟨v, rfl, p, ws, rfl, h2, h3⟩ := tys1 rv
  exact ⟨p, ws, rfl, .inl (Same.sql se.same h2), k I _ H (Same.refl _) se (by rw [paired_len h3]; rfl)⟩
theorem dn_lenL {K : PySem.W.Frag} : DN (fun xs H Q => ∃ p ys, xs = [.ref p] ∧ (SqL K H p ys ∨ SqT K H p ys) ∧ Q (.int ys.length) H) (Tys1 (tLst A)) tInt (fun _ => True) (fun t => (t.1.length : Int)) := dn_lenQ.imp (tys1_imp seq_of)
theorem dn_lenU {K : PySem.W.Frag} : DN (fun xs H Q => ∃ p ys, xs = [.ref p] ∧ (SqL K H p ys ∨ SqT K H p ys) ∧ Q (.int ys.length) H) (Tys1 (tTuL A)) tInt (fun _ => True) (fun t => (t.1.length : Int)) := fun I L H vs t Q se rv hp k => by
  obtain ⟨v, rfl, p, ws, rfl, h2, h3⟩ := tys1 rv
  exact ⟨p, ws, rfl, .inr (.of (se.same _ _ h2)), k I _ H (Same.refl _) se (by rw [paired_len h3]; rfl)⟩
theorem dn_abs : DN (fun xs H Q => ∃ i, xs = [.int i] ∧ Q (.int (if i < 0 then -i else i)) H) (Tys1 tInt) tInt (fun _ => True) (fun t => if t.1 < 0 then -t.1 else t.1) := fun I L H vs t Q se rv hp k => by
  obtain ⟨v, rfl, rfl⟩ := tys1 rv
  exact ⟨_, rfl, k I _ H (Same.refl _) se rfl⟩
theorem dn_min2 : DN (fun xs H Q => ∃ i j, xs = [.int i, .int j] ∧ Q (.int (if j < i then j else i)) H) (Tys2 tInt tInt) tInt (fun _ => True) (fun t => if t.2.1 < t.1 then t.2.1 else t.1) := fun I L H vs t Q se rv hp k => by
  obtain ⟨v, w, rfl, rfl, rfl⟩ := tys2 rv
  exact ⟨_, _, rfl, k I _ H (Same.refl _) se rfl⟩
theorem dn_max2 : DN (fun xs H Q => ∃ i j, xs = [.int i, .int j] ∧ Q (.int (if j > i then j else i)) H) (Tys2 tInt tInt) tInt (fun _ => True) (fun t => if t.2.1 > t.1 then t.2.1 else t.1) := fun I L H vs t Q se rv hp k => by
  obtain ⟨v, w, rfl, rfl, rfl⟩ := tys2 rv
  exact ⟨_, _, rfl, k I _ H (Same.refl _) se rfl⟩
theorem dn_intB : DN (fun xs H Q => (∃ i, xs = [.int i] ∧ Q (.int i) H) ∨ ∃ k, xs = [.bl k] ∧ Q (.int (if k then 1 else 0)) H) (Tys1 tBool) tInt (fun _ => True) (fun t => if t.1 then 1 else 0) := fun I L H vs t Q se rv hp k => by
  obtain ⟨v, rfl, rfl⟩ := tys1 rv
  exact .inr ⟨_, rfl, k I _ H (Same.refl _) se rfl⟩
theorem dn_intT : DN (fun xs H Q => ∃ a n, xs = [.str a] ∧ PySem.intText? a = some n ∧ a.length ≤ 640 ∧ Q (.int n) H) (Tys1 tTx) tInt (fun t => t.1.length ≤ 640 ∧ (PySem.intText? ⟨t.1.toArray⟩).isSome) (fun t => (PySem.intText? ⟨t.1.toArray⟩).getD 0) := fun I L H vs t Q se rv hp k => by
  obtain ⟨v, rfl, rfl⟩ := tys1 rv
  obtain ⟨h1, h2⟩ := hp
  obtain ⟨n, hn⟩ := Option.isSome_iff_exists.mp h2
  refine ⟨_, n, rfl, hn, by show t.1.toArray.size ≤ _; simpa using h1, k I _ H (Same.refl _) se ?_⟩
  show V.int n = V.int ((PySem.intText? ⟨t.1.toArray⟩).getD 0)
  rw [hn]; rfl
theorem dn_strI : DN (fun xs H Q => ∃ i, xs = [.int i] ∧ i.natAbs.log2 < 1920 ∧ Q (.str (toString i)) H) (Tys1 tInt) tTx (fun t => t.1.natAbs.log2 < 1920) (fun t => (PySem.Str.ofString (toString t.1)).cps.toList) := fun I L H vs t Q se rv hp k => by
  obtain ⟨v, rfl, rfl⟩ := tys1 rv
  exact ⟨_, rfl, hp, k I _ H (Same.refl _) se rfl⟩
theorem dn_all {K : PySem.W.Frag} : DN (rAll K) (Tys1 (tLst tBool)) tBool (fun _ => True) (fun t => t.1.all id) := fun I L H vs t Q se rv hp k => by
  obtain ⟨v, rfl, p, ws, rfl, h2, h3⟩ := tys1 rv
  rw [paired_bool h3] at h2
  exact ⟨p, t.1, rfl, .of (se.same _ _ h2), k I _ H (Same.refl _) se rfl⟩
theorem dn_any {K : PySem.W.Frag} : DN (rAny K) (Tys1 (tLst tBool)) tBool (fun _ => True) (fun t => t.1.any id) := fun I L H vs t Q se rv hp k => by
  obtain ⟨v, rfl, p, ws, rfl, h2, h3⟩ := tys1 rv
  rw [paired_bool h3] at h2
  exact ⟨p, t.1, rfl, .of (se.same _ _ h2), k I _ H (Same.refl _) se rfl⟩
/-- tuple(a list) -/
theorem dn_tupQ {K : PySem.W.Frag} : DN (fun xs H Q => ∃ p ys, xs = [.ref p] ∧ ((SqL K H p ys ∧ ∀ l, H l = none → Q (.ref l) (upd H l (.tup ys))) ∨ (SqT K H p ys ∧ Q (.ref p) H))) (Tys1 (tSeq K A)) (tTuL A) (fun _ => True) (fun t => t.1) := fun I L H vs t Q se rv hp k => by
  obtain ⟨v, rfl, p, ws, rfl, h2, h3⟩ := tys1 rv
  refine ⟨p, ws, rfl, .inl ⟨Same.sql se.same h2, fun l hl => k (upd I l (.tup ws)) _ _ (Same.upd (se.same.free hl)) (se.imm hl) ⟨l, ws, rfl, upd_same, paired_mono (Same.upd (se.same.free hl)) h3⟩⟩⟩
theorem dn_listQ {K : PySem.W.Frag} : DN (fun xs H Q => ∃ p ys, xs = [.ref p] ∧ (SqL K H p ys ∨ SqT K H p ys) ∧ ∀ l, H l = none → Q (.ref l) (upd H l (.lst ys))) (Tys1 (tSeq K A)) (tLst A) (fun _ => True) (fun t => t.1) := fun I L H vs t Q se rv hp k => by
  obtain ⟨v, rfl, p, ws, rfl, h2, h3⟩ := tys1 rv
  refine ⟨p, ws, rfl, .inl (Same.sql se.same h2), fun l hl => k (upd I l (.lst ws)) _ _ (Same.upd (se.same.free hl)) (se.imm hl) ⟨l, ws, rfl, upd_same, paired_mono (Same.upd (se.same.free hl)) h3⟩⟩
theorem dn_tupL {K : PySem.W.Frag} : DN (fun xs H Q => ∃ p ys, xs = [.ref p] ∧ ((SqL K H p ys ∧ ∀ l, H l = none → Q (.ref l) (upd H l (.tup ys))) ∨ (SqT K H p ys ∧ Q (.ref p) H))) (Tys1 (tLst A)) (tTuL A) (fun _ => True) (fun t => t.1) := dn_tupQ.imp (tys1_imp seq_of)
theorem dn_listL {K : PySem.W.Frag} : DN (fun xs H Q => ∃ p ys, xs = [.ref p] ∧ (SqL K H p ys ∨ SqT K H p ys) ∧ ∀ l, H l = none → Q (.ref l) (upd H l (.lst ys))) (Tys1 (tLst A)) (tLst A) (fun _ => True) (fun t => t.1) := dn_listQ.imp (tys1_imp seq_of)
theorem dn_listU {K : PySem.W.Frag} : DN (fun xs H Q => ∃ p ys, xs = [.ref p] ∧ (SqL K H p ys ∨ SqT K H p ys) ∧ ∀ l, H l = none → Q (.ref l) (upd H l (.lst ys))) (Tys1 (tTuL A)) (tLst A) (fun _ => True) (fun t => t.1) := fun I L H vs t Q se rv hp k => by
  obtain ⟨v, rfl, p, ws, rfl, h2, h3⟩ := tys1 rv
  refine ⟨p, ws, rfl, .inr (.of (se.same _ _ h2)), fun l hl => k (upd I l (.lst ws)) _ _ (Same.upd (se.same.free hl)) (se.imm hl) ⟨l, ws, rfl, upd_same, paired_mono (Same.upd (se.same.free hl)) h3⟩⟩
end

/-! ## 9. slices -/
section
variable {X : Cx} {N : List Str} {sc : Scope} {own : Str → Bool} {α β γ δ ε τ : Type} {A : Ty α} {B : Ty β} {C : Ty δ} {T : Tys τ} {e a b c : Expr} {es : List Expr} {x : Str} {pos p2 : Pos} {Γ : List Slot} {L : γ → List Rg} {s : γ} {xt : XT ε} {L0 : List Rg}
/-- a slice's part -/
def OF (X : Cx) (oe : Option Expr) (Γ : List Slot) (L : γ → List Rg) (s : γ) (xt : XT ε) (m : Res ε (Option Int × γ)) : Prop :=
  ∃ t : TO, PO X oe t ∧ ∀ (I : Hp) (σ : St) (F : List Rg) (H : Hp) (Q : Option Int → Hp → Prop), FrOk I σ Γ (L s ++ F) H → (match m with
    | .stuck => False
    | .val p => ∀ I' H', Same I I' → FrOk I' σ Γ (L p.2 ++ F) H' → Q p.1 H'
    | .exn x => ∀ I' H' c da, Same I I' → FrOk I' σ Γ (xt.regs x ++ F) H' → xt.rep I' x c da → wX X c da σ H') → t σ H Q
theorem of_none : OF X none Γ L s xt (.val (none, s)) := ⟨_, po_none, fun I σ F H Q fr th => th I H (Same.refl _) fr⟩
theorem of_some {m : Res ε (Int × γ)} (h : EF X e Γ L s tInt xt m) : OF X (some e) Γ L s xt (m.bnd fun i s => .val (some i, s)) := ⟨_, po_some pe_w, fun I σ F H Q fr th => by
  refine h I σ F H _ fr ?_
  cases m with
  | stuck => exact th
  | exn x => exact th
  | val p =>
    intro I' v H' e1 fr1 r
    exact ⟨p.1, r, th I' H' e1 fr1⟩⟩
def DS (r : V → Option Int → Option Int → Hp → VK → Prop) (A : Ty α) (C : Ty δ) (P : α → Prop) (g : α → Option Int → Option Int → δ) : Prop := ∀ (I : Hp) (L : List Rg) (H : Hp) (v : V) (a : α) (lo hi : Option Int) (Q : VK), Sep I L H → A.rep I v a → P a →
  (∀ I' z H', Same I I' → Sep I' L H' → C.rep I' z (g a lo hi) → Q z H') → r v lo hi H Q
theorem ef_slice {mm : Res ε (δ × γ)} {lo hi : Option Expr} {r : V → Option Int → Option Int → Hp → VK → Prop} {P : α → Prop} [∀ x, Decidable (P x)] {g : α → Option Int → Option Int → δ} {ma : Res ε (α × γ)} {ml : α → γ → Res ε (Option Int × γ)} {mh : α → Option Int → γ → Res ε (Option Int × γ)}
    (hr : SlR X r) (D : DS r A C P g) (ha : EF X e Γ L s A xt ma) (hl : ∀ d s1, OF X lo Γ L s1 xt (ml d s1)) (hh : ∀ d o s1, OF X hi Γ L s1 xt (mh d o s1)) (heq : mm = (ma.bnd fun d s1 => (ml d s1).bnd fun o s2 => (mh d o s2).bnd fun u s3 => Res.grd (P d) (g d o u, s3)) := by exact rfl) :
    EF X (.Subscript e (.Slice lo hi none p2) pos) Γ L s C xt mm := by
  subst heq
  intro I σ F H Q fr th
  -- the parts' readings depend on the data: chosen once per data by the weakest reading
  have pl : PO X lo (fun σ H Q => ∃ t, PO X lo t ∧ t σ H Q) := ⟨fun pins s σ H Q I h => let ⟨t, p, q⟩ := h; p.run pins s σ H Q I q⟩
  have ph : PO X hi (fun σ H Q => ∃ t, PO X hi t ∧ t σ H Q) := ⟨fun pins s σ H Q I h => let ⟨t, p, q⟩ := h; p.run pins s σ H Q I q⟩
  refine PE_to (pe_slice hr pe_w pl ph) ?_
  refine Then.bnd ha fr th fun I1 v H1 d s1 e1 fr1 rv th1 => ?_
  obtain ⟨tl, ptl, ql⟩ := hl d s1
  refine ⟨tl, ptl, ql I1 σ F H1 _ fr1 ?_⟩
  cases hm : ml d s1 with
  | stuck => rw [hm] at th1; exact th1
  | exn x => rw [hm] at th1; exact th1
  | val p =>
    rw [hm] at th1
    intro I2 H2 e2 fr2
    obtain ⟨th', pth, qh⟩ := hh d p.1 p.2
    refine ⟨th', pth, qh I2 σ F H2 _ fr2 ?_⟩
    dsimp only [Res.bnd] at th1
    cases hm2 : mh d p.1 p.2 with
    | stuck => rw [hm2] at th1; exact th1
    | exn x =>
      rw [hm2] at th1
      exact fun I' H' c da e3 fr' r => th1 I' H' c da (e2.trans e3) fr' r
    | val q =>
      rw [hm2] at th1
      intro I3 H3 e3 fr3
      obtain ⟨hp, th3⟩ := Then.grd th1
      exact D I3 _ H3 v d p.1 q.1 Q fr3.sep (A.mono (e2.trans e3) rv) hp fun I' z H' e4 se rz => th3 I' z H' ((e2.trans e3).trans e4) (fr3.step e4 se) rz
/-- a pure slice -/
def OP (X : Cx) (oe : Option Expr) (Γ : List Slot) (L : List Rg) (o : Option Int) : Prop := OF X oe Γ (fun _ : Unit => L) () xt0 (.val (o, ()))
theorem op_none : OP X none Γ L0 none := of_none
theorem op_some {i : Int} (h : EP X e Γ L0 tInt i) : OP X (some e) Γ L0 (some i) := of_some (γ := Unit) (L := fun _ => L0) h
theorem of_pure {oe : Option Expr} {o : Option Int} (h : OP X oe Γ (L s) o) : OF X oe Γ L s xt (.val (o, s)) := let ⟨t, p, q⟩ := h; ⟨t, p, fun I σ F H Q fr th => q I σ F H Q fr th⟩
theorem ep_slice {z : δ} {lo hi : Option Expr} {r : V → Option Int → Option Int → Hp → VK → Prop} {P : α → Prop} {g : α → Option Int → Option Int → δ} {d : α} {o u : Option Int} (hr : SlR X r) (D : DS r A C P g) (ha : EP X e Γ L0 A d) (hl : OP X lo Γ L0 o) (hh : OP X hi Γ L0 u) (hp : P d) (heq : z = (g d o u) := by exact rfl) :
    EP X (.Subscript e (.Slice lo hi none p2) pos) Γ L0 C z := by
  subst heq
  haveI : ∀ x, Decidable (P x) := fun x => Classical.propDecidable _
  have h := ef_slice (pos := pos) (p2 := p2) (xt := xt0) (γ := Unit) (L := fun _ => L0) (s := ()) hr D ha (fun _ _ => hl) (fun _ _ _ => hh)
  have q : (Res.bnd (.val (d, ())) fun d s1 => Res.bnd (.val (o, ())) fun o s2 => Res.bnd (.val (u, ())) fun u s3 => Res.grd (P d) (g d o u, s3) : Res Empty (δ × Unit)) = .val (g d o u, ()) := Res.grd_true hp _
  rw [q] at h
  exact h
/-- what a slice takes -/
def cut {ι : Type} (xs : List ι) (lo hi : Option Int) : List ι := (xs.drop (HT.sIx xs.length 0 lo)).take (HT.sIx xs.length xs.length hi - HT.sIx xs.length 0 lo)
theorem ds_tx : DS rSlS tTx tTx (fun t => t.length ≤ sizeLine) cut := fun I L H v t lo hi Q se rv hp k => by
  cases rv
  refine ⟨_, rfl, by show t.toArray.size ≤ _; simpa using hp, k I _ H (Same.refl _) se ?_⟩
  show V.str _ = V.str _
  congr 1
theorem ds_lst {K : PySem.W.Frag} : DS (rSlL K) (tLst A) (tLst A) (fun _ => True) cut := fun I L H v t lo hi Q se rv hp k => by
  obtain ⟨p, vs, rfl, h2, h3⟩ := rv
  refine ⟨p, vs, rfl, SqL.of (se.same _ _ h2), fun l hl => k (upd I l (.lst (cutV vs lo hi))) _ _ (Same.upd (se.same.free hl)) (se.imm hl) ⟨l, _, rfl, upd_same, ?_⟩⟩
  unfold cutV cut
  rw [paired_len h3]
  exact paired_take _ (paired_drop _ (paired_mono (Same.upd (se.same.free hl)) h3))
theorem ds_tup {K : PySem.W.Frag} : DS (rSlA K) (tTuL A) (tTuL A) (fun _ => True) cut := fun I L H v t lo hi Q se rv hp k => by
  obtain ⟨p, vs, rfl, h2, h3⟩ := rv
  refine ⟨p, vs, rfl, SqT.of (se.same _ _ h2), fun hw => k I _ H (Same.refl _) se ⟨p, vs, rfl, h2, ?_⟩, fun _ l hl => k (upd I l (.tup (cutV vs lo hi))) _ _ (Same.upd (se.same.free hl)) (se.imm hl) ⟨l, _, rfl, upd_same, ?_⟩⟩
  · have hw' := hw
    rw [paired_len h3] at hw'
    show Paired _ vs (cut t lo hi)
    unfold cut
    rw [hw'.1, hw'.2, List.drop_zero, Nat.sub_zero, List.take_length]
    exact h3
  · unfold cutV cut
    rw [paired_len h3]
    exact paired_take _ (paired_drop _ (paired_mono (Same.upd (se.same.free hl)) h3))
theorem d_catU {K : PySem.W.Frag} : D2 (rCatA K) (tTuL A) (tTuL A) (tTuL A) (fun s t => s.length + t.length ≤ sizeLine) (fun s t => s ++ t) := fun I L H v w s t Q se rv rw hp k => by
  obtain ⟨p, vs, rfl, h2, h3⟩ := rv
  obtain ⟨q, ws, rfl, h4, h5⟩ := rw
  refine ⟨p, q, vs, ws, rfl, rfl, SqT.of (se.same _ _ h2), SqT.of (se.same _ _ h4), by rw [paired_len h3, paired_len h5]; exact hp, fun hn => ?_, fun hn hm => ?_, fun _ _ l hl => ?_⟩
  · subst hn
    cases h3
    exact k I _ H (Same.refl _) se ⟨q, ws, rfl, h4, h5⟩
  · subst hm
    cases h5
    exact k I _ H (Same.refl _) se ⟨p, vs, rfl, h2, by show Paired _ vs (s ++ []); rw [List.append_nil]; exact h3⟩
  · exact k (upd I l (.tup (vs ++ ws))) _ _ (Same.upd (se.same.free hl)) (se.imm hl) ⟨l, _, rfl, upd_same, paired_mono (Same.upd (se.same.free hl)) (paired_app h3 h5)⟩
end
end Fw


namespace Fw
open PySem L2
section
variable {X : Cx} {N : List Str} {sc : Scope} {own : Str → Bool} {α β γ δ ε τ : Type} {A : Ty α} {B : Ty β} {C : Ty δ} {T : Tys τ} {e a b c : Expr} {es rest : List Expr} {x : Str} {pos : Pos} {Γ : List Slot} {L : γ → List Rg} {s : γ} {xt : XT ε} {L0 : List Rg}
/-! ## 10. displays -/
/-- written items of one type -/
def Tys.lst (A : Ty α) : Tys (List α) := ⟨fun I vs xs => Paired (A.rep I) vs xs, fun e h => paired_mono e h, fun xs => xs.map fun d => .dat A d, fun h => by rw [List.length_map]; exact paired_len h, fun {I vs xs} h i s q => by
  rw [List.getElem?_map] at q
  cases hx : xs[i]? with
  | none => rw [hx] at q; cases q
  | some d =>
    rw [hx] at q
    have q' : Slot.dat A d = s := Option.some.inj q
    subst q'
    obtain ⟨v, h1, h2⟩ := paired_get' h hx
    rw [h1]
    exact ⟨v, rfl, h2⟩⟩
theorem afl_nil : AF X [] Γ L s (Tys.lst A) xt (.val ([], s)) := fun I σ F H Q fr th => PA_to pa_nil (th I [] H (Same.refl _) fr .nil)
theorem afl_cons {ma : Res ε (α × γ)} {mr : α → γ → Res ε (List α × γ)} (ha : EF X e Γ L s A xt ma) (hr : ∀ d s1, AF X es Γ L s1 (Tys.lst A) xt (mr d s1)) (hs : starEach (e :: es) X.env = (false, eval e X.env) :: starEach es X.env := by exact star_c rfl) :
    AF X (e :: es) Γ L s (Tys.lst A) xt (ma.bnd fun d s1 => (mr d s1).bnd fun t s2 => .val (d :: t, s2)) := fun I σ F H Q fr th => by
  refine PA_to (pa_cons pe_w pa_w hs) ?_
  refine ha I σ F H _ fr ?_
  cases ma with
  | stuck => exact th
  | exn x => exact th
  | val p =>
    intro I1 v H1 e1 fr1 rv
    refine hr p.1 p.2 I1 σ F H1 _ fr1 ?_
    dsimp only [Res.bnd] at th
    cases hm : mr p.1 p.2 with
    | stuck => rw [hm] at th; exact th
    | exn x =>
      rw [hm] at th
      exact fun I' H' c da e2 fr' r => th I' H' c da (e1.trans e2) fr' r
    | val q =>
      rw [hm] at th
      intro I2 vs H2 e2 fr2 rvs
      exact th I2 (v :: vs) H2 (e1.trans e2) fr2 (.cons (A.mono e2 rv) rvs)
theorem apl_nil : AP' X [] Γ L0 (Tys.lst A) [] := afl_nil
theorem apl_cons {d : α} {t : List α} (ha : EP X e Γ L0 A d) (hr : AP' X es Γ L0 (Tys.lst A) t) (hs : starEach (e :: es) X.env = (false, eval e X.env) :: starEach es X.env := by exact star_c rfl) : AP' X (e :: es) Γ L0 (Tys.lst A) (d :: t) :=
  afl_cons (γ := Unit) (L := fun _ => L0) ha (fun _ _ => hr) hs
theorem Then.val {I : Hp} {F : List Rg} {σ : St} {H : Hp} {Q : VK} {Q' : List V → Hp → Prop} {m : Res ε (τ × γ)} {f : τ → δ} (ha : AF X es Γ L s T xt m) (fr : FrOk I σ Γ (L s ++ F) H) (th : Then X I F σ Γ L C xt Q (m.bnd fun t s' => .val (f t, s')))
    (h : ∀ (I' : Hp) (v : List V) (H' : Hp) (d : τ) (s' : γ), Same I I' → FrOk I' σ Γ (L s' ++ F) H' → T.rep I' v d → Then X I' F σ Γ L C xt Q (.val (f d, s')) → Q' v H') : wA X es σ H Q' := Then.bndA ha fr th h
theorem ef_tup {x1} {m : Res ε (τ × γ)} (h : AF X es Γ L s T xt m) (hl : es.length ≤ 1000 := by decide) (hT : ∀ t, (T.slots t).length = es.length := by intro _; rfl) : EF X (.Tuple es x1 pos) Γ L s (tTup T) xt m := fun I σ F H Q fr th => by
  refine PE_to (pe_tup pa_w) ?_
  refine h I σ F H _ fr ?_
  cases m with
  | stuck => exact th
  | exn x => exact th
  | val p =>
    intro I1 vs H1 e1 fr1 rv
    refine ⟨?_, fun q hq => ?_⟩
    · rw [T.len rv, hT]; exact Nat.le_trans hl (by decide)
    · exact th (upd I1 q (.tup vs)) _ _ (e1.trans (Same.upd (fr1.sep.same.free hq))) (fr1.step (Same.upd (fr1.sep.same.free hq)) (fr1.sep.imm hq)) ⟨q, vs, rfl, upd_same, T.mono (Same.upd (fr1.sep.same.free hq)) rv⟩
theorem ep_tup {x1} {t : τ} (h : AP' X es Γ L0 T t) (hl : es.length ≤ 1000 := by decide) (hT : ∀ t, (T.slots t).length = es.length := by intro _; rfl) : EP X (.Tuple es x1 pos) Γ L0 (tTup T) t := ef_tup (γ := Unit) (L := fun _ => L0) h hl hT
/-- a tuple of things of one type -/
theorem ef_tupL {x1} {m : Res ε (List α × γ)} (h : AF X es Γ L s (Tys.lst A) xt m) (hl : es.length ≤ 1000 := by decide) : EF X (.Tuple es x1 pos) Γ L s (tTuL A) xt (m.bnd fun t s' => Res.grd (t.length ≤ 1000) (t, s')) := fun I σ F H Q fr th => by
  refine PE_to (pe_tup pa_w) ?_
  refine Then.bndA h fr th fun I1 vs H1 d s1 e1 fr1 rv th1 => ?_
  obtain ⟨hz, th3⟩ := Then.grd th1
  refine ⟨by rw [paired_len rv]; exact Nat.le_trans hz (by decide), fun q hq => ?_⟩
  exact th3 (upd I1 q (.tup vs)) _ _ (Same.upd (fr1.sep.same.free hq)) (fr1.step (Same.upd (fr1.sep.same.free hq)) (fr1.sep.imm hq)) ⟨q, vs, rfl, upd_same, paired_mono (Same.upd (fr1.sep.same.free hq)) rv⟩
theorem ep_tupL {x1} {t : List α} (h : AP' X es Γ L0 (Tys.lst A) t) (hz : t.length ≤ 1000 := by decide) : EP X (.Tuple es x1 pos) Γ L0 (tTuL A) t := fun I σ F H Q fr th => by
  refine PE_to (pe_tup pa_w) ?_
  refine h I σ F H _ fr fun I1 vs H1 e1 fr1 rv => ?_
  refine ⟨by rw [paired_len rv]; exact Nat.le_trans hz (by decide), fun q hq => ?_⟩
  exact th (upd I1 q (.tup vs)) _ _ (e1.trans (Same.upd (fr1.sep.same.free hq))) (fr1.step (Same.upd (fr1.sep.same.free hq)) (fr1.sep.imm hq)) ⟨q, vs, rfl, upd_same, paired_mono (Same.upd (fr1.sep.same.free hq)) rv⟩
/-! ## 11. a new object that is one's own -/
def ThenN (X : Cx) (I : Hp) (F : List Rg) (σ : St) (Γ : List Slot) (L : γ → List Rg) (φ : α → CP) (xt : XT ε) (Q : VK) : Res ε (α × γ) → Prop
  | .stuck => False
  | .val p => ∀ I' q H', Same I I' → FrOk I' σ Γ (cell q (φ p.1) :: (L p.2 ++ F)) H' → Q (.ref q) H'
  | .exn x => ∀ I' H' c da, Same I I' → FrOk I' σ Γ (xt.regs x ++ F) H' → xt.rep I' x c da → wX X c da σ H'
def EN (X : Cx) (e : Expr) (Γ : List Slot) (L : γ → List Rg) (s : γ) (φ : α → CP) (xt : XT ε) (m : Res ε (α × γ)) : Prop :=
  ∀ (I : Hp) (σ : St) (F : List Rg) (H : Hp) (Q : VK), FrOk I σ Γ (L s ++ F) H → ThenN X I F σ Γ L φ xt Q m → wE X e σ H Q
/-- it becomes immutable -/
theorem ef_frz {m : Res ε (List α × γ)} (h : EN X e Γ L s (cLst A) xt m) : EF X e Γ L s (tLst A) xt m := fun I σ F H Q fr th => by
  refine h I σ F H Q fr ?_
  cases m with
  | stuck => exact th
  | exn x => exact th
  | val p =>
    intro I' q H' e1 fr1
    obtain ⟨o, ho, ⟨vs, rfl, hv⟩, hi, se⟩ := fr1.sep.freeze
    exact th _ _ _ (e1.trans (Same.upd hi)) (fr1.step (Same.upd hi) se) ⟨q, vs, rfl, upd_same, paired_mono (Same.upd hi) hv⟩
theorem en_lst {m : Res ε (List α × γ)} (h : AF X es Γ L s (Tys.lst A) xt m) : EN X (.List es pos) Γ L s (cLst A) xt (m.bnd fun t s' => Res.grd (t.length ≤ 1000) (t, s')) := fun I σ F H Q fr th => by
  refine PE_to (pe_lst pa_w) ?_
  refine h I σ F H _ fr ?_
  cases m with
  | stuck => exact th
  | exn x => exact th
  | val p =>
    intro I1 vs H1 e1 fr1 rv
    by_cases hz : p.1.length ≤ 1000
    · have q : (Res.bnd (.val p) fun t s' => Res.grd (t.length ≤ 1000) (t, s') : Res ε (List α × γ)) = .val p := Res.grd_true hz _
      rw [q] at th
      refine ⟨by rw [paired_len rv]; exact Nat.le_trans hz (by decide), fun q hq => ?_⟩
      exact th _ _ _ e1 ⟨fr1.sep.new hq ⟨vs, rfl, rv⟩, fr1.len, fr1.sl⟩
    · have q : (Res.bnd (.val p) fun t s' => Res.grd (t.length ≤ 1000) (t, s') : Res ε (List α × γ)) = .stuck := if_neg hz
      rw [q] at th
      exact th.elim
theorem en_nil : EN X (.List [] pos) Γ L s (cLst A) xt (.val ([], s)) := en_lst afl_nil
theorem ep_lst {t : List α} (h : AP' X es Γ L0 (Tys.lst A) t) (hz : t.length ≤ 1000 := by decide) : EP X (.List es pos) Γ L0 (tLst A) t := by
  have q := en_lst (γ := Unit) (L := fun _ => L0) (pos := pos) h
  rw [show (Res.bnd (.val (t, ())) fun t s' => Res.grd (t.length ≤ 1000) (t, s') : Res Empty (List α × Unit)) = .val (t, ()) from Res.grd_true hz _] at q
  exact ef_frz q
end

/-! ## 12. tests -/
section
variable {X : Cx} {N : List Str} {sc : Scope} {own : Str → Bool} {α β γ δ ε τ : Type} {A : Ty α} {B : Ty β} {C : Ty δ} {T : Tys τ} {e a b c : Expr} {es rest : List Expr} {x : Str} {pos : Pos} {Γ : List Slot} {L : γ → List Rg} {s : γ} {xt : XT ε} {L0 : List Rg}
theorem thenT_up {I I1 : Hp} {F : List Rg} {σ : St} {Q : Bool → Hp → Prop} (e1 : Same I I1) {m : Res ε (Bool × γ)} (h : ThenT X I F σ Γ L xt Q m) : ThenT X I1 F σ Γ L xt Q m := by
  cases m with
  | stuck => exact h
  | val p => exact fun I' H' e fr => h I' H' (e1.trans e) fr
  | exn x => exact fun I' H' c da e fr r => h I' H' c da (e1.trans e) fr r
/-- one value, then the rest, in a test -/
theorem ThenT.bnd {I : Hp} {F : List Rg} {σ : St} {H : Hp} {Q : Bool → Hp → Prop} {Q' : VK} {m : Res ε (α × γ)} {k : α → γ → Res ε (Bool × γ)} (ha : EF X a Γ L s A xt m) (fr : FrOk I σ Γ (L s ++ F) H) (th : ThenT X I F σ Γ L xt Q (m.bnd k))
    (h : ∀ (I' : Hp) (v : V) (H' : Hp) (d : α) (s' : γ), Same I I' → FrOk I' σ Γ (L s' ++ F) H' → A.rep I' v d → ThenT X I' F σ Γ L xt Q (k d s') → Q' v H') : wE X a σ H Q' := by
  refine ha I σ F H _ fr ?_
  cases m with
  | stuck => exact th
  | exn x => exact th
  | val p => exact fun I' v H' e1 fr1 r => h I' v H' p.1 p.2 e1 fr1 r (thenT_up e1 th)
theorem ThenT.bndT {I : Hp} {F : List Rg} {σ : St} {H : Hp} {Q Q' : Bool → Hp → Prop} {m : Res ε (Bool × γ)} {k : Bool → γ → Res ε (Bool × γ)} (ha : TF X a Γ L s xt m) (fr : FrOk I σ Γ (L s ++ F) H) (th : ThenT X I F σ Γ L xt Q (m.bnd k))
    (h : ∀ (I' : Hp) (H' : Hp) (d : Bool) (s' : γ), Same I I' → FrOk I' σ Γ (L s' ++ F) H' → ThenT X I' F σ Γ L xt Q (k d s') → Q' d H') : wT X a σ H Q' := by
  refine ha I σ F H _ fr ?_
  cases m with
  | stuck => exact th
  | exn x => exact th
  | val p => exact fun I' H' e1 fr1 => h I' H' p.1 p.2 e1 fr1 (thenT_up e1 th)
theorem Then.bndT {I : Hp} {F : List Rg} {σ : St} {H : Hp} {Q : VK} {Q' : Bool → Hp → Prop} {m : Res ε (Bool × γ)} {k : Bool → γ → Res ε (δ × γ)} (ha : TF X a Γ L s xt m) (fr : FrOk I σ Γ (L s ++ F) H) (th : Then X I F σ Γ L C xt Q (m.bnd k))
    (h : ∀ (I' : Hp) (H' : Hp) (d : Bool) (s' : γ), Same I I' → FrOk I' σ Γ (L s' ++ F) H' → Then X I' F σ Γ L C xt Q (k d s') → Q' d H') : wT X a σ H Q' := by
  refine ha I σ F H _ fr ?_
  cases m with
  | stuck => exact th
  | exn x => exact th
  | val p => exact fun I' H' e1 fr1 => h I' H' p.1 p.2 e1 fr1 (then_up e1 th)
theorem ThenT.bndW {I : Hp} {F : List Rg} {σ : St} {H : Hp} {Q Q' : Bool → Hp → Prop} {m : Res ε (Bool × γ)} {k : Bool → γ → Res ε (Bool × γ)} (ha : WF X a Γ L s xt m) (fr : FrOk I σ Γ (L s ++ F) H) (th : ThenT X I F σ Γ L xt Q (m.bnd k))
    (h : ∀ (I' : Hp) (H' : Hp) (d : Bool) (s' : γ), Same I I' → FrOk I' σ Γ (L s' ++ F) H' → ThenT X I' F σ Γ L xt Q (k d s') → Q' d H') : wW X a σ H Q' := by
  refine ha I σ F H _ fr ?_
  cases m with
  | stuck => exact th
  | exn x => exact th
  | val p => exact fun I' H' e1 fr1 => h I' H' p.1 p.2 e1 fr1 (thenT_up e1 th)
theorem tf_val {m : Res ε (Bool × γ)} (h : EF X e Γ L s tBool xt m) (he : ∀ whole, isTrue e X.env whole = (do let v ← whole; standAt e.pos; holding [v] (truthy v)) := by intro _; rfl) : TF X e Γ L s xt m := fun I σ F H Q fr th => by
  refine PT_to (pt_val pe_w he) ?_
  refine h I σ F H _ fr ?_
  cases m with
  | stuck => exact th
  | exn x => exact th
  | val p => exact fun I' v H' e1 fr1 r => ⟨p.1, r, th I' H' e1 fr1⟩
theorem tf_cmp {mm : Res ε (Bool × γ)} {op : CmpOp} {r : R2} {P : α → β → Prop} [∀ x y, Decidable (P x y)] {g : α → β → Bool} {ma : Res ε (α × γ)} {mb : α → γ → Res ε (β × γ)} (ho : OpR X (compareOp op) r) (D : D2 r A B tBool P g) (ha : EF X a Γ L s A xt ma) (hb : ∀ x s1, EF X b Γ L s1 B xt (mb x s1))
    (hm : behindInMarks op b = false := by first | exact nomark _ | rfl) (heq : mm = (ma.bnd fun x s1 => (mb x s1).bnd fun y s2 => Res.grd (P x y) (g x y, s2)) := by exact rfl) :
    TF X (.Compare a [op] [b] pos) Γ L s xt mm := by
  subst heq
  intro I σ F H Q fr th
  refine PT_to (pt_cmpR ho pe_w pe_w hm) ?_
  refine ThenT.bnd ha fr th fun I1 v H1 d s1 e1 fr1 rv th1 => ?_
  refine ThenT.bnd (hb d s1) fr1 th1 fun I2 w H2 d2 s2 e2 fr2 rw th2 => ?_
  by_cases hp : P d d2
  · rw [Res.grd_true hp] at th2
    exact D I2 _ H2 v w d d2 _ fr2.sep (A.mono e2 rv) rw hp fun I' z H' e3 se rz => ⟨_, rz, th2 I' H' e3 (fr2.step e3 se)⟩
  · unfold Res.grd at th2; rw [if_neg hp] at th2; exact th2.elim
theorem tf_and1 {m : Res ε (Bool × γ)} (h : TF X a Γ L s xt m) : WF X (.BoolOp .And [a] pos) Γ L s xt m := fun I σ F H Q fr th => PW_to (pw_and1 pt_w) (h I σ F H Q fr th)
theorem tf_or1 {m : Res ε (Bool × γ)} (h : TF X a Γ L s xt m) : WF X (.BoolOp .Or [a] pos) Γ L s xt m := fun I σ F H Q fr th => PW_to (pw_or1 pt_w) (h I σ F H Q fr th)
theorem tf_and {ma : Res ε (Bool × γ)} {mb : γ → Res ε (Bool × γ)} (ha : TF X a Γ L s xt ma) (hb : ∀ s1, WF X (.BoolOp .And (b :: rest) pos) Γ L s1 xt (mb s1)) : WF X (.BoolOp .And (a :: b :: rest) pos) Γ L s xt (ma.bnd fun x s1 => if x then mb s1 else .val (false, s1)) := fun I σ F H Q fr th => by
  refine PW_to (pw_and pt_w pw_w) ?_
  refine ThenT.bndT ha fr th fun I1 H1 d s1 e1 fr1 th1 => ?_
  cases d with
  | true => exact hb s1 I1 σ F H1 Q fr1 th1
  | false => exact th1 I1 H1 (Same.refl _) fr1
theorem tf_or {ma : Res ε (Bool × γ)} {mb : γ → Res ε (Bool × γ)} (ha : TF X a Γ L s xt ma) (hb : ∀ s1, WF X (.BoolOp .Or (b :: rest) pos) Γ L s1 xt (mb s1)) : WF X (.BoolOp .Or (a :: b :: rest) pos) Γ L s xt (ma.bnd fun x s1 => if x then .val (true, s1) else mb s1) := fun I σ F H Q fr th => by
  refine PW_to (pw_or pt_w pw_w) ?_
  refine ThenT.bndT ha fr th fun I1 H1 d s1 e1 fr1 th1 => ?_
  cases d with
  | true => exact th1 I1 H1 (Same.refl _) fr1
  | false => exact hb s1 I1 σ F H1 Q fr1 th1
theorem tf_w {m : Res ε (Bool × γ)} (h : WF X e Γ L s xt m) : TF X e Γ L s xt m := fun I σ F H Q fr th => PT_to pw_w.pt (h I σ F H Q fr th)
theorem tf_not {ma : Res ε (Bool × γ)} (ha : TF X a Γ L s xt ma) : TF X (.UnaryOp .Not a pos) Γ L s xt (ma.bnd fun x s1 => .val (!x, s1)) := fun I σ F H Q fr th => by
  refine PT_to (pt_not pt_w) ?_
  exact ThenT.bndT ha fr th fun I1 H1 d s1 e1 fr1 th1 => th1 I1 H1 (Same.refl _) fr1
/-- pure tests -/
theorem tf_pure {d : Bool} (h : TP' X e Γ (L s) d) : TF X e Γ L s xt (.val (d, s)) := fun I σ F H Q fr th => h I σ F H Q fr fun I' H' e1 fr' => th I' H' e1 fr'
theorem tp_val {d : Bool} (h : EP X e Γ L0 tBool d) (he : ∀ whole, isTrue e X.env whole = (do let v ← whole; standAt e.pos; holding [v] (truthy v)) := by intro _; rfl) : TP' X e Γ L0 d := tf_val (γ := Unit) (L := fun _ => L0) h he
theorem tp_cmp {z : Bool} {op : CmpOp} {r : R2} {P : α → β → Prop} {g : α → β → Bool} {x : α} {y : β} (ho : OpR X (compareOp op) r) (D : D2 r A B tBool P g) (ha : EP X a Γ L0 A x) (hb : EP X b Γ L0 B y) (hp : P x y)
    (hm : behindInMarks op b = false := by first | exact nomark _ | rfl) (heq : z = (g x y) := by exact rfl) : TP' X (.Compare a [op] [b] pos) Γ L0 z := by
  subst heq
  haveI : ∀ x y, Decidable (P x y) := fun x y => Classical.propDecidable _
  have h := tf_cmp (pos := pos) (xt := xt0) (γ := Unit) (L := fun _ => L0) (s := ()) ho D ha (fun _ _ => hb) hm
  have q : (Res.bnd (.val (x, ())) fun x s1 => Res.bnd (.val (y, ())) fun y s2 => Res.grd (P x y) (g x y, s2) : Res Empty (Bool × Unit)) = .val (g x y, ()) := Res.grd_true hp _
  rw [q] at h
  exact h
def WP (X : Cx) (e : Expr) (Γ : List Slot) (L : List Rg) (b : Bool) : Prop := WF X e Γ (fun _ : Unit => L) () xt0 (.val (b, ()))
theorem tp_and1 {d : Bool} (h : TP' X a Γ L0 d) : WP X (.BoolOp .And [a] pos) Γ L0 d := tf_and1 (γ := Unit) (L := fun _ => L0) h
theorem tp_or1 {d : Bool} (h : TP' X a Γ L0 d) : WP X (.BoolOp .Or [a] pos) Γ L0 d := tf_or1 (γ := Unit) (L := fun _ => L0) h
theorem tp_and {d u : Bool} (ha : TP' X a Γ L0 d) (hb : WP X (.BoolOp .And (b :: rest) pos) Γ L0 u) : WP X (.BoolOp .And (a :: b :: rest) pos) Γ L0 (d && u) := by
  have h := tf_and (γ := Unit) (L := fun _ => L0) (mb := fun _ => .val (u, ())) ha fun _ => hb
  cases d <;> exact h
theorem tp_or {d u : Bool} (ha : TP' X a Γ L0 d) (hb : WP X (.BoolOp .Or (b :: rest) pos) Γ L0 u) : WP X (.BoolOp .Or (a :: b :: rest) pos) Γ L0 (d || u) := by
  have h := tf_or (γ := Unit) (L := fun _ => L0) (mb := fun _ => .val (u, ())) ha fun _ => hb
  cases d <;> exact h
theorem tp_w {d : Bool} (h : WP X e Γ L0 d) : TP' X e Γ L0 d := tf_w (γ := Unit) (L := fun _ => L0) h
theorem tp_not {d : Bool} (ha : TP' X a Γ L0 d) : TP' X (.UnaryOp .Not a pos) Γ L0 (!d) := tf_not (γ := Unit) (L := fun _ => L0) ha
/-! values -/
theorem ef_one {op} {m : Res ε (α × γ)} (h : EF X a Γ L s A xt m) : EF X (.BoolOp op [a] pos) Γ L s A xt m := fun I σ F H Q fr th => PE_to (pe_one pe_w) (h I σ F H Q fr th)
theorem ef_and {ma : Res ε (Bool × γ)} {mb : γ → Res ε (Bool × γ)} (ha : EF X a Γ L s tBool xt ma) (hb : ∀ s1, EF X (.BoolOp .And (b :: rest) pos) Γ L s1 tBool xt (mb s1)) : EF X (.BoolOp .And (a :: b :: rest) pos) Γ L s tBool xt (ma.bnd fun x s1 => if x then mb s1 else .val (false, s1)) := fun I σ F H Q fr th => by
  refine PE_to (pe_and pe_w pe_w) ?_
  refine Then.bnd ha fr th fun I1 v H1 d s1 e1 fr1 rv th1 => ⟨d, rv, ?_⟩
  cases d with
  | true => exact hb s1 I1 σ F H1 Q fr1 th1
  | false => exact th1 I1 _ H1 (Same.refl _) fr1 rfl
theorem ef_or {ma : Res ε (Bool × γ)} {mb : γ → Res ε (Bool × γ)} (ha : EF X a Γ L s tBool xt ma) (hb : ∀ s1, EF X (.BoolOp .Or (b :: rest) pos) Γ L s1 tBool xt (mb s1)) : EF X (.BoolOp .Or (a :: b :: rest) pos) Γ L s tBool xt (ma.bnd fun x s1 => if x then .val (true, s1) else mb s1) := fun I σ F H Q fr th => by
  refine PE_to (pe_or pe_w pe_w) ?_
  refine Then.bnd ha fr th fun I1 v H1 d s1 e1 fr1 rv th1 => ⟨d, rv, ?_⟩
  cases d with
  | true => exact th1 I1 _ H1 (Same.refl _) fr1 rfl
  | false => exact hb s1 I1 σ F H1 Q fr1 th1
theorem ef_not {ma : Res ε (Bool × γ)} (ha : EF X a Γ L s tBool xt ma) : EF X (.UnaryOp .Not a pos) Γ L s tBool xt (ma.bnd fun x s1 => .val (!x, s1)) := fun I σ F H Q fr th => by
  refine PE_to (pe_not pe_w) ?_
  exact Then.bnd ha fr th fun I1 v H1 d s1 e1 fr1 rv th1 => ⟨d, rv, th1 I1 _ H1 (Same.refl _) fr1 rfl⟩
theorem ep_one {op} {d : α} (h : EP X a Γ L0 A d) : EP X (.BoolOp op [a] pos) Γ L0 A d := ef_one (γ := Unit) (L := fun _ => L0) h
theorem ep_and {d u : Bool} (ha : EP X a Γ L0 tBool d) (hb : EP X (.BoolOp .And (b :: rest) pos) Γ L0 tBool u) : EP X (.BoolOp .And (a :: b :: rest) pos) Γ L0 tBool (d && u) := by
  have h := ef_and (γ := Unit) (L := fun _ => L0) (mb := fun _ => .val (u, ())) ha fun _ => hb
  cases d <;> exact h
theorem ep_or {d u : Bool} (ha : EP X a Γ L0 tBool d) (hb : EP X (.BoolOp .Or (b :: rest) pos) Γ L0 tBool u) : EP X (.BoolOp .Or (a :: b :: rest) pos) Γ L0 tBool (d || u) := by
  have h := ef_or (γ := Unit) (L := fun _ => L0) (mb := fun _ => .val (u, ())) ha fun _ => hb
  cases d <;> exact h
theorem ep_not {d : Bool} (ha : EP X a Γ L0 tBool d) : EP X (.UnaryOp .Not a pos) Γ L0 tBool (!d) := ef_not (γ := Unit) (L := fun _ => L0) ha
theorem ef_if {mc : Res ε (Bool × γ)} {ma mb : γ → Res ε (δ × γ)} (hc : TF X c Γ L s xt mc) (ha : ∀ s1, EF X a Γ L s1 C xt (ma s1)) (hb : ∀ s1, EF X b Γ L s1 C xt (mb s1)) : EF X (.IfExp c a b pos) Γ L s C xt (mc.bnd fun x s1 => if x then ma s1 else mb s1) := fun I σ F H Q fr th => by
  refine PE_to (pe_ifExp pt_w pe_w pe_w) ?_
  refine Then.bndT hc fr th fun I1 H1 d s1 e1 fr1 th1 => ?_
  cases d with
  | true => exact ha s1 I1 σ F H1 Q fr1 th1
  | false => exact hb s1 I1 σ F H1 Q fr1 th1
theorem ep_if {d : Bool} {x y : δ} (hc : TP' X c Γ L0 d) (ha : EP X a Γ L0 C x) (hb : EP X b Γ L0 C y) : EP X (.IfExp c a b pos) Γ L0 C (if d then x else y) := by
  have h := ef_if (pos := pos) (γ := Unit) (L := fun _ => L0) (ma := fun _ => .val (x, ())) (mb := fun _ => .val (y, ())) hc (fun _ => ha) (fun _ => hb)
  cases d <;> exact h
/-- a < b < c -/
theorem ep_chain {zz : Bool} {op op' : CmpOp} {r r' : R2} {P : α → β → Prop} {P' : β → δ → Prop} {g : α → β → Bool} {g' : β → δ → Bool} {x : α} {y : β} {z : δ} (ho : OpR X (compareOp op) r) (ho' : OpR X (compareOp op') r') (D : D2 r A B tBool P g) (D' : D2 r' B C tBool P' g') (ha : EP X a Γ L0 A x) (hb : EP X b Γ L0 B y) (hc : EP X c Γ L0 C z) (hp : P x y) (hp' : P' y z)
    (hm : lastMarks [op, op'] [b, c] = false := by with_unfolding_all rfl) (heq : zz = (g x y && g' y z) := by exact rfl) : EP X (.Compare a [op, op'] [b, c] pos) Γ L0 tBool zz := by
  subst heq
  intro I σ F H Q fr th
  refine PE_to (pe_chain ho ho' pe_w pe_w pe_w hm) ?_
  refine ha.run fr fun I1 v H1 e1 fr1 rv => ?_
  refine hb.run fr1 fun I2 w H2 e2 fr2 rw => ?_
  refine D I2 _ H2 v w _ _ _ fr2.sep (A.mono e2 rv) rw hp fun I3 u H3 e3 se ru => ⟨g x y, ru, ?_⟩
  have fr3 := fr2.step e3 se
  cases hg : g x y with
  | true =>
    rw [hg] at th
    refine hc.run fr3 fun I4 t H4 e4 fr4 rt => ?_
    exact D' I4 _ H4 w t _ _ _ fr4.sep (B.mono (e3.trans e4) rw) rt hp' fun I5 q H5 e5 se5 rq => th I5 q H5 ((((e1.trans e2).trans e3).trans e4).trans e5) (fr4.step e5 se5) rq
  | false =>
    rw [hg] at th
    exact th I3 _ H3 ((e1.trans e2).trans e3) fr3 rfl
theorem tp_chain {zz : Bool} {op op' : CmpOp} {r r' : R2} {P : α → β → Prop} {P' : β → δ → Prop} {g : α → β → Bool} {g' : β → δ → Bool} {x : α} {y : β} {z : δ} (ho : OpR X (compareOp op) r) (ho' : OpR X (compareOp op') r') (D : D2 r A B tBool P g) (D' : D2 r' B C tBool P' g') (ha : EP X a Γ L0 A x) (hb : EP X b Γ L0 B y) (hc : EP X c Γ L0 C z) (hp : P x y) (hp' : P' y z)
    (hm : lastMarks [op, op'] [b, c] = false := by with_unfolding_all rfl) (heq : zz = (g x y && g' y z) := by exact rfl) : TP' X (.Compare a [op, op'] [b, c] pos) Γ L0 zz := by
  subst heq
  intro I σ F H Q fr th
  refine PT_to (pt_chain ho ho' pe_w pe_w pe_w hm) ?_
  refine ha.run fr fun I1 v H1 e1 fr1 rv => ?_
  refine hb.run fr1 fun I2 w H2 e2 fr2 rw => ?_
  refine D I2 _ H2 v w _ _ _ fr2.sep (A.mono e2 rv) rw hp fun I3 u H3 e3 se ru => ⟨g x y, ru, ?_⟩
  have fr3 := fr2.step e3 se
  cases hg : g x y with
  | true =>
    rw [hg] at th
    refine hc.run fr3 fun I4 t H4 e4 fr4 rt => ?_
    exact D' I4 _ H4 w t _ _ _ fr4.sep (B.mono (e3.trans e4) rw) rt hp' fun I5 q H5 e5 se5 rq => ⟨_, rq, th I5 H5 ((((e1.trans e2).trans e3).trans e4).trans e5) (fr4.step e5 se5)⟩
  | false =>
    rw [hg] at th
    exact ⟨false, rfl, th I3 H3 ((e1.trans e2).trans e3) fr3⟩
end
end Fw


namespace Fw
open PySem L2
/-! ## 13. what a def promises; its call -/
namespace Res
/-- a part of the state is changed -/
def lift {ε α γ γ' : Type} (m : Res ε (α × γ')) (put : γ' → γ) : Res ε (α × γ) := match m with
  | stuck => stuck
  | val p => val (p.1, put p.2)
  | exn x => exn x
/-- a def without a state -/
def up {ε α γ : Type} (m : Res ε (α × Unit)) (s : γ) : Res ε (α × γ) := match m with
  | stuck => stuck
  | val p => val (p.1, s)
  | exn x => exn x
@[simp] theorem lift_val {ε α γ γ' : Type} (d : α) (s : γ') (put : γ' → γ) : lift (val (d, s) : Res ε (α × γ')) put = val (d, put s) := rfl
@[simp] theorem up_val {ε α γ : Type} (d : α) (u : Unit) (s : γ) : up (val (d, u) : Res ε (α × Unit)) s = val (d, s) := rfl
@[simp] theorem up_exn {ε α γ : Type} (x : ε) (s : γ) : up (exn x : Res ε (α × Unit)) s = exn x := rfl
end Res
section
variable {α γ ε τ ρ ι : Type}
def rtV (A : Ty α) (L : γ → List Rg) : RT (α × γ) := ⟨fun p I v => A.rep I v p.1, fun p _ => L p.2⟩
def rtN (φ : α → CP) (L : γ → List Rg) : RT (α × γ) := ⟨fun _ _ v => ∃ q, v = .ref q, fun p v => match v with | .ref q => cell q (φ p.1) :: L p.2 | _ => L p.2⟩
/-- the promise: f, over the arguments' data and the state -/
def spec (T : ι → Tys τ) (L : ι → γ → List Rg) (rt : ι → RT ρ) (xt : ι → XT ε) (f : τ → γ → Res ε ρ) : Sp := fun vs H Q E => ∃ (i : ι) (I : Hp) (F : List Rg) (t : τ) (s : γ), Sep I (L i s ++ F) H ∧ (T i).rep I vs t ∧ (match f t s with
  | .stuck => False
  | .val p => ∀ I' v H', Same I I' → Sep I' ((rt i).regs p v ++ F) H' → (rt i).rep p I' v → Q v H'
  | .exn x => ∀ I' H' c da, Same I I' → Sep I' ((xt i).regs x ++ F) H' → (xt i).rep I' x c da → E c da H')
/-- what leaves a callee is taken -/
def PassW (CX : CXT) (X : Cx) : Prop := ∀ σ, PassesAt CX X σ (L2.WE (wX X) σ)
theorem passW0 {X : Cx} : PassW CX0 X := fun _ _ _ _ _ _ _ h => h.elim
theorem passWX {X : Cx} : PassW (L2.CX X.prog X.w) X := fun σ => passAt takesW σ
end
section
variable {X : Cx} {N : List Str} {sc : Scope} {own : Str → Bool} {α β γ γ' δ ε τ ι : Type} {A : Ty α} {B : Ty β} {C : Ty δ} {T : ι → Tys τ} {e a b c : Expr} {es rest : List Expr} {x : Str} {pos p : Pos} {Γ : List Slot} {L : γ → List Rg} {L' : ι → γ' → List Rg} {s : γ} {xt : XT ε} {L0 : List Rg} {CX : CXT} {k : Nat} {f : Addr} {fd : FuncData} {ps : List Str}
theorem ef_call {g : τ → γ' → Res ε (δ × γ')} {m : Res ε (τ × γ)} (i : ι) (get : γ → γ') (put : γ → γ' → γ) (R : γ → List Rg) (cx : Cxt X N sc own) (F : FnOk X.prog X.w X.K X.mg X.base CX k f fd ps (spec T L' (fun i => rtV C (L' i)) (fun _ => xt) g)) (hr : Room k X.A) (hm : X.mg x = some (.ref f)) (hk : PySem.W.keepIn X.K (.ref f) = true) (hb : Binds X.K fd ps []) (pw : PassW CX X)
    (ha : AF X (e :: es) Γ L s (T i) xt m) (hp : ∀ s u, (L (put s u)).Perm (L' i u ++ R s)) (hgp : ∀ s, put s (get s) = s) (hx : ∀ x, xt.regs x = [])
    (hg : glB sc x = true := by decide +kernel) (he : starEach (e :: es) X.env = (false, eval e X.env) :: starEach es X.env := by exact star_c rfl) (hpl : (backTo pos (starEach es X.env)).any (·.1) = false := by rfl) :
    EF X (.Call (.Name x p) (e :: es) [] pos) Γ L s C xt (m.bnd fun t s1 => (g t (get s1)).lift (put s1)) := fun I σ F' H Q fr th => by
  obtain ⟨h1, h2, h3⟩ := glB_gl cx hg
  refine PE_to (pe_callS F hr h1 hm hk hb pw pa_w h2 he hpl) ?_
  refine Then.bndA ha fr th fun I1 vs H1 t s1 e1 fr1 rv th1 => ?_
  have pm : (L s1 ++ F').Perm (L' i (get s1) ++ (R s1 ++ F')) := by
    have q := hp s1 (get s1)
    rw [hgp] at q
    rw [← List.append_assoc]
    exact q.append_right F'
  refine ⟨i, I1, R s1 ++ F', t, get s1, fr1.sep.perm pm, rv, ?_⟩
  cases hg : g t (get s1) with
  | stuck => rw [hg] at th1; exact th1
  | exn x =>
    rw [hg] at th1
    intro I2 H2 c da e2 se2 r2
    refine th1 I2 H2 c da e2 (fr1.step e2 ?_) r2
    rw [hx] at se2 ⊢
    have se2 : Sep I2 (R s1 ++ F') H2 := se2
    show Sep I2 F' H2
    generalize R s1 = RR at se2
    induction RR with
    | nil => exact se2
    | cons _ _ ih => exact ih se2.tail
  | val q =>
    rw [hg] at th1
    intro I2 v H2 e2 se2 r2
    refine th1 I2 v H2 e2 (fr1.step e2 ?_) r2
    have q2 := hp s1 q.2
    refine Sep.perm se2 ?_
    show (L' i q.2 ++ (R s1 ++ F')).Perm (L (put s1 q.2) ++ F')
    rw [← List.append_assoc]
    exact q2.symm.append_right F'
/-- the callee has no state -/
theorem ef_call0 {T : Tys τ} {g : τ → Unit → Res ε (δ × Unit)} {m : Res ε (τ × γ)} (cx : Cxt X N sc own) (F : FnOk X.prog X.w X.K X.mg X.base CX k f fd ps (spec (fun _ : Unit => T) (fun _ _ => []) (fun _ => rtV C (fun _ => [])) (fun _ => xt) g)) (hr : Room k X.A) (hm : X.mg x = some (.ref f)) (hk : PySem.W.keepIn X.K (.ref f) = true) (hb : Binds X.K fd ps []) (pw : PassW CX X)
    (ha : AF X (e :: es) Γ L s T xt m) (hx : ∀ x, xt.regs x = [])
    (hg : glB sc x = true := by decide +kernel) (he : starEach (e :: es) X.env = (false, eval e X.env) :: starEach es X.env := by exact star_c rfl) (hpl : (backTo pos (starEach es X.env)).any (·.1) = false := by rfl) :
    EF X (.Call (.Name x p) (e :: es) [] pos) Γ L s C xt (m.bnd fun t s1 => (g t ()).up s1) := by
  have h := ef_call (L' := fun _ _ => []) (T := fun _ => T) (γ' := Unit) (pos := pos) (p := p) () (fun _ => ()) (fun s _ => s) L cx F hr hm hk hb pw ha (fun s u => .refl _) (fun _ => rfl) hx hg he hpl
  have q : (fun (t : τ) (s1 : γ) => (g t ()).lift (fun _ => s1)) = fun t s1 => (g t ()).up s1 := by
    funext t s1
    cases g t () <;> rfl
  rw [q] at h
  exact h
/-- the callee's state is one's own -/
theorem ef_callS {g : τ → γ → Res ε (δ × γ)} {L' : ι → γ → List Rg} {m : Res ε (τ × γ)} (i : ι) (R : List Rg) (cx : Cxt X N sc own) (F : FnOk X.prog X.w X.K X.mg X.base CX k f fd ps (spec T L' (fun i => rtV C (L' i)) (fun _ => xt) g)) (hr : Room k X.A) (hm : X.mg x = some (.ref f)) (hk : PySem.W.keepIn X.K (.ref f) = true) (hb : Binds X.K fd ps []) (pw : PassW CX X)
    (ha : AF X (e :: es) Γ L s (T i) xt m) (hp : ∀ s, (L s).Perm (L' i s ++ R)) (hx : ∀ x, xt.regs x = [])
    (hg : glB sc x = true := by decide +kernel) (he : starEach (e :: es) X.env = (false, eval e X.env) :: starEach es X.env := by exact star_c rfl) (hpl : (backTo pos (starEach es X.env)).any (·.1) = false := by rfl) :
    EF X (.Call (.Name x p) (e :: es) [] pos) Γ L s C xt (m.bnd fun t s1 => g t s1) := by
  have h := ef_call (γ' := γ) (pos := pos) (p := p) i (fun s => s) (fun _ u => u) (fun _ => R) cx F hr hm hk hb pw ha (fun s u => hp u) (fun _ => rfl) hx hg he hpl
  have q : (fun (t : τ) (s1 : γ) => (g t s1).lift (fun u => u)) = fun t s1 => g t s1 := by
    funext t s1
    cases g t s1 <;> rfl
  rw [q] at h
  exact h
/-- the callee hands back a new object -/
theorem en_call {φ : δ → CP} {g : τ → γ' → Res ε (δ × γ')} {m : Res ε (τ × γ)} (i : ι) (get : γ → γ') (put : γ → γ' → γ) (R : γ → List Rg) (cx : Cxt X N sc own) (F : FnOk X.prog X.w X.K X.mg X.base CX k f fd ps (spec T L' (fun i => rtN φ (L' i)) (fun _ => xt) g)) (hr : Room k X.A) (hm : X.mg x = some (.ref f)) (hk : PySem.W.keepIn X.K (.ref f) = true) (hb : Binds X.K fd ps []) (pw : PassW CX X)
    (ha : AF X (e :: es) Γ L s (T i) xt m) (hp : ∀ s u, (L (put s u)).Perm (L' i u ++ R s)) (hgp : ∀ s, put s (get s) = s) (hx : ∀ x, xt.regs x = [])
    (hg : glB sc x = true := by decide +kernel) (he : starEach (e :: es) X.env = (false, eval e X.env) :: starEach es X.env := by exact star_c rfl) (hpl : (backTo pos (starEach es X.env)).any (·.1) = false := by rfl) :
    EN X (.Call (.Name x p) (e :: es) [] pos) Γ L s φ xt (m.bnd fun t s1 => (g t (get s1)).lift (put s1)) := fun I σ F' H Q fr th => by
  obtain ⟨h1, h2, h3⟩ := glB_gl cx hg
  refine PE_to (pe_callS F hr h1 hm hk hb pw pa_w h2 he hpl) ?_
  refine ha I σ F' H _ fr ?_
  cases m with
  | stuck => exact th
  | exn x => exact th
  | val mp =>
    obtain ⟨t, s1⟩ := mp
    intro I1 vs H1 e1 fr1 rv
    have pm : (L s1 ++ F').Perm (L' i (get s1) ++ (R s1 ++ F')) := by
      have q := hp s1 (get s1)
      rw [hgp] at q
      rw [← List.append_assoc]
      exact q.append_right F'
    refine ⟨i, I1, R s1 ++ F', t, get s1, fr1.sep.perm pm, rv, ?_⟩
    dsimp only [Res.bnd] at th
    cases hg : g t (get s1) with
    | stuck => rw [hg] at th; exact th
    | exn x =>
      rw [hg] at th
      intro I2 H2 c da e2 se2 r2
      refine th I2 H2 c da (e1.trans e2) (fr1.step e2 ?_) r2
      rw [hx] at se2 ⊢
      have se2 : Sep I2 (R s1 ++ F') H2 := se2
      show Sep I2 F' H2
      generalize R s1 = RR at se2
      induction RR with
      | nil => exact se2
      | cons _ _ ih => exact ih se2.tail
    | val q =>
      rw [hg] at th
      intro I2 v H2 e2 se2 ⟨r, r2⟩
      subst r2
      refine th I2 r H2 (e1.trans e2) (fr1.step e2 ?_)
      have q2 := hp s1 q.2
      refine Sep.perm se2 ?_
      show (cell r (φ q.1) :: (L' i q.2 ++ (R s1 ++ F'))).Perm (cell r (φ q.1) :: (L (put s1 q.2) ++ F'))
      rw [← List.append_assoc]
      exact (q2.symm.append_right F').cons _
end
end Fw


namespace Fw
open PySem L2
/-! ## 14. targets, what is walked -/
def GF (X : Cx) (tg : Expr) {β : Type} (B : Ty β) (up : List Slot → β → List Slot) (vs : List Nat) : Prop :=
  ∃ g : TG, PG X tg g ∧ ∀ (I : Hp) (σ : St) (Γ : List Slot) (L : List Rg) (H : Hp) (v : V) (d : β) (Q : St → Hp → Prop), FrOk I σ Γ L H → B.rep I v d →
    (∀ I' σ' H', Same I I' → FrOk I' σ' (up Γ d) L H' → σ'.length = σ.length → (∀ j, j ∉ vs → σ'[j]? = σ[j]?) → Q σ' H') → g v σ H Q
def Turns {β : Type} (J : It) (I : Hp) (B : Ty β) (xs : List β) : Prop := ∀ (I' : Hp) (L' : List Rg) (H : Hp), Same I I' → Sep I' L' H → ∀ i, (i = xs.length → J.stop i H) ∧ (i < xs.length → J.go i H ∧ ∀ x H', J.yld i H x H' → ∃ I'', Same I' I'' ∧ Sep I'' L' H' ∧ ∀ d, xs[i]? = some d → B.rep I'' x d)
def IF (X : Cx) (tg iter : Expr) {β γ ε : Type} (Γ : List Slot) (L : γ → List Rg) (s : γ) (B : Ty β) (xt : XT ε) (m : Res ε (List β × γ)) : Prop :=
  ∃ wi : TI, PI X tg iter wi ∧ ∀ (I : Hp) (σ : St) (F : List Rg) (H : Hp) (R : It → Hp → Prop), FrOk I σ Γ (L s ++ F) H → (match m with
    | .stuck => False
    | .val p => ∀ J I' H', Same I I' → FrOk I' σ Γ (L p.2 ++ F) H' → Turns J I' B p.1 → R J H'
    | .exn x => ∀ I' H' c da, Same I I' → FrOk I' σ Γ (xt.regs x ++ F) H' → xt.rep I' x c da → wX X c da σ H') → wi σ H R
section
variable {X : Cx} {N : List Str} {sc : Scope} {own : Str → Bool} {α β γ δ ε τ : Type} {A : Ty α} {B : Ty β} {C : Ty δ} {e a b c tg iter : Expr} {es rest : List Expr} {x y : Str} {pos p : Pos} {Γ : List Slot} {L : γ → List Rg} {s : γ} {xt : XT ε} {L0 : List Rg}
theorem gf_name (cx : Cxt X N sc own) (i : Nat) (hi : N[i]? = some x := by rfl) (ho : own x = true := by decide +kernel) : GF X (.Name x pos) B (fun Γ d => Γ.set i (.dat B d)) [i] := by
  obtain ⟨h1, h2⟩ := cx.st x ho
  refine ⟨gName i, pg_name (by rw [cx.hN]; exact cx.nd) (by rw [cx.hN]; exact hi) h1 h2, fun I σ Γ L H v d Q fr r k => ?_⟩
  exact k I _ H (Same.refl _) (fr.set r i) (List.length_set ..) fun j hj => by
    rw [List.getElem?_set_ne]
    intro z
    exact hj (by rw [z]; exact List.mem_cons_self)
/-- the target of pairs, triples -/
def GFs (X : Cx) (tgs : List Expr) {τ : Type} (T : Tys τ) (up : List Slot → τ → List Slot) (vs : List Nat) : Prop :=
  ∃ g : TGs, PGs X tgs g ∧ ∀ (I : Hp) (σ : St) (Γ : List Slot) (L : List Rg) (H : Hp) (ws : List V) (d : τ) (Q : St → Hp → Prop), FrOk I σ Γ L H → T.rep I ws d →
    (∀ I' σ' H', Same I I' → FrOk I' σ' (up Γ d) L H' → σ'.length = σ.length → (∀ j, j ∉ vs → σ'[j]? = σ[j]?) → Q σ' H') → g ws σ H Q
theorem gfs_nil : GFs X [] Tys.nil (fun Γ _ => Γ) [] := ⟨gNil, pgs_nil, fun I σ Γ L H ws d Q fr r k => ⟨r, k I σ H (Same.refl _) fr rfl fun _ _ => rfl⟩⟩
theorem gfs_cons {T : Tys τ} {u1 : List Slot → α → List Slot} {u2 : List Slot → τ → List Slot} {v1 v2 : List Nat} (h1 : GF X a A u1 v1) (h2 : GFs X es T u2 v2)
    (hh : List.map (fun x => x.snd) (assignEach (a :: es) X.env) = assign a X.env :: List.map (fun x => x.snd) (assignEach es X.env) := by rfl) : GFs X (a :: es) (Tys.cons A T) (fun Γ d => u2 (u1 Γ d.1) d.2) (v1 ++ v2) := by
  obtain ⟨g1, p1, q1⟩ := h1
  obtain ⟨g2, p2, q2⟩ := h2
  refine ⟨gCons g1 g2, pgs_cons p1 p2 hh, fun I σ Γ L H ws d Q fr r k => ?_⟩
  obtain ⟨w, wr, rfl, ra, rb⟩ := r
  refine ⟨w, wr, rfl, q1 I σ Γ L H w d.1 _ fr ra fun I1 σ1 H1 e1 fr1 l1 k1 => ?_⟩
  refine q2 I1 σ1 _ L H1 wr d.2 _ fr1 (T.mono e1 rb) fun I2 σ2 H2 e2 fr2 l2 k2 => ?_
  exact k I2 σ2 H2 (e1.trans e2) fr2 (l2.trans l1) fun j hj => (k2 j fun z => hj (List.mem_append_right _ z)).trans (k1 j fun z => hj (List.mem_append_left _ z))
theorem gf_tup {T : Tys τ} {u : List Slot → τ → List Slot} {vs : List Nat} {k n : Nat} (cc : Calm X) (h : GFs X es T u vs) 
    (hn : (assignEach es X.env).length = n := by rfl) (hst : (assignEach es X.env).findIdx? (·.1) = none := by rfl) (hT : ∀ t, (T.slots t).length = n := by intro _; rfl) : GF X (.Tuple es k pos) (tTup T) u vs := by
  obtain ⟨g, pg, q⟩ := h
  refine ⟨_, pg_tup cc.calm pg hn hst, fun I σ Γ L H v d Q fr r kk => ?_⟩
  obtain ⟨a, ws, rfl, h1, h2⟩ := r
  exact ⟨a, ws, rfl, .of (fr.sep.same _ _ h1), by rw [T.len h2, hT], q I σ Γ L H ws d Q fr h2 kk⟩

theorem if_seq {m : Res ε (List α × γ)} (h : EF X iter Γ L s (tSeq X.K A) xt m) : IF X tg iter Γ L s A xt m := ⟨_, pi_list pe_w, fun I σ F H R fr th => by
  refine h I σ F H _ fr ?_
  cases m with
  | stuck => exact th
  | exn x => exact th
  | val q =>
    intro I1 v H1 e1 fr1 r
    obtain ⟨a, vs, rfl, h1, h2⟩ := r
    have sq := Same.sql fr1.sep.same h1
    refine ⟨a, rfl, ⟨vs, sq⟩, th _ I1 H1 e1 fr1 fun I2 L2 H2 e2 se i => ?_⟩
    have sq2 : SqL X.K H2 a vs := Same.sql (e2.trans se.same) h1
    have hl := paired_len h2
    refine ⟨fun hi => ⟨vs, sq2, by omega⟩, fun hi => ⟨⟨vs, vs[i]'(by omega), sq2, by simp⟩, fun x H' y => ?_⟩⟩
    obtain ⟨rfl, y⟩ := y
    refine ⟨I2, Same.refl _, se, fun d hd => ?_⟩
    obtain ⟨d', hd', rd⟩ := paired_get h2 (y vs sq2)
    rw [hd] at hd'
    cases hd'
    exact A.mono e2 rd⟩
theorem ef_seq {m : Res ε (List α × γ)} (h : EF X e Γ L s (tLst A) xt m) : EF X e Γ L s (tSeq X.K A) xt m := fun I σ F H Q fr th => by
  refine h I σ F H Q fr ?_
  cases m with
  | stuck => exact th
  | exn x => exact th
  | val q => exact fun I' v H' e1 fr1 r => th I' v H' e1 fr1 (seq_of r)
theorem if_list {m : Res ε (List α × γ)} (h : EF X iter Γ L s (tLst A) xt m) : IF X tg iter Γ L s A xt m := if_seq (ef_seq h)
theorem if_tup {m : Res ε (List α × γ)} (h : EF X iter Γ L s (tTuL A) xt m) : IF X tg iter Γ L s A xt m := ⟨_, pi_tup pe_w, fun I σ F H R fr th => by
  refine h I σ F H _ fr ?_
  cases m with
  | stuck => exact th
  | exn x => exact th
  | val q =>
    intro I1 v H1 e1 fr1 r
    obtain ⟨a, vs, rfl, h1, h2⟩ := r
    have sq : SqT X.K H1 a vs := .of (fr1.sep.same _ _ h1)
    refine ⟨a, rfl, ⟨vs, sq⟩, th _ I1 H1 e1 fr1 fun I2 L2 H2 e2 se i => ?_⟩
    have sq2 : SqT X.K H2 a vs := SqT.of ((e2.trans se.same) _ _ h1)
    have hl := paired_len h2
    refine ⟨fun hi => ⟨vs, sq2, by omega⟩, fun hi => ⟨⟨vs, vs[i]'(by omega), sq2, by simp⟩, fun x H' y => ?_⟩⟩
    obtain ⟨rfl, y⟩ := y
    refine ⟨I2, Same.refl _, se, fun d hd => ?_⟩
    obtain ⟨d', hd', rd⟩ := paired_get h2 (y vs sq2)
    rw [hd] at hd'
    cases hd'
    exact A.mono e2 rd⟩
theorem if_str {m : Res ε (Tx × γ)} (h : EF X iter Γ L s tTx xt m) : IF X tg iter Γ L s tTx xt (m.bnd fun t s' => .val (t.map fun c => [c], s')) := ⟨_, pi_str pe_w, fun I σ F H R fr th => by
  refine h I σ F H _ fr ?_
  cases m with
  | stuck => exact th
  | exn x => exact th
  | val q =>
    intro I1 v H1 e1 fr1 r
    refine ⟨_, r, th _ I1 H1 e1 fr1 fun I2 L2 H2 e2 se i => ?_⟩
    have e0 : (⟨q.1.toArray⟩ : Str).cps.size = q.1.length := by simp
    have e3 : (q.1.map fun c => [c]).length = q.1.length := List.length_map ..
    refine ⟨fun hi => ?_, fun hi => ⟨?_, fun x H' y => ?_⟩⟩
    · have hi : i = (q.1.map fun c => [c]).length := hi
      show (⟨q.1.toArray⟩ : Str).cps.size ≤ i
      omega
    · have hi : i < (q.1.map fun c => [c]).length := hi
      show i < (⟨q.1.toArray⟩ : Str).cps.size
      omega
    · obtain ⟨rfl, c, hc, rfl⟩ := y
      refine ⟨I2, Same.refl _, se, fun d hd => ?_⟩
      have hc' : q.1[i]? = some c := by simpa using hc
      rw [List.getElem?_map, hc'] at hd
      cases hd
      rfl⟩
def rng (lo hi : Int) : List Int := (List.range (hi - lo).toNat).map fun i : Nat => lo + (i : Int)
theorem rng_len (lo hi : Int) : (rng lo hi).length = (hi - lo).toNat := by simp [rng]
@[irreducible] def rngOk (lo hi : Int) : Prop := -(2 ^ 62) ≤ lo ∧ lo < 2 ^ 62 ∧ -(2 ^ 62) ≤ hi ∧ hi < 2 ^ 62
@[irreducible] def rngOkD {lo hi : Int} : Decidable (rngOk lo hi) := by unfold rngOk; infer_instance
instance {lo hi : Int} : Decidable (rngOk lo hi) := rngOkD
theorem rngOk_iff {lo hi : Int} : rngOk lo hi ↔ (-(2 ^ 62) ≤ lo ∧ lo < 2 ^ 62 ∧ -(2 ^ 62) ≤ hi ∧ hi < 2 ^ 62) := by unfold rngOk; exact Iff.rfl
theorem turns_range {lo hi : Int} {I : Hp} : Turns (Itr lo (hi - lo).toNat) I tInt (rng lo hi) := fun I2 L2 H2 e2 se i => by
  have hl := rng_len lo hi
  refine ⟨fun h => ?_, fun h => ⟨?_, fun x H' y => ?_⟩⟩
  · show (hi - lo).toNat ≤ i; omega
  · show i < (hi - lo).toNat; omega
  · obtain ⟨rfl, rfl⟩ := y
    refine ⟨I2, Same.refl _, se, fun d hd => ?_⟩
    unfold rng at hd
    rw [List.getElem?_map, List.getElem?_range (by omega)] at hd
    cases hd
    rfl
theorem if_range1 {m : Res ε ((Int × Unit) × γ)} (cx : Cxt X N sc own) (hm : X.mg "range" = none) (ha : AF X [a] Γ L s (Tys1 tInt) xt m) (hg : glB sc "range" = true := by decide +kernel) (hs : starEach [a] X.env = [(false, eval a X.env)] := by exact star_c rfl) :
    IF X tg (.Call (.Name "range" p) [a] [] pos) Γ L s tInt xt (m.bnd fun t s' => Res.grd (rngOk 0 t.1) (rng 0 t.1, s')) := ⟨_, pi_range1 (glB_gl cx hg).1 hm pa_w hs, fun I σ F H R fr th => by
  refine ha I σ F H _ fr ?_
  cases m with
  | stuck => exact th
  | exn x => exact th
  | val q =>
    intro I1 vs H1 e1 fr1 r
    obtain ⟨v, rfl, rv⟩ := tys1 r
    cases rv
    dsimp only [Res.bnd] at th
    by_cases ho : rngOk 0 q.1.1
    · rw [Res.grd_true ho] at th
      refine ⟨q.1.1, rfl, (rngOk_iff.mp ho).2.2.1, (rngOk_iff.mp ho).2.2.2, th _ I1 H1 e1 fr1 ?_⟩
      have z : q.1.1.toNat = (q.1.1 - 0).toNat := by rw [Int.sub_zero]
      rw [z]
      exact turns_range
    · unfold Res.grd at th
      rw [if_neg ho] at th
      exact th.elim⟩
theorem if_range2 {m : Res ε ((Int × Int × Unit) × γ)} (cx : Cxt X N sc own) (hm : X.mg "range" = none) (ha : AF X [a, b] Γ L s (Tys2 tInt tInt) xt m) (hg : glB sc "range" = true := by decide +kernel) (hs : starEach [a, b] X.env = [(false, eval a X.env), (false, eval b X.env)] := by exact star_2 rfl rfl) (hs2 : starEach [b] X.env = [(false, eval b X.env)] := by exact star_c rfl) :
    IF X tg (.Call (.Name "range" p) [a, b] [] pos) Γ L s tInt xt (m.bnd fun t s' => Res.grd (rngOk t.1 t.2.1) (rng t.1 t.2.1, s')) := ⟨_, pi_range2 (glB_gl cx hg).1 hm pa_w hs hs2, fun I σ F H R fr th => by
  refine ha I σ F H _ fr ?_
  cases m with
  | stuck => exact th
  | exn x => exact th
  | val q =>
    intro I1 vs H1 e1 fr1 r
    obtain ⟨v, w, rfl, rv, rw⟩ := tys2 r
    cases rv
    cases rw
    dsimp only [Res.bnd] at th
    by_cases ho : rngOk q.1.1 q.1.2.1
    · rw [Res.grd_true ho] at th
      exact ⟨q.1.1, q.1.2.1, rfl, rngOk_iff.mp ho, th _ I1 H1 e1 fr1 turns_range⟩
    · unfold Res.grd at th
      rw [if_neg ho] at th
      exact th.elim⟩
end

/-! ## 15. comprehensions -/
namespace Res
def compL {ε β γ δ : Type} (tt : β → γ → Res ε (Bool × γ)) (ee : β → γ → Res ε (δ × γ)) : List β → γ → List δ → Res ε (List δ × γ)
  | [], s, acc => val (acc, s)
  | x :: xs, s, acc => (tt x s).bnd fun b s1 => if b then (ee x s1).bnd fun y s2 => compL tt ee xs s2 (acc ++ [y]) else compL tt ee xs s1 acc
end Res
def wG (X : Cx) (tg : Expr) : TG := fun v σ H Q => ∀ (pins : List (Addr × Obj)) (s : Shared) (u : Value), Inv X pins σ H s → RelV v u → wpAny (model X.prog X.w) X.A (assign tg X.env u) (fun _ s' => ∃ σ' H', Inv X pins σ' H' s' ∧ Q σ' H') X.xe s
@[irreducible] def wTs (X : Cx) (ifs : List Expr) : TT := fun σ H Q => ∀ (pins : List (Addr × Obj)) (s : Shared), Inv X pins σ H s →
    wpAny (model X.prog X.w) X.A (forIn ifs true fun c r => if r = true then do let ok ← isTrue c X.env (eval c X.env); pure (ForInStep.yield ok) else pure (ForInStep.yield r)) (TP X pins σ Q) X.xe s
def TsF (X : Cx) (ifs : List Expr) {γ ε : Type} (Γ : List Slot) (L : γ → List Rg) (s : γ) (xt : XT ε) (m : Res ε (Bool × γ)) : Prop :=
  ∀ (I : Hp) (σ : St) (F : List Rg) (H : Hp) (Q : Bool → Hp → Prop), FrOk I σ Γ (L s ++ F) H → ThenT X I F σ Γ L xt Q m → wTs X ifs σ H Q
/-- a block's context -/
abbrev blkX (X : Cx) (scope : Scope) (s : Shared) (H : Hp) (C : Addr) (cl : List (Str × Addr)) (fp : List Addr) : Cx := X.blk s H scope (compEnvC scope cl C X.env) fp
def ownB (scope sc : Scope) (x : Str) : Bool := locB (relS scope sc) x && ((scope.names.lookup x == some .cell) || (match (relS scope sc).names.lookup x with | some .local => true | _ => false))
section
variable {X : Cx} {N : List Str} {sc scope : Scope} {own : Str → Bool} {α β γ δ ε τ : Type} {A : Ty α} {B : Ty β} {C : Ty δ} {e a b c tg iter elt : Expr} {es rest ifs : List Expr} {x y : Str} {pos p : Pos} {Γ : List Slot} {L : γ → List Rg} {s : γ} {xt : XT ε} {L0 : List Rg}
theorem cxt_blk (cx : Cxt X N sc own) (s : Shared) (H : Hp) (C : Addr) (cl : List (Str × Addr)) (fp : List Addr) : Cxt (blkX X scope s H C cl fp) N (relS scope sc) (ownB scope sc) := by
  have hsc : (blkX X scope s H C cl fp).env.scope = relS scope sc := by
    show relabel scope X.env = _
    rw [← cx.hsc]
    rfl
  refine ⟨cx.hN, hsc, cx.nd, fun x h => ?_⟩
  unfold ownB at h
  rw [Bool.and_eq_true, Bool.or_eq_true] at h
  obtain ⟨h1, h2⟩ := h
  rw [hsc]
  refine ⟨?_, ?_⟩
  · unfold locB at h1
    unfold L2.Loc
    split at h1
    · exact .inl (by assumption)
    · exact .inr (by assumption)
    · cases h1
  · rcases h2 with h2 | h2
    · exact .inl h2
    · right
      split at h2
      · assumption
      · cases h2
theorem calm_blk (cc : Calm X) {s : Shared} {H : Hp} {C : Addr} {cl : List (Str × Addr)} {fp : List Addr} : Calm (blkX X scope s H C cl fp) := ⟨cc.calm, PassesOwn.never⟩
theorem wipe_eq {σ σ' : St} (hl : σ'.length = σ.length) : ∀ {vs : List Nat}, (∀ j, j ∉ vs → σ'[j]? = σ[j]?) → wipe σ' vs = wipe σ vs := fun {vs} h => by
  have key : ∀ (vs : List Nat) (σ : St) (j : Nat), (wipe σ vs)[j]? = if j ∈ vs ∧ j < σ.length then some none else σ[j]? := by
    intro vs
    induction vs with
    | nil => intro σ j; simp [wipe]
    | cons v vs ih =>
      intro σ j
      unfold wipe
      by_cases hj : v = j
      · subst hj
        by_cases hv : v < σ.length
        · rw [List.getElem?_set_self (by rw [wipe_length]; exact hv), if_pos ⟨List.mem_cons_self, hv⟩]
        · rw [List.getElem?_eq_none (by rw [List.length_set, wipe_length]; omega), if_neg (fun z => hv z.2), List.getElem?_eq_none (by omega)]
      · rw [List.getElem?_set_ne hj, ih]
        have e : (j ∈ v :: vs) ↔ (j ∈ vs) := by
          rw [List.mem_cons]
          exact ⟨fun z => z.elim (fun q => absurd q.symm hj) id, .inr⟩
        simp only [e]
  apply List.ext_getElem?
  intro j
  rw [key, key, hl]
  by_cases hj : j ∈ vs ∧ j < σ.length
  · rw [if_pos hj, if_pos hj]
  · rw [if_neg hj, if_neg hj]
    by_cases h1 : j ∈ vs
    · have h2 : ¬ j < σ.length := fun z => hj ⟨h1, z⟩
      rw [List.getElem?_eq_none (by omega), List.getElem?_eq_none (by omega)]
    · exact h j h1
def wipeG (Γ : List Slot) : List Nat → List Slot
  | [] => Γ
  | v :: vs => (wipeG Γ vs).set v .unk
theorem FrOk.wipe {I H : Hp} {σ : St} {Γ : List Slot} {L : List Rg} (h : FrOk I σ Γ L H) : ∀ vs, FrOk I (L2.wipe σ vs) (wipeG Γ vs) L H
  | [] => h
  | v :: vs => (FrOk.wipe h vs).setU v
theorem tsf_nil : TsF X [] Γ L s xt (.val (true, s)) := fun I σ F H Q fr th => by
  unfold wTs
  exact fun pins st Iv => pts_nil.run pins st σ H Q Iv (th I H (Same.refl _) fr)
theorem tsf_one {m : Res ε (Bool × γ)} (h : TF X c Γ L s xt m) : TsF X [c] Γ L s xt m := fun I σ F H Q fr th => by
  unfold wTs
  exact fun pins st Iv => (pts_one pt_w).run pins st σ H Q Iv (h I σ F H Q fr th)
/-- a comprehension's reading -/
def LC (X : Cx) (tg iter elt : Expr) (ifs : List Expr) (scope : Scope) (ownl : List (Str × Nat)) {δ γ ε : Type} (Γ : List Slot) (L : γ → List Rg) (s : γ) (φ : List δ → CP) (xt : XT ε) (m : Res ε (List δ × γ)) : Prop :=
  BlkOk X.N X.env.scope scope ownl ∧ ∃ (wi : TI) (g : TG) (tt : TT) (te : TE), PI X tg iter wi ∧ (∀ (s : Shared) (H : Hp) (C : Addr) (cl : List (Str × Addr)) (fp : List Addr), PG (blkX X scope s H C cl fp) tg g) ∧ (∀ (s : Shared) (H : Hp) (C : Addr) (cl : List (Str × Addr)) (fp : List Addr), PTs (blkX X scope s H C cl fp) ifs tt) ∧
    (∀ (s : Shared) (H : Hp) (C : Addr) (cl : List (Str × Addr)) (fp : List Addr), PE (blkX X scope s H C cl fp) elt te) ∧ ∀ (I : Hp) (σ : St) (F : List Rg) (H : Hp) (Q : VK), FrOk I σ Γ (L s ++ F) H → ThenN X I F σ Γ L φ xt Q m → tLc wi g tt te (ownl.map (·.2)) σ H Q
theorem lc_mk {ownl : List (Str × Nat)} {up : List Slot → β → List Slot} {vs : List Nat} {m : Res ε (List β × γ)} {tt : β → γ → Res Empty (Bool × γ)} {ee : β → γ → Res Empty (δ × γ)} (cx : Cxt X N sc own) (hvs : vs = ownl.map (·.2)) (hi : IF X tg iter Γ L s B xt m)
    (ok : blkC N sc scope ownl = true)
    (hg : ∃ g : TG, (∀ (s : Shared) (H : Hp) (C : Addr) (cl : List (Str × Addr)) (fp : List Addr), PG (blkX X scope s H C cl fp) tg g) ∧ ∀ (I : Hp) (σ : St) (Γ : List Slot) (L : List Rg) (H : Hp) (v : V) (d : β) (Q : St → Hp → Prop), FrOk I σ Γ L H → B.rep I v d →
      (∀ I' σ' H', Same I I' → FrOk I' σ' (up Γ d) L H' → σ'.length = σ.length → (∀ j, j ∉ vs → σ'[j]? = σ[j]?) → Q σ' H') → g v σ H Q)
    (ht : ∀ (s0 : Shared) (H : Hp) (C : Addr) (cl : List (Str × Addr)) (fp : List Addr) (Cb : Cxt (blkX X scope s0 H C cl fp) N (relS scope sc) (ownB scope sc)) (d : β) (s : γ), TsF (blkX X scope s0 H C cl fp) ifs (up (wipeG Γ vs) d) L s xt0 (tt d s))
    (he : ∀ (s0 : Shared) (H : Hp) (C' : Addr) (cl : List (Str × Addr)) (fp : List Addr) (Cb : Cxt (blkX X scope s0 H C' cl fp) N (relS scope sc) (ownB scope sc)) (d : β) (s : γ), EF (blkX X scope s0 H C' cl fp) elt (up (wipeG Γ vs) d) L s C xt0 (ee d s))
 :
    LC X tg iter elt ifs scope ownl Γ L s (cLst C) xt (m.bnd fun xs s1 => if xs.length ≤ sizeLine then (Res.compL tt ee xs s1 []).nox else .stuck) := by
  obtain ⟨g, pg, gg⟩ := hg
  obtain ⟨wi, pi, wq⟩ := hi
  subst hvs
  have pt : ∀ (s : Shared) (H : Hp) (C : Addr) (cl : List (Str × Addr)) (fp : List Addr), PTs (blkX X scope s H C cl fp) ifs (fun σ H Q => ∀ (s0 : Shared) (H0 : Hp) (C : Addr) (cl : List (Str × Addr)) (fp : List Addr), wTs (blkX X scope s0 H0 C cl fp) ifs σ H Q) :=
    fun s H C cl fp => ⟨fun pins st σ H' Q Iv h => by
    have h2 := h s H C cl fp
    unfold wTs at h2
    exact h2 pins st Iv⟩
  have pe : ∀ (s : Shared) (H : Hp) (C : Addr) (cl : List (Str × Addr)) (fp : List Addr), PE (blkX X scope s H C cl fp) elt (fun σ H Q => ∀ (s0 : Shared) (H0 : Hp) (C : Addr) (cl : List (Str × Addr)) (fp : List Addr), wE (blkX X scope s0 H0 C cl fp) elt σ H Q) :=
    fun s H C cl fp => ⟨fun pins st σ H' Q Iv h => pe_w.run pins st σ H' Q Iv (h s H C cl fp)⟩
  have bok : BlkOk X.N X.env.scope scope ownl := by rw [cx.hN, cx.hsc]; exact blkOk_by ok
  refine ⟨bok, _, _, _, _, pi, pg, pt, pe, fun I σ F H Q fr th => ?_⟩
  refine wq I σ F H _ fr ?_
  cases m with
  | stuck => exact th
  | exn x => exact th
  | val q =>
    obtain ⟨xs, s1⟩ := q
    intro J I1 H1 e1 fr1 tn D hD
    dsimp only [Res.bnd] at th
    by_cases hz : xs.length ≤ sizeLine
    case neg => rw [if_neg hz] at th; exact th.elim
    rw [if_pos hz] at th
    -- the new list is the first region
    refine ⟨fun i mm H2 => ∃ I2 s2 acc, mm = xs.length - i ∧ i ≤ xs.length ∧ acc.length ≤ i ∧ Same I1 I2 ∧ FrOk I2 σ Γ (cell D (cLst C acc) :: (L s2 ++ F)) H2 ∧ ThenN X I2 F σ Γ L (cLst C) xt Q (Res.compL tt ee (xs.drop i) s2 acc).nox,
      ⟨xs.length, I1, s1, [], by omega, Nat.zero_le _, Nat.le_refl _, Same.refl _, ⟨fr1.sep.new hD ⟨[], rfl, .nil⟩, fr1.len, fr1.sl⟩, ?_⟩, ?_⟩
    · rw [List.drop_zero]
      cases hc : Res.compL tt ee xs s1 [] with
      | stuck => rw [hc] at th; exact th
      | exn x => exact nomatch x
      | val r =>
        rw [hc] at th
        exact fun I' q H' e2 f2 => th I' q H' (e1.trans e2) f2
    · rintro i mm H2 ⟨I2, s2, acc, rfl, hi, ha, e2, fr2, th2⟩
      obtain ⟨t1, t2⟩ := tn I2 _ H2 e2 fr2.sep i
      by_cases hlt : i < xs.length
      · obtain ⟨t3, t4⟩ := t2 hlt
        have hdrop : xs.drop i = xs[i] :: xs.drop (i + 1) := List.drop_eq_getElem_cons hlt
        rw [hdrop] at th2
        refine .inr ⟨t3, fun H3 => ∃ I3 s3 acc3, acc3.length ≤ i + 1 ∧ Same I1 I3 ∧ FrOk I3 σ Γ (cell D (cLst C acc3) :: (L s3 ++ F)) H3 ∧ ThenN X I3 F σ Γ L (cLst C) xt Q (Res.compL tt ee (xs.drop (i + 1)) s3 acc3).nox,
          fun H' ⟨I3, s3, acc3, z1, z2, z3, z4⟩ => ⟨xs.length - (i + 1), by omega, I3, s3, acc3, rfl, by omega, z1, z2, z3, z4⟩, fun v H' y => ?_⟩
        obtain ⟨I3, e3, se3, rd⟩ := t4 v H' y
        have rv := rd _ (List.getElem?_eq_getElem hlt)
        have fr3 : FrOk I3 σ Γ (cell D (cLst C acc) :: (L s2 ++ F)) H' := fr2.step e3 se3
        refine gg I3 _ _ _ H' v _ _ (fr3.wipe (ownl.map (·.2))) rv fun I4 σ4 H4 e4 fr4 l4 k4 => ?_
        refine ⟨wipe_eq (by rw [l4]) k4 |>.trans ?_, fun s0 H0 C0 cl fp => ?_⟩
        · exact wipe_eq (wipe_length _ _) fun j hj => by
            have : ∀ (vs : List Nat) (σ : St), j ∉ vs → (L2.wipe σ vs)[j]? = σ[j]? := by
              intro vs
              induction vs with
              | nil => intro σ _; rfl
              | cons v vs ih =>
                intro σ h
                unfold L2.wipe
                rw [List.getElem?_set_ne (fun z => h (by rw [z]; exact List.mem_cons_self)), ih _ fun z => h (List.mem_cons_of_mem _ z)]
            exact this _ _ hj
        -- what a turn leaves is framed in the def's slots
        have back : ∀ {I5 : Hp} {H5 : Hp} {L5 : List Rg}, Same I4 I5 → Sep I5 L5 H5 → FrOk I5 σ Γ L5 H5 := fun e5 s5 => ⟨s5, fr.len, (fr3.sl.mono e4).mono e5⟩
        have pm : ∀ {s5 : γ} {acc5 : List δ}, (L s5 ++ (cell D (cLst C acc5) :: F)).Perm (cell D (cLst C acc5) :: (L s5 ++ F)) := List.perm_middle
        dsimp only [Res.compL] at th2
        refine ht s0 H0 C0 cl fp (cxt_blk cx s0 H0 C0 cl fp) _ s2 I4 σ4 (cell D (cLst C acc) :: F) H4 _ (fr4.perm pm.symm) ?_
        cases hT : tt xs[i] s2 with
        | stuck => rw [hT] at th2; exact th2
        | exn x => exact nomatch x
        | val bt =>
          obtain ⟨bb, s5⟩ := bt
          rw [hT] at th2
          dsimp only [Res.bnd] at th2
          intro I5 H5 e5 fr5
          cases bb with
          | false =>
            show ∃ I3 s3 acc3, _
            refine ⟨I5, s5, acc, by omega, ((e2.trans e3).trans e4).trans e5, back e5 (fr5.sep.perm pm), ?_⟩
            have th2 : ThenN X I2 F σ Γ L (cLst C) xt Q (Res.compL tt ee (xs.drop (i + 1)) s5 acc).nox := th2
            cases hc : Res.compL tt ee (xs.drop (i + 1)) s5 acc with
            | stuck => rw [hc] at th2; exact th2
            | exn x => exact nomatch x
            | val r =>
              rw [hc] at th2
              exact fun I' q H' e6 f6 => th2 I' q H' (((e3.trans e4).trans e5).trans e6) f6
          | true =>
            have th2 : ThenN X I2 F σ Γ L (cLst C) xt Q (Res.nox ((ee xs[i] s5).bnd fun y s2 => Res.compL tt ee (xs.drop (i + 1)) s2 (acc ++ [y]))) := th2
            intro s0 H0 C0 cl fp
            refine he s0 H0 C0 cl fp (cxt_blk cx s0 H0 C0 cl fp) _ s5 I5 σ4 (cell D (cLst C acc) :: F) H5 _ fr5 ?_
            cases hE : ee xs[i] s5 with
            | stuck => rw [hE] at th2; exact th2
            | exn x => exact nomatch x
            | val et =>
              obtain ⟨d6, s6⟩ := et
              rw [hE] at th2
              intro I6 v6 H6 e6 fr6 r6
              have se6 := fr6.sep.perm pm
              obtain ⟨o, ho, ⟨ws, rfl, hw⟩, hi6⟩ := se6.get
              refine ⟨ws, ho, by rw [paired_len hw]; omega, I6, s6, acc ++ [d6], by rw [List.length_append, List.length_singleton]; omega, (((e2.trans e3).trans e4).trans e5).trans e6, back (e5.trans e6) (se6.put ⟨_, rfl, paired_app hw (.cons r6 .nil)⟩), ?_⟩
              have th2 : ThenN X I2 F σ Γ L (cLst C) xt Q (Res.compL tt ee (xs.drop (i + 1)) s6 (acc ++ [d6])).nox := th2
              cases hc : Res.compL tt ee (xs.drop (i + 1)) s6 (acc ++ [d6]) with
              | stuck => rw [hc] at th2; exact th2
              | exn x => exact nomatch x
              | val r =>
                rw [hc] at th2
                exact fun I' q H' e7 f7 => th2 I' q H' ((((e3.trans e4).trans e5).trans e6).trans e7) f7
      · have hn : i = xs.length := by omega
        subst hn
        rw [List.drop_length] at th2
        exact .inl ⟨t1 rfl, th2 I2 D H2 (Same.refl _) fr2⟩
theorem en_lc {ownl : List (Str × Nat)} {φ : List δ → CP} {m : Res ε (List δ × γ)} (cx : Cxt X N sc own) (cc : Calm X) (h : LC X tg iter elt ifs scope ownl Γ L s φ xt m) (hs : ∀ x, foldedSetIterable iter X.env x = pure x := by intro _; rfl) : EN X (.ListComp elt [⟨tg, iter, ifs, 0⟩] scope pos) Γ L s φ xt m := fun I σ F H Q fr th => by
  obtain ⟨ok, wi, g, tt, te, pi, pg, pt, pe, rd⟩ := h
  exact PE_to (pe_lc cc.calm (by rw [cx.hN]; exact cx.nd) pi ok pg pt pe hs) (rd I σ F H Q fr th)
end
end Fw


namespace Fw
open PySem L2
namespace Out
/-- let -/
def lt {α β : Type} (d : α) (k : α → β) : β := k d
@[simp] theorem lt_eq {α β : Type} (d : α) (k : α → β) : lt d k = k d := rfl
/-- a while, so many turns at most -/
def whileF {ε ρ ν : Type} (C : ν → Res ε (Bool × Unit)) (B : ν → Out ε ρ ν) : Nat → ν → Out ε ρ ν
  | 0, _ => stuck
  | k + 1, n => Out.bnd (C n) fun b _ => if b then (B n).seq (whileF C B k) else nx n
end Out
/-! ## 16. statements -/
/-- of regions some are forgotten -/
def Sub (L L' : List Rg) : Prop := ∀ (I : Hp) (F : List Rg) (H : Hp), Sep I (L ++ F) H → Sep I (L' ++ F) H
theorem Sub.refl {L : List Rg} : Sub L L := fun _ _ _ h => h
theorem Sub.nil {L : List Rg} : Sub L [] := fun I F H h => by
  induction L with
  | nil => exact h
  | cons c L ih => exact ih h.tail
theorem Sub.drop {c : Rg} {L L' : List Rg} (h : Sub L L') : Sub (c :: L) L' := fun I F H q => h I F H q.tail
theorem Sub.keep {c : Rg} {L L' : List Rg} (h : Sub L L') : Sub (c :: L) (c :: L') := fun I F H q => by
  have q1 : Sep I (L ++ (c :: F)) H := q.perm List.perm_middle.symm
  exact (h I (c :: F) H q1).perm List.perm_middle
theorem Sub.perm {L L' : List Rg} (h : L.Perm L') : Sub L L' := fun I F H q => q.perm (h.append_right F)
section
variable {X : Cx} {N : List Str} {sc scope : Scope} {own : Str → Bool} {α β γ δ ε ρ ν ν' τ : Type} {A : Ty α} {B : Ty β} {C : Ty δ} {e a b c tg iter elt : Expr} {es rest ifs : List Expr} {ss b1 b2 : List Stmt} {x y : Str} {pos p : Pos} {Γ Γ' gx : List Slot} {L : γ → List Rg} {s : γ} {xt : XT ε} {L0 L1 : List Rg}
  {gn : ν → List Slot} {ln : ν → List Rg} {gj : ν' → List Slot} {lj : ν' → List Rg} {rt : RT ρ}
theorem sthen_up {I I1 : Hp} {F : List Rg} {D : Ends} (e1 : Same I I1) {m : Out ε ρ ν} (h : SThen X I F gn ln rt xt gx D m) : SThen X I1 F gn ln rt xt gx D m := by
  cases m with
  | stuck => exact h
  | nx n => exact fun I' σ' H' e => h I' σ' H' (e1.trans e)
  | ret r => exact fun I' v H' e => h I' v H' (e1.trans e)
  | exn x => exact fun I' σ' H' c da e => h I' σ' H' c da (e1.trans e)
/-- a part, then the rest -/
theorem SThen.bnd {I : Hp} {F : List Rg} {σ : St} {H : Hp} {D : Ends} {Q : VK} {m : Res ε (α × γ)} {k : α → γ → Out ε ρ ν} (ha : EF X a Γ L s A xt m) (wk : Wk Γ gx) (fr : FrOk I σ Γ (L s ++ F) H) (th : SThen X I F gn ln rt xt gx D (Out.bnd m k))
    (h : ∀ (I' : Hp) (v : V) (H' : Hp) (d : α) (s' : γ), Same I I' → FrOk I' σ Γ (L s' ++ F) H' → A.rep I' v d → SThen X I' F gn ln rt xt gx D (k d s') → Q v H') : wE X a σ H Q := by
  refine ha I σ F H _ fr ?_
  cases m with
  | stuck => exact th
  | exn x => exact fun I' H' c da e1 fr1 r => th I' σ H' c da e1 fr1.sep (fr1.sl.wk wk) r
  | val p => exact fun I' v H' e1 fr1 r => h I' v H' p.1 p.2 e1 fr1 r (sthen_up e1 th)
theorem SThen.bndN {φ : α → CP} {I : Hp} {F : List Rg} {σ : St} {H : Hp} {D : Ends} {Q : VK} {m : Res ε (α × γ)} {k : α → γ → Out ε ρ ν} (ha : EN X a Γ L s φ xt m) (wk : Wk Γ gx) (fr : FrOk I σ Γ (L s ++ F) H) (th : SThen X I F gn ln rt xt gx D (Out.bnd m k))
    (h : ∀ (I' : Hp) (q : Addr) (H' : Hp) (d : α) (s' : γ), Same I I' → FrOk I' σ Γ (cell q (φ d) :: (L s' ++ F)) H' → SThen X I' F gn ln rt xt gx D (k d s') → Q (.ref q) H') : wE X a σ H Q := by
  refine ha I σ F H _ fr ?_
  cases m with
  | stuck => exact th
  | exn x => exact fun I' H' c da e1 fr1 r => th I' σ H' c da e1 fr1.sep (fr1.sl.wk wk) r
  | val p => exact fun I' q H' e1 fr1 => h I' q H' p.1 p.2 e1 fr1 (sthen_up e1 th)
theorem SThen.bndT {I : Hp} {F : List Rg} {σ : St} {H : Hp} {D : Ends} {Q : Bool → Hp → Prop} {m : Res ε (Bool × γ)} {k : Bool → γ → Out ε ρ ν} (ha : TF X a Γ L s xt m) (wk : Wk Γ gx) (fr : FrOk I σ Γ (L s ++ F) H) (th : SThen X I F gn ln rt xt gx D (Out.bnd m k))
    (h : ∀ (I' : Hp) (H' : Hp) (d : Bool) (s' : γ), Same I I' → FrOk I' σ Γ (L s' ++ F) H' → SThen X I' F gn ln rt xt gx D (k d s') → Q d H') : wT X a σ H Q := by
  refine ha I σ F H _ fr ?_
  cases m with
  | stuck => exact th
  | exn x => exact fun I' H' c da e1 fr1 r => th I' σ H' c da e1 fr1.sep (fr1.sl.wk wk) r
  | val p => exact fun I' H' e1 fr1 => h I' H' p.1 p.2 e1 fr1 (sthen_up e1 th)

theorem sf_nil {n : ν} (w : Wk Γ (gn n)) (hl : (gn n).length = Γ.length) (q : Sub L0 (ln n)) : SF X [] Γ L0 gn ln rt xt gx (.nx n) := fun I σ F H D fr th => by
  refine PSs_to pss_nil ?_
  exact th I σ H (Same.refl _) ⟨q I F H fr.sep, by rw [hl]; exact fr.len, fr.sl.wk w⟩
theorem sf_asg {m : Res ε (α × γ)} {k : α → γ → Out ε ρ ν} (cx : Cxt X N sc own) (i : Nat) (h : EF X e Γ L s A xt m) (hr : ∀ d s', SF X ss (Γ.set i (.dat A d)) (L s') gn ln rt xt gx (k d s')) (hi : N[i]? = some x := by rfl) (ho : own x = true := by decide +kernel) (wk : Wk Γ gx := by first | exact Wk.nil | exact Wk.rfl)
    (hs : swapsWith e (some (.Name x p)) pos.line X.env = pure false := by rfl) : SF X (.Assign [.Name x p] e pos :: ss) Γ (L s) gn ln rt xt gx (Out.bnd m k) := fun I σ F H D fr th => by
  obtain ⟨h1, h2⟩ := cx.st x ho
  refine PSs_to (pss_cons (ps_set (by rw [cx.hN]; exact cx.nd) (by rw [cx.hN]; exact hi) h1 pe_w hs h2) pss_w) ?_
  refine SThen.bnd h wk fr th fun I1 v H1 d s1 e1 fr1 r th1 => ?_
  exact hr d s1 I1 _ F H1 D (fr1.set r i) th1
theorem sf_asgP {d : α} {k : α → Out ε ρ ν} (cx : Cxt X N sc own) (i : Nat) (h : EP X e Γ L0 A d) (hr : ∀ d, SF X ss (Γ.set i (.dat A d)) L0 gn ln rt xt gx (k d)) (hi : N[i]? = some x := by rfl) (ho : own x = true := by decide +kernel)
    (hs : swapsWith e (some (.Name x p)) pos.line X.env = pure false := by rfl) : SF X (.Assign [.Name x p] e pos :: ss) Γ L0 gn ln rt xt gx (Out.lt d k) := fun I σ F H D fr th => by
  obtain ⟨h1, h2⟩ := cx.st x ho
  refine PSs_to (pss_cons (ps_set (by rw [cx.hN]; exact cx.nd) (by rw [cx.hN]; exact hi) h1 pe_w hs h2) pss_w) ?_
  refine h.run fr fun I1 v H1 e1 fr1 r => ?_
  exact hr d I1 _ F H1 D (fr1.set r i) (sthen_up e1 th)
/-- x = a new object -/
theorem sf_asgN {φ : α → CP} {m : Res ε (α × γ)} {k : α → γ → Out ε ρ ν} (cx : Cxt X N sc own) (i : Nat) (h : EN X e Γ L s φ xt m) (hr : ∀ q d s', SF X ss (Γ.set i (.dat (tCell q) ())) (cell q (φ d) :: L s') gn ln rt xt gx (k d s')) (hi : N[i]? = some x := by rfl) (ho : own x = true := by decide +kernel) (wk : Wk Γ gx := by first | exact Wk.nil | exact Wk.rfl)
    (hs : swapsWith e (some (.Name x p)) pos.line X.env = pure false := by rfl) : SF X (.Assign [.Name x p] e pos :: ss) Γ (L s) gn ln rt xt gx (Out.bnd m k) := fun I σ F H D fr th => by
  obtain ⟨h1, h2⟩ := cx.st x ho
  refine PSs_to (pss_cons (ps_set (by rw [cx.hN]; exact cx.nd) (by rw [cx.hN]; exact hi) h1 pe_w hs h2) pss_w) ?_
  refine SThen.bndN h wk fr th fun I1 q H1 d s1 e1 fr1 th1 => ?_
  exact hr q d s1 I1 _ F H1 D (fr1.set rfl i) th1
/-- x = [.. for ..], kept as one's own, or made immutable -/
theorem sf_lcN {φ : List δ → CP} {ownl : List (Str × Nat)} {m : Res ε (List δ × γ)} {k : List δ → γ → Out ε ρ ν} (cx : Cxt X N sc own) (cc : Calm X) (i : Nat) (h : LC X tg iter elt ifs scope ownl Γ L s φ xt m) (hr : ∀ q d s', SF X ss (Γ.set i (.dat (tCell q) ())) (cell q (φ d) :: L s') gn ln rt xt gx (k d s'))
    (hi : N[i]? = some x := by rfl) (hl : sc.names.lookup x = some .local := by decide +kernel) (wk : Wk Γ gx := by first | exact Wk.nil | exact Wk.rfl)
    {pos2 : Pos} (hsw : (p.line == pos2.line) = true := by rfl) (ha : (scope.names.any fun (n, k) => n == x && (k == .local || k == .cell)) = false := by decide +kernel) (hk : sc.kind = .function := by rfl) (hs : ∀ x, foldedSetIterable iter X.env x = pure x := by intro _; rfl) :
    SF X (.Assign [.Name x p] (.ListComp elt [⟨tg, iter, ifs, 0⟩] scope pos2) pos :: ss) Γ (L s) gn ln rt xt gx (Out.bnd m k) := fun I σ F H D fr th => by
  obtain ⟨ok, wi, g, tt, te, pi, pg, pt, pe, rd⟩ := h
  have hl' : X.env.scope.names.lookup x = some .local := by rw [cx.hsc]; exact hl
  refine PSs_to (pss_cons (ps_setLc cc.calm (by rw [cx.hN]; exact cx.nd) (by rw [cx.hN]; exact hi) hl' (sw_true (by rw [cx.hsc]; exact hk) hl' hsw ha) pi ok pg pt pe hs) pss_w) ?_
  show tLc wi g tt te (ownl.map (·.2)) σ H fun v H1 => wSs X ss D (σ.set i (some v)) H1
  refine rd I σ F H _ fr ?_
  cases m with
  | stuck => exact th
  | exn x => exact fun I' H' c da e1 fr1 r => th I' σ H' c da e1 fr1.sep (fr1.sl.wk wk) r
  | val q => exact fun I' qa H' e1 fr1 => hr qa q.1 q.2 I' _ F H' D (fr1.set rfl i) (sthen_up e1 th)
theorem sf_lcF {ownl : List (Str × Nat)} {m : Res ε (List δ × γ)} {k : List δ → γ → Out ε ρ ν} (cx : Cxt X N sc own) (cc : Calm X) (i : Nat) (h : LC X tg iter elt ifs scope ownl Γ L s (cLst C) xt m) (hr : ∀ d s', SF X ss (Γ.set i (.dat (tLst C) d)) (L s') gn ln rt xt gx (k d s'))
    (hi : N[i]? = some x := by rfl) (hl : sc.names.lookup x = some .local := by decide +kernel) (wk : Wk Γ gx := by first | exact Wk.nil | exact Wk.rfl)
    {pos2 : Pos} (hsw : (p.line == pos2.line) = true := by rfl) (ha : (scope.names.any fun (n, k) => n == x && (k == .local || k == .cell)) = false := by decide +kernel) (hk : sc.kind = .function := by rfl) (hs : ∀ x, foldedSetIterable iter X.env x = pure x := by intro _; rfl) :
    SF X (.Assign [.Name x p] (.ListComp elt [⟨tg, iter, ifs, 0⟩] scope pos2) pos :: ss) Γ (L s) gn ln rt xt gx (Out.bnd m k) := fun I σ F H D fr th => by
  obtain ⟨ok, wi, g, tt, te, pi, pg, pt, pe, rd⟩ := h
  have hl' : X.env.scope.names.lookup x = some .local := by rw [cx.hsc]; exact hl
  refine PSs_to (pss_cons (ps_setLc cc.calm (by rw [cx.hN]; exact cx.nd) (by rw [cx.hN]; exact hi) hl' (sw_true (by rw [cx.hsc]; exact hk) hl' hsw ha) pi ok pg pt pe hs) pss_w) ?_
  show tLc wi g tt te (ownl.map (·.2)) σ H fun v H1 => wSs X ss D (σ.set i (some v)) H1
  refine rd I σ F H _ fr ?_
  cases m with
  | stuck => exact th
  | exn x => exact fun I' H' c da e1 fr1 r => th I' σ H' c da e1 fr1.sep (fr1.sl.wk wk) r
  | val q =>
    intro I' qa H' e1 fr1
    obtain ⟨o, ho, ⟨vs, rfl, hv⟩, hi', se⟩ := fr1.sep.freeze
    exact hr q.1 q.2 _ _ F H' D (FrOk.set (fr1.step (Same.upd hi') se) (A := tLst C) ⟨qa, vs, rfl, upd_same, paired_mono (Same.upd hi') hv⟩ i) (sthen_up (e1.trans (Same.upd hi')) th)
/-- a, b = e -/
theorem sf_asgT {m : Res ε (τ × γ)} {T : Tys τ} {u : List Slot → τ → List Slot} {vs : List Nat} {k : τ → γ → Out ε ρ ν} {kk : Nat} (hg : GF X (.Tuple es kk p) (tTup T) u vs) (h : EF X e Γ L s (tTup T) xt m) (hr : ∀ d s', SF X ss (u Γ d) (L s') gn ln rt xt gx (k d s')) (wk : Wk Γ gx := by first | exact Wk.nil | exact Wk.rfl)
    (hs : swapsWithSole [.Tuple es kk p] e pos.line X.env = pure false := by rfl) (hw : swappedStores [.Tuple es kk p] e X.env = pure none := by rfl) : SF X (.Assign [.Tuple es kk p] e pos :: ss) Γ (L s) gn ln rt xt gx (Out.bnd m k) := fun I σ F H D fr th => by
  obtain ⟨g, pg, q⟩ := hg
  refine PSs_to (pss_cons (ps_asg pe_w pg hs hw) pss_w) ?_
  refine SThen.bnd h wk fr th fun I1 v H1 d s1 e1 fr1 r th1 => ?_
  exact q I1 σ Γ _ H1 v d _ fr1 r fun I2 σ2 H2 e2 fr2 _ _ => hr d s1 I2 σ2 F H2 D fr2 (sthen_up e2 th1)
theorem sf_ret {A : Ty α} {Lr : γ → List Rg} {m : Res ε (α × γ)} (h : EF X e Γ L s A xt m) (q : ∀ s', Sub (L s') (Lr s')) (wk : Wk Γ gx := by first | exact Wk.nil | exact Wk.rfl) : SF X (.Return (some e) pos :: ss) Γ (L s) gn ln (rtV A Lr) xt gx (Out.bnd m fun d s' => .ret (d, s')) := fun I σ F H D fr th => by
  refine PSs_to (pss_cons (ps_ret pe_w) pss_w) ?_
  show wE X e σ H D.rt
  exact SThen.bnd h wk fr th fun I1 v H1 d s1 e1 fr1 r th1 => th1 I1 v H1 (Same.refl _) (q s1 I1 F H1 fr1.sep) r
theorem sf_retP {A : Ty α} {Lr : γ → List Rg} {d : α} (h : EP X e Γ (L s) A d) (q : Sub (L s) (Lr s)) : SF X (.Return (some e) pos :: ss) Γ (L s) gn ln (rtV A Lr) xt gx (.ret (d, s)) := fun I σ F H D fr th => by
  refine PSs_to (pss_cons (ps_ret pe_w) pss_w) ?_
  show wE X e σ H D.rt
  exact h.run fr fun I1 v H1 e1 fr1 r => th I1 v H1 e1 (q I1 F H1 fr1.sep) r
theorem sf_retN {φ : α → CP} {Lr : γ → List Rg} {m : Res ε (α × γ)} (h : EN X e Γ L s φ xt m) (q : ∀ s', Sub (L s') (Lr s')) (wk : Wk Γ gx := by first | exact Wk.nil | exact Wk.rfl) : SF X (.Return (some e) pos :: ss) Γ (L s) gn ln (rtN φ Lr) xt gx (Out.bnd m fun d s' => .ret (d, s')) := fun I σ F H D fr th => by
  refine PSs_to (pss_cons (ps_ret pe_w) pss_w) ?_
  show wE X e σ H D.rt
  exact SThen.bndN h wk fr th fun I1 qa H1 d s1 e1 fr1 th1 => th1 I1 _ H1 (Same.refl _) ((q s1).keep I1 F H1 fr1.sep) ⟨qa, rfl⟩
/-- return x, x an own object of the frame: it becomes the caller's -/
theorem sf_retC {φ : α → CP} {Lr : γ → List Rg} {d : α} {qa : Addr} (h : EP X e Γ (L s) (tCell qa) ()) (q : Sub (L s) (cell qa (φ d) :: Lr s)) : SF X (.Return (some e) pos :: ss) Γ (L s) gn ln (rtN φ Lr) xt gx (.ret (d, s)) := fun I σ F H D fr th => by
  refine PSs_to (pss_cons (ps_ret pe_w) pss_w) ?_
  show wE X e σ H D.rt
  refine h.run fr fun I1 v H1 e1 fr1 r => ?_
  have r : v = .ref qa := r
  subst r
  exact th I1 _ H1 e1 (q I1 F H1 fr1.sep) ⟨qa, rfl⟩
/-- .. handed back frozen -/
theorem ef_own {xs : List α} {qa : Addr} {L' : List Rg} (h : EP X e Γ L0 (tCell qa) ()) (hL : L0.Perm (cell qa (cLst A xs) :: L')) : ∀ (I : Hp) (σ : St) (F : List Rg) (H : Hp) (Q : VK), FrOk I σ Γ (L0 ++ F) H → (∀ I' v H', Same I I' → FrOk I' σ Γ (L' ++ F) H' → (tLst A).rep I' v xs → Q v H') → wE X e σ H Q := fun I σ F H Q fr k => by
  refine h.run fr fun I1 v H1 e1 fr1 r => ?_
  have r : v = .ref qa := r
  subst r
  have se : Sep I1 (cell qa (cLst A xs) :: (L' ++ F)) H1 := fr1.sep.perm (hL.append_right F)
  obtain ⟨o, ho, ⟨vs, rfl, hv⟩, hi, s2⟩ := se.freeze
  exact k _ _ _ (e1.trans (Same.upd hi)) (fr1.step (Same.upd hi) s2) ⟨qa, vs, rfl, upd_same, paired_mono (Same.upd hi) hv⟩
theorem sf_retL {Lr : γ → List Rg} {xs : List α} {qa : Addr} {L' : List Rg} (h : EP X e Γ (L s) (tCell qa) ()) (hL : (L s).Perm (cell qa (cLst A xs) :: L')) (q : Sub L' (Lr s)) : SF X (.Return (some e) pos :: ss) Γ (L s) gn ln (rtV (tLst A) Lr) xt gx (.ret (xs, s)) := fun I σ F H D fr th => by
  refine PSs_to (pss_cons (ps_ret pe_w) pss_w) ?_
  show wE X e σ H D.rt
  exact ef_own h hL I σ F H _ fr fun I1 v H1 e1 fr1 r => th I1 v H1 e1 (q I1 F H1 fr1.sep) r
theorem sf_retU {Lr : γ → List Rg} (q : Sub (L s) (Lr s)) : SF X (.Return none pos :: ss) Γ (L s) gn ln (rtV tNone Lr) xt gx (.ret ((), s)) := fun I σ F H D fr th => by
  refine PSs_to (pss_cons ps_retN pss_w) ?_
  exact th I .non H (Same.refl _) (q I F H fr.sep) rfl
theorem sf_if {m : Res ε (Bool × γ)} {M1 M2 : γ → Out ε ρ ν'} {k : ν' → Out ε ρ ν} (h : TF X c Γ L s xt m) (h1 : ∀ s', SF X b1 Γ (L s') gj lj rt xt gx (M1 s')) (h2 : ∀ s', SF X b2 Γ (L s') gj lj rt xt gx (M2 s')) (hr : ∀ n, SF X ss (gj n) (lj n) gn ln rt xt gx (k n)) (wk : Wk Γ gx := by first | exact Wk.nil | exact Wk.rfl) :
    SF X (.If c b1 b2 pos :: ss) Γ (L s) gn ln rt xt gx (Out.bnd m fun b s' => (if b then M1 s' else M2 s').seq k) := fun I σ F H D fr th => by
  refine PSs_to (pss_cons (ps_if pt_w pss_w pss_w) pss_w) ?_
  have go : ∀ {bb : List Stmt} {Mb : Out ε ρ ν'} {I1 H1 : Hp} {s1 : γ}, SF X bb Γ (L s1) gj lj rt xt gx Mb → FrOk I1 σ Γ (L s1 ++ F) H1 → SThen X I1 F gn ln rt xt gx D (Mb.seq k) → wSs X bb { D with nx := wSs X ss D } σ H1 := fun {bb Mb I1 H1 s1} hb fr1 th1 => by
    refine hb I1 σ F H1 _ fr1 ?_
    cases Mb with
    | stuck => exact th1
    | nx n => exact fun I' σ' H' e f => hr n I' σ' F H' D f (sthen_up e th1)
    | ret r => exact th1
    | exn x => exact th1
  refine SThen.bndT h wk fr th fun I1 H1 d s1 e1 fr1 th1 => ?_
  cases d with
  | true => exact go (h1 s1) fr1 th1
  | false => exact go (h2 s1) fr1 th1
theorem sf_ifP {d : Bool} {M1 M2 : Out ε ρ ν'} {k : ν' → Out ε ρ ν} (h : TP' X c Γ L0 d) (h1 : SF X b1 Γ L0 gj lj rt xt gx M1) (h2 : SF X b2 Γ L0 gj lj rt xt gx M2) (hr : ∀ n, SF X ss (gj n) (lj n) gn ln rt xt gx (k n)) (wk : Wk Γ gx := by first | exact Wk.nil | exact Wk.rfl) :
    SF X (.If c b1 b2 pos :: ss) Γ L0 gn ln rt xt gx ((if d then M1 else M2).seq k) :=
  sf_if (γ := Unit) (L := fun _ => L0) (s := ()) (m := .val (d, ())) (M1 := fun _ => M1) (M2 := fun _ => M2) (tf_pure h) (fun _ => h1) (fun _ => h2) hr wk
theorem sf_for {m : Res ε (List β × γ)} {up : List Slot → β → List Slot} {vs : List Nat} {n0 : γ → ν'} {Bd : ν' → β → Out ε ρ ν'} {k : ν' → Out ε ρ ν} (cc : Calm X) (hi : IF X tg iter Γ L s B xt m) (hg : GF X tg B up vs) (h0 : ∀ s', Wk Γ (gj (n0 s')) ∧ (gj (n0 s')).length = Γ.length ∧ Sub (L s') (lj (n0 s')))
    (hb : ∀ n d, SF X b1 (up (gj n) d) (lj n) gj lj rt xt gx (Bd n d)) (hr : ∀ n, SF X ss (gj n) (lj n) gn ln rt xt gx (k n)) (wk : Wk Γ gx := by first | exact Wk.nil | exact Wk.rfl) (hs : ∀ x, foldedSetIterable iter X.env x = pure x := by intro _; rfl) :
    SF X (.For tg iter b1 [] pos :: ss) Γ (L s) gn ln rt xt gx (Out.bnd m fun xs s' => (Out.forL xs (n0 s') Bd).seq k) := fun I σ F H D fr th => by
  obtain ⟨wi, pi, wq⟩ := hi
  obtain ⟨g, pg, gq⟩ := hg
  refine PSs_to (pss_cons (ps_for cc.po cc.calm pi pg pss_w (hs := hs)) pss_w) ?_
  refine wq I σ F H _ fr ?_
  cases m with
  | stuck => exact th
  | exn x => exact fun I' H' c da e1 fr1 r => th I' σ H' c da e1 fr1.sep (fr1.sl.wk wk) r
  | val q =>
    obtain ⟨xs, s1⟩ := q
    intro J I1 H1 e1 fr1 tn
    obtain ⟨w0, l0, q0⟩ := h0 s1
    refine ⟨fun i mm σ2 H2 => ∃ I2 n, mm = xs.length - i ∧ i ≤ xs.length ∧ Same I1 I2 ∧ FrOk I2 σ2 (gj n) (lj n ++ F) H2 ∧ SThen X I2 F gn ln rt xt gx D ((Out.forL (xs.drop i) n Bd).seq k),
      ⟨xs.length, I1, n0 s1, by omega, Nat.zero_le _, Same.refl _, ⟨q0 I1 F H1 fr1.sep, by rw [l0]; exact fr1.len, fr1.sl.wk w0⟩, ?_⟩, ?_⟩
    · rw [List.drop_zero]
      exact sthen_up e1 th
    · rintro i mm σ2 H2 ⟨I2, n, rfl, hi, e2, fr2, th2⟩
      obtain ⟨t1, t2⟩ := tn I2 _ H2 e2 fr2.sep i
      by_cases hlt : i < xs.length
      · obtain ⟨t3, t4⟩ := t2 hlt
        have hdrop : xs.drop i = xs[i] :: xs.drop (i + 1) := List.drop_eq_getElem_cons hlt
        rw [hdrop] at th2
        refine .inr ⟨t3, fun σ3 H3 => ∃ I3 n3, Same I1 I3 ∧ FrOk I3 σ3 (gj n3) (lj n3 ++ F) H3 ∧ SThen X I3 F gn ln rt xt gx D ((Out.forL (xs.drop (i + 1)) n3 Bd).seq k),
          fun σ' H' ⟨I3, n3, z1, z2, z3⟩ => ⟨xs.length - (i + 1), by omega, I3, n3, rfl, by omega, z1, z2, z3⟩, fun v H' y => ?_⟩
        obtain ⟨I3, e3, se3, rd⟩ := t4 v H' y
        have rv := rd _ (List.getElem?_eq_getElem hlt)
        refine gq I3 σ2 (gj n) _ H' v _ _ (fr2.step e3 se3) rv fun I4 σ4 H4 e4 fr4 _ _ => ?_
        refine hb n xs[i] I4 σ4 F H4 _ fr4 ?_
        have th4 : SThen X I4 F gn ln rt xt gx D (((Bd n xs[i]).seq fun n' => Out.forL (xs.drop (i + 1)) n' Bd).seq k) := sthen_up (e3.trans e4) th2
        cases hB : Bd n xs[i] with
        | stuck => rw [hB] at th4; exact th4
        | ret r => rw [hB] at th4; exact th4
        | exn x => rw [hB] at th4; exact th4
        | nx n' =>
          rw [hB] at th4
          exact fun I' σ' H' e f => ⟨I', n', ((e2.trans e3).trans e4).trans e, f, sthen_up e th4⟩
      · have hn : i = xs.length := by omega
        subst hn
        rw [List.drop_length] at th2
        exact .inl ⟨t1 rfl, hr n I2 σ2 F H2 D fr2 th2⟩
theorem sf_while {n0 : ν'} {Cn : ν' → Res ε (Bool × Unit)} {Bd : ν' → Out ε ρ ν'} {k : ν' → Out ε ρ ν} {fuel : Nat} (cc : Calm X) (h0 : Wk Γ (gj n0) ∧ (gj n0).length = Γ.length ∧ Sub L0 (lj n0))
    (hc : ∀ n, TF X c (gj n) (fun _ : Unit => lj n) () xt (Cn n)) (hb : ∀ n, SF X b1 (gj n) (lj n) gj lj rt xt gx (Bd n)) (hr : ∀ n, SF X ss (gj n) (lj n) gn ln rt xt gx (k n)) (wk : ∀ n, Wk (gj n) gx := by intro _; exact Wk.nil) :
    SF X (.While c b1 [] pos :: ss) Γ L0 gn ln rt xt gx ((Out.whileF Cn Bd fuel n0).seq k) := fun I σ F H D fr th => by
  refine PSs_to (pss_cons (ps_while cc.po pt_w pss_w) pss_w) ?_
  obtain ⟨w0, l0, q0⟩ := h0
  refine ⟨fun mm σ2 H2 => ∃ I2 n, Same I I2 ∧ FrOk I2 σ2 (gj n) (lj n ++ F) H2 ∧ SThen X I2 F gn ln rt xt gx D ((Out.whileF Cn Bd mm n).seq k),
    ⟨fuel, I, n0, Same.refl _, ⟨q0 I F H fr.sep, by rw [l0]; exact fr.len, fr.sl.wk w0⟩, th⟩, ?_⟩
  rintro mm σ2 H2 ⟨I2, n, e2, fr2, th2⟩
  cases mm with
  | zero => exact th2.elim
  | succ mm =>
    refine hc n I2 σ2 F H2 _ fr2 ?_
    dsimp only [Out.whileF] at th2
    cases hC : Cn n with
    | stuck => rw [hC] at th2; exact th2
    | exn x =>
      rw [hC] at th2
      exact fun I' H' c da e1 fr1 r => th2 I' σ2 H' c da e1 fr1.sep (fr1.sl.wk (wk n)) r
    | val q =>
      obtain ⟨bb, n1⟩ := q
      rw [hC] at th2
      intro I3 H3 e3 fr4
      cases bb with
      | false =>
        have th2 : SThen X I2 F gn ln rt xt gx D (k n) := th2
        exact hr n I3 σ2 F H3 D fr4 (sthen_up e3 th2)
      | true =>
        have th2 : SThen X I2 F gn ln rt xt gx D (((Bd n).seq (Out.whileF Cn Bd mm)).seq k) := th2
        refine ⟨fun σ5 H5 => ∃ I5 n5, Same I I5 ∧ FrOk I5 σ5 (gj n5) (lj n5 ++ F) H5 ∧ SThen X I5 F gn ln rt xt gx D ((Out.whileF Cn Bd mm n5).seq k), fun σ5 H5 q5 => ⟨mm, Nat.lt_succ_self _, q5⟩, ?_⟩
        refine hb n I3 σ2 F H3 _ fr4 ?_
        cases hB : Bd n with
        | stuck => rw [hB] at th2; exact th2
        | ret r => rw [hB] at th2; exact sthen_up e3 th2
        | exn x => rw [hB] at th2; exact sthen_up e3 th2
        | nx n' =>
          rw [hB] at th2
          exact fun I' σ' H' e f => ⟨I', n', (e2.trans e3).trans e, f, sthen_up (e3.trans e) th2⟩
/-- an expression alone -/
theorem sf_expr {m : Res ε (α × γ)} {k : α → γ → Out ε ρ ν} (h : EF X e Γ L s A xt m) (hr : ∀ d s', SF X ss Γ (L s') gn ln rt xt gx (k d s')) (wk : Wk Γ gx := by first | exact Wk.nil | exact Wk.rfl) (hs : swapsWith e none pos.line X.env = pure false := by rfl) : SF X (.Expr e pos :: ss) Γ (L s) gn ln rt xt gx (Out.bnd m k) := fun I σ F H D fr th => by
  refine PSs_to (pss_cons (ps_expr pe_w hs) pss_w) ?_
  refine SThen.bnd h wk fr th fun I1 v H1 d s1 e1 fr1 r th1 => ?_
  exact hr d s1 I1 σ F H1 D fr1 th1
end
end Fw


namespace Fw
open PySem L2
/-! ## 17. a def keeps its promise -/
section
variable {P : Program} {w : World} {K : PySem.W.Frag} {mg : Str → Option Value} {base : Heap} {N ps : List Str} {x qual : Str} {st : Stmt} {f : Addr} {fd : FuncData} {k : Nat} {ι τ γ ε ρ : Type}
/-- what the body's context is known to be -/
structure Home (X : Cx) (P : Program) (w : World) (K : PySem.W.Frag) (mg : Str → Option Value) (base : Heap) (k : Nat) : Prop where
  prog : X.prog = P
  w : X.w = w
  K : X.K = K
  mg : X.mg = mg
  base : X.base = base
  room : Room k X.A
  st : X.stack = X.env :: X.outer
  fr : X.env.frame = some X.env.locals
namespace Out
/-- a def that ends without return hands back None -/
def fnU {ε ρ ν : Type} (r : ν → ρ) (m : Out ε ρ ν) : Res ε ρ := match m with
  | stuck => .stuck
  | nx n => .val (r n)
  | ret r => .val r
  | exn x => .exn x
end Out
theorem fn_ok {T : ι → Tys τ} {L : ι → γ → List Rg} {rt : ι → RT ρ} {xt : ι → XT ε} {g : τ → γ → Res ε ρ} (F : Fun K x qual st f fd) (S : FnScope N ps (defScope st)) (hps : ∀ i t, ((T i).slots t).length = ps.length := by intro _ _; rfl)
    (body : ∀ (X : Cx) (i : ι) (t : τ) (s : γ), Home X P w K mg base k → Cxt X N (defScope st) (locB (defScope st)) → Calm X →
      ∃ (ν : Type) (gn : ν → List Slot) (ln : ν → List Rg) (M : Out ε ρ ν), g t s = M.fn ∧ SF X (defBody st) ((T i).slots t ++ List.replicate (N.length - ps.length) .unk) (L i s) gn ln (rt i) (xt i) [] M) :
    FnOk P w K mg base (L2.CX P w) (k + 1) f fd ps (spec T L rt xt g) := by
  refine F.okX S (fun vs H Q E h => ?_) (fun cdv A outer s H vs Q E hr h => ?_)
  · obtain ⟨i, I, F', t, s, _, h1, _⟩ := h
    rw [(T i).len h1, hps]
  · obtain ⟨i, I, F', t, s', se, rv, th⟩ := h
    refine ⟨_, pss_w, ?_⟩
    obtain ⟨ν, gn, ln, M, e, sf⟩ := body _ i t s' ⟨rfl, rfl, rfl, rfl, rfl, hr, rfl, rfl⟩ (cxt_defX S.nd) calm_defX
    have hpl : ps.length ≤ N.length := by have := congrArg List.length S.pre; rw [List.length_take] at this; omega
    have hvl : vs.length = ps.length := by rw [(T i).len rv, hps]
    refine sf I _ F' H _ ⟨se, ?_, fun j sl q => ?_⟩ ?_
    · unfold L2.start
      simp only [List.length_append, List.length_map, List.length_replicate, hps, hvl]
    · by_cases hj : j < ((T i).slots t).length
      · rw [List.getElem?_append_left hj] at q
        have ok := (T i).ok rv j sl q
        have e1 : (L2.start N vs)[j]?.getD none = vs[j]? := by
          unfold L2.start
          rw [List.getElem?_append_left (by rw [List.length_map, (T i).len rv]; exact hj), List.getElem?_map]
          cases vs[j]? <;> rfl
        rw [e1]
        exact ok
      · rw [List.getElem?_append_right (by omega), List.getElem?_replicate] at q
        split at q
        · cases q; trivial
        · cases q
    · rw [e] at th
      cases M with
      | stuck => exact th
      | nx n => exact th.elim
      | ret r => exact fun I' v H' e1 s1 r1 => th I' v H' e1 s1 r1
      | exn y => exact fun I' σ' H' c da e1 s1 _ r1 => ⟨fun cls d _ H => E cls d H, takes_of rfl rfl rfl rfl, th I' H' c da e1 s1 r1⟩
theorem fn_okU {T : ι → Tys τ} {L : ι → γ → List Rg} {rt : ι → RT ρ} {xt : ι → XT ε} {g : τ → γ → Res ε ρ} (F : Fun K x qual st f fd) (S : FnScope N ps (defScope st)) (hps : ∀ i t, ((T i).slots t).length = ps.length := by intro _ _; rfl)
    (body : ∀ (X : Cx) (i : ι) (t : τ) (s : γ), Home X P w K mg base k → Cxt X N (defScope st) (locB (defScope st)) → Calm X →
      ∃ (ν : Type) (gn : ν → List Slot) (ln : ν → List Rg) (fin : ν → ρ) (M : Out ε ρ ν), g t s = M.fnU fin ∧ (∀ n I, (rt i).rep (fin n) I .non) ∧ (∀ n, Sub (ln n) ((rt i).regs (fin n) .non)) ∧ SF X (defBody st) ((T i).slots t ++ List.replicate (N.length - ps.length) .unk) (L i s) gn ln (rt i) (xt i) [] M) :
    FnOk P w K mg base (L2.CX P w) (k + 1) f fd ps (spec T L rt xt g) := by
  refine F.okX S (fun vs H Q E h => ?_) (fun cdv A outer s H vs Q E hr h => ?_)
  · obtain ⟨i, I, F', t, s, _, h1, _⟩ := h
    rw [(T i).len h1, hps]
  · obtain ⟨i, I, F', t, s', se, rv, th⟩ := h
    refine ⟨_, pss_w, ?_⟩
    obtain ⟨ν, gn, ln, fin, M, e, hf1, hf2, sf⟩ := body _ i t s' ⟨rfl, rfl, rfl, rfl, rfl, hr, rfl, rfl⟩ (cxt_defX S.nd) calm_defX
    have hpl : ps.length ≤ N.length := by have := congrArg List.length S.pre; rw [List.length_take] at this; omega
    have hvl : vs.length = ps.length := by rw [(T i).len rv, hps]
    refine sf I _ F' H _ ⟨se, ?_, fun j sl q => ?_⟩ ?_
    · unfold L2.start
      simp only [List.length_append, List.length_map, List.length_replicate, hps, hvl]
    · by_cases hj : j < ((T i).slots t).length
      · rw [List.getElem?_append_left hj] at q
        have ok := (T i).ok rv j sl q
        have e1 : (L2.start N vs)[j]?.getD none = vs[j]? := by
          unfold L2.start
          rw [List.getElem?_append_left (by rw [List.length_map, (T i).len rv]; exact hj), List.getElem?_map]
          cases vs[j]? <;> rfl
        rw [e1]
        exact ok
      · rw [List.getElem?_append_right (by omega), List.getElem?_replicate] at q
        split at q
        · cases q; trivial
        · cases q
    · rw [e] at th
      cases M with
      | stuck => exact th
      | nx n => exact fun I' σ' H' e1 fr => th I' .non H' e1 (hf2 n I' F' H' fr.sep) (hf1 n I')
      | ret r => exact fun I' v H' e1 s1 r1 => th I' v H' e1 s1 r1
      | exn y => exact fun I' σ' H' c da e1 s1 _ r1 => ⟨fun cls d _ H => E cls d H, takes_of rfl rfl rfl rfl, th I' H' c da e1 s1 r1⟩
end
/-! ## 18. own lists -/
def Has (L : List Rg) (q : Addr) (φ : CP) : Prop := ∃ L', L.Perm (cell q φ :: L')
theorem Has.hd {L : List Rg} {q : Addr} {φ : CP} : Has (cell q φ :: L) q φ := ⟨L, .refl _⟩
theorem Has.tl {L : List Rg} {c : Rg} {q : Addr} {φ : CP} (h : Has L q φ) : Has (c :: L) q φ := let ⟨L', p⟩ := h; ⟨c :: L', (p.cons c).trans (.swap _ _ _)⟩
theorem Has.get {I H : Hp} {L F : List Rg} {q : Addr} {φ : CP} (h : Has L q φ) (s : Sep I (L ++ F) H) : ∃ o, H q = some o ∧ φ.h I o ∧ I q = none := by
  obtain ⟨L', p⟩ := h
  exact Sep.get (L := L' ++ F) (s.perm (p.append_right F))
namespace Res
/-- no exception comes where none is let out -/
theorem _root_.Fw.ef_nox {X : Cx} {α γ ε ε' : Type} {A : Ty α} {e : Expr} {Γ : List Slot} {L : γ → List Rg} {s : γ} {xt : XT ε} {xt' : XT ε'} {m : Res ε (α × γ)} (h : EF X e Γ L s A xt m) : EF X e Γ L s A xt' m.nox := fun I σ F H Q fr th => by
  refine h I σ F H Q fr ?_
  cases m with
  | stuck => exact th
  | val p => exact th
  | exn x => exact th.elim
theorem _root_.Fw.tsf_nox {X : Cx} {γ ε ε' : Type} {es : List Expr} {Γ : List Slot} {L : γ → List Rg} {s : γ} {xt : XT ε} {xt' : XT ε'} {m : Res ε (Bool × γ)} (h : TsF X es Γ L s xt m) : TsF X es Γ L s xt' m.nox := fun I σ F H Q fr th => by
  refine h I σ F H Q fr ?_
  cases m with
  | stuck => exact th
  | val p => exact th
  | exn x => exact th.elim
end Res
section
variable {X : Cx} {N : List Str} {sc scope : Scope} {own : Str → Bool} {α β γ δ ε ρ ν ν' τ : Type} {A : Ty α} {B : Ty β} {C : Ty δ} {e a b c tg iter elt : Expr} {es rest ifs : List Expr} {ss b1 b2 : List Stmt} {x y : Str} {pos p apos : Pos} {Γ Γ' gx : List Slot} {L : γ → List Rg} {s : γ} {xt : XT ε} {L0 L1 : List Rg}
  {gn : ν → List Slot} {ln : ν → List Rg} {gj : ν' → List Slot} {lj : ν' → List Rg} {rt : RT ρ} {q : Addr} {xs : List α}
/-- xs[i], xs an own list -/
theorem ep_ixO [Inhabited α] {i : Int} (ha : EP X a Γ L0 (tCell q) ()) (hL : Has L0 q (cLst A xs)) (hb : EP X b Γ L0 tInt i) (hp : (atI xs i).isSome) (hs : PlainIx b := by exact fun _ _ => rfl) : EP X (.Subscript a b pos) Γ L0 A ((atI xs i).getD default) := fun I σ F H Q fr th => by
  refine PE_to (pe_ix ix_list pe_w pe_w hs) ?_
  refine ha.run fr fun I1 v H1 e1 fr1 rv => ?_
  cases rv
  refine hb.run fr1 fun I2 w H2 e2 fr2 rw => ?_
  cases rw
  obtain ⟨o, ho, ⟨vs, rfl, hv⟩, _⟩ := hL.get fr2.sep
  rw [at_some] at hp
  obtain ⟨j, hj⟩ := Option.isSome_iff_exists.mp hp
  have hlt := ix_lt hj
  obtain ⟨y, hy⟩ : ∃ y, vs[j]? = some y := ⟨_, List.getElem?_eq_getElem (by rw [paired_len hv]; exact hlt)⟩
  obtain ⟨d, hd, rd⟩ := paired_get hv hy
  refine ⟨q, vs, i, y, rfl, rfl, .of ho, ?_, th I2 _ H2 (e1.trans e2) fr2 ?_⟩
  · unfold atI; rw [paired_len hv, hj]; exact hy
  · show A.rep I2 y ((atI xs i).getD default)
    unfold atI; rw [hj]; show A.rep I2 y ((xs[j]?).getD default); rw [hd]; exact rd
theorem ef_ixO [Inhabited α] {i : Int} (ha : EP X a Γ (L s) (tCell q) ()) (hL : Has (L s) q (cLst A xs)) (hb : EP X b Γ (L s) tInt i) (hs : PlainIx b := by exact fun _ _ => rfl) : EF X (.Subscript a b pos) Γ L s A xt (Res.grd (atI xs i).isSome ((atI xs i).getD default, s)) := fun I σ F H Q fr th => by
  obtain ⟨h1, h2⟩ := Then.grd th
  exact ep_ixO ha hL hb h1 hs I σ F H Q fr fun I' v H' e1 f1 r => h2 I' v H' e1 f1 r
theorem ep_lenO (cx : Cxt X N sc own) (hm : X.mg "len" = none) (ha : EP X a Γ L0 (tCell q) ()) (hL : Has L0 q (cLst A xs)) (hg : glB sc "len" = true := by decide +kernel) (hs : starEach [a] X.env = (false, eval a X.env) :: starEach [] X.env := by exact star_c rfl) : EP X (.Call (.Name "len" p) [a] [] pos) Γ L0 tInt (xs.length : Int) := fun I σ F H Q fr th => by
  obtain ⟨h1, h2, h3⟩ := glB_gl cx hg
  refine PE_to (pe_callB call_len_seq h1 hm boot_len (pa_cons pe_w pa_nil hs) h3 h2 hs rfl) ?_
  refine ha.run fr fun I1 v H1 e1 fr1 rv => ?_
  cases rv
  obtain ⟨o, ho, ⟨vs, rfl, hv⟩, _⟩ := hL.get fr1.sep
  exact ⟨q, vs, rfl, .inl (.of ho), th I1 _ H1 e1 fr1 (by rw [paired_len hv]; rfl)⟩
/-- xs[i] = e -/
theorem sf_setO {m : Res ε (α × γ)} {xs : γ → List α} {R : γ → List Rg} {i : γ → Int} {k : α → γ → Out ε ρ ν} (he : EF X e Γ L s A xt m) (hL : ∀ s, (L s).Perm (cell q (cLst A (xs s)) :: R s)) (ha : ∀ s, EP X a Γ (L s) (tCell q) ()) (hb : ∀ s, EP X b Γ (L s) tInt (i s))
    (hr : ∀ d s, SF X ss Γ (cell q (cLst A ((xs s).set ((ixN (xs s).length (i s)).getD 0) d)) :: R s) gn ln rt xt gx (k d s)) (wk : Wk Γ gx := by first | exact Wk.nil | exact Wk.rfl)
    (hs : swapsWithSole [.Subscript a b p] e pos.line X.env = pure false := by rfl) (hw : swappedStores [.Subscript a b p] e X.env = pure none := by rfl)
    (has : ∀ v, assign (.Subscript a b p) X.env v = (do
      let ov ← holding [v] (eval a X.env)
      let iv ← holding [v, ov] (eval b X.env)
      standAt p
      holding [v, ov, iv] (setItem ov iv v)
      release [v, ov, iv] []) := by intro _; rfl) :
    SF X (.Assign [.Subscript a b p] e pos :: ss) Γ (L s) gn ln rt xt gx (Out.bnd m fun d s' => if (ixN (xs s').length (i s')).isSome then k d s' else .stuck) := fun I σ F H D fr th => by
  refine PSs_to (pss_cons (ps_asg pe_w (pg_sub pe_w pe_w set_list has) hs hw) pss_w) ?_
  refine SThen.bnd he wk fr th fun I1 v H1 d s1 e1 fr1 r th1 => ?_
  refine (ha s1).run fr1 fun I2 vo H2 e2 fr2 ro => ?_
  cases ro
  refine (hb s1).run fr2 fun I3 vi H3 e3 fr3 ri => ?_
  cases ri
  have se : Sep I3 (cell q (cLst A (xs s1)) :: (R s1 ++ F)) H3 := fr3.sep.perm ((hL s1).append_right F)
  obtain ⟨o, ho, ⟨vs, rfl, hv⟩, _⟩ := se.get
  cases hj : ixN (xs s1).length (i s1) with
  | none =>
    rw [hj] at th1
    exact th1.elim
  | some j =>
    rw [hj] at th1
    refine ⟨q, vs, i s1, j, rfl, rfl, ho, by rw [paired_len hv]; exact hj, ?_⟩
    have q1 := hr d s1
    rw [hj] at q1
    exact q1 I3 σ F _ D (fr3.step (Same.refl _) (se.put ⟨_, rfl, paired_set (A.mono (e2.trans e3) r) j hv⟩)) (sthen_up (e2.trans e3) th1)
/-- xs.append(e) -/
theorem sf_append {m : Res ε (α × γ)} {xs : γ → List α} {R : γ → List Rg} {k : α → γ → Out ε ρ ν} (ha : EP X a Γ (L s) (tCell q) ()) (he : EF X e Γ L s A xt m) (hL : ∀ s, (L s).Perm (cell q (cLst A (xs s)) :: R s))
    (hr : ∀ d s, SF X ss Γ (cell q (cLst A (xs s ++ [d])) :: R s) gn ln rt xt gx (k d s)) (wk : Wk Γ gx := by first | exact Wk.nil | exact Wk.rfl)
    (hbase : attributeBase a "append" X.env (eval a X.env) = eval a X.env := by rfl)
    (hfew : ((backTo p (starEach (e :: []) X.env)).all (fun x => !x.1) && (backToKw p (keywordEach [] X.env)).all (fun x => x.1.isSome)
      && decide ((e :: []).length + ([] : List Keyword).length + (if ([] : List Keyword).isEmpty then 0 else 1) < 30)) = true := by rfl)
    (hline : (apos.endLine == p.line) = true := by rfl) (hs : starEach (e :: []) X.env = (false, eval e X.env) :: starEach [] X.env := by exact star_c rfl) (hplain : (backTo p (starEach [] X.env)).any (·.1) = false := by rfl)
    (hsw : swapsWith (.Call (.Attribute a "append" apos) [e] [] p) none pos.line X.env = pure false := by rfl) :
    SF X (.Expr (.Call (.Attribute a "append" apos) [e] [] p) pos :: ss) Γ (L s) gn ln rt xt gx (Out.bnd m fun d s' => if (xs s').length < sizeLine then k d s' else .stuck) := fun I σ F H D fr th => by
  refine PSs_to (pss_cons (ps_expr (pe_bm PySem.F.plainAttrs_list PySem.F.slot_list_append PySem.F.type_list_append mt_append pe_w (pa_cons pe_w pa_nil hs) hbase hfew hline hs hplain) hsw) pss_w) ?_
  refine ha.run fr fun I0 va H0 e0 fr0 ra => ?_
  cases ra
  have se0 : Sep I0 (cell q (cLst A (xs s)) :: (R s ++ F)) H0 := fr0.sep.perm ((hL s).append_right F)
  obtain ⟨o0, ho0, ⟨vs0, rfl, hv0⟩, _⟩ := se0.get
  refine ⟨.inl ⟨rfl, vs0, .of ho0⟩, ?_⟩
  refine SThen.bnd he wk fr0 (sthen_up e0 th) fun I1 v H1 d s1 e1 fr1 r th1 => ?_
  have se : Sep I1 (cell q (cLst A (xs s1)) :: (R s1 ++ F)) H1 := fr1.sep.perm ((hL s1).append_right F)
  obtain ⟨o, ho, ⟨vs, rfl, hv⟩, _⟩ := se.get
  by_cases hz : (xs s1).length < sizeLine
  · rw [if_pos hz] at th1
    exact ⟨q, vs, v, rfl, rfl, ho, by rw [paired_len hv]; exact hz, hr d s1 I1 σ F _ D (fr1.step (Same.refl _) (se.put ⟨_, rfl, paired_app hv (.cons r .nil)⟩)) th1⟩
  · rw [if_neg hz] at th1
    exact th1.elim
end
end Fw


namespace Fw
open PySem L2
/-! ## 19. mixed forms (printed by mk_fo.py) -/
section
variable {X : Cx} {N : List Str} {sc scope : Scope} {own : Str → Bool} {α β γ γ' δ ε ρ ν ν' τ ι : Type} {A : Ty α} {B : Ty β} {C : Ty δ} {e a b c tg iter elt : Expr} {es rest ifs : List Expr} {ss b1 b2 : List Stmt} {x y : Str} {pos p apos : Pos} {Γ Γ' gx : List Slot} {L : γ → List Rg} {s : γ} {xt : XT ε} {L0 L1 : List Rg}
theorem ef_grd {P : Prop} [Decidable P] {d : α} (h : P → EP X e Γ (L s) A d) : EF X e Γ L s A xt (Res.grd P (d, s)) := fun I σ F H Q fr th => by
  obtain ⟨h1, h2⟩ := Then.grd th
  exact h h1 I σ F H Q fr fun I' v H' e1 f1 r => h2 I' v H' e1 f1 r
theorem ef_opFFT {mm : Res ε (δ × γ)} {op : Operator} {r : R2} {P : α → β → Prop} {g : α → β → δ} {ma : Res ε (α × γ)} {mb : α → γ → Res ε (β × γ)} (ho : OpR X (binaryOp op) r) (D : D2 r A B C P g) (ha : EF X a Γ L s A xt ma) (hb : ∀ x s1, EF X b Γ L s1 B xt (mb x s1)) (hp : ∀ x y, P x y := by intro _ _; trivial)  (heq : mm = (ma.bnd fun x s1 => (mb x s1).bnd fun y s2 => .val (g x y, s2)) := by exact rfl) :
    EF X (.BinOp a op b pos) Γ L s C xt mm := by
  subst heq
  intro I σ F H Q fr th
  refine PE_to (pe_op ho pe_w pe_w) ?_
  refine Then.bnd ha fr th fun I1 v H1 d s1 e1 fr1 rv th1 => ?_
  refine Then.bnd (hb d s1) fr1 th1 fun I2 w' H2 d2 s2 e2 fr2 rw th2 => ?_
  have th3 := th2
  exact D I2 _ H2 v w' d d2 _ fr2.sep (A.mono e2 rv) rw (hp d d2) fun I' z H' e3 se rz => th3 I' z H' e3 (fr2.step e3 se) rz
theorem ef_opPFG {mm : Res ε (δ × γ)} {op : Operator} {r : R2} {P : α → β → Prop} [∀ x y, Decidable (P x y)] {g : α → β → δ} {u : α} {mb : Res ε (β × γ)} (ho : OpR X (binaryOp op) r) (D : D2 r A B C P g) (ha : EP X a Γ (L s) A u) (hb : EF X b Γ L s B xt mb)   (heq : mm = (mb.bnd fun y s2 => Res.grd (P u y) (g u y, s2)) := by exact rfl) :
    EF X (.BinOp a op b pos) Γ L s C xt mm := by
  subst heq
  intro I σ F H Q fr th
  refine PE_to (pe_op ho pe_w pe_w) ?_
  refine ha.run fr fun I1 v H1 e1 fr1 rv => ?_
  refine Then.bnd hb fr1 (then_up e1 th) fun I2 w' H2 d2 s2 e2 fr2 rw th2 => ?_
  obtain ⟨hq, th3⟩ := Then.grd th2
  exact D I2 _ H2 v w' u d2 _ fr2.sep (A.mono e2 rv) rw (hq) fun I' z H' e3 se rz => th3 I' z H' e3 (fr2.step e3 se) rz
theorem ef_opPFT {mm : Res ε (δ × γ)} {op : Operator} {r : R2} {P : α → β → Prop} {g : α → β → δ} {u : α} {mb : Res ε (β × γ)} (ho : OpR X (binaryOp op) r) (D : D2 r A B C P g) (ha : EP X a Γ (L s) A u) (hb : EF X b Γ L s B xt mb) (hp : ∀ y, P u y := by intro _; trivial)  (heq : mm = (mb.bnd fun y s2 => .val (g u y, s2)) := by exact rfl) :
    EF X (.BinOp a op b pos) Γ L s C xt mm := by
  subst heq
  intro I σ F H Q fr th
  refine PE_to (pe_op ho pe_w pe_w) ?_
  refine ha.run fr fun I1 v H1 e1 fr1 rv => ?_
  refine Then.bnd hb fr1 (then_up e1 th) fun I2 w' H2 d2 s2 e2 fr2 rw th2 => ?_
  have th3 := th2
  exact D I2 _ H2 v w' u d2 _ fr2.sep (A.mono e2 rv) rw (hp d2) fun I' z H' e3 se rz => th3 I' z H' e3 (fr2.step e3 se) rz
theorem ef_opFPG {mm : Res ε (δ × γ)} {op : Operator} {r : R2} {P : α → β → Prop} [∀ x y, Decidable (P x y)] {g : α → β → δ} {ma : Res ε (α × γ)} {w : α → γ → β} (ho : OpR X (binaryOp op) r) (D : D2 r A B C P g) (ha : EF X a Γ L s A xt ma) (hb : ∀ x s1, EP X b Γ (L s1) B (w x s1))   (heq : mm = (ma.bnd fun x s1 => Res.grd (P x (w x s1)) (g x (w x s1), s1)) := by exact rfl) :
    EF X (.BinOp a op b pos) Γ L s C xt mm := by
  subst heq
  intro I σ F H Q fr th
  refine PE_to (pe_op ho pe_w pe_w) ?_
  refine Then.bnd ha fr th fun I1 v H1 d s1 e1 fr1 rv th1 => ?_
  refine (hb d s1).run fr1 fun I2 w' H2 e2 fr2 rw => ?_
  have th2 := then_up e2 th1
  obtain ⟨hq, th3⟩ := Then.grd th2
  exact D I2 _ H2 v w' d (w d s1) _ fr2.sep (A.mono e2 rv) rw (hq) fun I' z H' e3 se rz => th3 I' z H' e3 (fr2.step e3 se) rz
theorem ef_opFPT {mm : Res ε (δ × γ)} {op : Operator} {r : R2} {P : α → β → Prop} {g : α → β → δ} {ma : Res ε (α × γ)} {w : α → γ → β} (ho : OpR X (binaryOp op) r) (D : D2 r A B C P g) (ha : EF X a Γ L s A xt ma) (hb : ∀ x s1, EP X b Γ (L s1) B (w x s1)) (hp : ∀ x s, P x (w x s) := by intro _ _; trivial)  (heq : mm = (ma.bnd fun x s1 => .val (g x (w x s1), s1)) := by exact rfl) :
    EF X (.BinOp a op b pos) Γ L s C xt mm := by
  subst heq
  intro I σ F H Q fr th
  refine PE_to (pe_op ho pe_w pe_w) ?_
  refine Then.bnd ha fr th fun I1 v H1 d s1 e1 fr1 rv th1 => ?_
  refine (hb d s1).run fr1 fun I2 w' H2 e2 fr2 rw => ?_
  have th2 := then_up e2 th1
  have th3 := th2
  exact D I2 _ H2 v w' d (w d s1) _ fr2.sep (A.mono e2 rv) rw (hp d s1) fun I' z H' e3 se rz => th3 I' z H' e3 (fr2.step e3 se) rz
theorem ef_cmpFFT {mm : Res ε (δ × γ)} {op : CmpOp} {r : R2} {P : α → β → Prop} {g : α → β → δ} {ma : Res ε (α × γ)} {mb : α → γ → Res ε (β × γ)} (ho : OpR X (compareOp op) r) (D : D2 r A B C P g) (ha : EF X a Γ L s A xt ma) (hb : ∀ x s1, EF X b Γ L s1 B xt (mb x s1)) (hp : ∀ x y, P x y := by intro _ _; trivial) (hm : behindInMarks op b = false := by first | exact nomark _ | rfl) (heq : mm = (ma.bnd fun x s1 => (mb x s1).bnd fun y s2 => .val (g x y, s2)) := by exact rfl) :
    EF X (.Compare a [op] [b] pos) Γ L s C xt mm := by
  subst heq
  intro I σ F H Q fr th
  refine PE_to (pe_cmpR ho pe_w pe_w hm) ?_
  refine Then.bnd ha fr th fun I1 v H1 d s1 e1 fr1 rv th1 => ?_
  refine Then.bnd (hb d s1) fr1 th1 fun I2 w' H2 d2 s2 e2 fr2 rw th2 => ?_
  have th3 := th2
  exact D I2 _ H2 v w' d d2 _ fr2.sep (A.mono e2 rv) rw (hp d d2) fun I' z H' e3 se rz => th3 I' z H' e3 (fr2.step e3 se) rz
theorem ef_cmpPFG {mm : Res ε (δ × γ)} {op : CmpOp} {r : R2} {P : α → β → Prop} [∀ x y, Decidable (P x y)] {g : α → β → δ} {u : α} {mb : Res ε (β × γ)} (ho : OpR X (compareOp op) r) (D : D2 r A B C P g) (ha : EP X a Γ (L s) A u) (hb : EF X b Γ L s B xt mb)  (hm : behindInMarks op b = false := by first | exact nomark _ | rfl) (heq : mm = (mb.bnd fun y s2 => Res.grd (P u y) (g u y, s2)) := by exact rfl) :
    EF X (.Compare a [op] [b] pos) Γ L s C xt mm := by
  subst heq
  intro I σ F H Q fr th
  refine PE_to (pe_cmpR ho pe_w pe_w hm) ?_
  refine ha.run fr fun I1 v H1 e1 fr1 rv => ?_
  refine Then.bnd hb fr1 (then_up e1 th) fun I2 w' H2 d2 s2 e2 fr2 rw th2 => ?_
  obtain ⟨hq, th3⟩ := Then.grd th2
  exact D I2 _ H2 v w' u d2 _ fr2.sep (A.mono e2 rv) rw (hq) fun I' z H' e3 se rz => th3 I' z H' e3 (fr2.step e3 se) rz
theorem ef_cmpPFT {mm : Res ε (δ × γ)} {op : CmpOp} {r : R2} {P : α → β → Prop} {g : α → β → δ} {u : α} {mb : Res ε (β × γ)} (ho : OpR X (compareOp op) r) (D : D2 r A B C P g) (ha : EP X a Γ (L s) A u) (hb : EF X b Γ L s B xt mb) (hp : ∀ y, P u y := by intro _; trivial) (hm : behindInMarks op b = false := by first | exact nomark _ | rfl) (heq : mm = (mb.bnd fun y s2 => .val (g u y, s2)) := by exact rfl) :
    EF X (.Compare a [op] [b] pos) Γ L s C xt mm := by
  subst heq
  intro I σ F H Q fr th
  refine PE_to (pe_cmpR ho pe_w pe_w hm) ?_
  refine ha.run fr fun I1 v H1 e1 fr1 rv => ?_
  refine Then.bnd hb fr1 (then_up e1 th) fun I2 w' H2 d2 s2 e2 fr2 rw th2 => ?_
  have th3 := th2
  exact D I2 _ H2 v w' u d2 _ fr2.sep (A.mono e2 rv) rw (hp d2) fun I' z H' e3 se rz => th3 I' z H' e3 (fr2.step e3 se) rz
theorem ef_cmpFPG {mm : Res ε (δ × γ)} {op : CmpOp} {r : R2} {P : α → β → Prop} [∀ x y, Decidable (P x y)] {g : α → β → δ} {ma : Res ε (α × γ)} {w : α → γ → β} (ho : OpR X (compareOp op) r) (D : D2 r A B C P g) (ha : EF X a Γ L s A xt ma) (hb : ∀ x s1, EP X b Γ (L s1) B (w x s1))  (hm : behindInMarks op b = false := by first | exact nomark _ | rfl) (heq : mm = (ma.bnd fun x s1 => Res.grd (P x (w x s1)) (g x (w x s1), s1)) := by exact rfl) :
    EF X (.Compare a [op] [b] pos) Γ L s C xt mm := by
  subst heq
  intro I σ F H Q fr th
  refine PE_to (pe_cmpR ho pe_w pe_w hm) ?_
  refine Then.bnd ha fr th fun I1 v H1 d s1 e1 fr1 rv th1 => ?_
  refine (hb d s1).run fr1 fun I2 w' H2 e2 fr2 rw => ?_
  have th2 := then_up e2 th1
  obtain ⟨hq, th3⟩ := Then.grd th2
  exact D I2 _ H2 v w' d (w d s1) _ fr2.sep (A.mono e2 rv) rw (hq) fun I' z H' e3 se rz => th3 I' z H' e3 (fr2.step e3 se) rz
theorem ef_cmpFPT {mm : Res ε (δ × γ)} {op : CmpOp} {r : R2} {P : α → β → Prop} {g : α → β → δ} {ma : Res ε (α × γ)} {w : α → γ → β} (ho : OpR X (compareOp op) r) (D : D2 r A B C P g) (ha : EF X a Γ L s A xt ma) (hb : ∀ x s1, EP X b Γ (L s1) B (w x s1)) (hp : ∀ x s, P x (w x s) := by intro _ _; trivial) (hm : behindInMarks op b = false := by first | exact nomark _ | rfl) (heq : mm = (ma.bnd fun x s1 => .val (g x (w x s1), s1)) := by exact rfl) :
    EF X (.Compare a [op] [b] pos) Γ L s C xt mm := by
  subst heq
  intro I σ F H Q fr th
  refine PE_to (pe_cmpR ho pe_w pe_w hm) ?_
  refine Then.bnd ha fr th fun I1 v H1 d s1 e1 fr1 rv th1 => ?_
  refine (hb d s1).run fr1 fun I2 w' H2 e2 fr2 rw => ?_
  have th2 := then_up e2 th1
  have th3 := th2
  exact D I2 _ H2 v w' d (w d s1) _ fr2.sep (A.mono e2 rv) rw (hp d s1) fun I' z H' e3 se rz => th3 I' z H' e3 (fr2.step e3 se) rz
theorem ef_ixFFT {mm : Res ε (δ × γ)}  {r : R2} {P : α → β → Prop} {g : α → β → δ} {ma : Res ε (α × γ)} {mb : α → γ → Res ε (β × γ)} (ho : IxR X r) (D : D2 r A B C P g) (ha : EF X a Γ L s A xt ma) (hb : ∀ x s1, EF X b Γ L s1 B xt (mb x s1)) (hp : ∀ x y, P x y := by intro _ _; trivial) (hs : PlainIx b := by exact fun _ _ => rfl) (heq : mm = (ma.bnd fun x s1 => (mb x s1).bnd fun y s2 => .val (g x y, s2)) := by exact rfl) :
    EF X (.Subscript a b pos) Γ L s C xt mm := by
  subst heq
  intro I σ F H Q fr th
  refine PE_to (pe_ix ho pe_w pe_w hs) ?_
  refine Then.bnd ha fr th fun I1 v H1 d s1 e1 fr1 rv th1 => ?_
  refine Then.bnd (hb d s1) fr1 th1 fun I2 w' H2 d2 s2 e2 fr2 rw th2 => ?_
  have th3 := th2
  exact D I2 _ H2 v w' d d2 _ fr2.sep (A.mono e2 rv) rw (hp d d2) fun I' z H' e3 se rz => th3 I' z H' e3 (fr2.step e3 se) rz
theorem ef_ixPFG {mm : Res ε (δ × γ)}  {r : R2} {P : α → β → Prop} [∀ x y, Decidable (P x y)] {g : α → β → δ} {u : α} {mb : Res ε (β × γ)} (ho : IxR X r) (D : D2 r A B C P g) (ha : EP X a Γ (L s) A u) (hb : EF X b Γ L s B xt mb)  (hs : PlainIx b := by exact fun _ _ => rfl) (heq : mm = (mb.bnd fun y s2 => Res.grd (P u y) (g u y, s2)) := by exact rfl) :
    EF X (.Subscript a b pos) Γ L s C xt mm := by
  subst heq
  intro I σ F H Q fr th
  refine PE_to (pe_ix ho pe_w pe_w hs) ?_
  refine ha.run fr fun I1 v H1 e1 fr1 rv => ?_
  refine Then.bnd hb fr1 (then_up e1 th) fun I2 w' H2 d2 s2 e2 fr2 rw th2 => ?_
  obtain ⟨hq, th3⟩ := Then.grd th2
  exact D I2 _ H2 v w' u d2 _ fr2.sep (A.mono e2 rv) rw (hq) fun I' z H' e3 se rz => th3 I' z H' e3 (fr2.step e3 se) rz
theorem ef_ixPFT {mm : Res ε (δ × γ)}  {r : R2} {P : α → β → Prop} {g : α → β → δ} {u : α} {mb : Res ε (β × γ)} (ho : IxR X r) (D : D2 r A B C P g) (ha : EP X a Γ (L s) A u) (hb : EF X b Γ L s B xt mb) (hp : ∀ y, P u y := by intro _; trivial) (hs : PlainIx b := by exact fun _ _ => rfl) (heq : mm = (mb.bnd fun y s2 => .val (g u y, s2)) := by exact rfl) :
    EF X (.Subscript a b pos) Γ L s C xt mm := by
  subst heq
  intro I σ F H Q fr th
  refine PE_to (pe_ix ho pe_w pe_w hs) ?_
  refine ha.run fr fun I1 v H1 e1 fr1 rv => ?_
  refine Then.bnd hb fr1 (then_up e1 th) fun I2 w' H2 d2 s2 e2 fr2 rw th2 => ?_
  have th3 := th2
  exact D I2 _ H2 v w' u d2 _ fr2.sep (A.mono e2 rv) rw (hp d2) fun I' z H' e3 se rz => th3 I' z H' e3 (fr2.step e3 se) rz
theorem ef_ixFPG {mm : Res ε (δ × γ)}  {r : R2} {P : α → β → Prop} [∀ x y, Decidable (P x y)] {g : α → β → δ} {ma : Res ε (α × γ)} {w : α → γ → β} (ho : IxR X r) (D : D2 r A B C P g) (ha : EF X a Γ L s A xt ma) (hb : ∀ x s1, EP X b Γ (L s1) B (w x s1))  (hs : PlainIx b := by exact fun _ _ => rfl) (heq : mm = (ma.bnd fun x s1 => Res.grd (P x (w x s1)) (g x (w x s1), s1)) := by exact rfl) :
    EF X (.Subscript a b pos) Γ L s C xt mm := by
  subst heq
  intro I σ F H Q fr th
  refine PE_to (pe_ix ho pe_w pe_w hs) ?_
  refine Then.bnd ha fr th fun I1 v H1 d s1 e1 fr1 rv th1 => ?_
  refine (hb d s1).run fr1 fun I2 w' H2 e2 fr2 rw => ?_
  have th2 := then_up e2 th1
  obtain ⟨hq, th3⟩ := Then.grd th2
  exact D I2 _ H2 v w' d (w d s1) _ fr2.sep (A.mono e2 rv) rw (hq) fun I' z H' e3 se rz => th3 I' z H' e3 (fr2.step e3 se) rz
theorem ef_ixFPT {mm : Res ε (δ × γ)}  {r : R2} {P : α → β → Prop} {g : α → β → δ} {ma : Res ε (α × γ)} {w : α → γ → β} (ho : IxR X r) (D : D2 r A B C P g) (ha : EF X a Γ L s A xt ma) (hb : ∀ x s1, EP X b Γ (L s1) B (w x s1)) (hp : ∀ x s, P x (w x s) := by intro _ _; trivial) (hs : PlainIx b := by exact fun _ _ => rfl) (heq : mm = (ma.bnd fun x s1 => .val (g x (w x s1), s1)) := by exact rfl) :
    EF X (.Subscript a b pos) Γ L s C xt mm := by
  subst heq
  intro I σ F H Q fr th
  refine PE_to (pe_ix ho pe_w pe_w hs) ?_
  refine Then.bnd ha fr th fun I1 v H1 d s1 e1 fr1 rv th1 => ?_
  refine (hb d s1).run fr1 fun I2 w' H2 e2 fr2 rw => ?_
  have th2 := then_up e2 th1
  have th3 := th2
  exact D I2 _ H2 v w' d (w d s1) _ fr2.sep (A.mono e2 rv) rw (hp d s1) fun I' z H' e3 se rz => th3 I' z H' e3 (fr2.step e3 se) rz
theorem tf_cmpFFT {mm : Res ε (Bool × γ)} {op : CmpOp} {r : R2} {P : α → β → Prop} {g : α → β → Bool} {ma : Res ε (α × γ)} {mb : α → γ → Res ε (β × γ)} (ho : OpR X (compareOp op) r) (D : D2 r A B tBool P g) (ha : EF X a Γ L s A xt ma) (hb : ∀ x s1, EF X b Γ L s1 B xt (mb x s1)) (hp : ∀ x y, P x y := by intro _ _; trivial) (hm : behindInMarks op b = false := by first | exact nomark _ | rfl) (heq : mm = (ma.bnd fun x s1 => (mb x s1).bnd fun y s2 => .val (g x y, s2)) := by exact rfl) :
    TF X (.Compare a [op] [b] pos) Γ L s xt mm := by
  subst heq
  intro I σ F H Q fr th
  refine PT_to (pt_cmpR ho pe_w pe_w hm) ?_
  refine ThenT.bnd ha fr th fun I1 v H1 d s1 e1 fr1 rv th1 => ?_
  refine ThenT.bnd (hb d s1) fr1 th1 fun I2 w' H2 d2 s2 e2 fr2 rw th2 => ?_
  have th3 := th2
  exact D I2 _ H2 v w' d d2 _ fr2.sep (A.mono e2 rv) rw (hp d d2) fun I' z H' e3 se rz => ⟨_, rz, th3 I' H' e3 (fr2.step e3 se)⟩
theorem ThenT.grd {I : Hp} {F : List Rg} {σ : St} {Q : Bool → Hp → Prop} {P : Prop} [Decidable P] {d : Bool} {s' : γ} (th : ThenT X I F σ Γ L xt Q (Res.grd P (d, s'))) : P ∧ ThenT X I F σ Γ L xt Q (.val (d, s')) := by
  by_cases h : P
  · rw [Res.grd_true h] at th; exact ⟨h, th⟩
  · unfold Res.grd at th; rw [if_neg h] at th; exact th.elim
theorem tf_cmpPFG {mm : Res ε (Bool × γ)} {op : CmpOp} {r : R2} {P : α → β → Prop} [∀ x y, Decidable (P x y)] {g : α → β → Bool} {u : α} {mb : Res ε (β × γ)} (ho : OpR X (compareOp op) r) (D : D2 r A B tBool P g) (ha : EP X a Γ (L s) A u) (hb : EF X b Γ L s B xt mb)  (hm : behindInMarks op b = false := by first | exact nomark _ | rfl) (heq : mm = (mb.bnd fun y s2 => Res.grd (P u y) (g u y, s2)) := by exact rfl) :
    TF X (.Compare a [op] [b] pos) Γ L s xt mm := by
  subst heq
  intro I σ F H Q fr th
  refine PT_to (pt_cmpR ho pe_w pe_w hm) ?_
  refine ha.run fr fun I1 v H1 e1 fr1 rv => ?_
  refine ThenT.bnd hb fr1 (thenT_up e1 th) fun I2 w' H2 d2 s2 e2 fr2 rw th2 => ?_
  obtain ⟨hq, th3⟩ := ThenT.grd th2
  exact D I2 _ H2 v w' u d2 _ fr2.sep (A.mono e2 rv) rw (hq) fun I' z H' e3 se rz => ⟨_, rz, th3 I' H' e3 (fr2.step e3 se)⟩
theorem tf_cmpPFT {mm : Res ε (Bool × γ)} {op : CmpOp} {r : R2} {P : α → β → Prop} {g : α → β → Bool} {u : α} {mb : Res ε (β × γ)} (ho : OpR X (compareOp op) r) (D : D2 r A B tBool P g) (ha : EP X a Γ (L s) A u) (hb : EF X b Γ L s B xt mb) (hp : ∀ y, P u y := by intro _; trivial) (hm : behindInMarks op b = false := by first | exact nomark _ | rfl) (heq : mm = (mb.bnd fun y s2 => .val (g u y, s2)) := by exact rfl) :
    TF X (.Compare a [op] [b] pos) Γ L s xt mm := by
  subst heq
  intro I σ F H Q fr th
  refine PT_to (pt_cmpR ho pe_w pe_w hm) ?_
  refine ha.run fr fun I1 v H1 e1 fr1 rv => ?_
  refine ThenT.bnd hb fr1 (thenT_up e1 th) fun I2 w' H2 d2 s2 e2 fr2 rw th2 => ?_
  have th3 := th2
  exact D I2 _ H2 v w' u d2 _ fr2.sep (A.mono e2 rv) rw (hp d2) fun I' z H' e3 se rz => ⟨_, rz, th3 I' H' e3 (fr2.step e3 se)⟩
theorem tf_cmpFPG {mm : Res ε (Bool × γ)} {op : CmpOp} {r : R2} {P : α → β → Prop} [∀ x y, Decidable (P x y)] {g : α → β → Bool} {ma : Res ε (α × γ)} {w : α → γ → β} (ho : OpR X (compareOp op) r) (D : D2 r A B tBool P g) (ha : EF X a Γ L s A xt ma) (hb : ∀ x s1, EP X b Γ (L s1) B (w x s1))  (hm : behindInMarks op b = false := by first | exact nomark _ | rfl) (heq : mm = (ma.bnd fun x s1 => Res.grd (P x (w x s1)) (g x (w x s1), s1)) := by exact rfl) :
    TF X (.Compare a [op] [b] pos) Γ L s xt mm := by
  subst heq
  intro I σ F H Q fr th
  refine PT_to (pt_cmpR ho pe_w pe_w hm) ?_
  refine ThenT.bnd ha fr th fun I1 v H1 d s1 e1 fr1 rv th1 => ?_
  refine (hb d s1).run fr1 fun I2 w' H2 e2 fr2 rw => ?_
  have th2 := thenT_up e2 th1
  obtain ⟨hq, th3⟩ := ThenT.grd th2
  exact D I2 _ H2 v w' d (w d s1) _ fr2.sep (A.mono e2 rv) rw (hq) fun I' z H' e3 se rz => ⟨_, rz, th3 I' H' e3 (fr2.step e3 se)⟩
theorem tf_cmpFPT {mm : Res ε (Bool × γ)} {op : CmpOp} {r : R2} {P : α → β → Prop} {g : α → β → Bool} {ma : Res ε (α × γ)} {w : α → γ → β} (ho : OpR X (compareOp op) r) (D : D2 r A B tBool P g) (ha : EF X a Γ L s A xt ma) (hb : ∀ x s1, EP X b Γ (L s1) B (w x s1)) (hp : ∀ x s, P x (w x s) := by intro _ _; trivial) (hm : behindInMarks op b = false := by first | exact nomark _ | rfl) (heq : mm = (ma.bnd fun x s1 => .val (g x (w x s1), s1)) := by exact rfl) :
    TF X (.Compare a [op] [b] pos) Γ L s xt mm := by
  subst heq
  intro I σ F H Q fr th
  refine PT_to (pt_cmpR ho pe_w pe_w hm) ?_
  refine ThenT.bnd ha fr th fun I1 v H1 d s1 e1 fr1 rv th1 => ?_
  refine (hb d s1).run fr1 fun I2 w' H2 e2 fr2 rw => ?_
  have th2 := thenT_up e2 th1
  have th3 := th2
  exact D I2 _ H2 v w' d (w d s1) _ fr2.sep (A.mono e2 rv) rw (hp d s1) fun I' z H' e3 se rz => ⟨_, rz, th3 I' H' e3 (fr2.step e3 se)⟩

/-! arguments -/
theorem af_consP {T : Tys τ} {u : α} {mr : Res ε (τ × γ)} (ha : EP X e Γ (L s) A u) (hr : AF X es Γ L s T xt mr) (hs : starEach (e :: es) X.env = (false, eval e X.env) :: starEach es X.env := by exact star_c rfl) :
    AF X (e :: es) Γ L s (Tys.cons A T) xt (mr.bnd fun t s2 => .val ((u, t), s2)) := fun I σ F H Q fr th => by
  refine PA_to (pa_cons pe_w pa_w hs) ?_
  refine ha.run fr fun I1 v H1 e1 fr1 rv => ?_
  refine hr I1 σ F H1 _ fr1 ?_
  cases mr with
  | stuck => exact th
  | exn x => exact fun I' H' c da e2 fr' r => th I' H' c da (e1.trans e2) fr' r
  | val q => exact fun I2 vs H2 e2 fr2 rvs => th I2 (v :: vs) H2 (e1.trans e2) fr2 ⟨v, vs, rfl, A.mono e2 rv, rvs⟩
theorem af_consF {T : Tys τ} {t : α → γ → τ} {ma : Res ε (α × γ)} (ha : EF X e Γ L s A xt ma) (hr : ∀ d s1, AP' X es Γ (L s1) T (t d s1)) (hs : starEach (e :: es) X.env = (false, eval e X.env) :: starEach es X.env := by exact star_c rfl) :
    AF X (e :: es) Γ L s (Tys.cons A T) xt (ma.bnd fun d s1 => .val ((d, t d s1), s1)) := fun I σ F H Q fr th => by
  refine PA_to (pa_cons pe_w pa_w hs) ?_
  refine ha I σ F H _ fr ?_
  cases ma with
  | stuck => exact th
  | exn x => exact th
  | val q =>
    intro I1 v H1 e1 fr1 rv
    refine hr q.1 q.2 I1 σ F H1 _ fr1 ?_
    exact fun I2 vs H2 e2 fr2 rvs => th I2 (v :: vs) H2 (e1.trans e2) fr2 ⟨v, vs, rfl, A.mono e2 rv, rvs⟩
theorem afl_consP {u : α} {mr : Res ε (List α × γ)} (ha : EP X e Γ (L s) A u) (hr : AF X es Γ L s (Tys.lst A) xt mr) (hs : starEach (e :: es) X.env = (false, eval e X.env) :: starEach es X.env := by exact star_c rfl) :
    AF X (e :: es) Γ L s (Tys.lst A) xt (mr.bnd fun t s2 => .val (u :: t, s2)) := fun I σ F H Q fr th => by
  refine PA_to (pa_cons pe_w pa_w hs) ?_
  refine ha.run fr fun I1 v H1 e1 fr1 rv => ?_
  refine hr I1 σ F H1 _ fr1 ?_
  cases mr with
  | stuck => exact th
  | exn x => exact fun I' H' c da e2 fr' r => th I' H' c da (e1.trans e2) fr' r
  | val q => exact fun I2 vs H2 e2 fr2 rvs => th I2 (v :: vs) H2 (e1.trans e2) fr2 (.cons (A.mono e2 rv) rvs)
theorem afl_consF {t : α → γ → List α} {ma : Res ε (α × γ)} (ha : EF X e Γ L s A xt ma) (hr : ∀ d s1, AP' X es Γ (L s1) (Tys.lst A) (t d s1)) (hs : starEach (e :: es) X.env = (false, eval e X.env) :: starEach es X.env := by exact star_c rfl) :
    AF X (e :: es) Γ L s (Tys.lst A) xt (ma.bnd fun d s1 => .val (d :: t d s1, s1)) := fun I σ F H Q fr th => by
  refine PA_to (pa_cons pe_w pa_w hs) ?_
  refine ha I σ F H _ fr ?_
  cases ma with
  | stuck => exact th
  | exn x => exact th
  | val q =>
    intro I1 v H1 e1 fr1 rv
    refine hr q.1 q.2 I1 σ F H1 _ fr1 ?_
    exact fun I2 vs H2 e2 fr2 rvs => th I2 (v :: vs) H2 (e1.trans e2) fr2 (.cons (A.mono e2 rv) rvs)

theorem res_bnd_val {t : τ} {k : τ → γ → Res ε (δ × γ)} : Res.bnd (.val (t, s)) k = k t s := rfl
theorem ef_callBP {mm : Res ε (δ × γ)} {T : Tys τ} {id : String} {r : List V → Hp → VK → Prop} {P : τ → Prop} [∀ x, Decidable (P x)] {g : τ → δ} {t : τ} {p : Pos} (cx : Cxt X N sc own) (hc : CallR X (.builtin id) r) (D : DN r T C P g) (hm : X.mg x = none) (hv : bootBuiltins x = some (.builtin id)) (ha : AP' X (e :: es) Γ (L s) T t)
    (hg : glB sc x = true := by decide +kernel) (he : starEach (e :: es) X.env = (false, eval e X.env) :: starEach es X.env := by exact star_c rfl) (hpl : (backTo pos (starEach es X.env)).any (·.1) = false := by rfl) (heq : mm = Res.grd (P t) (g t, s) := by exact rfl) :
    EF X (.Call (.Name x p) (e :: es) [] pos) Γ L s C xt mm := ef_callB (m := .val (t, s)) cx hc D hm hv (af_pure ha) hg he hpl heq
theorem ef_callTyP {mm : Res ε (δ × γ)} {T : Tys τ} {id : String} {r : List V → Hp → VK → Prop} {P : τ → Prop} [∀ x, Decidable (P x)] {g : τ → δ} {t : τ} {p : Pos} (cx : Cxt X N sc own) (hc : CallR X (.type id) r) (D : DN r T C P g) (hm : X.mg x = none) (hv : bootBuiltins x = some (.type id)) (ha : AP' X (e :: es) Γ (L s) T t)
    (hg : glB sc x = true := by decide +kernel) (he : starEach (e :: es) X.env = (false, eval e X.env) :: starEach es X.env := by exact star_c rfl) (hpl : (backTo pos (starEach es X.env)).any (·.1) = false := by rfl) (heq : mm = Res.grd (P t) (g t, s) := by exact rfl) :
    EF X (.Call (.Name x p) (e :: es) [] pos) Γ L s C xt mm := ef_callTy (m := .val (t, s)) cx hc D hm hv (af_pure ha) hg he hpl heq
/-- no guard -/
theorem ef_callBT {mm : Res ε (δ × γ)} {T : Tys τ} {id : String} {r : List V → Hp → VK → Prop} {P : τ → Prop} {g : τ → δ} {m : Res ε (τ × γ)} {p : Pos} (cx : Cxt X N sc own) (hc : CallR X (.builtin id) r) (D : DN r T C P g) (hp : ∀ t, P t) (hm : X.mg x = none) (hv : bootBuiltins x = some (.builtin id)) (ha : AF X (e :: es) Γ L s T xt m)
    (hg : glB sc x = true := by decide +kernel) (he : starEach (e :: es) X.env = (false, eval e X.env) :: starEach es X.env := by exact star_c rfl) (hpl : (backTo pos (starEach es X.env)).any (·.1) = false := by rfl) (heq : mm = (m.bnd fun t s1 => .val (g t, s1)) := by exact rfl) :
    EF X (.Call (.Name x p) (e :: es) [] pos) Γ L s C xt mm := by
  subst heq
  intro I σ F H Q fr th
  obtain ⟨h1, h2, h3⟩ := glB_gl cx hg
  refine PE_to (pe_callB hc h1 hm hv pa_w h3 h2 he hpl) ?_
  refine Then.bndA ha fr th fun I1 v H1 d s1 e1 fr1 rv th1 => ?_
  exact D I1 _ H1 v d Q fr1.sep rv (hp d) fun I' z H' e3 se rz => th1 I' z H' e3 (fr1.step e3 se) rz
theorem ef_callTyT {mm : Res ε (δ × γ)} {T : Tys τ} {id : String} {r : List V → Hp → VK → Prop} {P : τ → Prop} {g : τ → δ} {m : Res ε (τ × γ)} {p : Pos} (cx : Cxt X N sc own) (hc : CallR X (.type id) r) (D : DN r T C P g) (hp : ∀ t, P t) (hm : X.mg x = none) (hv : bootBuiltins x = some (.type id)) (ha : AF X (e :: es) Γ L s T xt m)
    (hg : glB sc x = true := by decide +kernel) (he : starEach (e :: es) X.env = (false, eval e X.env) :: starEach es X.env := by exact star_c rfl) (hpl : (backTo pos (starEach es X.env)).any (·.1) = false := by rfl) (heq : mm = (m.bnd fun t s1 => .val (g t, s1)) := by exact rfl) :
    EF X (.Call (.Name x p) (e :: es) [] pos) Γ L s C xt mm := by
  subst heq
  intro I σ F H Q fr th
  obtain ⟨h1, h2, h3⟩ := glB_gl cx hg
  refine PE_to (pe_callTy hc h1 hm hv pa_w h3 h2 he hpl) ?_
  refine Then.bndA ha fr th fun I1 v H1 d s1 e1 fr1 rv th1 => ?_
  exact D I1 _ H1 v d Q fr1.sep rv (hp d) fun I' z H' e3 se rz => th1 I' z H' e3 (fr1.step e3 se) rz
section
variable {CX : CXT} {k : Nat} {f : Addr} {fd : FuncData} {ps : List Str} {L' : ι → γ' → List Rg} {T : ι → Tys τ}
theorem ef_call0P {T : Tys τ} {g : τ → Unit → Res ε (δ × Unit)} {t : τ} (cx : Cxt X N sc own) (F : FnOk X.prog X.w X.K X.mg X.base CX k f fd ps (spec (fun _ : Unit => T) (fun _ _ => []) (fun _ => rtV C (fun _ => [])) (fun _ => xt) g)) (hr : Room k X.A) (hm : X.mg x = some (.ref f)) (hk : PySem.W.keepIn X.K (.ref f) = true) (hb : Binds X.K fd ps []) (pw : PassW CX X)
    (ha : AP' X (e :: es) Γ (L s) T t) (hx : ∀ x, xt.regs x = [])
    (hg : glB sc x = true := by decide +kernel) (he : starEach (e :: es) X.env = (false, eval e X.env) :: starEach es X.env := by exact star_c rfl) (hpl : (backTo pos (starEach es X.env)).any (·.1) = false := by rfl) :
    EF X (.Call (.Name x p) (e :: es) [] pos) Γ L s C xt ((g t ()).up s) := ef_call0 (m := .val (t, s)) cx F hr hm hk hb pw (af_pure ha) hx hg he hpl
theorem ef_callSP {g : τ → γ → Res ε (δ × γ)} {L' : ι → γ → List Rg} {t : τ} (i : ι) (R : List Rg) (cx : Cxt X N sc own) (F : FnOk X.prog X.w X.K X.mg X.base CX k f fd ps (spec T L' (fun i => rtV C (L' i)) (fun _ => xt) g)) (hr : Room k X.A) (hm : X.mg x = some (.ref f)) (hk : PySem.W.keepIn X.K (.ref f) = true) (hb : Binds X.K fd ps []) (pw : PassW CX X)
    (ha : AP' X (e :: es) Γ (L s) (T i) t) (hp : ∀ s, (L s).Perm (L' i s ++ R)) (hx : ∀ x, xt.regs x = [])
    (hg : glB sc x = true := by decide +kernel) (he : starEach (e :: es) X.env = (false, eval e X.env) :: starEach es X.env := by exact star_c rfl) (hpl : (backTo pos (starEach es X.env)).any (·.1) = false := by rfl) :
    EF X (.Call (.Name x p) (e :: es) [] pos) Γ L s C xt (g t s) := ef_callS (m := .val (t, s)) i R cx F hr hm hk hb pw (af_pure ha) hp hx hg he hpl
/-- new objects -/
theorem en_call0 {T : Tys τ} {φ : δ → CP} {g : τ → Unit → Res ε (δ × Unit)} {m : Res ε (τ × γ)} (cx : Cxt X N sc own) (F : FnOk X.prog X.w X.K X.mg X.base CX k f fd ps (spec (fun _ : Unit => T) (fun _ _ => []) (fun _ => rtN φ (fun _ => [])) (fun _ => xt) g)) (hr : Room k X.A) (hm : X.mg x = some (.ref f)) (hk : PySem.W.keepIn X.K (.ref f) = true) (hb : Binds X.K fd ps []) (pw : PassW CX X)
    (ha : AF X (e :: es) Γ L s T xt m) (hx : ∀ x, xt.regs x = [])
    (hg : glB sc x = true := by decide +kernel) (he : starEach (e :: es) X.env = (false, eval e X.env) :: starEach es X.env := by exact star_c rfl) (hpl : (backTo pos (starEach es X.env)).any (·.1) = false := by rfl) :
    EN X (.Call (.Name x p) (e :: es) [] pos) Γ L s φ xt (m.bnd fun t s1 => (g t ()).up s1) := by
  have h := en_call (L' := fun _ _ => []) (T := fun _ => T) (γ' := Unit) (pos := pos) (p := p) () (fun _ => ()) (fun s _ => s) L cx F hr hm hk hb pw ha (fun s u => .refl _) (fun _ => rfl) hx hg he hpl
  have q : (fun (t : τ) (s1 : γ) => (g t ()).lift (fun _ => s1)) = fun t s1 => (g t ()).up s1 := by
    funext t s1
    cases g t () <;> rfl
  rw [q] at h
  exact h
theorem en_call0P {T : Tys τ} {φ : δ → CP} {g : τ → Unit → Res ε (δ × Unit)} {t : τ} (cx : Cxt X N sc own) (F : FnOk X.prog X.w X.K X.mg X.base CX k f fd ps (spec (fun _ : Unit => T) (fun _ _ => []) (fun _ => rtN φ (fun _ => [])) (fun _ => xt) g)) (hr : Room k X.A) (hm : X.mg x = some (.ref f)) (hk : PySem.W.keepIn X.K (.ref f) = true) (hb : Binds X.K fd ps []) (pw : PassW CX X)
    (ha : AP' X (e :: es) Γ (L s) T t) (hx : ∀ x, xt.regs x = [])
    (hg : glB sc x = true := by decide +kernel) (he : starEach (e :: es) X.env = (false, eval e X.env) :: starEach es X.env := by exact star_c rfl) (hpl : (backTo pos (starEach es X.env)).any (·.1) = false := by rfl) :
    EN X (.Call (.Name x p) (e :: es) [] pos) Γ L s φ xt ((g t ()).up s) := en_call0 (m := .val (t, s)) cx F hr hm hk hb pw (af_pure ha) hx hg he hpl
theorem en_callS {φ : δ → CP} {g : τ → γ → Res ε (δ × γ)} {L' : ι → γ → List Rg} {m : Res ε (τ × γ)} (i : ι) (R : List Rg) (cx : Cxt X N sc own) (F : FnOk X.prog X.w X.K X.mg X.base CX k f fd ps (spec T L' (fun i => rtN φ (L' i)) (fun _ => xt) g)) (hr : Room k X.A) (hm : X.mg x = some (.ref f)) (hk : PySem.W.keepIn X.K (.ref f) = true) (hb : Binds X.K fd ps []) (pw : PassW CX X)
    (ha : AF X (e :: es) Γ L s (T i) xt m) (hp : ∀ s, (L s).Perm (L' i s ++ R)) (hx : ∀ x, xt.regs x = [])
    (hg : glB sc x = true := by decide +kernel) (he : starEach (e :: es) X.env = (false, eval e X.env) :: starEach es X.env := by exact star_c rfl) (hpl : (backTo pos (starEach es X.env)).any (·.1) = false := by rfl) :
    EN X (.Call (.Name x p) (e :: es) [] pos) Γ L s φ xt (m.bnd fun t s1 => g t s1) := by
  have h := en_call (γ' := γ) (pos := pos) (p := p) i (fun s => s) (fun _ u => u) (fun _ => R) cx F hr hm hk hb pw ha (fun s u => hp u) (fun _ => rfl) hx hg he hpl
  have q : (fun (t : τ) (s1 : γ) => (g t s1).lift (fun u => u)) = fun t s1 => g t s1 := by
    funext t s1
    cases g t s1 <;> rfl
  rw [q] at h
  exact h
theorem en_callSP {φ : δ → CP} {g : τ → γ → Res ε (δ × γ)} {L' : ι → γ → List Rg} {t : τ} (i : ι) (R : List Rg) (cx : Cxt X N sc own) (F : FnOk X.prog X.w X.K X.mg X.base CX k f fd ps (spec T L' (fun i => rtN φ (L' i)) (fun _ => xt) g)) (hr : Room k X.A) (hm : X.mg x = some (.ref f)) (hk : PySem.W.keepIn X.K (.ref f) = true) (hb : Binds X.K fd ps []) (pw : PassW CX X)
    (ha : AP' X (e :: es) Γ (L s) (T i) t) (hp : ∀ s, (L s).Perm (L' i s ++ R)) (hx : ∀ x, xt.regs x = [])
    (hg : glB sc x = true := by decide +kernel) (he : starEach (e :: es) X.env = (false, eval e X.env) :: starEach es X.env := by exact star_c rfl) (hpl : (backTo pos (starEach es X.env)).any (·.1) = false := by rfl) :
    EN X (.Call (.Name x p) (e :: es) [] pos) Γ L s φ xt (g t s) := en_callS (m := .val (t, s)) i R cx F hr hm hk hb pw (af_pure ha) hp hx hg he hpl
/-- f(a new object), which f may change and which is dropped behind it -/
theorem ef_callN {φ : α → CP} {g : (Unit × Unit) → α → Res ε (δ × α)} {m : Res ε (α × γ)} (cx : Cxt X N sc own) (F : FnOk X.prog X.w X.K X.mg X.base CX k f fd ps (spec (fun q : Addr => Tys1 (tCell q)) (fun q s => [cell q (φ s)]) (fun q => rtV C (fun s => [cell q (φ s)])) (fun _ => xt) g)) (hr : Room k X.A) (hm : X.mg x = some (.ref f)) (hk : PySem.W.keepIn X.K (.ref f) = true) (hb : Binds X.K fd ps []) (pw : PassW CX X)
    (ha : EN X e Γ L s φ xt m) (hx : ∀ x, xt.regs x = [])
    (hg : glB sc x = true := by decide +kernel) (he : starEach [e] X.env = (false, eval e X.env) :: starEach [] X.env := by exact star_c rfl) :
    EF X (.Call (.Name x p) [e] [] pos) Γ L s C xt (m.bnd fun d s1 => (g ((), ()) d).bnd fun r _ => .val (r, s1)) := fun I σ F' H Q fr th => by
  obtain ⟨h1, h2, h3⟩ := glB_gl cx hg
  refine PE_to (pe_callS F hr h1 hm hk hb pw (pa_cons pe_w pa_nil he) h2 he rfl) ?_
  show wE X e σ H fun v H1 => spec _ _ _ _ g [v] H1 Q _
  refine ha I σ F' H _ fr ?_
  cases m with
  | stuck => exact th
  | exn x => exact th
  | val mp =>
    obtain ⟨d, s1⟩ := mp
    intro I1 q H1 e1 fr1
    refine ⟨q, I1, L s1 ++ F', ((), ()), d, fr1.sep, ⟨_, _, rfl, rfl, rfl⟩, ?_⟩
    dsimp only [Res.bnd] at th
    cases hgr : g ((), ()) d with
    | stuck => rw [hgr] at th; exact th
    | exn x =>
      rw [hgr] at th
      intro I2 H2 c da e2 se2 r2
      refine th I2 H2 c da (e1.trans e2) (fr1.step e2 ?_) r2
      rw [hx] at se2 ⊢
      have se2 : Sep I2 (L s1 ++ F') H2 := se2
      show Sep I2 F' H2
      generalize L s1 = RR at se2
      induction RR with
      | nil => exact se2
      | cons _ _ ih => exact ih se2.tail
    | val r =>
      rw [hgr] at th
      intro I2 v H2 e2 se2 r2
      exact th I2 v H2 (e1.trans e2) (fr1.step e2 (Sep.tail se2)) r2
end
end
end Fw


namespace Fw
open PySem L2
/-! ## 20. data of any form -/
mutual
theorem dp_mono {K : PySem.W.Frag} {I I' : Hp} (e : Same I I') : ∀ {v : V} {d : PyData}, Dp K I v d → Dp K I' v d
  | _, _, .non => .non
  | _, _, .bl b => .bl b
  | _, _, .int i => .int i
  | _, _, .str x => .str x
  | _, _, .lst h hs => .lst (Same.sql e h) (dpAll_mono e hs)
  | _, _, .tup h hs => .tup (Same.sqt e h) (dpAll_mono e hs)
theorem dpAll_mono {K : PySem.W.Frag} {I I' : Hp} (e : Same I I') : ∀ {v : List V} {d : List PyData}, DpAll K I v d → DpAll K I' v d
  | _, _, .nil => .nil
  | _, _, .cons h hs => .cons (dp_mono e h) (dpAll_mono e hs)
end
def tD (K : PySem.W.Frag) : Ty PyData := ⟨fun I v d => Dp K I v d, fun e h => dp_mono e h⟩
theorem dpAll_paired {K : PySem.W.Frag} {I : Hp} : ∀ {vs : List V} {ds : List PyData}, DpAll K I vs ds → Paired ((tD K).rep I) vs ds
  | _, _, .nil => .nil
  | _, _, .cons h hs => .cons h (dpAll_paired hs)
def CoeOk {α : Type} (A : Ty α) (c : α → PyData) : Prop := ∀ (K : PySem.W.Frag) (I : Hp) (v : V) (d : α), A.rep I v d → Dp K I v (c d)
def CoesOk {τ : Type} (T : Tys τ) (c : τ → List PyData) : Prop := ∀ (K : PySem.W.Frag) (I : Hp) (v : List V) (d : τ), T.rep I v d → DpAll K I v (c d)
def dTx (t : Tx) : PyData := .str ⟨t.toArray⟩
def dOpt {α : Type} (c : α → PyData) : Option α → PyData
  | none => .none
  | some d => c d
def dLst {α : Type} (c : α → PyData) (xs : List α) : PyData := .list (xs.map c)
def dTuL {α : Type} (c : α → PyData) (xs : List α) : PyData := .tuple (xs.map c)
def dNil (_ : Unit) : List PyData := []
def dCons {α τ : Type} (c : α → PyData) (cs : τ → List PyData) (p : α × τ) : List PyData := c p.1 :: cs p.2
def dTup {τ : Type} (cs : τ → List PyData) (p : τ) : PyData := .tuple (cs p)
theorem coe_int : CoeOk tInt .int := fun K I v d h => by cases h; exact .int d
theorem coe_bl : CoeOk tBool .bool := fun K I v d h => by cases h; exact .bl d
theorem coe_tx : CoeOk tTx dTx := fun K I v d h => by cases h; exact .str _
theorem coe_non : CoeOk tNone (fun _ => .none) := fun K I v d h => by cases h; exact .non
section
variable {α τ : Type} {A : Ty α} {T : Tys τ} {c : α → PyData} {cs : τ → List PyData}
theorem coe_opt (h : CoeOk A c) : CoeOk (tOpt A) (dOpt c) := fun K I v d q => by
  cases d with
  | none => cases q; exact .non
  | some d => exact h K I v d q.2
theorem coes_paired (h : CoeOk A c) (K : PySem.W.Frag) (I : Hp) : ∀ {vs : List V} {xs : List α}, Paired (A.rep I) vs xs → DpAll K I vs (xs.map c)
  | _, _, .nil => .nil
  | _, _, .cons r t => .cons (h K I _ _ r) (coes_paired h K I t)
theorem coe_lst (h : CoeOk A c) : CoeOk (tLst A) (dLst c) := fun K I v d q => by
  obtain ⟨p, vs, rfl, h1, h2⟩ := q
  exact .lst (.of h1) (coes_paired h K I h2)
theorem coe_tuL (h : CoeOk A c) : CoeOk (tTuL A) (dTuL c) := fun K I v d q => by
  obtain ⟨p, vs, rfl, h1, h2⟩ := q
  exact .tup (.of h1) (coes_paired h K I h2)
theorem coes_nil : CoesOk Tys.nil dNil := fun K I v d q => by cases q; exact .nil
theorem coes_cons (h : CoeOk A c) (hs : CoesOk T cs) : CoesOk (Tys.cons A T) (dCons c cs) := fun K I v d q => by
  obtain ⟨x, xs, rfl, h1, h2⟩ := q
  exact .cons (h K I _ _ h1) (hs K I _ _ h2)
theorem coe_tup (h : CoesOk T cs) : CoeOk (tTup T) (dTup cs) := fun K I v d q => by
  obtain ⟨p, vs, rfl, h1, h2⟩ := q
  exact .tup (.of h1) (h K I _ _ h2)
end
section
variable {X : Cx} {N : List Str} {sc scope : Scope} {own : Str → Bool} {α β γ γ' δ ε ρ ν ν' τ ι : Type} {A : Ty α} {B : Ty β} {C : Ty δ} {T : Tys τ} {e a b c tg iter elt : Expr} {es rest ifs : List Expr} {ss b1 b2 : List Stmt} {x y : Str} {pos p apos : Pos} {Γ Γ' gx : List Slot} {L : γ → List Rg} {s : γ} {xt : XT ε} {L0 L1 : List Rg}
theorem ef_map {f : α → δ} {m : Res ε (α × γ)} (h : EF X e Γ L s A xt m) (q : ∀ I v d, A.rep I v d → C.rep I v (f d)) : EF X e Γ L s C xt (m.bnd fun x s => Res.val (f x, s)) := fun I σ F H Q fr th => by
  refine Then.bnd h fr th fun I1 v H1 d s1 e1 fr1 rv th1 => ?_
  exact th1 I1 v H1 (Same.refl _) fr1 (q I1 v d rv)
theorem ep_map {f : α → δ} {d : α} (h : EP X e Γ L0 A d) (q : ∀ I v d, A.rep I v d → C.rep I v (f d)) : EP X e Γ L0 C (f d) := fun I σ F H Q fr th => by
  refine h.run fr fun I1 v H1 e1 fr1 rv => th I1 v H1 e1 fr1 (q I1 v d rv)
theorem ep_coe {k : α → PyData} {d : α} (hc : CoeOk A k) (h : EP X e Γ L0 A d) : EP X e Γ L0 (tD X.K) (k d) := ep_map h (hc X.K)
theorem ef_coe {k : α → PyData} {m : Res ε (α × γ)} (hc : CoeOk A k) (h : EF X e Γ L s A xt m) : EF X e Γ L s (tD X.K) xt (m.bnd fun x s => Res.val (k x, s)) := ef_map h (hc X.K)
def NotNon (A : Ty α) : Prop := ∀ I v d, A.rep I v d → v ≠ .non
theorem nn_int : NotNon tInt := fun I v d h => by cases h; exact fun z => nomatch z
theorem nn_tx : NotNon tTx := fun I v d h => by cases h; exact fun z => nomatch z
theorem nn_tup : NotNon (tTup T) := fun I v d h => by obtain ⟨p, vs, rfl, _⟩ := h; exact fun z => nomatch z
theorem nn_tuL : NotNon (tTuL A) := fun I v d h => by obtain ⟨p, vs, rfl, _⟩ := h; exact fun z => nomatch z
theorem nn_lst : NotNon (tLst A) := fun I v d h => by obtain ⟨p, vs, rfl, _⟩ := h; exact fun z => nomatch z
theorem ep_some {d : α} (n : NotNon A) (h : EP X e Γ L0 A d) : EP X e Γ L0 (tOpt A) (some d) := ep_map h fun I v d r => ⟨n I v d r, r⟩
theorem ef_some {m : Res ε (α × γ)} (n : NotNon A) (h : EF X e Γ L s A xt m) : EF X e Γ L s (tOpt A) xt (m.bnd fun x s => Res.val (some x, s)) := ef_map h fun I v d r => ⟨n I v d r, r⟩
/-! == of data -/
def eqOk (d e : PyData) : Prop := SeqAt.shaped d = true ∧ SeqAt.shaped e = true
instance {d e : PyData} : Decidable (eqOk d e) := by unfold eqOk; infer_instance
theorem d_eqD {k : α → PyData} (hc : CoeOk A k) {K : PySem.W.Frag} : D2 (rEqD K) A A tBool (fun x y => eqOk (k x) (k y)) (fun x y => PyData.eqv (k x) (k y)) := fun I L H v w x y Q se rv rw hp kk =>
  ⟨_, _, dp_mono se.same (hc K I v x rv), dp_mono se.same (hc K I w y rw), hp.1, hp.2, kk I _ H (Same.refl _) se rfl⟩
theorem d_neD {k : α → PyData} (hc : CoeOk A k) {K : PySem.W.Frag} : D2 (rNeD K) A A tBool (fun x y => eqOk (k x) (k y)) (fun x y => !PyData.eqv (k x) (k y)) := fun I L H v w x y Q se rv rw hp kk =>
  ⟨_, _, dp_mono se.same (hc K I v x rv), dp_mono se.same (hc K I w y rw), hp.1, hp.2, kk I _ H (Same.refl _) se rfl⟩
theorem coe_D {K : PySem.W.Frag} : ∀ (I : Hp) (v : V) (d : PyData), (tD K).rep I v d → Dp K I v d := fun _ _ _ h => h
/-! scalars of unknown kind -/
def dScal (d e : PyData) : Prop := match d, e with
  | .bool _, .bool _ => True
  | .int _, .int _ => True
  | .str _, .str _ => True
  | _, _ => False
instance {d e : PyData} : Decidable (dScal d e) := by unfold dScal; split <;> infer_instance
def dSame (d e : PyData) : Bool := match d, e with
  | .bool a, .bool b => decide (a = b)
  | .int a, .int b => decide (a = b)
  | .str a, .str b => decide (a = b)
  | _, _ => false
theorem d_eqS {K : PySem.W.Frag} : D2 rEq (tD K) (tD K) tBool dScal dSame := fun I L H v w x y Q se rv rw hp kk => by
  have rv : Dp K I v x := rv
  have rw : Dp K I w y := rw
  cases rv <;> cases rw <;> first | exact hp.elim | skip
  · rename_i a b
    exact ⟨rfl, kk I _ H (Same.refl _) se (congrArg V.bl (dec_bl a b))⟩
  · rename_i a b
    exact ⟨rfl, kk I _ H (Same.refl _) se (congrArg V.bl (dec_int a b))⟩
  · rename_i a b
    exact ⟨rfl, kk I _ H (Same.refl _) se (congrArg V.bl (show decide (V.str a = V.str b) = decide (a = b) by simp))⟩
/-! isinstance -/
def dTyName : PyData → String
  | .none => "NoneType"
  | .bool _ => "bool"
  | .int _ => "int"
  | .str _ => "str"
  | .list _ => "list"
  | .tuple _ => "tuple"
  | .dict _ => "dict"
def isTy (n : String) (d : PyData) : Bool := dTyName d == n || (n == "int" && dTyName d == "bool")
theorem tyx_of {K : PySem.W.Frag} {H : Hp} {v : V} {d : PyData} (h : Dp K H v d) : TyX K H v (.type (dTyName d)) := by
  cases h with
  | non => exact .base .non
  | bl b => exact .base (.bl b)
  | int i => exact .base (.int i)
  | str x => exact .base (.str x)
  | lst h _ =>
    rcases h with (h | ⟨o, h⟩) | ⟨o, its, n, h, hc, _⟩
    · exact .base (.lst h)
    · exact .base (.frz h)
    · exact .kList h hc
  | tup h _ =>
    rcases h with (h | ⟨o, h⟩) | ⟨o, its, n, h, hc, _⟩
    · exact .base (.tup h)
    · exact .fTuple h
    · exact .kTuple h hc
def tCls (n : String) : Ty Unit := ⟨fun _ v _ => v = .ty n, fun _ h => h⟩
theorem kit5 {n : String} (hn : n = "tuple" ∨ n = "list" ∨ n = "bool" ∨ n = "str" ∨ n = "int") (d : PyData) (hd : ∀ k, d ≠ .dict k) : kitB (dTyName d) n = some (isTy n d) := by
  rcases hn with rfl | rfl | rfl | rfl | rfl <;> cases d <;> first | exact absurd rfl (hd _) | (show kitB _ _ = _; first | decide +kernel | (simp only [dTyName, isTy]; decide +kernel))
theorem dp_nodict {K : PySem.W.Frag} {H : Hp} {v : V} {d : PyData} (h : Dp K H v d) : ∀ k, d ≠ .dict k := fun k z => by subst z; cases h
theorem ep_cls (cx : Cxt X N sc own) {n : String} (hm : X.mg x = none) (hv : bootBuiltins x = some (.type n)) (hg : glB sc x = true := by decide +kernel) : EP X (.Name x pos) Γ L0 (tCls n) () := fun I σ F H Q fr th =>
  let ⟨h1, h2, h3⟩ := glB_gl cx hg
  PE_to (pe_bltn (v := .ty n) h1 hm hv rfl h3 h2) (th I _ H (Same.refl _) fr rfl)
theorem dn_isi {K : PySem.W.Frag} {n : String} (hn : n = "tuple" ∨ n = "list" ∨ n = "bool" ∨ n = "str" ∨ n = "int") : DN (rIsi K) (Tys2 (tD K) (tCls n)) tBool (fun _ => True) (fun t => isTy n t.1) := fun I L H vs t Q se rv hp k => by
  obtain ⟨v, w, rfl, h1, rfl⟩ := tys2 rv
  have h2 := dp_mono se.same (show Dp K I v t.1 from h1)
  exact ⟨v, _, _, _, _, rfl, .ty n, tyx_of h2, kit_ty (kit5 hn t.1 (dp_nodict h2)), k I _ H (Same.refl _) se rfl⟩
theorem ep_isi (cx : Cxt X N sc own) {n : String} {x2 : Str} {d : PyData} {p2 : Pos} (hn : n = "tuple" ∨ n = "list" ∨ n = "bool" ∨ n = "str" ∨ n = "int") (hi : X.mg "isinstance" = none) (hm : X.mg x2 = none) (hv : bootBuiltins x2 = some (.type n)) (ha : EP X a Γ L0 (tD X.K) d)
    (hg : glB sc "isinstance" = true := by decide +kernel) (hg2 : glB sc x2 = true := by decide +kernel) (he : starEach (a :: [.Name x2 p2]) X.env = (false, eval a X.env) :: starEach [.Name x2 p2] X.env := by rfl) (hpl : (backTo pos (starEach [.Name x2 p2] X.env)).any (·.1) = false := by rfl) :
    EP X (.Call (.Name "isinstance" p) [a, .Name x2 p2] [] pos) Γ L0 tBool (isTy n d) := ep_callB (T := Tys2 (tD X.K) (tCls n)) (t := (d, (), ())) cx call_isi (dn_isi hn) hi (by decide +kernel) (ap_cons ha (ap_cons (ep_cls cx hm hv hg2) ap_nil) he) trivial hg he hpl
/-- isinstance(x, (c1, c2)) -/
theorem ep_isiT (cx : Cxt X N sc own) {n1 n2 : String} {x1 x2 : Str} {d : PyData} {p1 p2 p3 : Pos} {k3} (hn1 : n1 = "tuple" ∨ n1 = "list" ∨ n1 = "bool" ∨ n1 = "str" ∨ n1 = "int") (hn2 : n2 = "tuple" ∨ n2 = "list" ∨ n2 = "bool" ∨ n2 = "str" ∨ n2 = "int") (hi : X.mg "isinstance" = none)
    (hm1 : X.mg x1 = none) (hv1 : bootBuiltins x1 = some (.type n1)) (hm2 : X.mg x2 = none) (hv2 : bootBuiltins x2 = some (.type n2)) (ha : EP X a Γ L0 (tD X.K) d)
    (hg : glB sc "isinstance" = true := by decide +kernel) (hg1 : glB sc x1 = true := by decide +kernel) (hg2 : glB sc x2 = true := by decide +kernel) (he : starEach (a :: [.Tuple [.Name x1 p1, .Name x2 p2] k3 p3]) X.env = (false, eval a X.env) :: starEach [.Tuple [.Name x1 p1, .Name x2 p2] k3 p3] X.env := by rfl)
    (he2 : starEach [.Tuple [.Name x1 p1, .Name x2 p2] k3 p3] X.env = (false, eval (.Tuple [.Name x1 p1, .Name x2 p2] k3 p3) X.env) :: starEach [] X.env := by exact star_c rfl) (hpl : (backTo pos (starEach [.Tuple [.Name x1 p1, .Name x2 p2] k3 p3] X.env)).any (·.1) = false := by rfl) :
    EP X (.Call (.Name "isinstance" p) [a, .Tuple [.Name x1 p1, .Name x2 p2] k3 p3] [] pos) Γ L0 tBool (isTy n1 d || isTy n2 d) := fun I σ F H Q fr th => by
  obtain ⟨h1, h2, h3⟩ := glB_gl cx hg
  refine PE_to (pe_callB call_isiT h1 hi (by decide +kernel) (pa_cons pe_w (pa_cons pe_w pa_nil he2) he) h3 h2 he hpl) ?_
  refine ha.run fr fun I1 v H1 e1 fr1 rv => ?_
  refine (ep_tup (ap_cons (ep_cls cx hm1 hv1 hg1) (ap_cons (ep_cls cx hm2 hv2 hg2) ap_nil)) (by simp) (by intro _; rfl)).run fr1 fun I2 w H2 e2 fr2 rw => ?_
  obtain ⟨q, ws, rfl, hq, y, ys, rfl, rfl, z, zs, rfl, rfl, rfl⟩ := rw
  have hd := dp_mono (e2.trans fr2.sep.same) (show Dp X.K I1 v d from rv)
  refine ⟨v, q, _, _, _, _, rfl, fr2.sep.same _ _ hq, .cons (.ty n1) (.cons (.ty n2) .nil), tyx_of hd, ?_, th I2 _ H2 (e1.trans e2) fr2 rfl⟩
  refine kitAny_cons (kit_ty (kit5 hn1 d (dp_nodict hd))) (fun h => kitAny_cons (kit_ty (kit5 hn2 d (dp_nodict hd))) (fun h' => ?_) (fun h' => ?_)) (fun h => ?_)
  · rw [h, h']; exact kitAny_nil
  · rw [h, h']; rfl
  · rw [h]; rfl
/-! len, items of unknown kind -/
def dItems : PyData → List PyData
  | .list xs => xs
  | .tuple xs => xs
  | _ => []
def dIsSeq (d : PyData) : Bool := match d with
  | .list _ => true
  | .tuple _ => true
  | _ => false
theorem dn_lenD {K : PySem.W.Frag} : DN (fun xs H Q => ∃ p ys, xs = [.ref p] ∧ (SqL K H p ys ∨ SqT K H p ys) ∧ Q (.int ys.length) H) (Tys1 (tD K)) tInt (fun t => dIsSeq t.1 = true) (fun t => ((dItems t.1).length : Int)) := fun I L H vs t Q se rv hp k => by
  obtain ⟨v, rfl, h1⟩ := tys1 rv
  obtain ⟨d, u⟩ := t
  have h1 : Dp K I v d := h1
  cases h1 with
  | lst h hs => exact ⟨_, _, rfl, .inl (Same.sql se.same h), k I _ H (Same.refl _) se (by rw [paired_len (dpAll_paired hs)]; rfl)⟩
  | tup h hs => exact ⟨_, _, rfl, .inr (Same.sqt se.same h), k I _ H (Same.refl _) se (by rw [paired_len (dpAll_paired hs)]; rfl)⟩
  | _ => exact absurd hp (by intro z; cases z)
def dAtOk (d : PyData) (i : Int) : Prop := dIsSeq d = true ∧ (atI (dItems d) i).isSome
instance {d : PyData} {i : Int} : Decidable (dAtOk d i) := by unfold dAtOk; infer_instance
def dAt (d : PyData) (i : Int) : PyData := (atI (dItems d) i).getD .none
theorem at_paired {R : α → β → Prop} {xs : List α} {ys : List β} {i : Int} (h : Paired R xs ys) (q : (atI ys i).isSome) : ∃ x y, atI xs i = some x ∧ atI ys i = some y ∧ R x y := by
  rw [at_some] at q
  obtain ⟨j, hj⟩ := Option.isSome_iff_exists.mp q
  have hlt := ix_lt hj
  obtain ⟨x, hx⟩ : ∃ x, xs[j]? = some x := ⟨_, List.getElem?_eq_getElem (by rw [paired_len h]; exact hlt)⟩
  obtain ⟨y, hy, r⟩ := paired_get h hx
  refine ⟨x, y, ?_, ?_, r⟩
  · unfold atI; rw [paired_len h, hj]; exact hx
  · unfold atI; rw [hj]; exact hy
theorem d_ixD {K : PySem.W.Frag} : D2 (rIx K) (tD K) tInt (tD K) dAtOk dAt := fun I L H v w d i Q se rv rw hp k => by
  cases rw
  have h1 : Dp K I v d := rv
  obtain ⟨hp1, hp2⟩ := hp
  cases h1 with
  | lst h hs =>
    obtain ⟨x, y, e1, e2, r⟩ := at_paired (dpAll_paired hs) hp2
    refine .inl ⟨_, _, i, x, rfl, rfl, Same.sql se.same h, e1, k I _ H (Same.refl _) se ?_⟩
    unfold dAt
    show (tD K).rep I x ((atI _ i).getD .none)
    rw [show atI (dItems (PyData.list _)) i = some y from e2]
    exact r
  | tup h hs =>
    obtain ⟨x, y, e1, e2, r⟩ := at_paired (dpAll_paired hs) hp2
    refine .inr (.inl ⟨_, _, i, x, rfl, rfl, Same.sqt se.same h, e1, k I _ H (Same.refl _) se ?_⟩)
    unfold dAt
    show (tD K).rep I x ((atI _ i).getD .none)
    rw [show atI (dItems (PyData.tuple _)) i = some y from e2]
    exact r
  | _ => exact absurd hp1 (by intro z; cases z)
/-! is None -/
def dIsNone (d : PyData) : Bool := match d with
  | .none => true
  | _ => false
theorem ep_isND {d : PyData} {j p'} (ha : EP X a Γ L0 (tD X.K) d) : EP X (.Compare a [.Is] [.Constant .none j p'] pos) Γ L0 tBool (dIsNone d) := fun I σ F H Q fr th => by
  refine PE_to (pe_cmpR op_isN pe_w pe_non (nomark _)) ?_
  refine ha.run fr fun I1 v H1 e1 fr1 rv => ⟨rfl, th I1 _ H1 e1 fr1 ?_⟩
  have h1 : Dp X.K I1 v d := rv
  show V.bl _ = V.bl _
  cases h1 <;> rfl
theorem ep_isN {d : Option α} {j p'} (ha : EP X a Γ L0 (tOpt A) d) : EP X (.Compare a [.Is] [.Constant .none j p'] pos) Γ L0 tBool (Option.isNone d) := fun I σ F H Q fr th => by
  refine PE_to (pe_cmpR op_isN pe_w pe_non (nomark _)) ?_
  refine ha.run fr fun I1 v H1 e1 fr1 rv => ⟨rfl, th I1 _ H1 e1 fr1 ?_⟩
  show V.bl _ = V.bl _
  cases d with
  | none => cases rv; rfl
  | some d => rw [decide_eq_false rv.1]; rfl
theorem ep_notN {d : Option α} {j p'} (ha : EP X a Γ L0 (tOpt A) d) : EP X (.Compare a [.IsNot] [.Constant .none j p'] pos) Γ L0 tBool (Option.isSome d) := fun I σ F H Q fr th => by
  refine PE_to (pe_cmpR op_notN pe_w pe_non (nomark _)) ?_
  refine ha.run fr fun I1 v H1 e1 fr1 rv => ⟨rfl, th I1 _ H1 e1 fr1 ?_⟩
  show V.bl _ = V.bl _
  cases d with
  | none => cases rv; rfl
  | some d => rw [decide_eq_false rv.1]; rfl
theorem tp_isND {d : PyData} {j p'} (ha : EP X a Γ L0 (tD X.K) d) : TP' X (.Compare a [.Is] [.Constant .none j p'] pos) Γ L0 (dIsNone d) := fun I σ F H Q fr th => by
  refine PT_to (pt_cmpR op_isN pe_w pe_non (nomark _)) ?_
  refine ha.run fr fun I1 v H1 e1 fr1 rv => ⟨rfl, dIsNone d, ?_, th I1 H1 e1 fr1⟩
  have h1 : Dp X.K I1 v d := rv
  cases h1 <;> rfl
theorem tp_isN {d : Option α} {j p'} (ha : EP X a Γ L0 (tOpt A) d) : TP' X (.Compare a [.Is] [.Constant .none j p'] pos) Γ L0 (Option.isNone d) := fun I σ F H Q fr th => by
  refine PT_to (pt_cmpR op_isN pe_w pe_non (nomark _)) ?_
  refine ha.run fr fun I1 v H1 e1 fr1 rv => ⟨rfl, Option.isNone d, ?_, th I1 H1 e1 fr1⟩
  cases d with
  | none => cases rv; rfl
  | some d => rw [decide_eq_false rv.1]; rfl
theorem tp_notN {d : Option α} {j p'} (ha : EP X a Γ L0 (tOpt A) d) : TP' X (.Compare a [.IsNot] [.Constant .none j p'] pos) Γ L0 (Option.isSome d) := fun I σ F H Q fr th => by
  refine PT_to (pt_cmpR op_notN pe_w pe_non (nomark _)) ?_
  refine ha.run fr fun I1 v H1 e1 fr1 rv => ⟨rfl, Option.isSome d, ?_, th I1 H1 e1 fr1⟩
  cases d with
  | none => cases rv; rfl
  | some d => rw [decide_eq_false rv.1]; rfl
end
end Fw


namespace Fw
open PySem L2
/-! ## 21. further rules -/
theorem perm_at {α : Type _} {xs : List α} {x : α} {ys : List α} (j : Nat) (h : xs = ys.take j ++ x :: ys.drop j) : xs.Perm (x :: ys) := by
  rw [h]
  refine List.perm_middle.trans (List.Perm.cons x ?_)
  rw [List.take_append_drop]
theorem fn_stuck {P : Program} {w : World} {K : PySem.W.Frag} {mg : Str → Option Value} {base : Heap} {CX : CXT} {k : Nat} {f : Addr} {fd : FuncData} {ps : List Str} {ι τ γ ε ρ : Type} {T : ι → Tys τ} {L : ι → γ → List Rg} {rt : ι → RT ρ} {xt : ι → XT ε} {g : τ → γ → Res ε ρ} (h : ∀ t s, g t s = .stuck) (hps : ∀ i t, ((T i).slots t).length = ps.length := by intro _ _; rfl) :
    FnOk P w K mg base CX k f fd ps (spec T L rt xt g) := by
  have no : ∀ vs H Q E, ¬ spec T L rt xt g vs H Q E := fun vs H Q E ⟨i, I, F, t, s, _, _, q⟩ => by
    rw [h] at q
    exact q
  exact ⟨fun vs H Q E q => (no _ _ _ _ q).elim, fun A outer s H args us vs Q E _ _ _ _ q => (no _ _ _ _ q).elim⟩
section
variable {X : Cx} {N : List Str} {sc scope : Scope} {own : Str → Bool} {α β γ γ' δ ε ρ ν ν' τ ι : Type} {A : Ty α} {B : Ty β} {C : Ty δ} {T : Tys τ} {e a b c tg iter elt : Expr} {es rest ifs : List Expr} {ss b1 b2 : List Stmt} {x y : Str} {pos p apos : Pos} {Γ Γ' gx : List Slot} {L : γ → List Rg} {s : γ} {xt : XT ε} {L0 L1 : List Rg}
  {gn : ν → List Slot} {ln : ν → List Rg} {gj : ν' → List Slot} {lj : ν' → List Rg} {rt : RT ρ} {q : Addr} {xs : List α}
theorem sf_stuck : SF X ss Γ L0 gn ln rt xt gx (.stuck : Out ε ρ ν) := fun I σ F H D fr th => th.elim
theorem sf_lt {δ : Type} (S : δ → Out ε ρ ν → Prop) (d : δ) {k : δ → Out ε ρ ν} (h : ∀ d, S d (k d)) : S d (Out.lt d k) := h d
/-- an item of a tuple of written types -/
theorem ep_ixTup {t : τ} {d : α} {i : Int} {k2 p2} (h : EP X a Γ L0 (tTup T) t) (j : Nat) (hj : (T.slots t)[j]? = some (.dat A d) := by rfl) (hi : i = (j : Int) := by rfl) (hs : PlainIx (.Constant (.int i) k2 p2) := by exact fun _ _ => rfl) : EP X (.Subscript a (.Constant (.int i) k2 p2) pos) Γ L0 A d := fun I σ F H Q fr th => by
  refine PE_to (pe_ix ix_tup pe_w pe_int hs) ?_
  refine h.run fr fun I1 v H1 e1 fr1 rv => ?_
  obtain ⟨q, vs, rfl, hq, hT⟩ := rv
  obtain ⟨w, hw, rw⟩ := T.ok hT j _ hj
  refine ⟨q, vs, i, w, rfl, rfl, .of (fr1.sep.same _ _ hq), ?_, th I1 w H1 e1 fr1 rw⟩
  subst hi
  have hlt : j < vs.length := by
    by_cases hh : j < vs.length
    · exact hh
    · rw [List.getElem?_eq_none (by omega)] at hw
      cases hw
  unfold atI ixN
  rw [if_pos (by omega), if_pos (by omega)]
  exact hw
theorem ef_ixTup {f : τ → α} {i : Int} {k2 p2} {m : Res ε (τ × γ)} (h : EF X a Γ L s (tTup T) xt m) (j : Nat) (hj : ∀ t, (T.slots t)[j]? = some (.dat A (f t)) := by intro _; rfl) (hi : i = (j : Int) := by rfl) (hs : PlainIx (.Constant (.int i) k2 p2) := by exact fun _ _ => rfl) : EF X (.Subscript a (.Constant (.int i) k2 p2) pos) Γ L s A xt (m.bnd fun x s => Res.val (f x, s)) := fun I σ F H Q fr th => by
  refine PE_to (pe_ix ix_tup pe_w pe_int hs) ?_
  refine Then.bnd h fr th fun I1 v H1 d s1 e1 fr1 rv th1 => ?_
  obtain ⟨q, vs, rfl, hq, hT⟩ := rv
  obtain ⟨w, hw, rw⟩ := T.ok hT j _ (hj d)
  refine ⟨q, vs, i, w, rfl, rfl, .of (fr1.sep.same _ _ hq), ?_, th1 I1 w H1 (Same.refl _) fr1 rw⟩
  subst hi
  have hlt : j < vs.length := by
    by_cases hh : j < vs.length
    · exact hh
    · rw [List.getElem?_eq_none (by omega)] at hw
      cases hw
  unfold atI ixN
  rw [if_pos (by omega), if_pos (by omega)]
  exact hw
theorem tf_grd {P : Prop} [Decidable P] {d : Bool} (h : P → TP' X e Γ (L s) d) : TF X e Γ L s xt (Res.grd P (d, s)) := fun I σ F H Q fr th => by
  obtain ⟨h1, h2⟩ := ThenT.grd th
  exact h h1 I σ F H Q fr fun I' H' e1 f1 => h2 I' H' e1 f1
theorem en_lstP {t : List α} (h : AP' X es Γ (L s) (Tys.lst A) t) (hz : t.length ≤ 1000) : EN X (.List es pos) Γ L s (cLst A) xt (.val (t, s)) := fun I σ F H Q fr th => by
  refine PE_to (pe_lst pa_w) ?_
  refine h I σ F H _ fr fun I1 vs H1 e1 fr1 rv => ?_
  refine ⟨by rw [paired_len rv]; exact Nat.le_trans hz (by decide), fun q hq => ?_⟩
  exact th _ _ _ e1 ⟨fr1.sep.new hq ⟨vs, rfl, rv⟩, fr1.len, fr1.sl⟩
/-! in a list, a tuple of scalars -/
theorem inV_int (i : Int) : ∀ xs : List Int, inV (.int i) (xs.map V.int) = decide (i ∈ xs)
  | [] => rfl
  | x :: xs => by
    have h := inV_int i xs
    unfold inV at h ⊢
    rw [List.map_cons, List.any_cons, h]
    show (decide _ || _) = _ <;> first
      | (by_cases e : i = x
         · subst e; simp [eqV]
         · simp [eqV, e, Ne.symm e])
theorem inV_tx (i : Tx) : ∀ xs : List Tx, inV (.str ⟨i.toArray⟩) ((xs.map fun t => (⟨t.toArray⟩ : Str)).map V.str) = decide (i ∈ xs)
  | [] => rfl
  | x :: xs => by
    have h := inV_tx i xs
    unfold inV at h ⊢
    rw [List.map_cons, List.map_cons, List.any_cons, h]
    by_cases e : i = x
    · subst e; simp [eqV]
    · have e2 : ¬ x = i := fun z => e z.symm
      simp [eqV, e, e2]
theorem flat_int (xs : List Int) : (xs.map V.int).all flatV = true := by simp [flatV]
theorem flat_tx (xs : List Tx) : ((xs.map fun t => (⟨t.toArray⟩ : Str)).map V.str).all flatV = true := by simp [flatV]
theorem inV_bl (i : Bool) : ∀ xs : List Bool, inV (.bl i) (xs.map V.bl) = decide (i ∈ xs)
  | [] => rfl
  | x :: xs => by
    have h := inV_bl i xs
    unfold inV at h ⊢
    rw [List.map_cons, List.any_cons, h]
    cases i <;> cases x <;> simp [eqV]
theorem flat_bl (xs : List Bool) : (xs.map V.bl).all flatV = true := by simp [flatV]
theorem d_inBL {K : PySem.W.Frag} : D2 (rIn K false) tBool (tLst tBool) tBool (fun _ _ => True) (fun i xs => decide (i ∈ xs)) := fun I L H v w i xs Q se rv rw _ k => by
  cases rv
  obtain ⟨p, vs, rfl, h2, h3⟩ := rw
  have e := paired_bool h3
  subst e
  exact ⟨p, _, rfl, .inl (.of (se.same _ _ h2)), rfl, flat_bl xs, k I _ H (Same.refl _) se (by show V.bl _ = V.bl _; rw [inV_bl]; rfl)⟩
theorem d_ninBL {K : PySem.W.Frag} : D2 (rIn K true) tBool (tLst tBool) tBool (fun _ _ => True) (fun i xs => !decide (i ∈ xs)) := fun I L H v w i xs Q se rv rw _ k => by
  cases rv
  obtain ⟨p, vs, rfl, h2, h3⟩ := rw
  have e := paired_bool h3
  subst e
  exact ⟨p, _, rfl, .inl (.of (se.same _ _ h2)), rfl, flat_bl xs, k I _ H (Same.refl _) se (by show V.bl _ = V.bl _; rw [inV_bl]; rfl)⟩
theorem d_inIL {K : PySem.W.Frag} : D2 (rIn K false) tInt (tLst tInt) tBool (fun _ _ => True) (fun i xs => decide (i ∈ xs)) := fun I L H v w i xs Q se rv rw _ k => by
  cases rv
  obtain ⟨p, vs, rfl, h2, h3⟩ := rw
  have e := paired_int h3
  subst e
  exact ⟨p, _, rfl, .inl (.of (se.same _ _ h2)), rfl, flat_int xs, k I _ H (Same.refl _) se (by show V.bl _ = V.bl _; rw [inV_int]; rfl)⟩
theorem d_ninIL {K : PySem.W.Frag} : D2 (rIn K true) tInt (tLst tInt) tBool (fun _ _ => True) (fun i xs => !decide (i ∈ xs)) := fun I L H v w i xs Q se rv rw _ k => by
  cases rv
  obtain ⟨p, vs, rfl, h2, h3⟩ := rw
  have e := paired_int h3
  subst e
  exact ⟨p, _, rfl, .inl (.of (se.same _ _ h2)), rfl, flat_int xs, k I _ H (Same.refl _) se (by show V.bl _ = V.bl _; rw [inV_int]; rfl)⟩
theorem d_inIU {K : PySem.W.Frag} : D2 (rIn K false) tInt (tTuL tInt) tBool (fun _ _ => True) (fun i xs => decide (i ∈ xs)) := fun I L H v w i xs Q se rv rw _ k => by
  cases rv
  obtain ⟨p, vs, rfl, h2, h3⟩ := rw
  have e := paired_int h3
  subst e
  exact ⟨p, _, rfl, .inr (.of (se.same _ _ h2)), rfl, flat_int xs, k I _ H (Same.refl _) se (by show V.bl _ = V.bl _; rw [inV_int]; rfl)⟩
theorem d_ninIU {K : PySem.W.Frag} : D2 (rIn K true) tInt (tTuL tInt) tBool (fun _ _ => True) (fun i xs => !decide (i ∈ xs)) := fun I L H v w i xs Q se rv rw _ k => by
  cases rv
  obtain ⟨p, vs, rfl, h2, h3⟩ := rw
  have e := paired_int h3
  subst e
  exact ⟨p, _, rfl, .inr (.of (se.same _ _ h2)), rfl, flat_int xs, k I _ H (Same.refl _) se (by show V.bl _ = V.bl _; rw [inV_int]; rfl)⟩
theorem d_inIQ {K : PySem.W.Frag} : D2 (rIn K false) tInt (tSeq K tInt) tBool (fun _ _ => True) (fun i xs => decide (i ∈ xs)) := fun I L H v w i xs Q se rv rw _ k => by
  cases rv
  obtain ⟨p, vs, rfl, h2, h3⟩ := rw
  have e := paired_int h3
  subst e
  exact ⟨p, _, rfl, .inl (Same.sql se.same h2), rfl, flat_int xs, k I _ H (Same.refl _) se (by show V.bl _ = V.bl _; rw [inV_int]; rfl)⟩
theorem d_ninIQ {K : PySem.W.Frag} : D2 (rIn K true) tInt (tSeq K tInt) tBool (fun _ _ => True) (fun i xs => !decide (i ∈ xs)) := fun I L H v w i xs Q se rv rw _ k => by
  cases rv
  obtain ⟨p, vs, rfl, h2, h3⟩ := rw
  have e := paired_int h3
  subst e
  exact ⟨p, _, rfl, .inl (Same.sql se.same h2), rfl, flat_int xs, k I _ H (Same.refl _) se (by show V.bl _ = V.bl _; rw [inV_int]; rfl)⟩
theorem d_inTL {K : PySem.W.Frag} : D2 (rIn K false) tTx (tLst tTx) tBool (fun _ _ => True) (fun i xs => decide (i ∈ xs)) := fun I L H v w i xs Q se rv rw _ k => by
  cases rv
  obtain ⟨p, vs, rfl, h2, h3⟩ := rw
  have e := paired_tx h3
  subst e
  exact ⟨p, _, rfl, .inl (.of (se.same _ _ h2)), rfl, flat_tx xs, k I _ H (Same.refl _) se (by show V.bl _ = V.bl _; rw [inV_tx]; rfl)⟩
theorem d_ninTL {K : PySem.W.Frag} : D2 (rIn K true) tTx (tLst tTx) tBool (fun _ _ => True) (fun i xs => !decide (i ∈ xs)) := fun I L H v w i xs Q se rv rw _ k => by
  cases rv
  obtain ⟨p, vs, rfl, h2, h3⟩ := rw
  have e := paired_tx h3
  subst e
  exact ⟨p, _, rfl, .inl (.of (se.same _ _ h2)), rfl, flat_tx xs, k I _ H (Same.refl _) se (by show V.bl _ = V.bl _; rw [inV_tx]; rfl)⟩
theorem d_inTU {K : PySem.W.Frag} : D2 (rIn K false) tTx (tTuL tTx) tBool (fun _ _ => True) (fun i xs => decide (i ∈ xs)) := fun I L H v w i xs Q se rv rw _ k => by
  cases rv
  obtain ⟨p, vs, rfl, h2, h3⟩ := rw
  have e := paired_tx h3
  subst e
  exact ⟨p, _, rfl, .inr (.of (se.same _ _ h2)), rfl, flat_tx xs, k I _ H (Same.refl _) se (by show V.bl _ = V.bl _; rw [inV_tx]; rfl)⟩
theorem d_ninTU {K : PySem.W.Frag} : D2 (rIn K true) tTx (tTuL tTx) tBool (fun _ _ => True) (fun i xs => !decide (i ∈ xs)) := fun I L H v w i xs Q se rv rw _ k => by
  cases rv
  obtain ⟨p, vs, rfl, h2, h3⟩ := rw
  have e := paired_tx h3
  subst e
  exact ⟨p, _, rfl, .inr (.of (se.same _ _ h2)), rfl, flat_tx xs, k I _ H (Same.refl _) se (by show V.bl _ = V.bl _; rw [inV_tx]; rfl)⟩
theorem d_inTQ {K : PySem.W.Frag} : D2 (rIn K false) tTx (tSeq K tTx) tBool (fun _ _ => True) (fun i xs => decide (i ∈ xs)) := fun I L H v w i xs Q se rv rw _ k => by
  cases rv
  obtain ⟨p, vs, rfl, h2, h3⟩ := rw
  have e := paired_tx h3
  subst e
  exact ⟨p, _, rfl, .inl (Same.sql se.same h2), rfl, flat_tx xs, k I _ H (Same.refl _) se (by show V.bl _ = V.bl _; rw [inV_tx]; rfl)⟩
theorem d_ninTQ {K : PySem.W.Frag} : D2 (rIn K true) tTx (tSeq K tTx) tBool (fun _ _ => True) (fun i xs => !decide (i ∈ xs)) := fun I L H v w i xs Q se rv rw _ k => by
  cases rv
  obtain ⟨p, vs, rfl, h2, h3⟩ := rw
  have e := paired_tx h3
  subst e
  exact ⟨p, _, rfl, .inl (Same.sql se.same h2), rfl, flat_tx xs, k I _ H (Same.refl _) se (by show V.bl _ = V.bl _; rw [inV_tx]; rfl)⟩
/-! own lists, further -/
theorem ep_tupO (cx : Cxt X N sc own) (hm : X.mg "tuple" = none) (ha : EP X a Γ L0 (tCell q) ()) (hL : Has L0 q (cLst A xs)) (hg : glB sc "tuple" = true := by decide +kernel) (hs : starEach [a] X.env = (false, eval a X.env) :: starEach [] X.env := by exact star_c rfl) : EP X (.Call (.Name "tuple" p) [a] [] pos) Γ L0 (tTuL A) xs := fun I σ F H Q fr th => by
  obtain ⟨h1, h2, h3⟩ := glB_gl cx hg
  refine PE_to (pe_callTy call_tuple_of h1 hm (by decide +kernel) (pa_cons pe_w pa_nil hs) h3 h2 hs rfl) ?_
  refine ha.run fr fun I1 v H1 e1 fr1 rv => ?_
  cases rv
  obtain ⟨o, ho, ⟨vs, rfl, hv⟩, _⟩ := hL.get fr1.sep
  refine ⟨q, vs, rfl, .inl ⟨.of ho, fun l hl => ?_⟩⟩
  exact th (upd I1 l (.tup vs)) _ _ (e1.trans (Same.upd (fr1.sep.same.free hl))) (fr1.step (Same.upd (fr1.sep.same.free hl)) (fr1.sep.imm hl)) ⟨l, vs, rfl, upd_same, paired_mono (Same.upd (fr1.sep.same.free hl)) hv⟩
theorem ep_listO (cx : Cxt X N sc own) (hm : X.mg "list" = none) (ha : EP X a Γ L0 (tCell q) ()) (hL : Has L0 q (cLst A xs)) (hg : glB sc "list" = true := by decide +kernel) (hs : starEach [a] X.env = (false, eval a X.env) :: starEach [] X.env := by exact star_c rfl) : EP X (.Call (.Name "list" p) [a] [] pos) Γ L0 (tLst A) xs := fun I σ F H Q fr th => by
  obtain ⟨h1, h2, h3⟩ := glB_gl cx hg
  refine PE_to (pe_callTy call_list_of h1 hm (by decide +kernel) (pa_cons pe_w pa_nil hs) h3 h2 hs rfl) ?_
  refine ha.run fr fun I1 v H1 e1 fr1 rv => ?_
  cases rv
  obtain ⟨o, ho, ⟨vs, rfl, hv⟩, _⟩ := hL.get fr1.sep
  refine ⟨q, vs, rfl, .inl (.of ho), fun l hl => ?_⟩
  exact th (upd I1 l (.lst vs)) _ _ (e1.trans (Same.upd (fr1.sep.same.free hl))) (fr1.step (Same.upd (fr1.sep.same.free hl)) (fr1.sep.imm hl)) ⟨l, vs, rfl, upd_same, paired_mono (Same.upd (fr1.sep.same.free hl)) hv⟩
/-! a comprehension's targets -/
def GFB (X : Cx) (scope : Scope) (tg : Expr) {β : Type} (B : Ty β) (up : List Slot → β → List Slot) (vs : List Nat) : Prop :=
  ∃ g : TG, (∀ (s : Shared) (H : Hp) (C : Addr) (cl : List (Str × Addr)) (fp : List Addr), PG (blkX X scope s H C cl fp) tg g) ∧ ∀ (I : Hp) (σ : St) (Γ : List Slot) (L : List Rg) (H : Hp) (v : V) (d : β) (Q : St → Hp → Prop), FrOk I σ Γ L H → B.rep I v d →
      (∀ I' σ' H', Same I I' → FrOk I' σ' (up Γ d) L H' → σ'.length = σ.length → (∀ j, j ∉ vs → σ'[j]? = σ[j]?) → Q σ' H') → g v σ H Q
theorem gfb_name (cx : Cxt X N sc own) (i : Nat) (hi : N[i]? = some x := by rfl) (ho : ownB scope sc x = true := by decide +kernel) : GFB X scope (.Name x pos) B (fun Γ d => Γ.set i (.dat B d)) [i] := by
  refine ⟨gName i, fun s H C cl fp => ?_, fun I σ Γ L H v d Q fr r k => ?_⟩
  · have cb := cxt_blk (scope := scope) cx s H C cl fp
    obtain ⟨h1, h2⟩ := cb.st x ho
    exact pg_name (by rw [cb.hN]; exact cb.nd) (by rw [cb.hN]; exact hi) h1 h2
  · exact k I _ H (Same.refl _) (fr.set r i) (List.length_set ..) fun j hj => by
      rw [List.getElem?_set_ne]
      intro z
      exact hj (by rw [z]; exact List.mem_cons_self)
def GFBs (X : Cx) (scope : Scope) (tgs : List Expr) {τ : Type} (T : Tys τ) (up : List Slot → τ → List Slot) (vs : List Nat) : Prop :=
  ∃ g : TGs, (∀ (s : Shared) (H : Hp) (C : Addr) (cl : List (Str × Addr)) (fp : List Addr), PGs (blkX X scope s H C cl fp) tgs g) ∧ ∀ (I : Hp) (σ : St) (Γ : List Slot) (L : List Rg) (H : Hp) (ws : List V) (d : τ) (Q : St → Hp → Prop), FrOk I σ Γ L H → T.rep I ws d →
      (∀ I' σ' H', Same I I' → FrOk I' σ' (up Γ d) L H' → σ'.length = σ.length → (∀ j, j ∉ vs → σ'[j]? = σ[j]?) → Q σ' H') → g ws σ H Q
theorem gfbs_nil : GFBs X scope [] Tys.nil (fun Γ _ => Γ) [] := ⟨gNil, fun _ _ _ _ _ => pgs_nil, fun I σ Γ L H ws d Q fr r k => ⟨r, k I σ H (Same.refl _) fr rfl fun _ _ => rfl⟩⟩
theorem gfbs_cons {u2 : List Slot → τ → List Slot} {v2 : List Nat} (cx : Cxt X N sc own) (i : Nat) (h2 : GFBs X scope es T u2 v2) (hi : N[i]? = some x := by rfl) (ho : ownB scope sc x = true := by decide +kernel)
    (hh : ∀ (s : Shared) (H : Hp) (C : Addr) (cl : List (Str × Addr)) (fp : List Addr), List.map (fun x => x.snd) (assignEach (.Name x pos :: es) (blkX X scope s H C cl fp).env) = assign (.Name x pos) (blkX X scope s H C cl fp).env :: List.map (fun x => x.snd) (assignEach es (blkX X scope s H C cl fp).env) := by intros; rfl) :
    GFBs X scope (.Name x pos :: es) (Tys.cons A T) (fun Γ d => u2 (Γ.set i (.dat A d.1)) d.2) (i :: v2) := by
  obtain ⟨g2, p2, q2⟩ := h2
  refine ⟨gCons (gName i) g2, fun s H C cl fp => ?_, fun I σ Γ L H ws d Q fr r k => ?_⟩
  · have cb := cxt_blk (scope := scope) cx s H C cl fp
    obtain ⟨h1, h2⟩ := cb.st x ho
    exact pgs_cons (pg_name (by rw [cb.hN]; exact cb.nd) (by rw [cb.hN]; exact hi) h1 h2) (p2 s H C cl fp) (hh s H C cl fp)
  · obtain ⟨w, wr, rfl, ra, rb⟩ := r
    refine ⟨w, wr, rfl, ?_⟩
    refine q2 I (σ.set i (some w)) _ L H wr d.2 _ (fr.set ra i) rb fun I2 σ2 H2 e2 fr2 l2 k2 => ?_
    refine k I2 σ2 H2 e2 fr2 (l2.trans (List.length_set ..)) fun j hj => (k2 j fun z => hj (List.mem_cons_of_mem _ z)).trans ?_
    rw [List.getElem?_set_ne]
    intro z
    exact hj (by rw [z]; exact List.mem_cons_self)
theorem gfb_tup {u : List Slot → τ → List Slot} {vs : List Nat} {k n : Nat} (cc : Calm X) (h : GFBs X scope es T u vs) 
    (hn : ∀ (s : Shared) (H : Hp) (C : Addr) (cl : List (Str × Addr)) (fp : List Addr), (assignEach es (blkX X scope s H C cl fp).env).length = n := by intros; rfl) (hst : ∀ (s : Shared) (H : Hp) (C : Addr) (cl : List (Str × Addr)) (fp : List Addr), (assignEach es (blkX X scope s H C cl fp).env).findIdx? (·.1) = none := by intros; rfl) (hT : ∀ t, (T.slots t).length = n := by intro _; rfl) :
    GFB X scope (.Tuple es k pos) (tTup T) u vs := by
  obtain ⟨g, pg, q⟩ := h
  refine ⟨gTup X.K n g, fun s H C cl fp => ?_, fun I σ Γ L H v d Q fr r kk => ?_⟩
  · exact pg_tup (X := blkX X scope s H C cl fp) cc.calm (pg s H C cl fp) (hn s H C cl fp) (hst s H C cl fp)
  · obtain ⟨a, ws, rfl, h1, h2⟩ := r
    exact ⟨a, ws, rfl, .of (fr.sep.same _ _ h1), by rw [T.len h2, hT], q I σ Γ L H ws d Q fr h2 kk⟩
/-! joining texts -/
def joinT (t : Tx) (ys : List Tx) : Tx := TL.joinL t ys
def joinOk (t : Tx) (ys : List Tx) : Prop := (ys.map List.length).sum + ys.length * t.length ≤ 16777216
instance {t : Tx} {ys : List Tx} : Decidable (joinOk t ys) := by unfold joinOk; infer_instance
theorem join_run {I H : Hp} {L : List Rg} {t : Tx} {ys : List Tx} {w : V} {Q : VK} (se : Sep I L H) (rw : (tLst tTx).rep I w ys) (hp : joinOk t ys) (k : Q (.str ⟨(joinT t ys).toArray⟩) H) {K : PySem.W.Frag} :
    ∃ a p, ∃ zs : List Str, V.str ⟨t.toArray⟩ = .str a ∧ [w] = [.ref p] ∧ (SqL K H p (zs.map V.str) ∨ SqT K H p (zs.map V.str)) ∧ (zs.map (·.length)).sum + zs.length * a.length ≤ 16777216 ∧ Q (.str (Txt.join a zs)) H := by
  obtain ⟨p, vs, rfl, h1, h2⟩ := rw
  have e := paired_tx h2
  subst e
  refine ⟨_, p, _, rfl, rfl, .inl (.of (se.same _ _ h1)), ?_, ?_⟩
  · have e1 : (ys.map fun t => (⟨t.toArray⟩ : Str)).map (·.length) = ys.map List.length := by
      rw [List.map_map]
      exact List.map_congr_left fun t _ => by show t.toArray.size = _; simp
    rw [e1, List.length_map]
    unfold joinOk at hp
    show _ + _ * t.toArray.size ≤ _
    simpa using hp
  · have e2 : Txt.join (⟨t.toArray⟩ : Str) (ys.map fun t => (⟨t.toArray⟩ : Str)) = ⟨(TL.joinL t ys).toArray⟩ := SX.join_S t ys
    rw [e2]
    exact k
theorem ef_joinP {o : Expr} {t : Tx} {ys : List Tx} (ha : EP X o Γ (L s) tTx t) (hb : EP X e Γ (L s) (tLst tTx) ys) (hs : starEach [e] X.env = [(false, eval e X.env)] := by exact star_c rfl) (hbase : attributeBase o "join" X.env (eval o X.env) = eval o X.env := by rfl) (hline : (apos.endLine == pos.line) = true := by rfl) :
    EF X (.Call (.Attribute o "join" apos) [e] [] pos) Γ L s tTx xt (Res.grd (joinOk t ys) (joinT t ys, s)) := fun I σ F H Q fr th => by
  obtain ⟨hp, th3⟩ := Then.grd th
  refine PE_to (pe_join pe_w pe_w hs hbase hline) ?_
  refine ha.run fr fun I1 v H1 e1 fr1 rv => ⟨⟨_, rv⟩, ?_⟩
  refine hb.run fr1 fun I2 w H2 e2 fr2 rw => ?_
  cases rv
  exact join_run fr2.sep rw hp (th3 I2 _ H2 (e1.trans e2) fr2 rfl)
theorem ef_join {o : Expr} {t : Tx} {m : Res ε (List Tx × γ)} (ha : EP X o Γ (L s) tTx t) (hb : EF X e Γ L s (tLst tTx) xt m) (hs : starEach [e] X.env = [(false, eval e X.env)] := by exact star_c rfl) (hbase : attributeBase o "join" X.env (eval o X.env) = eval o X.env := by rfl) (hline : (apos.endLine == pos.line) = true := by rfl) :
    EF X (.Call (.Attribute o "join" apos) [e] [] pos) Γ L s tTx xt (m.bnd fun y s => Res.grd (joinOk t y) (joinT t y, s)) := fun I σ F H Q fr th => by
  refine PE_to (pe_join pe_w pe_w hs hbase hline) ?_
  refine ha.run fr fun I1 v H1 e1 fr1 rv => ⟨⟨_, rv⟩, ?_⟩
  refine Then.bnd hb fr1 (then_up e1 th) fun I2 w H2 d2 s2 e2 fr2 rw th2 => ?_
  obtain ⟨hp, th3⟩ := Then.grd th2
  cases rv
  exact join_run fr2.sep rw hp (th3 I2 _ H2 (Same.refl _) fr2 rfl)
end
end Fw


/-! ## 22. enumerate of a text, of a tuple -/
namespace PySem
open Builtin
theorem meets_enumerate_new1 {v : Value} {o : Obj} {H : Heap → Prop} (B : Begins v o H) :
    Meets (Builtin.«enumerate.__new__» ⟨[.type "enumerate", v], []⟩) (fun _ R s => H s.heap ∧
      R (.ok (.ret (.ref (s.heap.push o).objs.size))) { s with heap := (s.heap.push o).push { cls := .type "enumerate", data := .fields #[.none, .bool false, .ref s.heap.objs.size, rawInt 0, .none, .none] } }) :=
  .of_wp fun prog w A R s h => by
    obtain ⟨hp, g, d, tk, os⟩ := s; obtain ⟨h1, h⟩ := h
    have hsub := sub_enumerate
    have q1 : ∀ {A' : Around} {E : Value → Shared → Prop} {Q : Value → Shared → Prop}, Q (.ref hp.objs.size) ⟨hp.push o, g, d, tk, os⟩ → wpAny (model prog w) A' (pyIter v) Q E ⟨hp, g, d, tk, os⟩ :=
      fun q => B.iter prog w _ _ ⟨hp, g, d, tk, os⟩ _ h1 q
    wp_walk using q1
    refine wpAny_stack_any fun st => wpAny_pure ?_
    split
    · rename_i c _ _ _ _ _
      cases (c == Value.type "enumerate")
      · wp_walk using q1
        exact ⟨_, rfl, h⟩
      · wp_walk using q1
        exact ⟨_, rfl, h⟩
    · wp_walk using q1
      exact ⟨_, rfl, h⟩
section
variable {prog : Program} {w : World} {A : Around} {E : Value → Shared → Prop} {s : Shared}
theorem enum_begins1 {v : Value} {o : Obj} {H : Heap → Prop} {Q : Value → Shared → Prop} (B : Begins v o H) (h1 : H s.heap)
    (h : ∀ h', IsEnum h' (s.heap.objs.size + 1) s.heap.objs.size 0 .none → h'.get? s.heap.objs.size = some o → h'.objs.size = s.heap.objs.size + 2 →
      (∀ b o, s.heap.get? b = some o → h'.get? b = some o) → Q (.ref (s.heap.objs.size + 1)) { s with heap := h' }) :
    wpAny (model prog w) A (call (.type "enumerate") [v]) Q E s := by
  refine callType_new F.called_enumerate (by decide) (F.typeCall_enumerate_1 _) (F.newCall_enumerate_1 _) (fun obj => F.args_object_init_2 obj _) F.entry_enumerate_new
    (meets_enumerate_new1 B) ⟨h1, ?_⟩
  have hz : (s.heap.push o).objs.size = s.heap.objs.size + 1 := Heap.size_push ..
  show _ ∧ _
  rw [hz]
  have he : IsEnum ((s.heap.push o).push { cls := .type "enumerate", data := .fields #[.none, .bool false, .ref s.heap.objs.size, rawInt 0, .none, .none] }) (s.heap.objs.size + 1) s.heap.objs.size 0 .none := by
    have := Heap.get?_push_size (s.heap.push o) (o := { cls := .type "enumerate", data := .fields #[.none, .bool false, .ref s.heap.objs.size, rawInt 0, .none, .none] }) rfl
    rw [hz] at this; exact this
  refine ⟨⟨_, he, rfl⟩, h _ he (Heap.get?_push_of_some _ (Heap.get?_push_size _ B.free)) (by rw [Heap.size_push, hz]) fun b o x => Heap.get?_push_of_some _ (Heap.get?_push_of_some _ x)⟩
end
end PySem
namespace L2
open PySem PySem.Spec PyProof.Rows
/-- the signs of a text, each in a new pair -/
def IteS (x : Str) : It := ⟨fun i _ => i < x.cps.size, fun i H v H' => ∃ T c, v = .ref T ∧ H T = none ∧ H' = upd H T (.tup [.int (i : Nat), .str ⟨#[c]⟩]) ∧ x.cps[i]? = some c, fun i _ => i = x.cps.size⟩
theorem turn_enumS {P : Program} {w : World} {K : PySem.W.Frag} {elts : List Expr} {kk : Nat} {tpos : Pos} (e it : Addr) (x : Str) (t : Tok) :
    Turn P w K (.Tuple elts kk tpos) (IteS x) [e, it] e (fun i h => (∃ old, IsEnum h e it ((i : Nat) : Int) old) ∧ h.IsStrIter it (strIterType x) x t i ∧ e ≠ it) where
  mem := by simp
  obj := fun i h st b hb => by
    obtain ⟨⟨old, he⟩, ⟨o, ho, hc, hd⟩, _⟩ := st
    have e' : b = e ∨ b = it := by simpa using hb
    rcases e' with z | z
    · rw [z]; exact ⟨_, he, fun v q => nomatch q⟩
    · rw [z]; exact ⟨o, ho, fun v q => by rw [hd] at q; cases q⟩
  keep := fun i h h' st k => let ⟨⟨old, he⟩, ⟨o, ho, r⟩, hne⟩ := st; ⟨⟨old, k e (by simp) _ he⟩, ⟨o, k it (by simp) o ho, r⟩, hne⟩
  item := by
    intro X hP hw hK hc i pins s σ H E I hf st hg
    subst hP hw hK
    obtain ⟨⟨old, he⟩, hit, hne⟩ := st
    have hel : e < s.heap.objs.size := Heap.lt_size he
    have hil : it < s.heap.objs.size := by obtain ⟨_, q, _⟩ := hit; exact Heap.lt_size q
    have D : Draws X.prog X.w X.A.in1 it [it] x.cps.size (fun i v => ∃ c u, x.cps[i]? = some c ∧ v = .str ⟨#[c]⟩ u) (fun i h => h.IsStrIter it (strIterType x) x t i) := Draws.text (A := X.A.in1) (I.ok.hd hc) it x t
    refine wpAny_pyNext_enum_itemD D he hit hg hne (by simpa using hne) fun y h' tk hy ho hit' hT hsz hk => ?_
    obtain ⟨c, u, hcx, rfl⟩ := hy
    refine ⟨_, rfl, wpAny_letOwnedTupleGo_enum (s := { s with heap := h', toks := tk + 1 }) ho fun h'' he' sb => ?_⟩
    have hT2 : h''.get? s.heap.objs.size = some { cls := .type "tuple", data := .seq #[.int i tk, .str ⟨#[c]⟩ u] } := (sb.2 _ (Nat.ne_of_gt hel)).trans hT
    have new : ObjOk X.prog X.w (upd H s.heap.objs.size (.tup [.int (i : Nat), .str ⟨#[c]⟩])) h'' s.heap.objs.size (.tup [.int (i : Nat), .str ⟨#[c]⟩]) :=
      ⟨by show 2 ≤ sizeLine; decide, [.int i tk, .str ⟨#[c]⟩ u], .cons ⟨_, rfl⟩ (.cons ⟨_, rfl⟩ .nil), ⟨_, hT2, rfl, _, rfl⟩⟩
    have I1 : Inv X pins σ (upd H s.heap.objs.size (.tup [.int (i : Nat), .str ⟨#[c]⟩])) { s with heap := h'', toks := tk + 1 } :=
      I.turnedNew (ch := [e, it]) (fun b ob hb q => (sb.2 b (fun z => hb (by simp [z]))).trans (hk b ob (fun z => hb (by simp [z])) (fun z => hb (by simp [z])) q)) hf (Nat.le_refl _) new
    refine ⟨.ref s.heap.objs.size, _, I1, rfl, ⟨_, c, rfl, I.hok.fresh (Nat.le_refl _), rfl, hcx⟩, ⟨⟨.str ⟨#[c]⟩ u, ?_⟩, ?_, hne⟩, fun b hb => ?_⟩
    · have e1 : ((i + 1 : Nat) : Int) = (i : Int) + 1 := by omega
      rw [e1]; exact he'
    · obtain ⟨o, ho', r⟩ := hit'
      exact ⟨o, (sb.2 it (Ne.symm hne)).trans ho', r⟩
    · have hb' : b < s.heap.objs.size := by
        have e' : b = e ∨ b = it := by simpa using hb
        rcases e' with z | z
        · rw [z]; exact hel
        · rw [z]; exact hil
      rw [upd_ne (Nat.ne_of_lt hb')]
      exact (hf b hb).1
  done := by
    intro X hP hw hK hc i pins s σ H E I hf st hg
    subst hP hw hK
    obtain ⟨⟨old, he⟩, hit, hne⟩ := st
    have hg : i = x.cps.size := hg
    subst hg
    obtain ⟨f0, f1, f2, f3, f4, f5⟩ := hf it (by simp)
    exact wpAny_pyNext_enum_endD (Draws.text (A := X.A.in1) (I.ok.hd hc) it x t) he hit fun h' eb => ⟨rfl, I.turned (t' := s.toks) (fun b o hb q => eb b o hb q) f0 f1 f3 f4 f5⟩
  self := fun A i s Q E st h => let ⟨⟨_, he⟩, _⟩ := st; wpAny_pyIter_enum he h
def iEnumS (ta : TA) : TI := fun σ H R => ta σ H fun vs H1 => ∃ x, vs = [.str x] ∧ R (IteS x) H1
theorem pi_enumS {X : Cx} {e : Expr} {ta : TA} {p pos tpos : Pos} {elts : List Expr} {kk : Nat} (hg : Gl X "enumerate") (hm : X.mg "enumerate" = none) (ha : PA X [e] ta) (hs : starEach [e] X.env = [(false, eval e X.env)] := by exact star_c rfl) :
    PI X (.Tuple elts kk tpos) (.Call (.Name "enumerate" p) [e] [] pos) (iEnumS ta) := by
  refine ⟨fun pins s σ H R I h => ?_⟩
  refine Call_ (ld_blt I hg hm boot_enumerate (PyProof.Rows.callWith_type1 (thn (ha.run pos pins s σ H _ I h) fun us s1 ⟨vs, H1, I1, r1, q1⟩ => ?_) hs rfl))
  obtain ⟨x, ex, q⟩ := q1
  subst ex
  cases r1 with
  | cons r rr =>
    cases rr
    obtain ⟨t, rfl⟩ := r
    refine call_enumerate_str fun h' he hit hsz hk => wpAny_pyIter_enum he ?_
    have I2 : Inv X pins σ H1 { s1 with heap := h' } := I1.kept (t' := s1.toks) hk
    refine ⟨s1.heap.objs.size + 1, [s1.heap.objs.size + 1, s1.heap.objs.size], _, _, H1, rfl, I2, turn_enumS (s1.heap.objs.size + 1) s1.heap.objs.size x t, ⟨⟨.none, he⟩, hit, Nat.succ_ne_self _⟩, fun b hb => ?_, q⟩
    have e' : b = s1.heap.objs.size + 1 ∨ b = s1.heap.objs.size := by simpa using hb
    have hle : s1.heap.objs.size ≤ b := by
      rcases e' with z | z
      · rw [z]; exact Nat.le_succ _
      · rw [z]; exact Nat.le_refl _
    exact I1.fpOk hle (I1.hok.fresh hle)
/-- a tuple's items, each in a new pair -/
def IteT (K : PySem.W.Frag) (a : Addr) : It :=
  ⟨fun i H => ∃ (xs : List V) (x : V), SqT K H a xs ∧ xs[i]? = some x, fun i H v H' => ∃ T x, v = .ref T ∧ H T = none ∧ H' = upd H T (.tup [.int (i : Nat), x]) ∧ ∀ xs, SqT K H a xs → xs[i]? = some x, fun i H => ∃ xs : List V, SqT K H a xs ∧ xs.length = i⟩
theorem turn_enumT {P : Program} {w : World} {K : PySem.W.Frag} {elts : List Expr} {kk : Nat} {tpos : Pos} (a e it : Addr) :
    Turn P w K (.Tuple elts kk tpos) (IteT K a) [e, it] e (fun i h => (∃ old, IsEnum h e it ((i : Nat) : Int) old) ∧ h.IsTupleIter it a i ∧ e ≠ it) where
  mem := by simp
  obj := fun i h st b hb => by
    obtain ⟨⟨old, he⟩, ⟨o, ho, hc, hd⟩, _⟩ := st
    have e' : b = e ∨ b = it := by simpa using hb
    rcases e' with z | z
    · rw [z]; exact ⟨_, he, fun v q => nomatch q⟩
    · rw [z]; exact ⟨o, ho, fun v q => by rw [hd] at q; cases q⟩
  keep := fun i h h' st k => let ⟨⟨old, he⟩, hi, hne⟩ := st; ⟨⟨old, k e (by simp) _ he⟩, hi.at fun o q => k it (by simp) o q, hne⟩
  item := by
    intro X hP hw hK hc i pins s σ H E I hf st hg
    subst hP hw hK
    obtain ⟨⟨old, he⟩, hit, hne⟩ := st
    obtain ⟨xs, x, hq, hx⟩ := hg
    obtain ⟨its, rv, p, hz⟩ := I.tuple hq
    obtain ⟨u, hu, ru⟩ := rv.get hx
    have hel : e < s.heap.objs.size := Heap.lt_size he
    have hil : it < s.heap.objs.size := by obtain ⟨_, q, _⟩ := hit; exact Heap.lt_size q
    have hai : a ≠ it := fun z => by
      obtain ⟨o1, h1, h2, _⟩ := p
      obtain ⟨o2, h3, h4, _⟩ := hit
      rw [z, h3] at h1
      cases h1
      rw [h4] at h2
      injection h2 with q
      exact absurd q (by decide)
    have hae : a ≠ e := fun z => by
      obtain ⟨o1, h1, h2, _⟩ := p
      have he : s.heap.get? e = some _ := he
      rw [z, he] at h1
      cases h1
      injection h2 with q
      exact absurd q (by decide)
    have hil2 : i < its.toArray.size := by
      have := (List.getElem?_eq_some_iff.mp hu).1
      simpa using this
    refine wpAny_pyNext_enum_itemD (Draws.tuple (A := X.A.in1) (I.ok.hd hc) it a hai its.toArray) he ⟨hit, p⟩ hil2 hne (by simp [hne, Ne.symm hae]) fun y h' tk hy ho hit' hT hsz hk => ?_
    have hyu : y = u := by
      have hy : its.toArray[i]? = some y := hy
      rw [List.getElem?_toArray, hu] at hy
      exact (Option.some.inj hy).symm
    subst hyu
    refine ⟨_, rfl, wpAny_letOwnedTupleGo_enum (s := { s with heap := h', toks := tk + 1 }) ho fun h'' he' sb => ?_⟩
    have hT2 : h''.get? s.heap.objs.size = some { cls := .type "tuple", data := .seq #[.int i tk, y] } := (sb.2 _ (Nat.ne_of_gt hel)).trans hT
    have new : ObjOk X.prog X.w (upd H s.heap.objs.size (.tup [.int (i : Nat), x])) h'' s.heap.objs.size (.tup [.int (i : Nat), x]) :=
      ⟨by show 2 ≤ sizeLine; decide, [.int i tk, y], .cons ⟨_, rfl⟩ (.cons ru .nil), ⟨_, hT2, rfl, _, rfl⟩⟩
    have I1 : Inv X pins σ (upd H s.heap.objs.size (.tup [.int (i : Nat), x])) { s with heap := h'', toks := tk + 1 } :=
      I.turnedNew (ch := [e, it]) (fun b ob hb q => (sb.2 b (fun z => hb (by simp [z]))).trans (hk b ob (fun z => hb (by simp [z])) (fun z => hb (by simp [z])) q)) hf (Nat.le_refl _) new
    refine ⟨.ref s.heap.objs.size, _, I1, rfl, ⟨_, x, rfl, I.hok.fresh (Nat.le_refl _), rfl, fun ys hy => by rw [I.tuple_inj hy hq]; exact hx⟩, ⟨⟨y, ?_⟩, hit'.1.at fun o q => (sb.2 it (Ne.symm hne)).trans q, hne⟩, fun b hb => ?_⟩
    · have e1 : ((i + 1 : Nat) : Int) = (i : Int) + 1 := by omega
      rw [e1]; exact he'
    · have hb' : b < s.heap.objs.size := by
        have e' : b = e ∨ b = it := by simpa using hb
        rcases e' with z | z
        · rw [z]; exact hel
        · rw [z]; exact hil
      rw [upd_ne (Nat.ne_of_lt hb')]
      exact (hf b hb).1
  done := by
    intro X hP hw hK hc i pins s σ H E I hf st hg
    subst hP hw hK
    obtain ⟨⟨old, he⟩, hit, hne⟩ := st
    obtain ⟨xs, hq, hx⟩ := hg
    obtain ⟨its, rv, p, hz⟩ := I.tuple hq
    obtain ⟨f0, f1, f2, f3, f4, f5⟩ := hf it (by simp)
    have hl := rv.length
    have hai : a ≠ it := fun z => by
      obtain ⟨o1, h1, h2, _⟩ := p
      obtain ⟨o2, h3, h4, _⟩ := hit
      rw [z, h3] at h1
      cases h1
      rw [h4] at h2
      injection h2 with q
      exact absurd q (by decide)
    have hsz : its.toArray.size = i := by rw [List.size_toArray]; omega
    subst hsz
    exact wpAny_pyNext_enum_endD (Draws.tuple (A := X.A.in1) (I.ok.hd hc) it a hai its.toArray) he ⟨hit, p⟩ fun h' eb => ⟨rfl, I.turned (t' := s.toks) (fun b o hb q => eb b o hb q) f0 f1 f3 f4 f5⟩
  self := fun A i s Q E st h => let ⟨⟨_, he⟩, _⟩ := st; wpAny_pyIter_enum he h
def iEnumT (K : PySem.W.Frag) (ta : TA) : TI := fun σ H R => ta σ H fun vs H1 => ∃ a xs, vs = [.ref a] ∧ SqT K H1 a xs ∧ R (IteT K a) H1
theorem pi_enumT {X : Cx} {e : Expr} {ta : TA} {p pos tpos : Pos} {elts : List Expr} {kk : Nat} (hg : Gl X "enumerate") (hm : X.mg "enumerate" = none) (ha : PA X [e] ta) (hs : starEach [e] X.env = [(false, eval e X.env)] := by exact star_c rfl) :
    PI X (.Tuple elts kk tpos) (.Call (.Name "enumerate" p) [e] [] pos) (iEnumT X.K ta) := by
  refine ⟨fun pins s σ H R I h => ?_⟩
  refine Call_ (ld_blt I hg hm boot_enumerate (PyProof.Rows.callWith_type1 (thn (ha.run pos pins s σ H _ I h) fun us s1 ⟨vs, H1, I1, r1, q1⟩ => ?_) hs rfl))
  obtain ⟨a, xs, ex, hq, q⟩ := q1
  subst ex
  cases r1 with
  | cons r rr =>
    cases rr
    cases r
    obtain ⟨its, rv, p', hz⟩ := I1.tuple hq
    refine enum_begins1 (begins_tuple a its.toArray) p' fun h' he hit hsz hk => wpAny_pyIter_enum he ?_
    have I2 : Inv X pins σ H1 { s1 with heap := h' } := I1.kept (t' := s1.toks) hk
    refine ⟨s1.heap.objs.size + 1, [s1.heap.objs.size + 1, s1.heap.objs.size], _, _, H1, rfl, I2, turn_enumT a (s1.heap.objs.size + 1) s1.heap.objs.size, ⟨⟨.none, he⟩, ⟨_, hit, rfl, rfl⟩, Nat.succ_ne_self _⟩, fun b hb => ?_, q⟩
    have e' : b = s1.heap.objs.size + 1 ∨ b = s1.heap.objs.size := by simpa using hb
    have hle : s1.heap.objs.size ≤ b := by
      rcases e' with z | z
      · rw [z]; exact Nat.le_succ _
      · rw [z]; exact Nat.le_refl _
    exact I1.fpOk hle (I1.hok.fresh hle)
end L2
namespace Fw
open PySem L2
def enumL {α : Type} (xs : List α) : List (Int × α × Unit) := List.zipWith (fun (i : Nat) x => ((i : Int), x, ())) (List.range xs.length) xs
theorem enumL_get {α : Type} {xs : List α} {i : Nat} : (enumL xs)[i]? = xs[i]?.map fun x => ((i : Int), x, ()) := by
  unfold enumL
  rw [List.getElem?_zipWith]
  by_cases h : i < xs.length
  · rw [List.getElem?_range h, List.getElem?_eq_getElem h]
    rfl
  · rw [List.getElem?_eq_none (l := xs) (by omega), List.getElem?_eq_none (by rw [List.length_range]; omega)]
    rfl
theorem enumL_len {α : Type} (xs : List α) : (enumL xs).length = xs.length := by simp [enumL]
section
variable {X : Cx} {N : List Str} {sc scope : Scope} {own : Str → Bool} {α β γ δ ε : Type} {A : Ty α} {e a : Expr} {elts : List Expr} {kk : Nat} {pos p tpos : Pos} {Γ : List Slot} {L : γ → List Rg} {s : γ} {xt : XT ε}
theorem if_enumS {m : Res ε (Tx × γ)} (cx : Cxt X N sc own) (hm : X.mg "enumerate" = none) (h : EF X a Γ L s tTx xt m) (hg : glB sc "enumerate" = true := by decide +kernel) (hs : starEach [a] X.env = [(false, eval a X.env)] := by exact star_c rfl) :
    IF X (.Tuple elts kk tpos) (.Call (.Name "enumerate" p) [a] [] pos) Γ L s (tTup (Tys2 tInt tTx)) xt (m.bnd fun t s => .val (enumL (t.map fun c => [c]), s)) := ⟨_, pi_enumS (glB_gl cx hg).1 hm (pa_cons pe_w pa_nil hs) hs, fun I σ F H R fr th => by
  refine h I σ F H _ fr ?_
  cases m with
  | stuck => exact th
  | exn x => exact th
  | val q =>
    obtain ⟨t, s1⟩ := q
    intro I1 v H1 e1 fr1 r
    cases r
    refine ⟨_, rfl, th _ I1 H1 e1 fr1 fun I2 L2 H2 e2 se i => ?_⟩
    have hl : (enumL (t.map fun c => [c])).length = t.length := by rw [enumL_len, List.length_map]
    refine ⟨fun hi => ?_, fun hi => ⟨?_, fun x H' y => ?_⟩⟩
    · show i = t.toArray.size
      have hi : i = (enumL (t.map fun c => [c])).length := hi
      rw [hi, hl, List.size_toArray]
    · show i < t.toArray.size
      have hi : i < (enumL (t.map fun c => [c])).length := hi
      rw [List.size_toArray]; omega
    · obtain ⟨T, c, rfl, hT, rfl, hc⟩ := y
      refine ⟨upd I2 T (.tup [.int (i : Nat), .str ⟨#[c]⟩]), Same.upd (se.same.free hT), se.imm hT, fun d hd => ?_⟩
      have hc' : t[i]? = some c := by simpa using hc
      have hd : (enumL (t.map fun c => [c]))[i]? = some d := hd
      rw [enumL_get, List.getElem?_map, hc'] at hd
      cases hd
      exact ⟨T, _, rfl, upd_same, _, _, rfl, rfl, _, _, rfl, rfl, rfl⟩⟩
theorem if_enumL {m : Res ε (List α × γ)} (cx : Cxt X N sc own) (hm : X.mg "enumerate" = none) (h : EF X a Γ L s (tLst A) xt m) (hg : glB sc "enumerate" = true := by decide +kernel) (hs : starEach [a] X.env = [(false, eval a X.env)] := by exact star_c rfl) :
    IF X (.Tuple elts kk tpos) (.Call (.Name "enumerate" p) [a] [] pos) Γ L s (tTup (Tys2 tInt A)) xt (m.bnd fun t s => .val (enumL t, s)) := ⟨_, pi_enum (glB_gl cx hg).1 hm (pa_cons pe_w pa_nil hs) hs, fun I σ F H R fr th => by
  refine h I σ F H _ fr ?_
  cases m with
  | stuck => exact th
  | exn x => exact th
  | val q =>
    obtain ⟨t, s1⟩ := q
    intro I1 v H1 e1 fr1 r
    obtain ⟨a, vs, rfl, h1, h2⟩ := r
    have hl := paired_len h2
    refine ⟨a, vs, rfl, .of (fr1.sep.same _ _ h1), th _ I1 H1 e1 fr1 fun I2 L2 H2 e2 se i => ?_⟩
    have sq2 : SqL X.K H2 a vs := .of ((e2.trans se.same) _ _ h1)
    have hn := enumL_len t
    have hl : vs.length = t.length := hl
    refine ⟨fun hi => ⟨vs, sq2, by have hi : i = (enumL t).length := hi; omega⟩, fun hi => ⟨⟨vs, vs[i]'(by have hi : i < (enumL t).length := hi; omega), sq2, by simp⟩, fun x H' y => ?_⟩⟩
    obtain ⟨T, x, rfl, hT, rfl, y⟩ := y
    refine ⟨upd I2 T (.tup [.int (i : Nat), x]), Same.upd (se.same.free hT), se.imm hT, fun d hd => ?_⟩
    obtain ⟨d', hd', rd⟩ := paired_get h2 (y vs sq2)
    have hd : (enumL t)[i]? = some d := hd
    rw [enumL_get, hd'] at hd
    cases hd
    exact ⟨T, _, rfl, upd_same, _, _, rfl, rfl, _, _, rfl, A.mono (e2.trans (Same.upd (se.same.free hT))) rd, rfl⟩⟩
theorem if_enumU {m : Res ε (List α × γ)} (cx : Cxt X N sc own) (hm : X.mg "enumerate" = none) (h : EF X a Γ L s (tTuL A) xt m) (hg : glB sc "enumerate" = true := by decide +kernel) (hs : starEach [a] X.env = [(false, eval a X.env)] := by exact star_c rfl) :
    IF X (.Tuple elts kk tpos) (.Call (.Name "enumerate" p) [a] [] pos) Γ L s (tTup (Tys2 tInt A)) xt (m.bnd fun t s => .val (enumL t, s)) := ⟨_, pi_enumT (glB_gl cx hg).1 hm (pa_cons pe_w pa_nil hs) hs, fun I σ F H R fr th => by
  refine h I σ F H _ fr ?_
  cases m with
  | stuck => exact th
  | exn x => exact th
  | val q =>
    obtain ⟨t, s1⟩ := q
    intro I1 v H1 e1 fr1 r
    obtain ⟨a, vs, rfl, h1, h2⟩ := r
    have hl := paired_len h2
    refine ⟨a, vs, rfl, .of (fr1.sep.same _ _ h1), th _ I1 H1 e1 fr1 fun I2 L2 H2 e2 se i => ?_⟩
    have sq2 : SqT X.K H2 a vs := .of ((e2.trans se.same) _ _ h1)
    have hn := enumL_len t
    have hl : vs.length = t.length := hl
    refine ⟨fun hi => ⟨vs, sq2, by have hi : i = (enumL t).length := hi; omega⟩, fun hi => ⟨⟨vs, vs[i]'(by have hi : i < (enumL t).length := hi; omega), sq2, by simp⟩, fun x H' y => ?_⟩⟩
    obtain ⟨T, x, rfl, hT, rfl, y⟩ := y
    refine ⟨upd I2 T (.tup [.int (i : Nat), x]), Same.upd (se.same.free hT), se.imm hT, fun d hd => ?_⟩
    obtain ⟨d', hd', rd⟩ := paired_get h2 (y vs sq2)
    have hd : (enumL t)[i]? = some d := hd
    rw [enumL_get, hd'] at hd
    cases hd
    exact ⟨T, _, rfl, upd_same, _, _, rfl, rfl, _, _, rfl, A.mono (e2.trans (Same.upd (se.same.free hT))) rd, rfl⟩⟩
end
end Fw


namespace Fw
open PySem L2
/-! ## 30. more operations -/
def rRepS : R2 := fun x y H Q => ∃ z k, x = .str z ∧ y = .int k ∧ -(2 ^ 63) ≤ k ∧ k < 2 ^ 63 ∧ z.length * k.toNat ≤ sizeLine ∧ Q (.str (Txt.mul z k)) H
theorem op_rep_str {X : Cx} : OpR X (binaryOp .Mult) rRepS := by
  intro pins s σ H x y v u Q I rx ry h
  obtain ⟨z, k, rfl, rfl, h1, h2, hz, q⟩ := h
  obtain ⟨t, rfl⟩ := rx
  obtain ⟨t', rfl⟩ := ry
  refine SB.mul ⟨?_, fun h3 h4 => ?_, fun h3 h4 => ?_⟩ (fun t' tk => ⟨.str (Txt.mul z k), H, I.tok _, ⟨_, rfl⟩, q⟩)
  · rw [decide_eq_false (by omega), decide_eq_false (by omega)]; rfl
  · have hk : 0 < k := by omega
    have hs : (sizeLine : Nat) ≤ 2 ^ 62 := by decide
    intro hc
    have h5 : (z.length : Int) * k ≤ 2 ^ 62 := by
      have h6 : ((z.length * k.toNat : Nat) : Int) ≤ ((2 ^ 62 : Nat) : Int) := Int.ofNat_le.mpr (Nat.le_trans hz hs)
      rw [Int.natCast_mul, Int.toNat_of_nonneg (by omega)] at h6
      exact h6
    have h7 : (2 ^ 63 - 1) / k < (z.length : Int) := hc
    have h8 : (2 ^ 63 - 1 : Int) < (z.length : Int) * k := (Int.ediv_lt_iff_lt_mul hk).mp h7
    omega
  · unfold Builtin.Str.tooLong
    exact decide_eq_false (Nat.not_lt.mpr hz)
def repT (t : Tx) (k : Int) : Tx := (List.replicate k.toNat t).flatten
def repOk (t : Tx) (k : Int) : Prop := -(2 ^ 63) ≤ k ∧ k < 2 ^ 63 ∧ t.length * k.toNat ≤ sizeLine
instance {t : Tx} {k : Int} : Decidable (repOk t k) := by unfold repOk; infer_instance
theorem mul_repT (t : Tx) (k : Int) : Txt.mul ⟨t.toArray⟩ k = ⟨(repT t k).toArray⟩ := by
  unfold Txt.mul repT
  have f0 : ∀ (m : Nat) (a : Array Nat), List.foldl (fun x1 x2 => x1 ++ x2) a (List.replicate m t.toArray) = a ++ (List.replicate m t).flatten.toArray := fun m => by
    induction m with
    | zero => intro a; simp
    | succ m ih => intro a; rw [List.replicate_succ, List.foldl_cons, ih, List.replicate_succ, List.flatten_cons]; simp
  by_cases h1 : k < 1
  · rw [if_pos h1]
    have : k.toNat = 0 := by omega
    rw [this]; rfl
  · rw [if_neg h1]
    split
    · next h =>
      simp at h
      rcases h with h | h
      · subst h; simp
      · have : t = [] := by
          cases t with
          | nil => rfl
          | cons a b => simp [Str.length] at h
        subst this; simp
    · rw [f0]; simp
theorem d_repT : D2 rRepS tTx tInt tTx repOk repT := fun I L H v w s t Q se rv rw hp k => by
  cases rv; cases rw
  refine ⟨_, _, rfl, rfl, hp.1, hp.2.1, hp.2.2, k I _ H (Same.refl _) se ?_⟩
  show V.str _ = V.str _
  rw [mul_repT]

/-! ## 31. new lists by operations -/
section
variable {X : Cx} {N : List Str} {sc : Scope} {own : Str → Bool} {α β γ δ ε τ ρ ν : Type} {A : Ty α} {B : Ty β} {C : Ty δ} {T : Tys τ} {e a b c o : Expr} {es : List Expr} {ss : List Stmt} {x : Str} {pos p2 cpos apos p : Pos} {Γ gx : List Slot} {L : γ → List Rg} {s : γ} {xt : XT ε} {L0 : List Rg}
  {gn : ν → List Slot} {ln : ν → List Rg} {rt : RT ρ} {q : Addr}
def DN2 (r : R2) (A : Ty α) (B : Ty β) (φ : δ → CP) (P : α → β → Prop) (g : α → β → δ) : Prop := ∀ (I H : Hp) (v w : V) (x : α) (y : β) (Q : VK), Same I H → A.rep I v x → B.rep I w y → P x y →
  (∀ q o, H q = none → (φ (g x y)).h I o → Q (.ref q) (upd H q o)) → r v w H Q
theorem en_op {mm : Res ε (δ × γ)} {op : Operator} {r : R2} {φ : δ → CP} {P : α → β → Prop} [∀ x y, Decidable (P x y)] {g : α → β → δ} {ma : Res ε (α × γ)} {mb : α → γ → Res ε (β × γ)} (ho : OpR X (binaryOp op) r) (D : DN2 r A B φ P g) (ha : EF X a Γ L s A xt ma) (hb : ∀ x s1, EF X b Γ L s1 B xt (mb x s1))
    (heq : mm = (ma.bnd fun x s1 => (mb x s1).bnd fun y s2 => Res.grd (P x y) (g x y, s2)) := by exact rfl) : EN X (.BinOp a op b pos) Γ L s φ xt mm := by
  subst heq
  intro I σ F H Q fr th
  refine PE_to (pe_op ho pe_w pe_w) ?_
  refine ha I σ F H _ fr ?_
  cases ma with
  | stuck => exact th
  | exn x => exact th
  | val p =>
    intro I1 v H1 e1 fr1 rv
    refine hb p.1 p.2 I1 σ F H1 _ fr1 ?_
    dsimp only [Res.bnd] at th
    cases hmb : mb p.1 p.2 with
    | stuck => rw [hmb] at th; exact th
    | exn x =>
      rw [hmb] at th
      exact fun I' H' c da e2 f2 r => th I' H' c da (e1.trans e2) f2 r
    | val p2 =>
      rw [hmb] at th
      intro I2 w H2 e2 fr2 rw
      dsimp only at th
      by_cases hp : P p.1 p2.1
      · rw [Res.grd_true hp] at th
        exact D I2 H2 v w _ _ Q fr2.sep.same (A.mono e2 rv) rw hp fun q o hq ho => th I2 q _ (e1.trans e2) ⟨fr2.sep.new hq ho, fr2.len, fr2.sl⟩
      · unfold Res.grd at th; rw [if_neg hp] at th; exact th.elim
theorem dn_catL : DN2 rCat (tLst A) (tLst A) (cLst A) (fun x y => x.length + y.length ≤ sizeLine) (fun x y => x ++ y) := fun I H v w x y Q se rv rw hp k => by
  obtain ⟨p, vs, rfl, h1, h2⟩ := rv
  obtain ⟨q, ws, rfl, h3, h4⟩ := rw
  exact ⟨p, q, vs, ws, rfl, rfl, se _ _ h1, se _ _ h3, by rw [paired_len h2, paired_len h4]; exact hp, fun l hl => k l _ hl ⟨_, rfl, paired_app h2 h4⟩⟩
def repL {α : Type} (xs : List α) (k : Int) : List α := (List.replicate k.toNat xs).flatten
def repLOk {α : Type} (xs : List α) (k : Int) : Prop := -(2 ^ 63) ≤ k ∧ k < 2 ^ 63 ∧ xs.length * k.toNat ≤ sizeLine
instance {xs : List α} {k : Int} : Decidable (repLOk xs k) := by unfold repLOk; infer_instance
theorem paired_rep {R : α → β → Prop} {xs : List α} {ys : List β} (h : Paired R xs ys) : ∀ n : Nat, Paired R (List.replicate n xs).flatten (List.replicate n ys).flatten
  | 0 => .nil
  | n + 1 => by rw [List.replicate_succ, List.replicate_succ, List.flatten_cons, List.flatten_cons]; exact paired_app h (paired_rep h n)
theorem dn_repL : DN2 rRep (tLst A) tInt (cLst A) repLOk repL := fun I H v w x y Q se rv rw hp k => by
  obtain ⟨p, vs, rfl, h1, h2⟩ := rv
  cases rw
  exact ⟨p, y, vs, rfl, rfl, se _ _ h1, hp.1, hp.2.1, by rw [paired_len h2]; exact hp.2.2, fun l hl => k l _ hl ⟨_, rfl, paired_rep h2 _⟩⟩
/-- a part of an own list, a new one -/
theorem en_sliceO {mm : Res ε (List α × γ)} {lo hi : Option Expr} {xs : γ → List α} {ml : Res ε (Option Int × γ)} {mh : Option Int → γ → Res ε (Option Int × γ)}
    (ha : EP X e Γ (L s) (tCell q) ()) (hL : ∀ s, Has (L s) q (cLst A (xs s))) (hl : OF X lo Γ L s xt ml) (hh : ∀ o s1, OF X hi Γ L s1 xt (mh o s1)) (heq : mm = (ml.bnd fun o s2 => (mh o s2).bnd fun u s3 => Res.val (cut (xs s3) o u, s3)) := by exact rfl) :
    EN X (.Subscript e (.Slice lo hi none p2) pos) Γ L s (cLst A) xt mm := by
  subst heq
  intro I σ F H Q fr th
  have pl : PO X lo (fun σ H Q => ∃ t, PO X lo t ∧ t σ H Q) := ⟨fun pins s σ H Q I h => let ⟨t, p, q⟩ := h; p.run pins s σ H Q I q⟩
  have ph : PO X hi (fun σ H Q => ∃ t, PO X hi t ∧ t σ H Q) := ⟨fun pins s σ H Q I h => let ⟨t, p, q⟩ := h; p.run pins s σ H Q I q⟩
  refine PE_to (pe_slice sl_list pe_w pl ph) ?_
  refine ha.run fr fun I1 v H1 e1 fr1 rv => ?_
  cases rv
  obtain ⟨tl, ptl, ql⟩ := hl
  refine ⟨tl, ptl, ql I1 σ F H1 _ fr1 ?_⟩
  cases ml with
  | stuck => exact th
  | exn x => exact fun I' H' c da e3 fr' r => th I' H' c da (e1.trans e3) fr' r
  | val p =>
    intro I2 H2 e2 fr2
    obtain ⟨th', pth, qh⟩ := hh p.1 p.2
    refine ⟨th', pth, qh I2 σ F H2 _ fr2 ?_⟩
    dsimp only [Res.bnd] at th
    cases hm2 : mh p.1 p.2 with
    | stuck => rw [hm2] at th; exact th
    | exn x =>
      rw [hm2] at th
      exact fun I' H' c da e3 fr' r => th I' H' c da ((e1.trans e2).trans e3) fr' r
    | val r =>
      rw [hm2] at th
      intro I3 H3 e3 fr3
      obtain ⟨ob, ho, ⟨vs, rfl, hv⟩, _⟩ := (hL r.2).get fr3.sep
      refine ⟨q, vs, rfl, .of ho, fun l hl => ?_⟩
      refine th I3 l _ ((e1.trans e2).trans e3) ⟨fr3.sep.new hl ⟨_, rfl, ?_⟩, fr3.len, fr3.sl⟩
      unfold cutV cut
      rw [paired_len hv]
      exact paired_take _ (paired_drop _ hv)
/-- a part of a list, a new one -/
theorem en_slice {mm : Res ε (List α × γ)} {lo hi : Option Expr} {xs : List α} {ml : Res ε (Option Int × γ)} {mh : Option Int → γ → Res ε (Option Int × γ)}
    (ha : EP X e Γ (L s) (tLst A) xs) (hl : OF X lo Γ L s xt ml) (hh : ∀ o s1, OF X hi Γ L s1 xt (mh o s1)) (heq : mm = (ml.bnd fun o s2 => (mh o s2).bnd fun u s3 => Res.val (cut xs o u, s3)) := by exact rfl) :
    EN X (.Subscript e (.Slice lo hi none p2) pos) Γ L s (cLst A) xt mm := by
  subst heq
  intro I σ F H Q fr th
  have pl : PO X lo (fun σ H Q => ∃ t, PO X lo t ∧ t σ H Q) := ⟨fun pins s σ H Q I h => let ⟨t, p, q⟩ := h; p.run pins s σ H Q I q⟩
  have ph : PO X hi (fun σ H Q => ∃ t, PO X hi t ∧ t σ H Q) := ⟨fun pins s σ H Q I h => let ⟨t, p, q⟩ := h; p.run pins s σ H Q I q⟩
  refine PE_to (pe_slice sl_list pe_w pl ph) ?_
  refine ha.run fr fun I1 v H1 e1 fr1 rv => ?_
  obtain ⟨q, vs, rfl, h1, h2⟩ := rv
  obtain ⟨tl, ptl, ql⟩ := hl
  refine ⟨tl, ptl, ql I1 σ F H1 _ fr1 ?_⟩
  cases ml with
  | stuck => exact th
  | exn x => exact fun I' H' c da e3 fr' r => th I' H' c da (e1.trans e3) fr' r
  | val p =>
    intro I2 H2 e2 fr2
    obtain ⟨th', pth, qh⟩ := hh p.1 p.2
    refine ⟨th', pth, qh I2 σ F H2 _ fr2 ?_⟩
    dsimp only [Res.bnd] at th
    cases hm2 : mh p.1 p.2 with
    | stuck => rw [hm2] at th; exact th
    | exn x =>
      rw [hm2] at th
      exact fun I' H' c da e3 fr' r => th I' H' c da ((e1.trans e2).trans e3) fr' r
    | val r =>
      rw [hm2] at th
      intro I3 H3 e3 fr3
      refine ⟨q, vs, rfl, .of (fr3.sep.same _ _ ((e2.trans e3) _ _ h1)), fun l hl => ?_⟩
      refine th I3 l _ ((e1.trans e2).trans e3) ⟨fr3.sep.new hl ⟨_, rfl, ?_⟩, fr3.len, fr3.sl⟩
      unfold cutV cut
      rw [paired_len h2]
      exact paired_take _ (paired_drop _ (paired_mono (e2.trans e3) h2))
/-! ## 32. methods of data -/
def DM (r : V → List V → Hp → VK → Prop) (A : Ty α) (T : Tys τ) (C : Ty δ) (P : α → τ → Prop) (g : α → τ → δ) : Prop := ∀ (I : Hp) (L : List Rg) (H : Hp) (v : V) (vs : List V) (a : α) (t : τ) (Q : VK), Sep I L H → A.rep I v a → T.rep I vs t → P a t →
  (∀ I' z H', Same I I' → Sep I' L H' → C.rep I' z (g a t) → Q z H') → r v vs H Q
def TyOf (K : PySem.W.Frag) (A : Ty α) (n : String) : Prop := ∀ (I H : Hp) (v : V) (a : α), Same I H → A.rep I v a → tyV K n v H
theorem tyo_tx {K : PySem.W.Frag} : TyOf K tTx "str" := fun I H v a se r => by cases r; rfl
theorem ef_mt {mm : Res ε (δ × γ)} {n id : String} {name : Str} {r : V → List V → Hp → VK → Prop} {P : α → τ → Prop} [∀ x t, Decidable (P x t)] {g : α → τ → δ} {d : α} {m : Res ε (τ × γ)} (ty : TyOf X.K A n) (pa : PlainAttrs n) (slot : PySem.Slot n name id) (hty : typeOf (.builtin id) = pure (.type "method_descriptor")) (hm : MtR X id r) (D : DM r A T C P g)
    (ho : EP X o Γ (L s) A d) (ha : AF X (e :: es) Γ L s T xt m)
    (hbase : attributeBase o name X.env (eval o X.env) = eval o X.env := by rfl)
    (hfew : ((backTo cpos (starEach (e :: es) X.env)).all (fun x => !x.1) && (backToKw cpos (keywordEach [] X.env)).all (fun x => x.1.isSome)
      && decide ((e :: es).length + ([] : List Keyword).length + (if ([] : List Keyword).isEmpty then 0 else 1) < 30)) = true := by rfl)
    (hline : (apos.endLine == cpos.line) = true := by rfl) (hs : starEach (e :: es) X.env = (false, eval e X.env) :: starEach es X.env := by exact star_c rfl) (hplain : (backTo cpos (starEach es X.env)).any (·.1) = false := by rfl)
    (heq : mm = (m.bnd fun t s1 => Res.grd (P d t) (g d t, s1)) := by exact rfl) : EF X (.Call (.Attribute o name apos) (e :: es) [] cpos) Γ L s C xt mm := by
  subst heq
  intro I σ F H Q fr th
  refine PE_to (pe_bm pa slot hty hm pe_w pa_w hbase hfew hline hs hplain) ?_
  refine ho.run fr fun I1 v H1 e1 fr1 rv => ⟨ty I1 H1 v d fr1.sep.same rv, ?_⟩
  refine Then.bndA ha fr1 (then_up e1 th) fun I2 vs H2 t s1 e2 fr2 rvs th2 => ?_
  obtain ⟨hp, th3⟩ := Then.grd th2
  exact D I2 _ H2 v vs d t Q fr2.sep (A.mono e2 rv) rvs hp fun I' z H' e3 se rz => th3 I' z H' e3 (fr2.step e3 se) rz
theorem ep_mt {z : δ} {n id : String} {name : Str} {r : V → List V → Hp → VK → Prop} {P : α → τ → Prop} {g : α → τ → δ} {d : α} {t : τ} (ty : TyOf X.K A n) (pa : PlainAttrs n) (slot : PySem.Slot n name id) (hty : typeOf (.builtin id) = pure (.type "method_descriptor")) (hm : MtR X id r) (D : DM r A T C P g)
    (ho : EP X o Γ L0 A d) (ha : AP' X (e :: es) Γ L0 T t) (hp : P d t)
    (hbase : attributeBase o name X.env (eval o X.env) = eval o X.env := by rfl)
    (hfew : ((backTo cpos (starEach (e :: es) X.env)).all (fun x => !x.1) && (backToKw cpos (keywordEach [] X.env)).all (fun x => x.1.isSome)
      && decide ((e :: es).length + ([] : List Keyword).length + (if ([] : List Keyword).isEmpty then 0 else 1) < 30)) = true := by rfl)
    (hline : (apos.endLine == cpos.line) = true := by rfl) (hs : starEach (e :: es) X.env = (false, eval e X.env) :: starEach es X.env := by exact star_c rfl) (hplain : (backTo cpos (starEach es X.env)).any (·.1) = false := by rfl)
    (heq : z = g d t := by exact rfl) : EP X (.Call (.Attribute o name apos) (e :: es) [] cpos) Γ L0 C z := by
  subst heq
  intro I σ F H Q fr th
  refine PE_to (pe_bm pa slot hty hm pe_w pa_w hbase hfew hline hs hplain) ?_
  refine ho.run fr fun I1 v H1 e1 fr1 rv => ⟨ty I1 H1 v d fr1.sep.same rv, ?_⟩
  refine ha I1 σ F H1 _ fr1 fun I2 vs H2 e2 fr2 rvs => ?_
  exact D I2 _ H2 v vs d t Q fr2.sep (A.mono e2 rv) rvs hp fun I' z H' e3 se rz => th I' z H' ((e1.trans e2).trans e3) (fr2.step e3 se) rz
def findT (t y : Tx) : Int := Txt.find ⟨t.toArray⟩ ⟨y.toArray⟩
def findF (t y : Tx) (i : Int) : Int := Txt.find3 ⟨t.toArray⟩ ⟨y.toArray⟩ i
theorem dm_find : DM (fun x xs H Q => ∃ a b, x = .str a ∧ xs = [.str b] ∧ Q (.int (Txt.find a b)) H) tTx (Tys1 tTx) tInt (fun _ _ => True) (fun a t => findT a t.1) := fun I L H v vs a t Q se rv rvs hp k => by
  cases rv
  obtain ⟨w, rfl, r1⟩ := tys1 rvs
  have r1 : w = V.str ⟨t.1.toArray⟩ := r1
  subst r1
  exact ⟨_, _, rfl, rfl, k I _ H (Same.refl _) se rfl⟩
theorem dm_find3 : DM (fun x xs H Q => ∃ (a b : Str) (i : Int), x = .str a ∧ xs = [.str b, .int i] ∧ Q (.int (Txt.find3 a b i)) H) tTx (Tys2 tTx tInt) tInt (fun _ _ => True) (fun a t => findF a t.1 t.2.1) := fun I L H v vs a t Q se rv rvs hp k => by
  cases rv
  obtain ⟨w, u, rfl, r1, r2⟩ := tys2 rvs
  have r1 : w = V.str ⟨t.1.toArray⟩ := r1
  have r2 : u = V.int t.2.1 := r2
  subst r1; subst r2
  exact ⟨_, _, _, rfl, rfl, k I _ H (Same.refl _) se rfl⟩
/-! ## 33. methods of own lists -/
theorem paired_imp {R R' : α → β → Prop} {xs : List α} {ys : List β} (q : ∀ x y, R x y → R' x y) (h : Paired R xs ys) : Paired R' xs ys := by
  induction h with
  | nil => exact .nil
  | cons h hs ih => exact .cons (q _ _ h) ih
theorem sf_reverse {xs : List α} {R : List Rg} {k : List α → Out ε ρ ν} (ha : EP X a Γ L0 (tCell q) ()) (hL : L0.Perm (cell q (cLst A xs) :: R))
    (hr : ∀ ys, SF X ss Γ (cell q (cLst A ys) :: R) gn ln rt xt gx (k ys))
    (hbase : attributeBase a "reverse" X.env (eval a X.env) = eval a X.env := by rfl) (hline : (apos.endLine == p.line) = true := by rfl)
    (hsw : swapsWith (.Call (.Attribute a "reverse" apos) [] [] p) none pos.line X.env = pure false := by rfl) :
    SF X (.Expr (.Call (.Attribute a "reverse" apos) [] [] p) pos :: ss) Γ L0 gn ln rt xt gx (Out.lt xs.reverse k) := fun I σ F H D fr th => by
  refine PSs_to (pss_cons (ps_expr (pe_bm0 PySem.F.plainAttrs_list PySem.F.slot_list_reverse PySem.F.type_list_reverse mt_reverse pe_w hbase hline) hsw) pss_w) ?_
  refine ha.run fr fun I0 va H0 e0 fr0 ra => ?_
  cases ra
  have se0 : Sep I0 (cell q (cLst A xs) :: (R ++ F)) H0 := fr0.sep.perm (hL.append_right F)
  obtain ⟨o0, ho0, ⟨vs0, rfl, hv0⟩, _⟩ := se0.get
  refine ⟨.inl ⟨rfl, vs0, .of ho0⟩, q, vs0, rfl, rfl, ho0, ?_⟩
  refine hr xs.reverse I0 σ F _ D (fr0.step (Same.refl _) (se0.put ⟨_, rfl, ?_⟩)) (sthen_up e0 th)
  exact paired_rev hv0
/-! ## 34. an own thing lent out -/
def minus (I : Hp) (q : Addr) : Hp := fun b => if b = q then none else I b
theorem minus_ne {I : Hp} {q b : Addr} (h : b ≠ q) : minus I q b = I b := if_neg h
theorem minus_same {I : Hp} {q : Addr} : minus I q q = none := if_pos rfl
/-- a list, a dict, an instance: what may be lent -/
def Lent (o : Option HO) : Prop := (∀ ys, o ≠ some (.tup ys)) ∧ ∀ fs, o ≠ some (.xd fs)
theorem minus_at {I : Hp} {q b : Addr} {o : HO} (h : Lent (I q)) (e : I b = some o) (k : (∃ ys, o = .tup ys) ∨ ∃ fs, o = .xd fs) : minus I q b = some o := by
  by_cases hb : b = q
  · subst hb
    rcases k with ⟨ys, rfl⟩ | ⟨fs, rfl⟩
    · exact absurd e (h.1 ys)
    · exact absurd e (h.2 fs)
  · rw [minus_ne hb]; exact e
def FlatT (A : Ty α) : Prop := ∀ (I : Hp) (q : Addr) (v : V) (d : α), Lent (I q) → A.rep I v d → A.rep (minus I q) v d
theorem flt_int : FlatT tInt := fun _ _ _ _ _ h => h
theorem flt_bool : FlatT tBool := fun _ _ _ _ _ h => h
theorem flt_tx : FlatT tTx := fun _ _ _ _ _ h => h
theorem flt_none : FlatT tNone := fun _ _ _ _ _ h => h
theorem flt_opt {A : Ty α} (h : FlatT A) : FlatT (tOpt A) := fun I q v d l r => by
  cases d with
  | none => exact r
  | some d => exact ⟨r.1, h I q v d l r.2⟩
theorem paired_flat {A : Ty α} (h : FlatT A) {I : Hp} {q : Addr} (l : Lent (I q)) {vs : List V} {xs : List α} (p : Paired (A.rep I) vs xs) : Paired (A.rep (minus I q)) vs xs := by
  induction p with
  | nil => exact .nil
  | cons r _ ih => exact .cons (h I q _ _ l r) ih
theorem flt_tuL {A : Ty α} (h : FlatT A) : FlatT (tTuL A) := fun I q v d l ⟨p, vs, e, a, b⟩ => ⟨p, vs, e, minus_at l a (.inl ⟨vs, rfl⟩), paired_flat h l b⟩
def FlatTs {τ : Type} (T : Tys τ) : Prop := ∀ (I : Hp) (q : Addr) (v : List V) (d : τ), Lent (I q) → T.rep I v d → T.rep (minus I q) v d
theorem flts_nil : FlatTs Tys.nil := fun _ _ _ _ _ h => h
theorem flts_cons {τ : Type} {A : Ty α} {T : Tys τ} (h : FlatT A) (k : FlatTs T) : FlatTs (Tys.cons A T) := fun I q v d l ⟨x, xs, e, a, b⟩ => ⟨x, xs, e, h I q x d.1 l a, k I q xs d.2 l b⟩
theorem flt_tup {τ : Type} {T : Tys τ} (h : FlatTs T) : FlatT (tTup T) := fun I q v d l ⟨p, vs, e, a, b⟩ => ⟨p, vs, e, minus_at l a (.inl ⟨vs, rfl⟩), h I q vs d l b⟩
def FlatC (c : Rg) : Prop := ∀ (I R : Hp) (q : Addr), Lent (I q) → c.h I R → c.h (minus I q) R
def FlatX (xt : XT ε) : Prop := ∀ (x : ε), xt.regs x = [] ∧ ∀ (I : Hp) (q : Addr) (c : Value) (da : Option Addr), Lent (I q) → xt.rep I x c da → xt.rep (minus I q) x c da
theorem flatx0 : FlatX xt0 := fun x => nomatch x
theorem flat_cell {q : Addr} {xs : List α} (h : FlatT A) : FlatC (cell q (cLst A xs)) := fun I R q l ⟨o, e, vs, e2, p⟩ => ⟨o, e, vs, e2, paired_flat h l p⟩
def exact_ (R : Hp) : Rg := ⟨fun _ R' => R' = R, fun _ h => h⟩
/-- the own list at q is read by e as if it never changed -/
theorem lend_sep {I : Hp} {L1 : List Rg} {q : Addr} {φ : CP} {R : List Rg} {H : Hp} (se : Sep I (L1 ++ (cell q φ :: R)) H) : ∃ (o : HO) (E : List Rg), H q = some o ∧ φ.h I o ∧ I q = none ∧ Sep (upd I q o) (L1 ++ E) H ∧
    ∀ (I2 : Hp) (L2 : List Rg) (H2 : Hp), Same (upd I q o) I2 → Lent (some o) → (∀ c ∈ L2, FlatC c) → Sep I2 (L2 ++ E) H2 → Same I (minus I2 q) ∧ Sep (minus I2 q) (L2 ++ (cell q φ :: R)) H2 := by
  have se1 := se.perm (List.perm_middle)
  obtain ⟨o, ho, hφ, hi⟩ := se1.get
  obtain ⟨Z, e, s, a, d⟩ := se1
  match Z, e with
  | z :: Z, e =>
    rw [List.map_cons] at e
    injection e with e1 e2
    obtain ⟨Z1, Z2, rfl, e3, e4⟩ := List.map_eq_append_iff.mp e2
    cases d with
    | cons d1 d2 =>
      have hz2 : z.2 = single q o := by
        obtain ⟨a1, a2, _⟩ := a z (List.mem_cons_self ..)
        rw [e1] at a1
        obtain ⟨o', r, _⟩ := a1
        have := a2 q o' (by rw [r]; exact single_same)
        rw [ho] at this
        cases this
        exact r
      have other : ∀ y ∈ Z1 ++ Z2, y.2 q = none := fun y hy => by
        rcases d1 y hy q with h | h
        · rw [hz2, single_same] at h; cases h
        · exact h
      refine ⟨o, Z2.map fun z => exact_ z.2, ho, hφ, hi, ?_, fun I2 L2 H2 e5 le fl se2 => ?_⟩
      · refine ⟨Z1 ++ Z2.map (fun z => (exact_ z.2, z.2)), by rw [List.map_append, e3, List.map_map]; rfl, fun b u hb => ?_, fun y hy => ?_, ?_⟩
        · by_cases hq : b = q
          · subst hq; rw [upd_same] at hb; rw [ho]; exact hb
          · rw [upd_ne hq] at hb; exact s b u hb
        · have dis : ∀ R : Hp, R q = none → Disj I R → Disj (upd I q o) R := fun R h1 h2 b => by
            by_cases hq : b = q
            · subst hq; exact .inr h1
            · rw [upd_ne hq]; exact h2 b
          rcases List.mem_append.mp hy with hy | hy
          · obtain ⟨b1, b2, b3⟩ := a y (List.mem_cons_of_mem _ (List.mem_append_left _ hy))
            exact ⟨y.1.mono (Same.upd hi) b1, b2, dis _ (other y (List.mem_append_left _ hy)) b3⟩
          · obtain ⟨y', hy', rfl⟩ := List.mem_map.mp hy
            obtain ⟨b1, b2, b3⟩ := a y' (List.mem_cons_of_mem _ (List.mem_append_right _ hy'))
            exact ⟨rfl, b2, dis _ (other y' (List.mem_append_right _ hy')) b3⟩
        · rw [List.pairwise_append] at d2 ⊢
          obtain ⟨p1, p2, p3⟩ := d2
          refine ⟨p1, List.pairwise_map.mpr p2, fun y hy w hw => ?_⟩
          obtain ⟨w', hw', rfl⟩ := List.mem_map.mp hw
          exact p3 y hy w' hw'
      · obtain ⟨Y, f, t, g, k⟩ := se2
        obtain ⟨Y1, Y2, rfl, f1, f2⟩ := List.map_eq_append_iff.mp f
        have hq2 : I2 q = some o := e5 _ _ upd_same
        have y2 : Y2.map (·.2) = Z2.map (·.2) := by
          have : ∀ (Y2 Z2 : List (Rg × Hp)), Y2.map (·.1) = Z2.map (fun z => exact_ z.2) → (∀ y ∈ Y2, y.1.h I2 y.2) → Y2.map (·.2) = Z2.map (·.2) := by
            intro Y2
            induction Y2 with
            | nil => intro Z2 h _; cases Z2 with
              | nil => rfl
              | cons _ _ => cases h
            | cons y Y2 ih =>
              intro Z2 h hh
              cases Z2 with
              | nil => cases h
              | cons z Z2 =>
                rw [List.map_cons, List.map_cons] at h
                injection h with h1 h2
                rw [List.map_cons, List.map_cons, ih Z2 h2 fun w hw => hh w (List.mem_cons_of_mem _ hw)]
                have := hh y (List.mem_cons_self ..)
                rw [h1] at this
                rw [show y.2 = z.2 from this]
          exact this Y2 Z2 f2 fun y hy => (g y (List.mem_append_right _ hy)).1
        have inI : Same I (minus I2 q) := fun b u hb => by
          rw [minus_ne (ne_of_none hb hi)]
          exact e5 b u (by rw [upd_ne (ne_of_none hb hi)]; exact hb)
        have lq : Lent (I2 q) := by rw [hq2]; exact le
        have mt : Same (minus I2 q) H2 := fun b u hb => by
          by_cases hq : b = q
          · subst hq; rw [minus_same] at hb; cases hb
          · rw [minus_ne hq] at hb; exact t b u hb
        have mem2 : ∀ y ∈ Z2, ∃ y' ∈ Y2, y'.2 = y.2 := fun y hy => by
          have : y.2 ∈ Y2.map (·.2) := by rw [y2]; exact List.mem_map_of_mem hy
          obtain ⟨y', h1, h2⟩ := List.mem_map.mp this
          exact ⟨y', h1, h2⟩
        have down : ∀ R : Hp, Disj I2 R → Disj (minus I2 q) R := fun R h b => by
          by_cases hq : b = q
          · subst hq; exact .inl minus_same
          · rw [minus_ne hq]; exact h b
        have atq : ∀ R : Hp, Disj I2 R → R q = none := fun R h => by
          rcases h q with h | h
          · rw [hq2] at h; cases h
          · exact h
        refine ⟨inI, Y1 ++ ((cell q φ, single q o) :: Z2), by rw [List.map_append, List.map_cons, f1, e4], mt, fun y hy => ?_, ?_⟩
        · rcases List.mem_append.mp hy with hy | hy
          · obtain ⟨b1, b2, b3⟩ := g y (List.mem_append_left _ hy)
            exact ⟨fl y.1 (by rw [← f1]; exact List.mem_map_of_mem hy) _ _ _ lq b1, b2, down _ b3⟩
          · rcases List.mem_cons.mp hy with rfl | hy
            · exact ⟨⟨o, rfl, φ.mono inI hφ⟩, single_sub (t _ _ hq2), fun b => by
                by_cases hb : b = q
                · subst hb; exact .inl minus_same
                · exact .inr (single_ne hb)⟩
            · obtain ⟨y', hy', ey⟩ := mem2 y hy
              obtain ⟨b1, b2, b3⟩ := g y' (List.mem_append_right _ hy')
              obtain ⟨c1, c2, c3⟩ := a y (List.mem_cons_of_mem _ (List.mem_append_right _ hy))
              exact ⟨y.1.mono inI c1, by rw [← ey]; exact b2, by rw [← ey]; exact down _ b3⟩
        · rw [List.pairwise_append] at k ⊢
          obtain ⟨p1, p2, p3⟩ := k
          have sd : ∀ R : Hp, R q = none → Disj (single q o) R := fun R h b => by
            by_cases hb : b = q
            · subst hb; exact .inr h
            · exact .inl (single_ne hb)
          refine ⟨p1, ?_, fun y hy w hw => ?_⟩
          · rw [List.pairwise_append] at d2
            exact List.Pairwise.cons (fun w hw => sd _ (other w (List.mem_append_right _ hw))) d2.2.1
          · rcases List.mem_cons.mp hw with rfl | hw
            · exact (sd _ (atq _ (g y (List.mem_append_left _ hy)).2.2)).symm
            · obtain ⟨w', hw', ew⟩ := mem2 w hw
              rw [← ew]
              exact p3 y hy w' hw'
theorem ef_lend {mm : Res ε (δ × γ)} {xs : List α} {i : Nat} {L1 : γ → List Rg} {R : List Rg} (hC : FlatT C) (hx : FlatX xt) (hfl : ∀ s, ∀ c ∈ L1 s, FlatC c) (hp : ∀ s, (L s).Perm (L1 s ++ (cell q (cLst A xs) :: R))) (hi : Γ[i]? = some (.dat (tCell q) ()))
    (h : EF X e (Γ.set i (.dat (tLst A) xs)) L1 s C xt mm) : EF X e Γ L s C xt mm := fun I σ F H Q fr th => by
  have se0 : Sep I (L1 s ++ (cell q (cLst A xs) :: (R ++ F))) H := by
    have := fr.sep.perm ((hp s).append_right F)
    rwa [List.append_assoc] at this
  obtain ⟨o, E, ho, hφ, hq, se1, back⟩ := lend_sep se0
  obtain ⟨vs, rfl, hv⟩ := hφ
  obtain ⟨v, hv1, hv2⟩ := fr.get hi
  have hv2 : v = .ref q := hv2
  subst hv2
  have e0 : Same I (upd I q (.lst vs)) := Same.upd hq
  have iσ : i < Γ.length := (List.getElem?_eq_some_iff.mp hi).1
  have hσ : σ.set i (some (.ref q)) = σ := by
    apply List.ext_getElem?
    intro j
    by_cases hj : i = j
    · subst hj; rw [List.getElem?_set_self (by rw [fr.len]; exact iσ), hv1]
    · rw [List.getElem?_set_ne hj]
  have fr1 : FrOk (upd I q (.lst vs)) σ (Γ.set i (.dat (tLst A) xs)) (L1 s ++ E) H := by
    have := (FrOk.mk se1 fr.len (fr.sl.mono e0)).set (A := tLst A) (d := xs) (v := .ref q) ⟨q, vs, rfl, upd_same, paired_mono e0 hv⟩ i
    rwa [hσ] at this
  refine h _ σ E H Q fr1 ?_
  have le : Lent (some (.lst vs)) := ⟨fun ys z => (by cases z), fun fs z => (by cases z)⟩
  have lq : ∀ {I' : Hp}, Same (upd I q (.lst vs)) I' → Lent (I' q) := fun e2 => by rw [e2 _ _ upd_same]; exact le
  cases mm with
  | stuck => exact th
  | val p =>
    intro I' z H' e2 fr2 rz
    obtain ⟨m1, m2⟩ := back I' (L1 p.2) H' e2 le (hfl _) fr2.sep
    refine th (minus I' q) z H' m1 ⟨?_, fr.len, fr.sl.mono m1⟩ (hC _ _ _ _ (lq e2) rz)
    exact Sep.perm m2 (by rw [show L1 p.2 ++ (cell q (cLst A xs) :: (R ++ F)) = (L1 p.2 ++ (cell q (cLst A xs) :: R)) ++ F by simp]; exact ((hp p.2).symm).append_right F)
  | exn x =>
    intro I' H' c da e2 fr2 rz
    rw [(hx x).1] at fr2
    obtain ⟨m1, m2⟩ := back I' [] H' e2 le (fun c hc => by simp at hc) fr2.sep
    refine th (minus I' q) H' c da m1 ⟨?_, fr.len, fr.sl.mono m1⟩ ((hx x).2 _ _ _ _ (lq e2) rz)
    rw [(hx x).1]
    have drop : ∀ (Ls : List Rg) {L' : List Rg}, Sep (minus I' q) (Ls ++ L') H' → Sep (minus I' q) L' H' := fun Ls => by
      induction Ls with
      | nil => exact fun h => h
      | cons _ _ ih => exact fun h => ih h.tail
    exact drop R m2.tail
end
end Fw
namespace Fw
theorem flc_nil : ∀ c ∈ ([] : List Rg), FlatC c := fun _ h => nomatch h
theorem flc_cons {c : Rg} {L : List Rg} (h : FlatC c) (hs : ∀ c ∈ L, FlatC c) : ∀ d ∈ c :: L, FlatC d := fun d hd => by
  rcases List.mem_cons.mp hd with rfl | hd
  · exact h
  · exact hs d hd
end Fw
namespace Fw
open PySem L2
section
variable {X : Cx} {α : Type} {A : Ty α} {Γ : List Slot} {L0 : List Rg}
theorem apl_2 {e0 e1 : Expr} {d0 d1 : α} (h0 : EP X e0 Γ L0 A d0) (h1 : EP X e1 Γ L0 A d1) (k0 : isStar e0 = false := by rfl) (k1 : isStar e1 = false := by rfl) : AP' X [e0, e1] Γ L0 (Tys.lst A) [d0, d1] :=
  (apl_cons h0 (apl_cons h1 apl_nil (star_c k1)) (star_c k0))
theorem apl_3 {e0 e1 e2 : Expr} {d0 d1 d2 : α} (h0 : EP X e0 Γ L0 A d0) (h1 : EP X e1 Γ L0 A d1) (h2 : EP X e2 Γ L0 A d2) (k0 : isStar e0 = false := by rfl) (k1 : isStar e1 = false := by rfl) (k2 : isStar e2 = false := by rfl) : AP' X [e0, e1, e2] Γ L0 (Tys.lst A) [d0, d1, d2] :=
  (apl_cons h0 (apl_cons h1 (apl_cons h2 apl_nil (star_c k2)) (star_c k1)) (star_c k0))
theorem apl_4 {e0 e1 e2 e3 : Expr} {d0 d1 d2 d3 : α} (h0 : EP X e0 Γ L0 A d0) (h1 : EP X e1 Γ L0 A d1) (h2 : EP X e2 Γ L0 A d2) (h3 : EP X e3 Γ L0 A d3) (k0 : isStar e0 = false := by rfl) (k1 : isStar e1 = false := by rfl) (k2 : isStar e2 = false := by rfl) (k3 : isStar e3 = false := by rfl) : AP' X [e0, e1, e2, e3] Γ L0 (Tys.lst A) [d0, d1, d2, d3] :=
  (apl_cons h0 (apl_cons h1 (apl_cons h2 (apl_cons h3 apl_nil (star_c k3)) (star_c k2)) (star_c k1)) (star_c k0))
theorem apl_5 {e0 e1 e2 e3 e4 : Expr} {d0 d1 d2 d3 d4 : α} (h0 : EP X e0 Γ L0 A d0) (h1 : EP X e1 Γ L0 A d1) (h2 : EP X e2 Γ L0 A d2) (h3 : EP X e3 Γ L0 A d3) (h4 : EP X e4 Γ L0 A d4) (k0 : isStar e0 = false := by rfl) (k1 : isStar e1 = false := by rfl) (k2 : isStar e2 = false := by rfl) (k3 : isStar e3 = false := by rfl) (k4 : isStar e4 = false := by rfl) : AP' X [e0, e1, e2, e3, e4] Γ L0 (Tys.lst A) [d0, d1, d2, d3, d4] :=
  (apl_cons h0 (apl_cons h1 (apl_cons h2 (apl_cons h3 (apl_cons h4 apl_nil (star_c k4)) (star_c k3)) (star_c k2)) (star_c k1)) (star_c k0))
theorem apl_6 {e0 e1 e2 e3 e4 e5 : Expr} {d0 d1 d2 d3 d4 d5 : α} (h0 : EP X e0 Γ L0 A d0) (h1 : EP X e1 Γ L0 A d1) (h2 : EP X e2 Γ L0 A d2) (h3 : EP X e3 Γ L0 A d3) (h4 : EP X e4 Γ L0 A d4) (h5 : EP X e5 Γ L0 A d5) (k0 : isStar e0 = false := by rfl) (k1 : isStar e1 = false := by rfl) (k2 : isStar e2 = false := by rfl) (k3 : isStar e3 = false := by rfl) (k4 : isStar e4 = false := by rfl) (k5 : isStar e5 = false := by rfl) : AP' X [e0, e1, e2, e3, e4, e5] Γ L0 (Tys.lst A) [d0, d1, d2, d3, d4, d5] :=
  (apl_cons h0 (apl_cons h1 (apl_cons h2 (apl_cons h3 (apl_cons h4 (apl_cons h5 apl_nil (star_c k5)) (star_c k4)) (star_c k3)) (star_c k2)) (star_c k1)) (star_c k0))
theorem apl_7 {e0 e1 e2 e3 e4 e5 e6 : Expr} {d0 d1 d2 d3 d4 d5 d6 : α} (h0 : EP X e0 Γ L0 A d0) (h1 : EP X e1 Γ L0 A d1) (h2 : EP X e2 Γ L0 A d2) (h3 : EP X e3 Γ L0 A d3) (h4 : EP X e4 Γ L0 A d4) (h5 : EP X e5 Γ L0 A d5) (h6 : EP X e6 Γ L0 A d6) (k0 : isStar e0 = false := by rfl) (k1 : isStar e1 = false := by rfl) (k2 : isStar e2 = false := by rfl) (k3 : isStar e3 = false := by rfl) (k4 : isStar e4 = false := by rfl) (k5 : isStar e5 = false := by rfl) (k6 : isStar e6 = false := by rfl) : AP' X [e0, e1, e2, e3, e4, e5, e6] Γ L0 (Tys.lst A) [d0, d1, d2, d3, d4, d5, d6] :=
  (apl_cons h0 (apl_cons h1 (apl_cons h2 (apl_cons h3 (apl_cons h4 (apl_cons h5 (apl_cons h6 apl_nil (star_c k6)) (star_c k5)) (star_c k4)) (star_c k3)) (star_c k2)) (star_c k1)) (star_c k0))
theorem apl_8 {e0 e1 e2 e3 e4 e5 e6 e7 : Expr} {d0 d1 d2 d3 d4 d5 d6 d7 : α} (h0 : EP X e0 Γ L0 A d0) (h1 : EP X e1 Γ L0 A d1) (h2 : EP X e2 Γ L0 A d2) (h3 : EP X e3 Γ L0 A d3) (h4 : EP X e4 Γ L0 A d4) (h5 : EP X e5 Γ L0 A d5) (h6 : EP X e6 Γ L0 A d6) (h7 : EP X e7 Γ L0 A d7) (k0 : isStar e0 = false := by rfl) (k1 : isStar e1 = false := by rfl) (k2 : isStar e2 = false := by rfl) (k3 : isStar e3 = false := by rfl) (k4 : isStar e4 = false := by rfl) (k5 : isStar e5 = false := by rfl) (k6 : isStar e6 = false := by rfl) (k7 : isStar e7 = false := by rfl) : AP' X [e0, e1, e2, e3, e4, e5, e6, e7] Γ L0 (Tys.lst A) [d0, d1, d2, d3, d4, d5, d6, d7] :=
  (apl_cons h0 (apl_cons h1 (apl_cons h2 (apl_cons h3 (apl_cons h4 (apl_cons h5 (apl_cons h6 (apl_cons h7 apl_nil (star_c k7)) (star_c k6)) (star_c k5)) (star_c k4)) (star_c k3)) (star_c k2)) (star_c k1)) (star_c k0))
end
end Fw
namespace Fw
open PySem L2
theorem ds_seq {α : Type} {A : Ty α} {K : PySem.W.Frag} : DS (rSlL K) (tSeq K A) (tLst A) (fun _ => True) cut := fun I L H v t lo hi Q se rv hp k => by
  obtain ⟨p, vs, rfl, h2, h3⟩ := rv
  refine ⟨p, vs, rfl, Same.sql se.same h2, fun l hl => k (upd I l (.lst (cutV vs lo hi))) _ _ (Same.upd (se.same.free hl)) (se.imm hl) ⟨l, _, rfl, upd_same, ?_⟩⟩
  unfold cutV cut
  rw [paired_len h3]
  exact paired_take _ (paired_drop _ (paired_mono (Same.upd (se.same.free hl)) h3))
end Fw
namespace Fw
open PySem L2 PySem.W
/-! ## 35. max, min of a tuple of ints -/
theorem reads_ints {h : Heap} {K : PySem.W.Frag} : ∀ {ns : List Int} {us : List Value}, Vals (ns.map V.int) us → ∃ as, ReadsAll h us (ns.map PyData.int) as
  | [], _, h => by cases h; exact ⟨_, .nil⟩
  | n :: ns, _, .cons h hs => by
    obtain ⟨t, rfl⟩ := h
    obtain ⟨as, r⟩ := reads_ints (K := K) hs
    exact ⟨_, .cons (.int n t) r⟩
theorem alike_ints (ns : List Int) : AlikeAll (ns.map PyData.int) := ⟨fun x hx y hy => by
    obtain ⟨i, _, rfl⟩ := List.mem_map.mp hx
    obtain ⟨j, _, rfl⟩ := List.mem_map.mp hy
    rfl, fun x hx => by
    obtain ⟨i, _, rfl⟩ := List.mem_map.mp hx
    exact fun z => nomatch z⟩
theorem depth_ints : ∀ ns : List Int, PyData.depthAll (ns.map PyData.int) = 0
  | [] => rfl
  | n :: ns => by rw [List.map_cons, PyData.depthAll, depth_ints ns]; rfl
def maxL (xs : List Int) : Int := xs.foldl max (xs.headD 0)
def minL (xs : List Int) : Int := xs.foldl min (xs.headD 0)
theorem cr_maxU {X : Cx} (hc : X.calm = true) (hu : X.A.units + 1 < cLine) : CallR X (.builtin "max") (fun vs H Q => ∃ (a : Addr) (n : Int) (ns : List Int), vs = [V.ref a] ∧ SqT X.K H a ((n :: ns).map V.int) ∧ Q (.int (ns.foldl max n)) H) := by
  intro pins s σ H vs us Q I r h
  obtain ⟨a, n, ns, rfl, hs, q⟩ := h
  obtain ⟨its, rv, pl, hz⟩ := I.tuple hs
  rw [Vals.ref1 r]
  obtain ⟨as, ra⟩ := reads_ints (h := s.heap) (K := X.K) rv
  obtain ⟨o, e, c, m, d⟩ := pl
  refine max_tuple_data (I.ok.hd hc) ⟨o, e, c, m, d⟩ (by simpa using ra) (alike_ints (n :: ns)) (by rw [show PyData.depthAll (PyData.int n :: ns.map PyData.int) = 0 from depth_ints (n :: ns)]; exact hu) fun i v h' tk bs hi r hk => ?_
  rw [maxD_ints] at r
  cases r with
  | int _ t => exact ⟨.int _, H, I.kept hk, ⟨_, rfl⟩, q⟩
theorem cr_minU {X : Cx} (hc : X.calm = true) (hu : X.A.units + 1 < cLine) : CallR X (.builtin "min") (fun vs H Q => ∃ (a : Addr) (n : Int) (ns : List Int), vs = [V.ref a] ∧ SqT X.K H a ((n :: ns).map V.int) ∧ Q (.int (ns.foldl min n)) H) := by
  intro pins s σ H vs us Q I r h
  obtain ⟨a, n, ns, rfl, hs, q⟩ := h
  obtain ⟨its, rv, pl, hz⟩ := I.tuple hs
  rw [Vals.ref1 r]
  obtain ⟨as, ra⟩ := reads_ints (h := s.heap) (K := X.K) rv
  obtain ⟨o, e, c, m, d⟩ := pl
  refine min_tuple_data (I.ok.hd hc) ⟨o, e, c, m, d⟩ (by simpa using ra) (alike_ints (n :: ns)) (by rw [show PyData.depthAll (PyData.int n :: ns.map PyData.int) = 0 from depth_ints (n :: ns)]; exact hu) fun i v h' tk bs hi r hk => ?_
  rw [minD_ints] at r
  cases r with
  | int _ t => exact ⟨.int _, H, I.kept hk, ⟨_, rfl⟩, q⟩
theorem paired_ints {I : Hp} : ∀ {vs : List V} {xs : List Int}, Paired (tInt.rep I) vs xs → vs = xs.map V.int
  | _, _, .nil => rfl
  | _, _, .cons h hs => by rw [List.map_cons, ← paired_ints hs]; exact congrArg (· :: _) h
theorem dn_maxU {K : PySem.W.Frag} : DN (fun vs H Q => ∃ (a : Addr) (n : Int) (ns : List Int), vs = [V.ref a] ∧ SqT K H a ((n :: ns).map V.int) ∧ Q (.int (ns.foldl max n)) H) (Tys1 (tTuL tInt)) tInt (fun t => 0 < t.1.length) (fun t => maxL t.1) := fun I L H vs t Q se rv hp k => by
  obtain ⟨w, rfl, p, vs, rfl, h1, h2⟩ := tys1 rv
  have e := paired_ints h2
  subst e
  obtain ⟨xs, u⟩ := t
  cases xs with
  | nil => exact absurd hp (Nat.lt_irrefl _)
  | cons n ns =>
    refine ⟨p, n, ns, rfl, SqT.of (se.same _ _ h1), k I _ H (Same.refl _) se ?_⟩
    show V.int (ns.foldl max n) = V.int (ns.foldl max (max n n))
    rw [show max n n = n by omega]
theorem dn_minU {K : PySem.W.Frag} : DN (fun vs H Q => ∃ (a : Addr) (n : Int) (ns : List Int), vs = [V.ref a] ∧ SqT K H a ((n :: ns).map V.int) ∧ Q (.int (ns.foldl min n)) H) (Tys1 (tTuL tInt)) tInt (fun t => 0 < t.1.length) (fun t => minL t.1) := fun I L H vs t Q se rv hp k => by
  obtain ⟨w, rfl, p, vs, rfl, h1, h2⟩ := tys1 rv
  have e := paired_ints h2
  subst e
  obtain ⟨xs, u⟩ := t
  cases xs with
  | nil => exact absurd hp (Nat.lt_irrefl _)
  | cons n ns =>
    refine ⟨p, n, ns, rfl, SqT.of (se.same _ _ h1), k I _ H (Same.refl _) se ?_⟩
    show V.int (ns.foldl min n) = V.int (ns.foldl min (min n n))
    rw [show min n n = n by omega]
end Fw
namespace Fw
open PySem L2
section
variable {X : Cx} {γ ε : Type} {e : Expr} {Γ : List Slot} {L : γ → List Rg} {s : γ} {xt : XT ε} {L0 : List Rg}
theorem paired_dpAll {K : PySem.W.Frag} {I : Hp} : ∀ {vs : List V} {ds : List PyData}, Paired ((tD K).rep I) vs ds → DpAll K I vs ds
  | _, _, .nil => .nil
  | _, _, .cons h hs => .cons h (paired_dpAll hs)
/-- a list of things of any form, as a thing of any form -/
theorem ef_lD {m : Res ε (List PyData × γ)} (h : EF X e Γ L s (tLst (tD X.K)) xt m) : EF X e Γ L s (tD X.K) xt (m.bnd fun x s => Res.val (PyData.list x, s)) := ef_map h fun I v d r => by
  obtain ⟨p, vs, rfl, h1, h2⟩ := r
  exact .lst (.of h1) (paired_dpAll h2)
theorem ef_tD {m : Res ε (List PyData × γ)} (h : EF X e Γ L s (tTuL (tD X.K)) xt m) : EF X e Γ L s (tD X.K) xt (m.bnd fun x s => Res.val (PyData.tuple x, s)) := ef_map h fun I v d r => by
  obtain ⟨p, vs, rfl, h1, h2⟩ := r
  exact .tup (.of h1) (paired_dpAll h2)
end
end Fw


namespace Fw
open PySem L2
/-! ## 70. exception classes of the program's own -/
def oexB (K : PySem.W.Frag) (C : Addr) : Bool := match K.lookup C with
  | some ⟨.type "type", _, .cls cd, sl⟩ => (match cd.mro, sl.toList with
    | .ref C' :: bm, [_, _, _, _, some (.builtin n), _] => C' == C && (n == "ValueError.__new__" && (!cd.hasDel && (cd.hasDict && PySem.HandSPX.refsVE bm)))
    | _, _ => false)
  | _ => false
theorem oexB_ok {K : PySem.W.Frag} {C : Addr} (h : oexB K C = true) : ∃ nm q N bs bm sn sub ab col dd k0 k1 k2 k3 k5, K.lookup C = some (excClassObj nm q C N bs bm true sn sub ab col dd k0 k1 k2 k3 k5 "ValueError.__new__") ∧ PySem.HandSPX.refsVE bm = true := by
  unfold oexB at h
  split at h
  · rename_i dd cd sl ho
    split at h
    · rename_i C' bm k0 k1 k2 k3 n k5 hm hs
      simp only [Bool.and_eq_true, beq_iff_eq, Bool.not_eq_true'] at h
      obtain ⟨rfl, rfl, hdel, hdict, hr⟩ := h
      obtain ⟨nm, bs, mro, ns, qn, hd, sn, sub, ab, col, del⟩ := cd
      dsimp only at hm hdel hdict
      subst hm hdel hdict
      have hsl : sl = #[k0, k1, k2, k3, some (.builtin "ValueError.__new__"), k5] := by
        obtain ⟨l⟩ := sl
        simp only at hs
        rw [hs]
      subst hsl
      exact ⟨nm, qn, ns, bs, bm, sn, sub, ab, col, dd, k0, k1, k2, k3, k5, ho, hr⟩
    · cases h
  · cases h
/-- what is asked of a class, caught and looked at -/
structure ExK (K : PySem.W.Frag) (C : Addr) : Prop where
  ga : PySem.W.findIn K (.ref C) "__getattribute__" = some (some (.builtin "BaseException.__getattribute__"))
  gg : PySem.W.findIn K (.ref C) "__getattr__" = some none
  exC : PySem.W.subIn K (.ref C) (.type "BaseException") = some true
  hdC : PySem.W.hasDictIn K C = true
  ha : PySem.W.findIn K (.ref C) "__class__" = some (some (.builtin "object.__class__"))
  hn : PySem.W.specialIn K (.builtin "object.__class__") "__get__" = some (some (.builtin "getset_descriptor.__get__"))
  ht : PySem.W.takesIn K (.builtin "object.__class__") = some true
  hm : PySem.W.mroIn K C (.type "object") = some true
  cl : (PySem.W.clsIn K C).isSome = true
def exkB (K : PySem.W.Frag) (C : Addr) : Bool := decide (PySem.W.findIn K (.ref C) "__getattribute__" = some (some (.builtin "BaseException.__getattribute__"))) && (decide (PySem.W.findIn K (.ref C) "__getattr__" = some none) &&
  (decide (PySem.W.subIn K (.ref C) (.type "BaseException") = some true) && (PySem.W.hasDictIn K C && (decide (PySem.W.findIn K (.ref C) "__class__" = some (some (.builtin "object.__class__"))) &&
  (decide (PySem.W.specialIn K (.builtin "object.__class__") "__get__" = some (some (.builtin "getset_descriptor.__get__"))) && (decide (PySem.W.takesIn K (.builtin "object.__class__") = some true) && (decide (PySem.W.mroIn K C (.type "object") = some true) && (PySem.W.clsIn K C).isSome)))))))
theorem exkB_ok {K : PySem.W.Frag} {C : Addr} (h : exkB K C = true) : ExK K C := by
  unfold exkB at h
  simp only [Bool.and_eq_true, decide_eq_true_eq] at h
  obtain ⟨h1, h2, h3, h4, h5, h6, h7, h8, h9⟩ := h
  exact ⟨h1, h2, h3, h4, h5, h6, h7, h8, h9⟩
/-- .. made by its own __init__, which stores one field -/
structure ExO (K : PySem.W.Frag) (C : Addr) (f : Str) (fI : Addr) : Prop where
  oex : OexC K C
  init : PySem.W.findIn K (.ref C) "__init__" = some (some (.ref fI))
  tI : PySem.W.typeIn K (.ref fI) = some (.type "function")
  nof : PySem.W.findIn K (.ref C) f = some none
def exoB (K : PySem.W.Frag) (C : Addr) (f : Str) (fI : Addr) : Bool := oexB K C && (decide (PySem.W.findIn K (.ref C) "__setattr__" = some (some (.builtin "object.__setattr__"))) && (decide (PySem.W.subIn K (.ref C) (.type "BaseException") = some true) &&
  (decide (PySem.W.typeIn K (.ref C) = some (.type "type")) && (PySem.W.keepIn K (.ref C) && (decide (PySem.W.findIn K (.ref C) "__init__" = some (some (.ref fI))) && (decide (PySem.W.typeIn K (.ref fI) = some (.type "function")) && decide (PySem.W.findIn K (.ref C) f = some none)))))))
theorem exoB_ok {K : PySem.W.Frag} {C : Addr} {f : Str} {fI : Addr} (h : exoB K C f fI = true) : ExO K C f fI := by
  unfold exoB at h
  simp only [Bool.and_eq_true, decide_eq_true_eq] at h
  obtain ⟨h1, h2, h3, h4, h5, h6, h7, h8⟩ := h
  exact ⟨⟨oexB_ok h1, h2, h3, h4, h5⟩, h6, h7, h8⟩
/-- the base class, by whose name its __init__ is called -/
structure ExB (K : PySem.W.Frag) (C : Addr) : Prop where
  sp : PySem.W.specialIn K (.ref C) "__getattribute__" = some (some (.builtin "type.__getattribute__"))
  rd : PySem.W.readsIn K C (.type "type") = true
  it : PySem.W.findCls K (.ref C) (.type "type") "__init__" = some (.val (.builtin "ValueError.__init__"))
def exbB (K : PySem.W.Frag) (C : Addr) : Bool := decide (PySem.W.specialIn K (.ref C) "__getattribute__" = some (some (.builtin "type.__getattribute__"))) && (PySem.W.readsIn K C (.type "type") && (match PySem.W.findCls K (.ref C) (.type "type") "__init__" with
  | some (.val (.builtin n)) => decide (n = "ValueError.__init__")
  | _ => false))
theorem exbB_ok {K : PySem.W.Frag} {C : Addr} (h : exbB K C = true) : ExB K C := by
  unfold exbB at h
  simp only [Bool.and_eq_true, decide_eq_true_eq] at h
  obtain ⟨h1, h2, h3⟩ := h
  refine ⟨h1, h2, ?_⟩
  split at h3
  · rename_i n e
    rw [e]
    have e2 : n = "ValueError.__init__" := of_decide_eq_true h3
    rw [e2]
  · cases h3
section
variable {X : Cx} {o e : Expr} {es : List Expr} {to te : TE} {ta : TA} {f : Str} {p p' p1 p2 pos : Pos}
/-- Base.__init__(self, ..) -/
theorem pe_baseInit {pl : Sem Bool} {C : Addr} {x : Str} (hg : Gl X x) (hm : X.mg x = some (.ref C)) (B : ExB X.K C) (hd : (x == ("__debug__" : Str)) = false) (ha : PA X (e :: es) ta)
    (hc : eval (.Call (.Attribute (.Name x p1) "__init__" p2) (e :: es) [] pos) X.env = (do
      let ov ← eval (.Name x p1) X.env
      standAt p2.atName
      let (f, first) ← holding [ov] (getMethod ov "__init__" pl)
      callWith pos f first (backTo pos (starEach (e :: es) X.env)) (backToKw pos (keywordEach [] X.env))) := by rfl)
    (he : starEach (e :: es) X.env = (false, eval e X.env) :: starEach es X.env := by rfl) (hpl : (backTo pos (starEach es X.env)).any (·.1) = false := by rfl) :
    PE X (.Call (.Attribute (.Name x p1) "__init__" p2) (e :: es) [] pos) (tVeI X.K ta) := by
  refine ⟨fun pins s σ H Q I h => ?_⟩
  refine PySem.W.methodCall_KW (ld_glob I hg hm ?_ hd) hc
  refine PySem.W.method_cls I.kIn B.sp (PySem.W.cls_value I.kIn B.rd B.it (by decide +kernel) ?_)
  show wpAny _ _ (callWith pos (Value.builtin "ValueError.__init__") [] (backTo pos (starEach (e :: es) X.env)) []) _ _ _
  refine PyProof.Rows.callWith_method1 (thn (ha.run pos pins _ σ H _ (I.tok _) h) fun us s1 ⟨vs, H1, I1, r1, a, C, ws, ev, hl, T, ea, q⟩ => ?_) he hpl
  subst ev
  cases r1 with
  | @cons _ u0 _ ur ra rw' =>
    obtain rfl : u0 = Value.ref a := ra
    have hlen : ur.length ≤ sizeLine := by
      rw [← Paired.length rw', sizeLine_eq]
      omega
    exact oinit_ok T I1 ea hlen fun s' J => ⟨.non, H1, J, rfl, q⟩
end
/-- what __init__ promises -/
def spInit (C : Addr) (f : Str) : Sp := fun vs H Q _ => ∃ (a : Addr) (v : V), vs = [.ref a, v] ∧ H a = some (exo a C none) ∧ ∀ d, H d = none → d ≠ a → Q .non (upd (upd H d (exd d [(f, v)])) a (exo a C (some d)))
theorem init_ok {P : Program} {w : World} {K : PySem.W.Frag} {mg : Str → Option Value} {base : Heap} {C CB fI : Addr} {f par qual x m : Str} {st : Stmt} {fd : FuncData} {p1 p2 p3 p4 p5 p6 p7 p8 p9 p10 : Pos} {j}
    (F : Fun K "__init__" qual st fI fd) (T : ExO K C f fI) (B : ExB K CB) (hB : mg x = some (.ref CB)) (S : FnScope ["self", par] ["self", par] (defScope st))
    (hb : defBody st = [.Expr (.Call (.Attribute (.Name x p1) "__init__" p2) [.Name "self" p3, .Constant (.str m) j p4] [] p5) p6, .Assign [.Attribute (.Name "self" p7) f p8] (.Name par p9) p10])
    (hg : (defScope st).names.lookup x = some .globalImplicit) (hd : (x == ("__debug__" : Str)) = false) (hs : (defScope st).names.lookup ("self" : Str) = some .local) (hp : (defScope st).names.lookup par = some .local) (hpd : (par == ("__debug__" : Str)) = false) (hpc : (par == ("__classdict__" : Str)) = false)
    (hev : ∀ env : Env, ∃ pl : Sem Bool, eval (.Call (.Attribute (.Name x p1) "__init__" p2) [.Name "self" p3, .Constant (.str m) j p4] [] p5) env = (do
      let ov ← eval (.Name x p1) env
      standAt p2.atName
      let (f, first) ← holding [ov] (getMethod ov "__init__" pl)
      callWith p5 f first (backTo p5 (starEach [.Name "self" p3, .Constant (.str m) j p4] env)) (backToKw p5 (keywordEach [] env)))) :
    FnOk P w K mg base CX0 1 fI fd ["self", par] (spInit C f) := by
  refine F.ok S (fun vs H Q E ⟨a, v, e, _⟩ => by rw [e]; rfl) (fun cdv A outer s H vs Q E hr h => ?_)
  rw [hb]
  obtain ⟨a, v, rfl, ha, k⟩ := h
  have pself : ∀ {pp : Pos}, PE (cxOf CX0 P w K mg base ["self", par] qual (defScope st) fI cdv A outer s H E).nox (.Name "self" pp) (tVar 0) := fun {pp} => pv 0 rfl (.inl hs)
  have ppar : ∀ {pp : Pos}, PE (cxOf CX0 P w K mg base ["self", par] qual (defScope st) fI cdv A outer s H E).nox (.Name par pp) (tVar 1) := fun {pp} => pv 1 rfl (.inl hp) hpd hpc
  obtain ⟨pl, hc⟩ := hev (cxOf CX0 P w K mg base ["self", par] qual (defScope st) fI cdv A outer s H E).nox.env
  refine ⟨_, pss_cons (ps_expr (pe_baseInit (C := CB) hg hB B hd (pa_cons pself (pa_cons pe_str pa_nil)) hc))
    (pss_one (ps_ost pself ppar)), ?_⟩
  refine ⟨.ref a, rfl, a, C, [.str m], rfl, by simp, T.oex, ha, ?_⟩
  refine ⟨v, rfl, .ref a, rfl, a, C, rfl, T.oex, T.nof, .inl ⟨ha, fun dx hdx hne => ?_⟩⟩
  exact k dx hdx hne

/-! ## 71. raise, try -/
namespace Out
def noxO {ε ρ ν : Type} : Out ε ρ ν → Out ε ρ ν
  | exn _ => stuck
  | stuck => stuck
  | nx n => nx n
  | ret r => ret r
/-- try: m except ..: k -/
def tryX {ε ρ ν : Type} (m : Out ε ρ ν) (c : ε → Bool) (k : ε → Out ε ρ ν) : Out ε ρ ν := match m with
  | exn x => if c x = true then (k x).noxO else exn x
  | stuck => stuck
  | nx n => nx n
  | ret r => ret r
@[simp] theorem tryX_nx {ε ρ ν : Type} (n : ν) (c : ε → Bool) (k : ε → Out ε ρ ν) : tryX (nx n) c k = nx n := rfl
end Out
/-- what a caught exception's name holds -/
def tExc {ε : Type} (xt : XT ε) (a : Addr) (cl : Value) (da : Option Addr) : Ty ε := ⟨fun I v y => v = .ref a ∧ xt.rep I y cl da, fun e h => ⟨h.1, xt.mono e h.2⟩⟩
/-- what a class stands for -/
def tClsR (C : Value) : Ty Unit := ⟨fun _ v _ => ∀ u, RelV v u → u = C, fun _ h => h⟩
section
variable {X : Cx} {N : List Str} {sc scope : Scope} {own : Str → Bool} {α β γ δ ε ρ ν ν' τ : Type} {A : Ty α} {e a b c : Expr} {es rest : List Expr} {ss body suite : List Stmt} {b₀ : Stmt} {x y n : Str} {pos p p' pos' pos2 np : Pos} {Γ Γ' gx gy : List Slot} {L : γ → List Rg} {s : γ} {xt : XT ε} {L0 L1 : List Rg}
  {gn : ν → List Slot} {ln : ν → List Rg} {gj : ν' → List Slot} {lj : ν' → List Rg} {rt : RT ρ}
theorem wSs_len {D : Ends} {σ : St} {H : Hp} (h : σ.length = X.N.length → wSs X ss D σ H) : wSs X ss D σ H := by
  unfold wSs at h ⊢
  exact fun pins s I => h I.len pins s I
theorem upd_exc {H : Hp} {a d : Addr} {C : Addr} {fs : List (Str × V)} (ha : H a = none) (hd : d ≠ a) : upd (L2.del (upd (upd (upd H a (exo a C none)) d (exd d fs)) a (exo a C (some d))) a) d (.xd fs) = upd H d (.xd fs) := by
  funext b
  by_cases hb : b = d
  · subst hb; rw [upd_same, upd_same]
  · rw [upd_ne hb, upd_ne hb]
    by_cases hb2 : b = a
    · subst hb2; rw [del_same, ha]
    · rw [del_ne hb2, upd_ne hb2, upd_ne hb, upd_ne hb2]
/-- raise X(e) -/
theorem sf_raise {C fI : Addr} {fld : Str} {k : Nat} {fd : FuncData} {ps : List Str} {f : α → ε} {m : Res ε (α × γ)} (cx : Cxt X N sc own) (cc : Calm X) (T : ExO X.K C fld fI) (F1 : FnOk X.prog X.w X.K X.mg X.base CX0 k fI fd ps (spInit C fld)) (hr : Room (k + 1) X.A) (hb : Binds X.K fd ps []) (hm : X.mg x = some (.ref C))
    (h : EF X e Γ L s A xt m) (hrep : ∀ I d v q, A.rep I v q → I d = some (.xd [(fld, v)]) → xt.rep I (f q) (.ref C) (some d)) (hreg : ∀ y, xt.regs y = []) (wk : Wk Γ gx := by first | exact Wk.nil | exact Wk.rfl)
    (hg : glB sc x = true := by decide +kernel) (he : starEach [e] X.env = (false, eval e X.env) :: starEach [] X.env := by exact star_c rfl) :
    SF X (.Raise (some (.Call (.Name x p) [e] [] pos)) none pos2 :: ss) Γ (L s) gn ln rt xt gx (Out.bnd m fun d _ => Out.exn (f d)) := fun I σ F H D fr th => by
  obtain ⟨h1, h2, h3⟩ := glB_gl cx hg
  refine PSs_to (pss_cons (ps_raise cc.calm takesW (pmk_oex T.oex T.init T.tI F1 hr hb .nil (fun _ _ _ _ _ _ _ h => h.elim) h1 hm (pa_cons pe_w pa_nil he) h2 he rfl)) pss_w) ?_
  show wE X e σ H _
  refine SThen.bnd h wk fr th fun I1 v H1 d s1 e1 fr1 r th1 => ?_
  refine ⟨by simp, fun a ha => ?_⟩
  refine ⟨a, v, rfl, upd_same, fun dx hdx hne => ?_⟩
  have hd1 : H1 dx = none := by rw [upd_ne hne] at hdx; exact hdx
  refine ⟨rfl, dx, [(fld, v)], by rw [upd_same], by rw [upd_ne hne, upd_same], hd1, ?_⟩
  rw [upd_exc ha hne]
  have hi : I1 dx = none := fr1.sep.same.free hd1
  refine th1 (upd I1 dx (.xd [(fld, v)])) σ _ _ _ (Same.upd hi) ?_ ((fr1.sl.wk wk).mono (Same.upd hi)) (hrep _ _ _ _ (A.mono (Same.upd hi) r) upd_same)
  rw [hreg]
  have se : ∀ (Ls : List Rg) {L' : List Rg} {I2 H2 : Hp}, Sep I2 (Ls ++ L') H2 → Sep I2 L' H2 := fun Ls => by
    induction Ls with
    | nil => exact fun h => h
    | cons _ _ ih => exact fun h => ih h.tail
  exact se (L s1) (fr1.sep.imm hd1)
/-- raise X("..") -/
theorem sf_raise0 {C : Addr} {m : Str} {q : ε} {j} (cx : Cxt X N sc own) (cc : Calm X) (hE : PySem.W.excIn X.K C He.veBase "ValueError.__new__" = true) (hk : PySem.W.keepIn X.K (.ref C) = true) (hsu : PySem.W.subIn X.K (.ref C) (.type "BaseException") = some true) (hty : PySem.W.typeIn X.K (.ref C) = some (.type "type")) (hm : X.mg x = some (.ref C))
    (hrep : ∀ I, xt.rep I q (.ref C) none) (hreg : ∀ y, xt.regs y = []) (wk : Wk Γ gx := by first | exact Wk.nil | exact Wk.rfl)
    (hg : glB sc x = true := by decide +kernel) :
    SF X (.Raise (some (.Call (.Name x p) [.Constant (.str m) j p'] [] pos)) none pos2 :: ss) Γ L0 gn ln rt xt gx (Out.exn q) := fun I σ F H D fr th => by
  obtain ⟨h1, h2, h3⟩ := glB_gl cx hg
  refine PSs_to (pss_cons (ps_raise cc.calm takesW (pmk_own PySem.F.excBase_ValueError hE hm hk (raises_own hsu hty) h1 h2)) pss_w) ?_
  have se : ∀ (Ls : List Rg) {L' : List Rg} {I2 H2 : Hp}, Sep I2 (Ls ++ L') H2 → Sep I2 L' H2 := fun Ls => by
    induction Ls with
    | nil => exact fun h => h
    | cons _ _ ih => exact fun h => ih h.tail
  refine th I σ H _ _ (Same.refl _) ?_ (fr.sl.wk wk) (hrep I)
  rw [hreg]
  exact se L0 fr.sep
theorem cxt_tr (cx : Cxt X N sc own) (pn : List (Addr × Obj)) (xe : Value → Shared → Prop) : Cxt (X.tr pn xe) N sc own := ⟨cx.hN, cx.hsc, cx.nd, cx.st⟩
theorem cxt_suite (cx : Cxt X N sc own) (a : Addr) (pn : List (Addr × Obj)) : Cxt (X.suite a pn) N sc own := ⟨cx.hN, cx.hsc, cx.nd, cx.st⟩
/-- try: .. except X as n: .. -/
theorem sf_try {i : Nat} {c : Value} {M : Out ε ρ ν'} {Ms : ε → Out ε ρ ν'} {k : ν' → Out ε ρ ν} {catches : ε → Bool} (cx : Cxt X N sc own) (cc : Calm X) (hst : X.stack = X.env :: X.outer) (hfr : X.env.frame = some X.env.locals) (hi : N[i]? = some n) (hl : sc.names.lookup n = some .local)
    (hc : Names X x c) (hex : ∀ I y cl da, xt.rep I y cl da → PySem.W.exmOne X.K cl c = some (catches y)) (hreg : ∀ y, xt.regs y = []) (hgl : gy.length = N.length) (hgj : ∀ n, (gj n).set i .unk = gj n)
    (hb : ∀ (pn : List (Addr × Obj)) (xe : Value → Shared → Prop), Cxt (X.tr pn xe) N sc own → Calm (X.tr pn xe) → SF (X.tr pn xe) body Γ L0 gj lj rt xt gy M)
    (hsu : ∀ (y : ε) (a : Addr) (oe : Obj) (cl : Value) (da : Option Addr) (pn : List (Addr × Obj)), Zc cl da oe → (∃ vs, oe.data = .fields vs) → Cxt (X.suite a ((a, oe) :: pn)) N sc own → SF (X.suite a ((a, oe) :: pn)) (b₀ :: suite) (gy.set i (.dat (tExc xt a cl da) y)) [] gj lj rt xt [] (Ms y))
    (hr : ∀ n, SF X ss (gj n) (lj n) gn ln rt xt gx (k n)) (wk : Wk gy gx := by first | exact Wk.nil | exact Wk.rfl) :
    SF X (.Try body [.ExceptHandler (some (.Name x np)) (some n) (b₀ :: suite) pos'] [] [] pos :: ss) Γ L0 gn ln rt xt gx ((Out.tryX M catches Ms).seq k) := fun I σ F H D fr th => by
  have hi' : X.N[i]? = some n := by rw [cx.hN]; exact hi
  have hk : X.env.kindOf n = some .local := by show X.env.scope.names.lookup n = _; rw [cx.hsc]; exact hl
  refine PSs_to (pss_cons (ps_try_as hst hfr (by rw [cx.hN]; exact cx.nd) hi' hk hc (takesW (X := X))
    (tb := fun W D σ H => ∀ (pn : List (Addr × Obj)) (xe : Value → Shared → Prop), Takes (X.tr pn xe) W → PassesOwn (model X.prog X.w) X.A X.env xe → wSs (X.tr pn xe) body D σ H)
    (ts := fun a cl d D σ H => ∀ (oe : Obj) (pn : List (Addr × Obj)), Zc cl d oe → (∃ vs, oe.data = .fields vs) → wSs (X.suite a ((a, oe) :: pn)) (b₀ :: suite) D σ H)
    (fun W pn xe tk po => ⟨fun pins s σ H D Iv h => pss_w.run pins s σ H D Iv (h pn xe tk po)⟩)
    (fun a oe cl d pn hz hv => ⟨fun pins s σ H D Iv h => pss_w.run pins s σ H D Iv (h oe pn hz hv)⟩)) pss_w) ?_
  intro pn xe tk po
  refine hb pn xe (cxt_tr cx pn xe) ⟨cc.calm, po⟩ I σ F H _ fr ?_
  cases M with
  | stuck => exact th
  | nx q => exact fun I' σ' H' e1 f => hr q I' σ' F H' D f (sthen_up e1 th)
  | ret r => exact th
  | exn y =>
    intro I' σ' H' cl da e1 se sl r
    refine ⟨_, tk, catches y, hex _ _ _ _ r, fun hy a ha => ?_, fun hy => ?_⟩
    · intro oe pn2 hz hv
      have th : SThen X I F gn ln rt xt gx D (((if catches y = true then (Ms y).noxO else .exn y)).seq k) := th
      rw [if_pos hy] at th
      refine wSs_len fun hlen => ?_
      have hlen : (σ'.set i (some (.ref a))).length = N.length := by rw [hlen]; exact congrArg List.length cx.hN
      have hlen' : σ'.length = N.length := by rw [List.length_set] at hlen; exact hlen
      rw [hreg] at se
      have fr0 : FrOk I' σ' gy F H' := ⟨se, by rw [hlen', hgl], sl⟩
      have fr1 : FrOk I' (σ'.set i (some (.ref a))) (gy.set i (.dat (tExc xt a cl da) y)) F H' := fr0.set (A := tExc xt a cl da) (d := y) ⟨rfl, r⟩ i
      refine hsu y a oe cl da pn2 hz hv (cxt_suite cx a _) I' _ F H' _ fr1 ?_
      cases hM : Ms y with
      | stuck => rw [hM] at th; exact th
      | exn z => rw [hM] at th; exact th.elim
      | ret r2 => rw [hM] at th; exact sthen_up e1 th
      | nx q =>
        rw [hM] at th
        intro I2 σ2 H2 e2 f2
        have f3 := f2.setU (o := none) i
        rw [hgj] at f3
        exact hr q I2 _ F H2 D f3 (sthen_up (e1.trans e2) th)
    · have th : SThen X I F gn ln rt xt gx D (((if catches y = true then (Ms y).noxO else .exn y)).seq k) := th
      rw [if_neg (by rw [hy]; exact Bool.false_ne_true)] at th
      exact th I' σ' H' cl da e1 se (sl.wk wk) r
end

/-! ## 72. in an except suite -/
def DaOk (da : Option Addr) (H : Hp) : Prop := match da with
  | none => True
  | some d => ∃ fs, H d = some (.xd fs)
theorem DaOk.same {da : Option Addr} {I H : Hp} (h : DaOk da I) (e : Same I H) : DaOk da H := by
  cases da with
  | none => trivial
  | some d => exact let ⟨fs, q⟩ := h; ⟨fs, e _ _ q⟩
theorem inst_exc {X : Cx} {pins : List (Addr × Obj)} {σ : St} {H : Hp} {s : Shared} {a D : Addr} {oe : Obj} {da : Option Addr} {pn : List (Addr × Obj)} (I : Inv (X.suite a ((a, oe) :: pn)) pins σ H s) (hz : Zc (.ref D) da oe) (hf : ∃ vs, oe.data = .fields vs) (hd : DaOk da H) : ∃ od, PySem.W.InstAt s.heap a oe D od := by
  obtain ⟨hget, _⟩ := I.pin (a, oe) (List.mem_append.mpr (.inl List.mem_cons_self))
  obtain ⟨vs, hv⟩ := hf
  obtain ⟨oc, od, oda, osl⟩ := oe
  obtain ⟨h1, h2⟩ := hz
  dsimp only at h1 h2 hv
  subst h1 h2 hv
  cases od with
  | none => exact ⟨none, hget, rfl, rfl, trivial⟩
  | some d =>
    obtain ⟨fs, hfs⟩ := hd
    obtain ⟨mA, ⟨o, es, ep, ho, _⟩, _⟩ := (show ObjOk X.prog X.w H s.heap d (.xd fs) from I.hok d _ hfs)
    exact ⟨some o, hget, rfl, rfl, ho⟩
def rIsX (K : PySem.W.Frag) (cl : Value) (da : Option Addr) (a : Addr) : List V → Hp → VK → Prop := fun xs H Q => ∃ (c : V) (cv : Value) (D : Addr) (b : Bool), xs = [.ref a, c] ∧ cl = .ref D ∧ (∀ u, RelV c u → u = cv) ∧ ExK K D ∧ PySem.W.kitOne K (.ref D) cv = some b ∧ DaOk da H ∧ Q (.bl b) H
theorem call_isX {X : Cx} {a : Addr} {oe : Obj} {cl : Value} {da : Option Addr} {pn : List (Addr × Obj)} (hz : Zc cl da oe) (hf : ∃ vs, oe.data = .fields vs) : CallR (X.suite a ((a, oe) :: pn)) (.builtin "isinstance") (rIsX X.K cl da a) := by
  intro pins s σ H xs us Q I r h
  obtain ⟨c, cv, D, b, rfl, rfl, hcv, C, e, hd, q⟩ := h
  cases r with
  | cons rx rr =>
    cases rr with
    | cons rt rr =>
      cases rr
      cases rx
      have ec := hcv _ rt
      subst ec
      obtain ⟨od, J⟩ := inst_exc I hz hf hd
      exact PySem.W.kia_one (PySem.W.kitx_exc C.cl C.ga C.gg C.exC C.ha C.hn C.ht C.hm) I.kIn J e (fun z => nomatch z) fun tk => ⟨.bl b, H, I.kept (t' := tk) fun _ _ z => z, rfl, q⟩
def rIsXT (K : PySem.W.Frag) (cl : Value) (da : Option Addr) (a : Addr) : List V → Hp → VK → Prop := fun xs H Q => ∃ (tp : Addr) (cs : List V) (ws : List Value) (D : Addr) (b : Bool), xs = [.ref a, .ref tp] ∧ cl = .ref D ∧ H tp = some (.tup cs) ∧ (∀ us, Vals cs us → us = ws) ∧ ExK K D ∧ PySem.W.kitAny K (.ref D) ws = some b ∧ DaOk da H ∧ Q (.bl b) H
theorem call_isXT {X : Cx} {a : Addr} {oe : Obj} {cl : Value} {da : Option Addr} {pn : List (Addr × Obj)} (hz : Zc cl da oe) (hf : ∃ vs, oe.data = .fields vs) : CallR (X.suite a ((a, oe) :: pn)) (.builtin "isinstance") (rIsXT X.K cl da a) := by
  intro pins s σ H xs us Q I r h
  obtain ⟨tp, cs, ws, D, b, rfl, rfl, hT, hcv, C, e, hd, q⟩ := h
  cases r with
  | cons rx rr =>
    cases rr with
    | cons rt rr =>
      cases rr
      cases rx
      cases rt
      obtain ⟨od, J⟩ := inst_exc I hz hf hd
      obtain ⟨_, its, rv, o, h1, h2, n, h3⟩ := (show ObjOk X.prog X.w H s.heap tp (.tup cs) from I.hok tp _ hT)
      have e3 := hcv _ rv
      subst e3
      obtain ⟨oc, od2, dt, sl⟩ := o
      simp only at h2 h3
      subst h2 h3
      exact PySem.W.kia_tup (PySem.W.kitx_exc C.cl C.ga C.gg C.exC C.ha C.hn C.ht C.hm) I.kIn J h1 e (fun z => nomatch z) fun tk => ⟨.bl b, H, I.kept (t' := tk) fun _ _ z => z, rfl, q⟩
section
variable {X : Cx} {N : List Str} {sc scope : Scope} {own : Str → Bool} {α β γ δ ε ε' ρ ν ν' τ : Type} {A : Ty α} {e a b c : Expr} {es rest : List Expr} {x y n : Str} {pos p p' p2 pos' pos2 np : Pos} {Γ Γ' gx gy : List Slot} {L : γ → List Rg} {s : γ} {xt : XT ε} {xt' : XT ε'} {L0 L1 : List Rg}
theorem ep_clsR {C : Addr} (cx : Cxt X N sc own) (hm : X.mg x = some (.ref C)) (hg : glB sc x = true := by decide +kernel) : EP X (.Name x pos) Γ L0 (tClsR (.ref C)) () := fun I σ F H Q fr th =>
  let ⟨h1, h2, _⟩ := glB_gl cx hg
  PE_to (pe_glob (v := .ref C) h1 hm rfl h2) (th I _ H (Same.refl _) fr fun u h => h)
theorem ep_clsT (cx : Cxt X N sc own) {n : String} (hm : X.mg x = none) (hv : bootBuiltins x = some (.type n)) (hg : glB sc x = true := by decide +kernel) : EP X (.Name x pos) Γ L0 (tClsR (.type n)) () := fun I σ F H Q fr th =>
  let ⟨h1, h2, h3⟩ := glB_gl cx hg
  PE_to (pe_bltn (v := .ty n) h1 hm hv rfl h3 h2) (th I _ H (Same.refl _) fr fun u h => h)
/-- what a law's exceptions say of a class: isF: which of them are of it -/
def IsOf (K : PySem.W.Frag) (xt : XT ε) (cv : Value) (isF : ε → Bool) : Prop := ∀ (I : Hp) (y : ε) (cl : Value) (da : Option Addr), xt.rep I y cl da → ∃ D, cl = .ref D ∧ ExK K D ∧ PySem.W.kitOne K (.ref D) cv = some (isF y) ∧ DaOk da I
theorem dn_isX {K : PySem.W.Frag} {cl cv : Value} {da : Option Addr} {a : Addr} {isF : ε → Bool} (h : IsOf K xt cv isF) : DN (rIsX K cl da a) (Tys2 (tExc xt a cl da) (tClsR cv)) tBool (fun _ => True) (fun t => isF t.1) := fun I L H vs t Q se rv hp k => by
  obtain ⟨v, w, rfl, ⟨rfl, r⟩, hw⟩ := tys2 rv
  obtain ⟨D, e1, e2, e3, e4⟩ := h _ _ _ _ r
  exact ⟨w, cv, D, _, rfl, e1, hw, e2, e3, e4.same se.same, k I _ H (Same.refl _) se rfl⟩
theorem ep_isX {X' : Cx} {a : Addr} {oe : Obj} {cl cv : Value} {da : Option Addr} {pn : List (Addr × Obj)} {isF : ε → Bool} {d : ε} {e1 e2 : Expr} (hX : X' = X.suite a ((a, oe) :: pn)) (cx : Cxt X' N sc own) (hz : Zc cl da oe) (hf : ∃ vs, oe.data = .fields vs) (hi : X.mg "isinstance" = none) (hk : IsOf X.K xt cv isF)
    (h1 : EP X' e1 Γ L0 (tExc xt a cl da) d) (h2 : EP X' e2 Γ L0 (tClsR cv) ()) (hg : glB sc "isinstance" = true := by decide +kernel) (k1 : isStar e1 = false := by rfl) (k2 : isStar e2 = false := by rfl) :
    EP X' (.Call (.Name "isinstance" p) [e1, e2] [] pos) Γ L0 tBool (isF d) := by
  subst hX
  exact ep_callB (T := Tys2 (tExc xt a cl da) (tClsR cv)) (t := (d, (), ())) cx (call_isX hz hf) (dn_isX hk) hi (by decide +kernel) (ap_cons h1 (ap_cons h2 ap_nil (star_c k2)) (star_c k1)) trivial hg (star_c k1) (by rw [star_c k2]; rfl)
/-- e.f -/
theorem ef_xfld {X' : Cx} {a : Addr} {oe : Obj} {cl : Value} {da : Option Addr} {pn : List (Addr × Obj)} {d : ε} {fld : Str} {i : Nat} {has : ε → Bool} {get : ε → α} (hX : X' = X.suite a ((a, oe) :: pn)) (cx : Cxt X' N sc own) (hz : Zc cl da oe) (hf : ∃ vs, oe.data = .fields vs)
    (hk : ∀ I, xt.rep I d cl da → has d = true → ∃ (C dd : Addr) (fs : List (Str × V)) (v : V), cl = .ref C ∧ XfC X.K C ∧ PySem.W.findIn X.K (.ref C) fld = some none ∧ da = some dd ∧ I dd = some (.xd fs) ∧ fs.lookup fld = some v ∧ A.rep I v (get d))
    (hi : N[i]? = some n) (hΓ : Γ[i]? = some (.dat (tExc xt a cl da) d)) (hv : visB sc n = true := by decide +kernel) (hb : attributeBase (.Name n p) fld X.env (eval (.Name n p) X.env) = eval (.Name n p) X.env := by rfl) :
    EF X' (.Attribute (.Name n p) fld pos) Γ L s A xt' (Res.grd (has d = true) (get d, s)) := by
  subst hX
  intro I σ F H Q fr th
  obtain ⟨hh, th2⟩ := Then.grd th
  obtain ⟨v, e, rfl, r⟩ := fr.get hΓ
  obtain ⟨C, dd, fs, w, e1, T, hno, e2, e3, e4, e5⟩ := hk I r hh
  obtain ⟨h1, h2, h3⟩ := visB_vis hv
  have hN : (X.suite a ((a, oe) :: pn)).N[i]? = some n := by rw [cx.hN]; exact hi
  have hV : Vis (X.suite a ((a, oe) :: pn)).env.scope n := by rw [cx.hsc]; exact h1
  exact PE_to (pe_xf T hno hz hf (pe_var (i := i) hN hV h2 h3) hb) ⟨_, e, rfl, e1, dd, fs, w, e2, fr.sep.same _ _ e3, e4, th2 I w H (Same.refl _) fr e5⟩
end

section
variable {X : Cx} {N : List Str} {sc scope : Scope} {own : Str → Bool} {α β γ δ ε ε' ρ ν ν' τ : Type} {A : Ty α} {e a b c : Expr} {es rest : List Expr} {x y n : Str} {pos p p' p2 pos' pos2 np : Pos} {Γ Γ' gx gy : List Slot} {L : γ → List Rg} {s : γ} {xt : XT ε} {xt' : XT ε'} {L0 L1 : List Rg}
/-- a row of classes -/
def Tys.clss (ws : List Value) : Tys Unit := ⟨fun _ vs _ => vs.length = ws.length ∧ ∀ us, Vals vs us → us = ws, fun _ h => h, fun _ => List.replicate ws.length .unk, fun h => by rw [h.1, List.length_replicate], fun h i s q => by
  rw [List.getElem?_replicate] at q
  split at q
  · cases q; trivial
  · cases q⟩
theorem ap_clss0 : AP' X [] Γ L0 (Tys.clss []) () := fun I σ F H Q fr th => PA_to pa_nil (th I [] H (Same.refl _) fr ⟨rfl, fun us h => by cases h; rfl⟩)
theorem ap_clss {w : Value} {ws : List Value} (ha : EP X e Γ L0 (tClsR w) ()) (hr : AP' X es Γ L0 (Tys.clss ws) ()) (hs : isStar e = false := by rfl) : AP' X (e :: es) Γ L0 (Tys.clss (w :: ws)) () := fun I σ F H Q fr th => by
  refine PA_to (pa_cons pe_w pa_w (star_c hs)) ?_
  refine ha.run fr fun I1 v H1 e1 fr1 rv => ?_
  refine hr I1 σ F H1 _ fr1 fun I2 vs H2 e2 fr2 rvs => ?_
  refine th I2 (v :: vs) H2 (e1.trans e2) fr2 ⟨congrArg Nat.succ rvs.1, fun us h => ?_⟩
  cases h with
  | cons r t => rw [rv _ r, rvs.2 _ t]
def IsOfs (K : PySem.W.Frag) (xt : XT ε) (ws : List Value) (isF : ε → Bool) : Prop := ∀ (I : Hp) (y : ε) (cl : Value) (da : Option Addr), xt.rep I y cl da → ∃ D, cl = .ref D ∧ ExK K D ∧ PySem.W.kitAny K (.ref D) ws = some (isF y) ∧ DaOk da I
theorem isofs_nil {K : PySem.W.Frag} {cv : Value} {isF : ε → Bool} (h : IsOf K xt cv isF) : IsOfs K xt [] (fun _ => false) := fun I y cl da r => let ⟨D, e1, e2, _, e4⟩ := h I y cl da r; ⟨D, e1, e2, rfl, e4⟩
theorem isofs_cons {K : PySem.W.Frag} {cv : Value} {ws : List Value} {isF isG : ε → Bool} (h : IsOf K xt cv isF) (k : IsOfs K xt ws isG) : IsOfs K xt (cv :: ws) (fun y => isF y || isG y) := fun I y cl da r => by
  obtain ⟨D, e1, e2, e3, e4⟩ := h I y cl da r
  obtain ⟨D', f1, f2, f3, f4⟩ := k I y cl da r
  rw [e1] at f1
  cases f1
  refine ⟨D, e1, e2, ?_, e4⟩
  refine kitAny_cons e3 (fun z => ?_) (fun z => ?_)
  · rw [f3]; show some (isG y) = some (isF y || isG y); rw [z]; rfl
  · show (isF y || isG y) = true; rw [z]; rfl
theorem dn_isXT {K : PySem.W.Frag} {cl : Value} {ws : List Value} {da : Option Addr} {a : Addr} {isF : ε → Bool} (h : IsOfs K xt ws isF) : DN (rIsXT K cl da a) (Tys2 (tExc xt a cl da) (tTup (Tys.clss ws))) tBool (fun _ => True) (fun t => isF t.1) := fun I L H vs t Q se rv hp k => by
  obtain ⟨v, w, rfl, ⟨rfl, r⟩, q, cs, rfl, hq, hw⟩ := tys2 rv
  obtain ⟨D, e1, e2, e3, e4⟩ := h _ _ _ _ r
  exact ⟨q, cs, ws, D, _, rfl, e1, se.same _ _ hq, hw.2, e2, e3, e4.same se.same, k I _ H (Same.refl _) se rfl⟩
theorem ep_isXT {X' : Cx} {a : Addr} {oe : Obj} {cl : Value} {ws : List Value} {da : Option Addr} {pn : List (Addr × Obj)} {isF : ε → Bool} {d : ε} {e1 : Expr} {k2} (hX : X' = X.suite a ((a, oe) :: pn)) (cx : Cxt X' N sc own) (hz : Zc cl da oe) (hf : ∃ vs, oe.data = .fields vs) (hi : X.mg "isinstance" = none) (hk : IsOfs X.K xt ws isF)
    (h1 : EP X' e1 Γ L0 (tExc xt a cl da) d) (h2 : AP' X' es Γ L0 (Tys.clss ws) ()) (hl : ws.length = es.length := by rfl) (hle : es.length ≤ 1000 := by decide) (hg : glB sc "isinstance" = true := by decide +kernel) (k1 : isStar e1 = false := by rfl) :
    EP X' (.Call (.Name "isinstance" p) [e1, .Tuple es k2 p2] [] pos) Γ L0 tBool (isF d) := by
  subst hX
  exact ep_callB (T := Tys2 (tExc xt a cl da) (tTup (Tys.clss ws))) (t := (d, (), ())) cx (call_isXT hz hf) (dn_isXT hk) hi (by decide +kernel) (ap_cons h1 (ap_cons (ep_tup h2 hle (fun _ => by show (List.replicate ws.length _).length = _; rw [List.length_replicate, hl])) ap_nil (star_c rfl)) (star_c k1)) trivial hg (star_c k1) (by rw [star_c rfl]; rfl)
end
/-! ## 73. the program's refusals -/
inductive PExc where
  | noWord (p : Int)
  | noPattern (p : Int)
  | twice (w : Tx)
  | noTongue (n : Tx)
  | noThing (p : Int)
  | tooNarrow (p : Int)
  | noRow
def repF (C : Addr) (fld : Str) (v : V) (I : Hp) (c : Value) (da : Option Addr) : Prop := c = .ref C ∧ ∃ d, da = some d ∧ I d = some (.xd [(fld, v)])
def rep0 (C : Addr) (c : Value) (da : Option Addr) : Prop := c = .ref C ∧ da = none
theorem repF_mono {C : Addr} {fld : Str} {v : V} {I I' : Hp} {c : Value} {da : Option Addr} (e : Same I I') (h : repF C fld v I c da) : repF C fld v I' c da := let ⟨a, d, b, q⟩ := h; ⟨a, d, b, e _ _ q⟩
theorem repF_flat {C : Addr} {fld : Str} {v : V} {I : Hp} {q : Addr} {c : Value} {da : Option Addr} (l : Lent (I q)) (h : repF C fld v I c da) : repF C fld v (minus I q) c da := let ⟨a, d, b, k⟩ := h; ⟨a, d, b, minus_at l k (.inr ⟨_, rfl⟩)⟩
theorem repF_is {K : PySem.W.Frag} {C : Addr} {fld : Str} {v : V} {I : Hp} {c cv : Value} {da : Option Addr} {b : Bool} (k : ExK K C) (e : PySem.W.kitOne K (.ref C) cv = some b) (h : repF C fld v I c da) : ∃ D, c = .ref D ∧ ExK K D ∧ PySem.W.kitOne K (.ref D) cv = some b ∧ DaOk da I :=
  let ⟨a, d, f, q⟩ := h; ⟨C, a, k, e, by rw [f]; exact ⟨_, q⟩⟩
theorem rep0_is {K : PySem.W.Frag} {C : Addr} {I : Hp} {c cv : Value} {da : Option Addr} {b : Bool} (k : ExK K C) (e : PySem.W.kitOne K (.ref C) cv = some b) (h : rep0 C c da) : ∃ D, c = .ref D ∧ ExK K D ∧ PySem.W.kitOne K (.ref D) cv = some b ∧ DaOk da I :=
  let ⟨a, f⟩ := h; ⟨C, a, k, e, by rw [f]; trivial⟩
theorem repF_fld {α : Type} {A : Ty α} {K : PySem.W.Frag} {C : Addr} {fld : Str} {v : V} {I : Hp} {c : Value} {da : Option Addr} {d : α} (k : ExK K C) (o : PySem.W.findIn K (.ref C) fld = some none) (hA : ∀ I, A.rep I v d) (h : repF C fld v I c da) :
    ∃ (C dd : Addr) (fs : List (Str × V)) (v : V), c = .ref C ∧ XfC K C ∧ PySem.W.findIn K (.ref C) fld = some none ∧ da = some dd ∧ I dd = some (.xd fs) ∧ fs.lookup fld = some v ∧ A.rep I v d :=
  let ⟨a, e, f, q⟩ := h; ⟨C, e, _, v, a, ⟨k.ga, k.gg, k.exC, k.hdC⟩, o, f, q, by simp [List.lookup], hA I⟩
def xPlace : PExc → Option Int
  | .noWord p => some p
  | .noPattern p => some p
  | .noThing p => some p
  | .tooNarrow p => some p
  | _ => none
def xWord : PExc → Option Tx
  | .twice w => some w
  | _ => none
def xName : PExc → Option Tx
  | .noTongue w => some w
  | _ => none
def isNoWord : PExc → Bool
  | .noWord _ => true
  | _ => false
def isNoPattern : PExc → Bool
  | .noPattern _ => true
  | _ => false
def isTwice : PExc → Bool
  | .twice _ => true
  | _ => false
def isNoTongue : PExc → Bool
  | .noTongue _ => true
  | _ => false
def isNoThing : PExc → Bool
  | .noThing _ => true
  | _ => false
def isTooNarrow : PExc → Bool
  | .tooNarrow _ => true
  | _ => false
def isNoRow : PExc → Bool
  | .noRow => true
  | _ => false
end Fw


namespace Fw
open PySem L2
/-! ## 50. what a mirror's value is like: sat -/
def Res.sat {ε α γ : Type} (m : Res ε (α × γ)) (Q : α → γ → Prop) (E : ε → Prop) : Prop := match m with
  | .stuck => False
  | .val p => Q p.1 p.2
  | .exn x => E x
def Out.sat {ε ρ ν : Type} (m : Out ε ρ ν) (N : ν → Prop) (R : ρ → Prop) (E : ε → Prop) : Prop := match m with
  | .stuck => False
  | .nx n => N n
  | .ret r => R r
  | .exn x => E x
section
variable {ε ε' α β γ δ ρ ν ν' : Type} {Q Q' : α → γ → Prop} {E E' : ε → Prop}
theorem s_val {a : α} {s : γ} : (Res.val (a, s) : Res ε (α × γ)).sat Q E = Q a s := rfl
theorem s_valp {p : α × γ} : (Res.val p : Res ε (α × γ)).sat Q E = Q p.1 p.2 := rfl
theorem s_stuck : (Res.stuck : Res ε (α × γ)).sat Q E = False := rfl
theorem s_exn {x : ε} : (Res.exn x : Res ε (α × γ)).sat Q E = E x := rfl
theorem s_bnd {m : Res ε (δ × γ)} {k : δ → γ → Res ε (α × γ)} : (m.bnd k).sat Q E = m.sat (fun a s => (k a s).sat Q E) E := by cases m <;> rfl
theorem s_bnd' {γ' : Type} {m : Res ε (δ × γ')} {k : δ → γ' → Res ε (α × γ)} : (m.bnd k).sat Q E = m.sat (fun a s => (k a s).sat Q E) E := by cases m <;> rfl
theorem s_grd {P : Prop} [Decidable P] {a : α} {s : γ} : (Res.grd P (a, s) : Res ε (α × γ)).sat Q E = (P ∧ Q a s) := by
  unfold Res.grd
  by_cases h : P
  · rw [if_pos h]; exact propext ⟨fun q => ⟨h, q⟩, fun q => q.2⟩
  · rw [if_neg h]; exact propext ⟨fun q => q.elim, fun q => absurd q.1 h⟩
theorem s_ite {P : Prop} [Decidable P] {a b : Res ε (α × γ)} : (if P then a else b).sat Q E = (if P then a.sat Q E else b.sat Q E) := by split <;> rfl
theorem s_itestuck {P : Prop} [Decidable P] {a : Res ε (α × γ)} : (if P then a else .stuck).sat Q E = (P ∧ a.sat Q E) := by
  by_cases h : P
  · rw [if_pos h]; exact propext ⟨fun q => ⟨h, q⟩, fun q => q.2⟩
  · rw [if_neg h]; exact propext ⟨fun q => q.elim, fun q => absurd q.1 h⟩
theorem s_if0 {P A : Prop} [Decidable P] : (if P then A else False) = (P ∧ A) := by
  by_cases h : P
  · rw [if_pos h]; exact propext ⟨fun q => ⟨h, q⟩, fun q => q.2⟩
  · rw [if_neg h]; exact propext ⟨fun q => q.elim, fun q => absurd q.1 h⟩
theorem ite_t {P A B : Prop} {i : Decidable P} (h : P) (a : A) : @ite Prop P i A B := by rw [if_pos h]; exact a
theorem ite_f {P A B : Prop} {i : Decidable P} (h : ¬ P) (b : B) : @ite Prop P i A B := by rw [if_neg h]; exact b
theorem s_up {m : Res ε (α × Unit)} {s : γ} : (m.up s).sat Q E = m.sat (fun a _ => Q a s) E := by cases m <;> rfl
theorem s_nox {m : Res ε' (α × γ)} : (m.nox : Res ε (α × γ)).sat Q E = m.sat Q (fun _ => False) := by cases m <;> rfl
theorem s_fn {m : Out ε (α × γ) ν} : m.fn.sat Q E = m.sat (fun _ => False) (fun r => Q r.1 r.2) E := by cases m <;> rfl
theorem s_fnU {m : Out ε (α × γ) ν} {r : ν → α × γ} : (m.fnU r).sat Q E = m.sat (fun n => Q (r n).1 (r n).2) (fun r => Q r.1 r.2) E := by cases m <;> rfl
theorem Res.sat.imp {m : Res ε (α × γ)} (h : m.sat Q E) (q : ∀ a s, Q a s → Q' a s) (e : ∀ x, E x → E' x) : m.sat Q' E' := by
  cases m with
  | stuck => exact h
  | val p => exact q _ _ h
  | exn x => exact e x h
/-- the rule for a call whose law is known -/
theorem Res.sat.to {m : Res ε (α × γ)} (h : m.sat Q (fun _ => False)) (q : ∀ a s, Q a s → Q' a s) : m.sat Q' E := h.imp q fun _ => False.elim
theorem sat_eq {m : Res ε (α × γ)} {a : α} {s : γ} (h : m.sat (fun b t => b = a ∧ t = s) (fun _ => False)) : m = .val (a, s) := by
  cases m with
  | stuck => exact h.elim
  | val p => obtain ⟨rfl, rfl⟩ := h; rfl
  | exn x => exact h.elim
theorem sat_eqU {m : Res ε (α × Unit)} {a : α} (h : m.sat (fun b _ => b = a) (fun _ => False)) : m = .val (a, ()) := sat_eq (h.imp (fun _ _ e => ⟨e, rfl⟩) fun _ z => z)
theorem sat_of {m : Res ε (α × γ)} {a : α} {s : γ} (h : m = .val (a, s)) : m.sat (fun b t => b = a ∧ t = s) E := by subst h; exact ⟨rfl, rfl⟩
/-- it is a value -/
theorem sat_ex {m : Res ε (α × γ)} (h : m.sat Q (fun _ => False)) : ∃ a s, m = .val (a, s) ∧ Q a s := by
  cases m with
  | stuck => exact h.elim
  | val p => exact ⟨p.1, p.2, rfl, h⟩
  | exn x => exact h.elim
variable {N N' : ν → Prop} {R R' : ρ → Prop}
theorem o_nx {n : ν} : (Out.nx n : Out ε ρ ν).sat N R E = N n := rfl
theorem o_ret {r : ρ} : (Out.ret r : Out ε ρ ν).sat N R E = R r := rfl
theorem o_stuck : (Out.stuck : Out ε ρ ν).sat N R E = False := rfl
theorem o_exn {x : ε} : (Out.exn x : Out ε ρ ν).sat N R E = E x := rfl
theorem o_bnd {m : Res ε (δ × γ)} {k : δ → γ → Out ε ρ ν} : (Out.bnd m k).sat N R E = m.sat (fun a s => (k a s).sat N R E) E := by cases m <;> rfl
theorem o_seq {m : Out ε ρ ν'} {k : ν' → Out ε ρ ν} : (m.seq k).sat N R E = m.sat (fun n => (k n).sat N R E) R E := by cases m <;> rfl
theorem o_lt {d : α} {k : α → Out ε ρ ν} : (Out.lt d k).sat N R E = (k d).sat N R E := rfl
theorem o_ite {P : Prop} [Decidable P] {a b : Out ε ρ ν} : (if P then a else b).sat N R E = (if P then a.sat N R E else b.sat N R E) := by split <;> rfl
theorem o_itestuck {P : Prop} [Decidable P] {a : Out ε ρ ν} : (if P then a else .stuck).sat N R E = (P ∧ a.sat N R E) := by
  by_cases h : P
  · rw [if_pos h]; exact propext ⟨fun q => ⟨h, q⟩, fun q => q.2⟩
  · rw [if_neg h]; exact propext ⟨fun q => q.elim, fun q => absurd q.1 h⟩
theorem o_try {m : Out ε ρ ν} {c : ε → Bool} {k : ε → Out ε ρ ν} : (Out.tryX m c k).sat N R E = m.sat N R (fun x => if c x = true then (k x).sat N R (fun _ => False) else E x) := by
  cases m with
  | exn x =>
    show (if c x = true then (k x).noxO else Out.exn x).sat N R E = if c x = true then (k x).sat N R (fun _ => False) else E x
    split
    · cases k x <;> rfl
    · rfl
  | _ => rfl
theorem Out.sat.imp {m : Out ε ρ ν} (h : m.sat N R E) (q : ∀ n, N n → N' n) (r : ∀ x, R x → R' x) (e : ∀ x, E x → E' x) : m.sat N' R' E' := by
  cases m with
  | stuck => exact h
  | nx n => exact q _ h
  | ret x => exact r x h
  | exn x => exact e x h
/-- a for, by an invariant of the turns done -/
theorem o_for {xs : List α} {n : ν} {B : ν → α → Out ε ρ ν} (J : Nat → ν → Prop) (h0 : J 0 n) (hs : ∀ (i : Nat) (x : α) (m : ν), xs[i]? = some x → J i m → (B m x).sat (J (i + 1)) R E) (h1 : ∀ m, J xs.length m → N m) : (Out.forL xs n B).sat N R E := by
  have key : ∀ (ys : List α) (i : Nat) (m : ν), (∀ j x, ys[j]? = some x → xs[i + j]? = some x) → i + ys.length = xs.length → J i m → (Out.forL ys m B).sat N R E := by
    intro ys
    induction ys with
    | nil => intro i m _ hl hj; exact h1 m (by rw [← hl]; exact hj)
    | cons y ys ih =>
      intro i m hx hl hj
      unfold Out.forL
      rw [o_seq]
      refine (hs i y m (hx 0 y rfl) hj).imp (fun m' q => ih (i + 1) m' (fun j x e => ?_) (by simp at hl; omega) q) (fun _ q => q) (fun _ q => q)
      have := hx (j + 1) x e
      rwa [show i + 1 + j = i + (j + 1) by omega]
  exact key xs 0 n (fun j x e => by simpa using e) (by simp) h0
/-- a for, by an invariant alone -/
theorem o_forI {xs : List α} {n : ν} {B : ν → α → Out ε ρ ν} (J : ν → Prop) (h0 : J n) (hs : ∀ (x : α) (m : ν), x ∈ xs → J m → (B m x).sat J R E) (h1 : ∀ m, J m → N m) : (Out.forL xs n B).sat N R E :=
  o_for (fun _ => J) h0 (fun i x m e j => hs x m (List.mem_of_getElem? e) j) h1
/-- a for whose body is a function -/
theorem o_forF {xs : List α} {n : ν} {B : ν → α → Out ε ρ ν} (f : ν → α → ν) (h : ∀ x m, x ∈ xs → B m x = .nx (f m x)) : Out.forL xs n B = .nx (xs.foldl f n) := by
  induction xs generalizing n with
  | nil => rfl
  | cons x xs ih =>
    unfold Out.forL
    rw [h x n (List.mem_cons_self ..)]
    show Out.forL xs (f n x) B = _
    rw [ih fun y m hy => h y m (List.mem_cons_of_mem _ hy)]
    rfl
/-- a while, by an invariant and a measure -/
theorem o_while {C : ν → Res ε (Bool × Unit)} {B : ν → Out ε ρ ν} {k : Nat} {n : ν} (J : ν → Prop) (ms : ν → Nat) (h0 : J n) (hk : ms n < k)
    (hs : ∀ m, J m → (C m).sat (fun b _ => if b = true then (B m).sat (fun m' => J m' ∧ ms m' < ms m) R E else N m) E) : (Out.whileF C B k n).sat N R E := by
  induction k generalizing n with
  | zero => exact absurd hk (Nat.not_lt_zero _)
  | succ k ih =>
    unfold Out.whileF
    rw [o_bnd]
    refine (hs n h0).imp (fun b u q => ?_) (fun _ q => q)
    cases b with
    | false => exact q
    | true =>
      rw [if_pos rfl, o_seq]
      rw [if_pos rfl] at q
      exact q.imp (fun m' z => ih z.1 (by omega)) (fun _ z => z) (fun _ z => z)
/-- comprehensions -/
theorem s_compL {tt : β → γ → Res ε (Bool × γ)} {ee : β → γ → Res ε (δ × γ)} {xs : List β} {s : γ} {Q : List δ → γ → Prop} (J : Nat → List δ → γ → Prop) (h0 : J 0 [] s)
    (hs : ∀ i x acc s, xs[i]? = some x → J i acc s → (tt x s).sat (fun b s1 => if b = true then (ee x s1).sat (fun y s2 => J (i + 1) (acc ++ [y]) s2) E else J (i + 1) acc s1) E)
    (h1 : ∀ acc s, J xs.length acc s → Q acc s) : (Res.compL tt ee xs s []).sat Q E := by
  have key : ∀ (ys : List β) (i : Nat) (acc : List δ) (s : γ), (∀ j x, ys[j]? = some x → xs[i + j]? = some x) → i + ys.length = xs.length → J i acc s → (Res.compL tt ee ys s acc).sat Q E := by
    intro ys
    induction ys with
    | nil => intro i acc s _ hl hj; exact h1 acc s (by rw [← hl]; exact hj)
    | cons y ys ih =>
      intro i acc s hx hl hj
      unfold Res.compL
      rw [s_bnd]
      refine (hs i y acc s (hx 0 y rfl) hj).imp (fun b s1 q => ?_) (fun _ q => q)
      have hx' : ∀ j x, ys[j]? = some x → xs[i + 1 + j]? = some x := fun j x e => by
        have := hx (j + 1) x e
        rwa [show i + 1 + j = i + (j + 1) by omega]
      cases b with
      | false =>
        rw [if_neg (by simp)] at q ⊢
        exact ih (i + 1) acc s1 hx' (by simp at hl; omega) q
      | true =>
        rw [if_pos rfl] at q ⊢
        rw [s_bnd]
        exact q.imp (fun z s2 r => ih (i + 1) _ s2 hx' (by simp at hl; omega) r) (fun _ r => r)
  exact key xs 0 [] s (fun j x e => by simpa using e) (by simp) h0
/-- a comprehension of functions -/
theorem compL_fun {tt : β → γ → Res ε (Bool × γ)} {ee : β → γ → Res ε (δ × γ)} {xs : List β} {s : γ} {acc : List δ} (p : β → Bool) (f : β → δ) (h1 : ∀ x ∈ xs, tt x s = .val (p x, s)) (h2 : ∀ x ∈ xs, p x = true → ee x s = .val (f x, s)) :
    Res.compL tt ee xs s acc = .val (acc ++ (xs.filter p).map f, s) := by
  induction xs generalizing acc with
  | nil => unfold Res.compL; simp
  | cons x xs ih =>
    unfold Res.compL
    rw [h1 x (List.mem_cons_self ..)]
    have ih' := fun acc => ih (acc := acc) (fun y hy => h1 y (List.mem_cons_of_mem _ hy)) (fun y hy => h2 y (List.mem_cons_of_mem _ hy))
    show (if p x = true then _ else _) = _
    cases hp : p x with
    | false => rw [if_neg (by simp), ih']; simp [hp]
    | true => rw [if_pos rfl, h2 x (List.mem_cons_self ..) hp]; show Res.compL tt ee xs s _ = _; rw [ih']; simp [hp]
/-- a comprehension of functions, by sat -/
theorem s_compF {tt : β → γ → Res ε (Bool × γ)} {ee : β → γ → Res ε (δ × γ)} {xs : List β} {s : γ} {Q : List δ → γ → Prop} (p : β → Bool) (f : β → δ) (h1 : ∀ x ∈ xs, (tt x s).sat (fun b t => b = p x ∧ t = s) fun _ => False) (h2 : ∀ x ∈ xs, p x = true → (ee x s).sat (fun b t => b = f x ∧ t = s) fun _ => False) (q : Q ((xs.filter p).map f) s) :
    (Res.compL tt ee xs s []).sat Q E := by
  rw [compL_fun p f (fun x hx => sat_eq (h1 x hx)) (fun x hx e => sat_eq (h2 x hx e))]
  exact q
theorem s_compM {tt : β → γ → Res ε (Bool × γ)} {ee : β → γ → Res ε (δ × γ)} {xs : List β} {s : γ} {Q : List δ → γ → Prop} (f : β → δ) (h1 : ∀ x s, tt x s = .val (true, s)) (h2 : ∀ x ∈ xs, (ee x s).sat (fun b t => b = f x ∧ t = s) fun _ => False) (q : Q (xs.map f) s) :
    (Res.compL tt ee xs s []).sat Q E := by
  refine s_compF (fun _ => true) f (fun x _ => by rw [h1]; exact ⟨rfl, rfl⟩) (fun x hx _ => h2 x hx) ?_
  rwa [List.filter_eq_self.mpr (fun _ _ => rfl)]
/-- items that all are good, one for each -/
theorem s_compA {tt : β → γ → Res ε (Bool × γ)} {ee : β → γ → Res ε (δ × γ)} {xs : List β} {s : γ} {Q : List δ → γ → Prop} (G : Nat → γ → Prop) (P : β → δ → Prop) (h0 : G 0 s) (h1 : ∀ x s, tt x s = .val (true, s)) (h2 : ∀ i x s, x ∈ xs → i < xs.length → G i s → (ee x s).sat (fun y t => P x y ∧ G (i + 1) t) E)
    (q : ∀ (ys : List δ) (t : γ), ys.length = xs.length → (∀ (i : Nat) (x : β) (y : δ), xs[i]? = some x → ys[i]? = some y → P x y) → G xs.length t → Q ys t) : (Res.compL tt ee xs s []).sat Q E := by
  refine s_compL (fun i acc s => acc.length = i ∧ (∀ (j : Nat) (x : β) (y : δ), xs[j]? = some x → acc[j]? = some y → P x y) ∧ G i s) ⟨rfl, fun j x y _ e => by simp at e, h0⟩ (fun i x acc s e ⟨a, b, c⟩ => ?_) (fun acc s ⟨a, b, c⟩ => q acc s a b c)
  rw [h1, s_val, if_pos rfl]
  have hi : i < xs.length := (List.getElem?_eq_some_iff.mp e).1
  refine (h2 i x s (List.mem_of_getElem? e) hi c).imp (fun y t ⟨p, g⟩ => ⟨by simp [a], fun j x' y' ex ey => ?_, g⟩) (fun _ z => z)
  by_cases hj : j < acc.length
  · rw [List.getElem?_append_left hj] at ey; exact b j x' y' ex ey
  · rw [List.getElem?_append_right (by omega)] at ey
    have : j = i := by
      cases h : j - acc.length with
      | zero => omega
      | succ n => rw [h] at ey; simp at ey
    subst this
    rw [a] at ey
    simp at ey
    rw [e] at ex
    cases ex
    subst ey
    exact p
end
/-! ## 51. lists by places -/
theorem sz20 : 1048576 ≤ sizeLine := by decide
section
variable {ι : Type} {xs : List ι} {i j : Int}
theorem at_nn (h : 0 ≤ i) : atI xs i = xs[i.toNat]? := by
  unfold atI ixN
  rw [if_pos h]
  by_cases h1 : i < xs.length
  · rw [if_pos h1]; rfl
  · rw [if_neg h1, List.getElem?_eq_none (by omega)]; rfl
theorem at_nat {i : Nat} : atI xs (i : Int) = xs[i]? := at_nn (by omega)
theorem at_is (h : 0 ≤ i) (h1 : i < xs.length) : (atI xs i).isSome = true := by rw [at_nn h, List.getElem?_eq_getElem (by omega)]; rfl
theorem ix_nn (h : 0 ≤ i) (h1 : i < xs.length) : ixN xs.length i = some i.toNat := by unfold ixN; rw [if_pos h, if_pos h1]
theorem at_get (h : 0 ≤ i) (h1 : i < xs.length) (d : ι) : (atI xs i).getD d = xs[i.toNat]'(by omega) := by rw [at_nn h, List.getElem?_eq_getElem (by omega)]; rfl
theorem at_last (h : 0 < xs.length) : atI xs (-1) = xs[xs.length - 1]? := by
  unfold atI ixN
  rw [if_neg (by decide), if_pos (by omega)]
  show xs[((-1 : Int) + xs.length).toNat]? = _
  rw [show ((-1 : Int) + xs.length).toNat = xs.length - 1 by omega]
theorem cut_nn (h : 0 ≤ i) (h1 : 0 ≤ j) : cut xs (some i) (some j) = (xs.drop i.toNat).take (j.toNat - i.toNat) := by
  unfold cut HT.sIx
  simp only [if_neg (show ¬ i < 0 by omega), if_neg (show ¬ j < 0 by omega)]
  by_cases h2 : i.toNat ≤ xs.length
  · rw [Nat.min_eq_left h2]
    by_cases h3 : j.toNat ≤ xs.length
    · rw [Nat.min_eq_left h3]
    · rw [Nat.min_eq_right (by omega), List.take_of_length_le (by simp), List.take_of_length_le (by simp; omega)]
  · have e : min i.toNat xs.length = xs.length := Nat.min_eq_right (by omega)
    rw [e, List.drop_of_length_le (Nat.le_refl _), List.drop_of_length_le (by omega)]; simp
theorem cut_from (h : 0 ≤ i) : cut xs (some i) none = xs.drop i.toNat := by
  unfold cut HT.sIx
  simp only [if_neg (show ¬ i < 0 by omega)]
  by_cases h2 : i.toNat ≤ xs.length
  · rw [Nat.min_eq_left h2, List.take_of_length_le (by simp)]
  · have e : min i.toNat xs.length = xs.length := Nat.min_eq_right (by omega)
    rw [e, List.drop_of_length_le (Nat.le_refl _), List.drop_of_length_le (by omega)]; simp
theorem cut_to (h1 : 0 ≤ j) : cut xs none (some j) = xs.take j.toNat := by
  unfold cut HT.sIx
  simp only [if_neg (show ¬ j < 0 by omega), List.drop_zero, Nat.sub_zero]
  by_cases h3 : j.toNat ≤ xs.length
  · rw [Nat.min_eq_left h3]
  · rw [Nat.min_eq_right (by omega), List.take_of_length_le (Nat.le_refl _), List.take_of_length_le (by omega)]
theorem cut_mem {o u : Option Int} {x : ι} (h : x ∈ cut xs o u) : x ∈ xs := List.mem_of_mem_drop (List.mem_of_mem_take h)
theorem cut_len {o u : Option Int} : (cut xs o u).length ≤ xs.length := by unfold cut; rw [List.length_take, List.length_drop]; omega
end
theorem rng_mem {lo hi x : Int} : x ∈ rng lo hi ↔ lo ≤ x ∧ x < hi := by
  unfold rng
  rw [List.mem_map]
  constructor
  · rintro ⟨i, hi', rfl⟩
    rw [List.mem_range] at hi'
    omega
  · rintro ⟨h1, h2⟩
    exact ⟨(x - lo).toNat, by rw [List.mem_range]; omega, by omega⟩
theorem rng_get {lo hi : Int} {i : Nat} (h : i < (hi - lo).toNat) : (rng lo hi)[i]? = some (lo + (i : Int)) := by
  unfold rng
  rw [List.getElem?_map, List.getElem?_range h]; rfl
theorem rng_ok {lo hi : Int} (h : -1000000000 ≤ lo) (h1 : lo ≤ 1000000000) (h2 : -1000000000 ≤ hi) (h3 : hi ≤ 1000000000) : rngOk lo hi := by
  unfold rngOk
  exact ⟨by omega, by omega, by omega, by omega⟩
theorem joinT_nil (ys : List Tx) : joinT [] ys = ys.flatten := by
  unfold joinT
  induction ys with
  | nil => rfl
  | cons y ys ih => cases ys with
    | nil => simp [TL.joinL]
    | cons z zs => rw [List.flatten_cons, ← ih]; simp [TL.joinL]
/-- data that the laws compare: of at most so many levels -/
def dOk : Nat → PyData → Prop
  | _, .none => True
  | _, .bool _ => True
  | _, .int _ => True
  | _, .str _ => True
  | n + 1, .list xs => xs.length ≤ 1000000 ∧ ∀ x ∈ xs, dOk n x
  | n + 1, .tuple xs => xs.length ≤ 1000000 ∧ ∀ x ∈ xs, dOk n x
  | _, _ => False
end Fw


namespace Fw
open PySem L2
/-! ## 60. more mathematics: where a text stands in a text -/
def hit (t y : Tx) (p : Nat) : Prop := p + y.length ≤ t.length ∧ (t.drop p).take y.length = y
instance {t y : Tx} {p : Nat} : Decidable (hit t y p) := by unfold hit; infer_instance
theorem hit_sub {t y : Tx} {p : Nat} : (p + y.length ≤ t.length ∧ Builtin.Str.subAt ⟨t.toArray⟩ ⟨y.toArray⟩ p = true) ↔ hit t y p := by
  unfold hit Builtin.Str.subAt
  refine and_congr_right fun h => ?_
  rw [beq_iff_eq]
  show t.toArray.extract p (p + y.toArray.size) = y.toArray ↔ _
  rw [List.extract_toArray, List.size_toArray, List.extract_eq_take_drop, show p + y.length - p = y.length by omega]
  constructor
  · intro e; exact congrArg Array.toList e
  · intro e; rw [e]
theorem occ_full (s sub : Str) (hi : Nat) : ∀ (l : List Nat) (a : Array Nat) (free : Nat), ¬ a.size < 1 → (forIn l (a, free) (StrLaws.occBody s sub hi 1)).run.fst = a
  | [], a, free, _ => by simp
  | x :: l, a, free, h => by
    rw [List.forIn_cons]
    unfold StrLaws.occBody
    rw [if_neg (fun z => h z.1.1.1)]
    exact occ_full s sub hi l a free h
theorem occ_first (s sub : Str) (hi : Nat) : ∀ (l : List Nat) (free : Nat), (∀ i ∈ l, free ≤ i) →
    (forIn l ((#[] : Array Nat), free) (StrLaws.occBody s sub hi 1)).run.fst.toList = (l.find? fun i => decide (i + sub.length ≤ hi ∧ Builtin.Str.subAt s sub i = true)).toList
  | [], free, _ => by simp
  | a :: l, free, hf => by
    rw [List.forIn_cons, List.find?_cons]
    unfold StrLaws.occBody
    have ha : free ≤ a := hf a (List.mem_cons_self ..)
    by_cases hc : a + sub.length ≤ hi ∧ Builtin.Str.subAt s sub a = true
    · rw [if_pos ⟨⟨⟨by simp, ha⟩, hc.1⟩, hc.2⟩, decide_eq_true hc]
      have := occ_full s sub hi l (#[].push a) (a + sub.length) (by simp)
      show (forIn l (#[].push a, a + sub.length) (StrLaws.occBody s sub hi 1)).run.fst.toList = [a]
      rw [this]; rfl
    · rw [if_neg (fun z => hc ⟨z.1.2, z.2⟩), decide_eq_false hc]
      exact occ_first s sub hi l free (fun i hi' => hf i (List.mem_cons_of_mem _ hi'))
theorem find?_range' {P : Nat → Bool} : ∀ (n lo : Nat), (match (List.range' lo n).find? P with | some k => lo ≤ k ∧ k < lo + n ∧ P k = true ∧ ∀ q, lo ≤ q → q < k → P q = false | none => ∀ q, lo ≤ q → q < lo + n → P q = false)
  | 0, lo => fun q h1 h2 => by omega
  | n + 1, lo => by
    rw [List.range'_succ, List.find?_cons]
    cases h : P lo with
    | true => exact ⟨Nat.le_refl _, by omega, h, fun q h1 h2 => by omega⟩
    | false =>
      have ih := find?_range' (P := P) n (lo + 1)
      dsimp only
      cases e : (List.range' (lo + 1) n).find? P with
      | some k =>
        rw [e] at ih
        obtain ⟨h1, h2, h3, h4⟩ := ih
        refine ⟨by omega, by omega, h3, fun q h5 h6 => ?_⟩
        by_cases hq : q = lo
        · subst hq; exact h
        · exact h4 q (by omega) h6
      | none =>
        rw [e] at ih
        intro q h5 h6
        by_cases hq : q = lo
        · subst hq; exact h
        · exact ih q (by omega) (by omega)
theorem findF_spec (t y : Tx) (i : Nat) : (∃ p : Nat, findF t y i = (p : Int) ∧ i ≤ p ∧ hit t y p ∧ ∀ q, i ≤ q → q < p → ¬ hit t y q) ∨ (findF t y i = -1 ∧ ∀ q, i ≤ q → ¬ hit t y q) := by
  have e0 : fromIndex (Str.length ⟨t.toArray⟩) (i : Int) = i := by
    unfold fromIndex
    rw [if_neg (by omega)]
    omega
  have e1 : Builtin.Str.occurrences ⟨t.toArray⟩ ⟨y.toArray⟩ i t.length 1 = ((List.range' i (t.length + 1 - i)).find? fun k => decide (hit t y k)).toList := by
    rw [StrLaws.occ_eq, occ_first _ _ _ _ _ (fun k hk => (List.mem_range'_1.mp hk).1)]
    congr 2
    funext k
    exact decide_eq_decide.mpr hit_sub
  have e2 : findF t y i = (match Builtin.Str.occurrences ⟨t.toArray⟩ ⟨y.toArray⟩ i t.length 1 with | k :: _ => (k : Int) | [] => -1) := by
    unfold findF Txt.find3
    rw [e0]
    rfl
  have h := find?_range' (P := fun k => decide (hit t y k)) (t.length + 1 - i) i
  rw [e2, e1]
  cases e : (List.range' i (t.length + 1 - i)).find? fun k => decide (hit t y k) with
  | some k =>
    rw [e] at h
    obtain ⟨h1, h2, h3, h4⟩ := h
    exact .inl ⟨k, rfl, h1, of_decide_eq_true h3, fun q h5 h6 => of_decide_eq_false (h4 q h5 h6)⟩
  | none =>
    rw [e] at h
    refine .inr ⟨rfl, fun q h5 h6 => ?_⟩
    have : q < i + (t.length + 1 - i) := by have := h6.1; omega
    exact of_decide_eq_false (h q h5 this) h6
theorem findT_F (t y : Tx) : findT t y = findF t y 0 := by
  unfold findT findF Txt.find Txt.find3
  rfl
/-! data are equal to themselves -/
/-- data of so many levels whose texts are texts -/
def dSh : Nat → PyData → Prop
  | _, .none => True
  | _, .bool _ => True
  | _, .int _ => True
  | _, .str x => PyData.strOk x = true
  | n + 1, .list xs => ∀ x ∈ xs, dSh n x
  | n + 1, .tuple xs => ∀ x ∈ xs, dSh n x
  | _, _ => False
theorem dSh_all {n : Nat} : ∀ {xs : List PyData}, (∀ x ∈ xs, x.canLay0 = true ∧ x.depth ≤ n ∧ PyData.eqv x x = true) → PyData.canLayAll0 xs = true ∧ PyData.depthAll xs ≤ n ∧ PyData.eqvAll xs xs = true
  | [], _ => ⟨rfl, Nat.zero_le _, rfl⟩
  | x :: xs, h => by
    obtain ⟨a, b, c⟩ := h x (List.mem_cons_self ..)
    obtain ⟨d, e, f⟩ := dSh_all (xs := xs) fun y hy => h y (List.mem_cons_of_mem _ hy)
    refine ⟨?_, ?_, ?_⟩
    · rw [PyData.canLayAll0, a, d]; rfl
    · rw [PyData.depthAll]; omega
    · rw [PyData.eqvAll, c, f]; rfl
theorem dSh_ok : ∀ (n : Nat) (d : PyData), dSh n d → d.canLay0 = true ∧ d.depth ≤ n ∧ PyData.eqv d d = true := by
  intro n
  induction n with
  | zero =>
    intro d h
    cases d with
    | none => exact ⟨rfl, Nat.le_refl _, rfl⟩
    | bool b => exact ⟨rfl, Nat.le_refl _, by simp [PyData.eqv]⟩
    | int i => exact ⟨rfl, Nat.le_refl _, by simp [PyData.eqv]⟩
    | str x => exact ⟨h, Nat.le_refl _, by simp [PyData.eqv]⟩
    | _ => exact h.elim
  | succ n ih =>
    intro d h
    cases d with
    | none => exact ⟨rfl, Nat.zero_le _, rfl⟩
    | bool b => exact ⟨rfl, Nat.zero_le _, by simp [PyData.eqv]⟩
    | int i => exact ⟨rfl, Nat.zero_le _, by simp [PyData.eqv]⟩
    | str x => exact ⟨h, Nat.zero_le _, by simp [PyData.eqv]⟩
    | list xs =>
      obtain ⟨a, b, c⟩ := dSh_all fun x hx => ih x (h x hx)
      exact ⟨by rw [PyData.canLay0]; exact a, by rw [PyData.depth]; omega, by rw [PyData.eqv]; exact c⟩
    | tuple xs =>
      obtain ⟨a, b, c⟩ := dSh_all fun x hx => ih x (h x hx)
      exact ⟨by rw [PyData.canLay0]; exact a, by rw [PyData.depth]; omega, by rw [PyData.eqv]; exact c⟩
    | dict k => exact h.elim
theorem dSh_eq {n : Nat} {d : PyData} (h : dSh n d) (hn : n ≤ 64 := by decide) : eqOk d d ∧ PyData.eqv d d = true := by
  obtain ⟨a, b, c⟩ := dSh_ok n d h
  have s : SeqAt.shaped d = true := by
    unfold SeqAt.shaped
    rw [a, decide_eq_true (by omega)]; rfl
  exact ⟨⟨s, s⟩, c⟩
theorem strOk_lt {t : Tx} (h : ∀ c ∈ t, c < 0x110000) : PyData.strOk ⟨t.toArray⟩ = true := by
  unfold PyData.strOk
  simp only [List.all_toArray, List.all_eq_true]
  intro c hc
  exact decide_eq_true (h c hc)
end Fw


namespace Fw
open PySem L2
/-! ## 40. the end: from the law's own promise to the row -/
theorem fun_ofD {K : PySem.W.Frag} {x qual : Str} {st : Stmt} {f : Addr} {fd : FuncData} {kws : List (Str × V)} (F : FunD K x qual (defArgs st) (defBody st) (defScope st) [] kws f fd) : Fun K x qual st f fd := by
  obtain ⟨oc, od, dV, kV, doc, pm, an, cdv, ct, osl, e, l, c, hd, _⟩ := F.ex
  rcases hd with ⟨_, e2⟩ | ⟨e2, _⟩
  · subst e2; exact ⟨⟨oc, od, kV, doc, pm, an, cdv, ct, osl, e, l, c⟩, F.kp⟩
  · exact absurd rfl e2
/-! ### facts: the hand layer's and one's own -/
def obsB (fa : List He.Fa) (fb : List (PySem.W.Frag → Bool)) (fn : List He.DefD) (K : PySem.W.Frag) : He.AlD := ((fb.all fun f => f K) && ((fa.all fun f => f.ok K) && fn.all fun d => d.ok K), fn.map fun d => He.fnW K d.at_)
def SaysB (fa : List He.Fa) (fb : List (PySem.W.Frag → Bool)) (fn : List He.DefD) (K : PySem.W.Frag) : Prop := obsB fa fb fn K = He.valD fn
def asB (g : Addr → Option Obj) : Nat → List Addr
  | 0 => [mainGlobals, PySem.cStatics]
  | n + 1 => He.growD g (asB g n)
def obsBG (n : Nat) (fa : List He.Fa) (fb : List (PySem.W.Frag → Bool)) (fn : List He.DefD) (g : Addr → Option Obj) : He.AlD := obsB fa fb fn (He.frG g (asB g n))
def hookB (n : Nat) (fa : List He.Fa) (fb : List (PySem.W.Frag → Bool)) (fn : List He.DefD) : PySem.W.Hook where
  α := He.AlD
  obs := fun s => obsBG n fa fb fn s.heap.get?
  val := fun _ => He.valD fn
  says := fun _ h => ∃ K : PySem.W.Frag, K.In h ∧ SaysB fa fb fn K
  of := fun _ _ e => ⟨_, He.frG_in, e⟩
  keeps := fun _ _ _ ⟨K, hK, c⟩ k => ⟨K, PySem.W.Frag.In.keeps hK k, c⟩
theorem obsBG_eq {n : Nat} {fa : List He.Fa} {fb : List (PySem.W.Frag → Bool)} {fn : List He.DefD} {g : Addr → Option Obj} {s : Shared} (h : ∀ a, g a = s.heap.get? a) : obsBG n fa fb fn g = (hookB n fa fb fn).obs s := by
  have e : g = s.heap.get? := funext h
  rw [e] <;> rfl
theorem SaysB.d {fa : List He.Fa} {fb : List (PySem.W.Frag → Bool)} {fn : List He.DefD} {K : PySem.W.Frag} (c : SaysB fa fb fn K) : He.SaysD fa fn K := by
  have c1 : ((fb.all fun f => f K) && ((fa.all fun f => f.ok K) && fn.all fun d => d.ok K)) = true := congrArg (fun z : He.AlD => z.1) c
  have c2 : fn.map (fun d => He.fnW K d.at_) = fn.map He.DefD.val := congrArg (fun z : He.AlD => z.2) c
  show (_, _) = (_, _)
  rw [(He.ba c1).2, c2]
theorem SaysB.own {fa : List He.Fa} {fb : List (PySem.W.Frag → Bool)} {fn : List He.DefD} {K : PySem.W.Frag} (c : SaysB fa fb fn K) (i : Nat) {f : PySem.W.Frag → Bool} (h : fb[i]? = some f := by rfl) : f K = true := by
  have c1 : ((fb.all fun f => f K) && ((fa.all fun f => f.ok K) && fn.all fun d => d.ok K)) = true := congrArg (fun z : He.AlD => z.1) c
  exact List.all_eq_true.mp (He.ba c1).1 f (List.mem_of_getElem? h)
theorem binds_all {K : PySem.W.Frag} {x qual : Str} {st : Stmt} {f : Addr} {fd : FuncData} {ps : List Str} (F : Fun K x qual st f fd)
    (h : ∀ (kV doc pm : Value) (an : Option Addr) (cdv ct : Value) (us : List Value), us.length = ps.length → bindArgs (PySem.W.fnOf x qual (defArgs st) (defBody st) (defScope st) .none kV doc pm an cdv ct) ⟨us, []⟩ = pure (ps.zip us)) (s : Shared) (us : List Value) (hl : us.length = ps.length) : BindsTo s fd ⟨us, []⟩ (ps.zip us) := by
  obtain ⟨oc, od, kV, doc, pm, an, cdv, ct, osl, rfl, lk, hcd⟩ := F.ex
  exact .of_eq (h kV doc pm an cdv ct us hl)
theorem walk_ofW {l : PySem.W.OpenLaw} {k : Nat} {q : Program} {loose : List Str} {XP : (Str → Option Value) → Heap → Prop} {YP : World → Heap → Prop} {d : DefRec} {x : Str} {ε : Type}
    (hn : l.most = some 63) (hdf : d.params.defaults = []) (hr : Room k callerA)
    (F : ∀ (w : World) (mg : Str → Option Value) (fa : Addr) (h : Heap), YP w h → h.Ns mainGlobals mg → mg d.name = some (.ref fa) →
      ∃ (K : PySem.W.Frag) (fd : FuncData) (xt : XT ε) (g : (List Int × Unit) → Unit → Res ε (Bool × Unit)), K.In h ∧ (∀ (s : Shared) (u : Value), BindsTo s fd ⟨[u], []⟩ [(x, u)]) ∧
        (∀ ns : List Int, ns.length ≤ 63 → g (ns, ()) () = .val (true, ())) ∧
        ∀ base : Heap, K.In base → base.Ns mainGlobals mg → FnOk l.prog w K mg base (L2.CX l.prog w) k fa fd [x] (spec (fun _ : Unit => Tys.cons (tSeq K tInt) Tys.nil) (fun _ _ => []) (fun _ : Unit => rtV tBool (fun _ => [])) (fun _ => xt) g)) :
    PySem.W.WalkO q loose XP YP l.row.toRowW d [] (fun f vs => PySem.call f vs) := by
  refine Att.attach_call hn hdf fun w s₀ s₁ mg mb fa o pm cd doc a vs ns G Y ho hd hcd hmg hobj hints hlen hg => ?_
  obtain ⟨K, fd, xt, g, KX, hb, hsp, hF⟩ := F w mg fa _ Y G.T.g hmg
  refine law_call KX G.T.g G.T.b G.T.builtins G.T.nolimit hg hobj hints (Nat.le_trans hlen (by decide)) hr hF hb (fun H hO hS => ?_) fun H e s' z => ?_
  · have e := hsp ns hlen
    refine ⟨(), H, [], (ns, ()), (), .nil (Same.refl _), ⟨_, _, rfl, ⟨a, _, rfl, hS, ?_⟩, rfl⟩, ?_⟩
    · clear e hS hlen hints
      induction ns with
      | nil => exact .nil
      | cons n ns ih => exact .cons rfl ih
    · rw [e]
      intro I' v H' e1 s1 r1
      have r1 : v = .bl true := r1
      subst r1
      exact rfl
  · obtain ⟨_, _, _, _, _, _, _, _, _, _, _, _, h⟩ := z
    exact h
end Fw


namespace My
open PySem L2 Fw
def top (i : Nat) : Stmt := PySem.Challenge.pw_breakwords_k04_what_writes_no_pattern.main.body.getD i (.Pass ⟨0, 0, 0, 0⟩)
abbrev s_may_stand : Stmt := top 9
abbrev s_read_pattern : Stmt := top 10
abbrev s_shown_pattern : Stmt := top 11
abbrev s_l_feed : Stmt := top 13
abbrev s_l_next : Stmt := top 14
abbrev s_l_alike : Stmt := top 15
abbrev s_l_letters : Stmt := top 16
abbrev s_l_word : Stmt := top 17
abbrev s_l_text : Stmt := top 18
abbrev s_l_bent : Stmt := top 19
abbrev s_l_due : Stmt := top 20
abbrev s_l_told : Stmt := top 21
abbrev s_l_right : Stmt := top 22
abbrev s_law_ : Stmt := top 23
abbrev c_LETTERS : Tx := [97, 98, 99, 100, 101, 102, 103, 104, 105, 106, 107, 108, 109, 110, 111, 112, 113, 114, 115, 116, 117, 118, 119, 120, 121, 122]
theorem e_LETTERS : (Str.ofString "abcdefghijklmnopqrstuvwxyz").cps.toList = c_LETTERS := by decide +kernel
abbrev c_STOP : Tx := [46]
theorem e_STOP : (Str.ofString ".").cps.toList = c_STOP := by decide +kernel
abbrev c_FIGURES : Tx := [49, 50, 51, 52, 53, 54, 55, 56, 57]
theorem e_FIGURES : (Str.ofString "123456789").cps.toList = c_FIGURES := by decide +kernel
abbrev s_init_NoWord : Stmt := inClass (top 2) 0
abbrev s_init_NoPattern : Stmt := inClass (top 3) 0
abbrev Exc := PExc
structure Tops (K : PySem.W.Frag) (mg : Str → Option Value) where
  f_may_stand : Addr
  d_may_stand : FuncData
  F_may_stand : Fun K "may_stand" "may_stand" s_may_stand f_may_stand d_may_stand
  g_may_stand : mg "may_stand" = some (.ref f_may_stand)
  b_may_stand : Binds K d_may_stand ["signs", "numbers", "sign"] []
  f_read_pattern : Addr
  d_read_pattern : FuncData
  F_read_pattern : Fun K "read_pattern" "read_pattern" s_read_pattern f_read_pattern d_read_pattern
  g_read_pattern : mg "read_pattern" = some (.ref f_read_pattern)
  b_read_pattern : Binds K d_read_pattern ["text"] []
  f_shown_pattern : Addr
  d_shown_pattern : FuncData
  F_shown_pattern : Fun K "shown_pattern" "shown_pattern" s_shown_pattern f_shown_pattern d_shown_pattern
  g_shown_pattern : mg "shown_pattern" = some (.ref f_shown_pattern)
  b_shown_pattern : Binds K d_shown_pattern ["pattern"] []
  f_l_feed : Addr
  d_l_feed : FuncData
  F_l_feed : Fun K "_law_feed" "_law_feed" s_l_feed f_l_feed d_l_feed
  g_l_feed : mg "_law_feed" = some (.ref f_l_feed)
  b_l_feed : Binds K d_l_feed ["_law_script", "_law_k"] []
  f_l_next : Addr
  d_l_next : FuncData
  F_l_next : Fun K "_law_next" "_law_next" s_l_next f_l_next d_l_next
  g_l_next : mg "_law_next" = some (.ref f_l_next)
  b_l_next : Binds K d_l_next ["_law_feed_here", "_law_many"] []
  f_l_alike : Addr
  d_l_alike : FuncData
  F_l_alike : Fun K "_law_alike" "_law_alike" s_l_alike f_l_alike d_l_alike
  g_l_alike : mg "_law_alike" = some (.ref f_l_alike)
  b_l_alike : Binds K d_l_alike ["_law_found", "_law_due_here"] []
  f_l_letters : Addr
  d_l_letters : FuncData
  F_l_letters : Fun K "_law_letters" "_law_letters" s_l_letters f_l_letters d_l_letters
  g_l_letters : mg "_law_letters" = some (.ref f_l_letters)
  b_l_letters : Binds K d_l_letters ["_law_feed_here"] []
  f_l_word : Addr
  d_l_word : FuncData
  F_l_word : Fun K "_law_word" "_law_word" s_l_word f_l_word d_l_word
  g_l_word : mg "_law_word" = some (.ref f_l_word)
  b_l_word : Binds K d_l_word ["_law_feed_here", "_law_letters_here", "_law_most"] []
  f_l_text : Addr
  d_l_text : FuncData
  F_l_text : Fun K "_law_text" "_law_text" s_l_text f_l_text d_l_text
  g_l_text : mg "_law_text" = some (.ref f_l_text)
  b_l_text : Binds K d_l_text ["_law_feed_here"] []
  f_l_bent : Addr
  d_l_bent : FuncData
  F_l_bent : Fun K "_law_bent" "_law_bent" s_l_bent f_l_bent d_l_bent
  g_l_bent : mg "_law_bent" = some (.ref f_l_bent)
  b_l_bent : Binds K d_l_bent ["_law_feed_here"] []
  f_l_due : Addr
  d_l_due : FuncData
  F_l_due : Fun K "_law_due" "_law_due" s_l_due f_l_due d_l_due
  g_l_due : mg "_law_due" = some (.ref f_l_due)
  b_l_due : Binds K d_l_due ["_law_text_here"] []
  f_l_told : Addr
  d_l_told : FuncData
  F_l_told : Fun K "_law_told" "_law_told" s_l_told f_l_told d_l_told
  g_l_told : mg "_law_told" = some (.ref f_l_told)
  b_l_told : Binds K d_l_told ["_law_text_here"] []
  f_l_right : Addr
  d_l_right : FuncData
  F_l_right : Fun K "_law_right" "_law_right" s_l_right f_l_right d_l_right
  g_l_right : mg "_law_right" = some (.ref f_l_right)
  b_l_right : Binds K d_l_right ["_law_text_here"] []
  f_law_ : Addr
  d_law_ : FuncData
  F_law_ : Fun K "law" "law" s_law_ f_law_ d_law_
  g_law_ : mg "law" = some (.ref f_law_)
  b_law_ : Binds K d_law_ ["_law_script"] []
  u_LETTERS : Tok
  k_LETTERS : mg "LETTERS" = some (.str (Str.ofString "abcdefghijklmnopqrstuvwxyz") u_LETTERS)
  u_STOP : Tok
  k_STOP : mg "STOP" = some (.str (Str.ofString ".") u_STOP)
  u_FIGURES : Tok
  k_FIGURES : mg "FIGURES" = some (.str (Str.ofString "123456789") u_FIGURES)
  u_MOST_SIGNS : Tok
  k_MOST_SIGNS : mg "MOST_SIGNS" = some (.int 22 u_MOST_SIGNS)
  z_len : mg "len" = none
  z_abs : mg "abs" = none
  z_min : mg "min" = none
  z_int : mg "int" = none
  z_str : mg "str" = none
  z_all : mg "all" = none
  z_any : mg "any" = none
  z_tuple : mg "tuple" = none
  z_list : mg "list" = none
  z_range : mg "range" = none
  z_enumerate : mg "enumerate" = none
  z_isinstance : mg "isinstance" = none
  z_bool : mg "bool" = none
  z_ValueError : mg "ValueError" = none
  c_WordError : Addr
  gc_WordError : mg "WordError" = some (.ref c_WordError)
  B_WordError : ExB K c_WordError
  c_NoWord : Addr
  c_NoPattern : Addr
  gc_NoWord : mg "NoWord" = some (.ref c_NoWord)
  K_NoWord : ExK K c_NoWord
  i_NoWord : Addr
  d_init_NoWord : FuncData
  O_NoWord : ExO K c_NoWord "place" i_NoWord
  FI_NoWord : Fun K "__init__" "NoWord.__init__" s_init_NoWord i_NoWord d_init_NoWord
  bI_NoWord : Binds K d_init_NoWord ["self", "place"] []
  kx_NoWord_NoPattern : PySem.W.kitOne K (.ref c_NoWord) (.ref c_NoPattern) = some false
  kx_NoWord_NoWord : PySem.W.kitOne K (.ref c_NoWord) (.ref c_NoWord) = some true
  kx_NoWord_ValueError : PySem.W.kitOne K (.ref c_NoWord) (.type "ValueError") = some true
  em_NoWord_WordError : PySem.W.exmOne K (.ref c_NoWord) (.ref c_WordError) = some true
  gc_NoPattern : mg "NoPattern" = some (.ref c_NoPattern)
  K_NoPattern : ExK K c_NoPattern
  i_NoPattern : Addr
  d_init_NoPattern : FuncData
  O_NoPattern : ExO K c_NoPattern "place" i_NoPattern
  FI_NoPattern : Fun K "__init__" "NoPattern.__init__" s_init_NoPattern i_NoPattern d_init_NoPattern
  bI_NoPattern : Binds K d_init_NoPattern ["self", "place"] []
  kx_NoPattern_NoPattern : PySem.W.kitOne K (.ref c_NoPattern) (.ref c_NoPattern) = some true
  kx_NoPattern_NoWord : PySem.W.kitOne K (.ref c_NoPattern) (.ref c_NoWord) = some false
  kx_NoPattern_ValueError : PySem.W.kitOne K (.ref c_NoPattern) (.type "ValueError") = some true
  em_NoPattern_WordError : PySem.W.exmOne K (.ref c_NoPattern) (.ref c_WordError) = some true
section
variable {P : Program} {w : World} {K : PySem.W.Frag} {mg : Str → Option Value} {base : Heap}
def xrepF (T : Tops K mg) (I : Hp) (y : Exc) (c : Value) (da : Option Addr) : Prop := match y with
  | .noWord p => repF T.c_NoWord "place" (.int p) I c da
  | .noPattern p => repF T.c_NoPattern "place" (.int p) I c da
  | .twice p => False
  | .noTongue p => False
  | .noThing p => False
  | .tooNarrow p => False
  | .noRow => False
def xt (T : Tops K mg) : XT Exc := ⟨xrepF T, fun {I I2 y c da} e h => match y, h with
  | .noWord p, h => repF_mono e h
  | .noPattern p, h => repF_mono e h
  | .twice p, h => (show False from h).elim
  | .noTongue p, h => (show False from h).elim
  | .noThing p, h => (show False from h).elim
  | .tooNarrow p, h => (show False from h).elim
  | .noRow, h => (show False from h).elim, fun _ => []⟩
theorem xtr (T : Tops K mg) : ∀ x, (xt T).regs x = [] := fun _ => rfl
theorem flatxt {T : Tops K mg} : FlatX (xt T) := fun y => ⟨rfl, fun I q c da l h => match y, h with
  | .noWord p, h => repF_flat l h
  | .noPattern p, h => repF_flat l h
  | .twice p, h => (show False from h).elim
  | .noTongue p, h => (show False from h).elim
  | .noThing p, h => (show False from h).elim
  | .tooNarrow p, h => (show False from h).elim
  | .noRow, h => (show False from h).elim⟩
theorem xrep_NoWord (T : Tops K mg) : ∀ (I : Hp) (d : Addr) (v : V) (q : Int), tInt.rep I v q → I d = some (.xd [("place", v)]) → (xt T).rep I (PExc.noWord q) (.ref T.c_NoWord) (some d) := fun I d v q r h => ⟨rfl, d, rfl, by cases r; exact h⟩
theorem ok_init_NoWord (T : Tops K mg) : FnOk P w K mg base CX0 1 T.i_NoWord T.d_init_NoWord ["self", "place"] (spInit T.c_NoWord "place") := init_ok (x := "WordError") T.FI_NoWord T.O_NoWord T.B_WordError T.gc_WordError ⟨rfl, rfl, rfl, by decide +kernel, rfl, by decide +kernel, by decide +kernel⟩ rfl (by decide +kernel) (by decide) (by decide +kernel) (by decide +kernel) (by decide) (by decide) (fun env => ⟨_, rfl⟩)
theorem xrep_NoPattern (T : Tops K mg) : ∀ (I : Hp) (d : Addr) (v : V) (q : Int), tInt.rep I v q → I d = some (.xd [("place", v)]) → (xt T).rep I (PExc.noPattern q) (.ref T.c_NoPattern) (some d) := fun I d v q r h => ⟨rfl, d, rfl, by cases r; exact h⟩
theorem ok_init_NoPattern (T : Tops K mg) : FnOk P w K mg base CX0 1 T.i_NoPattern T.d_init_NoPattern ["self", "place"] (spInit T.c_NoPattern "place") := init_ok (x := "WordError") T.FI_NoPattern T.O_NoPattern T.B_WordError T.gc_WordError ⟨rfl, rfl, rfl, by decide +kernel, rfl, by decide +kernel, by decide +kernel⟩ rfl (by decide +kernel) (by decide) (by decide +kernel) (by decide +kernel) (by decide) (by decide) (fun env => ⟨_, rfl⟩)
theorem is_NoPattern (T : Tops K mg) : IsOf K (xt T) (.ref T.c_NoPattern) isNoPattern := fun I y cl da h => match y, h with
  | .noWord p, h => repF_is T.K_NoWord T.kx_NoWord_NoPattern h
  | .noPattern p, h => repF_is T.K_NoPattern T.kx_NoPattern_NoPattern h
  | .twice p, h => (show False from h).elim
  | .noTongue p, h => (show False from h).elim
  | .noThing p, h => (show False from h).elim
  | .tooNarrow p, h => (show False from h).elim
  | .noRow, h => (show False from h).elim
theorem is_NoWord (T : Tops K mg) : IsOf K (xt T) (.ref T.c_NoWord) isNoWord := fun I y cl da h => match y, h with
  | .noWord p, h => repF_is T.K_NoWord T.kx_NoWord_NoWord h
  | .noPattern p, h => repF_is T.K_NoPattern T.kx_NoPattern_NoWord h
  | .twice p, h => (show False from h).elim
  | .noTongue p, h => (show False from h).elim
  | .noThing p, h => (show False from h).elim
  | .tooNarrow p, h => (show False from h).elim
  | .noRow, h => (show False from h).elim
theorem is_ValueError (T : Tops K mg) : IsOf K (xt T) (.type "ValueError") (fun _ => true) := fun I y cl da h => match y, h with
  | .noWord p, h => repF_is T.K_NoWord T.kx_NoWord_ValueError h
  | .noPattern p, h => repF_is T.K_NoPattern T.kx_NoPattern_ValueError h
  | .twice p, h => (show False from h).elim
  | .noTongue p, h => (show False from h).elim
  | .noThing p, h => (show False from h).elim
  | .tooNarrow p, h => (show False from h).elim
  | .noRow, h => (show False from h).elim
theorem em_WordError (T : Tops K mg) : ∀ (I : Hp) (y : Exc) (cl : Value) (da : Option Addr), (xt T).rep I y cl da → PySem.W.exmOne K cl (.ref T.c_WordError) = some ((fun _ => true) y) := fun I y cl da h => match y, h with
  | .noWord p, h => by rw [h.1]; exact T.em_NoWord_WordError
  | .noPattern p, h => by rw [h.1]; exact T.em_NoPattern_WordError
  | .twice p, h => (show False from h).elim
  | .noTongue p, h => (show False from h).elim
  | .noThing p, h => (show False from h).elim
  | .tooNarrow p, h => (show False from h).elim
  | .noRow, h => (show False from h).elim
theorem xf_place (T : Tops K mg) : ∀ (d : Exc) (cl : Value) (da : Option Addr) (I : Hp), (xt T).rep I d cl da → (xPlace d).isSome = true → ∃ (C dd : Addr) (fs : List (Str × V)) (v : V), cl = .ref C ∧ XfC K C ∧ PySem.W.findIn K (.ref C) "place" = some none ∧ da = some dd ∧ I dd = some (.xd fs) ∧ fs.lookup ("place" : Str) = some v ∧ tInt.rep I v ((xPlace d).getD 0) := fun y cl da I h q => match y, h, q with
  | .noWord p, h, q => repF_fld (A := tInt) T.K_NoWord T.O_NoWord.nof (fun _ => rfl) h
  | .noPattern p, h, q => repF_fld (A := tInt) T.K_NoPattern T.O_NoPattern.nof (fun _ => rfl) h
  | .twice p, h, q => (show False from h).elim
  | .noTongue p, h, q => (show False from h).elim
  | .noThing p, h, q => (show False from h).elim
  | .tooNarrow p, h, q => (show False from h).elim
  | .noRow, h, q => (show False from h).elim
theorem xf_word (T : Tops K mg) : ∀ (d : Exc) (cl : Value) (da : Option Addr) (I : Hp), (xt T).rep I d cl da → (xWord d).isSome = true → ∃ (C dd : Addr) (fs : List (Str × V)) (v : V), cl = .ref C ∧ XfC K C ∧ PySem.W.findIn K (.ref C) "word" = some none ∧ da = some dd ∧ I dd = some (.xd fs) ∧ fs.lookup ("word" : Str) = some v ∧ tTx.rep I v ((xWord d).getD []) := fun y cl da I h q => match y, h, q with
  | .noWord p, h, q => nomatch q
  | .noPattern p, h, q => nomatch q
  | .twice p, h, q => (show False from h).elim
  | .noTongue p, h, q => (show False from h).elim
  | .noThing p, h, q => (show False from h).elim
  | .tooNarrow p, h, q => (show False from h).elim
  | .noRow, h, q => (show False from h).elim
theorem xf_name (T : Tops K mg) : ∀ (d : Exc) (cl : Value) (da : Option Addr) (I : Hp), (xt T).rep I d cl da → (xName d).isSome = true → ∃ (C dd : Addr) (fs : List (Str × V)) (v : V), cl = .ref C ∧ XfC K C ∧ PySem.W.findIn K (.ref C) "name" = some none ∧ da = some dd ∧ I dd = some (.xd fs) ∧ fs.lookup ("name" : Str) = some v ∧ tTx.rep I v ((xName d).getD []) := fun y cl da I h q => match y, h, q with
  | .noWord p, h, q => nomatch q
  | .noPattern p, h, q => nomatch q
  | .twice p, h, q => (show False from h).elim
  | .noTongue p, h, q => (show False from h).elim
  | .noThing p, h, q => (show False from h).elim
  | .tooNarrow p, h, q => (show False from h).elim
  | .noRow, h, q => (show False from h).elim
def m_may_stand (pt : (Tx × (List Int) × Tx × Unit)) (st : Unit) : Res Exc (Bool × Unit) := Out.fn (ν := Empty) (Out.bnd ((fun (s : Unit) => (((((Res.val (pt.1, s)).bnd fun t s => Res.val (t.map fun c => [c], s)).bnd fun xs s => if xs.length ≤ sizeLine then Res.nox (ε := Empty) (ε' := Exc) (Res.compL (ε := Empty) (fun (d1 : Tx) s => Res.val (true, s)) (fun (d1 : Tx) s => Res.nox (ε := Exc) (ε' := Empty) (Res.grd (List.length d1 = 1) ((decide (List.headD d1 0 ∈ c_LETTERS)), s))) xs s []) else .stuck).bnd fun d s => Res.val ((d, ()), s)).bnd fun t s => Res.val ((List.any t.1 id), s))) ()) fun lettered _ => Out.bnd ((fun (s : Unit) => ((Res.val (lettered, s)).bnd fun b s => if b = true then ((Res.grd (List.length pt.1 ≤ sizeLine ∧ (atI pt.1 (-(1 : Int))).isSome) ([(atI pt.1 (-(1 : Int))).getD 0], s)).bnd fun x s => Res.val ((decide (x = c_STOP)), s)) else Res.val (false, s))) ()) fun b _ => (if b = true then Out.ret (false, ()) else Out.nx ()).seq fun (n2 : Unit) => Out.bnd ((fun (s : Unit) => (Res.grd (List.length pt.2.2.1 = 1) ((decide (List.headD pt.2.2.1 0 ∈ c_FIGURES)), s))) ()) fun b _ => (if b = true then Out.bnd ((fun (s : Unit) => ((Res.grd (List.length pt.1 ≤ sizeLine) ((List.length pt.1 : Int), s)).bnd fun y s => Res.val ((decide ((List.length pt.2.1 : Int) = y)), s))) ()) fun d s => Out.ret (d, s) else Out.nx ()).seq fun (n3 : Unit) => Out.bnd ((fun (s : Unit) => ((Res.grd (List.length pt.1 ≤ sizeLine) ((List.length pt.1 : Int), s)).bnd fun x s => Res.val ((decide (x = (22 : Int))), s))) ()) fun b _ => (if b = true then Out.ret (false, ()) else Out.nx ()).seq fun (n4 : Unit) => Out.bnd ((fun (s : Unit) => (Res.val ((decide (pt.2.2.1 = c_STOP)), s))) ()) fun b _ => (if b = true then Out.bnd ((fun (s : Unit) => ((Res.val (lettered, s)).bnd fun b s => if b = true then Res.val (true, s) else ((Res.val ((decide (pt.1 = ([] : Tx))), s)).bnd fun b s => if b = true then ((Res.val (([] : (List Int)), s)).bnd fun y s => Res.grd (eqOk ((dLst PyData.int) pt.2.1) ((dLst PyData.int) y)) ((PyData.eqv ((dLst PyData.int) pt.2.1) ((dLst PyData.int) y)), s)) else Res.val (false, s)))) ()) fun d s => Out.ret (d, s) else Out.nx ()).seq fun (n5 : Unit) => Out.bnd ((fun (s : Unit) => (Res.grd (List.length pt.2.2.1 = 1) ((decide (List.headD pt.2.2.1 0 ∈ c_LETTERS)), s))) ()) fun d s => Out.ret (d, s))
theorem sc_may_stand : FnScope ["signs", "numbers", "sign", "lettered", "one"] ["signs", "numbers", "sign"] (defScope s_may_stand) := ⟨rfl, rfl, rfl, by decide +kernel, rfl, by decide +kernel, by decide +kernel⟩
theorem ok_may_stand (T : Tops K mg) : FnOk P w K mg base (L2.CX P w) 1 T.f_may_stand T.d_may_stand ["signs", "numbers", "sign"] (spec (fun a : Unit => (Tys.cons tTx (Tys.cons (tLst tInt) (Tys.cons tTx Tys.nil)))) (fun _ _ => []) (fun a : Unit => rtV tBool (fun _ => [])) (fun _ => (xt T)) m_may_stand) := by
  refine fn_ok T.F_may_stand sc_may_stand (k := 0) (body := fun X a pt st hm cx cc => ⟨Empty, (fun z => nomatch z), (fun z => nomatch z), _, rfl, ?_⟩)
  obtain ⟨rfl, rfl, rfl, rfl, rfl, hr, hst, hfr⟩ := hm
  refine sf_asg (γ := Unit) (L := (fun _ : Unit => [])) (s := ()) cx 3 (ef_callBT cx (cr_any cc.calm) dn_any (fun _ => trivial) T.z_any (by decide +kernel) (af_consF (ef_frz (en_lc cx cc (lc_mk (ownl := [("one", 4)]) cx rfl (if_str (ef_pure (ep_var cx 0))) (by decide +kernel) (gfb_name (B := tTx) cx 4) (fun s0 H0 C0 cl fp Cb d1 s => tsf_nil) (fun s0 H0 C0 cl fp Cb d1 s => (ef_nox (xt := (xt T)) (ef_grd fun h => ep_cmp op_in_sign d_inS (ep_var Cb 4) (ep_globT Cb T.k_LETTERS e_LETTERS) h (by rfl))))))) (fun d s => ap_nil))) (fun lettered _ => ?_)
  refine sf_if (γ := Unit) (L := (fun _ : Unit => [])) (s := ()) (gj := (fun n2 : Unit => [.dat tTx pt.1, .dat (tLst tInt) pt.2.1, .dat tTx pt.2.2.1, .dat tBool lettered, .unk])) (lj := (fun n2 : Unit => [])) (tf_w (tf_and (tf_pure (tp_val (ep_var cx 3))) (fun s => (tf_and1 (tf_cmpFPT op_eq d_eqT (ef_grd fun h => ep_ix ix_str d_ixS (ep_var cx 0) (ep_un un_neg d_neg ep_int trivial) h) (fun x s => (ep_globT cx T.k_STOP e_STOP))))))) (fun _ => ?_) (fun _ => ?_) (fun n2 => ?_)
  · exact sf_retP (γ := Unit) (L := (fun _ : Unit => [])) (Lr := (fun _ : Unit => [])) (s := ()) ep_bool .refl
  · exact sf_nil (.s (.s (.s (.s (.u (.nil)))))) rfl .refl
  · refine sf_if (γ := Unit) (L := (fun _ : Unit => [])) (s := ()) (gj := (fun n3 : Unit => [.dat tTx pt.1, .dat (tLst tInt) pt.2.1, .dat tTx pt.2.2.1, .dat tBool lettered, .unk])) (lj := (fun n3 : Unit => [])) (tf_grd fun h => tp_cmp op_in_sign d_inS (ep_var cx 2) (ep_globT cx T.k_FIGURES e_FIGURES) h (by rfl)) (fun _ => ?_) (fun _ => ?_) (fun n3 => ?_)
    · exact sf_ret (γ := Unit) (L := (fun _ : Unit => [])) (Lr := (fun _ : Unit => [])) (s := ()) (ef_cmpPFT op_eq d_eqI (ep_callB cx call_len_seq dn_lenL T.z_len (by decide +kernel) (ap_cons (ep_var cx 1) ap_nil) trivial) (ef_callBP cx call_len_str dn_lenT T.z_len (by decide +kernel) (ap_cons (ep_var cx 0) ap_nil))) (fun s => .refl)
    · exact sf_nil (.s (.s (.s (.s (.u (.nil)))))) rfl .refl
    · refine sf_if (γ := Unit) (L := (fun _ : Unit => [])) (s := ()) (gj := (fun n4 : Unit => [.dat tTx pt.1, .dat (tLst tInt) pt.2.1, .dat tTx pt.2.2.1, .dat tBool lettered, .unk])) (lj := (fun n4 : Unit => [])) (tf_cmpFPT op_eq d_eqI (ef_callBP cx call_len_str dn_lenT T.z_len (by decide +kernel) (ap_cons (ep_var cx 0) ap_nil)) (fun x s => (ep_globI cx T.k_MOST_SIGNS))) (fun _ => ?_) (fun _ => ?_) (fun n4 => ?_)
      · exact sf_retP (γ := Unit) (L := (fun _ : Unit => [])) (Lr := (fun _ : Unit => [])) (s := ()) ep_bool .refl
      · exact sf_nil (.s (.s (.s (.s (.u (.nil)))))) rfl .refl
      · refine sf_if (γ := Unit) (L := (fun _ : Unit => [])) (s := ()) (gj := (fun n5 : Unit => [.dat tTx pt.1, .dat (tLst tInt) pt.2.1, .dat tTx pt.2.2.1, .dat tBool lettered, .unk])) (lj := (fun n5 : Unit => [])) (tf_pure (tp_cmp op_eq d_eqT (ep_var cx 2) (ep_globT cx T.k_STOP e_STOP) trivial)) (fun _ => ?_) (fun _ => ?_) (fun n5 => ?_)
        · exact sf_ret (γ := Unit) (L := (fun _ : Unit => [])) (Lr := (fun _ : Unit => [])) (s := ()) (ef_or (ef_pure (ep_var cx 3)) (fun s => (ef_one (ef_and (ef_pure (ep_cmp op_eq d_eqT (ep_var cx 0) (ep_str (t := []) (by decide +kernel)) trivial)) (fun s => (ef_one (ef_cmpPFG (op_eqD hr.units) (d_eqD (coe_lst coe_int)) (ep_var cx 1) (ef_frz (en_nil (A := tInt)))))))))) (fun s => .refl)
        · exact sf_nil (.s (.s (.s (.s (.u (.nil)))))) rfl .refl
        · exact sf_ret (γ := Unit) (L := (fun _ : Unit => [])) (Lr := (fun _ : Unit => [])) (s := ()) (ef_grd fun h => ep_cmp op_in_sign d_inS (ep_var cx 2) (ep_globT cx T.k_LETTERS e_LETTERS) h (by rfl)) (fun s => .refl)
def m_read_pattern (pt : (Tx × Unit)) (st : Unit) : Res Exc ((Tx × (List Int) × Unit) × Unit) := Out.fn (ν := Empty) (Out.lt ([] : Tx) fun signs => Out.bnd ((fun (s : Unit) => (Res.val (([] : (List Int)), s))) ()) fun numbers _ => Out.bnd ((fun (s : Unit) => ((Res.val (pt.1, s)).bnd fun t s => Res.val (enumL (t.map fun c => [c]), s))) ()) fun xs _ => (Out.forL xs ((signs, numbers) : Tx × (List Int)) fun (n2 : Tx × (List Int)) d3 => Out.bnd ((fun (s : Unit) => (((m_may_stand (n2.1, (n2.2, (d3.2.1, ()))) ()).up s).bnd fun b s => Res.val (!b, s))) ()) fun b _ => (if b = true then Out.bnd ((fun (s : Unit) => (Res.val (d3.1, s))) ()) fun d _ => Out.exn (PExc.noPattern d) else Out.nx ()).seq fun (n4 : Unit) => Out.bnd ((fun (s : Unit) => (Res.grd (List.length d3.2.1 = 1) ((decide (List.headD d3.2.1 0 ∈ c_FIGURES)), s))) ()) fun b _ => (if b = true then Out.bnd ((fun (s : Unit) => (Res.grd (List.length d3.2.1 ≤ 640 ∧ (PySem.intText? ⟨List.toArray d3.2.1⟩).isSome) (((PySem.intText? ⟨List.toArray d3.2.1⟩).getD 0), s))) ()) fun v6 _ => if (List.length n2.2) < sizeLine then (Out.lt (n2.2 ++ [v6]) fun numbers6 => Out.nx (n2.1, numbers6)) else .stuck else Out.bnd ((fun (s : Unit) => ((Res.grd (List.length n2.1 ≤ sizeLine) ((List.length n2.1 : Int), s)).bnd fun y s => Res.val ((decide ((n2.2.length : Int) = y)), s))) ()) fun b _ => (if b = true then Out.bnd ((fun (s : Unit) => (Res.val ((0 : Int), s))) ()) fun v8 _ => if (List.length n2.2) < sizeLine then (Out.lt (n2.2 ++ [v8]) fun numbers8 => Out.nx numbers8) else .stuck else Out.nx n2.2).seq fun (n7 : (List Int)) => Out.bnd ((fun (s : Unit) => (Res.grd (List.length n2.1 + List.length d3.2.1 ≤ sizeLine) ((n2.1 ++ d3.2.1), s))) ()) fun signs _ => Out.nx (signs, n7)).seq fun (n5 : Tx × (List Int)) => Out.nx (n5.1, n5.2)).seq fun (n2 : Tx × (List Int)) => Out.bnd ((fun (s : Unit) => ((((((Res.val (n2.1, s)).bnd fun t s => Res.val (t.map fun c => [c], s)).bnd fun xs s => if xs.length ≤ sizeLine then Res.nox (ε := Empty) (ε' := Exc) (Res.compL (ε := Empty) (fun (d9 : Tx) s => Res.val (true, s)) (fun (d9 : Tx) s => Res.nox (ε := Exc) (ε' := Empty) (Res.grd (List.length d9 = 1) ((decide (List.headD d9 0 ∈ c_LETTERS)), s))) xs s []) else .stuck).bnd fun d s => Res.val ((d, ()), s)).bnd fun t s => Res.val ((List.any t.1 id), s)).bnd fun b s => Res.val (!b, s))) ()) fun b _ => (if b = true then Out.bnd ((fun (s : Unit) => (Res.grd (List.length pt.1 ≤ sizeLine) ((List.length pt.1 : Int), s))) ()) fun d _ => Out.exn (PExc.noPattern d) else Out.nx ()).seq fun (n10 : Unit) => Out.bnd ((fun (s : Unit) => ((Res.grd (List.length n2.1 ≤ sizeLine) ((List.length n2.1 : Int), s)).bnd fun y s => Res.val ((decide ((n2.2.length : Int) = y)), s))) ()) fun b _ => (if b = true then Out.bnd ((fun (s : Unit) => (Res.val ((0 : Int), s))) ()) fun v12 _ => if (List.length n2.2) < sizeLine then (Out.lt (n2.2 ++ [v12]) fun numbers12 => Out.nx numbers12) else .stuck else Out.nx n2.2).seq fun (n11 : (List Int)) => Out.ret ((n2.1, (n11, ())), ()))
theorem sc_read_pattern : FnScope ["text", "signs", "numbers", "place", "sign", "one"] ["text"] (defScope s_read_pattern) := ⟨rfl, rfl, rfl, by decide +kernel, rfl, by decide +kernel, by decide +kernel⟩
theorem ok_read_pattern (T : Tops K mg) : FnOk P w K mg base (L2.CX P w) 3 T.f_read_pattern T.d_read_pattern ["text"] (spec (fun a : Unit => (Tys.cons tTx Tys.nil)) (fun _ _ => []) (fun a : Unit => rtV (tTup (Tys.cons tTx (Tys.cons (tTuL tInt) Tys.nil))) (fun _ => [])) (fun _ => (xt T)) m_read_pattern) := by
  refine fn_ok T.F_read_pattern sc_read_pattern (k := 2) (body := fun X a pt st hm cx cc => ⟨Empty, (fun z => nomatch z), (fun z => nomatch z), _, rfl, ?_⟩)
  obtain ⟨rfl, rfl, rfl, rfl, rfl, hr, hst, hfr⟩ := hm
  refine sf_asgP cx 1 (ep_str (t := []) (by decide +kernel)) (fun signs => ?_)
  refine sf_asgN (γ := Unit) (L := (fun _ : Unit => [])) (s := ()) cx 2 (en_nil (A := tInt)) (fun q1 numbers _ => ?_)
  refine sf_for (γ := Unit) (L := (fun _ : Unit => [cell q1 (cLst tInt numbers)])) (s := ()) (gj := (fun n2 : Tx × (List Int) => [.dat tTx pt.1, .dat tTx n2.1, .dat (tCell q1) (), .unk, .unk, .unk])) (lj := (fun n2 : Tx × (List Int) => [cell q1 (cLst tInt n2.2)])) (n0 := fun _ => (signs, numbers)) cc (if_enumS cx (T.z_enumerate) (ef_pure (ep_var cx 0))) (gf_tup cc (gfs_cons (gf_name (B := tInt) cx 3) (gfs_cons (gf_name (B := tTx) cx 4) gfs_nil))) (fun _ => ⟨(.s (.s (.s (.u (.u (.u (.nil))))))), rfl, .refl⟩) (fun n2 d3 => ?_) (fun n2 => ?_)
  · refine sf_if (γ := Unit) (L := (fun _ : Unit => [cell q1 (cLst tInt n2.2)])) (s := ()) (gj := (fun n4 : Unit => [.dat tTx pt.1, .dat tTx n2.1, .dat (tCell q1) (), .dat tInt d3.1, .dat tTx d3.2.1, .unk])) (lj := (fun n4 : Unit => [cell q1 (cLst tInt n2.2)])) (tf_not (tf_val (ef_lend (q := q1) (xs := n2.2) (i := 2) (A := tInt) (L1 := (fun _ : Unit => [])) (R := []) flt_bool flatxt (fun s => flc_nil) (fun s => ((perm_at 0 (by rfl)).trans (.cons _ (.refl _)))) (by rfl) (ef_call0P cx (ok_may_stand T) (hr.mono (by decide)) (T.g_may_stand) (T.F_may_stand).kp T.b_may_stand passWX (ap_cons (ep_var cx 1) (ap_cons (ep_var cx 2) (ap_cons (ep_var cx 4) ap_nil))) (xtr T))))) (fun _ => ?_) (fun _ => ?_) (fun n4 => ?_)
    · exact sf_raise (γ := Unit) (L := (fun _ : Unit => [cell q1 (cLst tInt n2.2)])) (s := ()) (f := PExc.noPattern) cx cc T.O_NoPattern (ok_init_NoPattern T) (hr.mono (by decide)) T.bI_NoPattern T.gc_NoPattern (ef_pure (ep_var cx 3)) (xrep_NoPattern T) (xtr T)
    · exact sf_nil (.s (.s (.s (.s (.s (.u (.nil))))))) rfl .refl
    · refine sf_if (γ := Unit) (L := (fun _ : Unit => [cell q1 (cLst tInt n2.2)])) (s := ()) (gj := (fun n5 : Tx × (List Int) => [.dat tTx pt.1, .dat tTx n5.1, .dat (tCell q1) (), .dat tInt d3.1, .dat tTx d3.2.1, .unk])) (lj := (fun n5 : Tx × (List Int) => [cell q1 (cLst tInt n5.2)])) (tf_grd fun h => tp_cmp op_in_sign d_inS (ep_var cx 4) (ep_globT cx T.k_FIGURES e_FIGURES) h (by rfl)) (fun _ => ?_) (fun _ => ?_) (fun n5 => ?_)
      · refine sf_append (γ := Unit) (L := (fun _ : Unit => [cell q1 (cLst tInt n2.2)])) (s := ()) (xs := fun _ => n2.2) (R := fun _ => []) (ep_var cx 2) (ef_callTyP cx call_int_str dn_intT T.z_int (by decide +kernel) (ap_cons (ep_var cx 4) ap_nil)) (fun s => .refl _) (fun v6 _ => ?_)
        refine sf_lt (fun numbers6 => SF X _ _ (cell q1 (cLst tInt numbers6) :: []) _ _ _ _ _) _ (fun numbers6 => ?_)
        exact sf_nil (.s (.s (.s (.s (.s (.u (.nil))))))) rfl .refl
      · refine sf_if (γ := Unit) (L := (fun _ : Unit => [cell q1 (cLst tInt n2.2)])) (s := ()) (gj := (fun n7 : (List Int) => [.dat tTx pt.1, .dat tTx n2.1, .dat (tCell q1) (), .dat tInt d3.1, .dat tTx d3.2.1, .unk])) (lj := (fun n7 : (List Int) => [cell q1 (cLst tInt n7)])) (tf_cmpPFT op_eq d_eqI (ep_lenO cx T.z_len (ep_var cx 2) (.hd)) (ef_callBP cx call_len_str dn_lenT T.z_len (by decide +kernel) (ap_cons (ep_var cx 1) ap_nil))) (fun _ => ?_) (fun _ => ?_) (fun n7 => ?_)
        · refine sf_append (γ := Unit) (L := (fun _ : Unit => [cell q1 (cLst tInt n2.2)])) (s := ()) (xs := fun _ => n2.2) (R := fun _ => []) (ep_var cx 2) (ef_pure ep_int) (fun s => .refl _) (fun v8 _ => ?_)
          refine sf_lt (fun numbers8 => SF X _ _ (cell q1 (cLst tInt numbers8) :: []) _ _ _ _ _) _ (fun numbers8 => ?_)
          exact sf_nil (.s (.s (.s (.s (.s (.u (.nil))))))) rfl .refl
        · exact sf_nil (.s (.s (.s (.s (.s (.u (.nil))))))) rfl .refl
        · refine sf_asg (γ := Unit) (L := (fun _ : Unit => [cell q1 (cLst tInt n7)])) (s := ()) cx 1 (ef_grd fun h => ep_op op_add_str d_catT (ep_var cx 1) (ep_var cx 4) h) (fun signs _ => ?_)
          exact sf_nil (.s (.s (.s (.s (.s (.u (.nil))))))) rfl .refl
      · exact sf_nil (.s (.s (.s (.u (.u (.u (.nil))))))) rfl .refl
  · refine sf_if (γ := Unit) (L := (fun _ : Unit => [cell q1 (cLst tInt n2.2)])) (s := ()) (gj := (fun n10 : Unit => [.dat tTx pt.1, .dat tTx n2.1, .dat (tCell q1) (), .unk, .unk, .unk])) (lj := (fun n10 : Unit => [cell q1 (cLst tInt n2.2)])) (tf_not (tf_val (ef_callBT cx (cr_any cc.calm) dn_any (fun _ => trivial) T.z_any (by decide +kernel) (af_consF (ef_frz (en_lc cx cc (lc_mk (ownl := [("one", 5)]) cx rfl (if_str (ef_pure (ep_var cx 1))) (by decide +kernel) (gfb_name (B := tTx) cx 5) (fun s0 H0 C0 cl fp Cb d9 s => tsf_nil) (fun s0 H0 C0 cl fp Cb d9 s => (ef_nox (xt := (xt T)) (ef_grd fun h => ep_cmp op_in_sign d_inS (ep_var Cb 5) (ep_globT Cb T.k_LETTERS e_LETTERS) h (by rfl))))))) (fun d s => ap_nil))))) (fun _ => ?_) (fun _ => ?_) (fun n10 => ?_)
    · exact sf_raise (γ := Unit) (L := (fun _ : Unit => [cell q1 (cLst tInt n2.2)])) (s := ()) (f := PExc.noPattern) cx cc T.O_NoPattern (ok_init_NoPattern T) (hr.mono (by decide)) T.bI_NoPattern T.gc_NoPattern (ef_callBP cx call_len_str dn_lenT T.z_len (by decide +kernel) (ap_cons (ep_var cx 0) ap_nil)) (xrep_NoPattern T) (xtr T)
    · exact sf_nil (.s (.s (.s (.u (.u (.u (.nil))))))) rfl .refl
    · refine sf_if (γ := Unit) (L := (fun _ : Unit => [cell q1 (cLst tInt n2.2)])) (s := ()) (gj := (fun n11 : (List Int) => [.dat tTx pt.1, .dat tTx n2.1, .dat (tCell q1) (), .unk, .unk, .unk])) (lj := (fun n11 : (List Int) => [cell q1 (cLst tInt n11)])) (tf_cmpPFT op_eq d_eqI (ep_lenO cx T.z_len (ep_var cx 2) (.hd)) (ef_callBP cx call_len_str dn_lenT T.z_len (by decide +kernel) (ap_cons (ep_var cx 1) ap_nil))) (fun _ => ?_) (fun _ => ?_) (fun n11 => ?_)
      · refine sf_append (γ := Unit) (L := (fun _ : Unit => [cell q1 (cLst tInt n2.2)])) (s := ()) (xs := fun _ => n2.2) (R := fun _ => []) (ep_var cx 2) (ef_pure ep_int) (fun s => .refl _) (fun v12 _ => ?_)
        refine sf_lt (fun numbers12 => SF X _ _ (cell q1 (cLst tInt numbers12) :: []) _ _ _ _ _) _ (fun numbers12 => ?_)
        exact sf_nil (.s (.s (.s (.u (.u (.u (.nil))))))) rfl .refl
      · exact sf_nil (.s (.s (.s (.u (.u (.u (.nil))))))) rfl .refl
      · exact sf_retP (γ := Unit) (L := (fun _ : Unit => [cell q1 (cLst tInt n11)])) (Lr := (fun _ : Unit => [])) (s := ()) (ep_tup (ap_cons (ep_var cx 1) (ap_cons (ep_tupO cx T.z_tuple (ep_var cx 2) (.hd)) ap_nil))) (.drop .nil)
def m_shown_pattern (pt : ((Tx × (List Int) × Unit) × Unit)) (st : Unit) : Res Exc (Tx × Unit) := Out.fn (ν := Empty) (Out.bnd ((fun (s : Unit) => (Res.val (pt.1, s))) ()) fun d1 _ => Out.lt ([] : Tx) fun text_ => Out.bnd ((fun (s : Unit) => ((Res.val (d1.2.1, s)).bnd fun t s => Res.val (enumL t, s))) ()) fun xs _ => (Out.forL xs (text_ : Tx) fun (n2 : Tx) d3 => Out.bnd ((fun (s : Unit) => (Res.val ((decide ((0 : Int) < d3.2.1)), s))) ()) fun b _ => (if b = true then Out.bnd ((fun (s : Unit) => ((Res.grd ((Int.natAbs d3.2.1).log2 < 1920) ((PySem.Str.ofString (toString d3.2.1)).cps.toList, s)).bnd fun y s => Res.grd (List.length n2 + List.length y ≤ sizeLine) ((n2 ++ y), s))) ()) fun text_ _ => Out.nx text_ else Out.nx n2).seq fun (n4 : Tx) => Out.bnd ((fun (s : Unit) => ((Res.grd (List.length d1.1 ≤ sizeLine) ((cut d1.1 (some d3.1) (some (d3.1 + (1 : Int)))), s)).bnd fun y s => Res.grd (List.length n4 + List.length y ≤ sizeLine) ((n4 ++ y), s))) ()) fun text_ _ => Out.nx text_).seq fun (n2 : Tx) => Out.ret (n2, ()))
theorem sc_shown_pattern : FnScope ["pattern", "text", "signs", "numbers", "place", "number"] ["pattern"] (defScope s_shown_pattern) := ⟨rfl, rfl, rfl, by decide +kernel, rfl, by decide +kernel, by decide +kernel⟩
theorem ok_shown_pattern (T : Tops K mg) : FnOk P w K mg base (L2.CX P w) 1 T.f_shown_pattern T.d_shown_pattern ["pattern"] (spec (fun a : Unit => (Tys.cons (tTup (Tys.cons tTx (Tys.cons (tTuL tInt) Tys.nil))) Tys.nil)) (fun _ _ => []) (fun a : Unit => rtV tTx (fun _ => [])) (fun _ => (xt T)) m_shown_pattern) := by
  refine fn_ok T.F_shown_pattern sc_shown_pattern (k := 0) (body := fun X a pt st hm cx cc => ⟨Empty, (fun z => nomatch z), (fun z => nomatch z), _, rfl, ?_⟩)
  obtain ⟨rfl, rfl, rfl, rfl, rfl, hr, hst, hfr⟩ := hm
  refine sf_asgT (γ := Unit) (L := (fun _ : Unit => [])) (s := ()) (gf_tup cc (gfs_cons (gf_name (B := tTx) cx 2) (gfs_cons (gf_name (B := (tTuL tInt)) cx 3) gfs_nil))) (ef_pure (ep_var cx 0)) (fun d1 _ => ?_)
  refine sf_asgP cx 1 (ep_str (t := []) (by decide +kernel)) (fun text_ => ?_)
  refine sf_for (γ := Unit) (L := (fun _ : Unit => [])) (s := ()) (gj := (fun n2 : Tx => [.dat (tTup (Tys.cons tTx (Tys.cons (tTuL tInt) Tys.nil))) pt.1, .dat tTx n2, .dat tTx d1.1, .dat (tTuL tInt) d1.2.1, .unk, .unk])) (lj := (fun n2 : Tx => [])) (n0 := fun _ => text_) cc (if_enumU cx (T.z_enumerate) (ef_pure (ep_var cx 3))) (gf_tup cc (gfs_cons (gf_name (B := tInt) cx 4) (gfs_cons (gf_name (B := tInt) cx 5) gfs_nil))) (fun _ => ⟨(.s (.s (.s (.s (.u (.u (.nil))))))), rfl, .refl⟩) (fun n2 d3 => ?_) (fun n2 => ?_)
  · refine sf_if (γ := Unit) (L := (fun _ : Unit => [])) (s := ()) (gj := (fun n4 : Tx => [.dat (tTup (Tys.cons tTx (Tys.cons (tTuL tInt) Tys.nil))) pt.1, .dat tTx n4, .dat tTx d1.1, .dat (tTuL tInt) d1.2.1, .dat tInt d3.1, .dat tInt d3.2.1])) (lj := (fun n4 : Tx => [])) (tf_pure (tp_cmp op_gt d_gt (ep_var cx 5) ep_int trivial)) (fun _ => ?_) (fun _ => ?_) (fun n4 => ?_)
    · refine sf_asg (γ := Unit) (L := (fun _ : Unit => [])) (s := ()) cx 1 (ef_opPFG op_add_str d_catT (ep_var cx 1) (ef_callTyP cx call_str_int dn_strI T.z_str (by decide +kernel) (ap_cons (ep_var cx 5) ap_nil))) (fun text_ _ => ?_)
      exact sf_nil (.s (.s (.s (.s (.s (.s (.nil))))))) rfl .refl
    · exact sf_nil (.s (.s (.s (.s (.s (.s (.nil))))))) rfl .refl
    · refine sf_asg (γ := Unit) (L := (fun _ : Unit => [])) (s := ()) cx 1 (ef_opPFG op_add_str d_catT (ep_var cx 1) (ef_grd fun h => ep_slice sl_str ds_tx (ep_var cx 2) (op_some (ep_var cx 4)) (op_some (ep_op op_add d_add (ep_var cx 4) ep_int trivial)) h)) (fun text_ _ => ?_)
      exact sf_nil (.s (.s (.s (.s (.u (.u (.nil))))))) rfl .refl
  · exact sf_retP (γ := Unit) (L := (fun _ : Unit => [])) (Lr := (fun _ : Unit => [])) (s := ()) (ep_var cx 1) .refl
def m_l_feed (pt : ((List Int) × Int × Unit)) (st : Unit) : Res Exc ((List Int) × Unit) := Out.fn (ν := Empty) (Out.lt (0 : Int) fun l_cell => Out.bnd ((fun (s : Unit) => (Res.val ((decide ((0 : Int) < (List.length pt.1 : Int))), s))) ()) fun b _ => (if b = true then Out.bnd ((fun (s : Unit) => ((Res.grd ((List.length pt.1 : Int) ≠ 0) ((Int.fmod pt.2.1 (List.length pt.1 : Int)), s)).bnd fun y s => Res.grd (atI pt.1 y).isSome (((atI pt.1 y).getD default), s))) ()) fun l_cell _ => Out.nx l_cell else Out.nx l_cell).seq fun (n1 : Int) => Out.lt (if n1 < 0 then -n1 else n1) fun l_left => Out.bnd ((fun (s : Unit) => (Res.val ((decide (l_left < ((10 : Int) ^ ((18 : Int)).toNat))), s))) ()) fun b _ => (if b = true then Out.lt (0 : Int) fun l_left => Out.nx l_left else Out.nx l_left).seq fun (n2 : Int) => Out.bnd ((fun (s : Unit) => (Res.val ((n2 :: ((Int.fmod ((n1 + ((7919 : Int) * pt.2.1)) + (13 : Int)) (2147483399 : Int)) :: ((0 : Int) :: []))), s))) ()) fun d s => Out.ret (d, s))
theorem sc_l_feed : FnScope ["_law_script", "_law_k", "_law_cell", "_law_left"] ["_law_script", "_law_k"] (defScope s_l_feed) := ⟨rfl, rfl, rfl, by decide +kernel, rfl, by decide +kernel, by decide +kernel⟩
theorem ok_l_feed (T : Tops K mg) : FnOk P w K mg base (L2.CX P w) 1 T.f_l_feed T.d_l_feed ["_law_script", "_law_k"] (spec (fun a : Unit => (Tys.cons (tSeq K tInt) (Tys.cons tInt Tys.nil))) (fun _ _ => []) (fun a : Unit => rtN (cLst tInt) (fun _ => [])) (fun _ => (xt T)) m_l_feed) := by
  refine fn_ok T.F_l_feed sc_l_feed (k := 0) (body := fun X a pt st hm cx cc => ⟨Empty, (fun z => nomatch z), (fun z => nomatch z), _, rfl, ?_⟩)
  obtain ⟨rfl, rfl, rfl, rfl, rfl, hr, hst, hfr⟩ := hm
  refine sf_asgP cx 2 ep_int (fun l_cell => ?_)
  refine sf_if (γ := Unit) (L := (fun _ : Unit => [])) (s := ()) (gj := (fun n1 : Int => [.dat (tSeq X.K tInt) pt.1, .dat tInt pt.2.1, .dat tInt n1, .unk])) (lj := (fun n1 : Int => [])) (tf_pure (tp_cmp op_gt d_gt (ep_callB cx call_len_seq dn_lenQ T.z_len (by decide +kernel) (ap_cons (ep_var cx 0) ap_nil) trivial) ep_int trivial)) (fun _ => ?_) (fun _ => ?_) (fun n1 => ?_)
  · refine sf_asg (γ := Unit) (L := (fun _ : Unit => [])) (s := ()) cx 2 (ef_ixPFG ix_list d_ixQ (ep_var cx 0) (ef_grd fun h => ep_op op_modN d_mod (ep_var cx 1) (ep_callB cx call_len_seq dn_lenQ T.z_len (by decide +kernel) (ap_cons (ep_var cx 0) ap_nil) trivial) h)) (fun l_cell _ => ?_)
    exact sf_nil (.s (.s (.s (.u (.nil))))) rfl .refl
  · exact sf_nil (.s (.s (.s (.u (.nil))))) rfl .refl
  · refine sf_asgP cx 3 (ep_callB cx call_abs dn_abs T.z_abs (by decide +kernel) (ap_cons (ep_var cx 2) ap_nil) trivial) (fun l_left => ?_)
    refine sf_if (γ := Unit) (L := (fun _ : Unit => [])) (s := ()) (gj := (fun n2 : Int => [.dat (tSeq X.K tInt) pt.1, .dat tInt pt.2.1, .dat tInt n1, .dat tInt n2])) (lj := (fun n2 : Int => [])) (tf_pure (tp_cmp op_lt d_lt (ep_var cx 3) (ep_op op_pow d_pow ep_int ep_int (by decide)) trivial)) (fun _ => ?_) (fun _ => ?_) (fun n2 => ?_)
    · refine sf_asgP cx 3 ep_int (fun l_left => ?_)
      exact sf_nil (.s (.s (.s (.s (.nil))))) rfl .refl
    · exact sf_nil (.s (.s (.s (.s (.nil))))) rfl .refl
    · exact sf_retN (γ := Unit) (L := (fun _ : Unit => [])) (Lr := (fun _ : Unit => [])) (s := ()) (en_lstP (apl_cons (ep_var cx 3) (apl_cons (ep_op op_modN d_mod (ep_op op_add d_add (ep_op op_add d_add (ep_var cx 2) (ep_op op_mul d_mul ep_int (ep_var cx 1) (.inl (by decide))) trivial) ep_int trivial) ep_int (by decide)) (apl_cons ep_int apl_nil))) (by simp)) (fun s => .refl)
def m_l_next (pt : (Unit × Int × Unit)) (st : (List Int)) : Res Exc (Int × (List Int)) := Out.fn (ν := Empty) (Out.bnd ((fun (s : Unit) => ((Res.grd (atI st (0 : Int)).isSome ((atI st (0 : Int)).getD default, s)).bnd fun x s => Res.val ((decide ((0 : Int) < x)), s))) ()) fun b _ => (if b = true then Out.bnd ((fun (s : Unit) => ((Res.grd (atI st (0 : Int)).isSome ((atI st (0 : Int)).getD default, s)).bnd fun x s => Res.grd (pt.2.1 ≠ 0) ((Int.fmod x pt.2.1), s))) ()) fun l_digit _ => Out.bnd ((fun (s : Unit) => ((Res.grd (atI st (0 : Int)).isSome ((atI st (0 : Int)).getD default, s)).bnd fun x s => Res.grd (CDivN x pt.2.1) ((Int.fdiv x pt.2.1), s))) ()) fun v2 _ => if (ixN (List.length st) (0 : Int)).isSome then (Out.lt (List.set st ((ixN (List.length st) (0 : Int)).getD 0) v2) fun l_feed_here2 => Out.ret (((fun (s : (List Int)) => l_digit) l_feed_here2), l_feed_here2)) else .stuck else Out.nx ()).seq fun (n1 : Unit) => Out.bnd ((fun (s : Unit) => ((Res.grd (atI st (2 : Int)).isSome ((atI st (2 : Int)).getD default, s)).bnd fun x s => Res.val ((x + (1 : Int)), s))) ()) fun v3 _ => if (ixN (List.length st) (2 : Int)).isSome then (Out.lt (List.set st ((ixN (List.length st) (2 : Int)).getD 0) v3) fun l_feed_here3 => Out.bnd ((fun (s : Unit) => ((((((Res.grd (atI l_feed_here3 (1 : Int)).isSome ((atI l_feed_here3 (1 : Int)).getD default, s)).bnd fun x s => ((Res.grd (atI l_feed_here3 (2 : Int)).isSome ((atI l_feed_here3 (2 : Int)).getD default, s)).bnd fun y s => Res.val (((40692 : Int) * y), s)).bnd fun y s => Res.val ((x + y), s)).bnd fun x s => Res.val ((x + (1 : Int)), s)).bnd fun x s => Res.val ((Int.fmod x (2147483399 : Int)), s)).bnd fun x s => Res.val ((x * (16807 : Int)), s)).bnd fun x s => Res.val ((Int.fmod x (2147483647 : Int)), s))) ()) fun l_mixed _ => Out.bnd ((fun (s : Unit) => ((((((Res.grd (atI l_feed_here3 (2 : Int)).isSome ((atI l_feed_here3 (2 : Int)).getD default, s)).bnd fun x s => (Res.grd (atI l_feed_here3 (2 : Int)).isSome ((atI l_feed_here3 (2 : Int)).getD default, s)).bnd fun y s => Res.grd (CMul x y) ((x * y), s)).bnd fun y s => Res.val (((l_mixed * (69621 : Int)) + y), s)).bnd fun x s => Res.val ((Int.fmod x (2147483629 : Int)), s)).bnd fun x s => Res.val ((x * (39373 : Int)), s)).bnd fun x s => Res.val ((Int.fmod x (2147483543 : Int)), s))) ()) fun l_mixed _ => Out.bnd ((fun (s : (List Int)) => (Res.grd (pt.2.1 ≠ 0) ((Int.fmod (Int.fdiv l_mixed (7 : Int)) pt.2.1), s))) l_feed_here3) fun d s => Out.ret (d, s)) else .stuck)
theorem sc_l_next : FnScope ["_law_feed_here", "_law_many", "_law_mixed", "_law_digit"] ["_law_feed_here", "_law_many"] (defScope s_l_next) := ⟨rfl, rfl, rfl, by decide +kernel, rfl, by decide +kernel, by decide +kernel⟩
theorem ok_l_next (T : Tops K mg) : FnOk P w K mg base (L2.CX P w) 1 T.f_l_next T.d_l_next ["_law_feed_here", "_law_many"] (spec (fun a : Addr => (Tys.cons (tCell a) (Tys.cons tInt Tys.nil))) (fun (a : Addr) (s : (List Int)) => [cell a (cLst tInt s)]) (fun a : Addr => rtV tInt (fun s : (List Int) => [cell a (cLst tInt s)])) (fun _ => (xt T)) m_l_next) := by
  refine fn_ok T.F_l_next sc_l_next (k := 0) (body := fun X a pt st hm cx cc => ⟨Empty, (fun z => nomatch z), (fun z => nomatch z), _, rfl, ?_⟩)
  obtain ⟨rfl, rfl, rfl, rfl, rfl, hr, hst, hfr⟩ := hm
  refine sf_if (γ := Unit) (L := (fun _ : Unit => [cell a (cLst tInt st)])) (s := ()) (gj := (fun n1 : Unit => [.dat (tCell a) (), .dat tInt pt.2.1, .unk, .unk])) (lj := (fun n1 : Unit => [cell a (cLst tInt st)])) (tf_cmpFPT op_gt d_gt (ef_ixO (ep_var cx 0) (.hd) ep_int) (fun x s => ep_int)) (fun _ => ?_) (fun _ => ?_) (fun n1 => ?_)
  · refine sf_asg (γ := Unit) (L := (fun _ : Unit => [cell a (cLst tInt st)])) (s := ()) cx 3 (ef_opFPG op_modN d_mod (ef_ixO (ep_var cx 0) (.hd) ep_int) (fun x s => (ep_var cx 1))) (fun l_digit _ => ?_)
    refine sf_setO (γ := Unit) (L := (fun _ : Unit => [cell a (cLst tInt st)])) (s := ()) (xs := fun _ => st) (R := fun _ => []) (i := fun _ => (0 : Int)) (ef_opFPG op_fdivN d_div (ef_ixO (ep_var cx 0) (.hd) ep_int) (fun x s => (ep_var cx 1))) (fun s => .refl _) (fun _ => ep_var cx 0) (fun _ => ep_int) (fun v2 _ => ?_)
    refine sf_lt (fun l_feed_here2 => SF X _ _ (cell a (cLst tInt l_feed_here2) :: []) _ _ _ _ _) _ (fun l_feed_here2 => ?_)
    exact sf_retP (γ := (List Int)) (L := (fun s : (List Int) => [cell a (cLst tInt s)])) (Lr := (fun s : (List Int) => [cell a (cLst tInt s)])) (s := l_feed_here2) (ep_var cx 3) .refl
  · exact sf_nil (.s (.s (.u (.u (.nil))))) rfl .refl
  · refine sf_setO (γ := Unit) (L := (fun _ : Unit => [cell a (cLst tInt st)])) (s := ()) (xs := fun _ => st) (R := fun _ => []) (i := fun _ => (2 : Int)) (ef_opFPT op_add d_add (ef_ixO (ep_var cx 0) (.hd) ep_int) (fun x s => ep_int)) (fun s => .refl _) (fun _ => ep_var cx 0) (fun _ => ep_int) (fun v3 _ => ?_)
    refine sf_lt (fun l_feed_here3 => SF X _ _ (cell a (cLst tInt l_feed_here3) :: []) _ _ _ _ _) _ (fun l_feed_here3 => ?_)
    refine sf_asg (γ := Unit) (L := (fun _ : Unit => [cell a (cLst tInt l_feed_here3)])) (s := ()) cx 2 (ef_opFPT op_modN d_mod (ef_opFPT op_mul d_mul (ef_opFPT op_modN d_mod (ef_opFPT op_add d_add (ef_opFFT op_add d_add (ef_ixO (ep_var cx 0) (.hd) ep_int) (fun x s => (ef_opPFT op_mul d_mul ep_int (ef_ixO (ep_var cx 0) (.hd) ep_int) (fun _ => (.inl (by decide)))))) (fun x s => ep_int)) (fun x s => ep_int) (fun _ _ => (by decide))) (fun x s => ep_int) (fun _ _ => (.inr (by decide)))) (fun x s => ep_int) (fun _ _ => (by decide))) (fun l_mixed _ => ?_)
    refine sf_asg (γ := Unit) (L := (fun _ : Unit => [cell a (cLst tInt l_feed_here3)])) (s := ()) cx 2 (ef_opFPT op_modN d_mod (ef_opFPT op_mul d_mul (ef_opFPT op_modN d_mod (ef_opPFT op_add d_add (ep_op op_mul d_mul (ep_var cx 2) ep_int (.inr (by decide))) (ef_op op_mul d_mul (ef_ixO (ep_var cx 0) (.hd) ep_int) (fun x s => (ef_ixO (ep_var cx 0) (.hd) ep_int)))) (fun x s => ep_int) (fun _ _ => (by decide))) (fun x s => ep_int) (fun _ _ => (.inr (by decide)))) (fun x s => ep_int) (fun _ _ => (by decide))) (fun l_mixed _ => ?_)
    exact sf_ret (γ := (List Int)) (L := (fun s : (List Int) => [cell a (cLst tInt s)])) (Lr := (fun s : (List Int) => [cell a (cLst tInt s)])) (s := l_feed_here3) (ef_grd fun h => ep_op op_modN d_mod (ep_op op_fdivN d_div (ep_var cx 2) ep_int ⟨by decide, by decide⟩) (ep_var cx 1) h) (fun s => .refl)
def m_l_alikeB (rec : (PyData × PyData × Unit) → Unit → Res Exc (Bool × Unit)) (pt : (PyData × PyData × Unit)) (st : Unit) : Res Exc (Bool × Unit) := Out.fn (ν := Empty) (Out.bnd ((fun (s : Unit) => (Res.val ((isTy "tuple" pt.2.1 || isTy "list" pt.2.1), s))) ()) fun b _ => (if b = true then Out.bnd ((fun (s : Unit) => (Res.val (((!decide ((isTy "tuple" pt.2.1) = (isTy "tuple" pt.1))) || (!decide ((isTy "list" pt.2.1) = (isTy "list" pt.1)))), s))) ()) fun b _ => (if b = true then Out.ret (false, ()) else Out.nx ()).seq fun (n2 : Unit) => Out.bnd ((fun (s : Unit) => ((Res.grd (dIsSeq pt.1 = true) (((dItems pt.1).length : Int), s)).bnd fun x s => (Res.grd (dIsSeq pt.2.1 = true) (((dItems pt.2.1).length : Int), s)).bnd fun y s => Res.val ((!decide (x = y)), s))) ()) fun b _ => (if b = true then Out.ret (false, ()) else Out.nx ()).seq fun (n3 : Unit) => Out.bnd ((fun (s : Unit) => ((((((Res.grd (dIsSeq pt.2.1 = true) (((dItems pt.2.1).length : Int), s)).bnd fun d s => Res.val ((d, ()), s)).bnd fun t s => Res.grd (rngOk 0 t.1) (rng 0 t.1, s)).bnd fun xs s => if xs.length ≤ sizeLine then Res.nox (ε := Empty) (ε' := Exc) (Res.compL (ε := Empty) (fun (d4 : Int) s => Res.val (true, s)) (fun (d4 : Int) s => Res.nox (ε := Exc) (ε' := Empty) (((Res.grd (dAtOk pt.1 d4) ((dAt pt.1 d4), s)).bnd fun d s => ((Res.grd (dAtOk pt.2.1 d4) ((dAt pt.2.1 d4), s)).bnd fun d s => Res.val ((d, ()), s)).bnd fun t s => Res.val ((d, t), s)).bnd fun t s => (rec t ()).up s)) xs s []) else .stuck).bnd fun d s => Res.val ((d, ()), s)).bnd fun t s => Res.val ((List.all t.1 id), s))) ()) fun d s => Out.ret (d, s) else Out.nx ()).seq fun (n1 : Unit) => Out.bnd ((fun (s : Unit) => (Res.val (((dIsNone pt.2.1) || (dIsNone pt.1)), s))) ()) fun b _ => (if b = true then Out.ret (((dIsNone pt.2.1) && (dIsNone pt.1)), ()) else Out.nx ()).seq fun (n5 : Unit) => Out.bnd ((fun (s : Unit) => (Res.val (((isTy "bool" pt.2.1) || (isTy "bool" pt.1)), s))) ()) fun b _ => (if b = true then Out.bnd ((fun (s : Unit) => ((Res.val ((isTy "bool" pt.2.1), s)).bnd fun b s => if b = true then ((Res.val ((isTy "bool" pt.1), s)).bnd fun b s => if b = true then (Res.grd (dScal pt.1 pt.2.1) ((dSame pt.1 pt.2.1), s)) else Res.val (false, s)) else Res.val (false, s))) ()) fun d s => Out.ret (d, s) else Out.nx ()).seq fun (n6 : Unit) => Out.bnd ((fun (s : Unit) => (Res.val ((isTy "str" pt.2.1), s))) ()) fun b _ => (if b = true then Out.bnd ((fun (s : Unit) => ((Res.val ((isTy "str" pt.1), s)).bnd fun b s => if b = true then (Res.grd (dScal pt.1 pt.2.1) ((dSame pt.1 pt.2.1), s)) else Res.val (false, s))) ()) fun d s => Out.ret (d, s) else Out.nx ()).seq fun (n7 : Unit) => Out.bnd ((fun (s : Unit) => ((Res.val ((isTy "int" pt.1), s)).bnd fun b s => if b = true then (Res.grd (dScal pt.1 pt.2.1) ((dSame pt.1 pt.2.1), s)) else Res.val (false, s))) ()) fun d s => Out.ret (d, s))
def m_l_alike : Nat → (PyData × PyData × Unit) → Unit → Res Exc (Bool × Unit)
  | 0, _, _ => .stuck
  | n + 1, t, s => m_l_alikeB (m_l_alike n) t s
theorem sc_l_alike : FnScope ["_law_found", "_law_due_here", "_law_k"] ["_law_found", "_law_due_here"] (defScope s_l_alike) := ⟨rfl, rfl, rfl, by decide +kernel, rfl, by decide +kernel, by decide +kernel⟩
theorem ok_l_alike (T : Tops K mg) : ∀ n : Nat, FnOk P w K mg base (L2.CX P w) (n + 0) T.f_l_alike T.d_l_alike ["_law_found", "_law_due_here"] (spec (fun a : Unit => (Tys.cons (tD K) (Tys.cons (tD K) Tys.nil))) (fun _ _ => []) (fun a : Unit => rtV tBool (fun _ => [])) (fun _ => (xt T)) (m_l_alike n))
  | 0 => fn_stuck (fun _ _ => rfl) (by intro _ _; rfl)
  | n + 1 => by
    have ih := ok_l_alike T n
    refine fn_ok T.F_l_alike sc_l_alike (k := n + 0) (body := fun X a pt st hm cx cc => ⟨Empty, (fun z => nomatch z), (fun z => nomatch z), _, rfl, ?_⟩)
    obtain ⟨rfl, rfl, rfl, rfl, rfl, hr, hst, hfr⟩ := hm
    refine sf_if (γ := Unit) (L := (fun _ : Unit => [])) (s := ()) (gj := (fun n1 : Unit => [.dat (tD X.K) pt.1, .dat (tD X.K) pt.2.1, .unk])) (lj := (fun n1 : Unit => [])) (tf_pure (tp_val (ep_isiT cx (n1 := "tuple") (n2 := "list") (by simp) (by simp) T.z_isinstance T.z_tuple (by decide +kernel) T.z_list (by decide +kernel) (ep_var cx 1)))) (fun _ => ?_) (fun _ => ?_) (fun n1 => ?_)
    · refine sf_if (γ := Unit) (L := (fun _ : Unit => [])) (s := ()) (gj := (fun n2 : Unit => [.dat (tD X.K) pt.1, .dat (tD X.K) pt.2.1, .unk])) (lj := (fun n2 : Unit => [])) (tf_pure (tp_w (tp_or (tp_cmp op_ne d_neB (ep_isi cx (n := "tuple") (by simp) T.z_isinstance T.z_tuple (by decide +kernel) (ep_var cx 1)) (ep_isi cx (n := "tuple") (by simp) T.z_isinstance T.z_tuple (by decide +kernel) (ep_var cx 0)) trivial) (tp_or1 (tp_cmp op_ne d_neB (ep_isi cx (n := "list") (by simp) T.z_isinstance T.z_list (by decide +kernel) (ep_var cx 1)) (ep_isi cx (n := "list") (by simp) T.z_isinstance T.z_list (by decide +kernel) (ep_var cx 0)) trivial))))) (fun _ => ?_) (fun _ => ?_) (fun n2 => ?_)
      · exact sf_retP (γ := Unit) (L := (fun _ : Unit => [])) (Lr := (fun _ : Unit => [])) (s := ()) ep_bool .refl
      · exact sf_nil (.s (.s (.u (.nil)))) rfl .refl
      · refine sf_if (γ := Unit) (L := (fun _ : Unit => [])) (s := ()) (gj := (fun n3 : Unit => [.dat (tD X.K) pt.1, .dat (tD X.K) pt.2.1, .unk])) (lj := (fun n3 : Unit => [])) (tf_cmpFFT op_ne d_neI (ef_callBP cx call_len_seq dn_lenD T.z_len (by decide +kernel) (ap_cons (ep_var cx 0) ap_nil)) (fun x s => (ef_callBP cx call_len_seq dn_lenD T.z_len (by decide +kernel) (ap_cons (ep_var cx 1) ap_nil)))) (fun _ => ?_) (fun _ => ?_) (fun n3 => ?_)
        · exact sf_retP (γ := Unit) (L := (fun _ : Unit => [])) (Lr := (fun _ : Unit => [])) (s := ()) ep_bool .refl
        · exact sf_nil (.s (.s (.u (.nil)))) rfl .refl
        · exact sf_ret (γ := Unit) (L := (fun _ : Unit => [])) (Lr := (fun _ : Unit => [])) (s := ()) (ef_callBT cx (cr_all cc.calm) dn_all (fun _ => trivial) T.z_all (by decide +kernel) (af_consF (ef_frz (en_lc cx cc (lc_mk (ownl := [("_law_k", 2)]) cx rfl (if_range1 cx (T.z_range) (af_consF (ef_callBP cx call_len_seq dn_lenD T.z_len (by decide +kernel) (ap_cons (ep_var cx 1) ap_nil)) (fun d s => ap_nil))) (by decide +kernel) (gfb_name (B := tInt) cx 2) (fun s0 H0 C0 cl fp Cb d4 s => tsf_nil) (fun s0 H0 C0 cl fp Cb d4 s => (ef_nox (xt := (xt T)) (ef_call0 Cb ih (hr.mono (by omega)) (T.g_l_alike) (T.F_l_alike).kp T.b_l_alike passWX (af_cons (ef_grd fun h => ep_ix ix_seq d_ixD (ep_var Cb 0) (ep_var Cb 2) h) (fun d s => (af_consF (ef_grd fun h => ep_ix ix_seq d_ixD (ep_var Cb 1) (ep_var Cb 2) h) (fun d s => ap_nil)))) (xtr T))))))) (fun d s => ap_nil))) (fun s => .refl)
    · exact sf_nil (.s (.s (.u (.nil)))) rfl .refl
    · refine sf_if (γ := Unit) (L := (fun _ : Unit => [])) (s := ()) (gj := (fun n5 : Unit => [.dat (tD X.K) pt.1, .dat (tD X.K) pt.2.1, .unk])) (lj := (fun n5 : Unit => [])) (tf_pure (tp_w (tp_or (tp_isND (ep_var cx 1)) (tp_or1 (tp_isND (ep_var cx 0)))))) (fun _ => ?_) (fun _ => ?_) (fun n5 => ?_)
      · exact sf_retP (γ := Unit) (L := (fun _ : Unit => [])) (Lr := (fun _ : Unit => [])) (s := ()) (ep_and (ep_isND (ep_var cx 1)) (ep_one (ep_isND (ep_var cx 0)))) .refl
      · exact sf_nil (.s (.s (.u (.nil)))) rfl .refl
      · refine sf_if (γ := Unit) (L := (fun _ : Unit => [])) (s := ()) (gj := (fun n6 : Unit => [.dat (tD X.K) pt.1, .dat (tD X.K) pt.2.1, .unk])) (lj := (fun n6 : Unit => [])) (tf_pure (tp_w (tp_or (tp_val (ep_isi cx (n := "bool") (by simp) T.z_isinstance T.z_bool (by decide +kernel) (ep_var cx 1))) (tp_or1 (tp_val (ep_isi cx (n := "bool") (by simp) T.z_isinstance T.z_bool (by decide +kernel) (ep_var cx 0))))))) (fun _ => ?_) (fun _ => ?_) (fun n6 => ?_)
        · exact sf_ret (γ := Unit) (L := (fun _ : Unit => [])) (Lr := (fun _ : Unit => [])) (s := ()) (ef_and (ef_pure (ep_isi cx (n := "bool") (by simp) T.z_isinstance T.z_bool (by decide +kernel) (ep_var cx 1))) (fun s => (ef_and (ef_pure (ep_isi cx (n := "bool") (by simp) T.z_isinstance T.z_bool (by decide +kernel) (ep_var cx 0))) (fun s => (ef_one (ef_grd fun h => ep_cmp op_eq d_eqS (ep_var cx 0) (ep_var cx 1) h)))))) (fun s => .refl)
        · exact sf_nil (.s (.s (.u (.nil)))) rfl .refl
        · refine sf_if (γ := Unit) (L := (fun _ : Unit => [])) (s := ()) (gj := (fun n7 : Unit => [.dat (tD X.K) pt.1, .dat (tD X.K) pt.2.1, .unk])) (lj := (fun n7 : Unit => [])) (tf_pure (tp_val (ep_isi cx (n := "str") (by simp) T.z_isinstance T.z_str (by decide +kernel) (ep_var cx 1)))) (fun _ => ?_) (fun _ => ?_) (fun n7 => ?_)
          · exact sf_ret (γ := Unit) (L := (fun _ : Unit => [])) (Lr := (fun _ : Unit => [])) (s := ()) (ef_and (ef_pure (ep_isi cx (n := "str") (by simp) T.z_isinstance T.z_str (by decide +kernel) (ep_var cx 0))) (fun s => (ef_one (ef_grd fun h => ep_cmp op_eq d_eqS (ep_var cx 0) (ep_var cx 1) h)))) (fun s => .refl)
          · exact sf_nil (.s (.s (.u (.nil)))) rfl .refl
          · exact sf_ret (γ := Unit) (L := (fun _ : Unit => [])) (Lr := (fun _ : Unit => [])) (s := ()) (ef_and (ef_pure (ep_isi cx (n := "int") (by simp) T.z_isinstance T.z_int (by decide +kernel) (ep_var cx 0))) (fun s => (ef_one (ef_grd fun h => ep_cmp op_eq d_eqS (ep_var cx 0) (ep_var cx 1) h)))) (fun s => .refl)
def m_l_letters (pt : (Unit × Unit)) (st : (List Int)) : Res Exc (Tx × (List Int)) := Out.fn (ν := Empty) (Out.lt [97, 98, 99, 100, 101, 102, 103, 104, 105, 106, 107, 108, 109, 110, 111, 112, 113, 114, 115, 116, 117, 118, 119, 120, 121, 122] fun l_every => Out.bnd ((fun (s : (List Int)) => ((m_l_next ((), ((8 : Int), ())) s).bnd fun x s => Res.val ((decide (x = (1 : Int))), s))) st) fun b st => (if b = true then Out.ret (((fun (s : (List Int)) => l_every) st), st) else Out.nx st).seq fun (n1 : (List Int)) => Out.bnd ((fun (s : (List Int)) => (m_l_next ((), ((23 : Int), ())) s)) n1) fun l_at st => Out.bnd ((fun (s : (List Int)) => ((Res.val (l_every, s)).bnd fun d s => (Res.val (some l_at, s)).bnd fun o s => (((m_l_next ((), ((3 : Int), ())) s).bnd fun y s => Res.val (((l_at + (2 : Int)) + y), s)).bnd fun i s => Res.val (some i, s)).bnd fun u s => Res.grd (List.length d ≤ sizeLine) (cut d o u, s))) st) fun d s => Out.ret (d, s))
theorem sc_l_letters : FnScope ["_law_feed_here", "_law_every", "_law_at"] ["_law_feed_here"] (defScope s_l_letters) := ⟨rfl, rfl, rfl, by decide +kernel, rfl, by decide +kernel, by decide +kernel⟩
theorem ok_l_letters (T : Tops K mg) : FnOk P w K mg base (L2.CX P w) 2 T.f_l_letters T.d_l_letters ["_law_feed_here"] (spec (fun a : Addr => (Tys.cons (tCell a) Tys.nil)) (fun (a : Addr) (s : (List Int)) => [cell a (cLst tInt s)]) (fun a : Addr => rtV tTx (fun s : (List Int) => [cell a (cLst tInt s)])) (fun _ => (xt T)) m_l_letters) := by
  refine fn_ok T.F_l_letters sc_l_letters (k := 1) (body := fun X a pt st hm cx cc => ⟨Empty, (fun z => nomatch z), (fun z => nomatch z), _, rfl, ?_⟩)
  obtain ⟨rfl, rfl, rfl, rfl, rfl, hr, hst, hfr⟩ := hm
  refine sf_asgP cx 1 (ep_str (t := [97, 98, 99, 100, 101, 102, 103, 104, 105, 106, 107, 108, 109, 110, 111, 112, 113, 114, 115, 116, 117, 118, 119, 120, 121, 122]) (by decide +kernel)) (fun l_every => ?_)
  refine sf_if (γ := (List Int)) (L := (fun s : (List Int) => [cell a (cLst tInt s)])) (s := st) (gj := (fun n1 : (List Int) => [.dat (tCell a) (), .dat tTx l_every, .unk])) (lj := (fun n1 : (List Int) => [cell a (cLst tInt n1)])) (tf_cmpFPT op_eq d_eqI (ef_callSP a [] cx (ok_l_next T) (hr.mono (by decide)) (T.g_l_next) (T.F_l_next).kp T.b_l_next passWX (ap_cons (ep_var cx 0) (ap_cons ep_int ap_nil)) (fun s => .refl _) (xtr T)) (fun x s => ep_int)) (fun st => ?_) (fun st => ?_) (fun n1 => ?_)
  · exact sf_retP (γ := (List Int)) (L := (fun s : (List Int) => [cell a (cLst tInt s)])) (Lr := (fun s : (List Int) => [cell a (cLst tInt s)])) (s := st) (ep_var cx 1) .refl
  · exact sf_nil (.s (.s (.u (.nil)))) rfl .refl
  · refine sf_asg (γ := (List Int)) (L := (fun s : (List Int) => [cell a (cLst tInt s)])) (s := n1) cx 2 (ef_callSP a [] cx (ok_l_next T) (hr.mono (by decide)) (T.g_l_next) (T.F_l_next).kp T.b_l_next passWX (ap_cons (ep_var cx 0) (ap_cons ep_int ap_nil)) (fun s => .refl _) (xtr T)) (fun l_at st => ?_)
    exact sf_ret (γ := (List Int)) (L := (fun s : (List Int) => [cell a (cLst tInt s)])) (Lr := (fun s : (List Int) => [cell a (cLst tInt s)])) (s := st) (ef_slice sl_str ds_tx (ef_pure (ep_var cx 1)) (fun d s => (of_pure (op_some (ep_var cx 2)))) (fun d o s => (of_some (ef_opPFT op_add d_add (ep_op op_add d_add (ep_var cx 2) ep_int trivial) (ef_callSP a [] cx (ok_l_next T) (hr.mono (by decide)) (T.g_l_next) (T.F_l_next).kp T.b_l_next passWX (ap_cons (ep_var cx 0) (ap_cons ep_int ap_nil)) (fun s => .refl _) (xtr T)))))) (fun s => .refl)
def m_l_word (pt : (Unit × Tx × Int × Unit)) (st : (List Int)) : Res Exc (Tx × (List Int)) := Out.fn (ν := Empty) (Out.bnd ((fun (s : (List Int)) => ((((((m_l_next ((), (pt.2.2.1, ())) s).bnd fun y s => Res.val (((1 : Int) + y), s)).bnd fun d s => Res.val ((d, ()), s)).bnd fun t s => Res.grd (rngOk 0 t.1) (rng 0 t.1, s)).bnd fun xs s => if xs.length ≤ sizeLine then Res.nox (ε := Empty) (ε' := Exc) (Res.compL (ε := Empty) (fun (d1 : Int) s => Res.val (true, s)) (fun (d1 : Int) s => Res.nox (ε := Exc) (ε' := Empty) (((((Res.grd (List.length pt.2.1 ≤ sizeLine) ((List.length pt.2.1 : Int), s)).bnd fun d s => Res.val ((d, ()), s)).bnd fun t s => Res.val (((), t), s)).bnd fun t s => m_l_next t s).bnd fun y s => Res.grd (List.length pt.2.1 ≤ sizeLine ∧ (atI pt.2.1 y).isSome) ([(atI pt.2.1 y).getD 0], s))) xs s []) else .stuck).bnd fun y s => Res.grd (joinOk ([] : Tx) y) (joinT ([] : Tx) y, s))) st) fun d s => Out.ret (d, s))
theorem sc_l_word : FnScope ["_law_feed_here", "_law_letters_here", "_law_most", "_law_k"] ["_law_feed_here", "_law_letters_here", "_law_most"] (defScope s_l_word) := ⟨rfl, rfl, rfl, by decide +kernel, rfl, by decide +kernel, by decide +kernel⟩
theorem ok_l_word (T : Tops K mg) : FnOk P w K mg base (L2.CX P w) 2 T.f_l_word T.d_l_word ["_law_feed_here", "_law_letters_here", "_law_most"] (spec (fun a : Addr => (Tys.cons (tCell a) (Tys.cons tTx (Tys.cons tInt Tys.nil)))) (fun (a : Addr) (s : (List Int)) => [cell a (cLst tInt s)]) (fun a : Addr => rtV tTx (fun s : (List Int) => [cell a (cLst tInt s)])) (fun _ => (xt T)) m_l_word) := by
  refine fn_ok T.F_l_word sc_l_word (k := 1) (body := fun X a pt st hm cx cc => ⟨Empty, (fun z => nomatch z), (fun z => nomatch z), _, rfl, ?_⟩)
  obtain ⟨rfl, rfl, rfl, rfl, rfl, hr, hst, hfr⟩ := hm
  exact sf_ret (γ := (List Int)) (L := (fun s : (List Int) => [cell a (cLst tInt s)])) (Lr := (fun s : (List Int) => [cell a (cLst tInt s)])) (s := st) (ef_join (ep_str (t := []) (by decide +kernel)) (ef_frz (en_lc cx cc (lc_mk (ownl := [("_law_k", 3)]) cx rfl (if_range1 cx (T.z_range) (af_consF (ef_opPFT op_add d_add ep_int (ef_callSP a [] cx (ok_l_next T) (hr.mono (by decide)) (T.g_l_next) (T.F_l_next).kp T.b_l_next passWX (ap_cons (ep_var cx 0) (ap_cons (ep_var cx 2) ap_nil)) (fun s => .refl _) (xtr T))) (fun d s => ap_nil))) (by decide +kernel) (gfb_name (B := tInt) cx 3) (fun s0 H0 C0 cl fp Cb d1 s => tsf_nil) (fun s0 H0 C0 cl fp Cb d1 s => (ef_nox (xt := (xt T)) (ef_ixPFG ix_str d_ixS (ep_var Cb 1) (ef_callS a [] Cb (ok_l_next T) (hr.mono (by decide)) (T.g_l_next) (T.F_l_next).kp T.b_l_next passWX (af_consP (ep_var Cb 0) (af_consF (ef_callBP Cb call_len_str dn_lenT T.z_len (by decide +kernel) (ap_cons (ep_var Cb 1) ap_nil)) (fun d s => ap_nil))) (fun s => .refl _) (xtr T))))))))) (fun s => .refl)
def m_l_text (pt : (Unit × Unit)) (st : (List Int)) : Res Exc (Tx × (List Int)) := Out.fn (ν := Empty) (Out.bnd ((fun (s : (List Int)) => (m_l_letters ((), ()) s)) st) fun l_letters_here st => Out.bnd ((fun (s : Unit) => ((((((Res.grd (List.length l_letters_here ≤ sizeLine ∧ (atI l_letters_here (0 : Int)).isSome) ([(atI l_letters_here (0 : Int)).getD 0], s)).bnd fun d s => ((Res.grd (List.length l_letters_here ≤ sizeLine ∧ (atI l_letters_here (-(1 : Int))).isSome) ([(atI l_letters_here (-(1 : Int))).getD 0], s)).bnd fun d s => ((Res.grd (List.length l_letters_here ≤ sizeLine ∧ (atI l_letters_here (0 : Int)).isSome) ([(atI l_letters_here (0 : Int)).getD 0], s)).bnd fun d s => Res.val (d :: ([48] :: []), s)).bnd fun t s => Res.val (d :: t, s)).bnd fun t s => Res.val (d :: t, s)).bnd fun t s => Res.val ([57] :: t, s)).bnd fun t s => Res.val ([49] :: t, s)).bnd fun t s => Res.val ([46] :: t, s)).bnd fun t s => Res.grd (List.length t ≤ 1000) (t, s))) ()) fun l_some _ => Out.bnd ((fun (s : (List Int)) => ((Res.val (((7 : Int) :: ((6 : Int) :: ((5 : Int) :: []))), s)).bnd fun x s => (m_l_next ((), ((3 : Int), ())) s).bnd fun y s => Res.grd (atI x y).isSome (((atI x y).getD default), s))) st) fun l_few st => Out.bnd ((fun (s : (List Int)) => ((((m_l_next ((), ((9 : Int), ())) s).bnd fun d s => ((m_l_next ((), ((31 : Int), ())) s).bnd fun d s => Res.val (d :: [], s)).bnd fun t s => Res.val (d :: t, s)).bnd fun t s => Res.grd (List.length t ≤ 1000) (t, s)).bnd fun x s => ((((m_l_next ((), ((6 : Int), ())) s).bnd fun x s => Res.val ((decide (x = (0 : Int))), s)).bnd fun d s => Res.val ((d, ()), s)).bnd fun t s => Res.val ((if t.1 = true then 1 else 0), s)).bnd fun y s => Res.grd (atI x y).isSome (((atI x y).getD default), s))) st) fun l_many st => Out.lt ([] : Tx) fun l_text_here => Out.bnd ((fun (s : Unit) => ((Res.val ((l_many, ()), s)).bnd fun t s => Res.grd (rngOk 0 t.1) (rng 0 t.1, s))) ()) fun xs _ => (Out.forL xs ((l_text_here, st) : Tx × (List Int)) fun (n1 : Tx × (List Int)) d2 => Out.bnd ((fun (s : (List Int)) => ((m_l_next ((), (l_few, ())) s).bnd fun y s => Res.grd (atI l_some y).isSome (((atI l_some y).getD default), s))) n1.2) fun l_sign st => Out.bnd ((fun (s : (List Int)) => ((m_l_next ((), ((40 : Int), ())) s).bnd fun x s => Res.val ((decide (x = (0 : Int))), s))) st) fun b st => (if b = true then Out.bnd ((fun (s : (List Int)) => ((m_l_next ((), ((6 : Int), ())) s).bnd fun y s => Res.grd (List.length [65, 32, 45, 123, 96, 126] ≤ sizeLine ∧ (atI [65, 32, 45, 123, 96, 126] y).isSome) ([(atI [65, 32, 45, 123, 96, 126] y).getD 0], s))) st) fun l_sign st => Out.nx (l_sign, st) else Out.nx (l_sign, st)).seq fun (n3 : Tx × (List Int)) => Out.bnd ((fun (s : Unit) => (Res.grd (List.length n1.1 + List.length n3.1 ≤ sizeLine) ((n1.1 ++ n3.1), s))) ()) fun l_text_here _ => Out.nx (l_text_here, n3.2)).seq fun (n1 : Tx × (List Int)) => Out.ret (((fun (s : (List Int)) => n1.1) n1.2), n1.2))
theorem sc_l_text : FnScope ["_law_feed_here", "_law_letters_here", "_law_some", "_law_few", "_law_many", "_law_text_here", "_law_k", "_law_sign"] ["_law_feed_here"] (defScope s_l_text) := ⟨rfl, rfl, rfl, by decide +kernel, rfl, by decide +kernel, by decide +kernel⟩
theorem ok_l_text (T : Tops K mg) : FnOk P w K mg base (L2.CX P w) 3 T.f_l_text T.d_l_text ["_law_feed_here"] (spec (fun a : Addr => (Tys.cons (tCell a) Tys.nil)) (fun (a : Addr) (s : (List Int)) => [cell a (cLst tInt s)]) (fun a : Addr => rtV tTx (fun s : (List Int) => [cell a (cLst tInt s)])) (fun _ => (xt T)) m_l_text) := by
  refine fn_ok T.F_l_text sc_l_text (k := 2) (body := fun X a pt st hm cx cc => ⟨Empty, (fun z => nomatch z), (fun z => nomatch z), _, rfl, ?_⟩)
  obtain ⟨rfl, rfl, rfl, rfl, rfl, hr, hst, hfr⟩ := hm
  refine sf_asg (γ := (List Int)) (L := (fun s : (List Int) => [cell a (cLst tInt s)])) (s := st) cx 1 (ef_callSP a [] cx (ok_l_letters T) (hr.mono (by decide)) (T.g_l_letters) (T.F_l_letters).kp T.b_l_letters passWX (ap_cons (ep_var cx 0) ap_nil) (fun s => .refl _) (xtr T)) (fun l_letters_here st => ?_)
  refine sf_asg (γ := Unit) (L := (fun _ : Unit => [cell a (cLst tInt st)])) (s := ()) cx 2 (ef_frz (en_lst (afl_consP (ep_str (t := [46]) (by decide +kernel)) (afl_consP (ep_str (t := [49]) (by decide +kernel)) (afl_consP (ep_str (t := [57]) (by decide +kernel)) (afl_cons (ef_grd fun h => ep_ix ix_str d_ixS (ep_var cx 1) ep_int h) (fun d s => (afl_cons (ef_grd fun h => ep_ix ix_str d_ixS (ep_var cx 1) (ep_un un_neg d_neg ep_int trivial) h) (fun d s => (afl_consF (ef_grd fun h => ep_ix ix_str d_ixS (ep_var cx 1) ep_int h) (fun d s => (apl_cons (ep_str (t := [48]) (by decide +kernel)) apl_nil)))))))))))) (fun l_some _ => ?_)
  refine sf_asg (γ := (List Int)) (L := (fun s : (List Int) => [cell a (cLst tInt s)])) (s := st) cx 3 (ef_ix ix_list d_ixL (ef_frz (en_lstP (apl_cons ep_int (apl_cons ep_int (apl_cons ep_int apl_nil))) (by simp))) (fun x s => (ef_callSP a [] cx (ok_l_next T) (hr.mono (by decide)) (T.g_l_next) (T.F_l_next).kp T.b_l_next passWX (ap_cons (ep_var cx 0) (ap_cons ep_int ap_nil)) (fun s => .refl _) (xtr T)))) (fun l_few st => ?_)
  refine sf_asg (γ := (List Int)) (L := (fun s : (List Int) => [cell a (cLst tInt s)])) (s := st) cx 4 (ef_ix ix_list d_ixL (ef_frz (en_lst (afl_cons (ef_callSP a [] cx (ok_l_next T) (hr.mono (by decide)) (T.g_l_next) (T.F_l_next).kp T.b_l_next passWX (ap_cons (ep_var cx 0) (ap_cons ep_int ap_nil)) (fun s => .refl _) (xtr T)) (fun d s => (afl_consF (ef_callSP a [] cx (ok_l_next T) (hr.mono (by decide)) (T.g_l_next) (T.F_l_next).kp T.b_l_next passWX (ap_cons (ep_var cx 0) (ap_cons ep_int ap_nil)) (fun s => .refl _) (xtr T)) (fun d s => apl_nil)))))) (fun x s => (ef_callTyT cx call_int1 dn_intB (fun _ => trivial) T.z_int (by decide +kernel) (af_consF (ef_cmpFPT op_eq d_eqI (ef_callSP a [] cx (ok_l_next T) (hr.mono (by decide)) (T.g_l_next) (T.F_l_next).kp T.b_l_next passWX (ap_cons (ep_var cx 0) (ap_cons ep_int ap_nil)) (fun s => .refl _) (xtr T)) (fun x s => ep_int)) (fun d s => ap_nil))))) (fun l_many st => ?_)
  refine sf_asgP cx 5 (ep_str (t := []) (by decide +kernel)) (fun l_text_here => ?_)
  refine sf_for (γ := Unit) (L := (fun _ : Unit => [cell a (cLst tInt st)])) (s := ()) (gj := (fun n1 : Tx × (List Int) => [.dat (tCell a) (), .dat tTx l_letters_here, .dat (tLst tTx) l_some, .dat tInt l_few, .dat tInt l_many, .dat tTx n1.1, .unk, .unk])) (lj := (fun n1 : Tx × (List Int) => [cell a (cLst tInt n1.2)])) (n0 := fun _ => (l_text_here, st)) cc (if_range1 cx (T.z_range) (af_pure (ap_cons (ep_var cx 4) ap_nil))) (gf_name (B := tInt) cx 6) (fun _ => ⟨(.s (.s (.s (.s (.s (.s (.u (.u (.nil))))))))), rfl, .refl⟩) (fun n1 d2 => ?_) (fun n1 => ?_)
  · refine sf_asg (γ := (List Int)) (L := (fun s : (List Int) => [cell a (cLst tInt s)])) (s := n1.2) cx 7 (ef_ixPFG ix_list d_ixL (ep_var cx 2) (ef_callSP a [] cx (ok_l_next T) (hr.mono (by decide)) (T.g_l_next) (T.F_l_next).kp T.b_l_next passWX (ap_cons (ep_var cx 0) (ap_cons (ep_var cx 3) ap_nil)) (fun s => .refl _) (xtr T))) (fun l_sign st => ?_)
    refine sf_if (γ := (List Int)) (L := (fun s : (List Int) => [cell a (cLst tInt s)])) (s := st) (gj := (fun n3 : Tx × (List Int) => [.dat (tCell a) (), .dat tTx l_letters_here, .dat (tLst tTx) l_some, .dat tInt l_few, .dat tInt l_many, .dat tTx n1.1, .dat tInt d2, .dat tTx n3.1])) (lj := (fun n3 : Tx × (List Int) => [cell a (cLst tInt n3.2)])) (tf_cmpFPT op_eq d_eqI (ef_callSP a [] cx (ok_l_next T) (hr.mono (by decide)) (T.g_l_next) (T.F_l_next).kp T.b_l_next passWX (ap_cons (ep_var cx 0) (ap_cons ep_int ap_nil)) (fun s => .refl _) (xtr T)) (fun x s => ep_int)) (fun st => ?_) (fun st => ?_) (fun n3 => ?_)
    · refine sf_asg (γ := (List Int)) (L := (fun s : (List Int) => [cell a (cLst tInt s)])) (s := st) cx 7 (ef_ixPFG ix_str d_ixS (ep_str (t := [65, 32, 45, 123, 96, 126]) (by decide +kernel)) (ef_callSP a [] cx (ok_l_next T) (hr.mono (by decide)) (T.g_l_next) (T.F_l_next).kp T.b_l_next passWX (ap_cons (ep_var cx 0) (ap_cons ep_int ap_nil)) (fun s => .refl _) (xtr T))) (fun l_sign st => ?_)
      exact sf_nil (.s (.s (.s (.s (.s (.s (.s (.s (.nil))))))))) rfl .refl
    · exact sf_nil (.s (.s (.s (.s (.s (.s (.s (.s (.nil))))))))) rfl .refl
    · refine sf_asg (γ := Unit) (L := (fun _ : Unit => [cell a (cLst tInt n3.2)])) (s := ()) cx 5 (ef_grd fun h => ep_op op_add_str d_catT (ep_var cx 5) (ep_var cx 7) h) (fun l_text_here _ => ?_)
      exact sf_nil (.s (.s (.s (.s (.s (.s (.u (.u (.nil))))))))) rfl .refl
  · exact sf_retP (γ := (List Int)) (L := (fun s : (List Int) => [cell a (cLst tInt s)])) (Lr := (fun s : (List Int) => [cell a (cLst tInt s)])) (s := n1.2) (ep_var cx 5) .refl
def m_l_bent (pt : (Unit × Unit)) (st : (List Int)) : Res Exc (Tx × (List Int)) := Out.fn (ν := Empty) (Out.bnd ((fun (s : (List Int)) => ((((m_l_letters ((), ()) s).bnd fun d s => Res.val ((d, ((21 : Int), ())), s)).bnd fun t s => Res.val (((), t), s)).bnd fun t s => m_l_word t s)) st) fun l_word_here st => Out.bnd ((fun (s : (List Int)) => ((Res.val ((([] : Tx) :: ([46] :: ([51] :: []))), s)).bnd fun x s => (m_l_next ((), ((3 : Int), ())) s).bnd fun y s => Res.grd (atI x y).isSome (((atI x y).getD default), s))) st) fun l_text_here st => Out.bnd ((fun (s : Unit) => ((Res.val (l_word_here, s)).bnd fun t s => Res.val (t.map fun c => [c], s))) ()) fun xs _ => (Out.forL xs ((l_text_here, st) : Tx × (List Int)) fun (n1 : Tx × (List Int)) d2 => Out.bnd ((fun (s : (List Int)) => ((Res.grd (List.length n1.1 + List.length d2 ≤ sizeLine) ((n1.1 ++ d2), s)).bnd fun x s => ((Res.val ((([] : Tx) :: (([] : Tx) :: ([50] :: ([55] :: [])))), s)).bnd fun x s => (m_l_next ((), ((4 : Int), ())) s).bnd fun y s => Res.grd (atI x y).isSome (((atI x y).getD default), s)).bnd fun y s => Res.grd (List.length x + List.length y ≤ sizeLine) ((x ++ y), s))) n1.2) fun l_text_here st => Out.nx (l_text_here, st)).seq fun (n1 : Tx × (List Int)) => Out.bnd ((fun (s : (List Int)) => (((Res.val ((([] : Tx) :: ([46] :: [])), s)).bnd fun x s => (m_l_next ((), ((2 : Int), ())) s).bnd fun y s => Res.grd (atI x y).isSome (((atI x y).getD default), s)).bnd fun y s => Res.grd (List.length n1.1 + List.length y ≤ sizeLine) ((n1.1 ++ y), s))) n1.2) fun l_text_here st => Out.bnd ((fun (s : (List Int)) => (((((Res.grd (List.length l_text_here ≤ sizeLine) ((List.length l_text_here : Int), s)).bnd fun x s => Res.val ((x + (1 : Int)), s)).bnd fun d s => Res.val ((d, ()), s)).bnd fun t s => Res.val (((), t), s)).bnd fun t s => m_l_next t s)) st) fun l_at st => Out.bnd ((fun (s : (List Int)) => ((Res.val (([46] :: ([49] :: ([97] :: ([48] :: (([] : Tx) :: ([122] :: [])))))), s)).bnd fun x s => (m_l_next ((), ((6 : Int), ())) s).bnd fun y s => Res.grd (atI x y).isSome (((atI x y).getD default), s))) st) fun l_sign st => Out.bnd ((fun (s : (List Int)) => (((Res.grd (List.length l_text_here ≤ sizeLine) ((cut l_text_here none (some l_at)), s)).bnd fun x s => Res.grd (List.length x + List.length l_sign ≤ sizeLine) ((x ++ l_sign), s)).bnd fun x s => ((Res.val (l_text_here, s)).bnd fun d s => (((m_l_next ((), ((2 : Int), ())) s).bnd fun y s => Res.val ((l_at + y), s)).bnd fun i s => Res.val (some i, s)).bnd fun o s => (Res.val (none, s)).bnd fun u s => Res.grd (List.length d ≤ sizeLine) (cut d o u, s)).bnd fun y s => Res.grd (List.length x + List.length y ≤ sizeLine) ((x ++ y), s))) st) fun d s => Out.ret (d, s))
theorem sc_l_bent : FnScope ["_law_feed_here", "_law_word_here", "_law_text_here", "_law_letter", "_law_at", "_law_sign"] ["_law_feed_here"] (defScope s_l_bent) := ⟨rfl, rfl, rfl, by decide +kernel, rfl, by decide +kernel, by decide +kernel⟩
theorem ok_l_bent (T : Tops K mg) : FnOk P w K mg base (L2.CX P w) 3 T.f_l_bent T.d_l_bent ["_law_feed_here"] (spec (fun a : Addr => (Tys.cons (tCell a) Tys.nil)) (fun (a : Addr) (s : (List Int)) => [cell a (cLst tInt s)]) (fun a : Addr => rtV tTx (fun s : (List Int) => [cell a (cLst tInt s)])) (fun _ => (xt T)) m_l_bent) := by
  refine fn_ok T.F_l_bent sc_l_bent (k := 2) (body := fun X a pt st hm cx cc => ⟨Empty, (fun z => nomatch z), (fun z => nomatch z), _, rfl, ?_⟩)
  obtain ⟨rfl, rfl, rfl, rfl, rfl, hr, hst, hfr⟩ := hm
  refine sf_asg (γ := (List Int)) (L := (fun s : (List Int) => [cell a (cLst tInt s)])) (s := st) cx 1 (ef_callS a [] cx (ok_l_word T) (hr.mono (by decide)) (T.g_l_word) (T.F_l_word).kp T.b_l_word passWX (af_consP (ep_var cx 0) (af_consF (ef_callSP a [] cx (ok_l_letters T) (hr.mono (by decide)) (T.g_l_letters) (T.F_l_letters).kp T.b_l_letters passWX (ap_cons (ep_var cx 0) ap_nil) (fun s => .refl _) (xtr T)) (fun d s => (ap_cons ep_int ap_nil)))) (fun s => .refl _) (xtr T)) (fun l_word_here st => ?_)
  refine sf_asg (γ := (List Int)) (L := (fun s : (List Int) => [cell a (cLst tInt s)])) (s := st) cx 2 (ef_ix ix_list d_ixL (ef_frz (en_lstP (apl_cons (ep_str (t := []) (by decide +kernel)) (apl_cons (ep_str (t := [46]) (by decide +kernel)) (apl_cons (ep_str (t := [51]) (by decide +kernel)) apl_nil))) (by simp))) (fun x s => (ef_callSP a [] cx (ok_l_next T) (hr.mono (by decide)) (T.g_l_next) (T.F_l_next).kp T.b_l_next passWX (ap_cons (ep_var cx 0) (ap_cons ep_int ap_nil)) (fun s => .refl _) (xtr T)))) (fun l_text_here st => ?_)
  refine sf_for (γ := Unit) (L := (fun _ : Unit => [cell a (cLst tInt st)])) (s := ()) (gj := (fun n1 : Tx × (List Int) => [.dat (tCell a) (), .dat tTx l_word_here, .dat tTx n1.1, .unk, .unk, .unk])) (lj := (fun n1 : Tx × (List Int) => [cell a (cLst tInt n1.2)])) (n0 := fun _ => (l_text_here, st)) cc (if_str (ef_pure (ep_var cx 1))) (gf_name (B := tTx) cx 3) (fun _ => ⟨(.s (.s (.s (.u (.u (.u (.nil))))))), rfl, .refl⟩) (fun n1 d2 => ?_) (fun n1 => ?_)
  · refine sf_asg (γ := (List Int)) (L := (fun s : (List Int) => [cell a (cLst tInt s)])) (s := n1.2) cx 2 (ef_op op_add_str d_catT (ef_grd fun h => ep_op op_add_str d_catT (ep_var cx 2) (ep_var cx 3) h) (fun x s => (ef_ix ix_list d_ixL (ef_frz (en_lstP (apl_cons (ep_str (t := []) (by decide +kernel)) (apl_cons (ep_str (t := []) (by decide +kernel)) (apl_cons (ep_str (t := [50]) (by decide +kernel)) (apl_cons (ep_str (t := [55]) (by decide +kernel)) apl_nil)))) (by simp))) (fun x s => (ef_callSP a [] cx (ok_l_next T) (hr.mono (by decide)) (T.g_l_next) (T.F_l_next).kp T.b_l_next passWX (ap_cons (ep_var cx 0) (ap_cons ep_int ap_nil)) (fun s => .refl _) (xtr T)))))) (fun l_text_here st => ?_)
    exact sf_nil (.s (.s (.s (.u (.u (.u (.nil))))))) rfl .refl
  · refine sf_asg (γ := (List Int)) (L := (fun s : (List Int) => [cell a (cLst tInt s)])) (s := n1.2) cx 2 (ef_opPFG op_add_str d_catT (ep_var cx 2) (ef_ix ix_list d_ixL (ef_frz (en_lstP (apl_cons (ep_str (t := []) (by decide +kernel)) (apl_cons (ep_str (t := [46]) (by decide +kernel)) apl_nil)) (by simp))) (fun x s => (ef_callSP a [] cx (ok_l_next T) (hr.mono (by decide)) (T.g_l_next) (T.F_l_next).kp T.b_l_next passWX (ap_cons (ep_var cx 0) (ap_cons ep_int ap_nil)) (fun s => .refl _) (xtr T))))) (fun l_text_here st => ?_)
    refine sf_asg (γ := (List Int)) (L := (fun s : (List Int) => [cell a (cLst tInt s)])) (s := st) cx 4 (ef_callS a [] cx (ok_l_next T) (hr.mono (by decide)) (T.g_l_next) (T.F_l_next).kp T.b_l_next passWX (af_consP (ep_var cx 0) (af_consF (ef_opFPT op_add d_add (ef_callBP cx call_len_str dn_lenT T.z_len (by decide +kernel) (ap_cons (ep_var cx 2) ap_nil)) (fun x s => ep_int)) (fun d s => ap_nil))) (fun s => .refl _) (xtr T)) (fun l_at st => ?_)
    refine sf_asg (γ := (List Int)) (L := (fun s : (List Int) => [cell a (cLst tInt s)])) (s := st) cx 5 (ef_ix ix_list d_ixL (ef_frz (en_lstP (apl_cons (ep_str (t := [46]) (by decide +kernel)) (apl_cons (ep_str (t := [49]) (by decide +kernel)) (apl_cons (ep_str (t := [97]) (by decide +kernel)) (apl_cons (ep_str (t := [48]) (by decide +kernel)) (apl_cons (ep_str (t := []) (by decide +kernel)) (apl_cons (ep_str (t := [122]) (by decide +kernel)) apl_nil)))))) (by simp))) (fun x s => (ef_callSP a [] cx (ok_l_next T) (hr.mono (by decide)) (T.g_l_next) (T.F_l_next).kp T.b_l_next passWX (ap_cons (ep_var cx 0) (ap_cons ep_int ap_nil)) (fun s => .refl _) (xtr T)))) (fun l_sign st => ?_)
    exact sf_ret (γ := (List Int)) (L := (fun s : (List Int) => [cell a (cLst tInt s)])) (Lr := (fun s : (List Int) => [cell a (cLst tInt s)])) (s := st) (ef_op op_add_str d_catT (ef_opFPG op_add_str d_catT (ef_grd fun h => ep_slice sl_str ds_tx (ep_var cx 2) op_none (op_some (ep_var cx 4)) h) (fun x s => (ep_var cx 5))) (fun x s => (ef_slice sl_str ds_tx (ef_pure (ep_var cx 2)) (fun d s => (of_some (ef_opPFT op_add d_add (ep_var cx 4) (ef_callSP a [] cx (ok_l_next T) (hr.mono (by decide)) (T.g_l_next) (T.F_l_next).kp T.b_l_next passWX (ap_cons (ep_var cx 0) (ap_cons ep_int ap_nil)) (fun s => .refl _) (xtr T))))) (fun d o s => of_none)))) (fun s => .refl)
def m_l_due (pt : (Tx × Unit)) (st : Unit) : Res Exc ((Option Int) × Unit) := Out.fn (ν := Empty) (Out.lt (0 : Int) fun l_signs => Out.lt (0 : Int) fun l_letters_here => Out.lt [115, 116, 97, 114, 116] fun l_ahead => Out.bnd ((fun (s : Unit) => (((Res.grd (List.length pt.1 ≤ sizeLine) ((List.length pt.1 : Int), s)).bnd fun d s => Res.val ((d, ()), s)).bnd fun t s => Res.grd (rngOk 0 t.1) (rng 0 t.1, s))) ()) fun xs _ => (Out.forL xs ((l_signs, l_letters_here, l_ahead) : Int × Int × Tx) fun (n1 : Int × Int × Tx) d2 => Out.bnd ((fun (s : Unit) => (Res.grd (List.length pt.1 ≤ sizeLine ∧ (atI pt.1 d2).isSome) ([(atI pt.1 d2).getD 0], s))) ()) fun l_sign _ => Out.lt [110, 111, 110, 101] fun l_sort => Out.bnd ((fun (s : Unit) => (Res.grd (List.length l_sign = 1) ((decide (List.headD l_sign 0 ∈ [49, 50, 51, 52, 53, 54, 55, 56, 57])), s))) ()) fun b _ => (if b = true then Out.lt [102, 105, 103, 117, 114, 101] fun l_sort => Out.nx l_sort else Out.nx l_sort).seq fun (n3 : Tx) => Out.bnd ((fun (s : Unit) => (Res.grd (List.length l_sign = 1) ((decide (List.headD l_sign 0 ∈ [97, 98, 99, 100, 101, 102, 103, 104, 105, 106, 107, 108, 109, 110, 111, 112, 113, 114, 115, 116, 117, 118, 119, 120, 121, 122])), s))) ()) fun b _ => (if b = true then Out.lt [108, 101, 116, 116, 101, 114] fun l_sort => Out.nx l_sort else Out.nx n3).seq fun (n4 : Tx) => Out.bnd ((fun (s : Unit) => (Res.val ((decide (l_sign = [46])), s))) ()) fun b _ => (if b = true then Out.lt [115, 116, 111, 112] fun l_sort => Out.nx l_sort else Out.nx n4).seq fun (n5 : Tx) => Out.lt ((!decide (n5 = [110, 111, 110, 101])) && (!decide (n1.2.2 = [101, 110, 100]))) fun l_good => Out.bnd ((fun (s : Unit) => (Res.val ((((decide (n5 = [102, 105, 103, 117, 114, 101])) && (decide (n1.2.2 = [102, 105, 103, 117, 114, 101]))) || ((decide (n5 = [115, 116, 111, 112])) && ((decide (n1.2.1 = (0 : Int))) && (!decide (n1.2.2 = [115, 116, 97, 114, 116]))))), s))) ()) fun b _ => (if b = true then Out.lt false fun l_good => Out.nx l_good else Out.nx l_good).seq fun (n6 : Bool) => Out.bnd ((fun (s : Unit) => (Res.val ((((!decide (n5 = [102, 105, 103, 117, 114, 101])) && (decide (n1.1 = (22 : Int)))) || (!n6)), s))) ()) fun b _ => (if b = true then Out.ret ((some d2), ()) else Out.nx ()).seq fun (n7 : Unit) => Out.lt (n1.1 + (if (!decide (n5 = [102, 105, 103, 117, 114, 101])) = true then 1 else 0)) fun l_signs => Out.lt (n1.2.1 + (if (decide (n5 = [108, 101, 116, 116, 101, 114])) = true then 1 else 0)) fun l_letters_here => Out.lt (if ((decide (n5 = [115, 116, 111, 112])) && (decide ((0 : Int) < l_letters_here))) = true then [101, 110, 100] else n5) fun l_ahead => Out.nx (l_signs, l_letters_here, l_ahead)).seq fun (n1 : Int × Int × Tx) => Out.bnd ((fun (s : Unit) => ((Res.val ((decide (n1.2.1 = (0 : Int))), s)).bnd fun b s => if b = true then ((Res.grd (List.length pt.1 ≤ sizeLine) ((List.length pt.1 : Int), s)).bnd fun x s => Res.val (some x, s)) else (Res.val ((none : (Option Int)), s)))) ()) fun d s => Out.ret (d, s))
theorem sc_l_due : FnScope ["_law_text_here", "_law_signs", "_law_letters_here", "_law_ahead", "_law_place", "_law_sign", "_law_sort", "_law_good"] ["_law_text_here"] (defScope s_l_due) := ⟨rfl, rfl, rfl, by decide +kernel, rfl, by decide +kernel, by decide +kernel⟩
theorem ok_l_due (T : Tops K mg) : FnOk P w K mg base (L2.CX P w) 1 T.f_l_due T.d_l_due ["_law_text_here"] (spec (fun a : Unit => (Tys.cons tTx Tys.nil)) (fun _ _ => []) (fun a : Unit => rtV (tOpt tInt) (fun _ => [])) (fun _ => (xt T)) m_l_due) := by
  refine fn_ok T.F_l_due sc_l_due (k := 0) (body := fun X a pt st hm cx cc => ⟨Empty, (fun z => nomatch z), (fun z => nomatch z), _, rfl, ?_⟩)
  obtain ⟨rfl, rfl, rfl, rfl, rfl, hr, hst, hfr⟩ := hm
  refine sf_asgP cx 1 ep_int (fun l_signs => ?_)
  refine sf_asgP cx 2 ep_int (fun l_letters_here => ?_)
  refine sf_asgP cx 3 (ep_str (t := [115, 116, 97, 114, 116]) (by decide +kernel)) (fun l_ahead => ?_)
  refine sf_for (γ := Unit) (L := (fun _ : Unit => [])) (s := ()) (gj := (fun n1 : Int × Int × Tx => [.dat tTx pt.1, .dat tInt n1.1, .dat tInt n1.2.1, .dat tTx n1.2.2, .unk, .unk, .unk, .unk])) (lj := (fun n1 : Int × Int × Tx => [])) (n0 := fun _ => (l_signs, l_letters_here, l_ahead)) cc (if_range1 cx (T.z_range) (af_consF (ef_callBP cx call_len_str dn_lenT T.z_len (by decide +kernel) (ap_cons (ep_var cx 0) ap_nil)) (fun d s => ap_nil))) (gf_name (B := tInt) cx 4) (fun _ => ⟨(.s (.s (.s (.s (.u (.u (.u (.u (.nil))))))))), rfl, .refl⟩) (fun n1 d2 => ?_) (fun n1 => ?_)
  · refine sf_asg (γ := Unit) (L := (fun _ : Unit => [])) (s := ()) cx 5 (ef_grd fun h => ep_ix ix_str d_ixS (ep_var cx 0) (ep_var cx 4) h) (fun l_sign _ => ?_)
    refine sf_asgP cx 6 (ep_str (t := [110, 111, 110, 101]) (by decide +kernel)) (fun l_sort => ?_)
    refine sf_if (γ := Unit) (L := (fun _ : Unit => [])) (s := ()) (gj := (fun n3 : Tx => [.dat tTx pt.1, .dat tInt n1.1, .dat tInt n1.2.1, .dat tTx n1.2.2, .dat tInt d2, .dat tTx l_sign, .dat tTx n3, .unk])) (lj := (fun n3 : Tx => [])) (tf_grd fun h => tp_cmp op_in_sign d_inS (ep_var cx 5) (ep_str (t := [49, 50, 51, 52, 53, 54, 55, 56, 57]) (by decide +kernel)) h (by rfl)) (fun _ => ?_) (fun _ => ?_) (fun n3 => ?_)
    · refine sf_asgP cx 6 (ep_str (t := [102, 105, 103, 117, 114, 101]) (by decide +kernel)) (fun l_sort => ?_)
      exact sf_nil (.s (.s (.s (.s (.s (.s (.s (.u (.nil))))))))) rfl .refl
    · exact sf_nil (.s (.s (.s (.s (.s (.s (.s (.u (.nil))))))))) rfl .refl
    · refine sf_if (γ := Unit) (L := (fun _ : Unit => [])) (s := ()) (gj := (fun n4 : Tx => [.dat tTx pt.1, .dat tInt n1.1, .dat tInt n1.2.1, .dat tTx n1.2.2, .dat tInt d2, .dat tTx l_sign, .dat tTx n4, .unk])) (lj := (fun n4 : Tx => [])) (tf_grd fun h => tp_cmp op_in_sign d_inS (ep_var cx 5) (ep_str (t := [97, 98, 99, 100, 101, 102, 103, 104, 105, 106, 107, 108, 109, 110, 111, 112, 113, 114, 115, 116, 117, 118, 119, 120, 121, 122]) (by decide +kernel)) h (by rfl)) (fun _ => ?_) (fun _ => ?_) (fun n4 => ?_)
      · refine sf_asgP cx 6 (ep_str (t := [108, 101, 116, 116, 101, 114]) (by decide +kernel)) (fun l_sort => ?_)
        exact sf_nil (.s (.s (.s (.s (.s (.s (.s (.u (.nil))))))))) rfl .refl
      · exact sf_nil (.s (.s (.s (.s (.s (.s (.s (.u (.nil))))))))) rfl .refl
      · refine sf_if (γ := Unit) (L := (fun _ : Unit => [])) (s := ()) (gj := (fun n5 : Tx => [.dat tTx pt.1, .dat tInt n1.1, .dat tInt n1.2.1, .dat tTx n1.2.2, .dat tInt d2, .dat tTx l_sign, .dat tTx n5, .unk])) (lj := (fun n5 : Tx => [])) (tf_pure (tp_cmp op_eq d_eqT (ep_var cx 5) (ep_str (t := [46]) (by decide +kernel)) trivial)) (fun _ => ?_) (fun _ => ?_) (fun n5 => ?_)
        · refine sf_asgP cx 6 (ep_str (t := [115, 116, 111, 112]) (by decide +kernel)) (fun l_sort => ?_)
          exact sf_nil (.s (.s (.s (.s (.s (.s (.s (.u (.nil))))))))) rfl .refl
        · exact sf_nil (.s (.s (.s (.s (.s (.s (.s (.u (.nil))))))))) rfl .refl
        · refine sf_asgP cx 7 (ep_and (ep_cmp op_ne d_neT (ep_var cx 6) (ep_str (t := [110, 111, 110, 101]) (by decide +kernel)) trivial) (ep_one (ep_cmp op_ne d_neT (ep_var cx 3) (ep_str (t := [101, 110, 100]) (by decide +kernel)) trivial))) (fun l_good => ?_)
          refine sf_if (γ := Unit) (L := (fun _ : Unit => [])) (s := ()) (gj := (fun n6 : Bool => [.dat tTx pt.1, .dat tInt n1.1, .dat tInt n1.2.1, .dat tTx n1.2.2, .dat tInt d2, .dat tTx l_sign, .dat tTx n5, .dat tBool n6])) (lj := (fun n6 : Bool => [])) (tf_pure (tp_w (tp_or (tp_w (tp_and (tp_cmp op_eq d_eqT (ep_var cx 6) (ep_str (t := [102, 105, 103, 117, 114, 101]) (by decide +kernel)) trivial) (tp_and1 (tp_cmp op_eq d_eqT (ep_var cx 3) (ep_str (t := [102, 105, 103, 117, 114, 101]) (by decide +kernel)) trivial)))) (tp_or1 (tp_w (tp_and (tp_cmp op_eq d_eqT (ep_var cx 6) (ep_str (t := [115, 116, 111, 112]) (by decide +kernel)) trivial) (tp_and (tp_cmp op_eq d_eqI (ep_var cx 2) ep_int trivial) (tp_and1 (tp_cmp op_ne d_neT (ep_var cx 3) (ep_str (t := [115, 116, 97, 114, 116]) (by decide +kernel)) trivial))))))))) (fun _ => ?_) (fun _ => ?_) (fun n6 => ?_)
          · refine sf_asgP cx 7 ep_bool (fun l_good => ?_)
            exact sf_nil (.s (.s (.s (.s (.s (.s (.s (.s (.nil))))))))) rfl .refl
          · exact sf_nil (.s (.s (.s (.s (.s (.s (.s (.s (.nil))))))))) rfl .refl
          · refine sf_if (γ := Unit) (L := (fun _ : Unit => [])) (s := ()) (gj := (fun n7 : Unit => [.dat tTx pt.1, .dat tInt n1.1, .dat tInt n1.2.1, .dat tTx n1.2.2, .dat tInt d2, .dat tTx l_sign, .dat tTx n5, .dat tBool n6])) (lj := (fun n7 : Unit => [])) (tf_pure (tp_w (tp_or (tp_w (tp_and (tp_cmp op_ne d_neT (ep_var cx 6) (ep_str (t := [102, 105, 103, 117, 114, 101]) (by decide +kernel)) trivial) (tp_and1 (tp_cmp op_eq d_eqI (ep_var cx 1) ep_int trivial)))) (tp_or1 (tp_not (tp_val (ep_var cx 7))))))) (fun _ => ?_) (fun _ => ?_) (fun n7 => ?_)
            · exact sf_retP (γ := Unit) (L := (fun _ : Unit => [])) (Lr := (fun _ : Unit => [])) (s := ()) (ep_some nn_int (ep_var cx 4)) .refl
            · exact sf_nil (.s (.s (.s (.s (.s (.s (.s (.s (.nil))))))))) rfl .refl
            · refine sf_asgP cx 1 (ep_op op_add d_add (ep_var cx 1) (ep_callTy cx call_int1 dn_intB T.z_int (by decide +kernel) (ap_cons (ep_cmp op_ne d_neT (ep_var cx 6) (ep_str (t := [102, 105, 103, 117, 114, 101]) (by decide +kernel)) trivial) ap_nil) trivial) trivial) (fun l_signs => ?_)
              refine sf_asgP cx 2 (ep_op op_add d_add (ep_var cx 2) (ep_callTy cx call_int1 dn_intB T.z_int (by decide +kernel) (ap_cons (ep_cmp op_eq d_eqT (ep_var cx 6) (ep_str (t := [108, 101, 116, 116, 101, 114]) (by decide +kernel)) trivial) ap_nil) trivial) trivial) (fun l_letters_here => ?_)
              refine sf_asgP cx 3 (ep_if (tp_w (tp_and (tp_cmp op_eq d_eqT (ep_var cx 6) (ep_str (t := [115, 116, 111, 112]) (by decide +kernel)) trivial) (tp_and1 (tp_cmp op_gt d_gt (ep_var cx 2) ep_int trivial)))) (ep_str (t := [101, 110, 100]) (by decide +kernel)) (ep_var cx 6)) (fun l_ahead => ?_)
              exact sf_nil (.s (.s (.s (.s (.u (.u (.u (.u (.nil))))))))) rfl .refl
  · exact sf_ret (γ := Unit) (L := (fun _ : Unit => [])) (Lr := (fun _ : Unit => [])) (s := ()) (ef_if (tf_pure (tp_cmp op_eq d_eqI (ep_var cx 2) ep_int trivial)) (fun s => (ef_some nn_int (ef_callBP cx call_len_str dn_lenT T.z_len (by decide +kernel) (ap_cons (ep_var cx 0) ap_nil)))) (fun s => (ef_pure ep_noneO))) (fun s => .refl)
def m_l_told (pt : (Tx × Unit)) (st : Unit) : Res Exc (PyData × Unit) := Out.fn (ν := Empty) (Out.lt ((fun _ => PyData.none) ()) fun l_found => (Out.tryX (Out.bnd ((fun (s : Unit) => (((((m_read_pattern (pt.1, ()) ()).up s).bnd fun d s => Res.val ((d, ()), s)).bnd fun t s => (m_shown_pattern t ()).up s).bnd fun x s => Res.val (dTx x, s))) ()) fun l_found _ => Out.nx l_found) (fun _ => true) (fun (y2 : Exc) => Out.lt ((dTup (dCons dTx dNil)) ([111, 116, 104, 101, 114], ())) fun l_found => Out.bnd ((fun (s : Unit) => (Res.val (((isNoPattern y2) && (true && (!(isNoWord y2)))), s))) ()) fun b _ => (if b = true then Out.bnd ((fun (s : Unit) => ((Res.grd ((xPlace y2).isSome = true) ((xPlace y2).getD 0, s)).bnd fun x s => Res.val (PyData.int x, s))) ()) fun l_found _ => Out.nx l_found else Out.nx l_found).seq fun (n3 : PyData) => Out.nx n3)).seq fun (n1 : PyData) => Out.ret (n1, ()))
theorem sc_l_told : FnScope ["_law_text_here", "_law_found", "e"] ["_law_text_here"] (defScope s_l_told) := ⟨rfl, rfl, rfl, by decide +kernel, rfl, by decide +kernel, by decide +kernel⟩
theorem ok_l_told (T : Tops K mg) : FnOk P w K mg base (L2.CX P w) 4 T.f_l_told T.d_l_told ["_law_text_here"] (spec (fun a : Unit => (Tys.cons tTx Tys.nil)) (fun _ _ => []) (fun a : Unit => rtV (tD K) (fun _ => [])) (fun _ => (xt T)) m_l_told) := by
  refine fn_ok T.F_l_told sc_l_told (k := 3) (body := fun X a pt st hm cx cc => ⟨Empty, (fun z => nomatch z), (fun z => nomatch z), _, rfl, ?_⟩)
  obtain ⟨rfl, rfl, rfl, rfl, rfl, hr, hst, hfr⟩ := hm
  refine sf_asgP cx 1 (ep_coe coe_non ep_none) (fun l_found => ?_)
  refine sf_try (gy := [.dat tTx pt.1, .dat (tD X.K) l_found, .unk]) (gj := (fun n1 : PyData => [.dat tTx pt.1, .dat (tD X.K) n1, .unk])) (lj := (fun n1 : PyData => [])) (catches := (fun _ => true)) cx cc hst hfr (i := 2) rfl (by decide +kernel) ⟨(glB_gl cx (x := "WordError") (by decide +kernel)).1, (glB_gl cx (x := "WordError") (by decide +kernel)).2.1, .inl T.gc_WordError⟩ (em_WordError T) (xtr T) rfl (fun _ => rfl) (fun pn xe cx cc => ?_) (fun y2 a oe cl da pn hz hf cx => ?_) (fun n1 => ?_)
  · refine sf_asg (γ := Unit) (L := (fun _ : Unit => [])) (s := ()) cx 1 (ef_coe coe_tx (ef_call0 cx (ok_shown_pattern T) (hr.mono (by decide)) (T.g_shown_pattern) (T.F_shown_pattern).kp T.b_shown_pattern passWX (af_consF (ef_call0P cx (ok_read_pattern T) (hr.mono (by decide)) (T.g_read_pattern) (T.F_read_pattern).kp T.b_read_pattern passWX (ap_cons (ep_var cx 0) ap_nil) (xtr T)) (fun d s => ap_nil)) (xtr T))) (fun l_found _ => ?_)
    exact sf_nil (.s (.s (.u (.nil)))) rfl .refl
  · refine sf_asgP cx 1 (ep_coe (coe_tup (coes_cons coe_tx coes_nil)) (ep_tup (ap_cons (ep_str (t := [111, 116, 104, 101, 114]) (by decide +kernel)) ap_nil))) (fun l_found => ?_)
    refine sf_if (γ := Unit) (L := (fun _ : Unit => [])) (s := ()) (gj := (fun n3 : PyData => [.dat tTx pt.1, .dat (tD X.K) n3, .dat (tExc (xt T) a cl da) y2])) (lj := (fun n3 : PyData => [])) (tf_pure (tp_w (tp_and (tp_val (ep_isX (xt := xt T) (isF := isNoPattern) rfl cx hz hf T.z_isinstance (is_NoPattern T) (ep_var (A := tExc (xt T) a cl da) cx 2) (ep_clsR cx T.gc_NoPattern))) (tp_and (tp_val (ep_isX (xt := xt T) (isF := (fun _ => true)) rfl cx hz hf T.z_isinstance (is_ValueError T) (ep_var (A := tExc (xt T) a cl da) cx 2) (ep_clsT cx T.z_ValueError (by decide +kernel)))) (tp_and1 (tp_not (tp_val (ep_isX (xt := xt T) (isF := isNoWord) rfl cx hz hf T.z_isinstance (is_NoWord T) (ep_var (A := tExc (xt T) a cl da) cx 2) (ep_clsR cx T.gc_NoWord))))))))) (fun _ => ?_) (fun _ => ?_) (fun n3 => ?_)
    · refine sf_asg (γ := Unit) (L := (fun _ : Unit => [])) (s := ()) cx 1 (ef_coe coe_int (ef_xfld (i := 2) (xt := xt T) (has := fun y => (xPlace y).isSome) (get := fun y => (xPlace y).getD 0) rfl cx hz hf (xf_place T y2 cl da) rfl rfl)) (fun l_found _ => ?_)
      exact sf_nil (.s (.s (.s (.nil)))) rfl .refl
    · exact sf_nil (.s (.s (.s (.nil)))) rfl .refl
    · exact sf_nil (.s (.s (.u (.nil)))) rfl .refl
  · exact sf_retP (γ := Unit) (L := (fun _ : Unit => [])) (Lr := (fun _ : Unit => [])) (s := ()) (ep_var cx 1) .refl
def m_l_right (pt : (Tx × Unit)) (st : Unit) : Res Exc (Bool × Unit) := Out.fn (ν := Empty) (Out.bnd ((fun (s : Unit) => ((m_l_due (pt.1, ()) ()).up s)) ()) fun l_due_here _ => Out.bnd ((fun (s : Unit) => ((((m_l_told (pt.1, ()) ()).up s).bnd fun d s => Res.val ((d, ((if (Option.isNone l_due_here) = true then (dTx pt.1) else ((dOpt PyData.int) l_due_here)), ())), s)).bnd fun t s => ((m_l_alike 8) t ()).up s)) ()) fun d s => Out.ret (d, s))
theorem sc_l_right : FnScope ["_law_text_here", "_law_due_here"] ["_law_text_here"] (defScope s_l_right) := ⟨rfl, rfl, rfl, by decide +kernel, rfl, by decide +kernel, by decide +kernel⟩
theorem ok_l_right (T : Tops K mg) : FnOk P w K mg base (L2.CX P w) 9 T.f_l_right T.d_l_right ["_law_text_here"] (spec (fun a : Unit => (Tys.cons tTx Tys.nil)) (fun _ _ => []) (fun a : Unit => rtV tBool (fun _ => [])) (fun _ => (xt T)) m_l_right) := by
  refine fn_ok T.F_l_right sc_l_right (k := 8) (body := fun X a pt st hm cx cc => ⟨Empty, (fun z => nomatch z), (fun z => nomatch z), _, rfl, ?_⟩)
  obtain ⟨rfl, rfl, rfl, rfl, rfl, hr, hst, hfr⟩ := hm
  refine sf_asg (γ := Unit) (L := (fun _ : Unit => [])) (s := ()) cx 1 (ef_call0P cx (ok_l_due T) (hr.mono (by decide)) (T.g_l_due) (T.F_l_due).kp T.b_l_due passWX (ap_cons (ep_var cx 0) ap_nil) (xtr T)) (fun l_due_here _ => ?_)
  exact sf_ret (γ := Unit) (L := (fun _ : Unit => [])) (Lr := (fun _ : Unit => [])) (s := ()) (ef_call0 cx (ok_l_alike T 8) (hr.mono (by decide)) (T.g_l_alike) (T.F_l_alike).kp T.b_l_alike passWX (af_consF (ef_call0P cx (ok_l_told T) (hr.mono (by decide)) (T.g_l_told) (T.F_l_told).kp T.b_l_told passWX (ap_cons (ep_var cx 0) ap_nil) (xtr T)) (fun d s => (ap_cons (ep_if (tp_isN (ep_var cx 1)) (ep_coe coe_tx (ep_var cx 0)) (ep_coe (coe_opt coe_int) (ep_var cx 1))) ap_nil))) (xtr T)) (fun s => .refl)
def m_law_ (pt : ((List Int) × Unit)) (st : Unit) : Res Exc (Bool × Unit) := Out.fn (ν := Empty) (Out.bnd ((fun (s : Unit) => (Res.val ((([] : Tx) :: ([46] :: ([46, 46] :: ([49, 46, 97] :: ([97, 46, 98] :: ([97, 49, 48] :: ([46, 49] :: ([97] :: ([97, 46] :: ([46, 97, 46] :: ([49, 97, 49] :: ([97, 49, 46] :: ([49, 46] :: ([46, 49, 46] :: ([97, 46, 46] :: ([48, 97] :: ([97, 46, 49] :: []))))))))))))))))), s))) ()) fun l_some _ => Out.bnd ((fun (s : Unit) => (Res.val (l_some, s))) ()) fun xs _ => (Out.forL xs (() : Unit) fun (n1 : Unit) d2 => Out.bnd ((fun (s : Unit) => (((m_l_right (d2, ()) ()).up s).bnd fun b s => Res.val (!b, s))) ()) fun b _ => (if b = true then Out.ret (false, ()) else Out.nx ()).seq fun (n3 : Unit) => Out.nx ()).seq fun (n1 : Unit) => Out.bnd ((fun (s : Unit) => ((Res.val ((((1 : Int) + (if ((30 : Int), ((List.length pt.1 : Int), ())).2.1 < ((30 : Int), ((List.length pt.1 : Int), ())).1 then ((30 : Int), ((List.length pt.1 : Int), ())).2.1 else ((30 : Int), ((List.length pt.1 : Int), ())).1)), ()), s)).bnd fun t s => Res.grd (rngOk 0 t.1) (rng 0 t.1, s))) ()) fun xs _ => (Out.forL xs (() : Unit) fun (n4 : Unit) d5 => Out.bnd ((fun (s : Unit) => ((m_l_feed (pt.1, (d5, ())) ()).up s)) ()) fun l_feed_here _ => Out.bnd ((fun (s : (List Int)) => (((((m_l_text ((), ()) s).bnd fun d s => Res.val ((d, ()), s)).bnd fun t s => (m_l_right t ()).up s).bnd fun b s => Res.val (!b, s)).bnd fun b s => if b = true then Res.val (true, s) else ((((m_l_bent ((), ()) s).bnd fun d s => Res.val ((d, ()), s)).bnd fun t s => (m_l_right t ()).up s).bnd fun b s => Res.val (!b, s)))) l_feed_here) fun b l_feed_herec => (if b = true then Out.ret (false, ()) else Out.nx l_feed_herec).seq fun (n7 : (List Int)) => Out.nx ()).seq fun (n4 : Unit) => Out.ret (true, ()))
theorem sc_law_ : FnScope ["_law_script", "_law_some", "_law_text_here", "_law_k", "_law_feed_here"] ["_law_script"] (defScope s_law_) := ⟨rfl, rfl, rfl, by decide +kernel, rfl, by decide +kernel, by decide +kernel⟩
theorem ok_law_ (T : Tops K mg) : FnOk P w K mg base (L2.CX P w) 10 T.f_law_ T.d_law_ ["_law_script"] (spec (fun a : Unit => (Tys.cons (tSeq K tInt) Tys.nil)) (fun _ _ => []) (fun a : Unit => rtV tBool (fun _ => [])) (fun _ => (xt T)) m_law_) := by
  refine fn_ok T.F_law_ sc_law_ (k := 9) (body := fun X a pt st hm cx cc => ⟨Empty, (fun z => nomatch z), (fun z => nomatch z), _, rfl, ?_⟩)
  obtain ⟨rfl, rfl, rfl, rfl, rfl, hr, hst, hfr⟩ := hm
  refine sf_asg (γ := Unit) (L := (fun _ : Unit => [])) (s := ()) cx 1 (ef_frz (en_lstP (apl_cons (ep_str (t := []) (by decide +kernel)) (apl_cons (ep_str (t := [46]) (by decide +kernel)) (apl_cons (ep_str (t := [46, 46]) (by decide +kernel)) (apl_cons (ep_str (t := [49, 46, 97]) (by decide +kernel)) (apl_cons (ep_str (t := [97, 46, 98]) (by decide +kernel)) (apl_cons (ep_str (t := [97, 49, 48]) (by decide +kernel)) (apl_cons (ep_str (t := [46, 49]) (by decide +kernel)) (apl_cons (ep_str (t := [97]) (by decide +kernel)) (apl_cons (ep_str (t := [97, 46]) (by decide +kernel)) (apl_cons (ep_str (t := [46, 97, 46]) (by decide +kernel)) (apl_cons (ep_str (t := [49, 97, 49]) (by decide +kernel)) (apl_cons (ep_str (t := [97, 49, 46]) (by decide +kernel)) (apl_cons (ep_str (t := [49, 46]) (by decide +kernel)) (apl_cons (ep_str (t := [46, 49, 46]) (by decide +kernel)) (apl_cons (ep_str (t := [97, 46, 46]) (by decide +kernel)) (apl_cons (ep_str (t := [48, 97]) (by decide +kernel)) (apl_cons (ep_str (t := [97, 46, 49]) (by decide +kernel)) apl_nil))))))))))))))))) (by simp))) (fun l_some _ => ?_)
  refine sf_for (γ := Unit) (L := (fun _ : Unit => [])) (s := ()) (gj := (fun n1 : Unit => [.dat (tSeq X.K tInt) pt.1, .dat (tLst tTx) l_some, .unk, .unk, .unk])) (lj := (fun n1 : Unit => [])) (n0 := fun _ => ()) cc (if_list (ef_pure (ep_var cx 1))) (gf_name (B := tTx) cx 2) (fun _ => ⟨(.s (.s (.u (.u (.u (.nil)))))), rfl, .refl⟩) (fun n1 d2 => ?_) (fun n1 => ?_)
  · refine sf_if (γ := Unit) (L := (fun _ : Unit => [])) (s := ()) (gj := (fun n3 : Unit => [.dat (tSeq X.K tInt) pt.1, .dat (tLst tTx) l_some, .dat tTx d2, .unk, .unk])) (lj := (fun n3 : Unit => [])) (tf_not (tf_val (ef_call0P cx (ok_l_right T) (hr.mono (by decide)) (T.g_l_right) (T.F_l_right).kp T.b_l_right passWX (ap_cons (ep_var cx 2) ap_nil) (xtr T)))) (fun _ => ?_) (fun _ => ?_) (fun n3 => ?_)
    · exact sf_retP (γ := Unit) (L := (fun _ : Unit => [])) (Lr := (fun _ : Unit => [])) (s := ()) ep_bool .refl
    · exact sf_nil (.s (.s (.s (.u (.u (.nil)))))) rfl .refl
    · exact sf_nil (.s (.s (.u (.u (.u (.nil)))))) rfl .refl
  · refine sf_for (γ := Unit) (L := (fun _ : Unit => [])) (s := ()) (gj := (fun n4 : Unit => [.dat (tSeq X.K tInt) pt.1, .dat (tLst tTx) l_some, .unk, .unk, .unk])) (lj := (fun n4 : Unit => [])) (n0 := fun _ => ()) cc (if_range1 cx (T.z_range) (af_pure (ap_cons (ep_op op_add d_add ep_int (ep_callB cx (call_min2 cc.calm) dn_min2 T.z_min (by decide +kernel) (ap_cons ep_int (ap_cons (ep_callB cx call_len_seq dn_lenQ T.z_len (by decide +kernel) (ap_cons (ep_var cx 0) ap_nil) trivial) ap_nil)) trivial) trivial) ap_nil))) (gf_name (B := tInt) cx 3) (fun _ => ⟨(.s (.s (.u (.u (.u (.nil)))))), rfl, .refl⟩) (fun n4 d5 => ?_) (fun n4 => ?_)
    · refine sf_asgN (γ := Unit) (L := (fun _ : Unit => [])) (s := ()) cx 4 (en_call0P cx (ok_l_feed T) (hr.mono (by decide)) (T.g_l_feed) (T.F_l_feed).kp T.b_l_feed passWX (ap_cons (ep_var cx 0) (ap_cons (ep_var cx 3) ap_nil)) (xtr T)) (fun q6 l_feed_here _ => ?_)
      refine sf_if (γ := (List Int)) (L := (fun s : (List Int) => [cell q6 (cLst tInt s)])) (s := l_feed_here) (gj := (fun n7 : (List Int) => [.dat (tSeq X.K tInt) pt.1, .dat (tLst tTx) l_some, .unk, .dat tInt d5, .dat (tCell q6) ()])) (lj := (fun n7 : (List Int) => [cell q6 (cLst tInt n7)])) (tf_w (tf_or (tf_not (tf_val (ef_call0 cx (ok_l_right T) (hr.mono (by decide)) (T.g_l_right) (T.F_l_right).kp T.b_l_right passWX (af_consF (ef_callSP q6 [] cx (ok_l_text T) (hr.mono (by decide)) (T.g_l_text) (T.F_l_text).kp T.b_l_text passWX (ap_cons (ep_var cx 4) ap_nil) (fun s => .refl _) (xtr T)) (fun d s => ap_nil)) (xtr T)))) (fun s => (tf_or1 (tf_not (tf_val (ef_call0 cx (ok_l_right T) (hr.mono (by decide)) (T.g_l_right) (T.F_l_right).kp T.b_l_right passWX (af_consF (ef_callSP q6 [] cx (ok_l_bent T) (hr.mono (by decide)) (T.g_l_bent) (T.F_l_bent).kp T.b_l_bent passWX (ap_cons (ep_var cx 4) ap_nil) (fun s => .refl _) (xtr T)) (fun d s => ap_nil)) (xtr T)))))))) (fun l_feed_herec => ?_) (fun l_feed_herec => ?_) (fun n7 => ?_)
      · exact sf_retP (γ := Unit) (L := (fun _ : Unit => [cell q6 (cLst tInt l_feed_herec)])) (Lr := (fun _ : Unit => [])) (s := ()) ep_bool (.drop .nil)
      · exact sf_nil (.s (.s (.u (.s (.s (.nil)))))) rfl .refl
      · exact sf_nil (.s (.s (.u (.u (.u (.nil)))))) rfl (.drop .nil)
    · exact sf_retP (γ := Unit) (L := (fun _ : Unit => [])) (Lr := (fun _ : Unit => [])) (s := ()) ep_bool .refl
end
end My


namespace My
open PySem L2 Fw
/-! the draws -/
def Good (k : Nat) (s : List Int) : Prop := ∃ a b c : Int, s = [a, b, c] ∧ 0 ≤ c ∧ c + k < 2 ^ 64
theorem Good.le {j k : Nat} {s : List Int} (h : Good k s) (e : j ≤ k) : Good j s := let ⟨a, b, c, h1, h2, h3⟩ := h; ⟨a, b, c, h1, h2, by omega⟩
theorem at3_0 (a b c : Int) : atI [a, b, c] (0 : Int) = some a := rfl
theorem at3_1 (a b c : Int) : atI [a, b, c] (1 : Int) = some b := rfl
theorem at3_2 (a b c : Int) : atI [a, b, c] (2 : Int) = some c := rfl
theorem ix3_0 (a b c : Int) : ixN (List.length [a, b, c]) (0 : Int) = some 0 := rfl
theorem ix3_2 (a b c : Int) : ixN (List.length [a, b, c]) (2 : Int) = some 2 := rfl
theorem set3_0 (a b c x : Int) : List.set [a, b, c] 0 x = [x, b, c] := rfl
theorem set3_2 (a b c x : Int) : List.set [a, b, c] 2 x = [a, b, x] := rfl
theorem fmod_in {x m : Int} (h : 0 < m) : 0 ≤ Int.fmod x m ∧ Int.fmod x m < m := ⟨Int.fmod_nonneg_of_pos x h, Int.fmod_lt_of_pos x h⟩
theorem next_sat {E : Exc → Prop} {k : Nat} {s : List Int} {m : Int} (h : Good (k + 1) s) (hm : 0 < m) (hm2 : m < 1073741824) : (m_l_next ((), m, ()) s).sat (fun d t => (0 ≤ d ∧ d < m) ∧ Good k t) E := by
  obtain ⟨a, b, c, rfl, hc, hk⟩ := h
  have f := @fmod_in
  have k1 : ¬ m = 0 := by omega
  have k2 : ∀ x, CDivN x m := fun x => ⟨k1, by omega⟩
  have k3 : CMul (c + 1) (c + 1) := .inl ⟨by omega, by omega⟩
  unfold m_l_next
  simp only [o_try, s_val, s_valp, s_stuck, s_exn, s_bnd', s_grd, s_itestuck, s_ite, s_up, s_nox, s_fn, s_fnU, o_nx, o_ret, o_stuck, o_exn, o_bnd, o_seq, o_lt, o_itestuck, o_ite, s_if0, at3_0, at3_1, at3_2, ix3_0, ix3_2, set3_0, set3_2, Option.isSome_some, Option.getD_some, true_and, ne_eq, k1, not_false_eq_true, k2, k3]
  split
  · exact ⟨f hm, _, _, _, rfl, hc, by omega⟩
  · exact ⟨f hm, _, _, _, rfl, by omega, by omega⟩

theorem feed_sat {E : Exc → Prop} {ns : List Int} {k : Int} {K : Nat} (hK : K < 2 ^ 64) : (m_l_feed (ns, k, ()) ()).sat (fun d _ => Good K d) E := by
  have q : ∀ a b : Int, Good K [a, b, 0] := fun a b => ⟨a, b, 0, rfl, by omega, by omega⟩
  unfold m_l_feed
  simp only [o_try, s_val, s_valp, s_stuck, s_exn, s_bnd', s_grd, s_itestuck, s_ite, s_up, s_nox, s_fn, s_fnU, o_nx, o_ret, o_stuck, o_exn, o_bnd, o_seq, o_lt, o_itestuck, o_ite, s_if0, decide_eq_true_eq]
  split
  · next h =>
    have h2 : ¬ (List.length ns : Int) = 0 := by omega
    have h3 : 0 ≤ Int.fmod k ns.length ∧ Int.fmod k ns.length < ns.length := ⟨Int.fmod_nonneg_of_pos _ (by omega), Int.fmod_lt_of_pos _ (by omega)⟩
    refine ⟨h2, at_is h3.1 h3.2, ?_⟩
    repeat (first | exact q _ _ | split)
  · repeat (first | exact q _ _ | split)

def az (c : Nat) : Prop := 97 ≤ c ∧ c ≤ 122
theorem letters_sat {E : Exc → Prop} {k : Nat} {s : List Int} (h : Good (k + 3) s) : (m_l_letters ((), ()) s).sat (fun t u => (1 ≤ t.length ∧ t.length ≤ 26 ∧ ∀ c ∈ t, az c) ∧ Good k u) E := by
  have hev : ∀ c ∈ ([97, 98, 99, 100, 101, 102, 103, 104, 105, 106, 107, 108, 109, 110, 111, 112, 113, 114, 115, 116, 117, 118, 119, 120, 121, 122] : List Nat), az c := by unfold az; decide
  unfold m_l_letters
  simp only [o_try, s_val, s_valp, s_stuck, s_exn, s_bnd', s_grd, s_itestuck, s_ite, s_up, s_nox, s_fn, s_fnU, o_nx, o_ret, o_stuck, o_exn, o_bnd, o_seq, o_lt, o_itestuck, o_ite, s_if0]
  refine (next_sat (k := k + 2) h (by decide) (by decide)).to fun d u ⟨_, g⟩ => ?_
  split
  · exact ⟨⟨by decide, by decide, hev⟩, g.le (by omega)⟩
  · refine (next_sat (k := k + 1) g (by decide) (by decide)).to fun d u ⟨hd, g⟩ => ?_
    refine (next_sat (k := k) g (by decide) (by decide)).to fun r u ⟨hr, g⟩ => ?_
    refine ⟨by decide, ⟨?_, ?_, fun c hc => hev c (cut_mem hc)⟩, g⟩
    · rw [cut_nn hd.1 (by omega), List.length_take, List.length_drop]
      show 1 ≤ min _ (26 - _)
      omega
    · exact cut_len

theorem flat1 {ys : List Tx} (h : ∀ y ∈ ys, y.length = 1) : ys.flatten.length = ys.length := by
  induction ys with
  | nil => rfl
  | cons y ys ih => rw [List.flatten_cons, List.length_append, ih fun z hz => h z (List.mem_cons_of_mem _ hz), h y (List.mem_cons_self ..), List.length_cons]; omega
theorem joinOk1 {ys : List Tx} (h : ∀ y ∈ ys, y.length = 1) (hl : ys.length ≤ 1000000) : joinOk [] ys := by
  unfold joinOk
  rw [← List.length_flatten, flat1 h]
  simp; omega
theorem word_sat {E : Exc → Prop} {k : Nat} {s : List Int} {t : Tx} {m : Int} (hm : 0 < m) (hm2 : m ≤ 100000) (ht : 1 ≤ t.length) (ht2 : t.length ≤ 100000) (h : Good (k + 1 + m.toNat) s) :
    (m_l_word ((), t, m, ()) s).sat (fun w u => (1 ≤ w.length ∧ w.length ≤ m.toNat ∧ ∀ c ∈ w, c ∈ t) ∧ Good k u) E := by
  unfold m_l_word
  simp only [o_try, s_val, s_valp, s_stuck, s_exn, s_bnd', s_grd, s_itestuck, s_ite, s_up, s_nox, s_fn, s_fnU, o_nx, o_ret, o_stuck, o_exn, o_bnd, o_seq, o_lt, o_itestuck, o_ite, s_if0]
  refine (next_sat (k := k + m.toNat) (h.le (by omega)) hm (by omega)).to fun d u ⟨hd, g⟩ => ?_
  have hl : (rng 0 (1 + d)).length = (1 + d).toNat := by rw [rng_len]; congr 1; omega
  have hs := sz20
  refine ⟨rng_ok (by omega) (by omega) (by omega) (by omega), by rw [hl]; omega, ?_⟩
  refine s_compA (fun i u => Good (k + ((1 + d).toNat - i)) u) (fun _ y => y.length = 1 ∧ ∀ c ∈ y, c ∈ t) (g.le (by omega)) (fun _ _ => rfl) (fun i x u hx hi g => ?_) (fun ys u hy hp g => ?_)
  · rw [hl] at hi
    simp only [o_try, s_val, s_valp, s_stuck, s_exn, s_bnd', s_grd, s_itestuck, s_ite, s_up, s_nox, s_fn, s_fnU, o_nx, o_ret, o_stuck, o_exn, o_bnd, o_seq, o_lt, o_itestuck, o_ite, s_if0]
    refine ⟨by omega, ?_⟩
    refine (next_sat (k := k + ((1 + d).toNat - (i + 1))) (g.le (by omega)) (by omega) (by omega)).to fun r u ⟨hr, g⟩ => ?_
    refine ⟨⟨by omega, at_is hr.1 hr.2⟩, ⟨rfl, fun c hc => ?_⟩, g⟩
    rw [at_get hr.1 hr.2] at hc
    rw [List.mem_singleton.mp hc]
    exact List.getElem_mem _
  · rw [hl] at hy
    have h1 : ∀ y ∈ ys, y.length = 1 ∧ ∀ c ∈ y, c ∈ t := fun y hm => by
      obtain ⟨i, hi, e⟩ := List.getElem_of_mem hm
      exact hp i _ _ (List.getElem?_eq_getElem (by omega)) (by rw [List.getElem?_eq_getElem hi, e])
    refine ⟨joinOk1 (fun y hy => (h1 y hy).1) (by omega), ?_⟩
    rw [joinT_nil]
    refine ⟨⟨by rw [flat1 fun y hy => (h1 y hy).1]; omega, by rw [flat1 fun y hy => (h1 y hy).1]; omega, fun c hc => ?_⟩, g.le (by omega)⟩
    obtain ⟨y, hy, hc⟩ := List.mem_flatten.mp hc
    exact (h1 y hy).2 c hc

theorem isTy_eqs : (∀ xs, isTy "tuple" (.list xs) = false) ∧ (∀ xs, isTy "list" (.list xs) = true) ∧ (∀ xs, isTy "tuple" (.tuple xs) = true) ∧ (∀ xs, isTy "list" (.tuple xs) = false) :=
  ⟨fun _ => by simp [isTy, dTyName], fun _ => by simp [isTy, dTyName], fun _ => by simp [isTy, dTyName], fun _ => by simp [isTy, dTyName]⟩
theorem all_true {α : Type} (xs : List α) : List.all (xs.map fun _ => true) id = true := by induction xs <;> simp_all
theorem alike_sc (rec : (PyData × PyData × Unit) → Unit → Res Exc (Bool × Unit)) (d : PyData) (h : dIsSeq d = false) (h2 : ∀ k, d ≠ .dict k) : m_l_alikeB rec (d, d, ()) () = .val (true, ()) := by
  cases d with
  | list xs => cases h
  | tuple xs => cases h
  | dict k => exact absurd rfl (h2 k)
  | _ => refine sat_eq ?_; unfold m_l_alikeB; simp [o_try, s_val, s_valp, s_stuck, s_exn, s_bnd', s_grd, s_itestuck, s_ite, s_up, s_nox, s_fn, s_fnU, o_nx, o_ret, o_stuck, o_exn, o_bnd, o_seq, o_lt, o_itestuck, o_ite, s_if0, isTy, dTyName, dIsNone, dScal, dSame]
theorem alike_refl : ∀ (n : Nat) (d : PyData), dOk n d → m_l_alike (n + 1) (d, d, ()) () = .val (true, ()) := by
  intro n
  obtain ⟨t1, t2, t3, t4⟩ := isTy_eqs
  induction n with
  | zero =>
    intro d h
    show m_l_alikeB _ _ _ = _
    cases d <;> first | exact h.elim | exact alike_sc _ _ rfl (fun _ z => nomatch z)
  | succ n ih =>
    intro d h
    have hs := sz20
    show m_l_alikeB (m_l_alike (n + 1)) _ _ = _
    have one : ∀ (xs : List PyData) (x : Int), x ∈ rng 0 (xs.length : Int) → (∀ y ∈ xs, dOk n y) → (atI xs x).isSome = true ∧ m_l_alike (n + 1) ((atI xs x).getD .none, (atI xs x).getD .none, ()) () = .val (true, ()) := fun xs x hx hy => by
      obtain ⟨h1, h2⟩ := rng_mem.mp hx
      refine ⟨at_is h1 h2, ih _ ?_⟩
      rw [at_get h1 h2]
      exact hy _ (List.getElem_mem _)
    cases d with
    | dict k => exact h.elim
    | list xs =>
      obtain ⟨hl, hy⟩ : xs.length ≤ 1000000 ∧ ∀ x ∈ xs, dOk n x := h
      refine sat_eq ?_
      unfold m_l_alikeB
      simp only [o_try, s_val, s_valp, s_stuck, s_exn, s_bnd', s_grd, s_itestuck, s_ite, s_up, s_nox, s_fn, s_fnU, o_nx, o_ret, o_stuck, o_exn, o_bnd, o_seq, o_lt, o_itestuck, o_ite, s_if0, t1, t2, t3, t4, dIsSeq, dItems, Bool.false_or, if_true, decide_true, Bool.not_true, Bool.or_self, true_and, Bool.false_eq_true, if_false]
      refine ⟨rng_ok (by omega) (by omega) (by omega) (by omega), by rw [rng_len]; omega, ?_⟩
      refine s_compM (fun _ => true) (fun _ _ => rfl) (fun x hx => ?_) ⟨all_true _, trivial⟩
      obtain ⟨h1, h2⟩ := one xs x hx hy
      simp only [o_try, s_val, s_valp, s_stuck, s_exn, s_bnd', s_grd, s_itestuck, s_ite, s_up, s_nox, s_fn, s_fnU, o_nx, o_ret, o_stuck, o_exn, o_bnd, o_seq, o_lt, o_itestuck, o_ite, s_if0, dAtOk, dAt, dIsSeq, dItems, h1, true_and, h2, and_self]
    | tuple xs =>
      obtain ⟨hl, hy⟩ : xs.length ≤ 1000000 ∧ ∀ x ∈ xs, dOk n x := h
      refine sat_eq ?_
      unfold m_l_alikeB
      simp only [o_try, s_val, s_valp, s_stuck, s_exn, s_bnd', s_grd, s_itestuck, s_ite, s_up, s_nox, s_fn, s_fnU, o_nx, o_ret, o_stuck, o_exn, o_bnd, o_seq, o_lt, o_itestuck, o_ite, s_if0, t1, t2, t3, t4, dIsSeq, dItems, Bool.false_or, Bool.or_false, if_true, decide_true, Bool.not_true, Bool.or_self, true_and, Bool.false_eq_true, if_false]
      refine ⟨rng_ok (by omega) (by omega) (by omega) (by omega), by rw [rng_len]; omega, ?_⟩
      refine s_compM (fun _ => true) (fun _ _ => rfl) (fun x hx => ?_) ⟨all_true _, trivial⟩
      obtain ⟨h1, h2⟩ := one xs x hx hy
      simp only [o_try, s_val, s_valp, s_stuck, s_exn, s_bnd', s_grd, s_itestuck, s_ite, s_up, s_nox, s_fn, s_fnU, o_nx, o_ret, o_stuck, o_exn, o_bnd, o_seq, o_lt, o_itestuck, o_ite, s_if0, dAtOk, dAt, dIsSeq, dItems, h1, true_and, h2, and_self]
    | _ => exact alike_sc _ _ rfl (fun _ z => nomatch z)

def LE : List Nat := [97, 98, 99, 100, 101, 102, 103, 104, 105, 106, 107, 108, 109, 110, 111, 112, 113, 114, 115, 116, 117, 118, 119, 120, 121, 122]
theorem le_az {c : Nat} : c ∈ LE ↔ az c := by
  unfold LE az
  constructor
  · intro h; simp at h; omega
  · intro h
    have : c = 97 ∨ c = 98 ∨ c = 99 ∨ c = 100 ∨ c = 101 ∨ c = 102 ∨ c = 103 ∨ c = 104 ∨ c = 105 ∨ c = 106 ∨ c = 107 ∨ c = 108 ∨ c = 109 ∨ c = 110 ∨ c = 111 ∨ c = 112 ∨ c = 113 ∨ c = 114 ∨ c = 115 ∨ c = 116 ∨ c = 117 ∨ c = 118 ∨ c = 119 ∨ c = 120 ∨ c = 121 ∨ c = 122 := by omega
    simpa using this

theorem enumL_get2 {α : Type} {t : List α} {i : Nat} {x : Int × α × Unit} (h : (enumL t)[i]? = some x) : x.1 = (i : Int) ∧ t[i]? = some x.2.1 := by
  rw [enumL_get] at h
  cases e : t[i]? with
  | none => rw [e] at h; cases h
  | some y => rw [e] at h; cases h; exact ⟨rfl, rfl⟩

theorem atI0 {α : Type} {xs : List α} (d : α) (h : 0 < xs.length) : atI xs 0 = some (xs.headD d) := by
  rw [at_nn (by decide)]
  cases xs with
  | nil => exact absurd h (Nat.lt_irrefl _)
  | cons x xs => rfl
theorem atIl {α : Type} {xs : List α} (d : α) (h : 0 < xs.length) : atI xs (-1) = some (xs.getLastD d) := by
  rw [at_last h, ← List.getLast?_eq_getElem?]
  cases xs with
  | nil => exact absurd h (Nat.lt_irrefl _)
  | cons x xs => rw [List.getLastD_cons, List.getLast?_cons]; simp [List.getLastD_eq_getLast?]

/-- a number's sign, if it is told -/
def dig (x : Int) : Tx := if 0 < x then [48 + x.toNat] else []
theorem dig_len (x : Int) : (dig x).length ≤ 1 := by unfold dig; split <;> simp
/-- the first k places of a pattern, as a text -/
def pre (S : Tx) (N : List Int) : Nat → Tx
  | 0 => []
  | k + 1 => pre S N k ++ (dig (N.getD k 0) ++ (S.drop k).take 1)
theorem pre_len (S : Tx) (N : List Int) : ∀ k, (pre S N k).length ≤ 2 * k
  | 0 => Nat.le_refl _
  | k + 1 => by
    have := pre_len S N k
    have h1 := dig_len (N.getD k 0)
    show (pre S N k ++ (dig (N.getD k 0) ++ (S.drop k).take 1)).length ≤ _
    rw [List.length_append, List.length_append, List.length_take]
    omega
/-- a pattern's text -/
def shp (S : Tx) (N : List Int) : Tx := pre S N N.length
theorem cut_one {α : Type} (S : List α) (i : Nat) : cut S (some (i : Int)) (some ((i : Int) + 1)) = (S.drop i).take 1 := by
  rw [cut_nn (by omega) (by omega)]
  congr 1
  omega
theorem getD_of {N : List Int} {i : Nat} {x : Int} (h : N[i]? = some x) : N.getD i 0 = x := by rw [List.getD_eq_getElem?_getD, h]; rfl
theorem str_dig {x : Int} (h : 0 < x) (h2 : x ≤ 9) : (PySem.Str.ofString (toString x)).cps.toList = [48 + x.toNat] ∧ x.natAbs.log2 < 1920 := by
  have key : ∀ n : Fin 10, 0 < n.val → (PySem.Str.ofString (toString (n.val : Int))).cps.toList = [48 + ((n.val : Nat) : Int).toNat] ∧ (((n.val : Nat) : Int)).natAbs.log2 < 1920 := by decide +kernel
  have e := key ⟨x.toNat, by omega⟩ (by show 0 < x.toNat; omega)
  have ex : ((x.toNat : Nat) : Int) = x := by omega
  dsimp only at e
  rw [ex] at e
  exact e
theorem shown_pat {S : Tx} {N : List Int} (hS : S.length ≤ 100000) (hN : N.length ≤ 100000) (h9 : ∀ x ∈ N, 0 ≤ x ∧ x ≤ 9) : m_shown_pattern ((S, N, ()), ()) () = .val (shp S N, ()) := by
  have hs := sz20
  refine sat_eqU ?_
  unfold m_shown_pattern
  simp only [o_try, s_val, s_valp, s_stuck, s_exn, s_bnd', s_grd, s_itestuck, s_ite, s_up, s_nox, s_fn, s_fnU, o_nx, o_ret, o_stuck, o_exn, o_bnd, o_seq, o_lt, o_itestuck, o_ite, s_if0]
  refine o_for (fun i n => n = pre S N i) rfl (fun i x n hx hn => ?_) (fun n hn => ?_)
  · obtain ⟨h1, h2⟩ := enumL_get2 hx
    have hi := (List.getElem?_eq_some_iff.mp h2).1
    have hp := pre_len S N i
    have h3 := h9 _ (List.mem_of_getElem? h2)
    subst hn
    simp only [o_try, s_val, s_valp, s_stuck, s_exn, s_bnd', s_grd, s_itestuck, s_ite, s_up, s_nox, s_fn, s_fnU, o_nx, o_ret, o_stuck, o_exn, o_bnd, o_seq, o_lt, o_itestuck, o_ite, s_if0, h1, cut_one, decide_eq_true_eq]
    have hl : ((S.drop i).take 1).length ≤ 1 := by rw [List.length_take]; omega
    show if 0 < x.2.1 then _ else _
    by_cases hx0 : 0 < x.2.1
    · rw [if_pos hx0]
      obtain ⟨d1, d2⟩ := str_dig hx0 h3.2
      rw [d1]
      refine ⟨d2, by simp; omega, by omega, by simp; omega, ?_⟩
      show _ = pre S N i ++ (dig (N.getD i 0) ++ (S.drop i).take 1)
      rw [getD_of h2]
      unfold dig
      rw [if_pos hx0, List.append_assoc]
    · rw [if_neg hx0]
      refine ⟨by omega, by omega, ?_⟩
      show _ = pre S N i ++ (dig (N.getD i 0) ++ (S.drop i).take 1)
      rw [getD_of h2]
      unfold dig
      rw [if_neg hx0, List.nil_append]
  · rw [enumL_len] at hn
    exact hn

/-- whether a sign may stand -/
def lett (s : Tx) : Bool := s.any fun c => decide (c ∈ LE)
def FG : List Nat := [49, 50, 51, 52, 53, 54, 55, 56, 57]
def mayS (s : Tx) (ns : List Int) (c : Nat) : Bool :=
  if lett s = true ∧ s.getLastD 0 = 46 then false else if c ∈ FG then decide (ns.length = s.length) else if s.length = 22 then false else if c = 46 then (lett s || (decide (s = []) && decide (ns = []))) else decide (c ∈ LE)
theorem eqv_nil (ns : List Int) : PyData.eqv ((dLst PyData.int) ns) ((dLst PyData.int) []) = decide (ns = []) := by
  cases ns with
  | nil => rfl
  | cons n ns => rfl
theorem eqv_nilU (ns : List Int) : PyData.eqv ((dTuL PyData.int) ns) ((dTuL PyData.int) []) = decide (ns = []) := by
  cases ns with
  | nil => rfl
  | cons n ns => rfl
theorem ints_shape (ns : List Int) : SeqAt.shaped (dLst PyData.int ns) = true ∧ SeqAt.shaped (dTuL PyData.int ns) = true := by
  refine ⟨(dSh_eq (n := 1) (d := dLst PyData.int ns) fun y hy => ?_).1.1, (dSh_eq (n := 1) (d := dTuL PyData.int ns) fun y hy => ?_).1.1⟩
  all_goals
    obtain ⟨z, _, rfl⟩ := List.mem_map.mp hy
    trivial
theorem lett_pos {s : Tx} (h : lett s = true) : 0 < s.length := by
  cases s with
  | nil => cases h
  | cons c s => simp
theorem lett_comp {E : Exc → Prop} {s : Tx} {Q : List Bool → Unit → Prop} (hs : s.length ≤ 1000000) (q : ∀ bs, List.any bs id = lett s → Q bs ()) :
    ((s.map fun c => [c]).length ≤ sizeLine ∧ (Res.compL (ε := Empty) (fun (d1 : Tx) s => Res.val (true, s)) (fun (d1 : Tx) s => Res.nox (ε := Exc) (ε' := Empty) (Res.grd (List.length d1 = 1) ((decide (List.headD d1 0 ∈ c_LETTERS)), s))) (s.map fun c => [c]) () []).sat Q (fun _ => False)) := by
  have h20 := sz20
  refine ⟨by rw [List.length_map]; omega, s_compM (fun d => decide (List.headD d 0 ∈ LE)) (fun _ _ => rfl) (fun x hx => ?_) (q _ ?_)⟩
  · obtain ⟨c, _, rfl⟩ := List.mem_map.mp hx
    simp only [o_try, s_val, s_valp, s_stuck, s_exn, s_bnd', s_grd, s_itestuck, s_ite, s_up, s_nox, s_fn, s_fnU, o_nx, o_ret, o_stuck, o_exn, o_bnd, o_seq, o_lt, o_itestuck, o_ite, s_if0]; exact ⟨rfl, rfl, trivial⟩
  · rw [List.map_map, List.any_map]; rfl
theorem may_eq {s : Tx} {ns : List Int} {c : Nat} (hs : s.length ≤ 1000000) : m_may_stand (s, ns, [c], ()) () = .val (mayS s ns c, ()) := by
  have h20 := sz20
  refine sat_eqU ?_
  unfold m_may_stand
  simp only [o_try, s_val, s_valp, s_stuck, s_exn, s_bnd', s_grd, s_itestuck, s_ite, s_up, s_nox, s_fn, s_fnU, o_nx, o_ret, o_stuck, o_exn, o_bnd, o_seq, o_lt, o_itestuck, o_ite, s_if0]
  refine lett_comp (E := fun _ => False) hs fun bs hb => ?_
  rw [hb]
  have fig : ∀ c : Nat, (c ∈ c_FIGURES) = (c ∈ FG) := fun _ => rfl
  unfold mayS
  by_cases h1 : lett s = true ∧ s.getLastD 0 = 46
  · have hp := lett_pos h1.1
    simp only [h1.1, if_true, atIl (0 : Nat) hp, Option.isSome_some, Option.getD_some, and_true, h1.2, decide_true, if_pos (show True ∧ True from ⟨trivial, trivial⟩)]
    omega
  · rw [if_neg h1]
    by_cases h2 : lett s = true
    · have hp := lett_pos h2
      have h3 : ¬ s.getLastD 0 = 46 := fun z => h1 ⟨h2, z⟩
      simp only [h2, if_true, atIl (0 : Nat) hp, Option.isSome_some, Option.getD_some, and_true, List.cons.injEq, h3, decide_false, Bool.false_eq_true, if_false, List.headD_cons, decide_eq_true_eq, List.length_singleton, true_and]
      refine ⟨by omega, ?_⟩
      split
      · next z =>
        have f1 : c ∈ FG := of_decide_eq_true z
        rw [if_pos f1]
        exact ⟨by omega, decide_eq_decide.mpr (by omega)⟩
      · next z =>
        have f1 : ¬ c ∈ FG := fun q => z (decide_eq_true q)
        rw [if_neg f1]
        refine ⟨by omega, ?_⟩
        by_cases f2 : s.length = 22
        · rw [if_pos (by omega), if_pos f2]
        · rw [if_neg (by omega), if_neg f2]
          by_cases f3 : c = 46
          · rw [if_pos f3, if_pos f3]; rfl
          · rw [if_neg f3, if_neg f3]
            first | rfl | trivial
    · have h2 : lett s = false := by simpa using h2
      simp only [h2, Bool.false_eq_true, if_false, List.headD_cons, decide_eq_true_eq, List.length_singleton, true_and, List.cons.injEq, and_true, Bool.false_or]
      split
      · next z =>
        have f1 : c ∈ FG := of_decide_eq_true z
        rw [if_pos f1]
        exact ⟨by omega, decide_eq_decide.mpr (by omega)⟩
      · next z =>
        have f1 : ¬ c ∈ FG := fun q => z (decide_eq_true q)
        rw [if_neg f1]
        refine ⟨by omega, ?_⟩
        by_cases f2 : s.length = 22
        · rw [if_pos (by omega), if_pos f2]
        · rw [if_neg (by omega), if_neg f2]
          by_cases f3 : c = 46
          · rw [if_pos f3, if_pos f3]
            by_cases f4 : s = []
            · rw [if_pos f4, decide_eq_true f4, Bool.true_and, eqv_nil]
              exact ⟨⟨(ints_shape ns).1, (ints_shape []).1⟩, rfl⟩
            · rw [if_neg f4, decide_eq_false f4]; rfl
          · rw [if_neg f3, if_neg f3]
            first | rfl | trivial

theorem int_dig {x : Int} (h : 0 < x) (h2 : x ≤ 9) : PySem.intText? ⟨List.toArray [48 + x.toNat]⟩ = some x ∧ 48 + x.toNat ∈ FG ∧ ¬ 48 + x.toNat ∈ LE := by
  have key : ∀ n : Fin 10, 0 < n.val → PySem.intText? ⟨List.toArray [48 + ((n.val : Nat) : Int).toNat]⟩ = some ((n.val : Nat) : Int) ∧ 48 + ((n.val : Nat) : Int).toNat ∈ FG ∧ ¬ 48 + ((n.val : Nat) : Int).toNat ∈ LE := by decide +kernel
  have e := key ⟨x.toNat, by omega⟩ (by show 0 < x.toNat; omega)
  have ex : ((x.toNat : Nat) : Int) = x := by omega
  dsimp only at e
  rw [ex] at e
  exact e
theorem le_fg {c : Nat} (h : c ∈ LE) : ¬ c ∈ FG ∧ ¬ c = 46 := by
  have h := le_az.mp h
  unfold az at h
  unfold FG
  refine ⟨fun z => ?_, by omega⟩
  simp at z
  omega

/-! texts of patterns, read sign by sign -/
def stp (s : Tx × List Int) (c : Nat) : Tx × List Int := if c ∈ FG then (s.1, s.2 ++ [((c - 48 : Nat) : Int)]) else (s.1 ++ [c], if s.2.length = s.1.length then s.2 ++ [0] else s.2)
def rst (t : Tx) : Tx × List Int := t.foldl stp ([], [])
theorem rst_snoc (t : Tx) (c : Nat) : rst (t ++ [c]) = stp (rst t) c := by unfold rst; rw [List.foldl_append]; rfl
def okP (t : Tx) (i : Nat) : Prop := ∃ c, t[i]? = some c ∧ mayS (rst (t.take i)).1 (rst (t.take i)).2 c = true
def DueP (t : Tx) (d : Option Nat) : Prop := (∃ i, d = some i ∧ i < t.length ∧ (∀ j, j < i → okP t j) ∧ ¬ okP t i) ∨
  ((∀ j, j < t.length → okP t j) ∧ ((lett (rst t).1 = false ∧ d = some t.length) ∨ (lett (rst t).1 = true ∧ d = none)))
theorem DueP.uniq {t : Tx} {d e : Option Nat} (h : DueP t d) (k : DueP t e) : d = e := by
  rcases h with ⟨i, rfl, h1, h2, h3⟩ | ⟨h1, h2⟩ <;> rcases k with ⟨j, rfl, k1, k2, k3⟩ | ⟨k1, k2⟩
  · have : ¬ i < j := fun z => h3 (k2 i z)
    have : ¬ j < i := fun z => k3 (h2 j z)
    congr 1; omega
  · exact absurd (k1 i h1) h3
  · exact absurd (h1 j k1) k3
  · rcases h2 with ⟨h2, rfl⟩ | ⟨h2, rfl⟩ <;> rcases k2 with ⟨k2, rfl⟩ | ⟨k2, rfl⟩
    · rfl
    · rw [h2] at k2; cases k2
    · rw [h2] at k2; cases k2
    · rfl
theorem pre_extN {S : Tx} {N M : List Int} : ∀ {k : Nat}, k ≤ N.length → pre S (N ++ M) k = pre S N k
  | 0, _ => rfl
  | k + 1, h => by
    show pre S (N ++ M) k ++ _ = pre S N k ++ _
    rw [pre_extN (k := k) (by omega), List.getD_eq_getElem?_getD, List.getD_eq_getElem?_getD, List.getElem?_append_left (by omega)]
theorem pre_extS {S R : Tx} {N : List Int} : ∀ {k : Nat}, k ≤ S.length → pre (S ++ R) N k = pre S N k
  | 0, _ => rfl
  | k + 1, h => by
    show pre (S ++ R) N k ++ _ = pre S N k ++ _
    rw [pre_extS (k := k) (by omega), List.drop_append_of_le_length (by omega), List.take_append_of_le_length (by rw [List.length_drop]; omega)]
theorem dig_fg {c : Nat} (h : c ∈ FG) : 49 ≤ c ∧ c ≤ 57 ∧ dig ((c - 48 : Nat) : Int) = [c] ∧ PySem.intText? ⟨List.toArray [c]⟩ = some ((c - 48 : Nat) : Int) := by
  have hc : 49 ≤ c ∧ c ≤ 57 := by unfold FG at h; simp at h; omega
  have e := (int_dig (x := ((c - 48 : Nat) : Int)) (by omega) (by omega)).1
  have ec : 48 + ((c - 48 : Nat) : Int).toNat = c := by omega
  rw [ec] at e
  refine ⟨hc.1, hc.2, ?_, e⟩
  unfold dig
  rw [if_pos (by omega), ec]
/-- what the signs read so far are like -/
structure RInv (t : Tx) : Prop where
  sh : t = shp (rst t).1 (rst t).2
  ln : (rst t).2.length = (rst t).1.length ∨ (rst t).2.length = (rst t).1.length + 1
  le : (rst t).1.length ≤ 22
  h9 : ∀ x ∈ (rst t).2, 0 ≤ x ∧ x ≤ 9
  en : lett (rst t).1 = true → (rst t).1.getLastD 0 = 46 → (rst t).2.length = (rst t).1.length
  em : (rst t).1 = [] → (rst t).2 = [] → t = []
theorem fg_stop : ¬ (46 : Nat) ∈ FG := by unfold FG; decide
theorem rinv_nil : RInv [] := ⟨rfl, .inl rfl, by decide, fun x h => (by simp [rst] at h), fun h => (by cases h), fun _ _ => rfl⟩
theorem may_cases {s : Tx} {ns : List Int} {c : Nat} (h : mayS s ns c = true) : ¬ (lett s = true ∧ s.getLastD 0 = 46) ∧ ((c ∈ FG ∧ ns.length = s.length) ∨ (¬ c ∈ FG ∧ ¬ s.length = 22 ∧ ((c = 46 ∧ (lett s = true ∨ (s = [] ∧ ns = []))) ∨ (¬ c = 46 ∧ c ∈ LE)))) := by
  unfold mayS at h
  split at h
  · cases h
  next h1 =>
    refine ⟨h1, ?_⟩
    split at h
    next h2 => exact .inl ⟨h2, of_decide_eq_true h⟩
    next h2 =>
      right
      refine ⟨h2, ?_⟩
      split at h
      · cases h
      next h3 =>
        refine ⟨h3, ?_⟩
        split at h
        next h4 => exact .inl ⟨h4, by simpa using h⟩
        next h4 => exact .inr ⟨h4, of_decide_eq_true h⟩
theorem rinv_snoc {t : Tx} {c : Nat} (I : RInv t) (h : mayS (rst t).1 (rst t).2 c = true) : RInv (t ++ [c]) := by
  obtain ⟨sh, ln, le, h9, en, em⟩ := I
  obtain ⟨h1, h2⟩ := may_cases h
  generalize hS : (rst t).1 = S at *
  generalize hN : (rst t).2 = N at *
  have hr : rst t = (S, N) := by rw [← hS, ← hN]
  have e := rst_snoc t c
  rw [hr] at e
  rcases h2 with ⟨hc, hl⟩ | ⟨hc, h22, h3⟩
  · have e : rst (t ++ [c]) = (S, N ++ [((c - 48 : Nat) : Int)]) := by rw [e]; unfold stp; rw [if_pos hc]
    obtain ⟨c1, c2, c3, c4⟩ := dig_fg hc
    refine ⟨?_, ?_, ?_, ?_, ?_, ?_⟩ <;> rw [e]
    · conv => lhs; rw [sh]
      unfold shp
      rw [List.length_append, List.length_singleton]
      show pre S N N.length ++ [c] = pre S (N ++ _) N.length ++ (dig ((N ++ _).getD N.length 0) ++ (S.drop N.length).take 1)
      rw [pre_extN (Nat.le_refl _), hl, List.drop_length]
      simp only [List.getD_eq_getElem?_getD]
      rw [List.getElem?_append_right (by omega), hl, Nat.sub_self]
      show _ = _ ++ (dig ((c - 48 : Nat) : Int) ++ [])
      rw [c3]; rfl
    · right; simp; omega
    · exact le
    · intro x hx
      rcases List.mem_append.mp hx with hx | hx
      · exact h9 x hx
      · rw [List.mem_singleton] at hx; subst hx; omega
    · exact fun a b => absurd ⟨a, b⟩ h1
    · intro _ z; simp at z
  · have e : rst (t ++ [c]) = (S ++ [c], if N.length = S.length then N ++ [0] else N) := by rw [e]; unfold stp; rw [if_neg hc]
    have hlt : S.length < 22 := by omega
    refine ⟨?_, ?_, ?_, ?_, ?_, ?_⟩ <;> rw [e]
    · conv => lhs; rw [sh]
      unfold shp
      rcases ln with ln | ln
      · dsimp only
        rw [if_pos ln, List.length_append, List.length_singleton]
        show pre S N N.length ++ [c] = pre (S ++ [c]) (N ++ [0]) N.length ++ (dig ((N ++ [0]).getD N.length 0) ++ ((S ++ [c]).drop N.length).take 1)
        rw [pre_extN (Nat.le_refl _), pre_extS (by omega), ln, List.drop_left]
        simp only [List.getD_eq_getElem?_getD]
        rw [List.getElem?_append_right (by omega), ln, Nat.sub_self]
        rfl
      · dsimp only
        rw [if_neg (by omega), ln]
        show (pre S N S.length ++ (dig (N.getD S.length 0) ++ (S.drop S.length).take 1)) ++ [c] = pre (S ++ [c]) N S.length ++ (dig (N.getD S.length 0) ++ ((S ++ [c]).drop S.length).take 1)
        rw [pre_extS (Nat.le_refl _), List.drop_length, List.drop_left]
        simp
    · dsimp only
      rcases ln with ln | ln
      · rw [if_pos ln]; left; simp; omega
      · rw [if_neg (by omega)]; left; simp; omega
    · simp; omega
    · intro x hx
      dsimp only at hx
      split at hx
      · rcases List.mem_append.mp hx with hx | hx
        · exact h9 x hx
        · rw [List.mem_singleton] at hx; subst hx; omega
      · exact h9 x hx
    · intro _ _
      dsimp only
      rcases ln with ln | ln
      · rw [if_pos ln]; simp; omega
      · rw [if_neg (by omega)]; simp; omega
    · intro z; simp at z
theorem rinv_take {t : Tx} : ∀ {i : Nat}, i ≤ t.length → (∀ j, j < i → okP t j) → RInv (t.take i)
  | 0, _, _ => rinv_nil
  | i + 1, h, k => by
    obtain ⟨c, hc, hm⟩ := k i (Nat.lt_succ_self _)
    have ih := rinv_take (t := t) (i := i) (by omega) fun j hj => k j (by omega)
    rw [List.take_add_one, hc]
    exact rinv_snoc ih hm
theorem readp_sat {t : Tx} (ht : t.length ≤ 100000) : (m_read_pattern (t, ()) ()).sat (fun r _ => DueP t none ∧ t = shp r.1 r.2.1 ∧ r.1.length ≤ 100 ∧ r.2.1.length ≤ 100 ∧ ∀ x ∈ r.2.1, 0 ≤ x ∧ x ≤ 9) (fun x => ∃ i : Nat, x = .noPattern i ∧ DueP t (some i)) := by
  have hs := sz20
  unfold m_read_pattern
  simp only [o_try, s_val, s_valp, s_stuck, s_exn, s_bnd', s_grd, s_itestuck, s_ite, s_up, s_nox, s_fn, s_fnU, o_nx, o_ret, o_stuck, o_exn, o_bnd, o_seq, o_lt, o_itestuck, o_ite, s_if0]
  refine o_for (fun i n => (∀ j, j < i → okP t j) ∧ n = rst (t.take i)) ⟨fun j h => by omega, rfl⟩ (fun i x n hx hn => ?_) (fun n hn => ?_)
  · obtain ⟨h1, h2⟩ := hn
    obtain ⟨e1, e2⟩ := enumL_get2 hx
    rw [List.getElem?_map] at e2
    obtain ⟨d, hd⟩ : ∃ d, t[i]? = some d := by
      cases e : t[i]? with
      | none => rw [e] at e2; cases e2
      | some d => exact ⟨d, rfl⟩
    rw [hd] at e2
    have e2 : x.2.1 = [d] := (Option.some.inj e2).symm
    have hi : i < t.length := (List.getElem?_eq_some_iff.mp hd).1
    have I := rinv_take (t := t) (i := i) (by omega) h1
    obtain ⟨sh, ln, le, h9, en, em⟩ := I
    have tk : rst (t.take (i + 1)) = stp n d := by rw [List.take_add_one, hd, h2]; exact rst_snoc _ _
    rw [← h2] at ln le h9 en
    obtain ⟨S, N⟩ := n
    dsimp only at ln le h9 en
    have fig : (List.headD [d] 0 ∈ c_FIGURES) = (d ∈ FG) := rfl
    simp only [o_try, s_val, s_valp, s_stuck, s_exn, s_bnd', s_grd, s_itestuck, s_ite, s_up, s_nox, s_fn, s_fnU, o_nx, o_ret, o_stuck, o_exn, o_bnd, o_seq, o_lt, o_itestuck, o_ite, s_if0, e1, e2, may_eq (s := S) (ns := N) (c := d) (by omega), Bool.not_eq_true', fig, decide_eq_true_eq]
    by_cases hm : mayS S N d = true
    · rw [if_neg (by rw [hm]; simp)]
      have ok1 : ∀ j, j < i + 1 → okP t j := fun j hj => by
        by_cases e : j = i
        · rw [e]; exact ⟨d, hd, by rw [← h2]; exact hm⟩
        · exact h1 j (by omega)
      refine ⟨rfl, ?_⟩
      by_cases hf : d ∈ FG
      · rw [if_pos hf]
        obtain ⟨_, _, _, c4⟩ := dig_fg hf
        rw [c4]
        refine ⟨⟨by simp, rfl⟩, by omega, ok1, ?_⟩
        rw [tk]
        unfold stp
        rw [if_pos hf]; rfl
      · rw [if_neg hf]
        refine ⟨by omega, ?_⟩
        have hlen : List.length S + List.length [d] ≤ sizeLine := by simp; omega
        by_cases hl : (N.length : Int) = S.length
        · rw [if_pos hl]
          refine ⟨by omega, hlen, ok1, ?_⟩
          rw [tk]
          unfold stp
          rw [if_neg hf]
          dsimp only
          rw [if_pos (by omega)]
        · rw [if_neg hl]
          refine ⟨hlen, ok1, ?_⟩
          rw [tk]
          unfold stp
          rw [if_neg hf]
          dsimp only
          rw [if_neg (by omega)]
    · rw [if_pos (by simpa using hm)]
      exact ⟨i, rfl, .inl ⟨i, rfl, hi, h1, fun ⟨c, hc, q⟩ => by
        rw [hd] at hc
        cases hc
        rw [← h2] at q
        exact hm q⟩⟩
  · rw [enumL_len, List.length_map] at hn
    obtain ⟨h1, h2⟩ := hn
    have I := rinv_take (t := t) (i := t.length) (Nat.le_refl _) h1
    rw [List.take_length] at h2 I
    obtain ⟨sh, ln, le, h9, en, em⟩ := I
    rw [← h2] at sh ln le h9
    have hD : ∀ b, lett n.1 = b → DueP t (if b then none else some t.length) := fun b hb => by
      rw [h2] at hb
      cases b with
      | true => exact .inr ⟨h1, .inr ⟨hb, rfl⟩⟩
      | false => exact .inr ⟨h1, .inl ⟨hb, rfl⟩⟩
    obtain ⟨S, N⟩ := n
    dsimp only at sh ln le h9 hD ⊢
    refine ⟨by rw [List.length_map]; omega, s_compM (fun d => decide (List.headD d 0 ∈ LE)) (fun _ _ => rfl) (fun x hx => ?_) ?_⟩
    · obtain ⟨c, _, rfl⟩ := List.mem_map.mp hx
      simp only [o_try, s_val, s_valp, s_stuck, s_exn, s_bnd', s_grd, s_itestuck, s_ite, s_up, s_nox, s_fn, s_fnU, o_nx, o_ret, o_stuck, o_exn, o_bnd, o_seq, o_lt, o_itestuck, o_ite, s_if0]; exact ⟨rfl, rfl, trivial⟩
    have hany : List.any ((S.map fun c => [c]).map fun d => decide (List.headD d 0 ∈ LE)) id = lett S := by
      rw [List.map_map, List.any_map]; rfl
    rw [hany]
    cases hb : lett S with
    | false =>
      simp only [Bool.not_false, if_true]
      exact ⟨by omega, t.length, rfl, hD _ hb⟩
    | true =>
      simp only [Bool.not_true, Bool.false_eq_true, if_false]
      refine ⟨by omega, ?_⟩
      by_cases hl : (N.length : Int) = S.length
      · rw [if_pos (decide_eq_true hl)]
        refine ⟨by omega, hD _ hb, ?_, by omega, by simp; omega, fun x hx => ?_⟩
        · rw [sh]
          unfold shp
          rw [List.length_append, List.length_singleton]
          show pre S N N.length = pre S (N ++ [0]) N.length ++ (dig ((N ++ [0]).getD N.length 0) ++ (S.drop N.length).take 1)
          rw [pre_extN (Nat.le_refl _), show N.length = S.length by omega, List.drop_length]
          simp only [List.getD_eq_getElem?_getD]
          rw [List.getElem?_append_right (by omega), show S.length - N.length = 0 by omega]
          simp [dig]
        · rcases List.mem_append.mp hx with hx | hx
          · exact h9 x hx
          · rw [List.mem_singleton] at hx; subst hx; omega
      · rw [if_neg (by simpa using hl)]
        exact ⟨hD _ hb, sh, by omega, by omega, h9⟩

def tFig : Tx := [102, 105, 103, 117, 114, 101]
def tStart : Tx := [115, 116, 97, 114, 116]
def tEnd : Tx := [101, 110, 100]
def tStop : Tx := [115, 116, 111, 112]
def tLetter : Tx := [108, 101, 116, 116, 101, 114]
def tNone : Tx := [110, 111, 110, 101]
def sortOf (c : Nat) : Tx := if c = 46 then tStop else if c ∈ LE then tLetter else if c ∈ FG then tFig else My.tNone
/-- the law's word for what was read last -/
def ahOf (t : Tx) : Tx := if t = [] then tStart else if (rst t).2.length = (rst t).1.length + 1 then tFig else if (rst t).1.getLastD 0 = 46 then (if lett (rst t).1 = true then tEnd else tStop) else tLetter
theorem lett_snoc (S : Tx) (c : Nat) : lett (S ++ [c]) = (lett S || decide (c ∈ LE)) := by unfold lett; simp
theorem cnt_snoc (S : Tx) (c : Nat) : (S ++ [c]).countP (fun c => decide (c ∈ LE)) = S.countP (fun c => decide (c ∈ LE)) + (if c ∈ LE then 1 else 0) := by
  rw [List.countP_append, List.countP_singleton]
  simp
theorem cnt_lett (S : Tx) : (S.countP (fun c => decide (c ∈ LE)) = 0) = (lett S = false) := by
  unfold lett
  apply propext
  rw [List.countP_eq_zero, List.any_eq_false]
theorem last_snoc (S : Tx) (c : Nat) : (S ++ [c]).getLastD 0 = c := by simp
/-- whether the law lets a sign stand -/
def goodL (sg : Nat) (lt : Bool) (ah : Tx) (c : Nat) : Prop := sortOf c ≠ My.tNone ∧ ah ≠ tEnd ∧ ¬ (sortOf c = tFig ∧ ah = tFig) ∧ ¬ (sortOf c = tStop ∧ lt = false ∧ ah ≠ tStart) ∧ ¬ (sortOf c ≠ tFig ∧ sg = 22)
theorem sort_cases (c : Nat) : (c = 46 ∧ sortOf c = tStop ∧ ¬ c ∈ LE ∧ ¬ c ∈ FG) ∨ (c ∈ LE ∧ sortOf c = tLetter ∧ ¬ c = 46 ∧ ¬ c ∈ FG) ∨ (c ∈ FG ∧ sortOf c = tFig ∧ ¬ c = 46 ∧ ¬ c ∈ LE) ∨ (¬ c = 46 ∧ ¬ c ∈ LE ∧ ¬ c ∈ FG ∧ sortOf c = My.tNone) := by
  by_cases h1 : c = 46
  · left
    subst h1
    exact ⟨rfl, rfl, by unfold LE; decide, by unfold FG; decide⟩
  · by_cases h2 : c ∈ LE
    · right; left
      exact ⟨h2, by unfold sortOf; rw [if_neg h1, if_pos h2], h1, (le_fg h2).1⟩
    · by_cases h3 : c ∈ FG
      · right; right; left
        exact ⟨h3, by unfold sortOf; rw [if_neg h1, if_neg h2, if_pos h3], h1, h2⟩
      · right; right; right
        exact ⟨h1, h2, h3, by unfold sortOf; rw [if_neg h1, if_neg h2, if_neg h3]⟩
theorem words_ne : tStop ≠ My.tNone ∧ tStop ≠ tFig ∧ tLetter ≠ My.tNone ∧ tLetter ≠ tFig ∧ tLetter ≠ tStop ∧ tFig ≠ My.tNone ∧ tFig ≠ tStop ∧ tFig ≠ tEnd ∧ tStart ≠ tEnd ∧ tStart ≠ tFig ∧ tStop ≠ tEnd ∧ tLetter ≠ tEnd ∧ tEnd ≠ tFig ∧ tStop ≠ tStart ∧ tLetter ≠ tStart ∧ tFig ≠ tStart ∧ tEnd ≠ tStart ∧ My.tNone ≠ tFig ∧ My.tNone ≠ tStop ∧ tFig ≠ tLetter ∧ tStop ≠ tLetter := by decide
theorem ah_facts {t : Tx} (I : RInv t) : (ahOf t = tEnd ↔ (lett (rst t).1 = true ∧ (rst t).1.getLastD 0 = 46)) ∧ (ahOf t = tFig ↔ (rst t).2.length = (rst t).1.length + 1) ∧ (ahOf t = tStart ↔ t = []) := by
  obtain ⟨w1, w2, w3, w4, w5, w6, w7, w8, w9, w10, w11, w12, w13, w14, w15, w16, w17, _⟩ := words_ne
  unfold ahOf
  by_cases h0 : t = []
  · subst h0
    rw [if_pos rfl]
    refine ⟨⟨fun z => absurd z w9, fun z => by cases z.1⟩, ⟨fun z => absurd z w10, fun z => by cases z⟩, fun _ => rfl, fun _ => rfl⟩
  · rw [if_neg h0]
    by_cases h1 : (rst t).2.length = (rst t).1.length + 1
    · rw [if_pos h1]
      refine ⟨⟨fun z => absurd z w8, fun z => ?_⟩, ⟨fun _ => h1, fun _ => rfl⟩, fun z => absurd z w16, fun z => absurd z h0⟩
      have := I.en z.1 z.2
      omega
    · rw [if_neg h1]
      by_cases h2 : (rst t).1.getLastD 0 = 46
      · rw [if_pos h2]
        by_cases h3 : lett (rst t).1 = true
        · rw [if_pos h3]
          exact ⟨⟨fun _ => ⟨h3, h2⟩, fun _ => rfl⟩, ⟨fun z => absurd z w13, fun z => absurd z h1⟩, fun z => absurd z w17, fun z => absurd z h0⟩
        · rw [if_neg h3]
          exact ⟨⟨fun z => absurd z w11, fun z => absurd z.1 h3⟩, ⟨fun z => absurd z w2, fun z => absurd z h1⟩, fun z => absurd z w14, fun z => absurd z h0⟩
      · rw [if_neg h2]
        exact ⟨⟨fun z => absurd z w12, fun z => absurd z.2 h2⟩, ⟨fun z => absurd z w4, fun z => absurd z h1⟩, fun z => absurd z w15, fun z => absurd z h0⟩
theorem good_iff {t : Tx} (I : RInv t) (c : Nat) : goodL (rst t).1.length (lett (rst t).1) (ahOf t) c ↔ mayS (rst t).1 (rst t).2 c = true := by
  obtain ⟨w1, w2, w3, w4, w5, w6, w7, w8, w9, w10, w11, w12, w13, w14, w15, w16, w17, w18, w19, _⟩ := words_ne
  obtain ⟨a1, a2, a3⟩ := ah_facts I
  have em := I.em
  have ln := I.ln
  unfold goodL
  by_cases hE : lett (rst t).1 = true ∧ (rst t).1.getLastD 0 = 46
  · have m0 : mayS (rst t).1 (rst t).2 c = false := by unfold mayS; rw [if_pos hE]
    rw [m0]
    exact ⟨fun z => absurd (a1.mpr hE) z.2.1, fun z => nomatch z⟩
  · have hE' : ahOf t ≠ tEnd := fun z => hE (a1.mp z)
    unfold mayS
    rw [if_neg hE]
    rcases sort_cases c with ⟨c1, c2, c3, c4⟩ | ⟨c1, c2, c3, c4⟩ | ⟨c1, c2, c3, c4⟩ | ⟨c1, c2, c3, c4⟩
    · rw [if_neg c4, c2]
      by_cases h22 : (rst t).1.length = 22
      · rw [if_pos h22]
        exact ⟨fun z => absurd ⟨w2, h22⟩ z.2.2.2.2, fun z => nomatch z⟩
      · rw [if_neg h22, if_pos c1]
        constructor
        · intro z
          cases hl : lett (rst t).1 with
          | true => rfl
          | false =>
            have : ahOf t = tStart := Classical.byContradiction fun q => z.2.2.2.1 ⟨rfl, hl, q⟩
            have := a3.mp this
            subst this
            rfl
        · intro z
          refine ⟨w1, hE', fun q => w2 q.1, fun q => ?_, fun q => h22 q.2⟩
          rw [q.2.1] at z
          simp at z
          exact q.2.2 (a3.mpr (em z.1 z.2))
    · rw [if_neg c4, c2]
      by_cases h22 : (rst t).1.length = 22
      · rw [if_pos h22]
        exact ⟨fun z => absurd ⟨w4, h22⟩ z.2.2.2.2, fun z => nomatch z⟩
      · rw [if_neg h22, if_neg c3]
        exact ⟨fun _ => decide_eq_true c1, fun _ => ⟨w3, hE', fun q => w4 q.1, fun q => w5 q.1, fun q => h22 q.2⟩⟩
    · rw [if_pos c1, c2]
      constructor
      · intro z
        apply decide_eq_true
        rcases ln with ln | ln
        · exact ln
        · exact absurd ⟨rfl, a2.mpr ln⟩ z.2.2.1
      · intro z
        have z := of_decide_eq_true z
        refine ⟨w6, hE', fun q => ?_, fun q => w7 q.1, fun q => q.1 rfl⟩
        have := a2.mp q.2
        omega
    · rw [c4, if_neg c3]
      by_cases h22 : (rst t).1.length = 22
      · rw [if_pos h22]
        exact ⟨fun z => absurd rfl z.1, fun z => nomatch z⟩
      · rw [if_neg h22, if_neg c1]
        exact ⟨fun z => absurd rfl z.1, fun z => absurd (of_decide_eq_true z) c2⟩
theorem ah_snoc {t : Tx} {c : Nat} (I : RInv t) (h : mayS (rst t).1 (rst t).2 c = true) : ahOf (t ++ [c]) = (if sortOf c = tStop ∧ lett (rst (t ++ [c])).1 = true then tEnd else sortOf c) ∧ (rst (t ++ [c])).1.length = (rst t).1.length + (if sortOf c = tFig then 0 else 1) ∧ (rst (t ++ [c])).1.countP (fun c => decide (c ∈ LE)) = (rst t).1.countP (fun c => decide (c ∈ LE)) + (if sortOf c = tLetter then 1 else 0) := by
  obtain ⟨w1, w2, w3, w4, w5, w6, w7, w8, w9, w10, w11, w12, w13, w14, w15, w16, w17, w18, w19, w20, w21⟩ := words_ne
  have ln := I.ln
  obtain ⟨h1, h2⟩ := may_cases h
  rw [rst_snoc]
  have hne : t ++ [c] ≠ [] := by simp
  unfold ahOf
  rw [if_neg hne, rst_snoc]
  rcases sort_cases c with ⟨c1, c2, c3, c4⟩ | ⟨c1, c2, c3, c4⟩ | ⟨c1, c2, c3, c4⟩ | ⟨c1, c2, c3, c4⟩
  · have e : stp (rst t) c = ((rst t).1 ++ [c], if (rst t).2.length = (rst t).1.length then (rst t).2 ++ [0] else (rst t).2) := by unfold stp; rw [if_neg c4]
    have el : (stp (rst t) c).2.length = (stp (rst t) c).1.length := by
      rw [e]
      dsimp only
      rcases ln with ln | ln
      · rw [if_pos ln]; simp; omega
      · rw [if_neg (by omega)]; simp; omega
    have e1 : (stp (rst t) c).1 = (rst t).1 ++ [c] := by rw [e]
    rw [if_neg (by omega), e1, last_snoc, if_pos c1, c2]
    refine ⟨?_, by rw [if_neg w2]; simp, ?_⟩
    · simp only [true_and]
    · rw [cnt_snoc, if_neg c3, if_neg w21]
  · have e : stp (rst t) c = ((rst t).1 ++ [c], if (rst t).2.length = (rst t).1.length then (rst t).2 ++ [0] else (rst t).2) := by unfold stp; rw [if_neg c4]
    have el : (stp (rst t) c).2.length = (stp (rst t) c).1.length := by
      rw [e]
      dsimp only
      rcases ln with ln | ln
      · rw [if_pos ln]; simp; omega
      · rw [if_neg (by omega)]; simp; omega
    have e1 : (stp (rst t) c).1 = (rst t).1 ++ [c] := by rw [e]
    rw [if_neg (by omega), e1, last_snoc, if_neg c3, c2]
    refine ⟨by rw [if_neg fun z => w5 z.1], by rw [if_neg w4]; simp, ?_⟩
    rw [cnt_snoc, if_pos c1, if_pos rfl]
  · have e : stp (rst t) c = ((rst t).1, (rst t).2 ++ [((c - 48 : Nat) : Int)]) := by unfold stp; rw [if_pos c1]
    have hl : (rst t).2.length = (rst t).1.length := by
      rcases h2 with h2 | h2
      · exact h2.2
      · exact absurd c1 h2.1
    rw [e, c2]
    refine ⟨by rw [if_pos (by simp; omega), if_neg fun z => w7 z.1], by rw [if_pos rfl]; rfl, by rw [if_neg w20]; rfl⟩
  · exfalso
    rcases h2 with h2 | ⟨_, _, h2 | h2⟩
    · exact c3 h2.1
    · exact c1 h2.1
    · exact c2 h2.2
theorem due_sat {t : Tx} (ht : t.length ≤ 100000) : (m_l_due (t, ()) ()).sat (fun d _ => ∃ e : Option Nat, d = Option.map (fun n : Nat => (n : Int)) e ∧ DueP t e) (fun _ => False) := by
  have hs := sz20
  obtain ⟨w1, w2, w3, w4, w5, w6, w7, w8, w9, w10, w11, w12, w13, w14, w15, w16, w17, w18, w19, w20, w21⟩ := words_ne
  unfold m_l_due
  simp only [o_try, s_val, s_valp, s_stuck, s_exn, s_bnd', s_grd, s_itestuck, s_ite, s_up, s_nox, s_fn, s_fnU, o_nx, o_ret, o_stuck, o_exn, o_bnd, o_seq, o_lt, o_itestuck, o_ite, s_if0]
  refine ⟨by omega, rng_ok (by omega) (by omega) (by omega) (by omega), ?_⟩
  have hl : (rng 0 (t.length : Int)).length = t.length := by rw [rng_len]; omega
  refine o_for (fun i n => (∀ j, j < i → okP t j) ∧ n = (((rst (t.take i)).1.length : Int), (((rst (t.take i)).1.countP (fun c => decide (c ∈ LE)) : Nat) : Int), ahOf (t.take i))) ⟨fun j h => by omega, rfl⟩ (fun i x n hx hn => ?_) (fun n hn => ?_)
  · obtain ⟨h1, h2⟩ := hn
    have hi : i < t.length := by rw [← hl]; exact (List.getElem?_eq_some_iff.mp hx).1
    rw [rng_get (by omega)] at hx
    have hx : 0 + (i : Int) = x := Option.some.inj hx
    have hx : x = (i : Int) := by omega
    subst hx
    obtain ⟨d, hd⟩ : ∃ d, t[i]? = some d := ⟨_, List.getElem?_eq_getElem hi⟩
    have hat : atI t (i : Int) = some d := by rw [at_nat]; exact hd
    have I := rinv_take (t := t) (i := i) (by omega) h1
    have tk : t.take (i + 1) = t.take i ++ [d] := by rw [List.take_add_one, hd]; rfl
    have gi := good_iff I d
    have as := ah_snoc (c := d) I
    have cl := cnt_lett (rst (t.take i)).1
    have cl' := cnt_lett (rst (t.take (i + 1))).1
    rw [tk] at cl'
    have bad : mayS (rst (t.take i)).1 (rst (t.take i)).2 d ≠ true → ∃ e : Option Nat, some (i : Int) = Option.map (fun n : Nat => (n : Int)) e ∧ DueP t e := fun z => ⟨some i, rfl, .inl ⟨i, rfl, hi, h1, fun ⟨c, hc, q⟩ => by
      rw [hd] at hc; cases hc; exact z q⟩⟩
    have okUp : mayS (rst (t.take i)).1 (rst (t.take i)).2 d = true → ∀ j, j < i + 1 → okP t j := fun z j hj => by
      by_cases e : j = i
      · rw [e]; exact ⟨d, hd, z⟩
      · exact h1 j (by omega)
    subst h2
    rw [tk]
    generalize hS : (rst (t.take i)).1 = S at *
    generalize hN : (rst (t.take i)).2 = N at *
    generalize hA : ahOf (t.take i) = A at *
    generalize hc : S.countP (fun c => decide (c ∈ LE)) = cnt at *
    have fFig : ([102, 105, 103, 117, 114, 101] : Tx) = tFig := rfl
    have fStart : ([115, 116, 97, 114, 116] : Tx) = tStart := rfl
    have fEnd : ([101, 110, 100] : Tx) = tEnd := rfl
    have fStop : ([115, 116, 111, 112] : Tx) = tStop := rfl
    have fLetter : ([108, 101, 116, 116, 101, 114] : Tx) = tLetter := rfl
    have fNone : ([110, 111, 110, 101] : Tx) = My.tNone := rfl
    have fFG : ([49, 50, 51, 52, 53, 54, 55, 56, 57] : Tx) = FG := rfl
    have fLE : ([97, 98, 99, 100, 101, 102, 103, 104, 105, 106, 107, 108, 109, 110, 111, 112, 113, 114, 115, 116, 117, 118, 119, 120, 121, 122] : Tx) = LE := rfl
    -- the rest of the turn, by the sort
    have fin : ∀ so : Tx, so = sortOf d → Out.sat (Out.lt ((!decide (so = My.tNone)) && (!decide (A = tEnd))) fun l_good => Out.bnd ((fun (s : Unit) => (Res.val ((((decide (so = tFig)) && (decide (A = tFig))) || ((decide (so = tStop)) && ((decide ((cnt : Int) = (0 : Int))) && (!decide (A = tStart))))), s))) ()) fun b _ => (if b = true then Out.lt false fun l_good => Out.nx l_good else Out.nx l_good).seq fun (n6 : Bool) => Out.bnd ((fun (s : Unit) => (Res.val ((((!decide (so = tFig)) && (decide ((S.length : Int) = (22 : Int)))) || (!n6)), s))) ()) fun b _ => (if b = true then Out.ret ((some (i : Int)), ()) else Out.nx ()).seq fun (n7 : Unit) => Out.lt ((S.length : Int) + (if (!decide (so = tFig)) = true then 1 else 0)) fun l_signs => Out.lt ((cnt : Int) + (if (decide (so = tLetter)) = true then 1 else 0)) fun l_letters_here => Out.lt (if ((decide (so = tStop)) && (decide ((0 : Int) < l_letters_here))) = true then tEnd else so) fun l_ahead => (Out.nx (l_signs, l_letters_here, l_ahead) : Out Exc ((Option Int) × Unit) (Int × Int × Tx)))
        (fun n => (∀ j, j < i + 1 → okP t j) ∧ n = (((rst (t.take i ++ [d])).1.length : Int), (((rst (t.take i ++ [d])).1.countP (fun c => decide (c ∈ LE)) : Nat) : Int), ahOf (t.take i ++ [d]))) (fun r => ∃ e : Option Nat, r.1 = Option.map (fun n : Nat => (n : Int)) e ∧ DueP t e) (fun _ => False) := fun so hso => by
      subst hso
      simp only [o_try, s_val, s_valp, s_stuck, s_exn, s_bnd', s_grd, s_itestuck, s_ite, s_up, s_nox, s_fn, s_fnU, o_nx, o_ret, o_stuck, o_exn, o_bnd, o_seq, o_lt, o_itestuck, o_ite, s_if0]
      have cz : ((cnt : Int) = 0) = (lett S = false) := by rw [← cl]; exact propext ⟨fun z => by omega, fun z => by omega⟩
      have good : goodL S.length (lett S) A d → (∀ j, j < i + 1 → okP t j) ∧ ((S.length : Int) + (if (!decide (sortOf d = tFig)) = true then 1 else 0), (cnt : Int) + (if (decide (sortOf d = tLetter)) = true then 1 else 0), (if ((decide (sortOf d = tStop)) && (decide ((0 : Int) < (cnt : Int) + (if (decide (sortOf d = tLetter)) = true then 1 else 0)))) = true then tEnd else sortOf d)) = (((rst (t.take i ++ [d])).1.length : Int), (((rst (t.take i ++ [d])).1.countP (fun c => decide (c ∈ LE)) : Nat) : Int), ahOf (t.take i ++ [d])) := fun hG => by
        have hm := gi.mp hG
        obtain ⟨a1, a2, a3⟩ := as hm
        refine ⟨okUp hm, ?_⟩
        rw [a1, a2, a3]
        have e1 : (S.length : Int) + (if (!decide (sortOf d = tFig)) = true then 1 else 0) = ((S.length + (if sortOf d = tFig then 0 else 1) : Nat) : Int) := by
          by_cases z : sortOf d = tFig
          · rw [if_pos z, if_neg (by simp [z])]; rfl
          · rw [if_neg z, if_pos (by simp [z])]; omega
        have e2 : (cnt : Int) + (if (decide (sortOf d = tLetter)) = true then 1 else 0) = ((cnt + (if sortOf d = tLetter then 1 else 0) : Nat) : Int) := by
          by_cases z : sortOf d = tLetter
          · rw [if_pos z, if_pos (decide_eq_true z)]; omega
          · rw [if_neg z, if_neg (by simp [z])]; rfl
        have e3 : (if ((decide (sortOf d = tStop)) && (decide ((0 : Int) < (cnt : Int) + (if (decide (sortOf d = tLetter)) = true then 1 else 0)))) = true then tEnd else sortOf d) = (if sortOf d = tStop ∧ lett (rst (t.take i ++ [d])).1 = true then tEnd else sortOf d) := by
          rw [e2, ← a3]
          have : (0 : Int) < (((rst (t.take i ++ [d])).1.countP (fun c => decide (c ∈ LE)) : Nat) : Int) ↔ lett (rst (t.take i ++ [d])).1 = true := by
            cases hb : lett (rst (t.take i ++ [d])).1 with
            | true =>
              rw [hb] at cl'
              have : ¬ (rst (t.take i ++ [d])).1.countP (fun c => decide (c ∈ LE)) = 0 := by rw [cl']; simp
              exact ⟨fun _ => rfl, fun _ => by omega⟩
            | false =>
              rw [hb] at cl'
              have : (rst (t.take i ++ [d])).1.countP (fun c => decide (c ∈ LE)) = 0 := by rw [cl']
              exact ⟨fun z => by omega, fun z => nomatch z⟩
          by_cases q : sortOf d = tStop ∧ lett (rst (t.take i ++ [d])).1 = true
          · rw [if_pos q, if_pos (by rw [Bool.and_eq_true]; exact ⟨decide_eq_true q.1, decide_eq_true (this.mpr q.2)⟩)]
          · rw [if_neg q, if_neg (by rw [Bool.and_eq_true]; exact fun z => q ⟨of_decide_eq_true z.1, this.mp (of_decide_eq_true z.2)⟩)]
        rw [e3, e1, e2]
      simp only [cz]
      split
      next hc =>
        -- refused: this sign behind that one
        have nG : ¬ goodL S.length (lett S) A d := fun z => by
          simp at hc
          rcases hc with hc | hc
          · exact z.2.2.1 hc
          · exact z.2.2.2.1 hc
        rw [if_pos (by simp)]
        exact bad fun z => nG (gi.mpr z)
      next hc =>
        split
        next hb =>
          have nG : ¬ goodL S.length (lett S) A d := fun z => by
            simp at hb
            rcases hb with hb | hb
            · exact z.2.2.2.2 ⟨hb.1, by omega⟩
            · rcases hb with hb | hb
              · exact z.1 hb
              · exact z.2.1 hb
          exact bad fun z => nG (gi.mpr z)
        next hb =>
          refine good ?_
          simp at hb hc
          exact ⟨hb.2.1, hb.2.2, fun z => hc.1 z.1 z.2, fun z => hc.2 z.1 z.2.1 |> fun q => z.2.2 q, fun z => hb.1 z.1 (by omega)⟩
    simp only [o_try, s_val, s_valp, s_stuck, s_exn, s_bnd', s_grd, s_itestuck, s_ite, s_up, s_nox, s_fn, s_fnU, o_nx, o_ret, o_stuck, o_exn, o_bnd, o_seq, o_lt, o_itestuck, o_ite, s_if0, hat, Option.isSome_some, Option.getD_some, and_true, List.cons.injEq, fFig, fStart, fEnd, fStop, fLetter, fNone, fFG, fLE, List.headD_cons, List.length_singleton, decide_eq_true_eq, true_and] at fin ⊢
    refine ⟨by omega, ?_⟩
    rcases sort_cases d with ⟨c1, c2, c3, c4⟩ | ⟨c1, c2, c3, c4⟩ | ⟨c1, c2, c3, c4⟩ | ⟨c1, c2, c3, c4⟩
    · simp only [c4, c3, if_pos c1, if_false]
      exact fin _ c2.symm
    · simp only [c4, c3, c1, if_true, if_false]
      exact fin _ c2.symm
    · simp only [c4, c3, c1, if_true, if_false]
      exact fin _ c2.symm
    · simp only [c2, c3, c1, if_true, if_false]
      exact fin _ c4.symm
  · rw [hl] at hn
    obtain ⟨h1, h2⟩ := hn
    rw [List.take_length] at h2
    subst h2
    have cl := cnt_lett (rst t).1
    simp only [o_try, s_val, s_valp, s_stuck, s_exn, s_bnd', s_grd, s_itestuck, s_ite, s_up, s_nox, s_fn, s_fnU, o_nx, o_ret, o_stuck, o_exn, o_bnd, o_seq, o_lt, o_itestuck, o_ite, s_if0, decide_eq_true_eq]
    cases hb : lett (rst t).1 with
    | true =>
      rw [hb] at cl
      have : ¬ (rst t).1.countP (fun c => decide (c ∈ LE)) = 0 := by rw [cl]; simp
      rw [if_neg (by omega)]
      exact ⟨none, rfl, .inr ⟨h1, .inr ⟨hb, rfl⟩⟩⟩
    | false =>
      rw [hb] at cl
      have : (rst t).1.countP (fun c => decide (c ∈ LE)) = 0 := by rw [cl]
      rw [if_pos (by omega)]
      exact ⟨by omega, some t.length, rfl, .inr ⟨h1, .inl ⟨hb, rfl⟩⟩⟩
theorem told_sat {t : Tx} (ht : t.length ≤ 100000) : (m_l_told (t, ()) ()).sat (fun d _ => ∃ e : Option Nat, DueP t e ∧ d = (match e with | none => dTx t | some i => .int i)) (fun _ => False) := by
  unfold m_l_told
  simp only [o_try, s_val, s_valp, s_stuck, s_exn, s_bnd', s_grd, s_itestuck, s_ite, s_up, s_nox, s_fn, s_fnU, o_nx, o_ret, o_stuck, o_exn, o_bnd, o_seq, o_lt, o_itestuck, o_ite, s_if0]
  refine (readp_sat ht).imp (fun r _ ⟨h1, h2, h3, h4, h5⟩ => ?_) (fun x ⟨i, h1, h2⟩ => ?_)
  · obtain ⟨S, N, u⟩ := r
    dsimp only at h2 h3 h4 h5
    have e := shown_pat (S := S) (N := N) (by omega) (by omega) h5
    rw [← h2] at e
    rw [show ((S, N, u), ()) = ((S, N, ()), ()) from rfl, e]
    exact ⟨none, h1, rfl⟩
  · subst h1
    refine ⟨trivial, ?_⟩
    simp only [isNoWord, isNoPattern, Bool.not_false, Bool.and_self, if_true, xPlace, Option.isSome_some, Option.getD_some, true_and]
    exact ⟨some i, h2, rfl⟩
theorem right_eq {t : Tx} (ht : t.length ≤ 100000) : m_l_right (t, ()) () = .val (true, ()) := by
  refine sat_eqU ?_
  unfold m_l_right
  simp only [o_try, s_val, s_valp, s_stuck, s_exn, s_bnd', s_grd, s_itestuck, s_ite, s_up, s_nox, s_fn, s_fnU, o_nx, o_ret, o_stuck, o_exn, o_bnd, o_seq, o_lt, o_itestuck, o_ite, s_if0]
  refine (due_sat ht).to fun d _ ⟨e, h1, h2⟩ => ?_
  refine (told_sat ht).to fun f _ ⟨e', h3, h4⟩ => ?_
  have h5 := h2.uniq h3
  subst h5
  subst h1
  have key : ∀ q : PyData, dOk 7 q → f = q → (m_l_alike 8 (f, q, ()) ()).sat (fun b _ => b = true) (fun _ => False) := fun q hq e => by
    rw [e, alike_refl 7 q hq]; exact rfl
  cases e with
  | none => exact key _ trivial h4
  | some i => exact key _ trivial h4
theorem at_all {α : Type} [Inhabited α] (P : α → Prop) {xs : List α} {i : Int} (h : ∀ x ∈ xs, P x) (h0 : 0 ≤ i) (h1 : i < xs.length) : (atI xs i).isSome = true ∧ P ((atI xs i).getD default) := by
  refine ⟨at_is h0 h1, ?_⟩
  rw [at_get h0 h1]
  exact h _ (List.getElem_mem _)
theorem text_sat {E : Exc → Prop} {s : List Int} (h : Good 400 s) : (m_l_text ((), ()) s).sat (fun t u => t.length ≤ 1000 ∧ Good 200 u) E := by
  have hs := sz20
  unfold m_l_text
  simp only [o_try, s_val, s_valp, s_stuck, s_exn, s_bnd', s_grd, s_itestuck, s_ite, s_up, s_nox, s_fn, s_fnU, o_nx, o_ret, o_stuck, o_exn, o_bnd, o_seq, o_lt, o_itestuck, o_ite, s_if0]
  refine (letters_sat (k := 397) h).to fun t u ⟨⟨t1, t2, t3⟩, g⟩ => ?_
  have a0 : (atI t 0).isSome = true := at_is (by omega) (by omega)
  have a1 : (atI t (-1)).isSome = true := by rw [at_last (by omega), List.getElem?_eq_getElem (by omega)]; rfl
  have hl20 : t.length ≤ sizeLine := by omega
  simp only [a0, a1, hl20, true_and, and_true]
  refine ⟨by simp, ?_⟩
  generalize hX : (([46] : Tx) :: [49] :: [57] :: [(atI t 0).getD 0] :: [(atI t (-1)).getD 0] :: [(atI t 0).getD 0] :: [48] :: []) = X
  have xl : X.length = 7 := by rw [← hX]; rfl
  have x1 : ∀ x ∈ X, x.length = 1 := fun x hx => by
    rw [← hX] at hx
    simp only [List.mem_cons, List.not_mem_nil, or_false] at hx
    rcases hx with rfl | rfl | rfl | rfl | rfl | rfl | rfl <;> rfl
  refine (next_sat (k := 396) g (by decide) (by decide)).to fun f u ⟨⟨f1, f2⟩, g⟩ => ?_
  obtain ⟨q1, q2⟩ := at_all (fun x : Int => 1 ≤ x ∧ x ≤ 7) (xs := ([7, 6, 5] : List Int)) (i := f) (by decide) f1 f2
  refine ⟨q1, ?_⟩
  generalize (atI ([7, 6, 5] : List Int) f).getD default = few at q2
  refine (next_sat (k := 395) g (by decide) (by decide)).to fun m1 u ⟨⟨m11, m12⟩, g⟩ => ?_
  refine (next_sat (k := 394) g (by decide) (by decide)).to fun m2 u ⟨⟨m21, m22⟩, g⟩ => ?_
  refine ⟨by simp, (next_sat (k := 393) g (by decide) (by decide)).to fun z u ⟨_, g⟩ => ?_⟩
  obtain ⟨q3, q4⟩ := at_all (fun x : Int => 0 ≤ x ∧ x ≤ 30) (xs := ([m1, m2] : List Int)) (i := if decide (z = 0) = true then 1 else 0) (fun x hx => by simp at hx; rcases hx with rfl | rfl <;> omega) (by split <;> omega) (by split <;> simp)
  refine ⟨q3, ?_⟩
  generalize (atI ([m1, m2] : List Int) (if decide (z = 0) = true then 1 else 0)).getD default = d at q4
  have hl : (rng 0 d).length = d.toNat := by rw [rng_len]; omega
  refine ⟨rng_ok (by omega) (by omega) (by omega) (by omega), ?_⟩
  refine o_for (fun i n => n.1.length ≤ i ∧ Good (393 - 4 * i) n.2) ⟨Nat.le_refl _, g⟩ (fun i x n hx hn => ?_) (fun n hn => ?_)
  · have hi : i < d.toNat := by rw [← hl]; exact (List.getElem?_eq_some_iff.mp hx).1
    obtain ⟨h1, g⟩ := hn
    simp only [o_try, s_val, s_valp, s_stuck, s_exn, s_bnd', s_grd, s_itestuck, s_ite, s_up, s_nox, s_fn, s_fnU, o_nx, o_ret, o_stuck, o_exn, o_bnd, o_seq, o_lt, o_itestuck, o_ite, s_if0]
    refine (next_sat (k := 392 - 4 * i) (g.le (by omega)) (by omega) (by omega)).to fun a u ⟨⟨a1, a2⟩, g⟩ => ?_
    obtain ⟨q5, q6⟩ := at_all (fun x : Tx => x.length = 1) (xs := X) (i := a) x1 a1 (by omega)
    refine ⟨q5, (next_sat (k := 391 - 4 * i) (g.le (by omega)) (by decide) (by decide)).to fun b u ⟨_, g⟩ => ?_⟩
    split
    · refine (next_sat (k := 390 - 4 * i) (g.le (by omega)) (by decide) (by decide)).to fun e u ⟨⟨e1, e2⟩, g⟩ => ?_
      exact ⟨⟨by simp; omega, at_is e1 e2⟩, by simp; omega, by simp; omega, g.le (by omega)⟩
    · exact ⟨by omega, by rw [List.length_append]; omega, g.le (by omega)⟩
  · rw [hl] at hn
    exact ⟨by omega, hn.2.le (by omega)⟩
theorem bent_sat {E : Exc → Prop} {s : List Int} (h : Good 200 s) : (m_l_bent ((), ()) s).sat (fun t u => t.length ≤ 1000 ∧ Good 0 u) E := by
  have hs := sz20
  unfold m_l_bent
  simp only [o_try, s_val, s_valp, s_stuck, s_exn, s_bnd', s_grd, s_itestuck, s_ite, s_up, s_nox, s_fn, s_fnU, o_nx, o_ret, o_stuck, o_exn, o_bnd, o_seq, o_lt, o_itestuck, o_ite, s_if0]
  refine (letters_sat (k := 197) h).to fun t u ⟨⟨t1, t2, t3⟩, g⟩ => ?_
  refine (word_sat (k := 170) (by decide) (by decide) t1 (by omega) (g.le (by decide))).to fun w u ⟨⟨w1, w2, w3⟩, g⟩ => ?_
  have w2 : w.length ≤ 21 := w2
  refine (next_sat (k := 169) g (by decide) (by decide)).to fun r u ⟨⟨r1, r2⟩, g⟩ => ?_
  obtain ⟨q1, q2⟩ := at_all (fun x : Tx => x.length ≤ 1) (xs := ([[], [46], [51]] : List Tx)) (i := r) (by decide) r1 r2
  refine ⟨q1, ?_⟩
  refine o_for (fun i n => n.1.length ≤ 1 + 2 * i ∧ Good (169 - i) n.2) ⟨q2, g⟩ (fun i x n hx hn => ?_) (fun n hn => ?_)
  · have hi : i < w.length := by have := (List.getElem?_eq_some_iff.mp hx).1; rwa [List.length_map] at this
    rw [List.getElem?_map] at hx
    obtain ⟨c, _, hc⟩ := Option.map_eq_some_iff.mp hx
    subst hc
    obtain ⟨h1, g⟩ := hn
    simp only [o_try, s_val, s_valp, s_stuck, s_exn, s_bnd', s_grd, s_itestuck, s_ite, s_up, s_nox, s_fn, s_fnU, o_nx, o_ret, o_stuck, o_exn, o_bnd, o_seq, o_lt, o_itestuck, o_ite, s_if0]
    refine ⟨by simp; omega, (next_sat (k := 168 - i) (g.le (by omega)) (by decide) (by decide)).to fun a u ⟨⟨a1, a2⟩, g⟩ => ?_⟩
    obtain ⟨q5, q6⟩ := at_all (fun x : Tx => x.length ≤ 1) (xs := ([[], [], [50], [55]] : List Tx)) (i := a) (by decide) a1 a2
    refine ⟨q5, by rw [List.length_append]; simp; omega, by rw [List.length_append, List.length_append]; simp; omega, g.le (by omega)⟩
  · rw [List.length_map] at hn
    obtain ⟨hn, g⟩ := hn
    refine (next_sat (k := 147) (g.le (by omega)) (by decide) (by decide)).to fun b u ⟨⟨b1, b2⟩, g⟩ => ?_
    obtain ⟨q5, q6⟩ := at_all (fun x : Tx => x.length ≤ 1) (xs := ([[], [46]] : List Tx)) (i := b) (by decide) b1 b2
    refine ⟨q5, by omega, ?_⟩
    have tl : (n.1 ++ (atI ([[], [46]] : List Tx) b).getD default).length ≤ 100 := by rw [List.length_append]; omega
    generalize (n.1 ++ (atI ([[], [46]] : List Tx) b).getD default) = T at tl
    refine ⟨by omega, (next_sat (k := 146) (g.le (by omega)) (by omega) (by omega)).to fun a u ⟨⟨a1, a2⟩, g⟩ => ?_⟩
    refine (next_sat (k := 145) (g.le (by omega)) (by decide) (by decide)).to fun e u ⟨⟨e1, e2⟩, g⟩ => ?_
    obtain ⟨q7, q8⟩ := at_all (fun x : Tx => x.length ≤ 1) (xs := ([[46], [49], [97], [48], [], [122]] : List Tx)) (i := e) (by decide) e1 e2
    have l1 := @cut_len _ T none (some a)
    refine ⟨q7, by omega, by omega, (next_sat (k := 144) (g.le (by omega)) (by decide) (by decide)).to fun f u ⟨⟨f1, f2⟩, g⟩ => ?_⟩
    have l2 := @cut_len _ T (some (a + f)) none
    simp only [List.length_append]
    exact ⟨by omega, by omega, by omega, g.le (by omega)⟩
theorem law_true (ns : List Int) (h : ns.length ≤ 63) : m_law_ (ns, ()) () = .val (true, ()) := by
  have hs := sz20
  refine sat_eqU ?_
  unfold m_law_
  simp only [o_try, s_val, s_valp, s_stuck, s_exn, s_bnd', s_grd, s_itestuck, s_ite, s_up, s_nox, s_fn, s_fnU, o_nx, o_ret, o_stuck, o_exn, o_bnd, o_seq, o_lt, o_itestuck, o_ite, s_if0]
  refine o_forI (fun _ => True) trivial (fun x m hx _ => ?_) (fun _ _ => ?_)
  · have hl : x.length ≤ 10 := by
      simp only [List.mem_cons, List.not_mem_nil, or_false] at hx
      rcases hx with rfl | rfl | rfl | rfl | rfl | rfl | rfl | rfl | rfl | rfl | rfl | rfl | rfl | rfl | rfl | rfl | rfl <;> decide
    simp only [o_try, s_val, s_valp, s_stuck, s_exn, s_bnd', s_grd, s_itestuck, s_ite, s_up, s_nox, s_fn, s_fnU, o_nx, o_ret, o_stuck, o_exn, o_bnd, o_seq, o_lt, o_itestuck, o_ite, s_if0, right_eq (t := x) (by omega), Bool.not_true, Bool.false_eq_true, if_false]
  · generalize hm : (if (ns.length : Int) < 30 then (ns.length : Int) else 30) = m
    have hm2 : 0 ≤ m ∧ m ≤ 30 := by rw [← hm]; split <;> omega
    refine ⟨rng_ok (by omega) (by omega) (by omega) (by omega), ?_⟩
    refine o_forI (fun _ => True) trivial (fun x m hx _ => ?_) (fun _ _ => trivial)
    simp only [o_try, s_val, s_valp, s_stuck, s_exn, s_bnd', s_grd, s_itestuck, s_ite, s_up, s_nox, s_fn, s_fnU, o_nx, o_ret, o_stuck, o_exn, o_bnd, o_seq, o_lt, o_itestuck, o_ite, s_if0]
    refine (feed_sat (K := 400) (by decide)).to fun d _ g => ?_
    refine (text_sat g).to fun t u ⟨h1, g⟩ => ?_
    simp only [o_try, s_val, s_valp, s_stuck, s_exn, s_bnd', s_grd, s_itestuck, s_ite, s_up, s_nox, s_fn, s_fnU, o_nx, o_ret, o_stuck, o_exn, o_bnd, o_seq, o_lt, o_itestuck, o_ite, s_if0, right_eq (t := t) (by omega), Bool.not_true, Bool.false_eq_true, if_false]
    refine (bent_sat g).to fun t u ⟨h1, g⟩ => ?_
    simp only [o_try, s_val, s_valp, s_stuck, s_exn, s_bnd', s_grd, s_itestuck, s_ite, s_up, s_nox, s_fn, s_fnU, o_nx, o_ret, o_stuck, o_exn, o_bnd, o_seq, o_lt, o_itestuck, o_ite, s_if0, right_eq (t := t) (by omega), Bool.not_true, Bool.false_eq_true, if_false]

end My


namespace My
open PySem PySem.Spec PyProof.Rows L2 Fw
def dfs : List He.DefD := [
  ⟨("may_stand", none), "may_stand", "may_stand", defArgs s_may_stand, defBody s_may_stand, defScope s_may_stand, [], []⟩,
  ⟨("read_pattern", none), "read_pattern", "read_pattern", defArgs s_read_pattern, defBody s_read_pattern, defScope s_read_pattern, [], []⟩,
  ⟨("shown_pattern", none), "shown_pattern", "shown_pattern", defArgs s_shown_pattern, defBody s_shown_pattern, defScope s_shown_pattern, [], []⟩,
  ⟨("_law_feed", none), "_law_feed", "_law_feed", defArgs s_l_feed, defBody s_l_feed, defScope s_l_feed, [], []⟩,
  ⟨("_law_next", none), "_law_next", "_law_next", defArgs s_l_next, defBody s_l_next, defScope s_l_next, [], []⟩,
  ⟨("_law_alike", none), "_law_alike", "_law_alike", defArgs s_l_alike, defBody s_l_alike, defScope s_l_alike, [], []⟩,
  ⟨("_law_letters", none), "_law_letters", "_law_letters", defArgs s_l_letters, defBody s_l_letters, defScope s_l_letters, [], []⟩,
  ⟨("_law_word", none), "_law_word", "_law_word", defArgs s_l_word, defBody s_l_word, defScope s_l_word, [], []⟩,
  ⟨("_law_text", none), "_law_text", "_law_text", defArgs s_l_text, defBody s_l_text, defScope s_l_text, [], []⟩,
  ⟨("_law_bent", none), "_law_bent", "_law_bent", defArgs s_l_bent, defBody s_l_bent, defScope s_l_bent, [], []⟩,
  ⟨("_law_due", none), "_law_due", "_law_due", defArgs s_l_due, defBody s_l_due, defScope s_l_due, [], []⟩,
  ⟨("_law_told", none), "_law_told", "_law_told", defArgs s_l_told, defBody s_l_told, defScope s_l_told, [], []⟩,
  ⟨("_law_right", none), "_law_right", "_law_right", defArgs s_l_right, defBody s_l_right, defScope s_l_right, [], []⟩,
  ⟨("law", none), "law", "law", defArgs s_law_, defBody s_law_, defScope s_law_, [], []⟩,
  ⟨("NoWord", some "__init__"), "__init__", "NoWord.__init__", defArgs s_init_NoWord, defBody s_init_NoWord, defScope s_init_NoWord, [], []⟩,
  ⟨("NoPattern", some "__init__"), "__init__", "NoPattern.__init__", defArgs s_init_NoPattern, defBody s_init_NoPattern, defScope s_init_NoPattern, [], []⟩]
def fbs : List (PySem.W.Frag → Bool) := [(fun K => exbB K (He.ga K "WordError")),
  (fun K => exkB K (He.ga K "NoWord")),
  (fun K => exoB K (He.ga K "NoWord") "place" (He.ma K (He.ga K "NoWord") "__init__")),
  (fun K => decide (PySem.W.kitOne K (.ref (He.ga K "NoWord")) (.ref (He.ga K "NoPattern")) = some false)),
  (fun K => decide (PySem.W.kitOne K (.ref (He.ga K "NoWord")) (.ref (He.ga K "NoWord")) = some true)),
  (fun K => decide (PySem.W.kitOne K (.ref (He.ga K "NoWord")) (.type "ValueError") = some true)),
  (fun K => exkB K (He.ga K "NoPattern")),
  (fun K => exoB K (He.ga K "NoPattern") "place" (He.ma K (He.ga K "NoPattern") "__init__")),
  (fun K => decide (PySem.W.kitOne K (.ref (He.ga K "NoPattern")) (.ref (He.ga K "NoPattern")) = some true)),
  (fun K => decide (PySem.W.kitOne K (.ref (He.ga K "NoPattern")) (.ref (He.ga K "NoWord")) = some false)),
  (fun K => decide (PySem.W.kitOne K (.ref (He.ga K "NoPattern")) (.type "ValueError") = some true))]
def fas0 : List He.Fa := [.glo "may_stand", .glo "read_pattern", .glo "shown_pattern", .glo "_law_feed", .glo "_law_next", .glo "_law_alike", .glo "_law_letters", .glo "_law_word", .glo "_law_text", .glo "_law_bent", .glo "_law_due", .glo "_law_told", .glo "_law_right", .glo "law", .str "LETTERS" "abcdefghijklmnopqrstuvwxyz", .str "STOP" ".", .str "FIGURES" "123456789", .int "MOST_SIGNS" 22, .free "len", .free "abs", .free "min", .free "int", .free "str", .free "all", .free "any", .free "tuple", .free "list", .free "range", .free "enumerate", .free "isinstance"]
def fas1 : List He.Fa := [.free "bool", .free "ValueError", .glo "WordError", .glo "NoWord", .exm "NoWord" "WordError" true, .glo "NoPattern", .exm "NoPattern" "WordError" true]
def fas : List He.Fa := fas0 ++ fas1
def nms0 : List Str := ["WordError", "NoWord", "NoPattern", "LETTERS", "STOP", "FIGURES", "MOST_SIGNS", "may_stand", "read_pattern", "shown_pattern", "_law_feed", "_law_next", "_law_alike", "_law_letters", "_law_word", "_law_text", "_law_bent", "_law_due", "_law_told", "_law_right"]
def nms : List Str := nms0
abbrev R : PySem.W.OpenRow := PySem.W.OpenLaw.row PySem.Challenge.rw_breakwords_k04_what_writes_no_pattern
abbrev hk : PySem.W.Hook := hookB 4 fas fbs dfs
def ob (s : PySem.W.SharedT) : He.AlD := obsBG 4 fas fbs dfs (HandSHeadRun.getT s)
theorem ob_eq (s : PySem.W.SharedT) : ob s = hk.obs s.abs := obsBG_eq (HandSHeadRun.getT_eq s)
abbrev vw : Program := PySem.W.view R.prog [23]
theorem run (w : World) : HandSHeadRun.RunEq R vw hk ob 8000 nms w := by
  intro os
  kernel_rfl
theorem tops {K : PySem.W.Frag} {h : Heap} {mg : Str → Option Value} (X : K.In h) (G : h.Ns mainGlobals mg) (cb : SaysB fas fbs dfs K) : Nonempty (Tops K mg) := by
  have c := cb.d
  obtain ⟨d0, F0⟩ := c.def_ 0 (d := dfs[0]) rfl
  obtain ⟨d1, F1⟩ := c.def_ 1 (d := dfs[1]) rfl
  obtain ⟨d2, F2⟩ := c.def_ 2 (d := dfs[2]) rfl
  obtain ⟨d3, F3⟩ := c.def_ 3 (d := dfs[3]) rfl
  obtain ⟨d4, F4⟩ := c.def_ 4 (d := dfs[4]) rfl
  obtain ⟨d5, F5⟩ := c.def_ 5 (d := dfs[5]) rfl
  obtain ⟨d6, F6⟩ := c.def_ 6 (d := dfs[6]) rfl
  obtain ⟨d7, F7⟩ := c.def_ 7 (d := dfs[7]) rfl
  obtain ⟨d8, F8⟩ := c.def_ 8 (d := dfs[8]) rfl
  obtain ⟨d9, F9⟩ := c.def_ 9 (d := dfs[9]) rfl
  obtain ⟨d10, F10⟩ := c.def_ 10 (d := dfs[10]) rfl
  obtain ⟨d11, F11⟩ := c.def_ 11 (d := dfs[11]) rfl
  obtain ⟨d12, F12⟩ := c.def_ 12 (d := dfs[12]) rfl
  obtain ⟨d13, F13⟩ := c.def_ 13 (d := dfs[13]) rfl
  obtain ⟨k0, K0⟩ := He.str_ok X G (c.fact 14 rfl)
  obtain ⟨k1, K1⟩ := He.str_ok X G (c.fact 15 rfl)
  obtain ⟨k2, K2⟩ := He.str_ok X G (c.fact 16 rfl)
  obtain ⟨k3, K3⟩ := He.int_ok X G (c.fact 17 rfl)
  obtain ⟨di_NoWord, FI_NoWord⟩ := c.def_ 14 (d := dfs[14]) rfl
  obtain ⟨di_NoPattern, FI_NoPattern⟩ := c.def_ 15 (d := dfs[15]) rfl
  exact ⟨{
    f_may_stand := _, d_may_stand := d0, F_may_stand := fun_ofD F0, g_may_stand := He.glo_ok X G (c.fact 0 rfl), b_may_stand := F0.bindsN fun _ _ _ _ _ _ us hl => match us, hl with | [_, _, _], _ => rfl
    f_read_pattern := _, d_read_pattern := d1, F_read_pattern := fun_ofD F1, g_read_pattern := He.glo_ok X G (c.fact 1 rfl), b_read_pattern := F1.bindsN fun _ _ _ _ _ _ us hl => match us, hl with | [_], _ => rfl
    f_shown_pattern := _, d_shown_pattern := d2, F_shown_pattern := fun_ofD F2, g_shown_pattern := He.glo_ok X G (c.fact 2 rfl), b_shown_pattern := F2.bindsN fun _ _ _ _ _ _ us hl => match us, hl with | [_], _ => rfl
    f_l_feed := _, d_l_feed := d3, F_l_feed := fun_ofD F3, g_l_feed := He.glo_ok X G (c.fact 3 rfl), b_l_feed := F3.bindsN fun _ _ _ _ _ _ us hl => match us, hl with | [_, _], _ => rfl
    f_l_next := _, d_l_next := d4, F_l_next := fun_ofD F4, g_l_next := He.glo_ok X G (c.fact 4 rfl), b_l_next := F4.bindsN fun _ _ _ _ _ _ us hl => match us, hl with | [_, _], _ => rfl
    f_l_alike := _, d_l_alike := d5, F_l_alike := fun_ofD F5, g_l_alike := He.glo_ok X G (c.fact 5 rfl), b_l_alike := F5.bindsN fun _ _ _ _ _ _ us hl => match us, hl with | [_, _], _ => rfl
    f_l_letters := _, d_l_letters := d6, F_l_letters := fun_ofD F6, g_l_letters := He.glo_ok X G (c.fact 6 rfl), b_l_letters := F6.bindsN fun _ _ _ _ _ _ us hl => match us, hl with | [_], _ => rfl
    f_l_word := _, d_l_word := d7, F_l_word := fun_ofD F7, g_l_word := He.glo_ok X G (c.fact 7 rfl), b_l_word := F7.bindsN fun _ _ _ _ _ _ us hl => match us, hl with | [_, _, _], _ => rfl
    f_l_text := _, d_l_text := d8, F_l_text := fun_ofD F8, g_l_text := He.glo_ok X G (c.fact 8 rfl), b_l_text := F8.bindsN fun _ _ _ _ _ _ us hl => match us, hl with | [_], _ => rfl
    f_l_bent := _, d_l_bent := d9, F_l_bent := fun_ofD F9, g_l_bent := He.glo_ok X G (c.fact 9 rfl), b_l_bent := F9.bindsN fun _ _ _ _ _ _ us hl => match us, hl with | [_], _ => rfl
    f_l_due := _, d_l_due := d10, F_l_due := fun_ofD F10, g_l_due := He.glo_ok X G (c.fact 10 rfl), b_l_due := F10.bindsN fun _ _ _ _ _ _ us hl => match us, hl with | [_], _ => rfl
    f_l_told := _, d_l_told := d11, F_l_told := fun_ofD F11, g_l_told := He.glo_ok X G (c.fact 11 rfl), b_l_told := F11.bindsN fun _ _ _ _ _ _ us hl => match us, hl with | [_], _ => rfl
    f_l_right := _, d_l_right := d12, F_l_right := fun_ofD F12, g_l_right := He.glo_ok X G (c.fact 12 rfl), b_l_right := F12.bindsN fun _ _ _ _ _ _ us hl => match us, hl with | [_], _ => rfl
    f_law_ := _, d_law_ := d13, F_law_ := fun_ofD F13, g_law_ := He.glo_ok X G (c.fact 13 rfl), b_law_ := F13.bindsN fun _ _ _ _ _ _ us hl => match us, hl with | [_], _ => rfl
    u_LETTERS := k0, k_LETTERS := K0
    u_STOP := k1, k_STOP := K1
    u_FIGURES := k2, k_FIGURES := K2
    u_MOST_SIGNS := k3, k_MOST_SIGNS := K3
    z_len := He.free_ok X G (c.fact 18 rfl)
    z_abs := He.free_ok X G (c.fact 19 rfl)
    z_min := He.free_ok X G (c.fact 20 rfl)
    z_int := He.free_ok X G (c.fact 21 rfl)
    z_str := He.free_ok X G (c.fact 22 rfl)
    z_all := He.free_ok X G (c.fact 23 rfl)
    z_any := He.free_ok X G (c.fact 24 rfl)
    z_tuple := He.free_ok X G (c.fact 25 rfl)
    z_list := He.free_ok X G (c.fact 26 rfl)
    z_range := He.free_ok X G (c.fact 27 rfl)
    z_enumerate := He.free_ok X G (c.fact 28 rfl)
    z_isinstance := He.free_ok X G (c.fact 29 rfl)
    z_bool := He.free_ok X G (c.fact 30 rfl)
    z_ValueError := He.free_ok X G (c.fact 31 rfl), c_WordError := He.ga K "WordError", gc_WordError := He.glo_ok X G (c.fact 32 rfl), B_WordError := exbB_ok (cb.own 0 rfl)
    c_NoWord := He.ga K "NoWord", gc_NoWord := He.glo_ok X G (c.fact 33 rfl), K_NoWord := exkB_ok (cb.own 1 rfl)
    i_NoWord := _, d_init_NoWord := di_NoWord, O_NoWord := exoB_ok (cb.own 2 rfl), FI_NoWord := fun_ofD FI_NoWord, bI_NoWord := FI_NoWord.bindsN fun _ _ _ _ _ _ us hl => match us, hl with | [_, _], _ => rfl
    kx_NoWord_NoPattern := of_decide_eq_true (cb.own 3 rfl)
    kx_NoWord_NoWord := of_decide_eq_true (cb.own 4 rfl)
    kx_NoWord_ValueError := of_decide_eq_true (cb.own 5 rfl)
    em_NoWord_WordError := He.exm_ok (c.fact 34 rfl)
    c_NoPattern := He.ga K "NoPattern", gc_NoPattern := He.glo_ok X G (c.fact 35 rfl), K_NoPattern := exkB_ok (cb.own 6 rfl)
    i_NoPattern := _, d_init_NoPattern := di_NoPattern, O_NoPattern := exoB_ok (cb.own 7 rfl), FI_NoPattern := fun_ofD FI_NoPattern, bI_NoPattern := FI_NoPattern.bindsN fun _ _ _ _ _ _ us hl => match us, hl with | [_, _], _ => rfl
    kx_NoPattern_NoPattern := of_decide_eq_true (cb.own 8 rfl)
    kx_NoPattern_NoWord := of_decide_eq_true (cb.own 9 rfl)
    kx_NoPattern_ValueError := of_decide_eq_true (cb.own 10 rfl)
    em_NoPattern_WordError := He.exm_ok (c.fact 36 rfl)
    }⟩
end My
open PySem PySem.W PySem.Calls PyProof.Rows
theorem PySem.Challenge.cw_breakwords_k04_what_writes_no_pattern_holds : PySem.Challenge.rw_breakwords_k04_what_writes_no_pattern.Holds := by
  w_on; o_law
  refine HandSHeadRun.head_any (r := My.R) (q := My.vw) (H := My.hk) (ob := My.ob) (M := 8000) (loose := My.nms) (d := HandSHeadRun.topDef My.R.prog 23) (kwd := []) My.ob_eq
    (by kernel_rfl) (fun s => by kernel_rfl) My.run (by kernel_rfl) (by kernel_rfl) (by kernel_rfl) (by rfl) (by first | assumption | decide +kernel) (by decide +kernel) ⟨rfl, rfl, rfl, rfl, rfl, by decide +kernel⟩ ?hw ?hc
  case hw => w_witness2
  case hc =>
    refine Fw.walk_ofW (l := PySem.Challenge.rw_breakwords_k04_what_writes_no_pattern) (k := 10) (x := "_law_script") (ε := My.Exc) rfl (by kernel_rfl) ⟨rfl, by decide, by decide⟩ ?F
    intro w mg fa h Y G hmg0
    obtain ⟨K, KX, c⟩ := Y
    have hmg : mg ("law" : PySem.Str) = some (.ref fa) := by
      have e : (HandSHeadRun.topDef My.R.prog 23).name = ("law" : PySem.Str) := by kernel_rfl
      rw [← e]
      exact hmg0
    obtain ⟨T⟩ := My.tops KX G c
    have e := hmg.symm.trans T.g_law_
    cases e
    exact ⟨K, T.d_law_, My.xt T, My.m_law_, KX, fun s v => Fw.binds_all (ps := ["_law_script"]) T.F_law_ (fun _ _ _ _ _ _ us hl => match us, hl with | [_], _ => rfl) s [v] rfl, My.law_true, fun base _ _ => My.ok_law_ T⟩


