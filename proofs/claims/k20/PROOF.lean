import PyProof.Rows.All
import Wide.All
import OpenK.AllK
import Wide.FinOn
import HandS.ForMost
import HandS.Exc
import HandS.WordsExc
import HandS.TupAny
import HandS.ExcOwn
import HandS.Codes
import HandS.IsInst
import KE.GoesMore
import KE.GoesEnum
import HandS.Text
import HandS.StrMore
import HandS.List
import KE.DataMinMax
import HandS.ExcInit
import HandS.ExcField
import HandS.ExcIs
import HandS.HeadHook2
import KE.KExcIs
import HandS.Dict
import HandS.Iter
import HandS.Small
import HandS.More
import HandS.Style
import KE.SortData
import HandS.Deep
import HandS.ExcValue
import HandS.Rev
import HandS.Conv
import PyProof.Rows.TupDisplay
import HandS.WordsDict
import KE.KDictZip
import KE.KItemsList
import HandS.ListItems
import HandS.Zip
import KE.KDictPairs
import KE.KRevIter
import HandS.RevTup
import HandS.Set
import HandS.SetFor
import HandS.SetTxtIn
import HandS.Strs
import PyProof.StrLawsIn
import KE.KStateDown
import HandS.Ends
import HandS.Head0
import HandS.Head1
import HandS.Head2
import HandS.HeadEnd
import HandS.HeadHook1
import PySem.Challenge.RW_breakwords_k20_woods_knot_by_knot
set_option Elab.async false
set_option linter.all false
set_option maxRecDepth 100000
set_option maxHeartbeats 0
namespace Fw
open PySem L2

/-! ## 0. arguments without stars -/
def isStar : Expr → Bool
  | .Starred _ _ => true
  | _ => false
theorem star_c {e : Expr} {es : List Expr} {env : Env} (h : isStar e = false) : starEach (e :: es) env = (false, eval e env) :: starEach es env := by
  cases e <;> first | (simp only [starEach]; done) | cases h
theorem star_2 {a b : Expr} {env : Env} (h : isStar a = false) (k : isStar b = false) : starEach [a, b] env = [(false, eval a env), (false, eval b env)] := by
  rw [star_c h, star_c k]; simp only [starEach]
/-! ## 1. weakest promises of the syntax, as readings -/
@[irreducible] def wE (X : Cx) (e : Expr) : TE := fun σ H Q => ∀ (pins : List (Addr × Obj)) (s : Shared), Inv X pins σ H s → wpAny (model X.prog X.w) X.A (eval e X.env) (EP X pins σ Q) X.xe s
@[irreducible] def wT (X : Cx) (e : Expr) : TT := fun σ H Q => ∀ (pins : List (Addr × Obj)) (s : Shared), Inv X pins σ H s → wpAny (model X.prog X.w) X.A (isTrue e X.env (eval e X.env)) (TP X pins σ Q) X.xe s
@[irreducible] def wW (X : Cx) (e : Expr) : TT := fun σ H Q => ∀ (whole : Sem Value) (pins : List (Addr × Obj)) (s : Shared), Inv X pins σ H s → wpAny (model X.prog X.w) X.A (isTrue e X.env whole) (TP X pins σ Q) X.xe s
@[irreducible] def wA (X : Cx) (es : List Expr) : TA := fun σ H Q => ∀ (pos : Pos) (pins : List (Addr × Obj)) (s : Shared), Inv X pins σ H s → wpAny (model X.prog X.w) X.A (spliced (backTo pos (starEach es X.env))) (AP X pins σ Q) X.xe s
@[irreducible] def wS (X : Cx) (st : Stmt) : TS := fun D σ H => ∀ (pins : List (Addr × Obj)) (s : Shared), Inv X pins σ H s → wpAny (model X.prog X.w) X.A (exec st X.env) (SP X pins D) X.xe s
@[irreducible] def wSs (X : Cx) (st : List Stmt) : TS := fun D σ H => ∀ (pins : List (Addr × Obj)) (s : Shared), Inv X pins σ H s → wpAny (model X.prog X.w) X.A (execs st X.env) (SP X pins D) X.xe s
section
variable {X : Cx} {e : Expr} {es : List Expr} {st : Stmt} {sts : List Stmt} {σ : St} {H : Hp}
theorem pe_w : PE X e (wE X e) := ⟨fun pins s _ _ _ I h => by unfold wE at h; exact h pins s I⟩
theorem pt_w : PT X e (wT X e) := ⟨fun pins s _ _ _ I h => by unfold wT at h; exact h pins s I⟩
theorem pw_w : PW X e (wW X e) := ⟨fun whole pins s _ _ _ I h => by unfold wW at h; exact h whole pins s I⟩
theorem pa_w : PA X es (wA X es) := ⟨fun pos pins s _ _ _ I h => by unfold wA at h; exact h pos pins s I⟩
theorem ps_w : PS X st (wS X st) := ⟨fun pins s _ _ _ I h => by unfold wS at h; exact h pins s I⟩
theorem pss_w : PSs X sts (wSs X sts) := ⟨fun pins s _ _ _ I h => by unfold wSs at h; exact h pins s I⟩
theorem PE_to {t : TE} (p : PE X e t) {Q : VK} (h : t σ H Q) : wE X e σ H Q := by unfold wE; exact fun pins s I => p.run pins s σ H Q I h
theorem PT_to {t : TT} (p : PT X e t) {Q} (h : t σ H Q) : wT X e σ H Q := by unfold wT; exact fun pins s I => p.run pins s σ H Q I h
theorem PW_to {t : TT} (p : PW X e t) {Q} (h : t σ H Q) : wW X e σ H Q := by unfold wW; exact fun w pins s I => p.run w pins s σ H Q I h
theorem PA_to {t : TA} (p : PA X es t) {Q} (h : t σ H Q) : wA X es σ H Q := by unfold wA; exact fun pos pins s I => p.run pos pins s σ H Q I h
theorem PS_to {t : TS} (p : PS X st t) {D} (h : t D σ H) : wS X st D σ H := by unfold wS; exact fun pins s I => p.run pins s σ H D I h
theorem PSs_to {t : TS} (p : PSs X sts t) {D} (h : t D σ H) : wSs X sts D σ H := by unfold wSs; exact fun pins s I => p.run pins s σ H D I h
theorem wE_mono {Q Q' : VK} (h : wE X e σ H Q) (k : ∀ v H', Q v H' → Q' v H') : wE X e σ H Q' := by unfold wE at h ⊢; exact fun pins s I => thn (h pins s I) fun u s' ⟨v, H', I', r, q⟩ => ⟨v, H', I', r, k v H' q⟩
theorem wT_mono {Q Q' : Bool → Hp → Prop} (h : wT X e σ H Q) (k : ∀ v H', Q v H' → Q' v H') : wT X e σ H Q' := by unfold wT at h ⊢; exact fun pins s I => thn (h pins s I) fun u s' ⟨H', I', q⟩ => ⟨H', I', k u H' q⟩
end

/-! ## 2. what stands in the heap: an immutable part I, owned regions L -/
theorem Same.upd {H : Hp} {p : Addr} {o : HO} (h : H p = none) : Same H (upd H p o) := fun b u e => by
  rw [upd_ne (ne_of_none e h)]
  exact e
theorem Same.upd2 {I H : Hp} {p : Addr} {o : HO} (h : Same I H) : Same (L2.upd I p o) (L2.upd H p o) := fun b u e => by
  by_cases hb : b = p
  · subst hb
    rw [upd_same] at e ⊢
    exact e
  · rw [upd_ne hb] at e ⊢
    exact h b u e
theorem Same.rd {I H : Hp} {p : Addr} {o : HO} (h : Same I H) (r : Rd I p o) : Rd H p o := by
  rcases r with r | ⟨u, r⟩
  · exact .inl (h _ _ r)
  · exact .inr ⟨u, h _ _ r⟩
theorem Same.sql {K : PySem.W.Frag} {I H : Hp} {p : Addr} {xs : List V} (h : Same I H) (r : SqL K I p xs) : SqL K H p xs := by
  rcases r with r | r
  · exact .inl (Same.rd h r)
  · exact .inr r
theorem Same.sqt {K : PySem.W.Frag} {I H : Hp} {p : Addr} {xs : List V} (h : Same I H) (r : SqT K I p xs) : SqT K H p xs := by
  rcases r with r | r
  · exact .inl (Same.rd h r)
  · exact .inr r

/-- a type of data: which value shows a datum, in an immutable heap -/
structure Ty (α : Type) where
  rep : Hp → V → α → Prop
  mono : ∀ {I I' : Hp} {v : V} {d : α}, Same I I' → rep I v d → rep I' v d

/-- a region: what an owned part of the heap is -/
structure Rg where
  h : Hp → Hp → Prop
  mono : ∀ {I I' R : Hp}, Same I I' → h I R → h I' R
  /-- tuples are no one's own -/
  nt : ∀ {I R : Hp}, h I R → ∀ a ys, R a ≠ some (.tup ys)
/-- the content of one owned object -/
structure CP where
  h : Hp → HO → Prop
  mono : ∀ {I I' : Hp} {o : HO}, Same I I' → h I o → h I' o
  nt : ∀ {I : Hp} {o : HO}, h I o → ∀ ys, o ≠ .tup ys
def single (p : Addr) (o : HO) : Hp := fun b => if b = p then some o else none
theorem single_same {p : Addr} {o : HO} : single p o p = some o := if_pos rfl
theorem single_ne {p b : Addr} {o : HO} (h : b ≠ p) : single p o b = none := if_neg h
theorem single_sub {p : Addr} {o : HO} {H : Hp} (h : H p = some o) : Same (single p o) H := fun b u q => by
  by_cases hb : b = p
  · subst hb; rw [single_same] at q; rw [h]; exact q
  · rw [single_ne hb] at q; cases q
def cell (p : Addr) (c : CP) : Rg := ⟨fun I R => ∃ o, R = single p o ∧ c.h I o, fun e ⟨o, a, b⟩ => ⟨o, a, c.mono e b⟩, fun ⟨o, a, b⟩ x ys e => by
  rw [a] at e
  by_cases hx : x = p
  · subst hx; rw [single_same] at e; exact c.nt b ys (Option.some.inj e)
  · rw [single_ne hx] at e; cases e⟩

def Disj (R R' : Hp) : Prop := ∀ a, R a = none ∨ R' a = none
theorem Disj.symm {R R' : Hp} (h : Disj R R') : Disj R' R := fun a => (h a).symm

/-- the heap H holds the immutable part I and, apart from it and each other, regions L -/
def Sep (I : Hp) (L : List Rg) (H : Hp) : Prop :=
  ∃ Z : List (Rg × Hp), Z.map (·.1) = L ∧ Same I H ∧ (∀ z ∈ Z, z.1.h I z.2 ∧ Same z.2 H ∧ Disj I z.2) ∧ Z.Pairwise fun y z => Disj y.2 z.2

section
variable {I I' H H' : Hp} {L L' : List Rg} {p : Addr} {o : HO} {c : Rg}
theorem Sep.same (h : Sep I L H) : Same I H := let ⟨_, _, s, _⟩ := h; s
theorem Sep.nil (h : Same I H) : Sep I [] H := ⟨[], rfl, h, fun _ z => by simp at z, .nil⟩
/-- a new object, immutable from now on -/
theorem Sep.imm (h : Sep I L H) (hp : H p = none) : Sep (upd I p o) L (upd H p o) := by
  obtain ⟨Z, e, s, a, d⟩ := h
  refine ⟨Z, e, Same.upd2 s, fun z hz => ?_, d⟩
  obtain ⟨a1, a2, a3⟩ := a z hz
  have zp : z.2 p = none := a2.free hp
  refine ⟨z.1.mono (Same.upd (s.free hp)) a1, a2.trans (Same.upd hp), fun b => ?_⟩
  by_cases hb : b = p
  · subst hb; exact .inr zp
  · rw [upd_ne hb]; exact a3 b
/-- a tuple that stands is immutable -/
theorem Sep.tup {ys : List V} (h : Sep I L H) (hp : H p = some (.tup ys)) : ∃ I', Same I I' ∧ I' p = some (.tup ys) ∧ Sep I' L H := by
  cases hi : I p with
  | some o =>
    have := h.same _ _ hi
    rw [hp] at this
    cases this
    exact ⟨I, Same.refl _, hi, h⟩
  | none =>
    obtain ⟨Z, e, s, a, d⟩ := h
    refine ⟨upd I p (.tup ys), Same.upd hi, upd_same, Z, e, fun b u q => ?_, fun z hz => ?_, d⟩
    · by_cases hb : b = p
      · subst hb; rw [upd_same] at q; rw [hp]; exact q
      · rw [upd_ne hb] at q; exact s b u q
    · obtain ⟨a1, a2, a3⟩ := a z hz
      refine ⟨z.1.mono (Same.upd hi) a1, a2, fun b => ?_⟩
      by_cases hb : b = p
      · subst hb
        right
        cases hz2 : z.2 b with
        | none => rfl
        | some o =>
          have := a2 _ _ hz2
          rw [hp] at this
          cases this
          exact absurd hz2 (z.1.nt a1 b ys)
      · rw [upd_ne hb]; exact a3 b
/-- a new object, owned -/
theorem Sep.new (h : Sep I L H) (hp : H p = none) {φ : CP} (ho : φ.h I o) : Sep I (cell p φ :: L) (upd H p o) := by
  obtain ⟨Z, e, s, a, d⟩ := h
  refine ⟨(cell p φ, single p o) :: Z, by rw [List.map_cons, e], s.trans (Same.upd hp), fun z hz => ?_, List.Pairwise.cons (fun z hz b => ?_) d⟩
  · rcases List.mem_cons.mp hz with rfl | hz
    · refine ⟨⟨o, rfl, ho⟩, single_sub upd_same, fun b => ?_⟩
      · by_cases hb : b = p
        · subst hb; exact .inl (s.free hp)
        · exact .inr (single_ne hb)
    · obtain ⟨a1, a2, a3⟩ := a z hz
      exact ⟨a1, a2.trans (Same.upd hp), a3⟩
  · obtain ⟨_, a2, _⟩ := a z hz
    by_cases hb : b = p
    · subst hb; exact .inr (a2.free hp)
    · exact .inl (single_ne hb)
theorem mem_map_perm {α β : Type _} {f : α → β} : ∀ {Z : List α} {L L' : List β}, Z.map f = L → L.Perm L' → ∃ Z', Z'.map f = L' ∧ Z.Perm Z' := by
  intro Z L L' e h
  induction h generalizing Z with
  | nil => exact ⟨Z, e, .refl _⟩
  | cons x _ ih =>
    cases Z with
    | nil => cases e
    | cons z Z =>
      rw [List.map_cons] at e
      injection e with e1 e2
      obtain ⟨Z', h1, h2⟩ := ih e2
      exact ⟨z :: Z', by rw [List.map_cons, e1, h1], h2.cons _⟩
  | swap x y l =>
    match Z, e with
    | a :: b :: Z, e =>
      rw [List.map_cons, List.map_cons] at e
      injection e with e1 e2
      injection e2 with e2 e3
      exact ⟨b :: a :: Z, by rw [List.map_cons, List.map_cons, e1, e2, e3], .swap _ _ _⟩
  | trans _ _ ih1 ih2 =>
    obtain ⟨Z1, h1, h2⟩ := ih1 e
    obtain ⟨Z2, h3, h4⟩ := ih2 h1
    exact ⟨Z2, h3, h2.trans h4⟩
theorem Sep.perm (h : Sep I L H) (q : L.Perm L') : Sep I L' H := by
  obtain ⟨Z, e, s, a, d⟩ := h
  obtain ⟨Z', e', z⟩ := mem_map_perm e q
  exact ⟨Z', e', s, fun y hy => a y (z.mem_iff.mpr hy), d.perm z fun q => q.symm⟩
theorem Sep.tail (h : Sep I (c :: L) H) : Sep I L H := by
  obtain ⟨Z, e, s, a, d⟩ := h
  cases Z with
  | nil => cases e
  | cons z Z =>
    rw [List.map_cons] at e
    injection e with e1 e2
    cases d with
    | cons d1 d2 => exact ⟨Z, e2, s, fun y hy => a y (List.mem_cons_of_mem _ hy), d2⟩
/-- what stands in the first cell -/
theorem Sep.get {φ : CP} (h : Sep I (cell p φ :: L) H) : ∃ o, H p = some o ∧ φ.h I o ∧ I p = none := by
  obtain ⟨Z, e, s, a, d⟩ := h
  cases Z with
  | nil => cases e
  | cons z Z =>
    rw [List.map_cons] at e
    injection e with e1 e2
    obtain ⟨a1, a2, a3⟩ := a z (List.mem_cons_self ..)
    rw [e1] at a1
    obtain ⟨o, r, q⟩ := a1
    refine ⟨o, a2 p o (by rw [r]; exact single_same), q, ?_⟩
    rcases a3 p with z | z
    · exact z
    · rw [r, single_same] at z; cases z
/-- the first cell is written -/
theorem Sep.put {φ ψ : CP} (h : Sep I (cell p φ :: L) H) (ho : ψ.h I o) : Sep I (cell p ψ :: L) (upd H p o) := by
  obtain ⟨Z, e, s, a, d⟩ := h
  cases Z with
  | nil => cases e
  | cons z Z =>
    rw [List.map_cons] at e
    injection e with e1 e2
    obtain ⟨a1, a2, a3⟩ := a z (List.mem_cons_self ..)
    rw [e1] at a1
    obtain ⟨o1, r, q⟩ := a1
    have ip : I p = none := by
      rcases a3 p with z | z
      · exact z
      · rw [r, single_same] at z; cases z
    have other : ∀ {R : Hp}, R p = none → Same R H → Same R (upd H p o) := fun hr hs b u q => by
      rw [upd_ne (ne_of_none q hr)]
      exact hs b u q
    cases d with
    | cons d1 d2 =>
      have zp : ∀ y ∈ Z, y.2 p = none := fun y hy => by
        rcases d1 y hy p with q | q
        · rw [r, single_same] at q; cases q
        · exact q
      refine ⟨(cell p ψ, single p o) :: Z, by rw [List.map_cons, e2], other ip s, fun y hy => ?_, List.Pairwise.cons (fun y hy b => ?_) d2⟩
      · rcases List.mem_cons.mp hy with rfl | hy
        · refine ⟨⟨o, rfl, ho⟩, single_sub upd_same, fun b => ?_⟩
          · by_cases hb : b = p
            · subst hb; exact .inl ip
            · exact .inr (single_ne hb)
        · obtain ⟨b1, b2, b3⟩ := a y (List.mem_cons_of_mem _ hy)
          exact ⟨b1, other (zp y hy) b2, b3⟩
      · by_cases hb : b = p
        · subst hb; exact .inr (zp y hy)
        · exact .inl (single_ne hb)
/-- the first cell becomes immutable -/
theorem Sep.freeze {φ : CP} (h : Sep I (cell p φ :: L) H) : ∃ o, H p = some o ∧ φ.h I o ∧ I p = none ∧ Sep (upd I p o) L H := by
  obtain ⟨o, ho, hφ, hi⟩ := h.get
  refine ⟨o, ho, hφ, hi, ?_⟩
  obtain ⟨Z, e, s, a, d⟩ := h
  cases Z with
  | nil => cases e
  | cons z Z =>
    rw [List.map_cons] at e
    injection e with e1 e2
    cases d with
    | cons d1 d2 =>
      obtain ⟨a1, a2, a3⟩ := a z (List.mem_cons_self ..)
      rw [e1] at a1
      obtain ⟨o1, r, q⟩ := a1
      refine ⟨Z, e2, fun b u q => ?_, fun y hy => ?_, d2⟩
      · by_cases hb : b = p
        · subst hb; rw [upd_same] at q; rw [ho]; exact q
        · rw [upd_ne hb] at q; exact s b u q
      · obtain ⟨b1, b2, b3⟩ := a y (List.mem_cons_of_mem _ hy)
        refine ⟨y.1.mono (Same.upd hi) b1, b2, fun b => ?_⟩
        by_cases hb : b = p
        · subst hb
          rcases d1 y hy b with q | q
          · rw [r, single_same] at q; cases q
          · exact .inr q
        · rw [upd_ne hb]; exact b3 b
end
end Fw

namespace Fw
open PySem L2
/-! ## 3. frames -/
inductive Slot : Type 1 where
  | unk
  | dat {α : Type} (A : Ty α) (d : α)
def slotOk (I : Hp) (o : Option V) : Slot → Prop
  | .unk => True
  | .dat A d => ∃ v, o = some v ∧ A.rep I v d
def SlotsOk (I : Hp) (σ : St) (Γ : List Slot) : Prop := ∀ (i : Nat) (s : Slot), Γ[i]? = some s → slotOk I (σ[i]?.getD none) s
structure FrOk (I : Hp) (σ : St) (Γ : List Slot) (L : List Rg) (H : Hp) : Prop where
  sep : Sep I L H
  len : σ.length = Γ.length
  sl : SlotsOk I σ Γ
/-- the slots that Δ knows stand in Γ -/
def Wk (Γ Δ : List Slot) : Prop := ∀ (i : Nat) (s : Slot), Δ[i]? = some s → s = .unk ∨ Γ[i]? = some s
theorem Wk.nil {Γ : List Slot} : Wk Γ [] := fun i s h => by simp at h
theorem Wk.u {Γ Δ : List Slot} {s : Slot} (h : Wk Γ Δ) : Wk (s :: Γ) (.unk :: Δ) := fun i t e => by
  cases i with
  | zero => left; simpa using e.symm
  | succ i => exact h i t (by simpa using e)
theorem Wk.s {Γ Δ : List Slot} {s : Slot} (h : Wk Γ Δ) : Wk (s :: Γ) (s :: Δ) := fun i t e => by
  cases i with
  | zero => right; exact e
  | succ i => exact h i t (by simpa using e)
theorem Wk.rfl {Γ : List Slot} : Wk Γ Γ := fun i s h => .inr h
theorem Wk.trans {Γ Δ Θ : List Slot} (h : Wk Γ Δ) (k : Wk Δ Θ) : Wk Γ Θ := fun i s e => by
  rcases k i s e with q | q
  · exact .inl q
  · exact h i s q
section
variable {I I' H H' : Hp} {σ : St} {Γ Δ : List Slot} {L L' : List Rg}
theorem slotOk.mono {o : Option V} {s : Slot} (e : Same I I') (h : slotOk I o s) : slotOk I' o s := by
  cases s with
  | unk => trivial
  | dat A d => exact let ⟨v, a, b⟩ := h; ⟨v, a, A.mono e b⟩
theorem SlotsOk.mono (e : Same I I') (h : SlotsOk I σ Γ) : SlotsOk I' σ Γ := fun i s q => (h i s q).mono e
theorem SlotsOk.wk (h : SlotsOk I σ Γ) (w : Wk Γ Δ) : SlotsOk I σ Δ := fun i s q => by
  rcases w i s q with rfl | e
  · trivial
  · exact h i s e
theorem FrOk.step (h : FrOk I σ Γ L H) (e : Same I I') (s : Sep I' L' H') : FrOk I' σ Γ L' H' := ⟨s, h.len, h.sl.mono e⟩
theorem FrOk.wk (h : FrOk I σ Γ L H) (w : Wk Γ Δ) (l : Δ.length = Γ.length) : FrOk I σ Δ L H := ⟨h.sep, by rw [l]; exact h.len, h.sl.wk w⟩
theorem FrOk.perm (h : FrOk I σ Γ L H) (p : L.Perm L') : FrOk I σ Γ L' H := ⟨h.sep.perm p, h.len, h.sl⟩
theorem FrOk.get {α : Type} {A : Ty α} {d : α} {i : Nat} (h : FrOk I σ Γ L H) (e : Γ[i]? = some (.dat A d)) : ∃ v, σ[i]? = some (some v) ∧ A.rep I v d := by
  obtain ⟨v, a, b⟩ := h.sl i _ e
  refine ⟨v, ?_, b⟩
  cases q : σ[i]? with
  | none => rw [q] at a; cases a
  | some o => rw [q] at a; exact congrArg some a
theorem FrOk.set {α : Type} {A : Ty α} {d : α} {v : V} (h : FrOk I σ Γ L H) (r : A.rep I v d) (i : Nat) : FrOk I (σ.set i (some v)) (Γ.set i (.dat A d)) L H := by
  refine ⟨h.sep, by rw [List.length_set, List.length_set]; exact h.len, fun j s e => ?_⟩
  by_cases hj : i = j
  · subst hj
    have hi : i < Γ.length := by
      have := (List.getElem?_eq_some_iff.mp e).1
      rwa [List.length_set] at this
    rw [List.getElem?_set_self hi] at e
    cases e
    refine ⟨v, ?_, r⟩
    rw [List.getElem?_set_self (by rw [h.len]; exact hi)]
    rfl
  · rw [List.getElem?_set_ne hj] at e ⊢
    exact h.sl j s e
theorem FrOk.setU {o : Option V} (h : FrOk I σ Γ L H) (i : Nat) : FrOk I (σ.set i o) (Γ.set i .unk) L H := by
  refine ⟨h.sep, by rw [List.length_set, List.length_set]; exact h.len, fun j s e => ?_⟩
  by_cases hj : i = j
  · subst hj
    have hi : i < Γ.length := by
      have := (List.getElem?_eq_some_iff.mp e).1
      rwa [List.length_set] at this
    rw [List.getElem?_set_self hi] at e
    cases e
    trivial
  · rw [List.getElem?_set_ne hj] at e ⊢
    exact h.sl j s e
end

/-! ## 4. what is computed -/
inductive Res (ε ν : Type) where
  | stuck
  | val (n : ν)
  | exn (x : ε)
namespace Res
def bnd {ε α γ ν : Type} (m : Res ε (α × γ)) (k : α → γ → Res ε ν) : Res ε ν := match m with
  | stuck => stuck
  | val p => k p.1 p.2
  | exn x => exn x
def grd {ε ν : Type} (P : Prop) [Decidable P] (n : ν) : Res ε ν := if P then val n else stuck
/-- no exception may come -/
def nox {ε ε' ν : Type} : Res ε ν → Res ε' ν
  | stuck => stuck
  | val n => val n
  | exn _ => stuck
@[simp] theorem bnd_val {ε α γ ν : Type} (d : α) (s : γ) (k : α → γ → Res ε ν) : bnd (val (d, s)) k = k d s := rfl
@[simp] theorem bnd_valp {ε α γ ν : Type} (p : α × γ) (k : α → γ → Res ε ν) : bnd (val p) k = k p.1 p.2 := rfl
@[simp] theorem bnd_exn {ε α γ ν : Type} (x : ε) (k : α → γ → Res ε ν) : bnd (exn x) k = exn x := rfl
@[simp] theorem bnd_stuck {ε α γ ν : Type} (k : α → γ → Res ε ν) : bnd stuck k = stuck := rfl
@[simp] theorem grd_true {ε ν : Type} {P : Prop} [Decidable P] (h : P) (n : ν) : (grd P n : Res ε ν) = val n := if_pos h
@[simp] theorem grd_T {ε ν : Type} (n : ν) : (grd True n : Res ε ν) = val n := rfl
@[simp] theorem nox_val {ε ε' ν : Type} (n : ν) : (nox (val n : Res ε ν) : Res ε' ν) = val n := rfl
end Res
inductive Out (ε ρ ν : Type) where
  | stuck
  | nx (n : ν)
  | ret (r : ρ)
  | exn (x : ε)
namespace Out
def seq {ε ρ ν ν' : Type} (m : Out ε ρ ν) (k : ν → Out ε ρ ν') : Out ε ρ ν' := match m with
  | stuck => stuck
  | nx n => k n
  | ret r => ret r
  | exn x => exn x
def bnd {ε ρ α γ ν : Type} (m : Res ε (α × γ)) (k : α → γ → Out ε ρ ν) : Out ε ρ ν := match m with
  | .stuck => stuck
  | .val p => k p.1 p.2
  | .exn x => exn x
/-- what a def hands back -/
def fn {ε ρ ν : Type} (m : Out ε ρ ν) : Res ε ρ := match m with
  | stuck => .stuck
  | nx _ => .stuck
  | ret r => .val r
  | exn x => .exn x
def forL {ε ρ ν α : Type} : List α → ν → (ν → α → Out ε ρ ν) → Out ε ρ ν
  | [], n, _ => nx n
  | x :: xs, n, B => (B n x).seq fun n' => forL xs n' B
@[simp] theorem seq_nx {ε ρ ν ν' : Type} (n : ν) (k : ν → Out ε ρ ν') : seq (nx n) k = k n := rfl
@[simp] theorem seq_ret {ε ρ ν ν' : Type} (r : ρ) (k : ν → Out ε ρ ν') : seq (ret r) k = ret r := rfl
@[simp] theorem seq_exn {ε ρ ν ν' : Type} (x : ε) (k : ν → Out ε ρ ν') : seq (exn x) k = exn x := rfl
@[simp] theorem seq_stuck {ε ρ ν ν' : Type} (k : ν → Out ε ρ ν') : seq stuck k = stuck := rfl
@[simp] theorem bnd_val {ε ρ α γ ν : Type} (d : α) (s : γ) (k : α → γ → Out ε ρ ν) : bnd (.val (d, s)) k = k d s := rfl
@[simp] theorem bnd_valp {ε ρ α γ ν : Type} (p : α × γ) (k : α → γ → Out ε ρ ν) : bnd (.val p) k = k p.1 p.2 := rfl
@[simp] theorem bnd_exn {ε ρ α γ ν : Type} (x : ε) (k : α → γ → Out ε ρ ν) : bnd (.exn x) k = exn x := rfl
@[simp] theorem bnd_stuck {ε ρ α γ ν : Type} (k : α → γ → Out ε ρ ν) : bnd .stuck k = stuck := rfl
@[simp] theorem fn_ret {ε ρ ν : Type} (r : ρ) : fn (ret r : Out ε ρ ν) = .val r := rfl
@[simp] theorem fn_exn {ε ρ ν : Type} (x : ε) : fn (exn x : Out ε ρ ν) = .exn x := rfl
@[simp] theorem forL_nil {ε ρ ν α : Type} (n : ν) (B : ν → α → Out ε ρ ν) : forL [] n B = nx n := rfl
@[simp] theorem forL_cons {ε ρ ν α : Type} (x : α) (xs : List α) (n : ν) (B : ν → α → Out ε ρ ν) : forL (x :: xs) n B = (B n x).seq fun n' => forL xs n' B := rfl
end Out

/-- how an exception's datum lies -/
structure XT (ε : Type) where
  rep : Hp → ε → Value → Option Addr → Prop
  mono : ∀ {I I' : Hp} {x : ε} {c : Value} {d : Option Addr}, Same I I' → rep I x c d → rep I' x c d
  regs : ε → List Rg
def xt0 : XT Empty := ⟨fun _ _ _ _ => False, fun _ h => h, fun x => nomatch x⟩
/-- what is wanted of an exception -/
def wX (X : Cx) (c : Value) (da : Option Addr) (σ : St) (H : Hp) : Prop := ∃ W : WX, Takes X W ∧ W c da σ H
theorem takesW {X : Cx} : Takes X (wX X) := fun u s' x => by
  obtain ⟨a1, a2, a3, a4, a5, a6, a7, a8, a9, a10, a11, a12, a13, a14, a15, a16, W, tk, z⟩ := x
  exact tk u s' ⟨a1, a2, a3, a4, a5, a6, a7, a8, a9, a10, a11, a12, a13, a14, a15, a16, z⟩

section
variable (X : Cx) {α β γ ε ρ ν τ : Type}
def Then (I : Hp) (F : List Rg) (σ : St) (Γ : List Slot) (L : γ → List Rg) (A : Ty α) (xt : XT ε) (Q : VK) : Res ε (α × γ) → Prop
  | .stuck => False
  | .val p => ∀ I' v H', Same I I' → FrOk I' σ Γ (L p.2 ++ F) H' → A.rep I' v p.1 → Q v H'
  | .exn x => ∀ I' H' c da, Same I I' → FrOk I' σ Γ (xt.regs x ++ F) H' → xt.rep I' x c da → wX X c da σ H'
def ThenT (I : Hp) (F : List Rg) (σ : St) (Γ : List Slot) (L : γ → List Rg) (xt : XT ε) (Q : Bool → Hp → Prop) : Res ε (Bool × γ) → Prop
  | .stuck => False
  | .val p => ∀ I' H', Same I I' → FrOk I' σ Γ (L p.2 ++ F) H' → Q p.1 H'
  | .exn x => ∀ I' H' c da, Same I I' → FrOk I' σ Γ (xt.regs x ++ F) H' → xt.rep I' x c da → wX X c da σ H'
/-- an expression computes m -/
def EF (e : Expr) (Γ : List Slot) (L : γ → List Rg) (s : γ) (A : Ty α) (xt : XT ε) (m : Res ε (α × γ)) : Prop :=
  ∀ (I : Hp) (σ : St) (F : List Rg) (H : Hp) (Q : VK), FrOk I σ Γ (L s ++ F) H → Then X I F σ Γ L A xt Q m → wE X e σ H Q
/-- a test -/
def TF (e : Expr) (Γ : List Slot) (L : γ → List Rg) (s : γ) (xt : XT ε) (m : Res ε (Bool × γ)) : Prop :=
  ∀ (I : Hp) (σ : St) (F : List Rg) (H : Hp) (Q : Bool → Hp → Prop), FrOk I σ Γ (L s ++ F) H → ThenT X I F σ Γ L xt Q m → wT X e σ H Q
def WF (e : Expr) (Γ : List Slot) (L : γ → List Rg) (s : γ) (xt : XT ε) (m : Res ε (Bool × γ)) : Prop :=
  ∀ (I : Hp) (σ : St) (F : List Rg) (H : Hp) (Q : Bool → Hp → Prop), FrOk I σ Γ (L s ++ F) H → ThenT X I F σ Γ L xt Q m → wW X e σ H Q
/-- pure, total, no exception -/
def EP (e : Expr) (Γ : List Slot) (L : List Rg) (A : Ty α) (d : α) : Prop := EF X e Γ (fun _ : Unit => L) () A xt0 (.val (d, ()))
def TP' (e : Expr) (Γ : List Slot) (L : List Rg) (b : Bool) : Prop := TF X e Γ (fun _ : Unit => L) () xt0 (.val (b, ()))
/-- arguments -/
structure Tys (τ : Type) where
  rep : Hp → List V → τ → Prop
  mono : ∀ {I I' : Hp} {v : List V} {d : τ}, Same I I' → rep I v d → rep I' v d
  slots : τ → List Slot
  len : ∀ {I : Hp} {v : List V} {d : τ}, rep I v d → v.length = (slots d).length
  ok : ∀ {I : Hp} {v : List V} {d : τ}, rep I v d → ∀ (i : Nat) (s : Slot), (slots d)[i]? = some s → slotOk I v[i]? s
def Tys.nil : Tys Unit := ⟨fun _ v _ => v = [], fun _ h => h, fun _ => [], fun h => by rw [h]; rfl, fun _ i s e => by simp at e⟩
def Tys.cons (A : Ty α) (T : Tys τ) : Tys (α × τ) := ⟨fun I v p => ∃ x xs, v = x :: xs ∧ A.rep I x p.1 ∧ T.rep I xs p.2, fun e ⟨x, xs, a, b, c⟩ => ⟨x, xs, a, A.mono e b, T.mono e c⟩,
  fun p => .dat A p.1 :: T.slots p.2, fun ⟨x, xs, a, b, c⟩ => by rw [a, List.length_cons, List.length_cons, T.len c], fun {I v d} ⟨x, xs, a, b, c⟩ i s e => by
    subst a
    cases i with
    | zero =>
      have e' : Slot.dat A d.1 = s := by simpa using e
      subst e'
      exact ⟨x, rfl, b⟩
    | succ i => exact T.ok c i s (by simpa using e)⟩
def AF (es : List Expr) (Γ : List Slot) (L : γ → List Rg) (s : γ) (T : Tys τ) (xt : XT ε) (m : Res ε (τ × γ)) : Prop :=
  ∀ (I : Hp) (σ : St) (F : List Rg) (H : Hp) (Q : List V → Hp → Prop), FrOk I σ Γ (L s ++ F) H → (match m with
    | .stuck => False
    | .val p => ∀ I' vs H', Same I I' → FrOk I' σ Γ (L p.2 ++ F) H' → T.rep I' vs p.1 → Q vs H'
    | .exn x => ∀ I' H' c da, Same I I' → FrOk I' σ Γ (xt.regs x ++ F) H' → xt.rep I' x c da → wX X c da σ H') → wA X es σ H Q
/-- how a def's result lies -/
structure RT (ρ : Type) where
  rep : ρ → Hp → V → Prop
  regs : ρ → V → List Rg
def SThen (I : Hp) (F : List Rg) (gn : ν → List Slot) (ln : ν → List Rg) (rt : RT ρ) (xt : XT ε) (gx : List Slot) (D : Ends) : Out ε ρ ν → Prop
  | .stuck => False
  | .nx n => ∀ I' σ' H', Same I I' → FrOk I' σ' (gn n) (ln n ++ F) H' → D.nx σ' H'
  | .ret r => ∀ I' v H', Same I I' → Sep I' (rt.regs r v ++ F) H' → rt.rep r I' v → D.rt v H'
  | .exn x => ∀ I' σ' H' c da, Same I I' → Sep I' (xt.regs x ++ F) H' → SlotsOk I' σ' gx → xt.rep I' x c da → wX X c da σ' H'
/-- statements compute M -/
def SF (ss : List Stmt) (Γ : List Slot) (L : List Rg) (gn : ν → List Slot) (ln : ν → List Rg) (rt : RT ρ) (xt : XT ε) (gx : List Slot) (M : Out ε ρ ν) : Prop :=
  ∀ (I : Hp) (σ : St) (F : List Rg) (H : Hp) (D : Ends), FrOk I σ Γ (L ++ F) H → SThen X I F gn ln rt xt gx D M → wSs X ss D σ H
end
end Fw


namespace Fw
open PySem L2
/-! ## 5. types of data -/
def tInt : Ty Int := ⟨fun _ v d => v = .int d, fun _ h => h⟩
def tBool : Ty Bool := ⟨fun _ v d => v = .bl d, fun _ h => h⟩
def tNone : Ty Unit := ⟨fun _ v _ => v = .non, fun _ h => h⟩
/-- a text: its codes -/
abbrev Tx := List Nat
def tTx : Ty Tx := ⟨fun _ v d => v = .str ⟨d.toArray⟩, fun _ h => h⟩
/-- an owned object, by its address -/
def tCell (a : Addr) : Ty Unit := ⟨fun _ v _ => v = .ref a, fun _ h => h⟩
def tOpt {α : Type} (A : Ty α) : Ty (Option α) := ⟨fun I v d => match d with | none => v = .non | some d => v ≠ .non ∧ A.rep I v d, fun {I I' v d} e h => match d, h with | none, h => h | some _, ⟨h1, h2⟩ => ⟨h1, A.mono e h2⟩⟩
theorem paired_mono {α : Type} {A : Ty α} {I I' : Hp} (e : Same I I') {vs : List V} {xs : List α} (h : Paired (A.rep I) vs xs) : Paired (A.rep I') vs xs := Paired.mapP h fun _ _ q => A.mono e q
/-- a list that is read: the script, too -/
def tSeq (K : PySem.W.Frag) {α : Type} (A : Ty α) : Ty (List α) := ⟨fun I v xs => ∃ p vs, v = .ref p ∧ SqL K I p vs ∧ Paired (A.rep I) vs xs, fun e ⟨p, vs, a, b, c⟩ => ⟨p, vs, a, Same.sql e b, paired_mono e c⟩⟩
def tLst {α : Type} (A : Ty α) : Ty (List α) := ⟨fun I v xs => ∃ p vs, v = .ref p ∧ I p = some (.lst vs) ∧ Paired (A.rep I) vs xs, fun e ⟨p, vs, a, b, c⟩ => ⟨p, vs, a, e _ _ b, paired_mono e c⟩⟩
/-- a tuple of things of one type -/
def tTuL {α : Type} (A : Ty α) : Ty (List α) := ⟨fun I v xs => ∃ p vs, v = .ref p ∧ I p = some (.tup vs) ∧ Paired (A.rep I) vs xs, fun e ⟨p, vs, a, b, c⟩ => ⟨p, vs, a, e _ _ b, paired_mono e c⟩⟩
/-- a tuple of things of written types -/
def tTup {τ : Type} (T : Tys τ) : Ty τ := ⟨fun I v d => ∃ p vs, v = .ref p ∧ I p = some (.tup vs) ∧ T.rep I vs d, fun e ⟨p, vs, a, b, c⟩ => ⟨p, vs, a, e _ _ b, T.mono e c⟩⟩
theorem seq_of {K : PySem.W.Frag} {α : Type} {A : Ty α} {I : Hp} {v : V} {xs : List α} (h : (tLst A).rep I v xs) : (tSeq K A).rep I v xs := let ⟨p, vs, a, b, c⟩ := h; ⟨p, vs, a, .of b, c⟩
/-- an owned list -/
def cLst {α : Type} (A : Ty α) (xs : List α) : CP := ⟨fun I o => ∃ vs, o = .lst vs ∧ Paired (A.rep I) vs xs, fun e ⟨vs, a, b⟩ => ⟨vs, a, paired_mono e b⟩, fun ⟨vs, a, _⟩ ys z => by rw [a] at z; cases z⟩

section
variable {α β : Type} {R : α → β → Prop}
theorem paired_len : ∀ {xs : List α} {ys : List β}, Paired R xs ys → xs.length = ys.length
  | _, _, .nil => rfl
  | _, _, .cons _ t => congrArg Nat.succ (paired_len t)
theorem paired_app : ∀ {xs xs' : List α} {ys ys' : List β}, Paired R xs ys → Paired R xs' ys' → Paired R (xs ++ xs') (ys ++ ys')
  | _, _, _, _, .nil, h => h
  | _, _, _, _, .cons r t, h => .cons r (paired_app t h)
theorem paired_get : ∀ {xs : List α} {ys : List β} {i : Nat} {x : α}, Paired R xs ys → xs[i]? = some x → ∃ y, ys[i]? = some y ∧ R x y
  | _, _, _, _, .nil, e => by simp at e
  | _, _, 0, _, .cons r t, e => ⟨_, rfl, by simp at e; subst e; exact r⟩
  | _, _, i + 1, x, .cons _ t, e => by
    obtain ⟨y, h1, h2⟩ := paired_get (i := i) t (by simpa using e)
    exact ⟨y, by simpa using h1, h2⟩
theorem paired_get' : ∀ {xs : List α} {ys : List β} {i : Nat} {y : β}, Paired R xs ys → ys[i]? = some y → ∃ x, xs[i]? = some x ∧ R x y
  | _, _, _, _, .nil, e => by simp at e
  | _, _, 0, _, .cons r t, e => ⟨_, rfl, by simp at e; subst e; exact r⟩
  | _, _, i + 1, x, .cons _ t, e => by
    obtain ⟨y, h1, h2⟩ := paired_get' (i := i) t (by simpa using e)
    exact ⟨y, by simpa using h1, h2⟩
theorem paired_drop : ∀ {xs : List α} {ys : List β} (n : Nat), Paired R xs ys → Paired R (xs.drop n) (ys.drop n)
  | _, _, 0, h => h
  | _, _, _ + 1, .nil => .nil
  | _, _, n + 1, .cons _ t => paired_drop n t
theorem paired_take : ∀ {xs : List α} {ys : List β} (n : Nat), Paired R xs ys → Paired R (xs.take n) (ys.take n)
  | _, _, 0, _ => .nil
  | _, _, _ + 1, .nil => .nil
  | _, _, n + 1, .cons r t => .cons r (paired_take n t)
theorem paired_set {x : α} {y : β} (r : R x y) : ∀ {xs : List α} {ys : List β} (i : Nat), Paired R xs ys → Paired R (xs.set i x) (ys.set i y)
  | _, _, _, .nil => .nil
  | _, _, 0, .cons _ t => .cons r t
  | _, _, i + 1, .cons q t => .cons q (paired_set r i t)
theorem paired_erase : ∀ {xs : List α} {ys : List β} (i : Nat), Paired R xs ys → Paired R (xs.eraseIdx i) (ys.eraseIdx i)
  | _, _, _, .nil => .nil
  | _, _, 0, .cons _ t => t
  | _, _, i + 1, .cons r t => .cons r (paired_erase i t)
theorem paired_rev {xs : List α} {ys : List β} (h : Paired R xs ys) : Paired R xs.reverse ys.reverse := by
  induction h with
  | nil => exact .nil
  | cons r t ih => rw [List.reverse_cons, List.reverse_cons]; exact paired_app ih (.cons r .nil)
theorem paired_int {I : Hp} : ∀ {vs : List V} {ns : List Int}, Paired (tInt.rep I) vs ns → vs = ns.map V.int
  | _, _, .nil => rfl
  | _, _, .cons r t => by rw [List.map_cons, paired_int t, show _ = _ from r]
theorem int_paired {I : Hp} : ∀ {ns : List Int}, Paired (tInt.rep I) (ns.map V.int) ns
  | [] => .nil
  | _ :: _ => .cons rfl int_paired
theorem paired_bool {I : Hp} : ∀ {vs : List V} {ns : List Bool}, Paired (tBool.rep I) vs ns → vs = ns.map V.bl
  | _, _, .nil => rfl
  | _, _, .cons r t => by rw [List.map_cons, paired_bool t, show _ = _ from r]
theorem paired_tx {I : Hp} : ∀ {vs : List V} {ns : List Tx}, Paired (tTx.rep I) vs ns → vs = (ns.map fun t => (⟨t.toArray⟩ : Str)).map V.str
  | _, _, .nil => rfl
  | _, _, .cons r t => by rw [List.map_cons, List.map_cons, paired_tx t, show _ = _ from r]
end

/-! ## 6. a def's names -/
def visB (sc : Scope) (x : Str) : Bool := (match sc.names.lookup x with | some .local => true | some .cell => true | some .free => true | _ => false) && !(x == ("__debug__" : Str)) && !(x == ("__classdict__" : Str))
def locB (sc : Scope) (x : Str) : Bool := match sc.names.lookup x with | some .local => true | some .cell => true | _ => false
def glB (sc : Scope) (x : Str) : Bool := (match sc.names.lookup x with | some .globalImplicit => true | _ => false) && !(x == ("__debug__" : Str)) && !(x == ("__name__" : Str))
structure Cxt (X : Cx) (N : List Str) (sc : Scope) (own : Str → Bool) : Prop where
  hN : X.N = N
  hsc : X.env.scope = sc
  nd : N.Nodup
  st : ∀ x, own x = true → L2.Loc X.env.scope x ∧ (X.fn x = true ∨ X.env.scope.names.lookup x = some .local)
/-- no exception is being handled -/
structure Calm (X : Cx) : Prop where
  calm : X.calm = true
  po : PassesOwn (model X.prog X.w) X.A X.env X.xe
section
variable {X : Cx} {N : List Str} {sc : Scope} {own : Str → Bool} {x : Str}
theorem visB_vis (h : visB sc x = true) : Vis sc x ∧ (x == ("__debug__" : Str)) = false ∧ (x == ("__classdict__" : Str)) = false := by
  unfold visB at h
  simp only [Bool.and_eq_true, Bool.not_eq_true'] at h
  obtain ⟨⟨a, b⟩, c⟩ := h
  refine ⟨?_, b, c⟩
  unfold Vis
  split at a
  · exact .inl (by assumption)
  · exact .inr (.inl (by assumption))
  · exact .inr (.inr (by assumption))
  · cases a
theorem glB_gl (C : Cxt X N sc own) (h : glB sc x = true) : Gl X x ∧ (x == ("__debug__" : Str)) = false ∧ x ≠ "__name__" := by
  unfold glB at h
  simp only [Bool.and_eq_true, Bool.not_eq_true'] at h
  obtain ⟨⟨a, b⟩, c⟩ := h
  refine ⟨?_, b, fun z => by rw [z] at c; revert c; decide⟩
  unfold Gl
  show X.env.scope.names.lookup x = _
  rw [C.hsc]
  split at a
  · assumption
  · cases a
theorem locB_st {X : Cx} (hs : X.env.scope = sc) (hf : ∀ x, X.fn x = true) (x : Str) (h : locB sc x = true) : L2.Loc X.env.scope x ∧ (X.fn x = true ∨ X.env.scope.names.lookup x = some .local) := by
  refine ⟨?_, .inl (hf x)⟩
  rw [hs]
  unfold locB at h
  unfold L2.Loc
  split at h
  · exact .inl (by assumption)
  · exact .inr (by assumption)
  · cases h
theorem cxt_def0 {CX : CXT} {P : Program} {w : World} {K : PySem.W.Frag} {mg : Str → Option Value} {base : Heap} {qual : Str} {f : Addr} {cd : Value} {A : Around} {outer : List Env} {s : Shared} {H : Hp} {E : XK} (nd : N.Nodup) :
    Cxt (cxOf CX P w K mg base N qual sc f cd A outer s H E).nox N sc (locB sc) := ⟨rfl, rfl, nd, locB_st rfl fun _ => rfl⟩
theorem cxt_defX {P : Program} {w : World} {K : PySem.W.Frag} {mg : Str → Option Value} {base : Heap} {qual : Str} {f : Addr} {cd : Value} {A : Around} {outer : List Env} {s : Shared} {H : Hp} {E : XK} (nd : N.Nodup) :
    Cxt (cxOf (L2.CX P w) P w K mg base N qual sc f cd A outer s H E) N sc (locB sc) := ⟨rfl, rfl, nd, locB_st rfl fun _ => rfl⟩
theorem calm_defX {P : Program} {w : World} {K : PySem.W.Frag} {mg : Str → Option Value} {base : Heap} {qual : Str} {f : Addr} {cd : Value} {A : Around} {outer : List Env} {s : Shared} {H : Hp} {E : XK} :
    Calm (cxOf (L2.CX P w) P w K mg base N qual sc f cd A outer s H E) := ⟨rfl, passes_of rfl⟩
end

/-! ## 7. expressions -/
section
variable {X : Cx} {N : List Str} {sc : Scope} {own : Str → Bool} {α β γ δ ε τ : Type} {A : Ty α} {B : Ty β} {C : Ty δ} {e a b c : Expr} {es : List Expr} {x : Str} {pos : Pos} {Γ : List Slot} {L : γ → List Rg} {s : γ} {xt : XT ε} {L0 : List Rg}
theorem ef_pure {d : α} (h : EP X e Γ (L s) A d) : EF X e Γ L s A xt (.val (d, s)) := fun I σ F H Q fr th => h I σ F H Q fr fun I' v H' e1 fr' r => th I' v H' e1 fr' r
theorem ep_mk {d : α} (h : ∀ (I : Hp) (σ : St) (F : List Rg) (H : Hp) (Q : VK), FrOk I σ Γ (L0 ++ F) H → (∀ I' v H', Same I I' → FrOk I' σ Γ (L0 ++ F) H' → A.rep I' v d → Q v H') → wE X e σ H Q) : EP X e Γ L0 A d := fun I σ F H Q fr th => h I σ F H Q fr th
theorem EP.run {d : α} (h : EP X e Γ L0 A d) {I : Hp} {σ : St} {F : List Rg} {H : Hp} {Q : VK} (fr : FrOk I σ Γ (L0 ++ F) H) (k : ∀ I' v H', Same I I' → FrOk I' σ Γ (L0 ++ F) H' → A.rep I' v d → Q v H') : wE X e σ H Q := h I σ F H Q fr k
theorem ep_var (c : Cxt X N sc own) (i : Nat) {d : α} (hi : N[i]? = some x := by rfl) (hv : visB sc x = true := by decide +kernel) (hΓ : Γ[i]? = some (.dat A d) := by rfl) : EP X (.Name x pos) Γ L0 A d := fun I σ F H Q fr th => by
  obtain ⟨v, e, r⟩ := fr.get hΓ
  obtain ⟨h1, h2, h3⟩ := visB_vis hv
  exact PE_to (pe_var (by rw [c.hN]; exact hi) (by rw [c.hsc]; exact h1) h2 h3) ⟨v, e, th I v H (Same.refl _) fr r⟩
theorem ep_int {i : Int} {j} : EP X (.Constant (.int i) j pos) Γ L0 tInt i := fun I σ F H Q fr th => PE_to pe_int (th I _ H (Same.refl _) fr rfl)
theorem ep_bool {i : Bool} {j} : EP X (.Constant (.bool i) j pos) Γ L0 tBool i := fun I σ F H Q fr th => PE_to pe_bl (th I _ H (Same.refl _) fr rfl)
theorem ep_none {j} : EP X (.Constant .none j pos) Γ L0 tNone () := fun I σ F H Q fr th => PE_to pe_non (th I _ H (Same.refl _) fr rfl)
theorem ep_noneO {j} : EP X (.Constant .none j pos) Γ L0 (tOpt A) none := fun I σ F H Q fr th => PE_to pe_non (th I _ H (Same.refl _) fr rfl)
theorem ep_str {z : Str} {t : Tx} {j} (h : z.cps.toList = t) : EP X (.Constant (.str z) j pos) Γ L0 tTx t := fun I σ F H Q fr th => PE_to pe_str (th I _ H (Same.refl _) fr (by subst h; rfl))
theorem ep_globT (c : Cxt X N sc own) {z : Str} {k : Tok} {t : Tx} (hm : X.mg x = some (.str z k)) (h : z.cps.toList = t) (hg : glB sc x = true := by decide +kernel) : EP X (.Name x pos) Γ L0 tTx t := fun I σ F H Q fr th =>
  let ⟨h1, h2, _⟩ := glB_gl c hg
  PE_to (pe_glob (v := .str z) h1 hm ⟨_, rfl⟩ h2) (th I _ H (Same.refl _) fr (by subst h; rfl))
theorem ep_globI (c : Cxt X N sc own) {z : Int} {k : Tok} (hm : X.mg x = some (.int z k)) (hg : glB sc x = true := by decide +kernel) : EP X (.Name x pos) Γ L0 tInt z := fun I σ F H Q fr th =>
  let ⟨h1, h2, _⟩ := glB_gl c hg
  PE_to (pe_glob (v := .int z) h1 hm ⟨_, rfl⟩ h2) (th I _ H (Same.refl _) fr rfl)

/-- an operation on two values -/
def D2 (r : R2) (A : Ty α) (B : Ty β) (C : Ty δ) (P : α → β → Prop) (g : α → β → δ) : Prop := ∀ (I : Hp) (L : List Rg) (H : Hp) (v w : V) (a : α) (b : β) (Q : VK), Sep I L H → A.rep I v a → B.rep I w b → P a b →
  (∀ I' z H', Same I I' → Sep I' L H' → C.rep I' z (g a b) → Q z H') → r v w H Q
def D1 (r : V → Hp → VK → Prop) (A : Ty α) (C : Ty δ) (P : α → Prop) (g : α → δ) : Prop := ∀ (I : Hp) (L : List Rg) (H : Hp) (v : V) (a : α) (Q : VK), Sep I L H → A.rep I v a → P a →
  (∀ I' z H', Same I I' → Sep I' L H' → C.rep I' z (g a) → Q z H') → r v H Q
def DN (r : List V → Hp → VK → Prop) (T : Tys τ) (C : Ty δ) (P : τ → Prop) (g : τ → δ) : Prop := ∀ (I : Hp) (L : List Rg) (H : Hp) (vs : List V) (t : τ) (Q : VK), Sep I L H → T.rep I vs t → P t →
  (∀ I' z H', Same I I' → Sep I' L H' → C.rep I' z (g t) → Q z H') → r vs H Q

theorem then_up {X : Cx} {I I1 : Hp} {F : List Rg} {σ : St} {Q : VK} (e1 : Same I I1) {m : Res ε (δ × γ)} (h : Then X I F σ Γ L C xt Q m) : Then X I1 F σ Γ L C xt Q m := by
  cases m with
  | stuck => exact h
  | val p => exact fun I' v H' e fr r => h I' v H' (e1.trans e) fr r
  | exn x => exact fun I' H' c da e fr r => h I' H' c da (e1.trans e) fr r
/-- one part, then the rest -/
theorem Then.bnd {X : Cx} {I : Hp} {F : List Rg} {σ : St} {H : Hp} {Q Q' : VK} {m : Res ε (α × γ)} {k : α → γ → Res ε (δ × γ)} (ha : EF X a Γ L s A xt m) (fr : FrOk I σ Γ (L s ++ F) H) (th : Then X I F σ Γ L C xt Q (m.bnd k))
    (h : ∀ (I' : Hp) (v : V) (H' : Hp) (d : α) (s' : γ), Same I I' → FrOk I' σ Γ (L s' ++ F) H' → A.rep I' v d → Then X I' F σ Γ L C xt Q (k d s') → Q' v H') : wE X a σ H Q' := by
  refine ha I σ F H _ fr ?_
  cases m with
  | stuck => exact th
  | exn x => exact th
  | val p => exact fun I' v H' e1 fr1 r => h I' v H' p.1 p.2 e1 fr1 r (then_up e1 th)
theorem Then.grd {X : Cx} {I : Hp} {F : List Rg} {σ : St} {Q : VK} {P : Prop} [Decidable P] {d : δ} {s' : γ} (th : Then X I F σ Γ L C xt Q (Res.grd P (d, s'))) : P ∧ Then X I F σ Γ L C xt Q (.val (d, s')) := by
  by_cases h : P
  · rw [Res.grd_true h] at th; exact ⟨h, th⟩
  · unfold Res.grd at th; rw [if_neg h] at th; exact th.elim
theorem ef_op {mm : Res ε (δ × γ)} {op : Operator} {r : R2} {P : α → β → Prop} [∀ x y, Decidable (P x y)] {g : α → β → δ} {ma : Res ε (α × γ)} {mb : α → γ → Res ε (β × γ)} (ho : OpR X (binaryOp op) r) (D : D2 r A B C P g) (ha : EF X a Γ L s A xt ma) (hb : ∀ x s1, EF X b Γ L s1 B xt (mb x s1)) (heq : mm = (ma.bnd fun x s1 => (mb x s1).bnd fun y s2 => Res.grd (P x y) (g x y, s2)) := by exact rfl) :
    EF X (.BinOp a op b pos) Γ L s C xt mm := by
  subst heq
  intro I σ F H Q fr th
  refine PE_to (pe_op ho pe_w pe_w) ?_
  refine Then.bnd ha fr th fun I1 v H1 d s1 e1 fr1 rv th1 => ?_
  refine Then.bnd (hb d s1) fr1 th1 fun I2 w H2 d2 s2 e2 fr2 rw th2 => ?_
  obtain ⟨hp, th3⟩ := Then.grd th2
  exact D I2 _ H2 v w d d2 Q fr2.sep (A.mono e2 rv) rw hp fun I' z H' e3 se rz => th3 I' z H' e3 (fr2.step e3 se) rz
theorem ef_cmp {mm : Res ε (δ × γ)} {op : CmpOp} {r : R2} {P : α → β → Prop} [∀ x y, Decidable (P x y)] {g : α → β → δ} {ma : Res ε (α × γ)} {mb : α → γ → Res ε (β × γ)} (ho : OpR X (compareOp op) r) (D : D2 r A B C P g) (ha : EF X a Γ L s A xt ma) (hb : ∀ x s1, EF X b Γ L s1 B xt (mb x s1))
    (hm : behindInMarks op b = false := by first | exact nomark _ | rfl) (heq : mm = (ma.bnd fun x s1 => (mb x s1).bnd fun y s2 => Res.grd (P x y) (g x y, s2)) := by exact rfl) :
    EF X (.Compare a [op] [b] pos) Γ L s C xt mm := by
  subst heq
  intro I σ F H Q fr th
  refine PE_to (pe_cmpR ho pe_w pe_w hm) ?_
  refine Then.bnd ha fr th fun I1 v H1 d s1 e1 fr1 rv th1 => ?_
  refine Then.bnd (hb d s1) fr1 th1 fun I2 w H2 d2 s2 e2 fr2 rw th2 => ?_
  obtain ⟨hp, th3⟩ := Then.grd th2
  exact D I2 _ H2 v w d d2 Q fr2.sep (A.mono e2 rv) rw hp fun I' z H' e3 se rz => th3 I' z H' e3 (fr2.step e3 se) rz
theorem ef_ix {mm : Res ε (δ × γ)} {r : R2} {P : α → β → Prop} [∀ x y, Decidable (P x y)] {g : α → β → δ} {ma : Res ε (α × γ)} {mb : α → γ → Res ε (β × γ)} (ho : IxR X r) (D : D2 r A B C P g) (ha : EF X a Γ L s A xt ma) (hb : ∀ x s1, EF X b Γ L s1 B xt (mb x s1))
    (hs : PlainIx b := by exact fun _ _ => rfl) (heq : mm = (ma.bnd fun x s1 => (mb x s1).bnd fun y s2 => Res.grd (P x y) (g x y, s2)) := by exact rfl) :
    EF X (.Subscript a b pos) Γ L s C xt mm := by
  subst heq
  intro I σ F H Q fr th
  refine PE_to (pe_ix ho pe_w pe_w hs) ?_
  refine Then.bnd ha fr th fun I1 v H1 d s1 e1 fr1 rv th1 => ?_
  refine Then.bnd (hb d s1) fr1 th1 fun I2 w H2 d2 s2 e2 fr2 rw th2 => ?_
  obtain ⟨hp, th3⟩ := Then.grd th2
  exact D I2 _ H2 v w d d2 Q fr2.sep (A.mono e2 rv) rw hp fun I' z H' e3 se rz => th3 I' z H' e3 (fr2.step e3 se) rz
theorem ef_un {mm : Res ε (δ × γ)} {op : UnaryOp} {r : V → Hp → VK → Prop} {P : α → Prop} [∀ x, Decidable (P x)] {g : α → δ} {ma : Res ε (α × γ)} (ho : UnR X (unaryOp op) r) (D : D1 r A C P g) (ha : EF X a Γ L s A xt ma) (heq : mm = (ma.bnd fun x s1 => Res.grd (P x) (g x, s1)) := by exact rfl) :
    EF X (.UnaryOp op a pos) Γ L s C xt mm := by
  subst heq
  intro I σ F H Q fr th
  refine PE_to (pe_un ho pe_w) ?_
  refine Then.bnd ha fr th fun I1 v H1 d s1 e1 fr1 rv th1 => ?_
  obtain ⟨hp, th3⟩ := Then.grd th1
  exact D I1 _ H1 v d Q fr1.sep rv hp fun I' z H' e3 se rz => th3 I' z H' e3 (fr1.step e3 se) rz
/-- pure forms -/
theorem ep_op {z : δ} {op : Operator} {r : R2} {P : α → β → Prop} {g : α → β → δ} {x : α} {y : β} (ho : OpR X (binaryOp op) r) (D : D2 r A B C P g) (ha : EP X a Γ L0 A x) (hb : EP X b Γ L0 B y) (hp : P x y) (heq : z = (g x y) := by exact rfl) : EP X (.BinOp a op b pos) Γ L0 C z := by
  subst heq
  intro I σ F H Q fr th
  refine PE_to (pe_op ho pe_w pe_w) ?_
  refine ha.run fr fun I1 v H1 e1 fr1 rv => ?_
  refine hb.run fr1 fun I2 w H2 e2 fr2 rw => ?_
  exact D I2 _ H2 v w _ _ Q fr2.sep (A.mono e2 rv) rw hp fun I' z H' e3 se rz => th I' z H' ((e1.trans e2).trans e3) (fr2.step e3 se) rz
theorem ep_cmp {z : δ} {op : CmpOp} {r : R2} {P : α → β → Prop} {g : α → β → δ} {x : α} {y : β} (ho : OpR X (compareOp op) r) (D : D2 r A B C P g) (ha : EP X a Γ L0 A x) (hb : EP X b Γ L0 B y) (hp : P x y) (hm : behindInMarks op b = false := by first | exact nomark _ | rfl) (heq : z = (g x y) := by exact rfl) : EP X (.Compare a [op] [b] pos) Γ L0 C z := by
  subst heq
  intro I σ F H Q fr th
  refine PE_to (pe_cmpR ho pe_w pe_w hm) ?_
  refine ha.run fr fun I1 v H1 e1 fr1 rv => ?_
  refine hb.run fr1 fun I2 w H2 e2 fr2 rw => ?_
  exact D I2 _ H2 v w _ _ Q fr2.sep (A.mono e2 rv) rw hp fun I' z H' e3 se rz => th I' z H' ((e1.trans e2).trans e3) (fr2.step e3 se) rz
theorem ep_ix {z : δ} {r : R2} {P : α → β → Prop} {g : α → β → δ} {x : α} {y : β} (ho : IxR X r) (D : D2 r A B C P g) (ha : EP X a Γ L0 A x) (hb : EP X b Γ L0 B y) (hp : P x y) (hs : PlainIx b := by exact fun _ _ => rfl) (heq : z = (g x y) := by exact rfl) : EP X (.Subscript a b pos) Γ L0 C z := by
  subst heq
  intro I σ F H Q fr th
  refine PE_to (pe_ix ho pe_w pe_w hs) ?_
  refine ha.run fr fun I1 v H1 e1 fr1 rv => ?_
  refine hb.run fr1 fun I2 w H2 e2 fr2 rw => ?_
  exact D I2 _ H2 v w _ _ Q fr2.sep (A.mono e2 rv) rw hp fun I' z H' e3 se rz => th I' z H' ((e1.trans e2).trans e3) (fr2.step e3 se) rz
theorem ep_un {z : δ} {op : UnaryOp} {r : V → Hp → VK → Prop} {P : α → Prop} {g : α → δ} {x : α} (ho : UnR X (unaryOp op) r) (D : D1 r A C P g) (ha : EP X a Γ L0 A x) (hp : P x) (heq : z = (g x) := by exact rfl) : EP X (.UnaryOp op a pos) Γ L0 C z := by
  subst heq
  intro I σ F H Q fr th
  refine PE_to (pe_un ho pe_w) ?_
  refine ha.run fr fun I1 v H1 e1 fr1 rv => ?_
  exact D I1 _ H1 v _ Q fr1.sep rv hp fun I' z H' e3 se rz => th I' z H' (e1.trans e3) (fr1.step e3 se) rz

/-! ### operations -/
theorem d2_I0 {g : Int → Int → V} {h : Int → Int → δ} (q : ∀ I i j, C.rep I (g i j) (h i j)) : D2 (rI0 g) tInt tInt C (fun _ _ => True) h := fun I L H v w i j Q se rv rw _ k => by
  cases rv; cases rw
  exact ⟨i, j, rfl, rfl, k I _ H (Same.refl _) se (q I i j)⟩
theorem d2_I {P : Int → Int → Prop} {g : Int → Int → V} {h : Int → Int → δ} (q : ∀ I i j, C.rep I (g i j) (h i j)) : D2 (rI P g) tInt tInt C P h := fun I L H v w i j Q se rv rw hp k => by
  cases rv; cases rw
  exact ⟨i, j, rfl, rfl, hp, k I _ H (Same.refl _) se (q I i j)⟩
theorem d_add : D2 (rI0 fun i j => .int (i + j)) tInt tInt tInt (fun _ _ => True) (fun i j => i + j) := d2_I0 fun _ _ _ => rfl
theorem d_sub : D2 (rI0 fun i j => .int (i - j)) tInt tInt tInt (fun _ _ => True) (fun i j => i - j) := d2_I0 fun _ _ _ => rfl
instance {i j : Int} : Decidable (CMul i j) := by unfold CMul; infer_instance
instance {i j : Int} : Decidable (CDivN i j) := by unfold CDivN; infer_instance
instance {i j : Int} : Decidable (CPow i j) := by unfold CPow; infer_instance
theorem d_mul : D2 (rI CMul fun i j => .int (i * j)) tInt tInt tInt CMul (fun i j => i * j) := d2_I fun _ _ _ => rfl
theorem d_div : D2 (rI CDivN fun i j => .int (i.fdiv j)) tInt tInt tInt CDivN (fun i j => i.fdiv j) := d2_I fun _ _ _ => rfl
theorem d_mod : D2 (rI (fun _ j => j ≠ 0) fun i j => .int (i.fmod j)) tInt tInt tInt (fun _ j => j ≠ 0) (fun i j => i.fmod j) := d2_I fun _ _ _ => rfl
theorem d_pow : D2 (rI CPow fun i j => .int (i ^ j.toNat)) tInt tInt tInt CPow (fun i j => i ^ j.toNat) := d2_I fun _ _ _ => rfl
theorem d_lt : D2 (rI0 fun i j => .bl (decide (i < j))) tInt tInt tBool (fun _ _ => True) (fun i j => decide (i < j)) := d2_I0 fun _ _ _ => rfl
theorem d_le : D2 (rI0 fun i j => .bl (decide (i ≤ j))) tInt tInt tBool (fun _ _ => True) (fun i j => decide (i ≤ j)) := d2_I0 fun _ _ _ => rfl
theorem d_gt : D2 (rI0 fun i j => .bl (decide (j < i))) tInt tInt tBool (fun _ _ => True) (fun i j => decide (j < i)) := d2_I0 fun _ _ _ => rfl
theorem d_ge : D2 (rI0 fun i j => .bl (decide (j ≤ i))) tInt tInt tBool (fun _ _ => True) (fun i j => decide (j ≤ i)) := d2_I0 fun _ _ _ => rfl
theorem d_neg : D1 (rU fun i => .int (-i)) tInt tInt (fun _ => True) (fun i => -i) := fun I L H v i Q se rv _ k => by
  cases rv
  exact ⟨i, rfl, k I _ H (Same.refl _) se rfl⟩
theorem dec_int (i j : Int) : decide (V.int i = V.int j) = decide (i = j) := by simp
theorem dec_bl (i j : Bool) : decide (V.bl i = V.bl j) = decide (i = j) := by simp
theorem dec_tx (s t : Tx) : decide (V.str ⟨s.toArray⟩ = V.str ⟨t.toArray⟩) = decide (s = t) := by simp
theorem d_eqI : D2 rEq tInt tInt tBool (fun _ _ => True) (fun i j => decide (i = j)) := fun I L H v w i j Q se rv rw _ k => by
  cases rv; cases rw
  exact ⟨rfl, k I _ H (Same.refl _) se (congrArg V.bl (dec_int i j))⟩
theorem d_neI : D2 rNe tInt tInt tBool (fun _ _ => True) (fun i j => !decide (i = j)) := fun I L H v w i j Q se rv rw _ k => by
  cases rv; cases rw
  exact ⟨rfl, k I _ H (Same.refl _) se (congrArg (fun b => V.bl (!b)) (dec_int i j))⟩
theorem d_eqB : D2 rEq tBool tBool tBool (fun _ _ => True) (fun i j => decide (i = j)) := fun I L H v w i j Q se rv rw _ k => by
  cases rv; cases rw
  exact ⟨rfl, k I _ H (Same.refl _) se (congrArg V.bl (dec_bl i j))⟩
theorem d_neB : D2 rNe tBool tBool tBool (fun _ _ => True) (fun i j => !decide (i = j)) := fun I L H v w i j Q se rv rw _ k => by
  cases rv; cases rw
  exact ⟨rfl, k I _ H (Same.refl _) se (congrArg (fun b => V.bl (!b)) (dec_bl i j))⟩
theorem d_eqT : D2 rEq tTx tTx tBool (fun _ _ => True) (fun i j => decide (i = j)) := fun I L H v w i j Q se rv rw _ k => by
  cases rv; cases rw
  exact ⟨rfl, k I _ H (Same.refl _) se (congrArg V.bl (dec_tx i j))⟩
theorem d_neT : D2 rNe tTx tTx tBool (fun _ _ => True) (fun i j => !decide (i = j)) := fun I L H v w i j Q se rv rw _ k => by
  cases rv; cases rw
  exact ⟨rfl, k I _ H (Same.refl _) se (congrArg (fun b => V.bl (!b)) (dec_tx i j))⟩
/-- sign in text -/
theorem d_inS : D2 (fun x y H Q => ∃ (c : Nat) (z : Str), x = .str ⟨#[c]⟩ ∧ y = .str z ∧ Q (.bl (decide (c ∈ z.cps.toList))) H) tTx tTx tBool (fun s _ => s.length = 1) (fun s t => decide (s.headD 0 ∈ t)) := fun I L H v w s t Q se rv rw hp k => by
  cases rv; cases rw
  match s, hp with
  | [c], _ => exact ⟨c, _, rfl, rfl, k I _ H (Same.refl _) se rfl⟩
theorem d_ninS : D2 (fun x y H Q => ∃ (c : Nat) (z : Str), x = .str ⟨#[c]⟩ ∧ y = .str z ∧ Q (.bl (!decide (c ∈ z.cps.toList))) H) tTx tTx tBool (fun s _ => s.length = 1) (fun s t => !decide (s.headD 0 ∈ t)) := fun I L H v w s t Q se rv rw hp k => by
  cases rv; cases rw
  match s, hp with
  | [c], _ => exact ⟨c, _, rfl, rfl, k I _ H (Same.refl _) se rfl⟩
theorem d_catT : D2 (fun x y H Q => ∃ i j, x = .str i ∧ y = .str j ∧ i.length + j.length ≤ sizeLine ∧ Q (.str (i ++ j)) H) tTx tTx tTx (fun s t => s.length + t.length ≤ sizeLine) (fun s t => s ++ t) := fun I L H v w s t Q se rv rw hp k => by
  cases rv; cases rw
  refine ⟨_, _, rfl, rfl, ?_, k I _ H (Same.refl _) se ?_⟩
  · show s.toArray.size + t.toArray.size ≤ _
    simpa using hp
  · show V.str ⟨s.toArray ++ t.toArray⟩ = V.str ⟨(s ++ t).toArray⟩
    simp
theorem d_ixS : D2 rIxS tTx tInt tTx (fun t i => t.length ≤ sizeLine ∧ (atI t i).isSome) (fun t i => [(atI t i).getD 0]) := fun I L H v w t i Q se rv rw hp k => by
  cases rv; cases rw
  obtain ⟨h1, h2⟩ := hp
  obtain ⟨c, hc⟩ := Option.isSome_iff_exists.mp h2
  refine ⟨_, i, c, rfl, rfl, ?_, ?_, k I _ H (Same.refl _) se ?_⟩
  · show t.toArray.size ≤ _
    simpa using h1
  · show atI t.toArray.toList i = _
    simpa using hc
  · show V.str _ = V.str ⟨[(atI t i).getD 0].toArray⟩
    rw [hc]; rfl
theorem ix_lt {α : Type} {xs : List α} {i : Int} {j : Nat} (h : ixN xs.length i = some j) : j < xs.length := by
  unfold ixN at h
  split at h
  · split at h
    · cases h; omega
    · cases h
  · split at h
    · cases h; omega
    · cases h
theorem at_some {α : Type} {xs : List α} {i : Int} : (atI xs i).isSome = (ixN xs.length i).isSome := by
  unfold atI
  cases e : ixN xs.length i with
  | none => rfl
  | some j => simp [ix_lt e]
theorem d_ixQ {K : PySem.W.Frag} [Inhabited α] : D2 (rIxL K) (tSeq K A) tInt A (fun xs i => (atI xs i).isSome) (fun xs i => (atI xs i).getD default) := fun I L H v w xs i Q se rv rw hp k => by
  obtain ⟨p, vs, rfl, hl, pr⟩ := rv
  cases rw
  have hp : (atI xs i).isSome = true := hp
  rw [at_some] at hp
  obtain ⟨j, hj⟩ := Option.isSome_iff_exists.mp hp
  have hlt := ix_lt hj
  obtain ⟨y, hy⟩ : ∃ y, vs[j]? = some y := ⟨_, List.getElem?_eq_getElem (by rw [paired_len pr]; exact hlt)⟩
  obtain ⟨d, hd, rd⟩ := paired_get pr hy
  refine ⟨p, vs, i, y, rfl, rfl, Same.sql se.same hl, ?_, k I _ H (Same.refl _) se ?_⟩
  · unfold atI; rw [paired_len pr, hj]; exact hy
  · show A.rep I y ((atI xs i).getD default)
    unfold atI; rw [hj]; show A.rep I y ((xs[j]?).getD default); rw [hd]; exact rd
theorem D2.imp {A' : Ty α} {r : R2} {P : α → β → Prop} {g : α → β → δ} (D : D2 r A B C P g) (h : ∀ {I v d}, A'.rep I v d → A.rep I v d) : D2 r A' B C P g := fun I L H v w a b Q se rv rw hp k => D I L H v w a b Q se (h rv) rw hp k
theorem d_ixL {K : PySem.W.Frag} [Inhabited α] : D2 (rIxL K) (tLst A) tInt A (fun xs i => (atI xs i).isSome) (fun xs i => (atI xs i).getD default) := d_ixQ.imp seq_of
theorem d_ixT {K : PySem.W.Frag} [Inhabited α] : D2 (rIxT K) (tTuL A) tInt A (fun xs i => (atI xs i).isSome) (fun xs i => (atI xs i).getD default) := fun I L H v w xs i Q se rv rw hp k => by
  obtain ⟨p, vs, rfl, hl, pr⟩ := rv
  cases rw
  have hp : (atI xs i).isSome = true := hp
  rw [at_some] at hp
  obtain ⟨j, hj⟩ := Option.isSome_iff_exists.mp hp
  have hlt := ix_lt hj
  obtain ⟨y, hy⟩ : ∃ y, vs[j]? = some y := ⟨_, List.getElem?_eq_getElem (by rw [paired_len pr]; exact hlt)⟩
  obtain ⟨d, hd, rd⟩ := paired_get pr hy
  refine ⟨p, vs, i, y, rfl, rfl, .of (se.same _ _ hl), ?_, k I _ H (Same.refl _) se ?_⟩
  · unfold atI; rw [paired_len pr, hj]; exact hy
  · show A.rep I y ((atI xs i).getD default)
    unfold atI; rw [hj]; show A.rep I y ((xs[j]?).getD default); rw [hd]; exact rd
end
end Fw


namespace Fw
open PySem L2
section
variable {X : Cx} {N : List Str} {sc : Scope} {own : Str → Bool} {α β γ δ ε τ : Type} {A : Ty α} {B : Ty β} {C : Ty δ} {T : Tys τ} {e a b c : Expr} {es : List Expr} {x : Str} {pos : Pos} {Γ : List Slot} {L : γ → List Rg} {s : γ} {xt : XT ε} {L0 : List Rg}
/-! ## 8. arguments, calls of built-ins -/
theorem af_nil : AF X [] Γ L s Tys.nil xt (.val ((), s)) := fun I σ F H Q fr th => PA_to pa_nil (th I [] H (Same.refl _) fr rfl)
theorem af_cons {ma : Res ε (α × γ)} {mr : α → γ → Res ε (τ × γ)} (ha : EF X e Γ L s A xt ma) (hr : ∀ d s1, AF X es Γ L s1 T xt (mr d s1)) (hs : starEach (e :: es) X.env = (false, eval e X.env) :: starEach es X.env := by exact star_c rfl) :
    AF X (e :: es) Γ L s (Tys.cons A T) xt (ma.bnd fun d s1 => (mr d s1).bnd fun t s2 => .val ((d, t), s2)) := fun I σ F H Q fr th => by
  refine PA_to (pa_cons pe_w pa_w hs) ?_
  refine ha I σ F H _ fr ?_
  cases ma with
  | stuck => exact th
  | exn x => exact th
  | val p =>
    intro I1 v H1 e1 fr1 rv
    refine hr p.1 p.2 I1 σ F H1 _ fr1 ?_
    dsimp only [Res.bnd] at th
    cases hm : mr p.1 p.2 with
    | stuck => rw [hm] at th; exact th
    | exn x =>
      rw [hm] at th
      exact fun I' H' c da e2 fr' r => th I' H' c da (e1.trans e2) fr' r
    | val q =>
      rw [hm] at th
      intro I2 vs H2 e2 fr2 rvs
      exact th I2 (v :: vs) H2 (e1.trans e2) fr2 ⟨v, vs, rfl, A.mono e2 rv, rvs⟩
/-- pure arguments -/
def AP' (X : Cx) (es : List Expr) (Γ : List Slot) (L : List Rg) (T : Tys τ) (t : τ) : Prop := AF X es Γ (fun _ : Unit => L) () T xt0 (.val (t, ()))
theorem ap_nil : AP' X [] Γ L0 Tys.nil () := af_nil
theorem ap_cons {d : α} {t : τ} (ha : EP X e Γ L0 A d) (hr : AP' X es Γ L0 T t) (hs : starEach (e :: es) X.env = (false, eval e X.env) :: starEach es X.env := by exact star_c rfl) : AP' X (e :: es) Γ L0 (Tys.cons A T) (d, t) :=
  af_cons (γ := Unit) (L := fun _ => L0) ha (fun _ _ => hr) hs
theorem af_pure {t : τ} (h : AP' X es Γ (L s) T t) : AF X es Γ L s T xt (.val (t, s)) := fun I σ F H Q fr th => h I σ F H Q fr th
/-- the arguments, then the rest -/
theorem Then.bndA {I : Hp} {F : List Rg} {σ : St} {H : Hp} {Q : VK} {Q' : List V → Hp → Prop} {m : Res ε (τ × γ)} {k : τ → γ → Res ε (δ × γ)} (ha : AF X es Γ L s T xt m) (fr : FrOk I σ Γ (L s ++ F) H) (th : Then X I F σ Γ L C xt Q (m.bnd k))
    (h : ∀ (I' : Hp) (v : List V) (H' : Hp) (d : τ) (s' : γ), Same I I' → FrOk I' σ Γ (L s' ++ F) H' → T.rep I' v d → Then X I' F σ Γ L C xt Q (k d s') → Q' v H') : wA X es σ H Q' := by
  refine ha I σ F H _ fr ?_
  cases m with
  | stuck => exact th
  | exn x => exact th
  | val p => exact fun I' v H' e1 fr1 r => h I' v H' p.1 p.2 e1 fr1 r (then_up e1 th)
theorem ef_callB {mm : Res ε (δ × γ)} {id : String} {r : List V → Hp → VK → Prop} {P : τ → Prop} [∀ x, Decidable (P x)] {g : τ → δ} {m : Res ε (τ × γ)} {p : Pos} (cx : Cxt X N sc own) (hc : CallR X (.builtin id) r) (D : DN r T C P g) (hm : X.mg x = none) (hv : bootBuiltins x = some (.builtin id)) (ha : AF X (e :: es) Γ L s T xt m)
    (hg : glB sc x = true := by decide +kernel) (he : starEach (e :: es) X.env = (false, eval e X.env) :: starEach es X.env := by exact star_c rfl) (hpl : (backTo pos (starEach es X.env)).any (·.1) = false := by rfl) (heq : mm = (m.bnd fun t s1 => Res.grd (P t) (g t, s1)) := by exact rfl) :
    EF X (.Call (.Name x p) (e :: es) [] pos) Γ L s C xt mm := by
  subst heq
  intro I σ F H Q fr th
  obtain ⟨h1, h2, h3⟩ := glB_gl cx hg
  refine PE_to (pe_callB hc h1 hm hv pa_w h3 h2 he hpl) ?_
  refine Then.bndA ha fr th fun I1 v H1 d s1 e1 fr1 rv th1 => ?_
  obtain ⟨hp, th3⟩ := Then.grd th1
  exact D I1 _ H1 v d Q fr1.sep rv hp fun I' z H' e3 se rz => th3 I' z H' e3 (fr1.step e3 se) rz
theorem ef_callTy {mm : Res ε (δ × γ)} {id : String} {r : List V → Hp → VK → Prop} {P : τ → Prop} [∀ x, Decidable (P x)] {g : τ → δ} {m : Res ε (τ × γ)} {p : Pos} (cx : Cxt X N sc own) (hc : CallR X (.type id) r) (D : DN r T C P g) (hm : X.mg x = none) (hv : bootBuiltins x = some (.type id)) (ha : AF X (e :: es) Γ L s T xt m)
    (hg : glB sc x = true := by decide +kernel) (he : starEach (e :: es) X.env = (false, eval e X.env) :: starEach es X.env := by exact star_c rfl) (hpl : (backTo pos (starEach es X.env)).any (·.1) = false := by rfl) (heq : mm = (m.bnd fun t s1 => Res.grd (P t) (g t, s1)) := by exact rfl) :
    EF X (.Call (.Name x p) (e :: es) [] pos) Γ L s C xt mm := by
  subst heq
  intro I σ F H Q fr th
  obtain ⟨h1, h2, h3⟩ := glB_gl cx hg
  refine PE_to (pe_callTy hc h1 hm hv pa_w h3 h2 he hpl) ?_
  refine Then.bndA ha fr th fun I1 v H1 d s1 e1 fr1 rv th1 => ?_
  obtain ⟨hp, th3⟩ := Then.grd th1
  exact D I1 _ H1 v d Q fr1.sep rv hp fun I' z H' e3 se rz => th3 I' z H' e3 (fr1.step e3 se) rz
theorem ep_callB {z : δ} {id : String} {r : List V → Hp → VK → Prop} {P : τ → Prop} {g : τ → δ} {t : τ} {p : Pos} (cx : Cxt X N sc own) (hc : CallR X (.builtin id) r) (D : DN r T C P g) (hm : X.mg x = none) (hv : bootBuiltins x = some (.builtin id)) (ha : AP' X (e :: es) Γ L0 T t) (hp : P t)
    (hg : glB sc x = true := by decide +kernel) (he : starEach (e :: es) X.env = (false, eval e X.env) :: starEach es X.env := by exact star_c rfl) (hpl : (backTo pos (starEach es X.env)).any (·.1) = false := by rfl) (heq : z = (g t) := by exact rfl) :
    EP X (.Call (.Name x p) (e :: es) [] pos) Γ L0 C z := by
  subst heq
  haveI : ∀ x, Decidable (P x) := fun x => Classical.propDecidable _
  have h := ef_callB (pos := pos) (p := p) (xt := xt0) (γ := Unit) (L := fun _ => L0) (s := ()) cx hc D hm hv ha hg he hpl
  have q : (Res.bnd (.val (t, ())) fun t s1 => Res.grd (P t) (g t, s1) : Res Empty (δ × Unit)) = .val (g t, ()) := Res.grd_true hp _
  rw [q] at h
  exact h
theorem ep_callTy {z : δ} {id : String} {r : List V → Hp → VK → Prop} {P : τ → Prop} {g : τ → δ} {t : τ} {p : Pos} (cx : Cxt X N sc own) (hc : CallR X (.type id) r) (D : DN r T C P g) (hm : X.mg x = none) (hv : bootBuiltins x = some (.type id)) (ha : AP' X (e :: es) Γ L0 T t) (hp : P t)
    (hg : glB sc x = true := by decide +kernel) (he : starEach (e :: es) X.env = (false, eval e X.env) :: starEach es X.env := by exact star_c rfl) (hpl : (backTo pos (starEach es X.env)).any (·.1) = false := by rfl) (heq : z = (g t) := by exact rfl) :
    EP X (.Call (.Name x p) (e :: es) [] pos) Γ L0 C z := by
  subst heq
  haveI : ∀ x, Decidable (P x) := fun x => Classical.propDecidable _
  have h := ef_callTy (pos := pos) (p := p) (xt := xt0) (γ := Unit) (L := fun _ => L0) (s := ()) cx hc D hm hv ha hg he hpl
  have q : (Res.bnd (.val (t, ())) fun t s1 => Res.grd (P t) (g t, s1) : Res Empty (δ × Unit)) = .val (g t, ()) := Res.grd_true hp _
  rw [q] at h
  exact h
abbrev Tys1 (A : Ty α) : Tys (α × Unit) := Tys.cons A Tys.nil
abbrev Tys2 (A : Ty α) (B : Ty β) : Tys (α × β × Unit) := Tys.cons A (Tys.cons B Tys.nil)
theorem tys1 {I : Hp} {vs : List V} {t : α × Unit} (h : (Tys1 A).rep I vs t) : ∃ v, vs = [v] ∧ A.rep I v t.1 := by
  obtain ⟨v, xs, rfl, h1, rfl⟩ := h
  exact ⟨v, rfl, h1⟩
theorem tys2 {I : Hp} {vs : List V} {t : α × β × Unit} (h : (Tys2 A B).rep I vs t) : ∃ v w, vs = [v, w] ∧ A.rep I v t.1 ∧ B.rep I w t.2.1 := by
  obtain ⟨v, xs, rfl, h1, w, ys, rfl, h2, rfl⟩ := h
  exact ⟨v, w, rfl, h1, h2⟩
theorem dn_lenT : DN (fun xs H Q => ∃ z, xs = [.str z] ∧ z.length ≤ sizeLine ∧ Q (.int z.length) H) (Tys1 tTx) tInt (fun t => t.1.length ≤ sizeLine) (fun t => (t.1.length : Int)) := fun I L H vs t Q se rv hp k => by
  obtain ⟨v, rfl, rfl⟩ := tys1 rv
  refine ⟨_, rfl, ?_, k I _ H (Same.refl _) se ?_⟩
  · show t.1.toArray.size ≤ _
    simpa using hp
  · show V.int _ = V.int _
    congr 1
theorem DN.imp {T' : Tys τ} {r : List V → Hp → VK → Prop} {P : τ → Prop} {g : τ → δ} (D : DN r T C P g) (h : ∀ {I v d}, T'.rep I v d → T.rep I v d) : DN r T' C P g := fun I L H v a Q se rv hp k => D I L H v a Q se (h rv) hp k
theorem tys1_imp {A' : Ty α} (h : ∀ {I v d}, A'.rep I v d → A.rep I v d) {I : Hp} {v : List V} {d : α × Unit} (q : (Tys1 A').rep I v d) : (Tys1 A).rep I v d := let ⟨x, xs, a, b, c⟩ := q; ⟨x, xs, a, h b, c⟩
theorem dn_lenQ {K : PySem.W.Frag} : DN (fun xs H Q => ∃ p ys, xs = [.ref p] ∧ (SqL K H p ys ∨ SqT K H p ys) ∧ Q (.int ys.length) H) (Tys1 (tSeq K A)) tInt (fun _ => True) (fun t => (t.1.length : Int)) := fun I L H vs t Q se rv hp k => by
  obtain ⟨v, rfl, p, ws, rfl, h2, h3⟩ := tys1 rv
  exact ⟨p, ws, rfl, .inl (Same.sql se.same h2), k I _ H (Same.refl _) se (by rw [paired_len h3]; rfl)⟩
theorem dn_lenL {K : PySem.W.Frag} : DN (fun xs H Q => ∃ p ys, xs = [.ref p] ∧ (SqL K H p ys ∨ SqT K H p ys) ∧ Q (.int ys.length) H) (Tys1 (tLst A)) tInt (fun _ => True) (fun t => (t.1.length : Int)) := dn_lenQ.imp (tys1_imp seq_of)
theorem dn_lenU {K : PySem.W.Frag} : DN (fun xs H Q => ∃ p ys, xs = [.ref p] ∧ (SqL K H p ys ∨ SqT K H p ys) ∧ Q (.int ys.length) H) (Tys1 (tTuL A)) tInt (fun _ => True) (fun t => (t.1.length : Int)) := fun I L H vs t Q se rv hp k => by
  obtain ⟨v, rfl, p, ws, rfl, h2, h3⟩ := tys1 rv
  exact ⟨p, ws, rfl, .inr (.of (se.same _ _ h2)), k I _ H (Same.refl _) se (by rw [paired_len h3]; rfl)⟩
theorem dn_abs : DN (fun xs H Q => ∃ i, xs = [.int i] ∧ Q (.int (if i < 0 then -i else i)) H) (Tys1 tInt) tInt (fun _ => True) (fun t => if t.1 < 0 then -t.1 else t.1) := fun I L H vs t Q se rv hp k => by
  obtain ⟨v, rfl, rfl⟩ := tys1 rv
  exact ⟨_, rfl, k I _ H (Same.refl _) se rfl⟩
theorem dn_min2 : DN (fun xs H Q => ∃ i j, xs = [.int i, .int j] ∧ Q (.int (if j < i then j else i)) H) (Tys2 tInt tInt) tInt (fun _ => True) (fun t => if t.2.1 < t.1 then t.2.1 else t.1) := fun I L H vs t Q se rv hp k => by
  obtain ⟨v, w, rfl, rfl, rfl⟩ := tys2 rv
  exact ⟨_, _, rfl, k I _ H (Same.refl _) se rfl⟩
theorem dn_max2 : DN (fun xs H Q => ∃ i j, xs = [.int i, .int j] ∧ Q (.int (if j > i then j else i)) H) (Tys2 tInt tInt) tInt (fun _ => True) (fun t => if t.2.1 > t.1 then t.2.1 else t.1) := fun I L H vs t Q se rv hp k => by
  obtain ⟨v, w, rfl, rfl, rfl⟩ := tys2 rv
  exact ⟨_, _, rfl, k I _ H (Same.refl _) se rfl⟩
theorem dn_intB : DN (fun xs H Q => (∃ i, xs = [.int i] ∧ Q (.int i) H) ∨ ∃ k, xs = [.bl k] ∧ Q (.int (if k then 1 else 0)) H) (Tys1 tBool) tInt (fun _ => True) (fun t => if t.1 then 1 else 0) := fun I L H vs t Q se rv hp k => by
  obtain ⟨v, rfl, rfl⟩ := tys1 rv
  exact .inr ⟨_, rfl, k I _ H (Same.refl _) se rfl⟩
theorem dn_intT : DN (fun xs H Q => ∃ a n, xs = [.str a] ∧ PySem.intText? a = some n ∧ a.length ≤ 640 ∧ Q (.int n) H) (Tys1 tTx) tInt (fun t => t.1.length ≤ 640 ∧ (PySem.intText? ⟨t.1.toArray⟩).isSome) (fun t => (PySem.intText? ⟨t.1.toArray⟩).getD 0) := fun I L H vs t Q se rv hp k => by
  obtain ⟨v, rfl, rfl⟩ := tys1 rv
  obtain ⟨h1, h2⟩ := hp
  obtain ⟨n, hn⟩ := Option.isSome_iff_exists.mp h2
  refine ⟨_, n, rfl, hn, by show t.1.toArray.size ≤ _; simpa using h1, k I _ H (Same.refl _) se ?_⟩
  show V.int n = V.int ((PySem.intText? ⟨t.1.toArray⟩).getD 0)
  rw [hn]; rfl
theorem dn_strI : DN (fun xs H Q => ∃ i, xs = [.int i] ∧ i.natAbs.log2 < 1920 ∧ Q (.str (toString i)) H) (Tys1 tInt) tTx (fun t => t.1.natAbs.log2 < 1920) (fun t => (PySem.Str.ofString (toString t.1)).cps.toList) := fun I L H vs t Q se rv hp k => by
  obtain ⟨v, rfl, rfl⟩ := tys1 rv
  exact ⟨_, rfl, hp, k I _ H (Same.refl _) se rfl⟩
theorem dn_all {K : PySem.W.Frag} : DN (rAll K) (Tys1 (tLst tBool)) tBool (fun _ => True) (fun t => t.1.all id) := fun I L H vs t Q se rv hp k => by
  obtain ⟨v, rfl, p, ws, rfl, h2, h3⟩ := tys1 rv
  rw [paired_bool h3] at h2
  exact ⟨p, t.1, rfl, .of (se.same _ _ h2), k I _ H (Same.refl _) se rfl⟩
theorem dn_any {K : PySem.W.Frag} : DN (rAny K) (Tys1 (tLst tBool)) tBool (fun _ => True) (fun t => t.1.any id) := fun I L H vs t Q se rv hp k => by
  obtain ⟨v, rfl, p, ws, rfl, h2, h3⟩ := tys1 rv
  rw [paired_bool h3] at h2
  exact ⟨p, t.1, rfl, .of (se.same _ _ h2), k I _ H (Same.refl _) se rfl⟩
/-- tuple(a list) -/
theorem dn_tupQ {K : PySem.W.Frag} : DN (fun xs H Q => ∃ p ys, xs = [.ref p] ∧ ((SqL K H p ys ∧ ∀ l, H l = none → Q (.ref l) (upd H l (.tup ys))) ∨ (SqT K H p ys ∧ Q (.ref p) H))) (Tys1 (tSeq K A)) (tTuL A) (fun _ => True) (fun t => t.1) := fun I L H vs t Q se rv hp k => by
  obtain ⟨v, rfl, p, ws, rfl, h2, h3⟩ := tys1 rv
  refine ⟨p, ws, rfl, .inl ⟨Same.sql se.same h2, fun l hl => k (upd I l (.tup ws)) _ _ (Same.upd (se.same.free hl)) (se.imm hl) ⟨l, ws, rfl, upd_same, paired_mono (Same.upd (se.same.free hl)) h3⟩⟩⟩
theorem dn_listQ {K : PySem.W.Frag} : DN (fun xs H Q => ∃ p ys, xs = [.ref p] ∧ (SqL K H p ys ∨ SqT K H p ys) ∧ ∀ l, H l = none → Q (.ref l) (upd H l (.lst ys))) (Tys1 (tSeq K A)) (tLst A) (fun _ => True) (fun t => t.1) := fun I L H vs t Q se rv hp k => by
  obtain ⟨v, rfl, p, ws, rfl, h2, h3⟩ := tys1 rv
  refine ⟨p, ws, rfl, .inl (Same.sql se.same h2), fun l hl => k (upd I l (.lst ws)) _ _ (Same.upd (se.same.free hl)) (se.imm hl) ⟨l, ws, rfl, upd_same, paired_mono (Same.upd (se.same.free hl)) h3⟩⟩
theorem dn_tupL {K : PySem.W.Frag} : DN (fun xs H Q => ∃ p ys, xs = [.ref p] ∧ ((SqL K H p ys ∧ ∀ l, H l = none → Q (.ref l) (upd H l (.tup ys))) ∨ (SqT K H p ys ∧ Q (.ref p) H))) (Tys1 (tLst A)) (tTuL A) (fun _ => True) (fun t => t.1) := dn_tupQ.imp (tys1_imp seq_of)
theorem dn_listL {K : PySem.W.Frag} : DN (fun xs H Q => ∃ p ys, xs = [.ref p] ∧ (SqL K H p ys ∨ SqT K H p ys) ∧ ∀ l, H l = none → Q (.ref l) (upd H l (.lst ys))) (Tys1 (tLst A)) (tLst A) (fun _ => True) (fun t => t.1) := dn_listQ.imp (tys1_imp seq_of)
theorem dn_listU {K : PySem.W.Frag} : DN (fun xs H Q => ∃ p ys, xs = [.ref p] ∧ (SqL K H p ys ∨ SqT K H p ys) ∧ ∀ l, H l = none → Q (.ref l) (upd H l (.lst ys))) (Tys1 (tTuL A)) (tLst A) (fun _ => True) (fun t => t.1) := fun I L H vs t Q se rv hp k => by
  obtain ⟨v, rfl, p, ws, rfl, h2, h3⟩ := tys1 rv
  refine ⟨p, ws, rfl, .inr (.of (se.same _ _ h2)), fun l hl => k (upd I l (.lst ws)) _ _ (Same.upd (se.same.free hl)) (se.imm hl) ⟨l, ws, rfl, upd_same, paired_mono (Same.upd (se.same.free hl)) h3⟩⟩
end

/-! ## 9. slices -/
section
variable {X : Cx} {N : List Str} {sc : Scope} {own : Str → Bool} {α β γ δ ε τ : Type} {A : Ty α} {B : Ty β} {C : Ty δ} {T : Tys τ} {e a b c : Expr} {es : List Expr} {x : Str} {pos p2 : Pos} {Γ : List Slot} {L : γ → List Rg} {s : γ} {xt : XT ε} {L0 : List Rg}
/-- a slice's part -/
def OF (X : Cx) (oe : Option Expr) (Γ : List Slot) (L : γ → List Rg) (s : γ) (xt : XT ε) (m : Res ε (Option Int × γ)) : Prop :=
  ∃ t : TO, PO X oe t ∧ ∀ (I : Hp) (σ : St) (F : List Rg) (H : Hp) (Q : Option Int → Hp → Prop), FrOk I σ Γ (L s ++ F) H → (match m with
    | .stuck => False
    | .val p => ∀ I' H', Same I I' → FrOk I' σ Γ (L p.2 ++ F) H' → Q p.1 H'
    | .exn x => ∀ I' H' c da, Same I I' → FrOk I' σ Γ (xt.regs x ++ F) H' → xt.rep I' x c da → wX X c da σ H') → t σ H Q
theorem of_none : OF X none Γ L s xt (.val (none, s)) := ⟨_, po_none, fun I σ F H Q fr th => th I H (Same.refl _) fr⟩
theorem of_some {m : Res ε (Int × γ)} (h : EF X e Γ L s tInt xt m) : OF X (some e) Γ L s xt (m.bnd fun i s => .val (some i, s)) := ⟨_, po_some pe_w, fun I σ F H Q fr th => by
  refine h I σ F H _ fr ?_
  cases m with
  | stuck => exact th
  | exn x => exact th
  | val p =>
    intro I' v H' e1 fr1 r
    exact ⟨p.1, r, th I' H' e1 fr1⟩⟩
def DS (r : V → Option Int → Option Int → Hp → VK → Prop) (A : Ty α) (C : Ty δ) (P : α → Prop) (g : α → Option Int → Option Int → δ) : Prop := ∀ (I : Hp) (L : List Rg) (H : Hp) (v : V) (a : α) (lo hi : Option Int) (Q : VK), Sep I L H → A.rep I v a → P a →
  (∀ I' z H', Same I I' → Sep I' L H' → C.rep I' z (g a lo hi) → Q z H') → r v lo hi H Q
theorem ef_slice {mm : Res ε (δ × γ)} {lo hi : Option Expr} {r : V → Option Int → Option Int → Hp → VK → Prop} {P : α → Prop} [∀ x, Decidable (P x)] {g : α → Option Int → Option Int → δ} {ma : Res ε (α × γ)} {ml : α → γ → Res ε (Option Int × γ)} {mh : α → Option Int → γ → Res ε (Option Int × γ)}
    (hr : SlR X r) (D : DS r A C P g) (ha : EF X e Γ L s A xt ma) (hl : ∀ d s1, OF X lo Γ L s1 xt (ml d s1)) (hh : ∀ d o s1, OF X hi Γ L s1 xt (mh d o s1)) (heq : mm = (ma.bnd fun d s1 => (ml d s1).bnd fun o s2 => (mh d o s2).bnd fun u s3 => Res.grd (P d) (g d o u, s3)) := by exact rfl) :
    EF X (.Subscript e (.Slice lo hi none p2) pos) Γ L s C xt mm := by
  subst heq
  intro I σ F H Q fr th
  -- the parts' readings depend on the data: chosen once per data by the weakest reading
  have pl : PO X lo (fun σ H Q => ∃ t, PO X lo t ∧ t σ H Q) := ⟨fun pins s σ H Q I h => let ⟨t, p, q⟩ := h; p.run pins s σ H Q I q⟩
  have ph : PO X hi (fun σ H Q => ∃ t, PO X hi t ∧ t σ H Q) := ⟨fun pins s σ H Q I h => let ⟨t, p, q⟩ := h; p.run pins s σ H Q I q⟩
  refine PE_to (pe_slice hr pe_w pl ph) ?_
  refine Then.bnd ha fr th fun I1 v H1 d s1 e1 fr1 rv th1 => ?_
  obtain ⟨tl, ptl, ql⟩ := hl d s1
  refine ⟨tl, ptl, ql I1 σ F H1 _ fr1 ?_⟩
  cases hm : ml d s1 with
  | stuck => rw [hm] at th1; exact th1
  | exn x => rw [hm] at th1; exact th1
  | val p =>
    rw [hm] at th1
    intro I2 H2 e2 fr2
    obtain ⟨th', pth, qh⟩ := hh d p.1 p.2
    refine ⟨th', pth, qh I2 σ F H2 _ fr2 ?_⟩
    dsimp only [Res.bnd] at th1
    cases hm2 : mh d p.1 p.2 with
    | stuck => rw [hm2] at th1; exact th1
    | exn x =>
      rw [hm2] at th1
      exact fun I' H' c da e3 fr' r => th1 I' H' c da (e2.trans e3) fr' r
    | val q =>
      rw [hm2] at th1
      intro I3 H3 e3 fr3
      obtain ⟨hp, th3⟩ := Then.grd th1
      exact D I3 _ H3 v d p.1 q.1 Q fr3.sep (A.mono (e2.trans e3) rv) hp fun I' z H' e4 se rz => th3 I' z H' ((e2.trans e3).trans e4) (fr3.step e4 se) rz
/-- a pure slice -/
def OP (X : Cx) (oe : Option Expr) (Γ : List Slot) (L : List Rg) (o : Option Int) : Prop := OF X oe Γ (fun _ : Unit => L) () xt0 (.val (o, ()))
theorem op_none : OP X none Γ L0 none := of_none
theorem op_some {i : Int} (h : EP X e Γ L0 tInt i) : OP X (some e) Γ L0 (some i) := of_some (γ := Unit) (L := fun _ => L0) h
theorem of_pure {oe : Option Expr} {o : Option Int} (h : OP X oe Γ (L s) o) : OF X oe Γ L s xt (.val (o, s)) := let ⟨t, p, q⟩ := h; ⟨t, p, fun I σ F H Q fr th => q I σ F H Q fr th⟩
theorem ep_slice {z : δ} {lo hi : Option Expr} {r : V → Option Int → Option Int → Hp → VK → Prop} {P : α → Prop} {g : α → Option Int → Option Int → δ} {d : α} {o u : Option Int} (hr : SlR X r) (D : DS r A C P g) (ha : EP X e Γ L0 A d) (hl : OP X lo Γ L0 o) (hh : OP X hi Γ L0 u) (hp : P d) (heq : z = (g d o u) := by exact rfl) :
    EP X (.Subscript e (.Slice lo hi none p2) pos) Γ L0 C z := by
  subst heq
  haveI : ∀ x, Decidable (P x) := fun x => Classical.propDecidable _
  have h := ef_slice (pos := pos) (p2 := p2) (xt := xt0) (γ := Unit) (L := fun _ => L0) (s := ()) hr D ha (fun _ _ => hl) (fun _ _ _ => hh)
  have q : (Res.bnd (.val (d, ())) fun d s1 => Res.bnd (.val (o, ())) fun o s2 => Res.bnd (.val (u, ())) fun u s3 => Res.grd (P d) (g d o u, s3) : Res Empty (δ × Unit)) = .val (g d o u, ()) := Res.grd_true hp _
  rw [q] at h
  exact h
/-- what a slice takes -/
def cut {ι : Type} (xs : List ι) (lo hi : Option Int) : List ι := (xs.drop (HT.sIx xs.length 0 lo)).take (HT.sIx xs.length xs.length hi - HT.sIx xs.length 0 lo)
theorem ds_tx : DS rSlS tTx tTx (fun t => t.length ≤ sizeLine) cut := fun I L H v t lo hi Q se rv hp k => by
  cases rv
  refine ⟨_, rfl, by show t.toArray.size ≤ _; simpa using hp, k I _ H (Same.refl _) se ?_⟩
  show V.str _ = V.str _
  congr 1
theorem ds_lst {K : PySem.W.Frag} : DS (rSlL K) (tLst A) (tLst A) (fun _ => True) cut := fun I L H v t lo hi Q se rv hp k => by
  obtain ⟨p, vs, rfl, h2, h3⟩ := rv
  refine ⟨p, vs, rfl, SqL.of (se.same _ _ h2), fun l hl => k (upd I l (.lst (cutV vs lo hi))) _ _ (Same.upd (se.same.free hl)) (se.imm hl) ⟨l, _, rfl, upd_same, ?_⟩⟩
  unfold cutV cut
  rw [paired_len h3]
  exact paired_take _ (paired_drop _ (paired_mono (Same.upd (se.same.free hl)) h3))
theorem ds_tup {K : PySem.W.Frag} : DS (rSlA K) (tTuL A) (tTuL A) (fun _ => True) cut := fun I L H v t lo hi Q se rv hp k => by
  obtain ⟨p, vs, rfl, h2, h3⟩ := rv
  refine ⟨p, vs, rfl, SqT.of (se.same _ _ h2), fun hw => k I _ H (Same.refl _) se ⟨p, vs, rfl, h2, ?_⟩, fun _ l hl => k (upd I l (.tup (cutV vs lo hi))) _ _ (Same.upd (se.same.free hl)) (se.imm hl) ⟨l, _, rfl, upd_same, ?_⟩⟩
  · have hw' := hw
    rw [paired_len h3] at hw'
    show Paired _ vs (cut t lo hi)
    unfold cut
    rw [hw'.1, hw'.2, List.drop_zero, Nat.sub_zero, List.take_length]
    exact h3
  · unfold cutV cut
    rw [paired_len h3]
    exact paired_take _ (paired_drop _ (paired_mono (Same.upd (se.same.free hl)) h3))
theorem d_catU {K : PySem.W.Frag} : D2 (rCatA K) (tTuL A) (tTuL A) (tTuL A) (fun s t => s.length + t.length ≤ sizeLine) (fun s t => s ++ t) := fun I L H v w s t Q se rv rw hp k => by
  obtain ⟨p, vs, rfl, h2, h3⟩ := rv
  obtain ⟨q, ws, rfl, h4, h5⟩ := rw
  refine ⟨p, q, vs, ws, rfl, rfl, SqT.of (se.same _ _ h2), SqT.of (se.same _ _ h4), by rw [paired_len h3, paired_len h5]; exact hp, fun hn => ?_, fun hn hm => ?_, fun _ _ l hl => ?_⟩
  · subst hn
    cases h3
    exact k I _ H (Same.refl _) se ⟨q, ws, rfl, h4, h5⟩
  · subst hm
    cases h5
    exact k I _ H (Same.refl _) se ⟨p, vs, rfl, h2, by show Paired _ vs (s ++ []); rw [List.append_nil]; exact h3⟩
  · exact k (upd I l (.tup (vs ++ ws))) _ _ (Same.upd (se.same.free hl)) (se.imm hl) ⟨l, _, rfl, upd_same, paired_mono (Same.upd (se.same.free hl)) (paired_app h3 h5)⟩
end
end Fw


namespace Fw
open PySem L2
section
variable {X : Cx} {N : List Str} {sc : Scope} {own : Str → Bool} {α β γ δ ε τ : Type} {A : Ty α} {B : Ty β} {C : Ty δ} {T : Tys τ} {e a b c : Expr} {es rest : List Expr} {x : Str} {pos : Pos} {Γ : List Slot} {L : γ → List Rg} {s : γ} {xt : XT ε} {L0 : List Rg}
/-! ## 10. displays -/
/-- written items of one type -/
def Tys.lst (A : Ty α) : Tys (List α) := ⟨fun I vs xs => Paired (A.rep I) vs xs, fun e h => paired_mono e h, fun xs => xs.map fun d => .dat A d, fun h => by rw [List.length_map]; exact paired_len h, fun {I vs xs} h i s q => by
  rw [List.getElem?_map] at q
  cases hx : xs[i]? with
  | none => rw [hx] at q; cases q
  | some d =>
    rw [hx] at q
    have q' : Slot.dat A d = s := Option.some.inj q
    subst q'
    obtain ⟨v, h1, h2⟩ := paired_get' h hx
    rw [h1]
    exact ⟨v, rfl, h2⟩⟩
theorem afl_nil : AF X [] Γ L s (Tys.lst A) xt (.val ([], s)) := fun I σ F H Q fr th => PA_to pa_nil (th I [] H (Same.refl _) fr .nil)
theorem afl_cons {ma : Res ε (α × γ)} {mr : α → γ → Res ε (List α × γ)} (ha : EF X e Γ L s A xt ma) (hr : ∀ d s1, AF X es Γ L s1 (Tys.lst A) xt (mr d s1)) (hs : starEach (e :: es) X.env = (false, eval e X.env) :: starEach es X.env := by exact star_c rfl) :
    AF X (e :: es) Γ L s (Tys.lst A) xt (ma.bnd fun d s1 => (mr d s1).bnd fun t s2 => .val (d :: t, s2)) := fun I σ F H Q fr th => by
  refine PA_to (pa_cons pe_w pa_w hs) ?_
  refine ha I σ F H _ fr ?_
  cases ma with
  | stuck => exact th
  | exn x => exact th
  | val p =>
    intro I1 v H1 e1 fr1 rv
    refine hr p.1 p.2 I1 σ F H1 _ fr1 ?_
    dsimp only [Res.bnd] at th
    cases hm : mr p.1 p.2 with
    | stuck => rw [hm] at th; exact th
    | exn x =>
      rw [hm] at th
      exact fun I' H' c da e2 fr' r => th I' H' c da (e1.trans e2) fr' r
    | val q =>
      rw [hm] at th
      intro I2 vs H2 e2 fr2 rvs
      exact th I2 (v :: vs) H2 (e1.trans e2) fr2 (.cons (A.mono e2 rv) rvs)
theorem apl_nil : AP' X [] Γ L0 (Tys.lst A) [] := afl_nil
theorem apl_cons {d : α} {t : List α} (ha : EP X e Γ L0 A d) (hr : AP' X es Γ L0 (Tys.lst A) t) (hs : starEach (e :: es) X.env = (false, eval e X.env) :: starEach es X.env := by exact star_c rfl) : AP' X (e :: es) Γ L0 (Tys.lst A) (d :: t) :=
  afl_cons (γ := Unit) (L := fun _ => L0) ha (fun _ _ => hr) hs
theorem Then.val {I : Hp} {F : List Rg} {σ : St} {H : Hp} {Q : VK} {Q' : List V → Hp → Prop} {m : Res ε (τ × γ)} {f : τ → δ} (ha : AF X es Γ L s T xt m) (fr : FrOk I σ Γ (L s ++ F) H) (th : Then X I F σ Γ L C xt Q (m.bnd fun t s' => .val (f t, s')))
    (h : ∀ (I' : Hp) (v : List V) (H' : Hp) (d : τ) (s' : γ), Same I I' → FrOk I' σ Γ (L s' ++ F) H' → T.rep I' v d → Then X I' F σ Γ L C xt Q (.val (f d, s')) → Q' v H') : wA X es σ H Q' := Then.bndA ha fr th h
theorem ef_tup {x1} {m : Res ε (τ × γ)} (h : AF X es Γ L s T xt m) (hl : es.length ≤ 1000 := by decide) (hT : ∀ t, (T.slots t).length = es.length := by intro _; rfl) : EF X (.Tuple es x1 pos) Γ L s (tTup T) xt m := fun I σ F H Q fr th => by
  refine PE_to (pe_tup pa_w) ?_
  refine h I σ F H _ fr ?_
  cases m with
  | stuck => exact th
  | exn x => exact th
  | val p =>
    intro I1 vs H1 e1 fr1 rv
    refine ⟨?_, fun q hq => ?_⟩
    · rw [T.len rv, hT]; exact Nat.le_trans hl (by decide)
    · exact th (upd I1 q (.tup vs)) _ _ (e1.trans (Same.upd (fr1.sep.same.free hq))) (fr1.step (Same.upd (fr1.sep.same.free hq)) (fr1.sep.imm hq)) ⟨q, vs, rfl, upd_same, T.mono (Same.upd (fr1.sep.same.free hq)) rv⟩
theorem ep_tup {x1} {t : τ} (h : AP' X es Γ L0 T t) (hl : es.length ≤ 1000 := by decide) (hT : ∀ t, (T.slots t).length = es.length := by intro _; rfl) : EP X (.Tuple es x1 pos) Γ L0 (tTup T) t := ef_tup (γ := Unit) (L := fun _ => L0) h hl hT
/-- a tuple of things of one type -/
theorem ef_tupL {x1} {m : Res ε (List α × γ)} (h : AF X es Γ L s (Tys.lst A) xt m) (hl : es.length ≤ 1000 := by decide) : EF X (.Tuple es x1 pos) Γ L s (tTuL A) xt (m.bnd fun t s' => Res.grd (t.length ≤ 1000) (t, s')) := fun I σ F H Q fr th => by
  refine PE_to (pe_tup pa_w) ?_
  refine Then.bndA h fr th fun I1 vs H1 d s1 e1 fr1 rv th1 => ?_
  obtain ⟨hz, th3⟩ := Then.grd th1
  refine ⟨by rw [paired_len rv]; exact Nat.le_trans hz (by decide), fun q hq => ?_⟩
  exact th3 (upd I1 q (.tup vs)) _ _ (Same.upd (fr1.sep.same.free hq)) (fr1.step (Same.upd (fr1.sep.same.free hq)) (fr1.sep.imm hq)) ⟨q, vs, rfl, upd_same, paired_mono (Same.upd (fr1.sep.same.free hq)) rv⟩
theorem ep_tupL {x1} {t : List α} (h : AP' X es Γ L0 (Tys.lst A) t) (hz : t.length ≤ 1000 := by decide) : EP X (.Tuple es x1 pos) Γ L0 (tTuL A) t := fun I σ F H Q fr th => by
  refine PE_to (pe_tup pa_w) ?_
  refine h I σ F H _ fr fun I1 vs H1 e1 fr1 rv => ?_
  refine ⟨by rw [paired_len rv]; exact Nat.le_trans hz (by decide), fun q hq => ?_⟩
  exact th (upd I1 q (.tup vs)) _ _ (e1.trans (Same.upd (fr1.sep.same.free hq))) (fr1.step (Same.upd (fr1.sep.same.free hq)) (fr1.sep.imm hq)) ⟨q, vs, rfl, upd_same, paired_mono (Same.upd (fr1.sep.same.free hq)) rv⟩
/-! ## 11. a new object that is one's own -/
def ThenN (X : Cx) (I : Hp) (F : List Rg) (σ : St) (Γ : List Slot) (L : γ → List Rg) (φ : α → CP) (xt : XT ε) (Q : VK) : Res ε (α × γ) → Prop
  | .stuck => False
  | .val p => ∀ I' q H', Same I I' → FrOk I' σ Γ (cell q (φ p.1) :: (L p.2 ++ F)) H' → Q (.ref q) H'
  | .exn x => ∀ I' H' c da, Same I I' → FrOk I' σ Γ (xt.regs x ++ F) H' → xt.rep I' x c da → wX X c da σ H'
def EN (X : Cx) (e : Expr) (Γ : List Slot) (L : γ → List Rg) (s : γ) (φ : α → CP) (xt : XT ε) (m : Res ε (α × γ)) : Prop :=
  ∀ (I : Hp) (σ : St) (F : List Rg) (H : Hp) (Q : VK), FrOk I σ Γ (L s ++ F) H → ThenN X I F σ Γ L φ xt Q m → wE X e σ H Q
/-- it becomes immutable -/
theorem ef_frz {m : Res ε (List α × γ)} (h : EN X e Γ L s (cLst A) xt m) : EF X e Γ L s (tLst A) xt m := fun I σ F H Q fr th => by
  refine h I σ F H Q fr ?_
  cases m with
  | stuck => exact th
  | exn x => exact th
  | val p =>
    intro I' q H' e1 fr1
    obtain ⟨o, ho, ⟨vs, rfl, hv⟩, hi, se⟩ := fr1.sep.freeze
    exact th _ _ _ (e1.trans (Same.upd hi)) (fr1.step (Same.upd hi) se) ⟨q, vs, rfl, upd_same, paired_mono (Same.upd hi) hv⟩
theorem en_lst {m : Res ε (List α × γ)} (h : AF X es Γ L s (Tys.lst A) xt m) : EN X (.List es pos) Γ L s (cLst A) xt (m.bnd fun t s' => Res.grd (t.length ≤ 1000) (t, s')) := fun I σ F H Q fr th => by
  refine PE_to (pe_lst pa_w) ?_
  refine h I σ F H _ fr ?_
  cases m with
  | stuck => exact th
  | exn x => exact th
  | val p =>
    intro I1 vs H1 e1 fr1 rv
    by_cases hz : p.1.length ≤ 1000
    · have q : (Res.bnd (.val p) fun t s' => Res.grd (t.length ≤ 1000) (t, s') : Res ε (List α × γ)) = .val p := Res.grd_true hz _
      rw [q] at th
      refine ⟨by rw [paired_len rv]; exact Nat.le_trans hz (by decide), fun q hq => ?_⟩
      exact th _ _ _ e1 ⟨fr1.sep.new hq ⟨vs, rfl, rv⟩, fr1.len, fr1.sl⟩
    · have q : (Res.bnd (.val p) fun t s' => Res.grd (t.length ≤ 1000) (t, s') : Res ε (List α × γ)) = .stuck := if_neg hz
      rw [q] at th
      exact th.elim
theorem en_nil : EN X (.List [] pos) Γ L s (cLst A) xt (.val ([], s)) := en_lst afl_nil
theorem ep_lst {t : List α} (h : AP' X es Γ L0 (Tys.lst A) t) (hz : t.length ≤ 1000 := by decide) : EP X (.List es pos) Γ L0 (tLst A) t := by
  have q := en_lst (γ := Unit) (L := fun _ => L0) (pos := pos) h
  rw [show (Res.bnd (.val (t, ())) fun t s' => Res.grd (t.length ≤ 1000) (t, s') : Res Empty (List α × Unit)) = .val (t, ()) from Res.grd_true hz _] at q
  exact ef_frz q
end

/-! ## 12. tests -/
section
variable {X : Cx} {N : List Str} {sc : Scope} {own : Str → Bool} {α β γ δ ε τ : Type} {A : Ty α} {B : Ty β} {C : Ty δ} {T : Tys τ} {e a b c : Expr} {es rest : List Expr} {x : Str} {pos : Pos} {Γ : List Slot} {L : γ → List Rg} {s : γ} {xt : XT ε} {L0 : List Rg}
theorem thenT_up {I I1 : Hp} {F : List Rg} {σ : St} {Q : Bool → Hp → Prop} (e1 : Same I I1) {m : Res ε (Bool × γ)} (h : ThenT X I F σ Γ L xt Q m) : ThenT X I1 F σ Γ L xt Q m := by
  cases m with
  | stuck => exact h
  | val p => exact fun I' H' e fr => h I' H' (e1.trans e) fr
  | exn x => exact fun I' H' c da e fr r => h I' H' c da (e1.trans e) fr r
/-- one value, then the rest, in a test -/
theorem ThenT.bnd {I : Hp} {F : List Rg} {σ : St} {H : Hp} {Q : Bool → Hp → Prop} {Q' : VK} {m : Res ε (α × γ)} {k : α → γ → Res ε (Bool × γ)} (ha : EF X a Γ L s A xt m) (fr : FrOk I σ Γ (L s ++ F) H) (th : ThenT X I F σ Γ L xt Q (m.bnd k))
    (h : ∀ (I' : Hp) (v : V) (H' : Hp) (d : α) (s' : γ), Same I I' → FrOk I' σ Γ (L s' ++ F) H' → A.rep I' v d → ThenT X I' F σ Γ L xt Q (k d s') → Q' v H') : wE X a σ H Q' := by
  refine ha I σ F H _ fr ?_
  cases m with
  | stuck => exact th
  | exn x => exact th
  | val p => exact fun I' v H' e1 fr1 r => h I' v H' p.1 p.2 e1 fr1 r (thenT_up e1 th)
theorem ThenT.bndT {I : Hp} {F : List Rg} {σ : St} {H : Hp} {Q Q' : Bool → Hp → Prop} {m : Res ε (Bool × γ)} {k : Bool → γ → Res ε (Bool × γ)} (ha : TF X a Γ L s xt m) (fr : FrOk I σ Γ (L s ++ F) H) (th : ThenT X I F σ Γ L xt Q (m.bnd k))
    (h : ∀ (I' : Hp) (H' : Hp) (d : Bool) (s' : γ), Same I I' → FrOk I' σ Γ (L s' ++ F) H' → ThenT X I' F σ Γ L xt Q (k d s') → Q' d H') : wT X a σ H Q' := by
  refine ha I σ F H _ fr ?_
  cases m with
  | stuck => exact th
  | exn x => exact th
  | val p => exact fun I' H' e1 fr1 => h I' H' p.1 p.2 e1 fr1 (thenT_up e1 th)
theorem Then.bndT {I : Hp} {F : List Rg} {σ : St} {H : Hp} {Q : VK} {Q' : Bool → Hp → Prop} {m : Res ε (Bool × γ)} {k : Bool → γ → Res ε (δ × γ)} (ha : TF X a Γ L s xt m) (fr : FrOk I σ Γ (L s ++ F) H) (th : Then X I F σ Γ L C xt Q (m.bnd k))
    (h : ∀ (I' : Hp) (H' : Hp) (d : Bool) (s' : γ), Same I I' → FrOk I' σ Γ (L s' ++ F) H' → Then X I' F σ Γ L C xt Q (k d s') → Q' d H') : wT X a σ H Q' := by
  refine ha I σ F H _ fr ?_
  cases m with
  | stuck => exact th
  | exn x => exact th
  | val p => exact fun I' H' e1 fr1 => h I' H' p.1 p.2 e1 fr1 (then_up e1 th)
theorem ThenT.bndW {I : Hp} {F : List Rg} {σ : St} {H : Hp} {Q Q' : Bool → Hp → Prop} {m : Res ε (Bool × γ)} {k : Bool → γ → Res ε (Bool × γ)} (ha : WF X a Γ L s xt m) (fr : FrOk I σ Γ (L s ++ F) H) (th : ThenT X I F σ Γ L xt Q (m.bnd k))
    (h : ∀ (I' : Hp) (H' : Hp) (d : Bool) (s' : γ), Same I I' → FrOk I' σ Γ (L s' ++ F) H' → ThenT X I' F σ Γ L xt Q (k d s') → Q' d H') : wW X a σ H Q' := by
  refine ha I σ F H _ fr ?_
  cases m with
  | stuck => exact th
  | exn x => exact th
  | val p => exact fun I' H' e1 fr1 => h I' H' p.1 p.2 e1 fr1 (thenT_up e1 th)
theorem tf_val {m : Res ε (Bool × γ)} (h : EF X e Γ L s tBool xt m) (he : ∀ whole, isTrue e X.env whole = (do let v ← whole; standAt e.pos; holding [v] (truthy v)) := by intro _; rfl) : TF X e Γ L s xt m := fun I σ F H Q fr th => by
  refine PT_to (pt_val pe_w he) ?_
  refine h I σ F H _ fr ?_
  cases m with
  | stuck => exact th
  | exn x => exact th
  | val p => exact fun I' v H' e1 fr1 r => ⟨p.1, r, th I' H' e1 fr1⟩
theorem tf_cmp {mm : Res ε (Bool × γ)} {op : CmpOp} {r : R2} {P : α → β → Prop} [∀ x y, Decidable (P x y)] {g : α → β → Bool} {ma : Res ε (α × γ)} {mb : α → γ → Res ε (β × γ)} (ho : OpR X (compareOp op) r) (D : D2 r A B tBool P g) (ha : EF X a Γ L s A xt ma) (hb : ∀ x s1, EF X b Γ L s1 B xt (mb x s1))
    (hm : behindInMarks op b = false := by first | exact nomark _ | rfl) (heq : mm = (ma.bnd fun x s1 => (mb x s1).bnd fun y s2 => Res.grd (P x y) (g x y, s2)) := by exact rfl) :
    TF X (.Compare a [op] [b] pos) Γ L s xt mm := by
  subst heq
  intro I σ F H Q fr th
  refine PT_to (pt_cmpR ho pe_w pe_w hm) ?_
  refine ThenT.bnd ha fr th fun I1 v H1 d s1 e1 fr1 rv th1 => ?_
  refine ThenT.bnd (hb d s1) fr1 th1 fun I2 w H2 d2 s2 e2 fr2 rw th2 => ?_
  by_cases hp : P d d2
  · rw [Res.grd_true hp] at th2
    exact D I2 _ H2 v w d d2 _ fr2.sep (A.mono e2 rv) rw hp fun I' z H' e3 se rz => ⟨_, rz, th2 I' H' e3 (fr2.step e3 se)⟩
  · unfold Res.grd at th2; rw [if_neg hp] at th2; exact th2.elim
theorem tf_and1 {m : Res ε (Bool × γ)} (h : TF X a Γ L s xt m) : WF X (.BoolOp .And [a] pos) Γ L s xt m := fun I σ F H Q fr th => PW_to (pw_and1 pt_w) (h I σ F H Q fr th)
theorem tf_or1 {m : Res ε (Bool × γ)} (h : TF X a Γ L s xt m) : WF X (.BoolOp .Or [a] pos) Γ L s xt m := fun I σ F H Q fr th => PW_to (pw_or1 pt_w) (h I σ F H Q fr th)
theorem tf_and {ma : Res ε (Bool × γ)} {mb : γ → Res ε (Bool × γ)} (ha : TF X a Γ L s xt ma) (hb : ∀ s1, WF X (.BoolOp .And (b :: rest) pos) Γ L s1 xt (mb s1)) : WF X (.BoolOp .And (a :: b :: rest) pos) Γ L s xt (ma.bnd fun x s1 => if x then mb s1 else .val (false, s1)) := fun I σ F H Q fr th => by
  refine PW_to (pw_and pt_w pw_w) ?_
  refine ThenT.bndT ha fr th fun I1 H1 d s1 e1 fr1 th1 => ?_
  cases d with
  | true => exact hb s1 I1 σ F H1 Q fr1 th1
  | false => exact th1 I1 H1 (Same.refl _) fr1
theorem tf_or {ma : Res ε (Bool × γ)} {mb : γ → Res ε (Bool × γ)} (ha : TF X a Γ L s xt ma) (hb : ∀ s1, WF X (.BoolOp .Or (b :: rest) pos) Γ L s1 xt (mb s1)) : WF X (.BoolOp .Or (a :: b :: rest) pos) Γ L s xt (ma.bnd fun x s1 => if x then .val (true, s1) else mb s1) := fun I σ F H Q fr th => by
  refine PW_to (pw_or pt_w pw_w) ?_
  refine ThenT.bndT ha fr th fun I1 H1 d s1 e1 fr1 th1 => ?_
  cases d with
  | true => exact th1 I1 H1 (Same.refl _) fr1
  | false => exact hb s1 I1 σ F H1 Q fr1 th1
theorem tf_w {m : Res ε (Bool × γ)} (h : WF X e Γ L s xt m) : TF X e Γ L s xt m := fun I σ F H Q fr th => PT_to pw_w.pt (h I σ F H Q fr th)
theorem tf_not {ma : Res ε (Bool × γ)} (ha : TF X a Γ L s xt ma) : TF X (.UnaryOp .Not a pos) Γ L s xt (ma.bnd fun x s1 => .val (!x, s1)) := fun I σ F H Q fr th => by
  refine PT_to (pt_not pt_w) ?_
  exact ThenT.bndT ha fr th fun I1 H1 d s1 e1 fr1 th1 => th1 I1 H1 (Same.refl _) fr1
/-- pure tests -/
theorem tf_pure {d : Bool} (h : TP' X e Γ (L s) d) : TF X e Γ L s xt (.val (d, s)) := fun I σ F H Q fr th => h I σ F H Q fr fun I' H' e1 fr' => th I' H' e1 fr'
theorem tp_val {d : Bool} (h : EP X e Γ L0 tBool d) (he : ∀ whole, isTrue e X.env whole = (do let v ← whole; standAt e.pos; holding [v] (truthy v)) := by intro _; rfl) : TP' X e Γ L0 d := tf_val (γ := Unit) (L := fun _ => L0) h he
theorem tp_cmp {z : Bool} {op : CmpOp} {r : R2} {P : α → β → Prop} {g : α → β → Bool} {x : α} {y : β} (ho : OpR X (compareOp op) r) (D : D2 r A B tBool P g) (ha : EP X a Γ L0 A x) (hb : EP X b Γ L0 B y) (hp : P x y)
    (hm : behindInMarks op b = false := by first | exact nomark _ | rfl) (heq : z = (g x y) := by exact rfl) : TP' X (.Compare a [op] [b] pos) Γ L0 z := by
  subst heq
  haveI : ∀ x y, Decidable (P x y) := fun x y => Classical.propDecidable _
  have h := tf_cmp (pos := pos) (xt := xt0) (γ := Unit) (L := fun _ => L0) (s := ()) ho D ha (fun _ _ => hb) hm
  have q : (Res.bnd (.val (x, ())) fun x s1 => Res.bnd (.val (y, ())) fun y s2 => Res.grd (P x y) (g x y, s2) : Res Empty (Bool × Unit)) = .val (g x y, ()) := Res.grd_true hp _
  rw [q] at h
  exact h
def WP (X : Cx) (e : Expr) (Γ : List Slot) (L : List Rg) (b : Bool) : Prop := WF X e Γ (fun _ : Unit => L) () xt0 (.val (b, ()))
theorem tp_and1 {d : Bool} (h : TP' X a Γ L0 d) : WP X (.BoolOp .And [a] pos) Γ L0 d := tf_and1 (γ := Unit) (L := fun _ => L0) h
theorem tp_or1 {d : Bool} (h : TP' X a Γ L0 d) : WP X (.BoolOp .Or [a] pos) Γ L0 d := tf_or1 (γ := Unit) (L := fun _ => L0) h
theorem tp_and {d u : Bool} (ha : TP' X a Γ L0 d) (hb : WP X (.BoolOp .And (b :: rest) pos) Γ L0 u) : WP X (.BoolOp .And (a :: b :: rest) pos) Γ L0 (d && u) := by
  have h := tf_and (γ := Unit) (L := fun _ => L0) (mb := fun _ => .val (u, ())) ha fun _ => hb
  cases d <;> exact h
theorem tp_or {d u : Bool} (ha : TP' X a Γ L0 d) (hb : WP X (.BoolOp .Or (b :: rest) pos) Γ L0 u) : WP X (.BoolOp .Or (a :: b :: rest) pos) Γ L0 (d || u) := by
  have h := tf_or (γ := Unit) (L := fun _ => L0) (mb := fun _ => .val (u, ())) ha fun _ => hb
  cases d <;> exact h
theorem tp_w {d : Bool} (h : WP X e Γ L0 d) : TP' X e Γ L0 d := tf_w (γ := Unit) (L := fun _ => L0) h
theorem tp_not {d : Bool} (ha : TP' X a Γ L0 d) : TP' X (.UnaryOp .Not a pos) Γ L0 (!d) := tf_not (γ := Unit) (L := fun _ => L0) ha
/-! values -/
theorem ef_one {op} {m : Res ε (α × γ)} (h : EF X a Γ L s A xt m) : EF X (.BoolOp op [a] pos) Γ L s A xt m := fun I σ F H Q fr th => PE_to (pe_one pe_w) (h I σ F H Q fr th)
theorem ef_and {ma : Res ε (Bool × γ)} {mb : γ → Res ε (Bool × γ)} (ha : EF X a Γ L s tBool xt ma) (hb : ∀ s1, EF X (.BoolOp .And (b :: rest) pos) Γ L s1 tBool xt (mb s1)) : EF X (.BoolOp .And (a :: b :: rest) pos) Γ L s tBool xt (ma.bnd fun x s1 => if x then mb s1 else .val (false, s1)) := fun I σ F H Q fr th => by
  refine PE_to (pe_and pe_w pe_w) ?_
  refine Then.bnd ha fr th fun I1 v H1 d s1 e1 fr1 rv th1 => ⟨d, rv, ?_⟩
  cases d with
  | true => exact hb s1 I1 σ F H1 Q fr1 th1
  | false => exact th1 I1 _ H1 (Same.refl _) fr1 rfl
theorem ef_or {ma : Res ε (Bool × γ)} {mb : γ → Res ε (Bool × γ)} (ha : EF X a Γ L s tBool xt ma) (hb : ∀ s1, EF X (.BoolOp .Or (b :: rest) pos) Γ L s1 tBool xt (mb s1)) : EF X (.BoolOp .Or (a :: b :: rest) pos) Γ L s tBool xt (ma.bnd fun x s1 => if x then .val (true, s1) else mb s1) := fun I σ F H Q fr th => by
  refine PE_to (pe_or pe_w pe_w) ?_
  refine Then.bnd ha fr th fun I1 v H1 d s1 e1 fr1 rv th1 => ⟨d, rv, ?_⟩
  cases d with
  | true => exact th1 I1 _ H1 (Same.refl _) fr1 rfl
  | false => exact hb s1 I1 σ F H1 Q fr1 th1
theorem ef_not {ma : Res ε (Bool × γ)} (ha : EF X a Γ L s tBool xt ma) : EF X (.UnaryOp .Not a pos) Γ L s tBool xt (ma.bnd fun x s1 => .val (!x, s1)) := fun I σ F H Q fr th => by
  refine PE_to (pe_not pe_w) ?_
  exact Then.bnd ha fr th fun I1 v H1 d s1 e1 fr1 rv th1 => ⟨d, rv, th1 I1 _ H1 (Same.refl _) fr1 rfl⟩
theorem ep_one {op} {d : α} (h : EP X a Γ L0 A d) : EP X (.BoolOp op [a] pos) Γ L0 A d := ef_one (γ := Unit) (L := fun _ => L0) h
theorem ep_and {d u : Bool} (ha : EP X a Γ L0 tBool d) (hb : EP X (.BoolOp .And (b :: rest) pos) Γ L0 tBool u) : EP X (.BoolOp .And (a :: b :: rest) pos) Γ L0 tBool (d && u) := by
  have h := ef_and (γ := Unit) (L := fun _ => L0) (mb := fun _ => .val (u, ())) ha fun _ => hb
  cases d <;> exact h
theorem ep_or {d u : Bool} (ha : EP X a Γ L0 tBool d) (hb : EP X (.BoolOp .Or (b :: rest) pos) Γ L0 tBool u) : EP X (.BoolOp .Or (a :: b :: rest) pos) Γ L0 tBool (d || u) := by
  have h := ef_or (γ := Unit) (L := fun _ => L0) (mb := fun _ => .val (u, ())) ha fun _ => hb
  cases d <;> exact h
theorem ep_not {d : Bool} (ha : EP X a Γ L0 tBool d) : EP X (.UnaryOp .Not a pos) Γ L0 tBool (!d) := ef_not (γ := Unit) (L := fun _ => L0) ha
theorem ef_if {mc : Res ε (Bool × γ)} {ma mb : γ → Res ε (δ × γ)} (hc : TF X c Γ L s xt mc) (ha : ∀ s1, EF X a Γ L s1 C xt (ma s1)) (hb : ∀ s1, EF X b Γ L s1 C xt (mb s1)) : EF X (.IfExp c a b pos) Γ L s C xt (mc.bnd fun x s1 => if x then ma s1 else mb s1) := fun I σ F H Q fr th => by
  refine PE_to (pe_ifExp pt_w pe_w pe_w) ?_
  refine Then.bndT hc fr th fun I1 H1 d s1 e1 fr1 th1 => ?_
  cases d with
  | true => exact ha s1 I1 σ F H1 Q fr1 th1
  | false => exact hb s1 I1 σ F H1 Q fr1 th1
theorem ep_if {d : Bool} {x y : δ} (hc : TP' X c Γ L0 d) (ha : EP X a Γ L0 C x) (hb : EP X b Γ L0 C y) : EP X (.IfExp c a b pos) Γ L0 C (if d then x else y) := by
  have h := ef_if (pos := pos) (γ := Unit) (L := fun _ => L0) (ma := fun _ => .val (x, ())) (mb := fun _ => .val (y, ())) hc (fun _ => ha) (fun _ => hb)
  cases d <;> exact h
/-- a < b < c -/
theorem ep_chain {zz : Bool} {op op' : CmpOp} {r r' : R2} {P : α → β → Prop} {P' : β → δ → Prop} {g : α → β → Bool} {g' : β → δ → Bool} {x : α} {y : β} {z : δ} (ho : OpR X (compareOp op) r) (ho' : OpR X (compareOp op') r') (D : D2 r A B tBool P g) (D' : D2 r' B C tBool P' g') (ha : EP X a Γ L0 A x) (hb : EP X b Γ L0 B y) (hc : EP X c Γ L0 C z) (hp : P x y) (hp' : P' y z)
    (hm : lastMarks [op, op'] [b, c] = false := by with_unfolding_all rfl) (heq : zz = (g x y && g' y z) := by exact rfl) : EP X (.Compare a [op, op'] [b, c] pos) Γ L0 tBool zz := by
  subst heq
  intro I σ F H Q fr th
  refine PE_to (pe_chain ho ho' pe_w pe_w pe_w hm) ?_
  refine ha.run fr fun I1 v H1 e1 fr1 rv => ?_
  refine hb.run fr1 fun I2 w H2 e2 fr2 rw => ?_
  refine D I2 _ H2 v w _ _ _ fr2.sep (A.mono e2 rv) rw hp fun I3 u H3 e3 se ru => ⟨g x y, ru, ?_⟩
  have fr3 := fr2.step e3 se
  cases hg : g x y with
  | true =>
    rw [hg] at th
    refine hc.run fr3 fun I4 t H4 e4 fr4 rt => ?_
    exact D' I4 _ H4 w t _ _ _ fr4.sep (B.mono (e3.trans e4) rw) rt hp' fun I5 q H5 e5 se5 rq => th I5 q H5 ((((e1.trans e2).trans e3).trans e4).trans e5) (fr4.step e5 se5) rq
  | false =>
    rw [hg] at th
    exact th I3 _ H3 ((e1.trans e2).trans e3) fr3 rfl
theorem tp_chain {zz : Bool} {op op' : CmpOp} {r r' : R2} {P : α → β → Prop} {P' : β → δ → Prop} {g : α → β → Bool} {g' : β → δ → Bool} {x : α} {y : β} {z : δ} (ho : OpR X (compareOp op) r) (ho' : OpR X (compareOp op') r') (D : D2 r A B tBool P g) (D' : D2 r' B C tBool P' g') (ha : EP X a Γ L0 A x) (hb : EP X b Γ L0 B y) (hc : EP X c Γ L0 C z) (hp : P x y) (hp' : P' y z)
    (hm : lastMarks [op, op'] [b, c] = false := by with_unfolding_all rfl) (heq : zz = (g x y && g' y z) := by exact rfl) : TP' X (.Compare a [op, op'] [b, c] pos) Γ L0 zz := by
  subst heq
  intro I σ F H Q fr th
  refine PT_to (pt_chain ho ho' pe_w pe_w pe_w hm) ?_
  refine ha.run fr fun I1 v H1 e1 fr1 rv => ?_
  refine hb.run fr1 fun I2 w H2 e2 fr2 rw => ?_
  refine D I2 _ H2 v w _ _ _ fr2.sep (A.mono e2 rv) rw hp fun I3 u H3 e3 se ru => ⟨g x y, ru, ?_⟩
  have fr3 := fr2.step e3 se
  cases hg : g x y with
  | true =>
    rw [hg] at th
    refine hc.run fr3 fun I4 t H4 e4 fr4 rt => ?_
    exact D' I4 _ H4 w t _ _ _ fr4.sep (B.mono (e3.trans e4) rw) rt hp' fun I5 q H5 e5 se5 rq => ⟨_, rq, th I5 H5 ((((e1.trans e2).trans e3).trans e4).trans e5) (fr4.step e5 se5)⟩
  | false =>
    rw [hg] at th
    exact ⟨false, rfl, th I3 H3 ((e1.trans e2).trans e3) fr3⟩
end
end Fw


namespace Fw
open PySem L2
/-! ## 13. what a def promises; its call -/
namespace Res
/-- a part of the state is changed -/
def lift {ε α γ γ' : Type} (m : Res ε (α × γ')) (put : γ' → γ) : Res ε (α × γ) := match m with
  | stuck => stuck
  | val p => val (p.1, put p.2)
  | exn x => exn x
/-- a def without a state -/
def up {ε α γ : Type} (m : Res ε (α × Unit)) (s : γ) : Res ε (α × γ) := match m with
  | stuck => stuck
  | val p => val (p.1, s)
  | exn x => exn x
@[simp] theorem lift_val {ε α γ γ' : Type} (d : α) (s : γ') (put : γ' → γ) : lift (val (d, s) : Res ε (α × γ')) put = val (d, put s) := rfl
@[simp] theorem up_val {ε α γ : Type} (d : α) (u : Unit) (s : γ) : up (val (d, u) : Res ε (α × Unit)) s = val (d, s) := rfl
@[simp] theorem up_exn {ε α γ : Type} (x : ε) (s : γ) : up (exn x : Res ε (α × Unit)) s = exn x := rfl
end Res
section
variable {α γ ε τ ρ ι : Type}
def rtV (A : Ty α) (L : γ → List Rg) : RT (α × γ) := ⟨fun p I v => A.rep I v p.1, fun p _ => L p.2⟩
def rtN (φ : α → CP) (L : γ → List Rg) : RT (α × γ) := ⟨fun _ _ v => ∃ q, v = .ref q, fun p v => match v with | .ref q => cell q (φ p.1) :: L p.2 | _ => L p.2⟩
/-- the promise: f, over the arguments' data and the state -/
def spec (T : ι → Tys τ) (L : ι → γ → List Rg) (rt : ι → RT ρ) (xt : ι → XT ε) (f : τ → γ → Res ε ρ) : Sp := fun vs H Q E => ∃ (i : ι) (I : Hp) (F : List Rg) (t : τ) (s : γ), Sep I (L i s ++ F) H ∧ (T i).rep I vs t ∧ (match f t s with
  | .stuck => False
  | .val p => ∀ I' v H', Same I I' → Sep I' ((rt i).regs p v ++ F) H' → (rt i).rep p I' v → Q v H'
  | .exn x => ∀ I' H' c da, Same I I' → Sep I' ((xt i).regs x ++ F) H' → (xt i).rep I' x c da → E c da H')
/-- what leaves a callee is taken -/
def PassW (CX : CXT) (X : Cx) : Prop := ∀ σ, PassesAt CX X σ (L2.WE (wX X) σ)
theorem passW0 {X : Cx} : PassW CX0 X := fun _ _ _ _ _ _ _ h => h.elim
theorem passWX {X : Cx} : PassW (L2.CX X.prog X.w) X := fun σ => passAt takesW σ
end
section
variable {X : Cx} {N : List Str} {sc : Scope} {own : Str → Bool} {α β γ γ' δ ε τ ι : Type} {A : Ty α} {B : Ty β} {C : Ty δ} {T : ι → Tys τ} {e a b c : Expr} {es rest : List Expr} {x : Str} {pos p : Pos} {Γ : List Slot} {L : γ → List Rg} {L' : ι → γ' → List Rg} {s : γ} {xt : XT ε} {L0 : List Rg} {CX : CXT} {k : Nat} {f : Addr} {fd : FuncData} {ps : List Str}
theorem ef_call {g : τ → γ' → Res ε (δ × γ')} {m : Res ε (τ × γ)} (i : ι) (get : γ → γ') (put : γ → γ' → γ) (R : γ → List Rg) (cx : Cxt X N sc own) (F : FnOk X.prog X.w X.K X.mg X.base CX k f fd ps (spec T L' (fun i => rtV C (L' i)) (fun _ => xt) g)) (hr : Room k X.A) (hm : X.mg x = some (.ref f)) (hk : PySem.W.keepIn X.K (.ref f) = true) (hb : Binds X.K fd ps []) (pw : PassW CX X)
    (ha : AF X (e :: es) Γ L s (T i) xt m) (hp : ∀ s u, (L (put s u)).Perm (L' i u ++ R s)) (hgp : ∀ s, put s (get s) = s) (hx : ∀ x, xt.regs x = [])
    (hg : glB sc x = true := by decide +kernel) (he : starEach (e :: es) X.env = (false, eval e X.env) :: starEach es X.env := by exact star_c rfl) (hpl : (backTo pos (starEach es X.env)).any (·.1) = false := by rfl) :
    EF X (.Call (.Name x p) (e :: es) [] pos) Γ L s C xt (m.bnd fun t s1 => (g t (get s1)).lift (put s1)) := fun I σ F' H Q fr th => by
  obtain ⟨h1, h2, h3⟩ := glB_gl cx hg
  refine PE_to (pe_callS F hr h1 hm hk hb pw pa_w h2 he hpl) ?_
  refine Then.bndA ha fr th fun I1 vs H1 t s1 e1 fr1 rv th1 => ?_
  have pm : (L s1 ++ F').Perm (L' i (get s1) ++ (R s1 ++ F')) := by
    have q := hp s1 (get s1)
    rw [hgp] at q
    rw [← List.append_assoc]
    exact q.append_right F'
  refine ⟨i, I1, R s1 ++ F', t, get s1, fr1.sep.perm pm, rv, ?_⟩
  cases hg : g t (get s1) with
  | stuck => rw [hg] at th1; exact th1
  | exn x =>
    rw [hg] at th1
    intro I2 H2 c da e2 se2 r2
    refine th1 I2 H2 c da e2 (fr1.step e2 ?_) r2
    rw [hx] at se2 ⊢
    have se2 : Sep I2 (R s1 ++ F') H2 := se2
    show Sep I2 F' H2
    generalize R s1 = RR at se2
    induction RR with
    | nil => exact se2
    | cons _ _ ih => exact ih se2.tail
  | val q =>
    rw [hg] at th1
    intro I2 v H2 e2 se2 r2
    refine th1 I2 v H2 e2 (fr1.step e2 ?_) r2
    have q2 := hp s1 q.2
    refine Sep.perm se2 ?_
    show (L' i q.2 ++ (R s1 ++ F')).Perm (L (put s1 q.2) ++ F')
    rw [← List.append_assoc]
    exact q2.symm.append_right F'
/-- the callee has no state -/
theorem ef_call0 {T : Tys τ} {g : τ → Unit → Res ε (δ × Unit)} {m : Res ε (τ × γ)} (cx : Cxt X N sc own) (F : FnOk X.prog X.w X.K X.mg X.base CX k f fd ps (spec (fun _ : Unit => T) (fun _ _ => []) (fun _ => rtV C (fun _ => [])) (fun _ => xt) g)) (hr : Room k X.A) (hm : X.mg x = some (.ref f)) (hk : PySem.W.keepIn X.K (.ref f) = true) (hb : Binds X.K fd ps []) (pw : PassW CX X)
    (ha : AF X (e :: es) Γ L s T xt m) (hx : ∀ x, xt.regs x = [])
    (hg : glB sc x = true := by decide +kernel) (he : starEach (e :: es) X.env = (false, eval e X.env) :: starEach es X.env := by exact star_c rfl) (hpl : (backTo pos (starEach es X.env)).any (·.1) = false := by rfl) :
    EF X (.Call (.Name x p) (e :: es) [] pos) Γ L s C xt (m.bnd fun t s1 => (g t ()).up s1) := by
  have h := ef_call (L' := fun _ _ => []) (T := fun _ => T) (γ' := Unit) (pos := pos) (p := p) () (fun _ => ()) (fun s _ => s) L cx F hr hm hk hb pw ha (fun s u => .refl _) (fun _ => rfl) hx hg he hpl
  have q : (fun (t : τ) (s1 : γ) => (g t ()).lift (fun _ => s1)) = fun t s1 => (g t ()).up s1 := by
    funext t s1
    cases g t () <;> rfl
  rw [q] at h
  exact h
/-- the callee's state is one's own -/
theorem ef_callS {g : τ → γ → Res ε (δ × γ)} {L' : ι → γ → List Rg} {m : Res ε (τ × γ)} (i : ι) (R : List Rg) (cx : Cxt X N sc own) (F : FnOk X.prog X.w X.K X.mg X.base CX k f fd ps (spec T L' (fun i => rtV C (L' i)) (fun _ => xt) g)) (hr : Room k X.A) (hm : X.mg x = some (.ref f)) (hk : PySem.W.keepIn X.K (.ref f) = true) (hb : Binds X.K fd ps []) (pw : PassW CX X)
    (ha : AF X (e :: es) Γ L s (T i) xt m) (hp : ∀ s, (L s).Perm (L' i s ++ R)) (hx : ∀ x, xt.regs x = [])
    (hg : glB sc x = true := by decide +kernel) (he : starEach (e :: es) X.env = (false, eval e X.env) :: starEach es X.env := by exact star_c rfl) (hpl : (backTo pos (starEach es X.env)).any (·.1) = false := by rfl) :
    EF X (.Call (.Name x p) (e :: es) [] pos) Γ L s C xt (m.bnd fun t s1 => g t s1) := by
  have h := ef_call (γ' := γ) (pos := pos) (p := p) i (fun s => s) (fun _ u => u) (fun _ => R) cx F hr hm hk hb pw ha (fun s u => hp u) (fun _ => rfl) hx hg he hpl
  have q : (fun (t : τ) (s1 : γ) => (g t s1).lift (fun u => u)) = fun t s1 => g t s1 := by
    funext t s1
    cases g t s1 <;> rfl
  rw [q] at h
  exact h
/-- the callee hands back a new object -/
theorem en_call {φ : δ → CP} {g : τ → γ' → Res ε (δ × γ')} {m : Res ε (τ × γ)} (i : ι) (get : γ → γ') (put : γ → γ' → γ) (R : γ → List Rg) (cx : Cxt X N sc own) (F : FnOk X.prog X.w X.K X.mg X.base CX k f fd ps (spec T L' (fun i => rtN φ (L' i)) (fun _ => xt) g)) (hr : Room k X.A) (hm : X.mg x = some (.ref f)) (hk : PySem.W.keepIn X.K (.ref f) = true) (hb : Binds X.K fd ps []) (pw : PassW CX X)
    (ha : AF X (e :: es) Γ L s (T i) xt m) (hp : ∀ s u, (L (put s u)).Perm (L' i u ++ R s)) (hgp : ∀ s, put s (get s) = s) (hx : ∀ x, xt.regs x = [])
    (hg : glB sc x = true := by decide +kernel) (he : starEach (e :: es) X.env = (false, eval e X.env) :: starEach es X.env := by exact star_c rfl) (hpl : (backTo pos (starEach es X.env)).any (·.1) = false := by rfl) :
    EN X (.Call (.Name x p) (e :: es) [] pos) Γ L s φ xt (m.bnd fun t s1 => (g t (get s1)).lift (put s1)) := fun I σ F' H Q fr th => by
  obtain ⟨h1, h2, h3⟩ := glB_gl cx hg
  refine PE_to (pe_callS F hr h1 hm hk hb pw pa_w h2 he hpl) ?_
  refine ha I σ F' H _ fr ?_
  cases m with
  | stuck => exact th
  | exn x => exact th
  | val mp =>
    obtain ⟨t, s1⟩ := mp
    intro I1 vs H1 e1 fr1 rv
    have pm : (L s1 ++ F').Perm (L' i (get s1) ++ (R s1 ++ F')) := by
      have q := hp s1 (get s1)
      rw [hgp] at q
      rw [← List.append_assoc]
      exact q.append_right F'
    refine ⟨i, I1, R s1 ++ F', t, get s1, fr1.sep.perm pm, rv, ?_⟩
    dsimp only [Res.bnd] at th
    cases hg : g t (get s1) with
    | stuck => rw [hg] at th; exact th
    | exn x =>
      rw [hg] at th
      intro I2 H2 c da e2 se2 r2
      refine th I2 H2 c da (e1.trans e2) (fr1.step e2 ?_) r2
      rw [hx] at se2 ⊢
      have se2 : Sep I2 (R s1 ++ F') H2 := se2
      show Sep I2 F' H2
      generalize R s1 = RR at se2
      induction RR with
      | nil => exact se2
      | cons _ _ ih => exact ih se2.tail
    | val q =>
      rw [hg] at th
      intro I2 v H2 e2 se2 ⟨r, r2⟩
      subst r2
      refine th I2 r H2 (e1.trans e2) (fr1.step e2 ?_)
      have q2 := hp s1 q.2
      refine Sep.perm se2 ?_
      show (cell r (φ q.1) :: (L' i q.2 ++ (R s1 ++ F'))).Perm (cell r (φ q.1) :: (L (put s1 q.2) ++ F'))
      rw [← List.append_assoc]
      exact (q2.symm.append_right F').cons _
end
end Fw


namespace Fw
open PySem L2
/-! ## 14. targets, what is walked -/
def GF (X : Cx) (tg : Expr) {β : Type} (B : Ty β) (up : List Slot → β → List Slot) (vs : List Nat) : Prop :=
  ∃ g : TG, PG X tg g ∧ ∀ (I : Hp) (σ : St) (Γ : List Slot) (L : List Rg) (H : Hp) (v : V) (d : β) (Q : St → Hp → Prop), FrOk I σ Γ L H → B.rep I v d →
    (∀ I' σ' H', Same I I' → FrOk I' σ' (up Γ d) L H' → σ'.length = σ.length → (∀ j, j ∉ vs → σ'[j]? = σ[j]?) → Q σ' H') → g v σ H Q
def Turns {β : Type} (J : It) (I : Hp) (B : Ty β) (xs : List β) : Prop := ∀ (I' : Hp) (L' : List Rg) (H : Hp), Same I I' → Sep I' L' H → ∀ i, (i = xs.length → J.stop i H) ∧ (i < xs.length → J.go i H ∧ ∀ x H', J.yld i H x H' → ∃ I'', Same I' I'' ∧ Sep I'' L' H' ∧ ∀ d, xs[i]? = some d → B.rep I'' x d)
def IF (X : Cx) (tg iter : Expr) {β γ ε : Type} (Γ : List Slot) (L : γ → List Rg) (s : γ) (B : Ty β) (xt : XT ε) (m : Res ε (List β × γ)) : Prop :=
  ∃ wi : TI, PI X tg iter wi ∧ ∀ (I : Hp) (σ : St) (F : List Rg) (H : Hp) (R : It → Hp → Prop), FrOk I σ Γ (L s ++ F) H → (match m with
    | .stuck => False
    | .val p => ∀ J I' H', Same I I' → FrOk I' σ Γ (L p.2 ++ F) H' → Turns J I' B p.1 → R J H'
    | .exn x => ∀ I' H' c da, Same I I' → FrOk I' σ Γ (xt.regs x ++ F) H' → xt.rep I' x c da → wX X c da σ H') → wi σ H R
section
variable {X : Cx} {N : List Str} {sc : Scope} {own : Str → Bool} {α β γ δ ε τ : Type} {A : Ty α} {B : Ty β} {C : Ty δ} {e a b c tg iter : Expr} {es rest : List Expr} {x y : Str} {pos p : Pos} {Γ : List Slot} {L : γ → List Rg} {s : γ} {xt : XT ε} {L0 : List Rg}
theorem gf_name (cx : Cxt X N sc own) (i : Nat) (hi : N[i]? = some x := by rfl) (ho : own x = true := by decide +kernel) : GF X (.Name x pos) B (fun Γ d => Γ.set i (.dat B d)) [i] := by
  obtain ⟨h1, h2⟩ := cx.st x ho
  refine ⟨gName i, pg_name (by rw [cx.hN]; exact cx.nd) (by rw [cx.hN]; exact hi) h1 h2, fun I σ Γ L H v d Q fr r k => ?_⟩
  exact k I _ H (Same.refl _) (fr.set r i) (List.length_set ..) fun j hj => by
    rw [List.getElem?_set_ne]
    intro z
    exact hj (by rw [z]; exact List.mem_cons_self)
/-- the target of pairs, triples -/
def GFs (X : Cx) (tgs : List Expr) {τ : Type} (T : Tys τ) (up : List Slot → τ → List Slot) (vs : List Nat) : Prop :=
  ∃ g : TGs, PGs X tgs g ∧ ∀ (I : Hp) (σ : St) (Γ : List Slot) (L : List Rg) (H : Hp) (ws : List V) (d : τ) (Q : St → Hp → Prop), FrOk I σ Γ L H → T.rep I ws d →
    (∀ I' σ' H', Same I I' → FrOk I' σ' (up Γ d) L H' → σ'.length = σ.length → (∀ j, j ∉ vs → σ'[j]? = σ[j]?) → Q σ' H') → g ws σ H Q
theorem gfs_nil : GFs X [] Tys.nil (fun Γ _ => Γ) [] := ⟨gNil, pgs_nil, fun I σ Γ L H ws d Q fr r k => ⟨r, k I σ H (Same.refl _) fr rfl fun _ _ => rfl⟩⟩
theorem gfs_cons {T : Tys τ} {u1 : List Slot → α → List Slot} {u2 : List Slot → τ → List Slot} {v1 v2 : List Nat} (h1 : GF X a A u1 v1) (h2 : GFs X es T u2 v2)
    (hh : List.map (fun x => x.snd) (assignEach (a :: es) X.env) = assign a X.env :: List.map (fun x => x.snd) (assignEach es X.env) := by rfl) : GFs X (a :: es) (Tys.cons A T) (fun Γ d => u2 (u1 Γ d.1) d.2) (v1 ++ v2) := by
  obtain ⟨g1, p1, q1⟩ := h1
  obtain ⟨g2, p2, q2⟩ := h2
  refine ⟨gCons g1 g2, pgs_cons p1 p2 hh, fun I σ Γ L H ws d Q fr r k => ?_⟩
  obtain ⟨w, wr, rfl, ra, rb⟩ := r
  refine ⟨w, wr, rfl, q1 I σ Γ L H w d.1 _ fr ra fun I1 σ1 H1 e1 fr1 l1 k1 => ?_⟩
  refine q2 I1 σ1 _ L H1 wr d.2 _ fr1 (T.mono e1 rb) fun I2 σ2 H2 e2 fr2 l2 k2 => ?_
  exact k I2 σ2 H2 (e1.trans e2) fr2 (l2.trans l1) fun j hj => (k2 j fun z => hj (List.mem_append_right _ z)).trans (k1 j fun z => hj (List.mem_append_left _ z))
theorem gf_tup {T : Tys τ} {u : List Slot → τ → List Slot} {vs : List Nat} {k n : Nat} (cc : Calm X) (h : GFs X es T u vs) 
    (hn : (assignEach es X.env).length = n := by rfl) (hst : (assignEach es X.env).findIdx? (·.1) = none := by rfl) (hT : ∀ t, (T.slots t).length = n := by intro _; rfl) : GF X (.Tuple es k pos) (tTup T) u vs := by
  obtain ⟨g, pg, q⟩ := h
  refine ⟨_, pg_tup cc.calm pg hn hst, fun I σ Γ L H v d Q fr r kk => ?_⟩
  obtain ⟨a, ws, rfl, h1, h2⟩ := r
  exact ⟨a, ws, rfl, .of (fr.sep.same _ _ h1), by rw [T.len h2, hT], q I σ Γ L H ws d Q fr h2 kk⟩

theorem if_seq {m : Res ε (List α × γ)} (h : EF X iter Γ L s (tSeq X.K A) xt m) : IF X tg iter Γ L s A xt m := ⟨_, pi_list pe_w, fun I σ F H R fr th => by
  refine h I σ F H _ fr ?_
  cases m with
  | stuck => exact th
  | exn x => exact th
  | val q =>
    intro I1 v H1 e1 fr1 r
    obtain ⟨a, vs, rfl, h1, h2⟩ := r
    have sq := Same.sql fr1.sep.same h1
    refine ⟨a, rfl, ⟨vs, sq⟩, th _ I1 H1 e1 fr1 fun I2 L2 H2 e2 se i => ?_⟩
    have sq2 : SqL X.K H2 a vs := Same.sql (e2.trans se.same) h1
    have hl := paired_len h2
    refine ⟨fun hi => ⟨vs, sq2, by omega⟩, fun hi => ⟨⟨vs, vs[i]'(by omega), sq2, by simp⟩, fun x H' y => ?_⟩⟩
    obtain ⟨rfl, y⟩ := y
    refine ⟨I2, Same.refl _, se, fun d hd => ?_⟩
    obtain ⟨d', hd', rd⟩ := paired_get h2 (y vs sq2)
    rw [hd] at hd'
    cases hd'
    exact A.mono e2 rd⟩
theorem ef_seq {m : Res ε (List α × γ)} (h : EF X e Γ L s (tLst A) xt m) : EF X e Γ L s (tSeq X.K A) xt m := fun I σ F H Q fr th => by
  refine h I σ F H Q fr ?_
  cases m with
  | stuck => exact th
  | exn x => exact th
  | val q => exact fun I' v H' e1 fr1 r => th I' v H' e1 fr1 (seq_of r)
theorem if_list {m : Res ε (List α × γ)} (h : EF X iter Γ L s (tLst A) xt m) : IF X tg iter Γ L s A xt m := if_seq (ef_seq h)
theorem if_tup {m : Res ε (List α × γ)} (h : EF X iter Γ L s (tTuL A) xt m) : IF X tg iter Γ L s A xt m := ⟨_, pi_tup pe_w, fun I σ F H R fr th => by
  refine h I σ F H _ fr ?_
  cases m with
  | stuck => exact th
  | exn x => exact th
  | val q =>
    intro I1 v H1 e1 fr1 r
    obtain ⟨a, vs, rfl, h1, h2⟩ := r
    have sq : SqT X.K H1 a vs := .of (fr1.sep.same _ _ h1)
    refine ⟨a, rfl, ⟨vs, sq⟩, th _ I1 H1 e1 fr1 fun I2 L2 H2 e2 se i => ?_⟩
    have sq2 : SqT X.K H2 a vs := SqT.of ((e2.trans se.same) _ _ h1)
    have hl := paired_len h2
    refine ⟨fun hi => ⟨vs, sq2, by omega⟩, fun hi => ⟨⟨vs, vs[i]'(by omega), sq2, by simp⟩, fun x H' y => ?_⟩⟩
    obtain ⟨rfl, y⟩ := y
    refine ⟨I2, Same.refl _, se, fun d hd => ?_⟩
    obtain ⟨d', hd', rd⟩ := paired_get h2 (y vs sq2)
    rw [hd] at hd'
    cases hd'
    exact A.mono e2 rd⟩
theorem if_str {m : Res ε (Tx × γ)} (h : EF X iter Γ L s tTx xt m) : IF X tg iter Γ L s tTx xt (m.bnd fun t s' => .val (t.map fun c => [c], s')) := ⟨_, pi_str pe_w, fun I σ F H R fr th => by
  refine h I σ F H _ fr ?_
  cases m with
  | stuck => exact th
  | exn x => exact th
  | val q =>
    intro I1 v H1 e1 fr1 r
    refine ⟨_, r, th _ I1 H1 e1 fr1 fun I2 L2 H2 e2 se i => ?_⟩
    have e0 : (⟨q.1.toArray⟩ : Str).cps.size = q.1.length := by simp
    have e3 : (q.1.map fun c => [c]).length = q.1.length := List.length_map ..
    refine ⟨fun hi => ?_, fun hi => ⟨?_, fun x H' y => ?_⟩⟩
    · have hi : i = (q.1.map fun c => [c]).length := hi
      show (⟨q.1.toArray⟩ : Str).cps.size ≤ i
      omega
    · have hi : i < (q.1.map fun c => [c]).length := hi
      show i < (⟨q.1.toArray⟩ : Str).cps.size
      omega
    · obtain ⟨rfl, c, hc, rfl⟩ := y
      refine ⟨I2, Same.refl _, se, fun d hd => ?_⟩
      have hc' : q.1[i]? = some c := by simpa using hc
      rw [List.getElem?_map, hc'] at hd
      cases hd
      rfl⟩
def rng (lo hi : Int) : List Int := (List.range (hi - lo).toNat).map fun i : Nat => lo + (i : Int)
theorem rng_len (lo hi : Int) : (rng lo hi).length = (hi - lo).toNat := by simp [rng]
@[irreducible] def rngOk (lo hi : Int) : Prop := -(2 ^ 62) ≤ lo ∧ lo < 2 ^ 62 ∧ -(2 ^ 62) ≤ hi ∧ hi < 2 ^ 62
@[irreducible] def rngOkD {lo hi : Int} : Decidable (rngOk lo hi) := by unfold rngOk; infer_instance
instance {lo hi : Int} : Decidable (rngOk lo hi) := rngOkD
theorem rngOk_iff {lo hi : Int} : rngOk lo hi ↔ (-(2 ^ 62) ≤ lo ∧ lo < 2 ^ 62 ∧ -(2 ^ 62) ≤ hi ∧ hi < 2 ^ 62) := by unfold rngOk; exact Iff.rfl
theorem turns_range {lo hi : Int} {I : Hp} : Turns (Itr lo (hi - lo).toNat) I tInt (rng lo hi) := fun I2 L2 H2 e2 se i => by
  have hl := rng_len lo hi
  refine ⟨fun h => ?_, fun h => ⟨?_, fun x H' y => ?_⟩⟩
  · show (hi - lo).toNat ≤ i; omega
  · show i < (hi - lo).toNat; omega
  · obtain ⟨rfl, rfl⟩ := y
    refine ⟨I2, Same.refl _, se, fun d hd => ?_⟩
    unfold rng at hd
    rw [List.getElem?_map, List.getElem?_range (by omega)] at hd
    cases hd
    rfl
theorem if_range1 {m : Res ε ((Int × Unit) × γ)} (cx : Cxt X N sc own) (hm : X.mg "range" = none) (ha : AF X [a] Γ L s (Tys1 tInt) xt m) (hg : glB sc "range" = true := by decide +kernel) (hs : starEach [a] X.env = [(false, eval a X.env)] := by exact star_c rfl) :
    IF X tg (.Call (.Name "range" p) [a] [] pos) Γ L s tInt xt (m.bnd fun t s' => Res.grd (rngOk 0 t.1) (rng 0 t.1, s')) := ⟨_, pi_range1 (glB_gl cx hg).1 hm pa_w hs, fun I σ F H R fr th => by
  refine ha I σ F H _ fr ?_
  cases m with
  | stuck => exact th
  | exn x => exact th
  | val q =>
    intro I1 vs H1 e1 fr1 r
    obtain ⟨v, rfl, rv⟩ := tys1 r
    cases rv
    dsimp only [Res.bnd] at th
    by_cases ho : rngOk 0 q.1.1
    · rw [Res.grd_true ho] at th
      refine ⟨q.1.1, rfl, (rngOk_iff.mp ho).2.2.1, (rngOk_iff.mp ho).2.2.2, th _ I1 H1 e1 fr1 ?_⟩
      have z : q.1.1.toNat = (q.1.1 - 0).toNat := by rw [Int.sub_zero]
      rw [z]
      exact turns_range
    · unfold Res.grd at th
      rw [if_neg ho] at th
      exact th.elim⟩
theorem if_range2 {m : Res ε ((Int × Int × Unit) × γ)} (cx : Cxt X N sc own) (hm : X.mg "range" = none) (ha : AF X [a, b] Γ L s (Tys2 tInt tInt) xt m) (hg : glB sc "range" = true := by decide +kernel) (hs : starEach [a, b] X.env = [(false, eval a X.env), (false, eval b X.env)] := by exact star_2 rfl rfl) (hs2 : starEach [b] X.env = [(false, eval b X.env)] := by exact star_c rfl) :
    IF X tg (.Call (.Name "range" p) [a, b] [] pos) Γ L s tInt xt (m.bnd fun t s' => Res.grd (rngOk t.1 t.2.1) (rng t.1 t.2.1, s')) := ⟨_, pi_range2 (glB_gl cx hg).1 hm pa_w hs hs2, fun I σ F H R fr th => by
  refine ha I σ F H _ fr ?_
  cases m with
  | stuck => exact th
  | exn x => exact th
  | val q =>
    intro I1 vs H1 e1 fr1 r
    obtain ⟨v, w, rfl, rv, rw⟩ := tys2 r
    cases rv
    cases rw
    dsimp only [Res.bnd] at th
    by_cases ho : rngOk q.1.1 q.1.2.1
    · rw [Res.grd_true ho] at th
      exact ⟨q.1.1, q.1.2.1, rfl, rngOk_iff.mp ho, th _ I1 H1 e1 fr1 turns_range⟩
    · unfold Res.grd at th
      rw [if_neg ho] at th
      exact th.elim⟩
end

/-! ## 15. comprehensions -/
namespace Res
def compL {ε β γ δ : Type} (tt : β → γ → Res ε (Bool × γ)) (ee : β → γ → Res ε (δ × γ)) : List β → γ → List δ → Res ε (List δ × γ)
  | [], s, acc => val (acc, s)
  | x :: xs, s, acc => (tt x s).bnd fun b s1 => if b then (ee x s1).bnd fun y s2 => compL tt ee xs s2 (acc ++ [y]) else compL tt ee xs s1 acc
end Res
def wG (X : Cx) (tg : Expr) : TG := fun v σ H Q => ∀ (pins : List (Addr × Obj)) (s : Shared) (u : Value), Inv X pins σ H s → RelV v u → wpAny (model X.prog X.w) X.A (assign tg X.env u) (fun _ s' => ∃ σ' H', Inv X pins σ' H' s' ∧ Q σ' H') X.xe s
@[irreducible] def wTs (X : Cx) (ifs : List Expr) : TT := fun σ H Q => ∀ (pins : List (Addr × Obj)) (s : Shared), Inv X pins σ H s →
    wpAny (model X.prog X.w) X.A (forIn ifs true fun c r => if r = true then do let ok ← isTrue c X.env (eval c X.env); pure (ForInStep.yield ok) else pure (ForInStep.yield r)) (TP X pins σ Q) X.xe s
def TsF (X : Cx) (ifs : List Expr) {γ ε : Type} (Γ : List Slot) (L : γ → List Rg) (s : γ) (xt : XT ε) (m : Res ε (Bool × γ)) : Prop :=
  ∀ (I : Hp) (σ : St) (F : List Rg) (H : Hp) (Q : Bool → Hp → Prop), FrOk I σ Γ (L s ++ F) H → ThenT X I F σ Γ L xt Q m → wTs X ifs σ H Q
/-- a block's context -/
abbrev blkX (X : Cx) (scope : Scope) (s : Shared) (H : Hp) (C : Addr) (cl : List (Str × Addr)) (fp : List Addr) : Cx := X.blk s H scope (compEnvC scope cl C X.env) fp
def ownB (scope sc : Scope) (x : Str) : Bool := locB (relS scope sc) x && ((scope.names.lookup x == some .cell) || (match (relS scope sc).names.lookup x with | some .local => true | _ => false))
section
variable {X : Cx} {N : List Str} {sc scope : Scope} {own : Str → Bool} {α β γ δ ε τ : Type} {A : Ty α} {B : Ty β} {C : Ty δ} {e a b c tg iter elt : Expr} {es rest ifs : List Expr} {x y : Str} {pos p : Pos} {Γ : List Slot} {L : γ → List Rg} {s : γ} {xt : XT ε} {L0 : List Rg}
theorem cxt_blk (cx : Cxt X N sc own) (s : Shared) (H : Hp) (C : Addr) (cl : List (Str × Addr)) (fp : List Addr) : Cxt (blkX X scope s H C cl fp) N (relS scope sc) (ownB scope sc) := by
  have hsc : (blkX X scope s H C cl fp).env.scope = relS scope sc := by
    show relabel scope X.env = _
    rw [← cx.hsc]
    rfl
  refine ⟨cx.hN, hsc, cx.nd, fun x h => ?_⟩
  unfold ownB at h
  rw [Bool.and_eq_true, Bool.or_eq_true] at h
  obtain ⟨h1, h2⟩ := h
  rw [hsc]
  refine ⟨?_, ?_⟩
  · unfold locB at h1
    unfold L2.Loc
    split at h1
    · exact .inl (by assumption)
    · exact .inr (by assumption)
    · cases h1
  · rcases h2 with h2 | h2
    · exact .inl h2
    · right
      split at h2
      · assumption
      · cases h2
theorem calm_blk (cc : Calm X) {s : Shared} {H : Hp} {C : Addr} {cl : List (Str × Addr)} {fp : List Addr} : Calm (blkX X scope s H C cl fp) := ⟨cc.calm, PassesOwn.never⟩
theorem wipe_eq {σ σ' : St} (hl : σ'.length = σ.length) : ∀ {vs : List Nat}, (∀ j, j ∉ vs → σ'[j]? = σ[j]?) → wipe σ' vs = wipe σ vs := fun {vs} h => by
  have key : ∀ (vs : List Nat) (σ : St) (j : Nat), (wipe σ vs)[j]? = if j ∈ vs ∧ j < σ.length then some none else σ[j]? := by
    intro vs
    induction vs with
    | nil => intro σ j; simp [wipe]
    | cons v vs ih =>
      intro σ j
      unfold wipe
      by_cases hj : v = j
      · subst hj
        by_cases hv : v < σ.length
        · rw [List.getElem?_set_self (by rw [wipe_length]; exact hv), if_pos ⟨List.mem_cons_self, hv⟩]
        · rw [List.getElem?_eq_none (by rw [List.length_set, wipe_length]; omega), if_neg (fun z => hv z.2), List.getElem?_eq_none (by omega)]
      · rw [List.getElem?_set_ne hj, ih]
        have e : (j ∈ v :: vs) ↔ (j ∈ vs) := by
          rw [List.mem_cons]
          exact ⟨fun z => z.elim (fun q => absurd q.symm hj) id, .inr⟩
        simp only [e]
  apply List.ext_getElem?
  intro j
  rw [key, key, hl]
  by_cases hj : j ∈ vs ∧ j < σ.length
  · rw [if_pos hj, if_pos hj]
  · rw [if_neg hj, if_neg hj]
    by_cases h1 : j ∈ vs
    · have h2 : ¬ j < σ.length := fun z => hj ⟨h1, z⟩
      rw [List.getElem?_eq_none (by omega), List.getElem?_eq_none (by omega)]
    · exact h j h1
def wipeG (Γ : List Slot) : List Nat → List Slot
  | [] => Γ
  | v :: vs => (wipeG Γ vs).set v .unk
theorem FrOk.wipe {I H : Hp} {σ : St} {Γ : List Slot} {L : List Rg} (h : FrOk I σ Γ L H) : ∀ vs, FrOk I (L2.wipe σ vs) (wipeG Γ vs) L H
  | [] => h
  | v :: vs => (FrOk.wipe h vs).setU v
theorem tsf_nil : TsF X [] Γ L s xt (.val (true, s)) := fun I σ F H Q fr th => by
  unfold wTs
  exact fun pins st Iv => pts_nil.run pins st σ H Q Iv (th I H (Same.refl _) fr)
theorem tsf_one {m : Res ε (Bool × γ)} (h : TF X c Γ L s xt m) : TsF X [c] Γ L s xt m := fun I σ F H Q fr th => by
  unfold wTs
  exact fun pins st Iv => (pts_one pt_w).run pins st σ H Q Iv (h I σ F H Q fr th)
/-- a comprehension's reading -/
def LC (X : Cx) (tg iter elt : Expr) (ifs : List Expr) (scope : Scope) (ownl : List (Str × Nat)) {δ γ ε : Type} (Γ : List Slot) (L : γ → List Rg) (s : γ) (φ : List δ → CP) (xt : XT ε) (m : Res ε (List δ × γ)) : Prop :=
  BlkOk X.N X.env.scope scope ownl ∧ ∃ (wi : TI) (g : TG) (tt : TT) (te : TE), PI X tg iter wi ∧ (∀ (s : Shared) (H : Hp) (C : Addr) (cl : List (Str × Addr)) (fp : List Addr), PG (blkX X scope s H C cl fp) tg g) ∧ (∀ (s : Shared) (H : Hp) (C : Addr) (cl : List (Str × Addr)) (fp : List Addr), PTs (blkX X scope s H C cl fp) ifs tt) ∧
    (∀ (s : Shared) (H : Hp) (C : Addr) (cl : List (Str × Addr)) (fp : List Addr), PE (blkX X scope s H C cl fp) elt te) ∧ ∀ (I : Hp) (σ : St) (F : List Rg) (H : Hp) (Q : VK), FrOk I σ Γ (L s ++ F) H → ThenN X I F σ Γ L φ xt Q m → tLc wi g tt te (ownl.map (·.2)) σ H Q
theorem lc_mk {ownl : List (Str × Nat)} {up : List Slot → β → List Slot} {vs : List Nat} {m : Res ε (List β × γ)} {tt : β → γ → Res Empty (Bool × γ)} {ee : β → γ → Res Empty (δ × γ)} (cx : Cxt X N sc own) (hvs : vs = ownl.map (·.2)) (hi : IF X tg iter Γ L s B xt m)
    (ok : blkC N sc scope ownl = true)
    (hg : ∃ g : TG, (∀ (s : Shared) (H : Hp) (C : Addr) (cl : List (Str × Addr)) (fp : List Addr), PG (blkX X scope s H C cl fp) tg g) ∧ ∀ (I : Hp) (σ : St) (Γ : List Slot) (L : List Rg) (H : Hp) (v : V) (d : β) (Q : St → Hp → Prop), FrOk I σ Γ L H → B.rep I v d →
      (∀ I' σ' H', Same I I' → FrOk I' σ' (up Γ d) L H' → σ'.length = σ.length → (∀ j, j ∉ vs → σ'[j]? = σ[j]?) → Q σ' H') → g v σ H Q)
    (ht : ∀ (s0 : Shared) (H : Hp) (C : Addr) (cl : List (Str × Addr)) (fp : List Addr) (Cb : Cxt (blkX X scope s0 H C cl fp) N (relS scope sc) (ownB scope sc)) (d : β) (s : γ), TsF (blkX X scope s0 H C cl fp) ifs (up (wipeG Γ vs) d) L s xt0 (tt d s))
    (he : ∀ (s0 : Shared) (H : Hp) (C' : Addr) (cl : List (Str × Addr)) (fp : List Addr) (Cb : Cxt (blkX X scope s0 H C' cl fp) N (relS scope sc) (ownB scope sc)) (d : β) (s : γ), EF (blkX X scope s0 H C' cl fp) elt (up (wipeG Γ vs) d) L s C xt0 (ee d s))
 :
    LC X tg iter elt ifs scope ownl Γ L s (cLst C) xt (m.bnd fun xs s1 => if xs.length ≤ sizeLine then (Res.compL tt ee xs s1 []).nox else .stuck) := by
  obtain ⟨g, pg, gg⟩ := hg
  obtain ⟨wi, pi, wq⟩ := hi
  subst hvs
  have pt : ∀ (s : Shared) (H : Hp) (C : Addr) (cl : List (Str × Addr)) (fp : List Addr), PTs (blkX X scope s H C cl fp) ifs (fun σ H Q => ∀ (s0 : Shared) (H0 : Hp) (C : Addr) (cl : List (Str × Addr)) (fp : List Addr), wTs (blkX X scope s0 H0 C cl fp) ifs σ H Q) :=
    fun s H C cl fp => ⟨fun pins st σ H' Q Iv h => by
    have h2 := h s H C cl fp
    unfold wTs at h2
    exact h2 pins st Iv⟩
  have pe : ∀ (s : Shared) (H : Hp) (C : Addr) (cl : List (Str × Addr)) (fp : List Addr), PE (blkX X scope s H C cl fp) elt (fun σ H Q => ∀ (s0 : Shared) (H0 : Hp) (C : Addr) (cl : List (Str × Addr)) (fp : List Addr), wE (blkX X scope s0 H0 C cl fp) elt σ H Q) :=
    fun s H C cl fp => ⟨fun pins st σ H' Q Iv h => pe_w.run pins st σ H' Q Iv (h s H C cl fp)⟩
  have bok : BlkOk X.N X.env.scope scope ownl := by rw [cx.hN, cx.hsc]; exact blkOk_by ok
  refine ⟨bok, _, _, _, _, pi, pg, pt, pe, fun I σ F H Q fr th => ?_⟩
  refine wq I σ F H _ fr ?_
  cases m with
  | stuck => exact th
  | exn x => exact th
  | val q =>
    obtain ⟨xs, s1⟩ := q
    intro J I1 H1 e1 fr1 tn D hD
    dsimp only [Res.bnd] at th
    by_cases hz : xs.length ≤ sizeLine
    case neg => rw [if_neg hz] at th; exact th.elim
    rw [if_pos hz] at th
    -- the new list is the first region
    refine ⟨fun i mm H2 => ∃ I2 s2 acc, mm = xs.length - i ∧ i ≤ xs.length ∧ acc.length ≤ i ∧ Same I1 I2 ∧ FrOk I2 σ Γ (cell D (cLst C acc) :: (L s2 ++ F)) H2 ∧ ThenN X I2 F σ Γ L (cLst C) xt Q (Res.compL tt ee (xs.drop i) s2 acc).nox,
      ⟨xs.length, I1, s1, [], by omega, Nat.zero_le _, Nat.le_refl _, Same.refl _, ⟨fr1.sep.new hD ⟨[], rfl, .nil⟩, fr1.len, fr1.sl⟩, ?_⟩, ?_⟩
    · rw [List.drop_zero]
      cases hc : Res.compL tt ee xs s1 [] with
      | stuck => rw [hc] at th; exact th
      | exn x => exact nomatch x
      | val r =>
        rw [hc] at th
        exact fun I' q H' e2 f2 => th I' q H' (e1.trans e2) f2
    · rintro i mm H2 ⟨I2, s2, acc, rfl, hi, ha, e2, fr2, th2⟩
      obtain ⟨t1, t2⟩ := tn I2 _ H2 e2 fr2.sep i
      by_cases hlt : i < xs.length
      · obtain ⟨t3, t4⟩ := t2 hlt
        have hdrop : xs.drop i = xs[i] :: xs.drop (i + 1) := List.drop_eq_getElem_cons hlt
        rw [hdrop] at th2
        refine .inr ⟨t3, fun H3 => ∃ I3 s3 acc3, acc3.length ≤ i + 1 ∧ Same I1 I3 ∧ FrOk I3 σ Γ (cell D (cLst C acc3) :: (L s3 ++ F)) H3 ∧ ThenN X I3 F σ Γ L (cLst C) xt Q (Res.compL tt ee (xs.drop (i + 1)) s3 acc3).nox,
          fun H' ⟨I3, s3, acc3, z1, z2, z3, z4⟩ => ⟨xs.length - (i + 1), by omega, I3, s3, acc3, rfl, by omega, z1, z2, z3, z4⟩, fun v H' y => ?_⟩
        obtain ⟨I3, e3, se3, rd⟩ := t4 v H' y
        have rv := rd _ (List.getElem?_eq_getElem hlt)
        have fr3 : FrOk I3 σ Γ (cell D (cLst C acc) :: (L s2 ++ F)) H' := fr2.step e3 se3
        refine gg I3 _ _ _ H' v _ _ (fr3.wipe (ownl.map (·.2))) rv fun I4 σ4 H4 e4 fr4 l4 k4 => ?_
        refine ⟨wipe_eq (by rw [l4]) k4 |>.trans ?_, fun s0 H0 C0 cl fp => ?_⟩
        · exact wipe_eq (wipe_length _ _) fun j hj => by
            have : ∀ (vs : List Nat) (σ : St), j ∉ vs → (L2.wipe σ vs)[j]? = σ[j]? := by
              intro vs
              induction vs with
              | nil => intro σ _; rfl
              | cons v vs ih =>
                intro σ h
                unfold L2.wipe
                rw [List.getElem?_set_ne (fun z => h (by rw [z]; exact List.mem_cons_self)), ih _ fun z => h (List.mem_cons_of_mem _ z)]
            exact this _ _ hj
        -- what a turn leaves is framed in the def's slots
        have back : ∀ {I5 : Hp} {H5 : Hp} {L5 : List Rg}, Same I4 I5 → Sep I5 L5 H5 → FrOk I5 σ Γ L5 H5 := fun e5 s5 => ⟨s5, fr.len, (fr3.sl.mono e4).mono e5⟩
        have pm : ∀ {s5 : γ} {acc5 : List δ}, (L s5 ++ (cell D (cLst C acc5) :: F)).Perm (cell D (cLst C acc5) :: (L s5 ++ F)) := List.perm_middle
        dsimp only [Res.compL] at th2
        refine ht s0 H0 C0 cl fp (cxt_blk cx s0 H0 C0 cl fp) _ s2 I4 σ4 (cell D (cLst C acc) :: F) H4 _ (fr4.perm pm.symm) ?_
        cases hT : tt xs[i] s2 with
        | stuck => rw [hT] at th2; exact th2
        | exn x => exact nomatch x
        | val bt =>
          obtain ⟨bb, s5⟩ := bt
          rw [hT] at th2
          dsimp only [Res.bnd] at th2
          intro I5 H5 e5 fr5
          cases bb with
          | false =>
            show ∃ I3 s3 acc3, _
            refine ⟨I5, s5, acc, by omega, ((e2.trans e3).trans e4).trans e5, back e5 (fr5.sep.perm pm), ?_⟩
            have th2 : ThenN X I2 F σ Γ L (cLst C) xt Q (Res.compL tt ee (xs.drop (i + 1)) s5 acc).nox := th2
            cases hc : Res.compL tt ee (xs.drop (i + 1)) s5 acc with
            | stuck => rw [hc] at th2; exact th2
            | exn x => exact nomatch x
            | val r =>
              rw [hc] at th2
              exact fun I' q H' e6 f6 => th2 I' q H' (((e3.trans e4).trans e5).trans e6) f6
          | true =>
            have th2 : ThenN X I2 F σ Γ L (cLst C) xt Q (Res.nox ((ee xs[i] s5).bnd fun y s2 => Res.compL tt ee (xs.drop (i + 1)) s2 (acc ++ [y]))) := th2
            intro s0 H0 C0 cl fp
            refine he s0 H0 C0 cl fp (cxt_blk cx s0 H0 C0 cl fp) _ s5 I5 σ4 (cell D (cLst C acc) :: F) H5 _ fr5 ?_
            cases hE : ee xs[i] s5 with
            | stuck => rw [hE] at th2; exact th2
            | exn x => exact nomatch x
            | val et =>
              obtain ⟨d6, s6⟩ := et
              rw [hE] at th2
              intro I6 v6 H6 e6 fr6 r6
              have se6 := fr6.sep.perm pm
              obtain ⟨o, ho, ⟨ws, rfl, hw⟩, hi6⟩ := se6.get
              refine ⟨ws, ho, by rw [paired_len hw]; omega, I6, s6, acc ++ [d6], by rw [List.length_append, List.length_singleton]; omega, (((e2.trans e3).trans e4).trans e5).trans e6, back (e5.trans e6) (se6.put ⟨_, rfl, paired_app hw (.cons r6 .nil)⟩), ?_⟩
              have th2 : ThenN X I2 F σ Γ L (cLst C) xt Q (Res.compL tt ee (xs.drop (i + 1)) s6 (acc ++ [d6])).nox := th2
              cases hc : Res.compL tt ee (xs.drop (i + 1)) s6 (acc ++ [d6]) with
              | stuck => rw [hc] at th2; exact th2
              | exn x => exact nomatch x
              | val r =>
                rw [hc] at th2
                exact fun I' q H' e7 f7 => th2 I' q H' ((((e3.trans e4).trans e5).trans e6).trans e7) f7
      · have hn : i = xs.length := by omega
        subst hn
        rw [List.drop_length] at th2
        exact .inl ⟨t1 rfl, th2 I2 D H2 (Same.refl _) fr2⟩
theorem en_lc {ownl : List (Str × Nat)} {φ : List δ → CP} {m : Res ε (List δ × γ)} (cx : Cxt X N sc own) (cc : Calm X) (h : LC X tg iter elt ifs scope ownl Γ L s φ xt m) (hs : ∀ x, foldedSetIterable iter X.env x = pure x := by intro _; rfl) : EN X (.ListComp elt [⟨tg, iter, ifs, 0⟩] scope pos) Γ L s φ xt m := fun I σ F H Q fr th => by
  obtain ⟨ok, wi, g, tt, te, pi, pg, pt, pe, rd⟩ := h
  exact PE_to (pe_lc cc.calm (by rw [cx.hN]; exact cx.nd) pi ok pg pt pe hs) (rd I σ F H Q fr th)
end
end Fw


namespace Fw
open PySem L2
namespace Out
/-- let -/
def lt {α β : Type} (d : α) (k : α → β) : β := k d
@[simp] theorem lt_eq {α β : Type} (d : α) (k : α → β) : lt d k = k d := rfl
/-- a while, so many turns at most -/
def whileF {ε ρ ν : Type} (C : ν → Res ε (Bool × Unit)) (B : ν → Out ε ρ ν) : Nat → ν → Out ε ρ ν
  | 0, _ => stuck
  | k + 1, n => Out.bnd (C n) fun b _ => if b then (B n).seq (whileF C B k) else nx n
end Out
/-! ## 16. statements -/
/-- of regions some are forgotten -/
def Sub (L L' : List Rg) : Prop := ∀ (I : Hp) (F : List Rg) (H : Hp), Sep I (L ++ F) H → Sep I (L' ++ F) H
theorem Sub.refl {L : List Rg} : Sub L L := fun _ _ _ h => h
theorem Sub.nil {L : List Rg} : Sub L [] := fun I F H h => by
  induction L with
  | nil => exact h
  | cons c L ih => exact ih h.tail
theorem Sub.drop {c : Rg} {L L' : List Rg} (h : Sub L L') : Sub (c :: L) L' := fun I F H q => h I F H q.tail
theorem Sub.keep {c : Rg} {L L' : List Rg} (h : Sub L L') : Sub (c :: L) (c :: L') := fun I F H q => by
  have q1 : Sep I (L ++ (c :: F)) H := q.perm List.perm_middle.symm
  exact (h I (c :: F) H q1).perm List.perm_middle
theorem Sub.perm {L L' : List Rg} (h : L.Perm L') : Sub L L' := fun I F H q => q.perm (h.append_right F)
section
variable {X : Cx} {N : List Str} {sc scope : Scope} {own : Str → Bool} {α β γ δ ε ρ ν ν' τ : Type} {A : Ty α} {B : Ty β} {C : Ty δ} {e a b c tg iter elt : Expr} {es rest ifs : List Expr} {ss b1 b2 : List Stmt} {x y : Str} {pos p : Pos} {Γ Γ' gx : List Slot} {L : γ → List Rg} {s : γ} {xt : XT ε} {L0 L1 : List Rg}
  {gn : ν → List Slot} {ln : ν → List Rg} {gj : ν' → List Slot} {lj : ν' → List Rg} {rt : RT ρ}
theorem sthen_up {I I1 : Hp} {F : List Rg} {D : Ends} (e1 : Same I I1) {m : Out ε ρ ν} (h : SThen X I F gn ln rt xt gx D m) : SThen X I1 F gn ln rt xt gx D m := by
  cases m with
  | stuck => exact h
  | nx n => exact fun I' σ' H' e => h I' σ' H' (e1.trans e)
  | ret r => exact fun I' v H' e => h I' v H' (e1.trans e)
  | exn x => exact fun I' σ' H' c da e => h I' σ' H' c da (e1.trans e)
/-- a part, then the rest -/
theorem SThen.bnd {I : Hp} {F : List Rg} {σ : St} {H : Hp} {D : Ends} {Q : VK} {m : Res ε (α × γ)} {k : α → γ → Out ε ρ ν} (ha : EF X a Γ L s A xt m) (wk : Wk Γ gx) (fr : FrOk I σ Γ (L s ++ F) H) (th : SThen X I F gn ln rt xt gx D (Out.bnd m k))
    (h : ∀ (I' : Hp) (v : V) (H' : Hp) (d : α) (s' : γ), Same I I' → FrOk I' σ Γ (L s' ++ F) H' → A.rep I' v d → SThen X I' F gn ln rt xt gx D (k d s') → Q v H') : wE X a σ H Q := by
  refine ha I σ F H _ fr ?_
  cases m with
  | stuck => exact th
  | exn x => exact fun I' H' c da e1 fr1 r => th I' σ H' c da e1 fr1.sep (fr1.sl.wk wk) r
  | val p => exact fun I' v H' e1 fr1 r => h I' v H' p.1 p.2 e1 fr1 r (sthen_up e1 th)
theorem SThen.bndN {φ : α → CP} {I : Hp} {F : List Rg} {σ : St} {H : Hp} {D : Ends} {Q : VK} {m : Res ε (α × γ)} {k : α → γ → Out ε ρ ν} (ha : EN X a Γ L s φ xt m) (wk : Wk Γ gx) (fr : FrOk I σ Γ (L s ++ F) H) (th : SThen X I F gn ln rt xt gx D (Out.bnd m k))
    (h : ∀ (I' : Hp) (q : Addr) (H' : Hp) (d : α) (s' : γ), Same I I' → FrOk I' σ Γ (cell q (φ d) :: (L s' ++ F)) H' → SThen X I' F gn ln rt xt gx D (k d s') → Q (.ref q) H') : wE X a σ H Q := by
  refine ha I σ F H _ fr ?_
  cases m with
  | stuck => exact th
  | exn x => exact fun I' H' c da e1 fr1 r => th I' σ H' c da e1 fr1.sep (fr1.sl.wk wk) r
  | val p => exact fun I' q H' e1 fr1 => h I' q H' p.1 p.2 e1 fr1 (sthen_up e1 th)
theorem SThen.bndT {I : Hp} {F : List Rg} {σ : St} {H : Hp} {D : Ends} {Q : Bool → Hp → Prop} {m : Res ε (Bool × γ)} {k : Bool → γ → Out ε ρ ν} (ha : TF X a Γ L s xt m) (wk : Wk Γ gx) (fr : FrOk I σ Γ (L s ++ F) H) (th : SThen X I F gn ln rt xt gx D (Out.bnd m k))
    (h : ∀ (I' : Hp) (H' : Hp) (d : Bool) (s' : γ), Same I I' → FrOk I' σ Γ (L s' ++ F) H' → SThen X I' F gn ln rt xt gx D (k d s') → Q d H') : wT X a σ H Q := by
  refine ha I σ F H _ fr ?_
  cases m with
  | stuck => exact th
  | exn x => exact fun I' H' c da e1 fr1 r => th I' σ H' c da e1 fr1.sep (fr1.sl.wk wk) r
  | val p => exact fun I' H' e1 fr1 => h I' H' p.1 p.2 e1 fr1 (sthen_up e1 th)

theorem sf_nil {n : ν} (w : Wk Γ (gn n)) (hl : (gn n).length = Γ.length) (q : Sub L0 (ln n)) : SF X [] Γ L0 gn ln rt xt gx (.nx n) := fun I σ F H D fr th => by
  refine PSs_to pss_nil ?_
  exact th I σ H (Same.refl _) ⟨q I F H fr.sep, by rw [hl]; exact fr.len, fr.sl.wk w⟩
theorem sf_asg {m : Res ε (α × γ)} {k : α → γ → Out ε ρ ν} (cx : Cxt X N sc own) (i : Nat) (h : EF X e Γ L s A xt m) (hr : ∀ d s', SF X ss (Γ.set i (.dat A d)) (L s') gn ln rt xt gx (k d s')) (hi : N[i]? = some x := by rfl) (ho : own x = true := by decide +kernel) (wk : Wk Γ gx := by first | exact Wk.nil | exact Wk.rfl)
    (hs : swapsWith e (some (.Name x p)) pos.line X.env = pure false := by rfl) : SF X (.Assign [.Name x p] e pos :: ss) Γ (L s) gn ln rt xt gx (Out.bnd m k) := fun I σ F H D fr th => by
  obtain ⟨h1, h2⟩ := cx.st x ho
  refine PSs_to (pss_cons (ps_set (by rw [cx.hN]; exact cx.nd) (by rw [cx.hN]; exact hi) h1 pe_w hs h2) pss_w) ?_
  refine SThen.bnd h wk fr th fun I1 v H1 d s1 e1 fr1 r th1 => ?_
  exact hr d s1 I1 _ F H1 D (fr1.set r i) th1
theorem sf_asgP {d : α} {k : α → Out ε ρ ν} (cx : Cxt X N sc own) (i : Nat) (h : EP X e Γ L0 A d) (hr : ∀ d, SF X ss (Γ.set i (.dat A d)) L0 gn ln rt xt gx (k d)) (hi : N[i]? = some x := by rfl) (ho : own x = true := by decide +kernel)
    (hs : swapsWith e (some (.Name x p)) pos.line X.env = pure false := by rfl) : SF X (.Assign [.Name x p] e pos :: ss) Γ L0 gn ln rt xt gx (Out.lt d k) := fun I σ F H D fr th => by
  obtain ⟨h1, h2⟩ := cx.st x ho
  refine PSs_to (pss_cons (ps_set (by rw [cx.hN]; exact cx.nd) (by rw [cx.hN]; exact hi) h1 pe_w hs h2) pss_w) ?_
  refine h.run fr fun I1 v H1 e1 fr1 r => ?_
  exact hr d I1 _ F H1 D (fr1.set r i) (sthen_up e1 th)
/-- x = a new object -/
theorem sf_asgN {φ : α → CP} {m : Res ε (α × γ)} {k : α → γ → Out ε ρ ν} (cx : Cxt X N sc own) (i : Nat) (h : EN X e Γ L s φ xt m) (hr : ∀ q d s', SF X ss (Γ.set i (.dat (tCell q) ())) (cell q (φ d) :: L s') gn ln rt xt gx (k d s')) (hi : N[i]? = some x := by rfl) (ho : own x = true := by decide +kernel) (wk : Wk Γ gx := by first | exact Wk.nil | exact Wk.rfl)
    (hs : swapsWith e (some (.Name x p)) pos.line X.env = pure false := by rfl) : SF X (.Assign [.Name x p] e pos :: ss) Γ (L s) gn ln rt xt gx (Out.bnd m k) := fun I σ F H D fr th => by
  obtain ⟨h1, h2⟩ := cx.st x ho
  refine PSs_to (pss_cons (ps_set (by rw [cx.hN]; exact cx.nd) (by rw [cx.hN]; exact hi) h1 pe_w hs h2) pss_w) ?_
  refine SThen.bndN h wk fr th fun I1 q H1 d s1 e1 fr1 th1 => ?_
  exact hr q d s1 I1 _ F H1 D (fr1.set rfl i) th1
/-- x = [.. for ..], kept as one's own, or made immutable -/
theorem sf_lcN {φ : List δ → CP} {ownl : List (Str × Nat)} {m : Res ε (List δ × γ)} {k : List δ → γ → Out ε ρ ν} (cx : Cxt X N sc own) (cc : Calm X) (i : Nat) (h : LC X tg iter elt ifs scope ownl Γ L s φ xt m) (hr : ∀ q d s', SF X ss (Γ.set i (.dat (tCell q) ())) (cell q (φ d) :: L s') gn ln rt xt gx (k d s'))
    (hi : N[i]? = some x := by rfl) (hl : sc.names.lookup x = some .local := by decide +kernel) (wk : Wk Γ gx := by first | exact Wk.nil | exact Wk.rfl)
    {pos2 : Pos} (hsw : (p.line == pos2.line) = true := by rfl) (ha : (scope.names.any fun (n, k) => n == x && (k == .local || k == .cell)) = false := by decide +kernel) (hk : sc.kind = .function := by rfl) (hs : ∀ x, foldedSetIterable iter X.env x = pure x := by intro _; rfl) :
    SF X (.Assign [.Name x p] (.ListComp elt [⟨tg, iter, ifs, 0⟩] scope pos2) pos :: ss) Γ (L s) gn ln rt xt gx (Out.bnd m k) := fun I σ F H D fr th => by
  obtain ⟨ok, wi, g, tt, te, pi, pg, pt, pe, rd⟩ := h
  have hl' : X.env.scope.names.lookup x = some .local := by rw [cx.hsc]; exact hl
  refine PSs_to (pss_cons (ps_setLc cc.calm (by rw [cx.hN]; exact cx.nd) (by rw [cx.hN]; exact hi) hl' (sw_true (by rw [cx.hsc]; exact hk) hl' hsw ha) pi ok pg pt pe hs) pss_w) ?_
  show tLc wi g tt te (ownl.map (·.2)) σ H fun v H1 => wSs X ss D (σ.set i (some v)) H1
  refine rd I σ F H _ fr ?_
  cases m with
  | stuck => exact th
  | exn x => exact fun I' H' c da e1 fr1 r => th I' σ H' c da e1 fr1.sep (fr1.sl.wk wk) r
  | val q => exact fun I' qa H' e1 fr1 => hr qa q.1 q.2 I' _ F H' D (fr1.set rfl i) (sthen_up e1 th)
theorem sf_lcF {ownl : List (Str × Nat)} {m : Res ε (List δ × γ)} {k : List δ → γ → Out ε ρ ν} (cx : Cxt X N sc own) (cc : Calm X) (i : Nat) (h : LC X tg iter elt ifs scope ownl Γ L s (cLst C) xt m) (hr : ∀ d s', SF X ss (Γ.set i (.dat (tLst C) d)) (L s') gn ln rt xt gx (k d s'))
    (hi : N[i]? = some x := by rfl) (hl : sc.names.lookup x = some .local := by decide +kernel) (wk : Wk Γ gx := by first | exact Wk.nil | exact Wk.rfl)
    {pos2 : Pos} (hsw : (p.line == pos2.line) = true := by rfl) (ha : (scope.names.any fun (n, k) => n == x && (k == .local || k == .cell)) = false := by decide +kernel) (hk : sc.kind = .function := by rfl) (hs : ∀ x, foldedSetIterable iter X.env x = pure x := by intro _; rfl) :
    SF X (.Assign [.Name x p] (.ListComp elt [⟨tg, iter, ifs, 0⟩] scope pos2) pos :: ss) Γ (L s) gn ln rt xt gx (Out.bnd m k) := fun I σ F H D fr th => by
  obtain ⟨ok, wi, g, tt, te, pi, pg, pt, pe, rd⟩ := h
  have hl' : X.env.scope.names.lookup x = some .local := by rw [cx.hsc]; exact hl
  refine PSs_to (pss_cons (ps_setLc cc.calm (by rw [cx.hN]; exact cx.nd) (by rw [cx.hN]; exact hi) hl' (sw_true (by rw [cx.hsc]; exact hk) hl' hsw ha) pi ok pg pt pe hs) pss_w) ?_
  show tLc wi g tt te (ownl.map (·.2)) σ H fun v H1 => wSs X ss D (σ.set i (some v)) H1
  refine rd I σ F H _ fr ?_
  cases m with
  | stuck => exact th
  | exn x => exact fun I' H' c da e1 fr1 r => th I' σ H' c da e1 fr1.sep (fr1.sl.wk wk) r
  | val q =>
    intro I' qa H' e1 fr1
    obtain ⟨o, ho, ⟨vs, rfl, hv⟩, hi', se⟩ := fr1.sep.freeze
    exact hr q.1 q.2 _ _ F H' D (FrOk.set (fr1.step (Same.upd hi') se) (A := tLst C) ⟨qa, vs, rfl, upd_same, paired_mono (Same.upd hi') hv⟩ i) (sthen_up (e1.trans (Same.upd hi')) th)
/-- a, b = e -/
theorem sf_asgT {m : Res ε (τ × γ)} {T : Tys τ} {u : List Slot → τ → List Slot} {vs : List Nat} {k : τ → γ → Out ε ρ ν} {kk : Nat} (hg : GF X (.Tuple es kk p) (tTup T) u vs) (h : EF X e Γ L s (tTup T) xt m) (hr : ∀ d s', SF X ss (u Γ d) (L s') gn ln rt xt gx (k d s')) (wk : Wk Γ gx := by first | exact Wk.nil | exact Wk.rfl)
    (hs : swapsWithSole [.Tuple es kk p] e pos.line X.env = pure false := by rfl) (hw : swappedStores [.Tuple es kk p] e X.env = pure none := by rfl) : SF X (.Assign [.Tuple es kk p] e pos :: ss) Γ (L s) gn ln rt xt gx (Out.bnd m k) := fun I σ F H D fr th => by
  obtain ⟨g, pg, q⟩ := hg
  refine PSs_to (pss_cons (ps_asg pe_w pg hs hw) pss_w) ?_
  refine SThen.bnd h wk fr th fun I1 v H1 d s1 e1 fr1 r th1 => ?_
  exact q I1 σ Γ _ H1 v d _ fr1 r fun I2 σ2 H2 e2 fr2 _ _ => hr d s1 I2 σ2 F H2 D fr2 (sthen_up e2 th1)
theorem sf_ret {A : Ty α} {Lr : γ → List Rg} {m : Res ε (α × γ)} (h : EF X e Γ L s A xt m) (q : ∀ s', Sub (L s') (Lr s')) (wk : Wk Γ gx := by first | exact Wk.nil | exact Wk.rfl) : SF X (.Return (some e) pos :: ss) Γ (L s) gn ln (rtV A Lr) xt gx (Out.bnd m fun d s' => .ret (d, s')) := fun I σ F H D fr th => by
  refine PSs_to (pss_cons (ps_ret pe_w) pss_w) ?_
  show wE X e σ H D.rt
  exact SThen.bnd h wk fr th fun I1 v H1 d s1 e1 fr1 r th1 => th1 I1 v H1 (Same.refl _) (q s1 I1 F H1 fr1.sep) r
theorem sf_retP {A : Ty α} {Lr : γ → List Rg} {d : α} (h : EP X e Γ (L s) A d) (q : Sub (L s) (Lr s)) : SF X (.Return (some e) pos :: ss) Γ (L s) gn ln (rtV A Lr) xt gx (.ret (d, s)) := fun I σ F H D fr th => by
  refine PSs_to (pss_cons (ps_ret pe_w) pss_w) ?_
  show wE X e σ H D.rt
  exact h.run fr fun I1 v H1 e1 fr1 r => th I1 v H1 e1 (q I1 F H1 fr1.sep) r
theorem sf_retN {φ : α → CP} {Lr : γ → List Rg} {m : Res ε (α × γ)} (h : EN X e Γ L s φ xt m) (q : ∀ s', Sub (L s') (Lr s')) (wk : Wk Γ gx := by first | exact Wk.nil | exact Wk.rfl) : SF X (.Return (some e) pos :: ss) Γ (L s) gn ln (rtN φ Lr) xt gx (Out.bnd m fun d s' => .ret (d, s')) := fun I σ F H D fr th => by
  refine PSs_to (pss_cons (ps_ret pe_w) pss_w) ?_
  show wE X e σ H D.rt
  exact SThen.bndN h wk fr th fun I1 qa H1 d s1 e1 fr1 th1 => th1 I1 _ H1 (Same.refl _) ((q s1).keep I1 F H1 fr1.sep) ⟨qa, rfl⟩
/-- return x, x an own object of the frame: it becomes the caller's -/
theorem sf_retC {φ : α → CP} {Lr : γ → List Rg} {d : α} {qa : Addr} (h : EP X e Γ (L s) (tCell qa) ()) (q : Sub (L s) (cell qa (φ d) :: Lr s)) : SF X (.Return (some e) pos :: ss) Γ (L s) gn ln (rtN φ Lr) xt gx (.ret (d, s)) := fun I σ F H D fr th => by
  refine PSs_to (pss_cons (ps_ret pe_w) pss_w) ?_
  show wE X e σ H D.rt
  refine h.run fr fun I1 v H1 e1 fr1 r => ?_
  have r : v = .ref qa := r
  subst r
  exact th I1 _ H1 e1 (q I1 F H1 fr1.sep) ⟨qa, rfl⟩
/-- .. handed back frozen -/
theorem ef_own {xs : List α} {qa : Addr} {L' : List Rg} (h : EP X e Γ L0 (tCell qa) ()) (hL : L0.Perm (cell qa (cLst A xs) :: L')) : ∀ (I : Hp) (σ : St) (F : List Rg) (H : Hp) (Q : VK), FrOk I σ Γ (L0 ++ F) H → (∀ I' v H', Same I I' → FrOk I' σ Γ (L' ++ F) H' → (tLst A).rep I' v xs → Q v H') → wE X e σ H Q := fun I σ F H Q fr k => by
  refine h.run fr fun I1 v H1 e1 fr1 r => ?_
  have r : v = .ref qa := r
  subst r
  have se : Sep I1 (cell qa (cLst A xs) :: (L' ++ F)) H1 := fr1.sep.perm (hL.append_right F)
  obtain ⟨o, ho, ⟨vs, rfl, hv⟩, hi, s2⟩ := se.freeze
  exact k _ _ _ (e1.trans (Same.upd hi)) (fr1.step (Same.upd hi) s2) ⟨qa, vs, rfl, upd_same, paired_mono (Same.upd hi) hv⟩
theorem sf_retL {Lr : γ → List Rg} {xs : List α} {qa : Addr} {L' : List Rg} (h : EP X e Γ (L s) (tCell qa) ()) (hL : (L s).Perm (cell qa (cLst A xs) :: L')) (q : Sub L' (Lr s)) : SF X (.Return (some e) pos :: ss) Γ (L s) gn ln (rtV (tLst A) Lr) xt gx (.ret (xs, s)) := fun I σ F H D fr th => by
  refine PSs_to (pss_cons (ps_ret pe_w) pss_w) ?_
  show wE X e σ H D.rt
  exact ef_own h hL I σ F H _ fr fun I1 v H1 e1 fr1 r => th I1 v H1 e1 (q I1 F H1 fr1.sep) r
theorem sf_retU {Lr : γ → List Rg} (q : Sub (L s) (Lr s)) : SF X (.Return none pos :: ss) Γ (L s) gn ln (rtV tNone Lr) xt gx (.ret ((), s)) := fun I σ F H D fr th => by
  refine PSs_to (pss_cons ps_retN pss_w) ?_
  exact th I .non H (Same.refl _) (q I F H fr.sep) rfl
theorem sf_if {m : Res ε (Bool × γ)} {M1 M2 : γ → Out ε ρ ν'} {k : ν' → Out ε ρ ν} (h : TF X c Γ L s xt m) (h1 : ∀ s', SF X b1 Γ (L s') gj lj rt xt gx (M1 s')) (h2 : ∀ s', SF X b2 Γ (L s') gj lj rt xt gx (M2 s')) (hr : ∀ n, SF X ss (gj n) (lj n) gn ln rt xt gx (k n)) (wk : Wk Γ gx := by first | exact Wk.nil | exact Wk.rfl) :
    SF X (.If c b1 b2 pos :: ss) Γ (L s) gn ln rt xt gx (Out.bnd m fun b s' => (if b then M1 s' else M2 s').seq k) := fun I σ F H D fr th => by
  refine PSs_to (pss_cons (ps_if pt_w pss_w pss_w) pss_w) ?_
  have go : ∀ {bb : List Stmt} {Mb : Out ε ρ ν'} {I1 H1 : Hp} {s1 : γ}, SF X bb Γ (L s1) gj lj rt xt gx Mb → FrOk I1 σ Γ (L s1 ++ F) H1 → SThen X I1 F gn ln rt xt gx D (Mb.seq k) → wSs X bb { D with nx := wSs X ss D } σ H1 := fun {bb Mb I1 H1 s1} hb fr1 th1 => by
    refine hb I1 σ F H1 _ fr1 ?_
    cases Mb with
    | stuck => exact th1
    | nx n => exact fun I' σ' H' e f => hr n I' σ' F H' D f (sthen_up e th1)
    | ret r => exact th1
    | exn x => exact th1
  refine SThen.bndT h wk fr th fun I1 H1 d s1 e1 fr1 th1 => ?_
  cases d with
  | true => exact go (h1 s1) fr1 th1
  | false => exact go (h2 s1) fr1 th1
theorem sf_ifP {d : Bool} {M1 M2 : Out ε ρ ν'} {k : ν' → Out ε ρ ν} (h : TP' X c Γ L0 d) (h1 : SF X b1 Γ L0 gj lj rt xt gx M1) (h2 : SF X b2 Γ L0 gj lj rt xt gx M2) (hr : ∀ n, SF X ss (gj n) (lj n) gn ln rt xt gx (k n)) (wk : Wk Γ gx := by first | exact Wk.nil | exact Wk.rfl) :
    SF X (.If c b1 b2 pos :: ss) Γ L0 gn ln rt xt gx ((if d then M1 else M2).seq k) :=
  sf_if (γ := Unit) (L := fun _ => L0) (s := ()) (m := .val (d, ())) (M1 := fun _ => M1) (M2 := fun _ => M2) (tf_pure h) (fun _ => h1) (fun _ => h2) hr wk
theorem sf_for {m : Res ε (List β × γ)} {up : List Slot → β → List Slot} {vs : List Nat} {n0 : γ → ν'} {Bd : ν' → β → Out ε ρ ν'} {k : ν' → Out ε ρ ν} (cc : Calm X) (hi : IF X tg iter Γ L s B xt m) (hg : GF X tg B up vs) (h0 : ∀ s', Wk Γ (gj (n0 s')) ∧ (gj (n0 s')).length = Γ.length ∧ Sub (L s') (lj (n0 s')))
    (hb : ∀ n d, SF X b1 (up (gj n) d) (lj n) gj lj rt xt gx (Bd n d)) (hr : ∀ n, SF X ss (gj n) (lj n) gn ln rt xt gx (k n)) (wk : Wk Γ gx := by first | exact Wk.nil | exact Wk.rfl) (hs : ∀ x, foldedSetIterable iter X.env x = pure x := by intro _; rfl) :
    SF X (.For tg iter b1 [] pos :: ss) Γ (L s) gn ln rt xt gx (Out.bnd m fun xs s' => (Out.forL xs (n0 s') Bd).seq k) := fun I σ F H D fr th => by
  obtain ⟨wi, pi, wq⟩ := hi
  obtain ⟨g, pg, gq⟩ := hg
  refine PSs_to (pss_cons (ps_for cc.po cc.calm pi pg pss_w (hs := hs)) pss_w) ?_
  refine wq I σ F H _ fr ?_
  cases m with
  | stuck => exact th
  | exn x => exact fun I' H' c da e1 fr1 r => th I' σ H' c da e1 fr1.sep (fr1.sl.wk wk) r
  | val q =>
    obtain ⟨xs, s1⟩ := q
    intro J I1 H1 e1 fr1 tn
    obtain ⟨w0, l0, q0⟩ := h0 s1
    refine ⟨fun i mm σ2 H2 => ∃ I2 n, mm = xs.length - i ∧ i ≤ xs.length ∧ Same I1 I2 ∧ FrOk I2 σ2 (gj n) (lj n ++ F) H2 ∧ SThen X I2 F gn ln rt xt gx D ((Out.forL (xs.drop i) n Bd).seq k),
      ⟨xs.length, I1, n0 s1, by omega, Nat.zero_le _, Same.refl _, ⟨q0 I1 F H1 fr1.sep, by rw [l0]; exact fr1.len, fr1.sl.wk w0⟩, ?_⟩, ?_⟩
    · rw [List.drop_zero]
      exact sthen_up e1 th
    · rintro i mm σ2 H2 ⟨I2, n, rfl, hi, e2, fr2, th2⟩
      obtain ⟨t1, t2⟩ := tn I2 _ H2 e2 fr2.sep i
      by_cases hlt : i < xs.length
      · obtain ⟨t3, t4⟩ := t2 hlt
        have hdrop : xs.drop i = xs[i] :: xs.drop (i + 1) := List.drop_eq_getElem_cons hlt
        rw [hdrop] at th2
        refine .inr ⟨t3, fun σ3 H3 => ∃ I3 n3, Same I1 I3 ∧ FrOk I3 σ3 (gj n3) (lj n3 ++ F) H3 ∧ SThen X I3 F gn ln rt xt gx D ((Out.forL (xs.drop (i + 1)) n3 Bd).seq k),
          fun σ' H' ⟨I3, n3, z1, z2, z3⟩ => ⟨xs.length - (i + 1), by omega, I3, n3, rfl, by omega, z1, z2, z3⟩, fun v H' y => ?_⟩
        obtain ⟨I3, e3, se3, rd⟩ := t4 v H' y
        have rv := rd _ (List.getElem?_eq_getElem hlt)
        refine gq I3 σ2 (gj n) _ H' v _ _ (fr2.step e3 se3) rv fun I4 σ4 H4 e4 fr4 _ _ => ?_
        refine hb n xs[i] I4 σ4 F H4 _ fr4 ?_
        have th4 : SThen X I4 F gn ln rt xt gx D (((Bd n xs[i]).seq fun n' => Out.forL (xs.drop (i + 1)) n' Bd).seq k) := sthen_up (e3.trans e4) th2
        cases hB : Bd n xs[i] with
        | stuck => rw [hB] at th4; exact th4
        | ret r => rw [hB] at th4; exact th4
        | exn x => rw [hB] at th4; exact th4
        | nx n' =>
          rw [hB] at th4
          exact fun I' σ' H' e f => ⟨I', n', ((e2.trans e3).trans e4).trans e, f, sthen_up e th4⟩
      · have hn : i = xs.length := by omega
        subst hn
        rw [List.drop_length] at th2
        exact .inl ⟨t1 rfl, hr n I2 σ2 F H2 D fr2 th2⟩
theorem sf_while {n0 : ν'} {Cn : ν' → Res ε (Bool × Unit)} {Bd : ν' → Out ε ρ ν'} {k : ν' → Out ε ρ ν} {fuel : Nat} (cc : Calm X) (h0 : Wk Γ (gj n0) ∧ (gj n0).length = Γ.length ∧ Sub L0 (lj n0))
    (hc : ∀ n, TF X c (gj n) (fun _ : Unit => lj n) () xt (Cn n)) (hb : ∀ n, SF X b1 (gj n) (lj n) gj lj rt xt gx (Bd n)) (hr : ∀ n, SF X ss (gj n) (lj n) gn ln rt xt gx (k n)) (wk : ∀ n, Wk (gj n) gx := by intro _; exact Wk.nil) :
    SF X (.While c b1 [] pos :: ss) Γ L0 gn ln rt xt gx ((Out.whileF Cn Bd fuel n0).seq k) := fun I σ F H D fr th => by
  refine PSs_to (pss_cons (ps_while cc.po pt_w pss_w) pss_w) ?_
  obtain ⟨w0, l0, q0⟩ := h0
  refine ⟨fun mm σ2 H2 => ∃ I2 n, Same I I2 ∧ FrOk I2 σ2 (gj n) (lj n ++ F) H2 ∧ SThen X I2 F gn ln rt xt gx D ((Out.whileF Cn Bd mm n).seq k),
    ⟨fuel, I, n0, Same.refl _, ⟨q0 I F H fr.sep, by rw [l0]; exact fr.len, fr.sl.wk w0⟩, th⟩, ?_⟩
  rintro mm σ2 H2 ⟨I2, n, e2, fr2, th2⟩
  cases mm with
  | zero => exact th2.elim
  | succ mm =>
    refine hc n I2 σ2 F H2 _ fr2 ?_
    dsimp only [Out.whileF] at th2
    cases hC : Cn n with
    | stuck => rw [hC] at th2; exact th2
    | exn x =>
      rw [hC] at th2
      exact fun I' H' c da e1 fr1 r => th2 I' σ2 H' c da e1 fr1.sep (fr1.sl.wk (wk n)) r
    | val q =>
      obtain ⟨bb, n1⟩ := q
      rw [hC] at th2
      intro I3 H3 e3 fr4
      cases bb with
      | false =>
        have th2 : SThen X I2 F gn ln rt xt gx D (k n) := th2
        exact hr n I3 σ2 F H3 D fr4 (sthen_up e3 th2)
      | true =>
        have th2 : SThen X I2 F gn ln rt xt gx D (((Bd n).seq (Out.whileF Cn Bd mm)).seq k) := th2
        refine ⟨fun σ5 H5 => ∃ I5 n5, Same I I5 ∧ FrOk I5 σ5 (gj n5) (lj n5 ++ F) H5 ∧ SThen X I5 F gn ln rt xt gx D ((Out.whileF Cn Bd mm n5).seq k), fun σ5 H5 q5 => ⟨mm, Nat.lt_succ_self _, q5⟩, ?_⟩
        refine hb n I3 σ2 F H3 _ fr4 ?_
        cases hB : Bd n with
        | stuck => rw [hB] at th2; exact th2
        | ret r => rw [hB] at th2; exact sthen_up e3 th2
        | exn x => rw [hB] at th2; exact sthen_up e3 th2
        | nx n' =>
          rw [hB] at th2
          exact fun I' σ' H' e f => ⟨I', n', (e2.trans e3).trans e, f, sthen_up (e3.trans e) th2⟩
/-- an expression alone -/
theorem sf_expr {m : Res ε (α × γ)} {k : α → γ → Out ε ρ ν} (h : EF X e Γ L s A xt m) (hr : ∀ d s', SF X ss Γ (L s') gn ln rt xt gx (k d s')) (wk : Wk Γ gx := by first | exact Wk.nil | exact Wk.rfl) (hs : swapsWith e none pos.line X.env = pure false := by rfl) : SF X (.Expr e pos :: ss) Γ (L s) gn ln rt xt gx (Out.bnd m k) := fun I σ F H D fr th => by
  refine PSs_to (pss_cons (ps_expr pe_w hs) pss_w) ?_
  refine SThen.bnd h wk fr th fun I1 v H1 d s1 e1 fr1 r th1 => ?_
  exact hr d s1 I1 σ F H1 D fr1 th1
end
end Fw


namespace Fw
open PySem L2
/-! ## 17. a def keeps its promise -/
section
variable {P : Program} {w : World} {K : PySem.W.Frag} {mg : Str → Option Value} {base : Heap} {N ps : List Str} {x qual : Str} {st : Stmt} {f : Addr} {fd : FuncData} {k : Nat} {ι τ γ ε ρ : Type}
/-- what the body's context is known to be -/
structure Home (X : Cx) (P : Program) (w : World) (K : PySem.W.Frag) (mg : Str → Option Value) (base : Heap) (k : Nat) : Prop where
  prog : X.prog = P
  w : X.w = w
  K : X.K = K
  mg : X.mg = mg
  base : X.base = base
  room : Room k X.A
  st : X.stack = X.env :: X.outer
  fr : X.env.frame = some X.env.locals
namespace Out
/-- a def that ends without return hands back None -/
def fnU {ε ρ ν : Type} (r : ν → ρ) (m : Out ε ρ ν) : Res ε ρ := match m with
  | stuck => .stuck
  | nx n => .val (r n)
  | ret r => .val r
  | exn x => .exn x
end Out
theorem fn_ok {T : ι → Tys τ} {L : ι → γ → List Rg} {rt : ι → RT ρ} {xt : ι → XT ε} {g : τ → γ → Res ε ρ} (F : Fun K x qual st f fd) (S : FnScope N ps (defScope st)) (hps : ∀ i t, ((T i).slots t).length = ps.length := by intro _ _; rfl)
    (body : ∀ (X : Cx) (i : ι) (t : τ) (s : γ), Home X P w K mg base k → Cxt X N (defScope st) (locB (defScope st)) → Calm X →
      ∃ (ν : Type) (gn : ν → List Slot) (ln : ν → List Rg) (M : Out ε ρ ν), g t s = M.fn ∧ SF X (defBody st) ((T i).slots t ++ List.replicate (N.length - ps.length) .unk) (L i s) gn ln (rt i) (xt i) [] M) :
    FnOk P w K mg base (L2.CX P w) (k + 1) f fd ps (spec T L rt xt g) := by
  refine F.okX S (fun vs H Q E h => ?_) (fun cdv A outer s H vs Q E hr h => ?_)
  · obtain ⟨i, I, F', t, s, _, h1, _⟩ := h
    rw [(T i).len h1, hps]
  · obtain ⟨i, I, F', t, s', se, rv, th⟩ := h
    refine ⟨_, pss_w, ?_⟩
    obtain ⟨ν, gn, ln, M, e, sf⟩ := body _ i t s' ⟨rfl, rfl, rfl, rfl, rfl, hr, rfl, rfl⟩ (cxt_defX S.nd) calm_defX
    have hpl : ps.length ≤ N.length := by have := congrArg List.length S.pre; rw [List.length_take] at this; omega
    have hvl : vs.length = ps.length := by rw [(T i).len rv, hps]
    refine sf I _ F' H _ ⟨se, ?_, fun j sl q => ?_⟩ ?_
    · unfold L2.start
      simp only [List.length_append, List.length_map, List.length_replicate, hps, hvl]
    · by_cases hj : j < ((T i).slots t).length
      · rw [List.getElem?_append_left hj] at q
        have ok := (T i).ok rv j sl q
        have e1 : (L2.start N vs)[j]?.getD none = vs[j]? := by
          unfold L2.start
          rw [List.getElem?_append_left (by rw [List.length_map, (T i).len rv]; exact hj), List.getElem?_map]
          cases vs[j]? <;> rfl
        rw [e1]
        exact ok
      · rw [List.getElem?_append_right (by omega), List.getElem?_replicate] at q
        split at q
        · cases q; trivial
        · cases q
    · rw [e] at th
      cases M with
      | stuck => exact th
      | nx n => exact th.elim
      | ret r => exact fun I' v H' e1 s1 r1 => th I' v H' e1 s1 r1
      | exn y => exact fun I' σ' H' c da e1 s1 _ r1 => ⟨fun cls d _ H => E cls d H, takes_of rfl rfl rfl rfl, th I' H' c da e1 s1 r1⟩
theorem fn_okU {T : ι → Tys τ} {L : ι → γ → List Rg} {rt : ι → RT ρ} {xt : ι → XT ε} {g : τ → γ → Res ε ρ} (F : Fun K x qual st f fd) (S : FnScope N ps (defScope st)) (hps : ∀ i t, ((T i).slots t).length = ps.length := by intro _ _; rfl)
    (body : ∀ (X : Cx) (i : ι) (t : τ) (s : γ), Home X P w K mg base k → Cxt X N (defScope st) (locB (defScope st)) → Calm X →
      ∃ (ν : Type) (gn : ν → List Slot) (ln : ν → List Rg) (fin : ν → ρ) (M : Out ε ρ ν), g t s = M.fnU fin ∧ (∀ n I, (rt i).rep (fin n) I .non) ∧ (∀ n, Sub (ln n) ((rt i).regs (fin n) .non)) ∧ SF X (defBody st) ((T i).slots t ++ List.replicate (N.length - ps.length) .unk) (L i s) gn ln (rt i) (xt i) [] M) :
    FnOk P w K mg base (L2.CX P w) (k + 1) f fd ps (spec T L rt xt g) := by
  refine F.okX S (fun vs H Q E h => ?_) (fun cdv A outer s H vs Q E hr h => ?_)
  · obtain ⟨i, I, F', t, s, _, h1, _⟩ := h
    rw [(T i).len h1, hps]
  · obtain ⟨i, I, F', t, s', se, rv, th⟩ := h
    refine ⟨_, pss_w, ?_⟩
    obtain ⟨ν, gn, ln, fin, M, e, hf1, hf2, sf⟩ := body _ i t s' ⟨rfl, rfl, rfl, rfl, rfl, hr, rfl, rfl⟩ (cxt_defX S.nd) calm_defX
    have hpl : ps.length ≤ N.length := by have := congrArg List.length S.pre; rw [List.length_take] at this; omega
    have hvl : vs.length = ps.length := by rw [(T i).len rv, hps]
    refine sf I _ F' H _ ⟨se, ?_, fun j sl q => ?_⟩ ?_
    · unfold L2.start
      simp only [List.length_append, List.length_map, List.length_replicate, hps, hvl]
    · by_cases hj : j < ((T i).slots t).length
      · rw [List.getElem?_append_left hj] at q
        have ok := (T i).ok rv j sl q
        have e1 : (L2.start N vs)[j]?.getD none = vs[j]? := by
          unfold L2.start
          rw [List.getElem?_append_left (by rw [List.length_map, (T i).len rv]; exact hj), List.getElem?_map]
          cases vs[j]? <;> rfl
        rw [e1]
        exact ok
      · rw [List.getElem?_append_right (by omega), List.getElem?_replicate] at q
        split at q
        · cases q; trivial
        · cases q
    · rw [e] at th
      cases M with
      | stuck => exact th
      | nx n => exact fun I' σ' H' e1 fr => th I' .non H' e1 (hf2 n I' F' H' fr.sep) (hf1 n I')
      | ret r => exact fun I' v H' e1 s1 r1 => th I' v H' e1 s1 r1
      | exn y => exact fun I' σ' H' c da e1 s1 _ r1 => ⟨fun cls d _ H => E cls d H, takes_of rfl rfl rfl rfl, th I' H' c da e1 s1 r1⟩
end
/-! ## 18. own lists -/
def Has (L : List Rg) (q : Addr) (φ : CP) : Prop := ∃ L', L.Perm (cell q φ :: L')
theorem Has.hd {L : List Rg} {q : Addr} {φ : CP} : Has (cell q φ :: L) q φ := ⟨L, .refl _⟩
theorem Has.tl {L : List Rg} {c : Rg} {q : Addr} {φ : CP} (h : Has L q φ) : Has (c :: L) q φ := let ⟨L', p⟩ := h; ⟨c :: L', (p.cons c).trans (.swap _ _ _)⟩
theorem Has.get {I H : Hp} {L F : List Rg} {q : Addr} {φ : CP} (h : Has L q φ) (s : Sep I (L ++ F) H) : ∃ o, H q = some o ∧ φ.h I o ∧ I q = none := by
  obtain ⟨L', p⟩ := h
  exact Sep.get (L := L' ++ F) (s.perm (p.append_right F))
namespace Res
/-- no exception comes where none is let out -/
theorem _root_.Fw.ef_nox {X : Cx} {α γ ε ε' : Type} {A : Ty α} {e : Expr} {Γ : List Slot} {L : γ → List Rg} {s : γ} {xt : XT ε} {xt' : XT ε'} {m : Res ε (α × γ)} (h : EF X e Γ L s A xt m) : EF X e Γ L s A xt' m.nox := fun I σ F H Q fr th => by
  refine h I σ F H Q fr ?_
  cases m with
  | stuck => exact th
  | val p => exact th
  | exn x => exact th.elim
theorem _root_.Fw.tsf_nox {X : Cx} {γ ε ε' : Type} {es : List Expr} {Γ : List Slot} {L : γ → List Rg} {s : γ} {xt : XT ε} {xt' : XT ε'} {m : Res ε (Bool × γ)} (h : TsF X es Γ L s xt m) : TsF X es Γ L s xt' m.nox := fun I σ F H Q fr th => by
  refine h I σ F H Q fr ?_
  cases m with
  | stuck => exact th
  | val p => exact th
  | exn x => exact th.elim
end Res
section
variable {X : Cx} {N : List Str} {sc scope : Scope} {own : Str → Bool} {α β γ δ ε ρ ν ν' τ : Type} {A : Ty α} {B : Ty β} {C : Ty δ} {e a b c tg iter elt : Expr} {es rest ifs : List Expr} {ss b1 b2 : List Stmt} {x y : Str} {pos p apos : Pos} {Γ Γ' gx : List Slot} {L : γ → List Rg} {s : γ} {xt : XT ε} {L0 L1 : List Rg}
  {gn : ν → List Slot} {ln : ν → List Rg} {gj : ν' → List Slot} {lj : ν' → List Rg} {rt : RT ρ} {q : Addr} {xs : List α}
/-- xs[i], xs an own list -/
theorem ep_ixO [Inhabited α] {i : Int} (ha : EP X a Γ L0 (tCell q) ()) (hL : Has L0 q (cLst A xs)) (hb : EP X b Γ L0 tInt i) (hp : (atI xs i).isSome) (hs : PlainIx b := by exact fun _ _ => rfl) : EP X (.Subscript a b pos) Γ L0 A ((atI xs i).getD default) := fun I σ F H Q fr th => by
  refine PE_to (pe_ix ix_list pe_w pe_w hs) ?_
  refine ha.run fr fun I1 v H1 e1 fr1 rv => ?_
  cases rv
  refine hb.run fr1 fun I2 w H2 e2 fr2 rw => ?_
  cases rw
  obtain ⟨o, ho, ⟨vs, rfl, hv⟩, _⟩ := hL.get fr2.sep
  rw [at_some] at hp
  obtain ⟨j, hj⟩ := Option.isSome_iff_exists.mp hp
  have hlt := ix_lt hj
  obtain ⟨y, hy⟩ : ∃ y, vs[j]? = some y := ⟨_, List.getElem?_eq_getElem (by rw [paired_len hv]; exact hlt)⟩
  obtain ⟨d, hd, rd⟩ := paired_get hv hy
  refine ⟨q, vs, i, y, rfl, rfl, .of ho, ?_, th I2 _ H2 (e1.trans e2) fr2 ?_⟩
  · unfold atI; rw [paired_len hv, hj]; exact hy
  · show A.rep I2 y ((atI xs i).getD default)
    unfold atI; rw [hj]; show A.rep I2 y ((xs[j]?).getD default); rw [hd]; exact rd
theorem ef_ixO [Inhabited α] {i : Int} (ha : EP X a Γ (L s) (tCell q) ()) (hL : Has (L s) q (cLst A xs)) (hb : EP X b Γ (L s) tInt i) (hs : PlainIx b := by exact fun _ _ => rfl) : EF X (.Subscript a b pos) Γ L s A xt (Res.grd (atI xs i).isSome ((atI xs i).getD default, s)) := fun I σ F H Q fr th => by
  obtain ⟨h1, h2⟩ := Then.grd th
  exact ep_ixO ha hL hb h1 hs I σ F H Q fr fun I' v H' e1 f1 r => h2 I' v H' e1 f1 r
theorem ep_lenO (cx : Cxt X N sc own) (hm : X.mg "len" = none) (ha : EP X a Γ L0 (tCell q) ()) (hL : Has L0 q (cLst A xs)) (hg : glB sc "len" = true := by decide +kernel) (hs : starEach [a] X.env = (false, eval a X.env) :: starEach [] X.env := by exact star_c rfl) : EP X (.Call (.Name "len" p) [a] [] pos) Γ L0 tInt (xs.length : Int) := fun I σ F H Q fr th => by
  obtain ⟨h1, h2, h3⟩ := glB_gl cx hg
  refine PE_to (pe_callB call_len_seq h1 hm boot_len (pa_cons pe_w pa_nil hs) h3 h2 hs rfl) ?_
  refine ha.run fr fun I1 v H1 e1 fr1 rv => ?_
  cases rv
  obtain ⟨o, ho, ⟨vs, rfl, hv⟩, _⟩ := hL.get fr1.sep
  exact ⟨q, vs, rfl, .inl (.of ho), th I1 _ H1 e1 fr1 (by rw [paired_len hv]; rfl)⟩
/-- xs[i] = e -/
theorem sf_setO {m : Res ε (α × γ)} {xs : γ → List α} {R : γ → List Rg} {i : γ → Int} {k : α → γ → Out ε ρ ν} (he : EF X e Γ L s A xt m) (hL : ∀ s, (L s).Perm (cell q (cLst A (xs s)) :: R s)) (ha : ∀ s, EP X a Γ (L s) (tCell q) ()) (hb : ∀ s, EP X b Γ (L s) tInt (i s))
    (hr : ∀ d s, SF X ss Γ (cell q (cLst A ((xs s).set ((ixN (xs s).length (i s)).getD 0) d)) :: R s) gn ln rt xt gx (k d s)) (wk : Wk Γ gx := by first | exact Wk.nil | exact Wk.rfl)
    (hs : swapsWithSole [.Subscript a b p] e pos.line X.env = pure false := by rfl) (hw : swappedStores [.Subscript a b p] e X.env = pure none := by rfl)
    (has : ∀ v, assign (.Subscript a b p) X.env v = (do
      let ov ← holding [v] (eval a X.env)
      let iv ← holding [v, ov] (eval b X.env)
      standAt p
      holding [v, ov, iv] (setItem ov iv v)
      release [v, ov, iv] []) := by intro _; rfl) :
    SF X (.Assign [.Subscript a b p] e pos :: ss) Γ (L s) gn ln rt xt gx (Out.bnd m fun d s' => if (ixN (xs s').length (i s')).isSome then k d s' else .stuck) := fun I σ F H D fr th => by
  refine PSs_to (pss_cons (ps_asg pe_w (pg_sub pe_w pe_w set_list has) hs hw) pss_w) ?_
  refine SThen.bnd he wk fr th fun I1 v H1 d s1 e1 fr1 r th1 => ?_
  refine (ha s1).run fr1 fun I2 vo H2 e2 fr2 ro => ?_
  cases ro
  refine (hb s1).run fr2 fun I3 vi H3 e3 fr3 ri => ?_
  cases ri
  have se : Sep I3 (cell q (cLst A (xs s1)) :: (R s1 ++ F)) H3 := fr3.sep.perm ((hL s1).append_right F)
  obtain ⟨o, ho, ⟨vs, rfl, hv⟩, _⟩ := se.get
  cases hj : ixN (xs s1).length (i s1) with
  | none =>
    rw [hj] at th1
    exact th1.elim
  | some j =>
    rw [hj] at th1
    refine ⟨q, vs, i s1, j, rfl, rfl, ho, by rw [paired_len hv]; exact hj, ?_⟩
    have q1 := hr d s1
    rw [hj] at q1
    exact q1 I3 σ F _ D (fr3.step (Same.refl _) (se.put ⟨_, rfl, paired_set (A.mono (e2.trans e3) r) j hv⟩)) (sthen_up (e2.trans e3) th1)
/-- xs.append(e) -/
theorem sf_append {m : Res ε (α × γ)} {xs : γ → List α} {R : γ → List Rg} {k : α → γ → Out ε ρ ν} (ha : EP X a Γ (L s) (tCell q) ()) (he : EF X e Γ L s A xt m) (hL : ∀ s, (L s).Perm (cell q (cLst A (xs s)) :: R s))
    (hr : ∀ d s, SF X ss Γ (cell q (cLst A (xs s ++ [d])) :: R s) gn ln rt xt gx (k d s)) (wk : Wk Γ gx := by first | exact Wk.nil | exact Wk.rfl)
    (hbase : attributeBase a "append" X.env (eval a X.env) = eval a X.env := by rfl)
    (hfew : ((backTo p (starEach (e :: []) X.env)).all (fun x => !x.1) && (backToKw p (keywordEach [] X.env)).all (fun x => x.1.isSome)
      && decide ((e :: []).length + ([] : List Keyword).length + (if ([] : List Keyword).isEmpty then 0 else 1) < 30)) = true := by rfl)
    (hline : (apos.endLine == p.line) = true := by rfl) (hs : starEach (e :: []) X.env = (false, eval e X.env) :: starEach [] X.env := by exact star_c rfl) (hplain : (backTo p (starEach [] X.env)).any (·.1) = false := by rfl)
    (hsw : swapsWith (.Call (.Attribute a "append" apos) [e] [] p) none pos.line X.env = pure false := by rfl) :
    SF X (.Expr (.Call (.Attribute a "append" apos) [e] [] p) pos :: ss) Γ (L s) gn ln rt xt gx (Out.bnd m fun d s' => if (xs s').length < sizeLine then k d s' else .stuck) := fun I σ F H D fr th => by
  refine PSs_to (pss_cons (ps_expr (pe_bm PySem.F.plainAttrs_list PySem.F.slot_list_append PySem.F.type_list_append mt_append pe_w (pa_cons pe_w pa_nil hs) hbase hfew hline hs hplain) hsw) pss_w) ?_
  refine ha.run fr fun I0 va H0 e0 fr0 ra => ?_
  cases ra
  have se0 : Sep I0 (cell q (cLst A (xs s)) :: (R s ++ F)) H0 := fr0.sep.perm ((hL s).append_right F)
  obtain ⟨o0, ho0, ⟨vs0, rfl, hv0⟩, _⟩ := se0.get
  refine ⟨.inl ⟨rfl, vs0, .of ho0⟩, ?_⟩
  refine SThen.bnd he wk fr0 (sthen_up e0 th) fun I1 v H1 d s1 e1 fr1 r th1 => ?_
  have se : Sep I1 (cell q (cLst A (xs s1)) :: (R s1 ++ F)) H1 := fr1.sep.perm ((hL s1).append_right F)
  obtain ⟨o, ho, ⟨vs, rfl, hv⟩, _⟩ := se.get
  by_cases hz : (xs s1).length < sizeLine
  · rw [if_pos hz] at th1
    exact ⟨q, vs, v, rfl, rfl, ho, by rw [paired_len hv]; exact hz, hr d s1 I1 σ F _ D (fr1.step (Same.refl _) (se.put ⟨_, rfl, paired_app hv (.cons r .nil)⟩)) th1⟩
  · rw [if_neg hz] at th1
    exact th1.elim
end
end Fw


namespace Fw
open PySem L2
/-! ## 19. mixed forms (printed by mk_fo.py) -/
section
variable {X : Cx} {N : List Str} {sc scope : Scope} {own : Str → Bool} {α β γ γ' δ ε ρ ν ν' τ ι : Type} {A : Ty α} {B : Ty β} {C : Ty δ} {e a b c tg iter elt : Expr} {es rest ifs : List Expr} {ss b1 b2 : List Stmt} {x y : Str} {pos p apos : Pos} {Γ Γ' gx : List Slot} {L : γ → List Rg} {s : γ} {xt : XT ε} {L0 L1 : List Rg}
theorem ef_grd {P : Prop} [Decidable P] {d : α} (h : P → EP X e Γ (L s) A d) : EF X e Γ L s A xt (Res.grd P (d, s)) := fun I σ F H Q fr th => by
  obtain ⟨h1, h2⟩ := Then.grd th
  exact h h1 I σ F H Q fr fun I' v H' e1 f1 r => h2 I' v H' e1 f1 r
theorem ef_opFFT {mm : Res ε (δ × γ)} {op : Operator} {r : R2} {P : α → β → Prop} {g : α → β → δ} {ma : Res ε (α × γ)} {mb : α → γ → Res ε (β × γ)} (ho : OpR X (binaryOp op) r) (D : D2 r A B C P g) (ha : EF X a Γ L s A xt ma) (hb : ∀ x s1, EF X b Γ L s1 B xt (mb x s1)) (hp : ∀ x y, P x y := by intro _ _; trivial)  (heq : mm = (ma.bnd fun x s1 => (mb x s1).bnd fun y s2 => .val (g x y, s2)) := by exact rfl) :
    EF X (.BinOp a op b pos) Γ L s C xt mm := by
  subst heq
  intro I σ F H Q fr th
  refine PE_to (pe_op ho pe_w pe_w) ?_
  refine Then.bnd ha fr th fun I1 v H1 d s1 e1 fr1 rv th1 => ?_
  refine Then.bnd (hb d s1) fr1 th1 fun I2 w' H2 d2 s2 e2 fr2 rw th2 => ?_
  have th3 := th2
  exact D I2 _ H2 v w' d d2 _ fr2.sep (A.mono e2 rv) rw (hp d d2) fun I' z H' e3 se rz => th3 I' z H' e3 (fr2.step e3 se) rz
theorem ef_opPFG {mm : Res ε (δ × γ)} {op : Operator} {r : R2} {P : α → β → Prop} [∀ x y, Decidable (P x y)] {g : α → β → δ} {u : α} {mb : Res ε (β × γ)} (ho : OpR X (binaryOp op) r) (D : D2 r A B C P g) (ha : EP X a Γ (L s) A u) (hb : EF X b Γ L s B xt mb)   (heq : mm = (mb.bnd fun y s2 => Res.grd (P u y) (g u y, s2)) := by exact rfl) :
    EF X (.BinOp a op b pos) Γ L s C xt mm := by
  subst heq
  intro I σ F H Q fr th
  refine PE_to (pe_op ho pe_w pe_w) ?_
  refine ha.run fr fun I1 v H1 e1 fr1 rv => ?_
  refine Then.bnd hb fr1 (then_up e1 th) fun I2 w' H2 d2 s2 e2 fr2 rw th2 => ?_
  obtain ⟨hq, th3⟩ := Then.grd th2
  exact D I2 _ H2 v w' u d2 _ fr2.sep (A.mono e2 rv) rw (hq) fun I' z H' e3 se rz => th3 I' z H' e3 (fr2.step e3 se) rz
theorem ef_opPFT {mm : Res ε (δ × γ)} {op : Operator} {r : R2} {P : α → β → Prop} {g : α → β → δ} {u : α} {mb : Res ε (β × γ)} (ho : OpR X (binaryOp op) r) (D : D2 r A B C P g) (ha : EP X a Γ (L s) A u) (hb : EF X b Γ L s B xt mb) (hp : ∀ y, P u y := by intro _; trivial)  (heq : mm = (mb.bnd fun y s2 => .val (g u y, s2)) := by exact rfl) :
    EF X (.BinOp a op b pos) Γ L s C xt mm := by
  subst heq
  intro I σ F H Q fr th
  refine PE_to (pe_op ho pe_w pe_w) ?_
  refine ha.run fr fun I1 v H1 e1 fr1 rv => ?_
  refine Then.bnd hb fr1 (then_up e1 th) fun I2 w' H2 d2 s2 e2 fr2 rw th2 => ?_
  have th3 := th2
  exact D I2 _ H2 v w' u d2 _ fr2.sep (A.mono e2 rv) rw (hp d2) fun I' z H' e3 se rz => th3 I' z H' e3 (fr2.step e3 se) rz
theorem ef_opFPG {mm : Res ε (δ × γ)} {op : Operator} {r : R2} {P : α → β → Prop} [∀ x y, Decidable (P x y)] {g : α → β → δ} {ma : Res ε (α × γ)} {w : α → γ → β} (ho : OpR X (binaryOp op) r) (D : D2 r A B C P g) (ha : EF X a Γ L s A xt ma) (hb : ∀ x s1, EP X b Γ (L s1) B (w x s1))   (heq : mm = (ma.bnd fun x s1 => Res.grd (P x (w x s1)) (g x (w x s1), s1)) := by exact rfl) :
    EF X (.BinOp a op b pos) Γ L s C xt mm := by
  subst heq
  intro I σ F H Q fr th
  refine PE_to (pe_op ho pe_w pe_w) ?_
  refine Then.bnd ha fr th fun I1 v H1 d s1 e1 fr1 rv th1 => ?_
  refine (hb d s1).run fr1 fun I2 w' H2 e2 fr2 rw => ?_
  have th2 := then_up e2 th1
  obtain ⟨hq, th3⟩ := Then.grd th2
  exact D I2 _ H2 v w' d (w d s1) _ fr2.sep (A.mono e2 rv) rw (hq) fun I' z H' e3 se rz => th3 I' z H' e3 (fr2.step e3 se) rz
theorem ef_opFPT {mm : Res ε (δ × γ)} {op : Operator} {r : R2} {P : α → β → Prop} {g : α → β → δ} {ma : Res ε (α × γ)} {w : α → γ → β} (ho : OpR X (binaryOp op) r) (D : D2 r A B C P g) (ha : EF X a Γ L s A xt ma) (hb : ∀ x s1, EP X b Γ (L s1) B (w x s1)) (hp : ∀ x s, P x (w x s) := by intro _ _; trivial)  (heq : mm = (ma.bnd fun x s1 => .val (g x (w x s1), s1)) := by exact rfl) :
    EF X (.BinOp a op b pos) Γ L s C xt mm := by
  subst heq
  intro I σ F H Q fr th
  refine PE_to (pe_op ho pe_w pe_w) ?_
  refine Then.bnd ha fr th fun I1 v H1 d s1 e1 fr1 rv th1 => ?_
  refine (hb d s1).run fr1 fun I2 w' H2 e2 fr2 rw => ?_
  have th2 := then_up e2 th1
  have th3 := th2
  exact D I2 _ H2 v w' d (w d s1) _ fr2.sep (A.mono e2 rv) rw (hp d s1) fun I' z H' e3 se rz => th3 I' z H' e3 (fr2.step e3 se) rz
theorem ef_cmpFFT {mm : Res ε (δ × γ)} {op : CmpOp} {r : R2} {P : α → β → Prop} {g : α → β → δ} {ma : Res ε (α × γ)} {mb : α → γ → Res ε (β × γ)} (ho : OpR X (compareOp op) r) (D : D2 r A B C P g) (ha : EF X a Γ L s A xt ma) (hb : ∀ x s1, EF X b Γ L s1 B xt (mb x s1)) (hp : ∀ x y, P x y := by intro _ _; trivial) (hm : behindInMarks op b = false := by first | exact nomark _ | rfl) (heq : mm = (ma.bnd fun x s1 => (mb x s1).bnd fun y s2 => .val (g x y, s2)) := by exact rfl) :
    EF X (.Compare a [op] [b] pos) Γ L s C xt mm := by
  subst heq
  intro I σ F H Q fr th
  refine PE_to (pe_cmpR ho pe_w pe_w hm) ?_
  refine Then.bnd ha fr th fun I1 v H1 d s1 e1 fr1 rv th1 => ?_
  refine Then.bnd (hb d s1) fr1 th1 fun I2 w' H2 d2 s2 e2 fr2 rw th2 => ?_
  have th3 := th2
  exact D I2 _ H2 v w' d d2 _ fr2.sep (A.mono e2 rv) rw (hp d d2) fun I' z H' e3 se rz => th3 I' z H' e3 (fr2.step e3 se) rz
theorem ef_cmpPFG {mm : Res ε (δ × γ)} {op : CmpOp} {r : R2} {P : α → β → Prop} [∀ x y, Decidable (P x y)] {g : α → β → δ} {u : α} {mb : Res ε (β × γ)} (ho : OpR X (compareOp op) r) (D : D2 r A B C P g) (ha : EP X a Γ (L s) A u) (hb : EF X b Γ L s B xt mb)  (hm : behindInMarks op b = false := by first | exact nomark _ | rfl) (heq : mm = (mb.bnd fun y s2 => Res.grd (P u y) (g u y, s2)) := by exact rfl) :
    EF X (.Compare a [op] [b] pos) Γ L s C xt mm := by
  subst heq
  intro I σ F H Q fr th
  refine PE_to (pe_cmpR ho pe_w pe_w hm) ?_
  refine ha.run fr fun I1 v H1 e1 fr1 rv => ?_
  refine Then.bnd hb fr1 (then_up e1 th) fun I2 w' H2 d2 s2 e2 fr2 rw th2 => ?_
  obtain ⟨hq, th3⟩ := Then.grd th2
  exact D I2 _ H2 v w' u d2 _ fr2.sep (A.mono e2 rv) rw (hq) fun I' z H' e3 se rz => th3 I' z H' e3 (fr2.step e3 se) rz
theorem ef_cmpPFT {mm : Res ε (δ × γ)} {op : CmpOp} {r : R2} {P : α → β → Prop} {g : α → β → δ} {u : α} {mb : Res ε (β × γ)} (ho : OpR X (compareOp op) r) (D : D2 r A B C P g) (ha : EP X a Γ (L s) A u) (hb : EF X b Γ L s B xt mb) (hp : ∀ y, P u y := by intro _; trivial) (hm : behindInMarks op b = false := by first | exact nomark _ | rfl) (heq : mm = (mb.bnd fun y s2 => .val (g u y, s2)) := by exact rfl) :
    EF X (.Compare a [op] [b] pos) Γ L s C xt mm := by
  subst heq
  intro I σ F H Q fr th
  refine PE_to (pe_cmpR ho pe_w pe_w hm) ?_
  refine ha.run fr fun I1 v H1 e1 fr1 rv => ?_
  refine Then.bnd hb fr1 (then_up e1 th) fun I2 w' H2 d2 s2 e2 fr2 rw th2 => ?_
  have th3 := th2
  exact D I2 _ H2 v w' u d2 _ fr2.sep (A.mono e2 rv) rw (hp d2) fun I' z H' e3 se rz => th3 I' z H' e3 (fr2.step e3 se) rz
theorem ef_cmpFPG {mm : Res ε (δ × γ)} {op : CmpOp} {r : R2} {P : α → β → Prop} [∀ x y, Decidable (P x y)] {g : α → β → δ} {ma : Res ε (α × γ)} {w : α → γ → β} (ho : OpR X (compareOp op) r) (D : D2 r A B C P g) (ha : EF X a Γ L s A xt ma) (hb : ∀ x s1, EP X b Γ (L s1) B (w x s1))  (hm : behindInMarks op b = false := by first | exact nomark _ | rfl) (heq : mm = (ma.bnd fun x s1 => Res.grd (P x (w x s1)) (g x (w x s1), s1)) := by exact rfl) :
    EF X (.Compare a [op] [b] pos) Γ L s C xt mm := by
  subst heq
  intro I σ F H Q fr th
  refine PE_to (pe_cmpR ho pe_w pe_w hm) ?_
  refine Then.bnd ha fr th fun I1 v H1 d s1 e1 fr1 rv th1 => ?_
  refine (hb d s1).run fr1 fun I2 w' H2 e2 fr2 rw => ?_
  have th2 := then_up e2 th1
  obtain ⟨hq, th3⟩ := Then.grd th2
  exact D I2 _ H2 v w' d (w d s1) _ fr2.sep (A.mono e2 rv) rw (hq) fun I' z H' e3 se rz => th3 I' z H' e3 (fr2.step e3 se) rz
theorem ef_cmpFPT {mm : Res ε (δ × γ)} {op : CmpOp} {r : R2} {P : α → β → Prop} {g : α → β → δ} {ma : Res ε (α × γ)} {w : α → γ → β} (ho : OpR X (compareOp op) r) (D : D2 r A B C P g) (ha : EF X a Γ L s A xt ma) (hb : ∀ x s1, EP X b Γ (L s1) B (w x s1)) (hp : ∀ x s, P x (w x s) := by intro _ _; trivial) (hm : behindInMarks op b = false := by first | exact nomark _ | rfl) (heq : mm = (ma.bnd fun x s1 => .val (g x (w x s1), s1)) := by exact rfl) :
    EF X (.Compare a [op] [b] pos) Γ L s C xt mm := by
  subst heq
  intro I σ F H Q fr th
  refine PE_to (pe_cmpR ho pe_w pe_w hm) ?_
  refine Then.bnd ha fr th fun I1 v H1 d s1 e1 fr1 rv th1 => ?_
  refine (hb d s1).run fr1 fun I2 w' H2 e2 fr2 rw => ?_
  have th2 := then_up e2 th1
  have th3 := th2
  exact D I2 _ H2 v w' d (w d s1) _ fr2.sep (A.mono e2 rv) rw (hp d s1) fun I' z H' e3 se rz => th3 I' z H' e3 (fr2.step e3 se) rz
theorem ef_ixFFT {mm : Res ε (δ × γ)}  {r : R2} {P : α → β → Prop} {g : α → β → δ} {ma : Res ε (α × γ)} {mb : α → γ → Res ε (β × γ)} (ho : IxR X r) (D : D2 r A B C P g) (ha : EF X a Γ L s A xt ma) (hb : ∀ x s1, EF X b Γ L s1 B xt (mb x s1)) (hp : ∀ x y, P x y := by intro _ _; trivial) (hs : PlainIx b := by exact fun _ _ => rfl) (heq : mm = (ma.bnd fun x s1 => (mb x s1).bnd fun y s2 => .val (g x y, s2)) := by exact rfl) :
    EF X (.Subscript a b pos) Γ L s C xt mm := by
  subst heq
  intro I σ F H Q fr th
  refine PE_to (pe_ix ho pe_w pe_w hs) ?_
  refine Then.bnd ha fr th fun I1 v H1 d s1 e1 fr1 rv th1 => ?_
  refine Then.bnd (hb d s1) fr1 th1 fun I2 w' H2 d2 s2 e2 fr2 rw th2 => ?_
  have th3 := th2
  exact D I2 _ H2 v w' d d2 _ fr2.sep (A.mono e2 rv) rw (hp d d2) fun I' z H' e3 se rz => th3 I' z H' e3 (fr2.step e3 se) rz
theorem ef_ixPFG {mm : Res ε (δ × γ)}  {r : R2} {P : α → β → Prop} [∀ x y, Decidable (P x y)] {g : α → β → δ} {u : α} {mb : Res ε (β × γ)} (ho : IxR X r) (D : D2 r A B C P g) (ha : EP X a Γ (L s) A u) (hb : EF X b Γ L s B xt mb)  (hs : PlainIx b := by exact fun _ _ => rfl) (heq : mm = (mb.bnd fun y s2 => Res.grd (P u y) (g u y, s2)) := by exact rfl) :
    EF X (.Subscript a b pos) Γ L s C xt mm := by
  subst heq
  intro I σ F H Q fr th
  refine PE_to (pe_ix ho pe_w pe_w hs) ?_
  refine ha.run fr fun I1 v H1 e1 fr1 rv => ?_
  refine Then.bnd hb fr1 (then_up e1 th) fun I2 w' H2 d2 s2 e2 fr2 rw th2 => ?_
  obtain ⟨hq, th3⟩ := Then.grd th2
  exact D I2 _ H2 v w' u d2 _ fr2.sep (A.mono e2 rv) rw (hq) fun I' z H' e3 se rz => th3 I' z H' e3 (fr2.step e3 se) rz
theorem ef_ixPFT {mm : Res ε (δ × γ)}  {r : R2} {P : α → β → Prop} {g : α → β → δ} {u : α} {mb : Res ε (β × γ)} (ho : IxR X r) (D : D2 r A B C P g) (ha : EP X a Γ (L s) A u) (hb : EF X b Γ L s B xt mb) (hp : ∀ y, P u y := by intro _; trivial) (hs : PlainIx b := by exact fun _ _ => rfl) (heq : mm = (mb.bnd fun y s2 => .val (g u y, s2)) := by exact rfl) :
    EF X (.Subscript a b pos) Γ L s C xt mm := by
  subst heq
  intro I σ F H Q fr th
  refine PE_to (pe_ix ho pe_w pe_w hs) ?_
  refine ha.run fr fun I1 v H1 e1 fr1 rv => ?_
  refine Then.bnd hb fr1 (then_up e1 th) fun I2 w' H2 d2 s2 e2 fr2 rw th2 => ?_
  have th3 := th2
  exact D I2 _ H2 v w' u d2 _ fr2.sep (A.mono e2 rv) rw (hp d2) fun I' z H' e3 se rz => th3 I' z H' e3 (fr2.step e3 se) rz
theorem ef_ixFPG {mm : Res ε (δ × γ)}  {r : R2} {P : α → β → Prop} [∀ x y, Decidable (P x y)] {g : α → β → δ} {ma : Res ε (α × γ)} {w : α → γ → β} (ho : IxR X r) (D : D2 r A B C P g) (ha : EF X a Γ L s A xt ma) (hb : ∀ x s1, EP X b Γ (L s1) B (w x s1))  (hs : PlainIx b := by exact fun _ _ => rfl) (heq : mm = (ma.bnd fun x s1 => Res.grd (P x (w x s1)) (g x (w x s1), s1)) := by exact rfl) :
    EF X (.Subscript a b pos) Γ L s C xt mm := by
  subst heq
  intro I σ F H Q fr th
  refine PE_to (pe_ix ho pe_w pe_w hs) ?_
  refine Then.bnd ha fr th fun I1 v H1 d s1 e1 fr1 rv th1 => ?_
  refine (hb d s1).run fr1 fun I2 w' H2 e2 fr2 rw => ?_
  have th2 := then_up e2 th1
  obtain ⟨hq, th3⟩ := Then.grd th2
  exact D I2 _ H2 v w' d (w d s1) _ fr2.sep (A.mono e2 rv) rw (hq) fun I' z H' e3 se rz => th3 I' z H' e3 (fr2.step e3 se) rz
theorem ef_ixFPT {mm : Res ε (δ × γ)}  {r : R2} {P : α → β → Prop} {g : α → β → δ} {ma : Res ε (α × γ)} {w : α → γ → β} (ho : IxR X r) (D : D2 r A B C P g) (ha : EF X a Γ L s A xt ma) (hb : ∀ x s1, EP X b Γ (L s1) B (w x s1)) (hp : ∀ x s, P x (w x s) := by intro _ _; trivial) (hs : PlainIx b := by exact fun _ _ => rfl) (heq : mm = (ma.bnd fun x s1 => .val (g x (w x s1), s1)) := by exact rfl) :
    EF X (.Subscript a b pos) Γ L s C xt mm := by
  subst heq
  intro I σ F H Q fr th
  refine PE_to (pe_ix ho pe_w pe_w hs) ?_
  refine Then.bnd ha fr th fun I1 v H1 d s1 e1 fr1 rv th1 => ?_
  refine (hb d s1).run fr1 fun I2 w' H2 e2 fr2 rw => ?_
  have th2 := then_up e2 th1
  have th3 := th2
  exact D I2 _ H2 v w' d (w d s1) _ fr2.sep (A.mono e2 rv) rw (hp d s1) fun I' z H' e3 se rz => th3 I' z H' e3 (fr2.step e3 se) rz
theorem tf_cmpFFT {mm : Res ε (Bool × γ)} {op : CmpOp} {r : R2} {P : α → β → Prop} {g : α → β → Bool} {ma : Res ε (α × γ)} {mb : α → γ → Res ε (β × γ)} (ho : OpR X (compareOp op) r) (D : D2 r A B tBool P g) (ha : EF X a Γ L s A xt ma) (hb : ∀ x s1, EF X b Γ L s1 B xt (mb x s1)) (hp : ∀ x y, P x y := by intro _ _; trivial) (hm : behindInMarks op b = false := by first | exact nomark _ | rfl) (heq : mm = (ma.bnd fun x s1 => (mb x s1).bnd fun y s2 => .val (g x y, s2)) := by exact rfl) :
    TF X (.Compare a [op] [b] pos) Γ L s xt mm := by
  subst heq
  intro I σ F H Q fr th
  refine PT_to (pt_cmpR ho pe_w pe_w hm) ?_
  refine ThenT.bnd ha fr th fun I1 v H1 d s1 e1 fr1 rv th1 => ?_
  refine ThenT.bnd (hb d s1) fr1 th1 fun I2 w' H2 d2 s2 e2 fr2 rw th2 => ?_
  have th3 := th2
  exact D I2 _ H2 v w' d d2 _ fr2.sep (A.mono e2 rv) rw (hp d d2) fun I' z H' e3 se rz => ⟨_, rz, th3 I' H' e3 (fr2.step e3 se)⟩
theorem ThenT.grd {I : Hp} {F : List Rg} {σ : St} {Q : Bool → Hp → Prop} {P : Prop} [Decidable P] {d : Bool} {s' : γ} (th : ThenT X I F σ Γ L xt Q (Res.grd P (d, s'))) : P ∧ ThenT X I F σ Γ L xt Q (.val (d, s')) := by
  by_cases h : P
  · rw [Res.grd_true h] at th; exact ⟨h, th⟩
  · unfold Res.grd at th; rw [if_neg h] at th; exact th.elim
theorem tf_cmpPFG {mm : Res ε (Bool × γ)} {op : CmpOp} {r : R2} {P : α → β → Prop} [∀ x y, Decidable (P x y)] {g : α → β → Bool} {u : α} {mb : Res ε (β × γ)} (ho : OpR X (compareOp op) r) (D : D2 r A B tBool P g) (ha : EP X a Γ (L s) A u) (hb : EF X b Γ L s B xt mb)  (hm : behindInMarks op b = false := by first | exact nomark _ | rfl) (heq : mm = (mb.bnd fun y s2 => Res.grd (P u y) (g u y, s2)) := by exact rfl) :
    TF X (.Compare a [op] [b] pos) Γ L s xt mm := by
  subst heq
  intro I σ F H Q fr th
  refine PT_to (pt_cmpR ho pe_w pe_w hm) ?_
  refine ha.run fr fun I1 v H1 e1 fr1 rv => ?_
  refine ThenT.bnd hb fr1 (thenT_up e1 th) fun I2 w' H2 d2 s2 e2 fr2 rw th2 => ?_
  obtain ⟨hq, th3⟩ := ThenT.grd th2
  exact D I2 _ H2 v w' u d2 _ fr2.sep (A.mono e2 rv) rw (hq) fun I' z H' e3 se rz => ⟨_, rz, th3 I' H' e3 (fr2.step e3 se)⟩
theorem tf_cmpPFT {mm : Res ε (Bool × γ)} {op : CmpOp} {r : R2} {P : α → β → Prop} {g : α → β → Bool} {u : α} {mb : Res ε (β × γ)} (ho : OpR X (compareOp op) r) (D : D2 r A B tBool P g) (ha : EP X a Γ (L s) A u) (hb : EF X b Γ L s B xt mb) (hp : ∀ y, P u y := by intro _; trivial) (hm : behindInMarks op b = false := by first | exact nomark _ | rfl) (heq : mm = (mb.bnd fun y s2 => .val (g u y, s2)) := by exact rfl) :
    TF X (.Compare a [op] [b] pos) Γ L s xt mm := by
  subst heq
  intro I σ F H Q fr th
  refine PT_to (pt_cmpR ho pe_w pe_w hm) ?_
  refine ha.run fr fun I1 v H1 e1 fr1 rv => ?_
  refine ThenT.bnd hb fr1 (thenT_up e1 th) fun I2 w' H2 d2 s2 e2 fr2 rw th2 => ?_
  have th3 := th2
  exact D I2 _ H2 v w' u d2 _ fr2.sep (A.mono e2 rv) rw (hp d2) fun I' z H' e3 se rz => ⟨_, rz, th3 I' H' e3 (fr2.step e3 se)⟩
theorem tf_cmpFPG {mm : Res ε (Bool × γ)} {op : CmpOp} {r : R2} {P : α → β → Prop} [∀ x y, Decidable (P x y)] {g : α → β → Bool} {ma : Res ε (α × γ)} {w : α → γ → β} (ho : OpR X (compareOp op) r) (D : D2 r A B tBool P g) (ha : EF X a Γ L s A xt ma) (hb : ∀ x s1, EP X b Γ (L s1) B (w x s1))  (hm : behindInMarks op b = false := by first | exact nomark _ | rfl) (heq : mm = (ma.bnd fun x s1 => Res.grd (P x (w x s1)) (g x (w x s1), s1)) := by exact rfl) :
    TF X (.Compare a [op] [b] pos) Γ L s xt mm := by
  subst heq
  intro I σ F H Q fr th
  refine PT_to (pt_cmpR ho pe_w pe_w hm) ?_
  refine ThenT.bnd ha fr th fun I1 v H1 d s1 e1 fr1 rv th1 => ?_
  refine (hb d s1).run fr1 fun I2 w' H2 e2 fr2 rw => ?_
  have th2 := thenT_up e2 th1
  obtain ⟨hq, th3⟩ := ThenT.grd th2
  exact D I2 _ H2 v w' d (w d s1) _ fr2.sep (A.mono e2 rv) rw (hq) fun I' z H' e3 se rz => ⟨_, rz, th3 I' H' e3 (fr2.step e3 se)⟩
theorem tf_cmpFPT {mm : Res ε (Bool × γ)} {op : CmpOp} {r : R2} {P : α → β → Prop} {g : α → β → Bool} {ma : Res ε (α × γ)} {w : α → γ → β} (ho : OpR X (compareOp op) r) (D : D2 r A B tBool P g) (ha : EF X a Γ L s A xt ma) (hb : ∀ x s1, EP X b Γ (L s1) B (w x s1)) (hp : ∀ x s, P x (w x s) := by intro _ _; trivial) (hm : behindInMarks op b = false := by first | exact nomark _ | rfl) (heq : mm = (ma.bnd fun x s1 => .val (g x (w x s1), s1)) := by exact rfl) :
    TF X (.Compare a [op] [b] pos) Γ L s xt mm := by
  subst heq
  intro I σ F H Q fr th
  refine PT_to (pt_cmpR ho pe_w pe_w hm) ?_
  refine ThenT.bnd ha fr th fun I1 v H1 d s1 e1 fr1 rv th1 => ?_
  refine (hb d s1).run fr1 fun I2 w' H2 e2 fr2 rw => ?_
  have th2 := thenT_up e2 th1
  have th3 := th2
  exact D I2 _ H2 v w' d (w d s1) _ fr2.sep (A.mono e2 rv) rw (hp d s1) fun I' z H' e3 se rz => ⟨_, rz, th3 I' H' e3 (fr2.step e3 se)⟩

/-! arguments -/
theorem af_consP {T : Tys τ} {u : α} {mr : Res ε (τ × γ)} (ha : EP X e Γ (L s) A u) (hr : AF X es Γ L s T xt mr) (hs : starEach (e :: es) X.env = (false, eval e X.env) :: starEach es X.env := by exact star_c rfl) :
    AF X (e :: es) Γ L s (Tys.cons A T) xt (mr.bnd fun t s2 => .val ((u, t), s2)) := fun I σ F H Q fr th => by
  refine PA_to (pa_cons pe_w pa_w hs) ?_
  refine ha.run fr fun I1 v H1 e1 fr1 rv => ?_
  refine hr I1 σ F H1 _ fr1 ?_
  cases mr with
  | stuck => exact th
  | exn x => exact fun I' H' c da e2 fr' r => th I' H' c da (e1.trans e2) fr' r
  | val q => exact fun I2 vs H2 e2 fr2 rvs => th I2 (v :: vs) H2 (e1.trans e2) fr2 ⟨v, vs, rfl, A.mono e2 rv, rvs⟩
theorem af_consF {T : Tys τ} {t : α → γ → τ} {ma : Res ε (α × γ)} (ha : EF X e Γ L s A xt ma) (hr : ∀ d s1, AP' X es Γ (L s1) T (t d s1)) (hs : starEach (e :: es) X.env = (false, eval e X.env) :: starEach es X.env := by exact star_c rfl) :
    AF X (e :: es) Γ L s (Tys.cons A T) xt (ma.bnd fun d s1 => .val ((d, t d s1), s1)) := fun I σ F H Q fr th => by
  refine PA_to (pa_cons pe_w pa_w hs) ?_
  refine ha I σ F H _ fr ?_
  cases ma with
  | stuck => exact th
  | exn x => exact th
  | val q =>
    intro I1 v H1 e1 fr1 rv
    refine hr q.1 q.2 I1 σ F H1 _ fr1 ?_
    exact fun I2 vs H2 e2 fr2 rvs => th I2 (v :: vs) H2 (e1.trans e2) fr2 ⟨v, vs, rfl, A.mono e2 rv, rvs⟩
theorem afl_consP {u : α} {mr : Res ε (List α × γ)} (ha : EP X e Γ (L s) A u) (hr : AF X es Γ L s (Tys.lst A) xt mr) (hs : starEach (e :: es) X.env = (false, eval e X.env) :: starEach es X.env := by exact star_c rfl) :
    AF X (e :: es) Γ L s (Tys.lst A) xt (mr.bnd fun t s2 => .val (u :: t, s2)) := fun I σ F H Q fr th => by
  refine PA_to (pa_cons pe_w pa_w hs) ?_
  refine ha.run fr fun I1 v H1 e1 fr1 rv => ?_
  refine hr I1 σ F H1 _ fr1 ?_
  cases mr with
  | stuck => exact th
  | exn x => exact fun I' H' c da e2 fr' r => th I' H' c da (e1.trans e2) fr' r
  | val q => exact fun I2 vs H2 e2 fr2 rvs => th I2 (v :: vs) H2 (e1.trans e2) fr2 (.cons (A.mono e2 rv) rvs)
theorem afl_consF {t : α → γ → List α} {ma : Res ε (α × γ)} (ha : EF X e Γ L s A xt ma) (hr : ∀ d s1, AP' X es Γ (L s1) (Tys.lst A) (t d s1)) (hs : starEach (e :: es) X.env = (false, eval e X.env) :: starEach es X.env := by exact star_c rfl) :
    AF X (e :: es) Γ L s (Tys.lst A) xt (ma.bnd fun d s1 => .val (d :: t d s1, s1)) := fun I σ F H Q fr th => by
  refine PA_to (pa_cons pe_w pa_w hs) ?_
  refine ha I σ F H _ fr ?_
  cases ma with
  | stuck => exact th
  | exn x => exact th
  | val q =>
    intro I1 v H1 e1 fr1 rv
    refine hr q.1 q.2 I1 σ F H1 _ fr1 ?_
    exact fun I2 vs H2 e2 fr2 rvs => th I2 (v :: vs) H2 (e1.trans e2) fr2 (.cons (A.mono e2 rv) rvs)

theorem res_bnd_val {t : τ} {k : τ → γ → Res ε (δ × γ)} : Res.bnd (.val (t, s)) k = k t s := rfl
theorem ef_callBP {mm : Res ε (δ × γ)} {T : Tys τ} {id : String} {r : List V → Hp → VK → Prop} {P : τ → Prop} [∀ x, Decidable (P x)] {g : τ → δ} {t : τ} {p : Pos} (cx : Cxt X N sc own) (hc : CallR X (.builtin id) r) (D : DN r T C P g) (hm : X.mg x = none) (hv : bootBuiltins x = some (.builtin id)) (ha : AP' X (e :: es) Γ (L s) T t)
    (hg : glB sc x = true := by decide +kernel) (he : starEach (e :: es) X.env = (false, eval e X.env) :: starEach es X.env := by exact star_c rfl) (hpl : (backTo pos (starEach es X.env)).any (·.1) = false := by rfl) (heq : mm = Res.grd (P t) (g t, s) := by exact rfl) :
    EF X (.Call (.Name x p) (e :: es) [] pos) Γ L s C xt mm := ef_callB (m := .val (t, s)) cx hc D hm hv (af_pure ha) hg he hpl heq
theorem ef_callTyP {mm : Res ε (δ × γ)} {T : Tys τ} {id : String} {r : List V → Hp → VK → Prop} {P : τ → Prop} [∀ x, Decidable (P x)] {g : τ → δ} {t : τ} {p : Pos} (cx : Cxt X N sc own) (hc : CallR X (.type id) r) (D : DN r T C P g) (hm : X.mg x = none) (hv : bootBuiltins x = some (.type id)) (ha : AP' X (e :: es) Γ (L s) T t)
    (hg : glB sc x = true := by decide +kernel) (he : starEach (e :: es) X.env = (false, eval e X.env) :: starEach es X.env := by exact star_c rfl) (hpl : (backTo pos (starEach es X.env)).any (·.1) = false := by rfl) (heq : mm = Res.grd (P t) (g t, s) := by exact rfl) :
    EF X (.Call (.Name x p) (e :: es) [] pos) Γ L s C xt mm := ef_callTy (m := .val (t, s)) cx hc D hm hv (af_pure ha) hg he hpl heq
/-- no guard -/
theorem ef_callBT {mm : Res ε (δ × γ)} {T : Tys τ} {id : String} {r : List V → Hp → VK → Prop} {P : τ → Prop} {g : τ → δ} {m : Res ε (τ × γ)} {p : Pos} (cx : Cxt X N sc own) (hc : CallR X (.builtin id) r) (D : DN r T C P g) (hp : ∀ t, P t) (hm : X.mg x = none) (hv : bootBuiltins x = some (.builtin id)) (ha : AF X (e :: es) Γ L s T xt m)
    (hg : glB sc x = true := by decide +kernel) (he : starEach (e :: es) X.env = (false, eval e X.env) :: starEach es X.env := by exact star_c rfl) (hpl : (backTo pos (starEach es X.env)).any (·.1) = false := by rfl) (heq : mm = (m.bnd fun t s1 => .val (g t, s1)) := by exact rfl) :
    EF X (.Call (.Name x p) (e :: es) [] pos) Γ L s C xt mm := by
  subst heq
  intro I σ F H Q fr th
  obtain ⟨h1, h2, h3⟩ := glB_gl cx hg
  refine PE_to (pe_callB hc h1 hm hv pa_w h3 h2 he hpl) ?_
  refine Then.bndA ha fr th fun I1 v H1 d s1 e1 fr1 rv th1 => ?_
  exact D I1 _ H1 v d Q fr1.sep rv (hp d) fun I' z H' e3 se rz => th1 I' z H' e3 (fr1.step e3 se) rz
theorem ef_callTyT {mm : Res ε (δ × γ)} {T : Tys τ} {id : String} {r : List V → Hp → VK → Prop} {P : τ → Prop} {g : τ → δ} {m : Res ε (τ × γ)} {p : Pos} (cx : Cxt X N sc own) (hc : CallR X (.type id) r) (D : DN r T C P g) (hp : ∀ t, P t) (hm : X.mg x = none) (hv : bootBuiltins x = some (.type id)) (ha : AF X (e :: es) Γ L s T xt m)
    (hg : glB sc x = true := by decide +kernel) (he : starEach (e :: es) X.env = (false, eval e X.env) :: starEach es X.env := by exact star_c rfl) (hpl : (backTo pos (starEach es X.env)).any (·.1) = false := by rfl) (heq : mm = (m.bnd fun t s1 => .val (g t, s1)) := by exact rfl) :
    EF X (.Call (.Name x p) (e :: es) [] pos) Γ L s C xt mm := by
  subst heq
  intro I σ F H Q fr th
  obtain ⟨h1, h2, h3⟩ := glB_gl cx hg
  refine PE_to (pe_callTy hc h1 hm hv pa_w h3 h2 he hpl) ?_
  refine Then.bndA ha fr th fun I1 v H1 d s1 e1 fr1 rv th1 => ?_
  exact D I1 _ H1 v d Q fr1.sep rv (hp d) fun I' z H' e3 se rz => th1 I' z H' e3 (fr1.step e3 se) rz
section
variable {CX : CXT} {k : Nat} {f : Addr} {fd : FuncData} {ps : List Str} {L' : ι → γ' → List Rg} {T : ι → Tys τ}
theorem ef_call0P {T : Tys τ} {g : τ → Unit → Res ε (δ × Unit)} {t : τ} (cx : Cxt X N sc own) (F : FnOk X.prog X.w X.K X.mg X.base CX k f fd ps (spec (fun _ : Unit => T) (fun _ _ => []) (fun _ => rtV C (fun _ => [])) (fun _ => xt) g)) (hr : Room k X.A) (hm : X.mg x = some (.ref f)) (hk : PySem.W.keepIn X.K (.ref f) = true) (hb : Binds X.K fd ps []) (pw : PassW CX X)
    (ha : AP' X (e :: es) Γ (L s) T t) (hx : ∀ x, xt.regs x = [])
    (hg : glB sc x = true := by decide +kernel) (he : starEach (e :: es) X.env = (false, eval e X.env) :: starEach es X.env := by exact star_c rfl) (hpl : (backTo pos (starEach es X.env)).any (·.1) = false := by rfl) :
    EF X (.Call (.Name x p) (e :: es) [] pos) Γ L s C xt ((g t ()).up s) := ef_call0 (m := .val (t, s)) cx F hr hm hk hb pw (af_pure ha) hx hg he hpl
theorem ef_callSP {g : τ → γ → Res ε (δ × γ)} {L' : ι → γ → List Rg} {t : τ} (i : ι) (R : List Rg) (cx : Cxt X N sc own) (F : FnOk X.prog X.w X.K X.mg X.base CX k f fd ps (spec T L' (fun i => rtV C (L' i)) (fun _ => xt) g)) (hr : Room k X.A) (hm : X.mg x = some (.ref f)) (hk : PySem.W.keepIn X.K (.ref f) = true) (hb : Binds X.K fd ps []) (pw : PassW CX X)
    (ha : AP' X (e :: es) Γ (L s) (T i) t) (hp : ∀ s, (L s).Perm (L' i s ++ R)) (hx : ∀ x, xt.regs x = [])
    (hg : glB sc x = true := by decide +kernel) (he : starEach (e :: es) X.env = (false, eval e X.env) :: starEach es X.env := by exact star_c rfl) (hpl : (backTo pos (starEach es X.env)).any (·.1) = false := by rfl) :
    EF X (.Call (.Name x p) (e :: es) [] pos) Γ L s C xt (g t s) := ef_callS (m := .val (t, s)) i R cx F hr hm hk hb pw (af_pure ha) hp hx hg he hpl
/-- new objects -/
theorem en_call0 {T : Tys τ} {φ : δ → CP} {g : τ → Unit → Res ε (δ × Unit)} {m : Res ε (τ × γ)} (cx : Cxt X N sc own) (F : FnOk X.prog X.w X.K X.mg X.base CX k f fd ps (spec (fun _ : Unit => T) (fun _ _ => []) (fun _ => rtN φ (fun _ => [])) (fun _ => xt) g)) (hr : Room k X.A) (hm : X.mg x = some (.ref f)) (hk : PySem.W.keepIn X.K (.ref f) = true) (hb : Binds X.K fd ps []) (pw : PassW CX X)
    (ha : AF X (e :: es) Γ L s T xt m) (hx : ∀ x, xt.regs x = [])
    (hg : glB sc x = true := by decide +kernel) (he : starEach (e :: es) X.env = (false, eval e X.env) :: starEach es X.env := by exact star_c rfl) (hpl : (backTo pos (starEach es X.env)).any (·.1) = false := by rfl) :
    EN X (.Call (.Name x p) (e :: es) [] pos) Γ L s φ xt (m.bnd fun t s1 => (g t ()).up s1) := by
  have h := en_call (L' := fun _ _ => []) (T := fun _ => T) (γ' := Unit) (pos := pos) (p := p) () (fun _ => ()) (fun s _ => s) L cx F hr hm hk hb pw ha (fun s u => .refl _) (fun _ => rfl) hx hg he hpl
  have q : (fun (t : τ) (s1 : γ) => (g t ()).lift (fun _ => s1)) = fun t s1 => (g t ()).up s1 := by
    funext t s1
    cases g t () <;> rfl
  rw [q] at h
  exact h
theorem en_call0P {T : Tys τ} {φ : δ → CP} {g : τ → Unit → Res ε (δ × Unit)} {t : τ} (cx : Cxt X N sc own) (F : FnOk X.prog X.w X.K X.mg X.base CX k f fd ps (spec (fun _ : Unit => T) (fun _ _ => []) (fun _ => rtN φ (fun _ => [])) (fun _ => xt) g)) (hr : Room k X.A) (hm : X.mg x = some (.ref f)) (hk : PySem.W.keepIn X.K (.ref f) = true) (hb : Binds X.K fd ps []) (pw : PassW CX X)
    (ha : AP' X (e :: es) Γ (L s) T t) (hx : ∀ x, xt.regs x = [])
    (hg : glB sc x = true := by decide +kernel) (he : starEach (e :: es) X.env = (false, eval e X.env) :: starEach es X.env := by exact star_c rfl) (hpl : (backTo pos (starEach es X.env)).any (·.1) = false := by rfl) :
    EN X (.Call (.Name x p) (e :: es) [] pos) Γ L s φ xt ((g t ()).up s) := en_call0 (m := .val (t, s)) cx F hr hm hk hb pw (af_pure ha) hx hg he hpl
theorem en_callS {φ : δ → CP} {g : τ → γ → Res ε (δ × γ)} {L' : ι → γ → List Rg} {m : Res ε (τ × γ)} (i : ι) (R : List Rg) (cx : Cxt X N sc own) (F : FnOk X.prog X.w X.K X.mg X.base CX k f fd ps (spec T L' (fun i => rtN φ (L' i)) (fun _ => xt) g)) (hr : Room k X.A) (hm : X.mg x = some (.ref f)) (hk : PySem.W.keepIn X.K (.ref f) = true) (hb : Binds X.K fd ps []) (pw : PassW CX X)
    (ha : AF X (e :: es) Γ L s (T i) xt m) (hp : ∀ s, (L s).Perm (L' i s ++ R)) (hx : ∀ x, xt.regs x = [])
    (hg : glB sc x = true := by decide +kernel) (he : starEach (e :: es) X.env = (false, eval e X.env) :: starEach es X.env := by exact star_c rfl) (hpl : (backTo pos (starEach es X.env)).any (·.1) = false := by rfl) :
    EN X (.Call (.Name x p) (e :: es) [] pos) Γ L s φ xt (m.bnd fun t s1 => g t s1) := by
  have h := en_call (γ' := γ) (pos := pos) (p := p) i (fun s => s) (fun _ u => u) (fun _ => R) cx F hr hm hk hb pw ha (fun s u => hp u) (fun _ => rfl) hx hg he hpl
  have q : (fun (t : τ) (s1 : γ) => (g t s1).lift (fun u => u)) = fun t s1 => g t s1 := by
    funext t s1
    cases g t s1 <;> rfl
  rw [q] at h
  exact h
theorem en_callSP {φ : δ → CP} {g : τ → γ → Res ε (δ × γ)} {L' : ι → γ → List Rg} {t : τ} (i : ι) (R : List Rg) (cx : Cxt X N sc own) (F : FnOk X.prog X.w X.K X.mg X.base CX k f fd ps (spec T L' (fun i => rtN φ (L' i)) (fun _ => xt) g)) (hr : Room k X.A) (hm : X.mg x = some (.ref f)) (hk : PySem.W.keepIn X.K (.ref f) = true) (hb : Binds X.K fd ps []) (pw : PassW CX X)
    (ha : AP' X (e :: es) Γ (L s) (T i) t) (hp : ∀ s, (L s).Perm (L' i s ++ R)) (hx : ∀ x, xt.regs x = [])
    (hg : glB sc x = true := by decide +kernel) (he : starEach (e :: es) X.env = (false, eval e X.env) :: starEach es X.env := by exact star_c rfl) (hpl : (backTo pos (starEach es X.env)).any (·.1) = false := by rfl) :
    EN X (.Call (.Name x p) (e :: es) [] pos) Γ L s φ xt (g t s) := en_callS (m := .val (t, s)) i R cx F hr hm hk hb pw (af_pure ha) hp hx hg he hpl
/-- f(a new object), which f may change and which is dropped behind it -/
theorem ef_callN {φ : α → CP} {g : (Unit × Unit) → α → Res ε (δ × α)} {m : Res ε (α × γ)} (cx : Cxt X N sc own) (F : FnOk X.prog X.w X.K X.mg X.base CX k f fd ps (spec (fun q : Addr => Tys1 (tCell q)) (fun q s => [cell q (φ s)]) (fun q => rtV C (fun s => [cell q (φ s)])) (fun _ => xt) g)) (hr : Room k X.A) (hm : X.mg x = some (.ref f)) (hk : PySem.W.keepIn X.K (.ref f) = true) (hb : Binds X.K fd ps []) (pw : PassW CX X)
    (ha : EN X e Γ L s φ xt m) (hx : ∀ x, xt.regs x = [])
    (hg : glB sc x = true := by decide +kernel) (he : starEach [e] X.env = (false, eval e X.env) :: starEach [] X.env := by exact star_c rfl) :
    EF X (.Call (.Name x p) [e] [] pos) Γ L s C xt (m.bnd fun d s1 => (g ((), ()) d).bnd fun r _ => .val (r, s1)) := fun I σ F' H Q fr th => by
  obtain ⟨h1, h2, h3⟩ := glB_gl cx hg
  refine PE_to (pe_callS F hr h1 hm hk hb pw (pa_cons pe_w pa_nil he) h2 he rfl) ?_
  show wE X e σ H fun v H1 => spec _ _ _ _ g [v] H1 Q _
  refine ha I σ F' H _ fr ?_
  cases m with
  | stuck => exact th
  | exn x => exact th
  | val mp =>
    obtain ⟨d, s1⟩ := mp
    intro I1 q H1 e1 fr1
    refine ⟨q, I1, L s1 ++ F', ((), ()), d, fr1.sep, ⟨_, _, rfl, rfl, rfl⟩, ?_⟩
    dsimp only [Res.bnd] at th
    cases hgr : g ((), ()) d with
    | stuck => rw [hgr] at th; exact th
    | exn x =>
      rw [hgr] at th
      intro I2 H2 c da e2 se2 r2
      refine th I2 H2 c da (e1.trans e2) (fr1.step e2 ?_) r2
      rw [hx] at se2 ⊢
      have se2 : Sep I2 (L s1 ++ F') H2 := se2
      show Sep I2 F' H2
      generalize L s1 = RR at se2
      induction RR with
      | nil => exact se2
      | cons _ _ ih => exact ih se2.tail
    | val r =>
      rw [hgr] at th
      intro I2 v H2 e2 se2 r2
      exact th I2 v H2 (e1.trans e2) (fr1.step e2 (Sep.tail se2)) r2
end
end
end Fw


namespace Fw
open PySem L2
/-! ## 20. data of any form -/
mutual
theorem dp_mono {K : PySem.W.Frag} {I I' : Hp} (e : Same I I') : ∀ {v : V} {d : PyData}, Dp K I v d → Dp K I' v d
  | _, _, .non => .non
  | _, _, .bl b => .bl b
  | _, _, .int i => .int i
  | _, _, .str x => .str x
  | _, _, .lst h hs => .lst (Same.sql e h) (dpAll_mono e hs)
  | _, _, .tup h hs => .tup (Same.sqt e h) (dpAll_mono e hs)
theorem dpAll_mono {K : PySem.W.Frag} {I I' : Hp} (e : Same I I') : ∀ {v : List V} {d : List PyData}, DpAll K I v d → DpAll K I' v d
  | _, _, .nil => .nil
  | _, _, .cons h hs => .cons (dp_mono e h) (dpAll_mono e hs)
end
def tD (K : PySem.W.Frag) : Ty PyData := ⟨fun I v d => Dp K I v d, fun e h => dp_mono e h⟩
theorem dpAll_paired {K : PySem.W.Frag} {I : Hp} : ∀ {vs : List V} {ds : List PyData}, DpAll K I vs ds → Paired ((tD K).rep I) vs ds
  | _, _, .nil => .nil
  | _, _, .cons h hs => .cons h (dpAll_paired hs)
def CoeOk {α : Type} (A : Ty α) (c : α → PyData) : Prop := ∀ (K : PySem.W.Frag) (I : Hp) (v : V) (d : α), A.rep I v d → Dp K I v (c d)
def CoesOk {τ : Type} (T : Tys τ) (c : τ → List PyData) : Prop := ∀ (K : PySem.W.Frag) (I : Hp) (v : List V) (d : τ), T.rep I v d → DpAll K I v (c d)
def dTx (t : Tx) : PyData := .str ⟨t.toArray⟩
def dOpt {α : Type} (c : α → PyData) : Option α → PyData
  | none => .none
  | some d => c d
def dLst {α : Type} (c : α → PyData) (xs : List α) : PyData := .list (xs.map c)
def dTuL {α : Type} (c : α → PyData) (xs : List α) : PyData := .tuple (xs.map c)
def dNil (_ : Unit) : List PyData := []
def dCons {α τ : Type} (c : α → PyData) (cs : τ → List PyData) (p : α × τ) : List PyData := c p.1 :: cs p.2
def dTup {τ : Type} (cs : τ → List PyData) (p : τ) : PyData := .tuple (cs p)
theorem coe_int : CoeOk tInt .int := fun K I v d h => by cases h; exact .int d
theorem coe_bl : CoeOk tBool .bool := fun K I v d h => by cases h; exact .bl d
theorem coe_tx : CoeOk tTx dTx := fun K I v d h => by cases h; exact .str _
theorem coe_non : CoeOk tNone (fun _ => .none) := fun K I v d h => by cases h; exact .non
section
variable {α τ : Type} {A : Ty α} {T : Tys τ} {c : α → PyData} {cs : τ → List PyData}
theorem coe_opt (h : CoeOk A c) : CoeOk (tOpt A) (dOpt c) := fun K I v d q => by
  cases d with
  | none => cases q; exact .non
  | some d => exact h K I v d q.2
theorem coes_paired (h : CoeOk A c) (K : PySem.W.Frag) (I : Hp) : ∀ {vs : List V} {xs : List α}, Paired (A.rep I) vs xs → DpAll K I vs (xs.map c)
  | _, _, .nil => .nil
  | _, _, .cons r t => .cons (h K I _ _ r) (coes_paired h K I t)
theorem coe_lst (h : CoeOk A c) : CoeOk (tLst A) (dLst c) := fun K I v d q => by
  obtain ⟨p, vs, rfl, h1, h2⟩ := q
  exact .lst (.of h1) (coes_paired h K I h2)
theorem coe_tuL (h : CoeOk A c) : CoeOk (tTuL A) (dTuL c) := fun K I v d q => by
  obtain ⟨p, vs, rfl, h1, h2⟩ := q
  exact .tup (.of h1) (coes_paired h K I h2)
theorem coes_nil : CoesOk Tys.nil dNil := fun K I v d q => by cases q; exact .nil
theorem coes_cons (h : CoeOk A c) (hs : CoesOk T cs) : CoesOk (Tys.cons A T) (dCons c cs) := fun K I v d q => by
  obtain ⟨x, xs, rfl, h1, h2⟩ := q
  exact .cons (h K I _ _ h1) (hs K I _ _ h2)
theorem coe_tup (h : CoesOk T cs) : CoeOk (tTup T) (dTup cs) := fun K I v d q => by
  obtain ⟨p, vs, rfl, h1, h2⟩ := q
  exact .tup (.of h1) (h K I _ _ h2)
end
section
variable {X : Cx} {N : List Str} {sc scope : Scope} {own : Str → Bool} {α β γ γ' δ ε ρ ν ν' τ ι : Type} {A : Ty α} {B : Ty β} {C : Ty δ} {T : Tys τ} {e a b c tg iter elt : Expr} {es rest ifs : List Expr} {ss b1 b2 : List Stmt} {x y : Str} {pos p apos : Pos} {Γ Γ' gx : List Slot} {L : γ → List Rg} {s : γ} {xt : XT ε} {L0 L1 : List Rg}
theorem ef_map {f : α → δ} {m : Res ε (α × γ)} (h : EF X e Γ L s A xt m) (q : ∀ I v d, A.rep I v d → C.rep I v (f d)) : EF X e Γ L s C xt (m.bnd fun x s => Res.val (f x, s)) := fun I σ F H Q fr th => by
  refine Then.bnd h fr th fun I1 v H1 d s1 e1 fr1 rv th1 => ?_
  exact th1 I1 v H1 (Same.refl _) fr1 (q I1 v d rv)
theorem ep_map {f : α → δ} {d : α} (h : EP X e Γ L0 A d) (q : ∀ I v d, A.rep I v d → C.rep I v (f d)) : EP X e Γ L0 C (f d) := fun I σ F H Q fr th => by
  refine h.run fr fun I1 v H1 e1 fr1 rv => th I1 v H1 e1 fr1 (q I1 v d rv)
theorem ep_coe {k : α → PyData} {d : α} (hc : CoeOk A k) (h : EP X e Γ L0 A d) : EP X e Γ L0 (tD X.K) (k d) := ep_map h (hc X.K)
theorem ef_coe {k : α → PyData} {m : Res ε (α × γ)} (hc : CoeOk A k) (h : EF X e Γ L s A xt m) : EF X e Γ L s (tD X.K) xt (m.bnd fun x s => Res.val (k x, s)) := ef_map h (hc X.K)
def NotNon (A : Ty α) : Prop := ∀ I v d, A.rep I v d → v ≠ .non
theorem nn_int : NotNon tInt := fun I v d h => by cases h; exact fun z => nomatch z
theorem nn_tx : NotNon tTx := fun I v d h => by cases h; exact fun z => nomatch z
theorem nn_tup : NotNon (tTup T) := fun I v d h => by obtain ⟨p, vs, rfl, _⟩ := h; exact fun z => nomatch z
theorem nn_tuL : NotNon (tTuL A) := fun I v d h => by obtain ⟨p, vs, rfl, _⟩ := h; exact fun z => nomatch z
theorem nn_lst : NotNon (tLst A) := fun I v d h => by obtain ⟨p, vs, rfl, _⟩ := h; exact fun z => nomatch z
theorem ep_some {d : α} (n : NotNon A) (h : EP X e Γ L0 A d) : EP X e Γ L0 (tOpt A) (some d) := ep_map h fun I v d r => ⟨n I v d r, r⟩
theorem ef_some {m : Res ε (α × γ)} (n : NotNon A) (h : EF X e Γ L s A xt m) : EF X e Γ L s (tOpt A) xt (m.bnd fun x s => Res.val (some x, s)) := ef_map h fun I v d r => ⟨n I v d r, r⟩
/-! == of data -/
def eqOk (d e : PyData) : Prop := SeqAt.shaped d = true ∧ SeqAt.shaped e = true
instance {d e : PyData} : Decidable (eqOk d e) := by unfold eqOk; infer_instance
theorem d_eqD {k : α → PyData} (hc : CoeOk A k) {K : PySem.W.Frag} : D2 (rEqD K) A A tBool (fun x y => eqOk (k x) (k y)) (fun x y => PyData.eqv (k x) (k y)) := fun I L H v w x y Q se rv rw hp kk =>
  ⟨_, _, dp_mono se.same (hc K I v x rv), dp_mono se.same (hc K I w y rw), hp.1, hp.2, kk I _ H (Same.refl _) se rfl⟩
theorem d_neD {k : α → PyData} (hc : CoeOk A k) {K : PySem.W.Frag} : D2 (rNeD K) A A tBool (fun x y => eqOk (k x) (k y)) (fun x y => !PyData.eqv (k x) (k y)) := fun I L H v w x y Q se rv rw hp kk =>
  ⟨_, _, dp_mono se.same (hc K I v x rv), dp_mono se.same (hc K I w y rw), hp.1, hp.2, kk I _ H (Same.refl _) se rfl⟩
theorem coe_D {K : PySem.W.Frag} : ∀ (I : Hp) (v : V) (d : PyData), (tD K).rep I v d → Dp K I v d := fun _ _ _ h => h
/-! scalars of unknown kind -/
def dScal (d e : PyData) : Prop := match d, e with
  | .bool _, .bool _ => True
  | .int _, .int _ => True
  | .str _, .str _ => True
  | _, _ => False
instance {d e : PyData} : Decidable (dScal d e) := by unfold dScal; split <;> infer_instance
def dSame (d e : PyData) : Bool := match d, e with
  | .bool a, .bool b => decide (a = b)
  | .int a, .int b => decide (a = b)
  | .str a, .str b => decide (a = b)
  | _, _ => false
theorem d_eqS {K : PySem.W.Frag} : D2 rEq (tD K) (tD K) tBool dScal dSame := fun I L H v w x y Q se rv rw hp kk => by
  have rv : Dp K I v x := rv
  have rw : Dp K I w y := rw
  cases rv <;> cases rw <;> first | exact hp.elim | skip
  · rename_i a b
    exact ⟨rfl, kk I _ H (Same.refl _) se (congrArg V.bl (dec_bl a b))⟩
  · rename_i a b
    exact ⟨rfl, kk I _ H (Same.refl _) se (congrArg V.bl (dec_int a b))⟩
  · rename_i a b
    exact ⟨rfl, kk I _ H (Same.refl _) se (congrArg V.bl (show decide (V.str a = V.str b) = decide (a = b) by simp))⟩
/-! isinstance -/
def dTyName : PyData → String
  | .none => "NoneType"
  | .bool _ => "bool"
  | .int _ => "int"
  | .str _ => "str"
  | .list _ => "list"
  | .tuple _ => "tuple"
  | .dict _ => "dict"
def isTy (n : String) (d : PyData) : Bool := dTyName d == n || (n == "int" && dTyName d == "bool")
theorem tyx_of {K : PySem.W.Frag} {H : Hp} {v : V} {d : PyData} (h : Dp K H v d) : TyX K H v (.type (dTyName d)) := by
  cases h with
  | non => exact .base .non
  | bl b => exact .base (.bl b)
  | int i => exact .base (.int i)
  | str x => exact .base (.str x)
  | lst h _ =>
    rcases h with (h | ⟨o, h⟩) | ⟨o, its, n, h, hc, _⟩
    · exact .base (.lst h)
    · exact .base (.frz h)
    · exact .kList h hc
  | tup h _ =>
    rcases h with (h | ⟨o, h⟩) | ⟨o, its, n, h, hc, _⟩
    · exact .base (.tup h)
    · exact .fTuple h
    · exact .kTuple h hc
def tCls (n : String) : Ty Unit := ⟨fun _ v _ => v = .ty n, fun _ h => h⟩
theorem kit5 {n : String} (hn : n = "tuple" ∨ n = "list" ∨ n = "bool" ∨ n = "str" ∨ n = "int") (d : PyData) (hd : ∀ k, d ≠ .dict k) : kitB (dTyName d) n = some (isTy n d) := by
  rcases hn with rfl | rfl | rfl | rfl | rfl <;> cases d <;> first | exact absurd rfl (hd _) | (show kitB _ _ = _; first | decide +kernel | (simp only [dTyName, isTy]; decide +kernel))
theorem dp_nodict {K : PySem.W.Frag} {H : Hp} {v : V} {d : PyData} (h : Dp K H v d) : ∀ k, d ≠ .dict k := fun k z => by subst z; cases h
theorem ep_cls (cx : Cxt X N sc own) {n : String} (hm : X.mg x = none) (hv : bootBuiltins x = some (.type n)) (hg : glB sc x = true := by decide +kernel) : EP X (.Name x pos) Γ L0 (tCls n) () := fun I σ F H Q fr th =>
  let ⟨h1, h2, h3⟩ := glB_gl cx hg
  PE_to (pe_bltn (v := .ty n) h1 hm hv rfl h3 h2) (th I _ H (Same.refl _) fr rfl)
theorem dn_isi {K : PySem.W.Frag} {n : String} (hn : n = "tuple" ∨ n = "list" ∨ n = "bool" ∨ n = "str" ∨ n = "int") : DN (rIsi K) (Tys2 (tD K) (tCls n)) tBool (fun _ => True) (fun t => isTy n t.1) := fun I L H vs t Q se rv hp k => by
  obtain ⟨v, w, rfl, h1, rfl⟩ := tys2 rv
  have h2 := dp_mono se.same (show Dp K I v t.1 from h1)
  exact ⟨v, _, _, _, _, rfl, .ty n, tyx_of h2, kit_ty (kit5 hn t.1 (dp_nodict h2)), k I _ H (Same.refl _) se rfl⟩
theorem ep_isi (cx : Cxt X N sc own) {n : String} {x2 : Str} {d : PyData} {p2 : Pos} (hn : n = "tuple" ∨ n = "list" ∨ n = "bool" ∨ n = "str" ∨ n = "int") (hi : X.mg "isinstance" = none) (hm : X.mg x2 = none) (hv : bootBuiltins x2 = some (.type n)) (ha : EP X a Γ L0 (tD X.K) d)
    (hg : glB sc "isinstance" = true := by decide +kernel) (hg2 : glB sc x2 = true := by decide +kernel) (he : starEach (a :: [.Name x2 p2]) X.env = (false, eval a X.env) :: starEach [.Name x2 p2] X.env := by rfl) (hpl : (backTo pos (starEach [.Name x2 p2] X.env)).any (·.1) = false := by rfl) :
    EP X (.Call (.Name "isinstance" p) [a, .Name x2 p2] [] pos) Γ L0 tBool (isTy n d) := ep_callB (T := Tys2 (tD X.K) (tCls n)) (t := (d, (), ())) cx call_isi (dn_isi hn) hi (by decide +kernel) (ap_cons ha (ap_cons (ep_cls cx hm hv hg2) ap_nil) he) trivial hg he hpl
/-- isinstance(x, (c1, c2)) -/
theorem ep_isiT (cx : Cxt X N sc own) {n1 n2 : String} {x1 x2 : Str} {d : PyData} {p1 p2 p3 : Pos} {k3} (hn1 : n1 = "tuple" ∨ n1 = "list" ∨ n1 = "bool" ∨ n1 = "str" ∨ n1 = "int") (hn2 : n2 = "tuple" ∨ n2 = "list" ∨ n2 = "bool" ∨ n2 = "str" ∨ n2 = "int") (hi : X.mg "isinstance" = none)
    (hm1 : X.mg x1 = none) (hv1 : bootBuiltins x1 = some (.type n1)) (hm2 : X.mg x2 = none) (hv2 : bootBuiltins x2 = some (.type n2)) (ha : EP X a Γ L0 (tD X.K) d)
    (hg : glB sc "isinstance" = true := by decide +kernel) (hg1 : glB sc x1 = true := by decide +kernel) (hg2 : glB sc x2 = true := by decide +kernel) (he : starEach (a :: [.Tuple [.Name x1 p1, .Name x2 p2] k3 p3]) X.env = (false, eval a X.env) :: starEach [.Tuple [.Name x1 p1, .Name x2 p2] k3 p3] X.env := by rfl)
    (he2 : starEach [.Tuple [.Name x1 p1, .Name x2 p2] k3 p3] X.env = (false, eval (.Tuple [.Name x1 p1, .Name x2 p2] k3 p3) X.env) :: starEach [] X.env := by exact star_c rfl) (hpl : (backTo pos (starEach [.Tuple [.Name x1 p1, .Name x2 p2] k3 p3] X.env)).any (·.1) = false := by rfl) :
    EP X (.Call (.Name "isinstance" p) [a, .Tuple [.Name x1 p1, .Name x2 p2] k3 p3] [] pos) Γ L0 tBool (isTy n1 d || isTy n2 d) := fun I σ F H Q fr th => by
  obtain ⟨h1, h2, h3⟩ := glB_gl cx hg
  refine PE_to (pe_callB call_isiT h1 hi (by decide +kernel) (pa_cons pe_w (pa_cons pe_w pa_nil he2) he) h3 h2 he hpl) ?_
  refine ha.run fr fun I1 v H1 e1 fr1 rv => ?_
  refine (ep_tup (ap_cons (ep_cls cx hm1 hv1 hg1) (ap_cons (ep_cls cx hm2 hv2 hg2) ap_nil)) (by simp) (by intro _; rfl)).run fr1 fun I2 w H2 e2 fr2 rw => ?_
  obtain ⟨q, ws, rfl, hq, y, ys, rfl, rfl, z, zs, rfl, rfl, rfl⟩ := rw
  have hd := dp_mono (e2.trans fr2.sep.same) (show Dp X.K I1 v d from rv)
  refine ⟨v, q, _, _, _, _, rfl, fr2.sep.same _ _ hq, .cons (.ty n1) (.cons (.ty n2) .nil), tyx_of hd, ?_, th I2 _ H2 (e1.trans e2) fr2 rfl⟩
  refine kitAny_cons (kit_ty (kit5 hn1 d (dp_nodict hd))) (fun h => kitAny_cons (kit_ty (kit5 hn2 d (dp_nodict hd))) (fun h' => ?_) (fun h' => ?_)) (fun h => ?_)
  · rw [h, h']; exact kitAny_nil
  · rw [h, h']; rfl
  · rw [h]; rfl
/-! len, items of unknown kind -/
def dItems : PyData → List PyData
  | .list xs => xs
  | .tuple xs => xs
  | _ => []
def dIsSeq (d : PyData) : Bool := match d with
  | .list _ => true
  | .tuple _ => true
  | _ => false
theorem dn_lenD {K : PySem.W.Frag} : DN (fun xs H Q => ∃ p ys, xs = [.ref p] ∧ (SqL K H p ys ∨ SqT K H p ys) ∧ Q (.int ys.length) H) (Tys1 (tD K)) tInt (fun t => dIsSeq t.1 = true) (fun t => ((dItems t.1).length : Int)) := fun I L H vs t Q se rv hp k => by
  obtain ⟨v, rfl, h1⟩ := tys1 rv
  obtain ⟨d, u⟩ := t
  have h1 : Dp K I v d := h1
  cases h1 with
  | lst h hs => exact ⟨_, _, rfl, .inl (Same.sql se.same h), k I _ H (Same.refl _) se (by rw [paired_len (dpAll_paired hs)]; rfl)⟩
  | tup h hs => exact ⟨_, _, rfl, .inr (Same.sqt se.same h), k I _ H (Same.refl _) se (by rw [paired_len (dpAll_paired hs)]; rfl)⟩
  | _ => exact absurd hp (by intro z; cases z)
def dAtOk (d : PyData) (i : Int) : Prop := dIsSeq d = true ∧ (atI (dItems d) i).isSome
instance {d : PyData} {i : Int} : Decidable (dAtOk d i) := by unfold dAtOk; infer_instance
def dAt (d : PyData) (i : Int) : PyData := (atI (dItems d) i).getD .none
theorem at_paired {R : α → β → Prop} {xs : List α} {ys : List β} {i : Int} (h : Paired R xs ys) (q : (atI ys i).isSome) : ∃ x y, atI xs i = some x ∧ atI ys i = some y ∧ R x y := by
  rw [at_some] at q
  obtain ⟨j, hj⟩ := Option.isSome_iff_exists.mp q
  have hlt := ix_lt hj
  obtain ⟨x, hx⟩ : ∃ x, xs[j]? = some x := ⟨_, List.getElem?_eq_getElem (by rw [paired_len h]; exact hlt)⟩
  obtain ⟨y, hy, r⟩ := paired_get h hx
  refine ⟨x, y, ?_, ?_, r⟩
  · unfold atI; rw [paired_len h, hj]; exact hx
  · unfold atI; rw [hj]; exact hy
theorem d_ixD {K : PySem.W.Frag} : D2 (rIx K) (tD K) tInt (tD K) dAtOk dAt := fun I L H v w d i Q se rv rw hp k => by
  cases rw
  have h1 : Dp K I v d := rv
  obtain ⟨hp1, hp2⟩ := hp
  cases h1 with
  | lst h hs =>
    obtain ⟨x, y, e1, e2, r⟩ := at_paired (dpAll_paired hs) hp2
    refine .inl ⟨_, _, i, x, rfl, rfl, Same.sql se.same h, e1, k I _ H (Same.refl _) se ?_⟩
    unfold dAt
    show (tD K).rep I x ((atI _ i).getD .none)
    rw [show atI (dItems (PyData.list _)) i = some y from e2]
    exact r
  | tup h hs =>
    obtain ⟨x, y, e1, e2, r⟩ := at_paired (dpAll_paired hs) hp2
    refine .inr (.inl ⟨_, _, i, x, rfl, rfl, Same.sqt se.same h, e1, k I _ H (Same.refl _) se ?_⟩)
    unfold dAt
    show (tD K).rep I x ((atI _ i).getD .none)
    rw [show atI (dItems (PyData.tuple _)) i = some y from e2]
    exact r
  | _ => exact absurd hp1 (by intro z; cases z)
/-! is None -/
def dIsNone (d : PyData) : Bool := match d with
  | .none => true
  | _ => false
theorem ep_isND {d : PyData} {j p'} (ha : EP X a Γ L0 (tD X.K) d) : EP X (.Compare a [.Is] [.Constant .none j p'] pos) Γ L0 tBool (dIsNone d) := fun I σ F H Q fr th => by
  refine PE_to (pe_cmpR op_isN pe_w pe_non (nomark _)) ?_
  refine ha.run fr fun I1 v H1 e1 fr1 rv => ⟨rfl, th I1 _ H1 e1 fr1 ?_⟩
  have h1 : Dp X.K I1 v d := rv
  show V.bl _ = V.bl _
  cases h1 <;> rfl
theorem ep_isN {d : Option α} {j p'} (ha : EP X a Γ L0 (tOpt A) d) : EP X (.Compare a [.Is] [.Constant .none j p'] pos) Γ L0 tBool (Option.isNone d) := fun I σ F H Q fr th => by
  refine PE_to (pe_cmpR op_isN pe_w pe_non (nomark _)) ?_
  refine ha.run fr fun I1 v H1 e1 fr1 rv => ⟨rfl, th I1 _ H1 e1 fr1 ?_⟩
  show V.bl _ = V.bl _
  cases d with
  | none => cases rv; rfl
  | some d => rw [decide_eq_false rv.1]; rfl
theorem ep_notN {d : Option α} {j p'} (ha : EP X a Γ L0 (tOpt A) d) : EP X (.Compare a [.IsNot] [.Constant .none j p'] pos) Γ L0 tBool (Option.isSome d) := fun I σ F H Q fr th => by
  refine PE_to (pe_cmpR op_notN pe_w pe_non (nomark _)) ?_
  refine ha.run fr fun I1 v H1 e1 fr1 rv => ⟨rfl, th I1 _ H1 e1 fr1 ?_⟩
  show V.bl _ = V.bl _
  cases d with
  | none => cases rv; rfl
  | some d => rw [decide_eq_false rv.1]; rfl
theorem tp_isND {d : PyData} {j p'} (ha : EP X a Γ L0 (tD X.K) d) : TP' X (.Compare a [.Is] [.Constant .none j p'] pos) Γ L0 (dIsNone d) := fun I σ F H Q fr th => by
  refine PT_to (pt_cmpR op_isN pe_w pe_non (nomark _)) ?_
  refine ha.run fr fun I1 v H1 e1 fr1 rv => ⟨rfl, dIsNone d, ?_, th I1 H1 e1 fr1⟩
  have h1 : Dp X.K I1 v d := rv
  cases h1 <;> rfl
theorem tp_isN {d : Option α} {j p'} (ha : EP X a Γ L0 (tOpt A) d) : TP' X (.Compare a [.Is] [.Constant .none j p'] pos) Γ L0 (Option.isNone d) := fun I σ F H Q fr th => by
  refine PT_to (pt_cmpR op_isN pe_w pe_non (nomark _)) ?_
  refine ha.run fr fun I1 v H1 e1 fr1 rv => ⟨rfl, Option.isNone d, ?_, th I1 H1 e1 fr1⟩
  cases d with
  | none => cases rv; rfl
  | some d => rw [decide_eq_false rv.1]; rfl
theorem tp_notN {d : Option α} {j p'} (ha : EP X a Γ L0 (tOpt A) d) : TP' X (.Compare a [.IsNot] [.Constant .none j p'] pos) Γ L0 (Option.isSome d) := fun I σ F H Q fr th => by
  refine PT_to (pt_cmpR op_notN pe_w pe_non (nomark _)) ?_
  refine ha.run fr fun I1 v H1 e1 fr1 rv => ⟨rfl, Option.isSome d, ?_, th I1 H1 e1 fr1⟩
  cases d with
  | none => cases rv; rfl
  | some d => rw [decide_eq_false rv.1]; rfl
end
end Fw


namespace Fw
open PySem L2
/-! ## 21. further rules -/
theorem perm_at {α : Type _} {xs : List α} {x : α} {ys : List α} (j : Nat) (h : xs = ys.take j ++ x :: ys.drop j) : xs.Perm (x :: ys) := by
  rw [h]
  refine List.perm_middle.trans (List.Perm.cons x ?_)
  rw [List.take_append_drop]
theorem fn_stuck {P : Program} {w : World} {K : PySem.W.Frag} {mg : Str → Option Value} {base : Heap} {CX : CXT} {k : Nat} {f : Addr} {fd : FuncData} {ps : List Str} {ι τ γ ε ρ : Type} {T : ι → Tys τ} {L : ι → γ → List Rg} {rt : ι → RT ρ} {xt : ι → XT ε} {g : τ → γ → Res ε ρ} (h : ∀ t s, g t s = .stuck) (hps : ∀ i t, ((T i).slots t).length = ps.length := by intro _ _; rfl) :
    FnOk P w K mg base CX k f fd ps (spec T L rt xt g) := by
  have no : ∀ vs H Q E, ¬ spec T L rt xt g vs H Q E := fun vs H Q E ⟨i, I, F, t, s, _, _, q⟩ => by
    rw [h] at q
    exact q
  exact ⟨fun vs H Q E q => (no _ _ _ _ q).elim, fun A outer s H args us vs Q E _ _ _ _ q => (no _ _ _ _ q).elim⟩
section
variable {X : Cx} {N : List Str} {sc scope : Scope} {own : Str → Bool} {α β γ γ' δ ε ρ ν ν' τ ι : Type} {A : Ty α} {B : Ty β} {C : Ty δ} {T : Tys τ} {e a b c tg iter elt : Expr} {es rest ifs : List Expr} {ss b1 b2 : List Stmt} {x y : Str} {pos p apos : Pos} {Γ Γ' gx : List Slot} {L : γ → List Rg} {s : γ} {xt : XT ε} {L0 L1 : List Rg}
  {gn : ν → List Slot} {ln : ν → List Rg} {gj : ν' → List Slot} {lj : ν' → List Rg} {rt : RT ρ} {q : Addr} {xs : List α}
theorem sf_stuck : SF X ss Γ L0 gn ln rt xt gx (.stuck : Out ε ρ ν) := fun I σ F H D fr th => th.elim
theorem sf_lt {δ : Type} (S : δ → Out ε ρ ν → Prop) (d : δ) {k : δ → Out ε ρ ν} (h : ∀ d, S d (k d)) : S d (Out.lt d k) := h d
/-- an item of a tuple of written types -/
theorem ep_ixTup {t : τ} {d : α} {i : Int} {k2 p2} (h : EP X a Γ L0 (tTup T) t) (j : Nat) (hj : (T.slots t)[j]? = some (.dat A d) := by rfl) (hi : i = (j : Int) := by rfl) (hs : PlainIx (.Constant (.int i) k2 p2) := by exact fun _ _ => rfl) : EP X (.Subscript a (.Constant (.int i) k2 p2) pos) Γ L0 A d := fun I σ F H Q fr th => by
  refine PE_to (pe_ix ix_tup pe_w pe_int hs) ?_
  refine h.run fr fun I1 v H1 e1 fr1 rv => ?_
  obtain ⟨q, vs, rfl, hq, hT⟩ := rv
  obtain ⟨w, hw, rw⟩ := T.ok hT j _ hj
  refine ⟨q, vs, i, w, rfl, rfl, .of (fr1.sep.same _ _ hq), ?_, th I1 w H1 e1 fr1 rw⟩
  subst hi
  have hlt : j < vs.length := by
    by_cases hh : j < vs.length
    · exact hh
    · rw [List.getElem?_eq_none (by omega)] at hw
      cases hw
  unfold atI ixN
  rw [if_pos (by omega), if_pos (by omega)]
  exact hw
theorem ef_ixTup {f : τ → α} {i : Int} {k2 p2} {m : Res ε (τ × γ)} (h : EF X a Γ L s (tTup T) xt m) (j : Nat) (hj : ∀ t, (T.slots t)[j]? = some (.dat A (f t)) := by intro _; rfl) (hi : i = (j : Int) := by rfl) (hs : PlainIx (.Constant (.int i) k2 p2) := by exact fun _ _ => rfl) : EF X (.Subscript a (.Constant (.int i) k2 p2) pos) Γ L s A xt (m.bnd fun x s => Res.val (f x, s)) := fun I σ F H Q fr th => by
  refine PE_to (pe_ix ix_tup pe_w pe_int hs) ?_
  refine Then.bnd h fr th fun I1 v H1 d s1 e1 fr1 rv th1 => ?_
  obtain ⟨q, vs, rfl, hq, hT⟩ := rv
  obtain ⟨w, hw, rw⟩ := T.ok hT j _ (hj d)
  refine ⟨q, vs, i, w, rfl, rfl, .of (fr1.sep.same _ _ hq), ?_, th1 I1 w H1 (Same.refl _) fr1 rw⟩
  subst hi
  have hlt : j < vs.length := by
    by_cases hh : j < vs.length
    · exact hh
    · rw [List.getElem?_eq_none (by omega)] at hw
      cases hw
  unfold atI ixN
  rw [if_pos (by omega), if_pos (by omega)]
  exact hw
theorem tf_grd {P : Prop} [Decidable P] {d : Bool} (h : P → TP' X e Γ (L s) d) : TF X e Γ L s xt (Res.grd P (d, s)) := fun I σ F H Q fr th => by
  obtain ⟨h1, h2⟩ := ThenT.grd th
  exact h h1 I σ F H Q fr fun I' H' e1 f1 => h2 I' H' e1 f1
theorem en_lstP {t : List α} (h : AP' X es Γ (L s) (Tys.lst A) t) (hz : t.length ≤ 1000) : EN X (.List es pos) Γ L s (cLst A) xt (.val (t, s)) := fun I σ F H Q fr th => by
  refine PE_to (pe_lst pa_w) ?_
  refine h I σ F H _ fr fun I1 vs H1 e1 fr1 rv => ?_
  refine ⟨by rw [paired_len rv]; exact Nat.le_trans hz (by decide), fun q hq => ?_⟩
  exact th _ _ _ e1 ⟨fr1.sep.new hq ⟨vs, rfl, rv⟩, fr1.len, fr1.sl⟩
/-! in a list, a tuple of scalars -/
theorem inV_int (i : Int) : ∀ xs : List Int, inV (.int i) (xs.map V.int) = decide (i ∈ xs)
  | [] => rfl
  | x :: xs => by
    have h := inV_int i xs
    unfold inV at h ⊢
    rw [List.map_cons, List.any_cons, h]
    show (decide _ || _) = _ <;> first
      | (by_cases e : i = x
         · subst e; simp [eqV]
         · simp [eqV, e, Ne.symm e])
theorem inV_tx (i : Tx) : ∀ xs : List Tx, inV (.str ⟨i.toArray⟩) ((xs.map fun t => (⟨t.toArray⟩ : Str)).map V.str) = decide (i ∈ xs)
  | [] => rfl
  | x :: xs => by
    have h := inV_tx i xs
    unfold inV at h ⊢
    rw [List.map_cons, List.map_cons, List.any_cons, h]
    by_cases e : i = x
    · subst e; simp [eqV]
    · have e2 : ¬ x = i := fun z => e z.symm
      simp [eqV, e, e2]
theorem flat_int (xs : List Int) : (xs.map V.int).all flatV = true := by simp [flatV]
theorem flat_tx (xs : List Tx) : ((xs.map fun t => (⟨t.toArray⟩ : Str)).map V.str).all flatV = true := by simp [flatV]
theorem inV_bl (i : Bool) : ∀ xs : List Bool, inV (.bl i) (xs.map V.bl) = decide (i ∈ xs)
  | [] => rfl
  | x :: xs => by
    have h := inV_bl i xs
    unfold inV at h ⊢
    rw [List.map_cons, List.any_cons, h]
    cases i <;> cases x <;> simp [eqV]
theorem flat_bl (xs : List Bool) : (xs.map V.bl).all flatV = true := by simp [flatV]
theorem d_inBL {K : PySem.W.Frag} : D2 (rIn K false) tBool (tLst tBool) tBool (fun _ _ => True) (fun i xs => decide (i ∈ xs)) := fun I L H v w i xs Q se rv rw _ k => by
  cases rv
  obtain ⟨p, vs, rfl, h2, h3⟩ := rw
  have e := paired_bool h3
  subst e
  exact ⟨p, _, rfl, .inl (.of (se.same _ _ h2)), rfl, flat_bl xs, k I _ H (Same.refl _) se (by show V.bl _ = V.bl _; rw [inV_bl]; rfl)⟩
theorem d_ninBL {K : PySem.W.Frag} : D2 (rIn K true) tBool (tLst tBool) tBool (fun _ _ => True) (fun i xs => !decide (i ∈ xs)) := fun I L H v w i xs Q se rv rw _ k => by
  cases rv
  obtain ⟨p, vs, rfl, h2, h3⟩ := rw
  have e := paired_bool h3
  subst e
  exact ⟨p, _, rfl, .inl (.of (se.same _ _ h2)), rfl, flat_bl xs, k I _ H (Same.refl _) se (by show V.bl _ = V.bl _; rw [inV_bl]; rfl)⟩
theorem d_inIL {K : PySem.W.Frag} : D2 (rIn K false) tInt (tLst tInt) tBool (fun _ _ => True) (fun i xs => decide (i ∈ xs)) := fun I L H v w i xs Q se rv rw _ k => by
  cases rv
  obtain ⟨p, vs, rfl, h2, h3⟩ := rw
  have e := paired_int h3
  subst e
  exact ⟨p, _, rfl, .inl (.of (se.same _ _ h2)), rfl, flat_int xs, k I _ H (Same.refl _) se (by show V.bl _ = V.bl _; rw [inV_int]; rfl)⟩
theorem d_ninIL {K : PySem.W.Frag} : D2 (rIn K true) tInt (tLst tInt) tBool (fun _ _ => True) (fun i xs => !decide (i ∈ xs)) := fun I L H v w i xs Q se rv rw _ k => by
  cases rv
  obtain ⟨p, vs, rfl, h2, h3⟩ := rw
  have e := paired_int h3
  subst e
  exact ⟨p, _, rfl, .inl (.of (se.same _ _ h2)), rfl, flat_int xs, k I _ H (Same.refl _) se (by show V.bl _ = V.bl _; rw [inV_int]; rfl)⟩
theorem d_inIU {K : PySem.W.Frag} : D2 (rIn K false) tInt (tTuL tInt) tBool (fun _ _ => True) (fun i xs => decide (i ∈ xs)) := fun I L H v w i xs Q se rv rw _ k => by
  cases rv
  obtain ⟨p, vs, rfl, h2, h3⟩ := rw
  have e := paired_int h3
  subst e
  exact ⟨p, _, rfl, .inr (.of (se.same _ _ h2)), rfl, flat_int xs, k I _ H (Same.refl _) se (by show V.bl _ = V.bl _; rw [inV_int]; rfl)⟩
theorem d_ninIU {K : PySem.W.Frag} : D2 (rIn K true) tInt (tTuL tInt) tBool (fun _ _ => True) (fun i xs => !decide (i ∈ xs)) := fun I L H v w i xs Q se rv rw _ k => by
  cases rv
  obtain ⟨p, vs, rfl, h2, h3⟩ := rw
  have e := paired_int h3
  subst e
  exact ⟨p, _, rfl, .inr (.of (se.same _ _ h2)), rfl, flat_int xs, k I _ H (Same.refl _) se (by show V.bl _ = V.bl _; rw [inV_int]; rfl)⟩
theorem d_inIQ {K : PySem.W.Frag} : D2 (rIn K false) tInt (tSeq K tInt) tBool (fun _ _ => True) (fun i xs => decide (i ∈ xs)) := fun I L H v w i xs Q se rv rw _ k => by
  cases rv
  obtain ⟨p, vs, rfl, h2, h3⟩ := rw
  have e := paired_int h3
  subst e
  exact ⟨p, _, rfl, .inl (Same.sql se.same h2), rfl, flat_int xs, k I _ H (Same.refl _) se (by show V.bl _ = V.bl _; rw [inV_int]; rfl)⟩
theorem d_ninIQ {K : PySem.W.Frag} : D2 (rIn K true) tInt (tSeq K tInt) tBool (fun _ _ => True) (fun i xs => !decide (i ∈ xs)) := fun I L H v w i xs Q se rv rw _ k => by
  cases rv
  obtain ⟨p, vs, rfl, h2, h3⟩ := rw
  have e := paired_int h3
  subst e
  exact ⟨p, _, rfl, .inl (Same.sql se.same h2), rfl, flat_int xs, k I _ H (Same.refl _) se (by show V.bl _ = V.bl _; rw [inV_int]; rfl)⟩
theorem d_inTL {K : PySem.W.Frag} : D2 (rIn K false) tTx (tLst tTx) tBool (fun _ _ => True) (fun i xs => decide (i ∈ xs)) := fun I L H v w i xs Q se rv rw _ k => by
  cases rv
  obtain ⟨p, vs, rfl, h2, h3⟩ := rw
  have e := paired_tx h3
  subst e
  exact ⟨p, _, rfl, .inl (.of (se.same _ _ h2)), rfl, flat_tx xs, k I _ H (Same.refl _) se (by show V.bl _ = V.bl _; rw [inV_tx]; rfl)⟩
theorem d_ninTL {K : PySem.W.Frag} : D2 (rIn K true) tTx (tLst tTx) tBool (fun _ _ => True) (fun i xs => !decide (i ∈ xs)) := fun I L H v w i xs Q se rv rw _ k => by
  cases rv
  obtain ⟨p, vs, rfl, h2, h3⟩ := rw
  have e := paired_tx h3
  subst e
  exact ⟨p, _, rfl, .inl (.of (se.same _ _ h2)), rfl, flat_tx xs, k I _ H (Same.refl _) se (by show V.bl _ = V.bl _; rw [inV_tx]; rfl)⟩
theorem d_inTU {K : PySem.W.Frag} : D2 (rIn K false) tTx (tTuL tTx) tBool (fun _ _ => True) (fun i xs => decide (i ∈ xs)) := fun I L H v w i xs Q se rv rw _ k => by
  cases rv
  obtain ⟨p, vs, rfl, h2, h3⟩ := rw
  have e := paired_tx h3
  subst e
  exact ⟨p, _, rfl, .inr (.of (se.same _ _ h2)), rfl, flat_tx xs, k I _ H (Same.refl _) se (by show V.bl _ = V.bl _; rw [inV_tx]; rfl)⟩
theorem d_ninTU {K : PySem.W.Frag} : D2 (rIn K true) tTx (tTuL tTx) tBool (fun _ _ => True) (fun i xs => !decide (i ∈ xs)) := fun I L H v w i xs Q se rv rw _ k => by
  cases rv
  obtain ⟨p, vs, rfl, h2, h3⟩ := rw
  have e := paired_tx h3
  subst e
  exact ⟨p, _, rfl, .inr (.of (se.same _ _ h2)), rfl, flat_tx xs, k I _ H (Same.refl _) se (by show V.bl _ = V.bl _; rw [inV_tx]; rfl)⟩
theorem d_inTQ {K : PySem.W.Frag} : D2 (rIn K false) tTx (tSeq K tTx) tBool (fun _ _ => True) (fun i xs => decide (i ∈ xs)) := fun I L H v w i xs Q se rv rw _ k => by
  cases rv
  obtain ⟨p, vs, rfl, h2, h3⟩ := rw
  have e := paired_tx h3
  subst e
  exact ⟨p, _, rfl, .inl (Same.sql se.same h2), rfl, flat_tx xs, k I _ H (Same.refl _) se (by show V.bl _ = V.bl _; rw [inV_tx]; rfl)⟩
theorem d_ninTQ {K : PySem.W.Frag} : D2 (rIn K true) tTx (tSeq K tTx) tBool (fun _ _ => True) (fun i xs => !decide (i ∈ xs)) := fun I L H v w i xs Q se rv rw _ k => by
  cases rv
  obtain ⟨p, vs, rfl, h2, h3⟩ := rw
  have e := paired_tx h3
  subst e
  exact ⟨p, _, rfl, .inl (Same.sql se.same h2), rfl, flat_tx xs, k I _ H (Same.refl _) se (by show V.bl _ = V.bl _; rw [inV_tx]; rfl)⟩
/-! own lists, further -/
theorem ep_tupO (cx : Cxt X N sc own) (hm : X.mg "tuple" = none) (ha : EP X a Γ L0 (tCell q) ()) (hL : Has L0 q (cLst A xs)) (hg : glB sc "tuple" = true := by decide +kernel) (hs : starEach [a] X.env = (false, eval a X.env) :: starEach [] X.env := by exact star_c rfl) : EP X (.Call (.Name "tuple" p) [a] [] pos) Γ L0 (tTuL A) xs := fun I σ F H Q fr th => by
  obtain ⟨h1, h2, h3⟩ := glB_gl cx hg
  refine PE_to (pe_callTy call_tuple_of h1 hm (by decide +kernel) (pa_cons pe_w pa_nil hs) h3 h2 hs rfl) ?_
  refine ha.run fr fun I1 v H1 e1 fr1 rv => ?_
  cases rv
  obtain ⟨o, ho, ⟨vs, rfl, hv⟩, _⟩ := hL.get fr1.sep
  refine ⟨q, vs, rfl, .inl ⟨.of ho, fun l hl => ?_⟩⟩
  exact th (upd I1 l (.tup vs)) _ _ (e1.trans (Same.upd (fr1.sep.same.free hl))) (fr1.step (Same.upd (fr1.sep.same.free hl)) (fr1.sep.imm hl)) ⟨l, vs, rfl, upd_same, paired_mono (Same.upd (fr1.sep.same.free hl)) hv⟩
theorem ep_listO (cx : Cxt X N sc own) (hm : X.mg "list" = none) (ha : EP X a Γ L0 (tCell q) ()) (hL : Has L0 q (cLst A xs)) (hg : glB sc "list" = true := by decide +kernel) (hs : starEach [a] X.env = (false, eval a X.env) :: starEach [] X.env := by exact star_c rfl) : EP X (.Call (.Name "list" p) [a] [] pos) Γ L0 (tLst A) xs := fun I σ F H Q fr th => by
  obtain ⟨h1, h2, h3⟩ := glB_gl cx hg
  refine PE_to (pe_callTy call_list_of h1 hm (by decide +kernel) (pa_cons pe_w pa_nil hs) h3 h2 hs rfl) ?_
  refine ha.run fr fun I1 v H1 e1 fr1 rv => ?_
  cases rv
  obtain ⟨o, ho, ⟨vs, rfl, hv⟩, _⟩ := hL.get fr1.sep
  refine ⟨q, vs, rfl, .inl (.of ho), fun l hl => ?_⟩
  exact th (upd I1 l (.lst vs)) _ _ (e1.trans (Same.upd (fr1.sep.same.free hl))) (fr1.step (Same.upd (fr1.sep.same.free hl)) (fr1.sep.imm hl)) ⟨l, vs, rfl, upd_same, paired_mono (Same.upd (fr1.sep.same.free hl)) hv⟩
/-! a comprehension's targets -/
def GFB (X : Cx) (scope : Scope) (tg : Expr) {β : Type} (B : Ty β) (up : List Slot → β → List Slot) (vs : List Nat) : Prop :=
  ∃ g : TG, (∀ (s : Shared) (H : Hp) (C : Addr) (cl : List (Str × Addr)) (fp : List Addr), PG (blkX X scope s H C cl fp) tg g) ∧ ∀ (I : Hp) (σ : St) (Γ : List Slot) (L : List Rg) (H : Hp) (v : V) (d : β) (Q : St → Hp → Prop), FrOk I σ Γ L H → B.rep I v d →
      (∀ I' σ' H', Same I I' → FrOk I' σ' (up Γ d) L H' → σ'.length = σ.length → (∀ j, j ∉ vs → σ'[j]? = σ[j]?) → Q σ' H') → g v σ H Q
theorem gfb_name (cx : Cxt X N sc own) (i : Nat) (hi : N[i]? = some x := by rfl) (ho : ownB scope sc x = true := by decide +kernel) : GFB X scope (.Name x pos) B (fun Γ d => Γ.set i (.dat B d)) [i] := by
  refine ⟨gName i, fun s H C cl fp => ?_, fun I σ Γ L H v d Q fr r k => ?_⟩
  · have cb := cxt_blk (scope := scope) cx s H C cl fp
    obtain ⟨h1, h2⟩ := cb.st x ho
    exact pg_name (by rw [cb.hN]; exact cb.nd) (by rw [cb.hN]; exact hi) h1 h2
  · exact k I _ H (Same.refl _) (fr.set r i) (List.length_set ..) fun j hj => by
      rw [List.getElem?_set_ne]
      intro z
      exact hj (by rw [z]; exact List.mem_cons_self)
def GFBs (X : Cx) (scope : Scope) (tgs : List Expr) {τ : Type} (T : Tys τ) (up : List Slot → τ → List Slot) (vs : List Nat) : Prop :=
  ∃ g : TGs, (∀ (s : Shared) (H : Hp) (C : Addr) (cl : List (Str × Addr)) (fp : List Addr), PGs (blkX X scope s H C cl fp) tgs g) ∧ ∀ (I : Hp) (σ : St) (Γ : List Slot) (L : List Rg) (H : Hp) (ws : List V) (d : τ) (Q : St → Hp → Prop), FrOk I σ Γ L H → T.rep I ws d →
      (∀ I' σ' H', Same I I' → FrOk I' σ' (up Γ d) L H' → σ'.length = σ.length → (∀ j, j ∉ vs → σ'[j]? = σ[j]?) → Q σ' H') → g ws σ H Q
theorem gfbs_nil : GFBs X scope [] Tys.nil (fun Γ _ => Γ) [] := ⟨gNil, fun _ _ _ _ _ => pgs_nil, fun I σ Γ L H ws d Q fr r k => ⟨r, k I σ H (Same.refl _) fr rfl fun _ _ => rfl⟩⟩
theorem gfbs_cons {u2 : List Slot → τ → List Slot} {v2 : List Nat} (cx : Cxt X N sc own) (i : Nat) (h2 : GFBs X scope es T u2 v2) (hi : N[i]? = some x := by rfl) (ho : ownB scope sc x = true := by decide +kernel)
    (hh : ∀ (s : Shared) (H : Hp) (C : Addr) (cl : List (Str × Addr)) (fp : List Addr), List.map (fun x => x.snd) (assignEach (.Name x pos :: es) (blkX X scope s H C cl fp).env) = assign (.Name x pos) (blkX X scope s H C cl fp).env :: List.map (fun x => x.snd) (assignEach es (blkX X scope s H C cl fp).env) := by intros; rfl) :
    GFBs X scope (.Name x pos :: es) (Tys.cons A T) (fun Γ d => u2 (Γ.set i (.dat A d.1)) d.2) (i :: v2) := by
  obtain ⟨g2, p2, q2⟩ := h2
  refine ⟨gCons (gName i) g2, fun s H C cl fp => ?_, fun I σ Γ L H ws d Q fr r k => ?_⟩
  · have cb := cxt_blk (scope := scope) cx s H C cl fp
    obtain ⟨h1, h2⟩ := cb.st x ho
    exact pgs_cons (pg_name (by rw [cb.hN]; exact cb.nd) (by rw [cb.hN]; exact hi) h1 h2) (p2 s H C cl fp) (hh s H C cl fp)
  · obtain ⟨w, wr, rfl, ra, rb⟩ := r
    refine ⟨w, wr, rfl, ?_⟩
    refine q2 I (σ.set i (some w)) _ L H wr d.2 _ (fr.set ra i) rb fun I2 σ2 H2 e2 fr2 l2 k2 => ?_
    refine k I2 σ2 H2 e2 fr2 (l2.trans (List.length_set ..)) fun j hj => (k2 j fun z => hj (List.mem_cons_of_mem _ z)).trans ?_
    rw [List.getElem?_set_ne]
    intro z
    exact hj (by rw [z]; exact List.mem_cons_self)
theorem gfb_tup {u : List Slot → τ → List Slot} {vs : List Nat} {k n : Nat} (cc : Calm X) (h : GFBs X scope es T u vs) 
    (hn : ∀ (s : Shared) (H : Hp) (C : Addr) (cl : List (Str × Addr)) (fp : List Addr), (assignEach es (blkX X scope s H C cl fp).env).length = n := by intros; rfl) (hst : ∀ (s : Shared) (H : Hp) (C : Addr) (cl : List (Str × Addr)) (fp : List Addr), (assignEach es (blkX X scope s H C cl fp).env).findIdx? (·.1) = none := by intros; rfl) (hT : ∀ t, (T.slots t).length = n := by intro _; rfl) :
    GFB X scope (.Tuple es k pos) (tTup T) u vs := by
  obtain ⟨g, pg, q⟩ := h
  refine ⟨gTup X.K n g, fun s H C cl fp => ?_, fun I σ Γ L H v d Q fr r kk => ?_⟩
  · exact pg_tup (X := blkX X scope s H C cl fp) cc.calm (pg s H C cl fp) (hn s H C cl fp) (hst s H C cl fp)
  · obtain ⟨a, ws, rfl, h1, h2⟩ := r
    exact ⟨a, ws, rfl, .of (fr.sep.same _ _ h1), by rw [T.len h2, hT], q I σ Γ L H ws d Q fr h2 kk⟩
/-! joining texts -/
def joinT (t : Tx) (ys : List Tx) : Tx := TL.joinL t ys
def joinOk (t : Tx) (ys : List Tx) : Prop := (ys.map List.length).sum + ys.length * t.length ≤ 16777216
instance {t : Tx} {ys : List Tx} : Decidable (joinOk t ys) := by unfold joinOk; infer_instance
theorem join_run {I H : Hp} {L : List Rg} {t : Tx} {ys : List Tx} {w : V} {Q : VK} (se : Sep I L H) (rw : (tLst tTx).rep I w ys) (hp : joinOk t ys) (k : Q (.str ⟨(joinT t ys).toArray⟩) H) {K : PySem.W.Frag} :
    ∃ a p, ∃ zs : List Str, V.str ⟨t.toArray⟩ = .str a ∧ [w] = [.ref p] ∧ (SqL K H p (zs.map V.str) ∨ SqT K H p (zs.map V.str)) ∧ (zs.map (·.length)).sum + zs.length * a.length ≤ 16777216 ∧ Q (.str (Txt.join a zs)) H := by
  obtain ⟨p, vs, rfl, h1, h2⟩ := rw
  have e := paired_tx h2
  subst e
  refine ⟨_, p, _, rfl, rfl, .inl (.of (se.same _ _ h1)), ?_, ?_⟩
  · have e1 : (ys.map fun t => (⟨t.toArray⟩ : Str)).map (·.length) = ys.map List.length := by
      rw [List.map_map]
      exact List.map_congr_left fun t _ => by show t.toArray.size = _; simp
    rw [e1, List.length_map]
    unfold joinOk at hp
    show _ + _ * t.toArray.size ≤ _
    simpa using hp
  · have e2 : Txt.join (⟨t.toArray⟩ : Str) (ys.map fun t => (⟨t.toArray⟩ : Str)) = ⟨(TL.joinL t ys).toArray⟩ := SX.join_S t ys
    rw [e2]
    exact k
theorem ef_joinP {o : Expr} {t : Tx} {ys : List Tx} (ha : EP X o Γ (L s) tTx t) (hb : EP X e Γ (L s) (tLst tTx) ys) (hs : starEach [e] X.env = [(false, eval e X.env)] := by exact star_c rfl) (hbase : attributeBase o "join" X.env (eval o X.env) = eval o X.env := by rfl) (hline : (apos.endLine == pos.line) = true := by rfl) :
    EF X (.Call (.Attribute o "join" apos) [e] [] pos) Γ L s tTx xt (Res.grd (joinOk t ys) (joinT t ys, s)) := fun I σ F H Q fr th => by
  obtain ⟨hp, th3⟩ := Then.grd th
  refine PE_to (pe_join pe_w pe_w hs hbase hline) ?_
  refine ha.run fr fun I1 v H1 e1 fr1 rv => ⟨⟨_, rv⟩, ?_⟩
  refine hb.run fr1 fun I2 w H2 e2 fr2 rw => ?_
  cases rv
  exact join_run fr2.sep rw hp (th3 I2 _ H2 (e1.trans e2) fr2 rfl)
theorem ef_join {o : Expr} {t : Tx} {m : Res ε (List Tx × γ)} (ha : EP X o Γ (L s) tTx t) (hb : EF X e Γ L s (tLst tTx) xt m) (hs : starEach [e] X.env = [(false, eval e X.env)] := by exact star_c rfl) (hbase : attributeBase o "join" X.env (eval o X.env) = eval o X.env := by rfl) (hline : (apos.endLine == pos.line) = true := by rfl) :
    EF X (.Call (.Attribute o "join" apos) [e] [] pos) Γ L s tTx xt (m.bnd fun y s => Res.grd (joinOk t y) (joinT t y, s)) := fun I σ F H Q fr th => by
  refine PE_to (pe_join pe_w pe_w hs hbase hline) ?_
  refine ha.run fr fun I1 v H1 e1 fr1 rv => ⟨⟨_, rv⟩, ?_⟩
  refine Then.bnd hb fr1 (then_up e1 th) fun I2 w H2 d2 s2 e2 fr2 rw th2 => ?_
  obtain ⟨hp, th3⟩ := Then.grd th2
  cases rv
  exact join_run fr2.sep rw hp (th3 I2 _ H2 (Same.refl _) fr2 rfl)
end
end Fw


/-! ## 22. enumerate of a text, of a tuple -/
namespace PySem
open Builtin
theorem meets_enumerate_new1 {v : Value} {o : Obj} {H : Heap → Prop} (B : Begins v o H) :
    Meets (Builtin.«enumerate.__new__» ⟨[.type "enumerate", v], []⟩) (fun _ R s => H s.heap ∧
      R (.ok (.ret (.ref (s.heap.push o).objs.size))) { s with heap := (s.heap.push o).push { cls := .type "enumerate", data := .fields #[.none, .bool false, .ref s.heap.objs.size, rawInt 0, .none, .none] } }) :=
  .of_wp fun prog w A R s h => by
    obtain ⟨hp, g, d, tk, os⟩ := s; obtain ⟨h1, h⟩ := h
    have hsub := sub_enumerate
    have q1 : ∀ {A' : Around} {E : Value → Shared → Prop} {Q : Value → Shared → Prop}, Q (.ref hp.objs.size) ⟨hp.push o, g, d, tk, os⟩ → wpAny (model prog w) A' (pyIter v) Q E ⟨hp, g, d, tk, os⟩ :=
      fun q => B.iter prog w _ _ ⟨hp, g, d, tk, os⟩ _ h1 q
    wp_walk using q1
    refine wpAny_stack_any fun st => wpAny_pure ?_
    split
    · rename_i c _ _ _ _ _
      cases (c == Value.type "enumerate")
      · wp_walk using q1
        exact ⟨_, rfl, h⟩
      · wp_walk using q1
        exact ⟨_, rfl, h⟩
    · wp_walk using q1
      exact ⟨_, rfl, h⟩
section
variable {prog : Program} {w : World} {A : Around} {E : Value → Shared → Prop} {s : Shared}
theorem enum_begins1 {v : Value} {o : Obj} {H : Heap → Prop} {Q : Value → Shared → Prop} (B : Begins v o H) (h1 : H s.heap)
    (h : ∀ h', IsEnum h' (s.heap.objs.size + 1) s.heap.objs.size 0 .none → h'.get? s.heap.objs.size = some o → h'.objs.size = s.heap.objs.size + 2 →
      (∀ b o, s.heap.get? b = some o → h'.get? b = some o) → Q (.ref (s.heap.objs.size + 1)) { s with heap := h' }) :
    wpAny (model prog w) A (call (.type "enumerate") [v]) Q E s := by
  refine callType_new F.called_enumerate (by decide) (F.typeCall_enumerate_1 _) (F.newCall_enumerate_1 _) (fun obj => F.args_object_init_2 obj _) F.entry_enumerate_new
    (meets_enumerate_new1 B) ⟨h1, ?_⟩
  have hz : (s.heap.push o).objs.size = s.heap.objs.size + 1 := Heap.size_push ..
  show _ ∧ _
  rw [hz]
  have he : IsEnum ((s.heap.push o).push { cls := .type "enumerate", data := .fields #[.none, .bool false, .ref s.heap.objs.size, rawInt 0, .none, .none] }) (s.heap.objs.size + 1) s.heap.objs.size 0 .none := by
    have := Heap.get?_push_size (s.heap.push o) (o := { cls := .type "enumerate", data := .fields #[.none, .bool false, .ref s.heap.objs.size, rawInt 0, .none, .none] }) rfl
    rw [hz] at this; exact this
  refine ⟨⟨_, he, rfl⟩, h _ he (Heap.get?_push_of_some _ (Heap.get?_push_size _ B.free)) (by rw [Heap.size_push, hz]) fun b o x => Heap.get?_push_of_some _ (Heap.get?_push_of_some _ x)⟩
end
end PySem
namespace L2
open PySem PySem.Spec PyProof.Rows
/-- the signs of a text, each in a new pair -/
def IteS (x : Str) : It := ⟨fun i _ => i < x.cps.size, fun i H v H' => ∃ T c, v = .ref T ∧ H T = none ∧ H' = upd H T (.tup [.int (i : Nat), .str ⟨#[c]⟩]) ∧ x.cps[i]? = some c, fun i _ => i = x.cps.size⟩
theorem turn_enumS {P : Program} {w : World} {K : PySem.W.Frag} {elts : List Expr} {kk : Nat} {tpos : Pos} (e it : Addr) (x : Str) (t : Tok) :
    Turn P w K (.Tuple elts kk tpos) (IteS x) [e, it] e (fun i h => (∃ old, IsEnum h e it ((i : Nat) : Int) old) ∧ h.IsStrIter it (strIterType x) x t i ∧ e ≠ it) where
  mem := by simp
  obj := fun i h st b hb => by
    obtain ⟨⟨old, he⟩, ⟨o, ho, hc, hd⟩, _⟩ := st
    have e' : b = e ∨ b = it := by simpa using hb
    rcases e' with z | z
    · rw [z]; exact ⟨_, he, fun v q => nomatch q⟩
    · rw [z]; exact ⟨o, ho, fun v q => by rw [hd] at q; cases q⟩
  keep := fun i h h' st k => let ⟨⟨old, he⟩, ⟨o, ho, r⟩, hne⟩ := st; ⟨⟨old, k e (by simp) _ he⟩, ⟨o, k it (by simp) o ho, r⟩, hne⟩
  item := by
    intro X hP hw hK hc i pins s σ H E I hf st hg
    subst hP hw hK
    obtain ⟨⟨old, he⟩, hit, hne⟩ := st
    have hel : e < s.heap.objs.size := Heap.lt_size he
    have hil : it < s.heap.objs.size := by obtain ⟨_, q, _⟩ := hit; exact Heap.lt_size q
    have D : Draws X.prog X.w X.A.in1 it [it] x.cps.size (fun i v => ∃ c u, x.cps[i]? = some c ∧ v = .str ⟨#[c]⟩ u) (fun i h => h.IsStrIter it (strIterType x) x t i) := Draws.text (A := X.A.in1) (I.ok.hd hc) it x t
    refine wpAny_pyNext_enum_itemD D he hit hg hne (by simpa using hne) fun y h' tk hy ho hit' hT hsz hk => ?_
    obtain ⟨c, u, hcx, rfl⟩ := hy
    refine ⟨_, rfl, wpAny_letOwnedTupleGo_enum (s := { s with heap := h', toks := tk + 1 }) ho fun h'' he' sb => ?_⟩
    have hT2 : h''.get? s.heap.objs.size = some { cls := .type "tuple", data := .seq #[.int i tk, .str ⟨#[c]⟩ u] } := (sb.2 _ (Nat.ne_of_gt hel)).trans hT
    have new : ObjOk X.prog X.w (upd H s.heap.objs.size (.tup [.int (i : Nat), .str ⟨#[c]⟩])) h'' s.heap.objs.size (.tup [.int (i : Nat), .str ⟨#[c]⟩]) :=
      ⟨by show 2 ≤ sizeLine; decide, [.int i tk, .str ⟨#[c]⟩ u], .cons ⟨_, rfl⟩ (.cons ⟨_, rfl⟩ .nil), ⟨_, hT2, rfl, _, rfl⟩⟩
    have I1 : Inv X pins σ (upd H s.heap.objs.size (.tup [.int (i : Nat), .str ⟨#[c]⟩])) { s with heap := h'', toks := tk + 1 } :=
      I.turnedNew (ch := [e, it]) (fun b ob hb q => (sb.2 b (fun z => hb (by simp [z]))).trans (hk b ob (fun z => hb (by simp [z])) (fun z => hb (by simp [z])) q)) hf (Nat.le_refl _) new
    refine ⟨.ref s.heap.objs.size, _, I1, rfl, ⟨_, c, rfl, I.hok.fresh (Nat.le_refl _), rfl, hcx⟩, ⟨⟨.str ⟨#[c]⟩ u, ?_⟩, ?_, hne⟩, fun b hb => ?_⟩
    · have e1 : ((i + 1 : Nat) : Int) = (i : Int) + 1 := by omega
      rw [e1]; exact he'
    · obtain ⟨o, ho', r⟩ := hit'
      exact ⟨o, (sb.2 it (Ne.symm hne)).trans ho', r⟩
    · have hb' : b < s.heap.objs.size := by
        have e' : b = e ∨ b = it := by simpa using hb
        rcases e' with z | z
        · rw [z]; exact hel
        · rw [z]; exact hil
      rw [upd_ne (Nat.ne_of_lt hb')]
      exact (hf b hb).1
  done := by
    intro X hP hw hK hc i pins s σ H E I hf st hg
    subst hP hw hK
    obtain ⟨⟨old, he⟩, hit, hne⟩ := st
    have hg : i = x.cps.size := hg
    subst hg
    obtain ⟨f0, f1, f2, f3, f4, f5⟩ := hf it (by simp)
    exact wpAny_pyNext_enum_endD (Draws.text (A := X.A.in1) (I.ok.hd hc) it x t) he hit fun h' eb => ⟨rfl, I.turned (t' := s.toks) (fun b o hb q => eb b o hb q) f0 f1 f3 f4 f5⟩
  self := fun A i s Q E st h => let ⟨⟨_, he⟩, _⟩ := st; wpAny_pyIter_enum he h
def iEnumS (ta : TA) : TI := fun σ H R => ta σ H fun vs H1 => ∃ x, vs = [.str x] ∧ R (IteS x) H1
theorem pi_enumS {X : Cx} {e : Expr} {ta : TA} {p pos tpos : Pos} {elts : List Expr} {kk : Nat} (hg : Gl X "enumerate") (hm : X.mg "enumerate" = none) (ha : PA X [e] ta) (hs : starEach [e] X.env = [(false, eval e X.env)] := by exact star_c rfl) :
    PI X (.Tuple elts kk tpos) (.Call (.Name "enumerate" p) [e] [] pos) (iEnumS ta) := by
  refine ⟨fun pins s σ H R I h => ?_⟩
  refine Call_ (ld_blt I hg hm boot_enumerate (PyProof.Rows.callWith_type1 (thn (ha.run pos pins s σ H _ I h) fun us s1 ⟨vs, H1, I1, r1, q1⟩ => ?_) hs rfl))
  obtain ⟨x, ex, q⟩ := q1
  subst ex
  cases r1 with
  | cons r rr =>
    cases rr
    obtain ⟨t, rfl⟩ := r
    refine call_enumerate_str fun h' he hit hsz hk => wpAny_pyIter_enum he ?_
    have I2 : Inv X pins σ H1 { s1 with heap := h' } := I1.kept (t' := s1.toks) hk
    refine ⟨s1.heap.objs.size + 1, [s1.heap.objs.size + 1, s1.heap.objs.size], _, _, H1, rfl, I2, turn_enumS (s1.heap.objs.size + 1) s1.heap.objs.size x t, ⟨⟨.none, he⟩, hit, Nat.succ_ne_self _⟩, fun b hb => ?_, q⟩
    have e' : b = s1.heap.objs.size + 1 ∨ b = s1.heap.objs.size := by simpa using hb
    have hle : s1.heap.objs.size ≤ b := by
      rcases e' with z | z
      · rw [z]; exact Nat.le_succ _
      · rw [z]; exact Nat.le_refl _
    exact I1.fpOk hle (I1.hok.fresh hle)
/-- a tuple's items, each in a new pair -/
def IteT (K : PySem.W.Frag) (a : Addr) : It :=
  ⟨fun i H => ∃ (xs : List V) (x : V), SqT K H a xs ∧ xs[i]? = some x, fun i H v H' => ∃ T x, v = .ref T ∧ H T = none ∧ H' = upd H T (.tup [.int (i : Nat), x]) ∧ ∀ xs, SqT K H a xs → xs[i]? = some x, fun i H => ∃ xs : List V, SqT K H a xs ∧ xs.length = i⟩
theorem turn_enumT {P : Program} {w : World} {K : PySem.W.Frag} {elts : List Expr} {kk : Nat} {tpos : Pos} (a e it : Addr) :
    Turn P w K (.Tuple elts kk tpos) (IteT K a) [e, it] e (fun i h => (∃ old, IsEnum h e it ((i : Nat) : Int) old) ∧ h.IsTupleIter it a i ∧ e ≠ it) where
  mem := by simp
  obj := fun i h st b hb => by
    obtain ⟨⟨old, he⟩, ⟨o, ho, hc, hd⟩, _⟩ := st
    have e' : b = e ∨ b = it := by simpa using hb
    rcases e' with z | z
    · rw [z]; exact ⟨_, he, fun v q => nomatch q⟩
    · rw [z]; exact ⟨o, ho, fun v q => by rw [hd] at q; cases q⟩
  keep := fun i h h' st k => let ⟨⟨old, he⟩, hi, hne⟩ := st; ⟨⟨old, k e (by simp) _ he⟩, hi.at fun o q => k it (by simp) o q, hne⟩
  item := by
    intro X hP hw hK hc i pins s σ H E I hf st hg
    subst hP hw hK
    obtain ⟨⟨old, he⟩, hit, hne⟩ := st
    obtain ⟨xs, x, hq, hx⟩ := hg
    obtain ⟨its, rv, p, hz⟩ := I.tuple hq
    obtain ⟨u, hu, ru⟩ := rv.get hx
    have hel : e < s.heap.objs.size := Heap.lt_size he
    have hil : it < s.heap.objs.size := by obtain ⟨_, q, _⟩ := hit; exact Heap.lt_size q
    have hai : a ≠ it := fun z => by
      obtain ⟨o1, h1, h2, _⟩ := p
      obtain ⟨o2, h3, h4, _⟩ := hit
      rw [z, h3] at h1
      cases h1
      rw [h4] at h2
      injection h2 with q
      exact absurd q (by decide)
    have hae : a ≠ e := fun z => by
      obtain ⟨o1, h1, h2, _⟩ := p
      have he : s.heap.get? e = some _ := he
      rw [z, he] at h1
      cases h1
      injection h2 with q
      exact absurd q (by decide)
    have hil2 : i < its.toArray.size := by
      have := (List.getElem?_eq_some_iff.mp hu).1
      simpa using this
    refine wpAny_pyNext_enum_itemD (Draws.tuple (A := X.A.in1) (I.ok.hd hc) it a hai its.toArray) he ⟨hit, p⟩ hil2 hne (by simp [hne, Ne.symm hae]) fun y h' tk hy ho hit' hT hsz hk => ?_
    have hyu : y = u := by
      have hy : its.toArray[i]? = some y := hy
      rw [List.getElem?_toArray, hu] at hy
      exact (Option.some.inj hy).symm
    subst hyu
    refine ⟨_, rfl, wpAny_letOwnedTupleGo_enum (s := { s with heap := h', toks := tk + 1 }) ho fun h'' he' sb => ?_⟩
    have hT2 : h''.get? s.heap.objs.size = some { cls := .type "tuple", data := .seq #[.int i tk, y] } := (sb.2 _ (Nat.ne_of_gt hel)).trans hT
    have new : ObjOk X.prog X.w (upd H s.heap.objs.size (.tup [.int (i : Nat), x])) h'' s.heap.objs.size (.tup [.int (i : Nat), x]) :=
      ⟨by show 2 ≤ sizeLine; decide, [.int i tk, y], .cons ⟨_, rfl⟩ (.cons ru .nil), ⟨_, hT2, rfl, _, rfl⟩⟩
    have I1 : Inv X pins σ (upd H s.heap.objs.size (.tup [.int (i : Nat), x])) { s with heap := h'', toks := tk + 1 } :=
      I.turnedNew (ch := [e, it]) (fun b ob hb q => (sb.2 b (fun z => hb (by simp [z]))).trans (hk b ob (fun z => hb (by simp [z])) (fun z => hb (by simp [z])) q)) hf (Nat.le_refl _) new
    refine ⟨.ref s.heap.objs.size, _, I1, rfl, ⟨_, x, rfl, I.hok.fresh (Nat.le_refl _), rfl, fun ys hy => by rw [I.tuple_inj hy hq]; exact hx⟩, ⟨⟨y, ?_⟩, hit'.1.at fun o q => (sb.2 it (Ne.symm hne)).trans q, hne⟩, fun b hb => ?_⟩
    · have e1 : ((i + 1 : Nat) : Int) = (i : Int) + 1 := by omega
      rw [e1]; exact he'
    · have hb' : b < s.heap.objs.size := by
        have e' : b = e ∨ b = it := by simpa using hb
        rcases e' with z | z
        · rw [z]; exact hel
        · rw [z]; exact hil
      rw [upd_ne (Nat.ne_of_lt hb')]
      exact (hf b hb).1
  done := by
    intro X hP hw hK hc i pins s σ H E I hf st hg
    subst hP hw hK
    obtain ⟨⟨old, he⟩, hit, hne⟩ := st
    obtain ⟨xs, hq, hx⟩ := hg
    obtain ⟨its, rv, p, hz⟩ := I.tuple hq
    obtain ⟨f0, f1, f2, f3, f4, f5⟩ := hf it (by simp)
    have hl := rv.length
    have hai : a ≠ it := fun z => by
      obtain ⟨o1, h1, h2, _⟩ := p
      obtain ⟨o2, h3, h4, _⟩ := hit
      rw [z, h3] at h1
      cases h1
      rw [h4] at h2
      injection h2 with q
      exact absurd q (by decide)
    have hsz : its.toArray.size = i := by rw [List.size_toArray]; omega
    subst hsz
    exact wpAny_pyNext_enum_endD (Draws.tuple (A := X.A.in1) (I.ok.hd hc) it a hai its.toArray) he ⟨hit, p⟩ fun h' eb => ⟨rfl, I.turned (t' := s.toks) (fun b o hb q => eb b o hb q) f0 f1 f3 f4 f5⟩
  self := fun A i s Q E st h => let ⟨⟨_, he⟩, _⟩ := st; wpAny_pyIter_enum he h
def iEnumT (K : PySem.W.Frag) (ta : TA) : TI := fun σ H R => ta σ H fun vs H1 => ∃ a xs, vs = [.ref a] ∧ SqT K H1 a xs ∧ R (IteT K a) H1
theorem pi_enumT {X : Cx} {e : Expr} {ta : TA} {p pos tpos : Pos} {elts : List Expr} {kk : Nat} (hg : Gl X "enumerate") (hm : X.mg "enumerate" = none) (ha : PA X [e] ta) (hs : starEach [e] X.env = [(false, eval e X.env)] := by exact star_c rfl) :
    PI X (.Tuple elts kk tpos) (.Call (.Name "enumerate" p) [e] [] pos) (iEnumT X.K ta) := by
  refine ⟨fun pins s σ H R I h => ?_⟩
  refine Call_ (ld_blt I hg hm boot_enumerate (PyProof.Rows.callWith_type1 (thn (ha.run pos pins s σ H _ I h) fun us s1 ⟨vs, H1, I1, r1, q1⟩ => ?_) hs rfl))
  obtain ⟨a, xs, ex, hq, q⟩ := q1
  subst ex
  cases r1 with
  | cons r rr =>
    cases rr
    cases r
    obtain ⟨its, rv, p', hz⟩ := I1.tuple hq
    refine enum_begins1 (begins_tuple a its.toArray) p' fun h' he hit hsz hk => wpAny_pyIter_enum he ?_
    have I2 : Inv X pins σ H1 { s1 with heap := h' } := I1.kept (t' := s1.toks) hk
    refine ⟨s1.heap.objs.size + 1, [s1.heap.objs.size + 1, s1.heap.objs.size], _, _, H1, rfl, I2, turn_enumT a (s1.heap.objs.size + 1) s1.heap.objs.size, ⟨⟨.none, he⟩, ⟨_, hit, rfl, rfl⟩, Nat.succ_ne_self _⟩, fun b hb => ?_, q⟩
    have e' : b = s1.heap.objs.size + 1 ∨ b = s1.heap.objs.size := by simpa using hb
    have hle : s1.heap.objs.size ≤ b := by
      rcases e' with z | z
      · rw [z]; exact Nat.le_succ _
      · rw [z]; exact Nat.le_refl _
    exact I1.fpOk hle (I1.hok.fresh hle)
end L2
namespace Fw
open PySem L2
def enumL {α : Type} (xs : List α) : List (Int × α × Unit) := List.zipWith (fun (i : Nat) x => ((i : Int), x, ())) (List.range xs.length) xs
theorem enumL_get {α : Type} {xs : List α} {i : Nat} : (enumL xs)[i]? = xs[i]?.map fun x => ((i : Int), x, ()) := by
  unfold enumL
  rw [List.getElem?_zipWith]
  by_cases h : i < xs.length
  · rw [List.getElem?_range h, List.getElem?_eq_getElem h]
    rfl
  · rw [List.getElem?_eq_none (l := xs) (by omega), List.getElem?_eq_none (by rw [List.length_range]; omega)]
    rfl
theorem enumL_len {α : Type} (xs : List α) : (enumL xs).length = xs.length := by simp [enumL]
section
variable {X : Cx} {N : List Str} {sc scope : Scope} {own : Str → Bool} {α β γ δ ε : Type} {A : Ty α} {e a : Expr} {elts : List Expr} {kk : Nat} {pos p tpos : Pos} {Γ : List Slot} {L : γ → List Rg} {s : γ} {xt : XT ε}
theorem if_enumS {m : Res ε (Tx × γ)} (cx : Cxt X N sc own) (hm : X.mg "enumerate" = none) (h : EF X a Γ L s tTx xt m) (hg : glB sc "enumerate" = true := by decide +kernel) (hs : starEach [a] X.env = [(false, eval a X.env)] := by exact star_c rfl) :
    IF X (.Tuple elts kk tpos) (.Call (.Name "enumerate" p) [a] [] pos) Γ L s (tTup (Tys2 tInt tTx)) xt (m.bnd fun t s => .val (enumL (t.map fun c => [c]), s)) := ⟨_, pi_enumS (glB_gl cx hg).1 hm (pa_cons pe_w pa_nil hs) hs, fun I σ F H R fr th => by
  refine h I σ F H _ fr ?_
  cases m with
  | stuck => exact th
  | exn x => exact th
  | val q =>
    obtain ⟨t, s1⟩ := q
    intro I1 v H1 e1 fr1 r
    cases r
    refine ⟨_, rfl, th _ I1 H1 e1 fr1 fun I2 L2 H2 e2 se i => ?_⟩
    have hl : (enumL (t.map fun c => [c])).length = t.length := by rw [enumL_len, List.length_map]
    refine ⟨fun hi => ?_, fun hi => ⟨?_, fun x H' y => ?_⟩⟩
    · show i = t.toArray.size
      have hi : i = (enumL (t.map fun c => [c])).length := hi
      rw [hi, hl, List.size_toArray]
    · show i < t.toArray.size
      have hi : i < (enumL (t.map fun c => [c])).length := hi
      rw [List.size_toArray]; omega
    · obtain ⟨T, c, rfl, hT, rfl, hc⟩ := y
      refine ⟨upd I2 T (.tup [.int (i : Nat), .str ⟨#[c]⟩]), Same.upd (se.same.free hT), se.imm hT, fun d hd => ?_⟩
      have hc' : t[i]? = some c := by simpa using hc
      have hd : (enumL (t.map fun c => [c]))[i]? = some d := hd
      rw [enumL_get, List.getElem?_map, hc'] at hd
      cases hd
      exact ⟨T, _, rfl, upd_same, _, _, rfl, rfl, _, _, rfl, rfl, rfl⟩⟩
theorem if_enumL {m : Res ε (List α × γ)} (cx : Cxt X N sc own) (hm : X.mg "enumerate" = none) (h : EF X a Γ L s (tLst A) xt m) (hg : glB sc "enumerate" = true := by decide +kernel) (hs : starEach [a] X.env = [(false, eval a X.env)] := by exact star_c rfl) :
    IF X (.Tuple elts kk tpos) (.Call (.Name "enumerate" p) [a] [] pos) Γ L s (tTup (Tys2 tInt A)) xt (m.bnd fun t s => .val (enumL t, s)) := ⟨_, pi_enum (glB_gl cx hg).1 hm (pa_cons pe_w pa_nil hs) hs, fun I σ F H R fr th => by
  refine h I σ F H _ fr ?_
  cases m with
  | stuck => exact th
  | exn x => exact th
  | val q =>
    obtain ⟨t, s1⟩ := q
    intro I1 v H1 e1 fr1 r
    obtain ⟨a, vs, rfl, h1, h2⟩ := r
    have hl := paired_len h2
    refine ⟨a, vs, rfl, .of (fr1.sep.same _ _ h1), th _ I1 H1 e1 fr1 fun I2 L2 H2 e2 se i => ?_⟩
    have sq2 : SqL X.K H2 a vs := .of ((e2.trans se.same) _ _ h1)
    have hn := enumL_len t
    have hl : vs.length = t.length := hl
    refine ⟨fun hi => ⟨vs, sq2, by have hi : i = (enumL t).length := hi; omega⟩, fun hi => ⟨⟨vs, vs[i]'(by have hi : i < (enumL t).length := hi; omega), sq2, by simp⟩, fun x H' y => ?_⟩⟩
    obtain ⟨T, x, rfl, hT, rfl, y⟩ := y
    refine ⟨upd I2 T (.tup [.int (i : Nat), x]), Same.upd (se.same.free hT), se.imm hT, fun d hd => ?_⟩
    obtain ⟨d', hd', rd⟩ := paired_get h2 (y vs sq2)
    have hd : (enumL t)[i]? = some d := hd
    rw [enumL_get, hd'] at hd
    cases hd
    exact ⟨T, _, rfl, upd_same, _, _, rfl, rfl, _, _, rfl, A.mono (e2.trans (Same.upd (se.same.free hT))) rd, rfl⟩⟩
theorem if_enumU {m : Res ε (List α × γ)} (cx : Cxt X N sc own) (hm : X.mg "enumerate" = none) (h : EF X a Γ L s (tTuL A) xt m) (hg : glB sc "enumerate" = true := by decide +kernel) (hs : starEach [a] X.env = [(false, eval a X.env)] := by exact star_c rfl) :
    IF X (.Tuple elts kk tpos) (.Call (.Name "enumerate" p) [a] [] pos) Γ L s (tTup (Tys2 tInt A)) xt (m.bnd fun t s => .val (enumL t, s)) := ⟨_, pi_enumT (glB_gl cx hg).1 hm (pa_cons pe_w pa_nil hs) hs, fun I σ F H R fr th => by
  refine h I σ F H _ fr ?_
  cases m with
  | stuck => exact th
  | exn x => exact th
  | val q =>
    obtain ⟨t, s1⟩ := q
    intro I1 v H1 e1 fr1 r
    obtain ⟨a, vs, rfl, h1, h2⟩ := r
    have hl := paired_len h2
    refine ⟨a, vs, rfl, .of (fr1.sep.same _ _ h1), th _ I1 H1 e1 fr1 fun I2 L2 H2 e2 se i => ?_⟩
    have sq2 : SqT X.K H2 a vs := .of ((e2.trans se.same) _ _ h1)
    have hn := enumL_len t
    have hl : vs.length = t.length := hl
    refine ⟨fun hi => ⟨vs, sq2, by have hi : i = (enumL t).length := hi; omega⟩, fun hi => ⟨⟨vs, vs[i]'(by have hi : i < (enumL t).length := hi; omega), sq2, by simp⟩, fun x H' y => ?_⟩⟩
    obtain ⟨T, x, rfl, hT, rfl, y⟩ := y
    refine ⟨upd I2 T (.tup [.int (i : Nat), x]), Same.upd (se.same.free hT), se.imm hT, fun d hd => ?_⟩
    obtain ⟨d', hd', rd⟩ := paired_get h2 (y vs sq2)
    have hd : (enumL t)[i]? = some d := hd
    rw [enumL_get, hd'] at hd
    cases hd
    exact ⟨T, _, rfl, upd_same, _, _, rfl, rfl, _, _, rfl, A.mono (e2.trans (Same.upd (se.same.free hT))) rd, rfl⟩⟩
end
end Fw


namespace Fw
open PySem L2
/-! ## 30. more operations -/
def rRepS : R2 := fun x y H Q => ∃ z k, x = .str z ∧ y = .int k ∧ -(2 ^ 63) ≤ k ∧ k < 2 ^ 63 ∧ z.length * k.toNat ≤ sizeLine ∧ Q (.str (Txt.mul z k)) H
theorem op_rep_str {X : Cx} : OpR X (binaryOp .Mult) rRepS := by
  intro pins s σ H x y v u Q I rx ry h
  obtain ⟨z, k, rfl, rfl, h1, h2, hz, q⟩ := h
  obtain ⟨t, rfl⟩ := rx
  obtain ⟨t', rfl⟩ := ry
  refine SB.mul ⟨?_, fun h3 h4 => ?_, fun h3 h4 => ?_⟩ (fun t' tk => ⟨.str (Txt.mul z k), H, I.tok _, ⟨_, rfl⟩, q⟩)
  · rw [decide_eq_false (by omega), decide_eq_false (by omega)]; rfl
  · have hk : 0 < k := by omega
    have hs : (sizeLine : Nat) ≤ 2 ^ 62 := by decide
    intro hc
    have h5 : (z.length : Int) * k ≤ 2 ^ 62 := by
      have h6 : ((z.length * k.toNat : Nat) : Int) ≤ ((2 ^ 62 : Nat) : Int) := Int.ofNat_le.mpr (Nat.le_trans hz hs)
      rw [Int.natCast_mul, Int.toNat_of_nonneg (by omega)] at h6
      exact h6
    have h7 : (2 ^ 63 - 1) / k < (z.length : Int) := hc
    have h8 : (2 ^ 63 - 1 : Int) < (z.length : Int) * k := (Int.ediv_lt_iff_lt_mul hk).mp h7
    omega
  · unfold Builtin.Str.tooLong
    exact decide_eq_false (Nat.not_lt.mpr hz)
def repT (t : Tx) (k : Int) : Tx := (List.replicate k.toNat t).flatten
def repOk (t : Tx) (k : Int) : Prop := -(2 ^ 63) ≤ k ∧ k < 2 ^ 63 ∧ t.length * k.toNat ≤ sizeLine
instance {t : Tx} {k : Int} : Decidable (repOk t k) := by unfold repOk; infer_instance
theorem mul_repT (t : Tx) (k : Int) : Txt.mul ⟨t.toArray⟩ k = ⟨(repT t k).toArray⟩ := by
  unfold Txt.mul repT
  have f0 : ∀ (m : Nat) (a : Array Nat), List.foldl (fun x1 x2 => x1 ++ x2) a (List.replicate m t.toArray) = a ++ (List.replicate m t).flatten.toArray := fun m => by
    induction m with
    | zero => intro a; simp
    | succ m ih => intro a; rw [List.replicate_succ, List.foldl_cons, ih, List.replicate_succ, List.flatten_cons]; simp
  by_cases h1 : k < 1
  · rw [if_pos h1]
    have : k.toNat = 0 := by omega
    rw [this]; rfl
  · rw [if_neg h1]
    split
    · next h =>
      simp at h
      rcases h with h | h
      · subst h; simp
      · have : t = [] := by
          cases t with
          | nil => rfl
          | cons a b => simp [Str.length] at h
        subst this; simp
    · rw [f0]; simp
theorem d_repT : D2 rRepS tTx tInt tTx repOk repT := fun I L H v w s t Q se rv rw hp k => by
  cases rv; cases rw
  refine ⟨_, _, rfl, rfl, hp.1, hp.2.1, hp.2.2, k I _ H (Same.refl _) se ?_⟩
  show V.str _ = V.str _
  rw [mul_repT]

/-! ## 31. new lists by operations -/
section
variable {X : Cx} {N : List Str} {sc : Scope} {own : Str → Bool} {α β γ δ ε τ ρ ν : Type} {A : Ty α} {B : Ty β} {C : Ty δ} {T : Tys τ} {e a b c o : Expr} {es : List Expr} {ss : List Stmt} {x : Str} {pos p2 cpos apos p : Pos} {Γ gx : List Slot} {L : γ → List Rg} {s : γ} {xt : XT ε} {L0 : List Rg}
  {gn : ν → List Slot} {ln : ν → List Rg} {rt : RT ρ} {q : Addr}
def DN2 (r : R2) (A : Ty α) (B : Ty β) (φ : δ → CP) (P : α → β → Prop) (g : α → β → δ) : Prop := ∀ (I H : Hp) (v w : V) (x : α) (y : β) (Q : VK), Same I H → A.rep I v x → B.rep I w y → P x y →
  (∀ q o, H q = none → (φ (g x y)).h I o → Q (.ref q) (upd H q o)) → r v w H Q
theorem en_op {mm : Res ε (δ × γ)} {op : Operator} {r : R2} {φ : δ → CP} {P : α → β → Prop} [∀ x y, Decidable (P x y)] {g : α → β → δ} {ma : Res ε (α × γ)} {mb : α → γ → Res ε (β × γ)} (ho : OpR X (binaryOp op) r) (D : DN2 r A B φ P g) (ha : EF X a Γ L s A xt ma) (hb : ∀ x s1, EF X b Γ L s1 B xt (mb x s1))
    (heq : mm = (ma.bnd fun x s1 => (mb x s1).bnd fun y s2 => Res.grd (P x y) (g x y, s2)) := by exact rfl) : EN X (.BinOp a op b pos) Γ L s φ xt mm := by
  subst heq
  intro I σ F H Q fr th
  refine PE_to (pe_op ho pe_w pe_w) ?_
  refine ha I σ F H _ fr ?_
  cases ma with
  | stuck => exact th
  | exn x => exact th
  | val p =>
    intro I1 v H1 e1 fr1 rv
    refine hb p.1 p.2 I1 σ F H1 _ fr1 ?_
    dsimp only [Res.bnd] at th
    cases hmb : mb p.1 p.2 with
    | stuck => rw [hmb] at th; exact th
    | exn x =>
      rw [hmb] at th
      exact fun I' H' c da e2 f2 r => th I' H' c da (e1.trans e2) f2 r
    | val p2 =>
      rw [hmb] at th
      intro I2 w H2 e2 fr2 rw
      dsimp only at th
      by_cases hp : P p.1 p2.1
      · rw [Res.grd_true hp] at th
        exact D I2 H2 v w _ _ Q fr2.sep.same (A.mono e2 rv) rw hp fun q o hq ho => th I2 q _ (e1.trans e2) ⟨fr2.sep.new hq ho, fr2.len, fr2.sl⟩
      · unfold Res.grd at th; rw [if_neg hp] at th; exact th.elim
theorem dn_catL : DN2 rCat (tLst A) (tLst A) (cLst A) (fun x y => x.length + y.length ≤ sizeLine) (fun x y => x ++ y) := fun I H v w x y Q se rv rw hp k => by
  obtain ⟨p, vs, rfl, h1, h2⟩ := rv
  obtain ⟨q, ws, rfl, h3, h4⟩ := rw
  exact ⟨p, q, vs, ws, rfl, rfl, se _ _ h1, se _ _ h3, by rw [paired_len h2, paired_len h4]; exact hp, fun l hl => k l _ hl ⟨_, rfl, paired_app h2 h4⟩⟩
def repL {α : Type} (xs : List α) (k : Int) : List α := (List.replicate k.toNat xs).flatten
def repLOk {α : Type} (xs : List α) (k : Int) : Prop := -(2 ^ 63) ≤ k ∧ k < 2 ^ 63 ∧ xs.length * k.toNat ≤ sizeLine
instance {xs : List α} {k : Int} : Decidable (repLOk xs k) := by unfold repLOk; infer_instance
theorem paired_rep {R : α → β → Prop} {xs : List α} {ys : List β} (h : Paired R xs ys) : ∀ n : Nat, Paired R (List.replicate n xs).flatten (List.replicate n ys).flatten
  | 0 => .nil
  | n + 1 => by rw [List.replicate_succ, List.replicate_succ, List.flatten_cons, List.flatten_cons]; exact paired_app h (paired_rep h n)
theorem dn_repL : DN2 rRep (tLst A) tInt (cLst A) repLOk repL := fun I H v w x y Q se rv rw hp k => by
  obtain ⟨p, vs, rfl, h1, h2⟩ := rv
  cases rw
  exact ⟨p, y, vs, rfl, rfl, se _ _ h1, hp.1, hp.2.1, by rw [paired_len h2]; exact hp.2.2, fun l hl => k l _ hl ⟨_, rfl, paired_rep h2 _⟩⟩
/-- a part of an own list, a new one -/
theorem en_sliceO {mm : Res ε (List α × γ)} {lo hi : Option Expr} {xs : γ → List α} {ml : Res ε (Option Int × γ)} {mh : Option Int → γ → Res ε (Option Int × γ)}
    (ha : EP X e Γ (L s) (tCell q) ()) (hL : ∀ s, Has (L s) q (cLst A (xs s))) (hl : OF X lo Γ L s xt ml) (hh : ∀ o s1, OF X hi Γ L s1 xt (mh o s1)) (heq : mm = (ml.bnd fun o s2 => (mh o s2).bnd fun u s3 => Res.val (cut (xs s3) o u, s3)) := by exact rfl) :
    EN X (.Subscript e (.Slice lo hi none p2) pos) Γ L s (cLst A) xt mm := by
  subst heq
  intro I σ F H Q fr th
  have pl : PO X lo (fun σ H Q => ∃ t, PO X lo t ∧ t σ H Q) := ⟨fun pins s σ H Q I h => let ⟨t, p, q⟩ := h; p.run pins s σ H Q I q⟩
  have ph : PO X hi (fun σ H Q => ∃ t, PO X hi t ∧ t σ H Q) := ⟨fun pins s σ H Q I h => let ⟨t, p, q⟩ := h; p.run pins s σ H Q I q⟩
  refine PE_to (pe_slice sl_list pe_w pl ph) ?_
  refine ha.run fr fun I1 v H1 e1 fr1 rv => ?_
  cases rv
  obtain ⟨tl, ptl, ql⟩ := hl
  refine ⟨tl, ptl, ql I1 σ F H1 _ fr1 ?_⟩
  cases ml with
  | stuck => exact th
  | exn x => exact fun I' H' c da e3 fr' r => th I' H' c da (e1.trans e3) fr' r
  | val p =>
    intro I2 H2 e2 fr2
    obtain ⟨th', pth, qh⟩ := hh p.1 p.2
    refine ⟨th', pth, qh I2 σ F H2 _ fr2 ?_⟩
    dsimp only [Res.bnd] at th
    cases hm2 : mh p.1 p.2 with
    | stuck => rw [hm2] at th; exact th
    | exn x =>
      rw [hm2] at th
      exact fun I' H' c da e3 fr' r => th I' H' c da ((e1.trans e2).trans e3) fr' r
    | val r =>
      rw [hm2] at th
      intro I3 H3 e3 fr3
      obtain ⟨ob, ho, ⟨vs, rfl, hv⟩, _⟩ := (hL r.2).get fr3.sep
      refine ⟨q, vs, rfl, .of ho, fun l hl => ?_⟩
      refine th I3 l _ ((e1.trans e2).trans e3) ⟨fr3.sep.new hl ⟨_, rfl, ?_⟩, fr3.len, fr3.sl⟩
      unfold cutV cut
      rw [paired_len hv]
      exact paired_take _ (paired_drop _ hv)
/-- a part of a list, a new one -/
theorem en_slice {mm : Res ε (List α × γ)} {lo hi : Option Expr} {xs : List α} {ml : Res ε (Option Int × γ)} {mh : Option Int → γ → Res ε (Option Int × γ)}
    (ha : EP X e Γ (L s) (tLst A) xs) (hl : OF X lo Γ L s xt ml) (hh : ∀ o s1, OF X hi Γ L s1 xt (mh o s1)) (heq : mm = (ml.bnd fun o s2 => (mh o s2).bnd fun u s3 => Res.val (cut xs o u, s3)) := by exact rfl) :
    EN X (.Subscript e (.Slice lo hi none p2) pos) Γ L s (cLst A) xt mm := by
  subst heq
  intro I σ F H Q fr th
  have pl : PO X lo (fun σ H Q => ∃ t, PO X lo t ∧ t σ H Q) := ⟨fun pins s σ H Q I h => let ⟨t, p, q⟩ := h; p.run pins s σ H Q I q⟩
  have ph : PO X hi (fun σ H Q => ∃ t, PO X hi t ∧ t σ H Q) := ⟨fun pins s σ H Q I h => let ⟨t, p, q⟩ := h; p.run pins s σ H Q I q⟩
  refine PE_to (pe_slice sl_list pe_w pl ph) ?_
  refine ha.run fr fun I1 v H1 e1 fr1 rv => ?_
  obtain ⟨q, vs, rfl, h1, h2⟩ := rv
  obtain ⟨tl, ptl, ql⟩ := hl
  refine ⟨tl, ptl, ql I1 σ F H1 _ fr1 ?_⟩
  cases ml with
  | stuck => exact th
  | exn x => exact fun I' H' c da e3 fr' r => th I' H' c da (e1.trans e3) fr' r
  | val p =>
    intro I2 H2 e2 fr2
    obtain ⟨th', pth, qh⟩ := hh p.1 p.2
    refine ⟨th', pth, qh I2 σ F H2 _ fr2 ?_⟩
    dsimp only [Res.bnd] at th
    cases hm2 : mh p.1 p.2 with
    | stuck => rw [hm2] at th; exact th
    | exn x =>
      rw [hm2] at th
      exact fun I' H' c da e3 fr' r => th I' H' c da ((e1.trans e2).trans e3) fr' r
    | val r =>
      rw [hm2] at th
      intro I3 H3 e3 fr3
      refine ⟨q, vs, rfl, .of (fr3.sep.same _ _ ((e2.trans e3) _ _ h1)), fun l hl => ?_⟩
      refine th I3 l _ ((e1.trans e2).trans e3) ⟨fr3.sep.new hl ⟨_, rfl, ?_⟩, fr3.len, fr3.sl⟩
      unfold cutV cut
      rw [paired_len h2]
      exact paired_take _ (paired_drop _ (paired_mono (e2.trans e3) h2))
/-! ## 32. methods of data -/
def DM (r : V → List V → Hp → VK → Prop) (A : Ty α) (T : Tys τ) (C : Ty δ) (P : α → τ → Prop) (g : α → τ → δ) : Prop := ∀ (I : Hp) (L : List Rg) (H : Hp) (v : V) (vs : List V) (a : α) (t : τ) (Q : VK), Sep I L H → A.rep I v a → T.rep I vs t → P a t →
  (∀ I' z H', Same I I' → Sep I' L H' → C.rep I' z (g a t) → Q z H') → r v vs H Q
def TyOf (K : PySem.W.Frag) (A : Ty α) (n : String) : Prop := ∀ (I H : Hp) (v : V) (a : α), Same I H → A.rep I v a → tyV K n v H
theorem tyo_tx {K : PySem.W.Frag} : TyOf K tTx "str" := fun I H v a se r => by cases r; rfl
theorem ef_mt {mm : Res ε (δ × γ)} {n id : String} {name : Str} {r : V → List V → Hp → VK → Prop} {P : α → τ → Prop} [∀ x t, Decidable (P x t)] {g : α → τ → δ} {d : α} {m : Res ε (τ × γ)} (ty : TyOf X.K A n) (pa : PlainAttrs n) (slot : PySem.Slot n name id) (hty : typeOf (.builtin id) = pure (.type "method_descriptor")) (hm : MtR X id r) (D : DM r A T C P g)
    (ho : EP X o Γ (L s) A d) (ha : AF X (e :: es) Γ L s T xt m)
    (hbase : attributeBase o name X.env (eval o X.env) = eval o X.env := by rfl)
    (hfew : ((backTo cpos (starEach (e :: es) X.env)).all (fun x => !x.1) && (backToKw cpos (keywordEach [] X.env)).all (fun x => x.1.isSome)
      && decide ((e :: es).length + ([] : List Keyword).length + (if ([] : List Keyword).isEmpty then 0 else 1) < 30)) = true := by rfl)
    (hline : (apos.endLine == cpos.line) = true := by rfl) (hs : starEach (e :: es) X.env = (false, eval e X.env) :: starEach es X.env := by exact star_c rfl) (hplain : (backTo cpos (starEach es X.env)).any (·.1) = false := by rfl)
    (heq : mm = (m.bnd fun t s1 => Res.grd (P d t) (g d t, s1)) := by exact rfl) : EF X (.Call (.Attribute o name apos) (e :: es) [] cpos) Γ L s C xt mm := by
  subst heq
  intro I σ F H Q fr th
  refine PE_to (pe_bm pa slot hty hm pe_w pa_w hbase hfew hline hs hplain) ?_
  refine ho.run fr fun I1 v H1 e1 fr1 rv => ⟨ty I1 H1 v d fr1.sep.same rv, ?_⟩
  refine Then.bndA ha fr1 (then_up e1 th) fun I2 vs H2 t s1 e2 fr2 rvs th2 => ?_
  obtain ⟨hp, th3⟩ := Then.grd th2
  exact D I2 _ H2 v vs d t Q fr2.sep (A.mono e2 rv) rvs hp fun I' z H' e3 se rz => th3 I' z H' e3 (fr2.step e3 se) rz
theorem ep_mt {z : δ} {n id : String} {name : Str} {r : V → List V → Hp → VK → Prop} {P : α → τ → Prop} {g : α → τ → δ} {d : α} {t : τ} (ty : TyOf X.K A n) (pa : PlainAttrs n) (slot : PySem.Slot n name id) (hty : typeOf (.builtin id) = pure (.type "method_descriptor")) (hm : MtR X id r) (D : DM r A T C P g)
    (ho : EP X o Γ L0 A d) (ha : AP' X (e :: es) Γ L0 T t) (hp : P d t)
    (hbase : attributeBase o name X.env (eval o X.env) = eval o X.env := by rfl)
    (hfew : ((backTo cpos (starEach (e :: es) X.env)).all (fun x => !x.1) && (backToKw cpos (keywordEach [] X.env)).all (fun x => x.1.isSome)
      && decide ((e :: es).length + ([] : List Keyword).length + (if ([] : List Keyword).isEmpty then 0 else 1) < 30)) = true := by rfl)
    (hline : (apos.endLine == cpos.line) = true := by rfl) (hs : starEach (e :: es) X.env = (false, eval e X.env) :: starEach es X.env := by exact star_c rfl) (hplain : (backTo cpos (starEach es X.env)).any (·.1) = false := by rfl)
    (heq : z = g d t := by exact rfl) : EP X (.Call (.Attribute o name apos) (e :: es) [] cpos) Γ L0 C z := by
  subst heq
  intro I σ F H Q fr th
  refine PE_to (pe_bm pa slot hty hm pe_w pa_w hbase hfew hline hs hplain) ?_
  refine ho.run fr fun I1 v H1 e1 fr1 rv => ⟨ty I1 H1 v d fr1.sep.same rv, ?_⟩
  refine ha I1 σ F H1 _ fr1 fun I2 vs H2 e2 fr2 rvs => ?_
  exact D I2 _ H2 v vs d t Q fr2.sep (A.mono e2 rv) rvs hp fun I' z H' e3 se rz => th I' z H' ((e1.trans e2).trans e3) (fr2.step e3 se) rz
def findT (t y : Tx) : Int := Txt.find ⟨t.toArray⟩ ⟨y.toArray⟩
def findF (t y : Tx) (i : Int) : Int := Txt.find3 ⟨t.toArray⟩ ⟨y.toArray⟩ i
theorem dm_find : DM (fun x xs H Q => ∃ a b, x = .str a ∧ xs = [.str b] ∧ Q (.int (Txt.find a b)) H) tTx (Tys1 tTx) tInt (fun _ _ => True) (fun a t => findT a t.1) := fun I L H v vs a t Q se rv rvs hp k => by
  cases rv
  obtain ⟨w, rfl, r1⟩ := tys1 rvs
  have r1 : w = V.str ⟨t.1.toArray⟩ := r1
  subst r1
  exact ⟨_, _, rfl, rfl, k I _ H (Same.refl _) se rfl⟩
theorem dm_find3 : DM (fun x xs H Q => ∃ (a b : Str) (i : Int), x = .str a ∧ xs = [.str b, .int i] ∧ Q (.int (Txt.find3 a b i)) H) tTx (Tys2 tTx tInt) tInt (fun _ _ => True) (fun a t => findF a t.1 t.2.1) := fun I L H v vs a t Q se rv rvs hp k => by
  cases rv
  obtain ⟨w, u, rfl, r1, r2⟩ := tys2 rvs
  have r1 : w = V.str ⟨t.1.toArray⟩ := r1
  have r2 : u = V.int t.2.1 := r2
  subst r1; subst r2
  exact ⟨_, _, _, rfl, rfl, k I _ H (Same.refl _) se rfl⟩
/-! ## 33. methods of own lists -/
theorem paired_imp {R R' : α → β → Prop} {xs : List α} {ys : List β} (q : ∀ x y, R x y → R' x y) (h : Paired R xs ys) : Paired R' xs ys := by
  induction h with
  | nil => exact .nil
  | cons h hs ih => exact .cons (q _ _ h) ih
theorem sf_reverse {xs : List α} {R : List Rg} {k : List α → Out ε ρ ν} (ha : EP X a Γ L0 (tCell q) ()) (hL : L0.Perm (cell q (cLst A xs) :: R))
    (hr : ∀ ys, SF X ss Γ (cell q (cLst A ys) :: R) gn ln rt xt gx (k ys))
    (hbase : attributeBase a "reverse" X.env (eval a X.env) = eval a X.env := by rfl) (hline : (apos.endLine == p.line) = true := by rfl)
    (hsw : swapsWith (.Call (.Attribute a "reverse" apos) [] [] p) none pos.line X.env = pure false := by rfl) :
    SF X (.Expr (.Call (.Attribute a "reverse" apos) [] [] p) pos :: ss) Γ L0 gn ln rt xt gx (Out.lt xs.reverse k) := fun I σ F H D fr th => by
  refine PSs_to (pss_cons (ps_expr (pe_bm0 PySem.F.plainAttrs_list PySem.F.slot_list_reverse PySem.F.type_list_reverse mt_reverse pe_w hbase hline) hsw) pss_w) ?_
  refine ha.run fr fun I0 va H0 e0 fr0 ra => ?_
  cases ra
  have se0 : Sep I0 (cell q (cLst A xs) :: (R ++ F)) H0 := fr0.sep.perm (hL.append_right F)
  obtain ⟨o0, ho0, ⟨vs0, rfl, hv0⟩, _⟩ := se0.get
  refine ⟨.inl ⟨rfl, vs0, .of ho0⟩, q, vs0, rfl, rfl, ho0, ?_⟩
  refine hr xs.reverse I0 σ F _ D (fr0.step (Same.refl _) (se0.put ⟨_, rfl, ?_⟩)) (sthen_up e0 th)
  exact paired_rev hv0
/-! ## 34. an own thing lent out -/
def minus (I : Hp) (q : Addr) : Hp := fun b => if b = q then none else I b
theorem minus_ne {I : Hp} {q b : Addr} (h : b ≠ q) : minus I q b = I b := if_neg h
theorem minus_same {I : Hp} {q : Addr} : minus I q q = none := if_pos rfl
/-- a list, a dict, an instance: what may be lent -/
def Lent (o : Option HO) : Prop := (∀ ys, o ≠ some (.tup ys)) ∧ ∀ fs, o ≠ some (.xd fs)
theorem minus_at {I : Hp} {q b : Addr} {o : HO} (h : Lent (I q)) (e : I b = some o) (k : (∃ ys, o = .tup ys) ∨ ∃ fs, o = .xd fs) : minus I q b = some o := by
  by_cases hb : b = q
  · subst hb
    rcases k with ⟨ys, rfl⟩ | ⟨fs, rfl⟩
    · exact absurd e (h.1 ys)
    · exact absurd e (h.2 fs)
  · rw [minus_ne hb]; exact e
def FlatT (A : Ty α) : Prop := ∀ (I : Hp) (q : Addr) (v : V) (d : α), Lent (I q) → A.rep I v d → A.rep (minus I q) v d
theorem flt_int : FlatT tInt := fun _ _ _ _ _ h => h
theorem flt_bool : FlatT tBool := fun _ _ _ _ _ h => h
theorem flt_tx : FlatT tTx := fun _ _ _ _ _ h => h
theorem flt_none : FlatT tNone := fun _ _ _ _ _ h => h
theorem flt_opt {A : Ty α} (h : FlatT A) : FlatT (tOpt A) := fun I q v d l r => by
  cases d with
  | none => exact r
  | some d => exact ⟨r.1, h I q v d l r.2⟩
theorem paired_flat {A : Ty α} (h : FlatT A) {I : Hp} {q : Addr} (l : Lent (I q)) {vs : List V} {xs : List α} (p : Paired (A.rep I) vs xs) : Paired (A.rep (minus I q)) vs xs := by
  induction p with
  | nil => exact .nil
  | cons r _ ih => exact .cons (h I q _ _ l r) ih
theorem flt_tuL {A : Ty α} (h : FlatT A) : FlatT (tTuL A) := fun I q v d l ⟨p, vs, e, a, b⟩ => ⟨p, vs, e, minus_at l a (.inl ⟨vs, rfl⟩), paired_flat h l b⟩
def FlatTs {τ : Type} (T : Tys τ) : Prop := ∀ (I : Hp) (q : Addr) (v : List V) (d : τ), Lent (I q) → T.rep I v d → T.rep (minus I q) v d
theorem flts_nil : FlatTs Tys.nil := fun _ _ _ _ _ h => h
theorem flts_cons {τ : Type} {A : Ty α} {T : Tys τ} (h : FlatT A) (k : FlatTs T) : FlatTs (Tys.cons A T) := fun I q v d l ⟨x, xs, e, a, b⟩ => ⟨x, xs, e, h I q x d.1 l a, k I q xs d.2 l b⟩
theorem flt_tup {τ : Type} {T : Tys τ} (h : FlatTs T) : FlatT (tTup T) := fun I q v d l ⟨p, vs, e, a, b⟩ => ⟨p, vs, e, minus_at l a (.inl ⟨vs, rfl⟩), h I q vs d l b⟩
def FlatC (c : Rg) : Prop := ∀ (I R : Hp) (q : Addr), Lent (I q) → c.h I R → c.h (minus I q) R
def FlatX (xt : XT ε) : Prop := ∀ (x : ε), xt.regs x = [] ∧ ∀ (I : Hp) (q : Addr) (c : Value) (da : Option Addr), Lent (I q) → xt.rep I x c da → xt.rep (minus I q) x c da
theorem flatx0 : FlatX xt0 := fun x => nomatch x
theorem flat_cell {q : Addr} {xs : List α} (h : FlatT A) : FlatC (cell q (cLst A xs)) := fun I R q l ⟨o, e, vs, e2, p⟩ => ⟨o, e, vs, e2, paired_flat h l p⟩
def exact_ (R : Hp) : Rg := ⟨fun _ R' => R' = R ∧ ∀ a ys, R a ≠ some (.tup ys), fun _ h => h, fun ⟨e, h⟩ => by rw [e]; exact h⟩
/-- the own list at q is read by e as if it never changed -/
theorem lend_sep {I : Hp} {L1 : List Rg} {q : Addr} {φ : CP} {R : List Rg} {H : Hp} (se : Sep I (L1 ++ (cell q φ :: R)) H) : ∃ (o : HO) (E : List Rg), H q = some o ∧ φ.h I o ∧ I q = none ∧ Sep (upd I q o) (L1 ++ E) H ∧
    ∀ (I2 : Hp) (L2 : List Rg) (H2 : Hp), Same (upd I q o) I2 → Lent (some o) → (∀ c ∈ L2, FlatC c) → Sep I2 (L2 ++ E) H2 → Same I (minus I2 q) ∧ Sep (minus I2 q) (L2 ++ (cell q φ :: R)) H2 := by
  have se1 := se.perm (List.perm_middle)
  obtain ⟨o, ho, hφ, hi⟩ := se1.get
  obtain ⟨Z, e, s, a, d⟩ := se1
  match Z, e with
  | z :: Z, e =>
    rw [List.map_cons] at e
    injection e with e1 e2
    obtain ⟨Z1, Z2, rfl, e3, e4⟩ := List.map_eq_append_iff.mp e2
    cases d with
    | cons d1 d2 =>
      have hz2 : z.2 = single q o := by
        obtain ⟨a1, a2, _⟩ := a z (List.mem_cons_self ..)
        rw [e1] at a1
        obtain ⟨o', r, _⟩ := a1
        have := a2 q o' (by rw [r]; exact single_same)
        rw [ho] at this
        cases this
        exact r
      have other : ∀ y ∈ Z1 ++ Z2, y.2 q = none := fun y hy => by
        rcases d1 y hy q with h | h
        · rw [hz2, single_same] at h; cases h
        · exact h
      refine ⟨o, Z2.map fun z => exact_ z.2, ho, hφ, hi, ?_, fun I2 L2 H2 e5 le fl se2 => ?_⟩
      · refine ⟨Z1 ++ Z2.map (fun z => (exact_ z.2, z.2)), by rw [List.map_append, e3, List.map_map]; rfl, fun b u hb => ?_, fun y hy => ?_, ?_⟩
        · by_cases hq : b = q
          · subst hq; rw [upd_same] at hb; rw [ho]; exact hb
          · rw [upd_ne hq] at hb; exact s b u hb
        · have dis : ∀ R : Hp, R q = none → Disj I R → Disj (upd I q o) R := fun R h1 h2 b => by
            by_cases hq : b = q
            · subst hq; exact .inr h1
            · rw [upd_ne hq]; exact h2 b
          rcases List.mem_append.mp hy with hy | hy
          · obtain ⟨b1, b2, b3⟩ := a y (List.mem_cons_of_mem _ (List.mem_append_left _ hy))
            exact ⟨y.1.mono (Same.upd hi) b1, b2, dis _ (other y (List.mem_append_left _ hy)) b3⟩
          · obtain ⟨y', hy', rfl⟩ := List.mem_map.mp hy
            obtain ⟨b1, b2, b3⟩ := a y' (List.mem_cons_of_mem _ (List.mem_append_right _ hy'))
            exact ⟨⟨rfl, y'.1.nt b1⟩, b2, dis _ (other y' (List.mem_append_right _ hy')) b3⟩
        · rw [List.pairwise_append] at d2 ⊢
          obtain ⟨p1, p2, p3⟩ := d2
          refine ⟨p1, List.pairwise_map.mpr p2, fun y hy w hw => ?_⟩
          obtain ⟨w', hw', rfl⟩ := List.mem_map.mp hw
          exact p3 y hy w' hw'
      · obtain ⟨Y, f, t, g, k⟩ := se2
        obtain ⟨Y1, Y2, rfl, f1, f2⟩ := List.map_eq_append_iff.mp f
        have hq2 : I2 q = some o := e5 _ _ upd_same
        have y2 : Y2.map (·.2) = Z2.map (·.2) := by
          have : ∀ (Y2 Z2 : List (Rg × Hp)), Y2.map (·.1) = Z2.map (fun z => exact_ z.2) → (∀ y ∈ Y2, y.1.h I2 y.2) → Y2.map (·.2) = Z2.map (·.2) := by
            intro Y2
            induction Y2 with
            | nil => intro Z2 h _; cases Z2 with
              | nil => rfl
              | cons _ _ => cases h
            | cons y Y2 ih =>
              intro Z2 h hh
              cases Z2 with
              | nil => cases h
              | cons z Z2 =>
                rw [List.map_cons, List.map_cons] at h
                injection h with h1 h2
                rw [List.map_cons, List.map_cons, ih Z2 h2 fun w hw => hh w (List.mem_cons_of_mem _ hw)]
                have := hh y (List.mem_cons_self ..)
                rw [h1] at this
                rw [show y.2 = z.2 from this.1]
          exact this Y2 Z2 f2 fun y hy => (g y (List.mem_append_right _ hy)).1
        have inI : Same I (minus I2 q) := fun b u hb => by
          rw [minus_ne (ne_of_none hb hi)]
          exact e5 b u (by rw [upd_ne (ne_of_none hb hi)]; exact hb)
        have lq : Lent (I2 q) := by rw [hq2]; exact le
        have mt : Same (minus I2 q) H2 := fun b u hb => by
          by_cases hq : b = q
          · subst hq; rw [minus_same] at hb; cases hb
          · rw [minus_ne hq] at hb; exact t b u hb
        have mem2 : ∀ y ∈ Z2, ∃ y' ∈ Y2, y'.2 = y.2 := fun y hy => by
          have : y.2 ∈ Y2.map (·.2) := by rw [y2]; exact List.mem_map_of_mem hy
          obtain ⟨y', h1, h2⟩ := List.mem_map.mp this
          exact ⟨y', h1, h2⟩
        have down : ∀ R : Hp, Disj I2 R → Disj (minus I2 q) R := fun R h b => by
          by_cases hq : b = q
          · subst hq; exact .inl minus_same
          · rw [minus_ne hq]; exact h b
        have atq : ∀ R : Hp, Disj I2 R → R q = none := fun R h => by
          rcases h q with h | h
          · rw [hq2] at h; cases h
          · exact h
        refine ⟨inI, Y1 ++ ((cell q φ, single q o) :: Z2), by rw [List.map_append, List.map_cons, f1, e4], mt, fun y hy => ?_, ?_⟩
        · rcases List.mem_append.mp hy with hy | hy
          · obtain ⟨b1, b2, b3⟩ := g y (List.mem_append_left _ hy)
            exact ⟨fl y.1 (by rw [← f1]; exact List.mem_map_of_mem hy) _ _ _ lq b1, b2, down _ b3⟩
          · rcases List.mem_cons.mp hy with rfl | hy
            · exact ⟨⟨o, rfl, φ.mono inI hφ⟩, single_sub (t _ _ hq2), fun b => by
                by_cases hb : b = q
                · subst hb; exact .inl minus_same
                · exact .inr (single_ne hb)⟩
            · obtain ⟨y', hy', ey⟩ := mem2 y hy
              obtain ⟨b1, b2, b3⟩ := g y' (List.mem_append_right _ hy')
              obtain ⟨c1, c2, c3⟩ := a y (List.mem_cons_of_mem _ (List.mem_append_right _ hy))
              exact ⟨y.1.mono inI c1, by rw [← ey]; exact b2, by rw [← ey]; exact down _ b3⟩
        · rw [List.pairwise_append] at k ⊢
          obtain ⟨p1, p2, p3⟩ := k
          have sd : ∀ R : Hp, R q = none → Disj (single q o) R := fun R h b => by
            by_cases hb : b = q
            · subst hb; exact .inr h
            · exact .inl (single_ne hb)
          refine ⟨p1, ?_, fun y hy w hw => ?_⟩
          · rw [List.pairwise_append] at d2
            exact List.Pairwise.cons (fun w hw => sd _ (other w (List.mem_append_right _ hw))) d2.2.1
          · rcases List.mem_cons.mp hw with rfl | hw
            · exact (sd _ (atq _ (g y (List.mem_append_left _ hy)).2.2)).symm
            · obtain ⟨w', hw', ew⟩ := mem2 w hw
              rw [← ew]
              exact p3 y hy w' hw'
theorem ef_lend {mm : Res ε (δ × γ)} {xs : List α} {i : Nat} {L1 : γ → List Rg} {R : List Rg} (hC : FlatT C) (hx : FlatX xt) (hfl : ∀ s, ∀ c ∈ L1 s, FlatC c) (hp : ∀ s, (L s).Perm (L1 s ++ (cell q (cLst A xs) :: R))) (hi : Γ[i]? = some (.dat (tCell q) ()))
    (h : EF X e (Γ.set i (.dat (tLst A) xs)) L1 s C xt mm) : EF X e Γ L s C xt mm := fun I σ F H Q fr th => by
  have se0 : Sep I (L1 s ++ (cell q (cLst A xs) :: (R ++ F))) H := by
    have := fr.sep.perm ((hp s).append_right F)
    rwa [List.append_assoc] at this
  obtain ⟨o, E, ho, hφ, hq, se1, back⟩ := lend_sep se0
  obtain ⟨vs, rfl, hv⟩ := hφ
  obtain ⟨v, hv1, hv2⟩ := fr.get hi
  have hv2 : v = .ref q := hv2
  subst hv2
  have e0 : Same I (upd I q (.lst vs)) := Same.upd hq
  have iσ : i < Γ.length := (List.getElem?_eq_some_iff.mp hi).1
  have hσ : σ.set i (some (.ref q)) = σ := by
    apply List.ext_getElem?
    intro j
    by_cases hj : i = j
    · subst hj; rw [List.getElem?_set_self (by rw [fr.len]; exact iσ), hv1]
    · rw [List.getElem?_set_ne hj]
  have fr1 : FrOk (upd I q (.lst vs)) σ (Γ.set i (.dat (tLst A) xs)) (L1 s ++ E) H := by
    have := (FrOk.mk se1 fr.len (fr.sl.mono e0)).set (A := tLst A) (d := xs) (v := .ref q) ⟨q, vs, rfl, upd_same, paired_mono e0 hv⟩ i
    rwa [hσ] at this
  refine h _ σ E H Q fr1 ?_
  have le : Lent (some (.lst vs)) := ⟨fun ys z => (by cases z), fun fs z => (by cases z)⟩
  have lq : ∀ {I' : Hp}, Same (upd I q (.lst vs)) I' → Lent (I' q) := fun e2 => by rw [e2 _ _ upd_same]; exact le
  cases mm with
  | stuck => exact th
  | val p =>
    intro I' z H' e2 fr2 rz
    obtain ⟨m1, m2⟩ := back I' (L1 p.2) H' e2 le (hfl _) fr2.sep
    refine th (minus I' q) z H' m1 ⟨?_, fr.len, fr.sl.mono m1⟩ (hC _ _ _ _ (lq e2) rz)
    exact Sep.perm m2 (by rw [show L1 p.2 ++ (cell q (cLst A xs) :: (R ++ F)) = (L1 p.2 ++ (cell q (cLst A xs) :: R)) ++ F by simp]; exact ((hp p.2).symm).append_right F)
  | exn x =>
    intro I' H' c da e2 fr2 rz
    rw [(hx x).1] at fr2
    obtain ⟨m1, m2⟩ := back I' [] H' e2 le (fun c hc => by simp at hc) fr2.sep
    refine th (minus I' q) H' c da m1 ⟨?_, fr.len, fr.sl.mono m1⟩ ((hx x).2 _ _ _ _ (lq e2) rz)
    rw [(hx x).1]
    have drop : ∀ (Ls : List Rg) {L' : List Rg}, Sep (minus I' q) (Ls ++ L') H' → Sep (minus I' q) L' H' := fun Ls => by
      induction Ls with
      | nil => exact fun h => h
      | cons _ _ ih => exact fun h => ih h.tail
    exact drop R m2.tail
end
end Fw
namespace Fw
theorem flc_nil : ∀ c ∈ ([] : List Rg), FlatC c := fun _ h => nomatch h
theorem flc_cons {c : Rg} {L : List Rg} (h : FlatC c) (hs : ∀ c ∈ L, FlatC c) : ∀ d ∈ c :: L, FlatC d := fun d hd => by
  rcases List.mem_cons.mp hd with rfl | hd
  · exact h
  · exact hs d hd
end Fw
namespace Fw
open PySem L2
section
variable {X : Cx} {α : Type} {A : Ty α} {Γ : List Slot} {L0 : List Rg}
theorem apl_2 {e0 e1 : Expr} {d0 d1 : α} (h0 : EP X e0 Γ L0 A d0) (h1 : EP X e1 Γ L0 A d1) (k0 : isStar e0 = false := by rfl) (k1 : isStar e1 = false := by rfl) : AP' X [e0, e1] Γ L0 (Tys.lst A) [d0, d1] :=
  (apl_cons h0 (apl_cons h1 apl_nil (star_c k1)) (star_c k0))
theorem apl_3 {e0 e1 e2 : Expr} {d0 d1 d2 : α} (h0 : EP X e0 Γ L0 A d0) (h1 : EP X e1 Γ L0 A d1) (h2 : EP X e2 Γ L0 A d2) (k0 : isStar e0 = false := by rfl) (k1 : isStar e1 = false := by rfl) (k2 : isStar e2 = false := by rfl) : AP' X [e0, e1, e2] Γ L0 (Tys.lst A) [d0, d1, d2] :=
  (apl_cons h0 (apl_cons h1 (apl_cons h2 apl_nil (star_c k2)) (star_c k1)) (star_c k0))
theorem apl_4 {e0 e1 e2 e3 : Expr} {d0 d1 d2 d3 : α} (h0 : EP X e0 Γ L0 A d0) (h1 : EP X e1 Γ L0 A d1) (h2 : EP X e2 Γ L0 A d2) (h3 : EP X e3 Γ L0 A d3) (k0 : isStar e0 = false := by rfl) (k1 : isStar e1 = false := by rfl) (k2 : isStar e2 = false := by rfl) (k3 : isStar e3 = false := by rfl) : AP' X [e0, e1, e2, e3] Γ L0 (Tys.lst A) [d0, d1, d2, d3] :=
  (apl_cons h0 (apl_cons h1 (apl_cons h2 (apl_cons h3 apl_nil (star_c k3)) (star_c k2)) (star_c k1)) (star_c k0))
theorem apl_5 {e0 e1 e2 e3 e4 : Expr} {d0 d1 d2 d3 d4 : α} (h0 : EP X e0 Γ L0 A d0) (h1 : EP X e1 Γ L0 A d1) (h2 : EP X e2 Γ L0 A d2) (h3 : EP X e3 Γ L0 A d3) (h4 : EP X e4 Γ L0 A d4) (k0 : isStar e0 = false := by rfl) (k1 : isStar e1 = false := by rfl) (k2 : isStar e2 = false := by rfl) (k3 : isStar e3 = false := by rfl) (k4 : isStar e4 = false := by rfl) : AP' X [e0, e1, e2, e3, e4] Γ L0 (Tys.lst A) [d0, d1, d2, d3, d4] :=
  (apl_cons h0 (apl_cons h1 (apl_cons h2 (apl_cons h3 (apl_cons h4 apl_nil (star_c k4)) (star_c k3)) (star_c k2)) (star_c k1)) (star_c k0))
theorem apl_6 {e0 e1 e2 e3 e4 e5 : Expr} {d0 d1 d2 d3 d4 d5 : α} (h0 : EP X e0 Γ L0 A d0) (h1 : EP X e1 Γ L0 A d1) (h2 : EP X e2 Γ L0 A d2) (h3 : EP X e3 Γ L0 A d3) (h4 : EP X e4 Γ L0 A d4) (h5 : EP X e5 Γ L0 A d5) (k0 : isStar e0 = false := by rfl) (k1 : isStar e1 = false := by rfl) (k2 : isStar e2 = false := by rfl) (k3 : isStar e3 = false := by rfl) (k4 : isStar e4 = false := by rfl) (k5 : isStar e5 = false := by rfl) : AP' X [e0, e1, e2, e3, e4, e5] Γ L0 (Tys.lst A) [d0, d1, d2, d3, d4, d5] :=
  (apl_cons h0 (apl_cons h1 (apl_cons h2 (apl_cons h3 (apl_cons h4 (apl_cons h5 apl_nil (star_c k5)) (star_c k4)) (star_c k3)) (star_c k2)) (star_c k1)) (star_c k0))
theorem apl_7 {e0 e1 e2 e3 e4 e5 e6 : Expr} {d0 d1 d2 d3 d4 d5 d6 : α} (h0 : EP X e0 Γ L0 A d0) (h1 : EP X e1 Γ L0 A d1) (h2 : EP X e2 Γ L0 A d2) (h3 : EP X e3 Γ L0 A d3) (h4 : EP X e4 Γ L0 A d4) (h5 : EP X e5 Γ L0 A d5) (h6 : EP X e6 Γ L0 A d6) (k0 : isStar e0 = false := by rfl) (k1 : isStar e1 = false := by rfl) (k2 : isStar e2 = false := by rfl) (k3 : isStar e3 = false := by rfl) (k4 : isStar e4 = false := by rfl) (k5 : isStar e5 = false := by rfl) (k6 : isStar e6 = false := by rfl) : AP' X [e0, e1, e2, e3, e4, e5, e6] Γ L0 (Tys.lst A) [d0, d1, d2, d3, d4, d5, d6] :=
  (apl_cons h0 (apl_cons h1 (apl_cons h2 (apl_cons h3 (apl_cons h4 (apl_cons h5 (apl_cons h6 apl_nil (star_c k6)) (star_c k5)) (star_c k4)) (star_c k3)) (star_c k2)) (star_c k1)) (star_c k0))
theorem apl_8 {e0 e1 e2 e3 e4 e5 e6 e7 : Expr} {d0 d1 d2 d3 d4 d5 d6 d7 : α} (h0 : EP X e0 Γ L0 A d0) (h1 : EP X e1 Γ L0 A d1) (h2 : EP X e2 Γ L0 A d2) (h3 : EP X e3 Γ L0 A d3) (h4 : EP X e4 Γ L0 A d4) (h5 : EP X e5 Γ L0 A d5) (h6 : EP X e6 Γ L0 A d6) (h7 : EP X e7 Γ L0 A d7) (k0 : isStar e0 = false := by rfl) (k1 : isStar e1 = false := by rfl) (k2 : isStar e2 = false := by rfl) (k3 : isStar e3 = false := by rfl) (k4 : isStar e4 = false := by rfl) (k5 : isStar e5 = false := by rfl) (k6 : isStar e6 = false := by rfl) (k7 : isStar e7 = false := by rfl) : AP' X [e0, e1, e2, e3, e4, e5, e6, e7] Γ L0 (Tys.lst A) [d0, d1, d2, d3, d4, d5, d6, d7] :=
  (apl_cons h0 (apl_cons h1 (apl_cons h2 (apl_cons h3 (apl_cons h4 (apl_cons h5 (apl_cons h6 (apl_cons h7 apl_nil (star_c k7)) (star_c k6)) (star_c k5)) (star_c k4)) (star_c k3)) (star_c k2)) (star_c k1)) (star_c k0))
end
end Fw
namespace Fw
open PySem L2
theorem ds_seq {α : Type} {A : Ty α} {K : PySem.W.Frag} : DS (rSlL K) (tSeq K A) (tLst A) (fun _ => True) cut := fun I L H v t lo hi Q se rv hp k => by
  obtain ⟨p, vs, rfl, h2, h3⟩ := rv
  refine ⟨p, vs, rfl, Same.sql se.same h2, fun l hl => k (upd I l (.lst (cutV vs lo hi))) _ _ (Same.upd (se.same.free hl)) (se.imm hl) ⟨l, _, rfl, upd_same, ?_⟩⟩
  unfold cutV cut
  rw [paired_len h3]
  exact paired_take _ (paired_drop _ (paired_mono (Same.upd (se.same.free hl)) h3))
end Fw
namespace Fw
open PySem L2 PySem.W
/-! ## 35. max, min of a tuple of ints -/
theorem reads_ints {h : Heap} {K : PySem.W.Frag} : ∀ {ns : List Int} {us : List Value}, Vals (ns.map V.int) us → ∃ as, ReadsAll h us (ns.map PyData.int) as
  | [], _, h => by cases h; exact ⟨_, .nil⟩
  | n :: ns, _, .cons h hs => by
    obtain ⟨t, rfl⟩ := h
    obtain ⟨as, r⟩ := reads_ints (K := K) hs
    exact ⟨_, .cons (.int n t) r⟩
theorem alike_ints (ns : List Int) : AlikeAll (ns.map PyData.int) := ⟨fun x hx y hy => by
    obtain ⟨i, _, rfl⟩ := List.mem_map.mp hx
    obtain ⟨j, _, rfl⟩ := List.mem_map.mp hy
    rfl, fun x hx => by
    obtain ⟨i, _, rfl⟩ := List.mem_map.mp hx
    exact fun z => nomatch z⟩
theorem depth_ints : ∀ ns : List Int, PyData.depthAll (ns.map PyData.int) = 0
  | [] => rfl
  | n :: ns => by rw [List.map_cons, PyData.depthAll, depth_ints ns]; rfl
def maxL (xs : List Int) : Int := xs.foldl max (xs.headD 0)
def minL (xs : List Int) : Int := xs.foldl min (xs.headD 0)
theorem cr_maxU {X : Cx} (hc : X.calm = true) (hu : X.A.units + 1 < cLine) : CallR X (.builtin "max") (fun vs H Q => ∃ (a : Addr) (n : Int) (ns : List Int), vs = [V.ref a] ∧ SqT X.K H a ((n :: ns).map V.int) ∧ Q (.int (ns.foldl max n)) H) := by
  intro pins s σ H vs us Q I r h
  obtain ⟨a, n, ns, rfl, hs, q⟩ := h
  obtain ⟨its, rv, pl, hz⟩ := I.tuple hs
  rw [Vals.ref1 r]
  obtain ⟨as, ra⟩ := reads_ints (h := s.heap) (K := X.K) rv
  obtain ⟨o, e, c, m, d⟩ := pl
  refine max_tuple_data (I.ok.hd hc) ⟨o, e, c, m, d⟩ (by simpa using ra) (alike_ints (n :: ns)) (by rw [show PyData.depthAll (PyData.int n :: ns.map PyData.int) = 0 from depth_ints (n :: ns)]; exact hu) fun i v h' tk bs hi r hk => ?_
  rw [maxD_ints] at r
  cases r with
  | int _ t => exact ⟨.int _, H, I.kept hk, ⟨_, rfl⟩, q⟩
theorem cr_minU {X : Cx} (hc : X.calm = true) (hu : X.A.units + 1 < cLine) : CallR X (.builtin "min") (fun vs H Q => ∃ (a : Addr) (n : Int) (ns : List Int), vs = [V.ref a] ∧ SqT X.K H a ((n :: ns).map V.int) ∧ Q (.int (ns.foldl min n)) H) := by
  intro pins s σ H vs us Q I r h
  obtain ⟨a, n, ns, rfl, hs, q⟩ := h
  obtain ⟨its, rv, pl, hz⟩ := I.tuple hs
  rw [Vals.ref1 r]
  obtain ⟨as, ra⟩ := reads_ints (h := s.heap) (K := X.K) rv
  obtain ⟨o, e, c, m, d⟩ := pl
  refine min_tuple_data (I.ok.hd hc) ⟨o, e, c, m, d⟩ (by simpa using ra) (alike_ints (n :: ns)) (by rw [show PyData.depthAll (PyData.int n :: ns.map PyData.int) = 0 from depth_ints (n :: ns)]; exact hu) fun i v h' tk bs hi r hk => ?_
  rw [minD_ints] at r
  cases r with
  | int _ t => exact ⟨.int _, H, I.kept hk, ⟨_, rfl⟩, q⟩
theorem paired_ints {I : Hp} : ∀ {vs : List V} {xs : List Int}, Paired (tInt.rep I) vs xs → vs = xs.map V.int
  | _, _, .nil => rfl
  | _, _, .cons h hs => by rw [List.map_cons, ← paired_ints hs]; exact congrArg (· :: _) h
theorem dn_maxU {K : PySem.W.Frag} : DN (fun vs H Q => ∃ (a : Addr) (n : Int) (ns : List Int), vs = [V.ref a] ∧ SqT K H a ((n :: ns).map V.int) ∧ Q (.int (ns.foldl max n)) H) (Tys1 (tTuL tInt)) tInt (fun t => 0 < t.1.length) (fun t => maxL t.1) := fun I L H vs t Q se rv hp k => by
  obtain ⟨w, rfl, p, vs, rfl, h1, h2⟩ := tys1 rv
  have e := paired_ints h2
  subst e
  obtain ⟨xs, u⟩ := t
  cases xs with
  | nil => exact absurd hp (Nat.lt_irrefl _)
  | cons n ns =>
    refine ⟨p, n, ns, rfl, SqT.of (se.same _ _ h1), k I _ H (Same.refl _) se ?_⟩
    show V.int (ns.foldl max n) = V.int (ns.foldl max (max n n))
    rw [show max n n = n by omega]
theorem dn_minU {K : PySem.W.Frag} : DN (fun vs H Q => ∃ (a : Addr) (n : Int) (ns : List Int), vs = [V.ref a] ∧ SqT K H a ((n :: ns).map V.int) ∧ Q (.int (ns.foldl min n)) H) (Tys1 (tTuL tInt)) tInt (fun t => 0 < t.1.length) (fun t => minL t.1) := fun I L H vs t Q se rv hp k => by
  obtain ⟨w, rfl, p, vs, rfl, h1, h2⟩ := tys1 rv
  have e := paired_ints h2
  subst e
  obtain ⟨xs, u⟩ := t
  cases xs with
  | nil => exact absurd hp (Nat.lt_irrefl _)
  | cons n ns =>
    refine ⟨p, n, ns, rfl, SqT.of (se.same _ _ h1), k I _ H (Same.refl _) se ?_⟩
    show V.int (ns.foldl min n) = V.int (ns.foldl min (min n n))
    rw [show min n n = n by omega]
end Fw
namespace Fw
open PySem L2
section
variable {X : Cx} {γ ε : Type} {e : Expr} {Γ : List Slot} {L : γ → List Rg} {s : γ} {xt : XT ε} {L0 : List Rg}
theorem paired_dpAll {K : PySem.W.Frag} {I : Hp} : ∀ {vs : List V} {ds : List PyData}, Paired ((tD K).rep I) vs ds → DpAll K I vs ds
  | _, _, .nil => .nil
  | _, _, .cons h hs => .cons h (paired_dpAll hs)
/-- a list of things of any form, as a thing of any form -/
theorem ef_lD {m : Res ε (List PyData × γ)} (h : EF X e Γ L s (tLst (tD X.K)) xt m) : EF X e Γ L s (tD X.K) xt (m.bnd fun x s => Res.val (PyData.list x, s)) := ef_map h fun I v d r => by
  obtain ⟨p, vs, rfl, h1, h2⟩ := r
  exact .lst (.of h1) (paired_dpAll h2)
theorem ef_tD {m : Res ε (List PyData × γ)} (h : EF X e Γ L s (tTuL (tD X.K)) xt m) : EF X e Γ L s (tD X.K) xt (m.bnd fun x s => Res.val (PyData.tuple x, s)) := ef_map h fun I v d r => by
  obtain ⟨p, vs, rfl, h1, h2⟩ := r
  exact .tup (.of h1) (paired_dpAll h2)
end
end Fw


namespace Fw
open PySem L2
/-! ## 70. exception classes of the program's own -/
def oexB (K : PySem.W.Frag) (C : Addr) : Bool := match K.lookup C with
  | some ⟨.type "type", _, .cls cd, sl⟩ => (match cd.mro, sl.toList with
    | .ref C' :: bm, [_, _, _, _, some (.builtin n), _] => C' == C && (n == "ValueError.__new__" && (!cd.hasDel && (cd.hasDict && PySem.HandSPX.refsVE bm)))
    | _, _ => false)
  | _ => false
theorem oexB_ok {K : PySem.W.Frag} {C : Addr} (h : oexB K C = true) : ∃ nm q N bs bm sn sub ab col dd k0 k1 k2 k3 k5, K.lookup C = some (excClassObj nm q C N bs bm true sn sub ab col dd k0 k1 k2 k3 k5 "ValueError.__new__") ∧ PySem.HandSPX.refsVE bm = true := by
  unfold oexB at h
  split at h
  · rename_i dd cd sl ho
    split at h
    · rename_i C' bm k0 k1 k2 k3 n k5 hm hs
      simp only [Bool.and_eq_true, beq_iff_eq, Bool.not_eq_true'] at h
      obtain ⟨rfl, rfl, hdel, hdict, hr⟩ := h
      obtain ⟨nm, bs, mro, ns, qn, hd, sn, sub, ab, col, del⟩ := cd
      dsimp only at hm hdel hdict
      subst hm hdel hdict
      have hsl : sl = #[k0, k1, k2, k3, some (.builtin "ValueError.__new__"), k5] := by
        obtain ⟨l⟩ := sl
        simp only at hs
        rw [hs]
      subst hsl
      exact ⟨nm, qn, ns, bs, bm, sn, sub, ab, col, dd, k0, k1, k2, k3, k5, ho, hr⟩
    · cases h
  · cases h
/-- what is asked of a class, caught and looked at -/
structure ExK (K : PySem.W.Frag) (C : Addr) : Prop where
  ga : PySem.W.findIn K (.ref C) "__getattribute__" = some (some (.builtin "BaseException.__getattribute__"))
  gg : PySem.W.findIn K (.ref C) "__getattr__" = some none
  exC : PySem.W.subIn K (.ref C) (.type "BaseException") = some true
  hdC : PySem.W.hasDictIn K C = true
  ha : PySem.W.findIn K (.ref C) "__class__" = some (some (.builtin "object.__class__"))
  hn : PySem.W.specialIn K (.builtin "object.__class__") "__get__" = some (some (.builtin "getset_descriptor.__get__"))
  ht : PySem.W.takesIn K (.builtin "object.__class__") = some true
  hm : PySem.W.mroIn K C (.type "object") = some true
  cl : (PySem.W.clsIn K C).isSome = true
def exkB (K : PySem.W.Frag) (C : Addr) : Bool := decide (PySem.W.findIn K (.ref C) "__getattribute__" = some (some (.builtin "BaseException.__getattribute__"))) && (decide (PySem.W.findIn K (.ref C) "__getattr__" = some none) &&
  (decide (PySem.W.subIn K (.ref C) (.type "BaseException") = some true) && (PySem.W.hasDictIn K C && (decide (PySem.W.findIn K (.ref C) "__class__" = some (some (.builtin "object.__class__"))) &&
  (decide (PySem.W.specialIn K (.builtin "object.__class__") "__get__" = some (some (.builtin "getset_descriptor.__get__"))) && (decide (PySem.W.takesIn K (.builtin "object.__class__") = some true) && (decide (PySem.W.mroIn K C (.type "object") = some true) && (PySem.W.clsIn K C).isSome)))))))
theorem exkB_ok {K : PySem.W.Frag} {C : Addr} (h : exkB K C = true) : ExK K C := by
  unfold exkB at h
  simp only [Bool.and_eq_true, decide_eq_true_eq] at h
  obtain ⟨h1, h2, h3, h4, h5, h6, h7, h8, h9⟩ := h
  exact ⟨h1, h2, h3, h4, h5, h6, h7, h8, h9⟩
/-- .. made by its own __init__, which stores one field -/
structure ExO (K : PySem.W.Frag) (C : Addr) (f : Str) (fI : Addr) : Prop where
  oex : OexC K C
  init : PySem.W.findIn K (.ref C) "__init__" = some (some (.ref fI))
  tI : PySem.W.typeIn K (.ref fI) = some (.type "function")
  nof : PySem.W.findIn K (.ref C) f = some none
def exoB (K : PySem.W.Frag) (C : Addr) (f : Str) (fI : Addr) : Bool := oexB K C && (decide (PySem.W.findIn K (.ref C) "__setattr__" = some (some (.builtin "object.__setattr__"))) && (decide (PySem.W.subIn K (.ref C) (.type "BaseException") = some true) &&
  (decide (PySem.W.typeIn K (.ref C) = some (.type "type")) && (PySem.W.keepIn K (.ref C) && (decide (PySem.W.findIn K (.ref C) "__init__" = some (some (.ref fI))) && (decide (PySem.W.typeIn K (.ref fI) = some (.type "function")) && decide (PySem.W.findIn K (.ref C) f = some none)))))))
theorem exoB_ok {K : PySem.W.Frag} {C : Addr} {f : Str} {fI : Addr} (h : exoB K C f fI = true) : ExO K C f fI := by
  unfold exoB at h
  simp only [Bool.and_eq_true, decide_eq_true_eq] at h
  obtain ⟨h1, h2, h3, h4, h5, h6, h7, h8⟩ := h
  exact ⟨⟨oexB_ok h1, h2, h3, h4, h5⟩, h6, h7, h8⟩
/-- the base class, by whose name its __init__ is called -/
structure ExB (K : PySem.W.Frag) (C : Addr) : Prop where
  sp : PySem.W.specialIn K (.ref C) "__getattribute__" = some (some (.builtin "type.__getattribute__"))
  rd : PySem.W.readsIn K C (.type "type") = true
  it : PySem.W.findCls K (.ref C) (.type "type") "__init__" = some (.val (.builtin "ValueError.__init__"))
def exbB (K : PySem.W.Frag) (C : Addr) : Bool := decide (PySem.W.specialIn K (.ref C) "__getattribute__" = some (some (.builtin "type.__getattribute__"))) && (PySem.W.readsIn K C (.type "type") && (match PySem.W.findCls K (.ref C) (.type "type") "__init__" with
  | some (.val (.builtin n)) => decide (n = "ValueError.__init__")
  | _ => false))
theorem exbB_ok {K : PySem.W.Frag} {C : Addr} (h : exbB K C = true) : ExB K C := by
  unfold exbB at h
  simp only [Bool.and_eq_true, decide_eq_true_eq] at h
  obtain ⟨h1, h2, h3⟩ := h
  refine ⟨h1, h2, ?_⟩
  split at h3
  · rename_i n e
    rw [e]
    have e2 : n = "ValueError.__init__" := of_decide_eq_true h3
    rw [e2]
  · cases h3
section
variable {X : Cx} {o e : Expr} {es : List Expr} {to te : TE} {ta : TA} {f : Str} {p p' p1 p2 pos : Pos}
/-- Base.__init__(self, ..) -/
theorem pe_baseInit {pl : Sem Bool} {C : Addr} {x : Str} (hg : Gl X x) (hm : X.mg x = some (.ref C)) (B : ExB X.K C) (hd : (x == ("__debug__" : Str)) = false) (ha : PA X (e :: es) ta)
    (hc : eval (.Call (.Attribute (.Name x p1) "__init__" p2) (e :: es) [] pos) X.env = (do
      let ov ← eval (.Name x p1) X.env
      standAt p2.atName
      let (f, first) ← holding [ov] (getMethod ov "__init__" pl)
      callWith pos f first (backTo pos (starEach (e :: es) X.env)) (backToKw pos (keywordEach [] X.env))) := by rfl)
    (he : starEach (e :: es) X.env = (false, eval e X.env) :: starEach es X.env := by rfl) (hpl : (backTo pos (starEach es X.env)).any (·.1) = false := by rfl) :
    PE X (.Call (.Attribute (.Name x p1) "__init__" p2) (e :: es) [] pos) (tVeI X.K ta) := by
  refine ⟨fun pins s σ H Q I h => ?_⟩
  refine PySem.W.methodCall_KW (ld_glob I hg hm ?_ hd) hc
  refine PySem.W.method_cls I.kIn B.sp (PySem.W.cls_value I.kIn B.rd B.it (by decide +kernel) ?_)
  show wpAny _ _ (callWith pos (Value.builtin "ValueError.__init__") [] (backTo pos (starEach (e :: es) X.env)) []) _ _ _
  refine PyProof.Rows.callWith_method1 (thn (ha.run pos pins _ σ H _ (I.tok _) h) fun us s1 ⟨vs, H1, I1, r1, a, C, ws, ev, hl, T, ea, q⟩ => ?_) he hpl
  subst ev
  cases r1 with
  | @cons _ u0 _ ur ra rw' =>
    obtain rfl : u0 = Value.ref a := ra
    have hlen : ur.length ≤ sizeLine := by
      rw [← Paired.length rw', sizeLine_eq]
      omega
    exact oinit_ok T I1 ea hlen fun s' J => ⟨.non, H1, J, rfl, q⟩
end
/-- what __init__ promises -/
def spInit (C : Addr) (f : Str) : Sp := fun vs H Q _ => ∃ (a : Addr) (v : V), vs = [.ref a, v] ∧ H a = some (exo a C none) ∧ ∀ d, H d = none → d ≠ a → Q .non (upd (upd H d (exd d [(f, v)])) a (exo a C (some d)))
theorem init_ok {P : Program} {w : World} {K : PySem.W.Frag} {mg : Str → Option Value} {base : Heap} {C CB fI : Addr} {f par qual x m : Str} {st : Stmt} {fd : FuncData} {p1 p2 p3 p4 p5 p6 p7 p8 p9 p10 : Pos} {j}
    (F : Fun K "__init__" qual st fI fd) (T : ExO K C f fI) (B : ExB K CB) (hB : mg x = some (.ref CB)) (S : FnScope ["self", par] ["self", par] (defScope st))
    (hb : defBody st = [.Expr (.Call (.Attribute (.Name x p1) "__init__" p2) [.Name "self" p3, .Constant (.str m) j p4] [] p5) p6, .Assign [.Attribute (.Name "self" p7) f p8] (.Name par p9) p10])
    (hg : (defScope st).names.lookup x = some .globalImplicit) (hd : (x == ("__debug__" : Str)) = false) (hs : (defScope st).names.lookup ("self" : Str) = some .local) (hp : (defScope st).names.lookup par = some .local) (hpd : (par == ("__debug__" : Str)) = false) (hpc : (par == ("__classdict__" : Str)) = false)
    (hev : ∀ env : Env, ∃ pl : Sem Bool, eval (.Call (.Attribute (.Name x p1) "__init__" p2) [.Name "self" p3, .Constant (.str m) j p4] [] p5) env = (do
      let ov ← eval (.Name x p1) env
      standAt p2.atName
      let (f, first) ← holding [ov] (getMethod ov "__init__" pl)
      callWith p5 f first (backTo p5 (starEach [.Name "self" p3, .Constant (.str m) j p4] env)) (backToKw p5 (keywordEach [] env)))) :
    FnOk P w K mg base CX0 1 fI fd ["self", par] (spInit C f) := by
  refine F.ok S (fun vs H Q E ⟨a, v, e, _⟩ => by rw [e]; rfl) (fun cdv A outer s H vs Q E hr h => ?_)
  rw [hb]
  obtain ⟨a, v, rfl, ha, k⟩ := h
  have pself : ∀ {pp : Pos}, PE (cxOf CX0 P w K mg base ["self", par] qual (defScope st) fI cdv A outer s H E).nox (.Name "self" pp) (tVar 0) := fun {pp} => pv 0 rfl (.inl hs)
  have ppar : ∀ {pp : Pos}, PE (cxOf CX0 P w K mg base ["self", par] qual (defScope st) fI cdv A outer s H E).nox (.Name par pp) (tVar 1) := fun {pp} => pv 1 rfl (.inl hp) hpd hpc
  obtain ⟨pl, hc⟩ := hev (cxOf CX0 P w K mg base ["self", par] qual (defScope st) fI cdv A outer s H E).nox.env
  refine ⟨_, pss_cons (ps_expr (pe_baseInit (C := CB) hg hB B hd (pa_cons pself (pa_cons pe_str pa_nil)) hc))
    (pss_one (ps_ost pself ppar)), ?_⟩
  refine ⟨.ref a, rfl, a, C, [.str m], rfl, by simp, T.oex, ha, ?_⟩
  refine ⟨v, rfl, .ref a, rfl, a, C, rfl, T.oex, T.nof, .inl ⟨ha, fun dx hdx hne => ?_⟩⟩
  exact k dx hdx hne

/-! ## 71. raise, try -/
namespace Out
def noxO {ε ρ ν : Type} : Out ε ρ ν → Out ε ρ ν
  | exn _ => stuck
  | stuck => stuck
  | nx n => nx n
  | ret r => ret r
/-- try: m except ..: k -/
def tryX {ε ρ ν : Type} (m : Out ε ρ ν) (c : ε → Bool) (k : ε → Out ε ρ ν) : Out ε ρ ν := match m with
  | exn x => if c x = true then (k x).noxO else exn x
  | stuck => stuck
  | nx n => nx n
  | ret r => ret r
@[simp] theorem tryX_nx {ε ρ ν : Type} (n : ν) (c : ε → Bool) (k : ε → Out ε ρ ν) : tryX (nx n) c k = nx n := rfl
end Out
/-- what a caught exception's name holds -/
def tExc {ε : Type} (xt : XT ε) (a : Addr) (cl : Value) (da : Option Addr) : Ty ε := ⟨fun I v y => v = .ref a ∧ xt.rep I y cl da, fun e h => ⟨h.1, xt.mono e h.2⟩⟩
/-- what a class stands for -/
def tClsR (C : Value) : Ty Unit := ⟨fun _ v _ => ∀ u, RelV v u → u = C, fun _ h => h⟩
section
variable {X : Cx} {N : List Str} {sc scope : Scope} {own : Str → Bool} {α β γ δ ε ρ ν ν' τ : Type} {A : Ty α} {e a b c : Expr} {es rest : List Expr} {ss body suite : List Stmt} {b₀ : Stmt} {x y n : Str} {pos p p' pos' pos2 np : Pos} {Γ Γ' gx gy : List Slot} {L : γ → List Rg} {s : γ} {xt : XT ε} {L0 L1 : List Rg}
  {gn : ν → List Slot} {ln : ν → List Rg} {gj : ν' → List Slot} {lj : ν' → List Rg} {rt : RT ρ}
theorem wSs_len {D : Ends} {σ : St} {H : Hp} (h : σ.length = X.N.length → wSs X ss D σ H) : wSs X ss D σ H := by
  unfold wSs at h ⊢
  exact fun pins s I => h I.len pins s I
theorem upd_exc {H : Hp} {a d : Addr} {C : Addr} {fs : List (Str × V)} (ha : H a = none) (hd : d ≠ a) : upd (L2.del (upd (upd (upd H a (exo a C none)) d (exd d fs)) a (exo a C (some d))) a) d (.xd fs) = upd H d (.xd fs) := by
  funext b
  by_cases hb : b = d
  · subst hb; rw [upd_same, upd_same]
  · rw [upd_ne hb, upd_ne hb]
    by_cases hb2 : b = a
    · subst hb2; rw [del_same, ha]
    · rw [del_ne hb2, upd_ne hb2, upd_ne hb, upd_ne hb2]
/-- raise X(e) -/
theorem sf_raise {C fI : Addr} {fld : Str} {k : Nat} {fd : FuncData} {ps : List Str} {f : α → ε} {m : Res ε (α × γ)} (cx : Cxt X N sc own) (cc : Calm X) (T : ExO X.K C fld fI) (F1 : FnOk X.prog X.w X.K X.mg X.base CX0 k fI fd ps (spInit C fld)) (hr : Room (k + 1) X.A) (hb : Binds X.K fd ps []) (hm : X.mg x = some (.ref C))
    (h : EF X e Γ L s A xt m) (hrep : ∀ I d v q, A.rep I v q → I d = some (.xd [(fld, v)]) → xt.rep I (f q) (.ref C) (some d)) (hreg : ∀ y, xt.regs y = []) (wk : Wk Γ gx := by first | exact Wk.nil | exact Wk.rfl)
    (hg : glB sc x = true := by decide +kernel) (he : starEach [e] X.env = (false, eval e X.env) :: starEach [] X.env := by exact star_c rfl) :
    SF X (.Raise (some (.Call (.Name x p) [e] [] pos)) none pos2 :: ss) Γ (L s) gn ln rt xt gx (Out.bnd m fun d _ => Out.exn (f d)) := fun I σ F H D fr th => by
  obtain ⟨h1, h2, h3⟩ := glB_gl cx hg
  refine PSs_to (pss_cons (ps_raise cc.calm takesW (pmk_oex T.oex T.init T.tI F1 hr hb .nil (fun _ _ _ _ _ _ _ h => h.elim) h1 hm (pa_cons pe_w pa_nil he) h2 he rfl)) pss_w) ?_
  show wE X e σ H _
  refine SThen.bnd h wk fr th fun I1 v H1 d s1 e1 fr1 r th1 => ?_
  refine ⟨by simp, fun a ha => ?_⟩
  refine ⟨a, v, rfl, upd_same, fun dx hdx hne => ?_⟩
  have hd1 : H1 dx = none := by rw [upd_ne hne] at hdx; exact hdx
  refine ⟨rfl, dx, [(fld, v)], by rw [upd_same], by rw [upd_ne hne, upd_same], hd1, ?_⟩
  rw [upd_exc ha hne]
  have hi : I1 dx = none := fr1.sep.same.free hd1
  refine th1 (upd I1 dx (.xd [(fld, v)])) σ _ _ _ (Same.upd hi) ?_ ((fr1.sl.wk wk).mono (Same.upd hi)) (hrep _ _ _ _ (A.mono (Same.upd hi) r) upd_same)
  rw [hreg]
  have se : ∀ (Ls : List Rg) {L' : List Rg} {I2 H2 : Hp}, Sep I2 (Ls ++ L') H2 → Sep I2 L' H2 := fun Ls => by
    induction Ls with
    | nil => exact fun h => h
    | cons _ _ ih => exact fun h => ih h.tail
  exact se (L s1) (fr1.sep.imm hd1)
/-- raise X("..") -/
theorem sf_raise0 {C : Addr} {m : Str} {q : ε} {j} (cx : Cxt X N sc own) (cc : Calm X) (hE : PySem.W.excIn X.K C He.veBase "ValueError.__new__" = true) (hk : PySem.W.keepIn X.K (.ref C) = true) (hsu : PySem.W.subIn X.K (.ref C) (.type "BaseException") = some true) (hty : PySem.W.typeIn X.K (.ref C) = some (.type "type")) (hm : X.mg x = some (.ref C))
    (hrep : ∀ I, xt.rep I q (.ref C) none) (hreg : ∀ y, xt.regs y = []) (wk : Wk Γ gx := by first | exact Wk.nil | exact Wk.rfl)
    (hg : glB sc x = true := by decide +kernel) :
    SF X (.Raise (some (.Call (.Name x p) [.Constant (.str m) j p'] [] pos)) none pos2 :: ss) Γ L0 gn ln rt xt gx (Out.exn q) := fun I σ F H D fr th => by
  obtain ⟨h1, h2, h3⟩ := glB_gl cx hg
  refine PSs_to (pss_cons (ps_raise cc.calm takesW (pmk_own PySem.F.excBase_ValueError hE hm hk (raises_own hsu hty) h1 h2)) pss_w) ?_
  have se : ∀ (Ls : List Rg) {L' : List Rg} {I2 H2 : Hp}, Sep I2 (Ls ++ L') H2 → Sep I2 L' H2 := fun Ls => by
    induction Ls with
    | nil => exact fun h => h
    | cons _ _ ih => exact fun h => ih h.tail
  refine th I σ H _ _ (Same.refl _) ?_ (fr.sl.wk wk) (hrep I)
  rw [hreg]
  exact se L0 fr.sep
theorem cxt_tr (cx : Cxt X N sc own) (pn : List (Addr × Obj)) (xe : Value → Shared → Prop) : Cxt (X.tr pn xe) N sc own := ⟨cx.hN, cx.hsc, cx.nd, cx.st⟩
theorem cxt_suite (cx : Cxt X N sc own) (a : Addr) (pn : List (Addr × Obj)) : Cxt (X.suite a pn) N sc own := ⟨cx.hN, cx.hsc, cx.nd, cx.st⟩
/-- try: .. except X as n: .. -/
theorem sf_try {i : Nat} {c : Value} {M : Out ε ρ ν'} {Ms : ε → Out ε ρ ν'} {k : ν' → Out ε ρ ν} {catches : ε → Bool} (cx : Cxt X N sc own) (cc : Calm X) (hst : X.stack = X.env :: X.outer) (hfr : X.env.frame = some X.env.locals) (hi : N[i]? = some n) (hl : sc.names.lookup n = some .local)
    (hc : Names X x c) (hex : ∀ I y cl da, xt.rep I y cl da → PySem.W.exmOne X.K cl c = some (catches y)) (hreg : ∀ y, xt.regs y = []) (hgl : gy.length = N.length) (hgj : ∀ n, (gj n).set i .unk = gj n)
    (hb : ∀ (pn : List (Addr × Obj)) (xe : Value → Shared → Prop), Cxt (X.tr pn xe) N sc own → Calm (X.tr pn xe) → SF (X.tr pn xe) body Γ L0 gj lj rt xt gy M)
    (hsu : ∀ (y : ε) (a : Addr) (oe : Obj) (cl : Value) (da : Option Addr) (pn : List (Addr × Obj)), Zc cl da oe → (∃ vs, oe.data = .fields vs) → Cxt (X.suite a ((a, oe) :: pn)) N sc own → SF (X.suite a ((a, oe) :: pn)) (b₀ :: suite) (gy.set i (.dat (tExc xt a cl da) y)) [] gj lj rt xt [] (Ms y))
    (hr : ∀ n, SF X ss (gj n) (lj n) gn ln rt xt gx (k n)) (wk : Wk gy gx := by first | exact Wk.nil | exact Wk.rfl) :
    SF X (.Try body [.ExceptHandler (some (.Name x np)) (some n) (b₀ :: suite) pos'] [] [] pos :: ss) Γ L0 gn ln rt xt gx ((Out.tryX M catches Ms).seq k) := fun I σ F H D fr th => by
  have hi' : X.N[i]? = some n := by rw [cx.hN]; exact hi
  have hk : X.env.kindOf n = some .local := by show X.env.scope.names.lookup n = _; rw [cx.hsc]; exact hl
  refine PSs_to (pss_cons (ps_try_as hst hfr (by rw [cx.hN]; exact cx.nd) hi' hk hc (takesW (X := X))
    (tb := fun W D σ H => ∀ (pn : List (Addr × Obj)) (xe : Value → Shared → Prop), Takes (X.tr pn xe) W → PassesOwn (model X.prog X.w) X.A X.env xe → wSs (X.tr pn xe) body D σ H)
    (ts := fun a cl d D σ H => ∀ (oe : Obj) (pn : List (Addr × Obj)), Zc cl d oe → (∃ vs, oe.data = .fields vs) → wSs (X.suite a ((a, oe) :: pn)) (b₀ :: suite) D σ H)
    (fun W pn xe tk po => ⟨fun pins s σ H D Iv h => pss_w.run pins s σ H D Iv (h pn xe tk po)⟩)
    (fun a oe cl d pn hz hv => ⟨fun pins s σ H D Iv h => pss_w.run pins s σ H D Iv (h oe pn hz hv)⟩)) pss_w) ?_
  intro pn xe tk po
  refine hb pn xe (cxt_tr cx pn xe) ⟨cc.calm, po⟩ I σ F H _ fr ?_
  cases M with
  | stuck => exact th
  | nx q => exact fun I' σ' H' e1 f => hr q I' σ' F H' D f (sthen_up e1 th)
  | ret r => exact th
  | exn y =>
    intro I' σ' H' cl da e1 se sl r
    refine ⟨_, tk, catches y, hex _ _ _ _ r, fun hy a ha => ?_, fun hy => ?_⟩
    · intro oe pn2 hz hv
      have th : SThen X I F gn ln rt xt gx D (((if catches y = true then (Ms y).noxO else .exn y)).seq k) := th
      rw [if_pos hy] at th
      refine wSs_len fun hlen => ?_
      have hlen : (σ'.set i (some (.ref a))).length = N.length := by rw [hlen]; exact congrArg List.length cx.hN
      have hlen' : σ'.length = N.length := by rw [List.length_set] at hlen; exact hlen
      rw [hreg] at se
      have fr0 : FrOk I' σ' gy F H' := ⟨se, by rw [hlen', hgl], sl⟩
      have fr1 : FrOk I' (σ'.set i (some (.ref a))) (gy.set i (.dat (tExc xt a cl da) y)) F H' := fr0.set (A := tExc xt a cl da) (d := y) ⟨rfl, r⟩ i
      refine hsu y a oe cl da pn2 hz hv (cxt_suite cx a _) I' _ F H' _ fr1 ?_
      cases hM : Ms y with
      | stuck => rw [hM] at th; exact th
      | exn z => rw [hM] at th; exact th.elim
      | ret r2 => rw [hM] at th; exact sthen_up e1 th
      | nx q =>
        rw [hM] at th
        intro I2 σ2 H2 e2 f2
        have f3 := f2.setU (o := none) i
        rw [hgj] at f3
        exact hr q I2 _ F H2 D f3 (sthen_up (e1.trans e2) th)
    · have th : SThen X I F gn ln rt xt gx D (((if catches y = true then (Ms y).noxO else .exn y)).seq k) := th
      rw [if_neg (by rw [hy]; exact Bool.false_ne_true)] at th
      exact th I' σ' H' cl da e1 se (sl.wk wk) r
end

/-! ## 72. in an except suite -/
def DaOk (da : Option Addr) (H : Hp) : Prop := match da with
  | none => True
  | some d => ∃ fs, H d = some (.xd fs)
theorem DaOk.same {da : Option Addr} {I H : Hp} (h : DaOk da I) (e : Same I H) : DaOk da H := by
  cases da with
  | none => trivial
  | some d => exact let ⟨fs, q⟩ := h; ⟨fs, e _ _ q⟩
theorem inst_exc {X : Cx} {pins : List (Addr × Obj)} {σ : St} {H : Hp} {s : Shared} {a D : Addr} {oe : Obj} {da : Option Addr} {pn : List (Addr × Obj)} (I : Inv (X.suite a ((a, oe) :: pn)) pins σ H s) (hz : Zc (.ref D) da oe) (hf : ∃ vs, oe.data = .fields vs) (hd : DaOk da H) : ∃ od, PySem.W.InstAt s.heap a oe D od := by
  obtain ⟨hget, _⟩ := I.pin (a, oe) (List.mem_append.mpr (.inl List.mem_cons_self))
  obtain ⟨vs, hv⟩ := hf
  obtain ⟨oc, od, oda, osl⟩ := oe
  obtain ⟨h1, h2⟩ := hz
  dsimp only at h1 h2 hv
  subst h1 h2 hv
  cases od with
  | none => exact ⟨none, hget, rfl, rfl, trivial⟩
  | some d =>
    obtain ⟨fs, hfs⟩ := hd
    obtain ⟨mA, ⟨o, es, ep, ho, _⟩, _⟩ := (show ObjOk X.prog X.w H s.heap d (.xd fs) from I.hok d _ hfs)
    exact ⟨some o, hget, rfl, rfl, ho⟩
def rIsX (K : PySem.W.Frag) (cl : Value) (da : Option Addr) (a : Addr) : List V → Hp → VK → Prop := fun xs H Q => ∃ (c : V) (cv : Value) (D : Addr) (b : Bool), xs = [.ref a, c] ∧ cl = .ref D ∧ (∀ u, RelV c u → u = cv) ∧ ExK K D ∧ PySem.W.kitOne K (.ref D) cv = some b ∧ DaOk da H ∧ Q (.bl b) H
theorem call_isX {X : Cx} {a : Addr} {oe : Obj} {cl : Value} {da : Option Addr} {pn : List (Addr × Obj)} (hz : Zc cl da oe) (hf : ∃ vs, oe.data = .fields vs) : CallR (X.suite a ((a, oe) :: pn)) (.builtin "isinstance") (rIsX X.K cl da a) := by
  intro pins s σ H xs us Q I r h
  obtain ⟨c, cv, D, b, rfl, rfl, hcv, C, e, hd, q⟩ := h
  cases r with
  | cons rx rr =>
    cases rr with
    | cons rt rr =>
      cases rr
      cases rx
      have ec := hcv _ rt
      subst ec
      obtain ⟨od, J⟩ := inst_exc I hz hf hd
      exact PySem.W.kia_one (PySem.W.kitx_exc C.cl C.ga C.gg C.exC C.ha C.hn C.ht C.hm) I.kIn J e (fun z => nomatch z) fun tk => ⟨.bl b, H, I.kept (t' := tk) fun _ _ z => z, rfl, q⟩
def rIsXT (K : PySem.W.Frag) (cl : Value) (da : Option Addr) (a : Addr) : List V → Hp → VK → Prop := fun xs H Q => ∃ (tp : Addr) (cs : List V) (ws : List Value) (D : Addr) (b : Bool), xs = [.ref a, .ref tp] ∧ cl = .ref D ∧ H tp = some (.tup cs) ∧ (∀ us, Vals cs us → us = ws) ∧ ExK K D ∧ PySem.W.kitAny K (.ref D) ws = some b ∧ DaOk da H ∧ Q (.bl b) H
theorem call_isXT {X : Cx} {a : Addr} {oe : Obj} {cl : Value} {da : Option Addr} {pn : List (Addr × Obj)} (hz : Zc cl da oe) (hf : ∃ vs, oe.data = .fields vs) : CallR (X.suite a ((a, oe) :: pn)) (.builtin "isinstance") (rIsXT X.K cl da a) := by
  intro pins s σ H xs us Q I r h
  obtain ⟨tp, cs, ws, D, b, rfl, rfl, hT, hcv, C, e, hd, q⟩ := h
  cases r with
  | cons rx rr =>
    cases rr with
    | cons rt rr =>
      cases rr
      cases rx
      cases rt
      obtain ⟨od, J⟩ := inst_exc I hz hf hd
      obtain ⟨_, its, rv, o, h1, h2, n, h3⟩ := (show ObjOk X.prog X.w H s.heap tp (.tup cs) from I.hok tp _ hT)
      have e3 := hcv _ rv
      subst e3
      obtain ⟨oc, od2, dt, sl⟩ := o
      simp only at h2 h3
      subst h2 h3
      exact PySem.W.kia_tup (PySem.W.kitx_exc C.cl C.ga C.gg C.exC C.ha C.hn C.ht C.hm) I.kIn J h1 e (fun z => nomatch z) fun tk => ⟨.bl b, H, I.kept (t' := tk) fun _ _ z => z, rfl, q⟩
section
variable {X : Cx} {N : List Str} {sc scope : Scope} {own : Str → Bool} {α β γ δ ε ε' ρ ν ν' τ : Type} {A : Ty α} {e a b c : Expr} {es rest : List Expr} {x y n : Str} {pos p p' p2 pos' pos2 np : Pos} {Γ Γ' gx gy : List Slot} {L : γ → List Rg} {s : γ} {xt : XT ε} {xt' : XT ε'} {L0 L1 : List Rg}
theorem ep_clsR {C : Addr} (cx : Cxt X N sc own) (hm : X.mg x = some (.ref C)) (hg : glB sc x = true := by decide +kernel) : EP X (.Name x pos) Γ L0 (tClsR (.ref C)) () := fun I σ F H Q fr th =>
  let ⟨h1, h2, _⟩ := glB_gl cx hg
  PE_to (pe_glob (v := .ref C) h1 hm rfl h2) (th I _ H (Same.refl _) fr fun u h => h)
theorem ep_clsT (cx : Cxt X N sc own) {n : String} (hm : X.mg x = none) (hv : bootBuiltins x = some (.type n)) (hg : glB sc x = true := by decide +kernel) : EP X (.Name x pos) Γ L0 (tClsR (.type n)) () := fun I σ F H Q fr th =>
  let ⟨h1, h2, h3⟩ := glB_gl cx hg
  PE_to (pe_bltn (v := .ty n) h1 hm hv rfl h3 h2) (th I _ H (Same.refl _) fr fun u h => h)
/-- what a law's exceptions say of a class: isF: which of them are of it -/
def IsOf (K : PySem.W.Frag) (xt : XT ε) (cv : Value) (isF : ε → Bool) : Prop := ∀ (I : Hp) (y : ε) (cl : Value) (da : Option Addr), xt.rep I y cl da → ∃ D, cl = .ref D ∧ ExK K D ∧ PySem.W.kitOne K (.ref D) cv = some (isF y) ∧ DaOk da I
theorem dn_isX {K : PySem.W.Frag} {cl cv : Value} {da : Option Addr} {a : Addr} {isF : ε → Bool} (h : IsOf K xt cv isF) : DN (rIsX K cl da a) (Tys2 (tExc xt a cl da) (tClsR cv)) tBool (fun _ => True) (fun t => isF t.1) := fun I L H vs t Q se rv hp k => by
  obtain ⟨v, w, rfl, ⟨rfl, r⟩, hw⟩ := tys2 rv
  obtain ⟨D, e1, e2, e3, e4⟩ := h _ _ _ _ r
  exact ⟨w, cv, D, _, rfl, e1, hw, e2, e3, e4.same se.same, k I _ H (Same.refl _) se rfl⟩
theorem ep_isX {X' : Cx} {a : Addr} {oe : Obj} {cl cv : Value} {da : Option Addr} {pn : List (Addr × Obj)} {isF : ε → Bool} {d : ε} {e1 e2 : Expr} (hX : X' = X.suite a ((a, oe) :: pn)) (cx : Cxt X' N sc own) (hz : Zc cl da oe) (hf : ∃ vs, oe.data = .fields vs) (hi : X.mg "isinstance" = none) (hk : IsOf X.K xt cv isF)
    (h1 : EP X' e1 Γ L0 (tExc xt a cl da) d) (h2 : EP X' e2 Γ L0 (tClsR cv) ()) (hg : glB sc "isinstance" = true := by decide +kernel) (k1 : isStar e1 = false := by rfl) (k2 : isStar e2 = false := by rfl) :
    EP X' (.Call (.Name "isinstance" p) [e1, e2] [] pos) Γ L0 tBool (isF d) := by
  subst hX
  exact ep_callB (T := Tys2 (tExc xt a cl da) (tClsR cv)) (t := (d, (), ())) cx (call_isX hz hf) (dn_isX hk) hi (by decide +kernel) (ap_cons h1 (ap_cons h2 ap_nil (star_c k2)) (star_c k1)) trivial hg (star_c k1) (by rw [star_c k2]; rfl)
/-- e.f -/
theorem ef_xfld {X' : Cx} {a : Addr} {oe : Obj} {cl : Value} {da : Option Addr} {pn : List (Addr × Obj)} {d : ε} {fld : Str} {i : Nat} {has : ε → Bool} {get : ε → α} (hX : X' = X.suite a ((a, oe) :: pn)) (cx : Cxt X' N sc own) (hz : Zc cl da oe) (hf : ∃ vs, oe.data = .fields vs)
    (hk : ∀ I, xt.rep I d cl da → has d = true → ∃ (C dd : Addr) (fs : List (Str × V)) (v : V), cl = .ref C ∧ XfC X.K C ∧ PySem.W.findIn X.K (.ref C) fld = some none ∧ da = some dd ∧ I dd = some (.xd fs) ∧ fs.lookup fld = some v ∧ A.rep I v (get d))
    (hi : N[i]? = some n) (hΓ : Γ[i]? = some (.dat (tExc xt a cl da) d)) (hv : visB sc n = true := by decide +kernel) (hb : attributeBase (.Name n p) fld X.env (eval (.Name n p) X.env) = eval (.Name n p) X.env := by rfl) :
    EF X' (.Attribute (.Name n p) fld pos) Γ L s A xt' (Res.grd (has d = true) (get d, s)) := by
  subst hX
  intro I σ F H Q fr th
  obtain ⟨hh, th2⟩ := Then.grd th
  obtain ⟨v, e, rfl, r⟩ := fr.get hΓ
  obtain ⟨C, dd, fs, w, e1, T, hno, e2, e3, e4, e5⟩ := hk I r hh
  obtain ⟨h1, h2, h3⟩ := visB_vis hv
  have hN : (X.suite a ((a, oe) :: pn)).N[i]? = some n := by rw [cx.hN]; exact hi
  have hV : Vis (X.suite a ((a, oe) :: pn)).env.scope n := by rw [cx.hsc]; exact h1
  exact PE_to (pe_xf T hno hz hf (pe_var (i := i) hN hV h2 h3) hb) ⟨_, e, rfl, e1, dd, fs, w, e2, fr.sep.same _ _ e3, e4, th2 I w H (Same.refl _) fr e5⟩
end

section
variable {X : Cx} {N : List Str} {sc scope : Scope} {own : Str → Bool} {α β γ δ ε ε' ρ ν ν' τ : Type} {A : Ty α} {e a b c : Expr} {es rest : List Expr} {x y n : Str} {pos p p' p2 pos' pos2 np : Pos} {Γ Γ' gx gy : List Slot} {L : γ → List Rg} {s : γ} {xt : XT ε} {xt' : XT ε'} {L0 L1 : List Rg}
/-- a row of classes -/
def Tys.clss (ws : List Value) : Tys Unit := ⟨fun _ vs _ => vs.length = ws.length ∧ ∀ us, Vals vs us → us = ws, fun _ h => h, fun _ => List.replicate ws.length .unk, fun h => by rw [h.1, List.length_replicate], fun h i s q => by
  rw [List.getElem?_replicate] at q
  split at q
  · cases q; trivial
  · cases q⟩
theorem ap_clss0 : AP' X [] Γ L0 (Tys.clss []) () := fun I σ F H Q fr th => PA_to pa_nil (th I [] H (Same.refl _) fr ⟨rfl, fun us h => by cases h; rfl⟩)
theorem ap_clss {w : Value} {ws : List Value} (ha : EP X e Γ L0 (tClsR w) ()) (hr : AP' X es Γ L0 (Tys.clss ws) ()) (hs : isStar e = false := by rfl) : AP' X (e :: es) Γ L0 (Tys.clss (w :: ws)) () := fun I σ F H Q fr th => by
  refine PA_to (pa_cons pe_w pa_w (star_c hs)) ?_
  refine ha.run fr fun I1 v H1 e1 fr1 rv => ?_
  refine hr I1 σ F H1 _ fr1 fun I2 vs H2 e2 fr2 rvs => ?_
  refine th I2 (v :: vs) H2 (e1.trans e2) fr2 ⟨congrArg Nat.succ rvs.1, fun us h => ?_⟩
  cases h with
  | cons r t => rw [rv _ r, rvs.2 _ t]
def IsOfs (K : PySem.W.Frag) (xt : XT ε) (ws : List Value) (isF : ε → Bool) : Prop := ∀ (I : Hp) (y : ε) (cl : Value) (da : Option Addr), xt.rep I y cl da → ∃ D, cl = .ref D ∧ ExK K D ∧ PySem.W.kitAny K (.ref D) ws = some (isF y) ∧ DaOk da I
theorem isofs_nil {K : PySem.W.Frag} {cv : Value} {isF : ε → Bool} (h : IsOf K xt cv isF) : IsOfs K xt [] (fun _ => false) := fun I y cl da r => let ⟨D, e1, e2, _, e4⟩ := h I y cl da r; ⟨D, e1, e2, rfl, e4⟩
theorem isofs_cons {K : PySem.W.Frag} {cv : Value} {ws : List Value} {isF isG : ε → Bool} (h : IsOf K xt cv isF) (k : IsOfs K xt ws isG) : IsOfs K xt (cv :: ws) (fun y => isF y || isG y) := fun I y cl da r => by
  obtain ⟨D, e1, e2, e3, e4⟩ := h I y cl da r
  obtain ⟨D', f1, f2, f3, f4⟩ := k I y cl da r
  rw [e1] at f1
  cases f1
  refine ⟨D, e1, e2, ?_, e4⟩
  refine kitAny_cons e3 (fun z => ?_) (fun z => ?_)
  · rw [f3]; show some (isG y) = some (isF y || isG y); rw [z]; rfl
  · show (isF y || isG y) = true; rw [z]; rfl
theorem dn_isXT {K : PySem.W.Frag} {cl : Value} {ws : List Value} {da : Option Addr} {a : Addr} {isF : ε → Bool} (h : IsOfs K xt ws isF) : DN (rIsXT K cl da a) (Tys2 (tExc xt a cl da) (tTup (Tys.clss ws))) tBool (fun _ => True) (fun t => isF t.1) := fun I L H vs t Q se rv hp k => by
  obtain ⟨v, w, rfl, ⟨rfl, r⟩, q, cs, rfl, hq, hw⟩ := tys2 rv
  obtain ⟨D, e1, e2, e3, e4⟩ := h _ _ _ _ r
  exact ⟨q, cs, ws, D, _, rfl, e1, se.same _ _ hq, hw.2, e2, e3, e4.same se.same, k I _ H (Same.refl _) se rfl⟩
theorem ep_isXT {X' : Cx} {a : Addr} {oe : Obj} {cl : Value} {ws : List Value} {da : Option Addr} {pn : List (Addr × Obj)} {isF : ε → Bool} {d : ε} {e1 : Expr} {k2} (hX : X' = X.suite a ((a, oe) :: pn)) (cx : Cxt X' N sc own) (hz : Zc cl da oe) (hf : ∃ vs, oe.data = .fields vs) (hi : X.mg "isinstance" = none) (hk : IsOfs X.K xt ws isF)
    (h1 : EP X' e1 Γ L0 (tExc xt a cl da) d) (h2 : AP' X' es Γ L0 (Tys.clss ws) ()) (hl : ws.length = es.length := by rfl) (hle : es.length ≤ 1000 := by decide) (hg : glB sc "isinstance" = true := by decide +kernel) (k1 : isStar e1 = false := by rfl) :
    EP X' (.Call (.Name "isinstance" p) [e1, .Tuple es k2 p2] [] pos) Γ L0 tBool (isF d) := by
  subst hX
  exact ep_callB (T := Tys2 (tExc xt a cl da) (tTup (Tys.clss ws))) (t := (d, (), ())) cx (call_isXT hz hf) (dn_isXT hk) hi (by decide +kernel) (ap_cons h1 (ap_cons (ep_tup h2 hle (fun _ => by show (List.replicate ws.length _).length = _; rw [List.length_replicate, hl])) ap_nil (star_c rfl)) (star_c k1)) trivial hg (star_c k1) (by rw [star_c rfl]; rfl)
end
/-! ## 73. the program's refusals -/
inductive PExc where
  | noWord (p : Int)
  | noPattern (p : Int)
  | twice (w : Tx)
  | noTongue (n : Tx)
  | noThing (p : Int)
  | tooNarrow (p : Int)
  | noRow
def repF (C : Addr) (fld : Str) (v : V) (I : Hp) (c : Value) (da : Option Addr) : Prop := c = .ref C ∧ ∃ d, da = some d ∧ I d = some (.xd [(fld, v)])
def rep0 (C : Addr) (c : Value) (da : Option Addr) : Prop := c = .ref C ∧ da = none
theorem repF_mono {C : Addr} {fld : Str} {v : V} {I I' : Hp} {c : Value} {da : Option Addr} (e : Same I I') (h : repF C fld v I c da) : repF C fld v I' c da := let ⟨a, d, b, q⟩ := h; ⟨a, d, b, e _ _ q⟩
theorem repF_flat {C : Addr} {fld : Str} {v : V} {I : Hp} {q : Addr} {c : Value} {da : Option Addr} (l : Lent (I q)) (h : repF C fld v I c da) : repF C fld v (minus I q) c da := let ⟨a, d, b, k⟩ := h; ⟨a, d, b, minus_at l k (.inr ⟨_, rfl⟩)⟩
theorem repF_is {K : PySem.W.Frag} {C : Addr} {fld : Str} {v : V} {I : Hp} {c cv : Value} {da : Option Addr} {b : Bool} (k : ExK K C) (e : PySem.W.kitOne K (.ref C) cv = some b) (h : repF C fld v I c da) : ∃ D, c = .ref D ∧ ExK K D ∧ PySem.W.kitOne K (.ref D) cv = some b ∧ DaOk da I :=
  let ⟨a, d, f, q⟩ := h; ⟨C, a, k, e, by rw [f]; exact ⟨_, q⟩⟩
theorem rep0_is {K : PySem.W.Frag} {C : Addr} {I : Hp} {c cv : Value} {da : Option Addr} {b : Bool} (k : ExK K C) (e : PySem.W.kitOne K (.ref C) cv = some b) (h : rep0 C c da) : ∃ D, c = .ref D ∧ ExK K D ∧ PySem.W.kitOne K (.ref D) cv = some b ∧ DaOk da I :=
  let ⟨a, f⟩ := h; ⟨C, a, k, e, by rw [f]; trivial⟩
theorem repF_fld {α : Type} {A : Ty α} {K : PySem.W.Frag} {C : Addr} {fld : Str} {v : V} {I : Hp} {c : Value} {da : Option Addr} {d : α} (k : ExK K C) (o : PySem.W.findIn K (.ref C) fld = some none) (hA : ∀ I, A.rep I v d) (h : repF C fld v I c da) :
    ∃ (C dd : Addr) (fs : List (Str × V)) (v : V), c = .ref C ∧ XfC K C ∧ PySem.W.findIn K (.ref C) fld = some none ∧ da = some dd ∧ I dd = some (.xd fs) ∧ fs.lookup fld = some v ∧ A.rep I v d :=
  let ⟨a, e, f, q⟩ := h; ⟨C, e, _, v, a, ⟨k.ga, k.gg, k.exC, k.hdC⟩, o, f, q, by simp [List.lookup], hA I⟩
def xPlace : PExc → Option Int
  | .noWord p => some p
  | .noPattern p => some p
  | .noThing p => some p
  | .tooNarrow p => some p
  | _ => none
def xWord : PExc → Option Tx
  | .twice w => some w
  | _ => none
def xName : PExc → Option Tx
  | .noTongue w => some w
  | _ => none
def isNoWord : PExc → Bool
  | .noWord _ => true
  | _ => false
def isNoPattern : PExc → Bool
  | .noPattern _ => true
  | _ => false
def isTwice : PExc → Bool
  | .twice _ => true
  | _ => false
def isNoTongue : PExc → Bool
  | .noTongue _ => true
  | _ => false
def isNoThing : PExc → Bool
  | .noThing _ => true
  | _ => false
def isTooNarrow : PExc → Bool
  | .tooNarrow _ => true
  | _ => false
def isNoRow : PExc → Bool
  | .noRow => true
  | _ => false
end Fw


namespace Fw
open PySem L2
/-! ## 80. dicts -/
section
variable {κ α : Type} [DecidableEq κ]
def dGet (kvs : List (κ × α)) (k : κ) : Option α := (kvs.find? fun kv => decide (kv.1 = k)).map (·.2)
def dPut (kvs : List (κ × α)) (k : κ) (v : α) : List (κ × α) := if (kvs.any fun kv => decide (kv.1 = k)) = true then kvs.map (fun kv => if kv.1 = k then (kv.1, v) else kv) else kvs ++ [(k, v)]
end
/-- keys: how they look, how a dict of them lies -/
structure Kt (κ : Type) [DecidableEq κ] where
  T : Ty κ
  holds : List (κ × V) → HO
  get : ∀ {I H : Hp} {a : Addr} {ws : List (κ × V)} {k : κ} {v : V}, Rd H a (holds ws) → Same I H → T.rep I v k → DGet H a v (valV ws k)
  put : ∀ {I H : Hp} {a : Addr} {ws : List (κ × V)} {k : κ} {v y : V}, H a = some (holds ws) → Same I H → T.rep I v k → ws.length < sizeLine → DPut H a v y (upd H a (holds (putK ws k y)))
  isd : ∀ {H : Hp} {a : Addr} {ws : List (κ × V)}, Rd H a (holds ws) → IsD H a
  mu : ∀ ws, Mut (some (holds ws))
  lent : ∀ ws, Lent (some (holds ws))
  nt : ∀ ws ys, holds ws ≠ .tup ys
  yld : (∀ ws, ∃ ks : List (Key × V), holds ws = .dK ks ∧ ks.length = ws.length ∧ ∀ (i : Nat) (k : Key) (v : V), ks[i]? = some (k, v) → ∃ k0, ws[i]? = some (k0, v) ∧ ∀ I, T.rep I (kV k) k0) ∨
    (∀ ws, ∃ ks : List (List Key × V), holds ws = .dT ks ∧ ks.length = ws.length ∧ ∀ (i : Nat) (k : List Key) (v : V), ks[i]? = some (k, v) → ∃ k0, ws[i]? = some (k0, v) ∧ ∀ (I : Hp) (q : Addr), I q = some (.tup (k.map kV)) → T.rep I (.ref q) k0)
theorem txk {t s : Tx} : ((Sum.inr ⟨t.toArray⟩ : Key) = Sum.inr ⟨s.toArray⟩) ↔ t = s := by
  constructor
  · intro h
    have := Sum.inr.inj h
    injection this with h
    simpa using h
  · rintro rfl; rfl
section
variable {κ κ' : Type} [DecidableEq κ] [DecidableEq κ']
theorem valV_enc {enc : κ → κ'} (inj : ∀ a b, enc a = enc b → a = b) (k : κ) : ∀ ws : List (κ × V), valV (ws.map fun p => (enc p.1, p.2)) (enc k) = valV ws k
  | [] => rfl
  | p :: ws => by
    rw [List.map_cons]
    by_cases h : p.1 = k
    · rw [valV_pos (p := (enc p.1, p.2)) (congrArg enc h), valV_pos h]
    · rw [valV_neg (p := (enc p.1, p.2)) (fun z => h (inj _ _ z)), valV_neg h, valV_enc inj k ws]
theorem putK_enc {enc : κ → κ'} (inj : ∀ a b, enc a = enc b → a = b) (k : κ) (y : V) (ws : List (κ × V)) : putK (ws.map fun p => (enc p.1, p.2)) (enc k) y = (putK ws k y).map fun p => (enc p.1, p.2) := by
  have he : ∀ a b, decide (enc a = enc b) = decide (a = b) := fun a b => decide_eq_decide.mpr ⟨inj a b, congrArg enc⟩
  have ha : ((ws.map fun p => (enc p.1, p.2)).any fun kv => decide (kv.1 = enc k)) = (ws.any fun kv => decide (kv.1 = k)) := by
    rw [List.any_map]; congr 1; funext p; exact he _ _
  unfold putK
  rw [ha]
  split
  · rw [List.map_map, List.map_map]
    apply List.map_congr_left
    intro p _
    show (if enc p.1 = enc k then (enc p.1, y) else (enc p.1, p.2)) = (fun p => (enc p.1, p.2)) (if p.1 = k then (p.1, y) else p)
    by_cases h : p.1 = k
    · rw [if_pos h, if_pos (congrArg enc h)]
    · rw [if_neg h, if_neg (fun z => h (inj _ _ z))]
  · rw [List.map_append]; rfl
end
theorem rd_same {I H : Hp} {a : Addr} {o : HO} (h : Rd I a o) (e : Same I H) : Rd H a o := by
  rcases h with h | ⟨u, h⟩
  · exact .inl (e _ _ h)
  · exact .inr ⟨u, e _ _ h⟩
/-- one key: an int or a text -/
def ktOne {κ : Type} [DecidableEq κ] (T : Ty κ) (enc : κ → Key) (inj : ∀ a b, enc a = enc b → a = b) (hT : ∀ I v k, T.rep I v k ↔ v = kV (enc k)) : Kt κ where
  T := T
  holds := fun ws => .dK (ws.map fun p => (enc p.1, p.2))
  get := fun {I H a ws k v} h e r => by
    rw [(hT _ _ _).mp r]
    exact .inl ⟨_, enc k, h, rfl, (valV_enc inj k ws).symm⟩
  put := fun {I H a ws k v y} h e r hl => by
    rw [(hT _ _ _).mp r]
    exact .inl ⟨_, enc k, h, rfl, by rw [List.length_map]; exact hl, by rw [putK_enc inj]⟩
  isd := fun h => .inl ⟨_, h⟩
  mu := fun _ => trivial
  lent := fun _ => ⟨fun _ z => (by cases z), fun _ z => (by cases z)⟩
  nt := fun _ _ z => by cases z
  yld := .inl fun ws => ⟨_, rfl, List.length_map .., fun i k v e => by
    rw [List.getElem?_map] at e
    obtain ⟨p, hp, e2⟩ := Option.map_eq_some_iff.mp e
    cases e2
    exact ⟨p.1, hp, fun I => (hT I _ _).mpr rfl⟩⟩
def ktTx : Kt Tx := ktOne tTx (fun t => Sum.inr ⟨t.toArray⟩) (fun _ _ h => txk.mp h) (fun _ _ _ => Iff.rfl)
def ktInt : Kt Int := ktOne tInt Sum.inl (fun _ _ h => Sum.inl.inj h) (fun _ _ _ => Iff.rfl)
/-- a tuple of ints and texts -/
def ktTup {τ : Type} [DecidableEq τ] (T : Tys τ) (enc : τ → List Key) (inj : ∀ a b, enc a = enc b → a = b) (hT : ∀ I v k, T.rep I v k ↔ v = (enc k).map kV) : Kt τ where
  T := tTup T
  holds := fun ws => .dT (ws.map fun p => (enc p.1, p.2))
  get := fun {I H a ws k v} h e ⟨b, vs, ev, hb, r⟩ => by
    rw [(hT _ _ _).mp r] at hb
    exact .inr ⟨_, enc k, b, h, ev, e _ _ hb, (valV_enc inj k ws).symm⟩
  put := fun {I H a ws k v y} h e ⟨b, vs, ev, hb, r⟩ hl => by
    rw [(hT _ _ _).mp r] at hb
    exact .inr ⟨_, enc k, b, h, ev, e _ _ hb, by rw [List.length_map]; exact hl, by rw [putK_enc inj]⟩
  isd := fun h => .inr ⟨_, h⟩
  mu := fun _ => trivial
  lent := fun _ => ⟨fun _ z => (by cases z), fun _ z => (by cases z)⟩
  nt := fun _ _ z => by cases z
  yld := .inr fun ws => ⟨_, rfl, List.length_map .., fun i k v e => by
    rw [List.getElem?_map] at e
    obtain ⟨p, hp, e2⟩ := Option.map_eq_some_iff.mp e
    cases e2
    exact ⟨p.1, hp, fun I q hq => ⟨q, _, rfl, hq, (hT I _ _).mpr rfl⟩⟩⟩
def ktTI : Kt (Tx × Int × Unit) := ktTup (Tys.cons tTx (Tys.cons tInt Tys.nil)) (fun k => [Sum.inr ⟨k.1.toArray⟩, Sum.inl k.2.1])
  (fun a b h => by
    obtain ⟨a1, a2, a3⟩ := a
    obtain ⟨b1, b2, b3⟩ := b
    injection h with h1 h2
    injection h2 with h2 _
    have e1 : a1 = b1 := txk.mp h1
    have e2 : a2 = b2 := Sum.inl.inj h2
    subst e1 e2
    rfl)
  (fun I v k => ⟨fun h => by
    obtain ⟨x, xs, rfl, h1, y, ys, rfl, h2, h3⟩ := h
    cases h1; cases h2
    rw [show ys = [] from h3]; rfl, fun h => ⟨_, _, h, rfl, _, _, rfl, rfl, rfl⟩⟩)
def ktII : Kt (Int × Int × Unit) := ktTup (Tys.cons tInt (Tys.cons tInt Tys.nil)) (fun k => [Sum.inl k.1, Sum.inl k.2.1])
  (fun a b h => by
    obtain ⟨a1, a2, a3⟩ := a
    obtain ⟨b1, b2, b3⟩ := b
    injection h with h1 h2
    injection h2 with h2 _
    have e1 : a1 = b1 := Sum.inl.inj h1
    have e2 : a2 = b2 := Sum.inl.inj h2
    subst e1 e2
    rfl)
  (fun I v k => ⟨fun h => by
    obtain ⟨x, xs, rfl, h1, y, ys, rfl, h2, h3⟩ := h
    cases h1; cases h2
    rw [show ys = [] from h3]; rfl, fun h => ⟨_, _, h, rfl, _, _, rfl, rfl, rfl⟩⟩)
/-- pairs as they lie, pairs as data -/
def PD {κ α : Type} (A : Ty α) (I : Hp) (ws : List (κ × V)) (kvs : List (κ × α)) : Prop := Paired (fun (w : κ × V) (p : κ × α) => w.1 = p.1 ∧ A.rep I w.2 p.2) ws kvs
section
variable {κ α : Type} [DecidableEq κ] {A : Ty α} {I I' : Hp} {ws : List (κ × V)} {kvs : List (κ × α)}
theorem PD.mono (h : PD A I ws kvs) (e : Same I I') : PD A I' ws kvs := Paired.mapP h fun _ _ q => ⟨q.1, A.mono e q.2⟩
theorem PD.len (h : PD A I ws kvs) : ws.length = kvs.length := paired_len h
theorem PD.any (h : PD A I ws kvs) (k : κ) : (ws.any fun kv => decide (kv.1 = k)) = (kvs.any fun kv => decide (kv.1 = k)) := by
  unfold PD at h
  induction h with
  | nil => rfl
  | cons r _ ih => rw [List.any_cons, List.any_cons, ih, r.1]
theorem PD.get (h : PD A I ws kvs) (k : κ) : match valV ws k, dGet kvs k with
    | some v, some d => A.rep I v d
    | none, none => True
    | _, _ => False := by
  unfold PD at h
  induction h with
  | nil => trivial
  | @cons w p ws kvs r _ ih =>
    by_cases e : p.1 = k
    · have e2 : w.1 = k := r.1.trans e
      have : dGet (p :: kvs) k = some p.2 := by simp [dGet, List.find?_cons, e]
      rw [valV_pos e2, this]; exact r.2
    · have e2 : ¬ w.1 = k := fun z => e (r.1.symm.trans z)
      have : dGet (p :: kvs) k = dGet kvs k := by simp [dGet, List.find?_cons, e]
      rw [valV_neg e2, this]; exact ih
theorem PD.put (h : PD A I ws kvs) (k : κ) {y : V} {d : α} (r : A.rep I y d) : PD A I (putK ws k y) (dPut kvs k d) := by
  unfold putK dPut
  rw [h.any k]
  split
  next hany =>
    clear hany
    unfold PD at h ⊢
    induction h with
    | nil => exact .nil
    | @cons w p _ _ q _ ih =>
      rw [List.map_cons, List.map_cons]
      refine .cons ?_ ih
      by_cases e : p.1 = k
      · rw [if_pos e, if_pos (q.1.trans e)]; exact ⟨q.1, r⟩
      · rw [if_neg e, if_neg fun z => e (q.1.symm.trans z)]; exact q
  next hany => exact paired_app h (.cons ⟨rfl, r⟩ .nil)
end
/-- an own dict; an immutable one (locked for good) -/
def cDic {κ α : Type} [DecidableEq κ] (K : Kt κ) (A : Ty α) (kvs : List (κ × α)) : CP := ⟨fun I o => ∃ ws, o = K.holds ws ∧ PD A I ws kvs, fun e ⟨ws, a, b⟩ => ⟨ws, a, b.mono e⟩, fun ⟨ws, a, _⟩ ys z => K.nt ws ys (a.symm.trans z)⟩
def tDic {κ α : Type} [DecidableEq κ] (K : Kt κ) (A : Ty α) : Ty (List (κ × α)) := ⟨fun I v kvs => ∃ p o ws, v = .ref p ∧ I p = some (.frz o (K.holds ws)) ∧ PD A I ws kvs, fun e ⟨p, o, ws, a, b, c⟩ => ⟨p, o, ws, a, e _ _ b, c.mono e⟩⟩
/-- an expression whose value is a dict, own or not -/
def EDic (X : Cx) (e : Expr) (Γ : List Slot) (L : List Rg) {κ α : Type} [DecidableEq κ] (K : Kt κ) (A : Ty α) (kvs : List (κ × α)) : Prop :=
  ∀ (I : Hp) (σ : St) (F : List Rg) (H : Hp) (Q : VK), FrOk I σ Γ (L ++ F) H → (∀ p I' H', Same I I' → FrOk I' σ Γ (L ++ F) H' → (∀ I2 H2, Same I' I2 → FrOk I2 σ Γ (L ++ F) H2 → ∃ ws, Rd H2 p (K.holds ws) ∧ PD A I2 ws kvs) → Q (.ref p) H') → wE X e σ H Q
section
variable {X : Cx} {N : List Str} {sc scope : Scope} {own : Str → Bool} {κ α β γ δ ε ρ ν ν' τ : Type} [DecidableEq κ] {K : Kt κ} {A : Ty α} {e a b c f k : Expr} {es rest : List Expr} {ss : List Stmt} {x y : Str} {pos p p' apos cpos : Pos} {Γ Γ' gx : List Slot} {L : γ → List Rg} {s : γ} {xt : XT ε} {L0 L1 : List Rg} {kvs : List (κ × α)} {q : Addr}
  {gn : ν → List Slot} {ln : ν → List Rg} {rt : RT ρ}
theorem edic_own (h : EP X e Γ L0 (tCell q) ()) (hL : Has L0 q (cDic K A kvs)) : EDic X e Γ L0 K A kvs := fun I σ F H Q fr th => by
  refine h.run fr fun I1 v H1 e1 fr1 r => ?_
  cases (show v = .ref q from r)
  refine th q I1 H1 e1 fr1 fun I2 H2 e2 fr2 => ?_
  obtain ⟨o, ho, ⟨ws, rfl, pd⟩, _⟩ := hL.get fr2.sep
  exact ⟨ws, .inl ho, pd⟩
theorem edic_imm (h : EP X e Γ L0 (tDic K A) kvs) : EDic X e Γ L0 K A kvs := fun I σ F H Q fr th => by
  refine h.run fr fun I1 v H1 e1 fr1 r => ?_
  obtain ⟨p, o, ws, rfl, hp, pd⟩ := r
  exact th p I1 H1 e1 fr1 fun I2 H2 e2 fr2 => ⟨ws, .inr ⟨o, fr2.sep.same _ _ (e2 _ _ hp)⟩, pd.mono e2⟩
/-- k in d -/
theorem ep_din {key : κ} (hu : X.A.units + 1 < cLine) (hk : EP X k Γ L0 K.T key) (hd : EDic X e Γ L0 K A kvs) (hm : behindInMarks .In e = false := by rfl) : EP X (.Compare k [.In] [e] pos) Γ L0 tBool (dGet kvs key).isSome := fun I σ F H Q fr th => by
  refine PE_to (pe_cmp (pc_din hu pe_w pe_w) hm) ?_
  refine hk.run fr fun I1 v H1 e1 fr1 rv => ?_
  refine hd I1 σ F H1 _ fr1 fun p I2 H2 e2 fr2 st => ?_
  obtain ⟨ws, rd, pd⟩ := st I2 H2 (Same.refl _) fr2
  refine ⟨p, _, rfl, K.get rd fr2.sep.same (K.T.mono e2 rv), th I2 _ H2 (e1.trans e2) fr2 ?_⟩
  have g := pd.get key
  cases h1 : valV ws key <;> cases h2 : dGet kvs key <;> rw [h1, h2] at g <;> first | rfl | exact g.elim
theorem ep_dnin {key : κ} (hu : X.A.units + 1 < cLine) (hk : EP X k Γ L0 K.T key) (hd : EDic X e Γ L0 K A kvs) (hm : behindInMarks .NotIn e = false := by rfl) : EP X (.Compare k [.NotIn] [e] pos) Γ L0 tBool (!(dGet kvs key).isSome) := fun I σ F H Q fr th => by
  refine PE_to (pe_cmp (pc_dnotin hu pe_w pe_w) hm) ?_
  refine hk.run fr fun I1 v H1 e1 fr1 rv => ?_
  refine hd I1 σ F H1 _ fr1 fun p I2 H2 e2 fr2 st => ?_
  obtain ⟨ws, rd, pd⟩ := st I2 H2 (Same.refl _) fr2
  refine ⟨p, _, rfl, K.get rd fr2.sep.same (K.T.mono e2 rv), th I2 _ H2 (e1.trans e2) fr2 ?_⟩
  have g := pd.get key
  cases h1 : valV ws key <;> cases h2 : dGet kvs key <;> rw [h1, h2] at g <;> first | rfl | exact g.elim
/-- d[k] -/
theorem ep_dget [Inhabited α] {key : κ} (hu : X.A.units + 1 < cLine) (hd : EDic X e Γ L0 K A kvs) (hk : EP X k Γ L0 K.T key) (hh : (dGet kvs key).isSome = true) (hs : NoSl k := by exact fun _ _ => rfl) : EP X (.Subscript e k pos) Γ L0 A ((dGet kvs key).getD default) := fun I σ F H Q fr th => by
  refine PE_to (pe_dget hu pe_w pe_w hs) ?_
  refine hd I σ F H _ fr fun p I1 H1 e1 fr1 st => ?_
  refine hk.run fr1 fun I2 v H2 e2 fr2 rv => ?_
  obtain ⟨ws, rd, pd⟩ := st I2 H2 e2 fr2
  have g := pd.get key
  cases h2 : dGet kvs key with
  | none => rw [h2] at hh; cases hh
  | some d =>
    cases h1 : valV ws key with
    | none => rw [h1, h2] at g; exact g.elim
    | some w =>
      rw [h1, h2] at g
      rw [h2] at th
      exact ⟨p, w, rfl, by rw [← h1]; exact K.get rd fr2.sep.same rv, th I2 w H2 (e1.trans e2) fr2 g⟩
/-- d.get(k) -/
theorem ep_dget1 {key : κ} (hu : X.A.units + 1 < cLine) (nn : NotNon A) (hd : EDic X e Γ L0 K A kvs) (hk : EP X k Γ L0 K.T key) (m : M1 X e "get" apos k cpos) : EP X (.Call (.Attribute e "get" apos) [k] [] cpos) Γ L0 (tOpt A) (dGet kvs key) := fun I σ F H Q fr th => by
  refine PE_to (pe_dget1 hu pe_w pe_w m) ?_
  refine hd I σ F H _ fr fun p I1 H1 e1 fr1 st => ?_
  obtain ⟨ws0, rd0, _⟩ := st I1 H1 (Same.refl _) fr1
  refine ⟨p, rfl, K.isd rd0, ?_⟩
  refine hk.run fr1 fun I2 v H2 e2 fr2 rv => ?_
  obtain ⟨ws, rd, pd⟩ := st I2 H2 e2 fr2
  refine ⟨_, K.get rd fr2.sep.same rv, th I2 _ H2 (e1.trans e2) fr2 ?_⟩
  have g := pd.get key
  cases h1 : valV ws key <;> cases h2 : dGet kvs key <;> rw [h1, h2] at g <;> first | exact g.elim | skip
  · exact rfl
  · exact ⟨nn _ _ _ g, g⟩
/-- d.get(k, x) -/
theorem ep_dget2 {key : κ} {dflt : α} (hu : X.A.units + 1 < cLine) (hd : EDic X e Γ L0 K A kvs) (hk : EP X k Γ L0 K.T key) (hf : EP X f Γ L0 A dflt) (m : M2 X e "get" apos k f cpos) : EP X (.Call (.Attribute e "get" apos) [k, f] [] cpos) Γ L0 A ((dGet kvs key).getD dflt) := fun I σ F H Q fr th => by
  refine PE_to (L2.pe_dget2 hu pe_w pe_w pe_w m) ?_
  refine hd I σ F H _ fr fun p I1 H1 e1 fr1 st => ?_
  obtain ⟨ws0, rd0, _⟩ := st I1 H1 (Same.refl _) fr1
  refine ⟨p, rfl, K.isd rd0, ?_⟩
  refine hk.run fr1 fun I2 v H2 e2 fr2 rv => ?_
  refine hf.run fr2 fun I3 z H3 e3 fr3 rz => ?_
  obtain ⟨ws, rd, pd⟩ := st I3 H3 (e2.trans e3) fr3
  refine ⟨_, K.get rd fr3.sep.same (K.T.mono e3 rv), th I3 _ H3 ((e1.trans e2).trans e3) fr3 ?_⟩
  have g := pd.get key
  cases h1 : valV ws key <;> cases h2 : dGet kvs key <;> rw [h1, h2] at g <;> first | exact g.elim | skip
  · exact rz
  · exact g
/-- d[k] = v -/
theorem sf_dput {key : γ → κ} {kv : γ → List (κ × α)} {R : γ → List Rg} {m : Res ε (α × γ)} {kk : α → γ → Out ε ρ ν} (hu : X.A.units + 1 < cLine) (hv : EF X f Γ L s A xt m) (hL : ∀ s, (L s).Perm (cell q (cDic K A (kv s)) :: R s)) (hd : ∀ s, EP X e Γ (L s) (tCell q) ()) (hk : ∀ s, EP X k Γ (L s) K.T (key s))
    (hr : ∀ d s, SF X ss Γ (cell q (cDic K A (dPut (kv s) (key s) d)) :: R s) gn ln rt xt gx (kk d s)) (wk : Wk Γ gx := by first | exact Wk.nil | exact Wk.rfl)
    (hs : swapsWith f (some (.Subscript e k p')) pos.line X.env = pure false := by rfl) :
    SF X (.Assign [.Subscript e k p'] f pos :: ss) Γ (L s) gn ln rt xt gx (Out.bnd m fun d s' => if (kv s').length < sizeLine then kk d s' else .stuck) := fun I σ F H D fr th => by
  refine PSs_to (pss_cons (ps_dput hu pe_w pe_w pe_w hs) pss_w) ?_
  refine SThen.bnd hv wk fr th fun I1 v H1 d s1 e1 fr1 r th1 => ?_
  refine (hd s1).run fr1 fun I2 vo H2 e2 fr2 ro => ?_
  cases (show vo = .ref q from ro)
  refine (hk s1).run fr2 fun I3 vi H3 e3 fr3 ri => ?_
  have se : Sep I3 (cell q (cDic K A (kv s1)) :: (R s1 ++ F)) H3 := fr3.sep.perm ((hL s1).append_right F)
  obtain ⟨o, ho, ⟨ws, rfl, pd⟩, _⟩ := se.get
  by_cases hz : (kv s1).length < sizeLine
  · rw [if_pos hz] at th1
    refine ⟨q, _, rfl, K.put ho fr3.sep.same ri (by rw [pd.len]; exact hz), ?_⟩
    exact hr d s1 I3 σ F _ D (fr3.step (Same.refl _) (se.put ⟨_, rfl, pd.put (key s1) (A.mono (e2.trans e3) r)⟩)) (sthen_up (e2.trans e3) th1)
  · rw [if_neg hz] at th1
    exact th1.elim
/-- a dict becomes immutable -/
theorem pe_frzD {te : TE} (h : PE X e te) : PE X e (fun σ H Q => te σ H fun v H1 => ∃ d u, v = .ref d ∧ H1 d = some u ∧ Mut (some u) ∧ ∀ od, Q v (upd H1 d (.frz od u))) := ⟨fun pins s σ H Q I hq => by
  refine thn (h.run pins s σ H _ I hq) fun u s1 hh => ?_
  obtain ⟨v, H1, I1, r1, d, o, ev, ho, mu, k⟩ := hh
  obtain ⟨od, J⟩ := I1.lock ho mu
  exact ⟨v, _, J, r1, k od⟩⟩
theorem ef_frzD {m : Res ε (List (κ × α) × γ)} (h : EN X e Γ L s (cDic K A) xt m) : EF X e Γ L s (tDic K A) xt m := fun I σ F H Q fr th => by
  refine PE_to (pe_frzD pe_w) ?_
  refine h I σ F H _ fr ?_
  cases m with
  | stuck => exact th
  | exn x => exact th
  | val pr =>
    intro I' q H' e1 fr1
    obtain ⟨o, ho, ⟨ws, rfl, pd⟩, hi⟩ := fr1.sep.get
    refine ⟨q, _, rfl, ho, K.mu ws, fun od => ?_⟩
    have se : Sep I' (cell q ⟨fun _ o => o = HO.frz od (K.holds ws), fun _ h => h, fun h ys z => by rw [h] at z; cases z⟩ :: (L pr.2 ++ F)) (upd H' q (.frz od (K.holds ws))) := fr1.sep.put rfl
    obtain ⟨o2, ho2, e2, hi2, se2⟩ := se.freeze
    cases (show o2 = _ from e2)
    exact th _ _ _ (e1.trans (Same.upd hi)) (fr1.step (Same.upd hi) se2) ⟨q, od, ws, rfl, upd_same, pd.mono (Same.upd hi)⟩

/-- {} -/
theorem en_dnewK (hK : K.holds [] = .dK [] := by rfl) : EN X (.Dict [] [] pos) Γ L s (cDic K A) xt (.val ([], s)) := fun I σ F H Q fr th => by
  refine PE_to pe_dnewK fun p hp => ?_
  exact th I p _ (Same.refl _) ⟨fr.sep.new hp ⟨[], hK.symm, .nil⟩, fr.len, fr.sl⟩
theorem en_dnewT (hK : K.holds [] = .dT [] := by rfl) : EN X (.Dict [] [] pos) Γ L s (cDic K A) xt (.val ([], s)) := fun I σ F H Q fr th => by
  refine PE_to pe_dnewT fun p hp => ?_
  exact th I p _ (Same.refl _) ⟨fr.sep.new hp ⟨[], hK.symm, .nil⟩, fr.len, fr.sl⟩
/-- what a for over a dict walks: its keys -/
theorem if_keys {tg : Expr} {m : Res ε (List (κ × α) × γ)} (h : EF X e Γ L s (tDic K A) xt m) : IF X tg e Γ L s K.T xt (m.bnd fun d s => Res.val (d.map (·.1), s)) := ⟨_, pi_keys pe_w, fun I σ F H R fr th => by
  refine h I σ F H _ fr ?_
  cases m with
  | stuck => exact th
  | exn x => exact th
  | val q =>
    intro I1 v H1 e1 fr1 r
    obtain ⟨p, o, ws, rfl, hp, pd⟩ := r
    have hl := pd.len
    have th : ∀ J I' H', Same I I' → FrOk I' σ Γ (L q.2 ++ F) H' → Turns J I' K.T (q.1.map (·.1)) → R J H' := th
    have keyAt : ∀ (i : Nat) (k0 : κ) (v : V), ws[i]? = some (k0, v) → ∀ d, (q.1.map (·.1))[i]? = some d → d = k0 := fun i k0 v e d hd => by
      obtain ⟨y, hy, ey, _⟩ := paired_get pd e
      rw [List.getElem?_map, hy] at hd
      cases hd
      exact ey.symm
    rcases K.yld with Y | Y
    · obtain ⟨ks, ek, hk, hat⟩ := Y ws
      have hp1 : H1 p = some (.frz o (.dK ks)) := by rw [← ek]; exact fr1.sep.same _ _ hp
      refine ⟨p, o, rfl, .inl ⟨ks, hp1, th _ I1 H1 e1 fr1 fun I2 L2 H2 e2 se i => ?_⟩⟩
      have hp2 : H2 p = some (.frz o (.dK ks)) := by rw [← ek]; exact se.same _ _ (e2 _ _ hp)
      refine ⟨fun hi => ⟨hp2, by rw [List.length_map] at hi; omega⟩, fun hi => ⟨⟨hp2, by rw [List.length_map] at hi; omega⟩, fun x H' y => ?_⟩⟩
      obtain ⟨rfl, k, v, hkv, rfl⟩ := y
      obtain ⟨k0, h0, hr⟩ := hat i k v hkv
      refine ⟨I2, Same.refl _, se, fun d hd => ?_⟩
      rw [keyAt i k0 v h0 d hd]
      exact hr I2
    · obtain ⟨ks, ek, hk, hat⟩ := Y ws
      have hp1 : H1 p = some (.frz o (.dT ks)) := by rw [← ek]; exact fr1.sep.same _ _ hp
      refine ⟨p, o, rfl, .inr ⟨ks, hp1, th _ I1 H1 e1 fr1 fun I2 L2 H2 e2 se i => ?_⟩⟩
      have hp2 : H2 p = some (.frz o (.dT ks)) := by rw [← ek]; exact se.same _ _ (e2 _ _ hp)
      refine ⟨fun hi => ⟨hp2, by rw [List.length_map] at hi; omega⟩, fun hi => ⟨⟨hp2, by rw [List.length_map] at hi; omega⟩, fun x H' y => ?_⟩⟩
      obtain ⟨rfl, k, v, q2, hkv, rfl, hq⟩ := y
      obtain ⟨k0, h0, hr⟩ := hat i k v hkv
      obtain ⟨I3, e3, hq3, se3⟩ := se.tup hq
      refine ⟨I3, e3, se3, fun d hd => ?_⟩
      rw [keyAt i k0 v h0 d hd]
      exact hr I3 q2 hq3⟩
/-- return d, d an own dict: it is locked for good -/
theorem sf_retD {Lr : γ → List Rg} {L' : List Rg} (h : EP X e Γ (L s) (tCell q) ()) (hL : (L s).Perm (cell q (cDic K A kvs) :: L')) (hq : Sub L' (Lr s)) : SF X (.Return (some e) pos :: ss) Γ (L s) gn ln (rtV (tDic K A) Lr) xt gx (.ret (kvs, s)) := fun I σ F H D fr th => by
  refine PSs_to (pss_cons (ps_ret (pe_frzD pe_w)) pss_w) ?_
  show wE X e σ H _
  refine h.run fr fun I1 v H1 e1 fr1 r => ?_
  cases (show v = .ref q from r)
  have se : Sep I1 (cell q (cDic K A kvs) :: (L' ++ F)) H1 := fr1.sep.perm (hL.append_right F)
  obtain ⟨o, ho, ⟨ws, rfl, pd⟩, hi⟩ := se.get
  refine ⟨q, _, rfl, ho, K.mu ws, fun od => ?_⟩
  have se2 : Sep I1 (cell q ⟨fun _ o => o = HO.frz od (K.holds ws), fun _ h => h, fun h ys z => by rw [h] at z; cases z⟩ :: (L' ++ F)) (upd H1 q (.frz od (K.holds ws))) := se.put rfl
  obtain ⟨o2, ho2, e2, hi2, se3⟩ := se2.freeze
  cases (show o2 = _ from e2)
  exact th _ _ _ (e1.trans (Same.upd hi)) (hq _ F _ se3) ⟨q, od, ws, rfl, upd_same, pd.mono (Same.upd hi)⟩

end
/-! d.setdefault(k, v) -/
theorem d_setd {X : Cx} {pins : List (Addr × Obj)} {σ : St} {H : Hp} {s : Shared} {a : Addr} {kvs : List (Key × V)} {k : Key} {d : V} {u r : Value} {A : Around} {E : Value → Shared → Prop} {Q : Value → Shared → Prop} (I : Inv X pins σ H s) (e : H a = some (.dK kvs)) (hl : kvs.length < sizeLine) (ry : RelV (kV k) u) (rd : RelV d r)
    (h1 : ∀ v w' s', valV kvs k = some v → Inv X pins σ H s' → RelV v w' → Q w' s') (h2 : valV kvs k = none → ∀ s', Inv X pins σ (upd H a (.dK (putK kvs k d))) s' → Q r s') :
    wpAny (model X.prog X.w) A (call (.builtin "dict.setdefault") [.ref a, u, r]) Q E s := by
  obtain ⟨z, hd, vs, rel, dd⟩ := dk_of I.hok e
  refine call_meetsIn PySem.F.slot_dict_setdefault dd.typeIs PySem.F.entry_dict_setdefault (PySem.F.args_dict_setdefault_3 _ _ _) (kt_meets_setdefault (mixKind X.prog X.w) a (kV_is ry) hd r) ⟨_, dd, by rw [← rel.length]; exact z, fun v hv => ?_, fun hn h' dd' hs => ?_⟩
  · have rr := rel.val k
    rw [hv] at rr
    cases hv2 : valV kvs k with
    | none => rw [hv2] at rr; exact rr.elim
    | some x =>
      rw [hv2] at rr
      exact h1 x v _ hv2 (I.tok _) rr
  · have rr := rel.val k
    rw [hn] at rr
    cases hv2 : valV kvs k with
    | some x => rw [hv2] at rr; exact rr.elim
    | none =>
      have hl2 : (putK kvs k d).length ≤ sizeLine := by have := length_putK kvs k d; omega
      exact h2 hv2 _ (d_write (t' := s.toks + 1) I (by rw [e]; exact True.intro) hs (let ⟨q, _, _, hq, _⟩ := dd'; ⟨q, hq⟩) (dk_new hl2 hd (rel.put k rd) dd'))
def tSetd (td ty tx : TE) : TE := fun σ H Q => td σ H fun x H1 => ∃ a, x = .ref a ∧ IsD H1 a ∧ ty σ H1 fun y H2 => tx σ H2 fun z H3 => ∃ kvs k, H3 a = some (.dK kvs) ∧ y = kV k ∧ kvs.length < sizeLine ∧
  (∀ v, valV kvs k = some v → Q v H3) ∧ (valV kvs k = none → Q z (upd H3 a (.dK (putK kvs k z))))
theorem pe_setd {X : Cx} {o e f : Expr} {apos cpos : Pos} {td ty tx : TE} (ho : PE X o td) (he : PE X e ty) (hf : PE X f tx) (m : M2 X o "setdefault" apos e f cpos) : PE X (.Call (.Attribute o "setdefault" apos) [e, f] [] cpos) (tSetd td ty tx) := by
  refine ⟨fun pins s σ H Q I h => ?_⟩
  refine wpAny_Call_method m.base m.few m.line PySem.F.plainAttrs_dict PySem.F.slot_dict_setdefault PySem.F.type_dict_setdefault (thn (ho.run pins s σ H _ I h) fun u s1 ⟨x, H1, I1, rx, a, ex, d, q1⟩ => ?_)
  subst ex
  obtain rfl : u = Value.ref a := rx
  obtain ⟨t1, t2, _⟩ := isD_at I1 d
  refine ⟨t1, t2, ?_⟩
  rw [m.trees]
  refine Calls.callWith_builtin rfl (Calls.evalArgs_plain (Calls.spliced_cons (thn (he.run pins s1 σ H1 _ I1 q1) fun iv s2 ⟨y, H2, I2, ry, q2⟩ =>
    Calls.spliced_cons (thn (hf.run pins s2 σ H2 _ I2 q2) fun fv s3 ⟨z, H3, I3, rz, kvs, k, g, ey, hl, q3, q4⟩ => Calls.spliced_nil ?_))))
  subst ey
  exact d_setd I3 g hl ry rz (fun v w' s4 hv I4 rw' => ⟨v, H3, I4, rw', q3 v hv⟩) (fun hn s4 I4 => ⟨z, _, I4, rz, q4 hn⟩)
section
variable {X : Cx} {N : List Str} {sc scope : Scope} {own : Str → Bool} {κ α β γ δ ε ρ ν ν' τ : Type} [DecidableEq κ] {A : Ty α} {e a b c f k : Expr} {es rest : List Expr} {ss : List Stmt} {x y : Str} {pos p p' apos cpos : Pos} {Γ Γ' gx : List Slot} {L : γ → List Rg} {s : γ} {xt : XT ε} {L0 L1 : List Rg} {q : Addr}
  {gn : ν → List Slot} {ln : ν → List Rg} {rt : RT ρ}
def dSetd {κ α : Type} [DecidableEq κ] (kvs : List (κ × α)) (k : κ) (v : α) : List (κ × α) := if (dGet kvs k).isSome then kvs else dPut kvs k v
theorem sf_setd {T : Ty κ} {enc : κ → Key} {inj : ∀ a b, enc a = enc b → a = b} {hT : ∀ I v k, T.rep I v k ↔ v = kV (enc k)} {kv : List (κ × α)} {R : List Rg} {key : κ} {v : α} {kk : List (κ × α) → Out ε ρ ν} (hd : EP X e Γ L0 (tCell q) ()) (hk : EP X k Γ L0 T key) (hf : EP X f Γ L0 A v) (hL : L0.Perm (cell q (cDic (ktOne T enc inj hT) A kv) :: R))
    (hr : ∀ d, SF X ss Γ (cell q (cDic (ktOne T enc inj hT) A d) :: R) gn ln rt xt gx (kk d)) (m : M2 X e "setdefault" apos k f cpos) (hs : swapsWith (.Call (.Attribute e "setdefault" apos) [k, f] [] cpos) none pos.line X.env = pure false := by rfl) :
    SF X (.Expr (.Call (.Attribute e "setdefault" apos) [k, f] [] cpos) pos :: ss) Γ L0 gn ln rt xt gx (if kv.length < sizeLine then Out.lt (dSetd kv key v) kk else .stuck) := fun I σ F H D fr th => by
  refine PSs_to (pss_cons (ps_expr (pe_setd pe_w pe_w pe_w m) hs) pss_w) ?_
  refine hd.run fr fun I1 vo H1 e1 fr1 ro => ?_
  cases (show vo = .ref q from ro)
  have get : ∀ {I2 H2}, FrOk I2 σ Γ (L0 ++ F) H2 → ∃ ws, H2 q = some (.dK (ws.map fun p => (enc p.1, p.2))) ∧ PD A I2 ws kv := fun {I2 H2} f2 => by
    obtain ⟨o, ho, ⟨ws, rfl, pd⟩, _⟩ := Sep.get (f2.sep.perm (hL.append_right F))
    exact ⟨ws, ho, pd⟩
  obtain ⟨ws0, h0, _⟩ := get fr1
  refine ⟨q, rfl, .inl ⟨_, .inl h0⟩, ?_⟩
  refine hk.run fr1 fun I2 vk H2 e2 fr2 rk => ?_
  refine hf.run fr2 fun I3 z H3 e3 fr3 rz => ?_
  obtain ⟨ws, h3, pd⟩ := get fr3
  by_cases hz : kv.length < sizeLine
  · rw [if_pos hz] at th
    have g := pd.get key
    have th3 : SThen X I3 F gn ln rt xt gx D (kk (dSetd kv key v)) := sthen_up ((e1.trans e2).trans e3) th
    refine ⟨_, enc key, h3, (hT _ _ _).mp rk, by rw [List.length_map, pd.len]; exact hz, fun w hw => ?_, fun hw => ?_⟩
    · rw [valV_enc inj] at hw
      rw [hw] at g
      cases h2 : dGet kv key with
      | none => rw [h2] at g; exact g.elim
      | some d =>
        have : dSetd kv key v = kv := by unfold dSetd; rw [h2]; rfl
        rw [this] at th3
        exact hr kv I3 σ F H3 D (fr3.perm (hL.append_right F)) th3
    · rw [valV_enc inj] at hw
      rw [hw] at g
      cases h2 : dGet kv key with
      | some d => rw [h2] at g; exact g.elim
      | none =>
        have : dSetd kv key v = dPut kv key v := by unfold dSetd; rw [h2]; rfl
        rw [this] at th3
        have se : Sep I3 (cell q (cDic (ktOne T enc inj hT) A kv) :: (R ++ F)) H3 := fr3.sep.perm (hL.append_right F)
        exact hr _ I3 σ F _ D (fr3.step (Same.refl _) (se.put ⟨putK ws key z, by rw [putK_enc inj]; rfl, pd.put key rz⟩)) th3
  · rw [if_neg hz] at th; exact th.elim
end
end Fw


namespace Fw
open PySem L2
/-! ## 90. more of own lists -/
section
variable {X : Cx} {N : List Str} {sc scope : Scope} {own : Str → Bool} {α β γ δ ε ρ ν ν' τ : Type} {A : Ty α} {B : Ty β} {C : Ty δ} {T : Tys τ} {e a b c f k : Expr} {es rest : List Expr} {ss : List Stmt} {x y z : Str} {pos p p' apos cpos : Pos} {Γ Γ' gx : List Slot} {L : γ → List Rg} {s : γ} {xt : XT ε} {L0 L1 : List Rg} {q : Addr}
  {gn : ν → List Slot} {ln : ν → List Rg} {rt : RT ρ}
/-- xs.extend(e) -/
theorem sf_extend {m : Res ε (List α × γ)} {xs : γ → List α} {R : γ → List Rg} {k : List α → γ → Out ε ρ ν} (ha : EP X a Γ (L s) (tCell q) ()) (he : EF X e Γ L s (tLst A) xt m) (hL : ∀ s, (L s).Perm (cell q (cLst A (xs s)) :: R s))
    (hr : ∀ d s, SF X ss Γ (cell q (cLst A (xs s ++ d)) :: R s) gn ln rt xt gx (k d s)) (wk : Wk Γ gx := by first | exact Wk.nil | exact Wk.rfl)
    (hbase : attributeBase a "extend" X.env (eval a X.env) = eval a X.env := by rfl)
    (hfew : ((backTo p (starEach (e :: []) X.env)).all (fun x => !x.1) && (backToKw p (keywordEach [] X.env)).all (fun x => x.1.isSome)
      && decide ((e :: []).length + ([] : List Keyword).length + (if ([] : List Keyword).isEmpty then 0 else 1) < 30)) = true := by rfl)
    (hline : (apos.endLine == p.line) = true := by rfl) (hs : starEach (e :: []) X.env = (false, eval e X.env) :: starEach [] X.env := by exact star_c rfl) (hplain : (backTo p (starEach [] X.env)).any (·.1) = false := by rfl)
    (hsw : swapsWith (.Call (.Attribute a "extend" apos) [e] [] p) none pos.line X.env = pure false := by rfl) :
    SF X (.Expr (.Call (.Attribute a "extend" apos) [e] [] p) pos :: ss) Γ (L s) gn ln rt xt gx (Out.bnd m fun d s' => if (xs s').length + d.length ≤ sizeLine then k d s' else .stuck) := fun I σ F H D fr th => by
  refine PSs_to (pss_cons (ps_expr (pe_bm PySem.F.plainAttrs_list PySem.F.slot_list_extend PySem.F.type_list_extend mt_extend pe_w (pa_cons pe_w pa_nil hs) hbase hfew hline hs hplain) hsw) pss_w) ?_
  refine ha.run fr fun I0 va H0 e0 fr0 ra => ?_
  cases ra
  have se0 : Sep I0 (cell q (cLst A (xs s)) :: (R s ++ F)) H0 := fr0.sep.perm ((hL s).append_right F)
  obtain ⟨o0, ho0, ⟨vs0, rfl, hv0⟩, _⟩ := se0.get
  refine ⟨.inl ⟨rfl, vs0, .of ho0⟩, ?_⟩
  refine SThen.bnd he wk fr0 (sthen_up e0 th) fun I1 v H1 d s1 e1 fr1 r th1 => ?_
  have se : Sep I1 (cell q (cLst A (xs s1)) :: (R s1 ++ F)) H1 := fr1.sep.perm ((hL s1).append_right F)
  obtain ⟨o, ho, ⟨vs, rfl, hv⟩, _⟩ := se.get
  obtain ⟨b, ws, rfl, hb, hw⟩ := r
  by_cases hz : (xs s1).length + d.length ≤ sizeLine
  · rw [if_pos hz] at th1
    exact ⟨q, b, vs, ws, rfl, rfl, ho, fr1.sep.same _ _ hb, by rw [paired_len hv, paired_len hw]; exact hz, hr d s1 I1 σ F _ D (fr1.step (Same.refl _) (se.put ⟨_, rfl, paired_app hv hw⟩)) th1⟩
  · rw [if_neg hz] at th1
    exact th1.elim
/-- xs.clear() -/
theorem sf_clear {xs : List α} {R : List Rg} {k : List α → Out ε ρ ν} (ha : EP X a Γ L0 (tCell q) ()) (hL : L0.Perm (cell q (cLst A xs) :: R))
    (hr : ∀ ys, SF X ss Γ (cell q (cLst A ys) :: R) gn ln rt xt gx (k ys))
    (hbase : attributeBase a "clear" X.env (eval a X.env) = eval a X.env := by rfl) (hline : (apos.endLine == p.line) = true := by rfl)
    (hsw : swapsWith (.Call (.Attribute a "clear" apos) [] [] p) none pos.line X.env = pure false := by rfl) :
    SF X (.Expr (.Call (.Attribute a "clear" apos) [] [] p) pos :: ss) Γ L0 gn ln rt xt gx (Out.lt [] k) := fun I σ F H D fr th => by
  refine PSs_to (pss_cons (ps_expr (pe_bm0 PySem.F.plainAttrs_list PySem.F.slot_list_clear PySem.F.type_list_clear mt_clear pe_w hbase hline) hsw) pss_w) ?_
  refine ha.run fr fun I0 va H0 e0 fr0 ra => ?_
  cases ra
  have se0 : Sep I0 (cell q (cLst A xs) :: (R ++ F)) H0 := fr0.sep.perm (hL.append_right F)
  obtain ⟨o0, ho0, ⟨vs0, rfl, hv0⟩, _⟩ := se0.get
  refine ⟨.inl ⟨rfl, vs0, .of ho0⟩, q, vs0, rfl, rfl, ho0, ?_⟩
  exact hr [] I0 σ F _ D (fr0.step (Same.refl _) (se0.put ⟨_, rfl, .nil⟩)) (sthen_up e0 th)
/-- xs.insert(i, e) -/
theorem sf_insert {m : Res ε ((Int × α × Unit) × γ)} {xs : γ → List α} {R : γ → List Rg} {k : (Int × α × Unit) → γ → Out ε ρ ν} (ha : EP X a Γ (L s) (tCell q) ()) (he : AF X [f, e] Γ L s (Tys2 tInt A) xt m) (hL : ∀ s, (L s).Perm (cell q (cLst A (xs s)) :: R s))
    (hr : ∀ d s, SF X ss Γ (cell q (cLst A ((xs s).take d.1.toNat ++ [d.2.1] ++ (xs s).drop d.1.toNat)) :: R s) gn ln rt xt gx (k d s)) (wk : Wk Γ gx := by first | exact Wk.nil | exact Wk.rfl)
    (hbase : attributeBase a "insert" X.env (eval a X.env) = eval a X.env := by rfl)
    (hfew : ((backTo p (starEach [f, e] X.env)).all (fun x => !x.1) && (backToKw p (keywordEach [] X.env)).all (fun x => x.1.isSome)
      && decide ([f, e].length + ([] : List Keyword).length + (if ([] : List Keyword).isEmpty then 0 else 1) < 30)) = true := by rfl)
    (hline : (apos.endLine == p.line) = true := by rfl) (hs : starEach [f, e] X.env = (false, eval f X.env) :: starEach [e] X.env := by exact star_c rfl) (hplain : (backTo p (starEach [e] X.env)).any (·.1) = false := by rfl)
    (hsw : swapsWith (.Call (.Attribute a "insert" apos) [f, e] [] p) none pos.line X.env = pure false := by rfl) :
    SF X (.Expr (.Call (.Attribute a "insert" apos) [f, e] [] p) pos :: ss) Γ (L s) gn ln rt xt gx (Out.bnd m fun d s' => if (xs s').length < sizeLine ∧ 0 ≤ d.1 ∧ d.1 < 2 ^ 63 then k d s' else .stuck) := fun I σ F H D fr th => by
  refine PSs_to (pss_cons (ps_expr (pe_bm PySem.F.plainAttrs_list PySem.F.slot_list_insert PySem.F.type_list_insert mt_insert pe_w pa_w hbase hfew hline hs hplain) hsw) pss_w) ?_
  refine ha.run fr fun I0 va H0 e0 fr0 ra => ?_
  cases ra
  have se0 : Sep I0 (cell q (cLst A (xs s)) :: (R s ++ F)) H0 := fr0.sep.perm ((hL s).append_right F)
  obtain ⟨o0, ho0, ⟨vs0, rfl, hv0⟩, _⟩ := se0.get
  refine ⟨.inl ⟨rfl, vs0, .of ho0⟩, ?_⟩
  have th0 := sthen_up e0 th
  refine he I0 σ F H0 _ fr0 ?_
  cases m with
  | stuck => exact th0
  | exn y => exact fun I' H' c da e1 fr1 r => th0 I' σ H' c da e1 fr1.sep (fr1.sl.wk wk) r
  | val pr =>
    intro I1 vs H1 e1 fr1 r
    have th1 := sthen_up e1 th0
    obtain ⟨d, s1⟩ := pr
    obtain ⟨v, w, rfl, rv, rw⟩ := tys2 r
    cases rv
    have se : Sep I1 (cell q (cLst A (xs s1)) :: (R s1 ++ F)) H1 := fr1.sep.perm ((hL s1).append_right F)
    obtain ⟨o, ho, ⟨vs, rfl, hv⟩, _⟩ := se.get
    have th1 : SThen X I1 F gn ln rt xt gx D (if (xs s1).length < sizeLine ∧ 0 ≤ d.1 ∧ d.1 < 2 ^ 63 then k d s1 else .stuck) := th1
    by_cases hz : (xs s1).length < sizeLine ∧ 0 ≤ d.1 ∧ d.1 < 2 ^ 63
    · rw [if_pos hz] at th1
      exact ⟨q, vs, d.1, w, rfl, rfl, ho, by rw [paired_len hv]; exact hz.1, hz.2.1, hz.2.2, hr d s1 I1 σ F _ D (fr1.step (Same.refl _) (se.put ⟨_, rfl, paired_app (paired_app (paired_take _ hv) (.cons rw .nil)) (paired_drop _ hv)⟩)) th1⟩
    · rw [if_neg hz] at th1
      exact th1.elim
/-- v = xs.pop() -/
theorem sf_popT {T : Tys τ} {u : List Slot → τ → List Slot} {vs : List Nat} {kk : Nat} {tpos : Pos} {xs : List τ} {R : List Rg} {k : τ → List τ → Out ε ρ ν} (hg : GF X (.Tuple es kk tpos) (tTup T) u vs) (ha : EP X a Γ L0 (tCell q) ()) (hL : L0.Perm (cell q (cLst (tTup T) xs) :: R))
    (hr : ∀ d ys, SF X ss (u Γ d) (cell q (cLst (tTup T) ys) :: R) gn ln rt xt gx (k d ys))
    (hbase : attributeBase a "pop" X.env (eval a X.env) = eval a X.env := by rfl) (hline : (apos.endLine == p.line) = true := by rfl)
    (hs : swapsWithSole [.Tuple es kk tpos] (.Call (.Attribute a "pop" apos) [] [] p) pos.line X.env = pure false := by rfl) (hw : swappedStores [.Tuple es kk tpos] (.Call (.Attribute a "pop" apos) [] [] p) X.env = pure none := by rfl) :
    SF X (.Assign [.Tuple es kk tpos] (.Call (.Attribute a "pop" apos) [] [] p) pos :: ss) Γ L0 gn ln rt xt gx (match xs.getLast? with | some d => k d xs.dropLast | none => .stuck) := fun I σ F H D fr th => by
  obtain ⟨g, pg, gq⟩ := hg
  refine PSs_to (pss_cons (ps_asg (pe_bm0 PySem.F.plainAttrs_list PySem.F.slot_list_pop PySem.F.type_list_pop mt_pop pe_w hbase hline) pg hs hw) pss_w) ?_
  refine ha.run fr fun I0 va H0 e0 fr0 ra => ?_
  cases ra
  have se0 : Sep I0 (cell q (cLst (tTup T) xs) :: (R ++ F)) H0 := fr0.sep.perm (hL.append_right F)
  obtain ⟨o0, ho0, ⟨ws, rfl, hv0⟩, _⟩ := se0.get
  have hl := paired_len hv0
  refine ⟨.inl ⟨rfl, ws, .of ho0⟩, q, ws, ?_⟩
  cases hx : xs.getLast? with
  | none => rw [hx] at th; exact th.elim
  | some d =>
    rw [hx] at th
    have hx2 : xs[xs.length - 1]? = some d := by rw [← List.getLast?_eq_getElem?]; exact hx
    have hpos : 0 < xs.length := by
      cases xs with
      | nil => cases hx
      | cons _ _ => exact Nat.succ_pos _
    obtain ⟨w, hw1⟩ : ∃ w, ws[ws.length - 1]? = some w := ⟨_, List.getElem?_eq_getElem (by omega)⟩
    obtain ⟨d', hd', rw'⟩ := paired_get hv0 hw1
    rw [hl, hx2] at hd'
    cases hd'
    refine ⟨w, rfl, rfl, ho0, hw1, ?_⟩
    refine gq I0 σ Γ _ _ w d _ (fr0.step (Same.refl _) (Sep.put (ψ := cLst (tTup T) xs.dropLast) se0 ⟨ws.dropLast, rfl, ?_⟩)) rw' fun I2 σ2 H2 e2 fr2 _ _ => ?_
    · rw [List.dropLast_eq_take, List.dropLast_eq_take, hl]; exact paired_take _ hv0
    · exact hr d _ I2 σ2 F H2 D fr2 (sthen_up (e0.trans e2) th)
/-! ## 91. narrowing, parallel assignment, lists of unlike things -/
theorem ef_unopt [Inhabited α] {m : Res ε (Option α × γ)} (h : EF X e Γ L s (tOpt A) xt m) : EF X e Γ L s A xt (m.bnd fun x s => Res.grd (x.isSome = true) (x.getD default, s)) := fun I σ F H Q fr th => by
  refine Then.bnd h fr th fun I1 v H1 d s1 e1 fr1 rv th1 => ?_
  obtain ⟨hp, th2⟩ := Then.grd th1
  cases d with
  | none => cases hp
  | some d => exact th2 I1 v H1 (Same.refl _) fr1 rv.2
/-- x, y = a, b -/
theorem sf_par {m : Res ε ((α × β × Unit) × γ)} {kk : (α × β × Unit) → γ → Out ε ρ ν} {px py pt pos : Pos} {kt k2 pt2} (cx : Cxt X N sc own) (cc : Calm X) (i j : Nat) (ha : AF X [a, b] Γ L s (Tys2 A B) xt m) (hr : ∀ d s', SF X ss ((Γ.set i (.dat A d.1)).set j (.dat B d.2.1)) (L s') gn ln rt xt gx (kk d s'))
    (hi : N[i]? = some x := by rfl) (hj : N[j]? = some y := by rfl) (hij : i ≠ j := by decide) (hx : sc.names.lookup x = some .local := by decide +kernel) (hy : sc.names.lookup y = some .local := by decide +kernel) (wk : Wk Γ gx := by first | exact Wk.nil | exact Wk.rfl)
    (hw : swappedStores [.Tuple [.Name x px, .Name y py] kt pt] (.Tuple [a, b] k2 pt2) X.env = pure (some [x, y]))
    (hs : swapsWithSole [.Tuple [.Name x px, .Name y py] kt pt] (.Tuple [a, b] k2 pt2) pos.line X.env = pure false := by rfl) :
    SF X (.Assign [.Tuple [.Name x px, .Name y py] kt pt] (.Tuple [a, b] k2 pt2) pos :: ss) Γ (L s) gn ln rt xt gx (Out.bnd m kk) := fun I σ F H D fr th => by
  refine PSs_to (pss_cons (ps_par cc.calm (by rw [cx.hN]; exact cx.nd) (by rw [cx.hN]; exact hi) (by rw [cx.hN]; exact hj) hij (by rw [cx.hsc]; exact hx) (by rw [cx.hsc]; exact hy) pa_w hw hs) pss_w) ?_
  refine ha I σ F H _ fr ?_
  cases m with
  | stuck => exact th
  | exn y => exact fun I' H' c da e1 fr1 r => th I' σ H' c da e1 fr1.sep (fr1.sl.wk wk) r
  | val pr =>
    intro I1 vs H1 e1 fr1 r
    obtain ⟨v, w, rfl, rv, rw⟩ := tys2 r
    exact ⟨v, w, rfl, hr pr.1 pr.2 I1 _ F H1 D ((fr1.set rv i).set rw j) (sthen_up e1 th)⟩
abbrev Tys3 (A : Ty α) (B : Ty β) (C : Ty δ) : Tys (α × β × δ × Unit) := Tys.cons A (Tys.cons B (Tys.cons C Tys.nil))
theorem tys3 {I : Hp} {vs : List V} {t : α × β × δ × Unit} (h : (Tys3 A B C).rep I vs t) : ∃ u v w, vs = [u, v, w] ∧ A.rep I u t.1 ∧ B.rep I v t.2.1 ∧ C.rep I w t.2.2.1 := by
  obtain ⟨u, xs, rfl, h1, v, ys, rfl, h2, w, zs, rfl, h3, rfl⟩ := h
  exact ⟨u, v, w, rfl, h1, h2, h3⟩
theorem sf_par3 {m : Res ε ((α × β × δ × Unit) × γ)} {kk : (α × β × δ × Unit) → γ → Out ε ρ ν} {px py pz pt pos : Pos} {kt k2 pt2} (cx : Cxt X N sc own) (cc : Calm X) (i j l : Nat) (ha : AF X [a, b, c] Γ L s (Tys3 A B C) xt m) (hr : ∀ d s', SF X ss (((Γ.set i (.dat A d.1)).set j (.dat B d.2.1)).set l (.dat C d.2.2.1)) (L s') gn ln rt xt gx (kk d s'))
    (hi : N[i]? = some x := by rfl) (hj : N[j]? = some y := by rfl) (hl : N[l]? = some z := by rfl) (hij : i ≠ j := by decide) (hil : i ≠ l := by decide) (hjl : j ≠ l := by decide) (hx : sc.names.lookup x = some .local := by decide +kernel) (hy : sc.names.lookup y = some .local := by decide +kernel) (hz : sc.names.lookup z = some .local := by decide +kernel) (wk : Wk Γ gx := by first | exact Wk.nil | exact Wk.rfl)
    (hw : swappedStores [.Tuple [.Name x px, .Name y py, .Name z pz] kt pt] (.Tuple [a, b, c] k2 pt2) X.env = pure (some [x, y, z]))
    (hs : swapsWithSole [.Tuple [.Name x px, .Name y py, .Name z pz] kt pt] (.Tuple [a, b, c] k2 pt2) pos.line X.env = pure false := by rfl) :
    SF X (.Assign [.Tuple [.Name x px, .Name y py, .Name z pz] kt pt] (.Tuple [a, b, c] k2 pt2) pos :: ss) Γ (L s) gn ln rt xt gx (Out.bnd m kk) := fun I σ F H D fr th => by
  refine PSs_to (pss_cons (ps_par3 cc.calm (by rw [cx.hN]; exact cx.nd) (by rw [cx.hN]; exact hi) (by rw [cx.hN]; exact hj) (by rw [cx.hN]; exact hl) hij hil hjl (by rw [cx.hsc]; exact hx) (by rw [cx.hsc]; exact hy) (by rw [cx.hsc]; exact hz) pa_w hw hs) pss_w) ?_
  refine ha I σ F H _ fr ?_
  cases m with
  | stuck => exact th
  | exn y => exact fun I' H' c da e1 fr1 r => th I' σ H' c da e1 fr1.sep (fr1.sl.wk wk) r
  | val pr =>
    intro I1 vs H1 e1 fr1 r
    obtain ⟨u, v, w, rfl, ru, rv, rw⟩ := tys3 r
    exact ⟨u, v, w, rfl, hr pr.1 pr.2 I1 _ F H1 D (((fr1.set ru i).set rv j).set rw l) (sthen_up e1 th)⟩
/-- a list of things of written types, immutable -/
def tLTup {τ : Type} (T : Tys τ) : Ty τ := ⟨fun I v d => ∃ p vs, v = .ref p ∧ I p = some (.lst vs) ∧ T.rep I vs d, fun e ⟨p, vs, a, b, c⟩ => ⟨p, vs, a, e _ _ b, T.mono e c⟩⟩
theorem ef_ltup {m : Res ε (τ × γ)} (h : AF X es Γ L s T xt m) (hl : es.length ≤ 1000 := by decide) (hT : ∀ t, (T.slots t).length = es.length := by intro _; rfl) : EF X (.List es pos) Γ L s (tLTup T) xt m := fun I σ F H Q fr th => by
  refine PE_to (pe_lst pa_w) ?_
  refine h I σ F H _ fr ?_
  cases m with
  | stuck => exact th
  | exn x => exact th
  | val p =>
    intro I1 vs H1 e1 fr1 rv
    refine ⟨?_, fun q hq => ?_⟩
    · rw [T.len rv, hT]; exact Nat.le_trans hl (by decide)
    · exact th (upd I1 q (.lst vs)) _ _ (e1.trans (Same.upd (fr1.sep.same.free hq))) (fr1.step (Same.upd (fr1.sep.same.free hq)) (fr1.sep.imm hq)) ⟨q, vs, rfl, upd_same, T.mono (Same.upd (fr1.sep.same.free hq)) rv⟩
theorem ep_ltup {t : τ} (h : AP' X es Γ L0 T t) (hl : es.length ≤ 1000 := by decide) (hT : ∀ t, (T.slots t).length = es.length := by intro _; rfl) : EP X (.List es pos) Γ L0 (tLTup T) t := ef_ltup (γ := Unit) (L := fun _ => L0) h hl hT
theorem ep_ixLTup {t : τ} {d : α} {i : Int} {k2 p2} (h : EP X a Γ L0 (tLTup T) t) (j : Nat) (hj : (T.slots t)[j]? = some (.dat A d) := by rfl) (hi : i = (j : Int) := by rfl) (hs : PlainIx (.Constant (.int i) k2 p2) := by exact fun _ _ => rfl) : EP X (.Subscript a (.Constant (.int i) k2 p2) pos) Γ L0 A d := fun I σ F H Q fr th => by
  refine PE_to (pe_ix ix_list pe_w pe_int hs) ?_
  refine h.run fr fun I1 v H1 e1 fr1 rv => ?_
  obtain ⟨p, vs, rfl, hp, r⟩ := rv
  have ok := T.ok r j _ hj
  obtain ⟨w, hw, rw⟩ := ok
  subst hi
  refine ⟨p, vs, (j : Int), w, rfl, rfl, .of (fr1.sep.same _ _ hp), ?_, th I1 w H1 e1 fr1 rw⟩
  have hlt : j < vs.length := (List.getElem?_eq_some_iff.mp hw).1
  show atI vs (j : Int) = some w
  unfold atI ixN
  rw [if_pos (by omega), if_pos (by omega)]
  exact hw
def dLTup {τ : Type} (cs : τ → List PyData) (p : τ) : PyData := .list (cs p)
theorem coe_ltup {cs : τ → List PyData} (h : CoesOk T cs) : CoeOk (tLTup T) (dLTup cs) := fun K I v d q => by
  obtain ⟨p, vs, rfl, h1, h2⟩ := q
  exact .lst (.of h1) (h K I _ _ h2)
/-- isinstance of a thing that is known -/
theorem nn_ltup : NotNon (tLTup T) := fun I v d h => by obtain ⟨p, vs, rfl, _⟩ := h; exact fun z => nomatch z
end

/-! ## 92. zip; lending, more widely -/
def zipL {α β : Type} (xs : List α) (ys : List β) : List (α × β × Unit) := List.zipWith (fun x y => (x, y, ())) xs ys
theorem zipL_get {α β : Type} {xs : List α} {ys : List β} {i : Nat} {d : α × β × Unit} (h : (zipL xs ys)[i]? = some d) : xs[i]? = some d.1 ∧ ys[i]? = some d.2.1 := by
  unfold zipL at h
  rw [List.getElem?_zipWith] at h
  cases hx : xs[i]? with
  | none => rw [hx] at h; simp at h
  | some x =>
    cases hy : ys[i]? with
    | none => rw [hx, hy] at h; simp at h
    | some y => rw [hx, hy] at h; simp at h; subst h; exact ⟨rfl, rfl⟩
theorem zipL_len {α β : Type} (xs : List α) (ys : List β) : (zipL xs ys).length = min xs.length ys.length := by unfold zipL; rw [List.length_zipWith]
section
variable {X : Cx} {N : List Str} {sc scope : Scope} {own : Str → Bool} {α β γ δ ε ρ ν ν' τ : Type} {A : Ty α} {B : Ty β} {C : Ty δ} {T : Tys τ} {e e2 a b c f k : Expr} {es rest elts : List Expr} {ss : List Stmt} {x y z : Str} {pos p p' apos cpos tpos : Pos} {kk : Nat} {Γ Γ' gx : List Slot} {L : γ → List Rg} {s : γ} {xt : XT ε} {L0 L1 : List Rg} {q : Addr}
  {gn : ν → List Slot} {ln : ν → List Rg} {rt : RT ρ}
theorem if_zip {m : Res ε ((List α × List β × Unit) × γ)} (cx : Cxt X N sc own) (hm : X.mg "zip" = none) (h : AF X [e, e2] Γ L s (Tys2 (tLst A) (tLst B)) xt m) (hg : glB sc "zip" = true := by decide +kernel) (hs : starEach [e, e2] X.env = (false, eval e X.env) :: starEach [e2] X.env := by exact star_c rfl) (hpl : (backTo pos (starEach [e2] X.env)).any (·.1) = false := by rfl) :
    IF X (.Tuple elts kk tpos) (.Call (.Name "zip" p) [e, e2] [] pos) Γ L s (tTup (Tys2 A B)) xt (m.bnd fun t s => .val (zipL t.1 t.2.1, s)) := ⟨_, pi_zip (glB_gl cx hg).1 hm pa_w hs hpl, fun I σ F H R fr th => by
  refine h I σ F H _ fr ?_
  cases m with
  | stuck => exact th
  | exn x => exact th
  | val q =>
    obtain ⟨t, s1⟩ := q
    intro I1 v H1 e1 fr1 r
    obtain ⟨v, w, rfl, ⟨a, vs, rfl, h1, h2⟩, ⟨b, ws, rfl, h3, h4⟩⟩ := tys2 r
    have hl : vs.length = t.1.length := paired_len h2
    have hl2 : ws.length = t.2.1.length := paired_len h4
    refine ⟨a, b, vs, ws, rfl, .of (fr1.sep.same _ _ h1), .of (fr1.sep.same _ _ h3), th _ I1 H1 e1 fr1 fun I2 L2 H2 e2 se i => ?_⟩
    have sq : SqL X.K H2 a vs := .of ((e2.trans se.same) _ _ h1)
    have sq2 : SqL X.K H2 b ws := .of ((e2.trans se.same) _ _ h3)
    have hn := zipL_len t.1 t.2.1
    refine ⟨fun hi => ⟨vs, ws, sq, sq2, ?_⟩, fun hi => ?_⟩
    · have hi : i = (zipL t.1 t.2.1).length := hi
      omega
    · have hi : i < (zipL t.1 t.2.1).length := hi
      have i1 : i < vs.length := by omega
      have i2 : i < ws.length := by omega
      refine ⟨⟨vs, ws, vs[i]'i1, ws[i]'i2, sq, sq2, by simp, by simp⟩, fun x H' y => ?_⟩
      obtain ⟨T, x, z, rfl, hT, rfl, y1, y2⟩ := y
      refine ⟨upd I2 T (.tup [x, z]), Same.upd (se.same.free hT), se.imm hT, fun d hd => ?_⟩
      obtain ⟨g1, g2⟩ := zipL_get (show (zipL t.1 t.2.1)[i]? = some d from hd)
      obtain ⟨d1, hd1, r1⟩ := paired_get h2 (y1 vs sq)
      obtain ⟨d2, hd2, r2⟩ := paired_get h4 (y2 ws sq2)
      rw [g1] at hd1
      rw [g2] at hd2
      cases hd1
      cases hd2
      exact ⟨T, _, rfl, upd_same, _, _, rfl, A.mono (e2.trans (Same.upd (se.same.free hT))) r1, _, _, rfl, B.mono (e2.trans (Same.upd (se.same.free hT))) r2, rfl⟩⟩
/-- how slots look while q's content is lent -/
def SlotTo (Γ Γ' : List Slot) (q : Addr) (φ : CP) : Prop := Γ'.length = Γ.length ∧ ∀ (I0 I : Hp) (σ : St) (o : HO), I0 q = none → φ.h I0 o → Same (upd I0 q o) I → SlotsOk I0 σ Γ → SlotsOk I σ Γ'
/-- lent: the slot i, which holds it -/
theorem slotTo_lst {xs : List α} {i : Nat} (hi : Γ[i]? = some (.dat (tCell q) ())) : SlotTo Γ (Γ.set i (.dat (tLst A) xs)) q (cLst A xs) := ⟨by rw [List.length_set], fun I0 I σ o hq ⟨vs, e, pd⟩ sm ok => by
  have e0 : Same I0 I := fun b u hb => sm b u (by rw [upd_ne (ne_of_none hb hq)]; exact hb)
  intro j s hj
  by_cases hij : i = j
  · subst hij
    have il : i < Γ.length := (List.getElem?_eq_some_iff.mp hi).1
    rw [List.getElem?_set_self il] at hj
    cases hj
    obtain ⟨v, hv, hr⟩ := ok i _ hi
    have hr : v = .ref q := hr
    exact ⟨v, hv, q, vs, hr, sm _ _ (by rw [upd_same, e]), paired_mono e0 pd⟩
  · rw [List.getElem?_set_ne hij] at hj
    exact (ok j s hj).mono e0⟩
theorem lend_frame {φ : CP} {L1 : γ → List Rg} {R : List Rg} {Γ' : List Slot} (hst : SlotTo Γ Γ' q φ) (hle : ∀ I o, φ.h I o → Lent (some o)) (hp : ∀ s, (L s).Perm (L1 s ++ (cell q φ :: R))) {I : Hp} {σ : St} {F : List Rg} {H : Hp} (fr : FrOk I σ Γ (L s ++ F) H) :
    ∃ (o : HO) (E : List Rg), I q = none ∧ Lent (some o) ∧ FrOk (upd I q o) σ Γ' (L1 s ++ E) H ∧ ∀ (I2 : Hp) (L2 : List Rg) (H2 : Hp), Same (upd I q o) I2 → (∀ c ∈ L2, FlatC c) → Sep I2 (L2 ++ E) H2 → Same I (minus I2 q) ∧ Lent (I2 q) ∧ Sep (minus I2 q) (L2 ++ (cell q φ :: (R ++ F))) H2 := by
  have se0 : Sep I (L1 s ++ (cell q φ :: (R ++ F))) H := by
    have := fr.sep.perm ((hp s).append_right F)
    rwa [List.append_assoc] at this
  obtain ⟨o, E, ho, hφ, hq, se1, back⟩ := lend_sep se0
  have le := hle I o hφ
  refine ⟨o, E, hq, le, ⟨se1, by rw [hst.1]; exact fr.len, hst.2 I _ σ o hq hφ (Same.refl _) fr.sl⟩, fun I2 L2 H2 e5 fl se2 => ?_⟩
  obtain ⟨m1, m2⟩ := back I2 L2 H2 e5 le fl se2
  exact ⟨m1, by rw [e5 _ _ upd_same]; exact le, m2⟩
theorem drop_app {I : Hp} {H : Hp} : ∀ (Ls : List Rg) {L' : List Rg}, Sep I (Ls ++ L') H → Sep I L' H
  | [], _, h => h
  | _ :: Ls, _, h => drop_app Ls h.tail
/-- e reads q's content as if it never changed -/
theorem ef_lendG {φ : CP} {mm : Res ε (δ × γ)} {L1 : γ → List Rg} {R : List Rg} {Γ' : List Slot} (hC : FlatT C) (hx : FlatX xt) (hfl : ∀ s, ∀ c ∈ L1 s, FlatC c) (hst : SlotTo Γ Γ' q φ) (hle : ∀ I o, φ.h I o → Lent (some o)) (hp : ∀ s, (L s).Perm (L1 s ++ (cell q φ :: R)))
    (h : EF X e Γ' L1 s C xt mm) : EF X e Γ L s C xt mm := fun I σ F H Q fr th => by
  obtain ⟨o, E, hq, le, fr1, back⟩ := lend_frame hst hle hp fr
  refine h _ σ E H Q fr1 ?_
  cases mm with
  | stuck => exact th
  | val p =>
    intro I' z H' e2 fr2 rz
    obtain ⟨m1, lq, m2⟩ := back I' (L1 p.2) H' e2 (hfl _) fr2.sep
    refine th (minus I' q) z H' m1 ⟨?_, fr.len, fr.sl.mono m1⟩ (hC _ _ _ _ lq rz)
    exact Sep.perm m2 (by rw [show L1 p.2 ++ (cell q φ :: (R ++ F)) = (L1 p.2 ++ (cell q φ :: R)) ++ F by simp]; exact ((hp p.2).symm).append_right F)
  | exn x =>
    intro I' H' c da e2 fr2 rz
    rw [(hx x).1] at fr2
    obtain ⟨m1, lq, m2⟩ := back I' [] H' e2 (fun c hc => by simp at hc) fr2.sep
    refine th (minus I' q) H' c da m1 ⟨?_, fr.len, fr.sl.mono m1⟩ ((hx x).2 _ _ _ _ lq rz)
    rw [(hx x).1]
    exact drop_app R m2.tail
/-- .. and hands back a new object -/
theorem en_lendG {φ : CP} {ψ : α → CP} {mm : Res ε (α × γ)} {L1 : γ → List Rg} {R : List Rg} {Γ' : List Slot} (hC : ∀ d r, FlatC (cell r (ψ d))) (hx : FlatX xt) (hfl : ∀ s, ∀ c ∈ L1 s, FlatC c) (hst : SlotTo Γ Γ' q φ) (hle : ∀ I o, φ.h I o → Lent (some o)) (hp : ∀ s, (L s).Perm (L1 s ++ (cell q φ :: R)))
    (h : EN X e Γ' L1 s ψ xt mm) : EN X e Γ L s ψ xt mm := fun I σ F H Q fr th => by
  obtain ⟨o, E, hq, le, fr1, back⟩ := lend_frame hst hle hp fr
  refine h _ σ E H Q fr1 ?_
  cases mm with
  | stuck => exact th
  | val p =>
    intro I' r H' e2 fr2
    obtain ⟨m1, lq, m2⟩ := back I' (cell r (ψ p.1) :: L1 p.2) H' e2 (fun c hc => by
      rcases List.mem_cons.mp hc with rfl | hc
      · exact hC _ _
      · exact hfl _ c hc) fr2.sep
    refine th (minus I' q) r H' m1 ⟨?_, fr.len, fr.sl.mono m1⟩
    exact Sep.perm m2 ((by rw [show L1 p.2 ++ (cell q φ :: (R ++ F)) = (L1 p.2 ++ (cell q φ :: R)) ++ F by simp]; exact ((hp p.2).symm).append_right F : (L1 p.2 ++ (cell q φ :: (R ++ F))).Perm (L p.2 ++ F)).cons _)
  | exn x =>
    intro I' H' c da e2 fr2 rz
    rw [(hx x).1] at fr2
    obtain ⟨m1, lq, m2⟩ := back I' [] H' e2 (fun c hc => by simp at hc) fr2.sep
    refine th (minus I' q) H' c da m1 ⟨?_, fr.len, fr.sl.mono m1⟩ ((hx x).2 _ _ _ _ lq rz)
    rw [(hx x).1]
    exact drop_app R m2.tail
theorem lent_lst {A : Ty α} {xs : List α} : ∀ I o, (cLst A xs).h I o → Lent (some o) := fun I o ⟨vs, e, _⟩ => by rw [e]; exact ⟨fun ys z => (by cases z), fun fs z => (by cases z)⟩
theorem lent_dic {κ : Type} [DecidableEq κ] {K : Kt κ} {A : Ty α} {kvs : List (κ × α)} : ∀ I o, (cDic K A kvs).h I o → Lent (some o) := fun I o ⟨ws, e, _⟩ => by rw [e]; exact K.lent ws
theorem flat_cellL {A : Ty α} (h : FlatT A) : ∀ (d : List α) (r : Addr), FlatC (cell r (cLst A d)) := fun d r => flat_cell h
theorem PD.flat {κ : Type} {A : Ty α} (h : FlatT A) {I : Hp} {q : Addr} (l : Lent (I q)) {ws : List (κ × V)} {kvs : List (κ × α)} (p : PD A I ws kvs) : PD A (minus I q) ws kvs := by
  unfold PD at p ⊢
  induction p with
  | nil => exact .nil
  | cons r _ ih => exact .cons ⟨r.1, h I q _ _ l r.2⟩ ih
theorem flat_cellD {κ : Type} [DecidableEq κ] {K : Kt κ} {A : Ty α} {q : Addr} {kvs : List (κ × α)} (h : FlatT A) : FlatC (cell q (cDic K A kvs)) := fun I R r l ⟨o, e, ws, e2, pd⟩ => ⟨o, e, ws, e2, pd.flat h l⟩
/-! lists of own lists: the outer one never changes -/
/-- [e1, e2], both new lists: they stay one's own -/
theorem sf_asgOuts {i : Nat} {m1 : Res ε (List α × γ)} {m2 : List α → γ → Res ε (List β × γ)} {kk : List α → List β → γ → Out ε ρ ν} (cx : Cxt X N sc own) (h1 : EN X a Γ L s (cLst A) xt m1) (h2 : ∀ q d s, EN X b Γ (fun s => cell q (cLst A d) :: L s) s (cLst B) xt (m2 d s))
    (hr : ∀ q1 q2 d1 d2 s', SF X ss (Γ.set i (.dat (tLTup (Tys2 (tCell q1) (tCell q2))) ((), (), ()))) (cell q2 (cLst B d2) :: cell q1 (cLst A d1) :: L s') gn ln rt xt gx (kk d1 d2 s')) (hreg : ∀ y, xt.regs y = []) (hi : N[i]? = some x := by rfl) (ho : own x = true := by decide +kernel) (wk : Wk Γ gx := by first | exact Wk.nil | exact Wk.rfl)
    (hst : starEach [a, b] X.env = (false, eval a X.env) :: starEach [b] X.env := by exact star_c rfl) (hst2 : starEach [b] X.env = (false, eval b X.env) :: starEach [] X.env := by exact star_c rfl)
    (hs : swapsWith (.List [a, b] cpos) (some (.Name x p)) pos.line X.env = pure false := by rfl) : SF X (.Assign [.Name x p] (.List [a, b] cpos) pos :: ss) Γ (L s) gn ln rt xt gx (Out.bnd m1 fun d1 s1 => Out.bnd (m2 d1 s1) fun d2 s2 => kk d1 d2 s2) := fun I σ F H D fr th => by
  obtain ⟨n1, n2⟩ := cx.st x ho
  refine PSs_to (pss_cons (ps_set (by rw [cx.hN]; exact cx.nd) (by rw [cx.hN]; exact hi) n1 (pe_lst (pa_cons pe_w (pa_cons pe_w pa_nil hst2) hst)) hs n2) pss_w) ?_
  refine SThen.bndN h1 wk fr th fun I1 q1 H1 d1 s1 e1 fr1 th1 => ?_
  refine (h2 q1 d1 s1) I1 σ F H1 _ fr1 ?_
  cases hm : m2 d1 s1 with
  | stuck => rw [hm] at th1; exact th1
  | exn y =>
    rw [hm] at th1
    exact fun I' H' c da e2 fr2 r => th1 I' σ H' c da e2 fr2.sep (fr2.sl.wk wk) r
  | val pr =>
    rw [hm] at th1
    intro I2 q2 H2 e2 fr2
    refine ⟨by show 2 ≤ sizeLine; decide, fun q3 hq3 => ?_⟩
    have e3 : Same I2 (upd I2 q3 (.lst [.ref q1, .ref q2])) := Same.upd (fr2.sep.same.free hq3)
    have fr3 := fr2.step e3 (fr2.sep.imm (o := .lst [.ref q1, .ref q2]) hq3)
    exact hr q1 q2 d1 pr.1 pr.2 _ _ F _ D (FrOk.set fr3 (A := tLTup (Tys2 (tCell q1) (tCell q2))) ⟨q3, _, rfl, upd_same, _, _, rfl, rfl, _, _, rfl, rfl, rfl⟩ i) (sthen_up (e2.trans e3) th1)

theorem slotTo_outs1 {T2 : Ty β} {t2 : β} {xs : List α} {i : Nat} {q1 : Addr} (hi : Γ[i]? = some (.dat (tLTup (Tys2 (tCell q1) T2)) ((), t2, ()))) : SlotTo Γ (Γ.set i (.dat (tLTup (Tys2 (tLst A) T2)) (xs, t2, ()))) q1 (cLst A xs) := ⟨by rw [List.length_set], fun I0 I σ o hq ⟨vs, e, pd⟩ sm ok => by
  have e0 : Same I0 I := fun b u hb => sm b u (by rw [upd_ne (ne_of_none hb hq)]; exact hb)
  intro j s hj
  by_cases hij : i = j
  · subst hij
    have il : i < Γ.length := (List.getElem?_eq_some_iff.mp hi).1
    rw [List.getElem?_set_self il] at hj
    cases hj
    obtain ⟨v, hv, p, ws, rfl, hp, a, as, rfl, ha, hr⟩ := ok i _ hi
    have ha : a = .ref q1 := ha
    refine ⟨.ref p, hv, p, _, rfl, e0 _ _ hp, a, as, rfl, ⟨q1, vs, ha, sm _ _ (by rw [upd_same, e]), paired_mono e0 pd⟩, (Tys.cons T2 Tys.nil).mono e0 hr⟩
  · rw [List.getElem?_set_ne hij] at hj
    exact (ok j s hj).mono e0⟩
theorem slotTo_outs2 {T1 : Ty β} {t1 : β} {xs : List α} {i : Nat} {q2 : Addr} (hi : Γ[i]? = some (.dat (tLTup (Tys2 T1 (tCell q2))) (t1, (), ()))) : SlotTo Γ (Γ.set i (.dat (tLTup (Tys2 T1 (tLst A))) (t1, xs, ()))) q2 (cLst A xs) := ⟨by rw [List.length_set], fun I0 I σ o hq ⟨vs, e, pd⟩ sm ok => by
  have e0 : Same I0 I := fun b u hb => sm b u (by rw [upd_ne (ne_of_none hb hq)]; exact hb)
  intro j s hj
  by_cases hij : i = j
  · subst hij
    have il : i < Γ.length := (List.getElem?_eq_some_iff.mp hi).1
    rw [List.getElem?_set_self il] at hj
    cases hj
    obtain ⟨v, hv, p, ws, rfl, hp, a, as, rfl, ha, b, bs, rfl, hb, rfl⟩ := ok i _ hi
    have hb : b = .ref q2 := hb
    exact ⟨.ref p, hv, p, _, rfl, e0 _ _ hp, a, _, rfl, T1.mono e0 ha, b, _, rfl, ⟨q2, vs, hb, sm _ _ (by rw [upd_same, e]), paired_mono e0 pd⟩, rfl⟩
  · rw [List.getElem?_set_ne hij] at hj
    exact (ok j s hj).mono e0⟩
theorem ep_ltup2 {x y : α} (h : EP X e Γ L0 (tLTup (Tys2 A A)) (x, y, ())) : EP X e Γ L0 (tLst A) [x, y] := fun I σ F H Q fr th => h I σ F H Q fr fun I' v H' e1 fr1 r => by
  obtain ⟨p, vs, rfl, hp, a, as, rfl, ha, b, bs, rfl, hb, rfl⟩ := r
  exact th I' _ H' e1 fr1 ⟨p, _, rfl, hp, .cons ha (.cons hb .nil)⟩
end
end Fw


namespace Fw
open PySem L2
/-! ## 100. sorted -/
theorem hu10 {A : Around} {k : Nat} (hr : Room k A) : A.units + 10 < cLine := Nat.lt_of_le_of_lt (Nat.add_le_add_left (by decide : 10 ≤ 64) _) hr.units
/-- what can be sorted, by the data -/
structure SrtK {α : Type} (k : α → PyData) : Prop where
  al : ∀ a b, PySem.W.alike (k a) (k b) = true
  st : (∀ b, ∃ x r, k b = .tuple (x :: r)) ∨ (∀ b, k b ≠ .none ∧ ∀ xs, k b ≠ .tuple xs)
  dp : ∀ b, (k b).depth ≤ 8
theorem srk_tx : SrtK dTx := ⟨fun _ _ => by simp [dTx, PySem.W.alike], .inr fun b => ⟨by simp [dTx], by simp [dTx]⟩, fun b => by simp [dTx, PyData.depth]⟩
theorem srk_int : SrtK PyData.int := ⟨fun _ _ => by simp [PySem.W.alike], .inr fun b => ⟨by simp, by simp⟩, fun b => by simp [PyData.depth]⟩
theorem srk_pat : SrtK (dTup (dCons dTx (dCons (dTuL PyData.int) dNil))) := ⟨fun a b => by
  simp only [dTup, dCons, dNil, dTx, dTuL, PySem.W.alike, PySem.W.alikeAll, Bool.and_true, Bool.true_and]
  exact PySem.W.alike_ints _ _, .inl fun b => ⟨_, _, rfl⟩, fun b => by
  simp only [dTup, dCons, dNil, dTx, dTuL, PyData.depth, PyData.depthAll, PySem.W.depth_ints]
  decide⟩
def sortK {α : Type} (k : α → PyData) (xs : List α) : List α := xs.mergeSort (PySem.W.dataLe false k)
def rSortedD {α : Type} (K : PySem.W.Frag) (k : α → PyData) : List V → Hp → VK → Prop := fun vs H Q => ∃ (a : Addr) (xs : List V) (bs : List α) (R : V → α → Prop), vs = [V.ref a] ∧ SqL K H a xs ∧ Paired R xs bs ∧ (∀ v b, R v b → Dp K H v (k b)) ∧
  ∀ (ys : List V) (p : Addr), Paired R ys (sortK k bs) → H p = none → Q (.ref p) (upd H p (.lst ys))
theorem each_of_paired {α : Type} {R : V → α → Prop} {X : Cx} : ∀ {xs : List V} {us : List Value} {bs : List α}, Vals xs us → Paired R xs bs → PySem.W.EachIs (fun u b => ∃ v, RelV v u ∧ R v b) us bs
  | _, _, _, .nil, .nil => .nil
  | _, _, _, .cons r rs, .cons p ps => .cons ⟨_, r, p⟩ (each_of_paired (X := X) rs ps)
theorem paired_of_each {α : Type} {R : V → α → Prop} : ∀ {us : List Value} {bs : List α}, PySem.W.EachIs (fun u b => ∃ v, RelV v u ∧ R v b) us bs → ∃ ys, Vals ys us ∧ Paired R ys bs
  | _, _, .nil => ⟨[], .nil, .nil⟩
  | _, _, .cons ⟨v, r, p⟩ t => by
    obtain ⟨ys, h1, h2⟩ := paired_of_each t
    exact ⟨v :: ys, .cons r h1, .cons p h2⟩
theorem each_mono {α β : Type} {R S : α → β → Prop} (h : ∀ a b, R a b → S a b) : ∀ {xs : List α} {ys : List β}, PySem.W.EachIs R xs ys → PySem.W.EachIs S xs ys
  | _, _, .nil => .nil
  | _, _, .cons r t => .cons (h _ _ r) (each_mono h t)
theorem cr_sortedD {X : Cx} {α : Type} {k : α → PyData} (S : SrtK k) (hu : X.A.units + 10 < cLine) : CallR X (.builtin "sorted") (rSortedD X.K k) := by
  intro pins s σ H vs us Q I r h
  obtain ⟨a, xs, bs, R, rfl, hs, hp, hd, q⟩ := h
  obtain ⟨its, rv, hl, hz⟩ := I.list hs
  rw [Vals.ref1 r]
  have e1 := each_of_paired (X := X) rv hp
  have hlen : bs.length ≤ sizeLine := by
    have := PySem.W.EachIs.length e1
    rw [← this, ← rv.length]; exact hz
  refine PySem.W.sorted_data (enc := k) (R := fun u b => ∃ v, RelV v u ∧ R v b) hl.isList e1 (each_mono (fun u b ⟨v, r1, r2⟩ => Dp.reads I (k b) v u (hd v b r2) r1) e1) (PySem.W.AllAlike.of fun b b' => S.al b b')
    (by rcases S.st with h | h
        · exact PySem.W.Sortable.tuples h
        · exact PySem.W.Sortable.others h) hlen (fun b _ => by have := S.dp b; omega) fun out ho he => ?_
  obtain ⟨ys, y1, y2⟩ := paired_of_each he
  obtain ⟨ep, he'⟩ := PyProof.Rows.sortedAll_at s.heap its out.toArray
  have hlen2 : ys.length ≤ sizeLine := by rw [y1.length, ho]; exact hlen
  exact ⟨.ref _, upd H (s.heap.objs.size + 1) (.lst ys), I.laid (t' := s.toks) (fun _ _ => PyProof.Rows.sortedAll_old) (Nat.le_succ _) ⟨hlen2, out, ep, y1, he'⟩, rfl, q ys _ y2 (I.hok.fresh (Nat.le_succ _))⟩
section
variable {X : Cx} {N : List Str} {sc scope : Scope} {own : Str → Bool} {α β γ δ ε ρ ν ν' τ : Type} {A : Ty α} {B : Ty β} {C : Ty δ} {T : Tys τ} {e a b c f k : Expr} {es rest : List Expr} {ss : List Stmt} {x y z : Str} {pos p p' apos cpos : Pos} {Γ Γ' gx : List Slot} {L : γ → List Rg} {s : γ} {xt : XT ε} {L0 L1 : List Rg} {q : Addr} {kd : α → PyData}
theorem en_sorted {m : Res ε (List α × γ)} (cx : Cxt X N sc own) (S : SrtK kd) (hc : CoeOk A kd) (hu : X.A.units + 10 < cLine) (hm : X.mg "sorted" = none) (h : EF X e Γ L s (tLst A) xt m) (hg : glB sc "sorted" = true := by decide +kernel)
    (he : starEach [e] X.env = (false, eval e X.env) :: starEach [] X.env := by exact star_c rfl) (hpl : (backTo pos (starEach [] X.env)).any (·.1) = false := by rfl) :
    EN X (.Call (.Name "sorted" p) [e] [] pos) Γ L s (cLst A) xt (m.bnd fun d s => Res.val (sortK kd d, s)) := fun I σ F H Q fr th => by
  obtain ⟨h1, h2, h3⟩ := glB_gl cx hg
  refine PE_to (pe_callB (cr_sortedD S hu) h1 hm (by decide +kernel) (pa_cons pe_w pa_nil he) h3 h2 he hpl) ?_
  refine h I σ F H _ fr ?_
  cases m with
  | stuck => exact th
  | exn x => exact th
  | val pr =>
    intro I1 v H1 e1 fr1 rv
    obtain ⟨q, vs, rfl, hq, hv⟩ := rv
    refine ⟨q, vs, pr.1, A.rep I1, rfl, .of (fr1.sep.same _ _ hq), hv, fun v b r => dp_mono fr1.sep.same (hc X.K I1 v b r), fun ys p hy hp => ?_⟩
    exact th I1 p _ e1 ⟨fr1.sep.new hp ⟨ys, rfl, hy⟩, fr1.len, fr1.sl⟩
/-- .. of an own list -/
theorem en_sortedO {xs : γ → List α} (cx : Cxt X N sc own) (S : SrtK kd) (hc : CoeOk A kd) (hu : X.A.units + 10 < cLine) (hm : X.mg "sorted" = none) (h : EP X e Γ (L s) (tCell q) ()) (hL : Has (L s) q (cLst A (xs s))) (hg : glB sc "sorted" = true := by decide +kernel)
    (he : starEach [e] X.env = (false, eval e X.env) :: starEach [] X.env := by exact star_c rfl) (hpl : (backTo pos (starEach [] X.env)).any (·.1) = false := by rfl) :
    EN X (.Call (.Name "sorted" p) [e] [] pos) Γ L s (cLst A) xt (Res.val (sortK kd (xs s), s)) := fun I σ F H Q fr th => by
  obtain ⟨h1, h2, h3⟩ := glB_gl cx hg
  refine PE_to (pe_callB (cr_sortedD S hu) h1 hm (by decide +kernel) (pa_cons pe_w pa_nil he) h3 h2 he hpl) ?_
  refine h.run fr fun I1 v H1 e1 fr1 rv => ?_
  cases rv
  obtain ⟨o, ho, ⟨vs, rfl, hv⟩, _⟩ := hL.get fr1.sep
  refine ⟨q, vs, xs s, A.rep I1, rfl, .of ho, hv, fun v b r => dp_mono fr1.sep.same (hc X.K I1 v b r), fun ys p hy hp => ?_⟩
  exact th I1 p _ e1 ⟨fr1.sep.new hp ⟨ys, rfl, hy⟩, fr1.len, fr1.sl⟩
end
theorem sw_cell {elt : Expr} {gs : List Comprehension} {scope : Scope} {pos py : Pos} {y : Str} {l : Nat} {env : Env} (hy : env.scope.names.lookup y = some .cell) : swapsWith (.ListComp elt gs scope pos) (some (.Name y py)) l env = pure false := by
  have ky : env.kindOf y = some .cell := hy
  unfold swapsWith
  simp only [ky]
  have e : (some NameKind.cell == some NameKind.local) = false := by decide
  rw [e, Bool.and_false, Bool.false_and, Bool.false_and]
/-! ## 101. x in xs, by the data; walking an own list -/
section
variable {α β : Type} {A : Ty α} {k : α → PyData}
def rInDk (K : PySem.W.Frag) (neg : Bool) : R2 := fun x y H Q => ∃ d ds, Dp K H x d ∧ Dp K H y (.list ds) ∧ SeqAt.shaped d = true ∧ SeqAt.shaped (.list ds) = true ∧ d.depth ≤ 8 ∧ Q (.bl (if neg = true then !ds.any fun z => PyData.eqv z d else ds.any fun z => PyData.eqv z d)) H
theorem op_inDk {X : Cx} (hu : X.A.units + 10 < cLine) : OpR X (compareOp .In) (rInDk X.K false) := by
  intro pins s σ H x y v u Q I rx ry h
  obtain ⟨d, ds, hd, he, sd, se, dp, q⟩ := h
  obtain ⟨as, r1⟩ := Dp.reads I d x v hd rx
  obtain ⟨bs, r2⟩ := Dp.reads I (.list ds) y u he ry
  exact SeqAt.in_list_reads r2 r1 (SeqAt.canLay_of_shaped se) (SeqAt.canLay_of_shaped sd) (by have := Nat.min_le_right (PyData.depthAll ds) d.depth; omega) ⟨.bl _, H, I, rfl, q⟩
theorem op_notInDk {X : Cx} (hu : X.A.units + 10 < cLine) : OpR X (compareOp .NotIn) (rInDk X.K true) := by
  intro pins s σ H x y v u Q I rx ry h
  obtain ⟨d, ds, hd, he, sd, se, dp, q⟩ := h
  obtain ⟨as, r1⟩ := Dp.reads I d x v hd rx
  obtain ⟨bs, r2⟩ := Dp.reads I (.list ds) y u he ry
  exact SeqAt.notIn_list_reads r2 r1 (SeqAt.canLay_of_shaped se) (SeqAt.canLay_of_shaped sd) (by have := Nat.min_le_right (PyData.depthAll ds) d.depth; omega) ⟨.bl _, H, I, rfl, q⟩
theorem d_inD (S : SrtK k) (hc : CoeOk A k) {K : PySem.W.Frag} : D2 (rInDk K false) A (tLst A) tBool (fun x y => eqOk (k x) (dLst k y)) (fun x y => (y.map k).any fun z => PyData.eqv z (k x)) := fun I L H v w x y Q se rv rw hp kk =>
  ⟨_, _, dp_mono se.same (hc K I v x rv), dp_mono se.same (coe_lst hc K I w y rw), hp.1, hp.2, S.dp x, kk I _ H (Same.refl _) se rfl⟩
theorem d_ninD (S : SrtK k) (hc : CoeOk A k) {K : PySem.W.Frag} : D2 (rInDk K true) A (tLst A) tBool (fun x y => eqOk (k x) (dLst k y)) (fun x y => !(y.map k).any fun z => PyData.eqv z (k x)) := fun I L H v w x y Q se rv rw hp kk =>
  ⟨_, _, dp_mono se.same (hc K I v x rv), dp_mono se.same (coe_lst hc K I w y rw), hp.1, hp.2, S.dp x, kk I _ H (Same.refl _) se rfl⟩
end
section
variable {X : Cx} {N : List Str} {sc scope : Scope} {own : Str → Bool} {α β γ δ ε ρ ν ν' τ : Type} {A : Ty α} {B : Ty β} {C : Ty δ} {T : Tys τ} {e a b c f k tg iter : Expr} {es rest : List Expr} {ss b1 : List Stmt} {x y z : Str} {pos p p' apos cpos : Pos} {Γ Γ' gx : List Slot} {L : γ → List Rg} {s : γ} {xt : XT ε} {L0 L1 : List Rg} {q : Addr}
  {gn : ν → List Slot} {ln : ν → List Rg} {gj : ν' → List Slot} {lj : ν' → List Rg} {rt : RT ρ}
/-- for x in xs, xs an own list that the body leaves alone -/
theorem sf_forO {xs : List β} {up : List Slot → β → List Slot} {vs : List Nat} {n0 : ν'} {Bd : ν' → β → Out ε ρ ν'} {k : ν' → Out ε ρ ν} (cc : Calm X) (hi : EP X iter Γ L0 (tCell q) ()) (hq : ∀ n, Has (lj n) q (cLst B xs)) (hg : GF X tg B up vs) (h0 : Wk Γ (gj n0) ∧ (gj n0).length = Γ.length ∧ Sub L0 (lj n0))
    (hb : ∀ n d, SF X b1 (up (gj n) d) (lj n) gj lj rt xt gx (Bd n d)) (hr : ∀ n, SF X ss (gj n) (lj n) gn ln rt xt gx (k n)) (wk : Wk Γ gx := by first | exact Wk.nil | exact Wk.rfl) (hs : ∀ x, foldedSetIterable iter X.env x = pure x := by intro _; rfl) :
    SF X (.For tg iter b1 [] pos :: ss) Γ L0 gn ln rt xt gx ((Out.forL xs n0 Bd).seq k) := fun I σ F H D fr th => by
  obtain ⟨g, pg, gq⟩ := hg
  refine PSs_to (pss_cons (ps_for cc.po cc.calm (pi_list pe_w) pg pss_w (hs := hs)) pss_w) ?_
  refine hi.run fr fun I1 v H1 e1 fr1 rv => ?_
  cases (show v = .ref q from rv)
  obtain ⟨w0, l0, q0⟩ := h0
  have fr0 : FrOk I1 σ (gj n0) (lj n0 ++ F) H1 := ⟨q0 I1 F H1 fr1.sep, by rw [l0]; exact fr1.len, fr1.sl.wk w0⟩
  have at_ : ∀ n {I2 : Hp} {σ2 : St} {H2 : Hp}, FrOk I2 σ2 (gj n) (lj n ++ F) H2 → ∃ ws, SqL X.K H2 q ws ∧ Paired (B.rep I2) ws xs := fun n {I2 σ2 H2} f => by
    obtain ⟨o, ho, ⟨ws, rfl, pd⟩, _⟩ := (hq n).get f.sep
    exact ⟨ws, .of ho, pd⟩
  obtain ⟨ws0, sq0, _⟩ := at_ n0 fr0
  refine ⟨q, rfl, ⟨ws0, sq0⟩, ?_⟩
  refine ⟨fun i mm σ2 H2 => ∃ I2 n, mm = xs.length - i ∧ i ≤ xs.length ∧ Same I1 I2 ∧ FrOk I2 σ2 (gj n) (lj n ++ F) H2 ∧ SThen X I2 F gn ln rt xt gx D ((Out.forL (xs.drop i) n Bd).seq k),
    ⟨xs.length, I1, n0, by omega, Nat.zero_le _, Same.refl _, fr0, ?_⟩, ?_⟩
  · rw [List.drop_zero]
    exact sthen_up e1 th
  · rintro i mm σ2 H2 ⟨I2, n, rfl, hi, e2, fr2, th2⟩
    obtain ⟨ws, sq, pd⟩ := at_ n fr2
    have hl := paired_len pd
    by_cases hlt : i < xs.length
    · have hdrop : xs.drop i = xs[i] :: xs.drop (i + 1) := List.drop_eq_getElem_cons hlt
      rw [hdrop] at th2
      refine .inr ⟨⟨ws, ws[i]'(by omega), sq, by simp⟩, fun σ3 H3 => ∃ I3 n3, Same I1 I3 ∧ FrOk I3 σ3 (gj n3) (lj n3 ++ F) H3 ∧ SThen X I3 F gn ln rt xt gx D ((Out.forL (xs.drop (i + 1)) n3 Bd).seq k),
        fun σ' H' ⟨I3, n3, z1, z2, z3⟩ => ⟨xs.length - (i + 1), by omega, I3, n3, rfl, by omega, z1, z2, z3⟩, fun v H' y => ?_⟩
      obtain ⟨rfl, y⟩ := y
      have rv : B.rep I2 v xs[i] := by
        obtain ⟨d', hd', rd⟩ := paired_get pd (y ws sq)
        rw [List.getElem?_eq_getElem hlt] at hd'
        cases hd'
        exact rd
      refine gq I2 σ2 (gj n) _ _ v _ _ fr2 rv fun I4 σ4 H4 e4 fr4 _ _ => ?_
      refine hb n xs[i] I4 σ4 F H4 _ fr4 ?_
      have th4 : SThen X I4 F gn ln rt xt gx D (((Bd n xs[i]).seq fun n' => Out.forL (xs.drop (i + 1)) n' Bd).seq k) := sthen_up e4 th2
      cases hB : Bd n xs[i] with
      | stuck => rw [hB] at th4; exact th4
      | ret r => rw [hB] at th4; exact th4
      | exn x => rw [hB] at th4; exact th4
      | nx n' =>
        rw [hB] at th4
        exact fun I' σ' H' e f => ⟨I', n', (e2.trans e4).trans e, f, sthen_up e th4⟩
    · have hn : i = xs.length := by omega
      subst hn
      rw [List.drop_length] at th2
      exact .inl ⟨⟨ws, sq, by omega⟩, hr n I2 σ2 F H2 D fr2 th2⟩
/-- a test that reads q's content as if it never changed -/
theorem tf_lendG {φ : CP} {mm : Res ε (Bool × γ)} {L1 : γ → List Rg} {R : List Rg} {Γ' : List Slot} (hx : FlatX xt) (hfl : ∀ s, ∀ c ∈ L1 s, FlatC c) (hst : SlotTo Γ Γ' q φ) (hle : ∀ I o, φ.h I o → Lent (some o)) (hp : ∀ s, (L s).Perm (L1 s ++ (cell q φ :: R)))
    (h : TF X e Γ' L1 s xt mm) : TF X e Γ L s xt mm := fun I σ F H Q fr th => by
  obtain ⟨o, E, hq, le, fr1, back⟩ := lend_frame hst hle hp fr
  refine h _ σ E H Q fr1 ?_
  cases mm with
  | stuck => exact th
  | val p =>
    intro I' H' e2 fr2
    obtain ⟨m1, lq, m2⟩ := back I' (L1 p.2) H' e2 (hfl _) fr2.sep
    refine th (minus I' q) H' m1 ⟨?_, fr.len, fr.sl.mono m1⟩
    exact Sep.perm m2 (by rw [show L1 p.2 ++ (cell q φ :: (R ++ F)) = (L1 p.2 ++ (cell q φ :: R)) ++ F by simp]; exact ((hp p.2).symm).append_right F)
  | exn x =>
    intro I' H' c da e2 fr2 rz
    rw [(hx x).1] at fr2
    obtain ⟨m1, lq, m2⟩ := back I' [] H' e2 (fun c hc => by simp at hc) fr2.sep
    refine th (minus I' q) H' c da m1 ⟨?_, fr.len, fr.sl.mono m1⟩ ((hx x).2 _ _ _ _ lq rz)
    rw [(hx x).1]
    exact drop_app R m2.tail
end
/-! ## 101b. a test: key in dict -/
def rInDict : R2 := fun x y H Q => ∃ a o, y = .ref a ∧ DGet H a x o ∧ Q (.bl o.isSome) H
def rNotInDict : R2 := fun x y H Q => ∃ a o, y = .ref a ∧ DGet H a x o ∧ Q (.bl (!o.isSome)) H
theorem op_inDict {X : Cx} (hu : X.A.units + 1 < cLine) : OpR X (compareOp .In) rInDict := by
  intro pins s σ H x y v u Q I rx ry h
  obtain ⟨a, o, rfl, g, q⟩ := h
  cases ry
  exact d_in hu I g rx fun s' J => ⟨.bl _, H, J, rfl, q⟩
theorem op_notInDict {X : Cx} (hu : X.A.units + 1 < cLine) : OpR X (compareOp .NotIn) rNotInDict := by
  intro pins s σ H x y v u Q I rx ry h
  obtain ⟨a, o, rfl, g, q⟩ := h
  cases ry
  exact d_notIn hu I g rx fun s' J => ⟨.bl _, H, J, rfl, q⟩
section
variable {X : Cx} {κ α : Type} [DecidableEq κ] {A : Ty α} {K : Kt κ} {e k : Expr} {pos : Pos} {Γ : List Slot} {L0 : List Rg} {kvs : List (κ × α)}
theorem tp_din {key : κ} (hu : X.A.units + 1 < cLine) (hk : EP X k Γ L0 K.T key) (hd : EDic X e Γ L0 K A kvs) (hm : behindInMarks .In e = false := by first | exact nomark _ | rfl) : TP' X (.Compare k [.In] [e] pos) Γ L0 (dGet kvs key).isSome := fun I σ F H Q fr th => by
  refine PT_to (pt_cmpR (op_inDict hu) pe_w pe_w hm) ?_
  refine hk.run fr fun I1 v H1 e1 fr1 rv => ?_
  refine hd I1 σ F H1 _ fr1 fun p I2 H2 e2 fr2 st => ?_
  obtain ⟨ws, rd, pd⟩ := st I2 H2 (Same.refl _) fr2
  have g := pd.get key
  refine ⟨p, _, rfl, K.get rd fr2.sep.same (K.T.mono e2 rv), _, ?_, th I2 H2 (e1.trans e2) fr2⟩
  cases h1 : valV ws key <;> cases h2 : dGet kvs key <;> rw [h1, h2] at g <;> first | rfl | exact g.elim
theorem tp_dnin {key : κ} (hu : X.A.units + 1 < cLine) (hk : EP X k Γ L0 K.T key) (hd : EDic X e Γ L0 K A kvs) (hm : behindInMarks .NotIn e = false := by first | exact nomark _ | rfl) : TP' X (.Compare k [.NotIn] [e] pos) Γ L0 (!(dGet kvs key).isSome) := fun I σ F H Q fr th => by
  refine PT_to (pt_cmpR (op_notInDict hu) pe_w pe_w hm) ?_
  refine hk.run fr fun I1 v H1 e1 fr1 rv => ?_
  refine hd I1 σ F H1 _ fr1 fun p I2 H2 e2 fr2 st => ?_
  obtain ⟨ws, rd, pd⟩ := st I2 H2 (Same.refl _) fr2
  have g := pd.get key
  refine ⟨p, _, rfl, K.get rd fr2.sep.same (K.T.mono e2 rv), _, ?_, th I2 H2 (e1.trans e2) fr2⟩
  cases h1 : valV ws key <;> cases h2 : dGet kvs key <;> rw [h1, h2] at g <;> first | rfl | exact g.elim
end
/-! ## 102. which stores are swapped -/
theorem swp_const {ts vs : List Expr} {k k2 : Nat} {p p2 : Pos} {env : Env} (h : vs.all (foldedForSure 8) = true) : swappedStores [.Tuple ts k p] (.Tuple vs k2 p2) env = pure none := by
  unfold swappedStores
  simp only [h]
  repeat' split
  all_goals first | rfl | exact absurd True.intro (by assumption)
theorem swp2 {x y : Str} {a b : Expr} {k k2 : Nat} {p p2 px py : Pos} {env : Env} (hk : env.scope.kind = .function) (hx : env.scope.names.lookup x = some .local) (hy : env.scope.names.lookup y = some .local) (hl : (py.line == px.line) = true) (hd : ([x, y].eraseDups.length != 2) = false)
    (hst : (([a, b] : List Expr).any fun | .Starred .. => true | _ => false) = false) (hf : ([a, b] : List Expr).all (foldedForSure 8) = false) (hc : ([a, b] : List Expr).all (constantsAlone 8) = false) :
    swappedStores [.Tuple [.Name x px, .Name y py] k p] (.Tuple [a, b] k2 p2) env = pure (some [x, y]) := by
  have hb : env.blockKind = .function := by unfold Env.blockKind; rw [hk]; rfl
  have kx : env.kindOf x = some .local := hx
  have ky : env.kindOf y = some .local := hy
  have e1 : (some NameKind.local == some NameKind.local) = true := by decide
  have e2 : (px.line == px.line) = true := by simp
  unfold swappedStores
  simp only [hst, hf, hc, hb]
  simp [List.filterMap, kx, ky, e1, e2, hl, Expr.pos, hd]
  intro h
  simp only [List.any_cons, List.any_nil, Bool.or_false, Bool.or_eq_false_iff] at hst
  rcases h with h | h
  · exact absurd (hst.1.symm.trans h) (by simp)
  · exact absurd (hst.2.symm.trans h) (by simp)
theorem swp3 {x y z : Str} {a b c : Expr} {k k2 : Nat} {p p2 px py pz : Pos} {env : Env} (hk : env.scope.kind = .function) (hx : env.scope.names.lookup x = some .local) (hy : env.scope.names.lookup y = some .local) (hz : env.scope.names.lookup z = some .local) (hl : (py.line == px.line) = true) (hl2 : (pz.line == px.line) = true) (hd : ([x, y, z].eraseDups.length != 3) = false)
    (hst : (([a, b, c] : List Expr).any fun | .Starred .. => true | _ => false) = false) (hf : ([a, b, c] : List Expr).all (foldedForSure 8) = false) (hc : ([a, b, c] : List Expr).all (constantsAlone 8) = false) :
    swappedStores [.Tuple [.Name x px, .Name y py, .Name z pz] k p] (.Tuple [a, b, c] k2 p2) env = pure (some [x, y, z]) := by
  have hb : env.blockKind = .function := by unfold Env.blockKind; rw [hk]; rfl
  have kx : env.kindOf x = some .local := hx
  have ky : env.kindOf y = some .local := hy
  have kz : env.kindOf z = some .local := hz
  have e1 : (some NameKind.local == some NameKind.local) = true := by decide
  have e2 : (px.line == px.line) = true := by simp
  unfold swappedStores
  simp only [hst, hf, hc, hb]
  simp [List.filterMap, kx, ky, kz, e1, e2, hl, hl2, Expr.pos, hd]
  intro h
  simp only [List.any_cons, List.any_nil, Bool.or_false, Bool.or_eq_false_iff] at hst
  rcases h with h | h | h
  · exact absurd (hst.1.symm.trans h) (by simp)
  · exact absurd (hst.2.1.symm.trans h) (by simp)
  · exact absurd (hst.2.2.symm.trans h) (by simp)
end Fw


namespace Fw
open PySem L2
/-! ## 110. regions of more than one address -/
def starH (Z : List (Rg × Hp)) : Hp := fun a => Z.findSome? fun z => z.2 a
theorem starH_some {Z : List (Rg × Hp)} {a : Addr} {o : HO} (h : starH Z a = some o) : ∃ z ∈ Z, z.2 a = some o := by
  unfold starH at h
  obtain ⟨l1, z, l2, e, h2, _⟩ := List.findSome?_eq_some_iff.mp h
  exact ⟨z, by rw [e]; simp, h2⟩
theorem starH_none {Z : List (Rg × Hp)} {a : Addr} : starH Z a = none ↔ ∀ z ∈ Z, z.2 a = none := by
  unfold starH
  exact List.findSome?_eq_none_iff
theorem starH_of : ∀ {Z : List (Rg × Hp)} {z : Rg × Hp} {a : Addr} {o : HO}, Z.Pairwise (fun y z => Disj y.2 z.2) → z ∈ Z → z.2 a = some o → starH Z a = some o
  | y :: Z, z, a, o, d, hz, h => by
    obtain ⟨d1, d2⟩ := List.pairwise_cons.mp d
    unfold starH
    rw [List.findSome?_cons]
    rcases List.mem_cons.mp hz with rfl | hz
    · rw [h]
    · rcases d1 z hz a with e | e
      · rw [e]
        exact starH_of d2 hz h
      · rw [h] at e; cases e
/-- some regions together, by something that is not told -/
def ExH {ι : Type} (f : ι → List Rg) (I R : Hp) : Prop := ∃ (i : ι) (Z : List (Rg × Hp)), Z.map (·.1) = f i ∧ (∀ z ∈ Z, z.1.h I z.2) ∧ Z.Pairwise (fun (y z : Rg × Hp) => Disj y.2 z.2) ∧ R = starH Z
theorem ExH.mono {ι : Type} {f : ι → List Rg} {I I' R : Hp} (e : Same I I') (h : ExH f I R) : ExH f I' R := by
  obtain ⟨i, Z, h1, h2, h3, h4⟩ := h
  exact ⟨i, Z, h1, fun z hz => z.1.mono e (h2 z hz), h3, h4⟩
theorem ExH.nt {ι : Type} {f : ι → List Rg} {I R : Hp} (h : ExH f I R) (a : Addr) (ys : List V) : R a ≠ some (.tup ys) := fun q => by
  obtain ⟨i, Z, h1, h2, h3, h4⟩ := h
  rw [h4] at q
  obtain ⟨z, hz, e⟩ := starH_some q
  exact z.1.nt (h2 z hz) a ys e
def exR {ι : Type} (f : ι → List Rg) : Rg := ⟨ExH f, ExH.mono, fun h => h.nt⟩
theorem Sep.open {ι : Type} {f : ι → List Rg} {I H : Hp} {L : List Rg} (h : Sep I (exR f :: L) H) : ∃ i, Sep I (f i ++ L) H := by
  obtain ⟨Z, e, s, a, d⟩ := h
  cases Z with
  | nil => cases e
  | cons z Z =>
    rw [List.map_cons] at e
    injection e with e1 e2
    obtain ⟨a1, a2, a3⟩ := a z (List.mem_cons_self ..)
    rw [e1] at a1
    obtain ⟨i, Y, h1, h2, h3, h4⟩ := a1
    obtain ⟨d1, d2⟩ := List.pairwise_cons.mp d
    have part : ∀ y ∈ Y, ∀ b o, y.2 b = some o → z.2 b = some o := fun y hy b o hb => by rw [h4]; exact starH_of h3 hy hb
    refine ⟨i, Y ++ Z, by rw [List.map_append, h1, e2], s, fun y hy => ?_, List.pairwise_append.mpr ⟨h3, d2, fun y hy w hw b => ?_⟩⟩
    · rcases List.mem_append.mp hy with hy | hy
      · refine ⟨h2 y hy, fun b o hb => a2 b o (part y hy b o hb), fun b => ?_⟩
        rcases a3 b with q | q
        · exact .inl q
        · right
          cases hb : y.2 b with
          | none => rfl
          | some o => rw [part y hy b o hb] at q; cases q
      · exact a y (List.mem_cons_of_mem _ hy)
    · rcases d1 w hw b with q | q
      · left
        cases hb : y.2 b with
        | none => rfl
        | some o => rw [part y hy b o hb] at q; cases q
      · exact .inr q
theorem Sep.close {ι : Type} {f : ι → List Rg} (i : ι) {I H : Hp} {L : List Rg} (h : Sep I (f i ++ L) H) : Sep I (exR f :: L) H := by
  obtain ⟨Z, e, s, a, d⟩ := h
  obtain ⟨Y, W, rfl, h1, h2⟩ := List.map_eq_append_iff.mp e
  obtain ⟨d1, d2, d3⟩ := List.pairwise_append.mp d
  refine ⟨(exR f, starH Y) :: W, by rw [List.map_cons, h2], s, fun z hz => ?_, List.pairwise_cons.mpr ⟨fun w hw b => ?_, d2⟩⟩
  · rcases List.mem_cons.mp hz with rfl | hz
    · refine ⟨⟨i, Y, h1, fun z hz => (a z (List.mem_append_left _ hz)).1, d1, rfl⟩, fun b o hb => ?_, fun b => ?_⟩
      · obtain ⟨y, hy, e⟩ := starH_some hb
        exact (a y (List.mem_append_left _ hy)).2.1 b o e
      · cases hI : I b with
        | none => exact .inl rfl
        | some o =>
          right
          refine starH_none.mpr fun y hy => ?_
          rcases (a y (List.mem_append_left _ hy)).2.2 b with q | q
          · rw [hI] at q; cases q
          · exact q
    · exact a z (List.mem_append_right _ hz)
  · cases hw2 : w.2 b with
    | none => exact .inr rfl
    | some o =>
      left
      refine starH_none.mpr fun y hy => ?_
      rcases d3 y hy w hw b with q | q
      · exact q
      · rw [hw2] at q; cases q
theorem Sub.close {ι : Type} {f : ι → List Rg} (i : ι) {L : List Rg} : Sub (f i ++ L) (exR f :: L) := fun I F H h => by
  have h : Sep I (f i ++ L ++ F) H := h
  rw [List.append_assoc] at h
  exact Sep.close i h
section
variable {X : Cx} {ι γ ε ρ ν : Type} {f : ι → List Rg} {ss : List Stmt} {Γ gx : List Slot} {L0 : List Rg} {xt : XT ε} {gn : ν → List Slot} {ln : ν → List Rg} {rt : RT ρ} {M : Out ε ρ ν}
theorem sf_open (h : ∀ i, SF X ss Γ (f i ++ L0) gn ln rt xt gx M) : SF X ss Γ (exR f :: L0) gn ln rt xt gx M := fun I σ F H D fr th => by
  obtain ⟨i, se⟩ := Sep.open (L := L0 ++ F) fr.sep
  exact h i I σ F H D ⟨by rw [List.append_assoc]; exact se, fr.len, fr.sl⟩ th
end
/-! ## 111. instances -/
/-- the fields, as slots by their names -/
def FsOk (I : Hp) (fs : List (Str × V)) (Φ : List (Str × Slot)) : Prop := (∀ (i : Nat) (f : Str) {α : Type} (A : Ty α) (d : α), Φ[i]? = some (f, .dat A d) → ∃ v, fs.lookup f = some v ∧ A.rep I v d) ∧ (∀ f, f ∉ Φ.map (·.1) → fs.lookup f = none) ∧ fs.length ≤ Φ.length
theorem FsOk.mono {I I' : Hp} {fs : List (Str × V)} {Φ : List (Str × Slot)} (e : Same I I') (h : FsOk I fs Φ) : FsOk I' fs Φ := ⟨fun i f {α} A d q => by
  obtain ⟨v, h1, h2⟩ := h.1 i f A d q
  exact ⟨v, h1, A.mono e h2⟩, h.2⟩
/-- an instance of C that is one's own -/
def cIns (C : Addr) (Φ : List (Str × Slot)) : CP := ⟨fun I o => ∃ dx fs, o = .ins C dx fs ∧ FsOk I fs Φ, fun e ⟨dx, fs, a, b⟩ => ⟨dx, fs, a, b.mono e⟩, fun ⟨dx, fs, a, _⟩ ys z => by rw [a] at z; cases z⟩
theorem FsOk.add {I : Hp} {fs : List (Str × V)} {Φ : List (Str × Slot)} {f : Str} {α : Type} {A : Ty α} {d : α} {v : V} (h : FsOk I fs Φ) (hn : f ∉ Φ.map (·.1)) (r : A.rep I v d) : FsOk I (putF f v fs) (Φ ++ [(f, .dat A d)]) := by
  refine ⟨fun i g {β} B e q => ?_, fun g hg => ?_, by rw [List.length_append]; have := length_putF f v fs; have := h.2.2; show _ ≤ _ + 1; omega⟩
  · rw [lookup_putF]
    by_cases hi : i < Φ.length
    · rw [List.getElem?_append_left hi] at q
      have : g ≠ f := fun z => hn (by rw [← z]; exact List.mem_map.mpr ⟨_, List.mem_of_getElem? q, rfl⟩)
      rw [if_neg this]
      exact h.1 i g B e q
    · rw [List.getElem?_append_right (by omega)] at q
      have : i - Φ.length = 0 := by
        cases hk : i - Φ.length with
        | zero => rfl
        | succ n => rw [hk] at q; simp at q
      rw [this] at q
      simp only [List.getElem?_cons_zero, Option.some.injEq, Prod.mk.injEq] at q
      obtain ⟨rfl, q⟩ := q
      cases q
      exact ⟨v, by rw [if_pos rfl], r⟩
  · rw [List.map_append, List.mem_append] at hg
    rw [lookup_putF, if_neg (fun z => hg (.inr (by simp [z])))]
    exact h.2.1 g fun z => hg (.inl z)
/-- an instance that never changes: its class, its fields' names -/
def tObj {τ : Type} (C : Addr) (ns : List Str) (T : Tys τ) : Ty τ := ⟨fun I v d => ∃ p dx fs vs, v = .ref p ∧ I p = some (.ins C dx fs) ∧ T.rep I vs d ∧ (∀ (j : Nat) (f : Str) (w : V), ns[j]? = some f → vs[j]? = some w → fs.lookup f = some w) ∧ (∀ f, f ∉ ns → fs.lookup f = none),
  fun e ⟨p, dx, fs, vs, a, b, c, q⟩ => ⟨p, dx, fs, vs, a, e _ _ b, T.mono e c, q⟩⟩
theorem nn_obj {τ : Type} {C : Addr} {ns : List Str} {T : Tys τ} : NotNon (tObj C ns T) := fun I v d h => by obtain ⟨p, _, _, _, rfl, _⟩ := h; exact fun z => nomatch z
section
variable {X : Cx} {N : List Str} {sc scope : Scope} {own : Str → Bool} {α β γ δ ε ρ ν ν' τ : Type} {A : Ty α} {B : Ty β} {C : Ty δ} {T : Tys τ} {e a b c k tg iter : Expr} {es rest : List Expr} {ss b1 : List Stmt} {f x y z : Str} {pos p p' apos cpos : Pos} {Γ Γ' gx : List Slot} {L : γ → List Rg} {s : γ} {xt : XT ε} {L0 L1 : List Rg} {q Cl : Addr} {Φ : List (Str × Slot)}
  {gn : ν → List Slot} {ln : ν → List Rg} {gj : ν' → List Slot} {lj : ν' → List Rg} {rt : RT ρ}
/-- e.f of one's own instance -/
theorem ep_fldO {d : α} (c : Cls X.K Cl) (n : NoAttr X.K Cl f) (ha : EP X e Γ L0 (tCell q) ()) (hL : Has L0 q (cIns Cl Φ)) (i : Nat) (hi : Φ[i]? = some (f, .dat A d) := by rfl) (hb : attributeBase e f X.env (eval e X.env) = eval e X.env := by rfl) : EP X (.Attribute e f pos) Γ L0 A d := fun I σ F H Q fr th => by
  refine PE_to (pe_fld pe_w hb) ?_
  refine ha.run fr fun I1 v H1 e1 fr1 rv => ?_
  cases (show v = .ref q from rv)
  obtain ⟨o, ho, ⟨dx, fs, rfl, ok⟩, _⟩ := hL.get fr1.sep
  obtain ⟨w, h1, h2⟩ := ok.1 i f A d hi
  exact ⟨q, Cl, dx, fs, w, rfl, ho, c, n, h1, th I1 w H1 e1 fr1 h2⟩
/-- e.f of an instance that never changes -/
theorem ef_fld {ns : List Str} {g : τ → α} {m : Res ε (τ × γ)} (c : Cls X.K Cl) (n : NoAttr X.K Cl f) (ha : EF X e Γ L s (tObj Cl ns T) xt m) (j : Nat) (hn : ns[j]? = some f := by rfl) (hj : ∀ t, (T.slots t)[j]? = some (.dat A (g t)) := by intro _; rfl) (hb : attributeBase e f X.env (eval e X.env) = eval e X.env := by rfl) :
    EF X (.Attribute e f pos) Γ L s A xt (m.bnd fun x s => Res.val (g x, s)) := fun I σ F H Q fr th => by
  refine PE_to (pe_fld pe_w hb) ?_
  refine Then.bnd ha fr th fun I1 v H1 d s1 e1 fr1 rv th1 => ?_
  obtain ⟨p, dx, fs, vs, rfl, h1, h2, h3, h4⟩ := rv
  obtain ⟨w, hw, rw⟩ := T.ok h2 j _ (hj d)
  exact ⟨p, Cl, dx, fs, w, rfl, fr1.sep.same _ _ h1, c, n, h3 j f w hn hw, th1 I1 w H1 (Same.refl _) fr1 rw⟩
theorem ep_fld {ns : List Str} {t : τ} {d : α} (c : Cls X.K Cl) (n : NoAttr X.K Cl f) (ha : EP X e Γ L0 (tObj Cl ns T) t) (j : Nat) (hn : ns[j]? = some f := by rfl) (hj : (T.slots t)[j]? = some (.dat A d) := by rfl) (hb : attributeBase e f X.env (eval e X.env) = eval e X.env := by rfl) : EP X (.Attribute e f pos) Γ L0 A d := fun I σ F H Q fr th => by
  refine PE_to (pe_fld pe_w hb) ?_
  refine ha.run fr fun I1 v H1 e1 fr1 rv => ?_
  obtain ⟨p, dx, fs, vs, rfl, h1, h2, h3, h4⟩ := rv
  obtain ⟨w, hw, rw⟩ := T.ok h2 j _ hj
  exact ⟨p, Cl, dx, fs, w, rfl, fr1.sep.same _ _ h1, c, n, h3 j f w hn hw, th I1 w H1 e1 fr1 rw⟩
/-- e.f = value, a new field -/
theorem sf_fld {m : Res ε (α × γ)} {R : γ → List Rg} {Ψ : γ → List (Str × Slot)} {kk : α → γ → Out ε ρ ν} (c : Cls X.K Cl) (n : NoAttr X.K Cl f) (hv : EF X e Γ L s A xt m) (hL : ∀ s, (L s).Perm (cell q (cIns Cl (Ψ s)) :: R s)) (ha : ∀ s, EP X a Γ (L s) (tCell q) ())
    (hr : ∀ d s, SF X ss Γ (cell q (cIns Cl (Ψ s ++ [(f, .dat A d)])) :: R s) gn ln rt xt gx (kk d s)) (hnew : ∀ s, f ∉ (Ψ s).map (·.1) := by intro _; decide) (hlen : ∀ s, (Ψ s).length < 1000 := by intro _; decide) (wk : Wk Γ gx := by first | exact Wk.nil | exact Wk.rfl)
    (hs : swapsWith e (some (.Attribute a f p')) pos.line X.env = pure false := by rfl) : SF X (.Assign [.Attribute a f p'] e pos :: ss) Γ (L s) gn ln rt xt gx (Out.bnd m kk) := fun I σ F H D fr th => by
  refine PSs_to (pss_cons (ps_fld pe_w pe_w hs) pss_w) ?_
  refine SThen.bnd hv wk fr th fun I1 v H1 d s1 e1 fr1 r th1 => ?_
  refine (ha s1).run fr1 fun I2 vo H2 e2 fr2 ro => ?_
  cases (show vo = .ref q from ro)
  have se : Sep I2 (cell q (cIns Cl (Ψ s1)) :: (R s1 ++ F)) H2 := fr2.sep.perm ((hL s1).append_right F)
  obtain ⟨o, ho, ⟨dx, fs, rfl, ok⟩, _⟩ := se.get
  refine ⟨q, Cl, dx, fs, rfl, ho, c, n, Nat.lt_of_le_of_lt ok.2.2 (hlen s1), ?_⟩
  exact hr d s1 I2 σ F _ D (fr2.step (Same.refl _) (se.put ⟨dx, _, rfl, ok.add (hnew s1) (A.mono e2 r)⟩)) (sthen_up e2 th1)
/-- e.f = a new object, a new field: the object stays one's own -/
theorem sf_fldN {φ : α → CP} {m : Res ε (α × γ)} {R : γ → List Rg} {Ψ : γ → List (Str × Slot)} {kk : α → γ → Out ε ρ ν} (c : Cls X.K Cl) (n : NoAttr X.K Cl f) (hv : EN X e Γ L s φ xt m) (hL : ∀ s, (L s).Perm (cell q (cIns Cl (Ψ s)) :: R s)) (ha : ∀ r d s, EP X a Γ (cell r (φ d) :: L s) (tCell q) ())
    (hr : ∀ r d s, SF X ss Γ (cell q (cIns Cl (Ψ s ++ [(f, .dat (tCell r) ())])) :: cell r (φ d) :: R s) gn ln rt xt gx (kk d s)) (hnew : ∀ s, f ∉ (Ψ s).map (·.1) := by intro _; decide) (hlen : ∀ s, (Ψ s).length < 1000 := by intro _; decide) (wk : Wk Γ gx := by first | exact Wk.nil | exact Wk.rfl)
    (hs : swapsWith e (some (.Attribute a f p')) pos.line X.env = pure false := by rfl) : SF X (.Assign [.Attribute a f p'] e pos :: ss) Γ (L s) gn ln rt xt gx (Out.bnd m kk) := fun I σ F H D fr th => by
  refine PSs_to (pss_cons (ps_fld pe_w pe_w hs) pss_w) ?_
  refine SThen.bndN hv wk fr th fun I1 r H1 d s1 e1 fr1 th1 => ?_
  refine (ha r d s1).run fr1 fun I2 vo H2 e2 fr2 ro => ?_
  cases (show vo = .ref q from ro)
  have se : Sep I2 (cell q (cIns Cl (Ψ s1)) :: (cell r (φ d) :: (R s1 ++ F))) H2 := fr2.sep.perm (by
    have h1 : (cell r (φ d) :: L s1 ++ F).Perm (cell r (φ d) :: (cell q (cIns Cl (Ψ s1)) :: (R s1 ++ F))) := ((hL s1).append_right F).cons _
    exact h1.trans (.swap _ _ _))
  obtain ⟨o, ho, ⟨dx, fs, rfl, ok⟩, _⟩ := se.get
  refine ⟨q, Cl, dx, fs, rfl, ho, c, n, Nat.lt_of_le_of_lt ok.2.2 (hlen s1), ?_⟩
  exact hr r d s1 I2 σ F _ D (fr2.step (Same.refl _) (se.put ⟨dx, _, rfl, ok.add (A := tCell r) (d := ()) (hnew s1) rfl⟩)) (sthen_up e2 th1)
end
end Fw


/-! ## 112. making an instance, calling its methods, whatever leaves them -/
namespace L2
open PySem PySem.Spec PyProof.Rows
section
variable {X : Cx} {CX : CXT} {k : Nat} {f C : Addr} {fd : FuncData} {ps : List Str} {sp : Sp} {E : St → XK} {x m : Str} {p pos apos : Pos} {e o : Expr} {es : List Expr} {ta : TE} {t : TA}
theorem run_makeX {pins : List (Addr × Obj)} {σ : St} {H : Hp} {s : Shared} {Q : VK} {us : List Value} {vs : List V} (M : Mk X.K C f) (F : FnOk X.prog X.w X.K X.mg X.base CX k f fd ps sp) (hr : Room (k + 1) X.A) (hb : Binds X.K fd ps [])
    (hx : PassesAt CX X σ (E σ)) (I : Inv X pins σ H s) (r : Vals vs us)
    (h : ∀ x dx, H x = none → H dx = none → dx ≠ x → sp (.ref x :: vs) (upd (upd H dx (.own x)) x (.ins C dx [])) (fun v H2 => v = .non ∧ Q (.ref x) H2) (E σ)) :
    wpAny (model X.prog X.w) X.A (call (.ref C) us) (EP X pins σ Q) X.xe s := by
  have hq := h (s.heap.objs.size + 1) s.heap.objs.size (I.hok.fresh (Nat.le_succ _)) (I.hok.fresh (Nat.le_refl _)) (Nat.ne_of_lt (Nat.lt_succ_self _))
  have I2 := Inv.made (C := C) I
  have r2 : Vals (V.ref (s.heap.objs.size + 1) :: vs) (Value.ref (s.heap.objs.size + 1) :: us) := .cons rfl r
  have hl : (Value.ref (s.heap.objs.size + 1) :: us).length = ps.length := by
    have e := r2.length
    rw [F.len _ _ _ _ hq] at e
    exact e.symm
  have b := hb _ (Value.ref (s.heap.objs.size + 1) :: us) I2.kIn (by rw [List.append_nil]; exact hl)
  rw [List.append_nil] at b
  refine wpAny_call (make_map (f := f) I.kIn M.makes M.init (beq_iff_eq.mp M.fn) (codeAny_mono (F.run _ X.stack _ _ ⟨Value.ref (s.heap.objs.size + 1) :: us, []⟩ (Value.ref (s.heap.objs.size + 1) :: us) _ _ (E σ) (hr.make C us [])
    (I2.env0.make C us []) b r2 hq) fun r s' hq' => ?_))
  cases r with
  | error e => exact hx pins _ _ e s' I2 hq'
  | ok fl =>
    cases fl with
    | ret u =>
      obtain ⟨v, H', I3, rv, ev, q3⟩ := I2.after hq'
      subst ev
      exact ⟨rv, ⟨V.ref (s.heap.objs.size + 1), H', I3, rfl, q3⟩⟩
    | next => exact False.elim hq'
    | brk => exact False.elim hq'
    | cont => exact False.elim hq'
def tMakeX (C : Addr) (sp : Sp) (E : St → XK) (t : TA) : TE := fun σ H Q => t σ H fun vs H1 => ∀ x dx, H1 x = none → H1 dx = none → dx ≠ x →
  sp (.ref x :: vs) (upd (upd H1 dx (.own x)) x (.ins C dx [])) (fun v H2 => v = .non ∧ Q (.ref x) H2) (E σ)
theorem pe_makeX (M : Mk X.K C f) (F : FnOk X.prog X.w X.K X.mg X.base CX k f fd ps sp) (hr : Room (k + 1) X.A) (hg : Gl X x) (hm : X.mg x = some (.ref C)) (hb : Binds X.K fd ps []) (hx : ∀ σ, PassesAt CX X σ (E σ))
    (ha : PA X (e :: es) t) (hdb : (x == ("__debug__" : Str)) = false := by decide) (he : starEach (e :: es) X.env = (false, eval e X.env) :: starEach es X.env := by rfl) (hpl : (backTo pos (starEach es X.env)).any (·.1) = false := by rfl) :
    PE X (.Call (.Name x p) (e :: es) [] pos) (tMakeX C sp E t) := by
  refine ⟨fun pins s σ H Q I h => ?_⟩
  refine wpAny_Call_Name_kw (ld_glob I hg hm ?_ hdb)
  refine PySem.W.callWith_K (h₀ := X.base) I.ok.mod.kin M.kp (thn (ha.run pos pins s σ H _ I h) fun us s1 ⟨vs, H1, I1, r, q⟩ => ⟨I1.kIn, ?_⟩) he hpl
  exact run_makeX M F hr hb (hx σ) I1 r q
theorem pe_makeX0 (M : Mk X.K C f) (F : FnOk X.prog X.w X.K X.mg X.base CX k f fd ps sp) (hr : Room (k + 1) X.A) (hg : Gl X x) (hm : X.mg x = some (.ref C)) (hb : Binds X.K fd ps []) (hx : ∀ σ, PassesAt CX X σ (E σ))
    (hdb : (x == ("__debug__" : Str)) = false := by decide) : PE X (.Call (.Name x p) [] [] pos) (tMakeX C sp E tNil) := by
  refine ⟨fun pins s σ H Q I h => ?_⟩
  refine wpAny_Call_Name_kw (ld_glob I hg hm ?_ hdb)
  exact PySem.W.callWith_K0 I.kIn M.kp (run_makeX (us := []) M F hr hb (hx σ) I .nil h)
def tMethX (C : Addr) (m : Str) (sp : Sp) (E : St → XK) (ta : TE) (t : TA) : TE := fun σ H Q => ta σ H fun x H1 => ∃ a dx fs, x = .ref a ∧ H1 a = some (.ins C dx fs) ∧ fs.lookup m = none ∧
  t σ H1 fun vs H2 => sp (x :: vs) H2 Q (E σ)
theorem pe_methX {pl : Sem Bool} (he : PE X o ta) (c : Cls X.K C) (hm : Meth X.K C m f) (F : FnOk X.prog X.w X.K X.mg X.base CX k f fd ps sp) (hr : Room k X.A) (hb : Binds X.K fd ps []) (hx : ∀ σ, PassesAt CX X σ (E σ)) (ha : PA X (e :: es) t)
    (hst : starEach (e :: es) X.env = (false, eval e X.env) :: starEach es X.env := by rfl) (hpl : (backTo pos (starEach es X.env)).any (·.1) = false := by rfl)
    (ht : eval (.Call (.Attribute o m apos) (e :: es) [] pos) X.env = (do
      let ov ← eval o X.env
      standAt apos.atName
      let (f, first) ← holding [ov] (getMethod ov m pl)
      callWith pos f first (backTo pos (starEach (e :: es) X.env)) (backToKw pos (keywordEach [] X.env))) := by rfl) :
    PE X (.Call (.Attribute o m apos) (e :: es) [] pos) (tMethX C m sp E ta t) := by
  refine ⟨fun pins s σ H Q I h => ?_⟩
  refine PySem.W.methodCall_KW (pl := pl) (thn (he.run pins s σ H _ I h) fun u s1 ⟨x, H1, I1, rx, a, dx, fs, ex, ea, l, q⟩ => ?_) ht
  subst ex
  obtain rfl : u = Value.ref a := rx
  refine getmeth_ok I1 ea c hm l ?_
  refine PySem.W.callWith_K (first := [.ref a]) (h₀ := X.base) I.ok.mod.kin hm.kp (thn (ha.run pos pins s1 σ H1 _ I1 q) fun us s2 ⟨vs, H2, I2, r, q2⟩ => ⟨I2.kIn, ?_⟩) hst hpl
  exact run_fnS (us := .ref a :: us) (vs := .ref a :: vs) F hr hb (hx σ) I2 (.cons rfl r) q2
theorem pe_methX0 {pl : Sem Bool} (he : PE X o ta) (c : Cls X.K C) (hm : Meth X.K C m f) (F : FnOk X.prog X.w X.K X.mg X.base CX k f fd ps sp) (hr : Room k X.A) (hb : Binds X.K fd ps []) (hx : ∀ σ, PassesAt CX X σ (E σ))
    (ht : eval (.Call (.Attribute o m apos) [] [] pos) X.env = (do
      let ov ← eval o X.env
      standAt apos.atName
      let (f, first) ← holding [ov] (getMethod ov m pl)
      callWith pos f first (backTo pos (starEach [] X.env)) (backToKw pos (keywordEach [] X.env))) := by rfl) :
    PE X (.Call (.Attribute o m apos) [] [] pos) (tMethX C m sp E ta tNil) := by
  refine ⟨fun pins s σ H Q I h => ?_⟩
  refine PySem.W.methodCall_KW (pl := pl) (thn (he.run pins s σ H _ I h) fun u s1 ⟨x, H1, I1, rx, a, dx, fs, ex, ea, l, q⟩ => ?_) ht
  subst ex
  obtain rfl : u = Value.ref a := rx
  refine getmeth_ok I1 ea c hm l ?_
  exact PySem.W.callWith_K0 (first := [.ref a]) I1.kIn hm.kp (run_fnS (us := [.ref a]) (vs := [.ref a]) F hr hb (hx σ) I1 (.cons rfl .nil) q)
/-- a thing is locked for good -/
theorem pe_lockX {te : TE} (h : PE X e te) : PE X e (fun σ H Q => te σ H fun v H1 => ∃ d u, H1 d = some u ∧ Mut (some u) ∧ ∀ od, Q v (upd H1 d (.frz od u))) := ⟨fun pins s σ H Q I hq => by
  refine thn (h.run pins s σ H _ I hq) fun u s1 hh => ?_
  obtain ⟨v, H1, I1, r1, d, o, ho, mu, k⟩ := hh
  obtain ⟨od, J⟩ := I1.lock ho mu
  exact ⟨v, _, J, r1, k od⟩⟩
end
end L2
namespace Fw
open PySem L2
namespace Res
/-- what is made: the state that __init__ leaves is the datum -/
def mk {ε σ γ : Type} (m : Res ε (Unit × σ)) (s : γ) : Res ε (σ × γ) := match m with
  | stuck => stuck
  | val p => val (p.2, s)
  | exn x => exn x
end Res
/-- fields and their data -/
def FsTys {τ : Type} (I : Hp) (fs : List (Str × V)) (ns : List Str) (T : Tys τ) (d : τ) : Prop := ∃ vs, T.rep I vs d ∧ ∀ (j : Nat) (f : Str) (w : V), ns[j]? = some f → vs[j]? = some w → fs.lookup f = some w
theorem fst_nil {I : Hp} {fs : List (Str × V)} : FsTys I fs [] Tys.nil () := ⟨[], rfl, fun j f w h => by simp at h⟩
theorem fst_cons {α τ : Type} {A : Ty α} {T : Tys τ} {I : Hp} {fs : List (Str × V)} {f : Str} {ns : List Str} {d : α × τ} (h : ∃ v, fs.lookup f = some v ∧ A.rep I v d.1) (q : FsTys I fs ns T d.2) : FsTys I fs (f :: ns) (Tys.cons A T) d := by
  obtain ⟨v, h1, h2⟩ := h
  obtain ⟨vs, h3, h4⟩ := q
  refine ⟨v :: vs, ⟨v, vs, rfl, h2, h3⟩, fun j g w e1 e2 => ?_⟩
  cases j with
  | zero =>
    simp only [List.getElem?_cons_zero, Option.some.injEq] at e1 e2
    subst e1; subst e2; exact h1
  | succ j =>
    simp only [List.getElem?_cons_succ] at e1 e2
    exact h4 j g w e1 e2
theorem sep_drop : ∀ (Ls : List Rg) {L' : List Rg} {I H : Hp}, Sep I (Ls ++ L') H → Sep I L' H
  | [], _, _, _, h => h
  | _ :: Ls, _, _, _, h => sep_drop Ls h.tail
section
variable {X : Cx} {N : List Str} {sc scope : Scope} {own : Str → Bool} {κ α β γ δ ε ρ ν ν' τ ι σo : Type} [DecidableEq κ] {A : Ty α} {B : Ty β} {C : Ty δ} {T : Tys τ} {e a b c k tg iter o : Expr} {es rest : List Expr} {ss b1 : List Stmt} {f x y z m : Str} {pos p p' apos cpos : Pos} {Γ Γ' gx : List Slot} {L : γ → List Rg} {s : γ} {xt : XT ε} {L0 L1 : List Rg} {q Cl fi : Addr} {K : Kt κ}
  {CX : CXT} {n : Nat} {fd : FuncData} {ps : List Str}
/-- C(e, ..), an instance with one dict, locked for good -/
theorem ef_make1 {T0 : Tys τ} {To : Tys σo} {ns : List Str} {Φ : Addr → σo → List (Str × Slot)} {kv : σo → List (κ × α)} {g : (Unit × τ) → Unit → Res ε (Unit × σo)} {mm : Res ε (τ × γ)} (cx : Cxt X N sc own) (M : Mk X.K Cl fi)
    (F : FnOk X.prog X.w X.K X.mg X.base CX n fi fd ps (spec (fun a : Addr => Tys.cons (tCell a) T0) (fun a _ => [cell a (cIns Cl [])]) (fun a => rtV tNone (fun d => [exR fun q : Addr => [cell a (cIns Cl (Φ q d)), cell q (cDic K A (kv d))]])) (fun _ => xt) g))
    (hr : Room (n + 1) X.A) (hm : X.mg x = some (.ref Cl)) (hb : Binds X.K fd ps []) (pw : PassW CX X) (ha : AF X (e :: es) Γ L s T0 xt mm) (hx : ∀ x, xt.regs x = [])
    (hfin : ∀ (I : Hp) (fs : List (Str × V)) (q : Addr) (d : σo), FsOk I fs (Φ q d) → (tDic K A).rep I (.ref q) (kv d) → FsTys I fs ns To d) (hns : ∀ q d, (Φ q d).map (·.1) = ns := by intro _ _; rfl)
    (hg : glB sc x = true := by decide +kernel) (he : starEach (e :: es) X.env = (false, eval e X.env) :: starEach es X.env := by exact star_c rfl) (hpl : (backTo pos (starEach es X.env)).any (·.1) = false := by rfl) :
    EF X (.Call (.Name x p) (e :: es) [] pos) Γ L s (tObj Cl ns To) xt (mm.bnd fun t s1 => (g ((), t) ()).mk s1) := fun I σ F' H Q fr th => by
  obtain ⟨h1, h2, h3⟩ := glB_gl cx hg
  refine PE_to (pe_lockX (pe_makeX M F hr h1 hm hb pw pa_w h2 he hpl)) ?_
  refine Then.bndA ha fr th fun I1 vs H1 t s1 e1 fr1 rv th1 => ?_
  intro xa dx hxa hdx hne
  have i1 : I1 dx = none := fr1.sep.same.free hdx
  have se1 : Sep (upd I1 dx (.own xa)) (L s1 ++ F') (upd H1 dx (.own xa)) := fr1.sep.imm hdx
  have hxa2 : upd H1 dx (.own xa) xa = none := by rw [upd_ne (fun z => hne z.symm)]; exact hxa
  have se2 : Sep (upd I1 dx (.own xa)) (cell xa (cIns Cl []) :: (L s1 ++ F')) (upd (upd H1 dx (.own xa)) xa (.ins Cl dx [])) := se1.new hxa2 ⟨dx, [], rfl, fun i f {α} A d q => by simp at q, fun f _ => rfl, Nat.le_refl _⟩
  refine ⟨xa, upd I1 dx (.own xa), L s1 ++ F', ((), t), (), se2, ⟨_, _, rfl, rfl, T0.mono (Same.upd i1) rv⟩, ?_⟩
  cases hgv : g ((), t) () with
  | stuck => rw [hgv] at th1; exact th1
  | exn y =>
    rw [hgv] at th1
    intro I2 H2 c da e2 se3 r2
    refine th1 I2 H2 c da ((Same.upd i1).trans e2) ⟨?_, fr1.len, (fr1.sl.mono (Same.upd i1)).mono e2⟩ r2
    rw [hx] at se3 ⊢
    exact sep_drop (L s1) se3
  | val pr =>
    rw [hgv] at th1
    intro I2 v H2 e2 se3 r2
    cases (show v = .non from r2)
    refine ⟨rfl, ?_⟩
    obtain ⟨qd, se4⟩ := Sep.open (L := L s1 ++ F') se3
    have se5 : Sep I2 (cell qd (cDic K A (kv pr.2)) :: (cell xa (cIns Cl (Φ qd pr.2)) :: (L s1 ++ F'))) H2 := se4.perm (.swap _ _ _)
    obtain ⟨o, ho, ⟨ws, rfl, pd⟩, hi⟩ := se5.get
    refine ⟨qd, _, ho, K.mu ws, fun od => ?_⟩
    have se6 : Sep I2 (cell qd ⟨fun _ o => o = HO.frz od (K.holds ws), fun _ h => h, fun h ys z => by rw [h] at z; cases z⟩ :: (cell xa (cIns Cl (Φ qd pr.2)) :: (L s1 ++ F'))) (upd H2 qd (.frz od (K.holds ws))) := se5.put rfl
    obtain ⟨o2, ho2, eo2, hi2, se7⟩ := se6.freeze
    cases (show o2 = _ from eo2)
    obtain ⟨o3, ho3, ⟨dx3, fs, rfl, ok⟩, hi3, se8⟩ := se7.freeze
    have eI : Same I1 (upd (upd I2 qd (.frz od (K.holds ws))) xa (.ins Cl dx3 fs)) := (((Same.upd i1).trans e2).trans (Same.upd hi2)).trans (Same.upd hi3)
    have rD : (tDic K A).rep (upd I2 qd (.frz od (K.holds ws))) (.ref qd) (kv pr.2) := ⟨qd, od, ws, rfl, upd_same, pd.mono (Same.upd hi2)⟩
    obtain ⟨vs2, g1, g2⟩ := hfin _ fs qd pr.2 ok rD
    refine th1 _ _ _ eI ⟨se8, fr1.len, fr1.sl.mono eI⟩ ⟨xa, dx3, fs, vs2, rfl, upd_same, To.mono (Same.upd hi3) g1, g2, fun f hf => ok.2.1 f (by rw [hns]; exact hf)⟩
/-- o.m(e, ..) of an instance that never changes -/
theorem ef_meth {T0 : Tys τ} {To : Tys σo} {ns : List Str} {g : (σo × τ) → Unit → Res ε (δ × Unit)} {mo : Res ε (σo × γ)} {ma : σo → γ → Res ε (τ × γ)} (c : Cls X.K Cl) (hm : Meth X.K Cl m fi)
    (F : FnOk X.prog X.w X.K X.mg X.base CX n fi fd ps (spec (fun _ : Unit => Tys.cons (tObj Cl ns To) T0) (fun _ _ => []) (fun _ => rtV C (fun _ => [])) (fun _ => xt) g))
    (hr : Room n X.A) (hb : Binds X.K fd ps []) (pw : PassW CX X) (ho : EF X o Γ L s (tObj Cl ns To) xt mo) (ha : ∀ d s1, AF X (e :: es) Γ L s1 T0 xt (ma d s1)) (hx : ∀ x, xt.regs x = []) (hmn : m ∉ ns := by decide) {pl : Sem Bool}
    (hst : starEach (e :: es) X.env = (false, eval e X.env) :: starEach es X.env := by exact star_c rfl) (hpl : (backTo pos (starEach es X.env)).any (·.1) = false := by rfl)
    (ht : eval (.Call (.Attribute o m apos) (e :: es) [] pos) X.env = (do
      let ov ← eval o X.env
      standAt apos.atName
      let (f, first) ← holding [ov] (getMethod ov m pl)
      callWith pos f first (backTo pos (starEach (e :: es) X.env)) (backToKw pos (keywordEach [] X.env))) := by rfl) :
    EF X (.Call (.Attribute o m apos) (e :: es) [] pos) Γ L s C xt (mo.bnd fun d s1 => (ma d s1).bnd fun t s2 => (g (d, t) ()).up s2) := fun I σ F' H Q fr th => by
  refine PE_to (pe_methX pe_w c hm F hr hb pw pa_w hst hpl ht) ?_
  refine Then.bnd ho fr th fun I1 v H1 d s1 e1 fr1 rv th1 => ?_
  obtain ⟨pa, dx, fs, vs0, rfl, q1, q2, q3, q4⟩ := rv
  refine ⟨pa, dx, fs, rfl, fr1.sep.same _ _ q1, q4 m hmn, ?_⟩
  refine Then.bndA (ha d s1) fr1 th1 fun I2 vs H2 t s2 e2 fr2 rv2 th2 => ?_
  refine ⟨(), I2, L s2 ++ F', (d, t), (), fr2.sep, ⟨_, _, rfl, ⟨pa, dx, fs, vs0, rfl, e2 _ _ q1, To.mono e2 q2, q3, q4⟩, rv2⟩, ?_⟩
  cases hgv : g (d, t) () with
  | stuck => rw [hgv] at th2; exact th2
  | exn y =>
    rw [hgv] at th2
    intro I3 H3 c da e3 se3 r3
    refine th2 I3 H3 c da e3 (fr2.step e3 ?_) r3
    rw [hx] at se3 ⊢
    exact sep_drop (L s2) se3
  | val pr =>
    rw [hgv] at th2
    intro I3 v3 H3 e3 se3 r3
    exact th2 I3 v3 H3 e3 (fr2.step e3 se3) r3
/-- o.m() -/
theorem ef_meth0 {To : Tys σo} {ns : List Str} {g : (σo × Unit) → Unit → Res ε (δ × Unit)} {mo : Res ε (σo × γ)} (c : Cls X.K Cl) (hm : Meth X.K Cl m fi)
    (F : FnOk X.prog X.w X.K X.mg X.base CX n fi fd ps (spec (fun _ : Unit => Tys.cons (tObj Cl ns To) Tys.nil) (fun _ _ => []) (fun _ => rtV C (fun _ => [])) (fun _ => xt) g))
    (hr : Room n X.A) (hb : Binds X.K fd ps []) (pw : PassW CX X) (ho : EF X o Γ L s (tObj Cl ns To) xt mo) (hx : ∀ x, xt.regs x = []) (hmn : m ∉ ns := by decide) {pl : Sem Bool}
    (ht : eval (.Call (.Attribute o m apos) [] [] pos) X.env = (do
      let ov ← eval o X.env
      standAt apos.atName
      let (f, first) ← holding [ov] (getMethod ov m pl)
      callWith pos f first (backTo pos (starEach [] X.env)) (backToKw pos (keywordEach [] X.env))) := by rfl) :
    EF X (.Call (.Attribute o m apos) [] [] pos) Γ L s C xt (mo.bnd fun d s1 => (g (d, ()) ()).up s1) := fun I σ F' H Q fr th => by
  refine PE_to (pe_methX0 pe_w c hm F hr hb pw ht) ?_
  refine Then.bnd ho fr th fun I1 v H1 d s1 e1 fr1 rv th1 => ?_
  obtain ⟨pa, dx, fs, vs0, rfl, q1, q2, q3, q4⟩ := rv
  refine ⟨pa, dx, fs, rfl, fr1.sep.same _ _ q1, q4 m hmn, ?_⟩
  refine ⟨(), I1, L s1 ++ F', (d, ()), (), fr1.sep, ⟨_, _, rfl, ⟨pa, dx, fs, vs0, rfl, q1, q2, q3, q4⟩, rfl⟩, ?_⟩
  cases hgv : g (d, ()) () with
  | stuck => rw [hgv] at th1; exact th1
  | exn y =>
    rw [hgv] at th1
    intro I3 H3 c da e3 se3 r3
    refine th1 I3 H3 c da e3 (fr1.step e3 ?_) r3
    rw [hx] at se3 ⊢
    exact sep_drop (L s1) se3
  | val pr =>
    rw [hgv] at th1
    intro I3 v3 H3 e3 se3 r3
    exact th1 I3 v3 H3 e3 (fr1.step e3 se3) r3
end
end Fw


/-! ## 120. exceptions as values -/
namespace L2
open PySem PySem.Spec PyProof.Rows
/-- an exception object of the class C at a, as a value -/
def XV (H : Hp) (C a : Addr) : Prop := (∃ d fs, H a = some (exo a C (some d)) ∧ H d = some (exd d fs)) ∨ H a = some (ExO (.ref C) a)
section
variable {X : Cx} {pins : List (Addr × Obj)} {σ : St} {H : Hp} {s : Shared} {a C : Addr}
theorem inst_exo {d : Addr} {fs : List (Str × V)} (I : Inv X pins σ H s) (e : H a = some (exo a C (some d))) (ed : H d = some (exd d fs)) :
    ∃ (oe od : Obj) (mA : Str → Option Value), PySem.W.InstAt s.heap a oe C (some od) ∧ (∀ f, PySem.W.lookIn f od = some (mA f)) ∧ ∀ f, RelO (fs.lookup f) (mA f) := by
  obtain ⟨t1, h1⟩ := exo_at I.hok e
  obtain ⟨mA, hns, rel⟩ := exd_at I.hok ed
  obtain ⟨od, ho, hl⟩ := lookIn_ns hns
  exact ⟨_, od, mA, ⟨h1, rfl, rfl, ho⟩, hl, rel⟩
theorem inst_xv (I : Inv X pins σ H s) (h : XV H C a) : ∃ oe od, PySem.W.InstAt s.heap a oe C od := by
  rcases h with ⟨d, fs, e, ed⟩ | e
  · obtain ⟨oe, od, _, J, _⟩ := inst_exo I e ed
    exact ⟨oe, _, J⟩
  · obtain ⟨⟨oe, vs, ho, hz, hd, _⟩, _⟩ := I.hok a _ e
    obtain ⟨oc, od, oda, osl⟩ := oe
    obtain ⟨h1, h2⟩ := hz
    dsimp only at h1 h2 hd
    subst h1 h2 hd
    exact ⟨_, none, ho, rfl, rfl, trivial⟩
end
def rIsV (K : PySem.W.Frag) : List V → Hp → VK → Prop := fun xs H Q => ∃ (a : Addr) (c : V) (cv : Value) (D : Addr) (b : Bool), xs = [.ref a, c] ∧ XV H D a ∧ (∀ u, RelV c u → u = cv) ∧ Fw.ExK K D ∧ PySem.W.kitOne K (.ref D) cv = some b ∧ Q (.bl b) H
theorem call_isV {X : Cx} : CallR X (.builtin "isinstance") (rIsV X.K) := by
  intro pins s σ H xs us Q I r h
  obtain ⟨a, c, cv, D, b, rfl, hx, hcv, C, e, q⟩ := h
  cases r with
  | cons rx rr =>
    cases rr with
    | cons rt rr =>
      cases rr
      cases rx
      have ec := hcv _ rt
      subst ec
      obtain ⟨oe, od, J⟩ := inst_xv I hx
      exact PySem.W.kia_one (PySem.W.kitx_exc C.cl C.ga C.gg C.exC C.ha C.hn C.ht C.hm) I.kIn J e (fun z => nomatch z) fun tk => ⟨.bl b, H, I.kept (t' := tk) fun _ _ z => z, rfl, q⟩
def tXfV (K : PySem.W.Frag) (f : Str) (te : TE) : TE := fun σ H Q => te σ H fun x H1 => ∃ (a C d : Addr) (fs : List (Str × V)) (v : V), x = .ref a ∧ H1 a = some (exo a C (some d)) ∧ H1 d = some (exd d fs) ∧ XfC K C ∧ PySem.W.findIn K (.ref C) f = some none ∧ fs.lookup f = some v ∧ Q v H1
theorem pe_xfV {X : Cx} {e : Expr} {te : TE} {pos : Pos} {n : Str} (he : PE X e te) (hb : attributeBase e n X.env (eval e X.env) = eval e X.env := by rfl) : PE X (.Attribute e n pos) (tXfV X.K n te) := by
  refine ⟨fun pins s σ H Q I h => ?_⟩
  refine attr_of hb (thn (he.run pins s σ H _ I h) fun u s1 hh => ?_)
  obtain ⟨x, H1, I1, rx, a, C, d, fs, v, ex, ea, ed, T, hno, l, q⟩ := hh
  subst ex
  obtain rfl : u = Value.ref a := rx
  obtain ⟨oe, od, mA, J, hl, hr⟩ := inst_exo I1 ea ed
  obtain ⟨u, hu, ru⟩ := RelO.some_of (v := v) (o := mA n) (by rw [← l]; exact hr n)
  exact HandSPX.exc_get I1.kIn J T.ga T.gg T.exC (PySem.W.findObj_own T.hdC hno rfl (by rw [hl, hu])) (handed_of ru) ⟨v, H1, I1.tok _, ru, q⟩
def tMkV (C : Addr) (sp : Sp) (ta : TA) : TE := fun σ H Q => ta σ H fun vs H1 => vs.length ≤ 1000 ∧ ∀ a, H1 a = none → sp (.ref a :: vs) (upd H1 a (exo a C none)) (fun v H2 => v = .non ∧ Q (.ref a) H2) (fun _ _ _ => False)
theorem pe_mkV {X : Cx} {CX : CXT} {x : Str} {C fI : Addr} {k : Nat} {fd : FuncData} {ps : List Str} {sp : Sp} {e : Expr} {es : List Expr} {ta : TA} {p pos : Pos} (T : OexC X.K C) (iC : PySem.W.findIn X.K (.ref C) "__init__" = some (some (.ref fI))) (tI : PySem.W.typeIn X.K (.ref fI) = some (.type "function"))
    (F1 : FnOk X.prog X.w X.K X.mg X.base CX k fI fd ps sp) (hr : Room (k + 1) X.A) (hb : Binds X.K fd ps []) (hx : Passes CX X (fun _ _ _ => False)) (hg : Gl X x) (hm : X.mg x = some (.ref C)) (ha : PA X (e :: es) ta)
    (hdb : (x == ("__debug__" : Str)) = false := by decide) (he : starEach (e :: es) X.env = (false, eval e X.env) :: starEach es X.env := by rfl) (hpl : (backTo pos (starEach es X.env)).any (·.1) = false := by rfl) :
    PE X (.Call (.Name x p) (e :: es) [] pos) (tMkV C sp ta) := by
  refine ⟨fun pins s σ H Q I h => ?_⟩
  obtain ⟨nm, q, N, bs, bm, sn, sub, ab, col, dd, k0, k1, k2, k3, k5, hC, hbm⟩ := T.cls
  refine wpAny_Call_Name_kw (ld_glob I hg hm ?_ hdb)
  refine PySem.W.callWith_K (h₀ := X.base) I.ok.mod.kin T.kC (thn (ha.run pos pins s σ H _ I h) fun us s1 ⟨vs, H1, I1, r1, hz, q1⟩ => ⟨I1.kIn, ?_⟩) he hpl
  show wpAny _ _ (call (.ref C) us) _ _ _
  obtain ⟨hp, g, dr, tk, os⟩ := s1
  have hsz : hp.objs.size ≤ hp.objs.size + 1 := Nat.le_succ _
  have hn : H1 (hp.objs.size + 1) = none := I1.hok.fresh hsz
  have hq := q1 (hp.objs.size + 1) hn
  have kk : ∀ b o, hp.get? b = some o → ((hp.push (PySem.W.kdv_tup us)).push (PySem.HandSPX.excO C hp.objs.size)).get? b = some o := fun b o e => Heap.get?_push_of_some _ (Heap.get?_push_of_some _ e)
  have hget : ((hp.push (PySem.W.kdv_tup us)).push (PySem.HandSPX.excO C hp.objs.size)).get? (hp.objs.size + 1) = some (PySem.HandSPX.excO C hp.objs.size) := by heap_get
  have I2 : Inv X pins σ (upd H1 (hp.objs.size + 1) (exo (hp.objs.size + 1) C none)) ⟨(hp.push (PySem.W.kdv_tup us)).push (PySem.HandSPX.excO C hp.objs.size), g, dr, tk, os⟩ :=
    I1.laid (t' := tk) (a := hp.objs.size + 1) (o := exo (hp.objs.size + 1) C none) (h' := (hp.push (PySem.W.kdv_tup us)).push (PySem.HandSPX.excO C hp.objs.size)) kk hsz (exo_ok hget)
  have r2 : Vals (V.ref (hp.objs.size + 1) :: vs) (Value.ref (hp.objs.size + 1) :: us) := .cons rfl r1
  have hl : (Value.ref (hp.objs.size + 1) :: us).length = ps.length := by
    have e := r2.length
    rw [F1.len _ _ _ _ hq] at e
    exact e.symm
  have b := hb _ (Value.ref (hp.objs.size + 1) :: us) I2.kIn (by rw [List.append_nil]; exact hl)
  rw [List.append_nil] at b
  have hus : us.length ≤ sizeLine := by
    rw [← Paired.length r1, sizeLine_eq]
    omega
  refine wpAny_call (PySem.HandSPX.call_own F.excBase_ValueError (fun Y => PySem.HandSPX.refsVE_contains Y bm hbm) (I1.kIn _ _ hC) (PySem.W.looks_findIn I1.kIn iC) (fun self => PySem.W.bind_fn I1.kIn self tI) hus
    (codeAny_mono (F1.run _ X.stack _ _ ⟨Value.ref (hp.objs.size + 1) :: us, []⟩ (Value.ref (hp.objs.size + 1) :: us) _ _ (fun _ _ _ => False) (hr.make C us []) (I2.env0.make C us []) b r2 hq) fun r s' hq' => ?_))
  cases r with
  | error er => exact hx pins σ _ _ er s' I2 hq'
  | ok fl =>
    cases fl with
    | ret u =>
      obtain ⟨v, H', I3, rv, ev, q3⟩ := I2.after hq'
      subst ev
      exact ⟨rv, ⟨V.ref (hp.objs.size + 1), H', I3, rfl, q3⟩⟩
    | next => exact False.elim hq'
    | brk => exact False.elim hq'
    | cont => exact False.elim hq'
end L2
namespace Fw
open PySem L2
instance : Inhabited PExc := ⟨.noRow⟩
def repV (C : Addr) (fld : Str) (v : V) (I : Hp) (a : Addr) : Prop := ∃ d, I a = some (exo a C (some d)) ∧ I d = some (exd d [(fld, v)])
def repV0 (C : Addr) (I : Hp) (a : Addr) : Prop := I a = some (L2.ExO (.ref C) a)
theorem repV_mono {C : Addr} {fld : Str} {v : V} {I I' : Hp} {a : Addr} (e : Same I I') (h : repV C fld v I a) : repV C fld v I' a := let ⟨d, p, q⟩ := h; ⟨d, e _ _ p, e _ _ q⟩
theorem repV0_mono {C : Addr} {I I' : Hp} {a : Addr} (e : Same I I') (h : repV0 C I a) : repV0 C I' a := e _ _ h
section
variable {X : Cx} {N : List Str} {sc scope : Scope} {own : Str → Bool} {α β γ δ ε ε2 ρ ν ν' τ : Type} {A : Ty α} {e a b c : Expr} {es rest : List Expr} {ss : List Stmt} {f x y z fld : Str} {pos p p' : Pos} {Γ Γ' gx : List Slot} {L : γ → List Rg} {s : γ} {xt : XT ε} {L0 : List Rg} {XVt : Ty ε2}
/-- X(e) as a value -/
theorem ef_mkX {C fI : Addr} {k : Nat} {fd : FuncData} {ps : List Str} {mk : α → ε2} {m : Res ε (α × γ)} (cx : Cxt X N sc own) (T : ExO X.K C fld fI) (F1 : FnOk X.prog X.w X.K X.mg X.base CX0 k fI fd ps (spInit C fld)) (hr : Room (k + 1) X.A) (hb : Binds X.K fd ps []) (hm : X.mg x = some (.ref C))
    (h : EF X e Γ L s A xt m) (hrep : ∀ I a v q, A.rep I v q → repV C fld v I a → XVt.rep I (.ref a) (mk q))
    (hg : glB sc x = true := by decide +kernel) (he : starEach [e] X.env = (false, eval e X.env) :: starEach [] X.env := by exact star_c rfl) :
    EF X (.Call (.Name x p) [e] [] pos) Γ L s XVt xt (m.bnd fun d s => Res.val (mk d, s)) := fun I σ F H Q fr th => by
  obtain ⟨h1, h2, h3⟩ := glB_gl cx hg
  refine PE_to (pe_mkV T.oex T.init T.tI F1 hr hb (fun _ _ _ _ _ _ _ h => h.elim) h1 hm (pa_cons pe_w pa_nil he) h2 he rfl) ?_
  refine Then.bnd h fr th fun I1 v H1 d s1 e1 fr1 r th1 => ?_
  refine ⟨by simp, fun aa ha => ?_⟩
  refine ⟨aa, v, rfl, upd_same, fun dx hdx hne => ?_⟩
  have hd1 : H1 dx = none := by rw [upd_ne hne] at hdx; exact hdx
  refine ⟨rfl, ?_⟩
  have i1 : I1 dx = none := fr1.sep.same.free hd1
  have se1 := fr1.sep.imm (o := exd dx [(fld, v)]) hd1
  have ha2 : upd H1 dx (exd dx [(fld, v)]) aa = none := by rw [upd_ne (fun z => hne z.symm)]; exact ha
  have i2 : upd I1 dx (exd dx [(fld, v)]) aa = none := se1.same.free ha2
  have se2 := se1.imm (o := exo aa C (some dx)) ha2
  have eH : upd (upd (upd H1 aa (exo aa C none)) dx (exd dx [(fld, v)])) aa (exo aa C (some dx)) = upd (upd H1 dx (exd dx [(fld, v)])) aa (exo aa C (some dx)) := by
    funext b
    by_cases h1 : b = aa
    · subst h1; rw [upd_same, upd_same]
    · rw [upd_ne h1, upd_ne h1]
      by_cases h2 : b = dx
      · subst h2; rw [upd_same, upd_same]
      · rw [upd_ne h2, upd_ne h2, upd_ne h1]
  rw [eH]
  have eI : Same I1 (upd (upd I1 dx (exd dx [(fld, v)])) aa (exo aa C (some dx))) := (Same.upd i1).trans (Same.upd i2)
  refine th1 _ _ _ eI ⟨se2, fr1.len, fr1.sl.mono eI⟩ (hrep _ aa v d (A.mono eI r) ⟨dx, upd_same, ?_⟩)
  rw [upd_ne hne, upd_same]
/-- X(e), X without an __init__ of its own -/
theorem ef_mkX0 {C : Addr} {q : ε2} {m : Res ε (α × γ)} (cx : Cxt X N sc own) (hE : PySem.W.excIn X.K C He.veBase "ValueError.__new__" = true) (hk : PySem.W.keepIn X.K (.ref C) = true) (hm : X.mg x = some (.ref C)) (h : EF X e Γ L s A xt m) (hrep : ∀ I a, repV0 C I a → XVt.rep I (.ref a) q)
    (hg : glB sc x = true := by decide +kernel) (he : starEach [e] X.env = (false, eval e X.env) :: starEach [] X.env := by exact star_c rfl) :
    EF X (.Call (.Name x p) [e] [] pos) Γ L s XVt xt (m.bnd fun _ s => Res.val (q, s)) := fun I σ F H Q fr th => by
  obtain ⟨h1, h2, h3⟩ := glB_gl cx hg
  refine PE_to (pe_exc1 PySem.F.excBase_ValueError hE hm hk h1 pe_w he h2) ?_
  refine Then.bnd h fr th fun I1 v H1 d s1 e1 fr1 r th1 => ?_
  intro aa ha
  have i1 : I1 aa = none := fr1.sep.same.free ha
  exact th1 _ _ _ (Same.upd i1) ⟨fr1.sep.imm ha, fr1.len, fr1.sl.mono (Same.upd i1)⟩ (hrep _ aa upd_same)
/-- which exceptions a class means -/
def IsOfV (K : PySem.W.Frag) (XVt : Ty ε2) (cv : Value) (isF : ε2 → Bool) : Prop := ∀ I v y, XVt.rep I v y → ∃ a D, v = .ref a ∧ XV I D a ∧ ExK K D ∧ PySem.W.kitOne K (.ref D) cv = some (isF y)
theorem xv_mono {I I' : Hp} {C a : Addr} (e : Same I I') (h : XV I C a) : XV I' C a := by
  rcases h with ⟨d, fs, p, q⟩ | p
  · exact .inl ⟨d, fs, e _ _ p, e _ _ q⟩
  · exact .inr (e _ _ p)
theorem dn_isV {K : PySem.W.Frag} {cv : Value} {isF : ε2 → Bool} (hk : IsOfV K XVt cv isF) : DN (rIsV K) (Tys2 XVt (tClsR cv)) tBool (fun _ => True) (fun t => isF t.1) := fun I L H vs t Q se rv _ kk => by
  obtain ⟨v, w, rfl, r1, r2⟩ := tys2 rv
  obtain ⟨a, D, rfl, h1, h2, h3⟩ := hk I v t.1 r1
  exact ⟨a, w, cv, D, _, rfl, xv_mono se.same h1, r2, h2, h3, kk I _ H (Same.refl _) se rfl⟩
theorem ep_isV {cv : Value} {isF : ε2 → Bool} {d : ε2} {e1 e2 : Expr} (cx : Cxt X N sc own) (hi : X.mg "isinstance" = none) (hk : IsOfV X.K XVt cv isF)
    (h1 : EP X e1 Γ L0 XVt d) (h2 : EP X e2 Γ L0 (tClsR cv) ()) (hg : glB sc "isinstance" = true := by decide +kernel) (k1 : isStar e1 = false := by rfl) (k2 : isStar e2 = false := by rfl) :
    EP X (.Call (.Name "isinstance" p) [e1, e2] [] pos) Γ L0 tBool (isF d) :=
  ep_callB (T := Tys2 XVt (tClsR cv)) (t := (d, (), ())) cx call_isV (dn_isV hk) hi (by decide +kernel) (ap_cons h1 (ap_cons h2 ap_nil (star_c k2)) (star_c k1)) trivial hg (star_c k1) (by rw [star_c k2]; rfl)
/-- e.f of an exception that is a value -/
theorem ef_xfV {has : ε2 → Bool} {get : ε2 → α} {m : Res ε (ε2 × γ)} (h : EF X e Γ L s XVt xt m) (hk : ∀ I v d, XVt.rep I v d → has d = true → ∃ (a C dd : Addr) (fs : List (Str × V)) (w : V), v = .ref a ∧ I a = some (exo a C (some dd)) ∧ I dd = some (exd dd fs) ∧ XfC X.K C ∧ PySem.W.findIn X.K (.ref C) fld = some none ∧ fs.lookup fld = some w ∧ A.rep I w (get d))
    (hb : attributeBase e fld X.env (eval e X.env) = eval e X.env := by rfl) : EF X (.Attribute e fld pos) Γ L s A xt (m.bnd fun d s => Res.grd (has d = true) (get d, s)) := fun I σ F H Q fr th => by
  refine PE_to (pe_xfV pe_w hb) ?_
  refine Then.bnd h fr th fun I1 v H1 d s1 e1 fr1 r th1 => ?_
  obtain ⟨hh, th2⟩ := Then.grd th1
  obtain ⟨aa, C, dd, fs, w, rfl, q1, q2, q3, q4, q5, q6⟩ := hk I1 v d r hh
  exact ⟨aa, C, dd, fs, w, rfl, fr1.sep.same _ _ q1, fr1.sep.same _ _ q2, q3, q4, q5, th2 I1 w H1 (Same.refl _) fr1 q6⟩
end
end Fw


/-! ## 130. what is one's own becomes data; what is handed in and read only; reversed -/
namespace L2
open PySem PySem.Spec PyProof.Rows
/-- list(d), d a locked dict: its keys -/
def rListF : List V → Hp → VK → Prop := fun xs H Q => ∃ (p : Addr) (o : Obj) (kvs : List (Key × V)), xs = [.ref p] ∧ H p = some (.frz o (.dK kvs)) ∧ ∀ q, H q = none → Q (.ref q) (upd H q (.lst (kvs.map fun kv => kV kv.1)))
theorem call_listF {X : Cx} (hc : X.calm = true) : CallR X (.type "list") rListF := by
  intro pins s σ H xs us Q I r ⟨p, o, kvs, e, hk, q⟩
  subst e
  cases r with
  | cons rx rr =>
    cases rr
    cases rx
    obtain ⟨lo, _, _, es, ep, vs, _, _, kv, hat⟩ := I.frzK hk
    have z : kvs.length ≤ sizeLine := (I.hok p _ hk).2.1
    have hl : kvs.length = vs.length := Paired.length kv
    refine PySem.W.kdl_call (PySem.W.kdl_dict (knd := mixKind X.prog X.w) (kvs := vs) (ep := ep) lo) (I.ok.hd hc) hat (by omega) fun h' tk acc c kp hS hacc => ?_
    have h1 : acc.toList.length = acc.size := by simp
    have h2 : acc.size = vs.length := hacc.1
    have rel : Vals (kvs.map fun kv => kV kv.1) acc.toList := vals_of_at (by rw [List.length_map]; omega) fun j x w h1 h2 => by
      obtain ⟨k, y, hky, hi⟩ := hacc.2 j w (by rw [← Array.getElem?_toList]; exact h2)
      rw [List.getElem?_map] at h1
      have ek : (kvs[j]?).map (·.1) = some k := by
        rw [← List.getElem?_map, KV.keys kv, List.getElem?_map, hky]
        rfl
      cases hj : kvs[j]? with
      | none => rw [hj] at ek; cases ek
      | some w2 =>
        rw [hj] at h1 ek
        cases ek
        cases h1
        exact keyIs_rel hi
    refine ⟨.ref s.heap.objs.size, _, I.laid (t' := tk) (o := .lst (kvs.map fun kv => kV kv.1)) kp (Nat.le_refl _) ⟨by rw [List.length_map]; exact z, acc.toList, c, rel, by rw [Array.toArray_toList]; exact hS⟩, rfl, q _ (I.hok.fresh (Nat.le_refl _))⟩
end L2
namespace Fw
open PySem L2
theorem paired_of_get {α β : Type} {R : α → β → Prop} : ∀ {xs : List α} {ys : List β}, xs.length = ys.length → (∀ (i : Nat) x y, xs[i]? = some x → ys[i]? = some y → R x y) → Paired R xs ys
  | [], [], _, _ => .nil
  | [], _ :: _, h, _ => by simp at h
  | _ :: _, [], h, _ => by simp at h
  | x :: xs, y :: ys, h, f => .cons (f 0 x y rfl rfl) (paired_of_get (by simpa using h) fun i a b h1 h2 => f (i + 1) a b (by simpa using h1) (by simpa using h2))
theorem dn_listD {κ α : Type} [DecidableEq κ] {K : Kt κ} {A : Ty α} (hk : ∀ ws ks, K.holds ws ≠ .dT ks) : DN rListF (Tys1 (tDic K A)) (tLst K.T) (fun _ => True) (fun t => t.1.map (·.1)) := fun I L H vs t Q se rv hp k => by
  obtain ⟨v, rfl, p, o, ws, rfl, h2, h3⟩ := tys1 rv
  rcases K.yld with Y | Y
  · obtain ⟨ks, ek, hl, hat⟩ := Y ws
    have h2' : I p = some (.frz o (.dK ks)) := by rw [← ek]; exact h2
    refine ⟨p, o, ks, rfl, se.same _ _ h2', fun l hl2 => k (upd I l _) _ _ (Same.upd (se.same.free hl2)) (se.imm hl2) ⟨l, _, rfl, upd_same, ?_⟩⟩
    have hlen := h3.len
    refine paired_of_get (by rw [List.length_map, List.length_map]; omega) fun i v d hv hd => ?_
    rw [List.getElem?_map] at hv hd
    cases hi : ks[i]? with
    | none => rw [hi] at hv; cases hv
    | some kv =>
      rw [hi] at hv
      cases hv
      obtain ⟨k0, h0, hr⟩ := hat i kv.1 kv.2 hi
      obtain ⟨y, hy, ey, _⟩ := paired_get h3 h0
      rw [hy] at hd
      cases hd
      have ey : k0 = y.1 := ey
      subst ey
      exact hr _
  · obtain ⟨ks, ek, _⟩ := Y ws
    exact absurd ek (hk ws ks)
theorem nk_tx : ∀ ws ks, ktTx.holds ws ≠ .dT ks := fun _ _ z => nomatch z
theorem nk_int : ∀ ws ks, ktInt.holds ws ≠ .dT ks := fun _ _ z => nomatch z
/-- the thing at q, whose content is d, handed in to be read -/
def tRo {α : Type} (q : Addr) (d : α) : Ty α := ⟨fun _ v y => v = .ref q ∧ y = d, fun _ h => h⟩
section
variable {X : Cx} {N : List Str} {sc scope : Scope} {own : Str → Bool} {α β γ δ ε ρ ν τ ι : Type} {A : Ty α} {C : Ty δ} {e a b c iter tg : Expr} {es rest : List Expr} {ss : List Stmt} {f q : Addr} {x : Str} {pos p p' : Pos} {Γ Γ' gx : List Slot} {L : γ → List Rg} {s : γ} {xt : XT ε} {L0 R : List Rg}
  {gn : ν → List Slot} {ln : ν → List Rg} {rt : RT ρ} {M : Out ε ρ ν} {CX : CXT} {k : Nat} {fd : FuncData} {ps : List Str}
theorem fr_reslot {I : Hp} {σ : St} {L1 : List Rg} {H : Hp} {B : Ty β} {d : β} {v : V} {i : Nat} (fr : FrOk I σ Γ L1 H) (hv : σ[i]? = some (some v)) (hi : i < Γ.length) (r : B.rep I v d) : FrOk I σ (Γ.set i (.dat B d)) L1 H := by
  have hσ : σ.set i (some v) = σ := by
    apply List.ext_getElem?
    intro j
    by_cases hj : i = j
    · subst hj; rw [List.getElem?_set_self (by rw [fr.len]; exact hi), hv]
    · rw [List.getElem?_set_ne hj]
  have := fr.set (A := B) (d := d) (v := v) r i
  rwa [hσ] at this
/-- an own list is data from here on -/
theorem sf_freeze {xs : List α} {i : Nat} (hi : Γ[i]? = some (.dat (tCell q) ())) (hp : L0.Perm (cell q (cLst A xs) :: R)) (h : SF X ss (Γ.set i (.dat (tLst A) xs)) R gn ln rt xt gx M) : SF X ss Γ L0 gn ln rt xt gx M := fun I σ F H D fr th => by
  have se0 : Sep I (cell q (cLst A xs) :: (R ++ F)) H := fr.sep.perm (hp.append_right F)
  obtain ⟨o, ho, ⟨vs, rfl, hv⟩, hq, se1⟩ := se0.freeze
  obtain ⟨v, hv1, hv2⟩ := fr.get hi
  cases (show v = .ref q from hv2)
  have e0 : Same I (upd I q (.lst vs)) := Same.upd hq
  exact h _ σ F H D (fr_reslot (FrOk.mk se1 fr.len (fr.sl.mono e0)) hv1 (List.getElem?_eq_some_iff.mp hi).1 ⟨q, vs, rfl, upd_same, paired_mono e0 hv⟩) (sthen_up e0 th)
/-- what was handed in is an own thing here -/
theorem sf_ro {d d' : α} {i : Nat} {Lf : α → List Rg} (hi : Γ[i]? = some (.dat (tRo q d) d')) (h : SF X ss (Γ.set i (.dat (tCell q) ())) (Lf d') gn ln rt xt gx M) : SF X ss Γ (Lf d) gn ln rt xt gx M := fun I σ F H D fr th => by
  obtain ⟨v, hv1, hv2, rfl⟩ := fr.get hi
  exact h I σ F H D (fr_reslot fr hv1 (List.getElem?_eq_some_iff.mp hi).1 hv2) th
theorem ep_ro {d : α} (h : EP X e Γ L0 (tCell q) ()) : EP X e Γ L0 (tRo q d) d := ep_map (f := fun _ : Unit => d) h fun _ _ _ r => ⟨r, rfl⟩
theorem ef_call0R {T : ι → Tys τ} {L' : ι → List Rg} {g : τ → Unit → Res ε (δ × Unit)} {m : Res ε (τ × γ)} (i : ι) (R : γ → List Rg) (cx : Cxt X N sc own) (F : FnOk X.prog X.w X.K X.mg X.base CX k f fd ps (spec T (fun i _ => L' i) (fun i => rtV C (fun _ => L' i)) (fun _ => xt) g)) (hr : Room k X.A) (hm : X.mg x = some (.ref f)) (hk : PySem.W.keepIn X.K (.ref f) = true) (hb : Binds X.K fd ps []) (pw : PassW CX X)
    (ha : AF X (e :: es) Γ L s (T i) xt m) (hp : ∀ s, (L s).Perm (L' i ++ R s)) (hx : ∀ x, xt.regs x = [])
    (hg : glB sc x = true := by decide +kernel) (he : starEach (e :: es) X.env = (false, eval e X.env) :: starEach es X.env := by exact star_c rfl) (hpl : (backTo pos (starEach es X.env)).any (·.1) = false := by rfl) :
    EF X (.Call (.Name x p) (e :: es) [] pos) Γ L s C xt (m.bnd fun t s1 => (g t ()).up s1) := by
  have h := ef_call (L' := fun i _ => L' i) (γ' := Unit) (pos := pos) (p := p) i (fun _ => ()) (fun s _ => s) R cx F hr hm hk hb pw ha (fun s u => hp s) (fun _ => rfl) hx hg he hpl
  have q : (fun (t : τ) (s1 : γ) => (g t ()).lift (fun _ => s1)) = fun t s1 => (g t ()).up s1 := by
    funext t s1
    cases g t () <;> rfl
  rw [q] at h
  exact h
theorem rev_get {xs : List α} {i : Nat} {d : α} (h : xs.reverse[i]? = some d) : xs[xs.length - 1 - i]? = some d := by
  have hi : i < xs.length := by
    have := (List.getElem?_eq_some_iff.mp h).1
    rwa [List.length_reverse] at this
  rw [List.getElem?_reverse hi] at h
  exact h
theorem if_revU {m : Res ε (List α × γ)} (cx : Cxt X N sc own) (hm : X.mg "reversed" = none) (h : EF X e Γ L s (tTuL A) xt m) (hg : glB sc "reversed" = true := by decide +kernel) (hs : starEach [e] X.env = (false, eval e X.env) :: starEach [] X.env := by exact star_c rfl) :
    IF X tg (.Call (.Name "reversed" p) [e] [] pos) Γ L s A xt (m.bnd fun t s => Res.val (t.reverse, s)) := ⟨_, RT.pi_revA (glB_gl cx hg).1 hm pe_w hs, fun I σ F H R fr th => by
  refine h I σ F H _ fr ?_
  cases m with
  | stuck => exact th
  | exn x => exact th
  | val q =>
    intro I1 v H1 e1 fr1 r
    obtain ⟨a, vs, rfl, h1, h2⟩ := r
    have sq : SqT X.K H1 a vs := .of (fr1.sep.same _ _ h1)
    have hl := paired_len h2
    refine ⟨a, vs, rfl, .inr ⟨sq, th _ I1 H1 e1 fr1 fun I2 L2 H2 e2 se i => ?_⟩⟩
    have sq2 : SqT X.K H2 a vs := SqT.of ((e2.trans se.same) _ _ h1)
    have hl2 : q.1.reverse.length = q.1.length := List.length_reverse
    refine ⟨fun hi => (by show vs.length ≤ i; rw [hi]; show vs.length ≤ q.1.reverse.length; omega), fun hi => ?_⟩
    have hi : i < q.1.reverse.length := hi
    have hj : vs.length - 1 - i < vs.length := by omega
    refine ⟨⟨by omega, vs, vs[vs.length - 1 - i]'hj, sq2, List.getElem?_eq_getElem hj⟩, fun x H' y => ?_⟩
    obtain ⟨rfl, y⟩ := y
    refine ⟨I2, Same.refl _, se, fun d hd => ?_⟩
    obtain ⟨d', hd', rd⟩ := paired_get h2 (y vs sq2)
    have hd2 := rev_get (show q.1.reverse[i]? = some d from hd)
    rw [← hl, hd'] at hd2
    cases hd2
    exact A.mono e2 rd⟩
theorem if_revL {m : Res ε (List α × γ)} (cx : Cxt X N sc own) (hm : X.mg "reversed" = none) (h : EF X e Γ L s (tLst A) xt m) (hg : glB sc "reversed" = true := by decide +kernel) (hs : starEach [e] X.env = (false, eval e X.env) :: starEach [] X.env := by exact star_c rfl) :
    IF X tg (.Call (.Name "reversed" p) [e] [] pos) Γ L s A xt (m.bnd fun t s => Res.val (t.reverse, s)) := ⟨_, RT.pi_revA (glB_gl cx hg).1 hm pe_w hs, fun I σ F H R fr th => by
  refine ef_seq h I σ F H _ fr ?_
  cases m with
  | stuck => exact th
  | exn x => exact th
  | val q =>
    intro I1 v H1 e1 fr1 r
    obtain ⟨a, vs, rfl, h1, h2⟩ := r
    have sq : SqL X.K H1 a vs := Same.sql fr1.sep.same h1
    have hl := paired_len h2
    refine ⟨a, vs, rfl, .inl ⟨sq, th _ I1 H1 e1 fr1 fun I2 L2 H2 e2 se i => ?_⟩⟩
    have sq2 : SqL X.K H2 a vs := Same.sql (e2.trans se.same) h1
    have hl2 : q.1.reverse.length = q.1.length := List.length_reverse
    refine ⟨fun hi => (by show vs.length ≤ i; rw [hi]; show vs.length ≤ q.1.reverse.length; omega), fun hi => ?_⟩
    have hi : i < q.1.reverse.length := hi
    have hj : vs.length - 1 - i < vs.length := by omega
    refine ⟨⟨by omega, vs, vs[vs.length - 1 - i]'hj, sq2, List.getElem?_eq_getElem hj⟩, fun x H' y => ?_⟩
    obtain ⟨rfl, y⟩ := y
    refine ⟨I2, Same.refl _, se, fun d hd => ?_⟩
    obtain ⟨d', hd', rd⟩ := paired_get h2 (y vs sq2)
    have hd2 := rev_get (show q.1.reverse[i]? = some d from hd)
    rw [← hl, hd'] at hd2
    cases hd2
    exact A.mono e2 rd⟩
end
end Fw


/-! ## 139. more of texts -/
namespace Fw
open PySem L2
def startT (t y : Tx) : Bool := Txt.startswith ⟨t.toArray⟩ ⟨y.toArray⟩
def endsT (t y : Tx) : Bool := Txt.endswith ⟨t.toArray⟩ ⟨y.toArray⟩
def splitT (t y : Tx) : List Tx := (Txt.split ⟨t.toArray⟩ ⟨y.toArray⟩).map fun z => z.cps.toList
theorem dm_start : DM (fun x xs H Q => ∃ a b, x = .str a ∧ xs = [.str b] ∧ Q (.bl (Txt.startswith a b)) H) tTx (Tys1 tTx) tBool (fun _ _ => True) (fun a t => startT a t.1) := fun I L H v vs a t Q se rv rvs hp k => by
  cases rv
  obtain ⟨w, rfl, r1⟩ := tys1 rvs
  have r1 : w = V.str ⟨t.1.toArray⟩ := r1
  subst r1
  exact ⟨_, _, rfl, rfl, k I _ H (Same.refl _) se rfl⟩
theorem dm_ends : DM (fun x xs H Q => ∃ a b, x = .str a ∧ xs = [.str b] ∧ Q (.bl (Txt.endswith a b)) H) tTx (Tys1 tTx) tBool (fun _ _ => True) (fun a t => endsT a t.1) := fun I L H v vs a t Q se rv rvs hp k => by
  cases rv
  obtain ⟨w, rfl, r1⟩ := tys1 rvs
  have r1 : w = V.str ⟨t.1.toArray⟩ := r1
  subst r1
  exact ⟨_, _, rfl, rfl, k I _ H (Same.refl _) se rfl⟩
theorem paired_strs {I : Hp} : ∀ ys : List Str, Paired (tTx.rep I) (ys.map V.str) (ys.map fun z => z.cps.toList)
  | [] => .nil
  | y :: ys => .cons (by show V.str y = V.str ⟨y.cps.toList.toArray⟩; rw [Array.toArray_toList]) (paired_strs ys)
theorem dm_split : DM (fun x xs H Q => ∃ a b, x = .str a ∧ xs = [.str b] ∧ (b.length == 0) = false ∧ a.length + 2 ≤ sizeLine ∧ rNewStrs (Txt.split a b) H Q) tTx (Tys1 tTx) (tLst tTx) (fun a t => t.1 ≠ [] ∧ a.length + 2 ≤ sizeLine) (fun a t => splitT a t.1) := fun I L H v vs a t Q se rv rvs hp k => by
  cases rv
  obtain ⟨w, rfl, r1⟩ := tys1 rvs
  have r1 : w = V.str ⟨t.1.toArray⟩ := r1
  subst r1
  refine ⟨_, _, rfl, rfl, ?_, ?_, fun p hn => ?_⟩
  · show (t.1.toArray.size == 0) = false
    rw [List.size_toArray, beq_eq_false_iff_ne]
    exact fun z => hp.1 (List.length_eq_zero_iff.mp z)
  · show a.toArray.size + 2 ≤ sizeLine
    rw [List.size_toArray]
    exact hp.2
  · exact k _ _ _ (Same.upd (se.same.free hn)) (se.imm hn) ⟨p, _, rfl, upd_same, paired_strs _⟩
end Fw
namespace Fw
open PySem L2
/-- texts of data -/
def dStr : PyData → Option Tx
  | .str z => some z.cps.toList
  | _ => none
def dTxs : PyData → Option (List Tx)
  | .list xs => xs.mapM dStr
  | _ => none
theorem txs_rep {K : PySem.W.Frag} {I : Hp} : ∀ {vs : List V} {xs : List PyData} {ys : List Tx}, DpAll K I vs xs → xs.mapM dStr = some ys → Paired (tTx.rep I) vs ys
  | _, _, ys, .nil, h => by
    rw [List.mapM_nil] at h
    cases h
    exact .nil
  | _, x :: xs, ys, .cons (v := v) (vs := vs) r rs, h => by
    rw [List.mapM_cons] at h
    cases hx : dStr x with
    | none => rw [hx] at h; cases h
    | some y =>
      rw [hx] at h
      cases hxs : xs.mapM dStr with
      | none => rw [hxs] at h; cases h
      | some zs =>
        rw [hxs] at h
        cases h
        refine .cons ?_ (txs_rep rs hxs)
        cases x with
        | str z =>
          cases hx
          cases r
          show V.str z = V.str ⟨z.cps.toList.toArray⟩
          rw [Array.toArray_toList]
        | _ => cases hx
theorem ef_castT {X : Cx} {γ ε : Type} {e : Expr} {Γ : List Slot} {L : γ → List Rg} {s : γ} {xt : XT ε} {m : Res ε (PyData × γ)} (h : EF X e Γ L s (tD X.K) xt m) : EF X e Γ L s (tSeq X.K tTx) xt (m.bnd fun x s => Res.grd ((dTxs x).isSome = true) ((dTxs x).getD [], s)) := fun I σ F H Q fr th => by
  refine Then.bnd h fr th fun I1 v H1 d s1 e1 fr1 rv th1 => ?_
  obtain ⟨hp, th2⟩ := Then.grd th1
  have rv : Dp X.K I1 v d := rv
  cases rv with
  | lst h hs =>
    obtain ⟨ys, hy⟩ := Option.isSome_iff_exists.mp hp
    rw [hy] at th2
    exact th2 I1 _ H1 (Same.refl _) fr1 ⟨_, _, rfl, h, txs_rep hs hy⟩
  | _ => cases hp
theorem srk_ii : SrtK (dTup (dCons PyData.int (dCons PyData.int dNil))) := ⟨fun a b => by
  simp only [dTup, dCons, dNil, PySem.W.alike, PySem.W.alikeAll, Bool.and_true, Bool.true_and], .inl fun b => ⟨_, _, rfl⟩, fun b => by
  simp only [dTup, dCons, dNil, PyData.depth, PyData.depthAll]
  decide⟩
end Fw
namespace L2
open PySem PySem.Spec PyProof.Rows
/-- {k: v}, k a tuple -/
def tDict1T (tk tv : TE) : TE := fun σ H Q => ∀ d, H d = none → tk σ (upd H d (.dT [])) fun y H1 => tv σ H1 fun v H2 => ∃ (k : List Key) (b : Addr), H2 d = some (.dT []) ∧ y = .ref b ∧ H2 b = some (.tup (k.map kV)) ∧ Q (.ref d) (upd H2 d (.dT [(k, v)]))
theorem pe_dict1T {X : Cx} {k v : Expr} {tk tv : TE} {pos : Pos} (hu : X.A.units + 1 < cLine) (hk : PE X k tk) (hv : PE X v tv) : PE X (.Dict [some k] [v] pos) (tDict1T tk tv) := ⟨fun pins s σ H Q I h => by
  have hn : H s.heap.objs.size = none := I.hok.fresh (Nat.le_refl _)
  have hQ := h _ hn
  have I1 : Inv X pins σ (upd H s.heap.objs.size (.dT [])) { s with heap := s.heap.push { cls := .type "dict", data := .dict #[] } } :=
    I.laid (a := s.heap.objs.size) (o := .dT []) (t' := s.toks) (fun _ _ q => Heap.get?_push_of_some _ q) (Nat.le_refl _) (dt_empty s.heap I.big)
  refine wpAny_Dict_any (keys := [some k]) (values := [v]) rfl rfl (by simp) (by simp) ?_
  show wpAny _ _ (evalPairs [(eval k X.env, do let x ← eval v X.env; standAt pos; pure x)]) _ _ _
  unfold evalPairs
  refine wpAny_bind (thn (hk.run pins _ σ _ _ I1 hQ) fun u s1 ⟨y, H1, I2, ry, q1⟩ => ?_)
  refine wpAny_bind (wpAny_holding (wpAny_bind (thn (hv.run pins _ σ _ _ I2 q1) fun w s2 ⟨z, H2, I3, rz, q2⟩ => ?_)))
  obtain ⟨ks, b, e, rfl, eb, q3⟩ := q2
  cases (show u = Value.ref b from ry)
  refine wpAny_bind (wpAny_standAt (wpAny_pure ?_))
  refine wpAny_bind (wpAny_holding ?_)
  unfold evalPairs
  refine wpAny_pure (wpAny_pure ?_)
  unfold storeAll
  obtain ⟨zz, hd, xs, rel, dd⟩ := dt_of I3.hok e
  cases rel
  rw [List.forIn_cons]
  refine wpAny_bind (wpAny_bind (wpAny_dictSet_heap (hsz := Nat.zero_le _) (show X.A.units < cLine by omega) (key_of I3.hok eb) dd fun h' dd' hs => wpAny_pure ?_))
  show wpAny _ _ (forIn [] _ _) _ _ _
  rw [List.forIn_nil]
  refine wpAny_pure ?_
  refine ⟨.ref s.heap.objs.size, _, ?_, rfl, q3⟩
  obtain ⟨q, es, ep, hq, h2, h3, h4, _, h5⟩ := dd'
  refine d_write I3 (by rw [e]; exact True.intro) hs ⟨q, hq⟩ ⟨by show 1 ≤ sizeLine; decide, hd, _, KT.keeps (H := H2) (Paired.cons ⟨rfl, eb, rz⟩ .nil) fun c ys ec => ?_, q, es, ep, hq, h2, h3, h4, h5⟩
  rw [upd_ne (ne_of ec e (fun z => nomatch z))]
  exact ec⟩
end L2

namespace Fw
open PySem L2
section
variable {X : Cx} {κ α γ ε : Type} [DecidableEq κ] {K : Kt κ} {A : Ty α} {k v : Expr} {pos : Pos} {Γ : List Slot} {L : γ → List Rg} {s : γ} {xt : XT ε}
/-- {k: v} -/
theorem en_dict1 {key : κ} {val : α} (hu : X.A.units + 1 < cLine) (hk : EP X k Γ (L s) K.T key) (hv : EP X v Γ (L s) A val) (hK : K.holds [] = .dT [] := by rfl) : EN X (.Dict [some k] [v] pos) Γ L s (cDic K A) xt (.val ([(key, val)], s)) := fun I σ F H Q fr th => by
  refine PE_to (pe_dict1T hu pe_w pe_w) ?_
  intro d hd
  have se1 : Sep I (cell d (cDic K A []) :: (L s ++ F)) (upd H d (.dT [])) := fr.sep.new hd ⟨[], hK.symm, .nil⟩
  have fr1 : FrOk I σ Γ (L s ++ (cell d (cDic K A []) :: F)) (upd H d (.dT [])) := ⟨se1.perm List.perm_middle.symm, fr.len, fr.sl⟩
  refine hk.run fr1 fun I1 y H1 e1 fr2 ry => ?_
  refine hv.run fr2 fun I2 z H2 e2 fr3 rz => ?_
  have se3 : Sep I2 (cell d (cDic K A []) :: (L s ++ F)) H2 := fr3.sep.perm List.perm_middle
  obtain ⟨o, ho, ⟨ws, rfl, pd⟩, hi⟩ := se3.get
  have hw : ws = [] := List.length_eq_zero_iff.mp pd.len
  subst hw
  have P := K.put (I := I2) (H := H2) (a := d) (ws := []) (k := key) (v := y) (y := z) ho se3.same (K.T.mono e2 ry) (by show 0 < sizeLine; decide)
  rcases P with ⟨kvs, k2, e, _⟩ | ⟨kvs, k2, b, e, ey, eb, l, eH⟩
  · rw [ho, hK] at e; cases e
  · rw [ho, hK] at e
    cases e
    have eo : K.holds [(key, z)] = .dT [(k2, z)] := by
      have := congrFun eH d
      rw [upd_same, upd_same] at this
      exact Option.some.inj this
    refine ⟨k2, b, by rw [ho, hK], ey, eb, ?_⟩
    rw [← eo]
    have se4 : Sep I2 (cell d (cDic K A [(key, val)]) :: (L s ++ F)) (upd H2 d (K.holds [(key, z)])) := se3.put ⟨[(key, z)], rfl, .cons ⟨rfl, rz⟩ .nil⟩
    exact th I2 d _ (e1.trans e2) ⟨se4, fr3.len, fr3.sl⟩
end
end Fw
namespace Fw
open PySem L2
section
variable {X : Cx} {α γ ε : Type} {A : Ty α} {a : Expr} {pos : Pos} {Γ : List Slot} {L : γ → List Rg} {s : γ} {xt : XT ε}
theorem tf_isN {m : Res ε (Option α × γ)} {j p'} (ha : EF X a Γ L s (tOpt A) xt m) : TF X (.Compare a [.Is] [.Constant .none j p'] pos) Γ L s xt (m.bnd fun x s => Res.val (Option.isNone x, s)) := fun I σ F H Q fr th => by
  refine PT_to (pt_cmpR op_isN pe_w pe_non (nomark _)) ?_
  refine ThenT.bnd ha fr th fun I1 v H1 d s1 e1 fr1 rv th1 => ⟨rfl, Option.isNone d, ?_, th1 I1 H1 (Same.refl _) fr1⟩
  cases d with
  | none => cases rv; rfl
  | some d => rw [decide_eq_false rv.1]; rfl
theorem tf_notN {m : Res ε (Option α × γ)} {j p'} (ha : EF X a Γ L s (tOpt A) xt m) : TF X (.Compare a [.IsNot] [.Constant .none j p'] pos) Γ L s xt (m.bnd fun x s => Res.val (Option.isSome x, s)) := fun I σ F H Q fr th => by
  refine PT_to (pt_cmpR op_notN pe_w pe_non (nomark _)) ?_
  refine ThenT.bnd ha fr th fun I1 v H1 d s1 e1 fr1 rv th1 => ⟨rfl, Option.isSome d, ?_, th1 I1 H1 (Same.refl _) fr1⟩
  cases d with
  | none => cases rv; rfl
  | some d => rw [decide_eq_false rv.1]; rfl
end
end Fw
namespace Fw
open PySem L2
theorem fold_min : ∀ (ns : List Int) (b m : Int), (∀ y ∈ ns, m ≤ y) → m ≤ b → (m ∈ ns ∨ m = b) → ns.foldl min b = m
  | [], b, m, _, _, h => by
    rcases h with h | h
    · simp at h
    · exact h.symm
  | n :: ns, b, m, h1, h2, h3 => by
    rw [List.foldl_cons]
    have hn := h1 n (List.mem_cons_self ..)
    refine fold_min ns (min b n) m (fun y hy => h1 y (List.mem_cons_of_mem _ hy)) (by omega) ?_
    rcases h3 with h3 | h3
    · rcases List.mem_cons.mp h3 with h3 | h3
      · right; omega
      · exact .inl h3
    · right; omega
theorem fold_max : ∀ (ns : List Int) (b m : Int), (∀ y ∈ ns, y ≤ m) → b ≤ m → (m ∈ ns ∨ m = b) → ns.foldl max b = m
  | [], b, m, _, _, h => by
    rcases h with h | h
    · simp at h
    · exact h.symm
  | n :: ns, b, m, h1, h2, h3 => by
    rw [List.foldl_cons]
    have hn := h1 n (List.mem_cons_self ..)
    refine fold_max ns (max b n) m (fun y hy => h1 y (List.mem_cons_of_mem _ hy)) (by omega) ?_
    rcases h3 with h3 | h3
    · rcases List.mem_cons.mp h3 with h3 | h3
      · right; omega
      · exact .inl h3
    · right; omega
theorem minL_is {ns : List Int} {m : Int} (h : m ∈ ns) (h2 : ∀ y ∈ ns, m ≤ y) : minL ns = m := by
  cases ns with
  | nil => simp at h
  | cons n ns => exact fold_min (n :: ns) n m h2 (h2 n (List.mem_cons_self ..)) (.inl h)
theorem maxL_is {ns : List Int} {m : Int} (h : m ∈ ns) (h2 : ∀ y ∈ ns, y ≤ m) : maxL ns = m := by
  cases ns with
  | nil => simp at h
  | cons n ns => exact fold_max (n :: ns) n m h2 (h2 n (List.mem_cons_self ..)) (.inl h)
theorem dn_minL {K : PySem.W.Frag} : DN (rMin K) (Tys1 (tLst tInt)) tInt (fun t => 0 < t.1.length) (fun t => minL t.1) := fun I L H vs t Q se rv hp k => by
  obtain ⟨w, rfl, p, vs, rfl, h1, h2⟩ := tys1 rv
  have e := paired_ints h2
  subst e
  exact ⟨p, t.1, rfl, Same.sql se.same (SqL.of h1), hp, fun m hm h => k I _ H (Same.refl _) se (by show V.int m = V.int (minL t.1); rw [minL_is hm h])⟩
theorem dn_maxL {K : PySem.W.Frag} : DN (rMax K) (Tys1 (tLst tInt)) tInt (fun t => 0 < t.1.length) (fun t => maxL t.1) := fun I L H vs t Q se rv hp k => by
  obtain ⟨w, rfl, p, vs, rfl, h1, h2⟩ := tys1 rv
  have e := paired_ints h2
  subst e
  exact ⟨p, t.1, rfl, Same.sql se.same (SqL.of h1), hp, fun m hm h => k I _ H (Same.refl _) se (by show V.int m = V.int (maxL t.1); rw [maxL_is hm h])⟩
end Fw
/-! ## 140. own dicts and own instances: made, changed by their methods, made data -/
namespace Fw
open PySem L2
section
variable {X : Cx} {N : List Str} {sc scope : Scope} {own : Str → Bool} {κ α β γ γ' δ ε ρ ν τ ι σo : Type} [DecidableEq κ] {A : Ty α} {C : Ty δ} {e a b c o : Expr} {es rest : List Expr} {ss : List Stmt} {f q qa Cl fi : Addr} {x y m : Str} {pos p p' p2 p3 apos : Pos} {Γ Γ' gx : List Slot} {L : γ → List Rg} {s : γ} {xt : XT ε} {L0 R : List Rg} {K : Kt κ}
  {gn : ν → List Slot} {ln : ν → List Rg} {rt : RT ρ} {M : Out ε ρ ν} {CX : CXT} {n : Nat} {fd : FuncData} {ps : List Str}
theorem wSs_lock {D : Ends} {σ : St} {H : Hp} {d : Addr} {u : HO} (hd : H d = some u) (mu : Mut (some u)) (k : ∀ od, wSs X ss D σ (upd H d (.frz od u))) : wSs X ss D σ H := by
  unfold wSs at k ⊢
  intro pins s I
  obtain ⟨od, J⟩ := I.lock hd mu
  exact k od pins s J
theorem sep_lock {I H : Hp} {kvs : List (κ × α)} {L1 : List Rg} (se : Sep I (cell q (cDic K A kvs) :: L1) H) : ∃ ws, H q = some (K.holds ws) ∧ I q = none ∧ PD A I ws kvs ∧ ∀ od, Sep (upd I q (.frz od (K.holds ws))) L1 (upd H q (.frz od (K.holds ws))) := by
  obtain ⟨o, ho, ⟨ws, rfl, pd⟩, hi⟩ := se.get
  refine ⟨ws, ho, hi, pd, fun od => ?_⟩
  have se1 : Sep I (cell q ⟨fun _ o => o = HO.frz od (K.holds ws), fun _ h => h, fun h ys z => by rw [h] at z; cases z⟩ :: L1) (upd H q (.frz od (K.holds ws))) := se.put rfl
  obtain ⟨o2, ho2, e2, hi2, se2⟩ := se1.freeze
  cases (show o2 = _ from e2)
  exact se2
/-- an own dict is data from here on -/
theorem sf_freezeD {kvs : List (κ × α)} {i : Nat} (hi : Γ[i]? = some (.dat (tCell q) ())) (hp : L0.Perm (cell q (cDic K A kvs) :: R)) (h : SF X ss (Γ.set i (.dat (tDic K A) kvs)) R gn ln rt xt gx M) : SF X ss Γ L0 gn ln rt xt gx M := fun I σ F H D fr th => by
  have se0 : Sep I (cell q (cDic K A kvs) :: (R ++ F)) H := fr.sep.perm (hp.append_right F)
  obtain ⟨ws, ho, hq, pd, k⟩ := sep_lock se0
  obtain ⟨v, hv1, hv2⟩ := fr.get hi
  cases (show v = .ref q from hv2)
  refine wSs_lock ho (K.mu ws) fun od => ?_
  have e0 : Same I (upd I q (.frz od (K.holds ws))) := Same.upd hq
  exact h _ σ F _ D (fr_reslot (FrOk.mk (k od) fr.len (fr.sl.mono e0)) hv1 (List.getElem?_eq_some_iff.mp hi).1 ⟨q, od, ws, rfl, upd_same, pd.mono e0⟩) (sthen_up e0 th)
/-- an own instance with one dict is data from here on -/
theorem sf_freezeI {To : Ty β} {σt : Type} {Tt : Tys σt} {ns : List Str} {Φ : List (Str × Slot)} {kvs : List (κ × α)} {d : σt} {i : Nat} (hi : Γ[i]? = some (.dat (tCell qa) ())) (hp : L0.Perm (cell qa (cIns Cl Φ) :: (cell q (cDic K A kvs) :: R)))
    (hfin : ∀ (I : Hp) (fs : List (Str × V)), FsOk I fs Φ → (tDic K A).rep I (.ref q) kvs → FsTys I fs ns Tt d) (hns : Φ.map (·.1) = ns := by rfl)
    (h : SF X ss (Γ.set i (.dat (tObj Cl ns Tt) d)) R gn ln rt xt gx M) : SF X ss Γ L0 gn ln rt xt gx M := fun I σ F H D fr th => by
  have se0 : Sep I (cell q (cDic K A kvs) :: (cell qa (cIns Cl Φ) :: (R ++ F))) H := (fr.sep.perm (hp.append_right F)).perm (.swap _ _ _)
  obtain ⟨ws, ho, hq, pd, k⟩ := sep_lock se0
  obtain ⟨v, hv1, hv2⟩ := fr.get hi
  cases (show v = .ref qa from hv2)
  refine wSs_lock ho (K.mu ws) fun od => ?_
  have e0 : Same I (upd I q (.frz od (K.holds ws))) := Same.upd hq
  obtain ⟨o3, ho3, ⟨dx3, fs, rfl, ok⟩, hi3, se8⟩ := (k od).freeze
  have e1 : Same (upd I q (.frz od (K.holds ws))) (upd (upd I q (.frz od (K.holds ws))) qa (.ins Cl dx3 fs)) := Same.upd hi3
  have rD : (tDic K A).rep (upd I q (.frz od (K.holds ws))) (.ref q) kvs := ⟨q, od, ws, rfl, upd_same, pd.mono e0⟩
  obtain ⟨vs2, g1, g2⟩ := hfin _ fs ok rD
  exact h _ σ F _ D (fr_reslot (FrOk.mk se8 fr.len (fr.sl.mono (e0.trans e1))) hv1 (List.getElem?_eq_some_iff.mp hi).1 ⟨qa, dx3, fs, vs2, rfl, upd_same, Tt.mono e1 g1, g2, fun f hf => ok.2.1 f (by rw [hns]; exact hf)⟩) (sthen_up (e0.trans e1) th)
/-- x = C(), an instance of one's own with one dict -/
theorem sf_newI0 {Φ : Addr → σo → List (Str × Slot)} {kv : σo → List (κ × α)} {g : (Unit × Unit) → Unit → Res ε (Unit × σo)} {k : σo → Unit → Out ε ρ ν} (cx : Cxt X N sc own) (i : Nat) (M : Mk X.K Cl fi)
    (F : FnOk X.prog X.w X.K X.mg X.base CX n fi fd ps (spec (fun a : Addr => Tys.cons (tCell a) Tys.nil) (fun a _ => [cell a (cIns Cl [])]) (fun a => rtV tNone (fun d => [exR fun q : Addr => [cell a (cIns Cl (Φ q d)), cell q (cDic K A (kv d))]])) (fun _ => xt) g))
    (hr : Room (n + 1) X.A) (hm : X.mg y = some (.ref Cl)) (hb : Binds X.K fd ps []) (pw : PassW CX X) (hx : ∀ x, xt.regs x = [])
    (h : ∀ a q d, SF X ss (Γ.set i (.dat (tCell a) ())) (cell a (cIns Cl (Φ q d)) :: (cell q (cDic K A (kv d)) :: L0)) gn ln rt xt gx (k d ()))
    (hi : N[i]? = some x := by rfl) (ho : own x = true := by decide +kernel) (wk : Wk Γ gx := by first | exact Wk.nil | exact Wk.rfl)
    (hg : glB sc y = true := by decide +kernel) (hs : swapsWith (.Call (.Name y p2) [] [] p3) (some (.Name x p)) pos.line X.env = pure false := by rfl) :
    SF X (.Assign [.Name x p] (.Call (.Name y p2) [] [] p3) pos :: ss) Γ L0 gn ln rt xt gx (Out.bnd ((g ((), ()) ()).mk ()) k) := fun I σ F' H D fr th => by
  obtain ⟨h1, h2⟩ := cx.st x ho
  obtain ⟨g1, g2, g3⟩ := glB_gl cx hg
  refine PSs_to (pss_cons (ps_set (by rw [cx.hN]; exact cx.nd) (by rw [cx.hN]; exact hi) h1 pe_w hs h2) pss_w) ?_
  show wE X _ σ H _
  refine PE_to (pe_makeX0 M F hr g1 hm hb pw g2) ?_
  intro xa dx hxa hdx hne
  have i1 : I dx = none := fr.sep.same.free hdx
  have se1 : Sep (upd I dx (.own xa)) (L0 ++ F') (upd H dx (.own xa)) := fr.sep.imm hdx
  have hxa2 : upd H dx (.own xa) xa = none := by rw [upd_ne (fun z => hne z.symm)]; exact hxa
  have se2 : Sep (upd I dx (.own xa)) (cell xa (cIns Cl []) :: (L0 ++ F')) (upd (upd H dx (.own xa)) xa (.ins Cl dx [])) := se1.new hxa2 ⟨dx, [], rfl, fun i f {α} A d q => by simp at q, fun f _ => rfl, Nat.le_refl _⟩
  refine ⟨xa, upd I dx (.own xa), L0 ++ F', ((), ()), (), se2, ⟨_, _, rfl, rfl, rfl⟩, ?_⟩
  cases hgv : g ((), ()) () with
  | stuck => rw [hgv] at th; exact th
  | exn y =>
    rw [hgv] at th
    intro I2 H2 c da e2 se3 r2
    have th : ∀ I' σ' H' c da, Same I I' → Sep I' (xt.regs y ++ F') H' → SlotsOk I' σ' gx → xt.rep I' y c da → wX X c da σ' H' := th
    refine th I2 σ H2 c da ((Same.upd i1).trans e2) ?_ ((fr.sl.wk wk).mono ((Same.upd i1).trans e2)) r2
    rw [hx] at se3 ⊢
    exact sep_drop L0 se3
  | val pr =>
    rw [hgv] at th
    intro I2 v H2 e2 se3 r2
    cases (show v = .non from r2)
    refine ⟨rfl, ?_⟩
    obtain ⟨qd, se4⟩ := Sep.open (L := L0 ++ F') se3
    have eI : Same I I2 := (Same.upd i1).trans e2
    exact h xa qd pr.2 I2 _ F' H2 D ((FrOk.mk se4 fr.len (fr.sl.mono eI)).set (A := tCell xa) (d := ()) rfl i) (sthen_up eI th)
/-- o.m(e, ..), which may change what o holds -/
theorem ef_methS {g : (Unit × τ) → γ' → Res ε (δ × γ')} {T0 : ι → Tys τ} {L' : ι → γ' → List Rg} {ad : ι → Addr} {Φ : γ → List (Str × Slot)} {mm : Res ε (τ × γ)} (i : ι) (get : γ → γ') (put : γ → γ' → γ) (R : γ → List Rg) (c : Cls X.K Cl) (hm : Meth X.K Cl m fi)
    (F : FnOk X.prog X.w X.K X.mg X.base CX n fi fd ps (spec (fun i => Tys.cons (tCell (ad i)) (T0 i)) L' (fun i => rtV C (L' i)) (fun _ => xt) g))
    (hr : Room n X.A) (hb : Binds X.K fd ps []) (pw : PassW CX X) (ho : EP X o Γ (L s) (tCell (ad i)) ()) (hI : Has (L s) (ad i) (cIns Cl (Φ s))) (ha : AF X (e :: es) Γ L s (T0 i) xt mm) (hp : ∀ s u, (L (put s u)).Perm (L' i u ++ R s)) (hgp : ∀ s, put s (get s) = s) (hx : ∀ x, xt.regs x = []) (hmn : m ∉ (Φ s).map (·.1) := by decide) {pl : Sem Bool}
    (hst : starEach (e :: es) X.env = (false, eval e X.env) :: starEach es X.env := by exact star_c rfl) (hpl : (backTo pos (starEach es X.env)).any (·.1) = false := by rfl)
    (ht : eval (.Call (.Attribute o m apos) (e :: es) [] pos) X.env = (do
      let ov ← eval o X.env
      standAt apos.atName
      let (f, first) ← holding [ov] (getMethod ov m pl)
      callWith pos f first (backTo pos (starEach (e :: es) X.env)) (backToKw pos (keywordEach [] X.env))) := by rfl) :
    EF X (.Call (.Attribute o m apos) (e :: es) [] pos) Γ L s C xt (mm.bnd fun t s1 => (g ((), t) (get s1)).lift (put s1)) := fun I σ F' H Q fr th => by
  refine PE_to (pe_methX pe_w c hm F hr hb pw pa_w hst hpl ht) ?_
  refine ho.run fr fun I1 v H1 e1 fr1 rv => ?_
  cases (show v = .ref (ad i) from rv)
  obtain ⟨o, hob, ⟨dx, fs, rfl, ok⟩, _⟩ := hI.get fr1.sep
  refine ⟨ad i, dx, fs, rfl, hob, ok.2.1 m hmn, ?_⟩
  refine Then.bndA ha fr1 (then_up e1 th) fun I2 vs H2 t s2 e2 fr2 rv2 th2 => ?_
  have pm : (L s2 ++ F').Perm (L' i (get s2) ++ (R s2 ++ F')) := by
    have q := hp s2 (get s2)
    rw [hgp] at q
    rw [← List.append_assoc]
    exact q.append_right F'
  refine ⟨i, I2, R s2 ++ F', ((), t), get s2, fr2.sep.perm pm, ⟨_, _, rfl, rfl, rv2⟩, ?_⟩
  cases hgv : g ((), t) (get s2) with
  | stuck => rw [hgv] at th2; exact th2
  | exn y =>
    rw [hgv] at th2
    intro I3 H3 c da e3 se3 r3
    refine th2 I3 H3 c da e3 (fr2.step e3 ?_) r3
    rw [hx] at se3 ⊢
    exact sep_drop (R s2) se3
  | val q =>
    rw [hgv] at th2
    intro I3 v3 H3 e3 se3 r3
    refine th2 I3 v3 H3 e3 (fr2.step e3 ?_) r3
    have q2 := hp s2 q.2
    refine Sep.perm se3 ?_
    show (L' i q.2 ++ (R s2 ++ F')).Perm (L (put s2 q.2) ++ F')
    rw [← List.append_assoc]
    exact q2.symm.append_right F'
end
end Fw


/-! ## 150. sorted of a dict -/
namespace L2
open PySem PySem.Spec PyProof.Rows PySem.W Builtin
section
variable {prog : Program} {w : World} {A : Around} {E : Value → Shared → Prop} {s : Shared} {T : String} {r d : Addr} {n : Nat} {P : Nat → Value → Prop} {OK : Heap → Prop}
theorem src_collect {Q : List Value → Shared → Prop} (K : KdlSrc prog w T r d n P OK) (hh : A.handled = none) (hok : OK s.heap) (hn : n ≤ sizeLine)
    (hQ : ∀ (h' : Heap) (tk : Nat) (vs : List Value), (∀ b o, s.heap.get? b = some o → h'.get? b = some o) → s.heap.objs.size < h'.objs.size → vs.length = n → (∀ j v, vs[j]? = some v → P j v) → Q vs { s with heap := h', toks := tk }) : wpAny (model prog w) A (collect (.ref r)) Q E s := by
  have hlt := K.there _ hok
  have hS : (s.heap.push (seqObj "list" #[] 0)).get? s.heap.objs.size = some { cls := .type "list", data := .seq #[] } := Heap.get?_push_size _ rfl
  unfold collect
  refine wpAny_bind (wpAny_runValue (codeAny_builtin entry_proto_collect' ?_))
  show wpAny _ _ (do again (.builtin "list.__iadd__" ⟨[← newList [], .ref r], []⟩)) _ _ s
  refine wpAny_bind (wpAny_newList (wpAny_pure ⟨Code.quiet_builtin _ (by decide +kernel), codeAny_builtin entry_list_iadd' ?_⟩))
  show wpAny _ _ (Builtin.List.listExtendWith (.ref s.heap.objs.size) (.ref r) (.ref s.heap.objs.size)) _ _ { s with heap := s.heap.push (seqObj "list" #[] 0) }
  let R0 : Result → Shared → Prop := fun res s' => ∃ (h' : Heap) (tk : Nat) (acc : Array Value) (c : Nat), res = .ok (.ret (.ref s.heap.objs.size)) ∧ s' = { s with heap := h', toks := tk } ∧ (∀ b o, s.heap.get? b = some o → h'.get? b = some o) ∧ h'.get? s.heap.objs.size = some { cls := .type "list", data := .seq acc c } ∧ ItemsOf P acc n
  have key : ∀ res s', R0 res s' → (match res with
      | Except.ok (Flow.ret v) => wpAny (model prog w) A (match v with
        | Value.ref a => do
          match (← load a).data with
            | Data.seq xs epoch => pure xs.toList
            | x => unsupported "internal:collect"
        | x => unsupported "internal:collect") Q E s'
      | Except.ok a => False
      | Except.error e => E e s') := fun res s' ⟨h', tk, acc, c, e1, e2, hk, hS', hacc⟩ => by
    subst e1; subst e2
    refine wpAny_bind (wpAny_load hS' ?_)
    exact wpAny_pure (hQ h' tk acc.toList hk (Heap.lt_size hS') (by rw [Array.length_toList]; exact hacc.1) fun j v e => hacc.2 j v (by rw [← Array.getElem?_toList]; exact e))
  refine wpAny_mono (kdl_extend (s := { s with heap := s.heap.push (seqObj "list" #[] 0) }) (R := R0) K hh (K.keep _ _ hok fun b _ o e => Heap.get?_push_of_some _ e) s.heap.objs.size (Nat.ne_of_gt hlt.1) (Nat.ne_of_gt hlt.2) (.ref s.heap.objs.size) 0 hS (fun h' tk acc c hk hS' hacc => ⟨h', tk, acc, c, rfl, rfl, fun b o e => hk b o (Nat.ne_of_lt (Heap.lt_size e)) (Heap.get?_push_of_some _ e), hS', hacc⟩) hn) (fun f s' hf => ?_) (fun e s' he => ?_)
  · cases f with
    | done f => exact key _ _ hf
    | again c' => exact ⟨hf.1, codeAny_mono hf.2 key⟩
  · obtain ⟨_, _, _, _, e, _⟩ := he
    cases e
theorem src_sorted {β : Type} {bs : List β} {enc : β → PyData} {R : Value → β → Prop} {Q : Value → Shared → Prop} (K : KdlSrc prog w T r d n P OK) (hh : A.in1.handled = none) (hok : OK s.heap) (hn : n ≤ sizeLine)
    (it : ∀ (h' : Heap) (vs : List Value), (∀ b o, s.heap.get? b = some o → h'.get? b = some o) → vs.length = n → (∀ j v, vs[j]? = some v → P j v) → EachIs R vs bs ∧ EachIs (fun v b => ∃ as, Reads h' v (enc b) as) vs bs)
    (hal : AllAlike (bs.map enc)) (hk : Sortable (bs.map enc)) (hu : ∀ b, b ∈ bs → A.units + 2 + (enc b).depth < cLine)
    (h : ∀ (h' : Heap) (tk : Nat) (D : Addr) (out : List Value) (c : Nat), (∀ b o, s.heap.get? b = some o → h'.get? b = some o) → s.heap.objs.size ≤ D → out.length = bs.length → EachIs R out (bs.mergeSort (dataLe false enc)) → h'.get? D = some { cls := .type "list", data := .seq out.toArray c } → Q (.ref D) { s with heap := h', toks := tk }) :
    wpAny (model prog w) A (call (.builtin "sorted") [.ref r]) Q E s := by
  refine call_function_entry_kw kind_sorted plain_sorted entry_sorted (args_sorted1 _) ?_
  unfold Builtin.«sorted»
  refine wpAny_bind (m := checkCount "sorted" 1 1 _) (wpAny_pure ?_)
  refine wpAny_bind (src_collect K hh hok hn fun h1 tk vs k1 k2 hl hp => ?_)
  have hsz : vs.length ≤ sizeLine := by rw [hl]; exact hn
  refine wpAny_bind (wpAny_newList ?_ hsz)
  have hoL : (h1.push (seqObj "list" vs.toArray 0)).get? h1.objs.size = some (seqObj "list" vs.toArray 0) := Heap.get?_push_size _ rfl
  refine wpAny_bind (wpAny_holding (wpAny_call_entry_kw slot_list_sort ⟨_, hoL, rfl⟩ entry_list_sort ?body (args_list_sort _)))
  have k0 : ∀ b o, s.heap.get? b = some o → b ≠ h1.objs.size ∧ (h1.push (seqObj "list" vs.toArray 0)).get? b = some o := fun b o e => ⟨Nat.ne_of_lt (Heap.lt_size (k1 b o e)), Heap.get?_push_of_some _ (k1 b o e)⟩
  obtain ⟨e1, e2⟩ := it (sortingHeap (h1.push (seqObj "list" vs.toArray 0)) h1.objs.size vs) vs (fun b o e => sortingHeap_old (k0 b o e).1 (k0 b o e).2) hl hp
  refine list_sort_vals hoL (SortsAt.data (s := { s with heap := sortingHeap (h1.push (seqObj "list" vs.toArray 0)) h1.objs.size vs, toks := tk }) (each_map enc e2) hal hk (bound_map fun b hb => by have := hu b hb; exact this)) hsz ?_
  obtain ⟨c, hc⟩ := sortedHeap_at (out := (sortVals (dataKind (sortingHeap (h1.push (seqObj "list" vs.toArray 0)) h1.objs.size vs) (bs.map enc)) false vs vs).toArray) hoL
  refine ⟨_, rfl, wpAny_pure ⟨_, rfl, ?_⟩⟩
  refine h _ tk h1.objs.size _ c (fun b o e => ?_) (by omega) ?_ (sortVals_data false e1 e2 hal) hc
  · have e' := (k0 b o e).2
    rw [sortedHeap_old (k0 b o e).1 (Heap.lt_size e')]
    exact e'
  · rw [sortVals_length false rfl]
    exact e1.length
end
end L2
namespace Fw
open PySem L2 PyProof.Rows
/-- sorted(d), d a dict, own or locked -/
def rSortedF {α : Type} (K : PySem.W.Frag) (k : α → PyData) : List V → Hp → VK → Prop := fun xs H Q => ∃ (p : Addr) (kvs : List (Key × V)) (bs : List α) (R : V → α → Prop), xs = [.ref p] ∧ Rd H p (.dK kvs) ∧ Paired R (kvs.map fun kv => kV kv.1) bs ∧ (∀ v b, R v b → Dp K H v (k b)) ∧
  ∀ (ys : List V) (q : Addr), Paired R ys (sortK k bs) → H q = none → Q (.ref q) (upd H q (.lst ys))
theorem cr_sortedF {X : Cx} {α : Type} {k : α → PyData} (hcm : X.calm = true) (S : SrtK k) (hu : X.A.units + 10 < cLine) : CallR X (.builtin "sorted") (rSortedF X.K k) := by
  intro pins s σ H vs us Q I r h
  obtain ⟨p, kvs, bs, R, rfl, hs, hp, hd, q⟩ := h
  have hus := Vals.ref1 r
  rw [hus]
  obtain ⟨z, lo, ws, kv, hdo⟩ := dk_rd I.hok hs
  obtain ⟨ep, hat⟩ := hdo.dictAt
  have hl : kvs.length = ws.length := Paired.length kv
  have hbl : kvs.length = bs.length := by have := hp.length; rwa [List.length_map] at this
  refine src_sorted (bs := bs) (enc := k) (R := fun u b => ∃ v, RelV v u ∧ R v b) (PySem.W.kdl_dict (knd := mixKind X.prog X.w) (kvs := ws) (ep := ep) lo) (I.ok.hd hcm) hat (by omega) (fun h' us hk hul hup => ?_) (PySem.W.AllAlike.of fun b b' => S.al b b')
    (by rcases S.st with h | h
        · exact PySem.W.Sortable.tuples h
        · exact PySem.W.Sortable.others h) (fun b _ => by have := S.dp b; omega) fun h' tk D out c hk hD ho he hg => ?_
  · have rel : Vals (kvs.map fun kv => kV kv.1) us := vals_of_at (by rw [List.length_map]; omega) fun j x w h1 h2 => by
      obtain ⟨k, y, hky, hi⟩ := hup j w h2
      rw [List.getElem?_map] at h1
      have ek : (kvs[j]?).map (·.1) = some k := by
        rw [← List.getElem?_map, KV.keys kv, List.getElem?_map, hky]
        rfl
      cases hj : kvs[j]? with
      | none => rw [hj] at ek; cases ek
      | some w2 =>
        rw [hj] at h1 ek
        cases ek
        cases h1
        exact keyIs_rel hi
    have e1 := each_of_paired (X := X) rel hp
    refine ⟨e1, each_mono (fun u b ⟨v, r1, r2⟩ => ?_) e1⟩
    obtain ⟨as, rd⟩ := Dp.reads I (k b) v u (hd v b r2) r1
    exact ⟨as, PyProof.Rows.Reads.keeps (fun b o e => hk b o e) rd⟩
  · obtain ⟨ys, y1, y2⟩ := paired_of_each he
    have hlen2 : ys.length ≤ sizeLine := by rw [y1.length, ho]; omega
    exact ⟨.ref D, upd H D (.lst ys), I.laid (t' := tk) hk hD ⟨hlen2, out, c, y1, hg⟩, rfl, q ys _ y2 (I.hok.fresh hD)⟩
section
variable {X : Cx} {N : List Str} {sc scope : Scope} {own : Str → Bool} {κ α γ ε : Type} [DecidableEq κ] {K : Kt κ} {A : Ty α} {e : Expr} {es rest : List Expr} {x : Str} {pos p : Pos} {Γ : List Slot} {L : γ → List Rg} {s : γ} {xt : XT ε} {kvs : List (κ × α)} {kd : κ → PyData}
theorem keys_pd {I : Hp} {ws : List (κ × V)} {ks : List (Key × V)} (pd : PD A I ws kvs) (hl : ks.length = ws.length) (hat : ∀ (i : Nat) (k : Key) (v : V), ks[i]? = some (k, v) → ∃ k0, ws[i]? = some (k0, v) ∧ ∀ I, K.T.rep I (kV k) k0) : Paired (K.T.rep I) (ks.map fun kv => kV kv.1) (kvs.map (·.1)) := by
  have hlen := pd.len
  refine paired_of_get (by rw [List.length_map, List.length_map]; omega) fun i v d hv hd => ?_
  rw [List.getElem?_map] at hv hd
  cases hi : ks[i]? with
  | none => rw [hi] at hv; cases hv
  | some kv =>
    rw [hi] at hv
    cases hv
    obtain ⟨k0, h0, hr⟩ := hat i kv.1 kv.2 hi
    obtain ⟨y, hy, ey, _⟩ := paired_get pd h0
    rw [hy] at hd
    cases hd
    have ey : k0 = y.1 := ey
    subst ey
    exact hr _
theorem en_sortedF (cx : Cxt X N sc own) (hcm : X.calm = true) (hn : ∀ ws ks, K.holds ws ≠ .dT ks) (S : SrtK kd) (hc : CoeOk K.T kd) (hu : X.A.units + 10 < cLine) (hm : X.mg "sorted" = none) (h : EDic X e Γ (L s) K A kvs) (hg : glB sc "sorted" = true := by decide +kernel)
    (he : starEach [e] X.env = (false, eval e X.env) :: starEach [] X.env := by exact star_c rfl) (hpl : (backTo pos (starEach [] X.env)).any (·.1) = false := by rfl) :
    EN X (.Call (.Name "sorted" p) [e] [] pos) Γ L s (cLst K.T) xt (Res.val (sortK kd (kvs.map (·.1)), s)) := fun I σ F H Q fr th => by
  obtain ⟨h1, h2, h3⟩ := glB_gl cx hg
  refine PE_to (pe_callB (cr_sortedF hcm S hu) h1 hm (by decide +kernel) (pa_cons pe_w pa_nil he) h3 h2 he hpl) ?_
  refine h I σ F H _ fr fun p I1 H1 e1 fr1 hrd => ?_
  obtain ⟨ws, hr, pd⟩ := hrd I1 H1 (Same.refl _) fr1
  rcases K.yld with Y | Y
  · obtain ⟨ks, ek, hl, hat⟩ := Y ws
    rw [ek] at hr
    refine ⟨p, ks, kvs.map (·.1), K.T.rep I1, rfl, hr, keys_pd pd hl hat, fun v b r => dp_mono fr1.sep.same (hc X.K I1 v b r), fun ys p hy hp => ?_⟩
    exact th I1 p _ e1 ⟨fr1.sep.new hp ⟨ys, rfl, hy⟩, fr1.len, fr1.sl⟩
  · obtain ⟨ks, ek, _⟩ := Y ws
    exact absurd ek (hn ws ks)
end
end Fw
/-! ## 151. list.count of truth values -/
namespace L2
open PySem PySem.Spec PyProof.Rows
def bEqk (k : Bool) (v : Value) : Bool := match v with
  | .bool n => n == k
  | _ => false
def rCntB (K : PySem.W.Frag) : V → List V → Hp → VK → Prop := fun x xs H Q => ∃ (p : Addr) (bs : List Bool) (k : Bool), x = .ref p ∧ xs = [.bl k] ∧ SqL K H p (bs.map V.bl) ∧ Q (.int (bs.count k : Nat)) H
theorem bools_of_vals : ∀ {bs : List Bool} {us : List Value}, Vals (bs.map V.bl) us → us = bs.map Value.bool
  | [], _, .nil => rfl
  | b :: bs, _, .cons r rs => by
    cases r
    rw [bools_of_vals rs]
    rfl
theorem mt_countB {X : Cx} : MtR X "list.count" (rCntB X.K) := by
  intro pins s σ H x xs v us Q I rx rxs h
  obtain ⟨p, bs, k, rfl, rfl, hs, q⟩ := h
  cases rx
  obtain ⟨u, rfl, ru⟩ := rxs.one
  cases ru
  obtain ⟨its, rv, ⟨⟨cls, dd, data, sl⟩, n, ho, hc, hdn, hd⟩, hlen⟩ := I.list hs
  simp only at hc hd
  subst hc hd
  have hi := bools_of_vals rv
  subst hi
  refine call_meets PySem.F.slot_list_count ⟨_, ho, rfl⟩ PySem.F.entry_list_count (PySem.F.args_list_count_2 _ _)
    (SeqAt.list_countAt p (bs.map Value.bool).toArray n dd sl (.bool k) (bEqk k)) ⟨ho, fun y hy => ?_, ?_⟩
  · have hy : y ∈ bs.map Value.bool := by simpa using hy
    obtain ⟨b, _, rfl⟩ := List.mem_map.mp hy
    exact SeqAt.EqAt.bool_bool b k
  · have ec : (bs.map Value.bool).toArray.toList.countP (bEqk k) = bs.count k := by
      show (bs.map Value.bool).countP (bEqk k) = bs.count k
      rw [List.countP_map]
      rfl
    refine ⟨.int (bs.count k : Nat), H, I.tok _, ⟨s.toks, ?_⟩, q⟩
    show Value.int (((bs.map Value.bool).toArray.toList.countP (bEqk k) : Nat) : Int) s.toks = Value.int ((bs.count k : Nat) : Int) s.toks
    rw [ec]
end L2
namespace Fw
open PySem L2 PyProof.Rows
theorem tyo_lst {α : Type} {K : PySem.W.Frag} {A : Ty α} : TyOf K (tLst A) "list" := fun I H v a se r => by
  obtain ⟨p, vs, rfl, h1, _⟩ := r
  exact .inl ⟨rfl, vs, Same.sql se (SqL.of h1)⟩
theorem paired_bls {I : Hp} : ∀ {vs : List V} {bs : List Bool}, Paired (tBool.rep I) vs bs → vs = bs.map V.bl
  | _, _, .nil => rfl
  | _, _, .cons r rs => by rw [paired_bls rs]; cases r; rfl
theorem dm_countB {K : PySem.W.Frag} : DM (rCntB K) (tLst tBool) (Tys1 tBool) tInt (fun _ _ => True) (fun a t => ((List.count t.1 a : Nat) : Int)) := fun I L H v vs a t Q se rv rvs hp k => by
  obtain ⟨p, ws, rfl, h1, h2⟩ := rv
  obtain ⟨w, rfl, r1⟩ := tys1 rvs
  cases (show w = .bl t.1 from r1)
  cases paired_bls h2
  exact ⟨p, a, t.1, rfl, rfl, Same.sql se.same (SqL.of h1), k I _ H (Same.refl _) se rfl⟩
end Fw


namespace Fw
open PySem L2
/-! ## 160. dicts and instances lent out: what is told of the lent address is up to the lender -/
/-- a thing that may be told of an address, and stays -/
def LP := Hp → Addr → Prop
def FlatP (P : LP) {α : Type} (A : Ty α) : Prop := ∀ (I : Hp) (q : Addr) (v : V) (d : α), P I q → A.rep I v d → A.rep (minus I q) v d
def FlatPC (P : LP) (c : Rg) : Prop := ∀ (I R : Hp) (q : Addr), P I q → c.h I R → c.h (minus I q) R
/-- neither a tuple, a record, nor a list -/
def LD : LP := fun I q => Lent (I q) ∧ ∀ xs, I q ≠ some (.lst xs)
section
variable {P : LP} {α β τ : Type} {A : Ty α}
theorem FlatT.p (hP : ∀ I q, P I q → Lent (I q)) (h : FlatT A) : FlatP P A := fun I q v d l r => h I q v d (hP I q l) r
theorem paired_flatP (h : FlatP P A) {I : Hp} {q : Addr} (l : P I q) {vs : List V} {xs : List α} (p : Paired (A.rep I) vs xs) : Paired (A.rep (minus I q)) vs xs := by
  induction p with
  | nil => exact .nil
  | cons r _ ih => exact .cons (h I q _ _ l r) ih
theorem minus_lst {I : Hp} {q b : Addr} {vs : List V} (h : ∀ xs, I q ≠ some (.lst xs)) (e : I b = some (.lst vs)) : minus I q b = some (.lst vs) := by
  by_cases hb : b = q
  · subst hb; exact absurd e (h vs)
  · rw [minus_ne hb]; exact e
theorem fp_lst (hP : ∀ I q, P I q → LD I q) (h : FlatP P A) : FlatP P (tLst A) := fun I q v d l ⟨p, vs, e, a, b⟩ => ⟨p, vs, e, minus_lst (hP I q l).2 a, paired_flatP h l b⟩
theorem fp_tuL (hP : ∀ I q, P I q → LD I q) (h : FlatP P A) : FlatP P (tTuL A) := fun I q v d l ⟨p, vs, e, a, b⟩ => ⟨p, vs, e, minus_at (hP I q l).1 a (.inl ⟨vs, rfl⟩), paired_flatP h l b⟩
theorem fp_int : FlatP P tInt := fun _ _ _ _ _ h => h
theorem fp_bool : FlatP P tBool := fun _ _ _ _ _ h => h
theorem fp_tx : FlatP P tTx := fun _ _ _ _ _ h => h
theorem fp_none : FlatP P tNone := fun _ _ _ _ _ h => h
theorem fp_cell {q : Addr} : FlatP P (tCell q) := fun _ _ _ _ _ h => h
theorem fp_opt (h : FlatP P A) : FlatP P (tOpt A) := fun I q v d l r => by
  cases d with
  | none => exact r
  | some d => exact ⟨r.1, h I q v d l r.2⟩
def FlatPs (P : LP) {τ : Type} (T : Tys τ) : Prop := ∀ (I : Hp) (q : Addr) (v : List V) (d : τ), P I q → T.rep I v d → T.rep (minus I q) v d
theorem fps_nil : FlatPs P Tys.nil := fun _ _ _ _ _ h => h
theorem fps_cons {T : Tys τ} (h : FlatP P A) (k : FlatPs P T) : FlatPs P (Tys.cons A T) := fun I q v d l ⟨x, xs, e, a, b⟩ => ⟨x, xs, e, h I q x d.1 l a, k I q xs d.2 l b⟩
theorem fp_tup (hP : ∀ I q, P I q → LD I q) {T : Tys τ} (h : FlatPs P T) : FlatP P (tTup T) := fun I q v d l ⟨p, vs, e, a, b⟩ => ⟨p, vs, e, minus_at (hP I q l).1 a (.inl ⟨vs, rfl⟩), h I q vs d l b⟩
theorem fpc_lst {q : Addr} {xs : List α} (h : FlatP P A) : FlatPC P (cell q (cLst A xs)) := fun I R q l ⟨o, e, vs, e2, p⟩ => ⟨o, e, vs, e2, paired_flatP h l p⟩
theorem PD.flatP {κ : Type} (h : FlatP P A) {I : Hp} {q : Addr} (l : P I q) {ws : List (κ × V)} {kvs : List (κ × α)} (p : PD A I ws kvs) : PD A (minus I q) ws kvs := by
  unfold PD at p ⊢
  induction p with
  | nil => exact .nil
  | cons r _ ih => exact .cons ⟨r.1, h I q _ _ l r.2⟩ ih
theorem fpc_dic {κ : Type} [DecidableEq κ] {K : Kt κ} {q : Addr} {kvs : List (κ × α)} (h : FlatP P A) : FlatPC P (cell q (cDic K A kvs)) := fun I R r l ⟨o, e, ws, e2, pd⟩ => ⟨o, e, ws, e2, pd.flatP h l⟩
/-- the fields of an instance -/
def FlatPF (P : LP) (Φ : List (Str × Slot)) : Prop := ∀ (I : Hp) (q : Addr) (fs : List (Str × V)), P I q → FsOk I fs Φ → FsOk (minus I q) fs Φ
theorem fpf_nil : FlatPF P [] := fun I q fs l h => ⟨fun i f {α} A d e => by simp at e, h.2⟩
theorem fpf_cons {f : Str} {d : α} {Φ : List (Str × Slot)} (h : FlatP P A) (k : ∀ (I : Hp) (q : Addr) (fs : List (Str × V)), P I q → (∀ (i : Nat) (f : Str) {α : Type} (A : Ty α) (d : α), Φ[i]? = some (f, .dat A d) → ∃ v, fs.lookup f = some v ∧ A.rep I v d) → ∀ (i : Nat) (f : Str) {α : Type} (A : Ty α) (d : α), Φ[i]? = some (f, .dat A d) → ∃ v, fs.lookup f = some v ∧ A.rep (minus I q) v d) :
    ∀ (I : Hp) (q : Addr) (fs : List (Str × V)), P I q → (∀ (i : Nat) (g : Str) {α : Type} (B : Ty α) (e : α), ((f, Slot.dat A d) :: Φ)[i]? = some (g, .dat B e) → ∃ v, fs.lookup g = some v ∧ B.rep I v e) → ∀ (i : Nat) (g : Str) {α : Type} (B : Ty α) (e : α), ((f, Slot.dat A d) :: Φ)[i]? = some (g, .dat B e) → ∃ v, fs.lookup g = some v ∧ B.rep (minus I q) v e := fun I q fs l hh i g {β} B e q1 => by
  cases i with
  | zero =>
    have q2 := q1
    rw [List.getElem?_cons_zero] at q2
    have q2 := Option.some.inj q2
    injection q2 with q3 q4
    subst q3
    cases q4
    obtain ⟨v, h1, h2⟩ := hh 0 _ _ _ q1
    exact ⟨v, h1, h I q v _ l h2⟩
  | succ i => exact k I q fs l (fun j g {γ} C c q2 => hh (j + 1) g C c (by rw [List.getElem?_cons_succ]; exact q2)) i g B e (by rw [List.getElem?_cons_succ] at q1; exact q1)
theorem fpf_end : ∀ (I : Hp) (q : Addr) (fs : List (Str × V)), P I q → (∀ (i : Nat) (g : Str) {α : Type} (B : Ty α) (e : α), ([] : List (Str × Slot))[i]? = some (g, .dat B e) → ∃ v, fs.lookup g = some v ∧ B.rep I v e) → ∀ (i : Nat) (g : Str) {α : Type} (B : Ty α) (e : α), ([] : List (Str × Slot))[i]? = some (g, .dat B e) → ∃ v, fs.lookup g = some v ∧ B.rep (minus I q) v e := fun I q fs l hh i g {β} B e q1 => by simp at q1
theorem fpf_of {Φ : List (Str × Slot)} (k : ∀ (I : Hp) (q : Addr) (fs : List (Str × V)), P I q → (∀ (i : Nat) (f : Str) {α : Type} (A : Ty α) (d : α), Φ[i]? = some (f, .dat A d) → ∃ v, fs.lookup f = some v ∧ A.rep I v d) → ∀ (i : Nat) (f : Str) {α : Type} (A : Ty α) (d : α), Φ[i]? = some (f, .dat A d) → ∃ v, fs.lookup f = some v ∧ A.rep (minus I q) v d) : FlatPF P Φ := fun I q fs l h => ⟨fun i f {α} A d e => k I q fs l (fun i f {α} A d e => h.1 i f A d e) i f A d e, h.2⟩
theorem fpc_ins {q C : Addr} {Φ : List (Str × Slot)} (h : FlatPF P Φ) : FlatPC P (cell q (cIns C Φ)) := fun I R r l ⟨o, e, dx, fs, e2, ok⟩ => ⟨o, e, dx, fs, e2, h I r fs l ok⟩
theorem fpc_ex {ι : Type} {f : ι → List Rg} (h : ∀ i, ∀ c ∈ f i, FlatPC P c) : FlatPC P (exR f) := fun I R q l ⟨i, Z, h1, h2, h3, h4⟩ => ⟨i, Z, h1, fun z hz => h i z.1 (by rw [← h1]; exact List.mem_map_of_mem hz) I z.2 q l (h2 z hz), h3, h4⟩
theorem fpl_nil : ∀ c ∈ ([] : List Rg), FlatPC P c := fun _ h => nomatch h
theorem fpl_cons {c : Rg} {L : List Rg} (h : FlatPC P c) (hs : ∀ c ∈ L, FlatPC P c) : ∀ d ∈ c :: L, FlatPC P d := fun d hd => by
  rcases List.mem_cons.mp hd with rfl | hd
  · exact h
  · exact hs d hd
end
/-- as lend_sep, whatever is told of the lent address -/
theorem lend_sepP {P : LP} {I : Hp} {L1 : List Rg} {q : Addr} {φ : CP} {R : List Rg} {H : Hp} (se : Sep I (L1 ++ (cell q φ :: R)) H) : ∃ (o : HO) (E : List Rg), H q = some o ∧ φ.h I o ∧ I q = none ∧ Sep (upd I q o) (L1 ++ E) H ∧
    ∀ (I2 : Hp) (L2 : List Rg) (H2 : Hp), Same (upd I q o) I2 → P I2 q → (∀ c ∈ L2, FlatPC P c) → Sep I2 (L2 ++ E) H2 → Same I (minus I2 q) ∧ Sep (minus I2 q) (L2 ++ (cell q φ :: R)) H2 := by
  have se1 := se.perm (List.perm_middle)
  obtain ⟨o, ho, hφ, hi⟩ := se1.get
  obtain ⟨Z, e, s, a, d⟩ := se1
  match Z, e with
  | z :: Z, e =>
    rw [List.map_cons] at e
    injection e with e1 e2
    obtain ⟨Z1, Z2, rfl, e3, e4⟩ := List.map_eq_append_iff.mp e2
    cases d with
    | cons d1 d2 =>
      have hz2 : z.2 = single q o := by
        obtain ⟨a1, a2, _⟩ := a z (List.mem_cons_self ..)
        rw [e1] at a1
        obtain ⟨o', r, _⟩ := a1
        have := a2 q o' (by rw [r]; exact single_same)
        rw [ho] at this
        cases this
        exact r
      have other : ∀ y ∈ Z1 ++ Z2, y.2 q = none := fun y hy => by
        rcases d1 y hy q with h | h
        · rw [hz2, single_same] at h; cases h
        · exact h
      refine ⟨o, Z2.map fun z => exact_ z.2, ho, hφ, hi, ?_, fun I2 L2 H2 e5 le fl se2 => ?_⟩
      · refine ⟨Z1 ++ Z2.map (fun z => (exact_ z.2, z.2)), by rw [List.map_append, e3, List.map_map]; rfl, fun b u hb => ?_, fun y hy => ?_, ?_⟩
        · by_cases hq : b = q
          · subst hq; rw [upd_same] at hb; rw [ho]; exact hb
          · rw [upd_ne hq] at hb; exact s b u hb
        · have dis : ∀ R : Hp, R q = none → Disj I R → Disj (upd I q o) R := fun R h1 h2 b => by
            by_cases hq : b = q
            · subst hq; exact .inr h1
            · rw [upd_ne hq]; exact h2 b
          rcases List.mem_append.mp hy with hy | hy
          · obtain ⟨b1, b2, b3⟩ := a y (List.mem_cons_of_mem _ (List.mem_append_left _ hy))
            exact ⟨y.1.mono (Same.upd hi) b1, b2, dis _ (other y (List.mem_append_left _ hy)) b3⟩
          · obtain ⟨y', hy', rfl⟩ := List.mem_map.mp hy
            obtain ⟨b1, b2, b3⟩ := a y' (List.mem_cons_of_mem _ (List.mem_append_right _ hy'))
            exact ⟨⟨rfl, y'.1.nt b1⟩, b2, dis _ (other y' (List.mem_append_right _ hy')) b3⟩
        · rw [List.pairwise_append] at d2 ⊢
          obtain ⟨p1, p2, p3⟩ := d2
          refine ⟨p1, List.pairwise_map.mpr p2, fun y hy w hw => ?_⟩
          obtain ⟨w', hw', rfl⟩ := List.mem_map.mp hw
          exact p3 y hy w' hw'
      · obtain ⟨Y, f, t, g, k⟩ := se2
        obtain ⟨Y1, Y2, rfl, f1, f2⟩ := List.map_eq_append_iff.mp f
        have hq2 : I2 q = some o := e5 _ _ upd_same
        have y2 : Y2.map (·.2) = Z2.map (·.2) := by
          have : ∀ (Y2 Z2 : List (Rg × Hp)), Y2.map (·.1) = Z2.map (fun z => exact_ z.2) → (∀ y ∈ Y2, y.1.h I2 y.2) → Y2.map (·.2) = Z2.map (·.2) := by
            intro Y2
            induction Y2 with
            | nil => intro Z2 h _; cases Z2 with
              | nil => rfl
              | cons _ _ => cases h
            | cons y Y2 ih =>
              intro Z2 h hh
              cases Z2 with
              | nil => cases h
              | cons z Z2 =>
                rw [List.map_cons, List.map_cons] at h
                injection h with h1 h2
                rw [List.map_cons, List.map_cons, ih Z2 h2 fun w hw => hh w (List.mem_cons_of_mem _ hw)]
                have := hh y (List.mem_cons_self ..)
                rw [h1] at this
                rw [show y.2 = z.2 from this.1]
          exact this Y2 Z2 f2 fun y hy => (g y (List.mem_append_right _ hy)).1
        have inI : Same I (minus I2 q) := fun b u hb => by
          rw [minus_ne (ne_of_none hb hi)]
          exact e5 b u (by rw [upd_ne (ne_of_none hb hi)]; exact hb)
        have mt : Same (minus I2 q) H2 := fun b u hb => by
          by_cases hq : b = q
          · subst hq; rw [minus_same] at hb; cases hb
          · rw [minus_ne hq] at hb; exact t b u hb
        have mem2 : ∀ y ∈ Z2, ∃ y' ∈ Y2, y'.2 = y.2 := fun y hy => by
          have : y.2 ∈ Y2.map (·.2) := by rw [y2]; exact List.mem_map_of_mem hy
          obtain ⟨y', h1, h2⟩ := List.mem_map.mp this
          exact ⟨y', h1, h2⟩
        have down : ∀ R : Hp, Disj I2 R → Disj (minus I2 q) R := fun R h b => by
          by_cases hq : b = q
          · subst hq; exact .inl minus_same
          · rw [minus_ne hq]; exact h b
        have atq : ∀ R : Hp, Disj I2 R → R q = none := fun R h => by
          rcases h q with h | h
          · rw [hq2] at h; cases h
          · exact h
        refine ⟨inI, Y1 ++ ((cell q φ, single q o) :: Z2), by rw [List.map_append, List.map_cons, f1, e4], mt, fun y hy => ?_, ?_⟩
        · rcases List.mem_append.mp hy with hy | hy
          · obtain ⟨b1, b2, b3⟩ := g y (List.mem_append_left _ hy)
            exact ⟨fl y.1 (by rw [← f1]; exact List.mem_map_of_mem hy) _ _ _ le b1, b2, down _ b3⟩
          · rcases List.mem_cons.mp hy with rfl | hy
            · exact ⟨⟨o, rfl, φ.mono inI hφ⟩, single_sub (t _ _ hq2), fun b => by
                by_cases hb : b = q
                · subst hb; exact .inl minus_same
                · exact .inr (single_ne hb)⟩
            · obtain ⟨y', hy', ey⟩ := mem2 y hy
              obtain ⟨b1, b2, b3⟩ := g y' (List.mem_append_right _ hy')
              obtain ⟨c1, c2, c3⟩ := a y (List.mem_cons_of_mem _ (List.mem_append_right _ hy))
              exact ⟨y.1.mono inI c1, by rw [← ey]; exact b2, by rw [← ey]; exact down _ b3⟩
        · rw [List.pairwise_append] at k ⊢
          obtain ⟨p1, p2, p3⟩ := k
          have sd : ∀ R : Hp, R q = none → Disj (single q o) R := fun R h b => by
            by_cases hb : b = q
            · subst hb; exact .inr h
            · exact .inl (single_ne hb)
          refine ⟨p1, ?_, fun y hy w hw => ?_⟩
          · rw [List.pairwise_append] at d2
            exact List.Pairwise.cons (fun w hw => sd _ (other w (List.mem_append_right _ hw))) d2.2.1
          · rcases List.mem_cons.mp hw with rfl | hw
            · exact (sd _ (atq _ (g y (List.mem_append_left _ hy)).2.2)).symm
            · obtain ⟨w', hw', ew⟩ := mem2 w hw
              rw [← ew]
              exact p3 y hy w' hw'
/-- a cell with just that object -/
def cEx (u : HO) (h : ∀ ys, u ≠ .tup ys) : CP := ⟨fun _ o => o = u, fun _ h => h, fun e ys z => h ys (e.symm.trans z)⟩
/-! ### a dict lent -/
section
variable {X : Cx} {N : List Str} {sc : Scope} {own : Str → Bool} {κ α β γ δ ε ε' ρ ν ν' τ ι : Type} [DecidableEq κ] {A : Ty α} {B : Ty β} {C : Ty δ} {e : Expr} {Γ : List Slot} {L L1 : γ → List Rg} {s : γ} {xt : XT ε} {xt' : XT ε'} {R : List Rg} {q qa Cl : Addr} {K : Kt κ} {P : LP}
/-- what is told of a lent dict: it is locked, and its things lie so -/
def LDic (K : Kt κ) (A : Ty α) (kvs : List (κ × α)) : LP := fun I q => ∃ od ws, I q = some (.frz od (K.holds ws)) ∧ PD A I ws kvs
theorem ldic_ld {kvs : List (κ × α)} : ∀ I q, LDic K A kvs I q → LD I q := fun I q ⟨od, ws, e, _⟩ => by
  rw [show LD I q = (Lent (I q) ∧ ∀ xs, I q ≠ some (.lst xs)) from rfl, e]
  exact ⟨⟨fun ys z => (by cases z), fun fs z => (by cases z)⟩, fun xs z => (by cases z)⟩
/-- how the slots look where the thing at q is read as such -/
def SlotAs {α : Type} (A : Ty α) (d : α) (q : Addr) (Γ Γ' : List Slot) : Prop := Γ'.length = Γ.length ∧ ∀ (I : Hp) (σ : St), σ.length = Γ.length → SlotsOk I σ Γ → A.rep I (.ref q) d → SlotsOk I σ Γ'
theorem slotAs_var {α : Type} {A : Ty α} {d : α} {q : Addr} {i : Nat} {Γ : List Slot} (hi : Γ[i]? = some (.dat (tCell q) ())) : SlotAs A d q Γ (Γ.set i (.dat A d)) := ⟨by rw [List.length_set], fun I σ hl ok r j s hj => by
  by_cases hij : i = j
  · subst hij
    have il : i < Γ.length := (List.getElem?_eq_some_iff.mp hi).1
    rw [List.getElem?_set_self il] at hj
    cases hj
    obtain ⟨v, hv, hr⟩ := ok i _ hi
    cases (show v = .ref q from hr)
    exact ⟨_, hv, r⟩
  · rw [List.getElem?_set_ne hij] at hj
    exact ok j s hj⟩
theorem slotAs_out1 {α β : Type} {A : Ty α} {d : α} {T2 : Ty β} {t2 : β} {q : Addr} {i : Nat} {Γ : List Slot} (hi : Γ[i]? = some (.dat (tLTup (Tys2 (tCell q) T2)) ((), t2, ()))) : SlotAs A d q Γ (Γ.set i (.dat (tLTup (Tys2 A T2)) (d, t2, ()))) := ⟨by rw [List.length_set], fun I σ hl ok r j s hj => by
  by_cases hij : i = j
  · subst hij
    have il : i < Γ.length := (List.getElem?_eq_some_iff.mp hi).1
    rw [List.getElem?_set_self il] at hj
    cases hj
    obtain ⟨v, hv, p, ws, rfl, hp, a, as, rfl, ha, hr⟩ := ok i _ hi
    cases (show a = .ref q from ha)
    exact ⟨_, hv, p, _, rfl, hp, _, as, rfl, r, hr⟩
  · rw [List.getElem?_set_ne hij] at hj
    exact ok j s hj⟩
theorem slotAs_out2 {α β : Type} {A : Ty α} {d : α} {T1 : Ty β} {t1 : β} {q : Addr} {i : Nat} {Γ : List Slot} (hi : Γ[i]? = some (.dat (tLTup (Tys2 T1 (tCell q))) (t1, (), ()))) : SlotAs A d q Γ (Γ.set i (.dat (tLTup (Tys2 T1 A)) (t1, d, ()))) := ⟨by rw [List.length_set], fun I σ hl ok r j s hj => by
  by_cases hij : i = j
  · subst hij
    have il : i < Γ.length := (List.getElem?_eq_some_iff.mp hi).1
    rw [List.getElem?_set_self il] at hj
    cases hj
    obtain ⟨v, hv, p, ws, rfl, hp, a, as, rfl, ha, b, bs, rfl, hb, rfl⟩ := ok i _ hi
    cases (show b = .ref q from hb)
    exact ⟨_, hv, p, _, rfl, hp, a, _, rfl, ha, _, _, rfl, r, rfl⟩
  · rw [List.getElem?_set_ne hij] at hj
    exact ok j s hj⟩
theorem lend_frameD {kvs : List (κ × α)} {Γ' : List Slot} (hs : SlotAs (tDic K A) kvs q Γ Γ') (hp : ∀ s, (L s).Perm (L1 s ++ (cell q (cDic K A kvs) :: R))) {I : Hp} {σ : St} {F : List Rg} {H : Hp} (fr : FrOk I σ Γ (L s ++ F) H) :
    ∃ ws, H q = some (K.holds ws) ∧ ∀ od, ∃ E, FrOk (upd I q (.frz od (K.holds ws))) σ Γ' (L1 s ++ E) (upd H q (.frz od (K.holds ws))) ∧
      ∀ (I2 : Hp) (L2 : List Rg) (H2 : Hp), Same (upd I q (.frz od (K.holds ws))) I2 → (∀ c ∈ L2, FlatPC (LDic K A kvs) c) → Sep I2 (L2 ++ E) H2 → LDic K A kvs I2 q ∧ H2 q = some (.frz od (K.holds ws)) ∧ Same I (minus I2 q) ∧ Sep (minus I2 q) (L2 ++ (cell q (cDic K A kvs) :: (R ++ F))) (upd H2 q (K.holds ws)) := by
  have se0 : Sep I (cell q (cDic K A kvs) :: (L1 s ++ (R ++ F))) H := by
    have := fr.sep.perm ((hp s).append_right F)
    rw [List.append_assoc] at this
    exact this.perm List.perm_middle
  obtain ⟨o, ho, ⟨ws, rfl, pd⟩, hq⟩ := se0.get
  refine ⟨ws, ho, fun od => ?_⟩
  have nt : ∀ ys, HO.frz od (K.holds ws) ≠ .tup ys := fun ys z => nomatch z
  have se1 : Sep I (L1 s ++ (cell q (cEx _ nt) :: (R ++ F))) (upd H q (.frz od (K.holds ws))) := (se0.put (ψ := cEx _ nt) rfl).perm List.perm_middle.symm
  obtain ⟨o2, E, ho2, e2, hq2, se2, back⟩ := lend_sepP (P := LDic K A kvs) se1
  cases (show o2 = _ from e2)
  have e0 : Same I (upd I q (.frz od (K.holds ws))) := Same.upd hq
  refine ⟨E, ⟨se2, by rw [hs.1]; exact fr.len, hs.2 _ σ fr.len (fr.sl.mono e0) ⟨q, od, ws, rfl, upd_same, pd.mono e0⟩⟩, fun I2 L2 H2 e5 fl se3 => ?_⟩
  have lp : LDic K A kvs I2 q := ⟨od, ws, e5 _ _ upd_same, pd.mono (e0.trans e5)⟩
  obtain ⟨m1, m2⟩ := back I2 L2 H2 e5 lp fl se3
  refine ⟨lp, se3.same _ _ (e5 _ _ upd_same), m1, ?_⟩
  exact ((m2.perm List.perm_middle).put (ψ := cDic K A kvs) ⟨ws, rfl, pd.mono m1⟩).perm List.perm_middle.symm
theorem back_perm {L2 R F L3 : List Rg} {c : Rg} (h : L3.Perm (L2 ++ (c :: R))) : (L2 ++ (c :: (R ++ F))).Perm (L3 ++ F) := by
  rw [show L2 ++ (c :: (R ++ F)) = (L2 ++ (c :: R)) ++ F by simp]
  exact h.symm.append_right F
/-- e reads an own dict as if it never changed -/
theorem ef_lendD {kvs : List (κ × α)} {mm : Res ε (δ × γ)} {Γ' : List Slot} (hC : FlatP (LDic K A kvs) C) (hfl : ∀ s, ∀ c ∈ L1 s, FlatPC (LDic K A kvs) c) (hs : SlotAs (tDic K A) kvs q Γ Γ') (hp : ∀ s, (L s).Perm (L1 s ++ (cell q (cDic K A kvs) :: R)))
    (h : EF X e Γ' L1 s C xt mm) : EF X e Γ L s C xt' mm.nox := fun I σ F H Q fr th => by
  obtain ⟨ws, ho, k⟩ := lend_frameD hs hp fr
  refine PE_to (pe_lock pe_w) ⟨q, K.holds ws, ho, K.mu ws, fun od => ?_⟩
  obtain ⟨E, fr1, back⟩ := k od
  refine h _ σ E _ _ fr1 ?_
  cases mm with
  | stuck => exact th
  | exn x => exact False.elim th
  | val p =>
    intro I' z H' e2 fr2 rz
    obtain ⟨lp, hH, m1, m2⟩ := back I' (L1 p.2) H' e2 (hfl _) fr2.sep
    exact ⟨hH, th (minus I' q) z _ m1 ⟨m2.perm (back_perm (hp p.2)), fr.len, fr.sl.mono m1⟩ (hC _ _ _ _ lp rz)⟩
theorem en_lendD {kvs : List (κ × α)} {ψ : β → CP} {mm : Res ε (β × γ)} {Γ' : List Slot} (hC : ∀ d r, FlatPC (LDic K A kvs) (cell r (ψ d))) (hfl : ∀ s, ∀ c ∈ L1 s, FlatPC (LDic K A kvs) c) (hs : SlotAs (tDic K A) kvs q Γ Γ') (hp : ∀ s, (L s).Perm (L1 s ++ (cell q (cDic K A kvs) :: R)))
    (h : EN X e Γ' L1 s ψ xt mm) : EN X e Γ L s ψ xt' mm.nox := fun I σ F H Q fr th => by
  obtain ⟨ws, ho, k⟩ := lend_frameD hs hp fr
  refine PE_to (pe_lock pe_w) ⟨q, K.holds ws, ho, K.mu ws, fun od => ?_⟩
  obtain ⟨E, fr1, back⟩ := k od
  refine h _ σ E _ _ fr1 ?_
  cases mm with
  | stuck => exact th
  | exn x => exact False.elim th
  | val p =>
    intro I' r H' e2 fr2
    obtain ⟨lp, hH, m1, m2⟩ := back I' (cell r (ψ p.1) :: L1 p.2) H' e2 (fpl_cons (hC _ _) (hfl _)) fr2.sep
    exact ⟨hH, th (minus I' q) r _ m1 ⟨Sep.perm m2 ((back_perm (hp p.2)).cons _), fr.len, fr.sl.mono m1⟩⟩
theorem pt_lockT {t : TT} (h : PT X e t) : PT X e (fun σ H Q => ∃ d u, H d = some u ∧ Mut (some u) ∧ ∀ od, t σ (upd H d (.frz od u)) fun v H' => H' d = some (.frz od u) ∧ Q v (upd H' d u)) := by
  refine ⟨fun pins s σ H Q I hw => ?_⟩
  obtain ⟨d, u, hd, mu, hw⟩ := hw
  obtain ⟨od, I1⟩ := I.lock hd mu
  refine thn (h.run pins s σ _ _ I1 (hw od)) fun v s1 ⟨H1, I2, e2, q⟩ => ?_
  exact ⟨_, I2.unlock e2 (I.nofrz hd mu), q⟩
theorem tf_lendD {kvs : List (κ × α)} {mm : Res ε (Bool × γ)} {Γ' : List Slot} (hfl : ∀ s, ∀ c ∈ L1 s, FlatPC (LDic K A kvs) c) (hs : SlotAs (tDic K A) kvs q Γ Γ') (hp : ∀ s, (L s).Perm (L1 s ++ (cell q (cDic K A kvs) :: R)))
    (h : TF X e Γ' L1 s xt mm) : TF X e Γ L s xt' mm.nox := fun I σ F H Q fr th => by
  obtain ⟨ws, ho, k⟩ := lend_frameD hs hp fr
  refine PT_to (pt_lockT pt_w) ⟨q, K.holds ws, ho, K.mu ws, fun od => ?_⟩
  obtain ⟨E, fr1, back⟩ := k od
  refine h _ σ E _ _ fr1 ?_
  cases mm with
  | stuck => exact th
  | exn x => exact False.elim th
  | val p =>
    intro I' H' e2 fr2
    obtain ⟨lp, hH, m1, m2⟩ := back I' (L1 p.2) H' e2 (hfl _) fr2.sep
    exact ⟨hH, th (minus I' q) _ m1 ⟨m2.perm (back_perm (hp p.2)), fr.len, fr.sl.mono m1⟩⟩
/-! ### an instance with one dict lent -/
variable {To : Ty β} {σt : Type} {Tt : Tys σt} {ns : List Str} {Φ : List (Str × Slot)}
def LIns (Cl : Addr) (ns : List Str) (Tt : Tys σt) (d : σt) : LP := fun I q => ∃ dx fs, I q = some (.ins Cl dx fs)
theorem lins_ld {d : σt} : ∀ I q, LIns Cl ns Tt d I q → LD I q := fun I q ⟨dx, fs, e⟩ => by
  rw [show LD I q = (Lent (I q) ∧ ∀ xs, I q ≠ some (.lst xs)) from rfl, e]
  exact ⟨⟨fun ys z => (by cases z), fun fs z => (by cases z)⟩, fun xs z => (by cases z)⟩
theorem lend_frameI {kvs : List (κ × α)} {d : σt} {Γ' : List Slot} (hs : SlotAs (tObj Cl ns Tt) d qa Γ Γ') (hp : ∀ s, (L s).Perm (L1 s ++ (cell qa (cIns Cl Φ) :: (cell q (cDic K A kvs) :: R)))) (hΦ : FlatPF (LDic K A kvs) Φ)
    (hfin : ∀ (I : Hp) (fs : List (Str × V)), FsOk I fs Φ → (tDic K A).rep I (.ref q) kvs → FsTys I fs ns Tt d) (hns : Φ.map (·.1) = ns) {I : Hp} {σ : St} {F : List Rg} {H : Hp} (fr : FrOk I σ Γ (L s ++ F) H) :
    ∃ ws, H q = some (K.holds ws) ∧ ∀ od, ∃ I1 E, Same I I1 ∧ FrOk I1 σ Γ' (L1 s ++ E) (upd H q (.frz od (K.holds ws))) ∧
      ∀ (I2 : Hp) (L2 : List Rg) (H2 : Hp), Same I1 I2 → (∀ c ∈ L2, FlatPC (LDic K A kvs) c) → (∀ c ∈ L2, FlatPC (LIns Cl ns Tt d) c) → Sep I2 (L2 ++ E) H2 → LIns Cl ns Tt d I2 qa ∧ LDic K A kvs (minus I2 qa) q ∧ H2 q = some (.frz od (K.holds ws)) ∧ Same I (minus (minus I2 qa) q) ∧ Sep (minus (minus I2 qa) q) (L2 ++ (cell qa (cIns Cl Φ) :: (cell q (cDic K A kvs) :: (R ++ F)))) (upd H2 q (K.holds ws)) := by
  have se0 : Sep I (cell q (cDic K A kvs) :: ((L1 s ++ [cell qa (cIns Cl Φ)]) ++ (R ++ F))) H := by
    have := fr.sep.perm ((hp s).append_right F)
    rw [show L1 s ++ (cell qa (cIns Cl Φ) :: (cell q (cDic K A kvs) :: R)) ++ F = (L1 s ++ [cell qa (cIns Cl Φ)]) ++ (cell q (cDic K A kvs) :: (R ++ F)) by simp] at this
    exact this.perm List.perm_middle
  obtain ⟨o, ho, ⟨ws, rfl, pd⟩, hq⟩ := se0.get
  refine ⟨ws, ho, fun od => ?_⟩
  have nt : ∀ ys, HO.frz od (K.holds ws) ≠ .tup ys := fun ys z => nomatch z
  have se1 : Sep I ((L1 s ++ [cell qa (cIns Cl Φ)]) ++ (cell q (cEx _ nt) :: (R ++ F))) (upd H q (.frz od (K.holds ws))) := (se0.put (ψ := cEx _ nt) rfl).perm List.perm_middle.symm
  obtain ⟨o2, E1, ho2, e2, hq2, se2, back1⟩ := lend_sepP (P := LDic K A kvs) se1
  cases (show o2 = _ from e2)
  have e0 : Same I (upd I q (.frz od (K.holds ws))) := Same.upd hq
  have se3 : Sep (upd I q (.frz od (K.holds ws))) (L1 s ++ (cell qa (cIns Cl Φ) :: E1)) (upd H q (.frz od (K.holds ws))) := by
    rw [show L1 s ++ (cell qa (cIns Cl Φ) :: E1) = (L1 s ++ [cell qa (cIns Cl Φ)]) ++ E1 by simp]
    exact se2
  obtain ⟨o4, E2, ho4, ⟨dx, fs, rfl, ok⟩, hq4, se4, back2⟩ := lend_sepP (P := LIns Cl ns Tt d) se3
  have e4 : Same (upd I q (.frz od (K.holds ws))) (upd (upd I q (.frz od (K.holds ws))) qa (.ins Cl dx fs)) := Same.upd hq4
  have rD : (tDic K A).rep (upd I q (.frz od (K.holds ws))) (.ref q) kvs := ⟨q, od, ws, rfl, upd_same, pd.mono e0⟩
  obtain ⟨vs2, g1, g2⟩ := hfin _ fs ok rD
  refine ⟨_, E2, e0.trans e4, ⟨se4, by rw [hs.1]; exact fr.len, hs.2 _ σ fr.len (fr.sl.mono (e0.trans e4)) ⟨qa, dx, fs, vs2, rfl, upd_same, Tt.mono e4 g1, g2, fun f hf => ok.2.1 f (by rw [hns]; exact hf)⟩⟩, fun I2 L2 H2 e5 fl1 fl2 se5 => ?_⟩
  have l2 : LIns Cl ns Tt d I2 qa := ⟨dx, fs, e5 _ _ upd_same⟩
  obtain ⟨m1, m2⟩ := back2 I2 L2 H2 e5 l2 fl2 se5
  have lp : LDic K A kvs (minus I2 qa) q := ⟨od, ws, m1 _ _ upd_same, pd.mono (e0.trans m1)⟩
  have m2' : Sep (minus I2 qa) ((L2 ++ [cell qa (cIns Cl Φ)]) ++ E1) H2 := by
    rw [show (L2 ++ [cell qa (cIns Cl Φ)]) ++ E1 = L2 ++ (cell qa (cIns Cl Φ) :: E1) by simp]
    exact m2
  obtain ⟨m3, m4⟩ := back1 (minus I2 qa) (L2 ++ [cell qa (cIns Cl Φ)]) H2 m1 lp (fun c hc => by
    rcases List.mem_append.mp hc with hc | hc
    · exact fl1 c hc
    · rw [List.mem_singleton.mp hc]; exact fpc_ins hΦ) m2'
  refine ⟨l2, lp, m2.same _ _ (m1 _ _ upd_same), m3, ?_⟩
  have := ((m4.perm List.perm_middle).put (ψ := cDic K A kvs) ⟨ws, rfl, pd.mono m3⟩).perm List.perm_middle.symm
  rw [show L2 ++ (cell qa (cIns Cl Φ) :: (cell q (cDic K A kvs) :: (R ++ F))) = (L2 ++ [cell qa (cIns Cl Φ)]) ++ (cell q (cDic K A kvs) :: (R ++ F)) by simp]
  exact this
theorem back_permI {L2 R F L3 : List Rg} {c c2 : Rg} (h : L3.Perm (L2 ++ (c :: (c2 :: R)))) : (L2 ++ (c :: (c2 :: (R ++ F)))).Perm (L3 ++ F) := by
  rw [show L2 ++ (c :: (c2 :: (R ++ F))) = (L2 ++ (c :: (c2 :: R))) ++ F by simp]
  exact h.symm.append_right F
theorem ef_lendI {kvs : List (κ × α)} {d : σt} {mm : Res ε (δ × γ)} {Γ' : List Slot} (hC : FlatP (LDic K A kvs) C) (hC2 : FlatP (LIns Cl ns Tt d) C) (hfl : ∀ s, ∀ c ∈ L1 s, FlatPC (LDic K A kvs) c) (hfl2 : ∀ s, ∀ c ∈ L1 s, FlatPC (LIns Cl ns Tt d) c) (hs : SlotAs (tObj Cl ns Tt) d qa Γ Γ')
    (hp : ∀ s, (L s).Perm (L1 s ++ (cell qa (cIns Cl Φ) :: (cell q (cDic K A kvs) :: R)))) (hΦ : FlatPF (LDic K A kvs) Φ) (hfin : ∀ (I : Hp) (fs : List (Str × V)), FsOk I fs Φ → (tDic K A).rep I (.ref q) kvs → FsTys I fs ns Tt d)
    (h : EF X e Γ' L1 s C xt mm) (hns : Φ.map (·.1) = ns := by rfl) : EF X e Γ L s C xt' mm.nox := fun I σ F H Q fr th => by
  obtain ⟨ws, ho, k⟩ := lend_frameI (d := d) hs hp hΦ hfin hns fr
  refine PE_to (pe_lock pe_w) ⟨q, K.holds ws, ho, K.mu ws, fun od => ?_⟩
  obtain ⟨I1, E, e0, fr1, back⟩ := k od
  refine h _ σ E _ _ fr1 ?_
  cases mm with
  | stuck => exact th
  | exn x => exact False.elim th
  | val p =>
    intro I' z H' e2 fr2 rz
    obtain ⟨l2, lp, hH, m1, m2⟩ := back I' (L1 p.2) H' e2 (hfl _) (hfl2 _) fr2.sep
    exact ⟨hH, th _ z _ m1 ⟨m2.perm (back_permI (hp p.2)), fr.len, fr.sl.mono m1⟩ (hC _ _ _ _ lp (hC2 _ _ _ _ l2 rz))⟩
theorem en_lendI {kvs : List (κ × α)} {d : σt} {ψ : β → CP} {mm : Res ε (β × γ)} {Γ' : List Slot} (hC : ∀ d r, FlatPC (LDic K A kvs) (cell r (ψ d))) (hC2 : ∀ x r, FlatPC (LIns Cl ns Tt d) (cell r (ψ x))) (hfl : ∀ s, ∀ c ∈ L1 s, FlatPC (LDic K A kvs) c) (hfl2 : ∀ s, ∀ c ∈ L1 s, FlatPC (LIns Cl ns Tt d) c) (hs : SlotAs (tObj Cl ns Tt) d qa Γ Γ')
    (hp : ∀ s, (L s).Perm (L1 s ++ (cell qa (cIns Cl Φ) :: (cell q (cDic K A kvs) :: R)))) (hΦ : FlatPF (LDic K A kvs) Φ) (hfin : ∀ (I : Hp) (fs : List (Str × V)), FsOk I fs Φ → (tDic K A).rep I (.ref q) kvs → FsTys I fs ns Tt d)
    (h : EN X e Γ' L1 s ψ xt mm) (hns : Φ.map (·.1) = ns := by rfl) : EN X e Γ L s ψ xt' mm.nox := fun I σ F H Q fr th => by
  obtain ⟨ws, ho, k⟩ := lend_frameI (d := d) hs hp hΦ hfin hns fr
  refine PE_to (pe_lock pe_w) ⟨q, K.holds ws, ho, K.mu ws, fun od => ?_⟩
  obtain ⟨I1, E, e0, fr1, back⟩ := k od
  refine h _ σ E _ _ fr1 ?_
  cases mm with
  | stuck => exact th
  | exn x => exact False.elim th
  | val p =>
    intro I' r H' e2 fr2
    obtain ⟨l2, lp, hH, m1, m2⟩ := back I' (cell r (ψ p.1) :: L1 p.2) H' e2 (fpl_cons (hC _ _) (hfl _)) (fpl_cons (hC2 _ _) (hfl2 _)) fr2.sep
    exact ⟨hH, th _ r _ m1 ⟨Sep.perm m2 ((back_permI (hp p.2)).cons _), fr.len, fr.sl.mono m1⟩⟩
theorem tf_lendI {kvs : List (κ × α)} {d : σt} {mm : Res ε (Bool × γ)} {Γ' : List Slot} (hfl : ∀ s, ∀ c ∈ L1 s, FlatPC (LDic K A kvs) c) (hfl2 : ∀ s, ∀ c ∈ L1 s, FlatPC (LIns Cl ns Tt d) c) (hs : SlotAs (tObj Cl ns Tt) d qa Γ Γ')
    (hp : ∀ s, (L s).Perm (L1 s ++ (cell qa (cIns Cl Φ) :: (cell q (cDic K A kvs) :: R)))) (hΦ : FlatPF (LDic K A kvs) Φ) (hfin : ∀ (I : Hp) (fs : List (Str × V)), FsOk I fs Φ → (tDic K A).rep I (.ref q) kvs → FsTys I fs ns Tt d)
    (h : TF X e Γ' L1 s xt mm) (hns : Φ.map (·.1) = ns := by rfl) : TF X e Γ L s xt' mm.nox := fun I σ F H Q fr th => by
  obtain ⟨ws, ho, k⟩ := lend_frameI (d := d) hs hp hΦ hfin hns fr
  refine PT_to (pt_lockT pt_w) ⟨q, K.holds ws, ho, K.mu ws, fun od => ?_⟩
  obtain ⟨I1, E, e0, fr1, back⟩ := k od
  refine h _ σ E _ _ fr1 ?_
  cases mm with
  | stuck => exact th
  | exn x => exact False.elim th
  | val p =>
    intro I' H' e2 fr2
    obtain ⟨l2, lp, hH, m1, m2⟩ := back I' (L1 p.2) H' e2 (hfl _) (hfl2 _) fr2.sep
    exact ⟨hH, th _ _ m1 ⟨m2.perm (back_permI (hp p.2)), fr.len, fr.sl.mono m1⟩⟩
end
end Fw


namespace Fw
open PySem L2
/-! ## 165. new things of more than one object -/
section
variable {α β γ : Type}
def rtM (ψ : α → Addr → List Rg) (L : γ → List Rg) : RT (α × γ) := ⟨fun _ _ v => ∃ q, v = .ref q, fun p v => match v with | .ref q => ψ p.1 q ++ L p.2 | _ => L p.2⟩
end
section
variable {X : Cx} {N : List Str} {sc : Scope} {own : Str → Bool} {κ α β γ γ' δ ε ε' ρ ν ν' τ ι : Type} [DecidableEq κ] {A : Ty α} {B : Ty β} {C : Ty δ} {T : ι → Tys τ} {e : Expr} {es : List Expr} {ss : List Stmt} {x : Str} {pos p : Pos} {Γ gx : List Slot} {L L1 : γ → List Rg} {L' : ι → γ' → List Rg} {s : γ} {xt : XT ε} {xt' : XT ε'} {R : List Rg} {q qa Cl f : Addr} {K : Kt κ} {P : LP} {CX : CXT} {k : Nat} {fd : FuncData} {ps : List Str}
  {gn : ν → List Slot} {ln : ν → List Rg} {rt : RT ρ}
def ThenM (X : Cx) (I : Hp) (F : List Rg) (σ : St) (Γ : List Slot) (L : γ → List Rg) (ψ : α → Addr → List Rg) (xt : XT ε) (Q : VK) : Res ε (α × γ) → Prop
  | .stuck => False
  | .val p => ∀ I' q H', Same I I' → FrOk I' σ Γ (ψ p.1 q ++ (L p.2 ++ F)) H' → Q (.ref q) H'
  | .exn x => ∀ I' H' c da, Same I I' → FrOk I' σ Γ (xt.regs x ++ F) H' → xt.rep I' x c da → wX X c da σ H'
/-- e gives a new thing that is one's own, and lies as ψ tells -/
def EM (X : Cx) (e : Expr) (Γ : List Slot) (L : γ → List Rg) (s : γ) (ψ : α → Addr → List Rg) (xt : XT ε) (m : Res ε (α × γ)) : Prop :=
  ∀ (I : Hp) (σ : St) (F : List Rg) (H : Hp) (Q : VK), FrOk I σ Γ (L s ++ F) H → ThenM X I F σ Γ L ψ xt Q m → wE X e σ H Q
theorem em_n {φ : α → CP} {m : Res ε (α × γ)} (h : EN X e Γ L s φ xt m) : EM X e Γ L s (fun d r => [cell r (φ d)]) xt m := fun I σ F H Q fr th => h I σ F H Q fr (by cases m <;> exact th)
/-- a def hands back such a thing -/
theorem em_call {ψ : δ → Addr → List Rg} {g : τ → γ' → Res ε (δ × γ')} {m : Res ε (τ × γ)} (i : ι) (get : γ → γ') (put : γ → γ' → γ) (R : γ → List Rg) (cx : Cxt X N sc own) (F : FnOk X.prog X.w X.K X.mg X.base CX k f fd ps (spec T L' (fun i => rtM ψ (L' i)) (fun _ => xt) g)) (hr : Room k X.A) (hm : X.mg x = some (.ref f)) (hk : PySem.W.keepIn X.K (.ref f) = true) (hb : Binds X.K fd ps []) (pw : PassW CX X)
    (ha : AF X (e :: es) Γ L s (T i) xt m) (hp : ∀ s u, (L (put s u)).Perm (L' i u ++ R s)) (hgp : ∀ s, put s (get s) = s) (hx : ∀ x, xt.regs x = [])
    (hg : glB sc x = true := by decide +kernel) (he : starEach (e :: es) X.env = (false, eval e X.env) :: starEach es X.env := by exact star_c rfl) (hpl : (backTo pos (starEach es X.env)).any (·.1) = false := by rfl) :
    EM X (.Call (.Name x p) (e :: es) [] pos) Γ L s ψ xt (m.bnd fun t s1 => (g t (get s1)).lift (put s1)) := fun I σ F' H Q fr th => by
  obtain ⟨h1, h2, h3⟩ := glB_gl cx hg
  refine PE_to (pe_callS F hr h1 hm hk hb pw pa_w h2 he hpl) ?_
  refine ha I σ F' H _ fr ?_
  cases m with
  | stuck => exact th
  | exn x => exact th
  | val mp =>
    obtain ⟨t, s1⟩ := mp
    intro I1 vs H1 e1 fr1 rv
    have pm : (L s1 ++ F').Perm (L' i (get s1) ++ (R s1 ++ F')) := by
      have q := hp s1 (get s1)
      rw [hgp] at q
      rw [← List.append_assoc]
      exact q.append_right F'
    refine ⟨i, I1, R s1 ++ F', t, get s1, fr1.sep.perm pm, rv, ?_⟩
    dsimp only [Res.bnd] at th
    cases hg : g t (get s1) with
    | stuck => rw [hg] at th; exact th
    | exn x =>
      rw [hg] at th
      intro I2 H2 c da e2 se2 r2
      refine th I2 H2 c da (e1.trans e2) (fr1.step e2 ?_) r2
      rw [hx] at se2 ⊢
      have se2 : Sep I2 (R s1 ++ F') H2 := se2
      exact sep_drop (R s1) se2
    | val q =>
      rw [hg] at th
      intro I2 v H2 e2 se2 ⟨r, r2⟩
      subst r2
      refine th I2 r H2 (e1.trans e2) (fr1.step e2 ?_)
      have q2 := hp s1 q.2
      refine Sep.perm se2 ?_
      show (ψ q.1 r ++ L' i q.2 ++ (R s1 ++ F')).Perm (ψ q.1 r ++ (L (put s1 q.2) ++ F'))
      rw [List.append_assoc]
      refine List.Perm.append_left _ ?_
      rw [← List.append_assoc]
      exact q2.symm.append_right F'
theorem em_call0 {ψ : δ → Addr → List Rg} {T : Tys τ} {g : τ → Unit → Res ε (δ × Unit)} {m : Res ε (τ × γ)} (cx : Cxt X N sc own) (F : FnOk X.prog X.w X.K X.mg X.base CX k f fd ps (spec (fun _ : Unit => T) (fun _ _ => []) (fun _ => rtM ψ (fun _ => [])) (fun _ => xt) g)) (hr : Room k X.A) (hm : X.mg x = some (.ref f)) (hk : PySem.W.keepIn X.K (.ref f) = true) (hb : Binds X.K fd ps []) (pw : PassW CX X)
    (ha : AF X (e :: es) Γ L s T xt m) (hx : ∀ x, xt.regs x = [])
    (hg : glB sc x = true := by decide +kernel) (he : starEach (e :: es) X.env = (false, eval e X.env) :: starEach es X.env := by exact star_c rfl) (hpl : (backTo pos (starEach es X.env)).any (·.1) = false := by rfl) :
    EM X (.Call (.Name x p) (e :: es) [] pos) Γ L s ψ xt (m.bnd fun t s1 => (g t ()).up s1) := by
  have h := em_call (L' := fun _ _ => []) (T := fun _ => T) (γ' := Unit) (pos := pos) (p := p) () (fun _ => ()) (fun s _ => s) L cx F hr hm hk hb pw ha (fun s u => .refl _) (fun _ => rfl) hx hg he hpl
  have q : (fun (t : τ) (s1 : γ) => (g t ()).lift (fun _ => s1)) = fun t s1 => (g t ()).up s1 := by
    funext t s1
    cases g t () <;> rfl
  rw [q] at h
  exact h
/-- .. reads an own dict, which isn't empty -/
theorem em_lendD {kvs : List (κ × α)} {ψ : β → Addr → List Rg} {mm : Res ε (β × γ)} {Γ' : List Slot} (hC : kvs ≠ [] → ∀ d r, ∀ c ∈ ψ d r, FlatPC (LDic K A kvs) c) (hfl : ∀ s, ∀ c ∈ L1 s, FlatPC (LDic K A kvs) c) (hs : SlotAs (tDic K A) kvs q Γ Γ') (hp : ∀ s, (L s).Perm (L1 s ++ (cell q (cDic K A kvs) :: R)))
    (h : EM X e Γ' L1 s ψ xt mm) : EM X e Γ L s ψ xt' (if List.length kvs = 0 then .stuck else mm.nox) := fun I σ F H Q fr th => by
  by_cases hk : List.length kvs = 0
  · rw [if_pos hk] at th; exact False.elim th
  · rw [if_neg hk] at th
    have hne : kvs ≠ [] := fun z => hk (by rw [z]; rfl)
    obtain ⟨ws, ho, k⟩ := lend_frameD hs hp fr
    refine PE_to (pe_lock pe_w) ⟨q, K.holds ws, ho, K.mu ws, fun od => ?_⟩
    obtain ⟨E, fr1, back⟩ := k od
    refine h _ σ E _ _ fr1 ?_
    cases mm with
    | stuck => exact th
    | exn x => exact False.elim th
    | val p =>
      intro I' r H' e2 fr2
      have se2 : Sep I' ((ψ p.1 r ++ L1 p.2) ++ E) H' := by rw [List.append_assoc]; exact fr2.sep
      obtain ⟨lp, hH, m1, m2⟩ := back I' (ψ p.1 r ++ L1 p.2) H' e2 (fun c hc => by
        rcases List.mem_append.mp hc with hc | hc
        · exact hC hne _ _ c hc
        · exact hfl _ c hc) se2
      refine ⟨hH, th (minus I' q) r _ m1 ⟨?_, fr.len, fr.sl.mono m1⟩⟩
      refine m2.perm ?_
      rw [List.append_assoc]
      exact (back_perm (hp p.2)).append_left _
theorem SThen.bndM {ψ : α → Addr → List Rg} {I : Hp} {F : List Rg} {σ : St} {H : Hp} {D : Ends} {Q : VK} {m : Res ε (α × γ)} {k : α → γ → Out ε ρ ν} (ha : EM X e Γ L s ψ xt m) (wk : Wk Γ gx) (fr : FrOk I σ Γ (L s ++ F) H) (th : SThen X I F gn ln rt xt gx D (Out.bnd m k))
    (h : ∀ (I' : Hp) (q : Addr) (H' : Hp) (d : α) (s' : γ), Same I I' → FrOk I' σ Γ (ψ d q ++ (L s' ++ F)) H' → SThen X I' F gn ln rt xt gx D (k d s') → Q (.ref q) H') : wE X e σ H Q := by
  refine ha I σ F H _ fr ?_
  cases m with
  | stuck => exact th
  | exn x => exact fun I' H' c da e1 fr1 r => th I' σ H' c da e1 fr1.sep (fr1.sl.wk wk) r
  | val p => exact fun I' q H' e1 fr1 => h I' q H' p.1 p.2 e1 fr1 (sthen_up e1 th)
/-- x = such a thing -/
theorem sf_asgM {ψ : α → Addr → List Rg} {m : Res ε (α × γ)} {k : α → γ → Out ε ρ ν} (cx : Cxt X N sc own) (i : Nat) (h : EM X e Γ L s ψ xt m) (hr : ∀ q d s', SF X ss (Γ.set i (.dat (tCell q) ())) (ψ d q ++ L s') gn ln rt xt gx (k d s')) (hi : N[i]? = some x := by rfl) (ho : own x = true := by decide +kernel) (wk : Wk Γ gx := by first | exact Wk.nil | exact Wk.rfl)
    (hs : swapsWith e (some (.Name x p)) pos.line X.env = pure false := by rfl) : SF X (.Assign [.Name x p] e pos :: ss) Γ (L s) gn ln rt xt gx (Out.bnd m k) := fun I σ F H D fr th => by
  obtain ⟨h1, h2⟩ := cx.st x ho
  refine PSs_to (pss_cons (ps_set (by rw [cx.hN]; exact cx.nd) (by rw [cx.hN]; exact hi) h1 pe_w hs h2) pss_w) ?_
  refine SThen.bndM h wk fr th fun I1 q H1 d s1 e1 fr1 th1 => ?_
  have fr2 := fr1.set (A := tCell q) (d := ()) rfl i
  exact hr q d s1 I1 _ F H1 D ⟨by rw [List.append_assoc]; exact fr2.sep, fr2.len, fr2.sl⟩ th1
/-- return such a thing -/
theorem sf_retM {ψ : α → Addr → List Rg} {Lr : γ → List Rg} {m : Res ε (α × γ)} (h : EM X e Γ L s ψ xt m) (q : ∀ s', Sub (L s') (Lr s')) (wk : Wk Γ gx := by first | exact Wk.nil | exact Wk.rfl) : SF X (.Return (some e) pos :: ss) Γ (L s) gn ln (rtM ψ Lr) xt gx (Out.bnd m fun d s' => .ret (d, s')) := fun I σ F H D fr th => by
  refine PSs_to (pss_cons (ps_ret pe_w) pss_w) ?_
  show wE X e σ H D.rt
  refine SThen.bndM h wk fr th fun I1 qa H1 d s1 e1 fr1 th1 => th1 I1 _ H1 (Same.refl _) ?_ ⟨qa, rfl⟩
  have sub : ∀ (Y : List Rg) {L2 L3 : List Rg}, Sub L2 L3 → Sub (Y ++ L2) (Y ++ L3) := fun Y => by
    induction Y with
    | nil => exact fun h => h
    | cons c Y ih => exact fun h => (ih h).keep
  have := sub (ψ d qa) (q s1) I1 F H1 (by rw [List.append_assoc]; exact fr1.sep)
  exact this
/-- return x, x such a thing of the frame -/
theorem sf_retMC {ψ : α → Addr → List Rg} {Lr : γ → List Rg} {d : α} (h : EP X e Γ (L s) (tCell qa) ()) (q : Sub (L s) (ψ d qa ++ Lr s)) : SF X (.Return (some e) pos :: ss) Γ (L s) gn ln (rtM ψ Lr) xt gx (.ret (d, s)) := fun I σ F H D fr th => by
  refine PSs_to (pss_cons (ps_ret pe_w) pss_w) ?_
  show wE X e σ H D.rt
  refine h.run fr fun I1 v H1 e1 fr1 r => ?_
  have r : v = .ref qa := r
  subst r
  exact th I1 _ H1 e1 (q I1 F H1 fr1.sep) ⟨qa, rfl⟩
/-! ### dicts whose things are told apart by what they hold -/
def Clash (A : Ty α) (B : Ty β) : Prop := ∀ (I : Hp) (v : V) (a : α) (b : β), A.rep I v a → B.rep I v b → False
theorem holds_val {ws ws' : List (κ × V)} (h : K.holds ws = K.holds ws') {i : Nat} {w : κ × V} (e : ws[i]? = some w) : ∃ w' : κ × V, ws'[i]? = some w' ∧ w'.2 = w.2 := by
  rcases K.yld with y | y
  · obtain ⟨ks, h1, l1, a1⟩ := y ws
    obtain ⟨ks', h2, l2, a2⟩ := y ws'
    rw [h1, h2] at h
    injection h with h
    subst h
    have hi := (List.getElem?_eq_some_iff.mp e).1
    have hk : ks[i]? = some (ks[i]'(by omega)) := List.getElem?_eq_getElem (by omega)
    obtain ⟨k1, g1⟩ := a1 i _ _ hk
    obtain ⟨k2, g2⟩ := a2 i _ _ hk
    rw [e] at g1
    have := Option.some.inj g1.1
    exact ⟨_, g2.1, by rw [this]⟩
  · obtain ⟨ks, h1, l1, a1⟩ := y ws
    obtain ⟨ks', h2, l2, a2⟩ := y ws'
    rw [h1, h2] at h
    injection h with h
    subst h
    have hi := (List.getElem?_eq_some_iff.mp e).1
    have hk : ks[i]? = some (ks[i]'(by omega)) := List.getElem?_eq_getElem (by omega)
    obtain ⟨k1, g1⟩ := a1 i _ _ hk
    obtain ⟨k2, g2⟩ := a2 i _ _ hk
    rw [e] at g1
    have := Option.some.inj g1.1
    exact ⟨_, g2.1, by rw [this]⟩
theorem paired_first {R : α → β → Prop} {xs : List α} {ys : List β} (h : Paired R xs ys) (hne : ys ≠ []) : ∃ x y, xs[0]? = some x ∧ ys[0]? = some y ∧ R x y := by
  cases h with
  | nil => exact absurd rfl hne
  | cons r _ => exact ⟨_, _, rfl, rfl, r⟩
theorem paired_at0 {R : α → β → Prop} {xs : List α} {ys : List β} {x : α} (h : Paired R xs ys) (e : xs[0]? = some x) : ∃ y, R x y := by
  cases h with
  | nil => cases e
  | cons r _ => cases e; exact ⟨_, r⟩
/-- another dict, its things unlike -/
theorem fp_dic {kvs : List (κ × α)} (hne : kvs ≠ []) (hc : Clash A B) (hB : FlatP (LDic K A kvs) B) : FlatP (LDic K A kvs) (tDic K B) := fun I q v d l ⟨p, o, ws, e, a, pd⟩ => by
  have l0 := l
  obtain ⟨od, ws0, eq, pd0⟩ := l
  have hpq : p ≠ q := fun z => by
    subst z
    rw [eq] at a
    injection a with a
    injection a with _ a
    obtain ⟨w, y, g1, g2, _, r1⟩ := paired_first pd0 hne
    obtain ⟨w', g3, g4⟩ := holds_val a g1
    obtain ⟨y', _, r2⟩ := paired_at0 pd g3
    rw [g4] at r2
    exact hc I w.2 _ _ r1 r2
  exact ⟨p, o, ws, e, by rw [minus_ne hpq]; exact a, pd.flatP hB l0⟩
/-- an instance, where what is lent is a dict -/
theorem fp_objD {σt : Type} {Tt : Tys σt} {ns : List Str} {kvs : List (κ × α)} (h : FlatPs (LDic K A kvs) Tt) : FlatP (LDic K A kvs) (tObj Cl ns Tt) := fun I q v d l ⟨p, dx, fs, vs, a, b, c, e⟩ => by
  have l0 := l
  obtain ⟨od, ws0, eq, pd0⟩ := l
  have hpq : p ≠ q := fun z => by
    subst z
    rw [eq] at b
    cases b
  exact ⟨p, dx, fs, vs, a, by rw [minus_ne hpq]; exact b, h I q vs d l0 c, e⟩
/-- a tuple whose first thing is a list, or a tuple of ints -/
theorem clash_tup_ints {τ : Type} {T : Tys τ} : Clash (tTup (Tys.cons (tLst A) T)) (tTuL tInt) := fun I v a b ⟨p, vs, e, h1, x, xs, e2, ⟨r, us, e3, _⟩, _⟩ ⟨p', vs', e', h1', pr⟩ => by
  rw [e] at e'
  injection e' with e'
  subst e'
  rw [h1] at h1'
  injection h1' with h1'
  injection h1' with h1'
  subst h1'
  subst e2
  cases pr with
  | cons r1 _ =>
    rw [e3] at r1
    exact nomatch (show V.ref r = V.int _ from r1)
/-- the last item of a list that is then forgotten, of whatever form -/
theorem sf_appGone {m : Res ε (β × γ)} {xs : γ → List α} {R : γ → List Rg} {k : β → γ → Out ε ρ ν} {a : Expr} {apos : Pos} (ha : EP X a Γ (L s) (tCell q) ()) (he : EF X e Γ L s B xt m) (hL : ∀ s, (L s).Perm (cell q (cLst A (xs s)) :: R s))
    (hr : ∀ d s, SF X ss Γ (R s) gn ln rt xt gx (k d s)) (wk : Wk Γ gx := by first | exact Wk.nil | exact Wk.rfl)
    (hbase : attributeBase a "append" X.env (eval a X.env) = eval a X.env := by rfl)
    (hfew : ((backTo p (starEach (e :: []) X.env)).all (fun x => !x.1) && (backToKw p (keywordEach [] X.env)).all (fun x => x.1.isSome)
      && decide ((e :: []).length + ([] : List Keyword).length + (if ([] : List Keyword).isEmpty then 0 else 1) < 30)) = true := by rfl)
    (hline : (apos.endLine == p.line) = true := by rfl) (hs : starEach (e :: []) X.env = (false, eval e X.env) :: starEach [] X.env := by exact star_c rfl) (hplain : (backTo p (starEach [] X.env)).any (·.1) = false := by rfl)
    (hsw : swapsWith (.Call (.Attribute a "append" apos) [e] [] p) none pos.line X.env = pure false := by rfl) :
    SF X (.Expr (.Call (.Attribute a "append" apos) [e] [] p) pos :: ss) Γ (L s) gn ln rt xt gx (Out.bnd m fun d s' => if (xs s').length < sizeLine then k d s' else .stuck) := fun I σ F H D fr th => by
  refine PSs_to (pss_cons (ps_expr (pe_bm PySem.F.plainAttrs_list PySem.F.slot_list_append PySem.F.type_list_append mt_append pe_w (pa_cons pe_w pa_nil hs) hbase hfew hline hs hplain) hsw) pss_w) ?_
  refine ha.run fr fun I0 va H0 e0 fr0 ra => ?_
  cases ra
  have se0 : Sep I0 (cell q (cLst A (xs s)) :: (R s ++ F)) H0 := fr0.sep.perm ((hL s).append_right F)
  obtain ⟨o0, ho0, ⟨vs0, rfl, hv0⟩, _⟩ := se0.get
  refine ⟨.inl ⟨rfl, vs0, .of ho0⟩, ?_⟩
  refine SThen.bnd he wk fr0 (sthen_up e0 th) fun I1 v H1 d s1 e1 fr1 r th1 => ?_
  have se : Sep I1 (cell q (cLst A (xs s1)) :: (R s1 ++ F)) H1 := fr1.sep.perm ((hL s1).append_right F)
  obtain ⟨o, ho, ⟨vs, rfl, hv⟩, _⟩ := se.get
  by_cases hz : (xs s1).length < sizeLine
  · rw [if_pos hz] at th1
    have se2 : Sep I1 (cell q ⟨fun _ o => ∃ vs, o = HO.lst vs, fun _ h => h, fun ⟨vs, h⟩ ys z => by rw [h] at z; cases z⟩ :: (R s1 ++ F)) (upd H1 q (.lst (vs ++ [v]))) := se.put ⟨_, rfl⟩
    exact ⟨q, vs, v, rfl, rfl, ho, by rw [paired_len hv]; exact hz, hr d s1 I1 σ F _ D (fr1.step (Same.refl _) se2.tail) th1⟩
  · rw [if_neg hz] at th1
    exact th1.elim
/-- how many an own dict holds -/
theorem ep_lenDO {a : Expr} {L0 : List Rg} {kvs : List (κ × α)} (cx : Cxt X N sc own) (hk : ∀ ws : List (κ × V), ∃ ks : List (Key × V), K.holds ws = .dK ks ∧ ks.length = ws.length) (hm : X.mg "len" = none) (ha : EP X a Γ L0 (tCell q) ()) (hL : Has L0 q (cDic K A kvs)) (hg : glB sc "len" = true := by decide +kernel) (hs : starEach [a] X.env = (false, eval a X.env) :: starEach [] X.env := by exact star_c rfl) : EP X (.Call (.Name "len" p) [a] [] pos) Γ L0 tInt (kvs.length : Int) := fun I σ F H Q fr th => by
  obtain ⟨h1, h2, h3⟩ := glB_gl cx hg
  refine PE_to (pe_callB call_lenD h1 hm boot_len (pa_cons pe_w pa_nil hs) h3 h2 hs rfl) ?_
  refine ha.run fr fun I1 v H1 e1 fr1 rv => ?_
  cases rv
  obtain ⟨o, ho, ⟨ws, rfl, pd⟩, _⟩ := hL.get fr1.sep
  obtain ⟨ks, e, l⟩ := hk ws
  rw [e] at ho
  exact ⟨q, ks, rfl, ho, th I1 _ H1 e1 fr1 (by rw [l, pd.len]; rfl)⟩
theorem hk_tx : ∀ ws : List (Tx × V), ∃ ks : List (Key × V), ktTx.holds ws = .dK ks ∧ ks.length = ws.length := fun ws => ⟨_, rfl, by simp⟩
theorem hk_int : ∀ ws : List (Int × V), ∃ ks : List (Key × V), ktInt.holds ws = .dK ks ∧ ks.length = ws.length := fun ws => ⟨_, rfl, by simp⟩
/-- return, an own state forgotten -/
theorem sf_retS {Lr : Unit → List Rg} {m : Res ε (α × γ)} (h : EF X e Γ L s A xt m) (q : ∀ s', Sub (L s') (Lr ())) (wk : Wk Γ gx := by first | exact Wk.nil | exact Wk.rfl) : SF X (.Return (some e) pos :: ss) Γ (L s) gn ln (rtV A Lr) xt gx (Out.bnd m fun d _ => .ret (d, ())) := fun I σ F H D fr th => by
  refine PSs_to (pss_cons (ps_ret pe_w) pss_w) ?_
  show wE X e σ H D.rt
  exact SThen.bnd h wk fr th fun I1 v H1 d s1 e1 fr1 r th1 => th1 I1 v H1 (Same.refl _) (q s1 I1 F H1 fr1.sep) r
/-! ### lists of two own things -/
/-- x[b], x a list of unlike things, b's value known -/
theorem ep_ixLTupE {σt : Type} {t : σt} {Tt : Tys σt} {a b : Expr} {L0 : List Rg} {d : α} (h : EP X a Γ L0 (tLTup Tt) t) (j : Nat) (hb : EP X b Γ L0 tInt (j : Int)) (hj : (Tt.slots t)[j]? = some (.dat A d) := by rfl) (hs : PlainIx b := by exact fun _ _ => rfl) : EP X (.Subscript a b pos) Γ L0 A d := fun I σ F H Q fr th => by
  refine PE_to (pe_ix ix_list pe_w pe_w hs) ?_
  refine h.run fr fun I1 v H1 e1 fr1 rv => ?_
  obtain ⟨p, vs, rfl, hp, r⟩ := rv
  refine hb.run fr1 fun I2 v2 H2 e2 fr2 rv2 => ?_
  cases (show v2 = .int (j : Int) from rv2)
  obtain ⟨w, hw, rw⟩ := Tt.ok (Tt.mono e2 r) j _ hj
  refine ⟨p, vs, (j : Int), w, rfl, rfl, .of (fr2.sep.same _ _ (e2 _ _ hp)), ?_, th I2 w H2 (e1.trans e2) fr2 rw⟩
  have hlt : j < vs.length := (List.getElem?_eq_some_iff.mp hw).1
  show atI vs (j : Int) = some w
  unfold atI ixN
  rw [if_pos (by omega), if_pos (by omega)]
  exact hw
/-- [e1, e2], both new own things -/
theorem sf_asgOutsM {i : Nat} {a b : Expr} {cpos : Pos} {ψ1 : α → Addr → List Rg} {ψ2 : β → Addr → List Rg} {m1 : Res ε (α × γ)} {m2 : α → γ → Res ε (β × γ)} {kk : α → β → γ → Out ε ρ ν} (cx : Cxt X N sc own) (h1 : EM X a Γ L s ψ1 xt m1) (h2 : ∀ q d s, EM X b Γ (fun s => ψ1 d q ++ L s) s ψ2 xt (m2 d s))
    (hr : ∀ q1 q2 d1 d2 s', SF X ss (Γ.set i (.dat (tLTup (Tys2 (tCell q1) (tCell q2))) ((), (), ()))) (ψ2 d2 q2 ++ (ψ1 d1 q1 ++ L s')) gn ln rt xt gx (kk d1 d2 s')) (hi : N[i]? = some x := by rfl) (ho : own x = true := by decide +kernel) (wk : Wk Γ gx := by first | exact Wk.nil | exact Wk.rfl)
    (hst : starEach [a, b] X.env = (false, eval a X.env) :: starEach [b] X.env := by exact star_c rfl) (hst2 : starEach [b] X.env = (false, eval b X.env) :: starEach [] X.env := by exact star_c rfl)
    (hs : swapsWith (.List [a, b] cpos) (some (.Name x p)) pos.line X.env = pure false := by rfl) : SF X (.Assign [.Name x p] (.List [a, b] cpos) pos :: ss) Γ (L s) gn ln rt xt gx (Out.bnd m1 fun d1 s1 => Out.bnd (m2 d1 s1) fun d2 s2 => kk d1 d2 s2) := fun I σ F H D fr th => by
  obtain ⟨n1, n2⟩ := cx.st x ho
  refine PSs_to (pss_cons (ps_set (by rw [cx.hN]; exact cx.nd) (by rw [cx.hN]; exact hi) n1 (pe_lst (pa_cons pe_w (pa_cons pe_w pa_nil hst2) hst)) hs n2) pss_w) ?_
  refine SThen.bndM h1 wk fr th fun I1 q1 H1 d1 s1 e1 fr1 th1 => ?_
  refine (h2 q1 d1 s1) I1 σ F H1 _ ⟨by rw [List.append_assoc]; exact fr1.sep, fr1.len, fr1.sl⟩ ?_
  cases hm : m2 d1 s1 with
  | stuck => rw [hm] at th1; exact th1
  | exn y =>
    rw [hm] at th1
    exact fun I' H' c da e2 fr2 r => th1 I' σ H' c da e2 fr2.sep (fr2.sl.wk wk) r
  | val pr =>
    rw [hm] at th1
    intro I2 q2 H2 e2 fr2
    refine ⟨by show 2 ≤ sizeLine; decide, fun q3 hq3 => ?_⟩
    have e3 : Same I2 (upd I2 q3 (.lst [.ref q1, .ref q2])) := Same.upd (fr2.sep.same.free hq3)
    have fr3 := fr2.step e3 (fr2.sep.imm (o := .lst [.ref q1, .ref q2]) hq3)
    have fr4 := FrOk.set fr3 (A := tLTup (Tys2 (tCell q1) (tCell q2))) (d := ((), (), ())) ⟨q3, _, rfl, upd_same, _, _, rfl, rfl, _, _, rfl, rfl, rfl⟩ i
    refine hr q1 q2 d1 pr.1 pr.2 _ _ F _ D ⟨?_, fr4.len, fr4.sl⟩ (sthen_up (e2.trans e3) th1)
    have se := fr4.sep
    rw [List.append_assoc] at se
    rw [List.append_assoc, List.append_assoc]
    exact se
/-- what an own instance is, as its __init__ leaves it -/
theorem em_make {σo : Type} {fi : Addr} {T0 : Tys τ} {W : Addr → σo → List Rg} {g : (Unit × τ) → Unit → Res ε (Unit × σo)} {mm : Res ε (τ × γ)} (cx : Cxt X N sc own) (M : Mk X.K Cl fi)
    (F : FnOk X.prog X.w X.K X.mg X.base CX k fi fd ps (spec (fun a : Addr => Tys.cons (tCell a) T0) (fun a _ => [cell a (cIns Cl [])]) (fun a => rtV tNone (W a)) (fun _ => xt) g))
    (hr : Room (k + 1) X.A) (hm : X.mg x = some (.ref Cl)) (hb : Binds X.K fd ps []) (pw : PassW CX X) (ha : AF X (e :: es) Γ L s T0 xt mm) (hx : ∀ x, xt.regs x = [])
    (hg : glB sc x = true := by decide +kernel) (he : starEach (e :: es) X.env = (false, eval e X.env) :: starEach es X.env := by exact star_c rfl) (hpl : (backTo pos (starEach es X.env)).any (·.1) = false := by rfl) :
    EM X (.Call (.Name x p) (e :: es) [] pos) Γ L s (fun d a => W a d) xt (mm.bnd fun t s1 => (g ((), t) ()).mk s1) := fun I σ F' H Q fr th => by
  obtain ⟨h1, h2, h3⟩ := glB_gl cx hg
  refine PE_to (pe_makeX M F hr h1 hm hb pw pa_w h2 he hpl) ?_
  refine ha I σ F' H _ fr ?_
  cases mm with
  | stuck => exact th
  | exn y => exact th
  | val mp =>
    obtain ⟨t, s1⟩ := mp
    intro I1 vs H1 e1 fr1 rv
    dsimp only [Res.bnd] at th
    intro xa dx hxa hdx hne
    have i1 : I1 dx = none := fr1.sep.same.free hdx
    have se1 : Sep (upd I1 dx (.own xa)) (L s1 ++ F') (upd H1 dx (.own xa)) := fr1.sep.imm hdx
    have hxa2 : upd H1 dx (.own xa) xa = none := by rw [upd_ne (fun z => hne z.symm)]; exact hxa
    have se2 : Sep (upd I1 dx (.own xa)) (cell xa (cIns Cl []) :: (L s1 ++ F')) (upd (upd H1 dx (.own xa)) xa (.ins Cl dx [])) := se1.new hxa2 ⟨dx, [], rfl, fun i f {α} A d q => by simp at q, fun f _ => rfl, Nat.le_refl _⟩
    refine ⟨xa, upd I1 dx (.own xa), L s1 ++ F', ((), t), (), se2, ⟨_, _, rfl, rfl, T0.mono (Same.upd i1) rv⟩, ?_⟩
    cases hgv : g ((), t) () with
    | stuck => rw [hgv] at th; exact th
    | exn y =>
      rw [hgv] at th
      intro I2 H2 c da e2 se3 r2
      refine th I2 H2 c da (e1.trans ((Same.upd i1).trans e2)) ⟨?_, fr1.len, (fr1.sl.mono (Same.upd i1)).mono e2⟩ r2
      rw [hx] at se3 ⊢
      exact sep_drop (L s1) se3
    | val pr =>
      rw [hgv] at th
      intro I2 v H2 e2 se3 r2
      cases (show v = .non from r2)
      exact ⟨rfl, th I2 xa H2 (e1.trans ((Same.upd i1).trans e2)) ⟨se3, fr1.len, (fr1.sl.mono (Same.upd i1)).mono e2⟩⟩
theorem em_make0 {σo : Type} {fi : Addr} {W : Addr → σo → List Rg} {g : (Unit × Unit) → Unit → Res ε (Unit × σo)} (cx : Cxt X N sc own) (M : Mk X.K Cl fi)
    (F : FnOk X.prog X.w X.K X.mg X.base CX k fi fd ps (spec (fun a : Addr => Tys.cons (tCell a) Tys.nil) (fun a _ => [cell a (cIns Cl [])]) (fun a => rtV tNone (W a)) (fun _ => xt) g))
    (hr : Room (k + 1) X.A) (hm : X.mg x = some (.ref Cl)) (hb : Binds X.K fd ps []) (pw : PassW CX X) (hx : ∀ x, xt.regs x = []) (hg : glB sc x = true := by decide +kernel) :
    EM X (.Call (.Name x p) [] [] pos) Γ L s (fun d a => W a d) xt ((g ((), ()) ()).mk s) := fun I σ F' H Q fr th => by
  obtain ⟨h1, h2, h3⟩ := glB_gl cx hg
  refine PE_to (pe_makeX0 M F hr h1 hm hb pw h2) ?_
  intro xa dx hxa hdx hne
  have i1 : I dx = none := fr.sep.same.free hdx
  have se1 : Sep (upd I dx (.own xa)) (L s ++ F') (upd H dx (.own xa)) := fr.sep.imm hdx
  have hxa2 : upd H dx (.own xa) xa = none := by rw [upd_ne (fun z => hne z.symm)]; exact hxa
  have se2 : Sep (upd I dx (.own xa)) (cell xa (cIns Cl []) :: (L s ++ F')) (upd (upd H dx (.own xa)) xa (.ins Cl dx [])) := se1.new hxa2 ⟨dx, [], rfl, fun i f {α} A d q => by simp at q, fun f _ => rfl, Nat.le_refl _⟩
  refine ⟨xa, upd I dx (.own xa), L s ++ F', ((), ()), (), se2, ⟨_, _, rfl, rfl, rfl⟩, ?_⟩
  cases hgv : g ((), ()) () with
  | stuck => rw [hgv] at th; exact th
  | exn y =>
    rw [hgv] at th
    intro I2 H2 c da e2 se3 r2
    refine th I2 H2 c da ((Same.upd i1).trans e2) ⟨?_, fr.len, (fr.sl.mono (Same.upd i1)).mono e2⟩ r2
    rw [hx] at se3 ⊢
    exact sep_drop (L s) se3
  | val pr =>
    rw [hgv] at th
    intro I2 v H2 e2 se3 r2
    cases (show v = .non from r2)
    exact ⟨rfl, th I2 xa H2 ((Same.upd i1).trans e2) ⟨se3, fr.len, (fr.sl.mono (Same.upd i1)).mono e2⟩⟩
/-- an int that is 0 or 1: two ways -/
theorem sf_split2 {M0 M1 : Out ε ρ ν} {L0 : List Rg} (i : Int) (h0 : i = 0 → SF X ss Γ L0 gn ln rt xt gx M0) (h1 : i = 1 → SF X ss Γ L0 gn ln rt xt gx M1) : SF X ss Γ L0 gn ln rt xt gx (if i = 0 then M0 else if i = 1 then M1 else .stuck) := by
  by_cases a : i = 0
  · rw [if_pos a]; exact h0 a
  · rw [if_neg a]
    by_cases b : i = 1
    · rw [if_pos b]; exact h1 b
    · rw [if_neg b]; exact fun I σ F H D fr th => th.elim
/-- o.m(), which hands back a new object -/
theorem en_meth0 {σo : Type} {fi : Addr} {m : Str} {apos : Pos} {o : Expr} {φ : δ → CP} {To : Tys σo} {ns : List Str} {g : (σo × Unit) → Unit → Res ε (δ × Unit)} {mo : Res ε (σo × γ)} (c : Cls X.K Cl) (hm : Meth X.K Cl m fi)
    (F : FnOk X.prog X.w X.K X.mg X.base CX k fi fd ps (spec (fun _ : Unit => Tys.cons (tObj Cl ns To) Tys.nil) (fun _ _ => []) (fun _ => rtN φ (fun _ => [])) (fun _ => xt) g))
    (hr : Room k X.A) (hb : Binds X.K fd ps []) (pw : PassW CX X) (ho : EF X o Γ L s (tObj Cl ns To) xt mo) (hx : ∀ x, xt.regs x = []) (hmn : m ∉ ns := by decide) {pl : Sem Bool}
    (ht : eval (.Call (.Attribute o m apos) [] [] pos) X.env = (do
      let ov ← eval o X.env
      standAt apos.atName
      let (f, first) ← holding [ov] (getMethod ov m pl)
      callWith pos f first (backTo pos (starEach [] X.env)) (backToKw pos (keywordEach [] X.env))) := by rfl) :
    EN X (.Call (.Attribute o m apos) [] [] pos) Γ L s φ xt (mo.bnd fun d s1 => (g (d, ()) ()).up s1) := fun I σ F' H Q fr th => by
  refine PE_to (pe_methX0 pe_w c hm F hr hb pw ht) ?_
  refine ho I σ F' H _ fr ?_
  cases mo with
  | stuck => exact th
  | exn y => exact th
  | val mp =>
    obtain ⟨d, s1⟩ := mp
    intro I1 v H1 e1 fr1 rv
    dsimp only [Res.bnd] at th
    obtain ⟨pa, dx, fs, vs0, rfl, q1, q2, q3, q4⟩ := rv
    refine ⟨pa, dx, fs, rfl, fr1.sep.same _ _ q1, q4 m hmn, ?_⟩
    refine ⟨(), I1, L s1 ++ F', (d, ()), (), fr1.sep, ⟨_, _, rfl, ⟨pa, dx, fs, vs0, rfl, q1, q2, q3, q4⟩, rfl⟩, ?_⟩
    cases hgv : g (d, ()) () with
    | stuck => rw [hgv] at th; exact th
    | exn y =>
      rw [hgv] at th
      intro I3 H3 c da e3 se3 r3
      refine th I3 H3 c da (e1.trans e3) (fr1.step e3 ?_) r3
      rw [hx] at se3 ⊢
      exact sep_drop (L s1) se3
    | val pr =>
      rw [hgv] at th
      intro I3 v3 H3 e3 se3 ⟨r, r2⟩
      subst r2
      exact th I3 r H3 (e1.trans e3) (fr1.step e3 se3)
theorem ef_noneO {m : Res ε (Unit × γ)} (h : EF X e Γ L s tNone xt m) : EF X e Γ L s (tOpt A) xt (m.bnd fun _ s => Res.val (none, s)) := ef_map (f := fun _ => none) h fun I v d r => r
theorem ef_tupTD {m : Res ε ((Tx × PyData × Unit) × γ)} (h : EF X e Γ L s (tTup (Tys2 tTx (tD X.K))) xt m) : EF X e Γ L s (tD X.K) xt (m.bnd fun x s => Res.val (PyData.tuple [dTx x.1, x.2.1], s)) := ef_map h fun I v d r => by
  obtain ⟨p, vs, rfl, h1, a, as, rfl, ha, b, bs, rfl, hb, rfl⟩ := r
  cases (show a = .str ⟨d.1.toArray⟩ from ha)
  exact .tup (.of h1) (.cons (.str _) (.cons hb .nil))
theorem sf_open2 {ι1 ι2 : Type} {f1 : ι1 → List Rg} {f2 : ι2 → List Rg} {L0 : List Rg} {M : Out ε ρ ν} (h : ∀ i2 i1, SF X ss Γ (f2 i2 ++ (f1 i1 ++ L0)) gn ln rt xt gx M) : SF X ss Γ (exR f2 :: (exR f1 :: L0)) gn ln rt xt gx M := fun I σ F H D fr th => by
  obtain ⟨i2, se⟩ := Sep.open (L := exR f1 :: (L0 ++ F)) fr.sep
  obtain ⟨i1, se1⟩ := Sep.open (L := f2 i2 ++ (L0 ++ F)) (se.perm List.perm_middle)
  refine h i2 i1 I σ F H D ⟨?_, fr.len, fr.sl⟩ th
  refine se1.perm ?_
  rw [List.append_assoc, List.append_assoc]
  rw [← List.append_assoc, ← List.append_assoc (f2 i2)]
  exact List.perm_append_comm.append_right _
end
end Fw


namespace Fw
open PySem L2
/-! ## 180. a thing that may hold a list made anew -/
def newC {α β χ : Type} (x : α ⊕ β) (f : α → χ) (g : β → χ) : χ := match x with
  | .inl a => f a
  | .inr b => g b
@[simp] theorem newC_l {α β χ : Type} (a : α) (f : α → χ) (g : β → χ) : newC (.inl a) f g = f a := rfl
@[simp] theorem newC_r {α β χ : Type} (b : β) (f : α → χ) (g : β → χ) : newC (.inr b) f g = g b := rfl
/-- what stood in I0 stands still -/
def tFrom {α : Type} (I0 : Hp) (A : Ty α) : Ty α := ⟨fun I v d => A.rep I v d ∧ Same I0 I, fun e ⟨a, b⟩ => ⟨A.mono e a, b.trans e⟩⟩
/-- data, or a list that wasn't in I0 -/
def tNew {α : Type} (K : PySem.W.Frag) (A : Ty α) (I0 : Hp) : Ty (PyData ⊕ List α) := ⟨fun I v d => match d with
  | .inl d => (tD K).rep I v d
  | .inr xs => ∃ q vs, v = .ref q ∧ I q = some (.lst vs) ∧ Paired (A.rep I) vs xs ∧ I0 q = none, fun {I I' v d} e h => by
    cases d with
    | inl d => exact (tD K).mono e h
    | inr xs =>
      obtain ⟨q, vs, a, b, c, f⟩ := h
      exact ⟨q, vs, a, e _ _ b, paired_mono e c, f⟩⟩
section
variable {X : Cx} {N : List Str} {sc : Scope} {own : Str → Bool} {α β γ ε ρ ν τ ι : Type} {A : Ty α} {B : Ty β} {T : Tys τ} {e : Expr} {es : List Expr} {ss : List Stmt} {x f : Str} {pos p np cpos : Pos} {Γ gx : List Slot} {L : γ → List Rg} {s : γ} {xt : XT ε} {q fa : Addr} {I0 : Hp} {CX : CXT} {k : Nat} {fd : FuncData} {ps : List Str} {L0 : List Rg}
  {gn : ν → List Slot} {ln : ν → List Rg} {rt : RT ρ}
theorem ep_from {d : α} (h : EP X e Γ L0 (tFrom I0 A) d) : EP X e Γ L0 A d := ep_map (f := fun x => x) h fun I v d r => r.1
theorem ef_newD {m : Res ε (PyData × γ)} (h : EF X e Γ L s (tD X.K) xt m) : EF X e Γ L s (tNew X.K A I0) xt (m.bnd fun x s => Res.val (.inl x, s)) := ef_map (C := tNew X.K A I0) (f := fun x => Sum.inl x) h fun I v d r => r
theorem ef_newL {m : Res ε (List α × γ)} {b : β} {i : Nat} (hi : Γ[i]? = some (.dat (tFrom I0 B) b)) (h : EN X e Γ L s (cLst A) xt m) : EF X e Γ L s (tNew X.K A I0) xt (m.bnd fun x s => Res.val (.inr x, s)) := fun I σ F H Q fr th => by
  refine h I σ F H Q fr ?_
  cases m with
  | stuck => exact th
  | exn x => exact th
  | val p =>
    intro I' q H' e1 fr1
    obtain ⟨o, ho, ⟨vs, rfl, hv⟩, hi2, se⟩ := fr1.sep.freeze
    obtain ⟨w, _, _, sm⟩ := fr1.get hi
    exact th _ _ _ (e1.trans (Same.upd hi2)) (fr1.step (Same.upd hi2) se) ⟨q, vs, rfl, upd_same, paired_mono (Same.upd hi2) hv, sm.free hi2⟩
/-- a tuple of a thing and a list that is lent -/
theorem slotTo_tup2 {T1 : Ty β} {t1 : β} {xs : List α} {i : Nat} (hi : Γ[i]? = some (.dat (tTup (Tys2 T1 (tCell q))) (t1, (), ()))) : SlotTo Γ (Γ.set i (.dat (tTup (Tys2 T1 (tLst A))) (t1, xs, ()))) q (cLst A xs) := ⟨by rw [List.length_set], fun I0 I σ o hq ⟨vs, e, pd⟩ sm ok => by
  have e0 : Same I0 I := fun b u hb => sm b u (by rw [upd_ne (ne_of_none hb hq)]; exact hb)
  intro j s hj
  by_cases hij : i = j
  · subst hij
    have il : i < Γ.length := (List.getElem?_eq_some_iff.mp hi).1
    rw [List.getElem?_set_self il] at hj
    cases hj
    obtain ⟨v, hv, p, ws, rfl, hp, a, as, rfl, ha, b, bs, rfl, hb, rfl⟩ := ok i _ hi
    cases (show b = .ref q from hb)
    exact ⟨_, hv, p, _, rfl, e0 _ _ hp, a, _, rfl, T1.mono e0 ha, _, _, rfl, ⟨q, vs, rfl, sm _ _ (by rw [upd_same, e]), paired_mono e0 pd⟩, rfl⟩
  · rw [List.getElem?_set_ne hij] at hj
    exact (ok j s hj).mono e0⟩
/-- a list that is new since I becomes one's own -/
theorem carve_sep {I : Hp} {R : List Rg} {H : Hp} (se : Sep I R H) : ∃ E : List Rg, Sep I E H ∧ (∀ (I2 H2 : Hp), Same I I2 → Sep I2 E H2 → Sep I2 R H2) ∧
    ∀ (I2 H2 : Hp) (q : Addr) (vs : List V) (φ : CP), Same I I2 → I q = none → I2 q = some (.lst vs) → φ.h (minus I2 q) (.lst vs) → Sep I2 E H2 → Same I (minus I2 q) ∧ Sep (minus I2 q) (cell q φ :: R) H2 := by
  obtain ⟨Z, e, s, a, d⟩ := se
  have y2 : ∀ (I2 : Hp) (Y2 Z2 : List (Rg × Hp)), Y2.map (·.1) = Z2.map (fun z => exact_ z.2) → (∀ y ∈ Y2, y.1.h I2 y.2) → Y2.map (·.2) = Z2.map (·.2) := by
    intro I2 Y2
    induction Y2 with
    | nil => intro Z2 h _; cases Z2 with
      | nil => rfl
      | cons _ _ => cases h
    | cons y Y2 ih =>
      intro Z2 h hh
      cases Z2 with
      | nil => cases h
      | cons z Z2 =>
        rw [List.map_cons, List.map_cons] at h
        injection h with h1 h2
        rw [List.map_cons, List.map_cons, ih Z2 h2 fun w hw => hh w (List.mem_cons_of_mem _ hw)]
        have := hh y (List.mem_cons_self ..)
        rw [h1] at this
        rw [show y.2 = z.2 from this.1]
  refine ⟨Z.map fun z => exact_ z.2, ⟨Z.map fun z => (exact_ z.2, z.2), by rw [List.map_map]; rfl, s, fun y hy => ?_, List.pairwise_map.mpr d⟩, fun I2 H2 e5 se2 => ?_, fun I2 H2 q vs φ e5 hq hq2 hφ se2 => ?_⟩
  · obtain ⟨y', hy', rfl⟩ := List.mem_map.mp hy
    obtain ⟨b1, b2, b3⟩ := a y' hy'
    exact ⟨⟨rfl, y'.1.nt b1⟩, b2, b3⟩
  · obtain ⟨Y, f, t, g, k⟩ := se2
    have yz := y2 I2 Y Z f fun y hy => (g y hy).1
    refine ⟨Z, e, t, fun y hy => ?_, d⟩
    have : y.2 ∈ Y.map (·.2) := by rw [yz]; exact List.mem_map_of_mem hy
    obtain ⟨y', h1, h2⟩ := List.mem_map.mp this
    obtain ⟨b1, b2, b3⟩ := g y' h1
    obtain ⟨c1, c2, c3⟩ := a y hy
    exact ⟨y.1.mono e5 c1, by rw [← h2]; exact b2, by rw [← h2]; exact b3⟩
  · obtain ⟨Y, f, t, g, k⟩ := se2
    have yz := y2 I2 Y Z f fun y hy => (g y hy).1
    have inI : Same I (minus I2 q) := fun b u hb => by
      rw [minus_ne (ne_of_none hb hq)]
      exact e5 b u hb
    have mt : Same (minus I2 q) H2 := fun b u hb => by
      by_cases hq : b = q
      · subst hq; rw [minus_same] at hb; cases hb
      · rw [minus_ne hq] at hb; exact t b u hb
    have down : ∀ R : Hp, Disj I2 R → Disj (minus I2 q) R := fun R h b => by
      by_cases hq : b = q
      · subst hq; exact .inl minus_same
      · rw [minus_ne hq]; exact h b
    have atq : ∀ R : Hp, Disj I2 R → R q = none := fun R h => by
      rcases h q with h | h
      · rw [hq2] at h; cases h
      · exact h
    have mem2 : ∀ y ∈ Z, ∃ y' ∈ Y, y'.2 = y.2 := fun y hy => by
      have : y.2 ∈ Y.map (·.2) := by rw [yz]; exact List.mem_map_of_mem hy
      obtain ⟨y', h1, h2⟩ := List.mem_map.mp this
      exact ⟨y', h1, h2⟩
    refine ⟨inI, (cell q φ, single q (.lst vs)) :: Z, by rw [List.map_cons, e], mt, fun y hy => ?_, List.Pairwise.cons (fun w hw b => ?_) d⟩
    · rcases List.mem_cons.mp hy with rfl | hy
      · exact ⟨⟨_, rfl, hφ⟩, single_sub (t _ _ hq2), fun b => by
          by_cases hb : b = q
          · subst hb; exact .inl minus_same
          · exact .inr (single_ne hb)⟩
      · obtain ⟨y', hy', ey⟩ := mem2 y hy
        obtain ⟨b1, b2, b3⟩ := g y' hy'
        obtain ⟨c1, c2, c3⟩ := a y hy
        exact ⟨y.1.mono inI c1, by rw [← ey]; exact b2, by rw [← ey]; exact down _ b3⟩
    · by_cases hb : b = q
      · subst hb
        obtain ⟨y', hy', ey⟩ := mem2 w hw
        right
        rw [← ey]
        exact atq _ (g y' hy').2.2
      · exact .inl (single_ne hb)
/-- x = f(…), which hands back a pair with perhaps a new list -/
theorem sf_asgNew {T' : Hp → Tys τ} {gm : τ → Unit → Res ε ((Tx × (PyData ⊕ List α) × Unit) × Unit)} {m : Res ε (τ × γ)} {k1 : Tx → PyData → γ → Out ε ρ ν} {k2 : Tx → List α → γ → Out ε ρ ν} (cx : Cxt X N sc own) (i : Nat)
    (F : FnOk X.prog X.w X.K X.mg X.base CX k fa fd ps (spec T' (fun _ _ => []) (fun I0 => rtV (tTup (Tys2 tTx (tNew X.K A I0))) (fun _ => [])) (fun _ => xt) gm)) (hr : Room k X.A) (hm : X.mg f = some (.ref fa)) (hk : PySem.W.keepIn X.K (.ref fa) = true) (hb : Binds X.K fd ps []) (pw : PassW CX X)
    (ha : AF X (e :: es) Γ L s T xt m) (hT : ∀ I vs t, T.rep I vs t → (T' I).rep I vs t) (hx : ∀ x, xt.regs x = []) (hA : FlatT A)
    (hr1 : ∀ t d s', SF X ss (Γ.set i (.dat (tTup (Tys2 tTx (tD X.K))) (t, d, ()))) (L s') gn ln rt xt gx (k1 t d s'))
    (hr2 : ∀ q t xs s', SF X ss (Γ.set i (.dat (tTup (Tys2 tTx (tCell q))) (t, (), ()))) (cell q (cLst A xs) :: L s') gn ln rt xt gx (k2 t xs s'))
    (hg : glB sc f = true := by decide +kernel) (he : starEach (e :: es) X.env = (false, eval e X.env) :: starEach es X.env := by exact star_c rfl) (hpl : (backTo cpos (starEach es X.env)).any (·.1) = false := by rfl)
    (hi : N[i]? = some x := by rfl) (ho : own x = true := by decide +kernel) (wk : Wk Γ gx := by first | exact Wk.nil | exact Wk.rfl)
    (hs : swapsWith (.Call (.Name f p) (e :: es) [] cpos) (some (.Name x np)) pos.line X.env = pure false := by rfl) :
    SF X (.Assign [.Name x np] (.Call (.Name f p) (e :: es) [] cpos) pos :: ss) Γ (L s) gn ln rt xt gx (Out.bnd (m.bnd fun t s1 => (gm t ()).up s1) fun r s => newC r.2.1 (fun d => k1 r.1 d s) (fun xs => k2 r.1 xs s)) := fun I σ F' H D fr th => by
  obtain ⟨n1, n2⟩ := cx.st x ho
  obtain ⟨h1, h2, h3⟩ := glB_gl cx hg
  refine PSs_to (pss_cons (ps_set (by rw [cx.hN]; exact cx.nd) (by rw [cx.hN]; exact hi) n1 (pe_callS F hr h1 hm hk hb pw pa_w h2 he hpl) hs n2) pss_w) ?_
  refine ha I σ F' H _ fr ?_
  cases m with
  | stuck => exact th
  | exn x => exact fun I' H' c da e1 fr1 r => th I' σ H' c da e1 fr1.sep (fr1.sl.wk wk) r
  | val mp =>
    obtain ⟨t, s1⟩ := mp
    intro I1 vs H1 e1 fr1 rv
    obtain ⟨E, seE, back, carve⟩ := carve_sep fr1.sep
    refine ⟨I1, I1, E, t, (), seE, hT _ _ _ rv, ?_⟩
    dsimp only [Res.bnd] at th
    cases hg : gm t () with
    | stuck => rw [hg] at th; exact th
    | exn y =>
      rw [hg] at th
      intro I2 H2 c da e2 se2 r2
      rw [hx] at se2
      refine th I2 σ H2 c da (e1.trans e2) ?_ ((fr1.sl.mono e2).wk wk) r2
      rw [hx]
      exact sep_drop (L s1) (back I2 H2 e2 se2)
    | val q =>
      rw [hg] at th
      obtain ⟨⟨tx, dd, ⟨⟩⟩, ⟨⟩⟩ := q
      intro I2 v H2 e2 se2 r2
      obtain ⟨pp, ws, rfl, hp, a, as, rfl, ha2, b, bs, rfl, hb2, rfl⟩ := r2
      cases dd with
      | inl d =>
        have fr2 : FrOk I2 σ Γ (L s1 ++ F') H2 := ⟨back I2 H2 e2 se2, fr1.len, fr1.sl.mono e2⟩
        have fr3 := fr2.set (A := tTup (Tys2 tTx (tD X.K))) (d := (tx, d, ())) (v := .ref pp) ⟨pp, _, rfl, hp, a, _, rfl, ha2, b, _, rfl, hb2, rfl⟩ i
        exact hr1 tx d s1 I2 _ F' H2 D fr3 (sthen_up (e1.trans e2) th)
      | inr xs =>
        obtain ⟨q, vs2, rfl, hq2, pd, hq1⟩ := hb2
        have hne : pp ≠ q := fun z => by subst z; rw [hq2] at hp; cases hp
        have le : Lent (I2 q) := by rw [hq2]; exact ⟨fun ys z => (by cases z), fun fs z => (by cases z)⟩
        obtain ⟨sm, se3⟩ := carve I2 H2 q vs2 (cLst A xs) e2 hq1 hq2 ⟨vs2, rfl, paired_flat hA le pd⟩ se2
        have fr2 : FrOk (minus I2 q) σ Γ (cell q (cLst A xs) :: (L s1 ++ F')) H2 := ⟨se3, fr1.len, fr1.sl.mono sm⟩
        have fr3 := fr2.set (A := tTup (Tys2 tTx (tCell q))) (d := (tx, (), ())) (v := .ref pp) ⟨pp, _, rfl, by rw [minus_ne hne]; exact hp, a, _, rfl, flt_tx _ _ _ _ le ha2, _, _, rfl, rfl, rfl⟩ i
        exact hr2 q tx xs s1 _ _ F' H2 D fr3 (sthen_up (e1.trans sm) th)
end
end Fw


namespace Fw
open PySem L2
/-! ## 190. joins with an own thing at some address -/
section
variable {X : Cx} {N : List Str} {sc : Scope} {own : Str → Bool} {κ α β γ γ' δ ε ρ ν ν' τ : Type} {A : Ty α} {B : Ty β} {e iter tg a : Expr} {es : List Expr} {ss b1 : List Stmt} {x : Str} {pos p apos : Pos} {Γ gx : List Slot} {L : γ → List Rg} {s : γ} {xt : XT ε} {q qa Cl : Addr} {L0 : List Rg}
  {gn : ν → Addr → List Slot} {ln : ν → Addr → List Rg} {gm : ν' → List Slot} {lm : ν' → List Rg} {gj : ν' → Addr → List Slot} {lj : ν' → Addr → List Rg} {rt : RT ρ}
def SThenG (X : Cx) (I : Hp) (F : List Rg) (gn : ν → Addr → List Slot) (ln : ν → Addr → List Rg) (rt : RT ρ) (xt : XT ε) (gx : List Slot) (D : Ends) (M : Out ε ρ ν) : Prop := ∀ r : Addr, SThen X I F (fun n => gn n r) (fun n => ln n r) rt xt gx D M
/-- statements compute M; at their end an own thing lies at some address -/
def SG (X : Cx) (ss : List Stmt) (Γ : List Slot) (L : List Rg) (gn : ν → Addr → List Slot) (ln : ν → Addr → List Rg) (rt : RT ρ) (xt : XT ε) (gx : List Slot) (M : Out ε ρ ν) : Prop :=
  ∀ (I : Hp) (σ : St) (F : List Rg) (H : Hp) (D : Ends), FrOk I σ Γ (L ++ F) H → SThenG X I F gn ln rt xt gx D M → wSs X ss D σ H
theorem sg_of {M : Out ε ρ ν} (r : Addr) (h : SF X ss Γ L0 (fun n => gn n r) (fun n => ln n r) rt xt gx M) : SG X ss Γ L0 gn ln rt xt gx M := fun I σ F H D fr th => h I σ F H D fr (th r)
theorem SThenG.bnd {I : Hp} {F : List Rg} {σ : St} {H : Hp} {D : Ends} {Q : VK} {m : Res ε (α × γ)} {k : α → γ → Out ε ρ ν} (ha : EF X a Γ L s A xt m) (wk : Wk Γ gx) (fr : FrOk I σ Γ (L s ++ F) H) (th : SThenG X I F gn ln rt xt gx D (Out.bnd m k))
    (h : ∀ (I' : Hp) (v : V) (H' : Hp) (d : α) (s' : γ), Same I I' → FrOk I' σ Γ (L s' ++ F) H' → A.rep I' v d → SThenG X I' F gn ln rt xt gx D (k d s') → Q v H') : wE X a σ H Q := by
  refine ha I σ F H _ fr ?_
  cases m with
  | stuck => exact th 0
  | exn x => exact fun I' H' c da e1 fr1 r => th 0 I' σ H' c da e1 fr1.sep (fr1.sl.wk wk) r
  | val p => exact fun I' v H' e1 fr1 r => h I' v H' p.1 p.2 e1 fr1 r fun z => sthen_up e1 (th z)
theorem SThenG.bndN {φ : α → CP} {I : Hp} {F : List Rg} {σ : St} {H : Hp} {D : Ends} {Q : VK} {m : Res ε (α × γ)} {k : α → γ → Out ε ρ ν} (ha : EN X a Γ L s φ xt m) (wk : Wk Γ gx) (fr : FrOk I σ Γ (L s ++ F) H) (th : SThenG X I F gn ln rt xt gx D (Out.bnd m k))
    (h : ∀ (I' : Hp) (q : Addr) (H' : Hp) (d : α) (s' : γ), Same I I' → FrOk I' σ Γ (cell q (φ d) :: (L s' ++ F)) H' → SThenG X I' F gn ln rt xt gx D (k d s') → Q (.ref q) H') : wE X a σ H Q := by
  refine ha I σ F H _ fr ?_
  cases m with
  | stuck => exact th 0
  | exn x => exact fun I' H' c da e1 fr1 r => th 0 I' σ H' c da e1 fr1.sep (fr1.sl.wk wk) r
  | val p => exact fun I' q H' e1 fr1 => h I' q H' p.1 p.2 e1 fr1 fun z => sthen_up e1 (th z)
theorem sg_asg {m : Res ε (α × γ)} {k : α → γ → Out ε ρ ν} (cx : Cxt X N sc own) (i : Nat) (h : EF X e Γ L s A xt m) (hr : ∀ d s', SG X ss (Γ.set i (.dat A d)) (L s') gn ln rt xt gx (k d s')) (hi : N[i]? = some x := by rfl) (ho : own x = true := by decide +kernel) (wk : Wk Γ gx := by first | exact Wk.nil | exact Wk.rfl)
    (hs : swapsWith e (some (.Name x p)) pos.line X.env = pure false := by rfl) : SG X (.Assign [.Name x p] e pos :: ss) Γ (L s) gn ln rt xt gx (Out.bnd m k) := fun I σ F H D fr th => by
  obtain ⟨h1, h2⟩ := cx.st x ho
  refine PSs_to (pss_cons (ps_set (by rw [cx.hN]; exact cx.nd) (by rw [cx.hN]; exact hi) h1 pe_w hs h2) pss_w) ?_
  refine SThenG.bnd h wk fr th fun I1 v H1 d s1 e1 fr1 r th1 => ?_
  exact hr d s1 I1 _ F H1 D (fr1.set r i) th1
theorem sg_asgN {φ : α → CP} {m : Res ε (α × γ)} {k : α → γ → Out ε ρ ν} (cx : Cxt X N sc own) (i : Nat) (h : EN X e Γ L s φ xt m) (hr : ∀ q d s', SG X ss (Γ.set i (.dat (tCell q) ())) (cell q (φ d) :: L s') gn ln rt xt gx (k d s')) (hi : N[i]? = some x := by rfl) (ho : own x = true := by decide +kernel) (wk : Wk Γ gx := by first | exact Wk.nil | exact Wk.rfl)
    (hs : swapsWith e (some (.Name x p)) pos.line X.env = pure false := by rfl) : SG X (.Assign [.Name x p] e pos :: ss) Γ (L s) gn ln rt xt gx (Out.bnd m k) := fun I σ F H D fr th => by
  obtain ⟨h1, h2⟩ := cx.st x ho
  refine PSs_to (pss_cons (ps_set (by rw [cx.hN]; exact cx.nd) (by rw [cx.hN]; exact hi) h1 pe_w hs h2) pss_w) ?_
  refine SThenG.bndN h wk fr th fun I1 q H1 d s1 e1 fr1 th1 => ?_
  exact hr q d s1 I1 _ F H1 D (fr1.set rfl i) th1
/-- from here on the address is known -/
theorem sg_fix {φ : α → CP} {m : Res ε (α × γ)} {k : α → γ → Out ε ρ ν} (cx : Cxt X N sc own) (i : Nat) (h : EN X e Γ L s φ xt m) (hr : ∀ q d s', SF X ss (Γ.set i (.dat (tCell q) ())) (cell q (φ d) :: L s') (fun n => gn n q) (fun n => ln n q) rt xt gx (k d s')) (hi : N[i]? = some x := by rfl) (ho : own x = true := by decide +kernel) (wk : Wk Γ gx := by first | exact Wk.nil | exact Wk.rfl)
    (hs : swapsWith e (some (.Name x p)) pos.line X.env = pure false := by rfl) : SG X (.Assign [.Name x p] e pos :: ss) Γ (L s) gn ln rt xt gx (Out.bnd m k) := sg_asgN cx i h (fun q d s' => sg_of q (hr q d s')) hi ho wk hs
theorem sg_append {m : Res ε (α × γ)} {xs : γ → List α} {R : γ → List Rg} {k : α → γ → Out ε ρ ν} (ha : EP X a Γ (L s) (tCell q) ()) (he : EF X e Γ L s A xt m) (hL : ∀ s, (L s).Perm (cell q (cLst A (xs s)) :: R s))
    (hr : ∀ d s, SG X ss Γ (cell q (cLst A (xs s ++ [d])) :: R s) gn ln rt xt gx (k d s)) (wk : Wk Γ gx := by first | exact Wk.nil | exact Wk.rfl)
    (hbase : attributeBase a "append" X.env (eval a X.env) = eval a X.env := by rfl)
    (hfew : ((backTo p (starEach (e :: []) X.env)).all (fun x => !x.1) && (backToKw p (keywordEach [] X.env)).all (fun x => x.1.isSome)
      && decide ((e :: []).length + ([] : List Keyword).length + (if ([] : List Keyword).isEmpty then 0 else 1) < 30)) = true := by rfl)
    (hline : (apos.endLine == p.line) = true := by rfl) (hs : starEach (e :: []) X.env = (false, eval e X.env) :: starEach [] X.env := by exact star_c rfl) (hplain : (backTo p (starEach [] X.env)).any (·.1) = false := by rfl)
    (hsw : swapsWith (.Call (.Attribute a "append" apos) [e] [] p) none pos.line X.env = pure false := by rfl) :
    SG X (.Expr (.Call (.Attribute a "append" apos) [e] [] p) pos :: ss) Γ (L s) gn ln rt xt gx (Out.bnd m fun d s' => if (xs s').length < sizeLine then k d s' else .stuck) := fun I σ F H D fr th => by
  refine PSs_to (pss_cons (ps_expr (pe_bm PySem.F.plainAttrs_list PySem.F.slot_list_append PySem.F.type_list_append mt_append pe_w (pa_cons pe_w pa_nil hs) hbase hfew hline hs hplain) hsw) pss_w) ?_
  refine ha.run fr fun I0 va H0 e0 fr0 ra => ?_
  cases ra
  have se0 : Sep I0 (cell q (cLst A (xs s)) :: (R s ++ F)) H0 := fr0.sep.perm ((hL s).append_right F)
  obtain ⟨o0, ho0, ⟨vs0, rfl, hv0⟩, _⟩ := se0.get
  refine ⟨.inl ⟨rfl, vs0, .of ho0⟩, ?_⟩
  refine SThenG.bnd he wk fr0 (fun z => sthen_up e0 (th z)) fun I1 v H1 d s1 e1 fr1 r th1 => ?_
  have se : Sep I1 (cell q (cLst A (xs s1)) :: (R s1 ++ F)) H1 := fr1.sep.perm ((hL s1).append_right F)
  obtain ⟨o, ho, ⟨vs, rfl, hv⟩, _⟩ := se.get
  by_cases hz : (xs s1).length < sizeLine
  · rw [if_pos hz] at th1
    exact ⟨q, vs, v, rfl, rfl, ho, by rw [paired_len hv]; exact hz, hr d s1 I1 σ F _ D (fr1.step (Same.refl _) (se.put ⟨_, rfl, paired_app hv (.cons r .nil)⟩)) th1⟩
  · rw [if_neg hz] at th1
    exact (th1 0).elim
/-- a for, an own thing made anew in each turn -/
theorem sg_for {gn : ν → List Slot} {ln : ν → List Rg} {m : Res ε (List β × γ)} {up : List Slot → β → List Slot} {vs : List Nat} {n0 : γ → ν'} {r0 : Addr} {Bd : ν' → β → Out ε ρ ν'} {k : ν' → Out ε ρ ν} (cc : Calm X) (hi : IF X tg iter Γ L s B xt m) (hg : GF X tg B up vs) (h0 : ∀ s', Wk Γ (gj (n0 s') r0) ∧ (gj (n0 s') r0).length = Γ.length ∧ Sub (L s') (lj (n0 s') r0))
    (hb : ∀ n r d, SG X b1 (up (gj n r) d) (lj n r) gj lj rt xt gx (Bd n d)) (hr : ∀ n r, SF X ss (gj n r) (lj n r) gn ln rt xt gx (k n)) (wk : Wk Γ gx := by first | exact Wk.nil | exact Wk.rfl) (hs : ∀ x, foldedSetIterable iter X.env x = pure x := by intro _; rfl) :
    SF X (.For tg iter b1 [] pos :: ss) Γ (L s) gn ln rt xt gx (Out.bnd m fun xs s' => (Out.forL xs (n0 s') Bd).seq k) := fun I σ F H D fr th => by
  obtain ⟨wi, pi, wq⟩ := hi
  obtain ⟨g, pg, gq⟩ := hg
  refine PSs_to (pss_cons (ps_for cc.po cc.calm pi pg pss_w (hs := hs)) pss_w) ?_
  refine wq I σ F H _ fr ?_
  cases m with
  | stuck => exact th
  | exn x => exact fun I' H' c da e1 fr1 r => th I' σ H' c da e1 fr1.sep (fr1.sl.wk wk) r
  | val q =>
    obtain ⟨xs, s1⟩ := q
    intro J I1 H1 e1 fr1 tn
    obtain ⟨w0, l0, q0⟩ := h0 s1
    refine ⟨fun i mm σ2 H2 => ∃ I2 n r, mm = xs.length - i ∧ i ≤ xs.length ∧ Same I1 I2 ∧ FrOk I2 σ2 (gj n r) (lj n r ++ F) H2 ∧ SThen X I2 F gn ln rt xt gx D ((Out.forL (xs.drop i) n Bd).seq k),
      ⟨xs.length, I1, n0 s1, r0, by omega, Nat.zero_le _, Same.refl _, ⟨q0 I1 F H1 fr1.sep, by rw [l0]; exact fr1.len, fr1.sl.wk w0⟩, ?_⟩, ?_⟩
    · rw [List.drop_zero]
      exact sthen_up e1 th
    · rintro i mm σ2 H2 ⟨I2, n, r, rfl, hi, e2, fr2, th2⟩
      obtain ⟨t1, t2⟩ := tn I2 _ H2 e2 fr2.sep i
      by_cases hlt : i < xs.length
      · obtain ⟨t3, t4⟩ := t2 hlt
        have hdrop : xs.drop i = xs[i] :: xs.drop (i + 1) := List.drop_eq_getElem_cons hlt
        rw [hdrop] at th2
        refine .inr ⟨t3, fun σ3 H3 => ∃ I3 n3 r3, Same I1 I3 ∧ FrOk I3 σ3 (gj n3 r3) (lj n3 r3 ++ F) H3 ∧ SThen X I3 F gn ln rt xt gx D ((Out.forL (xs.drop (i + 1)) n3 Bd).seq k),
          fun σ' H' ⟨I3, n3, r3, z1, z2, z3⟩ => ⟨xs.length - (i + 1), by omega, I3, n3, r3, rfl, by omega, z1, z2, z3⟩, fun v H' y => ?_⟩
        obtain ⟨I3, e3, se3, rd⟩ := t4 v H' y
        have rv := rd _ (List.getElem?_eq_getElem hlt)
        refine gq I3 σ2 (gj n r) _ H' v _ _ (fr2.step e3 se3) rv fun I4 σ4 H4 e4 fr4 _ _ => ?_
        refine hb n r xs[i] I4 σ4 F H4 _ fr4 fun r' => ?_
        have th4 : SThen X I4 F gn ln rt xt gx D (((Bd n xs[i]).seq fun n' => Out.forL (xs.drop (i + 1)) n' Bd).seq k) := sthen_up (e3.trans e4) th2
        cases hB : Bd n xs[i] with
        | stuck => rw [hB] at th4; exact th4
        | ret r => rw [hB] at th4; exact th4
        | exn x => rw [hB] at th4; exact th4
        | nx n' =>
          rw [hB] at th4
          exact fun I' σ' H' e f => ⟨I', n', r', ((e2.trans e3).trans e4).trans e, f, sthen_up e th4⟩
      · have hn : i = xs.length := by omega
        subst hn
        rw [List.drop_length] at th2
        exact .inl ⟨t1 rfl, hr n r I2 σ2 F H2 D fr2 th2⟩
end
/-! ## 191. list(x), one's own; a list lent beside things of structure -/
section
variable {X : Cx} {N : List Str} {sc : Scope} {own : Str → Bool} {κ α β γ δ ε ρ ν τ : Type} [DecidableEq κ] {A : Ty α} {B : Ty β} {e iter tg a : Expr} {es : List Expr} {ss b1 : List Stmt} {x : Str} {pos p apos : Pos} {Γ gx : List Slot} {L : γ → List Rg} {s : γ} {xt : XT ε} {q qa ql Cl : Addr} {L0 : List Rg} {K : Kt κ}
  {gn : ν → List Slot} {ln : ν → List Rg} {rt : RT ρ} {M : Out ε ρ ν}
theorem en_listF {m : Res ε (List α × γ)} (cx : Cxt X N sc own) (hm : X.mg "list" = none) (h : EF X e Γ L s (tLst A) xt m) (hg : glB sc "list" = true := by decide +kernel) (hs : starEach [e] X.env = (false, eval e X.env) :: starEach [] X.env := by exact star_c rfl) : EN X (.Call (.Name "list" p) [e] [] pos) Γ L s (cLst A) xt m := fun I σ F H Q fr th => by
  obtain ⟨h1, h2, h3⟩ := glB_gl cx hg
  refine PE_to (pe_callTy call_list_of h1 hm (by decide +kernel) (pa_cons pe_w pa_nil hs) h3 h2 hs rfl) ?_
  refine h I σ F H _ fr ?_
  cases m with
  | stuck => exact th
  | exn x => exact th
  | val pr =>
    intro I1 v H1 e1 fr1 ⟨pp, vs, e2, hp, pd⟩
    subst e2
    exact ⟨pp, vs, rfl, .inl (.of (fr1.sep.same _ _ hp)), fun l hl => th I1 l _ e1 ⟨fr1.sep.new hl ⟨vs, rfl, pd⟩, fr1.len, fr1.sl⟩⟩
theorem em_lendG {φ : CP} {ψ : α → Addr → List Rg} {mm : Res ε (α × γ)} {L1 : γ → List Rg} {R : List Rg} {Γ' : List Slot} (hC : ∀ d r, ∀ c ∈ ψ d r, FlatC c) (hx : FlatX xt) (hfl : ∀ s, ∀ c ∈ L1 s, FlatC c) (hst : SlotTo Γ Γ' q φ) (hle : ∀ I o, φ.h I o → Lent (some o)) (hp : ∀ s, (L s).Perm (L1 s ++ (cell q φ :: R)))
    (h : EM X e Γ' L1 s ψ xt mm) : EM X e Γ L s ψ xt mm := fun I σ F H Q fr th => by
  obtain ⟨o, E, hq, le, fr1, back⟩ := lend_frame hst hle hp fr
  refine h _ σ E H Q fr1 ?_
  cases mm with
  | stuck => exact th
  | val p =>
    intro I' r H' e2 fr2
    have se2 : Sep I' ((ψ p.1 r ++ L1 p.2) ++ E) H' := by rw [List.append_assoc]; exact fr2.sep
    obtain ⟨m1, lq, m2⟩ := back I' (ψ p.1 r ++ L1 p.2) H' e2 (fun c hc => by
      rcases List.mem_append.mp hc with hc | hc
      · exact hC _ _ _ hc
      · exact hfl _ c hc) se2
    refine th (minus I' q) r H' m1 ⟨?_, fr.len, fr.sl.mono m1⟩
    refine m2.perm ?_
    rw [List.append_assoc]
    exact (back_perm (hp p.2)).append_left _
  | exn x =>
    intro I' H' c da e2 fr2 rz
    rw [(hx x).1] at fr2
    obtain ⟨m1, lq, m2⟩ := back I' [] H' e2 (fun c hc => by simp at hc) fr2.sep
    refine th (minus I' q) H' c da m1 ⟨?_, fr.len, fr.sl.mono m1⟩ ((hx x).2 _ _ _ _ lq rz)
    rw [(hx x).1]
    exact drop_app R m2.tail
def LLent : LP := fun I q => Lent (I q)
theorem flat_ins {Φ : List (Str × Slot)} (h : FlatPF LLent Φ) : FlatC (cell qa (cIns Cl Φ)) := fun I R r l ⟨o, e, dx, fs, e2, ok⟩ => ⟨o, e, dx, fs, e2, h I r fs l ok⟩
theorem flat_exR {ι : Type} {f : ι → List Rg} (h : ∀ i, ∀ c ∈ f i, FlatC c) : FlatC (exR f) := fun I R r l ⟨i, Z, e, a, d, hR⟩ => ⟨i, Z, e, fun z hz => h i z.1 (by rw [← e]; exact List.mem_map_of_mem hz) _ _ _ l (a z hz), d, hR⟩
/-- an own instance with a list and a dict becomes data -/
theorem sf_freezeI2 {σt : Type} {Tt : Tys σt} {ns : List Str} {Φ : List (Str × Slot)} {kvs : List (κ × α)} {xs : List β} {R : List Rg} {d : σt} {i : Nat} (hi : Γ[i]? = some (.dat (tCell qa) ())) (hp : L0.Perm (cell qa (cIns Cl Φ) :: (cell ql (cLst B xs) :: (cell q (cDic K A kvs) :: R))))
    (hfin : ∀ (I : Hp) (fs : List (Str × V)), FsOk I fs Φ → (tDic K A).rep I (.ref q) kvs → (tLst B).rep I (.ref ql) xs → FsTys I fs ns Tt d) (hns : Φ.map (·.1) = ns := by rfl)
    (h : SF X ss (Γ.set i (.dat (tObj Cl ns Tt) d)) R gn ln rt xt gx M) : SF X ss Γ L0 gn ln rt xt gx M := fun I σ F H D fr th => by
  have se0 : Sep I (cell ql (cLst B xs) :: (cell q (cDic K A kvs) :: (cell qa (cIns Cl Φ) :: (R ++ F)))) H := (fr.sep.perm (hp.append_right F)).perm ((List.Perm.swap _ _ _).trans (.cons _ (.swap _ _ _)))
  obtain ⟨o4, ho4, ⟨us, rfl, pr⟩, hl, se1⟩ := se0.freeze
  have e4 : Same I (upd I ql (.lst us)) := Same.upd hl
  obtain ⟨ws, ho, hq, pd, k⟩ := sep_lock se1
  obtain ⟨v, hv1, hv2⟩ := fr.get hi
  cases (show v = .ref qa from hv2)
  refine wSs_lock ho (K.mu ws) fun od => ?_
  have e0 : Same (upd I ql (.lst us)) (upd (upd I ql (.lst us)) q (.frz od (K.holds ws))) := Same.upd hq
  obtain ⟨o3, ho3, ⟨dx3, fs, rfl, ok⟩, hi3, se8⟩ := (k od).freeze
  generalize hJ : upd (upd I ql (.lst us)) q (.frz od (K.holds ws)) = J at *
  have e1 : Same J (upd J qa (.ins Cl dx3 fs)) := Same.upd hi3
  have rD : (tDic K A).rep J (.ref q) kvs := ⟨q, od, ws, rfl, by rw [← hJ]; exact upd_same, pd.mono e0⟩
  have rL : (tLst B).rep J (.ref ql) xs := ⟨ql, us, rfl, e0 _ _ upd_same, paired_mono (e4.trans e0) pr⟩
  obtain ⟨vs2, g1, g2⟩ := hfin _ fs ok rD rL
  exact h _ σ F _ D (fr_reslot (FrOk.mk se8 fr.len (fr.sl.mono ((e4.trans e0).trans e1))) hv1 (List.getElem?_eq_some_iff.mp hi).1 ⟨qa, dx3, fs, vs2, rfl, upd_same, Tt.mono e1 g1, g2, fun f hf => ok.2.1 f (by rw [hns]; exact hf)⟩) (sthen_up ((e4.trans e0).trans e1) th)
/-! None in a list of instances -/
structure EqOff (K : PySem.W.Frag) (C : Addr) : Prop where
  mo : PySem.W.mroIn K C (.type "object") = some true
  eq : PySem.W.findIn K (.ref C) "__eq__" = some (some (.builtin "object.__eq__"))
def eqoffB (K : PySem.W.Frag) (C : Addr) : Bool := decide (PySem.W.mroIn K C (.type "object") = some true) && decide (PySem.W.findIn K (.ref C) "__eq__" = some (some (.builtin "object.__eq__")))
theorem eqoffB_ok {K : PySem.W.Frag} {C : Addr} (h : eqoffB K C = true) : EqOff K C := by
  unfold eqoffB at h
  rw [Bool.and_eq_true] at h
  exact ⟨of_decide_eq_true h.1, of_decide_eq_true h.2⟩
theorem non_any {T : Tys τ} {ns : List Str} {I : Hp} {vs : List V} {xs : List (Option τ)} (h : Paired ((tOpt (tObj Cl ns T)).rep I) vs xs) : vs.any isNon = xs.any Option.isNone := by
  induction h with
  | nil => rfl
  | @cons v o _ _ r rs ih =>
    rw [List.any_cons, List.any_cons, ih]
    congr 1
    cases o with
    | none => rw [show v = V.non from r]; rfl
    | some d => obtain ⟨_, _, _, _, rfl, _⟩ := r.2; rfl
theorem non_or {T : Tys τ} {ns : List Str} {K : PySem.W.Frag} {I H : Hp} (c : EqOff K Cl) (se : Same I H) {vs : List V} {xs : List (Option τ)} (h : Paired ((tOpt (tObj Cl ns T)).rep I) vs xs) : ∀ z ∈ vs, NoneOr K H z := by
  induction h with
  | nil => exact fun z h => by cases h
  | @cons v o _ _ r rs ih =>
    intro z h
    rcases List.mem_cons.mp h with rfl | h
    · cases o with
      | none => exact .inl r
      | some d =>
        obtain ⟨p, dx, fs, vs, rfl, hp, _⟩ := r.2
        exact .inr ⟨p, Cl, dx, fs, rfl, se _ _ hp, c.mo, c.eq⟩
    · exact ih z h
theorem d_noneIn {T : Tys τ} {ns : List Str} {K : PySem.W.Frag} (c : EqOff K Cl) : D2 (rNoneIn K false) tNone (tLst (tOpt (tObj Cl ns T))) tBool (fun _ _ => True) (fun _ xs => xs.any Option.isNone) := fun I L H v w x y Q se rv rw' _ k => by
  obtain ⟨p, vs, rfl, hp, pd⟩ := rw'
  refine ⟨p, vs, rv, rfl, .of (se.same _ _ hp), non_or c se.same pd, ?_⟩
  rw [if_neg (by decide), non_any pd]
  exact k I _ H (Same.refl _) se rfl
end
end Fw


namespace Fw
open PySem L2
/-! ## 200. a tuple of own lists -/
theorem Sep.hd {I H : Hp} {c : Rg} {L : List Rg} (h : Sep I (c :: L) H) : ∃ R, c.h I R ∧ ∀ c' : Rg, c'.h I R → Sep I (c' :: L) H := by
  obtain ⟨Z, e, s, a, d⟩ := h
  cases Z with
  | nil => cases e
  | cons z Z =>
    rw [List.map_cons] at e
    injection e with e1 e2
    obtain ⟨a1, a2, a3⟩ := a z (List.mem_cons_self ..)
    rw [e1] at a1
    refine ⟨z.2, a1, fun c' hc => ⟨(c', z.2) :: Z, by rw [List.map_cons, e2], s, fun y hy => ?_, ?_⟩⟩
    · rcases List.mem_cons.mp hy with rfl | hy
      · exact ⟨hc, a2, a3⟩
      · exact a y (List.mem_cons_of_mem _ hy)
    · obtain ⟨d1, d2⟩ := List.pairwise_cons.mp d
      exact List.pairwise_cons.mpr ⟨fun y hy => d1 y hy, d2⟩
/-- regions at places that the tuple at p tells -/
def exT {ι : Type} (p : Addr) (vs : ι → List V) (f : ι → List Rg) : Rg := ⟨fun I R => ∃ i, I p = some (.tup (vs i)) ∧ (exR (fun _ : Unit => f i)).h I R, fun e ⟨i, a, b⟩ => ⟨i, e _ _ a, (exR _).mono e b⟩, fun ⟨i, a, b⟩ => (exR _).nt b⟩
theorem Sep.openT {ι : Type} {p : Addr} {vs : ι → List V} {f : ι → List Rg} {I H : Hp} {L : List Rg} (h : Sep I (exT p vs f :: L) H) : ∃ i, I p = some (.tup (vs i)) ∧ Sep I (f i ++ L) H := by
  obtain ⟨R, ⟨i, a, b⟩, k⟩ := h.hd
  obtain ⟨_, z⟩ := Sep.open (k (exR (fun _ : Unit => f i)) b)
  exact ⟨i, a, z⟩
theorem Sep.closeT {ι : Type} {p : Addr} {vs : ι → List V} {f : ι → List Rg} (i : ι) {I H : Hp} {L : List Rg} (hp : I p = some (.tup (vs i))) (h : Sep I (f i ++ L) H) : Sep I (exT p vs f :: L) H := by
  have h : Sep I (exR (fun _ : Unit => f i) :: L) H := Sep.close () h
  obtain ⟨R, b, k⟩ := h.hd
  exact k _ ⟨i, hp, b⟩
section
variable {X : Cx} {N : List Str} {sc : Scope} {own : Str → Bool} {α β γ δ ε ρ ν σo τ ι : Type} {A : Ty α} {B : Ty β} {C : Ty δ} {T : Tys τ} {e a b o : Expr} {es : List Expr} {ss : List Stmt} {x m : Str} {pos p apos p2 : Pos} {Γ gx : List Slot} {L : γ → List Rg} {s : γ} {xt : XT ε} {q qa Cl fi : Addr} {L0 : List Rg} {CX : CXT} {n : Nat} {fd : FuncData} {ps : List Str}
  {gn : ν → List Slot} {ln : ν → List Rg} {rt : RT ρ} {M : Out ε ρ ν}
abbrev vs2 (q : Addr × Addr) : List V := [.ref q.1, .ref q.2]
def psi2 (A : Ty α) (B : Ty β) : (List α × List β × Unit) → Addr → List Rg := fun d r => [exT r vs2 (fun q : Addr × Addr => [cell q.1 (cLst A d.1), cell q.2 (cLst B d.2.1)])]
theorem em_tup2 {x1} {m1 : Res ε (List α × γ)} {m2 : List α → γ → Res ε (List β × γ)} (h1 : EN X a Γ L s (cLst A) xt m1) (h2 : ∀ q d s, EN X b Γ (fun s => cell q (cLst A d) :: L s) s (cLst B) xt (m2 d s)) (hx : ∀ x, xt.regs x = [])
    (hst : starEach [a, b] X.env = (false, eval a X.env) :: starEach [b] X.env := by exact star_c rfl) (hst2 : starEach [b] X.env = (false, eval b X.env) :: starEach [] X.env := by exact star_c rfl) :
    EM X (.Tuple [a, b] x1 pos) Γ L s (psi2 A B) xt (m1.bnd fun d1 s1 => (m2 d1 s1).bnd fun d2 s2 => Res.val ((d1, d2, ()), s2)) := fun I σ F H Q fr th => by
  refine PE_to (pe_tup (pa_cons pe_w (pa_cons pe_w pa_nil hst2) hst)) ?_
  refine h1 I σ F H _ fr ?_
  cases m1 with
  | stuck => exact th
  | exn y => exact th
  | val pr1 =>
    obtain ⟨d1, s1⟩ := pr1
    intro I1 q1 H1 e1 fr1
    refine (h2 q1 d1 s1) I1 σ F H1 _ fr1 ?_
    dsimp only [Res.bnd] at th
    cases hm : m2 d1 s1 with
    | stuck => rw [hm] at th; exact th
    | exn y =>
      rw [hm] at th
      exact fun I' H' c da e2 fr2 r => th I' H' c da (e1.trans e2) fr2 r
    | val pr =>
      rw [hm] at th
      obtain ⟨d2, s2⟩ := pr
      intro I2 q2 H2 e2 fr2
      refine ⟨by show 2 ≤ sizeLine; decide, fun q3 hq3 => ?_⟩
      have e3 : Same I2 (upd I2 q3 (.tup [.ref q1, .ref q2])) := Same.upd (fr2.sep.same.free hq3)
      have fr3 := fr2.step e3 (fr2.sep.imm (o := .tup [.ref q1, .ref q2]) hq3)
      refine th _ q3 _ ((e1.trans e2).trans e3) ⟨?_, fr3.len, fr3.sl⟩
      refine Sep.closeT (ι := Addr × Addr) (q1, q2) upd_same ?_
      exact fr3.sep.perm (.swap _ _ _)
/-- o.m(..), which hands back such a thing -/
theorem em_meth {ψ : δ → Addr → List Rg} {T0 : Tys τ} {To : Tys σo} {ns : List Str} {g : (σo × τ) → Unit → Res ε (δ × Unit)} {mo : Res ε (σo × γ)} {ma : σo → γ → Res ε (τ × γ)} (c : Cls X.K Cl) (hm : Meth X.K Cl m fi)
    (F : FnOk X.prog X.w X.K X.mg X.base CX n fi fd ps (spec (fun _ : Unit => Tys.cons (tObj Cl ns To) T0) (fun _ _ => []) (fun _ => rtM ψ (fun _ => [])) (fun _ => xt) g))
    (hr : Room n X.A) (hb : Binds X.K fd ps []) (pw : PassW CX X) (ho : EF X o Γ L s (tObj Cl ns To) xt mo) (ha : ∀ d s1, AF X (e :: es) Γ L s1 T0 xt (ma d s1)) (hx : ∀ x, xt.regs x = []) (hmn : m ∉ ns := by decide) {pl : Sem Bool}
    (hst : starEach (e :: es) X.env = (false, eval e X.env) :: starEach es X.env := by exact star_c rfl) (hpl : (backTo pos (starEach es X.env)).any (·.1) = false := by rfl)
    (ht : eval (.Call (.Attribute o m apos) (e :: es) [] pos) X.env = (do
      let ov ← eval o X.env
      standAt apos.atName
      let (f, first) ← holding [ov] (getMethod ov m pl)
      callWith pos f first (backTo pos (starEach (e :: es) X.env)) (backToKw pos (keywordEach [] X.env))) := by rfl) :
    EM X (.Call (.Attribute o m apos) (e :: es) [] pos) Γ L s ψ xt (mo.bnd fun d s1 => (ma d s1).bnd fun t s2 => (g (d, t) ()).up s2) := fun I σ F' H Q fr th => by
  refine PE_to (pe_methX pe_w c hm F hr hb pw pa_w hst hpl ht) ?_
  refine ho I σ F' H _ fr ?_
  cases mo with
  | stuck => exact th
  | exn y => exact th
  | val mp =>
    obtain ⟨d, s1⟩ := mp
    intro I1 v H1 e1 fr1 rv
    dsimp only [Res.bnd] at th
    obtain ⟨pa, dx, fs, vs0, rfl, q1, q2, q3, q4⟩ := rv
    refine ⟨pa, dx, fs, rfl, fr1.sep.same _ _ q1, q4 m hmn, ?_⟩
    refine ha d s1 I1 σ F' H1 _ fr1 ?_
    cases hma : ma d s1 with
    | stuck => rw [hma] at th; exact th
    | exn y =>
      rw [hma] at th
      exact fun I' H' c da e2 fr2 r => th I' H' c da (e1.trans e2) fr2 r
    | val mt =>
      rw [hma] at th
      obtain ⟨t, s2⟩ := mt
      dsimp only at th
      intro I2 vs H2 e2 fr2 rv2
      refine ⟨(), I2, L s2 ++ F', (d, t), (), fr2.sep, ⟨_, _, rfl, ⟨pa, dx, fs, vs0, rfl, e2 _ _ q1, To.mono e2 q2, q3, q4⟩, rv2⟩, ?_⟩
      cases hgv : g (d, t) () with
      | stuck => rw [hgv] at th; exact th
      | exn y =>
        rw [hgv] at th
        intro I3 H3 c da e3 se3 r3
        refine th I3 H3 c da ((e1.trans e2).trans e3) (fr2.step e3 ?_) r3
        rw [hx] at se3 ⊢
        exact sep_drop (L s2) se3
      | val pr =>
        rw [hgv] at th
        intro I3 v3 H3 e3 se3 ⟨r, r2⟩
        subst r2
        refine th I3 r H3 ((e1.trans e2).trans e3) (fr2.step e3 ?_)
        have se3 : Sep I3 ((ψ pr.1 r ++ []) ++ (L s2 ++ F')) H3 := se3
        rwa [List.append_nil] at se3
theorem en_meth {φ : δ → CP} {T0 : Tys τ} {To : Tys σo} {ns : List Str} {g : (σo × τ) → Unit → Res ε (δ × Unit)} {mo : Res ε (σo × γ)} {ma : σo → γ → Res ε (τ × γ)} (c : Cls X.K Cl) (hm : Meth X.K Cl m fi)
    (F : FnOk X.prog X.w X.K X.mg X.base CX n fi fd ps (spec (fun _ : Unit => Tys.cons (tObj Cl ns To) T0) (fun _ _ => []) (fun _ => rtN φ (fun _ => [])) (fun _ => xt) g))
    (hr : Room n X.A) (hb : Binds X.K fd ps []) (pw : PassW CX X) (ho : EF X o Γ L s (tObj Cl ns To) xt mo) (ha : ∀ d s1, AF X (e :: es) Γ L s1 T0 xt (ma d s1)) (hx : ∀ x, xt.regs x = []) (hmn : m ∉ ns := by decide) {pl : Sem Bool}
    (hst : starEach (e :: es) X.env = (false, eval e X.env) :: starEach es X.env := by exact star_c rfl) (hpl : (backTo pos (starEach es X.env)).any (·.1) = false := by rfl)
    (ht : eval (.Call (.Attribute o m apos) (e :: es) [] pos) X.env = (do
      let ov ← eval o X.env
      standAt apos.atName
      let (f, first) ← holding [ov] (getMethod ov m pl)
      callWith pos f first (backTo pos (starEach (e :: es) X.env)) (backToKw pos (keywordEach [] X.env))) := by rfl) :
    EN X (.Call (.Attribute o m apos) (e :: es) [] pos) Γ L s φ xt (mo.bnd fun d s1 => (ma d s1).bnd fun t s2 => (g (d, t) ()).up s2) := fun I σ F' H Q fr th => by
  refine PE_to (pe_methX pe_w c hm F hr hb pw pa_w hst hpl ht) ?_
  refine ho I σ F' H _ fr ?_
  cases mo with
  | stuck => exact th
  | exn y => exact th
  | val mp =>
    obtain ⟨d, s1⟩ := mp
    intro I1 v H1 e1 fr1 rv
    dsimp only [Res.bnd] at th
    obtain ⟨pa, dx, fs, vs0, rfl, q1, q2, q3, q4⟩ := rv
    refine ⟨pa, dx, fs, rfl, fr1.sep.same _ _ q1, q4 m hmn, ?_⟩
    refine ha d s1 I1 σ F' H1 _ fr1 ?_
    cases hma : ma d s1 with
    | stuck => rw [hma] at th; exact th
    | exn y =>
      rw [hma] at th
      exact fun I' H' c da e2 fr2 r => th I' H' c da (e1.trans e2) fr2 r
    | val mt =>
      rw [hma] at th
      obtain ⟨t, s2⟩ := mt
      dsimp only at th
      intro I2 vs H2 e2 fr2 rv2
      refine ⟨(), I2, L s2 ++ F', (d, t), (), fr2.sep, ⟨_, _, rfl, ⟨pa, dx, fs, vs0, rfl, e2 _ _ q1, To.mono e2 q2, q3, q4⟩, rv2⟩, ?_⟩
      cases hgv : g (d, t) () with
      | stuck => rw [hgv] at th; exact th
      | exn y =>
        rw [hgv] at th
        intro I3 H3 c da e3 se3 r3
        refine th I3 H3 c da ((e1.trans e2).trans e3) (fr2.step e3 ?_) r3
        rw [hx] at se3 ⊢
        exact sep_drop (L s2) se3
      | val pr =>
        rw [hgv] at th
        intro I3 v3 H3 e3 se3 ⟨r, r2⟩
        subst r2
        exact th I3 r H3 ((e1.trans e2).trans e3) (fr2.step e3 se3)
/-- x = such a tuple -/
theorem sf_asgT2 {mm : Res ε ((List α × List β × Unit) × γ)} {k : (List α × List β × Unit) → γ → Out ε ρ ν} (cx : Cxt X N sc own) (i : Nat) (h : EM X e Γ L s (psi2 A B) xt mm)
    (hr : ∀ q1 q2 d s', SF X ss (Γ.set i (.dat (tTup (Tys2 (tCell q1) (tCell q2))) ((), (), ()))) (cell q1 (cLst A d.1) :: (cell q2 (cLst B d.2.1) :: L s')) gn ln rt xt gx (k d s')) (hi : N[i]? = some x := by rfl) (ho : own x = true := by decide +kernel) (wk : Wk Γ gx := by first | exact Wk.nil | exact Wk.rfl)
    (hs : swapsWith e (some (.Name x p)) pos.line X.env = pure false := by rfl) : SF X (.Assign [.Name x p] e pos :: ss) Γ (L s) gn ln rt xt gx (Out.bnd mm k) := fun I σ F H D fr th => by
  obtain ⟨h1, h2⟩ := cx.st x ho
  refine PSs_to (pss_cons (ps_set (by rw [cx.hN]; exact cx.nd) (by rw [cx.hN]; exact hi) h1 pe_w hs h2) pss_w) ?_
  refine SThen.bndM h wk fr th fun I1 q H1 d s1 e1 fr1 th1 => ?_
  obtain ⟨⟨q1, q2⟩, ht, se⟩ := Sep.openT (ι := Addr × Addr) fr1.sep
  have fr2 : FrOk I1 σ Γ (cell q1 (cLst A d.1) :: (cell q2 (cLst B d.2.1) :: (L s1 ++ F))) H1 := ⟨se, fr1.len, fr1.sl⟩
  exact hr q1 q2 d s1 I1 _ F H1 D (fr2.set (A := tTup (Tys2 (tCell q1) (tCell q2))) (d := ((), (), ())) ⟨q, _, rfl, ht, _, _, rfl, rfl, _, _, rfl, rfl, rfl⟩ i) th1
theorem slotTo_tou1 {T2 : Ty β} {t2 : β} {xs : List α} {i : Nat} {q1 : Addr} (hi : Γ[i]? = some (.dat (tTup (Tys2 (tCell q1) T2)) ((), t2, ()))) : SlotTo Γ (Γ.set i (.dat (tTup (Tys2 (tLst A) T2)) (xs, t2, ()))) q1 (cLst A xs) := ⟨by rw [List.length_set], fun I0 I σ o hq ⟨vs, e, pd⟩ sm ok => by
  have e0 : Same I0 I := fun b u hb => sm b u (by rw [upd_ne (ne_of_none hb hq)]; exact hb)
  intro j s hj
  by_cases hij : i = j
  · subst hij
    have il : i < Γ.length := (List.getElem?_eq_some_iff.mp hi).1
    rw [List.getElem?_set_self il] at hj
    cases hj
    obtain ⟨v, hv, p, ws, rfl, hp, a, as, rfl, ha, hr⟩ := ok i _ hi
    have ha : a = .ref q1 := ha
    refine ⟨.ref p, hv, p, _, rfl, e0 _ _ hp, a, as, rfl, ⟨q1, vs, ha, sm _ _ (by rw [upd_same, e]), paired_mono e0 pd⟩, (Tys.cons T2 Tys.nil).mono e0 hr⟩
  · rw [List.getElem?_set_ne hij] at hj
    exact (ok j s hj).mono e0⟩
/-! ### slices, tuples of unlike things -/
theorem ef_cut2 {lo : Option Expr} {mm : Res ε ((α × β × τ) × γ)} (h : EF X e Γ L s (tTup (Tys.cons A (Tys.cons B T))) xt mm) (hl : ∀ s, OP X lo Γ (L s) (some 2)) : EF X (.Subscript e (.Slice lo none none p2) pos) Γ L s (tTup T) xt (mm.bnd fun x s => Res.val (x.2.2, s)) := fun I σ F H Q fr th => by
  have pl : ∀ oe, PO X oe (fun σ H Q => ∃ t, PO X oe t ∧ t σ H Q) := fun oe => ⟨fun pins s σ H Q I h => let ⟨t, p, q⟩ := h; p.run pins s σ H Q I q⟩
  refine PE_to (pe_slice sl_tupA pe_w (pl _) (pl _)) ?_
  refine Then.bnd h fr th fun I1 v H1 d s1 e1 fr1 rv th1 => ?_
  obtain ⟨tl, ptl, ql⟩ := hl s1
  refine ⟨tl, ptl, ql I1 σ F H1 _ fr1 ?_⟩
  intro I2 H2 e2 fr2
  obtain ⟨th', pth, qh⟩ := (op_none : OP X none Γ (L s1) none)
  refine ⟨th', pth, qh I2 σ F H2 _ fr2 ?_⟩
  intro I3 H3 e3 fr3
  obtain ⟨p, vs, rfl, h2, w1, r1, rfl, ra, w2, r2, rfl, rb, rt⟩ := rv
  have e4 : Same I1 I3 := e2.trans e3
  have h0 : HT.sIx (w1 :: w2 :: r2).length 0 (some 2) = 2 := by
    rw [show (2 : Int) = ((2 : Nat) : Int) from rfl, HT.sIx_nat]
    simp only [List.length_cons]
    omega
  refine ⟨p, _, rfl, SqT.of (fr3.sep.same _ _ (e4 _ _ h2)), fun hw => ?_, fun _ l hl => ?_⟩
  · rw [h0] at hw; exact absurd hw.1 (by decide)
  · have e5 : Same I3 (upd I3 l (.tup r2)) := Same.upd (fr3.sep.same.free hl)
    have hc : cutV (w1 :: w2 :: r2) (some 2) none = r2 := by
      unfold cutV
      rw [h0]
      show List.take _ r2 = r2
      refine List.take_of_length_le ?_
      unfold HT.sIx
      simp only [List.length_cons]
      omega
    rw [hc]
    exact th1 (upd I3 l (.tup r2)) _ _ (e4.trans e5) (fr3.step e5 (fr3.sep.imm hl)) ⟨l, r2, rfl, upd_same, T.mono (e4.trans e5) rt⟩
theorem ep_tupTu2 {x y : α} (h : EP X e Γ L0 (tTup (Tys2 A A)) (x, y, ())) : EP X e Γ L0 (tTuL A) [x, y] := fun I σ F H Q fr th => h I σ F H Q fr fun I' v H' e1 fr1 r => by
  obtain ⟨p, vs, rfl, hp, a, as, rfl, ha, b, bs, rfl, hb, rfl⟩ := r
  exact th I' _ H' e1 fr1 ⟨p, _, rfl, hp, .cons ha (.cons hb .nil)⟩
theorem ef_tupTu2 {mm : Res ε ((α × α × Unit) × γ)} (h : EF X e Γ L s (tTup (Tys2 A A)) xt mm) : EF X e Γ L s (tTuL A) xt (mm.bnd fun x s => Res.val ([x.1, x.2.1], s)) := ef_map (C := tTuL A) (f := fun x => [x.1, x.2.1]) h fun I v d r => by
  obtain ⟨p, vs, rfl, hp, a, as, rfl, ha, b, bs, rfl, hb, rfl⟩ := r
  exact ⟨p, _, rfl, hp, .cons ha (.cons hb .nil)⟩
theorem ef_tupTuD {cs : τ → List PyData} {mm : Res ε (τ × γ)} (hc : CoesOk T cs) (h : EF X e Γ L s (tTup T) xt mm) : EF X e Γ L s (tTuL (tD X.K)) xt (mm.bnd fun x s => Res.val (cs x, s)) := ef_map (C := tTuL (tD X.K)) h fun I v d r => by
  obtain ⟨p, vs, rfl, h1, h2⟩ := r
  exact ⟨p, vs, rfl, h1, dpAll_paired (hc X.K I _ _ h2)⟩
theorem d_eqD2 {k : α → PyData} {k' : β → PyData} (hc : CoeOk A k) (hc' : CoeOk B k') {K : PySem.W.Frag} : D2 (rEqD K) A B tBool (fun x y => eqOk (k x) (k' y)) (fun x y => PyData.eqv (k x) (k' y)) := fun I L H v w x y Q se rv rw hp kk =>
  ⟨_, _, dp_mono se.same (hc K I v x rv), dp_mono se.same (hc' K I w y rw), hp.1, hp.2, kk I _ H (Same.refl _) se rfl⟩
theorem d_neD2 {k : α → PyData} {k' : β → PyData} (hc : CoeOk A k) (hc' : CoeOk B k') {K : PySem.W.Frag} : D2 (rNeD K) A B tBool (fun x y => eqOk (k x) (k' y)) (fun x y => !PyData.eqv (k x) (k' y)) := fun I L H v w x y Q se rv rw hp kk =>
  ⟨_, _, dp_mono se.same (hc K I v x rv), dp_mono se.same (hc' K I w y rw), hp.1, hp.2, kk I _ H (Same.refl _) se rfl⟩
/-- statements under a guard -/
theorem sf_grdS {P : Prop} [Decidable P] (h : P → SF X ss Γ L0 gn ln rt xt gx M) : SF X ss Γ L0 gn ln rt xt gx (if P then M else .stuck) := by
  by_cases hp : P
  · rw [if_pos hp]; exact h hp
  · rw [if_neg hp]; exact fun I σ F H D fr th => th.elim
/-- {k: v}, k an int or a text -/
theorem en_dictK1 {κ : Type} [DecidableEq κ] {K : Kt κ} {A : Ty α} {k v : Expr} {key : κ} {mv : Res ε (α × γ)} (hk : EP X k Γ (L s) K.T key) (hv : EF X v Γ L s A xt mv) (hx : ∀ x, xt.regs x = []) (hK : K.holds [] = .dK [] := by rfl) : EN X (.Dict [some k] [v] pos) Γ L s (cDic K A) xt (mv.bnd fun d s => Res.val ([(key, d)], s)) := fun I σ F H Q fr th => by
  refine PE_to (pe_disp (pps_cons pe_w pe_w pps_nil) rfl rfl (by simp) (by simp)) ?_
  intro d hd
  have se1 : Sep I (cell d (cDic K A []) :: (L s ++ F)) (upd H d (.dK [])) := fr.sep.new hd ⟨[], hK.symm, .nil⟩
  have fr1 : FrOk I σ Γ (L s ++ (cell d (cDic K A []) :: F)) (upd H d (.dK [])) := ⟨se1.perm List.perm_middle.symm, fr.len, fr.sl⟩
  refine hk.run fr1 fun I1 y H1 e1 fr2 ry => ?_
  refine hv I1 σ (cell d (cDic K A []) :: F) H1 _ fr2 ?_
  cases mv with
  | stuck => exact th
  | exn x =>
    intro I2 H2 c da e2 fr3 r
    refine th I2 H2 c da (e1.trans e2) ⟨?_, fr3.len, fr3.sl⟩ r
    have se := fr3.sep
    rw [hx] at se ⊢
    exact se.tail
  | val pr =>
    intro I2 z H2 e2 fr3 rz
    have se3 : Sep I2 (cell d (cDic K A []) :: (L pr.2 ++ F)) H2 := fr3.sep.perm List.perm_middle
    obtain ⟨o, ho, ⟨ws, rfl, pd⟩, hi⟩ := se3.get
    have hw : ws = [] := List.length_eq_zero_iff.mp pd.len
    subst hw
    have P := K.put (I := I2) (H := H2) (a := d) (ws := []) (k := key) (v := y) (y := z) ho se3.same (K.T.mono e2 ry) (by show 0 < sizeLine; decide)
    rcases P with ⟨kvs, k2, e, ey, l, eH⟩ | ⟨kvs, k2, b, e, _⟩
    · rw [ho, hK] at e
      cases e
      have eo : K.holds [(key, z)] = .dK [(k2, z)] := by
        have := congrFun eH d
        rw [upd_same, upd_same] at this
        exact Option.some.inj this
      refine ⟨by rw [ho, hK], [(k2, z)], by rw [ey]; rfl, by show 1 ≤ 15; decide, ?_⟩
      have em : mergeK [] [(k2, z)] = [(k2, z)] := rfl
      rw [em, ← eo]
      exact th I2 d _ (e1.trans e2) ⟨se3.put ⟨[(key, z)], rfl, .cons ⟨rfl, rz⟩ .nil⟩, fr3.len, fr3.sl⟩
    · rw [ho, hK] at e; cases e
end
end Fw


/-! ## 210. list(zip(a, b)) -/
namespace PySem.W
open PySem PySem.Calls PyProof.Rows PyProof.V PySem.Spec
theorem lz_no_len : typeLookup (.type "zip") "__len__" = pure none := am_miss_of_fast (by decide +kernel)
theorem lz_no_hint : typeLookup (.type "zip") "__length_hint__" = pure none := am_miss_of_fast (by decide +kernel)
/-- a zip in the midst, its last tuple out -/
structure LzSt (h : Heap) (z TI TO i1 i2 l1 l2 S : Addr) (xs ys : Array Value) (i : Nat) : Prop where
  ti : IsPair h TI (.ref i1) (.ref i2)
  a1 : h.IsListIter i1 l1 i
  a2 : h.IsListIter i2 l2 i
  b1 : h.IsList l1 xs
  b2 : h.IsList l2 ys
  zz : (∃ a b, IsZip h z TI TO .none ∧ IsPair h TO a b) ∨ ∃ T f oT, IsZipHeld h z TI TO T f ∧ h.get? T = some oT ∧ S < T
section
variable {prog : Program} {w : World} {A : Around} {E : Value → Shared → Prop} {s : Shared} {z TI TO i1 i2 l1 l2 S : Addr} {xs ys : Array Value} {i : Nat}
structure LzAp (z TI TO i1 i2 l1 l2 S : Addr) : Prop where
  D : ZipApart z TI TO i1 i2 l1 l2
  z : z < S
  ti : TI < S
  to : TO < S
  i1 : i1 < S
  i2 : i2 < S
  l1 : l1 < S
  l2 : l2 < S
theorem lz_item {x y : Value} {Q : Option Value → Shared → Prop} (P : LzAp z TI TO i1 i2 l1 l2 S) (st : LzSt s.heap z TI TO i1 i2 l1 l2 S xs ys i) (hS : S < s.heap.objs.size) (hx : xs[i]? = some x) (hy : ys[i]? = some y)
    (hQ : ∀ h', LzSt h' z TI TO i1 i2 l1 l2 S xs ys (i + 1) → IsPair h' s.heap.objs.size x y → h'.objs.size = s.heap.objs.size + 1 → (∀ c o, c ≠ z → c ≠ TO → c ≠ i1 → c ≠ i2 → s.heap.get? c = some o → h'.get? c = some o) → Q (some (.ref s.heap.objs.size)) { s with heap := h' }) :
    wpAny (model prog w) A (pyNext (.ref z)) Q E s := by
  obtain ⟨ti, a1, a2, b1, b2, zz⟩ := st
  have D := P.D
  rcases zz with ⟨a, b, hz, hto⟩ | ⟨T, f, oT, hz, hT, hST⟩
  · refine wpAny_pyNext_zip_item D hz ti hto a1 a2 b1 b2 hx hy fun h' q1 q2 q3 q4 q5 q6 q7 => hQ h' ⟨q7 _ _ D.TIz D.TITO D.TIi1 D.TIi2 ti, q3, q4, ?_, ?_, .inr ⟨s.heap.objs.size, false, _, q1, q5, hS⟩⟩ q5 q6 q7
    · obtain ⟨o, e1, e2⟩ := b1
      exact ⟨o, q7 _ _ D.l1z D.l1TO D.l1i1 D.l1i2 e1, e2⟩
    · obtain ⟨o, e1, e2⟩ := b2
      exact ⟨o, q7 _ _ D.l2z D.l2TO D.l2i1 D.l2i2 e1, e2⟩
  · refine wpAny_pyNext_zip_item_held D hz hT ti a1 a2 b1 b2 hx hy fun h' q1 q3 q4 q5 q6 q7 => hQ h' ⟨q7 _ _ D.TIz D.TIi1 D.TIi2 ti, q3, q4, ?_, ?_, .inr ⟨T, true, oT, q1, q7 _ _ (Nat.ne_of_gt (Nat.lt_trans P.z hST)) (Nat.ne_of_gt (Nat.lt_trans P.i1 hST)) (Nat.ne_of_gt (Nat.lt_trans P.i2 hST)) hT, hST⟩⟩ q5 q6 fun c o c1 _ c3 c4 e => q7 c o c1 c3 c4 e
    · obtain ⟨o, e1, e2⟩ := b1
      exact ⟨o, q7 _ _ D.l1z D.l1i1 D.l1i2 e1, e2⟩
    · obtain ⟨o, e1, e2⟩ := b2
      exact ⟨o, q7 _ _ D.l2z D.l2i1 D.l2i2 e1, e2⟩
theorem lz_done {Q : Option Value → Shared → Prop} (hh : A.handled = none) (P : LzAp z TI TO i1 i2 l1 l2 S) (st : LzSt s.heap z TI TO i1 i2 l1 l2 S xs ys i) (hend : xs[i]? = none ∨ ys[i]? = none)
    (hQ : ∀ h', (∀ c o, c ≠ z → c ≠ TO → c ≠ i1 → c ≠ i2 → s.heap.get? c = some o → h'.get? c = some o) → Q none { s with heap := h' }) : wpAny (model prog w) A (pyNext (.ref z)) Q E s := by
  obtain ⟨ti, a1, a2, b1, b2, zz⟩ := st
  rcases zz with ⟨a, b, hz, hto⟩ | ⟨T, f, oT, hz, hT, hST⟩
  · exact wpAny_pyNext_zip_end hh P.D hz ti hto a1 a2 b1 b2 hend hQ
  · exact wpAny_pyNext_zip_end_held hh P.D hz hT ti a1 a2 b1 b2 hend fun h' k => hQ h' fun c o c1 _ c3 c4 e => k c o c1 c3 c4 e
theorem LzSt.keep {h h' : Heap} (P : LzAp z TI TO i1 i2 l1 l2 S) (st : LzSt h z TI TO i1 i2 l1 l2 S xs ys i) (hk : ∀ b o, b ≠ S → h.get? b = some o → h'.get? b = some o) : LzSt h' z TI TO i1 i2 l1 l2 S xs ys i := by
  obtain ⟨ti, ⟨o1, e1, f1⟩, ⟨o2, e2, f2⟩, ⟨o3, e3, f3⟩, ⟨o4, e4, f4⟩, zz⟩ := st
  refine ⟨hk _ _ (Nat.ne_of_lt P.ti) ti, ⟨o1, hk _ _ (Nat.ne_of_lt P.i1) e1, f1⟩, ⟨o2, hk _ _ (Nat.ne_of_lt P.i2) e2, f2⟩, ⟨o3, hk _ _ (Nat.ne_of_lt P.l1) e3, f3⟩, ⟨o4, hk _ _ (Nat.ne_of_lt P.l2) e4, f4⟩, ?_⟩
  rcases zz with ⟨a, b, hz, hto⟩ | ⟨T, f, oT, hz, hT, hST⟩
  · exact .inl ⟨a, b, hk _ _ (Nat.ne_of_lt P.z) hz, hk _ _ (Nat.ne_of_lt P.to) hto⟩
  · exact .inr ⟨T, f, oT, hk _ _ (Nat.ne_of_lt P.z) hz, hk _ _ (Nat.ne_of_gt hST) hT, hST⟩
/-- the tuples that came out -/
structure LzG (xs ys : Array Value) (lo : Addr) (h : Heap) (as : List Addr) : Prop where
  rise : as.Pairwise (· < ·)
  above : ∀ a ∈ as, lo < a
  pairs : ∀ (j : Nat) (a : Addr), as[j]? = some a → ∃ x y, xs[j]? = some x ∧ ys[j]? = some y ∧ IsPair h a x y
theorem LzG.there {lo : Addr} {h : Heap} {as : List Addr} (g : LzG xs ys lo h as) {a : Addr} (ha : a ∈ as) : a < h.objs.size := by
  obtain ⟨j, hj⟩ := List.mem_iff_getElem?.mp ha
  obtain ⟨_, _, _, _, e⟩ := g.pairs j a hj
  exact Heap.lt_size e
variable {R : Result → Shared → Prop}
theorem lz_loop (hh : A.handled = none) (P : LzAp z TI TO i1 i2 l1 l2 S) (hn : min xs.size ys.size ≤ sizeLine) (res : Value) {h₁ : Heap}
    (hR : ∀ h' tk acc c as, (∀ b o, b ≠ S → b ≠ z → b ≠ TO → b ≠ i1 → b ≠ i2 → h₁.get? b = some o → h'.get? b = some o) → h'.get? S = some { cls := .type "list", dict := none, data := .seq acc c, slots := #[] } → as.length = min xs.size ys.size → LzG xs ys S h' as →
      acc.toList = as.map Value.ref → R (.ok (.ret res)) { s with heap := h', toks := tk }) :
    ∀ (k i : Nat) (h : Heap) (tk c : Nat) (acc : Array Value) (as : List Addr), min xs.size ys.size - i = k → i ≤ min xs.size ys.size → LzSt h z TI TO i1 i2 l1 l2 S xs ys i → (∀ b o, b ≠ S → b ≠ z → b ≠ TO → b ≠ i1 → b ≠ i2 → h₁.get? b = some o → h.get? b = some o) →
      h.get? S = some { cls := .type "list", dict := none, data := .seq acc c, slots := #[] } → acc.toList = as.map Value.ref → as.length = i → LzG xs ys S h as →
      codeAny (model prog w) A (.builtin "list.extend.loop" ⟨[.ref S, .ref z, res], []⟩) R { s with heap := h, toks := tk } := by
  have nz : S ≠ z := Nat.ne_of_gt P.z
  have nto : S ≠ TO := Nat.ne_of_gt P.to
  have n1 : S ≠ i1 := Nat.ne_of_gt P.i1
  have n2 : S ≠ i2 := Nat.ne_of_gt P.i2
  intro k
  induction k with
  | zero =>
    intro i h tk c acc as hk hi hst hkeep hS hacc hal hG
    have hin : i = min xs.size ys.size := by omega
    refine codeAny_builtin PySem.F.entry_extend_loop ?_
    rw [Around.under_plainId PySem.F.plain_extend_loop _]
    show wpAny _ A.in1 (pyNext (.ref z) >>= _) _ _ _
    have hend : xs[i]? = none ∨ ys[i]? = none := by
      by_cases hxy : xs.size ≤ ys.size
      · exact .inl (Array.getElem?_eq_none (by omega))
      · exact .inr (Array.getElem?_eq_none (by omega))
    refine wpAny_bind (lz_done (s := { s with heap := h, toks := tk }) (A := A.in1) hh P hst hend fun h' he => ?_)
    refine wpAny_pure (hR h' tk acc c as (fun b o h1 h2 h3 h4 h5 e => he b o h2 h3 h4 h5 (hkeep b o h1 h2 h3 h4 h5 e)) (he S _ nz nto n1 n2 hS) (by omega) ⟨hG.rise, hG.above, fun j a hj => ?_⟩ hacc)
    obtain ⟨x, y, e1, e2, e3⟩ := hG.pairs j a hj
    have ab := hG.above a (List.mem_of_getElem? hj)
    exact ⟨x, y, e1, e2, he a _ (Nat.ne_of_gt (Nat.lt_trans P.z ab)) (Nat.ne_of_gt (Nat.lt_trans P.to ab)) (Nat.ne_of_gt (Nat.lt_trans P.i1 ab)) (Nat.ne_of_gt (Nat.lt_trans P.i2 ab)) e3⟩
  | succ k ih =>
    intro i h tk c acc as hk hi hst hkeep hS hacc hal hG
    obtain ⟨x, hx⟩ : ∃ p, xs[i]? = some p := ⟨xs[i]'(by omega), Array.getElem?_eq_getElem (by omega)⟩
    obtain ⟨y, hy⟩ : ∃ p, ys[i]? = some p := ⟨ys[i]'(by omega), Array.getElem?_eq_getElem (by omega)⟩
    have hsz : acc.size = i := by rw [← Array.length_toList, hacc, List.length_map, hal]
    have hSl : S < h.objs.size := Heap.lt_size hS
    refine codeAny_builtin PySem.F.entry_extend_loop ?_
    rw [Around.under_plainId PySem.F.plain_extend_loop _]
    show wpAny _ A.in1 (pyNext (.ref z) >>= _) _ _ _
    refine wpAny_bind (lz_item (s := { s with heap := h, toks := tk }) P hst hSl hx hy fun h' hst' ht hz hkp => ?_)
    dsimp only at ht hz hkp ⊢
    have hS' := hkp S _ nz nto n1 n2 hS
    have up : ∀ b o, b ≠ S → h'.get? b = some o → (h'.update S (Obj.mapSeq (·.push (Value.ref h.objs.size)))).get? b = some o := fun b o hb e => (Heap.get?_update_other _ _ (Ne.symm hb)).trans e
    show wpAny _ A.in1 (updateSeq S (·.push (Value.ref h.objs.size)) >>= _) _ _ _
    refine wpAny_bind ?_
    refine wpAny_updateSeq hS' rfl (wpAny_pure ⟨plainId_quiet PySem.F.plain_extend_loop _, ih (i + 1) _ tk _ (acc.push (Value.ref h.objs.size)) (as ++ [h.objs.size]) (by omega) (by omega) (hst'.keep P up)
      (fun b o h1 h2 h3 h4 h5 e => up b o h1 (hkp b o h2 h3 h4 h5 (hkeep b o h1 h2 h3 h4 h5 e))) (Heap.get?_update_self _ hS' rfl) (by rw [Array.toList_push, hacc, List.map_append]; rfl) (by rw [List.length_append, hal]; rfl) ⟨?_, ?_, ?_⟩⟩) (by rw [hsz]; omega) (by show (acc.push (Value.ref h.objs.size)).size ≤ sizeLine + 1; rw [Array.size_push, hsz]; omega)
    · refine List.pairwise_append.mpr ⟨hG.rise, List.pairwise_singleton _ _, fun a ha b hb => ?_⟩
      rw [List.mem_singleton.mp hb]
      exact hG.there ha
    · intro a ha
      rcases List.mem_append.mp ha with ha | ha
      · exact hG.above a ha
      · rw [List.mem_singleton.mp ha]; exact hSl
    · intro j b hj
      rcases Nat.lt_trichotomy j as.length with h1 | h1 | h1
      · rw [List.getElem?_append_left h1] at hj
        obtain ⟨x', y', e1, e2, e3⟩ := hG.pairs j b hj
        have ab := hG.above b (List.mem_of_getElem? hj)
        exact ⟨x', y', e1, e2, up b _ (Nat.ne_of_gt ab) (hkp b _ (Nat.ne_of_gt (Nat.lt_trans P.z ab)) (Nat.ne_of_gt (Nat.lt_trans P.to ab)) (Nat.ne_of_gt (Nat.lt_trans P.i1 ab)) (Nat.ne_of_gt (Nat.lt_trans P.i2 ab)) e3)⟩
      · subst h1
        have hb : h.objs.size = b := by simpa using hj
        subst hb
        exact ⟨x, y, by rw [hal]; exact hx, by rw [hal]; exact hy, up _ _ (Nat.ne_of_gt hSl) ht⟩
      · have hnone : (as ++ [h.objs.size])[j]? = none := List.getElem?_eq_none (by rw [List.length_append, List.length_singleton]; omega)
        rw [hnone] at hj; cases hj
theorem lz_hint (hT : s.TypeIs (.ref z) "zip") {Q : Bool → Shared → Prop} (h : ∀ b, Q b s) : wpAny (model prog w) A (Builtin.List.listLengthHint (.ref z)) Q E s := by
  unfold Builtin.List.listLengthHint
  refine wpAny_bind (wpAny_specialOf hT lz_no_len ?_)
  refine wpAny_bind (wpAny_specialOf hT lz_no_hint ?_)
  exact wpAny_pure (h _)
theorem lz_extend (hh : A.handled = none) (P : LzAp z TI TO i1 i2 l1 l2 S) (hn : min xs.size ys.size ≤ sizeLine) (st : LzSt s.heap z TI TO i1 i2 l1 l2 S xs ys 0) (hz : IsZip s.heap z TI TO .none) (res : Value) (c₀ : Nat) (hS : s.heap.get? S = some { cls := .type "list", data := .seq #[] c₀ })
    (hR : ∀ h' tk acc c as, (∀ b o, b ≠ S → b ≠ z → b ≠ TO → b ≠ i1 → b ≠ i2 → s.heap.get? b = some o → h'.get? b = some o) → h'.get? S = some { cls := .type "list", dict := none, data := .seq acc c, slots := #[] } → as.length = min xs.size ys.size → LzG xs ys S h' as →
      acc.toList = as.map Value.ref → R (.ok (.ret res)) { s with heap := h', toks := tk }) :
    wpAny (model prog w) A.in1 (Builtin.List.listExtendWith (.ref S) (.ref z) res)
      (fun fin s' => match fin with | .done f => R (.ok f) s' | .again c' => c'.quiet = true ∧ codeAny (model prog w) A c' R s') (fun e s' => R (.error e) s') s := by
  have nz : S ≠ z := Nat.ne_of_gt P.z
  have hT : s.TypeIs (.ref z) "zip" := ⟨_, hz, rfl⟩
  have key : ∀ (h : Heap) (c₁ tk : Nat), (∀ b o, b ≠ S → s.heap.get? b = some o → h.get? b = some o) → h.get? S = some { cls := .type "list", data := .seq #[] c₁ } → codeAny (model prog w) A (.builtin "list.extend.loop" ⟨[.ref S, .ref z, res], []⟩) R { s with heap := h, toks := tk } := by
    intro h c₁ tk hk hS₁
    exact lz_loop (s := s) (h₁ := s.heap) hh P hn res hR _ 0 h tk c₁ #[] [] rfl (Nat.zero_le _) (st.keep P hk) (fun b o hb _ _ _ _ e => hk b o hb e) hS₁ rfl rfl ⟨List.Pairwise.nil, (fun _ ha => nomatch ha), (fun j a hj => by simp at hj)⟩
  unfold Builtin.List.listExtendWith
  refine wpAny_bind (wpAny_typeOf (T := "zip") hT ?_)
  have h1 : Builtin.List.listSameRef (.ref S) (.ref z) = false := by simp [Builtin.List.listSameRef, nz]
  have h2 : (Value.type "zip" == Value.type "list") = false := by decide
  have h3 : (Value.type "zip" == Value.type "tuple") = false := by decide
  simp only [h1, h2, h3, Bool.or_false, Bool.false_eq_true, if_false]
  refine wpAny_bind (wpAny_pyIter_zip hz ?_)
  refine wpAny_bind (wpAny_holding (lz_hint hT fun rb => ?_))
  refine wpAny_ite_split (fun _ => ?_) (fun _ => wpAny_pure ⟨plainId_quiet PySem.F.plain_extend_loop _, key _ c₀ _ (fun b o _ e => e) hS⟩)
  refine wpAny_bind (wpAny_rule ?_)
  refine wpAny_bind ?_
  show wpAny _ _ (updateSeq S (·.push .none) >>= fun _ => updateSeq S (·.pop)) _ _ _
  refine wpAny_bind (wpAny_updateSeq hS rfl ?_)
  have hS₂ := Heap.get?_update_self (Obj.mapSeq (·.push Value.none)) hS rfl
  refine wpAny_updateSeq (hz := by seq_fits) hS₂ rfl ?_
  have hS₃ := Heap.get?_update_self (Obj.mapSeq (·.pop)) hS₂ rfl
  refine wpAny_pure ⟨plainId_quiet PySem.F.plain_extend_loop _, key _ _ _ (fun b o hb e => ?_) hS₃⟩
  exact (Heap.get?_update_other _ _ (Ne.symm hb)).trans ((Heap.get?_update_other _ _ (Ne.symm hb)).trans e)
theorem lz_init (hh : A.handled = none) (P : LzAp z TI TO i1 i2 l1 l2 S) (hn : min xs.size ys.size ≤ sizeLine) (st : LzSt s.heap z TI TO i1 i2 l1 l2 S xs ys 0) (hz : IsZip s.heap z TI TO .none) (hS : s.heap.get? S = some { cls := .type "list", data := .seq #[] })
    (hR : ∀ h' tk acc c as, (∀ b o, b ≠ S → b ≠ z → b ≠ TO → b ≠ i1 → b ≠ i2 → s.heap.get? b = some o → h'.get? b = some o) → h'.get? S = some { cls := .type "list", dict := none, data := .seq acc c, slots := #[] } → as.length = min xs.size ys.size → LzG xs ys S h' as →
      acc.toList = as.map Value.ref → R (.ok (.ret .none)) { s with heap := h', toks := tk }) :
    wpAny (model prog w) A.in1 (Builtin.«list.__init__» ⟨[.ref S, .ref z], []⟩)
      (fun fin s' => match fin with | .done f => R (.ok f) s' | .again c' => c'.quiet = true ∧ codeAny (model prog w) A c' R s') (fun e s' => R (.error e) s') s := by
  show wpAny _ _ (do let old ← Builtin.List.listItems (.ref S); Builtin.List.listUpdate (.ref S) (fun _ => #[]); letGo old.toList.reverse; Builtin.List.listExtendWith (.ref S) (.ref z) .none) _ _ s
  refine wpAny_bind ?_
  unfold Builtin.List.listItems
  refine wpAny_bind (wpAny_seqItems hS rfl (wpAny_pure ?_))
  show wpAny _ _ (updateSeq S (fun _ => #[]) >>= fun _ => letGo (#[] : Array Value).toList.reverse >>= fun _ => Builtin.List.listExtendWith (.ref S) (.ref z) .none) _ _ s
  refine wpAny_bind (wpAny_updateSeq hS rfl ?_)
  have hS₂ := Heap.get?_update_self (Obj.mapSeq (fun _ => (#[] : Array Value))) hS rfl
  have oth : ∀ b o, b ≠ S → s.heap.get? b = some o → (s.heap.update S (Obj.mapSeq (fun _ => (#[] : Array Value)))).get? b = some o :=
    fun b o hb e => (Heap.get?_update_other _ _ (Ne.symm hb)).trans e
  refine wpAny_bind (wpAny_letGo ?_)
  refine lz_extend hh P hn (st.keep P oth) (oth _ _ (Nat.ne_of_lt P.z) hz) .none _ hS₂ (fun h' tk acc c as hk hS' hl hG hacc => ?_)
  exact hR h' tk acc c as (fun b o hb h2 h3 h4 h5 e => hk b o hb h2 h3 h4 h5 (oth b o hb e)) hS' hl hG hacc
/-- list(z), z just made -/
theorem lz_call {Q : Value → Shared → Prop} (hh : A.handled = none) (P : LzAp z TI TO i1 i2 l1 l2 s.heap.objs.size) (hn : min xs.size ys.size ≤ sizeLine) (ti : IsPair s.heap TI (.ref i1) (.ref i2)) (to : IsPair s.heap TO .none .none) (a1 : s.heap.IsListIter i1 l1 0) (a2 : s.heap.IsListIter i2 l2 0) (b1 : s.heap.IsList l1 xs) (b2 : s.heap.IsList l2 ys) (hz : IsZip s.heap z TI TO .none)
    (hQ : ∀ h' tk acc c as, (∀ b o, b ≠ z → b ≠ TO → b ≠ i1 → b ≠ i2 → s.heap.get? b = some o → h'.get? b = some o) → h'.get? s.heap.objs.size = some { cls := .type "list", dict := none, data := .seq acc c, slots := #[] } → as.length = min xs.size ys.size → LzG xs ys s.heap.objs.size h' as →
      acc.toList = as.map Value.ref → Q (.ref s.heap.objs.size) { s with heap := h', toks := tk }) :
    wpAny (model prog w) A (call (.type "list") [.ref z]) Q E s := by
  refine callType_codes (Q₁ := fun obj s₁ => obj = .ref s.heap.objs.size ∧ s₁ = { s with heap := s.heap.push { cls := .type "list", data := .seq #[] } }) PySem.F.called_list (PySem.F.typeCall_list_1 _) PySem.F.entry_list_init
    (code_list_new _ ⟨rfl, rfl⟩) fun obj s₁ h₁ => ?_
  obtain ⟨rfl, rfl⟩ := h₁
  have hS : (s.heap.push { cls := .type "list", data := .seq #[] }).get? s.heap.objs.size = some { cls := .type "list", data := .seq #[] } := Heap.get?_push_size _ rfl
  have up : ∀ b o, s.heap.get? b = some o → (s.heap.push { cls := .type "list", data := .seq #[] }).get? b = some o := fun b o e => Heap.get?_push_of_some _ e
  have st : LzSt (s.heap.push { cls := .type "list", data := .seq #[] }) z TI TO i1 i2 l1 l2 s.heap.objs.size xs ys 0 := by
    obtain ⟨o1, e1, f1⟩ := a1
    obtain ⟨o2, e2, f2⟩ := a2
    obtain ⟨o3, e3, f3⟩ := b1
    obtain ⟨o4, e4, f4⟩ := b2
    exact ⟨up _ _ ti, ⟨o1, up _ _ e1, f1⟩, ⟨o2, up _ _ e2, f2⟩, ⟨o3, up _ _ e3, f3⟩, ⟨o4, up _ _ e4, f4⟩, .inl ⟨_, _, up _ _ hz, up _ _ to⟩⟩
  refine ⟨⟨_, hS, rfl⟩, PySem.F.args_list_init_2 _ _, lz_init (A := A.in1) hh P hn st (up _ _ hz) hS (fun h' tk acc c as hk hS' hl hG hacc => ?_)⟩
  exact ⟨rfl, hQ h' tk acc c as (fun b o h2 h3 h4 h5 e => hk b o (Nat.ne_of_lt (Heap.lt_size e)) h2 h3 h4 h5 (up b o e)) hS' hl hG hacc⟩
end
end PySem.W

namespace L2
open PySem PySem.Spec PyProof.Rows
/-- the tuples tracked at their addresses -/
def putZ : Hp → List Addr → List (V × V) → Hp
  | H, a :: as, p :: kvs => putZ (upd H a (.tup [p.1, p.2])) as kvs
  | H, _, _ => H
theorem putZ_off {b : Addr} : ∀ (as : List Addr) (kvs : List (V × V)) (H : Hp), b ∉ as → putZ H as kvs b = H b
  | [], _, _, _ => rfl
  | _ :: _, [], _, _ => rfl
  | a :: as, p :: kvs, H, h => by
    show putZ (upd H a (.tup [p.1, p.2])) as kvs b = H b
    rw [putZ_off as kvs _ (fun z => h (List.mem_cons_of_mem _ z)), upd_ne (fun z => h (by rw [z]; exact List.mem_cons_self))]
theorem putZ_at : ∀ (as : List Addr) (kvs : List (V × V)) (H : Hp), as.length = kvs.length → as.Nodup → Paired (fun (t : Addr) (p : V × V) => putZ H as kvs t = some (.tup [p.1, p.2])) as kvs
  | [], [], _, _, _ => .nil
  | [], _ :: _, _, h, _ => by cases h
  | _ :: _, [], _, h, _ => by cases h
  | a :: as, p :: kvs, H, h, hn => by
    have hn' := List.nodup_cons.mp hn
    have ih := putZ_at as kvs (upd H a (.tup [p.1, p.2])) (Nat.succ.inj h) hn'.2
    refine .cons ?_ ih
    show putZ (upd H a (.tup [p.1, p.2])) as kvs a = some (.tup [p.1, p.2])
    rw [putZ_off as kvs _ hn'.1, upd_same]
theorem valsZ_get : ∀ {xs : List V} {us : List Value}, Vals xs us → ∀ {j : Nat} {u : Value}, us[j]? = some u → ∃ x, xs[j]? = some x ∧ RelV x u
  | _, _, .nil, j, u, h => by cases h
  | _, _, .cons r t, 0, u, h => by
    have e := Option.some.inj h
    subst e
    exact ⟨_, rfl, r⟩
  | _, _, .cons r t, j + 1, u, h => valsZ_get t h
section
variable {X : Cx} {e e2 : Expr} {ta : TA} {p p2 cpos pos : Pos}
theorem lz_laid {pins : List (Addr × Obj)} {σ : L2.St} {H : Hp} {s : Shared} {h' : Heap} {tk : Nat} {xs ys : List V} {us ws : List Value} {acc : Array Value} {c : Nat} {S : Addr} {as : List Addr} (I : Inv X pins σ H s) (hz : min xs.length ys.length ≤ sizeLine) (rx : Vals xs us) (ry : Vals ys ws)
    (hk : ∀ b o, s.heap.get? b = some o → h'.get? b = some o) (hSm : s.heap.objs.size ≤ S) (hS : h'.get? S = some { cls := .type "list", dict := none, data := .seq acc c, slots := #[] }) (hl : as.length = min xs.length ys.length) (hG : PySem.W.LzG us.toArray ws.toArray S h' as) (hacc : acc.toList = as.map Value.ref) :
    ∃ H' : Hp, (∀ b o, H b = some o → H' b = some o) ∧ H S = none ∧ (∀ t ∈ as, H t = none) ∧ S ∉ as ∧ H' S = some (.lst (as.map V.ref)) ∧ Paired (fun (t : Addr) (q : V × V) => H' t = some (.tup [q.1, q.2])) as (xs.zip ys) ∧ Inv X pins σ H' { s with heap := h', toks := tk } := by
  have hSn : S ∉ as := fun z => Nat.lt_irrefl _ (hG.above _ z)
  have nd : as.Nodup := List.Pairwise.imp (fun {a b} (h : a < b) => Nat.ne_of_lt h) hG.rise
  have new : ∀ t ∈ as, H t = none := fun t ht => I.hok.fresh (Nat.le_trans hSm (Nat.le_of_lt (hG.above t ht)))
  have newS : H S = none := I.hok.fresh hSm
  have atP := putZ_at as (xs.zip ys) (upd H S (.lst (as.map V.ref))) (by rw [List.length_zip]; exact hl) nd
  have off : ∀ b, b ∉ as → b ≠ S → putZ (upd H S (.lst (as.map V.ref))) as (xs.zip ys) b = H b := fun b h1 h2 => by rw [putZ_off as _ _ h1, upd_ne h2]
  have low : ∀ b o, s.heap.get? b = some o → b ∉ as ∧ b ≠ S := fun b o e => ⟨fun z => absurd (Nat.lt_of_lt_of_le (Heap.lt_size e) hSm) (Nat.not_lt.mpr (Nat.le_of_lt (hG.above b z))), Nat.ne_of_lt (Nat.lt_of_lt_of_le (Heap.lt_size e) hSm)⟩
  have kp : ∀ b u, H b = some u → (putZ (upd H S (.lst (as.map V.ref))) as (xs.zip ys)) b = some u := fun b u e => by
    rw [off b (fun z => by rw [new b z] at e; cases e) (fun z => by rw [z, newS] at e; cases e)]
    exact e
  have eS : putZ (upd H S (.lst (as.map V.ref))) as (xs.zip ys) S = some (.lst (as.map V.ref)) := by rw [putZ_off as _ _ hSn, upd_same]
  refine ⟨putZ (upd H S (.lst (as.map V.ref))) as (xs.zip ys), kp, newS, new, hSn, eS, atP, ?_⟩
  refine I.call' (ch := []) rfl ⟨fun b o q _ _ _ => hk b o q, fun b o q _ _ _ => ⟨o.slots, hk b o q⟩, fun b o q n _ => ?_, fun b o q _ => ⟨o, hk b o q⟩, fun b xs q => kp b _ q, fun b o u q => kp b _ q, fun b ps q => ⟨#[], by rw [kp b _ q]; simp⟩⟩ (fun b u q => ?_) I.bare fun b z => by simp at z
  · obtain ⟨z1, z2⟩ := low b o q
    rw [off b z1 z2]
    exact n
  · by_cases hb : b ∈ as
    · obtain ⟨j, pk, e1, e2, e3⟩ := LiI.paired_ix atP hb
      rw [e3] at q
      cases q
      obtain ⟨x, y, f1, f2, f3⟩ := hG.pairs j b e1
      rw [List.getElem?_toArray] at f1 f2
      obtain ⟨vx, g1, g2⟩ := valsZ_get rx f1
      obtain ⟨vy, g3, g4⟩ := valsZ_get ry f2
      obtain ⟨z1, z2⟩ := List.getElem?_zip_eq_some.mp e2
      rw [g1] at z1
      rw [g3] at z2
      cases z1
      cases z2
      exact ⟨by show 2 ≤ sizeLine; decide, [x, y], .cons g2 (.cons g4 .nil), ⟨_, f3, rfl, _, rfl⟩⟩
    · by_cases hb2 : b = S
      · rw [hb2] at q ⊢
        rw [eS] at q
        cases q
        refine ⟨by rw [List.length_map]; omega, acc.toList, c, by rw [hacc]; exact LiI.vals_refs as, ?_⟩
        rw [Array.toArray_toList]
        exact hS
      · rw [off b hb hb2] at q
        exact (I.hok b u q).stay (fun d v _ y => hk d v y) (fun d y => kp d _ y) fun d xs y => kp d _ y
def rZipL (K : PySem.W.Frag) : List V → Hp → VK → Prop := fun vs H Q => ∃ (a b : Addr) (xs ys : List V), vs = [.ref a, .ref b] ∧ SqL K H a xs ∧ SqL K H b ys ∧ min xs.length ys.length ≤ sizeLine ∧
  ∀ (H' : Hp) (q : Addr) (ts : List Addr), (∀ b o, H b = some o → H' b = some o) → H q = none → (∀ t ∈ ts, H t = none) → q ∉ ts → H' q = some (.lst (ts.map V.ref)) → Paired (fun (t : Addr) (z : V × V) => H' t = some (.tup [z.1, z.2])) ts (xs.zip ys) → Q (.ref q) H'
/-- list(zip(a, b)) -/
theorem pe_listZip (hc : X.calm = true) (hg : Gl X "list") (hm : X.mg "list" = none) (hgz : Gl X "zip") (hmz : X.mg "zip" = none) (ha : PA X [e, e2] ta)
    (hs : starEach [e, e2] X.env = (false, eval e X.env) :: starEach [e2] X.env := by rfl) (hpl : (backTo cpos (starEach [e2] X.env)).any (·.1) = false := by rfl)
    (na : starEach [.Call (.Name "zip" p2) [e, e2] [] cpos] X.env = (false, eval (.Call (.Name "zip" p2) [e, e2] [] cpos) X.env) :: starEach [] X.env := by rfl) :
    PE X (.Call (.Name "list" p) [.Call (.Name "zip" p2) [e, e2] [] cpos] [] pos) (fun σ H Q => ta σ H fun vs H1 => rZipL X.K vs H1 Q) := by
  refine ⟨fun pins s σ H Q I h => ?_⟩
  refine Call_ (ld_blt I hg hm boot_list (PyProof.Rows.callWith_type1 (args_cons ?_ na) na))
  refine Call_ (ld_blt I hgz hmz PyProof.Rows.boot_zip (PyProof.Rows.callWith_type1 (thn (ha.run cpos pins s σ H _ I h) fun us s1 ⟨vs, H1, I1, r1, q1⟩ => ?_) hs hpl))
  obtain ⟨a, b, xs, ys, ex, hqx, hqy, hn, q⟩ := q1
  subst ex
  cases r1 with
  | cons r rr =>
    cases rr with
    | cons r' rr =>
      cases rr
      cases r
      cases r'
      obtain ⟨its, rv, p1, _⟩ := I1.list hqx
      obtain ⟨its2, rv2, p2, _⟩ := I1.list hqy
      have la : a < s1.heap.objs.size := p1.lt
      have lb : b < s1.heap.objs.size := p2.lt
      have lx : xs.length = its.length := rv.length
      have ly : ys.length = its2.length := rv2.length
      refine call_zip_2 p1.isList p2.isList fun h' hz hTI hTO h1 h2 hsz hk => args_nil ?_
      have hS : h'.objs.size = s1.heap.objs.size + 5 := hsz
      have P : PySem.W.LzAp (s1.heap.objs.size + 4) (s1.heap.objs.size + 2) (s1.heap.objs.size + 3) s1.heap.objs.size (s1.heap.objs.size + 1) a b h'.objs.size := by
        rw [hS]
        exact ⟨PySem.W.ktu_apart _ _ _ la lb, Nat.add_lt_add_left (by decide : 4 < 5) _, Nat.add_lt_add_left (by decide : 2 < 5) _, Nat.add_lt_add_left (by decide : 3 < 5) _, Nat.lt_add_of_pos_right (by decide), Nat.add_lt_add_left (by decide : 1 < 5) _, Nat.lt_add_right _ la, Nat.lt_add_right _ lb⟩
      have bl : ∀ c o, s1.heap.get? c = some o → c ≠ s1.heap.objs.size + 4 ∧ c ≠ s1.heap.objs.size + 3 ∧ c ≠ s1.heap.objs.size ∧ c ≠ s1.heap.objs.size + 1 := fun c o e => by
        have hl := Heap.lt_size e
        exact ⟨Nat.ne_of_lt (Nat.lt_add_right _ hl), Nat.ne_of_lt (Nat.lt_add_right _ hl), Nat.ne_of_lt hl, Nat.ne_of_lt (Nat.lt_add_right _ hl)⟩
      have b1 : h'.IsList a its.toArray := by obtain ⟨o, e1, e2⟩ := p1.isList; exact ⟨o, hk _ _ e1, e2⟩
      have b2 : h'.IsList b its2.toArray := by obtain ⟨o, e1, e2⟩ := p2.isList; exact ⟨o, hk _ _ e1, e2⟩
      refine PySem.W.lz_call (s := { s1 with heap := h' }) (I1.ok.hd hc) P (by simp only [List.size_toArray]; omega) hTI hTO h1 h2 b1 b2 hz fun h'' tk acc c as k1 k2 k3 k4 k5 => ?_
      obtain ⟨H', g1, g2, g3, g4, g5, g6, J⟩ := lz_laid (tk := tk) I1 hn rv rv2 (fun c o e => k1 c o (bl c o e).1 (bl c o e).2.1 (bl c o e).2.2.1 (bl c o e).2.2.2 (hk c o e)) (by show s1.heap.objs.size ≤ h'.objs.size; rw [hS]; exact Nat.le_add_right _ _) k2 (by simp only [List.size_toArray] at k3; omega) k4 k5
      exact ⟨.ref _, H', J, rfl, q H' _ as g1 g2 g3 g4 g5 g6⟩
end
end L2

namespace Fw
open PySem L2
/-- all that is new becomes immutable -/
theorem Sep.grow {I H H' : Hp} {L : List Rg} (h : Sep I L H) (k : ∀ b o, H b = some o → H' b = some o) : ∃ I', Same I I' ∧ (∀ b o, H b = none → H' b = some o → I' b = some o) ∧ Sep I' L H' := by
  obtain ⟨Z, e, s, a, d⟩ := h
  have sm : Same I (fun b => if (H b).isSome then I b else H' b) := fun b u q => by
    show (if (H b).isSome then I b else H' b) = some u
    rw [if_pos (by rw [s b u q]; rfl)]; exact q
  refine ⟨fun b => if (H b).isSome then I b else H' b, sm, fun b o h1 h2 => ?_, Z, e, fun b u q => ?_, fun z hz => ?_, d⟩
  · show (if (H b).isSome then I b else H' b) = some o
    rw [if_neg (by rw [h1]; decide)]; exact h2
  · replace q : (if (H b).isSome then I b else H' b) = some u := q
    by_cases hb : (H b).isSome
    · rw [if_pos hb] at q; exact k b u (s b u q)
    · rw [if_neg hb] at q; exact q
  · obtain ⟨a1, a2, a3⟩ := a z hz
    refine ⟨z.1.mono sm a1, fun b u q => k b u (a2 b u q), fun b => ?_⟩
    cases hz2 : z.2 b with
    | none => exact .inr rfl
    | some o =>
      left
      show (if (H b).isSome then I b else H' b) = none
      rw [if_pos (by rw [a2 b o hz2]; rfl)]
      rcases a3 b with q | q
      · exact q
      · rw [hz2] at q; cases q
section
variable {X : Cx} {N : List Str} {sc : Scope} {own : Str → Bool} {κ α β γ δ ε ρ ν τ : Type} [DecidableEq κ] {A : Ty α} {B : Ty β} {e e2 a b k : Expr} {ss : List Stmt} {pos p p2 cpos apos : Pos} {Γ gx : List Slot} {L : γ → List Rg} {s : γ} {xt : XT ε} {q : Addr} {L0 R : List Rg}
  {gn : ν → List Slot} {ln : ν → List Rg} {rt : RT ρ} {M : Out ε ρ ν}
theorem paired_zip {I : Hp} : ∀ {vs ws : List V} {xs : List α} {ys : List β} {ts : List Addr}, Paired (A.rep I) vs xs → Paired (B.rep I) ws ys → Paired (fun (t : Addr) (z : V × V) => I t = some (.tup [z.1, z.2])) ts (vs.zip ws) → Paired ((tTup (Tys2 A B)).rep I) (ts.map V.ref) (zipL xs ys)
  | _, _, _, _, _, .nil, _, h => by cases h; exact .nil
  | _, _, _, _, _, .cons r rr, .nil, h => by cases h; exact .nil
  | v :: vs, w :: ws, x :: xs, y :: ys, t :: ts, .cons r rr, .cons q qq, h => by
    cases h with
    | cons h1 h2 => exact .cons ⟨t, _, rfl, h1, _, _, rfl, r, _, _, rfl, q, rfl⟩ (paired_zip rr qq h2)
theorem paired_mem {α β : Type} {P Q : α → β → Prop} : ∀ {as : List α} {bs : List β}, Paired P as bs → (∀ a b, a ∈ as → P a b → Q a b) → Paired Q as bs
  | _, _, .nil, _ => .nil
  | _, _, .cons r rr, h => .cons (h _ _ List.mem_cons_self r) (paired_mem rr fun a b m => h a b (List.mem_cons_of_mem _ m))
theorem paired_map2 {σ α β : Type} {P : α → β → Prop} (f : σ → α) (g : σ → β) (h : ∀ n, P (f n) (g n)) : ∀ ns : List σ, Paired P (ns.map f) (ns.map g)
  | [] => .nil
  | n :: ns => .cons (h n) (paired_map2 f g h ns)
instance decRgOk (i j : Int) : Decidable (RgOk i j) := by unfold RgOk; infer_instance
/-- list(zip(a, b)) -/
theorem ef_listZip {m : Res ε ((List α × List β × Unit) × γ)} (cx : Cxt X N sc own) (cc : Calm X) (hm : X.mg "list" = none) (hmz : X.mg "zip" = none) (h : AF X [e, e2] Γ L s (Tys2 (tLst A) (tLst B)) xt m) (hg : glB sc "list" = true := by decide +kernel) (hgz : glB sc "zip" = true := by decide +kernel)
    (hs : starEach [e, e2] X.env = (false, eval e X.env) :: starEach [e2] X.env := by exact star_c rfl) (hpl : (backTo cpos (starEach [e2] X.env)).any (·.1) = false := by rfl)
    (na : starEach [.Call (.Name "zip" p2) [e, e2] [] cpos] X.env = (false, eval (.Call (.Name "zip" p2) [e, e2] [] cpos) X.env) :: starEach [] X.env := by exact star_c rfl) :
    EF X (.Call (.Name "list" p) [.Call (.Name "zip" p2) [e, e2] [] cpos] [] pos) Γ L s (tLst (tTup (Tys2 A B))) xt (m.bnd fun t s => Res.grd (min t.1.length t.2.1.length ≤ sizeLine) (zipL t.1 t.2.1, s)) := fun I σ F H Q fr th => by
  refine PE_to (pe_listZip cc.calm (glB_gl cx hg).1 hm (glB_gl cx hgz).1 hmz pa_w hs hpl na) ?_
  refine h I σ F H _ fr ?_
  cases m with
  | stuck => exact th
  | exn x => exact th
  | val q =>
    obtain ⟨t, s1⟩ := q
    intro I1 v H1 e1 fr1 r
    obtain ⟨v, w, rfl, ⟨a, vs, rfl, h1, h2⟩, ⟨b, ws, rfl, h3, h4⟩⟩ := tys2 r
    have hl : vs.length = t.1.length := paired_len h2
    have hl2 : ws.length = t.2.1.length := paired_len h4
    by_cases hz : min t.1.length t.2.1.length ≤ sizeLine
    · refine ⟨a, b, vs, ws, rfl, .of (fr1.sep.same _ _ h1), .of (fr1.sep.same _ _ h3), by rw [hl, hl2]; exact hz, fun H' q ts k1 k2 k3 k4 k5 k6 => ?_⟩
      obtain ⟨I', sm, nw, se⟩ := fr1.sep.grow k1
      have th' : Then X I F σ Γ L (tLst (tTup (Tys2 A B))) xt Q (Res.grd (min t.1.length t.2.1.length ≤ sizeLine) (zipL t.1 t.2.1, s1)) := th
      rw [show (Res.grd (min t.1.length t.2.1.length ≤ sizeLine) (zipL t.1 t.2.1, s1) : Res ε _) = .val (zipL t.1 t.2.1, s1) from if_pos hz] at th'
      have k7 : Paired (fun (t : Addr) (z : V × V) => I' t = some (.tup [z.1, z.2])) ts (vs.zip ws) := paired_mem k6 fun t z ht hh => nw _ _ (k3 t ht) hh
      exact th' I' _ H' (e1.trans sm) (fr1.step sm se) ⟨q, _, rfl, nw _ _ k2 k5, paired_zip (paired_mono sm h2) (paired_mono sm h4) k7⟩
    · have th' : Then X I F σ Γ L (tLst (tTup (Tys2 A B))) xt Q (Res.grd (min t.1.length t.2.1.length ≤ sizeLine) (zipL t.1 t.2.1, s1)) := th
      rw [show (Res.grd (min t.1.length t.2.1.length ≤ sizeLine) (zipL t.1 t.2.1, s1) : Res ε _) = .stuck from if_neg hz] at th'
      exact th'.elim
/-- list(range(a, b)) -/
theorem rep_rgV {I : Hp} (i j : Int) : Paired (tInt.rep I) (rgV i j) (rng i j) := by
  unfold rgV rng
  exact paired_map2 (P := tInt.rep I) (fun n : Nat => V.int (i + (n : Int))) (fun n : Nat => i + (n : Int)) (fun n => rfl) _
theorem ep_listRg2 {i j : Int} (cx : Cxt X N sc own) (cc : Calm X) (hm : X.mg "list" = none) (hmz : X.mg "range" = none) (h1 : EP X a Γ L0 tInt i) (h2 : EP X b Γ L0 tInt j) (ok : RgOk i j) (hg : glB sc "list" = true := by decide +kernel) (hgz : glB sc "range" = true := by decide +kernel)
    (hs : starEach [a, b] X.env = (false, eval a X.env) :: starEach [b] X.env := by exact star_c rfl) (hs2 : starEach [b] X.env = (false, eval b X.env) :: starEach [] X.env := by exact star_c rfl) (hpl : (backTo cpos (starEach [b] X.env)).any (·.1) = false := by rfl)
    (na : starEach [.Call (.Name "range" p2) [a, b] [] cpos] X.env = (false, eval (.Call (.Name "range" p2) [a, b] [] cpos) X.env) :: starEach [] X.env := by exact star_c rfl) :
    EP X (.Call (.Name "list" p) [.Call (.Name "range" p2) [a, b] [] cpos] [] pos) Γ L0 (tLst tInt) (rng i j) := fun I σ F H Q fr th => by
  refine PE_to (pe_listRg cc.calm (glB_gl cx hg).1 hm (prg_2 (glB_gl cx hgz).1 hmz pe_w pe_w hs hs2 hpl) na) ?_
  refine h1.run fr fun I1 v H1 e1 fr1 r1 => ?_
  refine h2.run fr1 fun I2 w H2 e2 fr2 r2 => ?_
  refine ⟨i, j, r1, r2, ok, fun q hq => ?_⟩
  have hi := fr2.sep.same.free hq
  exact th _ _ _ ((e1.trans e2).trans (Same.upd hi)) (fr2.step (Same.upd hi) (fr2.sep.imm hq)) ⟨q, _, rfl, upd_same, rep_rgV i j⟩
def dPop {κ α : Type} [DecidableEq κ] (kvs : List (κ × α)) (k : κ) : List (κ × α) := kvs.filter fun kv => decide (kv.1 ≠ k)
theorem PD.pop {I : Hp} {ws : List (κ × V)} {kvs : List (κ × α)} (k : κ) (h : PD A I ws kvs) : PD A I (dropK ws k) (dPop kvs k) := by
  unfold PD at h
  induction h with
  | nil => exact .nil
  | @cons w p ws kvs r _ ih =>
    unfold dropK dPop
    rw [List.filter_cons, List.filter_cons, r.1]
    by_cases hk : p.1 = k
    · rw [if_neg (by simp [hk]), if_neg (by simp [hk])]; exact ih
    · rw [if_pos (by simp [hk]), if_pos (by simp [hk])]; exact .cons r ih
theorem dropK_enc {κ' : Type} [DecidableEq κ'] {enc : κ → κ'} (inj : ∀ a b, enc a = enc b → a = b) (k : κ) (ws : List (κ × V)) : dropK (ws.map fun p => (enc p.1, p.2)) (enc k) = (dropK ws k).map fun p => (enc p.1, p.2) := by
  unfold dropK
  rw [List.filter_map]
  congr 1
  apply List.filter_congr
  intro p _
  show decide (enc p.1 ≠ enc k) = decide (p.1 ≠ k)
  exact decide_eq_decide.mpr ⟨fun h z => h (congrArg enc z), fun h z => h (inj _ _ z)⟩
/-- d.pop(k) as a statement, an own dict, k there -/
theorem sf_dpop {T : Ty κ} {enc : κ → Key} {inj : ∀ a b, enc a = enc b → a = b} {hT : ∀ I v k, T.rep I v k ↔ v = kV (enc k)} {kv : List (κ × α)} {key : κ} (hd : EP X e Γ L0 (tCell q) ()) (hk : EP X k Γ L0 T key) (hL : L0.Perm (cell q (cDic (ktOne T enc inj hT) A kv) :: R)) (m : M1 X e "pop" apos k cpos)
    (hr : SF X ss Γ (cell q (cDic (ktOne T enc inj hT) A (dPop kv key)) :: R) gn ln rt xt gx M) (hs : swapsWith (.Call (.Attribute e "pop" apos) [k] [] cpos) none pos.line X.env = pure false := by rfl) :
    SF X (.Expr (.Call (.Attribute e "pop" apos) [k] [] cpos) pos :: ss) Γ L0 gn ln rt xt gx (if (dGet kv key).isSome then M else .stuck) := fun I σ F H D fr th => by
  by_cases hz : (dGet kv key).isSome = true
  · rw [if_pos hz] at th
    refine PSs_to (pss_cons (ps_expr (pe_dpop1 pe_w pe_w m) hs) pss_w) ?_
    refine hd.run fr fun I1 v H1 e1 fr1 r => ?_
    cases (show v = .ref q from r)
    have se1 : Sep I1 (cell q (cDic (ktOne T enc inj hT) A kv) :: (R ++ F)) H1 := fr1.sep.perm (hL.append_right F)
    obtain ⟨o1, ho1, ⟨ws1, rfl, pd1⟩, _⟩ := se1.get
    refine ⟨q, rfl, (ktOne T enc inj hT).isd (.inl ho1), ?_⟩
    refine hk.run fr1 fun I2 w H2 e2 fr2 r2 => ?_
    have se : Sep I2 (cell q (cDic (ktOne T enc inj hT) A kv) :: (R ++ F)) H2 := fr2.sep.perm (hL.append_right F)
    obtain ⟨o, ho, ⟨ws, rfl, pd⟩, _⟩ := se.get
    have g := pd.get key
    cases h1 : valV ws key with
    | none => cases h2 : dGet kv key with
      | none => rw [h2] at hz; cases hz
      | some d => rw [h1, h2] at g; exact g.elim
    | some v =>
      refine ⟨_, enc key, v, ho, (hT _ _ _).mp r2, by rw [valV_enc inj]; exact h1, ?_⟩
      rw [dropK_enc inj]
      exact hr I2 σ F _ D (fr2.step (Same.refl _) (se.put ⟨dropK ws key, rfl, pd.pop key⟩)) (sthen_up (e1.trans e2) th)
  · rw [if_neg hz] at th
    exact th.elim
theorem nn_dic {K : Kt κ} : NotNon (tDic K A) := fun I v d h => by obtain ⟨p, o, ws, rfl, _⟩ := h; exact fun z => nomatch z
theorem edic_opt {K : Kt κ} {d : Option (List (κ × α))} (h : EP X e Γ L0 (tOpt (tDic K A)) d) (hh : d.isSome = true) : EDic X e Γ L0 K A (d.getD default) := by
  cases d with
  | none => cases hh
  | some kv => exact edic_imm (fun I σ F H Q fr th => h.run fr fun I1 v H1 e1 fr1 r => th I1 v H1 e1 fr1 (show v ≠ .non ∧ (tDic K A).rep I1 v kv from r).2)
theorem en_grd {φ : α → CP} {P : Prop} [Decidable P] {d : α} (h : P → EN X e Γ L s φ xt (Res.val (d, s))) : EN X e Γ L s φ xt (Res.grd P (d, s)) := fun I σ F H Q fr th => by
  by_cases hP : P
  · rw [show (Res.grd P (d, s) : Res ε _) = .val (d, s) from if_pos hP] at th
    exact h hP I σ F H Q fr th
  · rw [show (Res.grd P (d, s) : Res ε _) = .stuck from if_neg hP] at th
    exact th.elim
/-- a tuple of two new lists as data -/
theorem ef_frz2 {mm : Res ε ((List α × List β × Unit) × γ)} (h : EM X e Γ L s (psi2 A B) xt mm) : EF X e Γ L s (tTup (Tys2 (tLst A) (tLst B))) xt mm := fun I σ F H Q fr th => by
  refine h I σ F H Q fr ?_
  cases mm with
  | stuck => exact th
  | exn x => exact th
  | val p =>
    intro I' q H' e1 fr1
    obtain ⟨⟨q1, q2⟩, ht, se⟩ := Sep.openT (ι := Addr × Addr) fr1.sep
    obtain ⟨o1, ho1, ⟨vs1, rfl, hv1⟩, hi1, se1⟩ := Sep.freeze se
    obtain ⟨o2, ho2, ⟨vs2, rfl, hv2⟩, hi2, se2⟩ := Sep.freeze se1
    have m1 := Same.upd (o := .lst vs1) hi1
    have m2 := Same.upd (o := .lst vs2) hi2
    exact th _ _ _ ((e1.trans m1).trans m2) (fr1.step (m1.trans m2) se2) ⟨q, _, rfl, m2 _ _ (m1 _ _ ht), _, _, rfl, ⟨q1, vs1, rfl, m2 _ _ upd_same, paired_mono (m1.trans m2) hv1⟩, _, _, rfl, ⟨q2, vs2, rfl, upd_same, paired_mono m2 hv2⟩, rfl⟩
end
end Fw


/-! ## 220. zip of two tuples, its tuples kept -/
namespace PySem.W
open PySem PySem.Calls PyProof.Rows PyProof.V PySem.Spec RZ
/-- a zip at rest: f0 tells the tuple that was last out, f whether it was seen alive -/
abbrev ZnAt (h : Heap) (z TI TO : Addr) (f0 : Value) (f : Bool) : Prop :=
  h.get? z = some { cls := .type "zip", dict := none, data := .fields #[f0, .bool f, .bool false, .ref TI, .ref TO], slots := #[] }
def ZnOut (f0 : Value) : Prop := f0 = .none ∨ ∃ T : Addr, f0 = rawInt T
section
variable {prog : Program} {w : World} {A : Around} {E : Value → Shared → Prop} {s : Shared} {z TI TO i1 i2 l1 l2 : Addr} {k1 k2 : Nat} {xs ys : Array Value} {f0 : Value} {f : Bool}
theorem zn_alive {T : Addr} {Q : Option Obj → Shared → Prop} (h : Q (s.heap.get? T) s) : wpAny (model prog w) A (loadIfAlive T) Q E s := fun _ _ _ => h
theorem zn_free {Q : Bool → Shared → Prop} (hz : ZnAt s.heap z TI TO f0 f) (h0 : ZnOut f0) (ht : Q true s) (hf : ∀ h', ZnAt h' z TI TO f0 true → Heap.SameBut z s.heap h' → Q false { s with heap := h' }) :
    wpAny (model prog w) A (Builtin.SmallTypes.ownedTupleIsFree (.ref z)) Q E s := by
  unfold Builtin.SmallTypes.ownedTupleIsFree
  rcases h0 with rfl | ⟨T, rfl⟩
  · exact wpAny_bind (wpAny_field hz rfl (x := .none) rfl (wpAny_pure ht))
  · refine wpAny_bind (wpAny_field hz rfl (x := rawInt T) rfl ?_)
    show wpAny _ _ (loadIfAlive ((T : Int).toNat) >>= _) _ _ _
    rw [Int.toNat_natCast]
    refine wpAny_bind (zn_alive ?_)
    cases s.heap.get? T with
    | none =>
      simp only [Option.isNone_none, if_true]
      exact wpAny_pure ht
    | some o =>
      simp only [Option.isNone_some, Bool.false_eq_true, if_false]
      refine wpAny_bind (wpAny_field hz rfl (x := .bool f) rfl ?_)
      cases f with
      | true =>
        rw [if_neg (show ¬ ((Value.bool true != Value.bool true) = true) from Bool.false_ne_true)]
        exact wpAny_pure (hf s.heap hz (Heap.SameBut.refl _ _))
      | false =>
        rw [if_pos (show (Value.bool false != Value.bool true) = true from rfl)]
        exact wpAny_bind (wpAny_setField_rec hz (by simp) fun h₁ hz₁ hs₁ => wpAny_pure (hf h₁ hz₁ hs₁))
/-- one more pair: it lies at the heap's end -/
theorem zn_item {x y : Value} {Q : Value → Shared → Prop} (D : ZipApart z TI TO i1 i2 l1 l2) (hz : ZnAt s.heap z TI TO f0 f) (h0 : ZnOut f0) (hTI : IsPair s.heap TI (.ref i1) (.ref i2)) (hTO : ∃ a b, IsPair s.heap TO a b)
    (h1 : s.heap.IsTupleIter i1 l1 k1) (h2 : s.heap.IsTupleIter i2 l2 k2) (hl1 : s.heap.IsTuple l1 xs) (hl2 : s.heap.IsTuple l2 ys) (hx : xs[k1]? = some x) (hy : ys[k2]? = some y)
    (hQ : ∀ h' f0' f', ZnAt h' z TI TO f0' f' → ZnOut f0' → (∃ a b, IsPair h' TO a b) → h'.IsTupleIter i1 l1 (k1 + 1) → h'.IsTupleIter i2 l2 (k2 + 1) → IsPair h' s.heap.objs.size x y →
      (∀ c o, c ≠ z → c ≠ TO → c ≠ i1 → c ≠ i2 → s.heap.get? c = some o → h'.get? c = some o) → Q (.ref s.heap.objs.size) { s with heap := h' }) :
    wpAny (model prog w) A (Builtin.«zip.__next__» ⟨[.ref z], []⟩) (fun fin s' => ∃ v, fin = .done (.ret v) ∧ Q v s') E s := by
  obtain ⟨a, b, hTO⟩ := hTO
  show wpAny _ _ (field (.ref z) 2 >>= _) _ _ _
  refine wpAny_bind (wpAny_field hz rfl (x := .bool false) rfl ?_)
  show wpAny _ _ (field (.ref z) 3 >>= _) _ _ _
  refine wpAny_bind (wpAny_field hz rfl (x := .ref TI) rfl ?_)
  refine wpAny_bind (wpAny_seqItems hTI rfl ?_)
  show wpAny _ _ (Builtin.SmallTypes.ownedTupleIsFree (.ref z) >>= _) _ _ _
  refine wpAny_bind (zn_free hz h0 ?_ fun h₁ hz₁ hs₁ => ?_)
  · simp only [if_true]
    refine wpAny_bind (wpAny_rule ?_)
    refine wpAny_bind (wpAny_field hz rfl (x := .ref TO) rfl ?_)
    refine wpAny_bind (wpAny_setField_rec hz (by simp) fun h₁ hz₁ hs₁ => ?_)
    replace hz₁ : ZnAt h₁ z TI TO .ellipsis f := hz₁
    refine wpAny_bind ?_
    simp only [List.zipIdx_cons, List.zipIdx_nil, List.forIn_cons, List.forIn_nil]
    refine wpAny_bind (wpAny_bind (wpAny_onRaise ?_))
    show wpAny _ _ (Builtin.SmallTypes.nextOf (.ref i1) >>= _) _ _ _
    refine wpAny_bind (nextOf_tuple_item (h1.extBut hs₁.extBut D.i1z) (hl1.extBut hs₁.extBut D.l1z) hx fun h₂ h1₂ hs₂ => wpAny_pure ?_)
    have hTO₂ : IsPair h₂ TO a b := hs₂.extBut _ _ D.TOi1 (hs₁.extBut _ _ D.TOz hTO)
    refine wpAny_bind (wpAny_seqItems hTO₂ rfl ?_)
    refine wpAny_bind (wpAny_updateSeq_pair hTO₂ fun h₃ hTO₃ hs₃ => ?_)
    replace hTO₃ : IsPair h₃ TO x b := hTO₃
    refine wpAny_bind (wpAny_letGo (wpAny_pure ?_))
    refine wpAny_bind (wpAny_bind (wpAny_onRaise ?_))
    show wpAny _ _ (Builtin.SmallTypes.nextOf (.ref i2) >>= _) _ _ _
    refine wpAny_bind (nextOf_tuple_item (((h2.extBut hs₁.extBut D.i2z).extBut hs₂.extBut D.i12.symm).extBut hs₃.extBut D.TOi2.symm) (((hl2.extBut hs₁.extBut D.l2z).extBut hs₂.extBut D.l2i1).extBut hs₃.extBut D.l2TO) hy fun h₄ h2₄ hs₄ => wpAny_pure ?_)
    have hTO₄ : IsPair h₄ TO x b := hs₄.extBut _ _ D.TOi2 hTO₃
    refine wpAny_bind (wpAny_seqItems hTO₄ rfl ?_)
    refine wpAny_bind (wpAny_updateSeq_pair hTO₄ fun h₅ hTO₅ hs₅ => ?_)
    replace hTO₅ : IsPair h₅ TO x y := hTO₅
    refine wpAny_bind (wpAny_letGo (wpAny_pure (wpAny_pure ?_)))
    refine wpAny_bind (wpAny_seqItems hTO₅ rfl ?_)
    refine wpAny_bind (wpAny_newTuple ?_)
    have hsz : h₅.objs.size = s.heap.objs.size := by rw [hs₅.1, hs₄.1, hs₃.1, hs₂.1, hs₁.1]
    have hz₅ : ZnAt h₅ z TI TO .ellipsis f := hs₅.extBut _ _ D.TOz.symm (hs₄.extBut _ _ D.i2z.symm (hs₃.extBut _ _ D.TOz.symm (hs₂.extBut _ _ D.i1z.symm hz₁)))
    have hk₅ : ∀ c o, c ≠ z → c ≠ TO → c ≠ i1 → c ≠ i2 → s.heap.get? c = some o → h₅.get? c = some o := fun c o c1 c2 c3 c4 e => hs₅.extBut _ _ c2 (hs₄.extBut _ _ c4 (hs₃.extBut _ _ c2 (hs₂.extBut _ _ c3 (hs₁.extBut _ _ c1 e))))
    have h1₅ : h₅.IsTupleIter i1 l1 (k1 + 1) := ((h1₂.extBut hs₃.extBut D.TOi1.symm).extBut hs₄.extBut D.i12).extBut hs₅.extBut D.TOi1.symm
    have h2₅ : h₅.IsTupleIter i2 l2 (k2 + 1) := h2₄.extBut hs₅.extBut D.TOi2.symm
    have hzlt : z < h₅.objs.size := Heap.lt_size hz₅
    show wpAny _ _ (Builtin.SmallTypes.ownedTupleHandOut (.ref z) (.ref h₅.objs.size) >>= _) _ _ _
    refine wpAny_bind ?_
    unfold Builtin.SmallTypes.ownedTupleHandOut
    have hz₆ : ZnAt (h₅.push { cls := .type "tuple", data := .seq #[x, y] }) z TI TO .ellipsis f := Heap.get?_push_of_some _ hz₅
    refine wpAny_bind (wpAny_setField_rec hz₆ (by simp) fun h₇ hz₇ hs₇ => ?_)
    replace hz₇ : ZnAt h₇ z TI TO (rawInt h₅.objs.size) f := hz₇
    refine wpAny_setField_rec hz₇ (by simp) fun h₈ hz₈ hs₈ => ?_
    replace hz₈ : ZnAt h₈ z TI TO (rawInt h₅.objs.size) false := hz₈
    have up : ∀ c o, c ≠ z → h₅.get? c = some o → h₈.get? c = some o := fun c o c1 e => hs₈.extBut _ _ c1 (hs₇.extBut _ _ c1 (Heap.get?_push_of_some _ e))
    have hT₈ : IsPair h₈ h₅.objs.size x y := hs₈.extBut _ _ (Nat.ne_of_gt hzlt) (hs₇.extBut _ _ (Nat.ne_of_gt hzlt) (Heap.get?_push_size _ rfl))
    rw [hsz] at hz₈ hT₈
    refine wpAny_pure ⟨_, rfl, ?_⟩
    show Q (.ref h₅.objs.size) _
    rw [hsz]
    exact hQ h₈ _ _ hz₈ (.inr ⟨_, rfl⟩) ⟨_, _, up _ _ D.TOz hTO₅⟩ (h1₅.at fun o e => up _ o D.i1z e) (h2₅.at fun o e => up _ o D.i2z e) hT₈ fun c o c1 c2 c3 c4 e => up c o c1 (hk₅ c o c1 c2 c3 c4 e)
  · simp only [Bool.false_eq_true, if_false]
    refine wpAny_bind ?_
    rw [← Array.forIn_toList]
    simp only [List.forIn_cons, List.forIn_nil]
    refine wpAny_bind (wpAny_bind (wpAny_holding ?_))
    show wpAny _ _ (Builtin.SmallTypes.nextOf (.ref i1) >>= _) _ _ _
    refine wpAny_bind (nextOf_tuple_item (s := { s with heap := h₁ }) (h1.extBut hs₁.extBut D.i1z) (hl1.extBut hs₁.extBut D.l1z) hx fun h₂ h1₂ hs₂ => wpAny_pure ?_)
    refine wpAny_pure ?_
    refine wpAny_bind (wpAny_bind (wpAny_holding ?_))
    show wpAny _ _ (Builtin.SmallTypes.nextOf (.ref i2) >>= _) _ _ _
    refine wpAny_bind (nextOf_tuple_item (s := { s with heap := h₂ }) ((h2.extBut hs₁.extBut D.i2z).extBut hs₂.extBut D.i12.symm) ((hl2.extBut hs₁.extBut D.l2z).extBut hs₂.extBut D.l2i1) hy fun h₃ h2₃ hs₃ => wpAny_pure ?_)
    refine wpAny_pure (wpAny_pure ?_)
    show wpAny _ _ (newTuple [x, y] >>= _) _ _ _
    refine wpAny_bind (wpAny_newTuple ?_)
    have hsz : h₃.objs.size = s.heap.objs.size := by rw [hs₃.1, hs₂.1, hs₁.1]
    have hz₃ : ZnAt h₃ z TI TO f0 true := hs₃.extBut _ _ D.i2z.symm (hs₂.extBut _ _ D.i1z.symm hz₁)
    have hk : ∀ c o, c ≠ z → c ≠ i1 → c ≠ i2 → s.heap.get? c = some o → h₃.get? c = some o := fun c o c1 c2 c3 e => hs₃.extBut _ _ c3 (hs₂.extBut _ _ c2 (hs₁.extBut _ _ c1 e))
    have h1₃ : h₃.IsTupleIter i1 l1 (k1 + 1) := h1₂.extBut hs₃.extBut D.i12
    refine wpAny_pure ⟨_, rfl, ?_⟩
    show Q (.ref h₃.objs.size) _
    have hp : IsPair (h₃.push { cls := .type "tuple", data := .seq #[x, y] }) h₃.objs.size x y := Heap.get?_push_size _ rfl
    rw [hsz] at hp ⊢
    exact hQ _ _ _ (Heap.get?_push_of_some _ hz₃) h0 ⟨_, _, Heap.get?_push_of_some _ (hk _ _ D.TOz D.TOi1 D.TOi2 hTO)⟩ (h1₃.at fun o e => Heap.get?_push_of_some _ e) (h2₃.at fun o e => Heap.get?_push_of_some _ e) hp fun c o c1 _ c3 c4 e => Heap.get?_push_of_some _ (hk c o c1 c3 c4 e)
/-- one of both is at its end -/
theorem zn_end {Q : Fin → Shared → Prop} (hh : A.handled = none) (D : ZipApart z TI TO i1 i2 l1 l2) (hz : ZnAt s.heap z TI TO f0 f) (h0 : ZnOut f0) (hTI : IsPair s.heap TI (.ref i1) (.ref i2)) (hTO : ∃ a b, IsPair s.heap TO a b)
    (h1 : s.heap.IsTupleIter i1 l1 k1) (h2 : s.heap.IsTupleIter i2 l2 k2) (hl1 : s.heap.IsTuple l1 xs) (hl2 : s.heap.IsTuple l2 ys) (hend : xs[k1]? = none ∨ ys[k2]? = none)
    (hE : ∀ h' e, (∀ c o, c ≠ z → c ≠ TO → c ≠ i1 → c ≠ i2 → s.heap.get? c = some o → h'.get? c = some o) → (∃ o, h'.get? e = some o ∧ o.cls = .type "StopIteration") → E (.ref e) { s with heap := h' }) :
    wpAny (model prog w) A (Builtin.«zip.__next__» ⟨[.ref z], []⟩) Q E s := by
  obtain ⟨a, b, hTO⟩ := hTO
  show wpAny _ _ (field (.ref z) 2 >>= _) _ _ _
  refine wpAny_bind (wpAny_field hz rfl (x := .bool false) rfl ?_)
  show wpAny _ _ (field (.ref z) 3 >>= _) _ _ _
  refine wpAny_bind (wpAny_field hz rfl (x := .ref TI) rfl ?_)
  refine wpAny_bind (wpAny_seqItems hTI rfl ?_)
  show wpAny _ _ (Builtin.SmallTypes.ownedTupleIsFree (.ref z) >>= _) _ _ _
  refine wpAny_bind (zn_free hz h0 ?_ fun h₁ hz₁ hs₁ => ?_)
  · simp only [if_true]
    refine wpAny_bind (wpAny_rule ?_)
    refine wpAny_bind (wpAny_field hz rfl (x := .ref TO) rfl ?_)
    refine wpAny_bind (wpAny_setField_rec hz (by simp) fun h₁ hz₁ hs₁ => ?_)
    replace hz₁ : ZnAt h₁ z TI TO .ellipsis f := hz₁
    refine wpAny_bind ?_
    simp only [List.zipIdx_cons, List.zipIdx_nil, List.forIn_cons, List.forIn_nil]
    refine wpAny_bind (wpAny_bind (wpAny_onRaise ?_))
    show wpAny _ _ (Builtin.SmallTypes.nextOf (.ref i1) >>= _) _ _ _
    cases hx : xs[k1]? with
    | none =>
      refine wpAny_bind (nextOf_tuple_end hh (h1.extBut hs₁.extBut D.i1z) (hl1.extBut hs₁.extBut D.l1z) hx fun h₂ e hs₂ he => ?_)
      obtain ⟨oe, hoe, hce⟩ := he
      have hz₂ : ZnAt h₂ z TI TO .ellipsis f := hs₂ _ _ D.i1z.symm hz₁
      have hez : e ≠ z := fun x => by subst x; rw [hz₂] at hoe; cases hoe; simp at hce
      exact wpAny_setField_rec hz₂ (by simp) fun h₃ _ hs₃ => hE h₃ e (fun c o c1 _ c3 _ x => hs₃.extBut _ _ c1 (hs₂ _ _ c3 (hs₁.extBut _ _ c1 x))) ⟨oe, hs₃.extBut _ _ hez hoe, hce⟩
    | some x =>
      have hy : ys[k2]? = none := by rcases hend with h | h; rw [hx] at h; cases h; exact h
      refine wpAny_bind (nextOf_tuple_item (h1.extBut hs₁.extBut D.i1z) (hl1.extBut hs₁.extBut D.l1z) hx fun h₂ h1₂ hs₂ => wpAny_pure ?_)
      have hTO₂ : IsPair h₂ TO a b := hs₂.extBut _ _ D.TOi1 (hs₁.extBut _ _ D.TOz hTO)
      refine wpAny_bind (wpAny_seqItems hTO₂ rfl ?_)
      refine wpAny_bind (wpAny_updateSeq_pair hTO₂ fun h₃ hTO₃ hs₃ => ?_)
      refine wpAny_bind (wpAny_letGo (wpAny_pure ?_))
      refine wpAny_bind (wpAny_bind (wpAny_onRaise ?_))
      show wpAny _ _ (Builtin.SmallTypes.nextOf (.ref i2) >>= _) _ _ _
      refine wpAny_bind (nextOf_tuple_end hh (((h2.extBut hs₁.extBut D.i2z).extBut hs₂.extBut D.i12.symm).extBut hs₃.extBut D.TOi2.symm) (((hl2.extBut hs₁.extBut D.l2z).extBut hs₂.extBut D.l2i1).extBut hs₃.extBut D.l2TO) hy fun h₄ e hs₄ he => ?_)
      obtain ⟨oe, hoe, hce⟩ := he
      have hz₄ : ZnAt h₄ z TI TO .ellipsis f := hs₄ _ _ D.i2z.symm (hs₃.extBut _ _ D.TOz.symm (hs₂.extBut _ _ D.i1z.symm hz₁))
      have hez : e ≠ z := fun x => by subst x; rw [hz₄] at hoe; cases hoe; simp at hce
      exact wpAny_setField_rec hz₄ (by simp) fun h₅ _ hs₅ => hE h₅ e (fun c o c1 c2 c3 c4 x => hs₅.extBut _ _ c1 (hs₄ _ _ c4 (hs₃.extBut _ _ c2 (hs₂.extBut _ _ c3 (hs₁.extBut _ _ c1 x))))) ⟨oe, hs₅.extBut _ _ hez hoe, hce⟩
  · simp only [Bool.false_eq_true, if_false]
    refine wpAny_bind ?_
    rw [← Array.forIn_toList]
    simp only [List.forIn_cons, List.forIn_nil]
    refine wpAny_bind (wpAny_bind (wpAny_holding ?_))
    show wpAny _ _ (Builtin.SmallTypes.nextOf (.ref i1) >>= _) _ _ _
    cases hx : xs[k1]? with
    | none =>
      refine wpAny_bind (nextOf_tuple_end (s := { s with heap := h₁ }) hh (h1.extBut hs₁.extBut D.i1z) (hl1.extBut hs₁.extBut D.l1z) hx fun h₂ e hs₂ he => ?_)
      exact hE h₂ e (fun c o c1 _ c3 _ x => hs₂ _ _ c3 (hs₁.extBut _ _ c1 x)) he
    | some x =>
      have hy : ys[k2]? = none := by rcases hend with h | h; rw [hx] at h; cases h; exact h
      refine wpAny_bind (nextOf_tuple_item (s := { s with heap := h₁ }) (h1.extBut hs₁.extBut D.i1z) (hl1.extBut hs₁.extBut D.l1z) hx fun h₂ h1₂ hs₂ => wpAny_pure ?_)
      refine wpAny_pure ?_
      refine wpAny_bind (wpAny_bind (wpAny_holding ?_))
      show wpAny _ _ (Builtin.SmallTypes.nextOf (.ref i2) >>= _) _ _ _
      refine wpAny_bind (nextOf_tuple_end (s := { s with heap := h₂ }) hh ((h2.extBut hs₁.extBut D.i2z).extBut hs₂.extBut D.i12.symm) ((hl2.extBut hs₁.extBut D.l2z).extBut hs₂.extBut D.l2i1) hy fun h₃ e hs₃ he => ?_)
      exact hE h₃ e (fun c o c1 _ c3 c4 x => hs₃ _ _ c4 (hs₂.extBut _ _ c3 (hs₁.extBut _ _ c1 x))) he
theorem zn_next {x y : Value} {Q : Option Value → Shared → Prop} (D : ZipApart z TI TO i1 i2 l1 l2) (hz : ZnAt s.heap z TI TO f0 f) (h0 : ZnOut f0) (hTI : IsPair s.heap TI (.ref i1) (.ref i2)) (hTO : ∃ a b, IsPair s.heap TO a b)
    (h1 : s.heap.IsTupleIter i1 l1 k1) (h2 : s.heap.IsTupleIter i2 l2 k2) (hl1 : s.heap.IsTuple l1 xs) (hl2 : s.heap.IsTuple l2 ys) (hx : xs[k1]? = some x) (hy : ys[k2]? = some y)
    (hQ : ∀ h' f0' f', ZnAt h' z TI TO f0' f' → ZnOut f0' → (∃ a b, IsPair h' TO a b) → h'.IsTupleIter i1 l1 (k1 + 1) → h'.IsTupleIter i2 l2 (k2 + 1) → IsPair h' s.heap.objs.size x y →
      (∀ c o, c ≠ z → c ≠ TO → c ≠ i1 → c ≠ i2 → s.heap.get? c = some o → h'.get? c = some o) → Q (some (.ref s.heap.objs.size)) { s with heap := h' }) : wpAny (model prog w) A (pyNext (.ref z)) Q E s := by
  have hT : s.TypeIs (.ref z) "zip" := ⟨_, hz, rfl⟩
  unfold pyNext
  exact wpAny_bind (wpAny_attempt (wpAny_callSpecial?_slot (name := Str.ofString "__next__") hT F.slot_zip_next
    (wpAny_call_entry F.slot_zip_next hT F.entry_zip_next (zn_item D hz h0 hTI hTO h1 h2 hl1 hl2 hx hy fun h' a1 a2 a3 a4 a5 a6 a7 a8 a9 => wpAny_pure (hQ h' a1 a2 a3 a4 a5 a6 a7 a8 a9)) (F.args_zip_next_1 _))))
theorem zn_stop {Q : Option Value → Shared → Prop} (hh : A.handled = none) (D : ZipApart z TI TO i1 i2 l1 l2) (hz : ZnAt s.heap z TI TO f0 f) (h0 : ZnOut f0) (hTI : IsPair s.heap TI (.ref i1) (.ref i2)) (hTO : ∃ a b, IsPair s.heap TO a b)
    (h1 : s.heap.IsTupleIter i1 l1 k1) (h2 : s.heap.IsTupleIter i2 l2 k2) (hl1 : s.heap.IsTuple l1 xs) (hl2 : s.heap.IsTuple l2 ys) (hend : xs[k1]? = none ∨ ys[k2]? = none)
    (hQ : ∀ h', (∀ c o, c ≠ z → c ≠ TO → c ≠ i1 → c ≠ i2 → s.heap.get? c = some o → h'.get? c = some o) → Q none { s with heap := h' }) : wpAny (model prog w) A (pyNext (.ref z)) Q E s := by
  have hT : s.TypeIs (.ref z) "zip" := ⟨_, hz, rfl⟩
  unfold pyNext
  refine wpAny_bind (wpAny_attempt (wpAny_callSpecial?_slot (name := Str.ofString "__next__") hT F.slot_zip_next
    (wpAny_call_entry F.slot_zip_next hT F.entry_zip_next (zn_end hh D hz h0 hTI hTO h1 h2 hl1 hl2 hend fun h' e hk he => ?_) (F.args_zip_next_1 _))))
  obtain ⟨o, ho, hc⟩ := he
  refine wpAny_bind (wpAny_isInstance (T := "StopIteration") (b := true) ⟨o, ho, hc⟩ isSubtype_stop ?_)
  exact wpAny_pure (hQ _ hk)
end
end PySem.W
namespace L2
open PySem PySem.Spec PyProof.Rows
theorem turn_zn {P : Program} {w : World} {K : PySem.W.Frag} {nx : Str} {np : Pos} {a b z TI TO i1 i2 : Addr} (D : ZipApart z TI TO i1 i2 a b) :
    Turn P w K (.Name nx np) (RZ.ItzT K a b) [z, TI, TO, i1, i2] z (fun i h => (∃ f0 f, PySem.W.ZnAt h z TI TO f0 f ∧ PySem.W.ZnOut f0) ∧ IsPair h TI (.ref i1) (.ref i2) ∧ (∃ x y, IsPair h TO x y) ∧ h.IsTupleIter i1 a i ∧ h.IsTupleIter i2 b i) where
  mem := by simp
  obj := fun i h st c hc => by
    obtain ⟨⟨f0, f, hz, h0⟩, hTI, ⟨x, y, hTO⟩, ⟨o1, e1, _, d1⟩, ⟨o2, e2, _, d2⟩⟩ := st
    simp only [List.mem_cons, List.not_mem_nil, or_false] at hc
    rcases hc with rfl | rfl | rfl | rfl | rfl
    · exact ⟨_, hz, fun v q => nomatch q⟩
    · exact ⟨_, hTI, fun v q => nomatch q⟩
    · exact ⟨_, hTO, fun v q => nomatch q⟩
    · exact ⟨o1, e1, fun v q => by rw [d1] at q; cases q⟩
    · exact ⟨o2, e2, fun v q => by rw [d2] at q; cases q⟩
  keep := fun i h h' st k => by
    obtain ⟨⟨f0, f, hz, h0⟩, hTI, ⟨x, y, hTO⟩, h1, h2⟩ := st
    exact ⟨⟨f0, f, k z (by simp) _ hz, h0⟩, k TI (by simp) _ hTI, ⟨x, y, k TO (by simp) _ hTO⟩, h1.at fun o q => k i1 (by simp) o q, h2.at fun o q => k i2 (by simp) o q⟩
  item := by
    intro X hP hw hK hc i pins s σ H E I hf st hg
    subst hP hw hK
    obtain ⟨⟨f0, f, hz, h0⟩, hTI, hTO, h1, h2⟩ := st
    obtain ⟨xs, ys, x, y, hqx, hqy, hx, hy⟩ := hg
    obtain ⟨its, rv, p, _⟩ := I.tuple hqx
    obtain ⟨its2, rv2, p2, _⟩ := I.tuple hqy
    obtain ⟨u, hu, ru⟩ := rv.get hx
    obtain ⟨u2, hu2, ru2⟩ := rv2.get hy
    refine PySem.W.zn_next D hz h0 hTI hTO h1 h2 p p2 (x := u) (y := u2) (by simpa using hu) (by simpa using hu2) fun h' f0' f' z' q0 TO' h1' h2' hT hk => ?_
    have new : ObjOk X.prog X.w (upd H s.heap.objs.size (.tup [x, y])) h' s.heap.objs.size (.tup [x, y]) :=
      ⟨by show 2 ≤ sizeLine; decide, [u, u2], .cons ru (.cons ru2 .nil), ⟨_, hT, rfl, _, rfl⟩⟩
    have I1 : Inv X pins σ (upd H s.heap.objs.size (.tup [x, y])) { s with heap := h' } :=
      I.turnedNew (t' := s.toks) (ch := [z, TI, TO, i1, i2]) (fun c o hb q => hk c o (fun q' => hb (by simp [q'])) (fun q' => hb (by simp [q'])) (fun q' => hb (by simp [q'])) (fun q' => hb (by simp [q'])) q) hf (Nat.le_refl _) new
    refine ⟨_, rfl, wpAny_pure ⟨.ref s.heap.objs.size, _, I1, rfl, ⟨_, x, y, rfl, I.hok.fresh (Nat.le_refl _), rfl, fun l hl => by rw [I.tuple_inj hl hqx]; exact hx, fun l hl => by rw [I.tuple_inj hl hqy]; exact hy⟩, ⟨⟨_, _, z', q0⟩, hk _ _ D.TIz D.TITO D.TIi1 D.TIi2 hTI, TO', h1', h2'⟩, fun c hcm => ?_⟩⟩
    have hlt : c < s.heap.objs.size := by
      obtain ⟨_, _, hTO⟩ := hTO
      simp only [List.mem_cons, List.not_mem_nil, or_false] at hcm
      rcases hcm with rfl | rfl | rfl | rfl | rfl
      · exact Heap.lt_size hz
      · exact Heap.lt_size hTI
      · exact Heap.lt_size hTO
      · obtain ⟨_, e1, _⟩ := h1; exact Heap.lt_size e1
      · obtain ⟨_, e2, _⟩ := h2; exact Heap.lt_size e2
    rw [upd_ne (Nat.ne_of_lt hlt)]
    exact (hf c hcm).1
  done := by
    intro X hP hw hK hc i pins s σ H E I hf st hg
    subst hP hw hK
    obtain ⟨⟨f0, f, hz, h0⟩, hTI, hTO, h1, h2⟩ := st
    obtain ⟨xs, ys, hqx, hqy, hend⟩ := hg
    obtain ⟨its, rv, p, _⟩ := I.tuple hqx
    obtain ⟨its2, rv2, p2, _⟩ := I.tuple hqy
    have l1 := rv.length
    have l2 := rv2.length
    have he : its.toArray[i]? = none ∨ its2.toArray[i]? = none := by
      rcases hend with q | q
      · exact .inl (by simp; omega)
      · exact .inr (by simp; omega)
    exact PySem.W.zn_stop (I.ok.hd hc) D hz h0 hTI hTO h1 h2 p p2 he fun h' hk => ⟨rfl, I.turnedL (t' := s.toks) (ch := [z, TI, TO, i1, i2]) (fun c o hb q =>
      hk c o (fun q' => hb (by simp [q'])) (fun q' => hb (by simp [q'])) (fun q' => hb (by simp [q'])) (fun q' => hb (by simp [q'])) q) hf⟩
  self := fun A i s Q E st h => by
    obtain ⟨⟨f0, f, hz, h0⟩, _⟩ := st
    have hT : s.TypeIs (.ref z) "zip" := ⟨_, hz, rfl⟩
    refine wpAny_pyIter_slot hT F.slot_zip_iter (wpAny_call_entry F.slot_zip_iter hT F.entry_zip_iter ?_ (F.args_zip_iter_1 _))
    show wpAny _ _ (ret (.ref z)) _ _ s
    exact wpAny_pure ⟨_, rfl, "zip", _, hT, F.slot_zip_next.lookup, h⟩
def iZipN (K : PySem.W.Frag) (ta : TA) : TI := fun σ H R => ta σ H fun vs H1 => ∃ a b xs ys, vs = [.ref a, .ref b] ∧ SqT K H1 a xs ∧ SqT K H1 b ys ∧ R (RZ.ItzT K a b) H1
theorem pi_zipN {X : Cx} {e e2 : Expr} {ta : TA} {p pos np : Pos} {nx : Str} (hg : Gl X "zip") (hm : X.mg "zip" = none) (ha : PA X [e, e2] ta)
    (hs : starEach [e, e2] X.env = (false, eval e X.env) :: starEach [e2] X.env := by rfl) (hpl : (backTo pos (starEach [e2] X.env)).any (·.1) = false := by rfl) :
    PI X (.Name nx np) (.Call (.Name "zip" p) [e, e2] [] pos) (iZipN X.K ta) := by
  refine ⟨fun pins s σ H R I h => ?_⟩
  refine Call_ (ld_blt I hg hm PyProof.Rows.boot_zip (PyProof.Rows.callWith_type1 (thn (ha.run pos pins s σ H _ I h) fun us s1 ⟨vs, H1, I1, r1, q1⟩ => ?_) hs hpl))
  obtain ⟨a, b, xs, ys, ex, hqx, hqy, q⟩ := q1
  subst ex
  cases r1 with
  | cons r rr =>
    cases rr with
    | cons r' rr =>
      cases rr
      cases r
      cases r'
      have fresh5 : ∀ c, c ∈ [s1.heap.objs.size + 4, s1.heap.objs.size + 2, s1.heap.objs.size + 3, s1.heap.objs.size, s1.heap.objs.size + 1] → FpOk X pins H1 c := fun c hcm => by
        have hle : s1.heap.objs.size ≤ c := by
          simp only [List.mem_cons, List.not_mem_nil, or_false] at hcm
          rcases hcm with rfl | rfl | rfl | rfl | rfl <;> first | exact Nat.le_refl _ | exact Nat.le_add_right _ _
        exact I1.fpOk hle (I1.hok.fresh hle)
      obtain ⟨its, rv, p1, _⟩ := I1.tuple hqx
      obtain ⟨its2, rv2, p2, _⟩ := I1.tuple hqy
      obtain ⟨o1, ho1, _⟩ := id p1
      obtain ⟨o2, ho2, _⟩ := id p2
      refine RZ.call_zipT (show s1.heap.IsTuple a its.toArray from p1) (show s1.heap.IsTuple b its2.toArray from p2) fun h' hz hTI hTO h1 h2 hsz hk => wpAny_pyIter_zip hz ?_
      have I2 : Inv X pins σ H1 { s1 with heap := h' } := I1.kept (t' := s1.toks) hk
      exact ⟨s1.heap.objs.size + 4, [s1.heap.objs.size + 4, s1.heap.objs.size + 2, s1.heap.objs.size + 3, s1.heap.objs.size, s1.heap.objs.size + 1], _, _, H1, rfl, I2, turn_zn (PySem.W.ktu_apart s1.heap.objs.size a b (Heap.lt_size ho1) (Heap.lt_size ho2)), ⟨⟨_, _, hz, .inl rfl⟩, hTI, ⟨_, _, hTO⟩, h1, h2⟩, fresh5, q⟩
end L2

namespace Fw
open PySem L2
section
variable {X : Cx} {N : List Str} {sc : Scope} {own : Str → Bool} {κ α β γ δ ε ρ ν τ : Type} [DecidableEq κ] {A : Ty α} {B : Ty β} {e e2 a b k f : Expr} {ss : List Stmt} {nx : Str} {pos p p2 np cpos apos : Pos} {Γ gx : List Slot} {L : γ → List Rg} {s : γ} {xt : XT ε} {q : Addr} {L0 R : List Rg} {K : Kt κ} {kvs : List (κ × α)}
  {gn : ν → List Slot} {ln : ν → List Rg} {rt : RT ρ} {M : Out ε ρ ν}
theorem if_zipN {m : Res ε ((List α × List β × Unit) × γ)} (cx : Cxt X N sc own) (hm : X.mg "zip" = none) (h : AF X [e, e2] Γ L s (Tys2 (tTuL A) (tTuL B)) xt m) (hg : glB sc "zip" = true := by decide +kernel) (hs : starEach [e, e2] X.env = (false, eval e X.env) :: starEach [e2] X.env := by exact star_c rfl) (hpl : (backTo pos (starEach [e2] X.env)).any (·.1) = false := by rfl) :
    IF X (.Name nx np) (.Call (.Name "zip" p) [e, e2] [] pos) Γ L s (tTup (Tys2 A B)) xt (m.bnd fun t s => .val (zipL t.1 t.2.1, s)) := ⟨_, pi_zipN (glB_gl cx hg).1 hm pa_w hs hpl, fun I σ F H R fr th => by
  refine h I σ F H _ fr ?_
  cases m with
  | stuck => exact th
  | exn x => exact th
  | val q =>
    obtain ⟨t, s1⟩ := q
    intro I1 v H1 e1 fr1 r
    obtain ⟨v, w, rfl, ⟨a, vs, rfl, h1, h2⟩, ⟨b, ws, rfl, h3, h4⟩⟩ := tys2 r
    have hl : vs.length = t.1.length := paired_len h2
    have hl2 : ws.length = t.2.1.length := paired_len h4
    refine ⟨a, b, vs, ws, rfl, .of (fr1.sep.same _ _ h1), .of (fr1.sep.same _ _ h3), th _ I1 H1 e1 fr1 fun I2 L2 H2 e2 se i => ?_⟩
    have sq : SqT X.K H2 a vs := .of ((e2.trans se.same) _ _ h1)
    have sq2 : SqT X.K H2 b ws := .of ((e2.trans se.same) _ _ h3)
    have hn := zipL_len t.1 t.2.1
    refine ⟨fun hi => ⟨vs, ws, sq, sq2, ?_⟩, fun hi => ?_⟩
    · have hi : i = (zipL t.1 t.2.1).length := hi
      omega
    · have hi : i < (zipL t.1 t.2.1).length := hi
      have i1 : i < vs.length := by omega
      have i2 : i < ws.length := by omega
      refine ⟨⟨vs, ws, vs[i]'i1, ws[i]'i2, sq, sq2, by simp, by simp⟩, fun x H' y => ?_⟩
      obtain ⟨T, x, z, rfl, hT, rfl, y1, y2⟩ := y
      refine ⟨upd I2 T (.tup [x, z]), Same.upd (se.same.free hT), se.imm hT, fun d hd => ?_⟩
      obtain ⟨g1, g2⟩ := zipL_get (show (zipL t.1 t.2.1)[i]? = some d from hd)
      obtain ⟨d1, hd1, r1⟩ := paired_get h2 (y1 vs sq)
      obtain ⟨d2, hd2, r2⟩ := paired_get h4 (y2 ws sq2)
      rw [g1] at hd1
      rw [g2] at hd2
      cases hd1
      cases hd2
      exact ⟨T, _, rfl, upd_same, _, _, rfl, A.mono (e2.trans (Same.upd (se.same.free hT))) r1, _, _, rfl, B.mono (e2.trans (Same.upd (se.same.free hT))) r2, rfl⟩⟩
end
end Fw


/-! ## 230. tuples whose object is known; dict(a tuple of pairs) -/
namespace L2
open PySem PySem.Spec PyProof.Rows
section
variable {X : Cx}
theorem us_of {h : Heap} : ∀ (ps : List Addr) (prs : List (Key × Value)), prs.length = ps.length → (∀ (j : Nat) (q : Key × Value), prs[j]? = some q → ∃ (b : Addr) (u : Value), ps[j]? = some b ∧ IsTup h b #[u, q.2] ∧ keyIs q.1 u = true) →
    ∃ us : List (Value × Value), us.length = prs.length ∧ ∀ (j : Nat) (k v : Value), us[j]? = some (k, v) → ∃ (b : Addr) (q : Key), ps[j]? = some b ∧ prs[j]? = some (q, v) ∧ IsTup h b #[k, v] ∧ keyIs q k = true
  | _, [], _, _ => ⟨[], rfl, fun j k v e => by simp at e⟩
  | [], _ :: _, hl, _ => by cases hl
  | p :: ps, q :: prs, hl, hp => by
    obtain ⟨us, l, k⟩ := us_of ps prs (Nat.succ.inj hl) fun j q e => by
      obtain ⟨b, u, e1, e2⟩ := hp (j + 1) q (by simpa using e)
      exact ⟨b, u, by simpa using e1, e2⟩
    obtain ⟨b, u, e1, e2, e3⟩ := hp 0 q rfl
    refine ⟨(u, q.2) :: us, by rw [List.length_cons, List.length_cons, l], fun j k' v e => ?_⟩
    cases j with
    | zero =>
      have e := Option.some.inj (show some (u, q.2) = some (k', v) from e)
      injection e with ea eb
      subst ea
      subst eb
      exact ⟨b, q.1, e1, rfl, e2, e3⟩
    | succ j =>
      obtain ⟨b', q', f1, f2, f3⟩ := k j k' v (by simpa using e)
      exact ⟨b', q', by simpa using f1, by simpa using f2, f3⟩
/-- tuple(xs) of a list: the new object is known -/
theorem call_tupleF : CallR X (.type "tuple") (fun xs H Q => ∃ p ys, xs = [.ref p] ∧ SqL X.K H p ys ∧ ∀ (l : Addr) (o : Obj), H l = none → o.cls = .type "tuple" → o.dict = none → Q (.ref l) (upd H l (.frz o (.tup ys)))) := by
  intro pins s σ H xs us Q I r h
  obtain ⟨p, ys, rfl, hq, q⟩ := h
  obtain ⟨u, rfl, rx⟩ := vals1 r
  cases rx
  obtain ⟨its, r', pl, hz⟩ := I.list hq
  have hlen := r'.length
  refine call_tuple_list pl.isList (fun h' kp => ?_) (by simp only [List.size_toArray] <;> omega)
  have I1 : Inv X pins σ H { s with heap := h' } := I.kept (t' := s.toks) kp
  have I2 : Inv X pins σ (upd H h'.objs.size (.frz { cls := .type "tuple", data := .seq its.toArray } (.tup ys))) { s with heap := h'.push { cls := .type "tuple", data := .seq its.toArray } } :=
    I1.laid (t' := s.toks) (fun b o e => Heap.get?_push_of_some _ e) (Nat.le_refl _) (show ObjOk X.prog X.w _ _ _ (.frz _ (.tup ys)) from ⟨Heap.get?_push_size _ rfl, hz, its, r', IsTup.new _ _⟩)
  exact ⟨.ref h'.objs.size, _, I2, rfl, q _ _ (I1.hok.fresh (Nat.le_refl _)) rfl rfl⟩
theorem call_dictF (hcalm : X.calm = true) : CallR X (.type "dict") (fun xs H Q => ∃ (a : Addr) (o : Obj) (ps : List Addr) (kvs : List (Key × V)), xs = [.ref a] ∧ H a = some (.frz o (.tup (ps.map V.ref))) ∧ o.cls = .type "tuple" ∧ o.dict = none ∧ Paired (fun p kv => SqT X.K H p [kV kv.1, kv.2]) ps kvs ∧
    ∀ p, H p = none → Q (.ref p) (upd H p (.dK (mergeK [] kvs)))) := by
  intro pins s σ H xs us Q I r q
  obtain ⟨a, o, ps, kvs, ex, hq, hc, hd, hp, q⟩ := q
  subst ex
  obtain ⟨u, eu, rx⟩ := vals1 r
  subst eu
  cases rx
  obtain ⟨ho, hz, its, rv, pl⟩ := (show s.heap.get? a = some o ∧ ObjOk X.prog X.w H s.heap a (.tup (ps.map V.ref)) from I.hok a _ hq)
  have ei := refs_at rv
  subst ei
  rw [List.length_map] at hz
  obtain ⟨prs, rel, hl, hpr⟩ := pairs_of I hp
  obtain ⟨o2, ho2, _, n, hdat⟩ := pl
  rw [ho] at ho2
  cases ho2
  obtain ⟨us, ul, hus⟩ := us_of ps prs hl hpr
  have hpi : PairItems s.heap (ps.map Value.ref).toArray (fun j => ps.getD j 0) us := by
    refine ⟨by simp [ul, hl], fun j k v e => ?_⟩
    obtain ⟨b, q', e1, _, e3, _⟩ := hus j k v e
    have eg : ps.getD j 0 = b := by rw [List.getD_eq_getElem?_getD, e1]; rfl
    refine ⟨by simp [e1], ?_⟩
    show PairAt s.heap (ps.getD j 0) k v
    rw [eg]
    exact .inl e3
  have hrel : ∀ (i : Nat) (key v : Value), us[i]? = some (key, v) → ∃ k, prs[i]? = some (k, v) ∧ (mixKind X.prog X.w).is k key = true := fun i key v e => by
    obtain ⟨b, q', _, e2, _, e4⟩ := hus i key v e
    exact ⟨q', e2, e4⟩
  refine PySem.call_dict_pairs (knd := mixKind X.prog X.w) (kvs := prs) (PairArg.tuple a (ps.map Value.ref).toArray (fun j => ps.getD j 0) us) (I.ok.hd hcalm) ⟨⟨o, n, ho, hc, hd, hdat⟩, hpi⟩ ⟨ul.symm, hrel⟩ (by rw [ul, hl]; exact hz) fun h' tk hd' k => ?_
  have hm : (s.heap.objs.size == sysModules) = false := beq_eq_false_iff_ne.mpr (Nat.ne_of_gt I.big)
  have hlen : (mergeK [] kvs).length ≤ sizeLine := by
    refine Nat.le_trans (length_mergeK kvs []) ?_
    rw [List.length_nil, Nat.zero_add, rel.length, hl]
    exact hz
  exact ⟨.ref s.heap.objs.size, upd H s.heap.objs.size (.dK (mergeK [] kvs)), I.laid (t' := tk) (fun b o e => k b o (by simp) e) (Nat.le_refl _) (show ObjOk X.prog X.w _ _ _ (.dK (mergeK [] kvs)) from ⟨hlen, hm, merged [] prs, KV.merge rel .nil, hd'⟩), rfl, q _ (I.hok.fresh (Nat.le_refl _))⟩
end
end L2
namespace Fw
open PySem L2
/-- a tuple whose object is known -/
def tTuF {α : Type} (A : Ty α) : Ty (List α) := ⟨fun I v xs => ∃ (p : Addr) (o : Obj) (vs : List V), v = .ref p ∧ I p = some (.frz o (.tup vs)) ∧ o.cls = .type "tuple" ∧ o.dict = none ∧ Paired (A.rep I) vs xs, fun e ⟨p, o, vs, a, b, c, d, g⟩ => ⟨p, o, vs, a, e _ _ b, c, d, paired_mono e g⟩⟩
def dMerge {κ α : Type} [DecidableEq κ] (t : List (κ × α × Unit)) : List (κ × α) := t.foldl (fun d p => dPut d p.1 p.2.1) []
section
variable {X : Cx} {N : List Str} {sc : Scope} {own : Str → Bool} {κ α β γ δ ε ρ ν τ : Type} [DecidableEq κ] {A : Ty α} {B : Ty β} {iter tg e e2 a b k f : Expr} {es : List Expr} {ss : List Stmt} {x nx : Str} {pos p p2 np cpos apos : Pos} {Γ gx : List Slot} {L : γ → List Rg} {s : γ} {xt : XT ε} {q : Addr} {L0 R : List Rg} {K : Kt κ} {kvs : List (κ × α)} {c : α → PyData}
  {gn : ν → List Slot} {ln : ν → List Rg} {rt : RT ρ} {M : Out ε ρ ν}
theorem sqt_frz {K : PySem.W.Frag} {I : Hp} {p : Addr} {o : Obj} {vs : List V} (h : I p = some (.frz o (.tup vs))) : SqT K I p vs := .inl (.inr ⟨o, h⟩)
theorem nn_tuF : NotNon (tTuF A) := fun I v d h => by obtain ⟨p, o, vs, rfl, _⟩ := h; exact fun z => nomatch z
theorem coe_tuF (h : CoeOk A c) : CoeOk (tTuF A) (dTuL c) := fun K I v d q => by
  obtain ⟨p, o, vs, rfl, h1, _, _, h2⟩ := q
  exact .tup (sqt_frz h1) (coes_paired h K I h2)
theorem if_tupF {m : Res ε (List α × γ)} (h : EF X iter Γ L s (tTuF A) xt m) : IF X tg iter Γ L s A xt m := ⟨_, pi_tup pe_w, fun I σ F H R fr th => by
  refine h I σ F H _ fr ?_
  cases m with
  | stuck => exact th
  | exn x => exact th
  | val q =>
    intro I1 v H1 e1 fr1 r
    obtain ⟨a, o, vs, rfl, h1, _, _, h2⟩ := r
    have sq : SqT X.K H1 a vs := sqt_frz (fr1.sep.same _ _ h1)
    refine ⟨a, rfl, ⟨vs, sq⟩, th _ I1 H1 e1 fr1 fun I2 L2 H2 e2 se i => ?_⟩
    have sq2 : SqT X.K H2 a vs := sqt_frz ((e2.trans se.same) _ _ h1)
    have hl := paired_len h2
    refine ⟨fun hi => ⟨vs, sq2, by omega⟩, fun hi => ⟨⟨vs, vs[i]'(by omega), sq2, by simp⟩, fun x H' y => ?_⟩⟩
    obtain ⟨rfl, y⟩ := y
    refine ⟨I2, Same.refl _, se, fun d hd => ?_⟩
    obtain ⟨d', hd', rd⟩ := paired_get h2 (y vs sq2)
    rw [hd] at hd'
    cases hd'
    exact A.mono e2 rd⟩
/-- tuple(xs), xs a list -/
theorem ef_tupleF {m : Res ε (List α × γ)} (cx : Cxt X N sc own) (hm : X.mg "tuple" = none) (h : EF X e Γ L s (tLst A) xt m) (hg : glB sc "tuple" = true := by decide +kernel) (hs : starEach [e] X.env = (false, eval e X.env) :: starEach [] X.env := by exact star_c rfl) : EF X (.Call (.Name "tuple" p) [e] [] pos) Γ L s (tTuF A) xt m := fun I σ F H Q fr th => by
  obtain ⟨h1, h2, h3⟩ := glB_gl cx hg
  refine PE_to (pe_callTy call_tupleF h1 hm (by decide +kernel) (pa_cons pe_w pa_nil hs) h3 h2 hs rfl) ?_
  refine h I σ F H _ fr ?_
  cases m with
  | stuck => exact th
  | exn x => exact th
  | val pr =>
    intro I1 v H1 e1 fr1 ⟨pp, vs, e2, hp, pd⟩
    subst e2
    refine ⟨pp, vs, rfl, .of (fr1.sep.same _ _ hp), fun l o hl hc hd => ?_⟩
    have hi := fr1.sep.same.free hl
    exact th _ _ _ (e1.trans (Same.upd hi)) (fr1.step (Same.upd hi) (fr1.sep.imm hl)) ⟨l, o, vs, rfl, upd_same, hc, hd, paired_mono (Same.upd hi) pd⟩
/-- dict(t), t such a tuple of pairs -/
theorem PD.merge {I : Hp} {ws : List (κ × V)} {t : List (κ × α × Unit)} (h : Paired (fun (w : κ × V) (p : κ × α × Unit) => w.1 = p.1 ∧ A.rep I w.2 p.2.1) ws t) : ∀ {acc : List (κ × V)} {d : List (κ × α)}, PD A I acc d → PD A I (ws.foldl (fun acc w => putK acc w.1 w.2) acc) (t.foldl (fun d p => dPut d p.1 p.2.1) d) := by
  induction h with
  | nil => exact fun q => q
  | @cons w p ws t r _ ih =>
    intro acc d q
    obtain ⟨w1, w2⟩ := w
    obtain ⟨r1, r2⟩ := r
    cases r1
    exact ih (q.put p.1 r2)
theorem merge_enc {κ' : Type} [DecidableEq κ'] {enc : κ → κ'} (inj : ∀ a b, enc a = enc b → a = b) : ∀ (ws acc : List (κ × V)), (ws.map fun p => (enc p.1, p.2)).foldl (fun acc w => putK acc w.1 w.2) (acc.map fun p => (enc p.1, p.2)) = (ws.foldl (fun acc w => putK acc w.1 w.2) acc).map fun p => (enc p.1, p.2)
  | [], _ => rfl
  | w :: ws, acc => by
    rw [List.map_cons, List.foldl_cons, List.foldl_cons, putK_enc inj]
    exact merge_enc inj ws _
theorem pairs_split {T : Ty κ} {I : Hp} {K : PySem.W.Frag} {enc : κ → Key} (hT : ∀ I v k, T.rep I v k ↔ v = kV (enc k)) : ∀ {vs : List V} {t : List (κ × α × Unit)}, Paired ((tTup (Tys2 T A)).rep I) vs t → ∃ (ps : List Addr) (ws : List (κ × V)), vs = ps.map V.ref ∧
    Paired (fun (q : Addr) (w : Key × V) => I q = some (.tup [kV w.1, w.2])) ps (ws.map fun p => (enc p.1, p.2)) ∧ Paired (fun (w : κ × V) (p : κ × α × Unit) => w.1 = p.1 ∧ A.rep I w.2 p.2.1) ws t
  | _, _, .nil => ⟨[], [], rfl, .nil, .nil⟩
  | v :: vs, d :: t, .cons r rr => by
    obtain ⟨ps, ws, e1, e2, e3⟩ := pairs_split (K := K) hT rr
    obtain ⟨q, us, rfl, hq, x, xs, rfl, hx, y, ys, rfl, hy, hn⟩ := r
    cases (show ys = [] from hn)
    rw [(hT _ _ _).mp hx] at hq
    exact ⟨q :: ps, (d.1, y) :: ws, by rw [e1]; rfl, .cons hq e2, .cons ⟨rfl, hy⟩ e3⟩
theorem en_dictF {T : Ty κ} {enc : κ → Key} {inj : ∀ a b, enc a = enc b → a = b} {hT : ∀ I v k, T.rep I v k ↔ v = kV (enc k)} {m : Res ε (List (κ × α × Unit) × γ)} (cx : Cxt X N sc own) (cc : Calm X) (hm : X.mg "dict" = none) (h : EF X e Γ L s (tTuF (tTup (Tys2 T A))) xt m) (hg : glB sc "dict" = true := by decide +kernel) (hs : starEach [e] X.env = (false, eval e X.env) :: starEach [] X.env := by exact star_c rfl) :
    EN X (.Call (.Name "dict" p) [e] [] pos) Γ L s (cDic (ktOne T enc inj hT) A) xt (m.bnd fun t s => Res.val (dMerge t, s)) := fun I σ F H Q fr th => by
  obtain ⟨h1, h2, h3⟩ := glB_gl cx hg
  refine PE_to (pe_callTy (call_dictF cc.calm) h1 hm (by decide +kernel) (pa_cons pe_w pa_nil hs) h3 h2 hs rfl) ?_
  refine h I σ F H _ fr ?_
  cases m with
  | stuck => exact th
  | exn x => exact th
  | val pr =>
    obtain ⟨t, s1⟩ := pr
    intro I1 v H1 e1 fr1 ⟨pp, o, vs, e2, hp, hc, hd, pd⟩
    subst e2
    obtain ⟨ps, ws, rfl, k1, k2⟩ := pairs_split (K := X.K) hT pd
    refine ⟨pp, o, ps, _, rfl, fr1.sep.same _ _ hp, hc, hd, Paired.mapP k1 fun a b hh => .of (fr1.sep.same _ _ hh), fun l hl => ?_⟩
    have em : mergeK [] (ws.map fun p => (enc p.1, p.2)) = (ws.foldl (fun acc w => putK acc w.1 w.2) []).map fun p => (enc p.1, p.2) := merge_enc inj ws []
    rw [em]
    exact th I1 l _ e1 ⟨fr1.sep.new hl ⟨_, rfl, PD.merge k2 .nil⟩, fr1.len, fr1.sl⟩
/-- d.get(k), the values None or not -/
theorem ep_dget1o {kvs : List (κ × Option α)} {key : κ} (hu : X.A.units + 1 < cLine) (hd : EDic X e Γ L0 K (tOpt A) kvs) (hk : EP X k Γ L0 K.T key) (m : M1 X e "get" apos k cpos) : EP X (.Call (.Attribute e "get" apos) [k] [] cpos) Γ L0 (tOpt A) ((dGet kvs key).getD none) := fun I σ F H Q fr th => by
  refine PE_to (pe_dget1 hu pe_w pe_w m) ?_
  refine hd I σ F H _ fr fun p I1 H1 e1 fr1 st => ?_
  obtain ⟨ws0, rd0, _⟩ := st I1 H1 (Same.refl _) fr1
  refine ⟨p, rfl, K.isd rd0, ?_⟩
  refine hk.run fr1 fun I2 v H2 e2 fr2 rv => ?_
  obtain ⟨ws, rd, pd⟩ := st I2 H2 e2 fr2
  refine ⟨_, K.get rd fr2.sep.same rv, th I2 _ H2 (e1.trans e2) fr2 ?_⟩
  have g := pd.get key
  cases h1 : valV ws key <;> cases h2 : dGet kvs key <;> rw [h1, h2] at g <;> first | exact g.elim | skip
  · exact rfl
  · exact g
end
end Fw


/-! ## 240. a dict of own lists -/
namespace Fw
open PySem L2
section
variable {κ α β : Type} [DecidableEq κ]
theorem dGet_mapV (f : α → β) (k : κ) : ∀ ps : List (κ × α), dGet (ps.map fun p => (p.1, f p.2)) k = (dGet ps k).map f
  | [] => rfl
  | p :: ps => by
    have ih := dGet_mapV f k ps
    unfold dGet at ih ⊢
    rw [List.map_cons, List.find?_cons, List.find?_cons]
    by_cases h : p.1 = k
    · simp [h]
    · simp [h]
      simpa using ih
theorem dPut_mapV (f : α → β) (k : κ) (v : α) (ps : List (κ × α)) : (dPut ps k v).map (fun p => (p.1, f p.2)) = dPut (ps.map fun p => (p.1, f p.2)) k (f v) := by
  unfold dPut
  have ha : ((ps.map fun p => (p.1, f p.2)).any fun kv => decide (kv.1 = k)) = (ps.any fun kv => decide (kv.1 = k)) := by rw [List.any_map]; rfl
  rw [ha]
  split
  · rw [List.map_map, List.map_map]
    apply List.map_congr_left
    intro p _
    show (((if p.1 = k then (p.1, v) else p).1, f (if p.1 = k then (p.1, v) else p).2) : κ × β) = if p.1 = k then (p.1, f v) else (p.1, f p.2)
    split <;> rfl
  · rw [List.map_append]; rfl
theorem dGet_split {k : κ} {v : α} : ∀ {ps : List (κ × α)}, (ps.map (·.1)).Nodup → dGet ps k = some v → ∃ l1 l2, ps = l1 ++ (k, v) :: l2 ∧ ∀ v', dPut ps k v' = l1 ++ (k, v') :: l2
  | [], _, h => by cases h
  | p :: ps, hn, h => by
    obtain ⟨pk, pv⟩ := p
    rw [List.map_cons, List.nodup_cons] at hn
    unfold dGet at h
    rw [List.find?_cons] at h
    by_cases hk : pk = k
    · subst hk
      simp at h
      subst h
      refine ⟨[], ps, rfl, fun v' => ?_⟩
      unfold dPut
      rw [if_pos (by simp)]
      show (if pk = pk then (pk, v') else (pk, pv)) :: ps.map _ = (pk, v') :: ps
      rw [if_pos rfl]
      congr 1
      refine (List.map_congr_left fun q hq => ?_).trans (List.map_id _)
      rw [if_neg (fun z => hn.1 (List.mem_map.mpr ⟨q, hq, z⟩))]
      rfl
    · simp [hk] at h
      obtain ⟨l1, l2, e1, e2⟩ := dGet_split (ps := ps) (k := k) (v := v) hn.2 (by unfold dGet; simpa using h)
      refine ⟨(pk, pv) :: l1, l2, by rw [e1]; rfl, fun v' => ?_⟩
      have e3 := e2 v'
      have hany : ((pk, pv) :: ps).any (fun kv => decide (kv.1 = k)) = ps.any fun kv => decide (kv.1 = k) := by simp [hk]
      unfold dPut at e3 ⊢
      rw [hany]
      have hex : (ps.any fun kv => decide (kv.1 = k)) = true := by rw [e1]; simp
      rw [if_pos hex] at e3 ⊢
      rw [List.map_cons, if_neg hk, e3]
      rfl
theorem dPut_new {k : κ} {v : α} {ps : List (κ × α)} (h : dGet ps k = none) : dPut ps k v = ps ++ [(k, v)] := by
  have hno : (ps.any fun kv => decide (kv.1 = k)) = false := by
    unfold dGet at h
    rw [Option.map_eq_none_iff, List.find?_eq_none] at h
    rw [List.any_eq_false]
    exact h
  unfold dPut
  rw [hno]
  rfl
theorem dGet_none {k : κ} {ps : List (κ × α)} (h : dGet ps k = none) : k ∉ ps.map (·.1) := fun z => by
  obtain ⟨p, hp, e⟩ := List.mem_map.mp z
  unfold dGet at h
  rw [Option.map_eq_none_iff, List.find?_eq_none] at h
  exact h p hp (decide_eq_true e)
end
section
variable {κ α : Type} [DecidableEq κ]
/-- the dict at its place holds the lists' addresses -/
def cDP (K : Kt κ) (ps : List (κ × Addr × List α)) (kvs : List (κ × List α)) : CP := ⟨fun _ o => ((ps.map fun p : κ × Addr × List α => (p.1, p.2.2)) = kvs ∧ (ps.map fun p : κ × Addr × List α => p.1).Nodup) ∧ o = K.holds (ps.map fun p : κ × Addr × List α => (p.1, V.ref p.2.1)), fun _ h => h, fun ⟨_, h⟩ ys z => by rw [h] at z; exact K.nt _ _ z⟩
def clsP (A : Ty α) (ps : List (κ × Addr × List α)) : List Rg := ps.map fun p => cell p.2.1 (cLst A p.2.2)
def rDL (K : Kt κ) (A : Ty α) (q : Addr) (kvs : List (κ × List α)) : Rg := exR fun ps : List (κ × Addr × List α) => cell q (cDP K ps kvs) :: clsP A ps
variable {K : Kt κ} {A : Ty α} {q : Addr} {kvs : List (κ × List α)}
theorem dl_nil {A0 : Ty β} {L : List Rg} : Sub (cell q (cDic K A0 []) :: L) (rDL K A q [] :: L) := fun I F H h => by
  refine Sep.close (f := fun ps : List (κ × Addr × List α) => cell q (cDP K ps []) :: clsP A ps) [] ?_
  obtain ⟨R, ⟨o, e1, ws, e2, pd⟩, k⟩ := Sep.hd h
  have hw : ws = [] := List.length_eq_zero_iff.mp pd.len
  subst hw
  exact k (cell q (cDP K [] [])) ⟨o, e1, ⟨rfl, List.nodup_nil⟩, e2⟩
/-- the lists are data, so is the dict -/
theorem cls_freeze {A : Ty α} : ∀ {ps : List (κ × Addr × List α)} {I H : Hp} {c : Rg} {L : List Rg}, Sep I (c :: (clsP A ps ++ L)) H → ∃ I', Same I I' ∧ (∀ p ∈ ps, (tLst A).rep I' (.ref p.2.1) p.2.2) ∧ Sep I' (c :: L) H
  | [], I, H, c, L, h => ⟨I, Same.refl _, fun p hp => (by cases hp), h⟩
  | p :: ps, I, H, c, L, h => by
    have h2 : Sep I (cell p.2.1 (cLst A p.2.2) :: (c :: (clsP A ps ++ L))) H := h.perm (.swap _ _ _)
    obtain ⟨o, ho, ⟨vs, rfl, hv⟩, hi, se⟩ := h2.freeze
    obtain ⟨I', sm, r, se2⟩ := cls_freeze se
    refine ⟨I', (Same.upd hi).trans sm, fun q hq => ?_, se2⟩
    rcases List.mem_cons.mp hq with rfl | hq
    · exact ⟨_, vs, rfl, sm _ _ upd_same, paired_mono ((Same.upd hi).trans sm) hv⟩
    · exact r q hq
theorem dl_data {A : Ty α} {I H : Hp} {L : List Rg} (h : Sep I (rDL K A q kvs :: L) H) : ∃ I', Same I I' ∧ Sep I' (cell q (cDic K (tLst A) kvs) :: L) H := by
  obtain ⟨ps, se⟩ := Sep.open (f := fun ps : List (κ × Addr × List α) => cell q (cDP K ps kvs) :: clsP A ps) h
  obtain ⟨I', sm, r, se2⟩ := cls_freeze (c := cell q (cDP K ps kvs)) (L := L) se
  refine ⟨I', sm, ?_⟩
  obtain ⟨R, ⟨o, e1, ⟨e2, e3⟩, e4⟩, k⟩ := Sep.hd se2
  refine k (cell q (cDic K (tLst A) kvs)) ⟨o, e1, _, e4, ?_⟩
  subst e2
  have key : ∀ qs : List (κ × Addr × List α), (∀ p ∈ qs, p ∈ ps) → PD (tLst A) I' (qs.map fun p => (p.1, V.ref p.2.1)) (qs.map fun p => (p.1, p.2.2)) := fun qs => by
    induction qs with
    | nil => exact fun _ => .nil
    | cons p qs ih => exact fun hm => .cons ⟨rfl, r p (hm p List.mem_cons_self)⟩ (ih fun p hp => hm p (List.mem_cons_of_mem _ hp))
  exact key ps fun p hp => hp
end
section
variable {X : Cx} {N : List Str} {sc : Scope} {own : Str → Bool} {κ α β γ δ ε ρ ν τ : Type} [DecidableEq κ] {A : Ty α} {B : Ty β} {e f k : Expr} {ss : List Stmt} {x : Str} {pos dpos p p' apos cpos spos : Pos} {Γ gx : List Slot} {xt : XT ε} {q : Addr} {L0 L1 R : List Rg} {K : Kt κ} {kv : List (κ × List α)}
  {gn : ν → List Slot} {ln : ν → List Rg} {rt : RT ρ} {M : Out ε ρ ν}
theorem sf_sub (hs : Sub L0 L1) (h : SF X ss Γ L1 gn ln rt xt gx M) : SF X ss Γ L0 gn ln rt xt gx M := fun I σ F H D fr th => h I σ F H D ⟨hs I F H fr.sep, fr.len, fr.sl⟩ th
/-- x = {} -/
theorem sf_asgDL (cx : Cxt X N sc own) (i : Nat) (hr : ∀ q, SF X ss (Γ.set i (.dat (tCell q) ())) (rDL K A q [] :: L0) gn ln rt xt gx M) (hK : K.holds [] = .dK [] := by rfl) (hi : N[i]? = some x := by rfl) (ho : own x = true := by decide +kernel) (wk : Wk Γ gx := by first | exact Wk.nil | exact Wk.rfl)
    (hs : swapsWith (.Dict [] [] dpos) (some (.Name x p)) pos.line X.env = pure false := by rfl) : SF X (.Assign [.Name x p] (.Dict [] [] dpos) pos :: ss) Γ L0 gn ln rt xt gx M := fun I σ F H D fr th => by
  obtain ⟨h1, h2⟩ := cx.st x ho
  refine PSs_to (pss_cons (ps_set (by rw [cx.hN]; exact cx.nd) (by rw [cx.hN]; exact hi) h1 pe_w hs h2) pss_w) ?_
  refine (en_dnewK (γ := Unit) (L := fun _ => L0) (s := ()) (xt := xt) (K := K) (A := A) hK) I σ F H _ fr ?_
  intro I1 q H1 e1 fr1
  have fr2 : FrOk I1 σ Γ (rDL K A q [] :: (L0 ++ F)) H1 := ⟨by
    have z := (dl_nil (K := K) (A := A) (q := q) (A0 := A) (L := L0)) I1 F H1 fr1.sep
    exact z, fr1.len, fr1.sl⟩
  exact hr q I1 _ F H1 D (fr2.set (A := tCell q) (d := ()) rfl i) (sthen_up e1 th)
/-- x[k] = a new list, k new -/
theorem sf_dlPut {key : κ} {m : Res ε (List α × Unit)} {kk : List α → Out ε ρ ν} (hu : X.A.units + 1 < cLine) (hv : EN X f Γ (fun _ : Unit => L0) () (cLst A) xt m) (hL : L0.Perm (rDL K A q kv :: R)) (hd : ∀ L, EP X e Γ L (tCell q) ()) (hk : ∀ L, EP X k Γ L K.T key)
    (hr : ∀ d, SF X ss Γ (rDL K A q (dPut kv key d) :: R) gn ln rt xt gx (kk d)) (wk : Wk Γ gx := by first | exact Wk.nil | exact Wk.rfl)
    (hs : swapsWith f (some (.Subscript e k p')) pos.line X.env = pure false := by rfl) :
    SF X (.Assign [.Subscript e k p'] f pos :: ss) Γ L0 gn ln rt xt gx (Out.bnd m fun d _ => if kv.length < sizeLine ∧ (dGet kv key).isNone = true then kk d else .stuck) := fun I σ F H D fr th => by
  refine PSs_to (pss_cons (ps_dput hu pe_w pe_w pe_w hs) pss_w) ?_
  refine SThen.bndN hv wk fr th fun I1 a H1 d s1 e1 fr1 th1 => ?_
  refine (hd (cell a (cLst A d) :: L0)).run fr1 fun I2 vo H2 e2 fr2 ro => ?_
  cases (show vo = .ref q from ro)
  refine (hk (cell a (cLst A d) :: L0)).run fr2 fun I3 vi H3 e3 fr3 ri => ?_
  by_cases hz : kv.length < sizeLine ∧ (dGet kv key).isNone = true
  · rw [if_pos hz] at th1
    have se : Sep I3 (rDL K A q kv :: (cell a (cLst A d) :: (R ++ F))) H3 := by
      refine fr3.sep.perm ?_
      exact (((hL.append_right F).cons _).trans (.swap _ _ _))
    obtain ⟨ps, se1⟩ := Sep.open (f := fun ps : List (κ × Addr × List α) => cell q (cDP K ps kv) :: clsP A ps) se
    obtain ⟨o, ho, ⟨⟨e4, e5⟩, rfl⟩, _⟩ := Sep.get (L := clsP A ps ++ (cell a (cLst A d) :: (R ++ F))) se1
    have hnone : dGet ps key = none := by
      have := dGet_mapV (fun z : Addr × List α => z.2) key ps
      rw [e4] at this
      have h2 := Option.isNone_iff_eq_none.mp hz.2
      rw [h2] at this
      exact Option.map_eq_none_iff.mp this.symm
    have hlen : (ps.map fun p : κ × Addr × List α => (p.1, V.ref p.2.1)).length < sizeLine := by
      rw [List.length_map]
      have := congrArg List.length e4
      rw [List.length_map] at this
      omega
    refine ⟨q, _, rfl, K.put ho fr3.sep.same ri hlen, ?_⟩
    have hput : putK (ps.map fun p : κ × Addr × List α => (p.1, V.ref p.2.1)) key (V.ref a) = (dPut ps key (a, d)).map fun p : κ × Addr × List α => (p.1, V.ref p.2.1) := (dPut_mapV (fun z : Addr × List α => V.ref z.1) key (a, d) ps).symm
    rw [hput]
    have hnew := dPut_new (v := (a, d)) hnone
    have cp : (cDP (α := α) K (dPut ps key (a, d)) (dPut kv key d)).h I3 (K.holds ((dPut ps key (a, d)).map fun p : κ × Addr × List α => (p.1, V.ref p.2.1))) := by
      refine ⟨⟨?_, ?_⟩, rfl⟩
      · rw [← e4]; exact dPut_mapV (fun z : Addr × List α => z.2) key (a, d) ps
      · rw [hnew, List.map_append]
        refine List.nodup_append.mpr ⟨e5, by simp, fun x hx y hy z => ?_⟩
        rw [List.mem_singleton.mp (show y ∈ [key] from hy)] at z
        exact dGet_none hnone (z ▸ hx)
    have se2 := Sep.put (ψ := cDP K (dPut ps key (a, d)) (dPut kv key d)) (L := clsP A ps ++ (cell a (cLst A d) :: (R ++ F))) se1 cp
    have se3 : Sep I3 (rDL K A q (dPut kv key d) :: (R ++ F)) (upd H3 q (K.holds ((dPut ps key (a, d)).map fun p : κ × Addr × List α => (p.1, V.ref p.2.1)))) := by
      refine Sep.close (f := fun ps : List (κ × Addr × List α) => cell q (cDP K ps (dPut kv key d)) :: clsP A ps) (dPut ps key (a, d)) (se2.perm ?_)
      have hc : clsP A (dPut ps key (a, d)) = clsP A ps ++ [cell a (cLst A d)] := by rw [hnew]; unfold clsP; rw [List.map_append]; rfl
      rw [hc, List.cons_append, List.append_assoc]
      exact .refl _
    exact hr d I3 σ F _ D ⟨se3, fr3.len, fr3.sl⟩ (sthen_up (e2.trans e3) th1)
  · rw [if_neg hz] at th1
    exact th1.elim
/-- x[k].append(y) -/
theorem sf_dlApp [Inhabited (List α)] {key : κ} {m : Res ε (α × Unit)} {kk : α → Out ε ρ ν} (hu : X.A.units + 1 < cLine) (hv : ∀ L, EF X f Γ (fun _ : Unit => L) () A xt m) (hL : L0.Perm (rDL K A q kv :: R)) (hd : ∀ L, EP X e Γ L (tCell q) ()) (hk : ∀ L, EP X k Γ L K.T key)
    (hr : ∀ d, SF X ss Γ (rDL K A q (dPut kv key ((dGet kv key).getD default ++ [d])) :: R) gn ln rt xt gx (kk d)) (wk : Wk Γ gx := by first | exact Wk.nil | exact Wk.rfl)
    (hns : NoSl k := by exact fun _ _ => rfl)
    (hbase : attributeBase (.Subscript e k spos) "append" X.env (eval (.Subscript e k spos) X.env) = eval (.Subscript e k spos) X.env := by rfl)
    (hfew : ((backTo p (starEach (f :: []) X.env)).all (fun x => !x.1) && (backToKw p (keywordEach [] X.env)).all (fun x => x.1.isSome)
      && decide ((f :: []).length + ([] : List Keyword).length + (if ([] : List Keyword).isEmpty then 0 else 1) < 30)) = true := by rfl)
    (hline : (apos.endLine == p.line) = true := by rfl) (hs : starEach (f :: []) X.env = (false, eval f X.env) :: starEach [] X.env := by exact star_c rfl) (hplain : (backTo p (starEach [] X.env)).any (·.1) = false := by rfl)
    (hsw : swapsWith (.Call (.Attribute (.Subscript e k spos) "append" apos) [f] [] p) none pos.line X.env = pure false := by rfl) :
    SF X (.Expr (.Call (.Attribute (.Subscript e k spos) "append" apos) [f] [] p) pos :: ss) Γ L0 gn ln rt xt gx (if (dGet kv key).isSome = true then (Out.bnd m fun d _ => if ((dGet kv key).getD default).length < sizeLine then kk d else .stuck) else .stuck) := fun I σ F H D fr th => by
  by_cases hz : (dGet kv key).isSome = true
  · rw [if_pos hz] at th
    obtain ⟨old, hold⟩ : ∃ old, dGet kv key = some old := ⟨_, Option.eq_some_of_isSome hz⟩
    rw [hold] at th hr
    have se : Sep I (rDL K A q kv :: (R ++ F)) H := fr.sep.perm (hL.append_right F)
    obtain ⟨ps, se1⟩ := Sep.open (f := fun ps : List (κ × Addr × List α) => cell q (cDP K ps kv) :: clsP A ps) se
    obtain ⟨o, ho, ⟨⟨e4, e5⟩, _⟩, _⟩ := Sep.get (L := clsP A ps ++ (R ++ F)) se1
    obtain ⟨a, hps⟩ : ∃ a, dGet ps key = some (a, old) := by
      have h2 := dGet_mapV (fun z : Addr × List α => z.2) key ps
      rw [e4, hold] at h2
      cases h3 : dGet ps key with
      | none => rw [h3] at h2; cases h2
      | some v =>
        rw [h3] at h2
        obtain ⟨a, l⟩ := v
        have h2 := Option.some.inj h2
        exact ⟨a, by rw [show l = old from h2.symm]⟩
    obtain ⟨l1, l2, hsp, hpt⟩ := dGet_split e5 hps
    -- the regions, the one list ahead
    let Rest : List Rg := cell q (cDP K ps kv) :: ((clsP A l1 ++ clsP A l2) ++ R)
    have hcl : clsP A ps = clsP A l1 ++ (cell a (cLst A old) :: clsP A l2) := by rw [hsp]; unfold clsP; rw [List.map_append]; rfl
    have pm : (cell q (cDP K ps kv) :: clsP A ps ++ (R ++ F)).Perm ((cell a (cLst A old) :: Rest) ++ F) := by
      rw [hcl]
      have h1 : (cell q (cDP K ps kv) :: (clsP A l1 ++ (cell a (cLst A old) :: clsP A l2))).Perm (cell a (cLst A old) :: cell q (cDP K ps kv) :: (clsP A l1 ++ clsP A l2)) := ((List.perm_middle).cons _).trans (.swap _ _ _)
      have h2 := h1.append_right (R ++ F)
      have h3 : (cell a (cLst A old) :: Rest) ++ F = (cell a (cLst A old) :: cell q (cDP K ps kv) :: (clsP A l1 ++ clsP A l2)) ++ (R ++ F) := by
        show cell a (cLst A old) :: cell q (cDP K ps kv) :: ((clsP A l1 ++ clsP A l2) ++ R ++ F) = cell a (cLst A old) :: cell q (cDP K ps kv) :: ((clsP A l1 ++ clsP A l2) ++ (R ++ F))
        rw [List.append_assoc]
      rw [h3]
      exact h2
    have fr2 : FrOk I σ Γ ((cell a (cLst A old) :: Rest) ++ F) H := ⟨se1.perm pm, fr.len, fr.sl⟩
    have recv : EP X (.Subscript e k spos) Γ (cell a (cLst A old) :: Rest) (tCell a) () := fun I σ F H Q fr th => by
      refine PE_to (pe_dget hu pe_w pe_w hns) ?_
      refine (hd _).run fr fun I1 v H1 e1 fr1 r1 => ?_
      cases (show v = .ref q from r1)
      refine (hk _).run fr1 fun I2 w H2 e2 fr2 r2 => ?_
      obtain ⟨o, ho, ⟨⟨f4, f5⟩, rfl⟩, _⟩ := (Has.tl (Has.hd (L := (clsP A l1 ++ clsP A l2) ++ R)) : Has (cell a (cLst A old) :: Rest) q (cDP K ps kv)).get fr2.sep
      have hg : valV (ps.map fun p : κ × Addr × List α => (p.1, V.ref p.2.1)) key = some (.ref a) := by
        have h2 := dGet_mapV (fun z : Addr × List α => V.ref z.1) key ps
        rw [hps] at h2
        exact h2
      exact ⟨q, .ref a, rfl, by rw [← hg]; exact K.get (.inl ho) fr2.sep.same r2, th I2 _ H2 (e1.trans e2) fr2 rfl⟩
    have main := sf_append (γ := Unit) (L := fun _ => cell a (cLst A old) :: Rest) (s := ()) (xs := fun _ => old) (R := fun _ => Rest) (k := fun d _ => kk d) (gn := gn) (ln := ln) (rt := rt) (gx := gx) (ss := ss) (pos := pos) (p := p) (apos := apos) recv (hv _) (fun _ => .refl _) (fun d s => by
      refine sf_sub (L1 := rDL K A q (dPut kv key (old ++ [d])) :: R) (fun I F H h => ?_) (hr d)
      have pm2 : ((cell a (cLst A (old ++ [d])) :: Rest) ++ F).Perm (cell q (cDP K ps kv) :: (clsP A (l1 ++ (key, (a, old ++ [d])) :: l2) ++ (R ++ F))) := by
        have hc2 : clsP A (l1 ++ (key, (a, old ++ [d])) :: l2) = clsP A l1 ++ (cell a (cLst A (old ++ [d])) :: clsP A l2) := by unfold clsP; rw [List.map_append]; rfl
        rw [hc2]
        have h1 : (cell q (cDP K ps kv) :: (clsP A l1 ++ (cell a (cLst A (old ++ [d])) :: clsP A l2))).Perm (cell a (cLst A (old ++ [d])) :: cell q (cDP K ps kv) :: (clsP A l1 ++ clsP A l2)) := ((List.perm_middle).cons _).trans (.swap _ _ _)
        have h2 := h1.append_right (R ++ F)
        have h3 : (cell a (cLst A (old ++ [d])) :: Rest) ++ F = (cell a (cLst A (old ++ [d])) :: cell q (cDP K ps kv) :: (clsP A l1 ++ clsP A l2)) ++ (R ++ F) := by
          show cell a (cLst A (old ++ [d])) :: cell q (cDP K ps kv) :: ((clsP A l1 ++ clsP A l2) ++ R ++ F) = cell a (cLst A (old ++ [d])) :: cell q (cDP K ps kv) :: ((clsP A l1 ++ clsP A l2) ++ (R ++ F))
          rw [List.append_assoc]
        rw [h3]
        exact h2.symm
      have se5 := h.perm pm2
      obtain ⟨Rr, ⟨oo, f1, ⟨f2, f3⟩, f4⟩, kf⟩ := Sep.hd se5
      refine Sep.close (f := fun ps : List (κ × Addr × List α) => cell q (cDP K ps (dPut kv key (old ++ [d]))) :: clsP A ps) (dPut ps key (a, old ++ [d])) ?_
      rw [hpt (a, old ++ [d])]
      refine kf (cell q (cDP K (l1 ++ (key, (a, old ++ [d])) :: l2) (dPut kv key (old ++ [d])))) ⟨oo, f1, ⟨?_, ?_⟩, ?_⟩
      · rw [← hpt, ← f2]
        exact dPut_mapV (fun z : Addr × List α => z.2) key (a, old ++ [d]) ps
      · rw [hsp] at f3
        rw [List.map_append] at f3 ⊢
        exact f3
      · rw [f4, hsp, List.map_append, List.map_append]
        rfl) wk hbase hfew hline hs hplain hsw
    exact main I σ F H D fr2 th
  · rw [if_neg hz] at th
    exact th.elim
/-- the dict and its lists are data from here on -/
theorem sf_freezeDL {i : Nat} (hi : Γ[i]? = some (.dat (tCell q) ())) (hp : L0.Perm (rDL K A q kv :: R)) (h : SF X ss (Γ.set i (.dat (tDic K (tLst A)) kv)) R gn ln rt xt gx M) : SF X ss Γ L0 gn ln rt xt gx M := fun I σ F H D fr th => by
  obtain ⟨I', sm, se⟩ := dl_data (fr.sep.perm (hp.append_right F))
  exact (sf_freezeD hi (.refl _) h) I' σ F H D ⟨se, fr.len, fr.sl.mono sm⟩ (sthen_up sm th)
end
end Fw


/-! ## 250. sorted(d.items()) -/
namespace L2
open PySem PySem.Spec PyProof.Rows PySem.W Builtin
section
variable {X : Cx} {e : Expr} {te : TE} {p apos cpos pos : Pos}
theorem items_laid0 {pins : List (Addr × Obj)} {σ : L2.St} {H : Hp} {s : Shared} {h' : Heap} {tk : Nat} {kvs : List (Key × V)} {vs : List (Key × Value)} {as : List Addr} {lo : Addr} (I : Inv X pins σ H s) (kv : KV kvs vs)
    (hk : ∀ b o, s.heap.get? b = some o → h'.get? b = some o) (hlo : s.heap.objs.size ≤ lo) (hl : as.length = vs.length) (hG : PySem.W.KdxG (mixKind X.prog X.w) vs lo h' as) :
    ∃ H' : Hp, (∀ b o, H b = some o → H' b = some o) ∧ (∀ t ∈ as, H t = none) ∧ Paired (fun (t : Addr) (q : Key × V) => H' t = some (.tup [kV q.1, q.2])) as kvs ∧ Inv X pins σ H' { s with heap := h', toks := tk } := by
  have lk : kvs.length = vs.length := Paired.length kv
  have nd : as.Nodup := List.Pairwise.imp (fun {a b} (h : a < b) => Nat.ne_of_lt h) hG.rise
  have new : ∀ t ∈ as, H t = none := fun t ht => I.hok.fresh (Nat.le_trans hlo (Nat.le_of_lt (hG.above t ht)))
  have atP := LiI.putT_at as kvs H (by omega) nd
  have off : ∀ b, b ∉ as → LiI.putT H as kvs b = H b := fun b h1 => LiI.putT_off as kvs _ h1
  have low : ∀ b o, s.heap.get? b = some o → b ∉ as := fun b o e z => absurd (Nat.lt_of_lt_of_le (Heap.lt_size e) hlo) (Nat.not_lt.mpr (Nat.le_of_lt (hG.above b z)))
  have kp : ∀ b u, H b = some u → (LiI.putT H as kvs) b = some u := fun b u e => by
    rw [off b (fun z => by rw [new b z] at e; cases e)]
    exact e
  refine ⟨LiI.putT H as kvs, kp, new, atP, ?_⟩
  refine I.call' (ch := []) rfl ⟨fun b o q _ _ _ => hk b o q, fun b o q _ _ _ => ⟨o.slots, hk b o q⟩, fun b o q n _ => ?_, fun b o q _ => ⟨o, hk b o q⟩, fun b xs q => kp b _ q, fun b o u q => kp b _ q, fun b ps q => ⟨#[], by rw [kp b _ q]; simp⟩⟩ (fun b u q => ?_) I.bare fun b z => by simp at z
  · rw [off b (low b o q)]
    exact n
  · by_cases hb : b ∈ as
    · obtain ⟨j, pk, e1, e2, e3⟩ := LiI.paired_ix atP hb
      rw [e3] at q
      cases q
      obtain ⟨key, k, x, f1, f2, f3⟩ := hG.pairs j b e1
      obtain ⟨qv, g1, g2, g3⟩ := LiI.paired_get kv e2
      rw [f1] at g1
      cases g1
      have rk : RelV (kV pk.1) key := by
        rw [g2]
        exact relV_key (show keyIs k key = true from f2)
      exact ⟨by show 2 ≤ sizeLine; decide, [key, x], .cons rk (.cons g3 .nil), ⟨_, f3, rfl, _, rfl⟩⟩
    · rw [off b hb] at q
      exact (I.hok b u q).stay (fun d v _ y => hk d v y) (fun d y => kp d _ y) fun d xs y => kp d _ y
end
end L2
namespace Fw
open PySem L2 PyProof.Rows PySem.W Builtin
def AtT {α : Type} (ts : List Addr) (bs : List α) (y : V) (b : α) : Prop := ∃ (t : Addr) (j : Nat), y = .ref t ∧ ts[j]? = some t ∧ bs[j]? = some b
theorem each_at {α : Type} {as0 : List Addr} {bs0 : List α} : ∀ (n : Nat) (as : List Addr) (bs : List α), as.length = bs.length → (∀ (i : Nat) (t : Addr), as[i]? = some t → as0[n + i]? = some t) → (∀ (i : Nat) (b : α), bs[i]? = some b → bs0[n + i]? = some b) →
    EachIs (fun (v : Value) (b : α) => ∃ (t : Addr) (j : Nat), v = Value.ref t ∧ as0[j]? = some t ∧ bs0[j]? = some b) (as.map Value.ref) bs
  | _, [], [], _, _, _ => .nil
  | _, [], _ :: _, h, _, _ => by cases h
  | _, _ :: _, [], h, _, _ => by cases h
  | n, a :: as, b :: bs, h, h1, h2 => .cons ⟨a, n, rfl, h1 0 a rfl, h2 0 b rfl⟩ (each_at (n + 1) as bs (Nat.succ.inj h) (fun i t z => by rw [show n + 1 + i = n + (i + 1) by omega]; exact h1 (i + 1) t (by simpa using z)) fun i c z => by rw [show n + 1 + i = n + (i + 1) by omega]; exact h2 (i + 1) c (by simpa using z))
def tSortedItems {α : Type} (K : PySem.W.Frag) (k : α → PyData) (te : TE) : TE := fun σ H Q => te σ H fun x H1 => ∃ (d : Addr) (kvs : List (Key × V)) (bs : List α), x = .ref d ∧ Rd H1 d (.dK kvs) ∧ bs.length = kvs.length ∧
  (∀ (H' : Hp) (ts : List Addr), (∀ b o, H1 b = some o → H' b = some o) → (∀ t ∈ ts, H1 t = none) → Paired (fun (t : Addr) (q : Key × V) => H' t = some (.tup [kV q.1, q.2])) ts kvs → ∀ (j : Nat) (t : Addr) (b : α), ts[j]? = some t → bs[j]? = some b → Dp K H' (.ref t) (k b)) ∧
  ∀ (H' : Hp) (ts : List Addr) (ys : List V) (q : Addr), (∀ b o, H1 b = some o → H' b = some o) → (∀ t ∈ ts, H1 t = none) → Paired (fun (t : Addr) (q : Key × V) => H' t = some (.tup [kV q.1, q.2])) ts kvs → Paired (AtT ts bs) ys (sortK k bs) → H' q = none → Q (.ref q) (upd H' q (.lst ys))
theorem pe_sortedItems {X : Cx} {α : Type} {k : α → PyData} {e : Expr} {te : TE} {p apos cpos pos : Pos} (hcm : X.calm = true) (S : SrtK k) (hu : X.A.units + 10 < cLine) (he : PE X e te) (hg : Gl X "sorted") (hm : X.mg "sorted" = none) (hbase : attributeBase e "items" X.env (eval e X.env) = eval e X.env := by rfl) (hline : (apos.endLine == cpos.line) = true := by rfl)
    (hs : starEach [.Call (.Attribute e "items" apos) [] [] cpos] X.env = (false, eval (.Call (.Attribute e "items" apos) [] [] cpos) X.env) :: starEach [] X.env := by rfl) :
    PE X (.Call (.Name "sorted" p) [.Call (.Attribute e "items" apos) [] [] cpos] [] pos) (tSortedItems X.K k te) := by
  refine ⟨fun pins s σ H Q I hq => ?_⟩
  refine wpAny_Call_Name_kw (ld_blt I hg hm (show bootBuiltins "sorted" = some (.builtin "sorted") by decide +kernel) ?_)
  refine PyProof.Rows.callWith_builtin1 ?_ hs rfl
  rw [hs]
  show wpAny _ _ (spliced ((false, PySem.eval (.Call (.Attribute e "items" apos) [] [] cpos) X.env) :: backTo pos (starEach [] X.env))) _ _ s
  refine Calls.spliced_cons ?_
  refine wpAny_Call_method (T := "dict") (id := "dict.items") hbase rfl hline F.plainAttrs_dict F.slot_dict_items F.type_dict_items (thn (he.run pins s σ H _ I hq) fun u s1 ⟨x, H1, I1, rx, d, kvs, bs, ex, hd, hbl, q1, q2⟩ => ?_)
  subst ex
  obtain rfl : u = Value.ref d := rx
  obtain ⟨hz, hs0, vs, kv, hdo⟩ := dk_rd I1.hok hd
  obtain ⟨ep, hat⟩ := hdo.dictAt
  have lk : kvs.length = vs.length := Paired.length kv
  have I2 : Inv X pins σ H1 { s1 with heap := s1.heap.push { cls := .type "dict_items", data := .fields #[.ref d] } } := I1.kept (t' := s1.toks) fun b ob q => Heap.get?_push_of_some _ q
  refine ⟨hdo.typeIs, hdo.mapOf.noDict, ?_⟩
  show wpAny _ _ (callWith cpos (.builtin "dict.items") [.ref d] [] []) _ X.xe s1
  refine method_meetsIn F.slot_dict_items F.entry_dict_items rfl (PySem.evalArgs_none ⟨rfl, hdo.typeIs, F.args_dict_items_1 _, _, meets_dict_items (mixKind X.prog X.w) d hs0, ⟨vs, hdo⟩, ?_⟩)
  refine Calls.spliced_nil ?_
  refine call_function_entry_kw kind_sorted plain_sorted entry_sorted (args_sorted1 _) ?_
  unfold Builtin.«sorted»
  refine wpAny_bind (m := checkCount "sorted" 1 1 _) (wpAny_pure ?_)
  refine wpAny_bind (PySem.W.kdx_collect (A := X.A.in1) (knd := mixKind X.prog X.w) (kvs := vs) (ep := ep) (I1.ok.hd hcm) ⟨_, Heap.get?_push_size _ rfl, rfl, rfl⟩ (hat.push _) (by omega) fun h1 tk as k1 hl hG => ?_)
  obtain ⟨H', g1, g2, g3, J⟩ := items_laid0 (tk := tk) I2 kv k1 (Nat.le_refl _) hl hG
  have hsz : (as.map Value.ref).length ≤ sizeLine := by rw [List.length_map, hl]; omega
  refine wpAny_bind (wpAny_newList ?_ hsz)
  have hoL : (h1.push (seqObj "list" (as.map Value.ref).toArray 0)).get? h1.objs.size = some (seqObj "list" (as.map Value.ref).toArray 0) := Heap.get?_push_size _ rfl
  refine wpAny_bind (wpAny_holding (wpAny_call_entry_kw slot_list_sort ⟨_, hoL, rfl⟩ entry_list_sort ?body (args_list_sort _)))
  have k0 : ∀ b o, h1.get? b = some o → b ≠ h1.objs.size ∧ (h1.push (seqObj "list" (as.map Value.ref).toArray 0)).get? b = some o := fun b o e => ⟨Nat.ne_of_lt (Heap.lt_size e), Heap.get?_push_of_some _ e⟩
  have hab : as.length = bs.length := by omega
  have e0 : EachIs (fun (v : Value) (b : α) => ∃ (t : Addr) (j : Nat), v = Value.ref t ∧ as[j]? = some t ∧ bs[j]? = some b) (as.map Value.ref) bs := each_at 0 as bs hab (fun i t z => by rw [Nat.zero_add]; exact z) (fun i b z => by rw [Nat.zero_add]; exact z)
  have e1 : EachIs (fun v b => ∃ y, RelV y v ∧ AtT as bs y b) (as.map Value.ref) bs := each_mono (fun v b ⟨t, j, z1, z2, z3⟩ => ⟨.ref t, z1, t, j, rfl, z2, z3⟩) e0
  have e2 : EachIs (fun v b => ∃ ad, Reads (sortingHeap (h1.push (seqObj "list" (as.map Value.ref).toArray 0)) h1.objs.size (as.map Value.ref)) v (k b) ad) (as.map Value.ref) bs := each_mono (fun v b ⟨t, j, z1, z2, z3⟩ => by
    obtain ⟨ad, rd⟩ := Dp.reads J (k b) (.ref t) v (q1 H' as g1 g2 g3 j t b z2 z3) z1
    exact ⟨ad, PyProof.Rows.Reads.keeps (fun c o z => sortingHeap_old (k0 c o z).1 (k0 c o z).2) rd⟩) e0
  have hal := PySem.W.AllAlike.of (bs := bs) (enc := k) fun b b' => S.al b b'
  refine list_sort_vals hoL (SortsAt.data (s := { s1 with heap := sortingHeap (h1.push (seqObj "list" (as.map Value.ref).toArray 0)) h1.objs.size (as.map Value.ref), toks := tk }) (each_map k e2) hal (S.st.elim PySem.W.Sortable.tuples PySem.W.Sortable.others) (bound_map fun b hb => by have := S.dp b; show X.A.units + 2 + (k b).depth < cLine; omega)) hsz ?_
  obtain ⟨c, hc⟩ := sortedHeap_at (out := (sortVals (dataKind (sortingHeap (h1.push (seqObj "list" (as.map Value.ref).toArray 0)) h1.objs.size (as.map Value.ref)) (bs.map k)) false (as.map Value.ref) (as.map Value.ref)).toArray) hoL
  refine ⟨_, rfl, wpAny_pure ⟨_, rfl, ?_⟩⟩
  obtain ⟨ys, y1, y2⟩ := paired_of_each (sortVals_data false e1 e2 hal)
  have hlen2 : ys.length ≤ sizeLine := by
    rw [y1.length, sortVals_length false rfl]; exact hsz
  refine ⟨.ref h1.objs.size, upd H' h1.objs.size (.lst ys), J.laid (t' := tk) (fun b o e => ?_) (Nat.le_refl _) ⟨hlen2, _, c, y1, hc⟩, rfl, q2 H' as ys _ g1 g2 g3 y2 (J.hok.fresh (Nat.le_refl _))⟩
  have e' := (k0 b o e).2
  rw [sortedHeap_old (k0 b o e).1 (Heap.lt_size e')]
  exact e'
section
variable {X : Cx} {N : List Str} {sc : Scope} {own : Str → Bool} {κ α β γ δ ε ρ ν τ : Type} [DecidableEq κ] {A : Ty α} {e : Expr} {pos p cpos apos : Pos} {Γ : List Slot} {L : γ → List Rg} {s : γ} {xt : XT ε}
theorem ef_sortedItems {T : Ty κ} {enc : κ → Key} {inj : ∀ a b, enc a = enc b → a = b} {hT : ∀ I v k, T.rep I v k ↔ v = kV (enc k)} {kv : List (κ × α)} {kd : (κ × α × Unit) → PyData} (cx : Cxt X N sc own) (hcm : X.calm = true) (S : SrtK kd) (hc : CoeOk (tTup (Tys2 T A)) kd) (hu : X.A.units + 10 < cLine) (hm : X.mg "sorted" = none)
    (h : EDic X e Γ (L s) (ktOne T enc inj hT) A kv) (hg : glB sc "sorted" = true := by decide +kernel) (hbase : attributeBase e "items" X.env (PySem.eval e X.env) = PySem.eval e X.env := by rfl) (hline : (apos.endLine == cpos.line) = true := by rfl)
    (hs : starEach [.Call (.Attribute e "items" apos) [] [] cpos] X.env = (false, PySem.eval (.Call (.Attribute e "items" apos) [] [] cpos) X.env) :: starEach [] X.env := by exact star_c rfl) :
    EF X (.Call (.Name "sorted" p) [.Call (.Attribute e "items" apos) [] [] cpos] [] pos) Γ L s (tLst (tTup (Tys2 T A))) xt (Res.val (sortK kd (kv.map fun p => (p.1, p.2, ())), s)) := fun I σ F H Q fr th => by
  refine PE_to (pe_sortedItems hcm S hu pe_w (glB_gl cx hg).1 hm hbase hline hs) ?_
  refine h I σ F H _ fr fun d I1 H1 e1 fr1 st => ?_
  obtain ⟨ws, rd, pd⟩ := st I1 H1 (Same.refl _) fr1
  have hlen := pd.len
  have rep : ∀ (I2 : Hp) (ts : List Addr), Same I1 I2 → Paired (fun (t : Addr) (q : Key × V) => I2 t = some (.tup [kV q.1, q.2])) ts (ws.map fun p => (enc p.1, p.2)) → ∀ (j : Nat) (t : Addr) (b : κ × α × Unit), ts[j]? = some t → (kv.map fun p => (p.1, p.2, ()))[j]? = some b → (tTup (Tys2 T A)).rep I2 (.ref t) b := fun I2 ts sm pt j t b ht hb => by
    obtain ⟨q, hq, htq⟩ := LiI.paired_get pt ht
    rw [List.getElem?_map] at hq hb
    cases hw : ws[j]? with
    | none => rw [hw] at hq; cases hq
    | some w =>
      rw [hw] at hq
      cases hq
      obtain ⟨y, hy, ey, ry⟩ := paired_get pd hw
      rw [hy] at hb
      cases hb
      refine ⟨t, _, rfl, htq, kV (enc w.1), _, rfl, ?_, w.2, _, rfl, A.mono sm ry, rfl⟩
      exact (hT _ _ _).mpr (by rw [show w.1 = y.1 from ey])
  refine ⟨d, ws.map (fun p : κ × V => (enc p.1, p.2)), kv.map fun p => (p.1, p.2, ()), rfl, rd, by rw [List.length_map, List.length_map]; omega, fun H' ts g1 g2 g3 j t b ht hb => ?_, fun H' ts ys q g1 g2 g3 g4 hq => ?_⟩
  · exact hc X.K H' (.ref t) b (rep H' ts (fun c o z => g1 c o (fr1.sep.same _ _ z)) g3 j t b ht hb)
  · obtain ⟨I', sm, nw, se⟩ := fr1.sep.grow g1
    have sq := se.same.free hq
    have g5 : Paired (fun (t : Addr) (q : Key × V) => I' t = some (.tup [kV q.1, q.2])) ts (ws.map fun p => (enc p.1, p.2)) := paired_mem g3 fun t z ht hh => nw _ _ (g2 t ht) hh
    refine th (upd I' q (.lst ys)) _ _ (e1.trans (sm.trans (Same.upd sq))) (fr1.step (sm.trans (Same.upd sq)) (se.imm hq)) ⟨q, ys, rfl, upd_same, paired_mono (Same.upd sq) ?_⟩
    exact Paired.mapP g4 fun y b ⟨t, j, z1, z2, z3⟩ => by
      rw [z1]
      exact rep I' ts sm g5 j t b z2 z3
end
end Fw


/-! ## 260. list(reversed(xs)) -/
namespace PySem.W
open PySem PySem.Calls PyProof.Rows PyProof.V PySem.Spec
section
variable {prog : Program} {w : World} {A : Around} {E : Value → Shared → Prop} {s : Shared} {R : Result → Shared → Prop}
theorem rv_init {S it l : Addr} {items : Array Value} (hh : A.handled = none) (hit : s.heap.IsRevIter it l ((items.size : Int) - 1)) (hl : s.heap.IsList l items) (hne : l ≠ it) (hSi : S ≠ it) (hSl : S ≠ l) (hn : items.size ≤ sizeLine) (hS : s.heap.get? S = some { cls := .type "list", data := .seq #[] })
    (hR : ∀ h' tk acc c, (∀ b o, b ≠ S → b ≠ it → s.heap.get? b = some o → h'.get? b = some o) → h'.get? S = some { cls := .type "list", dict := none, data := .seq acc c, slots := #[] } → ItemsOf (fun i v => items[items.size - 1 - i]? = some v) acc items.size → R (.ok (.ret .none)) { s with heap := h', toks := tk }) :
    wpAny (model prog w) A.in1 (Builtin.«list.__init__» ⟨[.ref S, .ref it], []⟩)
      (fun fin s' => match fin with | .done f => R (.ok f) s' | .again c' => c'.quiet = true ∧ codeAny (model prog w) A c' R s') (fun e s' => R (.error e) s') s := by
  show wpAny _ _ (do let old ← Builtin.List.listItems (.ref S); Builtin.List.listUpdate (.ref S) (fun _ => #[]); letGo old.toList.reverse; Builtin.List.listExtendWith (.ref S) (.ref it) .none) _ _ s
  refine wpAny_bind ?_
  unfold Builtin.List.listItems
  refine wpAny_bind (wpAny_seqItems hS rfl (wpAny_pure ?_))
  show wpAny _ _ (updateSeq S (fun _ => #[]) >>= fun _ => letGo (#[] : Array Value).toList.reverse >>= fun _ => Builtin.List.listExtendWith (.ref S) (.ref it) .none) _ _ s
  refine wpAny_bind (wpAny_updateSeq hS rfl ?_)
  have hS₂ := Heap.get?_update_self (Obj.mapSeq (fun _ => (#[] : Array Value))) hS rfl
  have oth : ∀ b o, b ≠ S → s.heap.get? b = some o → (s.heap.update S (Obj.mapSeq (fun _ => (#[] : Array Value)))).get? b = some o :=
    fun b o hb e => (Heap.get?_update_other _ _ (Ne.symm hb)).trans e
  refine wpAny_bind (wpAny_letGo ?_)
  have hit1 : (s.heap.update S (Obj.mapSeq (fun _ => (#[] : Array Value)))).IsRevIter it l ((items.size : Int) - 1) := hit.at fun o e => oth it o (Ne.symm hSi) e
  have hl1 : (s.heap.update S (Obj.mapSeq (fun _ => (#[] : Array Value)))).IsList l items := hl.at fun o e => oth l o (Ne.symm hSl) e
  have hT : ({ s with heap := s.heap.update S (Obj.mapSeq (fun _ => (#[] : Array Value))) } : Shared).TypeIs (.ref it) "list_reverseiterator" := Heap.IsRevIter.typeIs (s := { s with heap := s.heap.update S (Obj.mapSeq (fun _ => (#[] : Array Value))) }) hit1
  have h1 : Builtin.List.listSameRef (.ref S) (.ref it) = false := by simp [Builtin.List.listSameRef, hSi]
  have W := (Walks.listRev (prog := prog) (w := w) (A := A.in1) hh it l hne items).toS
  have hSf : S ∉ [it, l] := by simp only [List.mem_cons, List.not_mem_nil, or_false, not_or]; exact ⟨hSi, hSl⟩
  unfold Builtin.List.listExtendWith
  refine wpAny_bind (wpAny_typeOf hT ?_)
  rw [if_neg (by rw [h1]; decide)]
  refine wpAny_bind (wpAny_pyIter_revIter (s := { s with heap := s.heap.update S (Obj.mapSeq (fun _ => (#[] : Array Value))) }) hit1 ?_)
  refine wpAny_bind (wpAny_holding ?_)
  unfold Builtin.List.listLengthHint
  refine wpAny_bind (wpAny_specialOf hT RT.nolen_lri ?_)
  show wpAny _ A.in1 (specialOf (Value.ref it) (Str.ofString "__length_hint__") >>= _) _ _ _
  refine wpAny_bind (wpAny_specialOf hT RT.hint_lri ?_)
  generalize hid : ("list_reverseiterator.__length_hint__" : String) = id0
  wp_delta
  rw [show splitId id0 = some ("list_reverseiterator", "__length_hint__") from by subst hid; decide +kernel]
  subst hid
  refine wpAny_bind (wpAny_isInstance (b := true) hT (by rw [isSubtype_type]; kernel_rfl) ?_)
  refine wpAny_pure ?_
  rw [if_neg (by decide)]
  have e0 : ((items.size : Nat) : Int) - 1 - ((0 : Nat) : Int) = (items.size : Int) - 1 := by omega
  refine wpAny_pure ⟨plainId_quiet PySem.F.plain_extend_loop _, codeAny_extend_loopS W hn _ hSf _ items.size 0 _ _ _ rfl (Nat.zero_le _) ⟨Nat.zero_le _, by rw [e0]; exact hit1, hl1⟩ hS₂ (ItemsOf.nil _) fun s' acc' c' hm hS' hacc => ?_⟩
  rw [Moved.eq_with hm]
  refine hR s'.heap s'.toks acc' c' (fun b o hb1 hb2 e => hm.heap b o (fun hmem => ?_) (oth b o hb1 e)) hS' hacc
  rcases List.mem_cons.mp hmem with e' | hmem
  · exact hb1 e'
  · exact hb2 (List.mem_singleton.mp hmem)
/-- list(it), it a list's reversed iterator just made -/
theorem rv_call {it l : Addr} {items : Array Value} {Q : Value → Shared → Prop} (hh : A.handled = none) (hit : s.heap.IsRevIter it l ((items.size : Int) - 1)) (hl : s.heap.IsList l items) (hne : l ≠ it) (hn : items.size ≤ sizeLine)
    (hQ : ∀ h' tk acc c, (∀ b o, b ≠ it → s.heap.get? b = some o → h'.get? b = some o) → h'.get? s.heap.objs.size = some { cls := .type "list", dict := none, data := .seq acc c, slots := #[] } → ItemsOf (fun i v => items[items.size - 1 - i]? = some v) acc items.size → Q (.ref s.heap.objs.size) { s with heap := h', toks := tk }) :
    wpAny (model prog w) A (call (.type "list") [.ref it]) Q E s := by
  refine callType_codes (Q₁ := fun obj s₁ => obj = .ref s.heap.objs.size ∧ s₁ = { s with heap := s.heap.push { cls := .type "list", data := .seq #[] } }) PySem.F.called_list (PySem.F.typeCall_list_1 _) PySem.F.entry_list_init
    (code_list_new _ ⟨rfl, rfl⟩) fun obj s₁ h₁ => ?_
  obtain ⟨rfl, rfl⟩ := h₁
  have hS : (s.heap.push { cls := .type "list", data := .seq #[] }).get? s.heap.objs.size = some { cls := .type "list", data := .seq #[] } := Heap.get?_push_size _ rfl
  have up : ∀ b o, s.heap.get? b = some o → (s.heap.push { cls := .type "list", data := .seq #[] }).get? b = some o := fun b o e => Heap.get?_push_of_some _ e
  have hi : it < s.heap.objs.size := let ⟨_, ho, _⟩ := hit; Heap.lt_size ho
  have hll : l < s.heap.objs.size := let ⟨_, ho, _⟩ := hl; Heap.lt_size ho
  refine ⟨⟨_, hS, rfl⟩, PySem.F.args_list_init_2 _ _, rv_init (A := A.in1) hh (hit.at fun o e => up _ o e) (hl.at fun o e => up _ o e) hne (Nat.ne_of_gt hi) (Nat.ne_of_gt hll) hn hS (fun h' tk acc c hk hS' hacc => ?_)⟩
  exact ⟨rfl, hQ h' tk acc c (fun b o h2 e => hk b o (Nat.ne_of_lt (Heap.lt_size e)) h2 (up b o e)) hS' hacc⟩
end
end PySem.W
namespace L2
open PySem PySem.Spec PyProof.Rows
theorem vals_rev {xs : List V} {us : List Value} (h : Vals xs us) {acc : Array Value} (ha : ItemsOf (fun i v => us.toArray[us.toArray.size - 1 - i]? = some v) acc us.toArray.size) : Vals xs.reverse acc.toList := by
  have hl := h.length
  have hsz : acc.size = us.length := by rw [ha.1]; simp
  refine vals_of_at (by rw [List.length_reverse, hl, ← hsz]; exact (Array.length_toList).symm) fun j x u hx hu => ?_
  have hj : j < xs.length := by have := (List.getElem?_eq_some_iff.mp hx).1; rw [List.length_reverse] at this; exact this
  rw [List.getElem?_reverse hj] at hx
  have h2 := ha.2 j u (by rw [← Array.getElem?_toList]; exact hu)
  simp only [List.size_toArray, List.getElem?_toArray] at h2
  obtain ⟨v, hv, rv⟩ := h.get hx
  rw [hl] at hv
  rw [h2] at hv
  cases hv
  exact rv
section
variable {X : Cx} {e : Expr} {te : TE} {p p2 cpos pos : Pos}
/-- list(reversed(e)) -/
theorem pe_listRev (hc : X.calm = true) (hg : Gl X "list") (hm : X.mg "list" = none) (hg2 : Gl X "reversed") (hm2 : X.mg "reversed" = none) (he : PE X e te) (hs : starEach [e] X.env = (false, eval e X.env) :: starEach [] X.env := by rfl)
    (na : starEach [.Call (.Name "reversed" p2) [e] [] cpos] X.env = (false, eval (.Call (.Name "reversed" p2) [e] [] cpos) X.env) :: starEach [] X.env := by rfl) :
    PE X (.Call (.Name "list" p) [.Call (.Name "reversed" p2) [e] [] cpos] [] pos) (fun σ H Q => te σ H fun x H1 => ∃ (a : Addr) (xs : List V), x = .ref a ∧ SqL X.K H1 a xs ∧ ∀ q, H1 q = none → Q (.ref q) (upd H1 q (.lst xs.reverse))) := by
  refine ⟨fun pins s σ H Q I h => ?_⟩
  refine Call_ (ld_blt I hg hm boot_list (PyProof.Rows.callWith_type1 (args_cons ?_ na) na))
  refine Call_ (ld_blt I hg2 hm2 (show bootBuiltins "reversed" = some (.type "reversed") by decide +kernel) (PyProof.Rows.callWith_type1 (args_cons (thn (he.run pins s σ H _ I h) fun u s1 ⟨x, H1, I1, r, a, xs, ex, hq, q⟩ => args_nil ?_) hs) hs))
  subst ex
  obtain rfl : u = Value.ref a := r
  obtain ⟨its, rv, pl, hz⟩ := I1.list hq
  have hlen := rv.length
  have hla : a < s1.heap.objs.size := pl.lt
  refine call_reversed_list pl.isList (args_nil ?_)
  have hit : (s1.heap.push (revObj a ((its.toArray.size : Int) - 1))).IsRevIter s1.heap.objs.size a ((its.toArray.size : Int) - 1) := ⟨_, Heap.get?_push_size _ rfl, rfl, rfl⟩
  have hsz2 : (s1.heap.push (revObj a ((its.toArray.size : Int) - 1))).objs.size = s1.heap.objs.size + 1 := Heap.size_push ..
  refine PySem.W.rv_call (s := { s1 with heap := s1.heap.push (revObj a ((its.toArray.size : Int) - 1)) }) (I1.ok.hd hc) hit (pl.isList.at fun o e => Heap.get?_push_of_some _ e) (Nat.ne_of_lt hla) (by simp only [List.size_toArray]; omega) fun h' tk acc c hk hS hacc => ?_
  have kp : ∀ b o, s1.heap.get? b = some o → h'.get? b = some o := fun b o e => hk b o (Nat.ne_of_lt (Heap.lt_size e)) (Heap.get?_push_of_some _ e)
  have hle : s1.heap.objs.size ≤ (s1.heap.push (revObj a ((its.toArray.size : Int) - 1))).objs.size := by rw [hsz2]; exact Nat.le_succ _
  refine ⟨.ref _, upd H1 _ (.lst xs.reverse), I1.laid (t' := tk) kp hle (show ObjOk X.prog X.w _ _ _ (.lst xs.reverse) from ⟨by rw [List.length_reverse]; exact hz, acc.toList, c, vals_rev rv hacc, ?_⟩), rfl, q _ (I1.hok.fresh hle)⟩
  rw [Array.toArray_toList]
  exact hS
end
end L2
namespace Fw
open PySem L2
section
variable {X : Cx} {N : List Str} {sc : Scope} {own : Str → Bool} {α γ ε : Type} {A : Ty α} {e : Expr} {pos p p2 cpos : Pos} {Γ : List Slot} {L : γ → List Rg} {s : γ} {xt : XT ε}
theorem ef_listRev {m : Res ε (List α × γ)} (cx : Cxt X N sc own) (cc : Calm X) (hm : X.mg "list" = none) (hm2 : X.mg "reversed" = none) (h : EF X e Γ L s (tLst A) xt m) (hg : glB sc "list" = true := by decide +kernel) (hg2 : glB sc "reversed" = true := by decide +kernel) (hs : starEach [e] X.env = (false, eval e X.env) :: starEach [] X.env := by exact star_c rfl)
    (na : starEach [.Call (.Name "reversed" p2) [e] [] cpos] X.env = (false, eval (.Call (.Name "reversed" p2) [e] [] cpos) X.env) :: starEach [] X.env := by exact star_c rfl) :
    EF X (.Call (.Name "list" p) [.Call (.Name "reversed" p2) [e] [] cpos] [] pos) Γ L s (tLst A) xt (m.bnd fun t s => Res.val (t.reverse, s)) := fun I σ F H Q fr th => by
  refine PE_to (pe_listRev cc.calm (glB_gl cx hg).1 hm (glB_gl cx hg2).1 hm2 pe_w hs na) ?_
  refine h I σ F H _ fr ?_
  cases m with
  | stuck => exact th
  | exn x => exact th
  | val pr =>
    obtain ⟨t, s1⟩ := pr
    intro I1 v H1 e1 fr1 ⟨pp, vs, e2, hp, pd⟩
    subst e2
    refine ⟨pp, vs, rfl, .of (fr1.sep.same _ _ hp), fun l hl => ?_⟩
    have hi := fr1.sep.same.free hl
    exact th _ _ _ (e1.trans (Same.upd hi)) (fr1.step (Same.upd hi) (fr1.sep.imm hl)) ⟨l, _, rfl, upd_same, paired_rev (paired_mono (Same.upd hi) pd)⟩
end
end Fw

namespace Fw
open PySem L2
/-- the last item taken out -/
def Out.popL {α ε ρ ν : Type} (xs : List α) (k : α → List α → Out ε ρ ν) : Out ε ρ ν := match xs.getLast? with | some d => k d xs.dropLast | none => .stuck
theorem Out.popL_app {α ε ρ ν : Type} (xs : List α) (d : α) (k : α → List α → Out ε ρ ν) : Out.popL (xs ++ [d]) k = k d xs := by
  unfold Out.popL
  rw [List.getLast?_concat, List.dropLast_concat]
section
variable {X : Cx} {N : List Str} {sc : Scope} {own : Str → Bool} {ε ρ ν τ : Type} {a : Expr} {es : List Expr} {ss : List Stmt} {pos p apos : Pos} {Γ gx : List Slot} {xt : XT ε} {q : Addr} {L0 : List Rg}
  {gn : ν → List Slot} {ln : ν → List Rg} {rt : RT ρ}
theorem sf_popL {T : Tys τ} {u : List Slot → τ → List Slot} {vs : List Nat} {kk : Nat} {tpos : Pos} {xs : List τ} {R : List Rg} {k : τ → List τ → Out ε ρ ν} (hg : GF X (.Tuple es kk tpos) (tTup T) u vs) (ha : EP X a Γ L0 (tCell q) ()) (hL : L0.Perm (cell q (cLst (tTup T) xs) :: R))
    (hr : ∀ d ys, SF X ss (u Γ d) (cell q (cLst (tTup T) ys) :: R) gn ln rt xt gx (k d ys))
    (hbase : attributeBase a "pop" X.env (eval a X.env) = eval a X.env := by rfl) (hline : (apos.endLine == p.line) = true := by rfl)
    (hs : swapsWithSole [.Tuple es kk tpos] (.Call (.Attribute a "pop" apos) [] [] p) pos.line X.env = pure false := by rfl) (hw : swappedStores [.Tuple es kk tpos] (.Call (.Attribute a "pop" apos) [] [] p) X.env = pure none := by rfl) :
    SF X (.Assign [.Tuple es kk tpos] (.Call (.Attribute a "pop" apos) [] [] p) pos :: ss) Γ L0 gn ln rt xt gx (Out.popL xs k) := sf_popT hg ha hL hr hbase hline hs hw
end
end Fw


/-! ## 270. sorted(set(..)) of texts -/
namespace L2
open PySem PySem.Spec PyProof.Rows PySem.W Builtin
def keyT (e : Int × Value) : Str := match e.2 with | .str k _ => k | _ => ⟨#[]⟩
def GoodT (w : World) (e : Int × Value) : Prop := ∃ k tk, e.2 = Value.str k tk ∧ e.1 = hashStr w k
/-- the set of texts at a: S its members, n their number -/
def SetT (w : World) (h : Heap) (a : Addr) (S : Str → Bool) (n : Nat) : Prop :=
  ∃ o es ep t, h.get? a = some o ∧ o.ExactSet ∧ o.data = .set es ep t ∧ (∀ e ∈ es.toList, GoodT w e) ∧ (es.toList.map keyT).Nodup ∧ (∀ k, S k = true ↔ k ∈ es.toList.map keyT) ∧
    es.size < scanBound ∧ t.fits es.size = true ∧ es.size = n ∧ Ris t.place.toList ∧ (w.params.followText "set-order" = true ∨ t.led = true)
section
variable {P : Program} {w : World} {h h' : Heap} {a : Addr} {S : Str → Bool} {n : Nat}
theorem SetT.at (R : SetT w h a S n) (k : ∀ o, h.get? a = some o → h'.get? a = some o) : SetT w h' a S n := by
  obtain ⟨o, es, ep, t, ho, r⟩ := R
  exact ⟨o, es, ep, t, k o ho, r⟩
theorem SetT.congr {S' : Str → Bool} (R : SetT w h a S n) (e : ∀ k, S' k = S k) : SetT w h a S' n := by
  rw [show S' = S from funext e]; exact R
theorem goodT_elems {l : List (Int × Value)} (g : ∀ e ∈ l, GoodT w e) : ElemsOf (strKind P w) l := fun e he => by
  obtain ⟨k, tk, h1, h2⟩ := g e he
  exact ⟨⟨k, by rw [h1]; exact strKind_is P w k tk, h2⟩, by rw [h1] <;> rfl⟩
theorem goodT_is {e : Int × Value} (g : GoodT w e) (k : Str) : (strKind P w).is k e.2 = true ↔ keyT e = k := by
  obtain ⟨k0, tk, h1, _⟩ := g
  unfold keyT
  rw [h1]
  constructor
  · intro z
    exact ((strKind P w).inj (.str k0 tk) k k0 z (strKind_is P w k0 tk)).symm
  · intro z
    have z : k0 = k := z
    rw [← z]; exact strKind_is P w k0 tk
theorem goodT_mem {l : List (Int × Value)} (g : ∀ e ∈ l, GoodT w e) (k : Str) : k ∈ l.map keyT ↔ ∃ e ∈ l, (strKind P w).is k e.2 = true := by
  rw [List.mem_map]
  constructor
  · rintro ⟨e, he, q⟩
    exact ⟨e, he, (goodT_is (g e he) k).2 q⟩
  · rintro ⟨e, he, q⟩
    exact ⟨e, he, (goodT_is (g e he) k).1 q⟩
end
section
variable {P : Program} {w : World} {A : Around} {E : Value → Shared → Prop} {s : Shared} {a : Addr} {S : Str → Bool} {n : Nat}
theorem setT_add_tail {g : Bool → Sem Unit} (hg : ∀ (b : Bool) (s₁ : Shared) (Q' : Unit → Shared → Prop), Q' () s₁ → wpAny (model P w) A (g b) Q' E s₁)
    {o : Obj} {es : Array (Int × Value)} {ep : Nat} {t : SetTable} (ho : s.heap.get? a = some o) (hex : o.ExactSet) (hd : o.data = .set es ep t)
    {es1 : Array (Int × Value)} {t2 : SetTable} {S' : Str → Bool} (g1 : ∀ e ∈ es1.toList, GoodT w e) (nd1 : (es1.toList.map keyT).Nodup) (m1 : ∀ k, S' k = true ↔ k ∈ es1.toList.map keyT)
    (hb1 : es1.size < scanBound) (hf2 : t2.fits es1.size = true) (hr : Ris t2.place.toList) (hl : w.params.followText "set-order" = true ∨ t2.led = true) {wasDummy : Bool} {R : Option Bool → Shared → Prop}
    (hR : ∀ h', Heap.SameBut a s.heap h' → SetT w h' a S' es1.size → R (some true) { s with heap := h' }) :
    wpAny (model P w) A (do
        storeSet a es1 t2
        if (!wasDummy && t2.tooFull) = true then do
            g (relayAll t2 es1 (SetTable.grown es1.size)).2.2
            storeSet a (relayAll t2 es1 (SetTable.grown es1.size)).1 (relayAll t2 es1 (SetTable.grown es1.size)).2.1
            pure (some true)
          else pure (some true)) R E s := by
  refine wpAny_bind (wpAny_storeSet_of ho hd ?_ (fits_of_scanBound hb1))
  have ho1 := store_at (es' := es1) (t' := t2) ho hd
  have sb1 := Heap.SameBut.update s.heap a (Obj.putSet es1 t2)
  split
  · have pm := relayAll_perm t2 es1 (SetTable.grown es1.size)
    have hf3 := relayAll_fits t2 es1 (SetTable.grown es1.size)
    have hr3 := relayAll_ris t2 es1 (SetTable.grown es1.size)
    have hl3 := relayAll_led t2 es1 (SetTable.grown es1.size)
    generalize relayAll t2 es1 (SetTable.grown es1.size) = Z at pm hf3 hr3 hl3 ⊢
    obtain ⟨es2, t3, gave⟩ := Z
    dsimp only at pm hf3 hr3 hl3 ⊢
    have hsz : es2.size = es1.size := by rw [← Array.length_toList, pm.length_eq, Array.length_toList]
    have hb2 : es2.size < scanBound := by rw [hsz]; exact hb1
    refine wpAny_bind (hg _ _ _ ?_)
    refine wpAny_bind (wpAny_storeSet_of ho1 rfl ?_ (fits_of_scanBound hb2))
    have ho2 := store_at (es' := es2) (t' := t3) ho1 rfl
    refine wpAny_pure (hR _ (sb1.trans (Heap.SameBut.update _ a _)) ?_)
    exact ⟨_, es2, _, t3, ho2, hex, rfl, fun e he => g1 e (pm.mem_iff.mp he), (pm.map keyT).nodup_iff.mpr nd1, fun k => (m1 k).trans (pm.map keyT).mem_iff.symm, hb2, hf3, hsz, hr3,
      hl.imp id fun z => by rw [hl3]; exact z⟩
  · exact wpAny_pure (hR _ sb1 ⟨_, es1, _, t2, ho1, hex, rfl, g1, nd1, m1, hb1, hf2, rfl, hr, hl⟩)
theorem setT_add {k : Str} {tk : Tok} {Q : Bool → Shared → Prop} (R : SetT w s.heap a S n) (room : n + 1 < scanBound)
    (hQ : ∀ h', Heap.SameBut a s.heap h' → SetT w h' a (fun j => S j || decide (j = k)) (if S k = true then n else n + 1) → Q (!S k) { s with heap := h' }) :
    wpAny (model P w) A (setAddHashed a (.str k tk) ((strKind P w).hash k)) Q E s := by
  obtain ⟨o, es, ep, t, ho, hex, hd, g, nd, hm, hb, hf, hn, hr, hl⟩ := R
  have hkey : (strKind P w).is k (.str k tk) = true := strKind_is P w k tk
  have hsc : (Value.str k tk).scannable = true := rfl
  have hel : ElemsOf (strKind P w) es.toList := goodT_elems g
  unfold setAddHashed setAddHashedIn
  refine wpAny_holding (wpAny_bind (wpAny_setState_of ho hd hf ?_))
  dsimp only
  rw [byScan_of hsc hb hel]
  simp only [↓reduceIte]
  unfold setAddByScan
  refine wpAny_bind ?_
  refine wpAny_bind (wpAny_rule ?_)
  refine wpAny_bind (wpAny_setScan_of hkey ho hd hf hel ?_)
  cases hfi : List.findIdx? (fun e => (strKind P w).is k e.2) es.toList with
  | some j =>
    dsimp only
    obtain ⟨hj, pj, _⟩ := List.findIdx?_eq_some_iff_getElem.mp hfi
    have hSk : S k = true := (hm k).2 ((goodT_mem (P := P) (w := w) g k).2 ⟨es.toList[j], List.getElem_mem hj, pj⟩)
    refine wpAny_pure (wpAny_pure ?_)
    have q := hQ s.heap (Heap.SameBut.refl a s.heap) ⟨o, es, ep, t, ho, hex, hd, g, nd, fun i => by
      rw [Bool.or_eq_true, decide_eq_true_eq, ← hm i]
      exact ⟨fun z => z.elim id (fun e => e ▸ hSk), .inl⟩, hb, hf, by rw [if_pos hSk]; exact hn, hr, hl⟩
    rw [hSk] at q
    exact q
  | none =>
    dsimp only
    have hnk : k ∉ es.toList.map keyT := fun z => by
      obtain ⟨e, he, q⟩ := (goodT_mem (P := P) (w := w) g k).1 z
      have c := List.findIdx?_eq_none_iff.mp hfi e he
      rw [q] at c
      cases c
    have hSk : S k = false := by
      cases q : S k with
      | false => rfl
      | true => exact absurd ((hm k).1 q) hnk
    have hgw : ∀ (b : Bool) {s₁ : Shared} {Q' : Unit → Shared → Prop}, Q' () s₁ → wpAny (model P w) A (match b with | true => rule "set.scan.the-table-gave-way" | false => pure ()) Q' E s₁ :=
      fun b s₁ Q' q => by cases b <;> first | exact wpAny_pure q | exact wpAny_rule q
    have pm := layNew_perm t es ((strKind P w).hash k) (.str k tk)
    have hf1 := layNew_fits t es ((strKind P w).hash k) (.str k tk)
    have hr1 := layNew_ris t es ((strKind P w).hash k) (.str k tk) hr
    have hl1 := layNew_led t es ((strKind P w).hash k) (.str k tk)
    generalize layNew t es ((strKind P w).hash k) (.str k tk) = Z at pm hf1 hr1 hl1 ⊢
    obtain ⟨es1, t1, wasDummy, gave⟩ := Z
    dsimp only at pm hf1 hr1 hl1 ⊢
    rw [Array.toList_push] at pm
    have pc : es1.toList.Perm (((strKind P w).hash k, Value.str k tk) :: es.toList) := pm.trans (List.perm_append_singleton _ _)
    have pk : (es1.toList.map keyT).Perm (k :: es.toList.map keyT) := pc.map keyT
    have g1 : ∀ e ∈ es1.toList, GoodT w e := fun e he => by
      rcases List.mem_cons.mp (pc.mem_iff.mp he) with z | z
      · rw [z]; exact ⟨k, tk, rfl, rfl⟩
      · exact g e z
    have nd1 : (es1.toList.map keyT).Nodup := pk.nodup_iff.mpr (List.nodup_cons.mpr ⟨hnk, nd⟩)
    have m1 : ∀ i, (S i || decide (i = k)) = true ↔ i ∈ es1.toList.map keyT := fun i => by
      rw [Bool.or_eq_true, decide_eq_true_eq, hm i, pk.mem_iff, List.mem_cons]
      exact Or.comm
    have hsz : es1.size = n + 1 := by rw [← Array.length_toList, pc.length_eq, List.length_cons, Array.length_toList, hn]
    have hb1 : es1.size < scanBound := by rw [hsz]; exact room
    have hled : w.params.followText "set-order" = true ∨ t1.led = true := hl.imp id fun z => by rw [hl1]; exact z
    have fin : ∀ h', Heap.SameBut a s.heap h' → SetT w h' a (fun j => S j || decide (j = k)) es1.size → Q true { s with heap := h' } := fun h' sb r => by
      have q := hQ h' sb
      rw [hSk] at q
      rw [hsz] at r
      exact q r
    refine wpAny_bind (hgw _ ?_)
    split
    · refine wpAny_bind ?_
      rw [hashByValue_scannable 8 hsc]
      refine wpAny_pure ?_
      refine setT_add_tail ?_ ho hex hd g1 nd1 m1 hb1 ?_ ?_ ?_ ?_
      · intro b s₁ Q' q; cases b <;> first | exact wpAny_pure q | exact wpAny_rule q
      · first | (split <;> first | exact hf1 | exact SetTable.fits_plain_off hf1) | exact hf1
      · first | (split <;> exact hr1) | exact hr1
      · first | (split <;> exact hled) | exact hled
      · intro h' sb r; dsimp only; exact wpAny_pure (fin h' sb r)
    · refine wpAny_bind (wpAny_pure ?_)
      simp only [↓reduceIte]
      refine setT_add_tail ?_ ho hex hd g1 nd1 m1 hb1 hf1 hr1 hled ?_
      · intro b s₁ Q' q; cases b <;> first | exact wpAny_pure q | exact wpAny_rule q
      · intro h' sb r; dsimp only; exact wpAny_pure (fin h' sb r)
theorem setT_new_at {h : Heap} {ks : List Str} (ho : h.get? a = some { cls := .type "set", dict := none, data := .set #[] 0 (.fresh 0 0 (!w.params.followText "set-order")) }) : SetT w h a (fun j => decide (j ∈ ks.take 0)) 0 :=
  ⟨_, #[], 0, _, ho, ⟨rfl, rfl, rfl⟩, rfl, (fun e he => by simp at he), (by simp), (fun k => by simp), (by decide), (by rfl), rfl, List.Pairwise.nil, by
    show _ ∨ (!w.params.followText "set-order") = true
    cases w.params.followText "set-order"
    · exact .inr rfl
    · exact .inl rfl⟩
theorem setT_update {I : Addr} {fp wr : List Addr} {G : Array GenState → Array GenState → Prop} {n : Nat} {Pv : Nat → Value → Prop} {St : Nat → Shared → Prop} {R : Result → Shared → Prop}
    (W : WalksS P w A.in1 I fp wr G n Pv St) (a : Addr) (hSf : a ∉ fp) (ks : List Str) (hn : n = ks.length) (hb : ks.length + 1 < scanBound) (hval : ∀ i v, Pv i v → ∃ k t, ks[i]? = some k ∧ v = .str k t) :
    ∀ (k i : Nat) (s : Shared), n - i = k → i ≤ n → St i s → (∃ c, c ≤ i ∧ SetT w s.heap a (fun j => decide (j ∈ ks.take i)) c) →
      (∀ s' c, Moved (a :: wr) G s s' → c ≤ n → SetT w s'.heap a (fun j => decide (j ∈ ks)) c → R (.ok (.ret .none)) s') →
      codeAny (model P w) A (.builtin "set.update.loop" ⟨[.ref a, .ref I], []⟩) R s := by
  have hSw : a ∉ wr := fun h => hSf (W.sub _ h)
  have hsub : ∀ b ∈ wr, b ∈ a :: wr := fun b hb => List.mem_cons_of_mem _ hb
  intro k
  induction k with
  | zero =>
    intro i s hk' hi hst ⟨c, hc, hS⟩ hR
    have hin : i = n := by omega
    subst hin
    refine codeAny_builtin F.entry_set_update_loop ?_
    rw [Around.under_plainId F.plain_set_update_loop _]
    show wpAny _ A.in1 (pyNext (.ref I) >>= _) _ _ s
    refine wpAny_bind (W.done s _ _ hst fun s' hm => ?_)
    show wpAny _ A.in1 (ret Value.none) _ _ s'
    have e : ks.take i = ks := List.take_of_length_le (by omega)
    rw [e] at hS
    exact wpAny_pure (hR s' c (hm.mono hsub) hc (hS.at fun o e => hm.heap a o hSw e))
  | succ k ih =>
    intro i s hk' hi hst ⟨c, hc, hS⟩ hR
    have hlt : i < n := by omega
    refine codeAny_builtin F.entry_set_update_loop ?_
    rw [Around.under_plainId F.plain_set_update_loop _]
    show wpAny _ A.in1 (pyNext (.ref I) >>= _) _ _ s
    refine wpAny_bind (W.item i s _ _ hlt hst fun v s' hP hst' hm => ?_)
    obtain ⟨z, t, hz, rfl⟩ := hval i v hP
    have hS' : SetT w s'.heap a (fun j => decide (j ∈ ks.take i)) c := hS.at fun o e => hm.heap a o hSw e
    show wpAny _ A.in1 (holding [Value.str z t] (setAdd a (.str z t)) >>= _) _ _ s'
    refine wpAny_bind (wpAny_holding ?_)
    unfold setAdd
    refine wpAny_holding ?_
    refine wpAny_bind ((strKind P w).pyHash (k := z) (strKind_is _ _ _ _) ?_)
    refine setT_add (s := { s' with toks := s'.toks + 1 }) hS' (by omega) fun h' hsb hS2 => ?_
    have hS3 : SetT w h' a (fun j => decide (j ∈ ks.take (i + 1))) (if decide (z ∈ ks.take i) = true then c else c + 1) := hS2.congr fun j => by
      rw [List.take_add_one, hz]
      simp [List.mem_append]
    have hc3 : (if decide (z ∈ ks.take i) = true then c else c + 1) ≤ i + 1 := by
      split <;> omega
    refine wpAny_pure ⟨plainId_quiet F.plain_set_update_loop _, ih (i + 1) _ (by omega) hlt (W.frame _ s' _ _ hst' (Nat.le_succ _) fun b hb o e => ?_) ⟨_, hc3, hS3⟩ fun s'' c2 hm'' hc'' hS'' => ?_⟩
    · rw [hsb.2 b (fun h : b = a => hSf (by rw [← h]; exact hb))]; exact e
    · refine hR s'' c2 (Moved.trans W.gtrans ((hm.mono hsub).then_heap (Nat.le_succ _) fun b o hb e => ?_) hm'') hc'' hS''
      rw [hsb.2 b (fun h : b = a => hb (by rw [h]; exact List.mem_cons_self))]; exact e
end
end L2
namespace L2
open PySem PySem.Spec PyProof.Rows PySem.W Builtin
/-! ### set(xs) of a list of texts, of a text -/
abbrev set0 (w : World) : Obj := { cls := .type "set", dict := none, data := .set #[] 0 (.fresh 0 0 (!w.params.followText "set-order")) }
section
variable {P : Program} {w : World} {A : Around} {E : Value → Shared → Prop} {s : Shared}
def InitSet (P : Program) (w : World) (A : Around) (E : Value → Shared → Prop) (s : Shared) (v : Value) (ks : List Str) : Prop :=
  codeAny (model P w) A (.call (.builtin "set.__init__") ⟨[.ref s.heap.objs.size, v], []⟩) (wants (fun r s₂ => r = .none ∧ ∃ h' tk c, s₂ = { s with heap := h', toks := tk } ∧ SetT w h' s.heap.objs.size (fun j => decide (j ∈ ks)) c ∧ c ≤ ks.length ∧
          (∀ b o, s.heap.get? b = some o → h'.get? b = some o)) E) { s with heap := s.heap.push (set0 w) }
theorem call_setT {v : Value} (ks : List Str) {Q : Value → Shared → Prop} (hin : ∀ A', A'.handled = A.handled → InitSet P w A' E s v ks)
    (h : ∀ (h' : Heap) (tk c : Nat), SetT w h' s.heap.objs.size (fun j => decide (j ∈ ks)) c → c ≤ ks.length → (∀ b o, s.heap.get? b = some o → h'.get? b = some o) → Q (.ref s.heap.objs.size) { s with heap := h', toks := tk }) :
    wpAny (model P w) A (call (.type "set") [v]) Q E s := by
  obtain ⟨c, tl, hmro⟩ := F.called_set.mro
  have hmade := F.called_set.made
  have hsub := F.called_set.sub
  refine wpAny_call (codeAny_of_tree ?_)
  show wpAny _ _ (callAny (.type "set") _) _ _ _
  refine wpAny_pure ⟨Code.quiet_builtin _ (by decide +kernel), codeAny_builtin F.entry_type_call ?_⟩
  rw [Around.under_plain (weight_type_call_type "set" [v] []) rfl]
  have h1 := F.called_set.notType
  have h2 := F.called_set.canCreate
  have hct := F.typeCall_set_1 v
  repeat (any_goals (first | assumption | wp_step))

  refine codeAny_mono (code_set_led1 v (E := E) (Q₁ := fun obj s₁ => obj = .ref s.heap.objs.size ∧ s₁ = { s with heap := s.heap.push (set0 w) }) ⟨rfl, rfl⟩) fun r s₁ hr => ?_
  cases r with
  | error e => exact hr
  | ok fl =>
    cases fl with
    | ret obj =>
      obtain ⟨rfl, rfl⟩ := hr
      have hS : (s.heap.push (set0 w)).get? s.heap.objs.size = some (set0 w) := Heap.get?_push_size _ rfl
      have hT : Shared.TypeIs { s with heap := s.heap.push (set0 w) } (.ref s.heap.objs.size) "set" := ⟨_, hS, rfl⟩
      have hli := F.called_set.init.lookup
      have hbi := F.called_set.init.bind (.ref s.heap.objs.size)
      repeat (any_goals (first | assumption | wp_step))

      refine codeAny_mono (hin _ (by simp)) fun r₂ s₂ hr₂ => ?_
      cases r₂ with
      | error e => exact hr₂
      | ok fl₂ =>
        cases fl₂ with
        | ret r =>
          obtain ⟨rfl, h', tk, c', rfl, hS', hc', hk'⟩ := hr₂
          repeat (any_goals (first | assumption | wp_step))
          exact h _ _ _ hS' hc' hk'
        | _ => exact hr₂.elim
    | _ => exact hr.elim
theorem setT_fin {I : Addr} {o : Obj} {ks : List Str} {fp wr : List Addr} {G : Array GenState → Array GenState → Prop} {n : Nat} {Pv : Nat → Value → Prop} {St : Nat → Shared → Prop} {R : Result → Shared → Prop}
    (hI : I = (s.heap.push (set0 w)).objs.size) (W : WalksS P w A.in1 I fp wr G n Pv St) (hwr : ∀ b ∈ wr, b = I) (hSf : s.heap.objs.size ∉ fp) (hn : n = ks.length) (hb : ks.length + 1 < scanBound) (hval : ∀ i v, Pv i v → ∃ k t, ks[i]? = some k ∧ v = .str k t)
    (hG : ∀ g g', G g g' → g' = g) (hst : St 0 { s with heap := (s.heap.push (set0 w)).push o })
    (hR : ∀ (h' : Heap) (tk c : Nat), SetT w h' s.heap.objs.size (fun j => decide (j ∈ ks)) c → c ≤ ks.length → (∀ b o, s.heap.get? b = some o → h'.get? b = some o) → R (.ok (.ret .none)) { s with heap := h', toks := tk }) :
    codeAny (model P w) A (.builtin "set.update.loop" ⟨[.ref s.heap.objs.size, .ref I], []⟩) R { s with heap := (s.heap.push (set0 w)).push o } := by
  refine setT_update W s.heap.objs.size hSf ks hn hb hval (n - 0) 0 _ rfl (Nat.zero_le _) hst ⟨0, Nat.le_refl 0, setT_new_at (Heap.get?_push_of_some _ (Heap.get?_push_size _ rfl))⟩ ?_
  intro s' c' hm hc' hS'
  obtain ⟨h', g2, d', tk', os'⟩ := s'
  have eg : g2 = s.gens := hG _ _ hm.gens
  have ed : d' = s.drawn := hm.drawn
  have eo : os' = s.os := hm.os
  subst eg; subst ed; subst eo
  rw [hn] at hc'
  refine hR h' tk' c' hS' hc' fun b o' e => ?_
  have hb0 : b < s.heap.objs.size := Heap.lt_size e
  have hb1 : b ≠ s.heap.objs.size := Nat.ne_of_lt hb0
  have hb2 : b ≠ I := by
    rw [hI, Heap.size_push]; exact Nat.ne_of_lt (Nat.lt_succ_of_lt hb0)
  refine hm.heap b o' (fun z => ?_) (Heap.get?_push_of_some _ (Heap.get?_push_of_some _ e))
  rcases List.mem_cons.mp z with z | z
  · exact hb1 z
  · exact hb2 (hwr b z)
theorem initSet_list {l : Addr} {items : Array Value} {ks : List Str} (hh : A.handled = none) (hl : s.heap.IsList l items) (hit : StrsAre items.toList ks) (hb : ks.length + 1 < scanBound) : InitSet P w A E s (.ref l) ks := by
  have hS : (s.heap.push (set0 w)).get? s.heap.objs.size = some (set0 w) := Heap.get?_push_size _ rfl
  have hT : Shared.TypeIs { s with heap := s.heap.push (set0 w) } (.ref s.heap.objs.size) "set" := ⟨_, hS, rfl⟩
  have hisz : items.size = ks.length := by
    have q := StrsAre.len_eq hit
    rw [Array.length_toList] at q
    exact q
  refine codeAny_call_builtin F.called_set.init.plain F.entry_set_init (check_set_init_1 hT ?_)
  obtain ⟨ol, hol, hcl, nl, hdl⟩ := hl
  obtain ⟨ocls, odict, odata, oslots⟩ := ol
  simp only at hcl hdl
  subst hcl; subst hdl
  have hol' : (s.heap.push (set0 w)).get? l = some { cls := .type "list", dict := odict, data := .seq items nl, slots := oslots } := Heap.get?_push_of_some _ hol
  have hsls := F.sub_list_set
  have hslf := F.sub_list_frozenset
  have hne : (Value.type "list" == Value.type "dict") = false := by decide
  have hl1 : (s.heap.push (set0 w)).IsList l items := ⟨_, hol', rfl, nl, rfl⟩
  unfold Builtin.«set.__init__» noKeywords Builtin.Frozenset.updateFrom
  generalize hPI : pyIter = PI
  wp_walk
  subst hPI

  refine wpAny_pyIter_list hl1 ?_
  refine wpAny_bind (wpAny_runValue ?_)
  have hlS : l < s.heap.objs.size := Heap.lt_size hol
  have hh3 : A.in1.in1.handled = none := by simp [hh]
  have hneI : l ≠ (s.heap.push (set0 w)).objs.size := by
    rw [Heap.size_push]; exact Nat.ne_of_lt (Nat.lt_succ_of_lt hlS)
  have hSf : s.heap.objs.size ∉ [(s.heap.push (set0 w)).objs.size, l] := by
    rw [Heap.size_push]; simp only [List.mem_cons, List.mem_singleton, List.not_mem_nil, or_false, not_or]
    exact ⟨Nat.ne_of_lt (Nat.lt_succ_self _), Nat.ne_of_gt hlS⟩
  have hval : ∀ (i : Nat) (v : Value), items[i]? = some v → ∃ k t, ks[i]? = some k ∧ v = .str k t := fun i v hv => by
    have hi : i < ks.length := by rw [← hisz]; exact (Array.getElem?_eq_some_iff.mp hv).1
    obtain ⟨t, e⟩ := SS.strs_at hit i v (by rw [Array.getElem?_toList]; exact hv)
    refine ⟨ks[i], t, List.getElem?_eq_getElem hi, ?_⟩
    rw [e, List.getD_eq_getElem?_getD, List.getElem?_eq_getElem hi] <;> rfl
  refine setT_fin (ks := ks) rfl ((Walks.list hh3 _ l hneI items).toS) (fun b z => by simpa using z) hSf hisz hb hval (fun _ _ z => z) ⟨⟨_, Heap.get?_push_size _ rfl, rfl, rfl⟩, (hl1.push _)⟩ fun h' tk c' r1 r2 r3 => ?_
  show wpAny _ _ _ _ _ _
  refine wpAny_pure ?_
  show wpAny _ _ (ret Value.none) _ _ _
  exact wpAny_pure ⟨rfl, h', tk, c', rfl, r1, r2, r3⟩
theorem initSet_str {x : Str} {t : Tok} (hh : A.handled = none) (hb : x.cps.size + 1 < scanBound) : InitSet P w A E s (.str x t) (x.cps.toList.map fun c => ⟨#[c]⟩) := by
  have hS : (s.heap.push (set0 w)).get? s.heap.objs.size = some (set0 w) := Heap.get?_push_size _ rfl
  have hT : Shared.TypeIs { s with heap := s.heap.push (set0 w) } (.ref s.heap.objs.size) "set" := ⟨_, hS, rfl⟩
  refine codeAny_call_builtin F.called_set.init.plain F.entry_set_init (check_set_init_1 hT ?_)
  have hsls := PySem.F.sub_str_set
  have hslf := PySem.F.sub_str_frozenset
  have hne : (Value.type "str" == Value.type "dict") = false := by decide
  have hty := typeIs_str { s with heap := s.heap.push (set0 w) } x t
  unfold Builtin.«set.__init__» noKeywords Builtin.Frozenset.updateFrom
  generalize hPI : pyIter = PI
  wp_walk
  subst hPI

  refine wpAny_pyIter_str fun o St hW hst => ?_
  refine wpAny_bind (wpAny_runValue ?_)
  have hSf : s.heap.objs.size ∉ [(s.heap.push (set0 w)).objs.size] := by
    rw [Heap.size_push]; simp only [List.mem_cons, List.mem_singleton, List.not_mem_nil, or_false, not_or]
    exact Nat.ne_of_lt (Nat.lt_succ_self _)
  refine setT_fin (ks := x.cps.toList.map fun c => ⟨#[c]⟩) rfl ((hW A.in1.in1 (by simp [hh])).toS) (fun b z => by simpa using z) hSf (by simp) (by simpa using hb) (fun i v hv => ?_) (fun _ _ z => z) hst fun h' tk c' r1 r2 r3 => ?_
  · obtain ⟨c, t, hc, rfl⟩ := hv
    exact ⟨⟨#[c]⟩, t, by rw [List.getElem?_map, Array.getElem?_toList, hc]; rfl, rfl⟩
  show wpAny _ _ _ _ _ _
  refine wpAny_pure ?_
  show wpAny _ _ (ret Value.none) _ _ _
  exact wpAny_pure ⟨rfl, h', tk, c', rfl, r1, r2, r3⟩
/-! ### sorted -/
def strV (v : Value) : List Nat := match v with | .str k _ => k.cps.toList | _ => []
theorem strV_each : ∀ (vs : List Value), (∀ v ∈ vs, ∃ k t, v = Value.str k t) → EachIs (fun v k => ∃ t, v = Value.str ⟨k.toArray⟩ t) vs (vs.map strV)
  | [], _ => .nil
  | v :: vs, h => by
    obtain ⟨k, t, rfl⟩ := h v List.mem_cons_self
    exact .cons ⟨t, by show Value.str k t = Value.str ⟨k.cps.toList.toArray⟩ t; simp⟩ (strV_each vs fun u hu => h u (List.mem_cons_of_mem _ hu))
theorem sorted_setT {S : Str → Bool} {n : Nat} {Q : Value → Shared → Prop} (R : SetT w s.heap a S n) (hh : A.handled = none) (hu : A.units + 10 < cLine)
    (hQ : ∀ s' p (out : List Value) (c : Nat) (ks : List (List Nat)), (∀ b o, s.heap.get? b = some o → s'.heap.get? b = some o) → s'.gens = s.gens → s'.os = s.os → s.heap.objs.size ≤ p →
      s'.heap.get? p = some (seqObj "list" out.toArray c) → EachIs (fun v k => ∃ t, v = Value.str ⟨k.toArray⟩ t) out (Fw.sortK Fw.dTx ks) → ks.Nodup → (∀ k : List Nat, k ∈ ks ↔ S ⟨k.toArray⟩ = true) → out.length ≤ sizeLine → Q (.ref p) s') :
    wpAny (model P w) A (call (.builtin "sorted") [.ref a]) Q E s := by
  obtain ⟨o, es, ep, t, ho, hex, hd, g, nd, hm, hb, hf, hn, hr, hl⟩ := R
  refine call_function_entry_kw kind_sorted plain_sorted entry_sorted (args_sorted1 _) ?_
  unfold Builtin.«sorted»
  refine wpAny_bind (m := checkCount "sorted" 1 1 _) (wpAny_pure ?_)
  refine wpAny_bind (collect_set (A := A.in1) hh ⟨o, ho, hex.1, hd⟩ hf hb hr hl fun s1 vs k1 hz g1 o1 pm => ?_)
  have hst : ∀ v ∈ vs, ∃ k t, v = Value.str k t := fun v hv => by
    obtain ⟨e, he, q⟩ := List.mem_map.mp (pm.mem_iff.mp hv)
    obtain ⟨k, tk, h1, _⟩ := g e he
    exact ⟨k, tk, by rw [← q]; exact h1⟩
  have hvl : vs.length = n := by rw [pm.length_eq, List.length_map, Array.length_toList]; exact hn
  have hsz : vs.length ≤ sizeLine := by rw [hvl, ← hn]; exact fits_of_scanBound hb
  have pk : (vs.map strV).Perm ((es.toList.map keyT).map fun k => k.cps.toList) := by
    have q := pm.map strV
    rw [List.map_map] at q ⊢
    refine q.trans (.of_eq (List.map_congr_left fun e he => ?_))
    obtain ⟨k, tk, h1, _⟩ := g e he
    show strV e.2 = (keyT e).cps.toList
    unfold strV keyT
    rw [h1]
  have inj : ∀ a b : Str, a.cps.toList = b.cps.toList → a = b := fun a b q => by
    cases a; cases b; simp at q; rw [q]
  refine wpAny_bind (wpAny_newList ?_ hsz)
  have hoL : (s1.heap.push (seqObj "list" vs.toArray 0)).get? s1.heap.objs.size = some (seqObj "list" vs.toArray 0) := Heap.get?_push_size _ rfl
  refine wpAny_bind (wpAny_holding (wpAny_call_entry_kw slot_list_sort ⟨_, hoL, rfl⟩ entry_list_sort ?body (args_list_sort _)))
  have e1 := strV_each vs hst
  have e2 : EachIs (fun v k => ∃ ad, Reads (sortingHeap (s1.heap.push (seqObj "list" vs.toArray 0)) s1.heap.objs.size vs) v (Fw.dTx k) ad) vs (vs.map strV) := Fw.each_mono (fun v k ⟨t, z⟩ => by rw [z]; exact ⟨_, Reads.str _ _⟩) e1
  have hal := PySem.W.AllAlike.of (bs := vs.map strV) (enc := Fw.dTx) fun b b' => Fw.srk_tx.al b b'
  refine list_sort_vals hoL (SortsAt.data (s := { s1 with heap := sortingHeap (s1.heap.push (seqObj "list" vs.toArray 0)) s1.heap.objs.size vs }) (each_map Fw.dTx e2) hal (Fw.srk_tx.st.elim PySem.W.Sortable.tuples PySem.W.Sortable.others) (bound_map fun b hb => by have := Fw.srk_tx.dp b; show A.units + 2 + (Fw.dTx b).depth < cLine; omega)) hsz ?_
  obtain ⟨c, hc⟩ := sortedHeap_at (out := (sortVals (dataKind (sortingHeap (s1.heap.push (seqObj "list" vs.toArray 0)) s1.heap.objs.size vs) ((vs.map strV).map Fw.dTx)) false vs vs).toArray) hoL
  refine ⟨_, rfl, wpAny_pure ⟨_, rfl, ?_⟩⟩
  have e3 := sortVals_data false e1 e2 hal
  refine hQ _ s1.heap.objs.size _ c (vs.map strV) (fun b u e => ?_) g1 o1 hz hc e3 (pk.nodup_iff.mpr ?_) (fun k => ?_) (by rw [sortVals_length false rfl]; exact hsz)
  · have q := k1 b u e
    have hlt := Heap.lt_size q
    show (sortedHeap (s1.heap.push (seqObj "list" vs.toArray 0)) s1.heap.objs.size vs _).get? b = some u
    rw [sortedHeap_old (Nat.ne_of_lt hlt) (by rw [size_push']; exact Nat.lt_succ_of_lt hlt)]
    exact Heap.get?_push_of_some _ q
  · exact List.Pairwise.map _ (fun a b h q => h (inj a b q)) nd
  · rw [pk.mem_iff, List.mem_map]
    constructor
    · rintro ⟨y, hy, rfl⟩
      rw [hm]; simpa using hy
    · intro z
      exact ⟨⟨k.toArray⟩, (hm _).1 z, by simp⟩
end
end L2
namespace Fw
open PySem L2 PyProof.Rows PySem.W
def dedupT : List Tx → List Tx
  | [] => []
  | x :: xs => if x ∈ xs then dedupT xs else x :: dedupT xs
theorem mem_dedupT {x : Tx} : ∀ {xs : List Tx}, x ∈ dedupT xs ↔ x ∈ xs
  | [] => .rfl
  | y :: ys => by
    unfold dedupT
    split
    · rename_i h
      rw [mem_dedupT, List.mem_cons]
      exact ⟨.inr, fun q => q.elim (fun e => e ▸ h) id⟩
    · rw [List.mem_cons, List.mem_cons, mem_dedupT]
theorem nodup_dedupT : ∀ xs : List Tx, (dedupT xs).Nodup
  | [] => .nil
  | y :: ys => by
    unfold dedupT
    split
    · exact nodup_dedupT ys
    · rename_i h
      exact List.nodup_cons.mpr ⟨fun q => h (mem_dedupT.mp q), nodup_dedupT ys⟩
theorem perm_of_mem {α : Type} : ∀ {xs ys : List α}, xs.Nodup → ys.Nodup → (∀ x, x ∈ xs ↔ x ∈ ys) → xs.Perm ys
  | [], ys, _, _, h => by
    cases ys with
    | nil => exact .nil
    | cons y ys => exact absurd ((h y).2 List.mem_cons_self) (by simp)
  | x :: xs, ys, n1, n2, h => by
    have hx := (h x).1 List.mem_cons_self
    obtain ⟨l, r, rfl⟩ := List.append_of_mem hx
    obtain ⟨a1, a2⟩ := List.nodup_cons.mp n1
    have pm : (l ++ x :: r).Perm (x :: (l ++ r)) := List.perm_middle
    obtain ⟨b1, b2⟩ := List.nodup_cons.mp (pm.nodup_iff.mp n2)
    refine (List.Perm.cons x (perm_of_mem a2 b2 fun z => ?_)).trans pm.symm
    have q := h z
    rw [pm.mem_iff, List.mem_cons, List.mem_cons] at q
    constructor
    · intro hz
      exact (q.1 (.inr hz)).resolve_left fun e => a1 (e ▸ hz)
    · intro hz
      exact (q.2 (.inr hz)).resolve_left fun e => b1 (e ▸ hz)
theorem leT_eq : dataLe false dTx = fun a b : Tx => decide (a ≤ b) := by
  have e := dataLe_str (β := Tx) (fun t => ⟨t.toArray⟩)
  refine e.trans (funext fun a => funext fun b => ?_)
  simp
theorem sortT_perm {xs ys : List Tx} (h : xs.Perm ys) : sortK dTx xs = sortK dTx ys := by
  unfold sortK
  have tr : ∀ a b c : Tx, dataLe false dTx a b = true → dataLe false dTx b c = true → dataLe false dTx a c = true := fun a b c h1 h2 => by
    rw [leT_eq, decide_eq_true_eq] at *
    exact List.le_trans h1 h2
  have tt : ∀ a b : Tx, (dataLe false dTx a b || dataLe false dTx b a) = true := fun a b => by
    rw [leT_eq, Bool.or_eq_true, decide_eq_true_eq, decide_eq_true_eq]
    exact List.le_total a b
  refine List.Perm.eq_of_pairwise (le := fun a b : Tx => dataLe false dTx a b = true) (fun a b _ _ h1 h2 => ?_) (List.pairwise_mergeSort tr tt xs) (List.pairwise_mergeSort tr tt ys) (((List.mergeSort_perm xs _).trans h).trans (List.mergeSort_perm ys _).symm)
  rw [leT_eq, decide_eq_true_eq] at *
  exact List.le_antisymm h1 h2
theorem sortT_mem {xs ys : List Tx} (n1 : xs.Nodup) (n2 : ys.Nodup) (h : ∀ x, x ∈ xs ↔ x ∈ ys) : sortK dTx xs = sortK dTx ys := sortT_perm (perm_of_mem n1 n2 h)
def tSortedSet (K : PySem.W.Frag) (te : TE) : TE := fun σ H Q => te σ H fun x H1 => ∃ ks : List Tx, ((∃ t : Tx, x = V.str ⟨t.toArray⟩ ∧ ks = t.map fun c => [c]) ∨ (∃ (a : Addr) (xs : List V), x = .ref a ∧ SqL K H1 a xs ∧ Paired (tTx.rep H1) xs ks)) ∧ ks.length + 1 < scanBound ∧
  ∀ (ys : List V) (q : Addr), Paired (tTx.rep H1) ys (sortK dTx (dedupT ks)) → H1 q = none → Q (.ref q) (upd H1 q (.lst ys))
theorem strsAre_paired {I : Hp} : ∀ {xs : List V} {us : List Value} {ks : List Tx}, Vals xs us → Paired (tTx.rep I) xs ks → PyProof.Rows.StrsAre us (ks.map fun k => ⟨k.toArray⟩)
  | _, _, _, .nil, .nil => .nil
  | _, _, _, .cons r rs, .cons p ps => by
    cases p
    obtain ⟨k, rfl⟩ := r
    exact .cons _ k (strsAre_paired rs ps)
theorem paired_strV {I : Hp} : ∀ {us : List Value} {ks : List Tx}, EachIs (fun v k => ∃ t, v = Value.str ⟨k.toArray⟩ t) us ks → ∃ ys, Vals ys us ∧ Paired (tTx.rep I) ys ks
  | _, _, .nil => ⟨[], .nil, .nil⟩
  | _, _, .cons ⟨t, h⟩ r => by
    obtain ⟨ys, h1, h2⟩ := paired_strV (I := I) r
    exact ⟨_ :: ys, .cons (by rw [h]; exact ⟨t, rfl⟩) h1, .cons rfl h2⟩
theorem pe_sortedSet {X : Cx} {a : Expr} {ta : TE} {p p2 q pos : Pos} (hc : X.calm = true) (hu : X.A.units + 10 < cLine) (hg : Gl X "sorted") (hm : X.mg "sorted" = none) (hg2 : Gl X "set") (hm2 : X.mg "set" = none) (ha : PE X a ta)
    (na : starEach [a] X.env = (false, eval a X.env) :: starEach [] X.env := by rfl) : PE X (.Call (.Name "sorted" p) [.Call (.Name "set" p2) [a] [] q] [] pos) (tSortedSet X.K ta) := by
  refine ⟨fun pins s σ H Q I h => ?_⟩
  refine Call_ (ld_blt I hg hm (show bootBuiltins "sorted" = some (.builtin "sorted") by decide +kernel) ?_)
  refine PyProof.Rows.callWith_builtin1 (PyProof.Rows.args_cons ?_ rfl) rfl rfl
  refine Call_ (ld_blt I hg2 hm2 PyProof.Rows.boot_set ?_)
  refine PyProof.Rows.callWith_type1 (PyProof.Rows.args_cons (thn (ha.run pins s σ H _ I h) fun v s1 ⟨x, H1, I1, r1, q1⟩ => PyProof.Rows.args_nil ?_) na) na rfl
  obtain ⟨ks, hx, hlen, q1⟩ := q1
  have fin : ∀ (S : Str → Bool), (∀ k : Tx, S ⟨k.toArray⟩ = true ↔ k ∈ ks) → ∀ (h' : Heap) (tk c : Nat), SetT X.w h' s1.heap.objs.size S c → (∀ b o, s1.heap.get? b = some o → h'.get? b = some o) →
      wpAny (model X.prog X.w) X.A (spliced (backTo pos (starEach [] X.env))) (fun vs s₂ => wpAny (model X.prog X.w) X.A (call (.builtin "sorted") (Value.ref s1.heap.objs.size :: vs)) (L2.EP X pins σ Q) X.xe s₂) X.xe { s1 with heap := h', toks := tk } := fun S hS h' tk c hT hk => by
    refine PyProof.Rows.args_nil ?_
    have I2 : Inv X pins σ H1 { s1 with heap := h', toks := tk } := I1.kept hk
    refine sorted_setT (s := { s1 with heap := h', toks := tk }) hT (I1.ok.hd hc) hu fun s' p out c ks' k g o hp hg he nd hm hl => ?_
    obtain ⟨ys, y1, y2⟩ := paired_strV (I := H1) he
    have hn : H1 p = none := I2.hok.fresh hp
    have J : Inv X pins σ (upd H1 p (.lst ys)) { ({ s1 with heap := h', toks := tk } : Shared) with heap := s'.heap, gens := s'.gens, drawn := s'.drawn, toks := s'.toks } :=
      I2.call (ch := []) (Un.laid k hp hn) (I2.hok.laid k hp ⟨by rw [y1.length]; exact hl, out, c, y1, hg⟩) (by rw [g]; exact I2.bare) (fun _ z => nomatch z)
    have e : s' = { s1 with heap := s'.heap, gens := s'.gens, drawn := s'.drawn, toks := s'.toks } := by
      cases s'
      cases s1
      cases o
      rfl
    rw [e]
    refine ⟨.ref p, _, J, rfl, q1 ys p ?_ hn⟩
    rw [sortT_mem (nodup_dedupT ks) nd fun x => by rw [mem_dedupT, hm, hS]]
    exact y2
  rcases hx with ⟨t, rfl, rfl⟩ | ⟨b, xs, rfl, hq, hp⟩
  · obtain ⟨tk, rfl⟩ := r1
    refine call_setT _ (fun A' hA => initSet_str (by rw [hA]; exact I1.ok.hd hc) (by simpa using hlen)) fun h' tk c r1 r2 r3 => fin _ (fun k => ?_) h' tk c r1 r3
    rw [decide_eq_true_eq]
    simp only [List.mem_map]
    constructor
    · rintro ⟨c, h1, h2⟩
      refine ⟨c, by simpa using h1, ?_⟩
      have : #[c] = k.toArray := by simpa using h2
      have := congrArg Array.toList this
      first | simpa using this | exact this
    · rintro ⟨c, h1, rfl⟩
      exact ⟨c, by simpa using h1, rfl⟩
  · cases r1
    obtain ⟨its, r, pl, hz⟩ := I1.list hq
    refine call_setT _ (fun A' hA => initSet_list (by rw [hA]; exact I1.ok.hd hc) pl.isList (by simpa using strsAre_paired r hp) (by simpa using hlen)) fun h' tk c r1 r2 r3 => fin _ (fun k => ?_) h' tk c r1 r3
    rw [decide_eq_true_eq]
    simp only [List.mem_map]
    constructor
    · rintro ⟨c, h1, h2⟩
      have : c.toArray = k.toArray := by simpa using h2
      have := congrArg Array.toList this
      simp at this
      rw [← this]; exact h1
    · intro h1
      exact ⟨k, h1, rfl⟩
section
variable {X : Cx} {N : List Str} {sc : Scope} {own : Str → Bool} {γ ε : Type} {e : Expr} {pos p p2 q0 : Pos} {Γ : List Slot} {L : γ → List Rg} {s : γ} {xt : XT ε}
theorem en_sortedSetL {m : Res ε (List Tx × γ)} (cx : Cxt X N sc own) (hc : X.calm = true) (hu : X.A.units + 10 < cLine) (hm : X.mg "sorted" = none) (hm2 : X.mg "set" = none) (h : EF X e Γ L s (tLst tTx) xt m) (hg : glB sc "sorted" = true := by decide +kernel) (hg2 : glB sc "set" = true := by decide +kernel)
    (he : starEach [e] X.env = (false, eval e X.env) :: starEach [] X.env := by exact star_c rfl) :
    EN X (.Call (.Name "sorted" p) [.Call (.Name "set" p2) [e] [] q0] [] pos) Γ L s (cLst tTx) xt (m.bnd fun d s => Res.grd (d.length + 1 < 4096) (sortK dTx (dedupT d), s)) := fun I σ F H Q fr th => by
  refine PE_to (pe_sortedSet hc hu (glB_gl cx hg).1 hm (glB_gl cx hg2).1 hm2 pe_w he) ?_
  refine h I σ F H _ fr ?_
  cases m with
  | stuck => exact th
  | exn x => exact th
  | val pr =>
    intro I1 v H1 e1 fr1 rv
    obtain ⟨q, vs, rfl, hq, hv⟩ := rv
    change ThenN X I F σ Γ L (cLst tTx) xt Q (Res.grd (pr.1.length + 1 < 4096) (sortK dTx (dedupT pr.1), pr.2)) at th
    by_cases hl : pr.1.length + 1 < 4096
    · rw [Res.grd_true hl] at th
      refine ⟨pr.1, .inr ⟨q, vs, rfl, .of (fr1.sep.same _ _ hq), paired_mono fr1.sep.same hv⟩, hl, fun ys p hy hp => ?_⟩
      exact th I1 p _ e1 ⟨fr1.sep.new hp ⟨ys, rfl, Paired.mapP hy fun _ _ q => q⟩, fr1.len, fr1.sl⟩
    · unfold Res.grd at th; rw [if_neg hl] at th; exact th.elim
theorem en_sortedSetT {m : Res ε (Tx × γ)} (cx : Cxt X N sc own) (hc : X.calm = true) (hu : X.A.units + 10 < cLine) (hm : X.mg "sorted" = none) (hm2 : X.mg "set" = none) (h : EF X e Γ L s tTx xt m) (hg : glB sc "sorted" = true := by decide +kernel) (hg2 : glB sc "set" = true := by decide +kernel)
    (he : starEach [e] X.env = (false, eval e X.env) :: starEach [] X.env := by exact star_c rfl) :
    EN X (.Call (.Name "sorted" p) [.Call (.Name "set" p2) [e] [] q0] [] pos) Γ L s (cLst tTx) xt (m.bnd fun d s => Res.grd (d.length + 1 < 4096) (sortK dTx (dedupT (d.map fun c => [c])), s)) := fun I σ F H Q fr th => by
  refine PE_to (pe_sortedSet hc hu (glB_gl cx hg).1 hm (glB_gl cx hg2).1 hm2 pe_w he) ?_
  refine h I σ F H _ fr ?_
  cases m with
  | stuck => exact th
  | exn x => exact th
  | val pr =>
    intro I1 v H1 e1 fr1 rv
    cases rv
    change ThenN X I F σ Γ L (cLst tTx) xt Q (Res.grd (pr.1.length + 1 < 4096) (sortK dTx (dedupT (pr.1.map fun c => [c])), pr.2)) at th
    by_cases hl : pr.1.length + 1 < 4096
    · rw [Res.grd_true hl] at th
      refine ⟨pr.1.map fun c => [c], .inl ⟨pr.1, rfl, rfl⟩, by rw [List.length_map]; exact hl, fun ys p hy hp => ?_⟩
      exact th I1 p _ e1 ⟨fr1.sep.new hp ⟨ys, rfl, Paired.mapP hy fun _ _ q => q⟩, fr1.len, fr1.sl⟩
    · unfold Res.grd at th; rw [if_neg hl] at th; exact th.elim
end
section
variable {X : Cx} {N : List Str} {sc : Scope} {own : Str → Bool} {a b : Expr} {pos p p2 cpos : Pos} {Γ : List Slot} {L0 : List Rg}
/-- tuple(range(a, b)) -/
theorem ep_tupRg2 {i j : Int} (cx : Cxt X N sc own) (cc : Calm X) (hm : X.mg "tuple" = none) (hmz : X.mg "range" = none) (h1 : EP X a Γ L0 tInt i) (h2 : EP X b Γ L0 tInt j) (ok : RgOk i j) (hg : glB sc "tuple" = true := by decide +kernel) (hgz : glB sc "range" = true := by decide +kernel)
    (hs : starEach [a, b] X.env = (false, eval a X.env) :: starEach [b] X.env := by exact star_c rfl) (hs2 : starEach [b] X.env = (false, eval b X.env) :: starEach [] X.env := by exact star_c rfl) (hpl : (backTo cpos (starEach [b] X.env)).any (·.1) = false := by rfl)
    (na : starEach [.Call (.Name "range" p2) [a, b] [] cpos] X.env = (false, eval (.Call (.Name "range" p2) [a, b] [] cpos) X.env) :: starEach [] X.env := by exact star_c rfl) :
    EP X (.Call (.Name "tuple" p) [.Call (.Name "range" p2) [a, b] [] cpos] [] pos) Γ L0 (tTuL tInt) (rng i j) := fun I σ F H Q fr th => by
  refine PE_to (pe_tupRg cc.calm (glB_gl cx hg).1 hm (prg_2 (glB_gl cx hgz).1 hmz pe_w pe_w hs hs2 hpl) na) ?_
  refine h1.run fr fun I1 v H1 e1 fr1 r1 => ?_
  refine h2.run fr1 fun I2 w H2 e2 fr2 r2 => ?_
  refine ⟨i, j, r1, r2, ok, fun q hq => ?_⟩
  have hi := fr2.sep.same.free hq
  exact th _ _ _ ((e1.trans e2).trans (Same.upd hi)) (fr2.step (Same.upd hi) (fr2.sep.imm hq)) ⟨q, _, rfl, upd_same, rep_rgV i j⟩
end
end Fw


namespace Fw
open PySem L2
/-! ## 50. what a mirror's value is like: sat -/
def Res.sat {ε α γ : Type} (m : Res ε (α × γ)) (Q : α → γ → Prop) (E : ε → Prop) : Prop := match m with
  | .stuck => False
  | .val p => Q p.1 p.2
  | .exn x => E x
def Out.sat {ε ρ ν : Type} (m : Out ε ρ ν) (N : ν → Prop) (R : ρ → Prop) (E : ε → Prop) : Prop := match m with
  | .stuck => False
  | .nx n => N n
  | .ret r => R r
  | .exn x => E x
section
variable {ε ε' α β γ δ ρ ν ν' : Type} {Q Q' : α → γ → Prop} {E E' : ε → Prop}
theorem s_val {a : α} {s : γ} : (Res.val (a, s) : Res ε (α × γ)).sat Q E = Q a s := rfl
theorem s_valp {p : α × γ} : (Res.val p : Res ε (α × γ)).sat Q E = Q p.1 p.2 := rfl
theorem s_stuck : (Res.stuck : Res ε (α × γ)).sat Q E = False := rfl
theorem s_exn {x : ε} : (Res.exn x : Res ε (α × γ)).sat Q E = E x := rfl
theorem s_bnd {m : Res ε (δ × γ)} {k : δ → γ → Res ε (α × γ)} : (m.bnd k).sat Q E = m.sat (fun a s => (k a s).sat Q E) E := by cases m <;> rfl
theorem s_bnd' {γ' : Type} {m : Res ε (δ × γ')} {k : δ → γ' → Res ε (α × γ)} : (m.bnd k).sat Q E = m.sat (fun a s => (k a s).sat Q E) E := by cases m <;> rfl
theorem s_grd {P : Prop} [Decidable P] {a : α} {s : γ} : (Res.grd P (a, s) : Res ε (α × γ)).sat Q E = (P ∧ Q a s) := by
  unfold Res.grd
  by_cases h : P
  · rw [if_pos h]; exact propext ⟨fun q => ⟨h, q⟩, fun q => q.2⟩
  · rw [if_neg h]; exact propext ⟨fun q => q.elim, fun q => absurd q.1 h⟩
theorem s_ite {P : Prop} [Decidable P] {a b : Res ε (α × γ)} : (if P then a else b).sat Q E = (if P then a.sat Q E else b.sat Q E) := by split <;> rfl
theorem s_itestuck {P : Prop} [Decidable P] {a : Res ε (α × γ)} : (if P then a else .stuck).sat Q E = (P ∧ a.sat Q E) := by
  by_cases h : P
  · rw [if_pos h]; exact propext ⟨fun q => ⟨h, q⟩, fun q => q.2⟩
  · rw [if_neg h]; exact propext ⟨fun q => q.elim, fun q => absurd q.1 h⟩
theorem s_if0 {P A : Prop} [Decidable P] : (if P then A else False) = (P ∧ A) := by
  by_cases h : P
  · rw [if_pos h]; exact propext ⟨fun q => ⟨h, q⟩, fun q => q.2⟩
  · rw [if_neg h]; exact propext ⟨fun q => q.elim, fun q => absurd q.1 h⟩
theorem ite_t {P A B : Prop} {i : Decidable P} (h : P) (a : A) : @ite Prop P i A B := by rw [if_pos h]; exact a
theorem ite_f {P A B : Prop} {i : Decidable P} (h : ¬ P) (b : B) : @ite Prop P i A B := by rw [if_neg h]; exact b
theorem s_up {m : Res ε (α × Unit)} {s : γ} : (m.up s).sat Q E = m.sat (fun a _ => Q a s) E := by cases m <;> rfl
theorem s_nox {m : Res ε' (α × γ)} : (m.nox : Res ε (α × γ)).sat Q E = m.sat Q (fun _ => False) := by cases m <;> rfl
theorem s_mk {σ : Type} {m : Res ε (Unit × σ)} {Q : σ → γ → Prop} {s : γ} : (m.mk s).sat Q E = m.sat (fun _ d => Q d s) E := by cases m <;> rfl
theorem s_fn {m : Out ε (α × γ) ν} : m.fn.sat Q E = m.sat (fun _ => False) (fun r => Q r.1 r.2) E := by cases m <;> rfl
theorem s_fnU {m : Out ε (α × γ) ν} {r : ν → α × γ} : (m.fnU r).sat Q E = m.sat (fun n => Q (r n).1 (r n).2) (fun r => Q r.1 r.2) E := by cases m <;> rfl
theorem Res.sat.imp {m : Res ε (α × γ)} (h : m.sat Q E) (q : ∀ a s, Q a s → Q' a s) (e : ∀ x, E x → E' x) : m.sat Q' E' := by
  cases m with
  | stuck => exact h
  | val p => exact q _ _ h
  | exn x => exact e x h
/-- the rule for a call whose law is known -/
theorem Res.sat.to {m : Res ε (α × γ)} (h : m.sat Q (fun _ => False)) (q : ∀ a s, Q a s → Q' a s) : m.sat Q' E := h.imp q fun _ => False.elim
theorem sat_eq {m : Res ε (α × γ)} {a : α} {s : γ} (h : m.sat (fun b t => b = a ∧ t = s) (fun _ => False)) : m = .val (a, s) := by
  cases m with
  | stuck => exact h.elim
  | val p => obtain ⟨rfl, rfl⟩ := h; rfl
  | exn x => exact h.elim
theorem sat_eqU {m : Res ε (α × Unit)} {a : α} (h : m.sat (fun b _ => b = a) (fun _ => False)) : m = .val (a, ()) := sat_eq (h.imp (fun _ _ e => ⟨e, rfl⟩) fun _ z => z)
theorem sat_of {m : Res ε (α × γ)} {a : α} {s : γ} (h : m = .val (a, s)) : m.sat (fun b t => b = a ∧ t = s) E := by subst h; exact ⟨rfl, rfl⟩
/-- it is a value -/
theorem sat_ex {m : Res ε (α × γ)} (h : m.sat Q (fun _ => False)) : ∃ a s, m = .val (a, s) ∧ Q a s := by
  cases m with
  | stuck => exact h.elim
  | val p => exact ⟨p.1, p.2, rfl, h⟩
  | exn x => exact h.elim
variable {N N' : ν → Prop} {R R' : ρ → Prop}
theorem o_nx {n : ν} : (Out.nx n : Out ε ρ ν).sat N R E = N n := rfl
theorem o_ret {r : ρ} : (Out.ret r : Out ε ρ ν).sat N R E = R r := rfl
theorem o_stuck : (Out.stuck : Out ε ρ ν).sat N R E = False := rfl
theorem o_exn {x : ε} : (Out.exn x : Out ε ρ ν).sat N R E = E x := rfl
theorem o_bnd {m : Res ε (δ × γ)} {k : δ → γ → Out ε ρ ν} : (Out.bnd m k).sat N R E = m.sat (fun a s => (k a s).sat N R E) E := by cases m <;> rfl
theorem o_seq {m : Out ε ρ ν'} {k : ν' → Out ε ρ ν} : (m.seq k).sat N R E = m.sat (fun n => (k n).sat N R E) R E := by cases m <;> rfl
theorem o_lt {d : α} {k : α → Out ε ρ ν} : (Out.lt d k).sat N R E = (k d).sat N R E := rfl
theorem o_ite {P : Prop} [Decidable P] {a b : Out ε ρ ν} : (if P then a else b).sat N R E = (if P then a.sat N R E else b.sat N R E) := by split <;> rfl
theorem o_itestuck {P : Prop} [Decidable P] {a : Out ε ρ ν} : (if P then a else .stuck).sat N R E = (P ∧ a.sat N R E) := by
  by_cases h : P
  · rw [if_pos h]; exact propext ⟨fun q => ⟨h, q⟩, fun q => q.2⟩
  · rw [if_neg h]; exact propext ⟨fun q => q.elim, fun q => absurd q.1 h⟩
theorem o_try {m : Out ε ρ ν} {c : ε → Bool} {k : ε → Out ε ρ ν} : (Out.tryX m c k).sat N R E = m.sat N R (fun x => if c x = true then (k x).sat N R (fun _ => False) else E x) := by
  cases m with
  | exn x =>
    show (if c x = true then (k x).noxO else Out.exn x).sat N R E = if c x = true then (k x).sat N R (fun _ => False) else E x
    split
    · cases k x <;> rfl
    · rfl
  | _ => rfl
theorem Out.sat.imp {m : Out ε ρ ν} (h : m.sat N R E) (q : ∀ n, N n → N' n) (r : ∀ x, R x → R' x) (e : ∀ x, E x → E' x) : m.sat N' R' E' := by
  cases m with
  | stuck => exact h
  | nx n => exact q _ h
  | ret x => exact r x h
  | exn x => exact e x h
/-- a for, by an invariant of the turns done -/
theorem o_for {xs : List α} {n : ν} {B : ν → α → Out ε ρ ν} (J : Nat → ν → Prop) (h0 : J 0 n) (hs : ∀ (i : Nat) (x : α) (m : ν), xs[i]? = some x → J i m → (B m x).sat (J (i + 1)) R E) (h1 : ∀ m, J xs.length m → N m) : (Out.forL xs n B).sat N R E := by
  have key : ∀ (ys : List α) (i : Nat) (m : ν), (∀ j x, ys[j]? = some x → xs[i + j]? = some x) → i + ys.length = xs.length → J i m → (Out.forL ys m B).sat N R E := by
    intro ys
    induction ys with
    | nil => intro i m _ hl hj; exact h1 m (by rw [← hl]; exact hj)
    | cons y ys ih =>
      intro i m hx hl hj
      unfold Out.forL
      rw [o_seq]
      refine (hs i y m (hx 0 y rfl) hj).imp (fun m' q => ih (i + 1) m' (fun j x e => ?_) (by simp at hl; omega) q) (fun _ q => q) (fun _ q => q)
      have := hx (j + 1) x e
      rwa [show i + 1 + j = i + (j + 1) by omega]
  exact key xs 0 n (fun j x e => by simpa using e) (by simp) h0
/-- a for, by an invariant alone -/
theorem o_forI {xs : List α} {n : ν} {B : ν → α → Out ε ρ ν} (J : ν → Prop) (h0 : J n) (hs : ∀ (x : α) (m : ν), x ∈ xs → J m → (B m x).sat J R E) (h1 : ∀ m, J m → N m) : (Out.forL xs n B).sat N R E :=
  o_for (fun _ => J) h0 (fun i x m e j => hs x m (List.mem_of_getElem? e) j) h1
/-- a for whose body is a function -/
theorem o_forF {xs : List α} {n : ν} {B : ν → α → Out ε ρ ν} (f : ν → α → ν) (h : ∀ x m, x ∈ xs → B m x = .nx (f m x)) : Out.forL xs n B = .nx (xs.foldl f n) := by
  induction xs generalizing n with
  | nil => rfl
  | cons x xs ih =>
    unfold Out.forL
    rw [h x n (List.mem_cons_self ..)]
    show Out.forL xs (f n x) B = _
    rw [ih fun y m hy => h y m (List.mem_cons_of_mem _ hy)]
    rfl
/-- a while, by an invariant and a measure -/
theorem o_while {C : ν → Res ε (Bool × Unit)} {B : ν → Out ε ρ ν} {k : Nat} {n : ν} (J : ν → Prop) (ms : ν → Nat) (h0 : J n) (hk : ms n < k)
    (hs : ∀ m, J m → (C m).sat (fun b _ => if b = true then (B m).sat (fun m' => J m' ∧ ms m' < ms m) R E else N m) E) : (Out.whileF C B k n).sat N R E := by
  induction k generalizing n with
  | zero => exact absurd hk (Nat.not_lt_zero _)
  | succ k ih =>
    unfold Out.whileF
    rw [o_bnd]
    refine (hs n h0).imp (fun b u q => ?_) (fun _ q => q)
    cases b with
    | false => exact q
    | true =>
      rw [if_pos rfl, o_seq]
      rw [if_pos rfl] at q
      exact q.imp (fun m' z => ih z.1 (by omega)) (fun _ z => z) (fun _ z => z)
/-- comprehensions -/
theorem s_compL {tt : β → γ → Res ε (Bool × γ)} {ee : β → γ → Res ε (δ × γ)} {xs : List β} {s : γ} {Q : List δ → γ → Prop} (J : Nat → List δ → γ → Prop) (h0 : J 0 [] s)
    (hs : ∀ i x acc s, xs[i]? = some x → J i acc s → (tt x s).sat (fun b s1 => if b = true then (ee x s1).sat (fun y s2 => J (i + 1) (acc ++ [y]) s2) E else J (i + 1) acc s1) E)
    (h1 : ∀ acc s, J xs.length acc s → Q acc s) : (Res.compL tt ee xs s []).sat Q E := by
  have key : ∀ (ys : List β) (i : Nat) (acc : List δ) (s : γ), (∀ j x, ys[j]? = some x → xs[i + j]? = some x) → i + ys.length = xs.length → J i acc s → (Res.compL tt ee ys s acc).sat Q E := by
    intro ys
    induction ys with
    | nil => intro i acc s _ hl hj; exact h1 acc s (by rw [← hl]; exact hj)
    | cons y ys ih =>
      intro i acc s hx hl hj
      unfold Res.compL
      rw [s_bnd]
      refine (hs i y acc s (hx 0 y rfl) hj).imp (fun b s1 q => ?_) (fun _ q => q)
      have hx' : ∀ j x, ys[j]? = some x → xs[i + 1 + j]? = some x := fun j x e => by
        have := hx (j + 1) x e
        rwa [show i + 1 + j = i + (j + 1) by omega]
      cases b with
      | false =>
        rw [if_neg (by simp)] at q ⊢
        exact ih (i + 1) acc s1 hx' (by simp at hl; omega) q
      | true =>
        rw [if_pos rfl] at q ⊢
        rw [s_bnd]
        exact q.imp (fun z s2 r => ih (i + 1) _ s2 hx' (by simp at hl; omega) r) (fun _ r => r)
  exact key xs 0 [] s (fun j x e => by simpa using e) (by simp) h0
/-- a comprehension of functions -/
theorem compL_fun {tt : β → γ → Res ε (Bool × γ)} {ee : β → γ → Res ε (δ × γ)} {xs : List β} {s : γ} {acc : List δ} (p : β → Bool) (f : β → δ) (h1 : ∀ x ∈ xs, tt x s = .val (p x, s)) (h2 : ∀ x ∈ xs, p x = true → ee x s = .val (f x, s)) :
    Res.compL tt ee xs s acc = .val (acc ++ (xs.filter p).map f, s) := by
  induction xs generalizing acc with
  | nil => unfold Res.compL; simp
  | cons x xs ih =>
    unfold Res.compL
    rw [h1 x (List.mem_cons_self ..)]
    have ih' := fun acc => ih (acc := acc) (fun y hy => h1 y (List.mem_cons_of_mem _ hy)) (fun y hy => h2 y (List.mem_cons_of_mem _ hy))
    show (if p x = true then _ else _) = _
    cases hp : p x with
    | false => rw [if_neg (by simp), ih']; simp [hp]
    | true => rw [if_pos rfl, h2 x (List.mem_cons_self ..) hp]; show Res.compL tt ee xs s _ = _; rw [ih']; simp [hp]
/-- a comprehension of functions, by sat -/
theorem s_compF {tt : β → γ → Res ε (Bool × γ)} {ee : β → γ → Res ε (δ × γ)} {xs : List β} {s : γ} {Q : List δ → γ → Prop} (p : β → Bool) (f : β → δ) (h1 : ∀ x ∈ xs, (tt x s).sat (fun b t => b = p x ∧ t = s) fun _ => False) (h2 : ∀ x ∈ xs, p x = true → (ee x s).sat (fun b t => b = f x ∧ t = s) fun _ => False) (q : Q ((xs.filter p).map f) s) :
    (Res.compL tt ee xs s []).sat Q E := by
  rw [compL_fun p f (fun x hx => sat_eq (h1 x hx)) (fun x hx e => sat_eq (h2 x hx e))]
  exact q
theorem s_compM {tt : β → γ → Res ε (Bool × γ)} {ee : β → γ → Res ε (δ × γ)} {xs : List β} {s : γ} {Q : List δ → γ → Prop} (f : β → δ) (h1 : ∀ x s, tt x s = .val (true, s)) (h2 : ∀ x ∈ xs, (ee x s).sat (fun b t => b = f x ∧ t = s) fun _ => False) (q : Q (xs.map f) s) :
    (Res.compL tt ee xs s []).sat Q E := by
  refine s_compF (fun _ => true) f (fun x _ => by rw [h1]; exact ⟨rfl, rfl⟩) (fun x hx _ => h2 x hx) ?_
  rwa [List.filter_eq_self.mpr (fun _ _ => rfl)]
/-- items that all are good, one for each -/
theorem s_compA {tt : β → γ → Res ε (Bool × γ)} {ee : β → γ → Res ε (δ × γ)} {xs : List β} {s : γ} {Q : List δ → γ → Prop} (G : Nat → γ → Prop) (P : β → δ → Prop) (h0 : G 0 s) (h1 : ∀ x s, tt x s = .val (true, s)) (h2 : ∀ i x s, x ∈ xs → i < xs.length → G i s → (ee x s).sat (fun y t => P x y ∧ G (i + 1) t) E)
    (q : ∀ (ys : List δ) (t : γ), ys.length = xs.length → (∀ (i : Nat) (x : β) (y : δ), xs[i]? = some x → ys[i]? = some y → P x y) → G xs.length t → Q ys t) : (Res.compL tt ee xs s []).sat Q E := by
  refine s_compL (fun i acc s => acc.length = i ∧ (∀ (j : Nat) (x : β) (y : δ), xs[j]? = some x → acc[j]? = some y → P x y) ∧ G i s) ⟨rfl, fun j x y _ e => by simp at e, h0⟩ (fun i x acc s e ⟨a, b, c⟩ => ?_) (fun acc s ⟨a, b, c⟩ => q acc s a b c)
  rw [h1, s_val, if_pos rfl]
  have hi : i < xs.length := (List.getElem?_eq_some_iff.mp e).1
  refine (h2 i x s (List.mem_of_getElem? e) hi c).imp (fun y t ⟨p, g⟩ => ⟨by simp [a], fun j x' y' ex ey => ?_, g⟩) (fun _ z => z)
  by_cases hj : j < acc.length
  · rw [List.getElem?_append_left hj] at ey; exact b j x' y' ex ey
  · rw [List.getElem?_append_right (by omega)] at ey
    have : j = i := by
      cases h : j - acc.length with
      | zero => omega
      | succ n => rw [h] at ey; simp at ey
    subst this
    rw [a] at ey
    simp at ey
    rw [e] at ex
    cases ex
    subst ey
    exact p
end
/-! ## 51. lists by places -/
theorem sz20 : 1048576 ≤ sizeLine := by decide
section
variable {ι : Type} {xs : List ι} {i j : Int}
theorem at_nn (h : 0 ≤ i) : atI xs i = xs[i.toNat]? := by
  unfold atI ixN
  rw [if_pos h]
  by_cases h1 : i < xs.length
  · rw [if_pos h1]; rfl
  · rw [if_neg h1, List.getElem?_eq_none (by omega)]; rfl
theorem at_nat {i : Nat} : atI xs (i : Int) = xs[i]? := at_nn (by omega)
theorem at_is (h : 0 ≤ i) (h1 : i < xs.length) : (atI xs i).isSome = true := by rw [at_nn h, List.getElem?_eq_getElem (by omega)]; rfl
theorem ix_nn (h : 0 ≤ i) (h1 : i < xs.length) : ixN xs.length i = some i.toNat := by unfold ixN; rw [if_pos h, if_pos h1]
theorem at_get (h : 0 ≤ i) (h1 : i < xs.length) (d : ι) : (atI xs i).getD d = xs[i.toNat]'(by omega) := by rw [at_nn h, List.getElem?_eq_getElem (by omega)]; rfl
theorem at_last (h : 0 < xs.length) : atI xs (-1) = xs[xs.length - 1]? := by
  unfold atI ixN
  rw [if_neg (by decide), if_pos (by omega)]
  show xs[((-1 : Int) + xs.length).toNat]? = _
  rw [show ((-1 : Int) + xs.length).toNat = xs.length - 1 by omega]
theorem cut_nn (h : 0 ≤ i) (h1 : 0 ≤ j) : cut xs (some i) (some j) = (xs.drop i.toNat).take (j.toNat - i.toNat) := by
  unfold cut HT.sIx
  simp only [if_neg (show ¬ i < 0 by omega), if_neg (show ¬ j < 0 by omega)]
  by_cases h2 : i.toNat ≤ xs.length
  · rw [Nat.min_eq_left h2]
    by_cases h3 : j.toNat ≤ xs.length
    · rw [Nat.min_eq_left h3]
    · rw [Nat.min_eq_right (by omega), List.take_of_length_le (by simp), List.take_of_length_le (by simp; omega)]
  · have e : min i.toNat xs.length = xs.length := Nat.min_eq_right (by omega)
    rw [e, List.drop_of_length_le (Nat.le_refl _), List.drop_of_length_le (by omega)]; simp
theorem cut_from (h : 0 ≤ i) : cut xs (some i) none = xs.drop i.toNat := by
  unfold cut HT.sIx
  simp only [if_neg (show ¬ i < 0 by omega)]
  by_cases h2 : i.toNat ≤ xs.length
  · rw [Nat.min_eq_left h2, List.take_of_length_le (by simp)]
  · have e : min i.toNat xs.length = xs.length := Nat.min_eq_right (by omega)
    rw [e, List.drop_of_length_le (Nat.le_refl _), List.drop_of_length_le (by omega)]; simp
theorem cut_to (h1 : 0 ≤ j) : cut xs none (some j) = xs.take j.toNat := by
  unfold cut HT.sIx
  simp only [if_neg (show ¬ j < 0 by omega), List.drop_zero, Nat.sub_zero]
  by_cases h3 : j.toNat ≤ xs.length
  · rw [Nat.min_eq_left h3]
  · rw [Nat.min_eq_right (by omega), List.take_of_length_le (Nat.le_refl _), List.take_of_length_le (by omega)]
theorem cut_mem {o u : Option Int} {x : ι} (h : x ∈ cut xs o u) : x ∈ xs := List.mem_of_mem_drop (List.mem_of_mem_take h)
theorem cut_len {o u : Option Int} : (cut xs o u).length ≤ xs.length := by unfold cut; rw [List.length_take, List.length_drop]; omega
end
theorem rng_mem {lo hi x : Int} : x ∈ rng lo hi ↔ lo ≤ x ∧ x < hi := by
  unfold rng
  rw [List.mem_map]
  constructor
  · rintro ⟨i, hi', rfl⟩
    rw [List.mem_range] at hi'
    omega
  · rintro ⟨h1, h2⟩
    exact ⟨(x - lo).toNat, by rw [List.mem_range]; omega, by omega⟩
theorem rng_get {lo hi : Int} {i : Nat} (h : i < (hi - lo).toNat) : (rng lo hi)[i]? = some (lo + (i : Int)) := by
  unfold rng
  rw [List.getElem?_map, List.getElem?_range h]; rfl
theorem rng_ok {lo hi : Int} (h : -1000000000 ≤ lo) (h1 : lo ≤ 1000000000) (h2 : -1000000000 ≤ hi) (h3 : hi ≤ 1000000000) : rngOk lo hi := by
  unfold rngOk
  exact ⟨by omega, by omega, by omega, by omega⟩
theorem joinT_nil (ys : List Tx) : joinT [] ys = ys.flatten := by
  unfold joinT
  induction ys with
  | nil => rfl
  | cons y ys ih => cases ys with
    | nil => simp [TL.joinL]
    | cons z zs => rw [List.flatten_cons, ← ih]; simp [TL.joinL]
/-- data that the laws compare: of at most so many levels -/
def dOk : Nat → PyData → Prop
  | _, .none => True
  | _, .bool _ => True
  | _, .int _ => True
  | _, .str _ => True
  | n + 1, .list xs => xs.length ≤ 1000000 ∧ ∀ x ∈ xs, dOk n x
  | n + 1, .tuple xs => xs.length ≤ 1000000 ∧ ∀ x ∈ xs, dOk n x
  | _, _ => False
end Fw


namespace Fw
open PySem L2
/-! ## 60. more mathematics: where a text stands in a text -/
def hit (t y : Tx) (p : Nat) : Prop := p + y.length ≤ t.length ∧ (t.drop p).take y.length = y
instance {t y : Tx} {p : Nat} : Decidable (hit t y p) := by unfold hit; infer_instance
theorem hit_sub {t y : Tx} {p : Nat} : (p + y.length ≤ t.length ∧ Builtin.Str.subAt ⟨t.toArray⟩ ⟨y.toArray⟩ p = true) ↔ hit t y p := by
  unfold hit Builtin.Str.subAt
  refine and_congr_right fun h => ?_
  rw [beq_iff_eq]
  show t.toArray.extract p (p + y.toArray.size) = y.toArray ↔ _
  rw [List.extract_toArray, List.size_toArray, List.extract_eq_take_drop, show p + y.length - p = y.length by omega]
  constructor
  · intro e; exact congrArg Array.toList e
  · intro e; rw [e]
theorem occ_full (s sub : Str) (hi : Nat) : ∀ (l : List Nat) (a : Array Nat) (free : Nat), ¬ a.size < 1 → (forIn l (a, free) (StrLaws.occBody s sub hi 1)).run.fst = a
  | [], a, free, _ => by simp
  | x :: l, a, free, h => by
    rw [List.forIn_cons]
    unfold StrLaws.occBody
    rw [if_neg (fun z => h z.1.1.1)]
    exact occ_full s sub hi l a free h
theorem occ_first (s sub : Str) (hi : Nat) : ∀ (l : List Nat) (free : Nat), (∀ i ∈ l, free ≤ i) →
    (forIn l ((#[] : Array Nat), free) (StrLaws.occBody s sub hi 1)).run.fst.toList = (l.find? fun i => decide (i + sub.length ≤ hi ∧ Builtin.Str.subAt s sub i = true)).toList
  | [], free, _ => by simp
  | a :: l, free, hf => by
    rw [List.forIn_cons, List.find?_cons]
    unfold StrLaws.occBody
    have ha : free ≤ a := hf a (List.mem_cons_self ..)
    by_cases hc : a + sub.length ≤ hi ∧ Builtin.Str.subAt s sub a = true
    · rw [if_pos ⟨⟨⟨by simp, ha⟩, hc.1⟩, hc.2⟩, decide_eq_true hc]
      have := occ_full s sub hi l (#[].push a) (a + sub.length) (by simp)
      show (forIn l (#[].push a, a + sub.length) (StrLaws.occBody s sub hi 1)).run.fst.toList = [a]
      rw [this]; rfl
    · rw [if_neg (fun z => hc ⟨z.1.2, z.2⟩), decide_eq_false hc]
      exact occ_first s sub hi l free (fun i hi' => hf i (List.mem_cons_of_mem _ hi'))
theorem find?_range' {P : Nat → Bool} : ∀ (n lo : Nat), (match (List.range' lo n).find? P with | some k => lo ≤ k ∧ k < lo + n ∧ P k = true ∧ ∀ q, lo ≤ q → q < k → P q = false | none => ∀ q, lo ≤ q → q < lo + n → P q = false)
  | 0, lo => fun q h1 h2 => by omega
  | n + 1, lo => by
    rw [List.range'_succ, List.find?_cons]
    cases h : P lo with
    | true => exact ⟨Nat.le_refl _, by omega, h, fun q h1 h2 => by omega⟩
    | false =>
      have ih := find?_range' (P := P) n (lo + 1)
      dsimp only
      cases e : (List.range' (lo + 1) n).find? P with
      | some k =>
        rw [e] at ih
        obtain ⟨h1, h2, h3, h4⟩ := ih
        refine ⟨by omega, by omega, h3, fun q h5 h6 => ?_⟩
        by_cases hq : q = lo
        · subst hq; exact h
        · exact h4 q (by omega) h6
      | none =>
        rw [e] at ih
        intro q h5 h6
        by_cases hq : q = lo
        · subst hq; exact h
        · exact ih q (by omega) (by omega)
theorem findF_spec (t y : Tx) (i : Nat) : (∃ p : Nat, findF t y i = (p : Int) ∧ i ≤ p ∧ hit t y p ∧ ∀ q, i ≤ q → q < p → ¬ hit t y q) ∨ (findF t y i = -1 ∧ ∀ q, i ≤ q → ¬ hit t y q) := by
  have e0 : fromIndex (Str.length ⟨t.toArray⟩) (i : Int) = i := by
    unfold fromIndex
    rw [if_neg (by omega)]
    omega
  have e1 : Builtin.Str.occurrences ⟨t.toArray⟩ ⟨y.toArray⟩ i t.length 1 = ((List.range' i (t.length + 1 - i)).find? fun k => decide (hit t y k)).toList := by
    rw [StrLaws.occ_eq, occ_first _ _ _ _ _ (fun k hk => (List.mem_range'_1.mp hk).1)]
    congr 2
    funext k
    exact decide_eq_decide.mpr hit_sub
  have e2 : findF t y i = (match Builtin.Str.occurrences ⟨t.toArray⟩ ⟨y.toArray⟩ i t.length 1 with | k :: _ => (k : Int) | [] => -1) := by
    unfold findF Txt.find3
    rw [e0]
    rfl
  have h := find?_range' (P := fun k => decide (hit t y k)) (t.length + 1 - i) i
  rw [e2, e1]
  cases e : (List.range' i (t.length + 1 - i)).find? fun k => decide (hit t y k) with
  | some k =>
    rw [e] at h
    obtain ⟨h1, h2, h3, h4⟩ := h
    exact .inl ⟨k, rfl, h1, of_decide_eq_true h3, fun q h5 h6 => of_decide_eq_false (h4 q h5 h6)⟩
  | none =>
    rw [e] at h
    refine .inr ⟨rfl, fun q h5 h6 => ?_⟩
    have : q < i + (t.length + 1 - i) := by have := h6.1; omega
    exact of_decide_eq_false (h q h5 this) h6
theorem findT_F (t y : Tx) : findT t y = findF t y 0 := by
  unfold findT findF Txt.find Txt.find3
  rfl
/-! data are equal to themselves -/
/-- data of so many levels whose texts are texts -/
def dSh : Nat → PyData → Prop
  | _, .none => True
  | _, .bool _ => True
  | _, .int _ => True
  | _, .str x => PyData.strOk x = true
  | n + 1, .list xs => ∀ x ∈ xs, dSh n x
  | n + 1, .tuple xs => ∀ x ∈ xs, dSh n x
  | _, _ => False
theorem dSh_all {n : Nat} : ∀ {xs : List PyData}, (∀ x ∈ xs, x.canLay0 = true ∧ x.depth ≤ n ∧ PyData.eqv x x = true) → PyData.canLayAll0 xs = true ∧ PyData.depthAll xs ≤ n ∧ PyData.eqvAll xs xs = true
  | [], _ => ⟨rfl, Nat.zero_le _, rfl⟩
  | x :: xs, h => by
    obtain ⟨a, b, c⟩ := h x (List.mem_cons_self ..)
    obtain ⟨d, e, f⟩ := dSh_all (xs := xs) fun y hy => h y (List.mem_cons_of_mem _ hy)
    refine ⟨?_, ?_, ?_⟩
    · rw [PyData.canLayAll0, a, d]; rfl
    · rw [PyData.depthAll]; omega
    · rw [PyData.eqvAll, c, f]; rfl
theorem dSh_ok : ∀ (n : Nat) (d : PyData), dSh n d → d.canLay0 = true ∧ d.depth ≤ n ∧ PyData.eqv d d = true := by
  intro n
  induction n with
  | zero =>
    intro d h
    cases d with
    | none => exact ⟨rfl, Nat.le_refl _, rfl⟩
    | bool b => exact ⟨rfl, Nat.le_refl _, by simp [PyData.eqv]⟩
    | int i => exact ⟨rfl, Nat.le_refl _, by simp [PyData.eqv]⟩
    | str x => exact ⟨h, Nat.le_refl _, by simp [PyData.eqv]⟩
    | _ => exact h.elim
  | succ n ih =>
    intro d h
    cases d with
    | none => exact ⟨rfl, Nat.zero_le _, rfl⟩
    | bool b => exact ⟨rfl, Nat.zero_le _, by simp [PyData.eqv]⟩
    | int i => exact ⟨rfl, Nat.zero_le _, by simp [PyData.eqv]⟩
    | str x => exact ⟨h, Nat.zero_le _, by simp [PyData.eqv]⟩
    | list xs =>
      obtain ⟨a, b, c⟩ := dSh_all fun x hx => ih x (h x hx)
      exact ⟨by rw [PyData.canLay0]; exact a, by rw [PyData.depth]; omega, by rw [PyData.eqv]; exact c⟩
    | tuple xs =>
      obtain ⟨a, b, c⟩ := dSh_all fun x hx => ih x (h x hx)
      exact ⟨by rw [PyData.canLay0]; exact a, by rw [PyData.depth]; omega, by rw [PyData.eqv]; exact c⟩
    | dict k => exact h.elim
theorem dSh_eq {n : Nat} {d : PyData} (h : dSh n d) (hn : n ≤ 64 := by decide) : eqOk d d ∧ PyData.eqv d d = true := by
  obtain ⟨a, b, c⟩ := dSh_ok n d h
  have s : SeqAt.shaped d = true := by
    unfold SeqAt.shaped
    rw [a, decide_eq_true (by omega)]; rfl
  exact ⟨⟨s, s⟩, c⟩
theorem strOk_lt {t : Tx} (h : ∀ c ∈ t, c < 0x110000) : PyData.strOk ⟨t.toArray⟩ = true := by
  unfold PyData.strOk
  simp only [List.all_toArray, List.all_eq_true]
  intro c hc
  exact decide_eq_true (h c hc)
/-! a text split at a sign, and joined -/
theorem split_join {c : Nat} {parts : List Tx} (hne : parts ≠ []) (h : ∀ p ∈ parts, c ∉ p) (hc : c < 256) : splitT (joinT [c] parts) [c] = parts := by
  unfold splitT joinT
  have e : Txt.split ⟨(TL.joinL [c] parts).toArray⟩ ⟨[c].toArray⟩ = (TL.spl [c] 0 [] (TL.joinL [c] parts)).map SX.S := SX.split_S (by simp) (by simp [hc])
  rw [e, TL.spl_join hne h, List.map_map]
  conv => rhs; rw [← List.map_id parts]
  exact List.map_congr_left fun p _ => rfl
theorem hit1 {t : Tx} {c p : Nat} : hit t [c] p ↔ t[p]? = some c := by
  unfold hit
  have := @StrLaws.take1_drop t c p
  rw [beq_iff_eq] at this
  constructor
  · rintro ⟨h1, h2⟩
    exact this.mp h2
  · intro h
    have hl := (List.getElem?_eq_some_iff.mp h).1
    exact ⟨by simp only [List.length_cons, List.length_nil]; omega, this.mpr h⟩
theorem ends1 (t : Tx) (c : Nat) : endsT t [c] = true ↔ t.getLast? = some c := by
  unfold endsT Txt.endswith
  rw [Bool.and_eq_true, decide_eq_true_eq]
  have hlen : (⟨t.toArray⟩ : Str).length = t.length := by show t.toArray.size = _; exact List.size_toArray
  have hlen2 : (⟨[c].toArray⟩ : Str).length = 1 := rfl
  rw [hlen, hlen2]
  have hh := @hit_sub t [c] (t.length - 1)
  rw [hit1, List.getLast?_eq_getElem?] at *
  constructor
  · rintro ⟨h1, h2⟩
    exact hh.mp ⟨by simp only [List.length_cons, List.length_nil]; omega, h2⟩
  · intro h
    have hl := (List.getElem?_eq_some_iff.mp h).1
    exact ⟨by omega, (hh.mpr h).2⟩
end Fw


namespace Fw
open PySem L2
/-! ## 40. the end: from the law's own promise to the row -/
theorem fun_ofD {K : PySem.W.Frag} {x qual : Str} {st : Stmt} {f : Addr} {fd : FuncData} {kws : List (Str × V)} (F : FunD K x qual (defArgs st) (defBody st) (defScope st) [] kws f fd) : Fun K x qual st f fd := by
  obtain ⟨oc, od, dV, kV, doc, pm, an, cdv, ct, osl, e, l, c, hd, _⟩ := F.ex
  rcases hd with ⟨_, e2⟩ | ⟨e2, _⟩
  · subst e2; exact ⟨⟨oc, od, kV, doc, pm, an, cdv, ct, osl, e, l, c⟩, F.kp⟩
  · exact absurd rfl e2
/-! ### facts: the hand layer's and one's own -/
def obsB (fa : List He.Fa) (fb : List (PySem.W.Frag → Bool)) (fn : List He.DefD) (K : PySem.W.Frag) : He.AlD := ((fb.all fun f => f K) && ((fa.all fun f => f.ok K) && fn.all fun d => d.ok K), fn.map fun d => He.fnW K d.at_)
def SaysB (fa : List He.Fa) (fb : List (PySem.W.Frag → Bool)) (fn : List He.DefD) (K : PySem.W.Frag) : Prop := obsB fa fb fn K = He.valD fn
def asB (g : Addr → Option Obj) : Nat → List Addr
  | 0 => [mainGlobals, PySem.cStatics]
  | n + 1 => He.growD g (asB g n)
def obsBG (n : Nat) (fa : List He.Fa) (fb : List (PySem.W.Frag → Bool)) (fn : List He.DefD) (g : Addr → Option Obj) : He.AlD := obsB fa fb fn (He.frG g (asB g n))
def hookB (n : Nat) (fa : List He.Fa) (fb : List (PySem.W.Frag → Bool)) (fn : List He.DefD) : PySem.W.Hook where
  α := He.AlD
  obs := fun s => obsBG n fa fb fn s.heap.get?
  val := fun _ => He.valD fn
  says := fun _ h => ∃ K : PySem.W.Frag, K.In h ∧ SaysB fa fb fn K
  of := fun _ _ e => ⟨_, He.frG_in, e⟩
  keeps := fun _ _ _ ⟨K, hK, c⟩ k => ⟨K, PySem.W.Frag.In.keeps hK k, c⟩
theorem obsBG_eq {n : Nat} {fa : List He.Fa} {fb : List (PySem.W.Frag → Bool)} {fn : List He.DefD} {g : Addr → Option Obj} {s : Shared} (h : ∀ a, g a = s.heap.get? a) : obsBG n fa fb fn g = (hookB n fa fb fn).obs s := by
  have e : g = s.heap.get? := funext h
  rw [e] <;> rfl
theorem SaysB.d {fa : List He.Fa} {fb : List (PySem.W.Frag → Bool)} {fn : List He.DefD} {K : PySem.W.Frag} (c : SaysB fa fb fn K) : He.SaysD fa fn K := by
  have c1 : ((fb.all fun f => f K) && ((fa.all fun f => f.ok K) && fn.all fun d => d.ok K)) = true := congrArg (fun z : He.AlD => z.1) c
  have c2 : fn.map (fun d => He.fnW K d.at_) = fn.map He.DefD.val := congrArg (fun z : He.AlD => z.2) c
  show (_, _) = (_, _)
  rw [(He.ba c1).2, c2]
theorem SaysB.own {fa : List He.Fa} {fb : List (PySem.W.Frag → Bool)} {fn : List He.DefD} {K : PySem.W.Frag} (c : SaysB fa fb fn K) (i : Nat) {f : PySem.W.Frag → Bool} (h : fb[i]? = some f := by rfl) : f K = true := by
  have c1 : ((fb.all fun f => f K) && ((fa.all fun f => f.ok K) && fn.all fun d => d.ok K)) = true := congrArg (fun z : He.AlD => z.1) c
  exact List.all_eq_true.mp (He.ba c1).1 f (List.mem_of_getElem? h)
theorem binds_all {K : PySem.W.Frag} {x qual : Str} {st : Stmt} {f : Addr} {fd : FuncData} {ps : List Str} (F : Fun K x qual st f fd)
    (h : ∀ (kV doc pm : Value) (an : Option Addr) (cdv ct : Value) (us : List Value), us.length = ps.length → bindArgs (PySem.W.fnOf x qual (defArgs st) (defBody st) (defScope st) .none kV doc pm an cdv ct) ⟨us, []⟩ = pure (ps.zip us)) (s : Shared) (us : List Value) (hl : us.length = ps.length) : BindsTo s fd ⟨us, []⟩ (ps.zip us) := by
  obtain ⟨oc, od, kV, doc, pm, an, cdv, ct, osl, rfl, lk, hcd⟩ := F.ex
  exact .of_eq (h kV doc pm an cdv ct us hl)
theorem walk_ofW {l : PySem.W.OpenLaw} {k : Nat} {q : Program} {loose : List Str} {XP : (Str → Option Value) → Heap → Prop} {YP : World → Heap → Prop} {d : DefRec} {x : Str} {ε : Type}
    (hn : l.most = some 63) (hdf : d.params.defaults = []) (hr : Room k callerA)
    (F : ∀ (w : World) (mg : Str → Option Value) (fa : Addr) (h : Heap), YP w h → h.Ns mainGlobals mg → mg d.name = some (.ref fa) →
      ∃ (K : PySem.W.Frag) (fd : FuncData) (xt : XT ε) (g : (List Int × Unit) → Unit → Res ε (Bool × Unit)), K.In h ∧ (∀ (s : Shared) (u : Value), BindsTo s fd ⟨[u], []⟩ [(x, u)]) ∧
        (∀ ns : List Int, ns.length ≤ 63 → g (ns, ()) () = .val (true, ())) ∧
        ∀ base : Heap, K.In base → base.Ns mainGlobals mg → FnOk l.prog w K mg base (L2.CX l.prog w) k fa fd [x] (spec (fun _ : Unit => Tys.cons (tSeq K tInt) Tys.nil) (fun _ _ => []) (fun _ : Unit => rtV tBool (fun _ => [])) (fun _ => xt) g)) :
    PySem.W.WalkO q loose XP YP l.row.toRowW d [] (fun f vs => PySem.call f vs) := by
  refine Att.attach_call hn hdf fun w s₀ s₁ mg mb fa o pm cd doc a vs ns G Y ho hd hcd hmg hobj hints hlen hg => ?_
  obtain ⟨K, fd, xt, g, KX, hb, hsp, hF⟩ := F w mg fa _ Y G.T.g hmg
  refine law_call KX G.T.g G.T.b G.T.builtins G.T.nolimit hg hobj hints (Nat.le_trans hlen (by decide)) hr hF hb (fun H hO hS => ?_) fun H e s' z => ?_
  · have e := hsp ns hlen
    refine ⟨(), H, [], (ns, ()), (), .nil (Same.refl _), ⟨_, _, rfl, ⟨a, _, rfl, hS, ?_⟩, rfl⟩, ?_⟩
    · clear e hS hlen hints
      induction ns with
      | nil => exact .nil
      | cons n ns ih => exact .cons rfl ih
    · rw [e]
      intro I' v H' e1 s1 r1
      have r1 : v = .bl true := r1
      subst r1
      exact rfl
  · obtain ⟨_, _, _, _, _, _, _, _, _, _, _, _, h⟩ := z
    exact h
end Fw


namespace My
open PySem L2 Fw
def top (i : Nat) : Stmt := PySem.Challenge.pw_breakwords_k20_woods_knot_by_knot.main.body.getD i (.Pass ⟨0, 0, 0, 0⟩)
abbrev s_greatest : Stmt := top 1
abbrev s_wood_of : Stmt := top 2
abbrev s_l_feed : Stmt := top 4
abbrev s_l_next : Stmt := top 5
abbrev s_l_letters : Stmt := top 6
abbrev s_l_word : Stmt := top 7
abbrev s_l_numbers : Stmt := top 8
abbrev s_l_pattern : Stmt := top 9
abbrev s_l_patterns : Stmt := top 10
abbrev s_l_beginnings : Stmt := top 11
abbrev s_l_named : Stmt := top 12
abbrev s_l_is_knot : Stmt := top 13
abbrev s_l_right : Stmt := top 14
abbrev s_l_drawn : Stmt := top 15
abbrev s_law_ : Stmt := top 16
abbrev Exc := Empty

structure Tops (K : PySem.W.Frag) (mg : Str → Option Value) where
  f_greatest : Addr
  d_greatest : FuncData
  F_greatest : Fun K "greatest" "greatest" s_greatest f_greatest d_greatest
  g_greatest : mg "greatest" = some (.ref f_greatest)
  b_greatest : Binds K d_greatest ["one", "other"] []
  f_wood_of : Addr
  d_wood_of : FuncData
  F_wood_of : Fun K "wood_of" "wood_of" s_wood_of f_wood_of d_wood_of
  g_wood_of : mg "wood_of" = some (.ref f_wood_of)
  b_wood_of : Binds K d_wood_of ["patterns"] []
  f_l_feed : Addr
  d_l_feed : FuncData
  F_l_feed : Fun K "_law_feed" "_law_feed" s_l_feed f_l_feed d_l_feed
  g_l_feed : mg "_law_feed" = some (.ref f_l_feed)
  b_l_feed : Binds K d_l_feed ["_law_script", "_law_k"] []
  f_l_next : Addr
  d_l_next : FuncData
  F_l_next : Fun K "_law_next" "_law_next" s_l_next f_l_next d_l_next
  g_l_next : mg "_law_next" = some (.ref f_l_next)
  b_l_next : Binds K d_l_next ["_law_feed_here", "_law_many"] []
  f_l_letters : Addr
  d_l_letters : FuncData
  F_l_letters : Fun K "_law_letters" "_law_letters" s_l_letters f_l_letters d_l_letters
  g_l_letters : mg "_law_letters" = some (.ref f_l_letters)
  b_l_letters : Binds K d_l_letters ["_law_feed_here"] []
  f_l_word : Addr
  d_l_word : FuncData
  F_l_word : Fun K "_law_word" "_law_word" s_l_word f_l_word d_l_word
  g_l_word : mg "_law_word" = some (.ref f_l_word)
  b_l_word : Binds K d_l_word ["_law_feed_here", "_law_letters_here", "_law_most"] []
  f_l_numbers : Addr
  d_l_numbers : FuncData
  F_l_numbers : Fun K "_law_numbers" "_law_numbers" s_l_numbers f_l_numbers d_l_numbers
  g_l_numbers : mg "_law_numbers" = some (.ref f_l_numbers)
  b_l_numbers : Binds K d_l_numbers ["_law_feed_here", "_law_signs", "_law_few"] []
  f_l_pattern : Addr
  d_l_pattern : FuncData
  F_l_pattern : Fun K "_law_pattern" "_law_pattern" s_l_pattern f_l_pattern d_l_pattern
  g_l_pattern : mg "_law_pattern" = some (.ref f_l_pattern)
  b_l_pattern : Binds K d_l_pattern ["_law_feed_here", "_law_letters_here", "_law_word_here", "_law_most"] []
  f_l_patterns : Addr
  d_l_patterns : FuncData
  F_l_patterns : Fun K "_law_patterns" "_law_patterns" s_l_patterns f_l_patterns d_l_patterns
  g_l_patterns : mg "_law_patterns" = some (.ref f_l_patterns)
  b_l_patterns : Binds K d_l_patterns ["_law_feed_here", "_law_letters_here", "_law_words", "_law_most"] []
  f_l_beginnings : Addr
  d_l_beginnings : FuncData
  F_l_beginnings : Fun K "_law_beginnings" "_law_beginnings" s_l_beginnings f_l_beginnings d_l_beginnings
  g_l_beginnings : mg "_law_beginnings" = some (.ref f_l_beginnings)
  b_l_beginnings : Binds K d_l_beginnings ["_law_patterns_here"] []
  f_l_named : Addr
  d_l_named : FuncData
  F_l_named : Fun K "_law_named" "_law_named" s_l_named f_l_named d_l_named
  g_l_named : mg "_law_named" = some (.ref f_l_named)
  b_l_named : Binds K d_l_named ["_law_wood"] []
  f_l_is_knot : Addr
  d_l_is_knot : FuncData
  F_l_is_knot : Fun K "_law_is_knot" "_law_is_knot" s_l_is_knot f_l_is_knot d_l_is_knot
  g_l_is_knot : mg "_law_is_knot" = some (.ref f_l_is_knot)
  b_l_is_knot : Binds K d_l_is_knot ["_law_knot"] []
  f_l_right : Addr
  d_l_right : FuncData
  F_l_right : Fun K "_law_right" "_law_right" s_l_right f_l_right d_l_right
  g_l_right : mg "_law_right" = some (.ref f_l_right)
  b_l_right : Binds K d_l_right ["_law_patterns_here"] []
  f_l_drawn : Addr
  d_l_drawn : FuncData
  F_l_drawn : Fun K "_law_drawn" "_law_drawn" s_l_drawn f_l_drawn d_l_drawn
  g_l_drawn : mg "_law_drawn" = some (.ref f_l_drawn)
  b_l_drawn : Binds K d_l_drawn ["_law_feed_here"] []
  f_law_ : Addr
  d_law_ : FuncData
  F_law_ : Fun K "law" "law" s_law_ f_law_ d_law_
  g_law_ : mg "law" = some (.ref f_law_)
  b_law_ : Binds K d_law_ ["_law_script"] []
  z_len : mg "len" = none
  z_abs : mg "abs" = none
  z_min : mg "min" = none
  z_max : mg "max" = none
  z_int : mg "int" = none
  z_str : mg "str" = none
  z_all : mg "all" = none
  z_any : mg "any" = none
  z_tuple : mg "tuple" = none
  z_list : mg "list" = none
  z_range : mg "range" = none
  z_enumerate : mg "enumerate" = none
  z_isinstance : mg "isinstance" = none
  z_bool : mg "bool" = none
  z_sorted : mg "sorted" = none
  z_zip : mg "zip" = none
  z_set : mg "set" = none
section
variable {P : Program} {w : World} {K : PySem.W.Frag} {mg : Str → Option Value} {base : Heap}
def xt (T : Tops K mg) : XT Exc := xt0
theorem xtr (T : Tops K mg) : ∀ x, (xt T).regs x = [] := fun x => nomatch x
theorem flatxt {T : Tops K mg} : FlatX (xt T) := flatx0
def m_greatest (pt : ((Option (List Int)) × (List Int) × Unit)) (st : Unit) : Res Exc ((List Int) × Unit) := Out.fn (ν := Empty) (Out.bnd ((fun (s : Unit) => (Res.val ((Option.isNone pt.1), s))) ()) fun b _ => (if b = true then Out.ret (pt.2.1, ()) else Out.nx ()).seq fun (n1 : Unit) => Out.bnd ((fun (s : Unit) => (((((((Res.val (pt.1, s)).bnd fun x s => Res.grd (x.isSome = true) (x.getD default, s)).bnd fun d s => Res.val ((d, (pt.2.1, ())), s)).bnd fun t s => Res.val (zipL t.1 t.2.1, s)).bnd fun xs s => if xs.length ≤ sizeLine then Res.nox (ε := Empty) (ε' := Exc) (Res.compL (ε := Empty) (fun (d2 : (Int × Int × Unit)) s => Res.val (true, s)) (fun (d2 : (Int × Int × Unit)) s => Res.nox (ε := Exc) (ε' := Empty) (Res.grd (0 < List.length [(d2).1, (d2).2.1]) ((maxL [(d2).1, (d2).2.1]), s))) xs s []) else .stuck).bnd fun d s => Res.val ((d, ()), s)).bnd fun t s => Res.val (t.1, s))) ()) fun d s => Out.ret (d, s))
theorem sc_greatest : FnScope ["one", "other", "pair"] ["one", "other"] (defScope s_greatest) := ⟨rfl, rfl, rfl, by decide +kernel, rfl, by decide +kernel, by decide +kernel⟩
theorem ok_greatest (T : Tops K mg) : FnOk P w K mg base (L2.CX P w) 1 T.f_greatest T.d_greatest ["one", "other"] (spec (fun a : Unit => (Tys.cons (tOpt (tTuL tInt)) (Tys.cons (tTuL tInt) Tys.nil))) (fun _ _ => []) (fun a : Unit => rtV (tTuL tInt) (fun _ => [])) (fun _ => (xt T)) m_greatest) := by
  refine fn_ok T.F_greatest sc_greatest (k := 0) (body := fun X a pt st hm cx cc => ⟨Empty, (fun z => nomatch z), (fun z => nomatch z), _, rfl, ?_⟩)
  obtain ⟨rfl, rfl, rfl, rfl, rfl, hr, hst, hfr⟩ := hm
  refine sf_if (γ := Unit) (L := (fun _ : Unit => [])) (s := ()) (gj := (fun n1 : Unit => [.dat (tOpt (tTuL tInt)) pt.1, .dat (tTuL tInt) pt.2.1, .unk])) (lj := (fun n1 : Unit => [])) (tf_pure (tp_isN (ep_var cx 0))) (fun _ => ?_) (fun _ => ?_) (fun n1 => ?_)
  · exact sf_retP (γ := Unit) (L := (fun _ : Unit => [])) (Lr := (fun _ : Unit => [])) (s := ()) (ep_var cx 1) .refl
  · exact sf_nil (.s (.s (.u (.nil)))) rfl .refl
  · exact sf_ret (γ := Unit) (L := (fun _ : Unit => [])) (Lr := (fun _ : Unit => [])) (s := ()) (ef_callTyT cx call_tuple_of dn_tupL (fun _ => trivial) T.z_tuple (by decide +kernel) (af_consF (ef_frz (en_lc cx cc (lc_mk (ownl := [("pair", 2)]) cx rfl (if_zipN cx T.z_zip (af_consF (ef_unopt (ef_pure (ep_var cx 0))) (fun d s => (ap_cons (ep_var cx 1) ap_nil)))) (by decide +kernel) (gfb_name (B := (tTup (Tys.cons tInt (Tys.cons tInt Tys.nil)))) cx 2) (fun s0 H0 C0 cl fp Cb d2 s => tsf_nil) (fun s0 H0 C0 cl fp Cb d2 s => (ef_nox (xt := (xt T)) (ef_callBP Cb (cr_maxU (calm_blk cc).calm (hu_of hr)) dn_maxU T.z_max (by decide +kernel) (ap_cons (ep_tupTu2 (ep_var Cb 2)) ap_nil))))))) (fun d s => ap_nil))) (fun s => .refl)
def m_wood_of (pt : ((List (Tx × (List Int) × Unit)) × Unit)) (st : Unit) : Res Exc ((List ((List (Tx × Int × Unit)) × (Option (List Int)) × Unit)) × Unit) := Out.fn (ν := Empty) (Out.bnd ((fun (s : Unit) => ((Res.val ((none : (Option (List Int))), s)).bnd fun d s => Res.val ([(([] : Tx), d)], s))) ()) fun names _ => Out.bnd ((fun (s : Unit) => (Res.val (pt.1, s))) ()) fun xs _ => (Out.forL xs (names : (List (Tx × (Option (List Int))))) fun (n2 : (List (Tx × (Option (List Int))))) d3 => Out.bnd ((fun (s : Unit) => ((((Res.grd (List.length d3.1 ≤ sizeLine) ((List.length d3.1 : Int), s)).bnd fun d s => Res.val ((d, ()), s)).bnd fun t s => Res.val (((1 : Int), t), s)).bnd fun t s => Res.grd (rngOk t.1 t.2.1) (rng t.1 t.2.1, s))) ()) fun xs _ => (Out.forL xs (n2 : (List (Tx × (Option (List Int))))) fun (n4 : (List (Tx × (Option (List Int))))) d5 => if (List.length d3.1 ≤ sizeLine) then (if (List.length n4) < sizeLine then (Out.lt (dSetd n4 (cut d3.1 none (some d5)) (none : (Option (List Int)))) fun names7 => Out.nx names7) else .stuck) else Out.stuck).seq fun (n4 : (List (Tx × (Option (List Int))))) => Out.bnd ((fun (s : Unit) => (((m_greatest (((dGet n4 d3.1).getD none), (d3.2.1, ())) ()).up s).bnd fun x s => Res.val (some x, s))) ()) fun v8 _ => if (List.length n4) < sizeLine then (Out.lt (dPut n4 d3.1 v8) fun names8 => Out.nx names8) else .stuck).seq fun (n2 : (List (Tx × (Option (List Int))))) => Out.bnd ((fun (s : Unit) => (Res.val (sortK dTx (List.map (fun y => y.1) n2), s))) ()) fun rising _ => Out.lt ([] : (List (Tx × (List (Tx × Int × Unit))))) fun ways9 => Out.bnd ((fun (s : Unit) => (Res.val (rising, s))) ()) fun xs _ => (Out.forL xs (ways9 : (List (Tx × (List (Tx × Int × Unit))))) fun (n10 : (List (Tx × (List (Tx × Int × Unit))))) d11 => Out.bnd ((fun (s : Unit) => (Res.val (([] : (List (Tx × Int × Unit))), s))) ()) fun v12 _ => if (List.length n10) < sizeLine ∧ (dGet n10 d11).isNone = true then (Out.lt (dPut n10 d11 v12) fun ways12 => Out.nx ways12) else .stuck).seq fun (n10 : (List (Tx × (List (Tx × Int × Unit))))) => Out.bnd ((fun (s : Unit) => ((Res.val (rising, s)).bnd fun t s => Res.val (enumL t, s))) ()) fun xs _ => (Out.forL xs (n10 : (List (Tx × (List (Tx × Int × Unit))))) fun (n13 : (List (Tx × (List (Tx × Int × Unit))))) d14 => Out.bnd ((fun (s : Unit) => (Res.val ((!decide (d14.2.1 = ([] : Tx))), s))) ()) fun b _ => (if b = true then if (List.length d14.2.1 ≤ sizeLine) then (if (dGet n13 (cut d14.2.1 none (some (-(1 : Int))))).isSome = true then (Out.bnd ((fun (s : Unit) => ((Res.grd (List.length d14.2.1 ≤ sizeLine ∧ (atI d14.2.1 (-(1 : Int))).isSome) ([(atI d14.2.1 (-(1 : Int))).getD 0], s)).bnd fun d s => Res.val ((d, (d14.1, ())), s))) ()) fun v17 _ => if (List.length ((dGet n13 (cut d14.2.1 none (some (-(1 : Int))))).getD default)) < sizeLine then (Out.lt (dPut n13 (cut d14.2.1 none (some (-(1 : Int)))) (((dGet n13 (cut d14.2.1 none (some (-(1 : Int))))).getD default) ++ [v17])) fun ways17 => Out.nx ways17) else .stuck) else .stuck) else Out.stuck else Out.nx n13).seq fun (n15 : (List (Tx × (List (Tx × Int × Unit))))) => Out.nx n15).seq fun (n13 : (List (Tx × (List (Tx × Int × Unit))))) => Out.bnd ((fun (s : Unit) => ((Res.val (rising, s)).bnd fun xs s => if xs.length ≤ sizeLine then Res.nox (ε := Empty) (ε' := Exc) (Res.compL (ε := Empty) (fun (d18 : Tx) s => Res.val (true, s)) (fun (d18 : Tx) s => Res.nox (ε := Exc) (ε' := Empty) ((Res.grd (((dGet n13 d18).isSome = true)) (((dGet n13 d18).getD default), s)).bnd fun d s => ((Res.grd (((dGet n2 d18).isSome = true)) (((dGet n2 d18).getD default), s)).bnd fun d s => Res.val ((d, ()), s)).bnd fun t s => Res.val ((d, t), s))) xs s []) else .stuck)) ()) fun d s => Out.ret (d, s))
theorem sc_wood_of : FnScope ["patterns", "names", "rising", "ways", "name", "signs", "numbers", "size", "number"] ["patterns"] (defScope s_wood_of) := ⟨rfl, rfl, rfl, by decide +kernel, rfl, by decide +kernel, by decide +kernel⟩
theorem ok_wood_of (T : Tops K mg) : FnOk P w K mg base (L2.CX P w) 2 T.f_wood_of T.d_wood_of ["patterns"] (spec (fun a : Unit => (Tys.cons (tLst (tTup (Tys.cons tTx (Tys.cons (tTuL tInt) Tys.nil)))) Tys.nil)) (fun _ _ => []) (fun a : Unit => rtV (tLst (tTup (Tys.cons (tTuF (tTup (Tys.cons tTx (Tys.cons tInt Tys.nil)))) (Tys.cons (tOpt (tTuL tInt)) Tys.nil)))) (fun _ => [])) (fun _ => (xt T)) m_wood_of) := by
  refine fn_ok T.F_wood_of sc_wood_of (k := 1) (body := fun X a pt st hm cx cc => ⟨Empty, (fun z => nomatch z), (fun z => nomatch z), _, rfl, ?_⟩)
  obtain ⟨rfl, rfl, rfl, rfl, rfl, hr, hst, hfr⟩ := hm
  refine sf_asgN (γ := Unit) (L := (fun _ : Unit => [])) (s := ()) cx 1 (en_dictK1 (K := ktTx) (A := (tOpt (tTuL tInt))) (ep_str (t := []) (by decide +kernel)) (ef_pure (ep_noneO (A := (tTuL tInt)))) (xtr T)) (fun q1 names _ => ?_)
  refine sf_for (γ := Unit) (L := (fun _ : Unit => [cell q1 (cDic ktTx (tOpt (tTuL tInt)) names)])) (s := ()) (gj := (fun n2 : (List (Tx × (Option (List Int)))) => [.dat (tLst (tTup (Tys.cons tTx (Tys.cons (tTuL tInt) Tys.nil)))) pt.1, .dat (tCell q1) (), .unk, .unk, .unk, .unk, .unk, .unk, .unk])) (lj := (fun n2 : (List (Tx × (Option (List Int)))) => [cell q1 (cDic ktTx (tOpt (tTuL tInt)) n2)])) (n0 := fun _ => names) cc (if_list (ef_pure (ep_var cx 0))) (gf_tup cc (gfs_cons (gf_name (B := tTx) cx 5) (gfs_cons (gf_name (B := (tTuL tInt)) cx 6) gfs_nil))) (fun _ => ⟨(.s (.s (.u (.u (.u (.u (.u (.u (.u (.nil)))))))))), rfl, .refl⟩) (fun n2 d3 => ?_) (fun n2 => ?_)
  · refine sf_for (γ := Unit) (L := (fun _ : Unit => [cell q1 (cDic ktTx (tOpt (tTuL tInt)) n2)])) (s := ()) (gj := (fun n4 : (List (Tx × (Option (List Int)))) => [.dat (tLst (tTup (Tys.cons tTx (Tys.cons (tTuL tInt) Tys.nil)))) pt.1, .dat (tCell q1) (), .unk, .unk, .unk, .dat tTx d3.1, .dat (tTuL tInt) d3.2.1, .unk, .unk])) (lj := (fun n4 : (List (Tx × (Option (List Int)))) => [cell q1 (cDic ktTx (tOpt (tTuL tInt)) n4)])) (n0 := fun _ => n2) cc (if_range2 cx (T.z_range) (af_consP ep_int (af_consF (ef_callBP cx call_len_str dn_lenT T.z_len (by decide +kernel) (ap_cons (ep_var cx 5) ap_nil)) (fun d s => ap_nil)))) (gf_name (B := tInt) cx 7) (fun _ => ⟨(.s (.s (.u (.u (.u (.s (.s (.u (.u (.nil)))))))))), rfl, .refl⟩) (fun n4 d5 => ?_) (fun n4 => ?_)
    · refine sf_grdS (fun hG6 => ?_)
      refine sf_setd (kv := n4) (R := []) (ep_var cx 1) (ep_slice sl_str ds_tx (ep_var cx 5) op_none (op_some (ep_var cx 7)) (by exact hG6)) (ep_noneO (A := (tTuL tInt))) (.refl _) (fun names7 => ?_) ⟨rfl, rfl, rfl, (congrArg (backTo _) (star_2 rfl rfl)).trans rfl⟩
      exact sf_nil (.s (.s (.u (.u (.u (.s (.s (.u (.u (.nil)))))))))) rfl .refl
    · refine sf_dput (γ := Unit) (L := (fun _ : Unit => [cell q1 (cDic ktTx (tOpt (tTuL tInt)) n4)])) (s := ()) (key := fun _ => d3.1) (kv := fun _ => n4) (R := fun _ => []) (hu_of hr) (ef_some nn_tuL (ef_call0P cx (ok_greatest T) (hr.mono (by decide)) (T.g_greatest) (T.F_greatest).kp T.b_greatest passWX (ap_cons (Fw.ep_dget1o (K := ktTx) (hu_of hr) (edic_own (ep_var cx 1) (.hd)) (ep_var cx 5) ⟨rfl, rfl, rfl, (congrArg (backTo _) (star_c rfl)).trans rfl⟩) (ap_cons (ep_var cx 6) ap_nil)) (xtr T))) (fun s => .refl _) (fun _ => (ep_var cx 1)) (fun _ => (ep_var cx 5)) (fun v8 _ => ?_)
      refine sf_lt (fun names8 => SF X _ _ (cell q1 (cDic ktTx (tOpt (tTuL tInt)) names8) :: []) _ _ _ _ _) _ (fun names8 => ?_)
      exact sf_nil (.s (.s (.u (.u (.u (.u (.u (.u (.u (.nil)))))))))) rfl .refl
  · refine sf_freezeD (K := ktTx) (A := (tOpt (tTuL tInt))) (kvs := n2) (R := []) (i := 1) (by rfl) (.refl _) ?_
    refine sf_asg (γ := Unit) (L := (fun _ : Unit => [])) (s := ()) cx 2 (ef_frz (en_sortedF (K := ktTx) (A := (tOpt (tTuL tInt))) cx cc.calm nk_tx srk_tx coe_tx (hu10 hr) T.z_sorted (edic_imm (ep_var cx 1)))) (fun rising _ => ?_)
    refine sf_asgDL (K := ktTx) (A := (tTup (Tys.cons tTx (Tys.cons tInt Tys.nil)))) cx 3 (fun q9 => ?_)
    refine sf_lt (fun ways9 => SF X _ _ (rDL ktTx (tTup (Tys.cons tTx (Tys.cons tInt Tys.nil))) q9 ways9 :: []) _ _ _ _ _) _ (fun ways9 => ?_)
    refine sf_for (γ := Unit) (L := (fun _ : Unit => [rDL ktTx (tTup (Tys.cons tTx (Tys.cons tInt Tys.nil))) q9 ways9])) (s := ()) (gj := (fun n10 : (List (Tx × (List (Tx × Int × Unit)))) => [.dat (tLst (tTup (Tys.cons tTx (Tys.cons (tTuL tInt) Tys.nil)))) pt.1, .dat (tDic ktTx (tOpt (tTuL tInt))) n2, .dat (tLst tTx) rising, .dat (tCell q9) (), .unk, .unk, .unk, .unk, .unk])) (lj := (fun n10 : (List (Tx × (List (Tx × Int × Unit)))) => [rDL ktTx (tTup (Tys.cons tTx (Tys.cons tInt Tys.nil))) q9 n10])) (n0 := fun _ => ways9) cc (if_list (ef_pure (ep_var cx 2))) (gf_name (B := tTx) cx 4) (fun _ => ⟨(.s (.s (.s (.s (.u (.u (.u (.u (.u (.nil)))))))))), rfl, .refl⟩) (fun n10 d11 => ?_) (fun n10 => ?_)
    · refine sf_dlPut (kv := n10) (key := d11) (R := []) (hu_of hr) (en_nil (A := (tTup (Tys.cons tTx (Tys.cons tInt Tys.nil))))) (.refl _) (fun _ => (ep_var cx 3)) (fun _ => (ep_var cx 4)) (fun v12 => ?_)
      refine sf_lt (fun ways12 => SF X _ _ (rDL ktTx (tTup (Tys.cons tTx (Tys.cons tInt Tys.nil))) q9 ways12 :: []) _ _ _ _ _) _ (fun ways12 => ?_)
      exact sf_nil (.s (.s (.s (.s (.u (.u (.u (.u (.u (.nil)))))))))) rfl .refl
    · refine sf_for (γ := Unit) (L := (fun _ : Unit => [rDL ktTx (tTup (Tys.cons tTx (Tys.cons tInt Tys.nil))) q9 n10])) (s := ()) (gj := (fun n13 : (List (Tx × (List (Tx × Int × Unit)))) => [.dat (tLst (tTup (Tys.cons tTx (Tys.cons (tTuL tInt) Tys.nil)))) pt.1, .dat (tDic ktTx (tOpt (tTuL tInt))) n2, .dat (tLst tTx) rising, .dat (tCell q9) (), .unk, .unk, .unk, .unk, .unk])) (lj := (fun n13 : (List (Tx × (List (Tx × Int × Unit)))) => [rDL ktTx (tTup (Tys.cons tTx (Tys.cons tInt Tys.nil))) q9 n13])) (n0 := fun _ => n10) cc (if_enumL cx (T.z_enumerate) (ef_pure (ep_var cx 2))) (gf_tup cc (gfs_cons (gf_name (B := tInt) cx 8) (gfs_cons (gf_name (B := tTx) cx 4) gfs_nil))) (fun _ => ⟨(.s (.s (.s (.s (.u (.u (.u (.u (.u (.nil)))))))))), rfl, .refl⟩) (fun n13 d14 => ?_) (fun n13 => ?_)
      · refine sf_if (γ := Unit) (L := (fun _ : Unit => [rDL ktTx (tTup (Tys.cons tTx (Tys.cons tInt Tys.nil))) q9 n13])) (s := ()) (gj := (fun n15 : (List (Tx × (List (Tx × Int × Unit)))) => [.dat (tLst (tTup (Tys.cons tTx (Tys.cons (tTuL tInt) Tys.nil)))) pt.1, .dat (tDic ktTx (tOpt (tTuL tInt))) n2, .dat (tLst tTx) rising, .dat (tCell q9) (), .dat tTx d14.2.1, .unk, .unk, .unk, .dat tInt d14.1])) (lj := (fun n15 : (List (Tx × (List (Tx × Int × Unit)))) => [rDL ktTx (tTup (Tys.cons tTx (Tys.cons tInt Tys.nil))) q9 n15])) (tf_pure (tp_cmp op_ne d_neT (ep_var cx 4) (ep_str (t := []) (by decide +kernel)) trivial)) (fun _ => ?_) (fun _ => ?_) (fun n15 => ?_)
        · refine sf_grdS (fun hG16 => ?_)
          refine sf_dlApp (kv := n13) (key := (cut d14.2.1 none (some (-(1 : Int))))) (R := []) (hu_of hr) (fun _ => (ef_tup (af_consF (ef_grd fun h => ep_ix ix_str d_ixS (ep_var cx 4) (ep_un un_neg d_neg ep_int trivial) h) (fun d s => (ap_cons (ep_var cx 8) ap_nil))))) (.refl _) (fun _ => (ep_var cx 3)) (fun _ => (ep_slice sl_str ds_tx (ep_var cx 4) op_none (op_some (ep_un un_neg d_neg ep_int trivial)) (by exact hG16))) (fun v17 => ?_)
          refine sf_lt (fun ways17 => SF X _ _ (rDL ktTx (tTup (Tys.cons tTx (Tys.cons tInt Tys.nil))) q9 ways17 :: []) _ _ _ _ _) _ (fun ways17 => ?_)
          exact sf_nil (.s (.s (.s (.s (.s (.u (.u (.u (.s (.nil)))))))))) rfl .refl
        · exact sf_nil (.s (.s (.s (.s (.s (.u (.u (.u (.s (.nil)))))))))) rfl .refl
        · exact sf_nil (.s (.s (.s (.s (.u (.u (.u (.u (.u (.nil)))))))))) rfl .refl
      · refine sf_freezeDL (K := ktTx) (A := (tTup (Tys.cons tTx (Tys.cons tInt Tys.nil)))) (kv := n13) (R := []) (i := 3) (by rfl) (.refl _) ?_
        exact sf_ret (γ := Unit) (L := (fun _ : Unit => [])) (Lr := (fun _ : Unit => [])) (s := ()) (ef_frz (en_lc cx cc (lc_mk (ownl := [("name", 4)]) cx rfl (if_list (ef_pure (ep_var cx 2))) (by decide +kernel) (gfb_name (B := tTx) cx 4) (fun s0 H0 C0 cl fp Cb d18 s => tsf_nil) (fun s0 H0 C0 cl fp Cb d18 s => (ef_nox (xt := (xt T)) (ef_tup (af_cons (ef_tupleF Cb T.z_tuple (ef_grd fun h => (ep_dget (K := ktTx) (hu_of hr) (edic_imm (ep_var Cb 3)) (ep_var Cb 4) h))) (fun d s => (af_consF (ef_grd fun h => (ep_dget (K := ktTx) (hu_of hr) (edic_imm (ep_var Cb 1)) (ep_var Cb 4) h)) (fun d s => ap_nil)))))))))) (fun s => .refl)
def m_l_feed (pt : ((List Int) × Int × Unit)) (st : Unit) : Res Exc ((List Int) × Unit) := Out.fn (ν := Empty) (Out.lt (0 : Int) fun l_cell => Out.bnd ((fun (s : Unit) => (Res.val ((decide ((0 : Int) < (List.length pt.1 : Int))), s))) ()) fun b _ => (if b = true then Out.bnd ((fun (s : Unit) => ((Res.grd ((List.length pt.1 : Int) ≠ 0) ((Int.fmod pt.2.1 (List.length pt.1 : Int)), s)).bnd fun y s => Res.grd (atI pt.1 y).isSome (((atI pt.1 y).getD default), s))) ()) fun l_cell _ => Out.nx l_cell else Out.nx l_cell).seq fun (n1 : Int) => Out.lt (if n1 < 0 then -n1 else n1) fun l_left => Out.bnd ((fun (s : Unit) => (Res.val ((decide (l_left < ((10 : Int) ^ ((18 : Int)).toNat))), s))) ()) fun b _ => (if b = true then Out.lt (0 : Int) fun l_left => Out.nx l_left else Out.nx l_left).seq fun (n2 : Int) => Out.bnd ((fun (s : Unit) => (Res.val ((n2 :: ((Int.fmod ((n1 + ((7919 : Int) * pt.2.1)) + (13 : Int)) (2147483399 : Int)) :: ((0 : Int) :: []))), s))) ()) fun d s => Out.ret (d, s))
theorem sc_l_feed : FnScope ["_law_script", "_law_k", "_law_cell", "_law_left"] ["_law_script", "_law_k"] (defScope s_l_feed) := ⟨rfl, rfl, rfl, by decide +kernel, rfl, by decide +kernel, by decide +kernel⟩
theorem ok_l_feed (T : Tops K mg) : FnOk P w K mg base (L2.CX P w) 1 T.f_l_feed T.d_l_feed ["_law_script", "_law_k"] (spec (fun a : Unit => (Tys.cons (tSeq K tInt) (Tys.cons tInt Tys.nil))) (fun _ _ => []) (fun a : Unit => rtN (cLst tInt) (fun _ => [])) (fun _ => (xt T)) m_l_feed) := by
  refine fn_ok T.F_l_feed sc_l_feed (k := 0) (body := fun X a pt st hm cx cc => ⟨Empty, (fun z => nomatch z), (fun z => nomatch z), _, rfl, ?_⟩)
  obtain ⟨rfl, rfl, rfl, rfl, rfl, hr, hst, hfr⟩ := hm
  refine sf_asgP cx 2 ep_int (fun l_cell => ?_)
  refine sf_if (γ := Unit) (L := (fun _ : Unit => [])) (s := ()) (gj := (fun n1 : Int => [.dat (tSeq X.K tInt) pt.1, .dat tInt pt.2.1, .dat tInt n1, .unk])) (lj := (fun n1 : Int => [])) (tf_pure (tp_cmp op_gt d_gt (ep_callB cx call_len_seq dn_lenQ T.z_len (by decide +kernel) (ap_cons (ep_var cx 0) ap_nil) trivial) ep_int trivial)) (fun _ => ?_) (fun _ => ?_) (fun n1 => ?_)
  · refine sf_asg (γ := Unit) (L := (fun _ : Unit => [])) (s := ()) cx 2 (ef_ixPFG ix_list (d_ixQ (A := tInt)) (ep_var cx 0) (ef_grd fun h => ep_op op_modN d_mod (ep_var cx 1) (ep_callB cx call_len_seq dn_lenQ T.z_len (by decide +kernel) (ap_cons (ep_var cx 0) ap_nil) trivial) h)) (fun l_cell _ => ?_)
    exact sf_nil (.s (.s (.s (.u (.nil))))) rfl .refl
  · exact sf_nil (.s (.s (.s (.u (.nil))))) rfl .refl
  · refine sf_asgP cx 3 (ep_callB cx call_abs dn_abs T.z_abs (by decide +kernel) (ap_cons (ep_var cx 2) ap_nil) trivial) (fun l_left => ?_)
    refine sf_if (γ := Unit) (L := (fun _ : Unit => [])) (s := ()) (gj := (fun n2 : Int => [.dat (tSeq X.K tInt) pt.1, .dat tInt pt.2.1, .dat tInt n1, .dat tInt n2])) (lj := (fun n2 : Int => [])) (tf_pure (tp_cmp op_lt d_lt (ep_var cx 3) (ep_op op_pow d_pow ep_int ep_int (by decide)) trivial)) (fun _ => ?_) (fun _ => ?_) (fun n2 => ?_)
    · refine sf_asgP cx 3 ep_int (fun l_left => ?_)
      exact sf_nil (.s (.s (.s (.s (.nil))))) rfl .refl
    · exact sf_nil (.s (.s (.s (.s (.nil))))) rfl .refl
    · exact sf_retN (γ := Unit) (L := (fun _ : Unit => [])) (Lr := (fun _ : Unit => [])) (s := ()) (en_lstP (apl_cons (ep_var cx 3) (apl_cons (ep_op op_modN d_mod (ep_op op_add d_add (ep_op op_add d_add (ep_var cx 2) (ep_op op_mul d_mul ep_int (ep_var cx 1) (.inl (by decide))) trivial) ep_int trivial) ep_int (by decide)) (apl_cons ep_int apl_nil))) (by simp)) (fun s => .refl)
def m_l_next (pt : (Unit × Int × Unit)) (st : (List Int)) : Res Exc (Int × (List Int)) := Out.fn (ν := Empty) (Out.bnd ((fun (s : Unit) => ((Res.grd (atI st (0 : Int)).isSome ((atI st (0 : Int)).getD default, s)).bnd fun x s => Res.val ((decide ((0 : Int) < x)), s))) ()) fun b _ => (if b = true then Out.bnd ((fun (s : Unit) => ((Res.grd (atI st (0 : Int)).isSome ((atI st (0 : Int)).getD default, s)).bnd fun x s => Res.grd (pt.2.1 ≠ 0) ((Int.fmod x pt.2.1), s))) ()) fun l_digit _ => Out.bnd ((fun (s : Unit) => ((Res.grd (atI st (0 : Int)).isSome ((atI st (0 : Int)).getD default, s)).bnd fun x s => Res.grd (CDivN x pt.2.1) ((Int.fdiv x pt.2.1), s))) ()) fun v2 _ => if (ixN (List.length st) (0 : Int)).isSome then (Out.lt (List.set st ((ixN (List.length st) (0 : Int)).getD 0) v2) fun l_feed_here2 => Out.ret (((fun (s : (List Int)) => l_digit) l_feed_here2), l_feed_here2)) else .stuck else Out.nx ()).seq fun (n1 : Unit) => Out.bnd ((fun (s : Unit) => ((Res.grd (atI st (2 : Int)).isSome ((atI st (2 : Int)).getD default, s)).bnd fun x s => Res.val ((x + (1 : Int)), s))) ()) fun v3 _ => if (ixN (List.length st) (2 : Int)).isSome then (Out.lt (List.set st ((ixN (List.length st) (2 : Int)).getD 0) v3) fun l_feed_here3 => Out.bnd ((fun (s : Unit) => ((((((Res.grd (atI l_feed_here3 (1 : Int)).isSome ((atI l_feed_here3 (1 : Int)).getD default, s)).bnd fun x s => ((Res.grd (atI l_feed_here3 (2 : Int)).isSome ((atI l_feed_here3 (2 : Int)).getD default, s)).bnd fun y s => Res.val (((40692 : Int) * y), s)).bnd fun y s => Res.val ((x + y), s)).bnd fun x s => Res.val ((x + (1 : Int)), s)).bnd fun x s => Res.val ((Int.fmod x (2147483399 : Int)), s)).bnd fun x s => Res.val ((x * (16807 : Int)), s)).bnd fun x s => Res.val ((Int.fmod x (2147483647 : Int)), s))) ()) fun l_mixed _ => Out.bnd ((fun (s : Unit) => ((((((Res.grd (atI l_feed_here3 (2 : Int)).isSome ((atI l_feed_here3 (2 : Int)).getD default, s)).bnd fun x s => (Res.grd (atI l_feed_here3 (2 : Int)).isSome ((atI l_feed_here3 (2 : Int)).getD default, s)).bnd fun y s => Res.grd (CMul x y) ((x * y), s)).bnd fun y s => Res.val (((l_mixed * (69621 : Int)) + y), s)).bnd fun x s => Res.val ((Int.fmod x (2147483629 : Int)), s)).bnd fun x s => Res.val ((x * (39373 : Int)), s)).bnd fun x s => Res.val ((Int.fmod x (2147483543 : Int)), s))) ()) fun l_mixed _ => Out.bnd ((fun (s : (List Int)) => (Res.grd (pt.2.1 ≠ 0) ((Int.fmod (Int.fdiv l_mixed (7 : Int)) pt.2.1), s))) l_feed_here3) fun d s => Out.ret (d, s)) else .stuck)
theorem sc_l_next : FnScope ["_law_feed_here", "_law_many", "_law_mixed", "_law_digit"] ["_law_feed_here", "_law_many"] (defScope s_l_next) := ⟨rfl, rfl, rfl, by decide +kernel, rfl, by decide +kernel, by decide +kernel⟩
theorem ok_l_next (T : Tops K mg) : FnOk P w K mg base (L2.CX P w) 1 T.f_l_next T.d_l_next ["_law_feed_here", "_law_many"] (spec (fun a : Addr => (Tys.cons (tCell a) (Tys.cons tInt Tys.nil))) (fun (a : Addr) (s : (List Int)) => [cell a (cLst tInt s)]) (fun a : Addr => rtV tInt (fun s : (List Int) => [cell a (cLst tInt s)])) (fun _ => (xt T)) m_l_next) := by
  refine fn_ok T.F_l_next sc_l_next (k := 0) (body := fun X a pt st hm cx cc => ⟨Empty, (fun z => nomatch z), (fun z => nomatch z), _, rfl, ?_⟩)
  obtain ⟨rfl, rfl, rfl, rfl, rfl, hr, hst, hfr⟩ := hm
  refine sf_if (γ := Unit) (L := (fun _ : Unit => [cell a (cLst tInt st)])) (s := ()) (gj := (fun n1 : Unit => [.dat (tCell a) (), .dat tInt pt.2.1, .unk, .unk])) (lj := (fun n1 : Unit => [cell a (cLst tInt st)])) (tf_cmpFPT op_gt d_gt (ef_ixO (ep_var cx 0) (.hd) ep_int) (fun x s => ep_int)) (fun _ => ?_) (fun _ => ?_) (fun n1 => ?_)
  · refine sf_asg (γ := Unit) (L := (fun _ : Unit => [cell a (cLst tInt st)])) (s := ()) cx 3 (ef_opFPG op_modN d_mod (ef_ixO (ep_var cx 0) (.hd) ep_int) (fun x s => (ep_var cx 1))) (fun l_digit _ => ?_)
    refine sf_setO (γ := Unit) (L := (fun _ : Unit => [cell a (cLst tInt st)])) (s := ()) (xs := fun _ => st) (R := fun _ => []) (i := fun _ => (0 : Int)) (ef_opFPG op_fdivN d_div (ef_ixO (ep_var cx 0) (.hd) ep_int) (fun x s => (ep_var cx 1))) (fun s => .refl _) (fun _ => (ep_var cx 0)) (fun _ => ep_int) (fun v2 _ => ?_)
    refine sf_lt (fun l_feed_here2 => SF X _ _ (cell a (cLst tInt l_feed_here2) :: []) _ _ _ _ _) _ (fun l_feed_here2 => ?_)
    exact sf_retP (γ := (List Int)) (L := (fun s : (List Int) => [cell a (cLst tInt s)])) (Lr := (fun s : (List Int) => [cell a (cLst tInt s)])) (s := l_feed_here2) (ep_var cx 3) .refl
  · exact sf_nil (.s (.s (.u (.u (.nil))))) rfl .refl
  · refine sf_setO (γ := Unit) (L := (fun _ : Unit => [cell a (cLst tInt st)])) (s := ()) (xs := fun _ => st) (R := fun _ => []) (i := fun _ => (2 : Int)) (ef_opFPT op_add d_add (ef_ixO (ep_var cx 0) (.hd) ep_int) (fun x s => ep_int)) (fun s => .refl _) (fun _ => (ep_var cx 0)) (fun _ => ep_int) (fun v3 _ => ?_)
    refine sf_lt (fun l_feed_here3 => SF X _ _ (cell a (cLst tInt l_feed_here3) :: []) _ _ _ _ _) _ (fun l_feed_here3 => ?_)
    refine sf_asg (γ := Unit) (L := (fun _ : Unit => [cell a (cLst tInt l_feed_here3)])) (s := ()) cx 2 (ef_opFPT op_modN d_mod (ef_opFPT op_mul d_mul (ef_opFPT op_modN d_mod (ef_opFPT op_add d_add (ef_opFFT op_add d_add (ef_ixO (ep_var cx 0) (.hd) ep_int) (fun x s => (ef_opPFT op_mul d_mul ep_int (ef_ixO (ep_var cx 0) (.hd) ep_int) (fun _ => (.inl (by decide)))))) (fun x s => ep_int)) (fun x s => ep_int) (fun _ _ => (by decide))) (fun x s => ep_int) (fun _ _ => (.inr (by decide)))) (fun x s => ep_int) (fun _ _ => (by decide))) (fun l_mixed _ => ?_)
    refine sf_asg (γ := Unit) (L := (fun _ : Unit => [cell a (cLst tInt l_feed_here3)])) (s := ()) cx 2 (ef_opFPT op_modN d_mod (ef_opFPT op_mul d_mul (ef_opFPT op_modN d_mod (ef_opPFT op_add d_add (ep_op op_mul d_mul (ep_var cx 2) ep_int (.inr (by decide))) (ef_op op_mul d_mul (ef_ixO (ep_var cx 0) (.hd) ep_int) (fun x s => (ef_ixO (ep_var cx 0) (.hd) ep_int)))) (fun x s => ep_int) (fun _ _ => (by decide))) (fun x s => ep_int) (fun _ _ => (.inr (by decide)))) (fun x s => ep_int) (fun _ _ => (by decide))) (fun l_mixed _ => ?_)
    exact sf_ret (γ := (List Int)) (L := (fun s : (List Int) => [cell a (cLst tInt s)])) (Lr := (fun s : (List Int) => [cell a (cLst tInt s)])) (s := l_feed_here3) (ef_grd fun h => ep_op op_modN d_mod (ep_op op_fdivN d_div (ep_var cx 2) ep_int ⟨by decide, by decide⟩) (ep_var cx 1) h) (fun s => .refl)
def m_l_letters (pt : (Unit × Unit)) (st : (List Int)) : Res Exc (Tx × (List Int)) := Out.fn (ν := Empty) (Out.lt [97, 98, 99, 100, 101, 102, 103, 104, 105, 106, 107, 108, 109, 110, 111, 112, 113, 114, 115, 116, 117, 118, 119, 120, 121, 122] fun l_every => Out.bnd ((fun (s : (List Int)) => ((m_l_next ((), ((8 : Int), ())) s).bnd fun x s => Res.val ((decide (x = (1 : Int))), s))) st) fun b st => (if b = true then Out.ret (((fun (s : (List Int)) => l_every) st), st) else Out.nx st).seq fun (n1 : (List Int)) => Out.bnd ((fun (s : (List Int)) => (m_l_next ((), ((23 : Int), ())) s)) n1) fun l_at st => Out.bnd ((fun (s : (List Int)) => ((Res.val (l_every, s)).bnd fun d s => (Res.val (some l_at, s)).bnd fun o s => (((m_l_next ((), ((3 : Int), ())) s).bnd fun y s => Res.val (((l_at + (2 : Int)) + y), s)).bnd fun i s => Res.val (some i, s)).bnd fun u s => Res.grd (List.length d ≤ sizeLine) (cut d o u, s))) st) fun d s => Out.ret (d, s))
theorem sc_l_letters : FnScope ["_law_feed_here", "_law_every", "_law_at"] ["_law_feed_here"] (defScope s_l_letters) := ⟨rfl, rfl, rfl, by decide +kernel, rfl, by decide +kernel, by decide +kernel⟩
theorem ok_l_letters (T : Tops K mg) : FnOk P w K mg base (L2.CX P w) 2 T.f_l_letters T.d_l_letters ["_law_feed_here"] (spec (fun a : Addr => (Tys.cons (tCell a) Tys.nil)) (fun (a : Addr) (s : (List Int)) => [cell a (cLst tInt s)]) (fun a : Addr => rtV tTx (fun s : (List Int) => [cell a (cLst tInt s)])) (fun _ => (xt T)) m_l_letters) := by
  refine fn_ok T.F_l_letters sc_l_letters (k := 1) (body := fun X a pt st hm cx cc => ⟨Empty, (fun z => nomatch z), (fun z => nomatch z), _, rfl, ?_⟩)
  obtain ⟨rfl, rfl, rfl, rfl, rfl, hr, hst, hfr⟩ := hm
  refine sf_asgP cx 1 (ep_str (t := [97, 98, 99, 100, 101, 102, 103, 104, 105, 106, 107, 108, 109, 110, 111, 112, 113, 114, 115, 116, 117, 118, 119, 120, 121, 122]) (by decide +kernel)) (fun l_every => ?_)
  refine sf_if (γ := (List Int)) (L := (fun s : (List Int) => [cell a (cLst tInt s)])) (s := st) (gj := (fun n1 : (List Int) => [.dat (tCell a) (), .dat tTx l_every, .unk])) (lj := (fun n1 : (List Int) => [cell a (cLst tInt n1)])) (tf_cmpFPT op_eq d_eqI (ef_callSP a [] cx (ok_l_next T) (hr.mono (by decide)) (T.g_l_next) (T.F_l_next).kp T.b_l_next passWX (ap_cons (ep_var cx 0) (ap_cons ep_int ap_nil)) (fun s => .refl _) (xtr T)) (fun x s => ep_int)) (fun st => ?_) (fun st => ?_) (fun n1 => ?_)
  · exact sf_retP (γ := (List Int)) (L := (fun s : (List Int) => [cell a (cLst tInt s)])) (Lr := (fun s : (List Int) => [cell a (cLst tInt s)])) (s := st) (ep_var cx 1) .refl
  · exact sf_nil (.s (.s (.u (.nil)))) rfl .refl
  · refine sf_asg (γ := (List Int)) (L := (fun s : (List Int) => [cell a (cLst tInt s)])) (s := n1) cx 2 (ef_callSP a [] cx (ok_l_next T) (hr.mono (by decide)) (T.g_l_next) (T.F_l_next).kp T.b_l_next passWX (ap_cons (ep_var cx 0) (ap_cons ep_int ap_nil)) (fun s => .refl _) (xtr T)) (fun l_at st => ?_)
    exact sf_ret (γ := (List Int)) (L := (fun s : (List Int) => [cell a (cLst tInt s)])) (Lr := (fun s : (List Int) => [cell a (cLst tInt s)])) (s := st) (ef_slice sl_str ds_tx (ef_pure (ep_var cx 1)) (fun d s => (of_pure (op_some (ep_var cx 2)))) (fun d o s => (of_some (ef_opPFT op_add d_add (ep_op op_add d_add (ep_var cx 2) ep_int trivial) (ef_callSP a [] cx (ok_l_next T) (hr.mono (by decide)) (T.g_l_next) (T.F_l_next).kp T.b_l_next passWX (ap_cons (ep_var cx 0) (ap_cons ep_int ap_nil)) (fun s => .refl _) (xtr T)))))) (fun s => .refl)
def m_l_word (pt : (Unit × Tx × Int × Unit)) (st : (List Int)) : Res Exc (Tx × (List Int)) := Out.fn (ν := Empty) (Out.bnd ((fun (s : (List Int)) => ((((((m_l_next ((), (pt.2.2.1, ())) s).bnd fun y s => Res.val (((1 : Int) + y), s)).bnd fun d s => Res.val ((d, ()), s)).bnd fun t s => Res.grd (rngOk 0 t.1) (rng 0 t.1, s)).bnd fun xs s => if xs.length ≤ sizeLine then Res.nox (ε := Empty) (ε' := Exc) (Res.compL (ε := Empty) (fun (d1 : Int) s => Res.val (true, s)) (fun (d1 : Int) s => Res.nox (ε := Exc) (ε' := Empty) (((((Res.grd (List.length pt.2.1 ≤ sizeLine) ((List.length pt.2.1 : Int), s)).bnd fun d s => Res.val ((d, ()), s)).bnd fun t s => Res.val (((), t), s)).bnd fun t s => m_l_next t s).bnd fun y s => Res.grd (List.length pt.2.1 ≤ sizeLine ∧ (atI pt.2.1 y).isSome) ([(atI pt.2.1 y).getD 0], s))) xs s []) else .stuck).bnd fun y s => Res.grd (joinOk ([] : Tx) y) (joinT ([] : Tx) y, s))) st) fun d s => Out.ret (d, s))
theorem sc_l_word : FnScope ["_law_feed_here", "_law_letters_here", "_law_most", "_law_k"] ["_law_feed_here", "_law_letters_here", "_law_most"] (defScope s_l_word) := ⟨rfl, rfl, rfl, by decide +kernel, rfl, by decide +kernel, by decide +kernel⟩
theorem ok_l_word (T : Tops K mg) : FnOk P w K mg base (L2.CX P w) 2 T.f_l_word T.d_l_word ["_law_feed_here", "_law_letters_here", "_law_most"] (spec (fun a : Addr => (Tys.cons (tCell a) (Tys.cons tTx (Tys.cons tInt Tys.nil)))) (fun (a : Addr) (s : (List Int)) => [cell a (cLst tInt s)]) (fun a : Addr => rtV tTx (fun s : (List Int) => [cell a (cLst tInt s)])) (fun _ => (xt T)) m_l_word) := by
  refine fn_ok T.F_l_word sc_l_word (k := 1) (body := fun X a pt st hm cx cc => ⟨Empty, (fun z => nomatch z), (fun z => nomatch z), _, rfl, ?_⟩)
  obtain ⟨rfl, rfl, rfl, rfl, rfl, hr, hst, hfr⟩ := hm
  exact sf_ret (γ := (List Int)) (L := (fun s : (List Int) => [cell a (cLst tInt s)])) (Lr := (fun s : (List Int) => [cell a (cLst tInt s)])) (s := st) (ef_join (ep_str (t := []) (by decide +kernel)) (ef_frz (en_lc cx cc (lc_mk (ownl := [("_law_k", 3)]) cx rfl (if_range1 cx (T.z_range) (af_consF (ef_opPFT op_add d_add ep_int (ef_callSP a [] cx (ok_l_next T) (hr.mono (by decide)) (T.g_l_next) (T.F_l_next).kp T.b_l_next passWX (ap_cons (ep_var cx 0) (ap_cons (ep_var cx 2) ap_nil)) (fun s => .refl _) (xtr T))) (fun d s => ap_nil))) (by decide +kernel) (gfb_name (B := tInt) cx 3) (fun s0 H0 C0 cl fp Cb d1 s => tsf_nil) (fun s0 H0 C0 cl fp Cb d1 s => (ef_nox (xt := (xt T)) (ef_ixPFG ix_str d_ixS (ep_var Cb 1) (ef_callS a [] Cb (ok_l_next T) (hr.mono (by decide)) (T.g_l_next) (T.F_l_next).kp T.b_l_next passWX (af_consP (ep_var Cb 0) (af_consF (ef_callBP Cb call_len_str dn_lenT T.z_len (by decide +kernel) (ap_cons (ep_var Cb 1) ap_nil)) (fun d s => ap_nil))) (fun s => .refl _) (xtr T))))))))) (fun s => .refl)
def m_l_numbers (pt : (Unit × Tx × Int × Unit)) (st : (List Int)) : Res Exc ((List Int) × (List Int)) := Out.fn (ν := Empty) (Out.bnd ((fun (s : Unit) => (Res.val (([] : (List Int)), s))) ()) fun l_numbers_here _ => Out.bnd ((fun (s : Unit) => ((((Res.grd (List.length pt.2.1 ≤ sizeLine) ((List.length pt.2.1 : Int), s)).bnd fun x s => Res.val ((x + (1 : Int)), s)).bnd fun d s => Res.val ((d, ()), s)).bnd fun t s => Res.grd (rngOk 0 t.1) (rng 0 t.1, s))) ()) fun xs _ => (Out.forL xs ((st, l_numbers_here) : (List Int) × (List Int)) fun (n2 : (List Int) × (List Int)) d3 => Out.lt (0 : Int) fun l_number => Out.bnd ((fun (s : (List Int)) => ((m_l_next ((), (pt.2.2.1, ())) s).bnd fun x s => Res.val ((decide (x = (0 : Int))), s))) n2.1) fun b st => (if b = true then Out.bnd ((fun (s : (List Int)) => ((m_l_next ((), ((9 : Int), ())) s).bnd fun y s => Res.val (((1 : Int) + y), s))) st) fun l_number st => Out.nx (l_number, st) else Out.nx (l_number, st)).seq fun (n4 : Int × (List Int)) => Out.bnd ((fun (s : Unit) => (((Res.val ((decide (d3 = (0 : Int))), s)).bnd fun b s => if b = true then ((Res.grd (List.length pt.2.1 ≤ sizeLine) ((cut pt.2.1 none (some (1 : Int))), s)).bnd fun x s => Res.val ((decide (x = [46])), s)) else Res.val (false, s)).bnd fun b s => if b = true then Res.val (true, s) else (((Res.grd (List.length pt.2.1 ≤ sizeLine) ((List.length pt.2.1 : Int), s)).bnd fun y s => Res.val ((decide (d3 = y)), s)).bnd fun b s => if b = true then ((Res.grd (List.length pt.2.1 ≤ sizeLine) ((cut pt.2.1 (some (-(1 : Int))) none), s)).bnd fun x s => Res.val ((decide (x = [46])), s)) else Res.val (false, s)))) ()) fun b _ => (if b = true then Out.lt (0 : Int) fun l_number => Out.nx l_number else Out.nx n4.1).seq fun (n5 : Int) => Out.bnd ((fun (s : Unit) => (Res.val (n5, s))) ()) fun v6 _ => if (List.length n2.2) < sizeLine then (Out.lt (n2.2 ++ [v6]) fun l_numbers_here6 => Out.nx (n4.2, l_numbers_here6)) else .stuck).seq fun (n2 : (List Int) × (List Int)) => Out.ret (((fun (s : (List Int)) => n2.2) n2.1), n2.1))
theorem sc_l_numbers : FnScope ["_law_feed_here", "_law_signs", "_law_few", "_law_numbers_here", "_law_place", "_law_number"] ["_law_feed_here", "_law_signs", "_law_few"] (defScope s_l_numbers) := ⟨rfl, rfl, rfl, by decide +kernel, rfl, by decide +kernel, by decide +kernel⟩
theorem ok_l_numbers (T : Tops K mg) : FnOk P w K mg base (L2.CX P w) 2 T.f_l_numbers T.d_l_numbers ["_law_feed_here", "_law_signs", "_law_few"] (spec (fun a : Addr => (Tys.cons (tCell a) (Tys.cons tTx (Tys.cons tInt Tys.nil)))) (fun (a : Addr) (s : (List Int)) => [cell a (cLst tInt s)]) (fun a : Addr => rtV (tTuL tInt) (fun s : (List Int) => [cell a (cLst tInt s)])) (fun _ => (xt T)) m_l_numbers) := by
  refine fn_ok T.F_l_numbers sc_l_numbers (k := 1) (body := fun X a pt st hm cx cc => ⟨Empty, (fun z => nomatch z), (fun z => nomatch z), _, rfl, ?_⟩)
  obtain ⟨rfl, rfl, rfl, rfl, rfl, hr, hst, hfr⟩ := hm
  refine sf_asgN (γ := Unit) (L := (fun _ : Unit => [cell a (cLst tInt st)])) (s := ()) cx 3 (en_nil (A := tInt)) (fun q1 l_numbers_here _ => ?_)
  refine sf_for (γ := Unit) (L := (fun _ : Unit => [cell q1 (cLst tInt l_numbers_here), cell a (cLst tInt st)])) (s := ()) (gj := (fun n2 : (List Int) × (List Int) => [.dat (tCell a) (), .dat tTx pt.2.1, .dat tInt pt.2.2.1, .dat (tCell q1) (), .unk, .unk])) (lj := (fun n2 : (List Int) × (List Int) => [cell q1 (cLst tInt n2.2), cell a (cLst tInt n2.1)])) (n0 := fun _ => (st, l_numbers_here)) cc (if_range1 cx (T.z_range) (af_consF (ef_opFPT op_add d_add (ef_callBP cx call_len_str dn_lenT T.z_len (by decide +kernel) (ap_cons (ep_var cx 1) ap_nil)) (fun x s => ep_int)) (fun d s => ap_nil))) (gf_name (B := tInt) cx 4) (fun _ => ⟨(.s (.s (.s (.s (.u (.u (.nil))))))), rfl, .refl⟩) (fun n2 d3 => ?_) (fun n2 => ?_)
  · refine sf_asgP cx 5 ep_int (fun l_number => ?_)
    refine sf_if (γ := (List Int)) (L := (fun s : (List Int) => [cell q1 (cLst tInt n2.2), cell a (cLst tInt s)])) (s := n2.1) (gj := (fun n4 : Int × (List Int) => [.dat (tCell a) (), .dat tTx pt.2.1, .dat tInt pt.2.2.1, .dat (tCell q1) (), .dat tInt d3, .dat tInt n4.1])) (lj := (fun n4 : Int × (List Int) => [cell q1 (cLst tInt n2.2), cell a (cLst tInt n4.2)])) (tf_cmpFPT op_eq d_eqI (ef_callSP a [cell q1 (cLst tInt n2.2)] cx (ok_l_next T) (hr.mono (by decide)) (T.g_l_next) (T.F_l_next).kp T.b_l_next passWX (ap_cons (ep_var cx 0) (ap_cons (ep_var cx 2) ap_nil)) (fun s => perm_at 1 (by rfl)) (xtr T)) (fun x s => ep_int)) (fun st => ?_) (fun st => ?_) (fun n4 => ?_)
    · refine sf_asg (γ := (List Int)) (L := (fun s : (List Int) => [cell q1 (cLst tInt n2.2), cell a (cLst tInt s)])) (s := st) cx 5 (ef_opPFT op_add d_add ep_int (ef_callSP a [cell q1 (cLst tInt n2.2)] cx (ok_l_next T) (hr.mono (by decide)) (T.g_l_next) (T.F_l_next).kp T.b_l_next passWX (ap_cons (ep_var cx 0) (ap_cons ep_int ap_nil)) (fun s => perm_at 1 (by rfl)) (xtr T))) (fun l_number st => ?_)
      exact sf_nil (.s (.s (.s (.s (.s (.s (.nil))))))) rfl .refl
    · exact sf_nil (.s (.s (.s (.s (.s (.s (.nil))))))) rfl .refl
    · refine sf_if (γ := Unit) (L := (fun _ : Unit => [cell q1 (cLst tInt n2.2), cell a (cLst tInt n4.2)])) (s := ()) (gj := (fun n5 : Int => [.dat (tCell a) (), .dat tTx pt.2.1, .dat tInt pt.2.2.1, .dat (tCell q1) (), .dat tInt d3, .dat tInt n5])) (lj := (fun n5 : Int => [cell q1 (cLst tInt n2.2), cell a (cLst tInt n4.2)])) (tf_w (tf_or (tf_w (tf_and (tf_pure (tp_cmp op_eq d_eqI (ep_var cx 4) ep_int trivial)) (fun s => (tf_and1 (tf_cmpFPT op_eq d_eqT (ef_grd fun h => ep_slice sl_str ds_tx (ep_var cx 1) op_none (op_some ep_int) h) (fun x s => (ep_str (t := [46]) (by decide +kernel)))))))) (fun s => (tf_or1 (tf_w (tf_and (tf_cmpPFT op_eq d_eqI (ep_var cx 4) (ef_callBP cx call_len_str dn_lenT T.z_len (by decide +kernel) (ap_cons (ep_var cx 1) ap_nil))) (fun s => (tf_and1 (tf_cmpFPT op_eq d_eqT (ef_grd fun h => ep_slice sl_str ds_tx (ep_var cx 1) (op_some (ep_un un_neg d_neg ep_int trivial)) op_none h) (fun x s => (ep_str (t := [46]) (by decide +kernel)))))))))))) (fun _ => ?_) (fun _ => ?_) (fun n5 => ?_)
      · refine sf_asgP cx 5 ep_int (fun l_number => ?_)
        exact sf_nil (.s (.s (.s (.s (.s (.s (.nil))))))) rfl .refl
      · exact sf_nil (.s (.s (.s (.s (.s (.s (.nil))))))) rfl .refl
      · refine sf_append (γ := Unit) (L := (fun _ : Unit => [cell q1 (cLst tInt n2.2), cell a (cLst tInt n4.2)])) (s := ()) (xs := fun _ => n2.2) (R := fun _ => [cell a (cLst tInt n4.2)]) (ep_var cx 3) (ef_pure (ep_var cx 5)) (fun s => .refl _) (fun v6 _ => ?_)
        refine sf_lt (fun l_numbers_here6 => SF X _ _ (cell q1 (cLst tInt l_numbers_here6) :: [cell a (cLst tInt n4.2)]) _ _ _ _ _) _ (fun l_numbers_here6 => ?_)
        exact sf_nil (.s (.s (.s (.s (.u (.u (.nil))))))) rfl .refl
  · exact sf_retP (γ := (List Int)) (L := (fun s : (List Int) => [cell q1 (cLst tInt n2.2), cell a (cLst tInt s)])) (Lr := (fun s : (List Int) => [cell a (cLst tInt s)])) (s := n2.1) (ep_tupO cx T.z_tuple (ep_var cx 3) (.hd)) (.drop .refl)
def m_l_pattern (pt : (Unit × Tx × Tx × Int × Unit)) (st : (List Int)) : Res Exc ((Tx × (List Int) × Unit) × (List Int)) := Out.fn (ν := Empty) (Out.bnd ((fun (s : Unit) => ((Res.grd (List.length [46] + List.length pt.2.2.1 ≤ sizeLine) (([46] ++ pt.2.2.1), s)).bnd fun x s => Res.grd (List.length x + List.length [46] ≤ sizeLine) ((x ++ [46]), s))) ()) fun l_text _ => Out.bnd ((fun (s : (List Int)) => (((((Res.grd (List.length l_text ≤ sizeLine) ((List.length l_text : Int), s)).bnd fun x s => Res.val ((x - (1 : Int)), s)).bnd fun d s => Res.val ((d, ()), s)).bnd fun t s => Res.val (((), t), s)).bnd fun t s => m_l_next t s)) st) fun l_at st => Out.bnd ((fun (s : (List Int)) => ((Res.val (l_text, s)).bnd fun d s => (Res.val (some l_at, s)).bnd fun o s => (((m_l_next ((), (pt.2.2.2.1, ())) s).bnd fun y s => Res.val (((l_at + (1 : Int)) + y), s)).bnd fun i s => Res.val (some i, s)).bnd fun u s => Res.grd (List.length d ≤ sizeLine) (cut d o u, s))) st) fun l_signs st => Out.bnd ((fun (s : (List Int)) => ((m_l_next ((), ((4 : Int), ())) s).bnd fun x s => Res.val ((decide (x = (0 : Int))), s))) st) fun b st => (if b = true then Out.bnd ((fun (s : (List Int)) => (m_l_word ((), (pt.2.1, (pt.2.2.2.1, ()))) s)) st) fun l_signs st => Out.nx (l_signs, st) else Out.nx (l_signs, st)).seq fun (n1 : Tx × (List Int)) => Out.bnd ((fun (s : Unit) => (Res.val ((decide (n1.1 = [46])), s))) ()) fun b _ => (if b = true then Out.bnd ((fun (s : Unit) => (Res.grd (List.length l_text ≤ sizeLine) ((cut l_text none (some (2 : Int))), s))) ()) fun l_signs _ => Out.nx l_signs else Out.nx n1.1).seq fun (n2 : Tx) => Out.bnd ((fun (s : (List Int)) => (((m_l_numbers ((), (n2, ((2 : Int), ()))) s).bnd fun d s => Res.val ((d, ()), s)).bnd fun t s => Res.val ((n2, t), s))) n1.2) fun d s => Out.ret (d, s))
theorem sc_l_pattern : FnScope ["_law_feed_here", "_law_letters_here", "_law_word_here", "_law_most", "_law_text", "_law_at", "_law_signs"] ["_law_feed_here", "_law_letters_here", "_law_word_here", "_law_most"] (defScope s_l_pattern) := ⟨rfl, rfl, rfl, by decide +kernel, rfl, by decide +kernel, by decide +kernel⟩
theorem ok_l_pattern (T : Tops K mg) : FnOk P w K mg base (L2.CX P w) 3 T.f_l_pattern T.d_l_pattern ["_law_feed_here", "_law_letters_here", "_law_word_here", "_law_most"] (spec (fun a : Addr => (Tys.cons (tCell a) (Tys.cons tTx (Tys.cons tTx (Tys.cons tInt Tys.nil))))) (fun (a : Addr) (s : (List Int)) => [cell a (cLst tInt s)]) (fun a : Addr => rtV (tTup (Tys.cons tTx (Tys.cons (tTuL tInt) Tys.nil))) (fun s : (List Int) => [cell a (cLst tInt s)])) (fun _ => (xt T)) m_l_pattern) := by
  refine fn_ok T.F_l_pattern sc_l_pattern (k := 2) (body := fun X a pt st hm cx cc => ⟨Empty, (fun z => nomatch z), (fun z => nomatch z), _, rfl, ?_⟩)
  obtain ⟨rfl, rfl, rfl, rfl, rfl, hr, hst, hfr⟩ := hm
  refine sf_asg (γ := Unit) (L := (fun _ : Unit => [cell a (cLst tInt st)])) (s := ()) cx 4 (ef_opFPG op_add_str d_catT (ef_grd fun h => ep_op op_add_str d_catT (ep_str (t := [46]) (by decide +kernel)) (ep_var cx 2) h) (fun x s => (ep_str (t := [46]) (by decide +kernel)))) (fun l_text _ => ?_)
  refine sf_asg (γ := (List Int)) (L := (fun s : (List Int) => [cell a (cLst tInt s)])) (s := st) cx 5 (ef_callS a [] cx (ok_l_next T) (hr.mono (by decide)) (T.g_l_next) (T.F_l_next).kp T.b_l_next passWX (af_consP (ep_var cx 0) (af_consF (ef_opFPT op_sub d_sub (ef_callBP cx call_len_str dn_lenT T.z_len (by decide +kernel) (ap_cons (ep_var cx 4) ap_nil)) (fun x s => ep_int)) (fun d s => ap_nil))) (fun s => .refl _) (xtr T)) (fun l_at st => ?_)
  refine sf_asg (γ := (List Int)) (L := (fun s : (List Int) => [cell a (cLst tInt s)])) (s := st) cx 6 (ef_slice sl_str ds_tx (ef_pure (ep_var cx 4)) (fun d s => (of_pure (op_some (ep_var cx 5)))) (fun d o s => (of_some (ef_opPFT op_add d_add (ep_op op_add d_add (ep_var cx 5) ep_int trivial) (ef_callSP a [] cx (ok_l_next T) (hr.mono (by decide)) (T.g_l_next) (T.F_l_next).kp T.b_l_next passWX (ap_cons (ep_var cx 0) (ap_cons (ep_var cx 3) ap_nil)) (fun s => .refl _) (xtr T)))))) (fun l_signs st => ?_)
  refine sf_if (γ := (List Int)) (L := (fun s : (List Int) => [cell a (cLst tInt s)])) (s := st) (gj := (fun n1 : Tx × (List Int) => [.dat (tCell a) (), .dat tTx pt.2.1, .dat tTx pt.2.2.1, .dat tInt pt.2.2.2.1, .dat tTx l_text, .dat tInt l_at, .dat tTx n1.1])) (lj := (fun n1 : Tx × (List Int) => [cell a (cLst tInt n1.2)])) (tf_cmpFPT op_eq d_eqI (ef_callSP a [] cx (ok_l_next T) (hr.mono (by decide)) (T.g_l_next) (T.F_l_next).kp T.b_l_next passWX (ap_cons (ep_var cx 0) (ap_cons ep_int ap_nil)) (fun s => .refl _) (xtr T)) (fun x s => ep_int)) (fun st => ?_) (fun st => ?_) (fun n1 => ?_)
  · refine sf_asg (γ := (List Int)) (L := (fun s : (List Int) => [cell a (cLst tInt s)])) (s := st) cx 6 (ef_callSP a [] cx (ok_l_word T) (hr.mono (by decide)) (T.g_l_word) (T.F_l_word).kp T.b_l_word passWX (ap_cons (ep_var cx 0) (ap_cons (ep_var cx 1) (ap_cons (ep_var cx 3) ap_nil))) (fun s => .refl _) (xtr T)) (fun l_signs st => ?_)
    exact sf_nil (.s (.s (.s (.s (.s (.s (.s (.nil)))))))) rfl .refl
  · exact sf_nil (.s (.s (.s (.s (.s (.s (.s (.nil)))))))) rfl .refl
  · refine sf_if (γ := Unit) (L := (fun _ : Unit => [cell a (cLst tInt n1.2)])) (s := ()) (gj := (fun n2 : Tx => [.dat (tCell a) (), .dat tTx pt.2.1, .dat tTx pt.2.2.1, .dat tInt pt.2.2.2.1, .dat tTx l_text, .dat tInt l_at, .dat tTx n2])) (lj := (fun n2 : Tx => [cell a (cLst tInt n1.2)])) (tf_pure (tp_cmp op_eq d_eqT (ep_var cx 6) (ep_str (t := [46]) (by decide +kernel)) trivial)) (fun _ => ?_) (fun _ => ?_) (fun n2 => ?_)
    · refine sf_asg (γ := Unit) (L := (fun _ : Unit => [cell a (cLst tInt n1.2)])) (s := ()) cx 6 (ef_grd fun h => ep_slice sl_str ds_tx (ep_var cx 4) op_none (op_some ep_int) h) (fun l_signs _ => ?_)
      exact sf_nil (.s (.s (.s (.s (.s (.s (.s (.nil)))))))) rfl .refl
    · exact sf_nil (.s (.s (.s (.s (.s (.s (.s (.nil)))))))) rfl .refl
    · exact sf_ret (γ := (List Int)) (L := (fun s : (List Int) => [cell a (cLst tInt s)])) (Lr := (fun s : (List Int) => [cell a (cLst tInt s)])) (s := n1.2) (ef_tup (af_consP (ep_var cx 6) (af_consF (ef_callSP a [] cx (ok_l_numbers T) (hr.mono (by decide)) (T.g_l_numbers) (T.F_l_numbers).kp T.b_l_numbers passWX (ap_cons (ep_var cx 0) (ap_cons (ep_var cx 6) (ap_cons ep_int ap_nil))) (fun s => .refl _) (xtr T)) (fun d s => ap_nil)))) (fun s => .refl)
def m_l_patterns (pt : (Unit × Tx × (List Tx) × Int × Unit)) (st : (List Int)) : Res Exc ((List (Tx × (List Int) × Unit)) × (List Int)) := Out.fn (ν := Empty) (Out.bnd ((fun (s : Unit) => (Res.val (([] : (List (Tx × (List Int) × Unit))), s))) ()) fun l_found _ => Out.bnd ((fun (s : (List Int)) => (((m_l_next ((), ((pt.2.2.2.1 + (1 : Int)), ())) s).bnd fun d s => Res.val ((d, ()), s)).bnd fun t s => Res.grd (rngOk 0 t.1) (rng 0 t.1, s))) st) fun xs st => (Out.forL xs ((st, l_found) : (List Int) × (List (Tx × (List Int) × Unit))) fun (n2 : (List Int) × (List (Tx × (List Int) × Unit))) d3 => Out.bnd ((fun (s : (List Int)) => ((m_l_next ((), ((List.length pt.2.2.1 : Int), ())) s).bnd fun y s => Res.grd (atI pt.2.2.1 y).isSome (((atI pt.2.2.1 y).getD default), s))) n2.1) fun l_word_here st => Out.bnd ((fun (s : (List Int)) => (m_l_pattern ((), (pt.2.1, (l_word_here, ((4 : Int), ())))) s)) st) fun v4 st => if (List.length n2.2) < sizeLine then (Out.lt (n2.2 ++ [v4]) fun l_found4 => Out.nx (st, l_found4)) else .stuck).seq fun (n2 : (List Int) × (List (Tx × (List Int) × Unit))) => Out.ret (n2.2, n2.1))
theorem sc_l_patterns : FnScope ["_law_feed_here", "_law_letters_here", "_law_words", "_law_most", "_law_found", "_law_k", "_law_word_here"] ["_law_feed_here", "_law_letters_here", "_law_words", "_law_most"] (defScope s_l_patterns) := ⟨rfl, rfl, rfl, by decide +kernel, rfl, by decide +kernel, by decide +kernel⟩
theorem ok_l_patterns (T : Tops K mg) : FnOk P w K mg base (L2.CX P w) 4 T.f_l_patterns T.d_l_patterns ["_law_feed_here", "_law_letters_here", "_law_words", "_law_most"] (spec (fun a : Addr => (Tys.cons (tCell a) (Tys.cons tTx (Tys.cons (tLst tTx) (Tys.cons tInt Tys.nil))))) (fun (a : Addr) (s : (List Int)) => [cell a (cLst tInt s)]) (fun a : Addr => rtN (cLst (tTup (Tys.cons tTx (Tys.cons (tTuL tInt) Tys.nil)))) (fun s : (List Int) => [cell a (cLst tInt s)])) (fun _ => (xt T)) m_l_patterns) := by
  refine fn_ok T.F_l_patterns sc_l_patterns (k := 3) (body := fun X a pt st hm cx cc => ⟨Empty, (fun z => nomatch z), (fun z => nomatch z), _, rfl, ?_⟩)
  obtain ⟨rfl, rfl, rfl, rfl, rfl, hr, hst, hfr⟩ := hm
  refine sf_asgN (γ := Unit) (L := (fun _ : Unit => [cell a (cLst tInt st)])) (s := ()) cx 4 (en_nil (A := (tTup (Tys.cons tTx (Tys.cons (tTuL tInt) Tys.nil))))) (fun q1 l_found _ => ?_)
  refine sf_for (γ := (List Int)) (L := (fun s : (List Int) => [cell q1 (cLst (tTup (Tys.cons tTx (Tys.cons (tTuL tInt) Tys.nil))) l_found), cell a (cLst tInt s)])) (s := st) (gj := (fun n2 : (List Int) × (List (Tx × (List Int) × Unit)) => [.dat (tCell a) (), .dat tTx pt.2.1, .dat (tLst tTx) pt.2.2.1, .dat tInt pt.2.2.2.1, .dat (tCell q1) (), .unk, .unk])) (lj := (fun n2 : (List Int) × (List (Tx × (List Int) × Unit)) => [cell q1 (cLst (tTup (Tys.cons tTx (Tys.cons (tTuL tInt) Tys.nil))) n2.2), cell a (cLst tInt n2.1)])) (n0 := fun st => (st, l_found)) cc (if_range1 cx (T.z_range) (af_consF (ef_callSP a [cell q1 (cLst (tTup (Tys.cons tTx (Tys.cons (tTuL tInt) Tys.nil))) l_found)] cx (ok_l_next T) (hr.mono (by decide)) (T.g_l_next) (T.F_l_next).kp T.b_l_next passWX (ap_cons (ep_var cx 0) (ap_cons (ep_op op_add d_add (ep_var cx 3) ep_int trivial) ap_nil)) (fun s => perm_at 1 (by rfl)) (xtr T)) (fun d s => ap_nil))) (gf_name (B := tInt) cx 5) (fun st => ⟨(.s (.s (.s (.s (.s (.u (.u (.nil)))))))), rfl, .refl⟩) (fun n2 d3 => ?_) (fun n2 => ?_)
  · refine sf_asg (γ := (List Int)) (L := (fun s : (List Int) => [cell q1 (cLst (tTup (Tys.cons tTx (Tys.cons (tTuL tInt) Tys.nil))) n2.2), cell a (cLst tInt s)])) (s := n2.1) cx 6 (ef_ixPFG ix_list (d_ixL (A := tTx)) (ep_var cx 2) (ef_callSP a [cell q1 (cLst (tTup (Tys.cons tTx (Tys.cons (tTuL tInt) Tys.nil))) n2.2)] cx (ok_l_next T) (hr.mono (by decide)) (T.g_l_next) (T.F_l_next).kp T.b_l_next passWX (ap_cons (ep_var cx 0) (ap_cons (ep_callB cx call_len_seq dn_lenL T.z_len (by decide +kernel) (ap_cons (ep_var cx 2) ap_nil) trivial) ap_nil)) (fun s => perm_at 1 (by rfl)) (xtr T))) (fun l_word_here st => ?_)
    refine sf_append (γ := (List Int)) (L := (fun s : (List Int) => [cell q1 (cLst (tTup (Tys.cons tTx (Tys.cons (tTuL tInt) Tys.nil))) n2.2), cell a (cLst tInt s)])) (s := st) (xs := fun st => n2.2) (R := fun st => [cell a (cLst tInt st)]) (ep_var cx 4) (ef_callSP a [cell q1 (cLst (tTup (Tys.cons tTx (Tys.cons (tTuL tInt) Tys.nil))) n2.2)] cx (ok_l_pattern T) (hr.mono (by decide)) (T.g_l_pattern) (T.F_l_pattern).kp T.b_l_pattern passWX (ap_cons (ep_var cx 0) (ap_cons (ep_var cx 1) (ap_cons (ep_var cx 6) (ap_cons ep_int ap_nil)))) (fun s => perm_at 1 (by rfl)) (xtr T)) (fun s => .refl _) (fun v4 st => ?_)
    refine sf_lt (fun l_found4 => SF X _ _ (cell q1 (cLst (tTup (Tys.cons tTx (Tys.cons (tTuL tInt) Tys.nil))) l_found4) :: [cell a (cLst tInt st)]) _ _ _ _ _) _ (fun l_found4 => ?_)
    exact sf_nil (.s (.s (.s (.s (.s (.u (.u (.nil)))))))) rfl .refl
  · exact sf_retC (γ := (List Int)) (L := (fun s : (List Int) => [cell q1 (cLst (tTup (Tys.cons tTx (Tys.cons (tTuL tInt) Tys.nil))) n2.2), cell a (cLst tInt s)])) (Lr := (fun s : (List Int) => [cell a (cLst tInt s)])) (s := n2.1) (φ := cLst (tTup (Tys.cons tTx (Tys.cons (tTuL tInt) Tys.nil)))) (ep_var cx 4) .refl
def m_l_beginnings (pt : ((List (Tx × (List Int) × Unit)) × Unit)) (st : Unit) : Res Exc ((List (Tx × (Option (List Int)))) × Unit) := Out.fn (ν := Empty) (Out.bnd ((fun (s : Unit) => ((Res.val ((none : (Option (List Int))), s)).bnd fun d s => Res.val ([(([] : Tx), d)], s))) ()) fun l_names _ => Out.bnd ((fun (s : Unit) => (Res.val (pt.1, s))) ()) fun xs _ => (Out.forL xs (l_names : (List (Tx × (Option (List Int))))) fun (n2 : (List (Tx × (Option (List Int))))) d3 => Out.bnd ((fun (s : Unit) => ((((Res.grd (List.length d3.1 ≤ sizeLine) ((List.length d3.1 : Int), s)).bnd fun d s => Res.val ((d, ()), s)).bnd fun t s => Res.val (((1 : Int), t), s)).bnd fun t s => Res.grd (rngOk t.1 t.2.1) (rng t.1 t.2.1, s))) ()) fun xs _ => (Out.forL xs (n2 : (List (Tx × (Option (List Int))))) fun (n4 : (List (Tx × (Option (List Int))))) d5 => if (List.length d3.1 ≤ sizeLine) then (if (List.length n4) < sizeLine then (Out.lt (dSetd n4 (cut d3.1 none (some d5)) (none : (Option (List Int)))) fun l_names7 => Out.nx l_names7) else .stuck) else Out.stuck).seq fun (n4 : (List (Tx × (Option (List Int))))) => Out.nx n4).seq fun (n2 : (List (Tx × (Option (List Int))))) => Out.bnd ((fun (s : Unit) => (Res.val (pt.1, s))) ()) fun xs _ => (Out.forL xs (n2 : (List (Tx × (Option (List Int))))) fun (n8 : (List (Tx × (Option (List Int))))) d9 => Out.lt ((dGet n8 d9.1).getD none) fun l_last => Out.bnd ((fun (s : Unit) => (Res.val ((Option.isNone l_last), s))) ()) fun b _ => (if b = true then Out.lt (some d9.2.1) fun l_last => Out.nx l_last else Out.nx l_last).seq fun (n10 : (Option (List Int))) => Out.bnd ((fun (s : Unit) => ((((((Res.val (((List.length d9.2.1 : Int), ()), s)).bnd fun t s => Res.grd (rngOk 0 t.1) (rng 0 t.1, s)).bnd fun xs s => if xs.length ≤ sizeLine then Res.nox (ε := Empty) (ε' := Exc) (Res.compL (ε := Empty) (fun (d11 : Int) s => Res.val (true, s)) (fun (d11 : Int) s => Res.nox (ε := Exc) (ε' := Empty) (((((Res.val (n10, s)).bnd fun x s => Res.grd (x.isSome = true) (x.getD default, s)).bnd fun x s => Res.grd (atI x d11).isSome (((atI x d11).getD default), s)).bnd fun d s => ((Res.grd (atI d9.2.1 d11).isSome (((atI d9.2.1 d11).getD default), s)).bnd fun d s => Res.val ((d, ()), s)).bnd fun t s => Res.val ((d, t), s)).bnd fun t s => Res.val ((if t.2.1 > t.1 then t.2.1 else t.1), s))) xs s []) else .stuck).bnd fun d s => Res.val ((d, ()), s)).bnd fun t s => Res.val (t.1, s)).bnd fun x s => Res.val (some x, s))) ()) fun v12 _ => if (List.length n8) < sizeLine then (Out.lt (dPut n8 d9.1 v12) fun l_names12 => Out.nx l_names12) else .stuck).seq fun (n8 : (List (Tx × (Option (List Int))))) => Out.ret (n8, ()))
theorem sc_l_beginnings : FnScope ["_law_patterns_here", "_law_names", "_law_signs", "_law_numbers_here", "_law_size", "_law_last", "_law_k"] ["_law_patterns_here"] (defScope s_l_beginnings) := ⟨rfl, rfl, rfl, by decide +kernel, rfl, by decide +kernel, by decide +kernel⟩
theorem ok_l_beginnings (T : Tops K mg) : FnOk P w K mg base (L2.CX P w) 1 T.f_l_beginnings T.d_l_beginnings ["_law_patterns_here"] (spec (fun a : Unit => (Tys.cons (tLst (tTup (Tys.cons tTx (Tys.cons (tTuL tInt) Tys.nil)))) Tys.nil)) (fun _ _ => []) (fun a : Unit => rtV (tDic ktTx (tOpt (tTuL tInt))) (fun _ => [])) (fun _ => (xt T)) m_l_beginnings) := by
  refine fn_ok T.F_l_beginnings sc_l_beginnings (k := 0) (body := fun X a pt st hm cx cc => ⟨Empty, (fun z => nomatch z), (fun z => nomatch z), _, rfl, ?_⟩)
  obtain ⟨rfl, rfl, rfl, rfl, rfl, hr, hst, hfr⟩ := hm
  refine sf_asgN (γ := Unit) (L := (fun _ : Unit => [])) (s := ()) cx 1 (en_dictK1 (K := ktTx) (A := (tOpt (tTuL tInt))) (ep_str (t := []) (by decide +kernel)) (ef_pure (ep_noneO (A := (tTuL tInt)))) (xtr T)) (fun q1 l_names _ => ?_)
  refine sf_for (γ := Unit) (L := (fun _ : Unit => [cell q1 (cDic ktTx (tOpt (tTuL tInt)) l_names)])) (s := ()) (gj := (fun n2 : (List (Tx × (Option (List Int)))) => [.dat (tLst (tTup (Tys.cons tTx (Tys.cons (tTuL tInt) Tys.nil)))) pt.1, .dat (tCell q1) (), .unk, .unk, .unk, .unk, .unk])) (lj := (fun n2 : (List (Tx × (Option (List Int)))) => [cell q1 (cDic ktTx (tOpt (tTuL tInt)) n2)])) (n0 := fun _ => l_names) cc (if_list (ef_pure (ep_var cx 0))) (gf_tup cc (gfs_cons (gf_name (B := tTx) cx 2) (gfs_cons (gf_name (B := (tTuL tInt)) cx 3) gfs_nil))) (fun _ => ⟨(.s (.s (.u (.u (.u (.u (.u (.nil)))))))), rfl, .refl⟩) (fun n2 d3 => ?_) (fun n2 => ?_)
  · refine sf_for (γ := Unit) (L := (fun _ : Unit => [cell q1 (cDic ktTx (tOpt (tTuL tInt)) n2)])) (s := ()) (gj := (fun n4 : (List (Tx × (Option (List Int)))) => [.dat (tLst (tTup (Tys.cons tTx (Tys.cons (tTuL tInt) Tys.nil)))) pt.1, .dat (tCell q1) (), .dat tTx d3.1, .dat (tTuL tInt) d3.2.1, .unk, .unk, .unk])) (lj := (fun n4 : (List (Tx × (Option (List Int)))) => [cell q1 (cDic ktTx (tOpt (tTuL tInt)) n4)])) (n0 := fun _ => n2) cc (if_range2 cx (T.z_range) (af_consP ep_int (af_consF (ef_callBP cx call_len_str dn_lenT T.z_len (by decide +kernel) (ap_cons (ep_var cx 2) ap_nil)) (fun d s => ap_nil)))) (gf_name (B := tInt) cx 4) (fun _ => ⟨(.s (.s (.s (.s (.u (.u (.u (.nil)))))))), rfl, .refl⟩) (fun n4 d5 => ?_) (fun n4 => ?_)
    · refine sf_grdS (fun hG6 => ?_)
      refine sf_setd (kv := n4) (R := []) (ep_var cx 1) (ep_slice sl_str ds_tx (ep_var cx 2) op_none (op_some (ep_var cx 4)) (by exact hG6)) (ep_noneO (A := (tTuL tInt))) (.refl _) (fun l_names7 => ?_) ⟨rfl, rfl, rfl, (congrArg (backTo _) (star_2 rfl rfl)).trans rfl⟩
      exact sf_nil (.s (.s (.s (.s (.u (.u (.u (.nil)))))))) rfl .refl
    · exact sf_nil (.s (.s (.u (.u (.u (.u (.u (.nil)))))))) rfl .refl
  · refine sf_for (γ := Unit) (L := (fun _ : Unit => [cell q1 (cDic ktTx (tOpt (tTuL tInt)) n2)])) (s := ()) (gj := (fun n8 : (List (Tx × (Option (List Int)))) => [.dat (tLst (tTup (Tys.cons tTx (Tys.cons (tTuL tInt) Tys.nil)))) pt.1, .dat (tCell q1) (), .unk, .unk, .unk, .unk, .unk])) (lj := (fun n8 : (List (Tx × (Option (List Int)))) => [cell q1 (cDic ktTx (tOpt (tTuL tInt)) n8)])) (n0 := fun _ => n2) cc (if_list (ef_pure (ep_var cx 0))) (gf_tup cc (gfs_cons (gf_name (B := tTx) cx 2) (gfs_cons (gf_name (B := (tTuL tInt)) cx 3) gfs_nil))) (fun _ => ⟨(.s (.s (.u (.u (.u (.u (.u (.nil)))))))), rfl, .refl⟩) (fun n8 d9 => ?_) (fun n8 => ?_)
    · refine sf_asgP cx 5 (Fw.ep_dget1o (K := ktTx) (hu_of hr) (edic_own (ep_var cx 1) (.hd)) (ep_var cx 2) ⟨rfl, rfl, rfl, (congrArg (backTo _) (star_c rfl)).trans rfl⟩) (fun l_last => ?_)
      refine sf_if (γ := Unit) (L := (fun _ : Unit => [cell q1 (cDic ktTx (tOpt (tTuL tInt)) n8)])) (s := ()) (gj := (fun n10 : (Option (List Int)) => [.dat (tLst (tTup (Tys.cons tTx (Tys.cons (tTuL tInt) Tys.nil)))) pt.1, .dat (tCell q1) (), .dat tTx d9.1, .dat (tTuL tInt) d9.2.1, .unk, .dat (tOpt (tTuL tInt)) n10, .unk])) (lj := (fun n10 : (Option (List Int)) => [cell q1 (cDic ktTx (tOpt (tTuL tInt)) n8)])) (tf_pure (tp_isN (ep_var cx 5))) (fun _ => ?_) (fun _ => ?_) (fun n10 => ?_)
      · refine sf_asgP cx 5 (ep_some nn_tuL (ep_var cx 3)) (fun l_last => ?_)
        exact sf_nil (.s (.s (.s (.s (.u (.s (.u (.nil)))))))) rfl .refl
      · exact sf_nil (.s (.s (.s (.s (.u (.s (.u (.nil)))))))) rfl .refl
      · refine sf_dput (γ := Unit) (L := (fun _ : Unit => [cell q1 (cDic ktTx (tOpt (tTuL tInt)) n8)])) (s := ()) (key := fun _ => d9.1) (kv := fun _ => n8) (R := fun _ => []) (hu_of hr) (ef_some nn_tuL (ef_callTyT cx call_tuple_of dn_tupL (fun _ => trivial) T.z_tuple (by decide +kernel) (af_consF (ef_frz (en_lc cx cc (lc_mk (ownl := [("_law_k", 6)]) cx rfl (if_range1 cx (T.z_range) (af_pure (ap_cons (ep_callB cx call_len_seq dn_lenU T.z_len (by decide +kernel) (ap_cons (ep_var cx 3) ap_nil) trivial) ap_nil))) (by decide +kernel) (gfb_name (B := tInt) cx 6) (fun s0 H0 C0 cl fp Cb d11 s => tsf_nil) (fun s0 H0 C0 cl fp Cb d11 s => (ef_nox (xt := (xt T)) (ef_callBT Cb (call_max2 (calm_blk cc).calm) dn_max2 (fun _ => trivial) T.z_max (by decide +kernel) (af_cons (ef_ixFPG ix_tup (d_ixT (A := tInt)) (ef_unopt (ef_pure (ep_var Cb 5))) (fun x s => (ep_var Cb 6))) (fun d s => (af_consF (ef_grd fun h => ep_ix ix_tup (d_ixT (A := tInt)) (ep_var Cb 3) (ep_var Cb 6) h) (fun d s => ap_nil)))))))))) (fun d s => ap_nil)))) (fun s => .refl _) (fun _ => (ep_var cx 1)) (fun _ => (ep_var cx 2)) (fun v12 _ => ?_)
        refine sf_lt (fun l_names12 => SF X _ _ (cell q1 (cDic ktTx (tOpt (tTuL tInt)) l_names12) :: []) _ _ _ _ _) _ (fun l_names12 => ?_)
        exact sf_nil (.s (.s (.u (.u (.u (.u (.u (.nil)))))))) rfl .refl
    · exact sf_retD (γ := Unit) (L := (fun _ : Unit => [cell q1 (cDic ktTx (tOpt (tTuL tInt)) n8)])) (Lr := (fun _ : Unit => [])) (s := ()) (ep_var cx 1) (.refl _) .refl
def m_l_named (pt : ((List ((List (Tx × Int × Unit)) × (Option (List Int)) × Unit)) × Unit)) (st : Unit) : Res Exc ((Option (List (Tx × ((List (Tx × Int × Unit)) × (Option (List Int)) × Unit)))) × Unit) := Out.fn (ν := Empty) (Out.bnd ((fun (s : Unit) => ((Res.grd (atI pt.1 (0 : Int)).isSome (((atI pt.1 (0 : Int)).getD default), s)).bnd fun d s => Res.val ([(([] : Tx), d)], s))) ()) fun l_found _ => Out.bnd ((fun (s : Unit) => (Res.val (((0 : Int) :: []), s))) ()) fun l_met _ => Out.bnd ((fun (s : Unit) => (Res.val (((([] : Tx), ((0 : Int), ())) :: []), s))) ()) fun l_waiting _ => (Out.whileF (fun (n4 : (List (Tx × Int × Unit)) × (List (Tx × ((List (Tx × Int × Unit)) × (Option (List Int)) × Unit))) × (List Int)) => (fun (s : Unit) => ((Res.val (([] : (List (Tx × Int × Unit))), s)).bnd fun y s => Res.grd (eqOk ((dLst (dTup (dCons dTx (dCons PyData.int dNil)))) n4.1) ((dLst (dTup (dCons dTx (dCons PyData.int dNil)))) y)) ((!PyData.eqv ((dLst (dTup (dCons dTx (dCons PyData.int dNil)))) n4.1) ((dLst (dTup (dCons dTx (dCons PyData.int dNil)))) y)), s))) ()) (fun (n4 : (List (Tx × Int × Unit)) × (List (Tx × ((List (Tx × Int × Unit)) × (Option (List Int)) × Unit))) × (List Int)) => (Out.popL n4.1 fun d5 l_waiting5 => Out.bnd ((fun (s : Unit) => ((Res.grd (atI pt.1 d5.2.1).isSome (((atI pt.1 d5.2.1).getD default), s)).bnd fun x s => Res.val (x.1, s))) ()) fun xs _ => (Out.forL xs ((n4.2.2, n4.2.1, l_waiting5) : (List Int) × (List (Tx × ((List (Tx × Int × Unit)) × (Option (List Int)) × Unit))) × (List (Tx × Int × Unit))) fun (n6 : (List Int) × (List (Tx × ((List (Tx × Int × Unit)) × (Option (List Int)) × Unit))) × (List (Tx × Int × Unit))) d7 => Out.bnd ((fun (s : Unit) => ((Res.val ((decide (d7.2.1 ∈ n6.1)), s)).bnd fun b s => if b = true then Res.val (true, s) else ((Res.val ((decide (d7.2.1 < (1 : Int))), s)).bnd fun b s => if b = true then Res.val (true, s) else (Res.val ((decide ((List.length pt.1 : Int) ≤ d7.2.1)), s))))) ()) fun b _ => (if b = true then Out.ret ((none : (Option (List (Tx × ((List (Tx × Int × Unit)) × (Option (List Int)) × Unit))))), ()) else Out.nx ()).seq fun (n8 : Unit) => Out.bnd ((fun (s : Unit) => (Res.val (d7.2.1, s))) ()) fun v9 _ => if (List.length n6.1) < sizeLine then (Out.lt (n6.1 ++ [v9]) fun l_met9 => if (List.length d5.1 + List.length d7.1 ≤ sizeLine) then (Out.bnd ((fun (s : Unit) => (Res.grd (atI pt.1 d7.2.1).isSome (((atI pt.1 d7.2.1).getD default), s))) ()) fun v11 _ => if (List.length n6.2.1) < sizeLine then (Out.lt (dPut n6.2.1 (d5.1 ++ d7.1) v11) fun l_found11 => Out.bnd ((fun (s : Unit) => ((Res.grd (List.length d5.1 + List.length d7.1 ≤ sizeLine) ((d5.1 ++ d7.1), s)).bnd fun d s => Res.val ((d, (d7.2.1, ())), s))) ()) fun v12 _ => if (List.length n6.2.2) < sizeLine then (Out.lt (n6.2.2 ++ [v12]) fun l_waiting12 => Out.nx (l_met9, l_found11, l_waiting12)) else .stuck) else .stuck) else Out.stuck) else .stuck).seq fun (n6 : (List Int) × (List (Tx × ((List (Tx × Int × Unit)) × (Option (List Int)) × Unit))) × (List (Tx × Int × Unit))) => Out.nx (n6.2.2, n6.2.1, n6.1))) (List.length pt.1 + 2) (l_waiting, l_found, l_met)).seq fun (n4 : (List (Tx × Int × Unit)) × (List (Tx × ((List (Tx × Int × Unit)) × (Option (List Int)) × Unit))) × (List Int)) => Out.ret ((if (decide ((n4.2.2.length : Int) = (List.length pt.1 : Int))) = true then (some n4.2.1) else (none : (Option (List (Tx × ((List (Tx × Int × Unit)) × (Option (List Int)) × Unit)))))), ()))
theorem sc_l_named : FnScope ["_law_wood", "_law_found", "_law_met", "_law_waiting", "_law_name", "_law_number", "_law_sign", "_law_other"] ["_law_wood"] (defScope s_l_named) := ⟨rfl, rfl, rfl, by decide +kernel, rfl, by decide +kernel, by decide +kernel⟩
theorem ok_l_named (T : Tops K mg) : FnOk P w K mg base (L2.CX P w) 1 T.f_l_named T.d_l_named ["_law_wood"] (spec (fun a : Unit => (Tys.cons (tLst (tTup (Tys.cons (tTuF (tTup (Tys.cons tTx (Tys.cons tInt Tys.nil)))) (Tys.cons (tOpt (tTuL tInt)) Tys.nil)))) Tys.nil)) (fun _ _ => []) (fun a : Unit => rtV (tOpt (tDic ktTx (tTup (Tys.cons (tTuF (tTup (Tys.cons tTx (Tys.cons tInt Tys.nil)))) (Tys.cons (tOpt (tTuL tInt)) Tys.nil))))) (fun _ => [])) (fun _ => (xt T)) m_l_named) := by
  refine fn_ok T.F_l_named sc_l_named (k := 0) (body := fun X a pt st hm cx cc => ⟨Empty, (fun z => nomatch z), (fun z => nomatch z), _, rfl, ?_⟩)
  obtain ⟨rfl, rfl, rfl, rfl, rfl, hr, hst, hfr⟩ := hm
  refine sf_asgN (γ := Unit) (L := (fun _ : Unit => [])) (s := ()) cx 1 (en_dictK1 (K := ktTx) (A := (tTup (Tys.cons (tTuF (tTup (Tys.cons tTx (Tys.cons tInt Tys.nil)))) (Tys.cons (tOpt (tTuL tInt)) Tys.nil)))) (ep_str (t := []) (by decide +kernel)) (ef_grd fun h => ep_ix ix_list (d_ixL (A := (tTup (Tys.cons (tTuF (tTup (Tys.cons tTx (Tys.cons tInt Tys.nil)))) (Tys.cons (tOpt (tTuL tInt)) Tys.nil))))) (ep_var cx 0) ep_int h) (xtr T)) (fun q1 l_found _ => ?_)
  refine sf_asgN (γ := Unit) (L := (fun _ : Unit => [cell q1 (cDic ktTx (tTup (Tys.cons (tTuF (tTup (Tys.cons tTx (Tys.cons tInt Tys.nil)))) (Tys.cons (tOpt (tTuL tInt)) Tys.nil))) l_found)])) (s := ()) cx 2 (en_lstP (apl_cons ep_int apl_nil) (by simp)) (fun q2 l_met _ => ?_)
  refine sf_asgN (γ := Unit) (L := (fun _ : Unit => [cell q2 (cLst tInt l_met), cell q1 (cDic ktTx (tTup (Tys.cons (tTuF (tTup (Tys.cons tTx (Tys.cons tInt Tys.nil)))) (Tys.cons (tOpt (tTuL tInt)) Tys.nil))) l_found)])) (s := ()) cx 3 (en_lstP (apl_cons (ep_tup (ap_cons (ep_str (t := []) (by decide +kernel)) (ap_cons ep_int ap_nil))) apl_nil) (by simp)) (fun q3 l_waiting _ => ?_)
  refine sf_while (gj := (fun n4 : (List (Tx × Int × Unit)) × (List (Tx × ((List (Tx × Int × Unit)) × (Option (List Int)) × Unit))) × (List Int) => [.dat (tLst (tTup (Tys.cons (tTuF (tTup (Tys.cons tTx (Tys.cons tInt Tys.nil)))) (Tys.cons (tOpt (tTuL tInt)) Tys.nil)))) pt.1, .dat (tCell q1) (), .dat (tCell q2) (), .dat (tCell q3) (), .unk, .unk, .unk, .unk])) (lj := (fun n4 : (List (Tx × Int × Unit)) × (List (Tx × ((List (Tx × Int × Unit)) × (Option (List Int)) × Unit))) × (List Int) => [cell q3 (cLst (tTup (Tys.cons tTx (Tys.cons tInt Tys.nil))) n4.1), cell q2 (cLst tInt n4.2.2), cell q1 (cDic ktTx (tTup (Tys.cons (tTuF (tTup (Tys.cons tTx (Tys.cons tInt Tys.nil)))) (Tys.cons (tOpt (tTuL tInt)) Tys.nil))) n4.2.1)])) (n0 := (l_waiting, l_found, l_met)) (fuel := (List.length pt.1 + 2)) cc ⟨(.s (.s (.s (.s (.u (.u (.u (.u (.nil))))))))), rfl, .refl⟩ (fun n4 => (tf_lendG (q := q3) (φ := cLst (tTup (Tys.cons tTx (Tys.cons tInt Tys.nil))) n4.1) (L1 := (fun _ : Unit => [])) (R := [cell q2 (cLst tInt n4.2.2), cell q1 (cDic ktTx (tTup (Tys.cons (tTuF (tTup (Tys.cons tTx (Tys.cons tInt Tys.nil)))) (Tys.cons (tOpt (tTuL tInt)) Tys.nil))) n4.2.1)]) flatxt (fun s => flc_nil) (slotTo_lst (A := (tTup (Tys.cons tTx (Tys.cons tInt Tys.nil)))) (xs := n4.1) (i := 3) (by rfl)) lent_lst (fun s => (.refl _)) (tf_cmpPFG (op_neD hr.units) (d_neD (coe_lst (coe_tup (coes_cons coe_tx (coes_cons coe_int coes_nil))))) (ep_var cx 3) (ef_frz (en_nil (A := (tTup (Tys.cons tTx (Tys.cons tInt Tys.nil))))))))) (fun n4 => ?_) (fun n4 => ?_)
  · refine sf_popL (xs := n4.1) (R := [cell q2 (cLst tInt n4.2.2), cell q1 (cDic ktTx (tTup (Tys.cons (tTuF (tTup (Tys.cons tTx (Tys.cons tInt Tys.nil)))) (Tys.cons (tOpt (tTuL tInt)) Tys.nil))) n4.2.1)]) (gf_tup cc (gfs_cons (gf_name (B := tTx) cx 4) (gfs_cons (gf_name (B := tInt) cx 5) gfs_nil))) (ep_var cx 3) (.refl _) (fun d5 l_waiting5 => ?_)
    refine sf_for (γ := Unit) (L := (fun _ : Unit => [cell q3 (cLst (tTup (Tys.cons tTx (Tys.cons tInt Tys.nil))) l_waiting5), cell q2 (cLst tInt n4.2.2), cell q1 (cDic ktTx (tTup (Tys.cons (tTuF (tTup (Tys.cons tTx (Tys.cons tInt Tys.nil)))) (Tys.cons (tOpt (tTuL tInt)) Tys.nil))) n4.2.1)])) (s := ()) (gj := (fun n6 : (List Int) × (List (Tx × ((List (Tx × Int × Unit)) × (Option (List Int)) × Unit))) × (List (Tx × Int × Unit)) => [.dat (tLst (tTup (Tys.cons (tTuF (tTup (Tys.cons tTx (Tys.cons tInt Tys.nil)))) (Tys.cons (tOpt (tTuL tInt)) Tys.nil)))) pt.1, .dat (tCell q1) (), .dat (tCell q2) (), .dat (tCell q3) (), .dat tTx d5.1, .dat tInt d5.2.1, .unk, .unk])) (lj := (fun n6 : (List Int) × (List (Tx × ((List (Tx × Int × Unit)) × (Option (List Int)) × Unit))) × (List (Tx × Int × Unit)) => [cell q3 (cLst (tTup (Tys.cons tTx (Tys.cons tInt Tys.nil))) n6.2.2), cell q2 (cLst tInt n6.1), cell q1 (cDic ktTx (tTup (Tys.cons (tTuF (tTup (Tys.cons tTx (Tys.cons tInt Tys.nil)))) (Tys.cons (tOpt (tTuL tInt)) Tys.nil))) n6.2.1)])) (n0 := fun _ => (n4.2.2, n4.2.1, l_waiting5)) cc (if_tupF (ef_ixTup (ef_grd fun h => ep_ix ix_list (d_ixL (A := (tTup (Tys.cons (tTuF (tTup (Tys.cons tTx (Tys.cons tInt Tys.nil)))) (Tys.cons (tOpt (tTuL tInt)) Tys.nil))))) (ep_var cx 0) (ep_var cx 5) h) 0)) (gf_tup cc (gfs_cons (gf_name (B := tTx) cx 6) (gfs_cons (gf_name (B := tInt) cx 7) gfs_nil))) (fun _ => ⟨(.s (.s (.s (.s (.s (.s (.u (.u (.nil))))))))), rfl, .refl⟩) (fun n6 d7 => ?_) (fun n6 => ?_)
    · refine sf_if (γ := Unit) (L := (fun _ : Unit => [cell q3 (cLst (tTup (Tys.cons tTx (Tys.cons tInt Tys.nil))) n6.2.2), cell q2 (cLst tInt n6.1), cell q1 (cDic ktTx (tTup (Tys.cons (tTuF (tTup (Tys.cons tTx (Tys.cons tInt Tys.nil)))) (Tys.cons (tOpt (tTuL tInt)) Tys.nil))) n6.2.1)])) (s := ()) (gj := (fun n8 : Unit => [.dat (tLst (tTup (Tys.cons (tTuF (tTup (Tys.cons tTx (Tys.cons tInt Tys.nil)))) (Tys.cons (tOpt (tTuL tInt)) Tys.nil)))) pt.1, .dat (tCell q1) (), .dat (tCell q2) (), .dat (tCell q3) (), .dat tTx d5.1, .dat tInt d5.2.1, .dat tTx d7.1, .dat tInt d7.2.1])) (lj := (fun n8 : Unit => [cell q3 (cLst (tTup (Tys.cons tTx (Tys.cons tInt Tys.nil))) n6.2.2), cell q2 (cLst tInt n6.1), cell q1 (cDic ktTx (tTup (Tys.cons (tTuF (tTup (Tys.cons tTx (Tys.cons tInt Tys.nil)))) (Tys.cons (tOpt (tTuL tInt)) Tys.nil))) n6.2.1)])) (tf_w (tf_or (tf_lendG (q := q2) (φ := cLst tInt n6.1) (L1 := (fun _ : Unit => [])) (R := [cell q3 (cLst (tTup (Tys.cons tTx (Tys.cons tInt Tys.nil))) n6.2.2), cell q1 (cDic ktTx (tTup (Tys.cons (tTuF (tTup (Tys.cons tTx (Tys.cons tInt Tys.nil)))) (Tys.cons (tOpt (tTuL tInt)) Tys.nil))) n6.2.1)]) flatxt (fun s => flc_nil) (slotTo_lst (A := tInt) (xs := n6.1) (i := 2) (by rfl)) lent_lst (fun s => ((perm_at (ys := [cell q3 (cLst (tTup (Tys.cons tTx (Tys.cons tInt Tys.nil))) _), cell q1 (cDic ktTx (tTup (Tys.cons (tTuF (tTup (Tys.cons tTx (Tys.cons tInt Tys.nil)))) (Tys.cons (tOpt (tTuL tInt)) Tys.nil))) _)]) 1 (by rfl)).trans (.cons _ (.refl _)))) (tf_pure (tp_cmp op_in_seq d_inIL (ep_var cx 7) (ep_var cx 2) trivial (by rfl)))) (fun s => (tf_or (tf_pure (tp_cmp op_lt d_lt (ep_var cx 7) ep_int trivial)) (fun s => (tf_or1 (tf_pure (tp_cmp op_ge d_ge (ep_var cx 7) (ep_callB cx call_len_seq dn_lenL T.z_len (by decide +kernel) (ap_cons (ep_var cx 0) ap_nil) trivial) trivial)))))))) (fun _ => ?_) (fun _ => ?_) (fun n8 => ?_)
      · exact sf_retP (γ := Unit) (L := (fun _ : Unit => [cell q3 (cLst (tTup (Tys.cons tTx (Tys.cons tInt Tys.nil))) n6.2.2), cell q2 (cLst tInt n6.1), cell q1 (cDic ktTx (tTup (Tys.cons (tTuF (tTup (Tys.cons tTx (Tys.cons tInt Tys.nil)))) (Tys.cons (tOpt (tTuL tInt)) Tys.nil))) n6.2.1)])) (Lr := (fun _ : Unit => [])) (s := ()) (ep_noneO (A := (tDic ktTx (tTup (Tys.cons (tTuF (tTup (Tys.cons tTx (Tys.cons tInt Tys.nil)))) (Tys.cons (tOpt (tTuL tInt)) Tys.nil)))))) (.drop (.drop (.drop .nil)))
      · exact sf_nil (.s (.s (.s (.s (.s (.s (.s (.s (.nil))))))))) rfl .refl
      · refine sf_append (γ := Unit) (L := (fun _ : Unit => [cell q3 (cLst (tTup (Tys.cons tTx (Tys.cons tInt Tys.nil))) n6.2.2), cell q2 (cLst tInt n6.1), cell q1 (cDic ktTx (tTup (Tys.cons (tTuF (tTup (Tys.cons tTx (Tys.cons tInt Tys.nil)))) (Tys.cons (tOpt (tTuL tInt)) Tys.nil))) n6.2.1)])) (s := ()) (xs := fun _ => n6.1) (R := fun _ => [cell q3 (cLst (tTup (Tys.cons tTx (Tys.cons tInt Tys.nil))) n6.2.2), cell q1 (cDic ktTx (tTup (Tys.cons (tTuF (tTup (Tys.cons tTx (Tys.cons tInt Tys.nil)))) (Tys.cons (tOpt (tTuL tInt)) Tys.nil))) n6.2.1)]) (ep_var cx 2) (ef_pure (ep_var cx 7)) (fun s => perm_at 1 (by rfl)) (fun v9 _ => ?_)
        refine sf_lt (fun l_met9 => SF X _ _ (cell q2 (cLst tInt l_met9) :: [cell q3 (cLst (tTup (Tys.cons tTx (Tys.cons tInt Tys.nil))) n6.2.2), cell q1 (cDic ktTx (tTup (Tys.cons (tTuF (tTup (Tys.cons tTx (Tys.cons tInt Tys.nil)))) (Tys.cons (tOpt (tTuL tInt)) Tys.nil))) n6.2.1)]) _ _ _ _ _) _ (fun l_met9 => ?_)
        refine sf_grdS (fun hG10 => ?_)
        refine sf_dput (γ := Unit) (L := (fun _ : Unit => [cell q2 (cLst tInt l_met9), cell q3 (cLst (tTup (Tys.cons tTx (Tys.cons tInt Tys.nil))) n6.2.2), cell q1 (cDic ktTx (tTup (Tys.cons (tTuF (tTup (Tys.cons tTx (Tys.cons tInt Tys.nil)))) (Tys.cons (tOpt (tTuL tInt)) Tys.nil))) n6.2.1)])) (s := ()) (key := fun _ => (d5.1 ++ d7.1)) (kv := fun _ => n6.2.1) (R := fun _ => [cell q2 (cLst tInt l_met9), cell q3 (cLst (tTup (Tys.cons tTx (Tys.cons tInt Tys.nil))) n6.2.2)]) (hu_of hr) (ef_grd fun h => ep_ix ix_list (d_ixL (A := (tTup (Tys.cons (tTuF (tTup (Tys.cons tTx (Tys.cons tInt Tys.nil)))) (Tys.cons (tOpt (tTuL tInt)) Tys.nil))))) (ep_var cx 0) (ep_var cx 7) h) (fun s => perm_at 2 (by rfl)) (fun _ => (ep_var cx 1)) (fun _ => (ep_op op_add_str d_catT (ep_var cx 4) (ep_var cx 6) (by exact hG10))) (fun v11 _ => ?_)
        refine sf_lt (fun l_found11 => SF X _ _ (cell q1 (cDic ktTx (tTup (Tys.cons (tTuF (tTup (Tys.cons tTx (Tys.cons tInt Tys.nil)))) (Tys.cons (tOpt (tTuL tInt)) Tys.nil))) l_found11) :: [cell q2 (cLst tInt l_met9), cell q3 (cLst (tTup (Tys.cons tTx (Tys.cons tInt Tys.nil))) n6.2.2)]) _ _ _ _ _) _ (fun l_found11 => ?_)
        refine sf_append (γ := Unit) (L := (fun _ : Unit => [cell q1 (cDic ktTx (tTup (Tys.cons (tTuF (tTup (Tys.cons tTx (Tys.cons tInt Tys.nil)))) (Tys.cons (tOpt (tTuL tInt)) Tys.nil))) l_found11), cell q2 (cLst tInt l_met9), cell q3 (cLst (tTup (Tys.cons tTx (Tys.cons tInt Tys.nil))) n6.2.2)])) (s := ()) (xs := fun _ => n6.2.2) (R := fun _ => [cell q1 (cDic ktTx (tTup (Tys.cons (tTuF (tTup (Tys.cons tTx (Tys.cons tInt Tys.nil)))) (Tys.cons (tOpt (tTuL tInt)) Tys.nil))) l_found11), cell q2 (cLst tInt l_met9)]) (ep_var cx 3) (ef_tup (af_consF (ef_grd fun h => ep_op op_add_str d_catT (ep_var cx 4) (ep_var cx 6) h) (fun d s => (ap_cons (ep_var cx 7) ap_nil)))) (fun s => perm_at 2 (by rfl)) (fun v12 _ => ?_)
        refine sf_lt (fun l_waiting12 => SF X _ _ (cell q3 (cLst (tTup (Tys.cons tTx (Tys.cons tInt Tys.nil))) l_waiting12) :: [cell q1 (cDic ktTx (tTup (Tys.cons (tTuF (tTup (Tys.cons tTx (Tys.cons tInt Tys.nil)))) (Tys.cons (tOpt (tTuL tInt)) Tys.nil))) l_found11), cell q2 (cLst tInt l_met9)]) _ _ _ _ _) _ (fun l_waiting12 => ?_)
        exact sf_nil (.s (.s (.s (.s (.s (.s (.u (.u (.nil))))))))) rfl (fun I F H q => (show Sub _ _ from .refl) I F H (Sub.perm ((perm_at (ys := [cell q1 (cDic ktTx (tTup (Tys.cons (tTuF (tTup (Tys.cons tTx (Tys.cons tInt Tys.nil)))) (Tys.cons (tOpt (tTuL tInt)) Tys.nil))) _), cell q2 (cLst tInt _)]) 0 (by rfl)).trans (.cons _ ((perm_at (ys := [cell q1 (cDic ktTx (tTup (Tys.cons (tTuF (tTup (Tys.cons tTx (Tys.cons tInt Tys.nil)))) (Tys.cons (tOpt (tTuL tInt)) Tys.nil))) _)]) 1 (by rfl)).trans (.cons _ (.refl _))))) I F H q))
    · exact sf_nil (.s (.s (.s (.s (.u (.u (.u (.u (.nil))))))))) rfl .refl
  · refine sf_freezeD (K := ktTx) (A := (tTup (Tys.cons (tTuF (tTup (Tys.cons tTx (Tys.cons tInt Tys.nil)))) (Tys.cons (tOpt (tTuL tInt)) Tys.nil)))) (kvs := n4.2.1) (R := [cell q3 (cLst (tTup (Tys.cons tTx (Tys.cons tInt Tys.nil))) n4.1), cell q2 (cLst tInt n4.2.2)]) (i := 1) (by rfl) ((perm_at (ys := [cell q3 (cLst (tTup (Tys.cons tTx (Tys.cons tInt Tys.nil))) _), cell q2 (cLst tInt _)]) 2 (by rfl)).trans (.cons _ (.refl _))) ?_
    exact sf_retP (γ := Unit) (L := (fun _ : Unit => [cell q3 (cLst (tTup (Tys.cons tTx (Tys.cons tInt Tys.nil))) n4.1), cell q2 (cLst tInt n4.2.2)])) (Lr := (fun _ : Unit => [])) (s := ()) (ep_if (tp_cmp op_eq d_eqI (ep_lenO cx T.z_len (ep_var cx 2) (.tl (.hd))) (ep_callB cx call_len_seq dn_lenL T.z_len (by decide +kernel) (ap_cons (ep_var cx 0) ap_nil) trivial) trivial) (ep_some nn_dic (ep_var cx 1)) (ep_noneO (A := (tDic ktTx (tTup (Tys.cons (tTuF (tTup (Tys.cons tTx (Tys.cons tInt Tys.nil)))) (Tys.cons (tOpt (tTuL tInt)) Tys.nil))))))) (.drop (.drop .nil))
def m_l_is_knot (pt : (((List (Tx × Int × Unit)) × (Option (List Int)) × Unit) × Unit)) (st : Unit) : Res Exc (Bool × Unit) := Out.fn (ν := Empty) (Out.bnd ((fun (s : Unit) => ((Res.val ((!(isTy "tuple" ((dTup (dCons (dTuL (dTup (dCons dTx (dCons PyData.int dNil)))) (dCons (dOpt (dTuL PyData.int)) dNil))) pt.1))), s)).bnd fun b s => if b = true then Res.val (true, s) else (((Res.grd (dIsSeq ((dTup (dCons (dTuL (dTup (dCons dTx (dCons PyData.int dNil)))) (dCons (dOpt (dTuL PyData.int)) dNil))) pt.1) = true) (((dItems ((dTup (dCons (dTuL (dTup (dCons dTx (dCons PyData.int dNil)))) (dCons (dOpt (dTuL PyData.int)) dNil))) pt.1)).length : Int), s)).bnd fun x s => Res.val ((!decide (x = (2 : Int))), s)).bnd fun b s => if b = true then Res.val (true, s) else (Res.val ((!(isTy "tuple" ((dTuL (dTup (dCons dTx (dCons PyData.int dNil)))) pt.1.1))), s))))) ()) fun b _ => (if b = true then Out.ret (false, ()) else Out.nx ()).seq fun (n1 : Unit) => Out.bnd ((fun (s : Unit) => (Res.val (pt.1.1, s))) ()) fun xs _ => (Out.forL xs (() : Unit) fun (n2 : Unit) d3 => Out.bnd ((fun (s : Unit) => ((Res.val ((!(isTy "tuple" ((dTup (dCons dTx (dCons PyData.int dNil))) d3))), s)).bnd fun b s => if b = true then Res.val (true, s) else (((Res.grd (dIsSeq ((dTup (dCons dTx (dCons PyData.int dNil))) d3) = true) (((dItems ((dTup (dCons dTx (dCons PyData.int dNil))) d3)).length : Int), s)).bnd fun x s => Res.val ((!decide (x = (2 : Int))), s)).bnd fun b s => if b = true then Res.val (true, s) else (Res.val ((!(isTy "str" (dTx d3.1))), s))))) ()) fun b _ => (if b = true then Out.ret (false, ()) else Out.nx ()).seq fun (n4 : Unit) => Out.bnd ((fun (s : Unit) => (Res.val (((!(isTy "int" (PyData.int d3.2.1))) || (isTy "bool" (PyData.int d3.2.1))), s))) ()) fun b _ => (if b = true then Out.ret (false, ()) else Out.nx ()).seq fun (n5 : Unit) => Out.nx ()).seq fun (n2 : Unit) => Out.bnd ((fun (s : Unit) => ((Res.val (pt.1.1, s)).bnd fun xs s => if xs.length ≤ sizeLine then Res.nox (ε := Empty) (ε' := Exc) (Res.compL (ε := Empty) (fun (d6 : (Tx × Int × Unit)) s => Res.val (true, s)) (fun (d6 : (Tx × Int × Unit)) s => Res.nox (ε := Exc) (ε' := Empty) (Res.val (d6.1, s))) xs s []) else .stuck)) ()) fun l_signs _ => Out.bnd ((fun (s : Unit) => (((Res.val (l_signs, s)).bnd fun d s => Res.grd (List.length d + 1 < 4096) (sortK dTx (dedupT d), s)).bnd fun y s => Res.grd (eqOk ((dLst dTx) l_signs) ((dLst dTx) y)) ((!PyData.eqv ((dLst dTx) l_signs) ((dLst dTx) y)), s))) ()) fun b _ => (if b = true then Out.ret (false, ()) else Out.nx ()).seq fun (n7 : Unit) => Out.bnd ((fun (s : Unit) => (Res.val ((Option.isNone pt.1.2.1), s))) ()) fun b _ => (if b = true then Out.ret (true, ()) else Out.nx ()).seq fun (n8 : Unit) => Out.bnd ((fun (s : Unit) => ((Res.val ((isTy "tuple" ((dOpt (dTuL PyData.int)) pt.1.2.1)), s)).bnd fun b s => if b = true then ((((((Res.val (pt.1.2.1, s)).bnd fun x s => Res.grd (x.isSome = true) (x.getD default, s)).bnd fun xs s => if xs.length ≤ sizeLine then Res.nox (ε := Empty) (ε' := Exc) (Res.compL (ε := Empty) (fun (d9 : Int) s => Res.val (true, s)) (fun (d9 : Int) s => Res.nox (ε := Exc) (ε' := Empty) (Res.val ((isTy "bool" (PyData.int d9)), s))) xs s []) else .stuck).bnd fun d s => Res.val ((d, ()), s)).bnd fun t s => Res.val ((List.any t.1 id), s)).bnd fun x s => Res.val (!x, s)) else Res.val (false, s))) ()) fun d s => Out.ret (d, s))
theorem sc_l_is_knot : FnScope ["_law_knot", "_law_way", "_law_signs", "_law_number"] ["_law_knot"] (defScope s_l_is_knot) := ⟨rfl, rfl, rfl, by decide +kernel, rfl, by decide +kernel, by decide +kernel⟩
theorem ok_l_is_knot (T : Tops K mg) : FnOk P w K mg base (L2.CX P w) 1 T.f_l_is_knot T.d_l_is_knot ["_law_knot"] (spec (fun a : Unit => (Tys.cons (tTup (Tys.cons (tTuF (tTup (Tys.cons tTx (Tys.cons tInt Tys.nil)))) (Tys.cons (tOpt (tTuL tInt)) Tys.nil))) Tys.nil)) (fun _ _ => []) (fun a : Unit => rtV tBool (fun _ => [])) (fun _ => (xt T)) m_l_is_knot) := by
  refine fn_ok T.F_l_is_knot sc_l_is_knot (k := 0) (body := fun X a pt st hm cx cc => ⟨Empty, (fun z => nomatch z), (fun z => nomatch z), _, rfl, ?_⟩)
  obtain ⟨rfl, rfl, rfl, rfl, rfl, hr, hst, hfr⟩ := hm
  refine sf_if (γ := Unit) (L := (fun _ : Unit => [])) (s := ()) (gj := (fun n1 : Unit => [.dat (tTup (Tys.cons (tTuF (tTup (Tys.cons tTx (Tys.cons tInt Tys.nil)))) (Tys.cons (tOpt (tTuL tInt)) Tys.nil))) pt.1, .unk, .unk, .unk])) (lj := (fun n1 : Unit => [])) (tf_w (tf_or (tf_pure (tp_not (tp_val (ep_isi cx (n := "tuple") (by simp) T.z_isinstance T.z_tuple (by decide +kernel) (ep_coe (coe_tup (coes_cons (coe_tuF (coe_tup (coes_cons coe_tx (coes_cons coe_int coes_nil)))) (coes_cons (coe_opt (coe_tuL coe_int)) coes_nil))) (ep_var cx 0)))))) (fun s => (tf_or (tf_cmpFPT op_ne d_neI (ef_callBP cx call_len_seq dn_lenD T.z_len (by decide +kernel) (ap_cons (ep_coe (coe_tup (coes_cons (coe_tuF (coe_tup (coes_cons coe_tx (coes_cons coe_int coes_nil)))) (coes_cons (coe_opt (coe_tuL coe_int)) coes_nil))) (ep_var cx 0)) ap_nil)) (fun x s => ep_int)) (fun s => (tf_or1 (tf_pure (tp_not (tp_val (ep_isi cx (n := "tuple") (by simp) T.z_isinstance T.z_tuple (by decide +kernel) (ep_coe (coe_tuF (coe_tup (coes_cons coe_tx (coes_cons coe_int coes_nil)))) (ep_ixTup (ep_var cx 0) 0)))))))))))) (fun _ => ?_) (fun _ => ?_) (fun n1 => ?_)
  · exact sf_retP (γ := Unit) (L := (fun _ : Unit => [])) (Lr := (fun _ : Unit => [])) (s := ()) ep_bool .refl
  · exact sf_nil (.s (.u (.u (.u (.nil))))) rfl .refl
  · refine sf_for (γ := Unit) (L := (fun _ : Unit => [])) (s := ()) (gj := (fun n2 : Unit => [.dat (tTup (Tys.cons (tTuF (tTup (Tys.cons tTx (Tys.cons tInt Tys.nil)))) (Tys.cons (tOpt (tTuL tInt)) Tys.nil))) pt.1, .unk, .unk, .unk])) (lj := (fun n2 : Unit => [])) (n0 := fun _ => ()) cc (if_tupF (ef_pure (ep_ixTup (ep_var cx 0) 0))) (gf_name (B := (tTup (Tys.cons tTx (Tys.cons tInt Tys.nil)))) cx 1) (fun _ => ⟨(.s (.u (.u (.u (.nil))))), rfl, .refl⟩) (fun n2 d3 => ?_) (fun n2 => ?_)
    · refine sf_if (γ := Unit) (L := (fun _ : Unit => [])) (s := ()) (gj := (fun n4 : Unit => [.dat (tTup (Tys.cons (tTuF (tTup (Tys.cons tTx (Tys.cons tInt Tys.nil)))) (Tys.cons (tOpt (tTuL tInt)) Tys.nil))) pt.1, .dat (tTup (Tys.cons tTx (Tys.cons tInt Tys.nil))) d3, .unk, .unk])) (lj := (fun n4 : Unit => [])) (tf_w (tf_or (tf_pure (tp_not (tp_val (ep_isi cx (n := "tuple") (by simp) T.z_isinstance T.z_tuple (by decide +kernel) (ep_coe (coe_tup (coes_cons coe_tx (coes_cons coe_int coes_nil))) (ep_var cx 1)))))) (fun s => (tf_or (tf_cmpFPT op_ne d_neI (ef_callBP cx call_len_seq dn_lenD T.z_len (by decide +kernel) (ap_cons (ep_coe (coe_tup (coes_cons coe_tx (coes_cons coe_int coes_nil))) (ep_var cx 1)) ap_nil)) (fun x s => ep_int)) (fun s => (tf_or1 (tf_pure (tp_not (tp_val (ep_isi cx (n := "str") (by simp) T.z_isinstance T.z_str (by decide +kernel) (ep_coe coe_tx (ep_ixTup (ep_var cx 1) 0)))))))))))) (fun _ => ?_) (fun _ => ?_) (fun n4 => ?_)
      · exact sf_retP (γ := Unit) (L := (fun _ : Unit => [])) (Lr := (fun _ : Unit => [])) (s := ()) ep_bool .refl
      · exact sf_nil (.s (.s (.u (.u (.nil))))) rfl .refl
      · refine sf_if (γ := Unit) (L := (fun _ : Unit => [])) (s := ()) (gj := (fun n5 : Unit => [.dat (tTup (Tys.cons (tTuF (tTup (Tys.cons tTx (Tys.cons tInt Tys.nil)))) (Tys.cons (tOpt (tTuL tInt)) Tys.nil))) pt.1, .dat (tTup (Tys.cons tTx (Tys.cons tInt Tys.nil))) d3, .unk, .unk])) (lj := (fun n5 : Unit => [])) (tf_pure (tp_w (tp_or (tp_not (tp_val (ep_isi cx (n := "int") (by simp) T.z_isinstance T.z_int (by decide +kernel) (ep_coe coe_int (ep_ixTup (ep_var cx 1) 1))))) (tp_or1 (tp_val (ep_isi cx (n := "bool") (by simp) T.z_isinstance T.z_bool (by decide +kernel) (ep_coe coe_int (ep_ixTup (ep_var cx 1) 1)))))))) (fun _ => ?_) (fun _ => ?_) (fun n5 => ?_)
        · exact sf_retP (γ := Unit) (L := (fun _ : Unit => [])) (Lr := (fun _ : Unit => [])) (s := ()) ep_bool .refl
        · exact sf_nil (.s (.s (.u (.u (.nil))))) rfl .refl
        · exact sf_nil (.s (.u (.u (.u (.nil))))) rfl .refl
    · refine sf_lcF (γ := Unit) (L := (fun _ : Unit => [])) (s := ()) cx cc 2 (lc_mk (ownl := [("_law_way", 1)]) cx rfl (if_tupF (ef_pure (ep_ixTup (ep_var cx 0) 0))) (by decide +kernel) (gfb_name (B := (tTup (Tys.cons tTx (Tys.cons tInt Tys.nil)))) cx 1) (fun s0 H0 C0 cl fp Cb d6 s => tsf_nil) (fun s0 H0 C0 cl fp Cb d6 s => (ef_nox (xt := (xt T)) (ef_pure (ep_ixTup (ep_var Cb 1) 0))))) (fun l_signs _ => ?_)
      refine sf_if (γ := Unit) (L := (fun _ : Unit => [])) (s := ()) (gj := (fun n7 : Unit => [.dat (tTup (Tys.cons (tTuF (tTup (Tys.cons tTx (Tys.cons tInt Tys.nil)))) (Tys.cons (tOpt (tTuL tInt)) Tys.nil))) pt.1, .unk, .dat (tLst tTx) l_signs, .unk])) (lj := (fun n7 : Unit => [])) (tf_cmpPFG (op_neD hr.units) (d_neD (coe_lst coe_tx)) (ep_var cx 2) (ef_frz (en_sortedSetL cx cc.calm (hu10 hr) T.z_sorted T.z_set (ef_pure (ep_var cx 2))))) (fun _ => ?_) (fun _ => ?_) (fun n7 => ?_)
      · exact sf_retP (γ := Unit) (L := (fun _ : Unit => [])) (Lr := (fun _ : Unit => [])) (s := ()) ep_bool .refl
      · exact sf_nil (.s (.u (.s (.u (.nil))))) rfl .refl
      · refine sf_if (γ := Unit) (L := (fun _ : Unit => [])) (s := ()) (gj := (fun n8 : Unit => [.dat (tTup (Tys.cons (tTuF (tTup (Tys.cons tTx (Tys.cons tInt Tys.nil)))) (Tys.cons (tOpt (tTuL tInt)) Tys.nil))) pt.1, .unk, .dat (tLst tTx) l_signs, .unk])) (lj := (fun n8 : Unit => [])) (tf_pure (tp_isN (ep_ixTup (ep_var cx 0) 1))) (fun _ => ?_) (fun _ => ?_) (fun n8 => ?_)
        · exact sf_retP (γ := Unit) (L := (fun _ : Unit => [])) (Lr := (fun _ : Unit => [])) (s := ()) ep_bool .refl
        · exact sf_nil (.s (.u (.s (.u (.nil))))) rfl .refl
        · exact sf_ret (γ := Unit) (L := (fun _ : Unit => [])) (Lr := (fun _ : Unit => [])) (s := ()) (ef_and (ef_pure (ep_isi cx (n := "tuple") (by simp) T.z_isinstance T.z_tuple (by decide +kernel) (ep_coe (coe_opt (coe_tuL coe_int)) (ep_ixTup (ep_var cx 0) 1)))) (fun s => (ef_one (ef_not (ef_callBT cx (cr_any cc.calm) dn_any (fun _ => trivial) T.z_any (by decide +kernel) (af_consF (ef_frz (en_lc cx cc (lc_mk (ownl := [("_law_number", 3)]) cx rfl (if_tup (ef_unopt (ef_pure (ep_ixTup (ep_var cx 0) 1)))) (by decide +kernel) (gfb_name (B := tInt) cx 3) (fun s0 H0 C0 cl fp Cb d9 s => tsf_nil) (fun s0 H0 C0 cl fp Cb d9 s => (ef_nox (xt := (xt T)) (ef_pure (ep_isi Cb (n := "bool") (by simp) T.z_isinstance T.z_bool (by decide +kernel) (ep_coe coe_int (ep_var Cb 3))))))))) (fun d s => ap_nil))))))) (fun s => .refl)
def m_l_right (pt : ((List (Tx × (List Int) × Unit)) × Unit)) (st : Unit) : Res Exc (Bool × Unit) := Out.fn (ν := Empty) (Out.lt pt.1 fun l_handed => Out.bnd ((fun (s : Unit) => ((m_wood_of (l_handed, ()) ()).up s)) ()) fun l_wood _ => Out.bnd ((fun (s : Unit) => ((Res.grd (eqOk ((dLst (dTup (dCons dTx (dCons (dTuL PyData.int) dNil)))) l_handed) ((dLst (dTup (dCons dTx (dCons (dTuL PyData.int) dNil)))) pt.1)) ((!PyData.eqv ((dLst (dTup (dCons dTx (dCons (dTuL PyData.int) dNil)))) l_handed) ((dLst (dTup (dCons dTx (dCons (dTuL PyData.int) dNil)))) pt.1)), s)).bnd fun b s => if b = true then Res.val (true, s) else ((Res.val ((!(isTy "list" ((dLst (dTup (dCons (dTuL (dTup (dCons dTx (dCons PyData.int dNil)))) (dCons (dOpt (dTuL PyData.int)) dNil)))) l_wood))), s)).bnd fun b s => if b = true then Res.val (true, s) else (Res.val ((decide ((List.length l_wood : Int) = (0 : Int))), s))))) ()) fun b _ => (if b = true then Out.ret (false, ()) else Out.nx ()).seq fun (n1 : Unit) => Out.bnd ((fun (s : Unit) => (((((Res.val (l_wood, s)).bnd fun xs s => if xs.length ≤ sizeLine then Res.nox (ε := Empty) (ε' := Exc) (Res.compL (ε := Empty) (fun (d2 : ((List (Tx × Int × Unit)) × (Option (List Int)) × Unit)) s => Res.val (true, s)) (fun (d2 : ((List (Tx × Int × Unit)) × (Option (List Int)) × Unit)) s => Res.nox (ε := Exc) (ε' := Empty) ((m_l_is_knot (d2, ()) ()).up s)) xs s []) else .stuck).bnd fun d s => Res.val ((d, ()), s)).bnd fun t s => Res.val ((List.all t.1 id), s)).bnd fun b s => Res.val (!b, s))) ()) fun b _ => (if b = true then Out.ret (false, ()) else Out.nx ()).seq fun (n3 : Unit) => Out.bnd ((fun (s : Unit) => ((m_l_named (l_wood, ()) ()).up s)) ()) fun l_found _ => Out.bnd ((fun (s : Unit) => (Res.val ((Option.isNone l_found), s))) ()) fun b _ => (if b = true then Out.ret (false, ()) else Out.nx ()).seq fun (n4 : Unit) => Out.bnd ((fun (s : Unit) => ((m_l_beginnings (pt.1, ()) ()).up s)) ()) fun l_due _ => Out.bnd ((fun (s : Unit) => (((Res.grd ((l_found).isSome = true /-OptDic-/) (sortK dTx (List.map (fun y => y.1) ((l_found).getD default)), s)).bnd fun x s => (Res.val (sortK dTx (List.map (fun y => y.1) l_due), s)).bnd fun y s => Res.grd (eqOk ((dLst dTx) x) ((dLst dTx) y)) ((PyData.eqv ((dLst dTx) x) ((dLst dTx) y)), s)).bnd fun b s => if b = true then (((((Res.val (l_due, s)).bnd fun d s => Res.val (d.map (·.1), s)).bnd fun xs s => if xs.length ≤ sizeLine then Res.nox (ε := Empty) (ε' := Exc) (Res.compL (ε := Empty) (fun (d5 : Tx) s => Res.val (true, s)) (fun (d5 : Tx) s => Res.nox (ε := Exc) (ε' := Empty) (((Res.grd (((l_found).isSome = true /-OptDic-/) ∧ ((dGet ((l_found).getD default) d5).isSome = true)) (((dGet ((l_found).getD default) d5).getD default), s)).bnd fun x s => Res.val (x.2.1, s)).bnd fun x s => (Res.grd (((dGet l_due d5).isSome = true)) (((dGet l_due d5).getD default), s)).bnd fun y s => Res.grd (eqOk ((dOpt (dTuL PyData.int)) x) ((dOpt (dTuL PyData.int)) y)) ((PyData.eqv ((dOpt (dTuL PyData.int)) x) ((dOpt (dTuL PyData.int)) y)), s))) xs s []) else .stuck).bnd fun d s => Res.val ((d, ()), s)).bnd fun t s => Res.val ((List.all t.1 id), s)) else Res.val (false, s))) ()) fun d s => Out.ret (d, s))
theorem sc_l_right : FnScope ["_law_patterns_here", "_law_handed", "_law_wood", "_law_found", "_law_due", "_law_knot", "_law_name"] ["_law_patterns_here"] (defScope s_l_right) := ⟨rfl, rfl, rfl, by decide +kernel, rfl, by decide +kernel, by decide +kernel⟩
theorem ok_l_right (T : Tops K mg) : FnOk P w K mg base (L2.CX P w) 3 T.f_l_right T.d_l_right ["_law_patterns_here"] (spec (fun a : Unit => (Tys.cons (tLst (tTup (Tys.cons tTx (Tys.cons (tTuL tInt) Tys.nil)))) Tys.nil)) (fun _ _ => []) (fun a : Unit => rtV tBool (fun _ => [])) (fun _ => (xt T)) m_l_right) := by
  refine fn_ok T.F_l_right sc_l_right (k := 2) (body := fun X a pt st hm cx cc => ⟨Empty, (fun z => nomatch z), (fun z => nomatch z), _, rfl, ?_⟩)
  obtain ⟨rfl, rfl, rfl, rfl, rfl, hr, hst, hfr⟩ := hm
  refine sf_asgP cx 1 (ep_callTy cx call_list_of dn_listL T.z_list (by decide +kernel) (ap_cons (ep_var cx 0) ap_nil) trivial) (fun l_handed => ?_)
  refine sf_asg (γ := Unit) (L := (fun _ : Unit => [])) (s := ()) cx 2 (ef_call0P cx (ok_wood_of T) (hr.mono (by decide)) (T.g_wood_of) (T.F_wood_of).kp T.b_wood_of passWX (ap_cons (ep_var cx 1) ap_nil) (xtr T)) (fun l_wood _ => ?_)
  refine sf_if (γ := Unit) (L := (fun _ : Unit => [])) (s := ()) (gj := (fun n1 : Unit => [.dat (tLst (tTup (Tys.cons tTx (Tys.cons (tTuL tInt) Tys.nil)))) pt.1, .dat (tLst (tTup (Tys.cons tTx (Tys.cons (tTuL tInt) Tys.nil)))) l_handed, .dat (tLst (tTup (Tys.cons (tTuF (tTup (Tys.cons tTx (Tys.cons tInt Tys.nil)))) (Tys.cons (tOpt (tTuL tInt)) Tys.nil)))) l_wood, .unk, .unk, .unk, .unk])) (lj := (fun n1 : Unit => [])) (tf_w (tf_or (tf_grd fun h => tp_cmp (op_neD hr.units) (d_neD (coe_lst (coe_tup (coes_cons coe_tx (coes_cons (coe_tuL coe_int) coes_nil))))) (ep_var cx 1) (ep_var cx 0) h) (fun s => (tf_or (tf_pure (tp_not (tp_val (ep_isi cx (n := "list") (by simp) T.z_isinstance T.z_list (by decide +kernel) (ep_coe (coe_lst (coe_tup (coes_cons (coe_tuF (coe_tup (coes_cons coe_tx (coes_cons coe_int coes_nil)))) (coes_cons (coe_opt (coe_tuL coe_int)) coes_nil)))) (ep_var cx 2)))))) (fun s => (tf_or1 (tf_pure (tp_cmp op_eq d_eqI (ep_callB cx call_len_seq dn_lenL T.z_len (by decide +kernel) (ap_cons (ep_var cx 2) ap_nil) trivial) ep_int trivial)))))))) (fun _ => ?_) (fun _ => ?_) (fun n1 => ?_)
  · exact sf_retP (γ := Unit) (L := (fun _ : Unit => [])) (Lr := (fun _ : Unit => [])) (s := ()) ep_bool .refl
  · exact sf_nil (.s (.s (.s (.u (.u (.u (.u (.nil)))))))) rfl .refl
  · refine sf_if (γ := Unit) (L := (fun _ : Unit => [])) (s := ()) (gj := (fun n3 : Unit => [.dat (tLst (tTup (Tys.cons tTx (Tys.cons (tTuL tInt) Tys.nil)))) pt.1, .dat (tLst (tTup (Tys.cons tTx (Tys.cons (tTuL tInt) Tys.nil)))) l_handed, .dat (tLst (tTup (Tys.cons (tTuF (tTup (Tys.cons tTx (Tys.cons tInt Tys.nil)))) (Tys.cons (tOpt (tTuL tInt)) Tys.nil)))) l_wood, .unk, .unk, .unk, .unk])) (lj := (fun n3 : Unit => [])) (tf_not (tf_val (ef_callBT cx (cr_all cc.calm) dn_all (fun _ => trivial) T.z_all (by decide +kernel) (af_consF (ef_frz (en_lc cx cc (lc_mk (ownl := [("_law_knot", 5)]) cx rfl (if_list (ef_pure (ep_var cx 2))) (by decide +kernel) (gfb_name (B := (tTup (Tys.cons (tTuF (tTup (Tys.cons tTx (Tys.cons tInt Tys.nil)))) (Tys.cons (tOpt (tTuL tInt)) Tys.nil)))) cx 5) (fun s0 H0 C0 cl fp Cb d2 s => tsf_nil) (fun s0 H0 C0 cl fp Cb d2 s => (ef_nox (xt := (xt T)) (ef_call0P Cb (ok_l_is_knot T) (hr.mono (by decide)) (T.g_l_is_knot) (T.F_l_is_knot).kp T.b_l_is_knot passWX (ap_cons (ep_var Cb 5) ap_nil) (xtr T))))))) (fun d s => ap_nil))))) (fun _ => ?_) (fun _ => ?_) (fun n3 => ?_)
    · exact sf_retP (γ := Unit) (L := (fun _ : Unit => [])) (Lr := (fun _ : Unit => [])) (s := ()) ep_bool .refl
    · exact sf_nil (.s (.s (.s (.u (.u (.u (.u (.nil)))))))) rfl .refl
    · refine sf_asg (γ := Unit) (L := (fun _ : Unit => [])) (s := ()) cx 3 (ef_call0P cx (ok_l_named T) (hr.mono (by decide)) (T.g_l_named) (T.F_l_named).kp T.b_l_named passWX (ap_cons (ep_var cx 2) ap_nil) (xtr T)) (fun l_found _ => ?_)
      refine sf_if (γ := Unit) (L := (fun _ : Unit => [])) (s := ()) (gj := (fun n4 : Unit => [.dat (tLst (tTup (Tys.cons tTx (Tys.cons (tTuL tInt) Tys.nil)))) pt.1, .dat (tLst (tTup (Tys.cons tTx (Tys.cons (tTuL tInt) Tys.nil)))) l_handed, .dat (tLst (tTup (Tys.cons (tTuF (tTup (Tys.cons tTx (Tys.cons tInt Tys.nil)))) (Tys.cons (tOpt (tTuL tInt)) Tys.nil)))) l_wood, .dat (tOpt (tDic ktTx (tTup (Tys.cons (tTuF (tTup (Tys.cons tTx (Tys.cons tInt Tys.nil)))) (Tys.cons (tOpt (tTuL tInt)) Tys.nil))))) l_found, .unk, .unk, .unk])) (lj := (fun n4 : Unit => [])) (tf_pure (tp_isN (ep_var cx 3))) (fun _ => ?_) (fun _ => ?_) (fun n4 => ?_)
      · exact sf_retP (γ := Unit) (L := (fun _ : Unit => [])) (Lr := (fun _ : Unit => [])) (s := ()) ep_bool .refl
      · exact sf_nil (.s (.s (.s (.s (.u (.u (.u (.nil)))))))) rfl .refl
      · refine sf_asg (γ := Unit) (L := (fun _ : Unit => [])) (s := ()) cx 4 (ef_call0P cx (ok_l_beginnings T) (hr.mono (by decide)) (T.g_l_beginnings) (T.F_l_beginnings).kp T.b_l_beginnings passWX (ap_cons (ep_var cx 0) ap_nil) (xtr T)) (fun l_due _ => ?_)
        exact sf_ret (γ := Unit) (L := (fun _ : Unit => [])) (Lr := (fun _ : Unit => [])) (s := ()) (ef_and (ef_cmp (op_eqD hr.units) (d_eqD (coe_lst coe_tx)) (ef_frz (en_grd fun h => en_sortedF (K := ktTx) (A := (tTup (Tys.cons (tTuF (tTup (Tys.cons tTx (Tys.cons tInt Tys.nil)))) (Tys.cons (tOpt (tTuL tInt)) Tys.nil)))) cx cc.calm nk_tx srk_tx coe_tx (hu10 hr) T.z_sorted (edic_opt (ep_var cx 3) h))) (fun x s => (ef_frz (en_sortedF (K := ktTx) (A := (tOpt (tTuL tInt))) cx cc.calm nk_tx srk_tx coe_tx (hu10 hr) T.z_sorted (edic_imm (ep_var cx 4)))))) (fun s => (ef_one (ef_callBT cx (cr_all cc.calm) dn_all (fun _ => trivial) T.z_all (by decide +kernel) (af_consF (ef_frz (en_lc cx cc (lc_mk (ownl := [("_law_name", 6)]) cx rfl (if_keys (K := ktTx) (A := (tOpt (tTuL tInt))) (ef_pure (ep_var cx 4))) (by decide +kernel) (gfb_name (B := tTx) cx 6) (fun s0 H0 C0 cl fp Cb d5 s => tsf_nil) (fun s0 H0 C0 cl fp Cb d5 s => (ef_nox (xt := (xt T)) (ef_cmp (op_eqD hr.units) (d_eqD (coe_opt (coe_tuL coe_int))) (ef_ixTup (ef_grd fun h => (ep_dget (K := ktTx) (hu_of hr) (edic_opt (ep_var Cb 3) (And.left h)) (ep_var Cb 6) (And.right h))) 1) (fun x s => (ef_grd fun h => (ep_dget (K := ktTx) (hu_of hr) (edic_imm (ep_var Cb 4)) (ep_var Cb 6) h))))))))) (fun d s => ap_nil)))))) (fun s => .refl)
def m_l_drawn (pt : (Unit × Unit)) (st : (List Int)) : Res Exc ((List (Tx × (List Int) × Unit)) × (List Int)) := Out.fn (ν := Empty) (Out.bnd ((fun (s : (List Int)) => (m_l_letters ((), ()) s)) st) fun l_letters_here st => Out.bnd ((fun (s : (List Int)) => (((m_l_word ((), (l_letters_here, ((8 : Int), ()))) s).bnd fun d s => ((m_l_word ((), (l_letters_here, ((8 : Int), ()))) s).bnd fun d s => Res.val (d :: [], s)).bnd fun t s => Res.val (d :: t, s)).bnd fun t s => Res.grd (List.length t ≤ 1000) (t, s))) st) fun l_words st => Out.bnd ((fun (s : (List Int)) => (m_l_patterns ((), (l_letters_here, (l_words, ((8 : Int), ())))) s)) st) fun l_patterns_here st => Out.bnd ((fun (s : Unit) => (Res.val (l_patterns_here, s))) ()) fun xs _ => (Out.forL xs ((st, l_patterns_here) : (List Int) × (List (Tx × (List Int) × Unit))) fun (n2 : (List Int) × (List (Tx × (List Int) × Unit))) d3 => Out.bnd ((fun (s : (List Int)) => ((m_l_next ((), ((4 : Int), ())) s).bnd fun x s => Res.val ((decide (x = (0 : Int))), s))) n2.1) fun b st => (if b = true then Out.bnd ((fun (s : (List Int)) => (((m_l_numbers ((), (d3.1, ((2 : Int), ()))) s).bnd fun d s => Res.val ((d, ()), s)).bnd fun t s => Res.val ((d3.1, t), s))) st) fun v5 st => if (List.length n2.2) < sizeLine then (Out.lt (n2.2 ++ [v5]) fun l_patterns_here5 => Out.nx (l_patterns_here5, st)) else .stuck else Out.nx (n2.2, st)).seq fun (n4 : (List (Tx × (List Int) × Unit)) × (List Int)) => Out.nx (n4.2, n4.1)).seq fun (n2 : (List Int) × (List (Tx × (List Int) × Unit))) => Out.ret (n2.2, n2.1))
theorem sc_l_drawn : FnScope ["_law_feed_here", "_law_letters_here", "_law_words", "_law_patterns_here", "_law_signs", "_law_numbers_here"] ["_law_feed_here"] (defScope s_l_drawn) := ⟨rfl, rfl, rfl, by decide +kernel, rfl, by decide +kernel, by decide +kernel⟩
theorem ok_l_drawn (T : Tops K mg) : FnOk P w K mg base (L2.CX P w) 5 T.f_l_drawn T.d_l_drawn ["_law_feed_here"] (spec (fun a : Addr => (Tys.cons (tCell a) Tys.nil)) (fun (a : Addr) (s : (List Int)) => [cell a (cLst tInt s)]) (fun a : Addr => rtV (tLst (tTup (Tys.cons tTx (Tys.cons (tTuL tInt) Tys.nil)))) (fun s : (List Int) => [cell a (cLst tInt s)])) (fun _ => (xt T)) m_l_drawn) := by
  refine fn_ok T.F_l_drawn sc_l_drawn (k := 4) (body := fun X a pt st hm cx cc => ⟨Empty, (fun z => nomatch z), (fun z => nomatch z), _, rfl, ?_⟩)
  obtain ⟨rfl, rfl, rfl, rfl, rfl, hr, hst, hfr⟩ := hm
  refine sf_asg (γ := (List Int)) (L := (fun s : (List Int) => [cell a (cLst tInt s)])) (s := st) cx 1 (ef_callSP a [] cx (ok_l_letters T) (hr.mono (by decide)) (T.g_l_letters) (T.F_l_letters).kp T.b_l_letters passWX (ap_cons (ep_var cx 0) ap_nil) (fun s => .refl _) (xtr T)) (fun l_letters_here st => ?_)
  refine sf_asg (γ := (List Int)) (L := (fun s : (List Int) => [cell a (cLst tInt s)])) (s := st) cx 2 (ef_frz (en_lst (afl_cons (ef_callSP a [] cx (ok_l_word T) (hr.mono (by decide)) (T.g_l_word) (T.F_l_word).kp T.b_l_word passWX (ap_cons (ep_var cx 0) (ap_cons (ep_var cx 1) (ap_cons ep_int ap_nil))) (fun s => .refl _) (xtr T)) (fun d s => (afl_consF (ef_callSP a [] cx (ok_l_word T) (hr.mono (by decide)) (T.g_l_word) (T.F_l_word).kp T.b_l_word passWX (ap_cons (ep_var cx 0) (ap_cons (ep_var cx 1) (ap_cons ep_int ap_nil))) (fun s => .refl _) (xtr T)) (fun d s => apl_nil)))))) (fun l_words st => ?_)
  refine sf_asgN (γ := (List Int)) (L := (fun s : (List Int) => [cell a (cLst tInt s)])) (s := st) cx 3 (en_callSP a [] cx (ok_l_patterns T) (hr.mono (by decide)) (T.g_l_patterns) (T.F_l_patterns).kp T.b_l_patterns passWX (ap_cons (ep_var cx 0) (ap_cons (ep_var cx 1) (ap_cons (ep_var cx 2) (ap_cons ep_int ap_nil)))) (fun s => .refl _) (xtr T)) (fun q1 l_patterns_here st => ?_)
  refine sf_for (γ := Unit) (L := (fun _ : Unit => [cell q1 (cLst (tTup (Tys.cons tTx (Tys.cons (tTuL tInt) Tys.nil))) l_patterns_here), cell a (cLst tInt st)])) (s := ()) (gj := (fun n2 : (List Int) × (List (Tx × (List Int) × Unit)) => [.dat (tCell a) (), .dat tTx l_letters_here, .dat (tLst tTx) l_words, .dat (tCell q1) (), .unk, .unk])) (lj := (fun n2 : (List Int) × (List (Tx × (List Int) × Unit)) => [cell q1 (cLst (tTup (Tys.cons tTx (Tys.cons (tTuL tInt) Tys.nil))) n2.2), cell a (cLst tInt n2.1)])) (n0 := fun _ => (st, l_patterns_here)) cc (if_list (ef_pure (ep_listO cx T.z_list (ep_var cx 3) (.hd)))) (gf_tup cc (gfs_cons (gf_name (B := tTx) cx 4) (gfs_cons (gf_name (B := (tTuL tInt)) cx 5) gfs_nil))) (fun _ => ⟨(.s (.s (.s (.s (.u (.u (.nil))))))), rfl, .refl⟩) (fun n2 d3 => ?_) (fun n2 => ?_)
  · refine sf_if (γ := (List Int)) (L := (fun s : (List Int) => [cell q1 (cLst (tTup (Tys.cons tTx (Tys.cons (tTuL tInt) Tys.nil))) n2.2), cell a (cLst tInt s)])) (s := n2.1) (gj := (fun n4 : (List (Tx × (List Int) × Unit)) × (List Int) => [.dat (tCell a) (), .dat tTx l_letters_here, .dat (tLst tTx) l_words, .dat (tCell q1) (), .dat tTx d3.1, .dat (tTuL tInt) d3.2.1])) (lj := (fun n4 : (List (Tx × (List Int) × Unit)) × (List Int) => [cell q1 (cLst (tTup (Tys.cons tTx (Tys.cons (tTuL tInt) Tys.nil))) n4.1), cell a (cLst tInt n4.2)])) (tf_cmpFPT op_eq d_eqI (ef_callSP a [cell q1 (cLst (tTup (Tys.cons tTx (Tys.cons (tTuL tInt) Tys.nil))) n2.2)] cx (ok_l_next T) (hr.mono (by decide)) (T.g_l_next) (T.F_l_next).kp T.b_l_next passWX (ap_cons (ep_var cx 0) (ap_cons ep_int ap_nil)) (fun s => perm_at 1 (by rfl)) (xtr T)) (fun x s => ep_int)) (fun st => ?_) (fun st => ?_) (fun n4 => ?_)
    · refine sf_append (γ := (List Int)) (L := (fun s : (List Int) => [cell q1 (cLst (tTup (Tys.cons tTx (Tys.cons (tTuL tInt) Tys.nil))) n2.2), cell a (cLst tInt s)])) (s := st) (xs := fun st => n2.2) (R := fun st => [cell a (cLst tInt st)]) (ep_var cx 3) (ef_tup (af_consP (ep_var cx 4) (af_consF (ef_callSP a [cell q1 (cLst (tTup (Tys.cons tTx (Tys.cons (tTuL tInt) Tys.nil))) n2.2)] cx (ok_l_numbers T) (hr.mono (by decide)) (T.g_l_numbers) (T.F_l_numbers).kp T.b_l_numbers passWX (ap_cons (ep_var cx 0) (ap_cons (ep_var cx 4) (ap_cons ep_int ap_nil))) (fun s => perm_at 1 (by rfl)) (xtr T)) (fun d s => ap_nil)))) (fun s => .refl _) (fun v5 st => ?_)
      refine sf_lt (fun l_patterns_here5 => SF X _ _ (cell q1 (cLst (tTup (Tys.cons tTx (Tys.cons (tTuL tInt) Tys.nil))) l_patterns_here5) :: [cell a (cLst tInt st)]) _ _ _ _ _) _ (fun l_patterns_here5 => ?_)
      exact sf_nil (.s (.s (.s (.s (.s (.s (.nil))))))) rfl .refl
    · exact sf_nil (.s (.s (.s (.s (.s (.s (.nil))))))) rfl .refl
    · exact sf_nil (.s (.s (.s (.s (.u (.u (.nil))))))) rfl .refl
  · exact sf_retL (γ := (List Int)) (L := (fun s : (List Int) => [cell q1 (cLst (tTup (Tys.cons tTx (Tys.cons (tTuL tInt) Tys.nil))) n2.2), cell a (cLst tInt s)])) (Lr := (fun s : (List Int) => [cell a (cLst tInt s)])) (s := n2.1) (ep_var cx 3) (.refl _) .refl
def m_law_ (pt : ((List Int) × Unit)) (st : Unit) : Res Exc (Bool × Unit) := Out.fn (ν := Empty) (Out.bnd ((fun (s : Unit) => ((((Res.val (([] : (List (Tx × (List Int) × Unit))), s)).bnd fun d s => Res.val ((d, ()), s)).bnd fun t s => (m_wood_of t ()).up s).bnd fun x s => (Res.val ((((), ((), ())) :: []), s)).bnd fun y s => Res.grd (eqOk ((dLst (dTup (dCons (dTuL (dTup (dCons dTx (dCons PyData.int dNil)))) (dCons (dOpt (dTuL PyData.int)) dNil)))) x) ((dLst (dTup (dCons (dTup dNil) (dCons (fun _ => PyData.none) dNil)))) y)) ((!PyData.eqv ((dLst (dTup (dCons (dTuL (dTup (dCons dTx (dCons PyData.int dNil)))) (dCons (dOpt (dTuL PyData.int)) dNil)))) x) ((dLst (dTup (dCons (dTup dNil) (dCons (fun _ => PyData.none) dNil)))) y)), s))) ()) fun b _ => (if b = true then Out.ret (false, ()) else Out.nx ()).seq fun (n1 : Unit) => Out.bnd ((fun (s : Unit) => (((((Res.val ((((1 : Int) + (if ((20 : Int), ((List.length pt.1 : Int), ())).2.1 < ((20 : Int), ((List.length pt.1 : Int), ())).1 then ((20 : Int), ((List.length pt.1 : Int), ())).2.1 else ((20 : Int), ((List.length pt.1 : Int), ())).1)), ()), s)).bnd fun t s => Res.grd (rngOk 0 t.1) (rng 0 t.1, s)).bnd fun xs s => if xs.length ≤ sizeLine then Res.nox (ε := Empty) (ε' := Exc) (Res.compL (ε := Empty) (fun (d2 : Int) s => Res.val (true, s)) (fun (d2 : Int) s => Res.nox (ε := Exc) (ε' := Empty) (((((m_l_feed (pt.1, (d2, ())) ()).up s).bnd fun d s => (m_l_drawn ((), ()) d).bnd fun r _ => Res.val (r, s)).bnd fun d s => Res.val ((d, ()), s)).bnd fun t s => (m_l_right t ()).up s)) xs s []) else .stuck).bnd fun d s => Res.val ((d, ()), s)).bnd fun t s => Res.val ((List.all t.1 id), s))) ()) fun d s => Out.ret (d, s))
theorem sc_law_ : FnScope ["_law_script", "_law_k"] ["_law_script"] (defScope s_law_) := ⟨rfl, rfl, rfl, by decide +kernel, rfl, by decide +kernel, by decide +kernel⟩
theorem ok_law_ (T : Tops K mg) : FnOk P w K mg base (L2.CX P w) 6 T.f_law_ T.d_law_ ["_law_script"] (spec (fun a : Unit => (Tys.cons (tSeq K tInt) Tys.nil)) (fun _ _ => []) (fun a : Unit => rtV tBool (fun _ => [])) (fun _ => (xt T)) m_law_) := by
  refine fn_ok T.F_law_ sc_law_ (k := 5) (body := fun X a pt st hm cx cc => ⟨Empty, (fun z => nomatch z), (fun z => nomatch z), _, rfl, ?_⟩)
  obtain ⟨rfl, rfl, rfl, rfl, rfl, hr, hst, hfr⟩ := hm
  refine sf_if (γ := Unit) (L := (fun _ : Unit => [])) (s := ()) (gj := (fun n1 : Unit => [.dat (tSeq X.K tInt) pt.1, .unk])) (lj := (fun n1 : Unit => [])) (tf_cmp (op_neD hr.units) (d_neD2 (coe_lst (coe_tup (coes_cons (coe_tuF (coe_tup (coes_cons coe_tx (coes_cons coe_int coes_nil)))) (coes_cons (coe_opt (coe_tuL coe_int)) coes_nil)))) (coe_lst (coe_tup (coes_cons (coe_tup coes_nil) (coes_cons coe_non coes_nil))))) (ef_call0 cx (ok_wood_of T) (hr.mono (by decide)) (T.g_wood_of) (T.F_wood_of).kp T.b_wood_of passWX (af_consF (ef_frz (en_nil (A := (tTup (Tys.cons tTx (Tys.cons (tTuL tInt) Tys.nil)))))) (fun d s => ap_nil)) (xtr T)) (fun x s => (ef_frz (en_lstP (apl_cons (ep_tup (ap_cons (ep_tup ap_nil) (ap_cons ep_none ap_nil))) apl_nil) (by simp))))) (fun _ => ?_) (fun _ => ?_) (fun n1 => ?_)
  · exact sf_retP (γ := Unit) (L := (fun _ : Unit => [])) (Lr := (fun _ : Unit => [])) (s := ()) ep_bool .refl
  · exact sf_nil (.s (.u (.nil))) rfl .refl
  · exact sf_ret (γ := Unit) (L := (fun _ : Unit => [])) (Lr := (fun _ : Unit => [])) (s := ()) (ef_callBT cx (cr_all cc.calm) dn_all (fun _ => trivial) T.z_all (by decide +kernel) (af_consF (ef_frz (en_lc cx cc (lc_mk (ownl := [("_law_k", 1)]) cx rfl (if_range1 cx (T.z_range) (af_pure (ap_cons (ep_op op_add d_add ep_int (ep_callB cx (call_min2 cc.calm) dn_min2 T.z_min (by decide +kernel) (ap_cons ep_int (ap_cons (ep_callB cx call_len_seq dn_lenQ T.z_len (by decide +kernel) (ap_cons (ep_var cx 0) ap_nil) trivial) ap_nil)) trivial) trivial) ap_nil))) (by decide +kernel) (gfb_name (B := tInt) cx 1) (fun s0 H0 C0 cl fp Cb d2 s => tsf_nil) (fun s0 H0 C0 cl fp Cb d2 s => (ef_nox (xt := (xt T)) (ef_call0 Cb (ok_l_right T) (hr.mono (by decide)) (T.g_l_right) (T.F_l_right).kp T.b_l_right passWX (af_consF (ef_callN (φ := cLst tInt) Cb (ok_l_drawn T) (hr.mono (by decide)) (T.g_l_drawn) (T.F_l_drawn).kp T.b_l_drawn passWX (en_call0P Cb (ok_l_feed T) (hr.mono (by decide)) (T.g_l_feed) (T.F_l_feed).kp T.b_l_feed passWX (ap_cons (ep_var Cb 0) (ap_cons (ep_var Cb 1) ap_nil)) (xtr T)) (xtr T)) (fun d s => ap_nil)) (xtr T))))))) (fun d s => ap_nil))) (fun s => .refl)
end
end My


namespace My
open PySem L2 Fw
/-! the draws -/
def Good (k : Nat) (s : List Int) : Prop := ∃ a b c : Int, s = [a, b, c] ∧ 0 ≤ c ∧ c + k < 2 ^ 64
theorem Good.le {j k : Nat} {s : List Int} (h : Good k s) (e : j ≤ k) : Good j s := let ⟨a, b, c, h1, h2, h3⟩ := h; ⟨a, b, c, h1, h2, by omega⟩
theorem at3_0 (a b c : Int) : atI [a, b, c] (0 : Int) = some a := rfl
theorem at3_1 (a b c : Int) : atI [a, b, c] (1 : Int) = some b := rfl
theorem at3_2 (a b c : Int) : atI [a, b, c] (2 : Int) = some c := rfl
theorem ix3_0 (a b c : Int) : ixN (List.length [a, b, c]) (0 : Int) = some 0 := rfl
theorem ix3_2 (a b c : Int) : ixN (List.length [a, b, c]) (2 : Int) = some 2 := rfl
theorem set3_0 (a b c x : Int) : List.set [a, b, c] 0 x = [x, b, c] := rfl
theorem set3_2 (a b c x : Int) : List.set [a, b, c] 2 x = [a, b, x] := rfl
theorem fmod_in {x m : Int} (h : 0 < m) : 0 ≤ Int.fmod x m ∧ Int.fmod x m < m := ⟨Int.fmod_nonneg_of_pos x h, Int.fmod_lt_of_pos x h⟩
theorem next_sat {E : Exc → Prop} {k : Nat} {s : List Int} {m : Int} (h : Good (k + 1) s) (hm : 0 < m) (hm2 : m < 1073741824) : (m_l_next ((), m, ()) s).sat (fun d t => (0 ≤ d ∧ d < m) ∧ Good k t) E := by
  obtain ⟨a, b, c, rfl, hc, hk⟩ := h
  have f := @fmod_in
  have k1 : ¬ m = 0 := by omega
  have k2 : ∀ x, CDivN x m := fun x => ⟨k1, by omega⟩
  have k3 : CMul (c + 1) (c + 1) := .inl ⟨by omega, by omega⟩
  unfold m_l_next
  simp -implicitDefEqProofs only [o_try, s_val, s_valp, s_stuck, s_exn, s_bnd', s_grd, s_itestuck, s_ite, s_up, s_nox, s_mk, s_fn, s_fnU, o_nx, o_ret, o_stuck, o_exn, o_bnd, o_seq, o_lt, o_itestuck, o_ite, s_if0, at3_0, at3_1, at3_2, ix3_0, ix3_2, set3_0, set3_2, Option.isSome_some, Option.getD_some, true_and, ne_eq, k1, not_false_eq_true, k2, k3]
  split
  · exact ⟨f hm, _, _, _, rfl, hc, by omega⟩
  · exact ⟨f hm, _, _, _, rfl, by omega, by omega⟩

theorem feed_sat {E : Exc → Prop} {ns : List Int} {k : Int} {K : Nat} (hK : K < 2 ^ 64) : (m_l_feed (ns, k, ()) ()).sat (fun d _ => Good K d) E := by
  have q : ∀ a b : Int, Good K [a, b, 0] := fun a b => ⟨a, b, 0, rfl, by omega, by omega⟩
  unfold m_l_feed
  simp -implicitDefEqProofs only [o_try, s_val, s_valp, s_stuck, s_exn, s_bnd', s_grd, s_itestuck, s_ite, s_up, s_nox, s_mk, s_fn, s_fnU, o_nx, o_ret, o_stuck, o_exn, o_bnd, o_seq, o_lt, o_itestuck, o_ite, s_if0, decide_eq_true_eq]
  split
  · next h =>
    have h2 : ¬ (List.length ns : Int) = 0 := by omega
    have h3 : 0 ≤ Int.fmod k ns.length ∧ Int.fmod k ns.length < ns.length := ⟨Int.fmod_nonneg_of_pos _ (by omega), Int.fmod_lt_of_pos _ (by omega)⟩
    refine ⟨h2, at_is h3.1 h3.2, ?_⟩
    repeat (first | exact q _ _ | split)
  · repeat (first | exact q _ _ | split)

def az (c : Nat) : Prop := 97 ≤ c ∧ c ≤ 122
theorem letters_sat {E : Exc → Prop} {k : Nat} {s : List Int} (h : Good (k + 3) s) : (m_l_letters ((), ()) s).sat (fun t u => (1 ≤ t.length ∧ t.length ≤ 26 ∧ ∀ c ∈ t, az c) ∧ Good k u) E := by
  have hev : ∀ c ∈ ([97, 98, 99, 100, 101, 102, 103, 104, 105, 106, 107, 108, 109, 110, 111, 112, 113, 114, 115, 116, 117, 118, 119, 120, 121, 122] : List Nat), az c := by unfold az; decide
  unfold m_l_letters
  simp -implicitDefEqProofs only [o_try, s_val, s_valp, s_stuck, s_exn, s_bnd', s_grd, s_itestuck, s_ite, s_up, s_nox, s_mk, s_fn, s_fnU, o_nx, o_ret, o_stuck, o_exn, o_bnd, o_seq, o_lt, o_itestuck, o_ite, s_if0]
  refine (next_sat (k := k + 2) h (by decide) (by decide)).to fun d u ⟨_, g⟩ => ?_
  split
  · exact ⟨⟨by decide, by decide, hev⟩, g.le (by omega)⟩
  · refine (next_sat (k := k + 1) g (by decide) (by decide)).to fun d u ⟨hd, g⟩ => ?_
    refine (next_sat (k := k) g (by decide) (by decide)).to fun r u ⟨hr, g⟩ => ?_
    refine ⟨by decide, ⟨?_, ?_, fun c hc => hev c (cut_mem hc)⟩, g⟩
    · rw [cut_nn hd.1 (by omega), List.length_take, List.length_drop]
      show 1 ≤ min _ (26 - _)
      omega
    · exact cut_len

theorem flat1 {ys : List Tx} (h : ∀ y ∈ ys, y.length = 1) : ys.flatten.length = ys.length := by
  induction ys with
  | nil => rfl
  | cons y ys ih => rw [List.flatten_cons, List.length_append, ih fun z hz => h z (List.mem_cons_of_mem _ hz), h y (List.mem_cons_self ..), List.length_cons]; omega
theorem joinOk1 {ys : List Tx} (h : ∀ y ∈ ys, y.length = 1) (hl : ys.length ≤ 1000000) : joinOk [] ys := by
  unfold joinOk
  rw [← List.length_flatten, flat1 h]
  simp; omega
theorem word_sat {E : Exc → Prop} {k : Nat} {s : List Int} {t : Tx} {m : Int} (hm : 0 < m) (hm2 : m ≤ 100000) (ht : 1 ≤ t.length) (ht2 : t.length ≤ 100000) (h : Good (k + 1 + m.toNat) s) :
    (m_l_word ((), t, m, ()) s).sat (fun w u => (1 ≤ w.length ∧ w.length ≤ m.toNat ∧ ∀ c ∈ w, c ∈ t) ∧ Good k u) E := by
  unfold m_l_word
  simp -implicitDefEqProofs only [o_try, s_val, s_valp, s_stuck, s_exn, s_bnd', s_grd, s_itestuck, s_ite, s_up, s_nox, s_mk, s_fn, s_fnU, o_nx, o_ret, o_stuck, o_exn, o_bnd, o_seq, o_lt, o_itestuck, o_ite, s_if0]
  refine (next_sat (k := k + m.toNat) (h.le (by omega)) hm (by omega)).to fun d u ⟨hd, g⟩ => ?_
  have hl : (rng 0 (1 + d)).length = (1 + d).toNat := by rw [rng_len]; congr 1; omega
  have hs := sz20
  refine ⟨rng_ok (by omega) (by omega) (by omega) (by omega), by rw [hl]; omega, ?_⟩
  refine s_compA (fun i u => Good (k + ((1 + d).toNat - i)) u) (fun _ y => y.length = 1 ∧ ∀ c ∈ y, c ∈ t) (g.le (by omega)) (fun _ _ => rfl) (fun i x u hx hi g => ?_) (fun ys u hy hp g => ?_)
  · rw [hl] at hi
    simp -implicitDefEqProofs only [o_try, s_val, s_valp, s_stuck, s_exn, s_bnd', s_grd, s_itestuck, s_ite, s_up, s_nox, s_mk, s_fn, s_fnU, o_nx, o_ret, o_stuck, o_exn, o_bnd, o_seq, o_lt, o_itestuck, o_ite, s_if0]
    refine ⟨by omega, ?_⟩
    refine (next_sat (k := k + ((1 + d).toNat - (i + 1))) (g.le (by omega)) (by omega) (by omega)).to fun r u ⟨hr, g⟩ => ?_
    refine ⟨⟨by omega, at_is hr.1 hr.2⟩, ⟨rfl, fun c hc => ?_⟩, g⟩
    rw [at_get hr.1 hr.2] at hc
    rw [List.mem_singleton.mp hc]
    exact List.getElem_mem _
  · rw [hl] at hy
    have h1 : ∀ y ∈ ys, y.length = 1 ∧ ∀ c ∈ y, c ∈ t := fun y hm => by
      obtain ⟨i, hi, e⟩ := List.getElem_of_mem hm
      exact hp i _ _ (List.getElem?_eq_getElem (by omega)) (by rw [List.getElem?_eq_getElem hi, e])
    refine ⟨joinOk1 (fun y hy => (h1 y hy).1) (by omega), ?_⟩
    rw [joinT_nil]
    refine ⟨⟨by rw [flat1 fun y hy => (h1 y hy).1]; omega, by rw [flat1 fun y hy => (h1 y hy).1]; omega, fun c hc => ?_⟩, g.le (by omega)⟩
    obtain ⟨y, hy, hc⟩ := List.mem_flatten.mp hc
    exact (h1 y hy).2 c hc

theorem enumL_get2 {α : Type} {t : List α} {i : Nat} {x : Int × α × Unit} (h : (enumL t)[i]? = some x) : x.1 = (i : Int) ∧ t[i]? = some x.2.1 := by
  rw [enumL_get] at h
  cases e : t[i]? with
  | none => rw [e] at h; cases h
  | some y => rw [e] at h; cases h; exact ⟨rfl, rfl⟩

/-! what the patterns tell at each place of a text -/
def mx (a x : Int) : Int := if a < x then x else a
def cel (us : List (Nat × Int)) (b : Nat) : Int := us.foldl (fun a u => if u.1 = b then mx a u.2 else a) 0
theorem cel_nil (b : Nat) : cel [] b = 0 := rfl
theorem cel_snoc (us : List (Nat × Int)) (q : Nat) (x : Int) (b : Nat) : cel (us ++ [(q, x)]) b = if q = b then mx (cel us b) x else cel us b := by
  unfold cel; rw [List.foldl_append]; rfl
def ups : Nat → List Int → List (Nat × Int)
  | _, [] => []
  | p, x :: xs => (p, x) :: ups (p + 1) xs
theorem ups_app : ∀ (xs ys : List Int) (p : Nat), ups p (xs ++ ys) = ups p xs ++ ups (p + xs.length) ys
  | [], ys, p => by simp [ups]
  | x :: xs, ys, p => by simp only [List.cons_append, ups, ups_app xs ys (p + 1), List.length_cons]; rw [show p + 1 + xs.length = p + (xs.length + 1) by omega]
theorem ups_take {xs : List Int} {p i : Nat} {x : Int} (h : xs[i]? = some x) : ups p (xs.take (i + 1)) = ups p (xs.take i) ++ [(p + i, x)] := by
  have hi := (List.getElem?_eq_some_iff.mp h).1
  rw [List.take_add_one, h, ups_app]
  simp only [Option.toList_some, ups, List.length_take]
  rw [Nat.min_eq_left (by omega)]
def hitsB (t y : Tx) (p : Nat) : List Nat := (List.range p).filter fun q => decide (hit t y q)
theorem hitsB_succ (t y : Tx) (p : Nat) : hitsB t y (p + 1) = hitsB t y p ++ (if hit t y p then [p] else []) := by
  unfold hitsB
  rw [List.range_succ, List.filter_append]
  by_cases h : hit t y p <;> simp [h]
theorem hitsB_ext {t y : Tx} {p q : Nat} (h : p ≤ q) (hn : ∀ r, p ≤ r → r < q → ¬ hit t y r) : hitsB t y q = hitsB t y p := by
  induction q with
  | zero => rw [show p = 0 by omega]
  | succ q ih =>
    by_cases hp : p = q + 1
    · rw [hp]
    · rw [hitsB_succ, if_neg (hn q (by omega) (by omega)), List.append_nil]
      exact ih (by omega) fun r h1 h2 => hn r h1 (by omega)
abbrev PatT := Tx × List Int × Unit
def upsP (t : Tx) (ps : List Nat) (nums : List Int) : List (Nat × Int) := ps.flatMap fun p => ups p nums
def upsAll (t : Tx) (pats : List PatT) : List (Nat × Int) := pats.flatMap fun pat => upsP t (hitsB t pat.1 (t.length + 1)) pat.2.1
theorem upsP_snoc (t : Tx) (ps : List Nat) (p : Nat) (nums : List Int) : upsP t (ps ++ [p]) nums = upsP t ps nums ++ ups p nums := by
  unfold upsP; rw [List.flatMap_append]; simp
theorem upsAll_take {t : Tx} {pats : List PatT} {i : Nat} {pat : PatT} (h : pats[i]? = some pat) : upsAll t (pats.take (i + 1)) = upsAll t (pats.take i) ++ upsP t (hitsB t pat.1 (t.length + 1)) pat.2.1 := by
  unfold upsAll
  rw [List.take_add_one, h, List.flatMap_append]; simp
/-- the text of a word with its stops -/
def dot (w : Tx) : Tx := [46] ++ w ++ [46]
theorem dot_len (w : Tx) : (dot w).length = w.length + 2 := by unfold dot; simp
/-- the values of a word's gaps -/
def vals (pats : List PatT) (w : Tx) : List Int := (List.range (w.length - 1)).map fun j => cel (upsAll (dot w) pats) (j + 2)
/-- a row of cells, told from a place on -/
def Row (off L : Nat) (m : List Int) (us : List (Nat × Int)) : Prop := m.length = L ∧ ∀ b, b < L → m[b]? = some (cel us (b + off))
theorem Row.set {off L : Nat} {m : List Int} {us : List (Nat × Int)} {q : Nat} {x : Int} (h : Row off L m us) (hq : q < L) : Row off L (m.set q (mx (cel us (q + off)) x)) (us ++ [(q + off, x)]) := by
  refine ⟨by rw [List.length_set]; exact h.1, fun b hb => ?_⟩
  rw [cel_snoc, List.getElem?_set]
  by_cases e : q = b
  · subst e; rw [if_pos rfl, if_pos (by rw [h.1]; exact hq), if_pos rfl]
  · rw [if_neg e, if_neg (by omega)]; exact h.2 b hb
theorem Row.same {off L : Nat} {m : List Int} {us : List (Nat × Int)} {q : Nat} {x : Int} (h : Row off L m us) (hx : ∀ b, b < L → q = b + off → ¬ cel us q < x) : Row off L m (us ++ [(q, x)]) := by
  refine ⟨h.1, fun b hb => ?_⟩
  rw [cel_snoc, h.2 b hb]
  by_cases e : q = b + off
  · rw [if_pos e]
    unfold mx
    have := hx b hb e
    rw [e] at this
    rw [if_neg this]
  · rw [if_neg e]
theorem Row.zero (off L : Nat) : Row off L (List.replicate L 0) [] := ⟨List.length_replicate, fun b hb => by rw [List.getElem?_replicate, if_pos hb]; rfl⟩
theorem repL_one (x : Int) (k : Int) : repL [x] k = List.replicate k.toNat x := by
  unfold repL
  induction k.toNat with
  | zero => rfl
  | succ n ih => rw [List.replicate_succ, List.flatten_cons, ih]; rfl

def PatB (pat : PatT) : Prop := pat.2.1.length ≤ pat.1.length + 1 ∧ pat.1.length ≤ 1000

/-- a drawn pattern -/
def PatOk (m : Nat) (pat : PatT) : Prop := 1 ≤ pat.1.length ∧ pat.1.length ≤ m ∧ (∀ c ∈ pat.1, az c ∨ c = 46) ∧ pat.2.1.length = pat.1.length + 1 ∧ ∀ x ∈ pat.2.1, 0 ≤ x ∧ x ≤ 9
theorem PatOk.b {m : Nat} {pat : PatT} (h : PatOk m pat) (hm : m ≤ 1000 := by decide) : PatB pat := ⟨by have := h.2.2.2.1; omega, by have := h.2.1; omega⟩
theorem numbers_sat {E : Exc → Prop} {k : Nat} {s : List Int} {y : Tx} {few : Int} (hf : 0 < few) (hf2 : few < 1000) (hy : y.length ≤ 1000) (h : Good (k + 2 * (y.length + 1)) s) :
    (m_l_numbers ((), y, few, ()) s).sat (fun ns u => (ns.length = y.length + 1 ∧ ∀ x ∈ ns, 0 ≤ x ∧ x ≤ 9) ∧ Good k u) E := by
  have hs := sz20
  unfold m_l_numbers
  simp -implicitDefEqProofs only [o_try, s_val, s_valp, s_stuck, s_exn, s_bnd', s_grd, s_itestuck, s_ite, s_up, s_nox, s_mk, s_fn, s_fnU, o_nx, o_ret, o_stuck, o_exn, o_bnd, o_seq, o_lt, o_itestuck, o_ite, s_if0]
  refine ⟨by omega, rng_ok (by omega) (by omega) (by omega) (by omega), ?_⟩
  have hl : (rng 0 ((List.length y : Int) + 1)).length = y.length + 1 := by rw [rng_len]; omega
  refine o_for (fun i (n : List Int × List Int) => Good (k + 2 * (y.length + 1 - i)) n.1 ∧ n.2.length = i ∧ ∀ x ∈ n.2, 0 ≤ x ∧ x ≤ 9) ⟨h.le (by omega), rfl, fun x hx => by simp at hx⟩ (fun i x n hx hn => ?_) (fun n hn => ?_)
  · have hi : i < y.length + 1 := by rw [← hl]; exact (List.getElem?_eq_some_iff.mp hx).1
    obtain ⟨g, h1, h2⟩ := hn
    simp -implicitDefEqProofs only [o_try, s_val, s_valp, s_stuck, s_exn, s_bnd', s_grd, s_itestuck, s_ite, s_up, s_nox, s_mk, s_fn, s_fnU, o_nx, o_ret, o_stuck, o_exn, o_bnd, o_seq, o_lt, o_itestuck, o_ite, s_if0]
    refine (next_sat (k := k + 2 * (y.length + 1 - (i + 1)) + 1) (g.le (by omega)) hf (by omega)).to fun d u ⟨_, g⟩ => ?_
    have fin : ∀ (num : Int) (u : List Int), 0 ≤ num ∧ num ≤ 9 → Good (k + 2 * (y.length + 1 - (i + 1))) u → n.2.length < sizeLine ∧ Good (k + 2 * (y.length + 1 - (i + 1))) u ∧ (n.2 ++ [num]).length = i + 1 ∧ ∀ (x : Int), x ∈ n.2 ++ [num] → 0 ≤ x ∧ x ≤ 9 := fun num u hn g => by
      refine ⟨by omega, g, by simp [h1], fun z hz => ?_⟩
      rcases List.mem_append.mp hz with hz | hz
      · exact h2 z hz
      · rw [List.mem_singleton.mp hz]; exact hn
    have z9 : (0 : Int) ≤ 0 ∧ (0 : Int) ≤ 9 := ⟨by decide, by decide⟩
    split
    · refine (next_sat (k := k + 2 * (y.length + 1 - (i + 1))) g (by decide) (by decide)).to fun e u ⟨he, g⟩ => ?_
      have f1 := fin (1 + e) u ⟨by omega, by omega⟩ g
      have f0 := fin 0 u z9 g
      repeat' (first | exact f1 | exact f0 | (refine ⟨by omega, ?_⟩) | split)
    · have g : Good (k + 2 * (y.length + 1 - (i + 1))) u := g.le (by omega)
      have f0 := fin 0 u z9 g
      repeat' (first | exact f0 | (refine ⟨by omega, ?_⟩) | split)
  · rw [hl] at hn
    exact ⟨⟨hn.2.1, hn.2.2⟩, hn.1.le (by omega)⟩
theorem pattern_sat {E : Exc → Prop} {k : Nat} {s : List Int} {t w : Tx} {m : Int} (hm : 2 ≤ m) (hm2 : m ≤ 100) (ht : 1 ≤ t.length) (ht2 : t.length ≤ 100) (hta : ∀ c ∈ t, az c) (hw : 1 ≤ w.length) (hw2 : w.length ≤ 100) (hwa : ∀ c ∈ w, az c) (h : Good (k + 1000) s) :
    (m_l_pattern ((), t, w, m, ()) s).sat (fun p u => PatOk m.toNat p ∧ Good k u) E := by
  have hs := sz20
  unfold m_l_pattern
  simp -implicitDefEqProofs only [o_try, s_val, s_valp, s_stuck, s_exn, s_bnd', s_grd, s_itestuck, s_ite, s_up, s_nox, s_mk, s_fn, s_fnU, o_nx, o_ret, o_stuck, o_exn, o_bnd, o_seq, o_lt, o_itestuck, o_ite, s_if0]
  have hdl := dot_len w
  have hd : [46] ++ w ++ [46] = dot w := rfl
  rw [hd]
  have hdc : ∀ c ∈ dot w, az c ∨ c = 46 := fun c hc => by
    unfold dot at hc
    simp at hc
    rcases hc with rfl | hc | rfl
    · exact .inr rfl
    · exact .inl (hwa c hc)
    · exact .inr rfl
  refine ⟨by simp; omega, by simp; omega, by omega, ?_⟩
  refine (next_sat (k := k + 900) (h.le (by omega)) (by omega) (by omega)).to fun a u ⟨ha, g⟩ => ?_
  refine (next_sat (k := k + 899) (g.le (by omega)) (by omega) (by omega)).to fun b u ⟨hb, g⟩ => ?_
  refine ⟨by omega, ?_⟩
  refine (next_sat (k := k + 898) (g.le (by omega)) (by omega) (by omega)).to fun c u ⟨_, g⟩ => ?_
  -- whatever the signs are
  have fin : ∀ (y : Tx) (u : List Int), 1 ≤ y.length → y.length ≤ m.toNat → (∀ c ∈ y, az c ∨ c = 46) → Good (k + 700) u → (m_l_numbers ((), y, 2, ()) u).sat (fun a s => PatOk m.toNat (y, a, ()) ∧ Good k s) E := fun y u h1 h2 h3 g =>
    (numbers_sat (k := k) (by decide) (by decide) (by omega) (g.le (by omega))).to fun ns u ⟨⟨h4, h5⟩, g⟩ => ⟨⟨h1, h2, h3, h4, h5⟩, g⟩
  have both : ∀ (y : Tx) (u : List Int), 1 ≤ y.length → y.length ≤ m.toNat → (∀ c ∈ y, az c ∨ c = 46) → Good (k + 700) u →
      if decide (y = [46]) = true then List.length (dot w) ≤ sizeLine ∧ (m_l_numbers ((), cut (dot w) none (some 2), 2, ()) u).sat (fun a s => PatOk m.toNat (cut (dot w) none (some 2), a, ()) ∧ Good k s) E else (m_l_numbers ((), y, 2, ()) u).sat (fun a s => PatOk m.toNat (y, a, ()) ∧ Good k s) E := fun y u h1 h2 h3 g => by
    split
    · refine ⟨by omega, fin _ u ?_ ?_ (fun c hc => hdc c (cut_mem hc)) g⟩
      · rw [cut_to (by decide), List.length_take, hdl]; show 1 ≤ min 2 _; omega
      · rw [cut_to (by decide), List.length_take, hdl]; show min 2 _ ≤ _; omega
    · exact fin y u h1 h2 h3 g
  split
  · refine (word_sat (k := k + 700) (by omega) (by omega) ht (by omega) (g.le (by omega))).to fun y u ⟨⟨h1, h2, h3⟩, g⟩ => ?_
    exact both y u h1 h2 (fun c hc => .inl (hta c (h3 c hc))) g
  · refine both _ u ?_ ?_ (fun c hc => hdc c (cut_mem hc)) (g.le (by omega))
    · rw [cut_nn ha.1 (by omega), List.length_take, List.length_drop, hdl]; omega
    · rw [cut_nn ha.1 (by omega), List.length_take, List.length_drop, hdl]; omega

theorem patterns_sat {E : Exc → Prop} {k : Nat} {s : List Int} {t : Tx} {ws : List Tx} {m : Int} (hm : 0 ≤ m) (hm2 : m ≤ 100) (ht : 1 ≤ t.length) (ht2 : t.length ≤ 100) (hta : ∀ c ∈ t, az c) (hws : 1 ≤ ws.length) (hws2 : ws.length ≤ 100) (hw : ∀ w ∈ ws, 1 ≤ w.length ∧ w.length ≤ 100 ∧ ∀ c ∈ w, az c) (h : Good (k + 1 + 1001 * m.toNat) s) :
    (m_l_patterns ((), t, ws, m, ()) s).sat (fun ps u => (ps.length ≤ m.toNat ∧ ∀ p ∈ ps, PatOk 4 p) ∧ Good k u) E := by
  have hs := sz20
  unfold m_l_patterns
  simp -implicitDefEqProofs only [o_try, s_val, s_valp, s_stuck, s_exn, s_bnd', s_grd, s_itestuck, s_ite, s_up, s_nox, s_mk, s_fn, s_fnU, o_nx, o_ret, o_stuck, o_exn, o_bnd, o_seq, o_lt, o_itestuck, o_ite, s_if0]
  refine (next_sat (k := k + 1001 * m.toNat) (h.le (by omega)) (by omega) (by omega)).to fun d u ⟨hd, g⟩ => ?_
  have hl : (rng 0 d).length = d.toNat := by rw [rng_len]; omega
  refine ⟨rng_ok (by omega) (by omega) (by omega) (by omega), ?_⟩
  refine o_for (fun i (n : List Int × List PatT) => Good (k + 1001 * (m.toNat - i)) n.1 ∧ n.2.length = i ∧ ∀ p ∈ n.2, PatOk 4 p) ⟨g.le (by omega), rfl, fun x hx => by simp at hx⟩ (fun i x n hx hn => ?_) (fun n hn => ?_)
  · have hi : i < d.toNat := by rw [← hl]; exact (List.getElem?_eq_some_iff.mp hx).1
    obtain ⟨g, h1, h2⟩ := hn
    simp -implicitDefEqProofs only [o_try, s_val, s_valp, s_stuck, s_exn, s_bnd', s_grd, s_itestuck, s_ite, s_up, s_nox, s_mk, s_fn, s_fnU, o_nx, o_ret, o_stuck, o_exn, o_bnd, o_seq, o_lt, o_itestuck, o_ite, s_if0]
    have e1 : m.toNat - i = m.toNat - (i + 1) + 1 := by omega
    rw [e1] at g
    refine (next_sat (k := k + 1001 * (m.toNat - (i + 1)) + 1000) (g.le (by omega)) (by omega) (by omega)).to fun r u ⟨hr, g⟩ => ?_
    refine ⟨at_is hr.1 hr.2, ?_⟩
    rw [at_get hr.1 hr.2]
    obtain ⟨w1, w2, w3⟩ := hw _ (List.getElem_mem (by omega : r.toNat < ws.length))
    refine (pattern_sat (k := k + 1001 * (m.toNat - (i + 1))) (by decide) (by decide) ht ht2 hta w1 w2 w3 g).to fun p u ⟨hp, g⟩ => ?_
    refine ⟨by omega, g, by simp [h1], fun z hz => ?_⟩
    rcases List.mem_append.mp hz with hz | hz
    · exact h2 z hz
    · rw [List.mem_singleton.mp hz]; exact hp
  · rw [hl] at hn
    exact ⟨⟨by rw [hn.2.1]; omega, hn.2.2⟩, hn.1.le (by omega)⟩

theorem az_lt {c : Nat} (h : az c ∨ c = 46) : c < 0x110000 := by unfold az at h; omega
/-- drawn patterns as data -/
abbrev dPat : PatT → PyData := dTup (dCons dTx (dCons (dTuL PyData.int) dNil))
theorem dPat_sh {m : Nat} {p : PatT} (h : PatOk m p) : dSh 2 (dPat p) := by
  intro x hx
  simp only [dCons, dNil, List.mem_cons, List.not_mem_nil, or_false] at hx
  rcases hx with rfl | rfl
  · exact strOk_lt fun c hc => az_lt (h.2.2.1 c hc)
  · intro y hy
    obtain ⟨z, _, rfl⟩ := List.mem_map.mp hy
    trivial
theorem dPats_sh {m : Nat} {ps : List PatT} (h : ∀ p ∈ ps, PatOk m p) : dSh 3 (dLst dPat ps) := fun x hx => by
  obtain ⟨p, hp, rfl⟩ := List.mem_map.mp hx
  exact dPat_sh (h p hp)
theorem dInts_ok {n : Nat} {xs : List Int} (h : xs.length ≤ 1000000) : dOk (n + 1) (dLst PyData.int xs) := by
  refine ⟨by rw [List.length_map]; exact h, fun y hy => ?_⟩
  obtain ⟨z, _, rfl⟩ := List.mem_map.mp hy
  cases n <;> trivial

/-! dicts as lists of pairs -/
section
variable {κ α : Type} [DecidableEq κ]
theorem dGet_nil (k : κ) : dGet ([] : List (κ × α)) k = none := rfl
theorem dGet_cons (x : κ × α) (xs : List (κ × α)) (k : κ) : dGet (x :: xs) k = if x.1 = k then some x.2 else dGet xs k := by
  unfold dGet
  by_cases h : x.1 = k
  · simp [List.find?_cons, h]
  · simp [List.find?_cons, h]
theorem dGet_map (k : κ) (v : α) (k' : κ) : ∀ kvs : List (κ × α), dGet (kvs.map fun kv => if kv.1 = k then (kv.1, v) else kv) k' = if k' = k then (dGet kvs k).map (fun _ => v) else dGet kvs k'
  | [] => by simp [dGet_nil]
  | x :: xs => by
    rw [List.map_cons, dGet_cons, dGet_map k v k' xs, dGet_cons, dGet_cons]
    by_cases h : x.1 = k
    · by_cases h2 : k' = k
      · simp [h, h2]
      · have : ¬ k = k' := fun z => h2 z.symm
        simp [h, h2, this]
    · by_cases h2 : k' = k
      · subst h2; simp [h]
      · simp [h, h2]
theorem dGet_app (k : κ) (v : α) (k' : κ) : ∀ kvs : List (κ × α), dGet (kvs ++ [(k, v)]) k' = match dGet kvs k' with | some x => some x | none => if k = k' then some v else none
  | [] => by simp [dGet_cons, dGet_nil]
  | x :: xs => by
    rw [List.cons_append, dGet_cons, dGet_app k v k' xs, dGet_cons]
    by_cases h : x.1 = k' <;> simp [h]
theorem dGet_any (kvs : List (κ × α)) (k : κ) : (kvs.any fun kv => decide (kv.1 = k)) = (dGet kvs k).isSome := by
  induction kvs with
  | nil => rfl
  | cons x xs ih =>
    rw [List.any_cons, ih, dGet_cons]
    by_cases h : x.1 = k <;> simp [h]
theorem dGet_put (kvs : List (κ × α)) (k : κ) (v : α) (k' : κ) : dGet (dPut kvs k v) k' = if k' = k then some v else dGet kvs k' := by
  unfold dPut
  rw [dGet_any]
  cases hg : dGet kvs k with
  | some x =>
    rw [if_pos (show (some x).isSome = true from rfl), dGet_map, hg]
    rfl
  | none =>
    rw [if_neg (show ¬ (none : Option α).isSome = true by simp), dGet_app]
    by_cases h : k' = k
    · subst h; simp [hg]
    · have h2 : ¬ k = k' := fun z => h z.symm
      rw [if_neg h]
      cases dGet kvs k' <;> simp [h2]
theorem dGet_mem (kvs : List (κ × α)) (k : κ) : (dGet kvs k).isSome = true ↔ k ∈ kvs.map (·.1) := by
  induction kvs with
  | nil => simp [dGet_nil]
  | cons x xs ih =>
    rw [dGet_cons, List.map_cons, List.mem_cons]
    by_cases h : x.1 = k
    · simp [h]
    · have h2 : ¬ k = x.1 := fun z => h z.symm
      rw [if_neg h, ih]
      simp [h2]
theorem keys_put (kvs : List (κ × α)) (k : κ) (v : α) : (dPut kvs k v).map (·.1) = if k ∈ kvs.map (·.1) then kvs.map (·.1) else kvs.map (·.1) ++ [k] := by
  unfold dPut
  rw [dGet_any]
  by_cases h : k ∈ kvs.map (·.1)
  · rw [if_pos h, if_pos ((dGet_mem kvs k).mpr h), List.map_map]
    refine List.map_congr_left fun kv _ => ?_
    show (if kv.1 = k then (kv.1, v) else kv).1 = kv.1
    split <;> rfl
  · rw [if_neg h, if_neg (fun z => h ((dGet_mem kvs k).mp z)), List.map_append]
    rfl
theorem dPut_len (kvs : List (κ × α)) (k : κ) (v : α) : (dPut kvs k v).length ≤ kvs.length + 1 := by
  unfold dPut
  split
  · rw [List.length_map]; omega
  · simp
theorem nodup_snoc {α : Type} {xs : List α} {x : α} (h : xs.Nodup) (hx : x ∉ xs) : (xs ++ [x]).Nodup := by
  rw [List.nodup_append]
  refine ⟨h, by simp, fun a ha b hb => ?_⟩
  rw [List.mem_singleton.mp hb]
  exact fun z => hx (z ▸ ha)
theorem keys_nodup (kvs : List (κ × α)) (k : κ) (v : α) (h : (kvs.map (·.1)).Nodup) : ((dPut kvs k v).map (·.1)).Nodup := by
  rw [keys_put]
  split
  · exact h
  · next hn => exact nodup_snoc h hn
end

/-! the greatest of what is told at a place -/
theorem cel_is (b : Nat) : ∀ (n : Nat) (us : List (Nat × Int)), us.length = n → 0 ≤ cel us b ∧ (∀ x, (b, x) ∈ us → x ≤ cel us b) ∧ (cel us b = 0 ∨ (b, cel us b) ∈ us) := by
  intro n
  induction n with
  | zero =>
    intro us h
    rw [List.length_eq_zero_iff.mp h]
    exact ⟨Int.le_refl _, fun x z => (by cases z), .inl rfl⟩
  | succ n ih =>
    intro us h
    rcases List.eq_nil_or_concat us with rfl | ⟨vs, ⟨q, x⟩, rfl⟩
    · cases h
    · rw [List.concat_eq_append] at h ⊢
      have hl : vs.length = n := by rw [List.length_append, List.length_singleton] at h; omega
      obtain ⟨h1, h2, h3⟩ := ih vs hl
      rw [cel_snoc]
      by_cases hq : q = b
      · subst hq
        rw [if_pos rfl]
        unfold mx
        split
        · next hlt =>
          refine ⟨by omega, fun y hy => ?_, .inr (List.mem_append_right _ (List.mem_singleton.mpr rfl))⟩
          rcases List.mem_append.mp hy with hy | hy
          · have := h2 y hy; omega
          · have hy := List.mem_singleton.mp hy
            injection hy with _ hy
            omega
        · next hlt =>
          refine ⟨h1, fun y hy => ?_, h3.imp id fun z => List.mem_append_left _ z⟩
          rcases List.mem_append.mp hy with hy | hy
          · exact h2 y hy
          · have hy := List.mem_singleton.mp hy
            injection hy with _ hy
            omega
      · rw [if_neg hq]
        refine ⟨h1, fun y hy => ?_, h3.imp id fun z => List.mem_append_left _ z⟩
        rcases List.mem_append.mp hy with hy | hy
        · exact h2 y hy
        · have hy := List.mem_singleton.mp hy
          injection hy with hy _
          exact absurd hy.symm hq
theorem cel_le {us vs : List (Nat × Int)} {b : Nat} (h : ∀ x, (b, x) ∈ us → ∃ y, (b, y) ∈ vs ∧ x ≤ y) : cel us b ≤ cel vs b := by
  obtain ⟨_, _, a3⟩ := cel_is b _ us rfl
  obtain ⟨b1, b2, _⟩ := cel_is b _ vs rfl
  rcases a3 with e | e
  · omega
  · obtain ⟨y, h1, h2⟩ := h _ e
    have := b2 y h1
    omega
theorem cel_same {us vs : List (Nat × Int)} {b : Nat} (h : ∀ x, (b, x) ∈ us → ∃ y, (b, y) ∈ vs ∧ x ≤ y) (k : ∀ x, (b, x) ∈ vs → ∃ y, (b, y) ∈ us ∧ x ≤ y) : cel us b = cel vs b := by
  have := cel_le h
  have := cel_le k
  omega
theorem mem_ups {b : Nat} {x : Int} : ∀ {ns : List Int} {p : Nat}, (b, x) ∈ ups p ns ↔ ∃ i, ns[i]? = some x ∧ b = p + i
  | [], p => by
    constructor
    · intro z; cases z
    · rintro ⟨i, z, _⟩; simp at z
  | y :: ns, p => by
    show (b, x) ∈ (p, y) :: ups (p + 1) ns ↔ _
    rw [List.mem_cons, mem_ups (ns := ns) (p := p + 1)]
    constructor
    · rintro (z | ⟨i, h1, h2⟩)
      · injection z with z1 z2
        exact ⟨0, by rw [z2]; rfl, by omega⟩
      · exact ⟨i + 1, by simpa using h1, by omega⟩
    · rintro ⟨i, h1, h2⟩
      cases i with
      | zero =>
        left
        have h1 := Option.some.inj (show some y = some x from h1)
        rw [h1, h2]; rfl
      | succ i => exact .inr ⟨i, by simpa using h1, by omega⟩
theorem mem_hitsB {t y : Tx} {n q : Nat} : q ∈ hitsB t y n ↔ q < n ∧ hit t y q := by
  unfold hitsB
  rw [List.mem_filter, List.mem_range, decide_eq_true_eq]
theorem mem_upsAll {t : Tx} {P : List PatT} {b : Nat} {x : Int} : (b, x) ∈ upsAll t P ↔ ∃ p ∈ P, ∃ q i, hit t p.1 q ∧ p.2.1[i]? = some x ∧ b = q + i := by
  unfold upsAll upsP
  rw [List.mem_flatMap]
  constructor
  · rintro ⟨p, hp, h⟩
    obtain ⟨q, hq, h⟩ := List.mem_flatMap.mp h
    obtain ⟨i, h1, h2⟩ := mem_ups.mp h
    exact ⟨p, hp, q, i, (mem_hitsB.mp hq).2, h1, h2⟩
  · rintro ⟨p, hp, q, i, h1, h2, h3⟩
    exact ⟨p, hp, List.mem_flatMap.mpr ⟨q, mem_hitsB.mpr ⟨by have := h1.1; omega, h1⟩, mem_ups.mpr ⟨i, h2, h3⟩⟩⟩

/-! the greatest numbers of one row of signs -/
def grt : Option (List Int) → List Int → List Int
  | none, ns => ns
  | some ms, ns => (zipL ms ns).map fun d => maxL [d.1, d.2.1]
theorem max2_is (a b : Int) : maxL [a, b] = if a < b then b else a := by
  refine maxL_is (by split <;> simp) fun y hy => ?_
  simp only [List.mem_cons, List.not_mem_nil, or_false] at hy
  rcases hy with rfl | rfl <;> split <;> omega
theorem greatest_eq (o : Option (List Int)) {ns : List Int} (h : ns.length ≤ 1000) : m_greatest (o, ns, ()) () = .val (grt o ns, ()) := by
  have hs := sz20
  refine sat_eq ?_
  unfold m_greatest
  cases o with
  | none =>
    simp -implicitDefEqProofs only [o_try, s_val, s_valp, s_stuck, s_exn, s_bnd', s_grd, s_itestuck, s_ite, s_up, s_nox, s_mk, s_fn, s_fnU, o_nx, o_ret, o_stuck, o_exn, o_bnd, o_seq, o_lt, o_itestuck, o_ite, s_if0]
    refine ite_t rfl ?_
    first | exact ⟨rfl, trivial⟩ | trivial
  | some ms =>
    simp -implicitDefEqProofs only [o_try, s_val, s_valp, s_stuck, s_exn, s_bnd', s_grd, s_itestuck, s_ite, s_up, s_nox, s_mk, s_fn, s_fnU, o_nx, o_ret, o_stuck, o_exn, o_bnd, o_seq, o_lt, o_itestuck, o_ite, s_if0]
    have hl := zipL_len ms ns
    refine ite_f (fun z => by cases z) ⟨rfl, by show (zipL ms ns).length ≤ sizeLine; omega, ?_⟩
    refine s_compM (fun d => maxL [d.1, d.2.1]) (fun _ _ => rfl) (fun x hx => by simp -implicitDefEqProofs only [o_try, s_val, s_valp, s_stuck, s_exn, s_bnd', s_grd, s_itestuck, s_ite, s_up, s_nox, s_mk, s_fn, s_fnU, o_nx, o_ret, o_stuck, o_exn, o_bnd, o_seq, o_lt, o_itestuck, o_ite, s_if0]; exact ⟨by show 0 < 2; decide, trivial, trivial⟩) ?_
    exact ⟨rfl, trivial⟩
def rowOf (P : List PatT) (k : Tx) : Option (List Int) := P.foldl (fun o p => if p.1 = k then some (grt o p.2.1) else o) none
theorem rowOf_take {P : List PatT} {i : Nat} {p : PatT} (h : P[i]? = some p) (k : Tx) : rowOf (P.take (i + 1)) k = if p.1 = k then some (grt (rowOf (P.take i) k) p.2.1) else rowOf (P.take i) k := by
  unfold rowOf
  rw [List.take_add_one, h, List.foldl_append]
  rfl
/-- what a row tells: of each place the greatest number of the patterns of these signs -/
def RowIs (P : List PatT) (k : Tx) (o : Option (List Int)) : Prop :=
  (∀ p ∈ P, p.1 = k → ∃ ns, o = some ns ∧ ∀ (i : Nat) (y : Int), p.2.1[i]? = some y → ∃ x, ns[i]? = some x ∧ y ≤ x) ∧
  ∀ ns, o = some ns → ns.length = k.length + 1 ∧ ∀ (i : Nat) (x : Int), ns[i]? = some x → ∃ p ∈ P, p.1 = k ∧ p.2.1[i]? = some x
theorem grt_get {ms ns : List Int} (h : ms.length = ns.length) : (grt (some ms) ns).length = ns.length ∧ ∀ (i : Nat) (a b : Int), ms[i]? = some a → ns[i]? = some b → (grt (some ms) ns)[i]? = some (if a < b then b else a) := by
  refine ⟨by show ((zipL ms ns).map _).length = _; rw [List.length_map, zipL_len]; omega, fun i a b ha hb => ?_⟩
  show ((zipL ms ns).map _)[i]? = _
  unfold zipL
  rw [List.getElem?_map, List.getElem?_zipWith, ha, hb]
  show some (maxL [a, b]) = _
  rw [max2_is]
theorem rowOf_is {m : Nat} (k : Tx) : ∀ (n : Nat) (P : List PatT), P.length = n → (∀ p ∈ P, PatOk m p) → RowIs P k (rowOf P k) := by
  intro n
  induction n with
  | zero =>
    intro P h _
    rw [List.length_eq_zero_iff.mp h]
    exact ⟨fun p hp => (by cases hp), fun ns z => (by cases z)⟩
  | succ n ih =>
    intro P h hP
    rcases List.eq_nil_or_concat P with rfl | ⟨Q, p, rfl⟩
    · cases h
    · rw [List.concat_eq_append] at h hP ⊢
      have hl : Q.length = n := by rw [List.length_append, List.length_singleton] at h; omega
      have hQ := ih Q hl fun q hq => hP q (List.mem_append_left _ hq)
      have hp := hP p (List.mem_append_right _ (List.mem_singleton.mpr rfl))
      have e : rowOf (Q ++ [p]) k = if p.1 = k then some (grt (rowOf Q k) p.2.1) else rowOf Q k := by unfold rowOf; rw [List.foldl_append]; rfl
      rw [e]
      by_cases hk : p.1 = k
      · rw [if_pos hk]
        have pl : p.2.1.length = k.length + 1 := by rw [← hk]; exact hp.2.2.2.1
        cases ho : rowOf Q k with
        | none =>
          rw [ho] at hQ
          refine ⟨fun q hq e => ⟨_, rfl, fun i y hy => ?_⟩, fun ns hn => ?_⟩
          · rcases List.mem_append.mp hq with hq | hq
            · obtain ⟨ns, z, _⟩ := hQ.1 q hq e; cases z
            · rw [List.mem_singleton.mp hq] at hy; exact ⟨y, hy, Int.le_refl _⟩
          · cases hn
            exact ⟨pl, fun i x hx => ⟨p, List.mem_append_right _ (List.mem_singleton.mpr rfl), hk, hx⟩⟩
        | some ms =>
          rw [ho] at hQ
          obtain ⟨m1, m2⟩ := hQ.2 ms rfl
          obtain ⟨g1, g2⟩ := grt_get (ms := ms) (ns := p.2.1) (by omega)
          refine ⟨fun q hq e => ⟨_, rfl, fun i y hy => ?_⟩, fun ns hn => ?_⟩
          · rcases List.mem_append.mp hq with hq | hq
            · obtain ⟨ns, z, hh⟩ := hQ.1 q hq e
              cases z
              obtain ⟨x, hx, hxy⟩ := hh i y hy
              have hi := (List.getElem?_eq_some_iff.mp hx).1
              have hb : p.2.1[i]? = some (p.2.1[i]'(by omega)) := List.getElem?_eq_getElem (by omega)
              refine ⟨_, g2 i _ _ hx hb, ?_⟩
              split <;> omega
            · rw [List.mem_singleton.mp hq] at hy
              have hi := (List.getElem?_eq_some_iff.mp hy).1
              have hb : ms[i]? = some (ms[i]'(by omega)) := List.getElem?_eq_getElem (by omega)
              refine ⟨_, g2 i _ _ hb hy, ?_⟩
              split <;> omega
          · cases hn
            refine ⟨by omega, fun i x hx => ?_⟩
            have hi : i < p.2.1.length := by have := (List.getElem?_eq_some_iff.mp hx).1; omega
            have ha : ms[i]? = some (ms[i]'(by omega)) := List.getElem?_eq_getElem (by omega)
            have hb : p.2.1[i]? = some (p.2.1[i]'hi) := List.getElem?_eq_getElem hi
            rw [g2 i _ _ ha hb] at hx
            have hx := Option.some.inj hx
            split at hx
            · rw [hx] at hb
              exact ⟨p, List.mem_append_right _ (List.mem_singleton.mpr rfl), hk, hb⟩
            · rw [hx] at ha
              obtain ⟨q, hq, q1, q2⟩ := m2 i x ha
              exact ⟨q, List.mem_append_left _ hq, q1, q2⟩
      · rw [if_neg hk]
        refine ⟨fun q hq e => ?_, fun ns hn => ?_⟩
        · rcases List.mem_append.mp hq with hq | hq
          · exact hQ.1 q hq e
          · rw [List.mem_singleton.mp hq] at e; exact absurd e hk
        · obtain ⟨q1, q2⟩ := hQ.2 ns hn
          refine ⟨q1, fun i x hx => ?_⟩
          obtain ⟨q, hq, q3⟩ := q2 i x hx
          exact ⟨q, List.mem_append_left _ hq, q3⟩

theorem cut_m1 {α : Type} (xs : List α) : cut xs (some (-1)) none = xs.drop (xs.length - 1) := by
  unfold cut HT.sIx
  simp only [if_pos (show (-1 : Int) < 0 by decide)]
  rw [show ((-1 : Int) + (xs.length : Int)).toNat = xs.length - 1 by omega, List.take_of_length_le (by simp)]
theorem cut_to_m1 {α : Type} (xs : List α) : cut xs none (some (-1)) = xs.take (xs.length - 1) := by
  unfold cut HT.sIx
  simp only [if_pos (show (-1 : Int) < 0 by decide), List.drop_zero, Nat.sub_zero]
  rw [show ((-1 : Int) + (xs.length : Int)).toNat = xs.length - 1 by omega]

/-! the knots' names -/
def isPre (P : List PatT) (k : Tx) : Prop := k = [] ∨ ∃ p ∈ P, k <+: p.1
theorem isPre_take {P : List PatT} {i : Nat} {p : PatT} (h : P[i]? = some p) (k : Tx) : isPre (P.take (i + 1)) k ↔ isPre (P.take i) k ∨ k <+: p.1 := by
  have htk : ∀ q, q ∈ P.take (i + 1) ↔ q ∈ P.take i ∨ q = p := fun q => by rw [List.take_add_one, h]; simp
  constructor
  · rintro (z | ⟨q, hq, z⟩)
    · exact .inl (.inl z)
    · rcases (htk q).mp hq with hq | rfl
      · exact .inl (.inr ⟨q, hq, z⟩)
      · exact .inr z
  · rintro ((z | ⟨q, hq, z⟩) | z)
    · exact .inl z
    · exact .inr ⟨q, (htk q).mpr (.inl hq), z⟩
    · exact .inr ⟨p, (htk p).mpr (.inr rfl), z⟩
theorem isPre_up {P : List PatT} {k : Tx} {c : Nat} (h : isPre P (k ++ [c])) : isPre P k := by
  rcases h with h | ⟨p, hp, h⟩
  · simp at h
  · exact .inr ⟨p, hp, (List.prefix_append k [c]).trans h⟩
theorem rowOf_none {P : List PatT} {k : Tx} (h : ∀ p ∈ P, p.1 ≠ k) : rowOf P k = none := by
  unfold rowOf
  have key : ∀ (Q : List PatT) (o : Option (List Int)), (∀ p ∈ Q, p.1 ≠ k) → Q.foldl (fun o p => if p.1 = k then some (grt o p.2.1) else o) o = o := by
    intro Q
    induction Q with
    | nil => intro o _; rfl
    | cons p Q ih =>
      intro o hq
      rw [List.foldl_cons, if_neg (hq p List.mem_cons_self)]
      exact ih o fun q hq' => hq q (List.mem_cons_of_mem _ hq')
  exact key P none h
theorem rowOf_out {P : List PatT} {k : Tx} (h : ¬ isPre P k) : rowOf P k = none := rowOf_none fun p hp e => h (.inr ⟨p, hp, by rw [e]; exact List.prefix_refl k⟩)
theorem dGet_setd {κ α : Type} [DecidableEq κ] (kvs : List (κ × α)) (k : κ) (v : α) (k' : κ) : dGet (dSetd kvs k v) k' = if k' = k ∧ (dGet kvs k).isSome = false then some v else dGet kvs k' := by
  unfold dSetd
  by_cases h : (dGet kvs k).isSome = true
  · rw [if_pos h, if_neg (fun z => by rw [h] at z; cases z.2)]
  · rw [if_neg h, dGet_put]
    have h : (dGet kvs k).isSome = false := by simpa using h
    by_cases hk : k' = k
    · rw [if_pos hk, if_pos ⟨hk, h⟩]
    · rw [if_neg hk, if_neg (fun z => hk z.1)]
theorem dSetd_keys {κ α : Type} [DecidableEq κ] (kvs : List (κ × α)) (k : κ) (v : α) (h : (kvs.map (·.1)).Nodup) : ((dSetd kvs k v).map (·.1)).Nodup := by
  unfold dSetd
  split
  · exact h
  · exact keys_nodup _ _ _ h
theorem dSetd_len {κ α : Type} [DecidableEq κ] (kvs : List (κ × α)) (k : κ) (v : α) : (dSetd kvs k v).length ≤ kvs.length + 1 := by
  unfold dSetd
  split
  · omega
  · exact dPut_len _ _ _
structure NmOk (P : List PatT) (n : List (Tx × Option (List Int))) : Prop where
  nd : (n.map (·.1)).Nodup
  dom : ∀ k, (dGet n k).isSome = true ↔ isPre P k
  val : ∀ k v, dGet n k = some v → v = rowOf P k
theorem NmOk.get {P : List PatT} {n : List (Tx × Option (List Int))} (h : NmOk P n) (k : Tx) : (dGet n k).getD none = rowOf P k := by
  cases e : dGet n k with
  | some v => exact h.val k v e
  | none =>
    have : ¬ isPre P k := fun z => by have := (h.dom k).mpr z; rw [e] at this; cases this
    exact (rowOf_out this).symm
theorem dPut_len1 {κ α : Type} [DecidableEq κ] (kvs : List (κ × α)) (k : κ) (v : α) (h : (dGet kvs k).isSome = true) : (dPut kvs k v).length = kvs.length := by
  unfold dPut
  rw [dGet_any, if_pos h, List.length_map]
/-! a dict of pairs, told one behind the other -/
theorem merge_snoc {κ α : Type} [DecidableEq κ] (t : List (κ × α × Unit)) (p : κ × α × Unit) (k : κ) : dGet (dMerge (t ++ [p])) k = if k = p.1 then some p.2.1 else dGet (dMerge t) k := by
  unfold dMerge
  rw [List.foldl_append]
  exact dGet_put _ _ _ _
theorem merge_get {κ α : Type} [DecidableEq κ] (k : κ) : ∀ (n : Nat) (t : List (κ × α × Unit)), t.length = n → (dGet (dMerge t) k = none → ∀ v, (k, v, ()) ∉ t) ∧ ∀ v, dGet (dMerge t) k = some v → (k, v, ()) ∈ t := by
  intro n
  induction n with
  | zero =>
    intro t h
    rw [List.length_eq_zero_iff.mp h]
    exact ⟨fun _ v z => (by cases z), fun v z => (by cases z)⟩
  | succ n ih =>
    intro t h
    rcases List.eq_nil_or_concat t with rfl | ⟨s, p, rfl⟩
    · cases h
    · rw [List.concat_eq_append] at h ⊢
      have hl : s.length = n := by rw [List.length_append, List.length_singleton] at h; omega
      obtain ⟨h1, h2⟩ := ih s hl
      rw [merge_snoc]
      obtain ⟨pk, pv, ⟨⟩⟩ := p
      by_cases hk : k = pk
      · rw [if_pos hk]
        exact ⟨fun z => (by cases z), fun v z => by cases z; rw [hk]; exact List.mem_append_right _ (List.mem_singleton.mpr rfl)⟩
      · rw [if_neg hk]
        refine ⟨fun z v hv => ?_, fun v z => List.mem_append_left _ (h2 v z)⟩
        rcases List.mem_append.mp hv with hv | hv
        · exact h1 z v hv
        · have hv := List.mem_singleton.mp hv
          injection hv with hv _
          exact hk hv
/-! texts, sorted: the empty one comes first -/
theorem toks_tx {a b : Tx} (h : PySem.W.keyToks (dTx a) = PySem.W.keyToks (dTx b)) : a = b := by
  simp only [dTx, PySem.W.keyToks, List.cons.injEq, Sum.inr.injEq, and_true] at h
  simpa using h
theorem le_nil (y : Tx) : PySem.W.dataLe false dTx [] y = true := by
  show (!PyProof.Rows.lexLt PyProof.Rows.itemOrd (PySem.W.keyToks (dTx y)) (PySem.W.keyToks (dTx []))) = true
  simp [dTx, PySem.W.keyToks, PyProof.Rows.lexLt, PyProof.Rows.itemOrd]
  show decide (y < ([] : List Nat)) = false
  exact decide_eq_false (List.not_lt_nil y)
theorem sortT_head {xs : List Tx} (h : ([] : Tx) ∈ xs) : (sortK dTx xs)[0]? = some [] := by
  have hm : ([] : Tx) ∈ sortK dTx xs := (List.mergeSort_perm xs _).mem_iff.mpr h
  have hp : (sortK dTx xs).Pairwise fun a b => PySem.W.dataLe false dTx a b = true := PySem.W.sort_pairwise (PySem.W.sortLe_total _ _ _) _
  generalize sortK dTx xs = R at hm hp
  cases R with
  | nil => cases hm
  | cons a R =>
    rcases List.mem_cons.mp hm with e | hm
    · rw [← e]; rfl
    · have h1 := (List.pairwise_cons.mp hp).1 _ hm
      have h2 := le_nil a
      have e : a = [] := by
        refine toks_tx (PyProof.Rows.lex_total (O := PyProof.Rows.itemOrd) _ _ ?_ ?_)
        · have h2 : (!PyProof.Rows.lexLt PyProof.Rows.itemOrd (PySem.W.keyToks (dTx a)) (PySem.W.keyToks (dTx []))) = true := h2
          simpa using h2
        · have h1 : (!PyProof.Rows.lexLt PyProof.Rows.itemOrd (PySem.W.keyToks (dTx [])) (PySem.W.keyToks (dTx a))) = true := h1
          simpa using h1
      rw [e]; rfl

abbrev WayT := Tx × Int × Unit
abbrev KnotT := List WayT × Option (List Int) × Unit
/-- the ways on from a name -/
def waysL (xs : List (Int × Tx × Unit)) (n : Tx) : List WayT := xs.filterMap fun d => if d.2.1 ≠ [] ∧ cut d.2.1 none (some (-1)) = n then some ([(atI d.2.1 (-1)).getD 0], d.1, ()) else none
theorem last_is (n : Tx) (c : Nat) : cut (n ++ [c]) none (some (-1)) = n ∧ (atI (n ++ [c]) (-1)).getD 0 = c ∧ (atI (n ++ [c]) (-1)).isSome = true := by
  have hl : (n ++ [c]).length = n.length + 1 := by simp
  refine ⟨?_, ?_, ?_⟩
  · rw [cut_to_m1, hl, List.take_append_of_le_length (by omega), List.take_of_length_le (by omega)]
  · rw [at_last (by omega), hl]; simp
  · rw [at_last (by omega), hl]; simp
/-- a wood: f tells where the knot of a name stands -/
structure WoodIs (P : List PatT) (w : List KnotT) (f : Tx → Nat) : Prop where
  root : f [] = 0
  knot : ∀ n, isPre P n → ∃ kn, w[f n]? = some kn ∧ kn.2.1 = rowOf P n ∧ (∀ c, isPre P (n ++ [c]) → dGet (dMerge kn.1) [c] = some (f (n ++ [c]) : Int)) ∧ ∀ c, ¬ isPre P (n ++ [c]) → dGet (dMerge kn.1) [c] = none
  ways : ∀ kn ∈ w, kn.1.length ≤ 10000 ∧ ∀ y ∈ kn.1, (∃ c, y.1 = [c] ∧ c < 0x110000) ∧ 0 ≤ y.2.1 ∧ y.2.1 < (w.length : Int)
  len : w.length ≤ 10000
  pos : 1 ≤ w.length
/-- more of a wood: its knots' very ways -/
structure WoodMore (P : List PatT) (w : List KnotT) (f : Tx → Nat) : Prop where
  inj : ∀ a b, isPre P a → isPre P b → f a = f b → a = b
  list : ∀ n kn, isPre P n → w[f n]? = some kn → (kn.1.map fun y : WayT => y.1).Nodup ∧ ∀ (c : Nat) (v : Int), (([c] : Tx), v, ()) ∈ kn.1 ↔ isPre P (n ++ [c]) ∧ v = (f (n ++ [c]) : Int)
  posw : ∀ kn ∈ w, ∀ y ∈ kn.1, 1 ≤ y.2.1
/-- a wood's order: no other knots, ways by rising signs -/
structure WoodAll (P : List PatT) (w : List KnotT) (f : Tx → Nat) : Prop where
  surj : ∀ i, i < w.length → ∃ n, isPre P n ∧ f n = i
  rise : ∀ kn ∈ w, (kn.1.map fun y : WayT => y.1).Pairwise fun a b => a ≤ b
  nd : ∀ kn ∈ w, (kn.1.map fun y : WayT => y.1).Nodup
  row : ∀ kn ∈ w, ∃ n, isPre P n ∧ kn.2.1 = rowOf P n
  few : w.length ≤ 1 + 101 * P.length
  fw : ∀ kn ∈ w, kn.1.length ≤ w.length
theorem app_le {k a b : Tx} (h : k ++ a ≤ k ++ b) : a ≤ b := by
  induction k with
  | nil => exact h
  | cons c k ih =>
    rw [List.cons_append, List.cons_append, List.cons_le_cons_iff] at h
    rcases h with h | ⟨_, h⟩
    · exact absurd h (Nat.lt_irrefl _)
    · exact ih h
theorem sortT_pw (xs : List Tx) : (sortK dTx xs).Pairwise fun a b => a ≤ b := by
  unfold sortK
  rw [leT_eq]
  have tr : ∀ a b c : Tx, decide (a ≤ b) = true → decide (b ≤ c) = true → decide (a ≤ c) = true := fun a b c h1 h2 => by
    rw [decide_eq_true_eq] at *
    exact List.le_trans h1 h2
  have tt : ∀ a b : Tx, (decide (a ≤ b) || decide (b ≤ a)) = true := fun a b => by
    rw [Bool.or_eq_true, decide_eq_true_eq, decide_eq_true_eq]
    exact List.le_total a b
  exact (List.pairwise_mergeSort tr tt xs).imp fun h => of_decide_eq_true h
theorem wood_satA {E : Exc → Prop} {m : Nat} {P : List PatT} (hP : ∀ p ∈ P, PatOk m p) (hm : m ≤ 100) (hl : P.length ≤ 70) : (m_wood_of (P, ()) ()).sat (fun w _ => ∃ f, WoodIs P w f ∧ WoodMore P w f ∧ WoodAll P w f) E := by
  have hs := sz20
  unfold m_wood_of
  simp -implicitDefEqProofs only [o_try, s_val, s_valp, s_stuck, s_exn, s_bnd', s_grd, s_itestuck, s_ite, s_up, s_nox, s_mk, s_fn, s_fnU, o_nx, o_ret, o_stuck, o_exn, o_bnd, o_seq, o_lt, o_itestuck, o_ite, s_if0]
  refine o_for (fun i (n : List (Tx × Option (List Int))) => n.length ≤ 1 + 101 * i ∧ NmOk (P.take i) n) ⟨Nat.le_refl _, ⟨by simp, fun k => ?_, fun k v e => ?_⟩⟩ (fun i p n hp hn => ?_) (fun n hn => ?_)
  · rw [dGet_cons, dGet_nil]
    by_cases h : ([] : Tx) = k
    · rw [if_pos h]
      exact ⟨fun _ => .inl h.symm, fun _ => rfl⟩
    · rw [if_neg h]
      constructor
      · intro z; cases z
      · rintro (z | ⟨p, hp, _⟩)
        · exact absurd z.symm h
        · simp at hp
  · rw [dGet_cons, dGet_nil] at e
    split at e
    · exact (Option.some.inj e).symm
    · cases e
  · have hpi := (List.getElem?_eq_some_iff.mp hp).1
    obtain ⟨s1, s2, s3, s4, s5⟩ := hP p (List.mem_of_getElem? hp)
    obtain ⟨n1, n2⟩ := hn
    simp -implicitDefEqProofs only [o_try, s_val, s_valp, s_stuck, s_exn, s_bnd', s_grd, s_itestuck, s_ite, s_up, s_nox, s_mk, s_fn, s_fnU, o_nx, o_ret, o_stuck, o_exn, o_bnd, o_seq, o_lt, o_itestuck, o_ite, s_if0]
    refine ⟨by omega, rng_ok (by omega) (by omega) (by omega) (by omega), ?_⟩
    have hN : (rng 1 (p.1.length : Int)).length = p.1.length - 1 := by rw [rng_len]; omega
    refine o_for (fun j (q : List (Tx × Option (List Int))) => q.length ≤ n.length + j ∧ (q.map (·.1)).Nodup ∧ (∀ k, (dGet q k).isSome = true ↔ isPre (P.take i) k ∨ (k <+: p.1 ∧ k.length ≤ j)) ∧ ∀ k v, dGet q k = some v → v = rowOf (P.take i) k)
      ⟨by omega, n2.nd, fun k => ?_, n2.val⟩ (fun j x q hx hq => ?_) (fun q hq => ?_)
    · rw [n2.dom]
      constructor
      · exact .inl
      · rintro (z | ⟨_, z⟩)
        · exact z
        · exact .inl (List.length_eq_zero_iff.mp (by omega))
    · have hj : j < p.1.length - 1 := by rw [← hN]; exact (List.getElem?_eq_some_iff.mp hx).1
      rw [rng_get (by omega)] at hx
      have hx : 1 + (j : Int) = x := Option.some.inj hx
      have hx : x = ((j + 1 : Nat) : Int) := by omega
      subst hx
      obtain ⟨q1, q2, q3, q4⟩ := hq
      have hcut : cut p.1 none (some ((j + 1 : Nat) : Int)) = p.1.take (j + 1) := by rw [cut_to (by omega)]; rfl
      rw [if_pos (show p.1.length ≤ sizeLine by omega)]
      simp -implicitDefEqProofs only [o_try, s_val, s_valp, s_stuck, s_exn, s_bnd', s_grd, s_itestuck, s_ite, s_up, s_nox, s_mk, s_fn, s_fnU, o_nx, o_ret, o_stuck, o_exn, o_bnd, o_seq, o_lt, o_itestuck, o_ite, s_if0, hcut]
      refine ⟨by omega, by have := dSetd_len q (p.1.take (j + 1)) (none : Option (List Int)); omega, dSetd_keys _ _ _ q2, fun k => ?_, fun k v e => ?_⟩
      · rw [dGet_setd]
        have hiff : k <+: p.1 ∧ k.length ≤ j + 1 ↔ k <+: p.1 ∧ k.length ≤ j ∨ k = p.1.take (j + 1) := by
          constructor
          · rintro ⟨z1, z2⟩
            by_cases hk : k.length = j + 1
            · exact .inr (by rw [← hk]; exact List.prefix_iff_eq_take.mp z1)
            · exact .inl ⟨z1, by omega⟩
          · rintro (z | z)
            · exact ⟨z.1, by omega⟩
            · rw [z]; exact ⟨List.take_prefix .., by rw [List.length_take]; omega⟩
        rw [hiff]
        by_cases hk : k = p.1.take (j + 1) ∧ (dGet q (p.1.take (j + 1))).isSome = false
        · rw [if_pos hk]
          exact ⟨fun _ => .inr (.inr hk.1), fun _ => rfl⟩
        · rw [if_neg hk, q3]
          constructor
          · rintro (z | z)
            · exact .inl z
            · exact .inr (.inl z)
          · rintro (z | z | z)
            · exact .inl z
            · exact .inr z
            · have : (dGet q (p.1.take (j + 1))).isSome = true := by
                cases hh : (dGet q (p.1.take (j + 1))).isSome with
                | true => rfl
                | false => exact absurd ⟨z, hh⟩ hk
              rw [← z, q3] at this
              exact this
      · rw [dGet_setd] at e
        by_cases hk : k = p.1.take (j + 1) ∧ (dGet q (p.1.take (j + 1))).isSome = false
        · rw [if_pos hk] at e
          have e := Option.some.inj e
          rw [← e]
          refine (rowOf_out fun z => ?_).symm
          have : (dGet q k).isSome = true := (q3 k).mpr (.inl z)
          rw [hk.1] at this
          rw [this] at hk
          cases hk.2
        · rw [if_neg hk] at e
          exact q4 k v e
    · rw [hN] at hq
      obtain ⟨q1, q2, q3, q4⟩ := hq
      have hg : (dGet q p.1).getD none = rowOf (P.take i) p.1 := by
        cases e : dGet q p.1 with
        | some v => exact q4 _ v e
        | none =>
          refine (rowOf_out fun z => ?_).symm
          have := (q3 p.1).mpr (.inl z)
          rw [e] at this; cases this
      simp -implicitDefEqProofs only [o_try, s_val, s_valp, s_stuck, s_exn, s_bnd', s_grd, s_itestuck, s_ite, s_up, s_nox, s_mk, s_fn, s_fnU, o_nx, o_ret, o_stuck, o_exn, o_bnd, o_seq, o_lt, o_itestuck, o_ite, s_if0, hg, greatest_eq _ (show p.2.1.length ≤ 1000 by omega)]
      refine ⟨by omega, by have := dPut_len q p.1 (some (grt (rowOf (P.take i) p.1) p.2.1)); omega, ⟨keys_nodup _ _ _ q2, fun k => ?_, fun k v e => ?_⟩⟩
      · rw [dGet_put, isPre_take hp]
        by_cases hk : k = p.1
        · rw [if_pos hk]
          exact ⟨fun _ => .inr (by rw [hk]; exact List.prefix_refl _), fun _ => rfl⟩
        · rw [if_neg hk, q3]
          constructor
          · rintro (z | z)
            · exact .inl z
            · exact .inr z.1
          · rintro (z | z)
            · exact .inl z
            · refine .inr ⟨z, ?_⟩
              have hlen := z.length_le
              by_cases he : k.length = p.1.length
              · exact absurd (z.eq_of_length he) hk
              · omega
      · rw [dGet_put] at e
        rw [rowOf_take hp]
        by_cases hk : k = p.1
        · rw [if_pos hk] at e
          rw [if_pos hk.symm, hk]
          exact (Option.some.inj e).symm
        · rw [if_neg hk] at e
          rw [if_neg (fun z => hk z.symm)]
          exact q4 k v e
  · rw [List.take_length] at hn
    obtain ⟨n1, n2⟩ := hn
    have hRl : (sortK dTx (n.map fun y => y.1)).length = n.length := by
      have := (List.mergeSort_perm (n.map fun y => y.1) (PySem.W.dataLe false dTx)).length_eq
      rw [List.length_map] at this
      exact this
    have hRn : (sortK dTx (n.map fun y => y.1)).Nodup := (List.mergeSort_perm _ _).nodup_iff.mpr n2.nd
    have hRm : ∀ k, k ∈ sortK dTx (n.map fun y => y.1) ↔ isPre P k := fun k => by
      rw [← n2.dom k, dGet_mem]
      exact (List.mergeSort_perm _ _).mem_iff
    have hR0 : (sortK dTx (n.map fun y => y.1))[0]? = some [] := sortT_head ((dGet_mem n []).mp ((n2.dom []).mpr (.inl rfl)))
    have hRs := sortT_pw (n.map fun y => y.1)
    generalize sortK dTx (n.map fun y => y.1) = R at hRl hRn hRm hR0 hRs
    have hnl : n.length ≤ 8000 := by omega
    refine o_for (fun i (m : List (Tx × List WayT)) => m.length ≤ i ∧ ∀ k, dGet m k = if k ∈ R.take i then some [] else none) ⟨Nat.le_refl _, fun k => by simp [dGet_nil]⟩ (fun i x m hx hm' => ?_) (fun m hm' => ?_)
    · have hi := (List.getElem?_eq_some_iff.mp hx).1
      have htk : R.take (i + 1) = R.take i ++ [x] := by rw [List.take_add_one, hx]; rfl
      have hnx : x ∉ R.take i := fun z => by
        have h2 : (R.take (i + 1)).Nodup := hRn.sublist (List.take_sublist _ _)
        rw [htk, List.nodup_append] at h2
        exact h2.2.2 x z x (List.mem_singleton.mpr rfl) rfl
      have hm1 := hm'.1
      simp -implicitDefEqProofs only [o_try, s_val, s_valp, s_stuck, s_exn, s_bnd', s_grd, s_itestuck, s_ite, s_up, s_nox, s_mk, s_fn, s_fnU, o_nx, o_ret, o_stuck, o_exn, o_bnd, o_seq, o_lt, o_itestuck, o_ite, s_if0]
      refine ⟨⟨by omega, by rw [hm'.2, if_neg hnx]; rfl⟩, by have := dPut_len m x ([] : List WayT); omega, fun k => ?_⟩
      rw [dGet_put, hm'.2, htk]
      by_cases hk : k = x
      · rw [if_pos hk, if_pos (List.mem_append_right _ (List.mem_singleton.mpr hk))]
      · rw [if_neg hk]
        by_cases h2 : k ∈ R.take i
        · rw [if_pos h2, if_pos (List.mem_append_left _ h2)]
        · rw [if_neg h2, if_neg (fun z => (List.mem_append.mp z).elim h2 fun z => hk (List.mem_singleton.mp z))]
    · rw [List.take_length] at hm'
      obtain ⟨m1, m2⟩ := hm'
      have hEl : (enumL R).length = R.length := enumL_len R
      have wl : ∀ i k, (waysL ((enumL R).take i) k).length ≤ i := fun i k => by
        unfold waysL
        refine Nat.le_trans (List.length_filterMap_le _ _) ?_
        rw [List.length_take]; omega
      refine o_for (fun i (q : List (Tx × List WayT)) => q.length ≤ R.length ∧ (∀ k, k ∈ R → dGet q k = some (waysL ((enumL R).take i) k))) ⟨m1, fun k hk => by rw [m2, if_pos hk]; rfl⟩ (fun i x q hx hq => ?_) (fun q hq => ?_)
      · obtain ⟨e1, e2⟩ := enumL_get2 hx
        have hi := (List.getElem?_eq_some_iff.mp hx).1
        obtain ⟨xi, nm, ⟨⟩⟩ := x
        have e1 : xi = (i : Int) := e1
        have e2 : R[i]? = some nm := e2
        subst e1
        have hnm := (hRm nm).mp (List.mem_of_getElem? e2)
        have htk : (enumL R).take (i + 1) = (enumL R).take i ++ [((i : Int), nm, ())] := by rw [List.take_add_one, hx]; rfl
        have hwt : ∀ k, waysL ((enumL R).take (i + 1)) k = waysL ((enumL R).take i) k ++ waysL [((i : Int), nm, ())] k := fun k => by rw [htk]; unfold waysL; rw [List.filterMap_append]
        have hnl2 : nm.length ≤ 1000 := by
          rcases hnm with rfl | ⟨p, hp, z⟩
          · exact Nat.zero_le _
          · have := z.length_le; have := (hP p hp).2.1; omega
        simp -implicitDefEqProofs only [o_try, s_val, s_valp, s_stuck, s_exn, s_bnd', s_grd, s_itestuck, s_ite, s_up, s_nox, s_mk, s_fn, s_fnU, o_nx, o_ret, o_stuck, o_exn, o_bnd, o_seq, o_lt, o_itestuck, o_ite, s_if0]
        by_cases h0 : nm = []
        · refine ite_f (by rw [decide_eq_true h0]; decide) ⟨hq.1, fun k hk => ?_⟩
          rw [hwt, hq.2 k hk]
          have : waysL [((i : Int), nm, ())] k = [] := by
            unfold waysL
            rw [List.filterMap_cons, if_neg (fun z => z.1 h0)]; rfl
          rw [this, List.append_nil]
        · obtain ⟨n0, c, rfl⟩ : ∃ n0 c, nm = n0 ++ [c] := by
            rcases List.eq_nil_or_concat nm with z | ⟨a, b, z⟩
            · exact absurd z h0
            · exact ⟨a, b, by rw [z, List.concat_eq_append]⟩
          obtain ⟨g1, g2, g3⟩ := last_is n0 c
          have hn0 : n0 ∈ R := (hRm n0).mpr (isPre_up hnm)
          have hd := hq.2 n0 hn0
          refine ite_t (by rw [decide_eq_false h0]; rfl) ?_
          simp only [g1, g2, hd, Option.isSome_some, Option.getD_some]
          have hone : ∀ k, waysL [((i : Int), n0 ++ [c], ())] k = if k = n0 then [([c], (i : Int), ())] else [] := fun k => by
            unfold waysL
            rw [List.filterMap_cons, g1, g2]
            by_cases hk : k = n0
            · rw [if_pos ⟨h0, hk.symm⟩, if_pos hk]; rfl
            · rw [if_neg (fun z => hk z.2.symm), if_neg hk]; rfl
          refine ⟨by omega, trivial, ⟨by omega, g3⟩, by have := wl i n0; omega, ?_, fun k hk => ?_⟩
          · rw [dPut_len1 _ _ _ (by rw [hd]; rfl)]; exact hq.1
          · rw [dGet_put, hwt, hone]
            by_cases hkn : k = n0
            · rw [if_pos hkn, if_pos hkn, hkn]
            · rw [if_neg hkn, if_neg hkn, List.append_nil]
              exact hq.2 k hk
      · rw [List.take_length] at hq
        obtain ⟨q1, q2⟩ := hq
        refine ⟨by omega, ?_⟩
        refine s_compM (fun k => (waysL (enumL R) k, rowOf P k, ())) (fun _ _ => rfl) (fun k hk => ?_) ?_
        · have hpk := (hRm k).mp hk
          obtain ⟨v, hv⟩ : ∃ v, dGet n k = some v := ⟨_, Option.eq_some_of_isSome ((n2.dom k).mpr hpk)⟩
          have hv2 := n2.val k v hv
          simp -implicitDefEqProofs only [o_try, s_val, s_valp, s_stuck, s_exn, s_bnd', s_grd, s_itestuck, s_ite, s_up, s_nox, s_mk, s_fn, s_fnU, o_nx, o_ret, o_stuck, o_exn, o_bnd, o_seq, o_lt, o_itestuck, o_ite, s_if0, q2 k hk, hv, Option.isSome_some, Option.getD_some, hv2]
          first | exact ⟨trivial, trivial, rfl, trivial⟩ | exact ⟨trivial, trivial, trivial, trivial⟩ | trivial
        · -- the wood
          have mem_ways : ∀ k (c : Tx) (v : Int), (c, v, ()) ∈ waysL (enumL R) k → ∃ (i : Nat) (c0 : Nat), c = [c0] ∧ v = (i : Int) ∧ R[i]? = some (k ++ [c0]) := fun k c v hv => by
            unfold waysL at hv
            obtain ⟨d, hd, he⟩ := List.mem_filterMap.mp hv
            obtain ⟨j, hj⟩ := List.getElem?_of_mem hd
            obtain ⟨e1, e2⟩ := enumL_get2 hj
            by_cases hc : d.2.1 ≠ [] ∧ cut d.2.1 none (some (-1)) = k
            · rw [if_pos hc] at he
              have he := Option.some.inj he
              injection he with f1 f2
              injection f2 with f2 _
              rcases List.eq_nil_or_concat d.2.1 with z | ⟨a, b, z⟩
              · exact absurd z hc.1
              · rw [List.concat_eq_append] at z
                obtain ⟨g1, g2, _⟩ := last_is a b
                rw [z] at hc f1 e2
                rw [g1] at hc
                rw [g2] at f1
                exact ⟨j, b, f1.symm, by rw [← f2, e1], by rw [e2, ← hc.2]⟩
            · rw [if_neg hc] at he; cases he
          have ways_mem : ∀ k (c0 i : Nat), R[i]? = some (k ++ [c0]) → (([c0] : Tx), (i : Int), ()) ∈ waysL (enumL R) k := fun k c0 i hi => by
            unfold waysL
            have hlt := (List.getElem?_eq_some_iff.mp hi).1
            obtain ⟨x, hx⟩ : ∃ x, (enumL R)[i]? = some x := ⟨_, List.getElem?_eq_getElem (by rw [hEl]; exact hlt)⟩
            obtain ⟨e1, e2⟩ := enumL_get2 hx
            rw [hi] at e2
            have e2 := Option.some.inj e2
            obtain ⟨g1, g2, _⟩ := last_is k c0
            refine List.mem_filterMap.mpr ⟨x, List.mem_of_getElem? hx, ?_⟩
            rw [← e2, g1, g2, if_pos ⟨by simp, rfl⟩, e1]
          have idx : ∀ k, k ∈ R → R[R.idxOf k]? = some k := fun k hk => by
            have h1 := List.idxOf_lt_length_of_mem hk
            rw [List.getElem?_eq_getElem h1, List.getElem_idxOf h1]
          have uniq : ∀ (i j : Nat) (k : Tx), R[i]? = some k → R[j]? = some k → i = j := fun i j k h1 h2 => by
            have hi := (List.getElem?_eq_some_iff.mp h1).1
            exact (List.getElem?_inj hi hRn).mp (h1.trans h2.symm)
          have emap : (enumL R).map (fun d => d.2.1) = R := by
            apply List.ext_getElem?
            intro i
            rw [List.getElem?_map]
            cases hi : (enumL R)[i]? with
            | none =>
              have := List.getElem?_eq_none_iff.mp hi
              rw [List.getElem?_eq_none (by omega)]; rfl
            | some x => exact (enumL_get2 hi).2.symm
          have epw : (enumL R).Pairwise fun a b => a.2.1 ≠ b.2.1 := by
            have h : ((enumL R).map fun d => d.2.1).Pairwise (· ≠ ·) := by rw [emap]; exact hRn
            exact List.pairwise_map.mp h
          have name_of : ∀ k (d : Int × Tx × Unit) (y : WayT), (if d.2.1 ≠ [] ∧ cut d.2.1 none (some (-1)) = k then some ([(atI d.2.1 (-1)).getD 0], d.1, ()) else none) = some y → d.2.1 = k ++ y.1 := fun k d y he => by
            by_cases hc : d.2.1 ≠ [] ∧ cut d.2.1 none (some (-1)) = k
            · rw [if_pos hc] at he
              have he := Option.some.inj he
              rcases List.eq_nil_or_concat d.2.1 with z | ⟨a, b, z⟩
              · exact absurd z hc.1
              · rw [List.concat_eq_append] at z
                obtain ⟨g1, g2, _⟩ := last_is a b
                rw [z] at hc he ⊢
                rw [g1] at hc
                rw [g2] at he
                rw [← he, ← hc.2]
            · rw [if_neg hc] at he; cases he
          have epl : (enumL R).Pairwise fun a b => a.2.1 ≤ b.2.1 := by
            have h : ((enumL R).map fun d => d.2.1).Pairwise (fun a b => a ≤ b) := by rw [emap]; exact hRs
            exact List.pairwise_map.mp h
          have rise_ways : ∀ k, ((waysL (enumL R) k).map fun y : WayT => y.1).Pairwise fun a b => a ≤ b := fun k => by
            unfold waysL
            refine List.pairwise_map.mpr (List.Pairwise.filterMap _ (fun a b hab y hy z hz => ?_) epl)
            rw [name_of k a y hy, name_of k b z hz] at hab
            exact app_le hab
          have nd_ways : ∀ k, ((waysL (enumL R) k).map fun y : WayT => y.1).Nodup := fun k => by
            unfold waysL
            refine List.pairwise_map.mpr (List.Pairwise.filterMap _ (fun a b hab y hy z hz e => ?_) epw)
            exact hab (by rw [name_of k a y hy, name_of k b z hz, e])
          refine ⟨fun k => R.idxOf k, ⟨uniq _ _ _ (idx [] ((hRm []).mpr (.inl rfl))) hR0, fun k hk => ?_, fun kn hkn => ?_, by rw [List.length_map]; omega, by rw [List.length_map]; exact Nat.succ_le_of_lt (List.getElem?_eq_some_iff.mp hR0).1⟩, ⟨fun a b ha hb e => ?_, fun k kn hk hkn => ?_, fun kn hkn y hy => ?_⟩, ⟨fun i hi => ?_, fun kn hkn => ?_, fun kn hkn => ?_, fun kn hkn => ?_, by rw [List.length_map, hRl]; exact n1, fun kn hkn => ?_⟩⟩
          · have hkR := (hRm k).mpr hk
            refine ⟨(waysL (enumL R) k, rowOf P k, ()), by rw [List.getElem?_map, idx k hkR]; rfl, rfl, fun c hc => ?_, fun c hc => ?_⟩
            · have hcR := (hRm _).mpr hc
              obtain ⟨h1, h2⟩ := merge_get ([c] : Tx) _ (waysL (enumL R) k) rfl
              have hmem := ways_mem k c _ (idx _ hcR)
              show dGet (dMerge (waysL (enumL R) k)) [c] = _
              cases e : dGet (dMerge (waysL (enumL R) k)) [c] with
              | none => exact absurd hmem (h1 e _)
              | some v =>
                obtain ⟨j, c0, f1, f2, f3⟩ := mem_ways k _ _ (h2 v e)
                injection f1 with f1
                subst f1
                rw [f2, uniq _ _ _ f3 (idx _ hcR)]
            · obtain ⟨h1, h2⟩ := merge_get ([c] : Tx) _ (waysL (enumL R) k) rfl
              show dGet (dMerge (waysL (enumL R) k)) [c] = _
              cases e : dGet (dMerge (waysL (enumL R) k)) [c] with
              | none => rfl
              | some v =>
                obtain ⟨j, c0, f1, f2, f3⟩ := mem_ways k _ _ (h2 v e)
                injection f1 with f1
                subst f1
                exact absurd ((hRm _).mp (List.mem_of_getElem? f3)) hc
          · obtain ⟨k, hk, rfl⟩ := List.mem_map.mp hkn
            refine ⟨?_, fun y hy => ?_⟩
            · show (waysL (enumL R) k).length ≤ 10000
              have := wl R.length k
              rw [← hEl, List.take_length] at this
              omega
            · obtain ⟨y1, y2, ⟨⟩⟩ := y
              obtain ⟨j, c0, f1, f2, f3⟩ := mem_ways k _ _ hy
              have hj := (List.getElem?_eq_some_iff.mp f3).1
              have hpre := (hRm _).mp (List.mem_of_getElem? f3)
              refine ⟨⟨c0, f1, ?_⟩, ?_, ?_⟩
              · rcases hpre with z | ⟨p, hp, z⟩
                · simp at z
                · exact az_lt ((hP p hp).2.2.1 c0 (z.subset (List.mem_append_right _ (List.mem_singleton.mpr rfl))))
              · show 0 ≤ y2; omega
              · show y2 < _; rw [List.length_map]; omega
          · have h1 := idx a ((hRm a).mpr ha)
            have h2 := idx b ((hRm b).mpr hb)
            have e : R.idxOf a = R.idxOf b := e
            rw [e, h2] at h1
            exact (Option.some.inj h1).symm
          · have hkR := (hRm k).mpr hk
            rw [List.getElem?_map, idx k hkR] at hkn
            cases hkn
            refine ⟨nd_ways k, fun c v => ⟨fun h => ?_, fun ⟨h1, h2⟩ => ?_⟩⟩
            · obtain ⟨j, c0, f1, f2, f3⟩ := mem_ways k _ _ h
              injection f1 with f1
              subst f1
              have hpre := (hRm _).mp (List.mem_of_getElem? f3)
              exact ⟨hpre, by rw [f2, uniq _ _ _ f3 (idx _ ((hRm _).mpr hpre))]⟩
            · rw [h2]
              exact ways_mem k c _ (idx _ ((hRm _).mpr h1))
          · obtain ⟨k, hk, rfl⟩ := List.mem_map.mp hkn
            obtain ⟨y1, y2, ⟨⟩⟩ := y
            obtain ⟨j, c0, f1, f2, f3⟩ := mem_ways k _ _ hy
            show 1 ≤ y2
            have : j ≠ 0 := fun z => by
              rw [z, hR0] at f3
              have := Option.some.inj f3
              simp at this
            omega
          · rw [List.length_map] at hi
            refine ⟨R[i], (hRm _).mp (List.getElem_mem hi), ?_⟩
            exact uniq _ _ _ (idx _ (List.getElem_mem hi)) (List.getElem?_eq_getElem hi)
          · obtain ⟨k, hk, rfl⟩ := List.mem_map.mp hkn
            exact rise_ways k
          · obtain ⟨k, hk, rfl⟩ := List.mem_map.mp hkn
            exact nd_ways k
          · obtain ⟨k, hk, rfl⟩ := List.mem_map.mp hkn
            exact ⟨k, (hRm k).mp hk, rfl⟩
          · obtain ⟨k, hk, rfl⟩ := List.mem_map.mp hkn
            rw [List.length_map]
            have := wl R.length k
            rw [← hEl, List.take_length] at this
            show (waysL (enumL R) k).length ≤ R.length
            omega

theorem isPre_down {P : List PatT} {a b : Tx} (h : isPre P b) (hab : a <+: b) : isPre P a := by
  rcases h with rfl | ⟨p, hp, z⟩
  · exact .inl (List.prefix_nil.mp hab)
  · exact .inr ⟨p, hp, hab.trans z⟩
theorem nodup_le : ∀ (n : Nat) (l : List Nat), l.Nodup → (∀ x ∈ l, x < n) → l.length ≤ n
  | 0, l, _, h => by
    cases l with
    | nil => exact Nat.le_refl _
    | cons a l => exact absurd (h a List.mem_cons_self) (Nat.not_lt_zero _)
  | n + 1, l, hn, h => by
    have h2 := nodup_le n (l.erase n) (hn.erase n) fun x hx => by
      have := (hn.mem_erase_iff).mp hx
      have := h x this.2
      omega
    have h3 : l.length ≤ (l.erase n).length + 1 := by
      by_cases hm : n ∈ l
      · rw [List.length_erase_of_mem hm]; omega
      · rw [List.erase_of_not_mem hm]; omega
    omega
abbrev dWay : WayT → PyData := dTup (dCons dTx (dCons PyData.int dNil))
theorem eqv_nilW (L : List WayT) : PyData.eqv (dLst dWay L) (dLst dWay []) = decide (L = []) := by
  cases L with
  | nil => rfl
  | cons n ns => simp [dLst, PyData.eqv, PyData.eqvAll]
/-- the walk's places: names done, names waiting -/
structure DfsOk (P : List PatT) (S W : List Tx) : Prop where
  nd : (S ++ W).Nodup
  pre : ∀ k ∈ S ++ W, isPre P k
  anti : ∀ a ∈ W, ∀ b ∈ S ++ W, a <+: b → a = b
  cov : ∀ k, isPre P k → k ∈ S ∨ ∃ a ∈ W, a <+: k
theorem pre_snoc {a k : Tx} {c : Nat} (h : a <+: k ++ [c]) : a <+: k ∨ a = k ++ [c] := by
  by_cases hl : a.length ≤ k.length
  · exact .inl (List.prefix_of_prefix_length_le h (List.prefix_append ..) hl)
  · exact .inr (h.eq_of_length (by have := h.length_le; rw [List.length_append, List.length_singleton] at this ⊢; omega))
theorem dfs_step {P : List PatT} {S W : List Tx} {k : Tx} {C : List Tx} (h : DfsOk P S (W ++ [k])) (hn : C.Nodup) (hc : ∀ x, x ∈ C ↔ ∃ c, x = k ++ [c] ∧ isPre P (k ++ [c])) : DfsOk P (S ++ [k]) (W ++ C) := by
  have kW : k ∈ W ++ [k] := List.mem_append_right _ (List.mem_singleton.mpr rfl)
  have kB : k ∈ S ++ (W ++ [k]) := List.mem_append_right _ kW
  have lenC : ∀ x ∈ C, ∃ c, x = k ++ [c] := fun x hx => (hc x |>.mp hx).imp fun c z => z.1
  -- a child was nowhere yet
  have newC : ∀ x ∈ C, x ∉ S ++ (W ++ [k]) := fun x hx z => by
    obtain ⟨c, rfl⟩ := lenC x hx
    have e := h.anti k kW _ z (List.prefix_append ..)
    have := congrArg List.length e
    simp at this
  have old : ∀ b, b ∈ (S ++ [k]) ++ (W ++ C) → b ∈ S ++ (W ++ [k]) ∨ b ∈ C := fun b hb => by
    simp only [List.mem_append, List.mem_singleton] at hb ⊢
    rcases hb with (z | z) | (z | z)
    · exact .inl (.inl z)
    · exact .inl (.inr (.inr z))
    · exact .inl (.inr (.inl z))
    · exact .inr z
  have ndW := h.nd
  have kW0 : k ∉ W := fun z => by
    have := (List.nodup_append.mp (List.nodup_append.mp h.nd).2.1).2.2 k z k (List.mem_singleton.mpr rfl)
    exact this rfl
  refine ⟨?_, fun b hb => ?_, fun a ha b hb hab => ?_, fun j hj => ?_⟩
  · have hp : ((S ++ [k]) ++ (W ++ C)).Perm ((S ++ (W ++ [k])) ++ C) := by
      rw [List.append_assoc, List.append_assoc]
      refine List.Perm.append_left S ?_
      rw [← List.append_assoc]
      exact (List.perm_append_comm (l₁ := [k]) (l₂ := W)).append_right C
    rw [hp.nodup_iff]
    exact List.nodup_append.mpr ⟨h.nd, hn, fun x hx y hy e => newC y hy (e ▸ hx)⟩
  · rcases old b hb with z | z
    · exact h.pre b z
    · obtain ⟨c, e, z⟩ := (hc b).mp z
      rw [e]; exact z
  · rcases List.mem_append.mp ha with ha | ha
    · rcases old b hb with z | z
      · exact h.anti a (List.mem_append_left _ ha) b z hab
      · obtain ⟨c, rfl⟩ := lenC b z
        rcases pre_snoc hab with q | q
        · have e := h.anti a (List.mem_append_left _ ha) k kB q
          exact absurd (e ▸ ha) kW0
        · exact q
    · obtain ⟨c, rfl⟩ := lenC a ha
      rcases old b hb with z | z
      · have e := h.anti k kW b z ((List.prefix_append ..).trans hab)
        rw [← e] at hab
        have := hab.length_le
        simp at this
        exact absurd this (by omega)
      · obtain ⟨c', rfl⟩ := lenC b z
        exact hab.eq_of_length (by simp)
  · rcases h.cov j hj with z | ⟨a, ha, z⟩
    · exact .inl (List.mem_append_left _ z)
    · rcases List.mem_append.mp ha with ha | ha
      · exact .inr ⟨a, List.mem_append_left _ ha, z⟩
      · rw [List.mem_singleton.mp ha] at z
        obtain ⟨t, rfl⟩ := z
        cases t with
        | nil => exact .inl (List.mem_append_right _ (by rw [List.append_nil]; exact List.mem_singleton.mpr rfl))
        | cons c t =>
          have e : k ++ c :: t = (k ++ [c]) ++ t := by simp
          rw [e] at hj ⊢
          have hpc : isPre P (k ++ [c]) := isPre_down hj (List.prefix_append ..)
          exact .inr ⟨k ++ [c], List.mem_append_right _ ((hc _).mpr ⟨c, rfl, hpc⟩), List.prefix_append ..⟩
theorem o_whileJ {ε ρ ν : Type} {N : ν → Prop} {R : ρ → Prop} {E : ε → Prop} {C : ν → Res ε (Bool × Unit)} {B : ν → Out ε ρ ν} (J : Nat → ν → Prop) (hs : ∀ r m, J r m → (C m).sat (fun b _ => if b = true then (B m).sat (fun m' => ∃ r', r' < r ∧ J r' m') R E else N m) E) :
    ∀ (k r : Nat) (n : ν), J r n → r < k → (Out.whileF C B k n).sat N R E := by
  intro k
  induction k with
  | zero => exact fun r n _ h => absurd h (Nat.not_lt_zero _)
  | succ k ih =>
    intro r n h0 hk
    unfold Out.whileF
    rw [o_bnd]
    refine (hs r n h0).imp (fun b u q => ?_) (fun _ q => q)
    cases b with
    | true =>
      rw [if_pos rfl] at q ⊢
      rw [o_seq]
      exact q.imp (fun m' ⟨r', h1, h2⟩ => ih r' m' h2 (by omega)) (fun _ z => z) fun _ z => z
    | false =>
      rw [if_neg Bool.false_ne_true] at q ⊢
      exact q

/-! names by the law's own reckoning -/
def isPreS (P : List PatT) (k : Tx) : Prop := k = [] ∨ ∃ p ∈ P, k <+: p.1 ∧ k.length < p.1.length
theorem isPreS_take {P : List PatT} {i : Nat} {p : PatT} (h : P[i]? = some p) (k : Tx) : isPreS (P.take (i + 1)) k ↔ isPreS (P.take i) k ∨ (k <+: p.1 ∧ k.length < p.1.length) := by
  unfold isPreS
  rw [List.take_add_one, h]
  simp only [Option.toList_some, List.mem_append, List.mem_singleton]
  constructor
  · rintro (z | ⟨q, z | z, r⟩)
    · exact .inl (.inl z)
    · exact .inl (.inr ⟨q, z, r⟩)
    · exact .inr (z ▸ r)
  · rintro ((z | ⟨q, z, r⟩) | z)
    · exact .inl z
    · exact .inr ⟨q, .inl z, r⟩
    · exact .inr ⟨p, .inr rfl, z⟩
theorem isPre_S {P : List PatT} {k : Tx} : isPre P k ↔ isPreS P k ∨ ∃ p ∈ P, p.1 = k := by
  unfold isPre isPreS
  constructor
  · rintro (z | ⟨p, hp, z⟩)
    · exact .inl (.inl z)
    · by_cases h : k.length < p.1.length
      · exact .inl (.inr ⟨p, hp, z, h⟩)
      · exact .inr ⟨p, hp, (z.eq_of_length (by have := z.length_le; omega)).symm⟩
  · rintro ((z | ⟨p, hp, z, _⟩) | ⟨p, hp, z⟩)
    · exact .inl z
    · exact .inr ⟨p, hp, z⟩
    · exact .inr ⟨p, hp, by rw [z]; exact List.prefix_refl _⟩
theorem rowOf_len {m : Nat} {P : List PatT} (hP : ∀ p ∈ P, PatOk m p) {k : Tx} {ns : List Int} (h : rowOf P k = some ns) : ns.length = k.length + 1 := by
  have := rowOf_is (m := m) k _ P rfl hP
  rw [h] at this
  exact (this.2 ns rfl).1
theorem grt_max {ms ns : List Int} (h : ms.length = ns.length) : (rng 0 (ns.length : Int)).map (fun d => if (atI ns d).getD default > (atI ms d).getD default then (atI ns d).getD default else (atI ms d).getD default) = grt (some ms) ns := by
  obtain ⟨g1, g2⟩ := grt_get h
  refine List.ext_getElem? fun i => ?_
  rw [List.getElem?_map]
  by_cases hi : i < ns.length
  · rw [rng_get (by omega), show (0 : Int) + (i : Int) = ((i : Nat) : Int) by omega]
    obtain ⟨b, hb⟩ : ∃ b, ns[i]? = some b := ⟨_, List.getElem?_eq_getElem hi⟩
    obtain ⟨a, ha⟩ : ∃ a, ms[i]? = some a := ⟨_, List.getElem?_eq_getElem (by omega)⟩
    rw [g2 i a b ha hb]
    simp only [Option.map_some, at_nat, ha, hb, Option.getD_some]
  · rw [List.getElem?_eq_none (by rw [rng_len]; omega), List.getElem?_eq_none (by omega)]; rfl
theorem grt_self (ns : List Int) : grt (some ns) ns = ns := by
  obtain ⟨g1, g2⟩ := grt_get (ms := ns) (ns := ns) rfl
  refine List.ext_getElem? fun i => ?_
  cases h : ns[i]? with
  | none => exact List.getElem?_eq_none (by rw [g1]; exact List.getElem?_eq_none_iff.mp h)
  | some a => rw [g2 i a a h h]; simp
theorem begin_sat {E : Exc → Prop} {m : Nat} {P : List PatT} (hP : ∀ p ∈ P, PatOk m p) (hm : m ≤ 100) (hl : P.length ≤ 70) : (m_l_beginnings (P, ()) ()).sat (fun n _ => NmOk P n ∧ n.length ≤ 8000) E := by
  have hs := sz20
  unfold m_l_beginnings
  simp -implicitDefEqProofs only [o_try, s_val, s_valp, s_stuck, s_exn, s_bnd', s_grd, s_itestuck, s_ite, s_up, s_nox, s_mk, s_fn, s_fnU, o_nx, o_ret, o_stuck, o_exn, o_bnd, o_seq, o_lt, o_itestuck, o_ite, s_if0]
  refine o_for (fun i (n : List (Tx × Option (List Int))) => n.length ≤ 1 + 101 * i ∧ (n.map (·.1)).Nodup ∧ (∀ k, (dGet n k).isSome = true ↔ isPreS (P.take i) k) ∧ ∀ k v, dGet n k = some v → v = none) ⟨Nat.le_refl _, by simp, fun k => ?_, fun k v e => ?_⟩ (fun i p n hp hn => ?_) (fun n hn => ?_)
  · rw [dGet_cons, dGet_nil]
    by_cases h : ([] : Tx) = k
    · rw [if_pos h]
      exact ⟨fun _ => .inl h.symm, fun _ => rfl⟩
    · rw [if_neg h]
      constructor
      · intro z; cases z
      · rintro (z | ⟨p, hp, _⟩)
        · exact absurd z.symm h
        · simp at hp
  · rw [dGet_cons, dGet_nil] at e
    split at e
    · exact (Option.some.inj e).symm
    · cases e
  · have hpi := (List.getElem?_eq_some_iff.mp hp).1
    obtain ⟨s1, s2, s3, s4, s5⟩ := hP p (List.mem_of_getElem? hp)
    obtain ⟨n1, n2, n3, n4⟩ := hn
    simp -implicitDefEqProofs only [o_try, s_val, s_valp, s_stuck, s_exn, s_bnd', s_grd, s_itestuck, s_ite, s_up, s_nox, s_mk, s_fn, s_fnU, o_nx, o_ret, o_stuck, o_exn, o_bnd, o_seq, o_lt, o_itestuck, o_ite, s_if0]
    refine ⟨by omega, rng_ok (by omega) (by omega) (by omega) (by omega), ?_⟩
    have hN : (rng 1 (p.1.length : Int)).length = p.1.length - 1 := by rw [rng_len]; omega
    refine o_for (fun j (q : List (Tx × Option (List Int))) => q.length ≤ n.length + j ∧ (q.map (·.1)).Nodup ∧ (∀ k, (dGet q k).isSome = true ↔ isPreS (P.take i) k ∨ (k <+: p.1 ∧ k.length ≤ j)) ∧ ∀ k v, dGet q k = some v → v = none)
      ⟨by omega, n2, fun k => ?_, n4⟩ (fun j x q hx hq => ?_) (fun q hq => ?_)
    · rw [n3]
      constructor
      · exact .inl
      · rintro (z | ⟨_, z⟩)
        · exact z
        · exact .inl (List.length_eq_zero_iff.mp (by omega))
    · have hj : j < p.1.length - 1 := by rw [← hN]; exact (List.getElem?_eq_some_iff.mp hx).1
      rw [rng_get (by omega)] at hx
      have hx : 1 + (j : Int) = x := Option.some.inj hx
      have hx : x = ((j + 1 : Nat) : Int) := by omega
      subst hx
      obtain ⟨q1, q2, q3, q4⟩ := hq
      have hcut : cut p.1 none (some ((j + 1 : Nat) : Int)) = p.1.take (j + 1) := by rw [cut_to (by omega)]; rfl
      rw [if_pos (show p.1.length ≤ sizeLine by omega)]
      simp -implicitDefEqProofs only [o_try, s_val, s_valp, s_stuck, s_exn, s_bnd', s_grd, s_itestuck, s_ite, s_up, s_nox, s_mk, s_fn, s_fnU, o_nx, o_ret, o_stuck, o_exn, o_bnd, o_seq, o_lt, o_itestuck, o_ite, s_if0, hcut]
      refine ⟨by omega, by have := dSetd_len q (p.1.take (j + 1)) (none : Option (List Int)); omega, dSetd_keys _ _ _ q2, fun k => ?_, fun k v e => ?_⟩
      · rw [dGet_setd]
        have hiff : k <+: p.1 ∧ k.length ≤ j + 1 ↔ k <+: p.1 ∧ k.length ≤ j ∨ k = p.1.take (j + 1) := by
          constructor
          · rintro ⟨z1, z2⟩
            by_cases hk : k.length = j + 1
            · exact .inr (by rw [← hk]; exact List.prefix_iff_eq_take.mp z1)
            · exact .inl ⟨z1, by omega⟩
          · rintro (z | z)
            · exact ⟨z.1, by omega⟩
            · rw [z]; exact ⟨List.take_prefix .., by rw [List.length_take]; omega⟩
        rw [hiff]
        by_cases hk : k = p.1.take (j + 1) ∧ (dGet q (p.1.take (j + 1))).isSome = false
        · rw [if_pos hk]
          exact ⟨fun _ => .inr (.inr hk.1), fun _ => rfl⟩
        · rw [if_neg hk, q3]
          constructor
          · rintro (z | z)
            · exact .inl z
            · exact .inr (.inl z)
          · rintro (z | z | z)
            · exact .inl z
            · exact .inr z
            · have : (dGet q (p.1.take (j + 1))).isSome = true := by
                cases hh : (dGet q (p.1.take (j + 1))).isSome with
                | true => rfl
                | false => exact absurd ⟨z, hh⟩ hk
              rw [← z, q3] at this
              exact this
      · rw [dGet_setd] at e
        by_cases hk : k = p.1.take (j + 1) ∧ (dGet q (p.1.take (j + 1))).isSome = false
        · rw [if_pos hk] at e
          exact (Option.some.inj e).symm
        · rw [if_neg hk] at e
          exact q4 k v e
    · rw [hN] at hq
      obtain ⟨q1, q2, q3, q4⟩ := hq
      refine ⟨by omega, q2, fun k => ?_, q4⟩
      rw [q3, isPreS_take hp]
      constructor
      · rintro (z | z)
        · exact .inl z
        · exact .inr ⟨z.1, by omega⟩
      · rintro (z | z)
        · exact .inl z
        · exact .inr ⟨z.1, by omega⟩
  · rw [List.take_length] at hn
    obtain ⟨n1, n2, n3, n4⟩ := hn
    refine o_for (fun i (q : List (Tx × Option (List Int))) => q.length ≤ n.length + i ∧ (q.map (·.1)).Nodup ∧ (∀ k, (dGet q k).isSome = true ↔ isPreS P k ∨ ∃ p ∈ P.take i, p.1 = k) ∧ ∀ k v, dGet q k = some v → v = rowOf (P.take i) k) ⟨by omega, n2, fun k => ?_, fun k v e => ?_⟩ (fun i p q hp hq => ?_) (fun q hq => ?_)
    · rw [n3]
      constructor
      · exact .inl
      · rintro (z | ⟨p, hp, _⟩)
        · exact z
        · simp at hp
    · rw [n4 k v e]; rfl
    · have hpi := (List.getElem?_eq_some_iff.mp hp).1
      obtain ⟨s1, s2, s3, s4, s5⟩ := hP p (List.mem_of_getElem? hp)
      obtain ⟨q1, q2, q3, q4⟩ := hq
      have hg : (dGet q p.1).getD none = rowOf (P.take i) p.1 := by
        cases e : dGet q p.1 with
        | some v => exact q4 _ v e
        | none =>
          refine (rowOf_none fun r hr z => ?_).symm
          have := (q3 p.1).mpr (.inr ⟨r, hr, z⟩)
          rw [e] at this; cases this
      have hro : ∀ ms, rowOf (P.take i) p.1 = some ms → ms.length = p.2.1.length := fun ms e => by
        have := rowOf_len (m := m) (fun r hr => hP r (List.mem_of_mem_take hr)) e
        omega
      have fin : ∀ k, (dGet (dPut q p.1 (some (grt (rowOf (P.take i) p.1) p.2.1))) k).isSome = true ↔ isPreS P k ∨ ∃ p ∈ P.take (i + 1), p.1 = k := fun k => by
        rw [dGet_put]
        have e : (∃ r ∈ P.take (i + 1), r.1 = k) ↔ (∃ r ∈ P.take i, r.1 = k) ∨ p.1 = k := by
          rw [List.take_add_one, hp]
          simp only [Option.toList_some, List.mem_append, List.mem_singleton]
          constructor
          · rintro ⟨r, z | z, h⟩
            · exact .inl ⟨r, z, h⟩
            · exact .inr (z ▸ h)
          · rintro (⟨r, z, h⟩ | h)
            · exact ⟨r, .inl z, h⟩
            · exact ⟨p, .inr rfl, h⟩
        rw [e]
        by_cases hk : k = p.1
        · rw [if_pos hk]
          exact ⟨fun _ => .inr (.inr hk.symm), fun _ => rfl⟩
        · rw [if_neg hk, q3]
          constructor
          · rintro (z | z)
            · exact .inl z
            · exact .inr (.inl z)
          · rintro (z | z | z)
            · exact .inl z
            · exact .inr z
            · exact absurd z.symm hk
      have fin2 : ∀ k v, dGet (dPut q p.1 (some (grt (rowOf (P.take i) p.1) p.2.1))) k = some v → v = rowOf (P.take (i + 1)) k := fun k v e => by
        rw [dGet_put] at e
        rw [rowOf_take hp]
        by_cases hk : k = p.1
        · rw [if_pos hk] at e
          rw [if_pos hk.symm, hk]
          exact (Option.some.inj e).symm
        · rw [if_neg hk] at e
          rw [if_neg (fun z => hk z.symm)]
          exact q4 k v e
      simp -implicitDefEqProofs only [o_try, s_val, s_valp, s_stuck, s_exn, s_bnd', s_grd, s_itestuck, s_ite, s_up, s_nox, s_mk, s_fn, s_fnU, o_nx, o_ret, o_stuck, o_exn, o_bnd, o_seq, o_lt, o_itestuck, o_ite, s_if0, hg]
      cases ho : rowOf (P.take i) p.1 with
      | none =>
        have hgg : grt (some p.2.1) p.2.1 = grt (rowOf (P.take i) p.1) p.2.1 := by rw [grt_self, ho]; rfl
        refine ite_t rfl ?_
        refine ⟨rng_ok (by omega) (by omega) (by omega) (by omega), by rw [rng_len]; omega, ?_⟩
        refine s_compM (fun d => if (atI p.2.1 d).getD default > (atI p.2.1 d).getD default then (atI p.2.1 d).getD default else (atI p.2.1 d).getD default) (fun _ _ => rfl) (fun d hd => ?_) ?_
        · obtain ⟨h1, h2⟩ := rng_mem.mp hd
          simp -implicitDefEqProofs only [o_try, s_val, s_valp, s_stuck, s_exn, s_bnd', s_grd, s_itestuck, s_ite, s_up, s_nox, s_mk, s_fn, s_fnU, o_nx, o_ret, o_stuck, o_exn, o_bnd, o_seq, o_lt, o_itestuck, o_ite, s_if0, Option.isSome_some, Option.getD_some]
          exact ⟨trivial, at_is h1 (by omega), at_is h1 h2, trivial, trivial⟩
        · rw [grt_max (by omega), hgg]
          exact ⟨by omega, by have := dPut_len q p.1 (some (grt (rowOf (P.take i) p.1) p.2.1)); omega, keys_nodup _ _ _ q2, fin, fin2⟩
      | some ms =>
        have hms := hro ms ho
        have hgg : grt (some ms) p.2.1 = grt (rowOf (P.take i) p.1) p.2.1 := by rw [ho]
        refine ite_f (by simp) ?_
        refine ⟨rng_ok (by omega) (by omega) (by omega) (by omega), by rw [rng_len]; omega, ?_⟩
        refine s_compM (fun d => if (atI p.2.1 d).getD default > (atI ms d).getD default then (atI p.2.1 d).getD default else (atI ms d).getD default) (fun _ _ => rfl) (fun d hd => ?_) ?_
        · obtain ⟨h1, h2⟩ := rng_mem.mp hd
          simp -implicitDefEqProofs only [o_try, s_val, s_valp, s_stuck, s_exn, s_bnd', s_grd, s_itestuck, s_ite, s_up, s_nox, s_mk, s_fn, s_fnU, o_nx, o_ret, o_stuck, o_exn, o_bnd, o_seq, o_lt, o_itestuck, o_ite, s_if0, Option.isSome_some, Option.getD_some]
          exact ⟨trivial, at_is h1 (by omega), at_is h1 h2, trivial, trivial⟩
        · rw [grt_max (by omega), hgg]
          exact ⟨by omega, by have := dPut_len q p.1 (some (grt (rowOf (P.take i) p.1) p.2.1)); omega, keys_nodup _ _ _ q2, fin, fin2⟩
    · rw [List.take_length] at hq
      obtain ⟨q1, q2, q3, q4⟩ := hq
      exact ⟨⟨q2, fun k => by rw [q3, isPre_S], q4⟩, by omega⟩

/-! the walk by names -/
structure FndOk (w : List KnotT) (f : Tx → Nat) (B : List Tx) (F : List (Tx × KnotT)) : Prop where
  keys : (F.map (·.1)).Perm B
  val : ∀ k ∈ B, dGet F k = w[f k]?
theorem fnd_put {w : List KnotT} {f : Tx → Nat} {B : List Tx} {F : List (Tx × KnotT)} {k : Tx} {kn : KnotT} (h : FndOk w f B F) (hk : k ∉ B) (hn : w[f k]? = some kn) : FndOk w f (B ++ [k]) (dPut F k kn) := by
  have hk2 : k ∉ F.map (·.1) := fun z => hk (h.keys.mem_iff.mp z)
  refine ⟨?_, fun j hj => ?_⟩
  · rw [keys_put, if_neg hk2]
    exact h.keys.append_right [k]
  · rw [dGet_put]
    by_cases e : j = k
    · rw [if_pos e, e, hn]
    · rw [if_neg e]
      rcases List.mem_append.mp hj with z | z
      · exact h.val j z
      · exact absurd (List.mem_singleton.mp z) e
theorem fnd_perm {w : List KnotT} {f : Tx → Nat} {B B' : List Tx} {F : List (Tx × KnotT)} (h : FndOk w f B F) (p : B.Perm B') : FndOk w f B' F :=
  ⟨h.keys.trans p, fun k hk => h.val k (p.mem_iff.mpr hk)⟩
theorem range_len {n : Nat} {l : List Nat} (h : l.Nodup) (hm : ∀ x, x ∈ l ↔ x < n) : l.length = n := by
  have := perm_of_mem h List.nodup_range fun x => (hm x).trans List.mem_range.symm
  rw [this.length_eq, List.length_range]
theorem named_sat {E : Exc → Prop} {m : Nat} {P : List PatT} {w : List KnotT} {f : Tx → Nat} (hw : WoodIs P w f) (hm : WoodMore P w f) (ha : WoodAll P w f) (hP : ∀ p ∈ P, PatOk m p) (hm2 : m ≤ 100) :
    (m_l_named (w, ()) ()).sat (fun r _ => ∃ F, r = some F ∧ (F.map (·.1)).Nodup ∧ (∀ k, k ∈ F.map (·.1) ↔ isPre P k) ∧ ∀ k, isPre P k → ∃ kn, dGet F k = some kn ∧ kn.2.1 = rowOf P k) E := by
  have hs := sz20
  have hlen := hw.len
  -- what is placed has room
  have room : ∀ S W : List Tx, DfsOk P S W → (S ++ W).length ≤ w.length := fun S W h => by
    have h1 : ((S ++ W).map f).Nodup := by
      refine List.pairwise_map.mpr ?_
      have h2 : (S ++ W).Pairwise fun a b => a ≠ b := h.nd
      exact h2.imp_of_mem fun {a b} ha hb hne e => hne (hm.inj a b (h.pre a ha) (h.pre b hb) e)
    have h3 := nodup_le w.length _ h1 fun x hx => by
      obtain ⟨k, hk, rfl⟩ := List.mem_map.mp hx
      obtain ⟨kn, e, _⟩ := hw.knot k (h.pre k hk)
      exact (List.getElem?_eq_some_iff.mp e).1
    rw [List.length_map] at h3
    exact h3
  have short : ∀ k, isPre P k → k.length ≤ 100 ∧ ∀ c ∈ k, c < 0x110000 := fun k hk => by
    rcases hk with rfl | ⟨p, hp, z⟩
    · exact ⟨Nat.zero_le _, fun c hc => by cases hc⟩
    · have := z.length_le
      have h2 := (hP p hp).2.1
      exact ⟨by omega, fun c hc => az_lt ((hP p hp).2.2.1 c (z.subset hc))⟩
  unfold m_l_named
  obtain ⟨k0, r1, _⟩ := hw.knot [] (.inl rfl)
  rw [hw.root] at r1
  have hat0 : atI w (0 : Int) = some k0 := by rw [at_nn (by decide)]; exact r1
  simp -implicitDefEqProofs only [o_try, s_val, s_valp, s_stuck, s_exn, s_bnd', s_grd, s_itestuck, s_ite, s_up, s_nox, s_mk, s_fn, s_fnU, o_nx, o_ret, o_stuck, o_exn, o_bnd, o_seq, o_lt, o_itestuck, o_ite, s_if0, hat0, Option.isSome_some, Option.getD_some, true_and]
  have init : DfsOk P [] [[]] := ⟨by simp, fun k hk => by rw [List.mem_singleton.mp (show k ∈ [[]] from hk)]; exact .inl rfl, fun a ha b hb _ => by rw [List.mem_singleton.mp ha, List.mem_singleton.mp (show b ∈ [[]] from hb)], fun k _ => .inr ⟨[], List.mem_singleton.mpr rfl, List.nil_prefix⟩⟩
  have hf0 : ∀ k ∈ ([] ++ [[]] : List Tx), dGet [(([] : Tx), k0)] k = w[f k]? := fun k hk => by
    rw [List.mem_singleton.mp (show k ∈ [[]] from hk), hw.root, r1]; rfl
  refine o_whileJ (fun (r : Nat) (n : List WayT × List (Tx × KnotT) × List Int) => ∃ S W : List Tx, n.1 = W.map (fun k => (k, (f k : Int), ())) ∧ FndOk w f (S ++ W) n.2.1 ∧ n.2.2.Perm ((S ++ W).map fun k => (f k : Int)) ∧ DfsOk P S W ∧ r = w.length + 1 - S.length) (fun r n hn => ?_) _ (w.length + 1) _ ⟨[], [[]], by rw [List.map_cons, hw.root]; rfl, ⟨.refl _, hf0⟩, by show [(0 : Int)].Perm [(f [] : Int)]; rw [hw.root]; exact .refl _, init, rfl⟩ (by show _ < w.length + 2; omega)
  obtain ⟨wt, fd, mt⟩ := n
  obtain ⟨S, W, e1, e2, e3, hd, hr⟩ := hn
  dsimp only at e1 e2 e3 ⊢
  subst e1 hr
  have hrm := room S W hd
  rw [List.length_append] at hrm
  have sh : dSh 2 (dLst dWay (W.map fun k => (k, (f k : Int), ()))) := fun y hy => by
    obtain ⟨z, hz, rfl⟩ := List.mem_map.mp hy
    obtain ⟨k, hk, rfl⟩ := List.mem_map.mp hz
    intro u hu
    simp only [dCons, dNil, List.mem_cons, List.not_mem_nil, or_false] at hu
    rcases hu with rfl | rfl
    · exact strOk_lt (short k (hd.pre k (List.mem_append_right _ hk))).2
    · trivial
  have ok : eqOk (dLst dWay (W.map fun k => (k, (f k : Int), ()))) (dLst dWay []) := ⟨(dSh_eq sh).1.1, (dSh_eq (n := 2) (d := dLst dWay []) (fun y hy => by cases hy)).1.1⟩
  simp -implicitDefEqProofs only [o_try, s_val, s_valp, s_stuck, s_exn, s_bnd', s_grd, s_itestuck, s_ite, s_up, s_nox, s_mk, s_fn, s_fnU, o_nx, o_ret, o_stuck, o_exn, o_bnd, o_seq, o_lt, o_itestuck, o_ite, s_if0, eqv_nilW]
  refine ⟨ok, ?_⟩
  rcases List.eq_nil_or_concat W with rfl | ⟨W0, k, rfl⟩
  · refine ite_f (by simp) ?_
    rw [List.append_nil] at e2 e3
    have hSn : S.Nodup := by have := hd.nd; rwa [List.append_nil] at this
    have hSm : ∀ k, k ∈ S ↔ isPre P k := fun k => by
      constructor
      · intro h; exact hd.pre k (List.mem_append_left _ h)
      · intro h
        rcases hd.cov k h with z | ⟨a, ha, _⟩
        · exact z
        · cases ha
    have hSl : S.length = w.length := by
      have := range_len (n := w.length) (l := S.map f) ?_ fun x => ?_
      · rw [List.length_map] at this; exact this
      · refine List.pairwise_map.mpr ?_
        have h2 : S.Pairwise fun a b => a ≠ b := hSn
        exact h2.imp_of_mem fun {a b} ha hb hne e => hne (hm.inj a b ((hSm a).mp ha) ((hSm b).mp hb) e)
      · rw [List.mem_map]
        constructor
        · rintro ⟨k, hk, rfl⟩
          obtain ⟨kn, e, _⟩ := hw.knot k ((hSm k).mp hk)
          exact (List.getElem?_eq_some_iff.mp e).1
        · intro hx
          obtain ⟨k, hk, e⟩ := ha.surj x hx
          exact ⟨k, (hSm k).mpr hk, e⟩
    have hml : mt.length = w.length := by rw [e3.length_eq, List.length_map, hSl]
    rw [if_pos (decide_eq_true (by rw [hml]))]
    refine ⟨fd, rfl, e2.keys.nodup_iff.mpr hSn, fun k => by rw [e2.keys.mem_iff, hSm], fun k hk => ?_⟩
    obtain ⟨kn, q1, q2, _⟩ := hw.knot k hk
    exact ⟨kn, by rw [e2.val k ((hSm k).mpr hk), q1], q2⟩
  · rw [List.concat_eq_append] at hd hrm ok e2 e3 ⊢
    have hkpre := hd.pre k (List.mem_append_right _ (List.mem_append_right _ (List.mem_singleton.mpr rfl)))
    obtain ⟨kn, q1, q2, _, _⟩ := hw.knot k hkpre
    obtain ⟨l1, l2⟩ := hm.list k kn hkpre q1
    have hmem := List.mem_of_getElem? q1
    obtain ⟨w1, w2⟩ := hw.ways kn hmem
    have hat : atI w (f k : Int) = some kn := by rw [at_nat]; exact q1
    have hkl := (short k hkpre).1
    have hC : ∀ x, x ∈ kn.1.map (fun y : WayT => k ++ y.1) ↔ ∃ c, x = k ++ [c] ∧ isPre P (k ++ [c]) := fun x => by
      rw [List.mem_map]
      constructor
      · rintro ⟨⟨y1, y2, ⟨⟩⟩, hy, rfl⟩
        obtain ⟨⟨c, e, _⟩, _⟩ := w2 _ hy
        have e : y1 = [c] := e
        subst e
        exact ⟨c, rfl, ((l2 c y2).mp hy).1⟩
      · rintro ⟨c, rfl, hc⟩
        exact ⟨([c], (f (k ++ [c]) : Int), ()), (l2 c _).mpr ⟨hc, rfl⟩, rfl⟩
    have hCn : (kn.1.map fun y : WayT => k ++ y.1).Nodup := by
      have h1 : (kn.1.map fun y : WayT => y.1).Pairwise (· ≠ ·) := l1
      refine List.pairwise_map.mpr ((List.pairwise_map.mp h1).imp fun hne e => hne (List.append_cancel_left e))
    have hd' := dfs_step hd hCn hC
    have hrm' := room _ _ hd'
    rw [List.length_append, List.length_append] at hrm'
    have hWm : (W0 ++ [k]).map (fun k => (k, (f k : Int), ())) = W0.map (fun k => (k, (f k : Int), ())) ++ [(k, (f k : Int), ())] := by rw [List.map_append]; rfl
    rw [hWm, Out.popL_app]
    refine ite_t (by simp) ?_
    simp -implicitDefEqProofs only [o_try, s_val, s_valp, s_stuck, s_exn, s_bnd', s_grd, s_itestuck, s_ite, s_up, s_nox, s_mk, s_fn, s_fnU, o_nx, o_ret, o_stuck, o_exn, o_bnd, o_seq, o_lt, o_itestuck, o_ite, s_if0, hat, Option.isSome_some, Option.getD_some]
    have hp0 : (S ++ (W0 ++ [k])).Perm ((S ++ [k]) ++ W0) := by
      rw [List.append_assoc]
      exact List.Perm.append_left S List.perm_append_comm
    refine ⟨trivial, ?_⟩
    refine o_for (fun i (n6 : List Int × List (Tx × KnotT) × List WayT) => n6.1.Perm (((S ++ [k]) ++ (W0 ++ (kn.1.take i).map fun y : WayT => k ++ y.1)).map fun k => (f k : Int)) ∧ FndOk w f ((S ++ [k]) ++ (W0 ++ (kn.1.take i).map fun y : WayT => k ++ y.1)) n6.2.1 ∧ n6.2.2 = W0.map (fun k => (k, (f k : Int), ())) ++ (kn.1.take i).map fun y => (k ++ y.1, y.2.1, ()))
      ⟨by rw [List.take_zero, List.map_nil, List.append_nil]; exact e3.trans (hp0.map _), by rw [List.take_zero, List.map_nil, List.append_nil]; exact fnd_perm e2 hp0, by simp⟩ (fun i y n6 hy hn6 => ?_) (fun n6 hn6 => ?_)
    · obtain ⟨mt6, fd6, wt6⟩ := n6
      obtain ⟨y1, v, ⟨⟩⟩ := y
      have hyk := List.mem_of_getElem? hy
      obtain ⟨⟨c, e, _⟩, g1, g2⟩ := w2 _ hyk
      have e : y1 = [c] := e
      subst e
      have hv := (l2 c v).mp hyk
      have hv1 := hm.posw kn hmem _ hyk
      have hi := (List.getElem?_eq_some_iff.mp hy).1
      obtain ⟨h1, h2, h3⟩ := hn6
      dsimp only at h1 h2 h3 g1 g2 hv1 ⊢
      obtain ⟨kc, c1, _⟩ := hw.knot _ hv.1
      have hvat : atI w v = some kc := by rw [hv.2, at_nat]; exact c1
      -- new
      have htk : kn.1.take (i + 1) = kn.1.take i ++ [([c], v, ())] := by rw [List.take_add_one, hy]; rfl
      have hBn : ((S ++ [k]) ++ (W0 ++ (kn.1.take (i + 1)).map fun y : WayT => k ++ y.1)).Nodup := by
        refine hd'.nd.sublist (List.Sublist.append_left (List.Sublist.append_left ((List.take_sublist _ _).map _) _) _)
      have hBe : (S ++ [k]) ++ (W0 ++ (kn.1.take (i + 1)).map fun y : WayT => k ++ y.1) = ((S ++ [k]) ++ (W0 ++ (kn.1.take i).map fun y : WayT => k ++ y.1)) ++ [k ++ [c]] := by
        rw [htk, List.map_append, List.append_assoc, List.append_assoc]; simp
      have hBp : ∀ b ∈ (S ++ [k]) ++ (W0 ++ (kn.1.take i).map fun y : WayT => k ++ y.1), isPre P b := fun b hb => hd'.pre b ((List.Sublist.append_left (List.Sublist.append_left ((List.take_sublist _ _).map _) _) _).subset hb)
      have hBl : ((S ++ [k]) ++ (W0 ++ (kn.1.take i).map fun y : WayT => k ++ y.1)).length < w.length := by
        simp only [List.length_append, List.length_map, List.length_take, List.length_singleton] at hrm' ⊢
        omega
      generalize hB : (S ++ [k]) ++ (W0 ++ (kn.1.take i).map fun y : WayT => k ++ y.1) = B at h1 h2 hBe hBp hBl
      rw [hBe] at hBn
      have hnew : k ++ [c] ∉ B := fun z => (List.nodup_append.mp hBn).2.2 _ z _ (List.mem_singleton.mpr rfl) rfl
      have hvm : v ∉ mt6 := fun z => by
        obtain ⟨b, hb, e⟩ := List.mem_map.mp (h1.mem_iff.mp z)
        rw [hv.2] at e
        exact hnew (hm.inj b _ (hBp b hb) hv.1 (by omega) ▸ hb)
      have hml : mt6.length = B.length := by rw [h1.length_eq, List.length_map]
      have hfl : fd6.length = B.length := by have := h2.keys.length_eq; rwa [List.length_map] at this
      have hwl : wt6.length ≤ w.length := by
        rw [h3, List.length_append, List.length_map, List.length_map, List.length_take]
        simp only [List.length_append, List.length_map, List.length_singleton] at hrm'
        omega
      simp -implicitDefEqProofs only [o_try, s_val, s_valp, s_stuck, s_exn, s_bnd', s_grd, s_itestuck, s_ite, s_up, s_nox, s_mk, s_fn, s_fnU, o_nx, o_ret, o_stuck, o_exn, o_bnd, o_seq, o_lt, o_itestuck, o_ite, s_if0, hvat, Option.isSome_some, Option.getD_some]
      refine ite_f (by simp [hvm]) ?_
      refine ite_f (by simp; omega) ?_
      refine ite_f (by simp; omega) ?_
      refine ⟨by omega, by rw [List.length_singleton]; omega, trivial, by omega, by rw [List.length_singleton]; omega, by omega, ?_, ?_, ?_⟩
      · rw [hBe, List.map_append, hv.2]
        exact h1.append_right _
      · rw [hBe]
        exact fnd_put h2 hnew c1
      · rw [h3, htk, List.map_append, List.append_assoc]; rfl
    · rw [List.take_length] at hn6
      obtain ⟨h1, h2, h3⟩ := hn6
      refine ⟨_, ?_, S ++ [k], W0 ++ kn.1.map fun y : WayT => k ++ y.1, ?_, h2, h1, hd', rfl⟩
      · rw [List.length_append, List.length_singleton]; omega
      · rw [h3, List.map_append, List.map_map]
        congr 1
        refine List.map_congr_left fun y hy => ?_
        obtain ⟨y1, y2, ⟨⟩⟩ := y
        obtain ⟨⟨c, e, _⟩, _⟩ := w2 _ hy
        have e : y1 = [c] := e
        subst e
        show (k ++ [c], y2, ()) = (k ++ [c], (f (k ++ [c]) : Int), ())
        rw [((l2 c y2).mp hy).2]

/-! knots as they must be -/
theorem sortT_id {xs : List Tx} (h : xs.Pairwise fun a b => a ≤ b) (n : xs.Nodup) : sortK dTx (dedupT xs) = xs := by
  have e : sortK dTx (dedupT xs) = sortK dTx xs := sortT_mem (nodup_dedupT xs) n fun x => mem_dedupT
  rw [e]
  refine List.Perm.eq_of_pairwise (le := fun a b : Tx => a ≤ b) (fun a b _ _ h1 h2 => List.le_antisymm h1 h2) (sortT_pw xs) h (List.mergeSort_perm xs _)
theorem isTyK : (∀ xs, isTy "tuple" (.tuple xs) = true) ∧ (∀ x, isTy "str" (.str x) = true) ∧ (∀ i, isTy "int" (.int i) = true) ∧ (∀ i, isTy "bool" (.int i) = false) ∧ ∀ xs, isTy "list" (.list xs) = true :=
  ⟨fun _ => by simp [isTy, dTyName], fun _ => by simp [isTy, dTyName], fun _ => by simp [isTy, dTyName], fun _ => by simp [isTy, dTyName], fun _ => by simp [isTy, dTyName]⟩
theorem dTxs_sh {xs : List Tx} (h : ∀ x ∈ xs, ∀ c ∈ x, c < 0x110000) : dSh 1 (dLst dTx xs) := fun y hy => by
  obtain ⟨z, hz, rfl⟩ := List.mem_map.mp hy
  exact strOk_lt (h z hz)
theorem isknot_eq {P : List PatT} {w : List KnotT} {f : Tx → Nat} (hw : WoodIs P w f) (ha : WoodAll P w f) (hPl : P.length ≤ 40) (hrl : ∀ k ns, rowOf P k = some ns → ns.length ≤ 1000) {kn : KnotT} (hk : kn ∈ w) : m_l_is_knot (kn, ()) () = .val (true, ()) := by
  have hs := sz20
  obtain ⟨t1, t2, t3, t4, _⟩ := isTyK
  obtain ⟨w1, w2⟩ := hw.ways kn hk
  have hid := sortT_id (ha.rise kn hk) (ha.nd kn hk)
  obtain ⟨k, _, hrow⟩ := ha.row kn hk
  have few := ha.few
  have fw := ha.fw kn hk
  refine sat_eq ?_
  unfold m_l_is_knot
  obtain ⟨ws, o, ⟨⟩⟩ := kn
  dsimp only at w1 w2 hid hrow fw
  have hl2 : ∀ (a b : PyData), dItems (.tuple [a, b]) = [a, b] := fun _ _ => rfl
  have e0 : dTup (dCons (dTuL (dTup (dCons dTx (dCons PyData.int dNil)))) (dCons (dOpt (dTuL PyData.int)) dNil)) (ws, o, ()) = .tuple [dTuL dWay ws, dOpt (dTuL PyData.int) o] := rfl
  have e1 : dTuL (dTup (dCons dTx (dCons PyData.int dNil))) ws = .tuple (ws.map dWay) := rfl
  have e2 : ∀ d : WayT, dTup (dCons dTx (dCons PyData.int dNil)) d = .tuple [dTx d.1, .int d.2.1] := fun _ => rfl
  have e3 : ∀ t : Tx, dTx t = .str ⟨t.toArray⟩ := fun _ => rfl
  simp -implicitDefEqProofs only [o_try, s_val, s_valp, s_stuck, s_exn, s_bnd', s_grd, s_itestuck, s_ite, s_up, s_nox, s_mk, s_fn, s_fnU, o_nx, o_ret, o_stuck, o_exn, o_bnd, o_seq, o_lt, o_itestuck, o_ite, s_if0, e0, e1, t1, hl2, Bool.not_true, Bool.false_eq_true, if_false]
  refine ⟨rfl, ?_⟩
  refine o_forI (fun _ => True) trivial (fun d m hd _ => ?_) (fun _ _ => ?_)
  · simp -implicitDefEqProofs only [o_try, s_val, s_valp, s_stuck, s_exn, s_bnd', s_grd, s_itestuck, s_ite, s_up, s_nox, s_mk, s_fn, s_fnU, o_nx, o_ret, o_stuck, o_exn, o_bnd, o_seq, o_lt, o_itestuck, o_ite, s_if0, e2, t1, hl2, e3, t2, t3, t4, Bool.not_true, Bool.false_eq_true, if_false, Bool.or_false, Bool.or_self]
    exact ⟨rfl, trivial⟩
  · refine ⟨by omega, ?_⟩
    refine s_compM (fun d => d.1) (fun _ _ => rfl) (fun d hd => ⟨rfl, rfl⟩) ?_
    have hsh : dSh 1 (dLst dTx (ws.map fun d : WayT => d.1)) := dTxs_sh fun x hx => by
      obtain ⟨d, hd, rfl⟩ := List.mem_map.mp hx
      obtain ⟨⟨c, e, hc⟩, _⟩ := w2 d hd
      rw [e]; intro z hz; rw [List.mem_singleton.mp hz]; exact hc
    obtain ⟨q1, q2⟩ := dSh_eq hsh
    rw [hid]
    refine ⟨by rw [List.length_map]; omega, q1, ?_⟩
    simp -implicitDefEqProofs only [o_try, s_val, s_valp, s_stuck, s_exn, s_bnd', s_grd, s_itestuck, s_ite, s_up, s_nox, s_mk, s_fn, s_fnU, o_nx, o_ret, o_stuck, o_exn, o_bnd, o_seq, o_lt, o_itestuck, o_ite, s_if0, q2, Bool.not_true, Bool.false_eq_true, if_false]
    cases o with
    | none => exact ite_t rfl (by first | exact ⟨trivial, trivial⟩ | exact ⟨rfl, rfl⟩ | trivial)
    | some ns =>
      have hn := hrl k ns hrow.symm
      refine ite_f (by simp) ?_
      have e4 : dOpt (dTuL PyData.int) (some ns) = .tuple (ns.map PyData.int) := rfl
      simp -implicitDefEqProofs only [o_try, s_val, s_valp, s_stuck, s_exn, s_bnd', s_grd, s_itestuck, s_ite, s_up, s_nox, s_mk, s_fn, s_fnU, o_nx, o_ret, o_stuck, o_exn, o_bnd, o_seq, o_lt, o_itestuck, o_ite, s_if0, e4, t1, if_true, Option.isSome_some, Option.getD_some, true_and]
      refine ⟨by omega, ?_⟩
      refine s_compM (fun _ => false) (fun _ _ => rfl) (fun d hd => by simp -implicitDefEqProofs only [o_try, s_val, s_valp, s_stuck, s_exn, s_bnd', s_grd, s_itestuck, s_ite, s_up, s_nox, s_mk, s_fn, s_fnU, o_nx, o_ret, o_stuck, o_exn, o_bnd, o_seq, o_lt, o_itestuck, o_ite, s_if0, t4]; exact ⟨trivial, trivial⟩) ?_
      have : List.any (ns.map fun _ => false) id = false := by induction ns <;> simp_all
      rw [this]; first | exact ⟨trivial, trivial⟩ | exact ⟨rfl, rfl⟩ | trivial

theorem drawn_sat {E : Exc → Prop} {s : List Int} (h : Good 20000 s) : (m_l_drawn ((), ()) s).sat (fun ps _ => ps.length ≤ 16 ∧ ∀ p ∈ ps, PatOk 4 p) E := by
  have hs := sz20
  unfold m_l_drawn
  simp -implicitDefEqProofs only [o_try, s_val, s_valp, s_stuck, s_exn, s_bnd', s_grd, s_itestuck, s_ite, s_up, s_nox, s_mk, s_fn, s_fnU, o_nx, o_ret, o_stuck, o_exn, o_bnd, o_seq, o_lt, o_itestuck, o_ite, s_if0]
  refine (letters_sat (k := 19000) (h.le (by decide))).to fun t u ⟨⟨t1, t2, t3⟩, g⟩ => ?_
  refine (word_sat (k := 18000) (by decide) (by decide) t1 (by omega) (g.le (by decide))).to fun w u ⟨⟨w1, w2, w3⟩, g⟩ => ?_
  refine (word_sat (k := 17000) (by decide) (by decide) t1 (by omega) (g.le (by decide))).to fun v u ⟨⟨v1, v2, v3⟩, g⟩ => ?_
  have w2 : w.length ≤ 8 := w2
  have v2 : v.length ≤ 8 := v2
  refine ⟨by show 2 ≤ 1000; decide, ?_⟩
  have hws : ∀ x ∈ [w, v], 1 ≤ x.length ∧ x.length ≤ 100 ∧ ∀ c ∈ x, az c := fun x hx => by
    simp only [List.mem_cons, List.not_mem_nil, or_false] at hx
    rcases hx with rfl | rfl
    · exact ⟨w1, by omega, fun c hc => t3 c (w3 c hc)⟩
    · exact ⟨v1, by omega, fun c hc => t3 c (v3 c hc)⟩
  refine (patterns_sat (k := 5000) (by decide) (by decide) t1 (by omega) t3 (by show 1 ≤ 2; decide) (by show 2 ≤ 100; decide) hws (g.le (by decide))).to fun ps u ⟨⟨p1, p2⟩, g⟩ => ?_
  have p1 : ps.length ≤ 8 := p1
  refine o_for (fun i (n : List Int × List PatT) => n.2.length ≤ ps.length + i ∧ (∀ p ∈ n.2, PatOk 4 p) ∧ Good (5000 - 20 * i) n.1) ⟨Nat.le_refl _, p2, g⟩ (fun i p n hp hn => ?_) (fun n hn => ⟨by omega, hn.2.1⟩)
  obtain ⟨n1, n2, n3⟩ := hn
  have hi := (List.getElem?_eq_some_iff.mp hp).1
  have hpo := p2 p (List.mem_of_getElem? hp)
  have s2 : p.1.length ≤ 4 := hpo.2.1
  simp -implicitDefEqProofs only [o_try, s_val, s_valp, s_stuck, s_exn, s_bnd', s_grd, s_itestuck, s_ite, s_up, s_nox, s_mk, s_fn, s_fnU, o_nx, o_ret, o_stuck, o_exn, o_bnd, o_seq, o_lt, o_itestuck, o_ite, s_if0]
  refine (next_sat (k := 5000 - 20 * i - 1) (n3.le (by omega)) (by decide) (by decide)).to fun d u ⟨hd, g⟩ => ?_
  by_cases h0 : d = 0
  · refine ite_t (decide_eq_true h0) ?_
    refine (numbers_sat (k := 5000 - 20 * (i + 1)) (by decide) (by decide) (by omega) (g.le (by omega))).to fun ns u ⟨⟨m1, m2⟩, g⟩ => ?_
    refine ⟨by omega, by rw [List.length_append, List.length_singleton]; omega, fun q hq => ?_, g⟩
    rcases List.mem_append.mp hq with z | z
    · exact n2 q z
    · rw [List.mem_singleton.mp z]
      exact ⟨hpo.1, hpo.2.1, hpo.2.2.1, m1, m2⟩
  · refine ite_f (by simpa using h0) ⟨by omega, n2, g.le (by omega)⟩
theorem right_eq {P : List PatT} (hl : P.length ≤ 40) (hP : ∀ p ∈ P, PatOk 4 p) : m_l_right (P, ()) () = .val (true, ()) := by
  have hs := sz20
  obtain ⟨t1, t2, t3, t4, t5⟩ := isTyK
  refine sat_eq ?_
  unfold m_l_right
  simp -implicitDefEqProofs only [o_try, s_val, s_valp, s_stuck, s_exn, s_bnd', s_grd, s_itestuck, s_ite, s_up, s_nox, s_mk, s_fn, s_fnU, o_nx, o_ret, o_stuck, o_exn, o_bnd, o_seq, o_lt, o_itestuck, o_ite, s_if0]
  refine (wood_satA hP (by decide) (by omega)).to fun w _ ⟨f, hw, hm, ha⟩ => ?_
  obtain ⟨q1, q2⟩ := dSh_eq (dPats_sh hP)
  have hwl := hw.len
  have hwp := hw.pos
  have e0 : ∀ xs : List KnotT, dLst (dTup (dCons (dTuL (dTup (dCons dTx (dCons PyData.int dNil)))) (dCons (dOpt (dTuL PyData.int)) dNil))) xs = .list (xs.map (dTup (dCons (dTuL (dTup (dCons dTx (dCons PyData.int dNil)))) (dCons (dOpt (dTuL PyData.int)) dNil)))) := fun _ => rfl
  simp -implicitDefEqProofs only [o_try, s_val, s_valp, s_stuck, s_exn, s_bnd', s_grd, s_itestuck, s_ite, s_up, s_nox, s_mk, s_fn, s_fnU, o_nx, o_ret, o_stuck, o_exn, o_bnd, o_seq, o_lt, o_itestuck, o_ite, s_if0, q2, e0, t5, Bool.not_true, Bool.false_eq_true, if_false]
  refine ⟨q1, ?_⟩
  refine ite_f (by rw [decide_eq_false (by omega)]; decide) ?_
  refine ⟨by omega, ?_⟩
  have hrl : ∀ k ns, rowOf P k = some ns → ns.length ≤ 1000 := fun k ns e => by
    have h := rowOf_is (m := 4) k _ P rfl hP
    rw [e] at h
    have h2 := (h.2 ns rfl).1
    by_cases hk : ∃ p ∈ P, p.1 = k
    · obtain ⟨p, hp, rfl⟩ := hk
      have := (hP p hp).2.1
      omega
    · rw [rowOf_none fun p hp z => hk ⟨p, hp, z⟩] at e; cases e
  refine s_compM (fun _ => true) (fun _ _ => rfl) (fun kn hkn => ?_) ?_
  · simp -implicitDefEqProofs only [o_try, s_val, s_valp, s_stuck, s_exn, s_bnd', s_grd, s_itestuck, s_ite, s_up, s_nox, s_mk, s_fn, s_fnU, o_nx, o_ret, o_stuck, o_exn, o_bnd, o_seq, o_lt, o_itestuck, o_ite, s_if0, isknot_eq hw ha hl hrl hkn]
    exact ⟨trivial, trivial⟩
  have hat : ∀ xs : List KnotT, List.all (xs.map fun _ => true) id = true := fun xs => by induction xs <;> simp_all
  rw [hat]
  refine ite_f (by decide) ?_
  refine (named_sat hw hm ha hP (by decide)).to fun r _ ⟨F, hr, f1, f2, f3⟩ => ?_
  subst hr
  refine ite_f (by simp) ?_
  refine (begin_sat hP (by decide) (by omega)).to fun n _ ⟨hn, hnl⟩ => ?_
  have hkeys : ∀ k, k ∈ n.map (·.1) ↔ isPre P k := fun k => by rw [← dGet_mem, hn.dom]
  have hpc : ∀ k, isPre P k → ∀ c ∈ k, c < 0x110000 := fun k hk c hc => by
    rcases hk with rfl | ⟨p, hp, z⟩
    · cases hc
    · exact az_lt ((hP p hp).2.2.1 c (z.subset hc))
  have es : sortK dTx (F.map fun y => y.1) = sortK dTx (n.map fun y => y.1) := sortT_mem f1 hn.nd fun k => by rw [f2, hkeys]
  obtain ⟨q3, q4⟩ := dSh_eq (dTxs_sh (xs := sortK dTx (n.map fun y => y.1)) fun x hx => hpc x ((hkeys x).mp (by unfold sortK at hx; exact (List.mergeSort_perm _ _).mem_iff.mp hx)))
  simp -implicitDefEqProofs only [o_try, s_val, s_valp, s_stuck, s_exn, s_bnd', s_grd, s_itestuck, s_ite, s_up, s_nox, s_mk, s_fn, s_fnU, o_nx, o_ret, o_stuck, o_exn, o_bnd, o_seq, o_lt, o_itestuck, o_ite, s_if0, Option.isSome_some, Option.getD_some, es, q4, if_true, true_and]
  refine ⟨q3, by rw [List.length_map]; omega, ?_⟩
  refine s_compM (fun _ => true) (fun _ _ => rfl) (fun k hk => ?_) ?_
  · have hkp := (hkeys k).mp hk
    obtain ⟨kn, g1, g2⟩ := f3 k hkp
    obtain ⟨v, hv⟩ := Option.isSome_iff_exists.mp ((hn.dom k).mpr hkp)
    have hv2 := hn.val k v hv
    have hsh : dSh 1 (dOpt (dTuL PyData.int) (rowOf P k)) := by
      cases rowOf P k with
      | none => trivial
      | some ns => intro y hy; obtain ⟨z, _, rfl⟩ := List.mem_map.mp hy; trivial
    obtain ⟨q5, q6⟩ := dSh_eq hsh
    simp -implicitDefEqProofs only [o_try, s_val, s_valp, s_stuck, s_exn, s_bnd', s_grd, s_itestuck, s_ite, s_up, s_nox, s_mk, s_fn, s_fnU, o_nx, o_ret, o_stuck, o_exn, o_bnd, o_seq, o_lt, o_itestuck, o_ite, s_if0, g1, g2, hv, hv2, Option.isSome_some, Option.getD_some, q6, true_and]
    exact ⟨q5, trivial⟩
  · have hat2 : ∀ xs : List Tx, List.all (xs.map fun _ => true) id = true := fun xs => by induction xs <;> simp_all
    exact ⟨hat2 _, trivial⟩
theorem wood_nil : (m_wood_of (([] : List PatT), ()) ()) = .val ([([], none, ())], ()) := by
  refine sat_eq ?_
  refine (wood_satA (m := 4) (P := []) (fun p hp => by cases hp) (by decide) (by decide)).to fun w _ ⟨f, hw, hm, ha⟩ => ⟨?_, rfl⟩
  have h1 := ha.few
  have h2 := hw.pos
  obtain ⟨k0, r1, r2, _⟩ := hw.knot [] (.inl rfl)
  have hk := List.mem_of_getElem? r1
  have e : w = [k0] := by
    match w, h1, h2, hk with
    | [x], _, _, hk => rw [List.mem_singleton.mp hk]
    | x :: y :: l, h1, _, _ => simp at h1
  have hws : k0.1 = [] := by
    cases hc : k0.1 with
    | nil => rfl
    | cons y l =>
      have hy : y ∈ k0.1 := by rw [hc]; exact List.mem_cons_self ..
      obtain ⟨⟨c, e1, _⟩, _⟩ := (hw.ways k0 hk).2 y hy
      obtain ⟨y1, y2, ⟨⟩⟩ := y
      have e1 : y1 = [c] := e1
      subst e1
      have := ((hm.list [] k0 (.inl rfl) r1).2 c y2).mp hy
      rcases this.1 with z | ⟨p, hp, _⟩
      · simp at z
      · cases hp
  obtain ⟨a, b, ⟨⟩⟩ := k0
  have hws : a = [] := hws
  have r2 : b = none := r2
  rw [e, hws, r2]
theorem law_true (ns : List Int) (h : ns.length ≤ 63) : m_law_ (ns, ()) () = .val (true, ()) := by
  have hs := sz20
  refine sat_eq ?_
  unfold m_law_
  have h0 := wood_nil
  simp -implicitDefEqProofs only [o_try, s_val, s_valp, s_stuck, s_exn, s_bnd', s_grd, s_itestuck, s_ite, s_up, s_nox, s_mk, s_fn, s_fnU, o_nx, o_ret, o_stuck, o_exn, o_bnd, o_seq, o_lt, o_itestuck, o_ite, s_if0, h0]
  refine ⟨by decide +kernel, ?_⟩
  refine ite_f (by decide +kernel) ?_
  generalize hm : (if (ns.length : Int) < 20 then (ns.length : Int) else 20) = m
  have hm2 : 0 ≤ m ∧ m ≤ 20 := by rw [← hm]; split <;> omega
  refine ⟨rng_ok (by omega) (by omega) (by omega) (by omega), by rw [rng_len]; omega, ?_⟩
  refine s_compM (fun _ => true) (fun _ _ => rfl) (fun x hx => ?_) ⟨?_, trivial⟩
  · simp -implicitDefEqProofs only [o_try, s_val, s_valp, s_stuck, s_exn, s_bnd', s_grd, s_itestuck, s_ite, s_up, s_nox, s_mk, s_fn, s_fnU, o_nx, o_ret, o_stuck, o_exn, o_bnd, o_seq, o_lt, o_itestuck, o_ite, s_if0]
    refine (feed_sat (K := 20000) (by decide)).to fun d _ g => ?_
    refine (drawn_sat g).to fun ps _ ⟨p1, p2⟩ => ?_
    simp only [right_eq (P := ps) (by omega) p2, o_try, s_val, s_valp, s_stuck, s_exn, s_bnd', s_grd, s_itestuck, s_ite, s_up, s_nox, s_mk, s_fn, s_fnU, o_nx, o_ret, o_stuck, o_exn, o_bnd, o_seq, o_lt, o_itestuck, o_ite, s_if0]
    exact ⟨trivial, trivial⟩
  · have hat2 : ∀ xs : List Int, List.all (xs.map fun _ => true) id = true := fun xs => by induction xs <;> simp_all
    exact hat2 _

end My


namespace My
open PySem PySem.Spec PyProof.Rows L2 Fw
def dfs : List He.DefD := [
  ⟨("greatest", none), "greatest", "greatest", defArgs s_greatest, defBody s_greatest, defScope s_greatest, [], []⟩,
  ⟨("wood_of", none), "wood_of", "wood_of", defArgs s_wood_of, defBody s_wood_of, defScope s_wood_of, [], []⟩,
  ⟨("_law_feed", none), "_law_feed", "_law_feed", defArgs s_l_feed, defBody s_l_feed, defScope s_l_feed, [], []⟩,
  ⟨("_law_next", none), "_law_next", "_law_next", defArgs s_l_next, defBody s_l_next, defScope s_l_next, [], []⟩,
  ⟨("_law_letters", none), "_law_letters", "_law_letters", defArgs s_l_letters, defBody s_l_letters, defScope s_l_letters, [], []⟩,
  ⟨("_law_word", none), "_law_word", "_law_word", defArgs s_l_word, defBody s_l_word, defScope s_l_word, [], []⟩,
  ⟨("_law_numbers", none), "_law_numbers", "_law_numbers", defArgs s_l_numbers, defBody s_l_numbers, defScope s_l_numbers, [], []⟩,
  ⟨("_law_pattern", none), "_law_pattern", "_law_pattern", defArgs s_l_pattern, defBody s_l_pattern, defScope s_l_pattern, [], []⟩,
  ⟨("_law_patterns", none), "_law_patterns", "_law_patterns", defArgs s_l_patterns, defBody s_l_patterns, defScope s_l_patterns, [], []⟩,
  ⟨("_law_beginnings", none), "_law_beginnings", "_law_beginnings", defArgs s_l_beginnings, defBody s_l_beginnings, defScope s_l_beginnings, [], []⟩,
  ⟨("_law_named", none), "_law_named", "_law_named", defArgs s_l_named, defBody s_l_named, defScope s_l_named, [], []⟩,
  ⟨("_law_is_knot", none), "_law_is_knot", "_law_is_knot", defArgs s_l_is_knot, defBody s_l_is_knot, defScope s_l_is_knot, [], []⟩,
  ⟨("_law_right", none), "_law_right", "_law_right", defArgs s_l_right, defBody s_l_right, defScope s_l_right, [], []⟩,
  ⟨("_law_drawn", none), "_law_drawn", "_law_drawn", defArgs s_l_drawn, defBody s_l_drawn, defScope s_l_drawn, [], []⟩,
  ⟨("law", none), "law", "law", defArgs s_law_, defBody s_law_, defScope s_law_, [], []⟩]
def fbs : List (PySem.W.Frag → Bool) := []
def fas0 : List He.Fa := [.glo "greatest", .glo "wood_of", .glo "_law_feed", .glo "_law_next", .glo "_law_letters", .glo "_law_word", .glo "_law_numbers", .glo "_law_pattern", .glo "_law_patterns", .glo "_law_beginnings", .glo "_law_named", .glo "_law_is_knot", .glo "_law_right", .glo "_law_drawn", .glo "law", .free "len", .free "abs", .free "min", .free "max", .free "int", .free "str", .free "all", .free "any", .free "tuple", .free "list", .free "range", .free "enumerate", .free "isinstance", .free "bool", .free "sorted"]
def fas1 : List He.Fa := [.free "zip", .free "set"]
def fas : List He.Fa := fas0 ++ fas1
def nms0 : List Str := ["greatest", "wood_of", "_law_feed", "_law_next", "_law_letters", "_law_word", "_law_numbers", "_law_pattern", "_law_patterns", "_law_beginnings", "_law_named", "_law_is_knot", "_law_right", "_law_drawn"]
def nms : List Str := nms0
abbrev R : PySem.W.OpenRow := PySem.W.OpenLaw.row PySem.Challenge.rw_breakwords_k20_woods_knot_by_knot
abbrev hk : PySem.W.Hook := hookB 4 fas fbs dfs
def ob (s : PySem.W.SharedT) : He.AlD := obsBG 4 fas fbs dfs (HandSHeadRun.getT s)
theorem ob_eq (s : PySem.W.SharedT) : ob s = hk.obs s.abs := obsBG_eq (HandSHeadRun.getT_eq s)
abbrev vw : Program := PySem.W.view R.prog [16]
theorem run (w : World) : HandSHeadRun.RunEq R vw hk ob 8000 nms w := by
  intro os
  kernel_rfl
theorem tops {K : PySem.W.Frag} {h : Heap} {mg : Str → Option Value} (X : K.In h) (G : h.Ns mainGlobals mg) (cb : SaysB fas fbs dfs K) : Nonempty (Tops K mg) := by
  have c := cb.d
  obtain ⟨d0, F0⟩ := c.def_ 0 (d := dfs[0]) rfl
  obtain ⟨d1, F1⟩ := c.def_ 1 (d := dfs[1]) rfl
  obtain ⟨d2, F2⟩ := c.def_ 2 (d := dfs[2]) rfl
  obtain ⟨d3, F3⟩ := c.def_ 3 (d := dfs[3]) rfl
  obtain ⟨d4, F4⟩ := c.def_ 4 (d := dfs[4]) rfl
  obtain ⟨d5, F5⟩ := c.def_ 5 (d := dfs[5]) rfl
  obtain ⟨d6, F6⟩ := c.def_ 6 (d := dfs[6]) rfl
  obtain ⟨d7, F7⟩ := c.def_ 7 (d := dfs[7]) rfl
  obtain ⟨d8, F8⟩ := c.def_ 8 (d := dfs[8]) rfl
  obtain ⟨d9, F9⟩ := c.def_ 9 (d := dfs[9]) rfl
  obtain ⟨d10, F10⟩ := c.def_ 10 (d := dfs[10]) rfl
  obtain ⟨d11, F11⟩ := c.def_ 11 (d := dfs[11]) rfl
  obtain ⟨d12, F12⟩ := c.def_ 12 (d := dfs[12]) rfl
  obtain ⟨d13, F13⟩ := c.def_ 13 (d := dfs[13]) rfl
  obtain ⟨d14, F14⟩ := c.def_ 14 (d := dfs[14]) rfl
  exact ⟨{
    f_greatest := _, d_greatest := d0, F_greatest := fun_ofD F0, g_greatest := He.glo_ok X G (c.fact 0 rfl), b_greatest := F0.bindsN fun _ _ _ _ _ _ us hl => match us, hl with | [_, _], _ => rfl
    f_wood_of := _, d_wood_of := d1, F_wood_of := fun_ofD F1, g_wood_of := He.glo_ok X G (c.fact 1 rfl), b_wood_of := F1.bindsN fun _ _ _ _ _ _ us hl => match us, hl with | [_], _ => rfl
    f_l_feed := _, d_l_feed := d2, F_l_feed := fun_ofD F2, g_l_feed := He.glo_ok X G (c.fact 2 rfl), b_l_feed := F2.bindsN fun _ _ _ _ _ _ us hl => match us, hl with | [_, _], _ => rfl
    f_l_next := _, d_l_next := d3, F_l_next := fun_ofD F3, g_l_next := He.glo_ok X G (c.fact 3 rfl), b_l_next := F3.bindsN fun _ _ _ _ _ _ us hl => match us, hl with | [_, _], _ => rfl
    f_l_letters := _, d_l_letters := d4, F_l_letters := fun_ofD F4, g_l_letters := He.glo_ok X G (c.fact 4 rfl), b_l_letters := F4.bindsN fun _ _ _ _ _ _ us hl => match us, hl with | [_], _ => rfl
    f_l_word := _, d_l_word := d5, F_l_word := fun_ofD F5, g_l_word := He.glo_ok X G (c.fact 5 rfl), b_l_word := F5.bindsN fun _ _ _ _ _ _ us hl => match us, hl with | [_, _, _], _ => rfl
    f_l_numbers := _, d_l_numbers := d6, F_l_numbers := fun_ofD F6, g_l_numbers := He.glo_ok X G (c.fact 6 rfl), b_l_numbers := F6.bindsN fun _ _ _ _ _ _ us hl => match us, hl with | [_, _, _], _ => rfl
    f_l_pattern := _, d_l_pattern := d7, F_l_pattern := fun_ofD F7, g_l_pattern := He.glo_ok X G (c.fact 7 rfl), b_l_pattern := F7.bindsN fun _ _ _ _ _ _ us hl => match us, hl with | [_, _, _, _], _ => rfl
    f_l_patterns := _, d_l_patterns := d8, F_l_patterns := fun_ofD F8, g_l_patterns := He.glo_ok X G (c.fact 8 rfl), b_l_patterns := F8.bindsN fun _ _ _ _ _ _ us hl => match us, hl with | [_, _, _, _], _ => rfl
    f_l_beginnings := _, d_l_beginnings := d9, F_l_beginnings := fun_ofD F9, g_l_beginnings := He.glo_ok X G (c.fact 9 rfl), b_l_beginnings := F9.bindsN fun _ _ _ _ _ _ us hl => match us, hl with | [_], _ => rfl
    f_l_named := _, d_l_named := d10, F_l_named := fun_ofD F10, g_l_named := He.glo_ok X G (c.fact 10 rfl), b_l_named := F10.bindsN fun _ _ _ _ _ _ us hl => match us, hl with | [_], _ => rfl
    f_l_is_knot := _, d_l_is_knot := d11, F_l_is_knot := fun_ofD F11, g_l_is_knot := He.glo_ok X G (c.fact 11 rfl), b_l_is_knot := F11.bindsN fun _ _ _ _ _ _ us hl => match us, hl with | [_], _ => rfl
    f_l_right := _, d_l_right := d12, F_l_right := fun_ofD F12, g_l_right := He.glo_ok X G (c.fact 12 rfl), b_l_right := F12.bindsN fun _ _ _ _ _ _ us hl => match us, hl with | [_], _ => rfl
    f_l_drawn := _, d_l_drawn := d13, F_l_drawn := fun_ofD F13, g_l_drawn := He.glo_ok X G (c.fact 13 rfl), b_l_drawn := F13.bindsN fun _ _ _ _ _ _ us hl => match us, hl with | [_], _ => rfl
    f_law_ := _, d_law_ := d14, F_law_ := fun_ofD F14, g_law_ := He.glo_ok X G (c.fact 14 rfl), b_law_ := F14.bindsN fun _ _ _ _ _ _ us hl => match us, hl with | [_], _ => rfl
    z_len := He.free_ok X G (c.fact 15 rfl)
    z_abs := He.free_ok X G (c.fact 16 rfl)
    z_min := He.free_ok X G (c.fact 17 rfl)
    z_max := He.free_ok X G (c.fact 18 rfl)
    z_int := He.free_ok X G (c.fact 19 rfl)
    z_str := He.free_ok X G (c.fact 20 rfl)
    z_all := He.free_ok X G (c.fact 21 rfl)
    z_any := He.free_ok X G (c.fact 22 rfl)
    z_tuple := He.free_ok X G (c.fact 23 rfl)
    z_list := He.free_ok X G (c.fact 24 rfl)
    z_range := He.free_ok X G (c.fact 25 rfl)
    z_enumerate := He.free_ok X G (c.fact 26 rfl)
    z_isinstance := He.free_ok X G (c.fact 27 rfl)
    z_bool := He.free_ok X G (c.fact 28 rfl)
    z_sorted := He.free_ok X G (c.fact 29 rfl)
    z_zip := He.free_ok X G (c.fact 30 rfl)
    z_set := He.free_ok X G (c.fact 31 rfl)
    }⟩
end My
open PySem PySem.W PySem.Calls PyProof.Rows
theorem PySem.Challenge.cw_breakwords_k20_woods_knot_by_knot_holds : PySem.Challenge.rw_breakwords_k20_woods_knot_by_knot.Holds := by
  w_on; o_law
  refine HandSHeadRun.head_any (r := My.R) (q := My.vw) (H := My.hk) (ob := My.ob) (M := 8000) (loose := My.nms) (d := HandSHeadRun.topDef My.R.prog 16) (kwd := []) My.ob_eq
    (by kernel_rfl) (fun s => by kernel_rfl) My.run (by kernel_rfl) (by kernel_rfl) (by kernel_rfl) (by rfl) (by first | assumption | decide +kernel) (by decide +kernel) ⟨rfl, rfl, rfl, rfl, rfl, by decide +kernel⟩ ?hw ?hc
  case hw => w_witness2
  case hc =>
    refine Fw.walk_ofW (l := PySem.Challenge.rw_breakwords_k20_woods_knot_by_knot) (k := 6) (x := "_law_script") (ε := My.Exc) rfl (by kernel_rfl) ⟨rfl, by decide, by decide⟩ ?F
    intro w mg fa h Y G hmg0
    obtain ⟨K, KX, c⟩ := Y
    have hmg : mg ("law" : PySem.Str) = some (.ref fa) := by
      have e : (HandSHeadRun.topDef My.R.prog 16).name = ("law" : PySem.Str) := by kernel_rfl
      rw [← e]
      exact hmg0
    obtain ⟨T⟩ := My.tops KX G c
    have e := hmg.symm.trans T.g_law_
    cases e
    exact ⟨K, T.d_law_, My.xt T, My.m_law_, KX, fun s v => Fw.binds_all (ps := ["_law_script"]) T.F_law_ (fun _ _ _ _ _ _ us hl => match us, hl with | [_], _ => rfl) s [v] rfl, My.law_true, fun base _ _ => My.ok_law_ T⟩


