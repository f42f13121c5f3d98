import PyProof.Rows.All
import Wide.All
import OpenK.AllK
import Wide.FinOn
import HandS.ForMost
import HandS.Walk
import HandS.TupAny
import HandS.TupMul
import HandS.Conv
import HandS.Wide
import HandS.WideBits
import HandS.Zip
import HandS.IsInst
import HandS.Flow
import HandS.Style
import HandS.Evl
import HandS.More
import KE.GoesEnum
import PyProof.EnumMake
import HandS.SortInts
import HandS.Dict
import HandS.Sort
import HandS.Iter
import PySem.Challenge.RW_laidroads_k27_whole_rounds_and_the_deter
set_option Elab.async false
set_option linter.all false
set_option maxRecDepth 100000
set_option maxHeartbeats 4000000
/-! PD: a layer of pure data over the hand layer: readings told by data that names hold -/
namespace PD
open PySem L2

abbrev Ex := Evl.Ex

/-- a value that stays: what it shows, told over a heap that only grows -/
structure Rp (α : Type) where
  rel : Hp → V → α → Prop
  up : ∀ {F F' : Hp} {v : V} {x : α}, Ex F F' → rel F v x → rel F' v x
/-- what an object of one's own holds (p, with all that belongs to it: foot); frozen it is a value -/
structure Ro (α : Type) where
  foot : Hp → Addr → Addr → Prop
  rel : Hp → Hp → Addr → α → Prop
  self : ∀ {H p}, foot H p p
  out : ∀ {F H p x q}, rel F H p x → foot H p q → F q = none ∧ ∃ o, H q = some o
  stay : ∀ {F F' H H' p x}, rel F H p x → Ex F F' → (∀ q, foot H p q → H' q = H q ∧ F' q = none) → rel F' H' p x
  stayf : ∀ {F H H' p x q}, rel F H p x → (∀ q, foot H p q → H' q = H q) → foot H' p q → foot H p q
  fz : Rp α
  fzr : ∀ {F F' H p x}, rel F H p x → Ex F F' → (∀ q o, foot H p q → H q = some o → F' q = some o) → fz.rel F' (.ref p) x

inductive Slot : Type 1
  | any
  | imm {α : Type} (R : Rp α) (x : α)
  | own (p : Addr) {α : Type} (R : Ro α) (x : α)
inductive Res : Type 1
  | imm {α : Type} (R : Rp α) (x : α)
  | new {α : Type} (R : Ro α) (x : α)
  | view (p : Addr) {α : Type} (R : Ro α) (x : α)

def SlotOk (F H : Hp) (w : Option V) : Slot → Prop
  | .any => True
  | .imm R x => ∃ v, w = some v ∧ R.rel F v x
  | .own p R x => w = some (.ref p) ∧ R.rel F H p x
/-- what the slots own -/
def Owns (ρ : List Slot) (H : Hp) (q : Addr) : Prop := ∃ (i : Nat) (p : Addr) (α : Type) (R : Ro α) (x : α), ρ[i]? = some (.own p R x) ∧ R.foot H p q
structure Hold (F : Hp) (σ : L2.St) (H : Hp) (ρ : List Slot) : Prop where
  ex : Ex F H
  len : σ.length = ρ.length
  ok : ∀ (i : Nat) (w : Option V) (s : Slot), σ[i]? = some w → ρ[i]? = some s → SlotOk F H w s
  sep : ∀ (i j : Nat) (p p' q : Addr) (α β : Type) (R : Ro α) (x : α) (S : Ro β) (y : β), ρ[i]? = some (.own p R x) → ρ[j]? = some (.own p' S y) → R.foot H p q → S.foot H p' q → i = j
structure Go (ρ : List Slot) (F H : Hp) (ρ' : List Slot) (σ' : L2.St) (F' H' : Hp) : Prop where
  hold : Hold F' σ' H' ρ'
  ex : Ex F F'
  old : ∀ q o, H q = some o → ¬ Owns ρ H q → H' q = some o
  new : ∀ q o, H q = some o → F q = none → ¬ Owns ρ H q → F' q = none
  there : ∀ q, H' q = none → H q = none
  owns : ∀ q, Owns ρ' H' q → Owns ρ H q ∨ H q = none

section
variable {F F1 F2 F' H H0 H1 H2 H' : Hp} {σ σ1 σ2 : L2.St} {ρ ρ1 ρ2 : List Slot} {p q : Addr} {o : HO} {v : V}

theorem Hold.get (h : Hold F σ H ρ) {i : Nat} {s : Slot} (e : ρ[i]? = some s) : ∃ w, σ[i]? = some w ∧ SlotOk F H w s := by
  have hi : i < σ.length := by rw [h.len]; exact (List.getElem?_eq_some_iff.mp e).1
  exact ⟨σ[i], List.getElem?_eq_getElem hi, h.ok i _ s (List.getElem?_eq_getElem hi) e⟩
theorem Hold.imm (h : Hold F σ H ρ) {i : Nat} {α : Type} {R : Rp α} {x : α} (e : ρ[i]? = some (.imm R x)) : ∃ v, σ[i]? = some (some v) ∧ R.rel F v x := by
  obtain ⟨w, e1, v, rfl, r⟩ := h.get e
  exact ⟨v, e1, r⟩
theorem Hold.own (h : Hold F σ H ρ) {i : Nat} {α : Type} {R : Ro α} {x : α} (e : ρ[i]? = some (.own p R x)) :
    σ[i]? = some (some (.ref p)) ∧ R.rel F H p x := by
  obtain ⟨w, e1, e2, r⟩ := h.get e
  subst e2
  exact ⟨e1, r⟩
theorem Hold.owned (h : Hold F σ H ρ) (e : Owns ρ H q) : F q = none ∧ ∃ o, H q = some o := by
  obtain ⟨i, p, α, R, x, e, f⟩ := e
  exact R.out (h.own e).2 f
theorem Hold.notOwn (h : Hold F σ H ρ) (e : H q = none) : ¬ Owns ρ H q := fun w => by
  obtain ⟨_, o, b⟩ := h.owned w
  rw [e] at b; cases b
theorem Hold.notF (h : Hold F σ H ρ) (e : F q = some o) : ¬ Owns ρ H q := fun w => by
  obtain ⟨b, _⟩ := h.owned w
  rw [e] at b; cases b
/-- the heaps change beside what the slots own -/
theorem Hold.step (h : Hold F σ H ρ) (ex : Ex F F') (eh : Ex F' H') (k : ∀ q, Owns ρ H q → H' q = H q ∧ F' q = none) : Hold F' σ H' ρ where
  ex := eh
  len := h.len
  ok := fun i w s e1 e2 => by
    have q := h.ok i w s e1 e2
    cases s with
    | any => trivial
    | imm R x => obtain ⟨v, a, r⟩ := q; exact ⟨v, a, R.up ex r⟩
    | own p R x => exact ⟨q.1, R.stay q.2 ex fun q' f => k q' ⟨i, p, _, R, x, e2, f⟩⟩
  sep := fun i j p p' q α β R x S y e1 e2 f1 f2 =>
    h.sep i j p p' q α β R x S y e1 e2 (R.stayf (h.own e1).2 (fun q' f => (k q' ⟨i, p, _, R, x, e1, f⟩).1) f1) (S.stayf (h.own e2).2 (fun q' f => (k q' ⟨j, p', _, S, y, e2, f⟩).1) f2)
theorem owns_step (h : Hold F σ H ρ) (k : ∀ q, Owns ρ H q → H' q = H q) (w : Owns ρ H' q) : Owns ρ H q := by
  obtain ⟨i, p, α, R, x, e, f⟩ := w
  exact ⟨i, p, α, R, x, e, R.stayf (h.own e).2 (fun q' f => k q' ⟨i, p, _, R, x, e, f⟩) f⟩
theorem Go.refl (h : Hold F σ H ρ) : Go ρ F H ρ σ F H :=
  ⟨h, fun _ _ e => e, fun _ _ e _ => e, fun _ _ _ e _ => e, fun _ e => e, fun _ e => .inl e⟩
theorem Go.trans (a : Go ρ F H ρ1 σ1 F1 H1) (b : Go ρ1 F1 H1 ρ2 σ2 F2 H2) : Go ρ F H ρ2 σ2 F2 H2 where
  hold := b.hold
  ex := fun q o e => b.ex q o (a.ex q o e)
  old := fun q o e n => b.old q o (a.old q o e n) fun w => by
    rcases a.owns q w with z | z
    · exact n z
    · rw [e] at z; cases z
  new := fun q o e f n => b.new q o (a.old q o e n) (a.new q o e f n) fun w => by
    rcases a.owns q w with z | z
    · exact n z
    · rw [e] at z; cases z
  there := fun q e => a.there q (b.there q e)
  owns := fun q w => by
    rcases b.owns q w with z | z
    · exact a.owns q z
    · exact .inr (a.there q z)
/-- a heap that grows by one new object; it is known from now on -/
theorem Go.alloc (h : Hold F σ H ρ) (hp : H p = none) : Go ρ F H ρ σ (upd F p o) (upd H p o) := by
  have hF : F p = none := Evl.fresh_back h.ex hp
  have k : ∀ q, Owns ρ H q → upd H p o q = H q ∧ upd F p o q = none := fun q w => by
    obtain ⟨a, u, b⟩ := h.owned w
    have ne : q ≠ p := ne_of_none b hp
    exact ⟨upd_ne ne, by rw [upd_ne ne]; exact a⟩
  refine ⟨h.step (Evl.Ex.new hF) (fun a u e => ?_) k, Evl.Ex.new hF, fun q u e _ => ?_, fun q u e f _ => ?_, fun q e => ?_, fun q w => .inl (owns_step h (fun q w => (k q w).1) w)⟩
  · by_cases z : a = p
    · subst z; rw [upd_same] at e ⊢; exact e
    · rw [upd_ne z] at e ⊢; exact h.ex a u e
  · rw [upd_ne (ne_of_none e hp)]; exact e
  · rw [upd_ne (ne_of_none e hp)]; exact f
  · by_cases z : q = p
    · rw [z]; exact hp
    · rw [upd_ne z] at e; exact e
theorem Go.allocO (h : Hold F σ H ρ) (hp : H p = none) : Go ρ F H ρ σ F (upd H p o) := by
  have k : ∀ q, Owns ρ H q → upd H p o q = H q ∧ F q = none := fun q w => by
    obtain ⟨a, u, b⟩ := h.owned w
    exact ⟨upd_ne (ne_of_none b hp), a⟩
  refine ⟨h.step (fun _ _ e => e) (Evl.Ex.mut h.ex (Evl.fresh_back h.ex hp)) k, fun _ _ e => e, fun q u e _ => ?_, fun q u e f _ => f, fun q e => ?_, fun q w => .inl (owns_step h (fun q w => (k q w).1) w)⟩
  · rw [upd_ne (ne_of_none e hp)]; exact e
  · by_cases z : q = p
    · rw [z]; exact hp
    · rw [upd_ne z] at e; exact e

/-- what a result says of a value; H0: the heap ahead of its reckoning -/
def RV (ρ : List Slot) (H0 F H : Hp) (v : V) : Res → Prop
  | .imm R x => R.rel F v x
  | .new R x => ∃ p, v = .ref p ∧ (∀ q, R.foot H p q → H0 q = none ∧ ¬ Owns ρ H q) ∧ R.rel F H p x
  | .view p R x => v = .ref p
theorem RV.keep {r : Res} (g : Go ρ1 F1 H1 ρ2 σ2 F2 H2) (rv : RV ρ1 H0 F1 H1 v r) : RV ρ2 H0 F2 H2 v r := by
  cases r with
  | imm R x => exact R.up g.ex rv
  | view p R x => exact rv
  | new R x =>
    obtain ⟨p, e, a, r⟩ := rv
    have k : ∀ q, R.foot H1 p q → H2 q = H1 q ∧ F2 q = none := fun q f => by
      obtain ⟨b, o, c⟩ := R.out r f
      exact ⟨(g.old q o c (a q f).2).trans c.symm, g.new q o c b (a q f).2⟩
    refine ⟨p, e, fun q f => ?_, R.stay r g.ex k⟩
    have f1 : R.foot H1 p q := R.stayf r (fun q f => (k q f).1) f
    refine ⟨(a q f1).1, fun w => ?_⟩
    rcases g.owns q w with z | z
    · exact (a q f1).2 z
    · obtain ⟨_, o, c⟩ := R.out r f1
      rw [z] at c; cases c
theorem RV.back {r : Res} (hb : ∀ q, H1 q = none → H0 q = none) (rv : RV ρ H1 F H v r) : RV ρ H0 F H v r := by
  cases r with
  | imm R x => exact rv
  | view p R x => exact rv
  | new R x =>
    obtain ⟨p, e, a, r⟩ := rv
    exact ⟨p, e, fun q f => ⟨hb q (a q f).1, (a q f).2⟩, r⟩
end

inductive AllR (P : V → Res → Prop) : List V → List Res → Prop
  | nil : AllR P [] []
  | cons {v : V} {r : Res} {vs : List V} {rs : List Res} : P v r → AllR P vs rs → AllR P (v :: vs) (r :: rs)
theorem AllR.mapP {P P' : V → Res → Prop} (f : ∀ v r, P v r → P' v r) : ∀ {vs : List V} {rs : List Res}, AllR P vs rs → AllR P' vs rs
  | _, _, .nil => .nil
  | _, _, .cons a b => .cons (f _ _ a) (AllR.mapP f b)
/-! ### readings -/
def EvV (te : TE) (ρ : List Slot) (r : Res) (ρ' : List Slot) : Prop :=
  ∀ F σ H, Hold F σ H ρ → ∀ Q : VK, (∀ v F' H', Go ρ F H ρ' σ F' H' → RV ρ' H F' H' v r → Q v H') → te σ H Q
def EvT (tt : TT) (ρ : List Slot) (b : Bool) (ρ' : List Slot) : Prop :=
  ∀ F σ H, Hold F σ H ρ → ∀ Q : Bool → Hp → Prop, (∀ F' H', Go ρ F H ρ' σ F' H' → Q b H') → tt σ H Q
def EvA (ta : TA) (ρ : List Slot) (rs : List Res) (ρ' : List Slot) : Prop :=
  ∀ F σ H, Hold F σ H ρ → ∀ Q : List V → Hp → Prop, (∀ vs F' H', Go ρ F H ρ' σ F' H' → AllR (RV ρ' H F' H') vs rs → Q vs H') → ta σ H Q

section
variable {ι : Type}
def teOf (X : ι → Cx) (e : Expr) : TE := fun σ H Q => ∀ (i : ι) (pins : List (Addr × Obj)) (s : Shared), Inv (X i) pins σ H s → wpAny (model (X i).prog (X i).w) (X i).A (eval e (X i).env) (EP (X i) pins σ Q) (X i).xe s
def ttOf (X : ι → Cx) (e : Expr) : TT := fun σ H Q => ∀ (i : ι) (pins : List (Addr × Obj)) (s : Shared), Inv (X i) pins σ H s → wpAny (model (X i).prog (X i).w) (X i).A (isTrue e (X i).env (eval e (X i).env)) (TP (X i) pins σ Q) (X i).xe s
def twOf (X : ι → Cx) (e : Expr) : TT := fun σ H Q => ∀ (wh : Sem Value) (i : ι) (pins : List (Addr × Obj)) (s : Shared), Inv (X i) pins σ H s → wpAny (model (X i).prog (X i).w) (X i).A (isTrue e (X i).env wh) (TP (X i) pins σ Q) (X i).xe s
def taOf (X : ι → Cx) (es : List Expr) : TA := fun σ H Q => ∀ (i : ι) (pos : Pos) (pins : List (Addr × Obj)) (s : Shared), Inv (X i) pins σ H s → wpAny (model (X i).prog (X i).w) (X i).A (spliced (backTo pos (starEach es (X i).env))) (AP (X i) pins σ Q) (X i).xe s
def tsOf (X : ι → Cx) (st : Stmt) : TS := fun D σ H => ∀ (i : ι) (pins : List (Addr × Obj)) (s : Shared), Inv (X i) pins σ H s → wpAny (model (X i).prog (X i).w) (X i).A (exec st (X i).env) (SP (X i) pins D) (X i).xe s
def tssOf (X : ι → Cx) (st : List Stmt) : TS := fun D σ H => ∀ (i : ι) (pins : List (Addr × Obj)) (s : Shared), Inv (X i) pins σ H s → wpAny (model (X i).prog (X i).w) (X i).A (execs st (X i).env) (SP (X i) pins D) (X i).xe s
variable {X : ι → Cx}
theorem can (e : Expr) (i : ι) : PE (X i) e (teOf X e) := ⟨fun pins s σ H Q I h => h i pins s I⟩
theorem canT (e : Expr) (i : ι) : PT (X i) e (ttOf X e) := ⟨fun pins s σ H Q I h => h i pins s I⟩
theorem canW (e : Expr) (i : ι) : PW (X i) e (twOf X e) := ⟨fun wh pins s σ H Q I h => h wh i pins s I⟩
theorem canA (es : List Expr) (i : ι) : PA (X i) es (taOf X es) := ⟨fun pos pins s σ H Q I h => h i pos pins s I⟩
theorem canS (st : Stmt) (i : ι) : PS (X i) st (tsOf X st) := ⟨fun pins s σ H Q I h => h i pins s I⟩
theorem canSs (st : List Stmt) (i : ι) : PSs (X i) st (tssOf X st) := ⟨fun pins s σ H Q I h => h i pins s I⟩

/-- an expression tells r, and leaves ρ' -/
def DV (X : ι → Cx) (ρ : List Slot) (e : Expr) (r : Res) (ρ' : List Slot) : Prop := EvV (teOf X e) ρ r ρ'
def DT (X : ι → Cx) (ρ : List Slot) (e : Expr) (b : Bool) (ρ' : List Slot) : Prop := EvT (ttOf X e) ρ b ρ'
def DW (X : ι → Cx) (ρ : List Slot) (e : Expr) (b : Bool) (ρ' : List Slot) : Prop := EvT (twOf X e) ρ b ρ'
def DA (X : ι → Cx) (ρ : List Slot) (es : List Expr) (rs : List Res) (ρ' : List Slot) : Prop := EvA (taOf X es) ρ rs ρ'
variable {ρ ρ1 ρ2 ρ3 : List Slot} {r ra rb : Res} {e a b : Expr} {te ta tb : TE} {tt : TT} {tr : TA}
theorem dv_of (h : ∀ i, PE (X i) e te) (q : EvV te ρ r ρ1) : DV X ρ e r ρ1 := fun F σ H hh Q k i pins s I => (h i).run pins s σ H Q I (q F σ H hh Q k)
theorem dt_of {k : Bool} (h : ∀ i, PT (X i) e tt) (q : EvT tt ρ k ρ1) : DT X ρ e k ρ1 := fun F σ H hh Q k i pins s I => (h i).run pins s σ H Q I (q F σ H hh Q k)
theorem dw_of {k : Bool} (h : ∀ i, PW (X i) e tt) (q : EvT tt ρ k ρ1) : DW X ρ e k ρ1 := fun F σ H hh Q k wh i pins s I => (h i).run wh pins s σ H Q I (q F σ H hh Q k)
theorem da_of {es : List Expr} {rs : List Res} (h : ∀ i, PA (X i) es tr) (q : EvA tr ρ rs ρ1) : DA X ρ es rs ρ1 := fun F σ H hh Q k i pos pins s I => (h i).run pos pins s σ H Q I (q F σ H hh Q k)
theorem dw_dt {k : Bool} (h : DW X ρ e k ρ1) : DT X ρ e k ρ1 := dt_of (fun i => (canW e i).pt) h

/-! ### operations on values -/
def OpV (rd : R2) (ρ : List Slot) (ra rb r : Res) : Prop :=
  ∀ F σ H H0 x y, Hold F σ H ρ → RV ρ H0 F H x ra → RV ρ H0 F H y rb → ∀ Q : VK, (∀ v F' H', Go ρ F H ρ σ F' H' → RV ρ H F' H' v r → Q v H') → rd x y H Q
theorem ev_op {rd : R2} (ha : EvV ta ρ ra ρ1) (hb : EvV tb ρ1 rb ρ2) (ho : OpV rd ρ2 ra rb r) : EvV (tOp rd ta tb) ρ r ρ2 :=
  fun F σ H hh Q k => ha F σ H hh _ fun v1 F1 H1 g1 r1 => hb F1 σ H1 g1.hold _ fun v2 F2 H2 g2 r2 =>
    ho F2 σ H2 H v1 v2 g2.hold (r1.keep g2) (r2.back g1.there) Q fun v F3 H3 g3 r3 =>
      k v F3 H3 ((g1.trans g2).trans g3) (r3.back fun q z => g1.there q (g2.there q z))
def UnV (rd : V → Hp → VK → Prop) (ρ : List Slot) (ra r : Res) : Prop :=
  ∀ F σ H H0 x, Hold F σ H ρ → RV ρ H0 F H x ra → ∀ Q : VK, (∀ v F' H', Go ρ F H ρ σ F' H' → RV ρ H F' H' v r → Q v H') → rd x H Q
theorem ev_un {rd : V → Hp → VK → Prop} (ha : EvV ta ρ ra ρ1) (ho : UnV rd ρ1 ra r) : EvV (tUn rd ta) ρ r ρ1 :=
  fun F σ H hh Q k => ha F σ H hh _ fun v1 F1 H1 g1 r1 => ho F1 σ H1 H v1 g1.hold r1 Q fun v F3 H3 g3 r3 => k v F3 H3 (g1.trans g3) (r3.back g1.there)
/-- ρ' : what is owned behind it -/
def ClV (rd : List V → Hp → VK → Prop) (ρ : List Slot) (rs : List Res) (r : Res) (ρ' : List Slot) : Prop :=
  ∀ F σ H H0 vs, Hold F σ H ρ → AllR (RV ρ H0 F H) vs rs → ∀ Q : VK, (∀ v F' H', Go ρ F H ρ' σ F' H' → RV ρ' H F' H' v r → Q v H') → rd vs H Q
theorem ev_cb {rd : List V → Hp → VK → Prop} {rs : List Res} (ha : EvA tr ρ rs ρ1) (ho : ClV rd ρ1 rs r ρ2) : EvV (tCB rd tr) ρ r ρ2 :=
  fun F σ H hh Q k => ha F σ H hh _ fun vs F1 H1 g1 r1 => ho F1 σ H1 H vs g1.hold r1 Q fun v F3 H3 g3 r3 => k v F3 H3 (g1.trans g3) (r3.back g1.there)
/-! ### argument lists -/
theorem ev_nil : EvA tNil ρ [] ρ := fun F σ H hh Q k => k [] F H (Go.refl hh) .nil
theorem ev_cons {rs : List Res} (ha : EvV ta ρ r ρ1) (hr : EvA tr ρ1 rs ρ2) : EvA (tCons ta tr) ρ (r :: rs) ρ2 :=
  fun F σ H hh Q k => ha F σ H hh _ fun v F1 H1 g1 r1 => hr F1 σ H1 g1.hold _ fun vs F2 H2 g2 r2 =>
    k (v :: vs) F2 H2 (g1.trans g2) (.cons (r1.keep g2) (AllR.mapP (fun _ _ rv => rv.back g1.there) r2))
theorem da_nil : DA X ρ [] [] ρ := da_of (fun i => pa_nil) ev_nil
theorem da_cons {es : List Expr} {rs : List Res} (ha : DV X ρ e r ρ1) (hr : DA X ρ1 es rs ρ2) (hs : ∀ i, starEach (e :: es) (X i).env = (false, eval e (X i).env) :: starEach es (X i).env := by intro i; rfl) : DA X ρ (e :: es) (r :: rs) ρ2 :=
  da_of (fun i => pa_cons (can e i) (canA es i) (hs i)) (ev_cons ha hr)

/-! ### tests -/
theorem ev_B {k : Bool} {R : Rp Bool} (hR : ∀ F v, R.rel F v k → v = .bl k) (h : EvV ta ρ (.imm R k) ρ1) : EvT (tB ta) ρ k ρ1 :=
  fun F σ H hh Q q => h F σ H hh _ fun v F1 H1 g r => ⟨k, hR _ _ r, q F1 H1 g⟩
theorem ev_Test {k : Bool} {R : Rp Bool} (hR : ∀ F v, R.rel F v k → v = .bl k) (h : EvV ta ρ (.imm R k) ρ1) : EvT (tTest ta) ρ k ρ1 :=
  fun F σ H hh Q q => h F σ H hh _ fun v F1 H1 g r => ⟨k, hR _ _ r, q F1 H1 g⟩
end
end PD

set_option Elab.async false
set_option linter.all false
set_option maxRecDepth 100000
set_option maxHeartbeats 4000000
namespace PD
open PySem L2

/-! ### statements -/
structure Post where
  nx : List Slot → Prop
  rt : List Slot → Res → Prop
  bk : List Slot → Prop := fun _ => False
  ct : List Slot → Prop := fun _ => False
def EvS (ts : TS) (ρ : List Slot) (P : Post) : Prop := ∀ F σ H D, Hold F σ H ρ →
  (∀ ρ' σ' F' H', P.nx ρ' → Go ρ F H ρ' σ' F' H' → D.nx σ' H') →
  (∀ ρ' r σ' F' H' v, P.rt ρ' r → Go ρ F H ρ' σ' F' H' → RV ρ' H F' H' v r → D.rt v H') →
  (∀ ρ' σ' F' H', P.bk ρ' → Go ρ F H ρ' σ' F' H' → D.bk σ' H') →
  (∀ ρ' σ' F' H', P.ct ρ' → Go ρ F H ρ' σ' F' H' → D.ct σ' H') → ts D σ H

section
variable {F F1 F2 F' H H0 H1 H2 H' : Hp} {σ σ1 σ2 σ' : L2.St} {ρ ρ0 ρ1 ρ2 ρ' : List Slot} {p q : Addr} {o : HO} {v : V}
theorem set_get {ρ : List Slot} {i j : Nat} {s t : Slot} (e : (ρ.set i s)[j]? = some t) : (j = i ∧ t = s) ∨ (j ≠ i ∧ ρ[j]? = some t) := by
  by_cases h : j = i
  · subst h
    have hj : j < (ρ.set j s).length := (List.getElem?_eq_some_iff.mp e).1
    rw [List.length_set] at hj
    rw [List.getElem?_set_self hj] at e
    exact .inl ⟨rfl, (Option.some.inj e).symm⟩
  · rw [List.getElem?_set_ne (Ne.symm h)] at e
    exact .inr ⟨h, e⟩
/-- what a slot's thing would own -/
def Slot.foot (H : Hp) : Slot → Addr → Prop
  | .own p R _ => R.foot H p
  | _ => fun _ => False
theorem owns_set {i : Nat} {s : Slot} (w : Owns (ρ.set i s) H q) : Owns ρ H q ∨ s.foot H q := by
  obtain ⟨j, p, α, R, x, e, f⟩ := w
  rcases set_get e with ⟨_, e⟩ | ⟨_, e⟩
  · exact .inr (by rw [← e]; exact f)
  · exact .inl ⟨j, p, α, R, x, e, f⟩
/-- a slot takes a value -/
theorem Hold.set (h : Hold F σ H ρ) {i : Nat} {s : Slot} (hs : SlotOk F H (some v) s) (ha : ∀ q, s.foot H q → ¬ Owns ρ H q) : Hold F (σ.set i (some v)) H (ρ.set i s) where
  ex := h.ex
  len := by rw [List.length_set, List.length_set]; exact h.len
  ok := fun j w t e1 e2 => by
    rcases set_get e2 with ⟨rfl, rfl⟩ | ⟨hj, e2⟩
    · have hj : j < (σ.set j (some v)).length := (List.getElem?_eq_some_iff.mp e1).1
      rw [List.length_set] at hj
      rw [List.getElem?_set_self hj] at e1
      cases e1
      exact hs
    · rw [List.getElem?_set_ne (Ne.symm hj)] at e1
      exact h.ok j w t e1 e2
  sep := fun j k p p' q α β R x S y e1 e2 f1 f2 => by
    rcases set_get e1 with ⟨ej, d1⟩ | ⟨hj, d1⟩
    · rcases set_get e2 with ⟨ek, d2⟩ | ⟨hk, d2⟩
      · exact ej.trans ek.symm
      · exact absurd ⟨k, p', β, S, y, d2, f2⟩ (ha q (by rw [← d1]; exact f1))
    · rcases set_get e2 with ⟨ek, d2⟩ | ⟨hk, d2⟩
      · exact absurd ⟨j, p, α, R, x, d1, f1⟩ (ha q (by rw [← d2]; exact f2))
      · exact h.sep j k p p' q α β R x S y d1 d2 f1 f2
theorem Go.set (g : Go ρ F H ρ1 σ1 F1 H1) {i : Nat} {s : Slot} (hs : SlotOk F1 H1 (some v) s) (ha : ∀ q, s.foot H1 q → H q = none ∧ ¬ Owns ρ1 H1 q) : Go ρ F H (ρ1.set i s) (σ1.set i (some v)) F1 H1 where
  hold := g.hold.set hs fun p e => (ha p e).2
  ex := g.ex
  old := g.old
  new := g.new
  there := g.there
  owns := fun q w => by
    rcases owns_set w with z | z
    · exact g.owns q z
    · exact .inr (ha q z).1

/-! ### forgetting -/
inductive Wk : List Slot → List Slot → Prop
  | nil : Wk [] []
  | keep {s : Slot} {r r' : List Slot} : Wk r r' → Wk (s :: r) (s :: r')
  | forget {s : Slot} {r r' : List Slot} : Wk r r' → Wk (s :: r) (.any :: r')
theorem Wk.refl : ∀ r : List Slot, Wk r r
  | [] => .nil
  | _ :: r => .keep (Wk.refl r)
theorem Wk.imm {α : Type} {R : Rp α} {x y : α} {r r' : List Slot} (e : x = y) (h : Wk r r') : Wk (.imm R x :: r) (.imm R y :: r') := e ▸ .keep h
theorem Wk.own {p : Addr} {α : Type} {R : Ro α} {x y : α} {r r' : List Slot} (e : x = y) (h : Wk r r') : Wk (.own p R x :: r) (.own p R y :: r') := e ▸ .keep h
theorem Wk.len : ∀ {r r' : List Slot}, Wk r r' → r'.length = r.length
  | _, _, .nil => rfl
  | _, _, .keep h => by simp [Wk.len h]
  | _, _, .forget h => by simp [Wk.len h]
theorem Wk.get : ∀ {r r' : List Slot}, Wk r r' → ∀ {i : Nat} {s : Slot}, r'[i]? = some s → s = .any ∨ r[i]? = some s
  | _, _, .nil, i, s, e => by simp at e
  | _, _, .keep h, 0, s, e => .inr e
  | _, _, .forget h, 0, s, e => .inl (Option.some.inj e).symm
  | _, _, .keep h, i + 1, s, e => Wk.get h (i := i) (by simpa using e) |>.imp id (by simp)
  | _, _, .forget h, i + 1, s, e => Wk.get h (i := i) (by simpa using e) |>.imp id (by simp)
theorem Wk.owns {r r' : List Slot} (w : Wk r r') (h : Owns r' H q) : Owns r H q := by
  obtain ⟨i, p, α, R, x, e, f⟩ := h
  rcases w.get e with z | z
  · cases z
  · exact ⟨i, p, α, R, x, z, f⟩
theorem Hold.wk (h : Hold F σ H ρ) (w : Wk ρ ρ') : Hold F σ H ρ' where
  ex := h.ex
  len := h.len.trans w.len.symm
  ok := fun i v s e1 e2 => by
    rcases w.get e2 with z | z
    · subst z; trivial
    · exact h.ok i v s e1 z
  sep := fun i j p p' q α β R x S y e1 e2 f1 f2 => by
    rcases w.get e1 with z | z
    · cases z
    · rcases w.get e2 with z2 | z2
      · cases z2
      · exact h.sep i j p p' q α β R x S y z z2 f1 f2
theorem Go.wk (g : Go ρ F H ρ1 σ1 F1 H1) (w : Wk ρ1 ρ2) : Go ρ F H ρ2 σ1 F1 H1 :=
  ⟨g.hold.wk w, g.ex, g.old, g.new, g.there, fun q z => g.owns q (w.owns z)⟩
/-- ahead of a forgetting -/
theorem Go.wkl (w : Wk ρ ρ') (g : Go ρ' F H ρ1 σ1 F1 H1) (h : Hold F σ H ρ) : Go ρ F H ρ1 σ1 F1 H1 :=
  ⟨g.hold, g.ex, fun q o e n => g.old q o e fun z => n (w.owns z), fun q o e f n => g.new q o e f fun z => n (w.owns z), g.there, fun q z => (g.owns q z).imp w.owns id⟩

/-! ### freezing -/
/-- the heap that knows all of a foot -/
noncomputable def fzH (F H : Hp) (A : Addr → Prop) : Hp := fun q => by
  classical
  exact if A q then H q else F q
theorem fzH_in {A : Addr → Prop} (h : A q) : fzH F H A q = H q := by unfold fzH; exact if_pos h
theorem fzH_out {A : Addr → Prop} (h : ¬ A q) : fzH F H A q = F q := by unfold fzH; exact if_neg h
theorem fzH_ex {A : Addr → Prop} (h : ∀ q, A q → F q = none) : Ex F (fzH F H A) := fun a o e => by
  rw [fzH_out (fun z => by rw [h a z] at e; cases e)]
  exact e
theorem fzH_exH {A : Addr → Prop} (h : Ex F H) : Ex (fzH F H A) H := fun a o e => by
  by_cases z : A a
  · rw [fzH_in z] at e; exact e
  · rw [fzH_out z] at e; exact h a o e
theorem Hold.fz (h : Hold F σ H ρ) {i : Nat} {α : Type} {R : Ro α} {x : α} (e : ρ[i]? = some (.own p R x)) : Hold (fzH F H (R.foot H p)) σ H (ρ.set i (.imm R.fz x)) := by
  obtain ⟨e1, r⟩ := h.own e
  have g : Ex F (fzH F H (R.foot H p)) := fzH_ex fun q f => (R.out r f).1
  refine ⟨fzH_exH h.ex, by rw [List.length_set]; exact h.len, fun j w s a b => ?_, fun j k q q' u α β S y T z a b f1 f2 => ?_⟩
  · rcases set_get b with ⟨rfl, rfl⟩ | ⟨hj, b⟩
    · rw [e1] at a; cases a
      exact ⟨.ref p, rfl, R.fzr r g fun q o f ho => by rw [fzH_in f]; exact ho⟩
    · have q := h.ok j w s a b
      cases s with
      | any => trivial
      | imm S y => obtain ⟨v, c, d⟩ := q; exact ⟨v, c, S.up g d⟩
      | own p' S y =>
        refine ⟨q.1, S.stay q.2 g fun q' f => ⟨rfl, ?_⟩⟩
        rw [fzH_out fun z => hj (h.sep j i p' p q' _ _ S y R x b e f z)]
        exact (S.out q.2 f).1
  · rcases set_get a with ⟨_, a⟩ | ⟨hj, a⟩
    · cases a
    · rcases set_get b with ⟨_, b⟩ | ⟨hk, b⟩
      · cases b
      · exact h.sep j k q q' u α β S y T z a b f1 f2
end

section
variable {ι : Type} {X : ι → Cx} {ρ ρ1 ρ2 ρ3 : List Slot} {r ra rb : Res} {e a b : Expr} {te ta tb : TE} {tt : TT} {tr : TA} {st : Stmt} {rest : List Stmt} {P : Post} {ts : TS}
def DS (X : ι → Cx) (ρ : List Slot) (st : Stmt) (P : Post) : Prop := EvS (tsOf X st) ρ P
def DSs (X : ι → Cx) (ρ : List Slot) (st : List Stmt) (P : Post) : Prop := EvS (tssOf X st) ρ P
theorem ds_of (h : ∀ i, PS (X i) st ts) (q : EvS ts ρ P) : DS X ρ st P := fun F σ H D hh k1 k2 k3 k4 i pins s I => (h i).run pins s σ H D I (q F σ H D hh k1 k2 k3 k4)
theorem dss_of {sts : List Stmt} (h : ∀ i, PSs (X i) sts ts) (q : EvS ts ρ P) : DSs X ρ sts P := fun F σ H D hh k1 k2 k3 k4 i pins s I => (h i).run pins s σ H D I (q F σ H D hh k1 k2 k3 k4)
theorem ev_next (q : P.nx ρ) : EvS tNext ρ P := fun F σ H D hh k1 _ _ _ => k1 ρ σ F H q (Go.refl hh)
theorem dss_nil (q : P.nx ρ) : DSs X ρ [] P := dss_of (fun i => pss_nil) (ev_next q)
theorem ev_seq {t u : TS} (h : EvS t ρ { P with nx := fun ρ1 => EvS u ρ1 P }) : EvS (tSeq t u) ρ P := fun F σ H D hh k1 k2 k3 k4 =>
  h F σ H { D with nx := u D } hh
    (fun ρ1 σ1 F1 H1 q g => q F1 σ1 H1 D g.hold (fun ρ2 σ2 F2 H2 p g2 => k1 ρ2 σ2 F2 H2 p (g.trans g2)) (fun ρ2 r σ2 F2 H2 v p g2 rv => k2 ρ2 r σ2 F2 H2 v p (g.trans g2) (rv.back g.there))
      (fun ρ2 σ2 F2 H2 p g2 => k3 ρ2 σ2 F2 H2 p (g.trans g2)) (fun ρ2 σ2 F2 H2 p g2 => k4 ρ2 σ2 F2 H2 p (g.trans g2)))
    k2 k3 k4
theorem dss_cons (h : DS X ρ st { P with nx := fun ρ1 => DSs X ρ1 rest P }) : DSs X ρ (st :: rest) P := dss_of (fun i => pss_cons (canS st i) (canSs rest i)) (ev_seq h)
theorem dss_wk (w : Wk ρ ρ1) (h : DSs X ρ1 rest P) : DSs X ρ rest P := fun F σ H D hh k1 k2 k3 k4 =>
  h F σ H D (hh.wk w) (fun ρ' σ' F' H' p g => k1 ρ' σ' F' H' p (Go.wkl w g hh)) (fun ρ' r σ' F' H' v p g rv => k2 ρ' r σ' F' H' v p (Go.wkl w g hh) rv)
    (fun ρ' σ' F' H' p g => k3 ρ' σ' F' H' p (Go.wkl w g hh)) (fun ρ' σ' F' H' p g => k4 ρ' σ' F' H' p (Go.wkl w g hh))
theorem ds_wk (w : Wk ρ ρ1) (h : DS X ρ1 st P) : DS X ρ st P := fun F σ H D hh k1 k2 k3 k4 =>
  h F σ H D (hh.wk w) (fun ρ' σ' F' H' p g => k1 ρ' σ' F' H' p (Go.wkl w g hh)) (fun ρ' r σ' F' H' v p g rv => k2 ρ' r σ' F' H' v p (Go.wkl w g hh) rv)
    (fun ρ' σ' F' H' p g => k3 ρ' σ' F' H' p (Go.wkl w g hh)) (fun ρ' σ' F' H' p g => k4 ρ' σ' F' H' p (Go.wkl w g hh))
/-- what follows may be told otherwise -/
theorem ds_post {P' : Post} (h : DS X ρ st P') (h1 : ∀ ρ', P'.nx ρ' → P.nx ρ') (h2 : ∀ ρ' r, P'.rt ρ' r → P.rt ρ' r) (h3 : ∀ ρ', P'.bk ρ' → P.bk ρ') (h4 : ∀ ρ', P'.ct ρ' → P.ct ρ') : DS X ρ st P := fun F σ H D hh k1 k2 k3 k4 =>
  h F σ H D hh (fun ρ' σ' F' H' p => k1 ρ' σ' F' H' (h1 _ p)) (fun ρ' r σ' F' H' v p => k2 ρ' r σ' F' H' v (h2 _ _ p)) (fun ρ' σ' F' H' p => k3 ρ' σ' F' H' (h3 _ p)) (fun ρ' σ' F' H' p => k4 ρ' σ' F' H' (h4 _ p))
theorem ds_cut {M : List Slot → Prop} (h : DS X ρ st { P with nx := M }) (k : ∀ ρ', M ρ' → P.nx ρ') : DS X ρ st P := ds_post h k (fun _ _ h => h) (fun _ h => h) (fun _ h => h)
theorem Go.fzl {F H F' H' : Hp} {σ σ' : L2.St} {ρ' : List Slot} (hh : Hold F σ H ρ) {i : Nat} {p : Addr} {α : Type} {R : Ro α} {x : α} (e : ρ[i]? = some (.own p R x)) (g : Go (ρ.set i (.imm R.fz x)) (fzH F H (R.foot H p)) H ρ' σ' F' H') : Go ρ F H ρ' σ' F' H' := by
  have hr := (hh.own e).2
  have own : ∀ q, R.foot H p q → Owns ρ H q := fun q f => ⟨i, p, α, R, x, e, f⟩
  have sub : ∀ q, Owns (ρ.set i (.imm R.fz x)) H q → Owns ρ H q := fun q w => (owns_set w).elim (fun z => z) fun z => z.elim
  exact ⟨g.hold, fun a u z => g.ex a u (fzH_ex (fun q f => (R.out hr f).1) a u z), fun a u z n => g.old a u z fun w => n (sub a w), fun a u z f n => g.new a u z (by
      rw [fzH_out fun y => n (own a y)]; exact f) fun w => n (sub a w), g.there, fun a w => (g.owns a w).imp (sub a) id⟩
/-- a name's own object is not changed from here on -/
theorem dss_fz {i : Nat} {p : Addr} {α : Type} {R : Ro α} {x : α} (e : ρ[i]? = some (.own p R x)) (h : DSs X (ρ.set i (.imm R.fz x)) rest P) : DSs X ρ rest P := fun F σ H D hh k1 k2 k3 k4 =>
  h _ σ H D (hh.fz e) (fun ρ' σ' F' H' q g => k1 ρ' σ' F' H' q (g.fzl hh e)) (fun ρ' r σ' F' H' v q g rv => k2 ρ' r σ' F' H' v q (g.fzl hh e) rv)
    (fun ρ' σ' F' H' q g => k3 ρ' σ' F' H' q (g.fzl hh e)) (fun ρ' σ' F' H' q g => k4 ρ' σ' F' H' q (g.fzl hh e))
theorem ds_fz {i : Nat} {p : Addr} {α : Type} {R : Ro α} {x : α} (e : ρ[i]? = some (.own p R x)) (h : DS X (ρ.set i (.imm R.fz x)) st P) : DS X ρ st P := fun F σ H D hh k1 k2 k3 k4 =>
  h _ σ H D (hh.fz e) (fun ρ' σ' F' H' q g => k1 ρ' σ' F' H' q (g.fzl hh e)) (fun ρ' r σ' F' H' v q g rv => k2 ρ' r σ' F' H' v q (g.fzl hh e) rv)
    (fun ρ' σ' F' H' q g => k3 ρ' σ' F' H' q (g.fzl hh e)) (fun ρ' σ' F' H' q g => k4 ρ' σ' F' H' q (g.fzl hh e))
theorem dv_fzAt {i : Nat} {p : Addr} {α : Type} {R : Ro α} {x : α} (e' : ρ[i]? = some (.own p R x)) (h : DV X (ρ.set i (.imm R.fz x)) e r ρ1) : DV X ρ e r ρ1 := fun F σ H hh Q k =>
  h _ σ H (hh.fz e') Q fun v F' H' g rv => k v F' H' (g.fzl hh e') rv

/-! ### small statements -/
theorem ev_if {c : TT} {t u : TS} {k : Bool} (hc : EvT c ρ k ρ1) (h1 : k = true → EvS t ρ1 P) (h2 : k = false → EvS u ρ1 P) : EvS (tIfS c t u) ρ P := fun F σ H D hh k1 k2 k3 k4 =>
  hc F σ H hh _ fun F1 H1 g => by
    have go : ∀ w : TS, EvS w ρ1 P → w D σ H1 := fun w q => q F1 σ H1 D g.hold (fun ρ2 σ2 F2 H2 p g2 => k1 ρ2 σ2 F2 H2 p (g.trans g2)) (fun ρ2 r σ2 F2 H2 v p g2 rv => k2 ρ2 r σ2 F2 H2 v p (g.trans g2) (rv.back g.there))
      (fun ρ2 σ2 F2 H2 p g2 => k3 ρ2 σ2 F2 H2 p (g.trans g2)) (fun ρ2 σ2 F2 H2 p g2 => k4 ρ2 σ2 F2 H2 p (g.trans g2))
    cases k with
    | true => exact go t (h1 rfl)
    | false => exact go u (h2 rfl)
theorem ds_if {c : Expr} {A B : List Stmt} {pos : Pos} {k : Bool} (hc : DT X ρ c k ρ1) (h1 : k = true → DSs X ρ1 A P) (h2 : k = false → DSs X ρ1 B P) : DS X ρ (.If c A B pos) P :=
  ds_of (fun i => ps_if (canT c i) (canSs A i) (canSs B i)) (ev_if hc h1 h2)
theorem ev_setI {i : Nat} {α : Type} {R : Rp α} {x : α} (h : EvV te ρ (.imm R x) ρ1) (q : P.nx (ρ1.set i (.imm R x))) : EvS (tAsg te (gName i)) ρ P := fun F σ H D hh k1 _ _ _ =>
  h F σ H hh _ fun v F1 H1 g rv => k1 _ _ F1 H1 q (g.set ⟨v, rfl, rv⟩ fun p e => e.elim)
theorem ev_setN {i : Nat} {α : Type} {R : Ro α} {x : α} (h : EvV te ρ (.new R x) ρ1) (q : ∀ p, P.nx (ρ1.set i (.own p R x))) : EvS (tAsg te (gName i)) ρ P := fun F σ H D hh k1 _ _ _ =>
  h F σ H hh _ fun v F1 H1 g ⟨p, ev, n, rv⟩ => by
    subst ev
    exact k1 _ _ F1 H1 (q p) (g.set ⟨rfl, rv⟩ n)
/-- a new object frozen at once -/
theorem ev_fz {α : Type} {R : Ro α} {x : α} (h : EvV te ρ (.new R x) ρ1) : EvV te ρ (.imm R.fz x) ρ1 :=
  fun F σ H hh Q k => h F σ H hh Q fun v F1 H1 g ⟨p, ev, n, rv⟩ => by
    subst ev
    have gx : Ex F1 (fzH F1 H1 (R.foot H1 p)) := fzH_ex fun q f => (R.out rv f).1
    have kk : ∀ q, Owns ρ1 H1 q → H1 q = H1 q ∧ fzH F1 H1 (R.foot H1 p) q = none := fun q w => ⟨rfl, by
      rw [fzH_out fun f => (n q f).2 w]
      exact (g.hold.owned w).1⟩
    refine k _ (fzH F1 H1 (R.foot H1 p)) H1 ⟨g.hold.step gx (fzH_exH g.hold.ex) kk, fun a u z => gx a u (g.ex a u z), g.old, fun a u z f m => ?_, g.there, g.owns⟩ (R.fzr rv gx fun q o f ho => by rw [fzH_in f]; exact ho)
    rw [fzH_out fun f => by rw [(n a f).1] at z; cases z]
    exact g.new a u z f m
theorem dv_fz {α : Type} {R : Ro α} {x : α} (h : DV X ρ e (.new R x) ρ1) : DV X ρ e (.imm R.fz x) ρ1 := ev_fz h

theorem ds_setI {i : Nat} {x : Str} {pos pos' : Pos} {α : Type} {R : Rp α} {y : α} (h : DV X ρ e (.imm R y) ρ1) (q : P.nx (ρ1.set i (.imm R y))) (hN : ∀ j, (X j).N.Nodup) (hi : ∀ j, (X j).N[i]? = some x) (hx : ∀ j, Loc (X j).env.scope x)
    (hs : ∀ j, swapsWith e (some (.Name x pos')) pos.line (X j).env = pure false) (hf : ∀ j, (X j).fn x = true ∨ (X j).env.scope.names.lookup x = some .local) : DS X ρ (.Assign [.Name x pos'] e pos) P :=
  ds_of (fun j => ps_set (hN j) (hi j) (hx j) (can e j) (hs j) (hf j)) (ev_setI h q)
theorem ds_setN {i : Nat} {x : Str} {pos pos' : Pos} {α : Type} {R : Ro α} {y : α} (h : DV X ρ e (.new R y) ρ1) (q : ∀ p, P.nx (ρ1.set i (.own p R y))) (hN : ∀ j, (X j).N.Nodup) (hi : ∀ j, (X j).N[i]? = some x) (hx : ∀ j, Loc (X j).env.scope x)
    (hs : ∀ j, swapsWith e (some (.Name x pos')) pos.line (X j).env = pure false) (hf : ∀ j, (X j).fn x = true ∨ (X j).env.scope.names.lookup x = some .local) : DS X ρ (.Assign [.Name x pos'] e pos) P :=
  ds_of (fun j => ps_set (hN j) (hi j) (hx j) (can e j) (hs j) (hf j)) (ev_setN h q)
theorem ev_drop (h : EvV te ρ r ρ1) (q : P.nx ρ1) : EvS (tDrop te) ρ P := fun F σ H D hh k1 _ _ _ => h F σ H hh _ fun v F1 H1 g rv => k1 _ _ F1 H1 q g
theorem ds_expr {pos : Pos} (h : DV X ρ e r ρ1) (q : P.nx ρ1) (hs : ∀ j, swapsWith e none pos.line (X j).env = pure false := by intro j; rfl) : DS X ρ (.Expr e pos) P :=
  ds_of (fun j => ps_expr (can e j) (hs j)) (ev_drop h q)
theorem ev_ret (h : EvV te ρ r ρ1) (q : P.rt ρ1 r) : EvS (tRet te) ρ P := fun F σ H D hh _ k2 _ _ => h F σ H hh _ fun v F1 H1 g rv => k2 ρ1 r σ F1 H1 v q g rv
theorem ds_ret {pos : Pos} (h : DV X ρ e r ρ1) (q : P.rt ρ1 r) : DS X ρ (.Return (some e) pos) P := ds_of (fun j => ps_ret (can e j)) (ev_ret h q)
theorem ds_break {pos : Pos} (q : P.bk ρ) : DS X ρ (.Break pos) P := ds_of (fun j => ps_break) fun F σ H D hh _ _ k3 _ => k3 ρ σ F H q (Go.refl hh)
theorem ds_cont {pos : Pos} (q : P.ct ρ) : DS X ρ (.Continue pos) P := ds_of (fun j => ps_continue) fun F σ H D hh _ _ _ k4 => k4 ρ σ F H q (Go.refl hh)
theorem ds_pass {pos : Pos} (q : P.nx ρ) : DS X ρ (.Pass pos) P := ds_of (fun j => ps_pass) (ev_next q)
end
end PD

set_option Elab.async false
set_option linter.all false
set_option maxRecDepth 100000
set_option maxHeartbeats 4000000
namespace PD
open PySem L2

/-! ### what values show -/
def RNon : Rp Unit := ⟨fun _ v _ => v = .non, fun _ h => h⟩
def RInt : Rp Int := ⟨fun _ v i => v = .int i, fun _ h => h⟩
def RBool : Rp Bool := ⟨fun _ v b => v = .bl b, fun _ h => h⟩
def RStr : Rp Str := ⟨fun _ v z => v = .str z, fun _ h => h⟩
inductive All {α : Type} (P : V → α → Prop) : List V → List α → Prop
  | nil : All P [] []
  | cons {v : V} {x : α} {vs : List V} {xs : List α} : P v x → All P vs xs → All P (v :: vs) (x :: xs)
section
variable {α β : Type} {P P' : V → α → Prop}
theorem All.imp (f : ∀ v x, P v x → P' v x) : ∀ {vs : List V} {xs : List α}, All P vs xs → All P' vs xs
  | _, _, .nil => .nil
  | _, _, .cons a b => .cons (f _ _ a) (All.imp f b)
theorem All.len : ∀ {vs : List V} {xs : List α}, All P vs xs → vs.length = xs.length
  | _, _, .nil => rfl
  | _, _, .cons a b => by simp [All.len b]
theorem All.get : ∀ {vs : List V} {xs : List α} {i : Nat} {x : α}, All P vs xs → xs[i]? = some x → ∃ v, vs[i]? = some v ∧ P v x
  | _, _, i, x, .nil, e => by simp at e
  | _, _, 0, x, .cons a b, e => by simp at e; subst e; exact ⟨_, rfl, a⟩
  | _, _, i + 1, x, .cons a b, e => by
    obtain ⟨v, h1, h2⟩ := All.get (i := i) b (by simpa using e)
    exact ⟨v, by simpa using h1, h2⟩
theorem All.getV : ∀ {vs : List V} {xs : List α} {i : Nat} {v : V}, All P vs xs → vs[i]? = some v → ∃ x, xs[i]? = some x ∧ P v x
  | _, _, i, x, .nil, e => by simp at e
  | _, _, 0, x, .cons a b, e => by simp at e; subst e; exact ⟨_, rfl, a⟩
  | _, _, i + 1, x, .cons a b, e => by
    obtain ⟨v, h1, h2⟩ := All.getV (i := i) b (by simpa using e)
    exact ⟨v, by simpa using h1, h2⟩
theorem All.append : ∀ {vs ws : List V} {xs ys : List α}, All P vs xs → All P ws ys → All P (vs ++ ws) (xs ++ ys)
  | _, _, _, _, .nil, h => h
  | _, _, _, _, .cons a b, h => .cons a (All.append b h)
theorem All.take : ∀ {vs : List V} {xs : List α} (n : Nat), All P vs xs → All P (vs.take n) (xs.take n)
  | _, _, 0, _ => by simp; exact .nil
  | _, _, n + 1, .nil => by simp; exact .nil
  | _, _, n + 1, .cons a b => .cons a (All.take n b)
theorem All.drop : ∀ {vs : List V} {xs : List α} (n : Nat), All P vs xs → All P (vs.drop n) (xs.drop n)
  | _, _, 0, h => h
  | _, _, n + 1, .nil => by simp; exact .nil
  | _, _, n + 1, .cons a b => All.drop n b
theorem All.set {v : V} {x : α} (r : P v x) : ∀ {vs : List V} {xs : List α} (i : Nat), All P vs xs → All P (vs.set i v) (xs.set i x)
  | _, _, _, .nil => .nil
  | _, _, 0, .cons _ b => .cons r b
  | _, _, i + 1, .cons a b => .cons a (All.set r i b)
theorem All.reverse {vs : List V} {xs : List α} (h : All P vs xs) : All P vs.reverse xs.reverse := by
  induction h with
  | nil => exact .nil
  | cons a b ih =>
    rw [List.reverse_cons, List.reverse_cons]
    exact ih.append (.cons a .nil)
theorem All.map {f : α → V} (h : ∀ x, P (f x) x) : ∀ xs : List α, All P (xs.map f) xs
  | [] => .nil
  | x :: xs => .cons (h x) (All.map h xs)
theorem All.eq_map {f : α → V} : ∀ {vs : List V} {xs : List α}, All (fun v x => v = f x) vs xs → vs = xs.map f
  | _, _, .nil => rfl
  | _, _, .cons a b => by rw [a, All.eq_map b]; rfl
theorem All.isEmpty : ∀ {vs : List V} {xs : List α}, All P vs xs → vs.isEmpty = xs.isEmpty
  | _, _, .nil => rfl
  | _, _, .cons _ _ => rfl
theorem All.eraseIdx : ∀ {vs : List V} {xs : List α} (i : Nat), All P vs xs → All P (vs.eraseIdx i) (xs.eraseIdx i)
  | _, _, _, .nil => .nil
  | _, _, 0, .cons a b => b
  | _, _, i + 1, .cons a b => .cons a (All.eraseIdx i b)
end
/-- a tuple of things alike -/
def RT {α : Type} (R : Rp α) : Rp (List α) :=
  ⟨fun F v xs => ∃ a vs, v = .ref a ∧ F a = some (.tup vs) ∧ All (R.rel F) vs xs, fun e ⟨a, vs, h1, h2, h3⟩ => ⟨a, vs, h1, e a _ h2, h3.imp fun _ _ => R.up e⟩⟩
/-- a list that isn't changed any more -/
def RL {α : Type} (R : Rp α) : Rp (List α) :=
  ⟨fun F v xs => ∃ a vs, v = .ref a ∧ F a = some (.lst vs) ∧ All (R.rel F) vs xs, fun e ⟨a, vs, h1, h2, h3⟩ => ⟨a, vs, h1, e a _ h2, h3.imp fun _ _ => R.up e⟩⟩
/-- a list of one's own -/
def OL {α : Type} (R : Rp α) : Ro (List α) where
  foot := fun _ p q => q = p
  rel := fun F H p xs => F p = none ∧ ∃ vs, H p = some (.lst vs) ∧ All (R.rel F) vs xs
  self := rfl
  out := fun ⟨h1, vs, h2, h3⟩ e => by subst e; exact ⟨h1, _, h2⟩
  stay := fun ⟨h1, vs, h2, h3⟩ e k => ⟨(k _ rfl).2, vs, (k _ rfl).1.trans h2, h3.imp fun _ _ => R.up e⟩
  stayf := fun _ _ e => e
  fz := RL R
  fzr := fun ⟨h1, vs, h2, h3⟩ e k => ⟨_, vs, rfl, k _ _ rfl h2, h3.imp fun _ _ => R.up e⟩
def R2T {α β : Type} (R : Rp α) (S : Rp β) : Rp (α × β) :=
  ⟨fun F v x => ∃ a v1 v2, v = .ref a ∧ F a = some (.tup [v1, v2]) ∧ R.rel F v1 x.1 ∧ S.rel F v2 x.2, fun e ⟨a, v1, v2, h1, h2, h3, h4⟩ => ⟨a, v1, v2, h1, e a _ h2, R.up e h3, S.up e h4⟩⟩
def R3T {α β γ : Type} (R : Rp α) (S : Rp β) (T : Rp γ) : Rp (α × β × γ) :=
  ⟨fun F v x => ∃ a v1 v2 v3, v = .ref a ∧ F a = some (.tup [v1, v2, v3]) ∧ R.rel F v1 x.1 ∧ S.rel F v2 x.2.1 ∧ T.rel F v3 x.2.2,
    fun e ⟨a, v1, v2, v3, h1, h2, h3, h4, h5⟩ => ⟨a, v1, v2, v3, h1, e a _ h2, R.up e h3, S.up e h4, T.up e h5⟩⟩
def R4T {α β γ δ : Type} (R : Rp α) (S : Rp β) (T : Rp γ) (U : Rp δ) : Rp (α × β × γ × δ) :=
  ⟨fun F v x => ∃ a v1 v2 v3 v4, v = .ref a ∧ F a = some (.tup [v1, v2, v3, v4]) ∧ R.rel F v1 x.1 ∧ S.rel F v2 x.2.1 ∧ T.rel F v3 x.2.2.1 ∧ U.rel F v4 x.2.2.2,
    fun e ⟨a, v1, v2, v3, v4, h1, h2, h3, h4, h5, h6⟩ => ⟨a, v1, v2, v3, v4, h1, e a _ h2, R.up e h3, S.up e h4, T.up e h5, U.up e h6⟩⟩
def ROpt {α : Type} (R : Rp α) : Rp (Option α) :=
  ⟨fun F v x => match x with | none => v = .non | some y => R.rel F v y, fun {F F' v x} e h => by
    cases x with
    | none => exact h
    | some y => exact R.up e h⟩
abbrev RInts := RT RInt
abbrev RWeb := RT (RT RInt)

/-- the family's common part -/
class Fam {ι : Type} (X : ι → Cx) (X0 : outParam Cx) : Prop where
  prog : ∀ i, (X i).prog = X0.prog
  w : ∀ i, (X i).w = X0.w
  K : ∀ i, (X i).K = X0.K
  mg : ∀ i, (X i).mg = X0.mg
  base : ∀ i, (X i).base = X0.base
  A : ∀ i, (X i).A = X0.A
  N : ∀ i, (X i).N = X0.N
  calm : ∀ i, (X i).calm = true
  nd : X0.N.Nodup
  u : X0.A.units + 66 < cLine

section
variable {ι : Type} {X : ι → Cx} {X0 : Cx} {ρ ρ1 ρ2 ρ3 : List Slot} {r ra rb rc : Res} {e a b c : Expr} {te ta tb : TE} {tt : TT} {tr : TA} {st : Stmt} {rest : List Stmt} {P : Post} {ts : TS} {pos : Pos}

/-! ### names, constants -/
theorem ev_var {i : Nat} {α : Type} {R : Rp α} {x : α} (h : ρ[i]? = some (.imm R x)) : EvV (tVar i) ρ (.imm R x) ρ :=
  fun F σ H hh Q k => by
    obtain ⟨v, e, r⟩ := hh.imm h
    exact ⟨v, e, k v F H (Go.refl hh) r⟩
theorem ev_varO {i : Nat} {p : Addr} {α : Type} {R : Ro α} {x : α} (h : ρ[i]? = some (.own p R x)) : EvV (tVar i) ρ (.view p R x) ρ :=
  fun F σ H hh Q k => by
    obtain ⟨e, _⟩ := hh.own h
    exact ⟨_, e, k _ F H (Go.refl hh) rfl⟩
theorem ev_c {α : Type} {R : Rp α} {x : α} {v : V} (h : ∀ F, R.rel F v x) : EvV (tC v) ρ (.imm R x) ρ := fun F σ H hh Q k => k v F H (Go.refl hh) (h F)
theorem dv_var (i : Nat) {x : Str} {α : Type} {R : Rp α} {y : α} (h : ρ[i]? = some (.imm R y)) (hN : ∀ j, (X j).N[i]? = some x) (hv : ∀ j, Vis (X j).env.scope x) (hd : (x == ("__debug__" : Str)) = false) (hcd : (x == ("__classdict__" : Str)) = false) : DV X ρ (.Name x pos) (.imm R y) ρ :=
  dv_of (fun j => pe_var (hN j) (hv j) hd hcd) (ev_var h)
theorem dv_varO (i : Nat) {x : Str} {p : Addr} {α : Type} {R : Ro α} {y : α} (h : ρ[i]? = some (.own p R y)) (hN : ∀ j, (X j).N[i]? = some x) (hv : ∀ j, Vis (X j).env.scope x) (hd : (x == ("__debug__" : Str)) = false) (hcd : (x == ("__classdict__" : Str)) = false) : DV X ρ (.Name x pos) (.view p R y) ρ :=
  dv_of (fun j => pe_var (hN j) (hv j) hd hcd) (ev_varO h)
theorem dv_int {i : Int} {j} : DV X ρ (.Constant (.int i) j pos) (.imm RInt i) ρ := dv_of (fun _ => pe_int) (ev_c fun _ => rfl)
theorem dv_bool {i : Bool} {j} : DV X ρ (.Constant (.bool i) j pos) (.imm RBool i) ρ := dv_of (fun _ => pe_bl) (ev_c fun _ => rfl)
theorem dv_str {i : Str} {j} : DV X ρ (.Constant (.str i) j pos) (.imm RStr i) ρ := dv_of (fun _ => pe_str) (ev_c fun _ => rfl)
theorem dv_non {j} : DV X ρ (.Constant .none j pos) (.imm RNon ()) ρ := dv_of (fun _ => pe_non) (ev_c fun _ => rfl)
theorem dv_eq {α : Type} {R : Rp α} {x y : α} (h : DV X ρ e (.imm R x) ρ1) (e' : x = y) : DV X ρ e (.imm R y) ρ1 := e' ▸ h
theorem dt_eq {x y : Bool} (h : DT X ρ e x ρ1) (e' : x = y) : DT X ρ e y ρ1 := e' ▸ h
/-- a value that may be None -/
theorem ev_some {α : Type} {R : Rp α} {x : α} (h : EvV te ρ (.imm R x) ρ1) : EvV te ρ (.imm (ROpt R) (some x)) ρ1 := fun F σ H hh Q k => h F σ H hh Q fun v F1 H1 g rv => k v F1 H1 g rv
theorem ev_none {α : Type} {R : Rp α} (h : EvV te ρ (.imm RNon ()) ρ1) : EvV te ρ (.imm (ROpt R) none) ρ1 := fun F σ H hh Q k => h F σ H hh Q fun v F1 H1 g rv => k v F1 H1 g rv
theorem dv_some {α : Type} {R : Rp α} {x : α} (h : DV X ρ e (.imm R x) ρ1) : DV X ρ e (.imm (ROpt R) (some x)) ρ1 := ev_some h
theorem dv_none {α : Type} {R : Rp α} (h : DV X ρ e (.imm RNon ()) ρ1) : DV X ρ e (.imm (ROpt R) none) ρ1 := ev_none h
theorem dv_unopt {α : Type} {R : Rp α} {x : α} (h : DV X ρ e (.imm (ROpt R) (some x)) ρ1) : DV X ρ e (.imm R x) ρ1 := fun F σ H hh Q k => h F σ H hh Q fun v F1 H1 g rv => k v F1 H1 g rv

/-! ### operators -/
theorem dv_bin {op : Operator} {rd : R2} (ho : ∀ i, OpR (X i) (binaryOp op) rd) (ha : DV X ρ a ra ρ1) (hb : DV X ρ1 b rb ρ2) (h : OpV rd ρ2 ra rb r) : DV X ρ (.BinOp a op b pos) r ρ2 :=
  dv_of (fun i => pe_op (ho i) (can a i) (can b i)) (ev_op ha hb h)
theorem dv_un {op : UnaryOp} {rd : V → Hp → VK → Prop} (ho : ∀ i, UnR (X i) (unaryOp op) rd) (ha : DV X ρ a ra ρ1) (h : UnV rd ρ1 ra r) : DV X ρ (.UnaryOp op a pos) r ρ1 :=
  dv_of (fun i => pe_un (ho i) (can a i)) (ev_un ha h)
theorem op_I {C : Int → Int → Prop} {g : Int → Int → Int} {i j : Int} (hc : C i j) : OpV (rI C fun i j => .int (g i j)) ρ (.imm RInt i) (.imm RInt j) (.imm RInt (g i j)) :=
  fun F σ H H0 x y hh h1 h2 Q k => ⟨i, j, h1, h2, hc, k _ F H (Go.refl hh) rfl⟩
theorem op_I0 {g : Int → Int → Int} {i j : Int} : OpV (rI0 fun i j => .int (g i j)) ρ (.imm RInt i) (.imm RInt j) (.imm RInt (g i j)) :=
  fun F σ H H0 x y hh h1 h2 Q k => ⟨i, j, h1, h2, k _ F H (Go.refl hh) rfl⟩
theorem op_B0 {g : Int → Int → Bool} {i j : Int} : OpV (rI0 fun i j => .bl (g i j)) ρ (.imm RInt i) (.imm RInt j) (.imm RBool (g i j)) :=
  fun F σ H H0 x y hh h1 h2 Q k => ⟨i, j, h1, h2, k _ F H (Go.refl hh) rfl⟩
theorem dv_add {i j : Int} (ha : DV X ρ a (.imm RInt i) ρ1) (hb : DV X ρ1 b (.imm RInt j) ρ2) : DV X ρ (.BinOp a .Add b pos) (.imm RInt (i + j)) ρ2 := dv_bin (fun _ => op_add) ha hb op_I0
theorem dv_sub {i j : Int} (ha : DV X ρ a (.imm RInt i) ρ1) (hb : DV X ρ1 b (.imm RInt j) ρ2) : DV X ρ (.BinOp a .Sub b pos) (.imm RInt (i - j)) ρ2 := dv_bin (fun _ => op_sub) ha hb op_I0
theorem dv_mul {i j : Int} (ha : DV X ρ a (.imm RInt i) ρ1) (hb : DV X ρ1 b (.imm RInt j) ρ2) (h : CMulX i j) : DV X ρ (.BinOp a .Mult b pos) (.imm RInt (i * j)) ρ2 := dv_bin (fun _ => op_mulX) ha hb (op_I h)
theorem dv_mod {i j : Int} (ha : DV X ρ a (.imm RInt i) ρ1) (hb : DV X ρ1 b (.imm RInt j) ρ2) (h : 0 < j) : DV X ρ (.BinOp a .Mod b pos) (.imm RInt (i % j)) ρ2 := dv_bin (fun _ => op_mod) ha hb (op_I h)
theorem dv_fdiv {i j : Int} (ha : DV X ρ a (.imm RInt i) ρ1) (hb : DV X ρ1 b (.imm RInt j) ρ2) (h : CDivW i j) : DV X ρ (.BinOp a .FloorDiv b pos) (.imm RInt (i / j)) ρ2 := dv_bin (fun _ => op_fdivW) ha hb (op_I h)
theorem dv_pow {i j : Int} (ha : DV X ρ a (.imm RInt i) ρ1) (hb : DV X ρ1 b (.imm RInt j) ρ2) (h : CPow i j) : DV X ρ (.BinOp a .Pow b pos) (.imm RInt (i ^ j.toNat)) ρ2 := dv_bin (fun _ => op_pow) ha hb (op_I h)
theorem dv_neg {i : Int} (ha : DV X ρ a (.imm RInt i) ρ1) : DV X ρ (.UnaryOp .USub a pos) (.imm RInt (-i)) ρ1 :=
  dv_un (fun _ => un_neg) ha fun F σ H H0 x hh h1 Q k => ⟨i, h1, k _ F H (Go.refl hh) rfl⟩

/-! ### comparisons of ints -/
theorem dv_cmp {op : CmpOp} {rd : R2} (ho : ∀ i, OpR (X i) (compareOp op) rd) (ha : DV X ρ a ra ρ1) (hb : DV X ρ1 b rb ρ2) (h : OpV rd ρ2 ra rb r) (hm : behindInMarks op b = false) : DV X ρ (.Compare a [op] [b] pos) r ρ2 :=
  dv_of (fun i => pe_cmpR (ho i) (can a i) (can b i) hm) (ev_op ha hb h)
theorem dt_cmp {op : CmpOp} {rd : R2} {k : Bool} (ho : ∀ i, OpR (X i) (compareOp op) rd) (ha : DV X ρ a ra ρ1) (hb : DV X ρ1 b rb ρ2) (h : OpV rd ρ2 ra rb (.imm RBool k)) (hm : behindInMarks op b = false) : DT X ρ (.Compare a [op] [b] pos) k ρ2 :=
  dt_of (fun i => pt_cmpR (ho i) (can a i) (can b i) hm) (ev_Test (fun _ _ h => h) (ev_op ha hb h))
theorem op_eqI {i j : Int} : OpV rEq ρ (.imm RInt i) (.imm RInt j) (.imm RBool (decide (i = j))) := fun F σ H H0 x y hh h1 h2 Q k => by
  cases (show x = .int i from h1)
  cases (show y = .int j from h2)
  refine ⟨rfl, k _ F H (Go.refl hh) ?_⟩
  show V.bl _ = V.bl _
  rw [dec_int]; rfl
theorem op_neI {i j : Int} : OpV rNe ρ (.imm RInt i) (.imm RInt j) (.imm RBool (!decide (i = j))) := fun F σ H H0 x y hh h1 h2 Q k => by
  cases (show x = .int i from h1)
  cases (show y = .int j from h2)
  refine ⟨rfl, k _ F H (Go.refl hh) ?_⟩
  show V.bl _ = V.bl _
  rw [dec_int]; rfl
theorem op_eqS {i j : Str} : OpV rEq ρ (.imm RStr i) (.imm RStr j) (.imm RBool (decide (i = j))) := fun F σ H H0 x y hh h1 h2 Q k => by
  cases (show x = .str i from h1)
  cases (show y = .str j from h2)
  refine ⟨rfl, k _ F H (Go.refl hh) ?_⟩
  show V.bl _ = V.bl _
  rw [dec_str]; rw [Bool.beq_eq_decide_eq]
theorem op_neS {i j : Str} : OpV rNe ρ (.imm RStr i) (.imm RStr j) (.imm RBool (!decide (i = j))) := fun F σ H H0 x y hh h1 h2 Q k => by
  cases (show x = .str i from h1)
  cases (show y = .str j from h2)
  refine ⟨rfl, k _ F H (Go.refl hh) ?_⟩
  show V.bl _ = V.bl _
  rw [dec_str]; rw [Bool.beq_eq_decide_eq]
section
variable {i j : Int} (ha : DV X ρ a (.imm RInt i) ρ1) (hb : DV X ρ1 b (.imm RInt j) ρ2)
include ha hb
theorem dv_lt : DV X ρ (.Compare a [.Lt] [b] pos) (.imm RBool (decide (i < j))) ρ2 := dv_cmp (fun _ => op_lt) ha hb op_B0 (nomark _)
theorem dv_le : DV X ρ (.Compare a [.LtE] [b] pos) (.imm RBool (decide (i ≤ j))) ρ2 := dv_cmp (fun _ => op_le) ha hb op_B0 (nomark _)
theorem dv_gt : DV X ρ (.Compare a [.Gt] [b] pos) (.imm RBool (decide (j < i))) ρ2 := dv_cmp (fun _ => op_gt) ha hb op_B0 (nomark _)
theorem dv_ge : DV X ρ (.Compare a [.GtE] [b] pos) (.imm RBool (decide (j ≤ i))) ρ2 := dv_cmp (fun _ => op_ge) ha hb op_B0 (nomark _)
theorem dv_eqI : DV X ρ (.Compare a [.Eq] [b] pos) (.imm RBool (decide (i = j))) ρ2 := dv_cmp (fun _ => op_eq) ha hb op_eqI (nomark _)
theorem dv_neI : DV X ρ (.Compare a [.NotEq] [b] pos) (.imm RBool (!decide (i = j))) ρ2 := dv_cmp (fun _ => op_ne) ha hb op_neI (nomark _)
theorem dt_lt : DT X ρ (.Compare a [.Lt] [b] pos) (decide (i < j)) ρ2 := dt_cmp (fun _ => op_lt) ha hb op_B0 (nomark _)
theorem dt_le : DT X ρ (.Compare a [.LtE] [b] pos) (decide (i ≤ j)) ρ2 := dt_cmp (fun _ => op_le) ha hb op_B0 (nomark _)
theorem dt_gt : DT X ρ (.Compare a [.Gt] [b] pos) (decide (j < i)) ρ2 := dt_cmp (fun _ => op_gt) ha hb op_B0 (nomark _)
theorem dt_ge : DT X ρ (.Compare a [.GtE] [b] pos) (decide (j ≤ i)) ρ2 := dt_cmp (fun _ => op_ge) ha hb op_B0 (nomark _)
theorem dt_eqI : DT X ρ (.Compare a [.Eq] [b] pos) (decide (i = j)) ρ2 := dt_cmp (fun _ => op_eq) ha hb op_eqI (nomark _)
theorem dt_neI : DT X ρ (.Compare a [.NotEq] [b] pos) (!decide (i = j)) ρ2 := dt_cmp (fun _ => op_ne) ha hb op_neI (nomark _)
end

/-! ### truth -/
theorem dt_val {k : Bool} (h : DV X ρ e (.imm RBool k) ρ1) (he : ∀ i whole, isTrue e (X i).env whole = (do let v ← whole; standAt e.pos; holding [v] (truthy v)) := by intro _ _; rfl) : DT X ρ e k ρ1 :=
  dt_of (fun i => pt_val (can e i) (he i)) (ev_B (fun _ _ h => h) h)
theorem ev_Not {k : Bool} (h : EvT tt ρ k ρ1) : EvT (tNot tt) ρ (!k) ρ1 := fun F σ H hh Q q => h F σ H hh _ fun F1 H1 g => q F1 H1 g
theorem dt_not {k : Bool} (h : DT X ρ a k ρ1) : DT X ρ (.UnaryOp .Not a pos) (!k) ρ1 := dt_of (fun i => pt_not (canT a i)) (ev_Not h)
theorem dv_not {k : Bool} (h : DV X ρ a (.imm RBool k) ρ1) : DV X ρ (.UnaryOp .Not a pos) (.imm RBool (!k)) ρ1 :=
  dv_of (fun i => pe_not (can a i)) fun F σ H hh Q q => h F σ H hh _ fun v F1 H1 g r => ⟨k, r, q _ F1 H1 g rfl⟩
theorem ev_And {k l : Bool} {t u : TT} (h : EvT t ρ k ρ1) (h2 : k = true → EvT u ρ1 l ρ1) : EvT (tAnd t u) ρ (k && l) ρ1 := fun F σ H hh Q q => h F σ H hh _ fun F1 H1 g => by
  cases k with
  | true => exact (h2 rfl) F1 σ H1 g.hold _ fun F2 H2 g2 => q F2 H2 (g.trans g2)
  | false => exact q F1 H1 g
theorem ev_Or {k l : Bool} {t u : TT} (h : EvT t ρ k ρ1) (h2 : k = false → EvT u ρ1 l ρ1) : EvT (tOr t u) ρ (k || l) ρ1 := fun F σ H hh Q q => h F σ H hh _ fun F1 H1 g => by
  cases k with
  | false => exact (h2 rfl) F1 σ H1 g.hold _ fun F2 H2 g2 => q F2 H2 (g.trans g2)
  | true => exact q F1 H1 g
theorem dw_and1 {k : Bool} (h : DT X ρ a k ρ1) : DW X ρ (.BoolOp .And [a] pos) k ρ1 := dw_of (fun i => pw_and1 (canT a i)) h
theorem dw_or1 {k : Bool} (h : DT X ρ a k ρ1) : DW X ρ (.BoolOp .Or [a] pos) k ρ1 := dw_of (fun i => pw_or1 (canT a i)) h
theorem dw_and {k l : Bool} {es : List Expr} (h : DT X ρ a k ρ1) (h2 : k = true → DW X ρ1 (.BoolOp .And (b :: es) pos) l ρ1) : DW X ρ (.BoolOp .And (a :: b :: es) pos) (k && l) ρ1 := dw_of (fun i => pw_and (canT a i) (canW _ i)) (ev_And h h2)
theorem dw_or {k l : Bool} {es : List Expr} (h : DT X ρ a k ρ1) (h2 : k = false → DW X ρ1 (.BoolOp .Or (b :: es) pos) l ρ1) : DW X ρ (.BoolOp .Or (a :: b :: es) pos) (k || l) ρ1 := dw_of (fun i => pw_or (canT a i) (canW _ i)) (ev_Or h h2)
theorem dv_one {op} (h : DV X ρ a r ρ1) : DV X ρ (.BoolOp op [a] pos) r ρ1 := dv_of (fun i => pe_one (can a i)) h
theorem dv_and {k l : Bool} {es : List Expr} (h : DV X ρ a (.imm RBool k) ρ1) (h2 : k = true → DV X ρ1 (.BoolOp .And (b :: es) pos) (.imm RBool l) ρ1) : DV X ρ (.BoolOp .And (a :: b :: es) pos) (.imm RBool (k && l)) ρ1 :=
  dv_of (fun i => pe_and (can a i) (can _ i)) fun F σ H hh Q q => h F σ H hh _ fun v F1 H1 g r => ⟨k, r, by
    cases k with
    | true => exact (h2 rfl) F1 σ H1 g.hold _ fun v F2 H2 g2 rv => q v F2 H2 (g.trans g2) rv
    | false => exact q _ F1 H1 g rfl⟩
theorem dv_or {k l : Bool} {es : List Expr} (h : DV X ρ a (.imm RBool k) ρ1) (h2 : k = false → DV X ρ1 (.BoolOp .Or (b :: es) pos) (.imm RBool l) ρ1) : DV X ρ (.BoolOp .Or (a :: b :: es) pos) (.imm RBool (k || l)) ρ1 :=
  dv_of (fun i => pe_or (can a i) (can _ i)) fun F σ H hh Q q => h F σ H hh _ fun v F1 H1 g r => ⟨k, r, by
    cases k with
    | false => exact (h2 rfl) F1 σ H1 g.hold _ fun v F2 H2 g2 rv => q v F2 H2 (g.trans g2) rv
    | true => exact q _ F1 H1 g rfl⟩
/-- a if t else b -/
theorem dv_if {k : Bool} {α : Type} {R : Rp α} {x y : α} (hc : DT X ρ c k ρ1) (h1 : k = true → DV X ρ1 a (.imm R x) ρ1) (h2 : k = false → DV X ρ1 b (.imm R y) ρ1) : DV X ρ (.IfExp c a b pos) (.imm R (if k = true then x else y)) ρ1 :=
  dv_of (fun i => pe_ifExp (canT c i) (can a i) (can b i)) fun F σ H hh Q q => hc F σ H hh _ fun F1 H1 g => by
    cases k with
    | true => exact (h1 rfl) F1 σ H1 g.hold _ fun v F2 H2 g2 rv => q v F2 H2 (g.trans g2) rv
    | false => exact (h2 rfl) F1 σ H1 g.hold _ fun v F2 H2 g2 rv => q v F2 H2 (g.trans g2) rv

/-! ### displays -/
theorem allOf {α : Type} {R : Rp α} {F H0 H : Hp} : ∀ {vs : List V} {xs : List α}, AllR (RV ρ H0 F H) vs (xs.map (Res.imm R)) → All (R.rel F) vs xs
  | vs, [], h => by cases h; exact .nil
  | vs, x :: xs, h => by
    cases h with
    | cons a b => exact .cons a (allOf b)
theorem AllR.len {P : V → Res → Prop} : ∀ {vs : List V} {rs : List Res}, AllR P vs rs → vs.length = rs.length
  | _, _, .nil => rfl
  | _, _, .cons _ b => by simp [AllR.len b]
theorem sz {n : Nat} (h : n ≤ 10000000) : n ≤ sizeLine := Nat.le_trans h (by decide)
theorem szl {n : Nat} (h : n ≤ 10000000) : n < sizeLine := Nat.lt_of_le_of_lt h (by decide)
theorem ev_tupG {rs : List Res} {α : Type} {R : Rp α} {x : α} (h : EvA tr ρ rs ρ1) (hl : rs.length ≤ 10000000) (hr : ∀ F H0 H vs p, AllR (RV ρ1 H0 F H) vs rs → F p = some (.tup vs) → R.rel F (.ref p) x) : EvV (tTup tr) ρ (.imm R x) ρ1 :=
  fun F σ H hh Q k => h F σ H hh _ fun vs F1 H1 g rv => ⟨by rw [rv.len]; exact sz hl, fun p hp => by
    have ga : Go ρ1 F1 H1 ρ1 σ (upd F1 p (.tup vs)) (upd H1 p (.tup vs)) := Go.alloc g.hold hp
    refine k _ _ _ (g.trans ga) (hr _ H (upd H1 p (.tup vs)) vs p ?_ upd_same)
    exact AllR.mapP (fun v r rv => rv.keep ga) rv⟩
theorem dv_tup {es : List Expr} {k : Nat} {α : Type} {R : Rp α} {xs : List α} (h : DA X ρ es (xs.map (Res.imm R)) ρ1) (hl : xs.length ≤ 10000000) : DV X ρ (.Tuple es k pos) (.imm (RT R) xs) ρ1 :=
  dv_of (fun i => pe_tup (canA es i)) (ev_tupG h (by simpa using hl) fun F H0 H vs p rv e => ⟨p, vs, rfl, e, allOf rv⟩)
theorem dv_tup2 {es : List Expr} {k : Nat} {α β : Type} {R : Rp α} {S : Rp β} {x : α} {y : β} (h : DA X ρ es [.imm R x, .imm S y] ρ1) : DV X ρ (.Tuple es k pos) (.imm (R2T R S) (x, y)) ρ1 :=
  dv_of (fun i => pe_tup (canA es i)) (ev_tupG h (show 2 ≤ 10000000 by decide) fun F H0 H vs p rv e => by
    cases rv with
    | cons a rv => cases rv with
      | cons b rv => cases rv; exact ⟨p, _, _, rfl, e, a, b⟩)
theorem dv_tup3 {es : List Expr} {k : Nat} {α β γ : Type} {R : Rp α} {S : Rp β} {T : Rp γ} {x : α} {y : β} {z : γ} (h : DA X ρ es [.imm R x, .imm S y, .imm T z] ρ1) : DV X ρ (.Tuple es k pos) (.imm (R3T R S T) (x, y, z)) ρ1 :=
  dv_of (fun i => pe_tup (canA es i)) (ev_tupG h (show 3 ≤ 10000000 by decide) fun F H0 H vs p rv e => by
    cases rv with
    | cons a rv => cases rv with
      | cons b rv => cases rv with
        | cons c rv => cases rv; exact ⟨p, _, _, _, rfl, e, a, b, c⟩)
theorem dv_tup4 {es : List Expr} {k : Nat} {α β γ δ : Type} {R : Rp α} {S : Rp β} {T : Rp γ} {U : Rp δ} {x : α} {y : β} {z : γ} {w : δ} (h : DA X ρ es [.imm R x, .imm S y, .imm T z, .imm U w] ρ1) : DV X ρ (.Tuple es k pos) (.imm (R4T R S T U) (x, y, z, w)) ρ1 :=
  dv_of (fun i => pe_tup (canA es i)) (ev_tupG h (show 4 ≤ 10000000 by decide) fun F H0 H vs p rv e => by
    cases rv with
    | cons a rv => cases rv with
      | cons b rv => cases rv with
        | cons c rv => cases rv with
          | cons d rv => cases rv; exact ⟨p, _, _, _, _, rfl, e, a, b, c, d⟩)
theorem new_lst {F H H0 : Hp} {σ : L2.St} {p : Addr} {α : Type} {R : Rp α} {xs : List α} {vs : List V} (hh : Hold F σ H ρ) (hp : H p = none) (h0 : H0 p = none) (h : All (R.rel F) vs xs) : RV ρ H0 F (upd H p (.lst vs)) (.ref p) (.new (OL R) xs) :=
  ⟨p, rfl, fun q e => by
    cases (show q = p from e)
    refine ⟨h0, fun w => ?_⟩
    have ga : Go ρ F H ρ σ F (upd H p (.lst vs)) := Go.allocO hh hp
    have w2 := owns_step hh (fun q w => by
      obtain ⟨_, u, b⟩ := hh.owned w
      exact upd_ne (ne_of_none b hp)) w
    exact hh.notOwn hp w2, Evl.fresh_back hh.ex hp, vs, upd_same, h⟩
theorem ev_lst {α : Type} {R : Rp α} {xs : List α} (h : EvA tr ρ (xs.map (Res.imm R)) ρ1) (hl : xs.length ≤ 10000000) : EvV (tLst tr) ρ (.new (OL R) xs) ρ1 :=
  fun F σ H hh Q k => h F σ H hh _ fun vs F1 H1 g rv => ⟨by rw [rv.len]; exact sz (by simpa using hl), fun p hp => by
    have ga : Go ρ1 F1 H1 ρ1 σ F1 (upd H1 p (.lst vs)) := Go.allocO g.hold hp
    exact k _ _ _ (g.trans ga) (new_lst g.hold hp (g.there p hp) (allOf rv))⟩
theorem dv_lst {es : List Expr} {α : Type} {R : Rp α} {xs : List α} (h : DA X ρ es (xs.map (Res.imm R)) ρ1) (hl : xs.length ≤ 10000000) : DV X ρ (.List es pos) (.new (OL R) xs) ρ1 :=
  dv_of (fun i => pe_lst (canA es i)) (ev_lst h hl)
end
end PD

set_option Elab.async false
set_option linter.all false
set_option maxRecDepth 100000
set_option maxHeartbeats 4000000
namespace PD
open PySem L2

/-- the built-in names are still the built-in ones -/
class Blt (X0 : Cx) : Prop where
  len : X0.mg "len" = none
  range : X0.mg "range" = none
  zip : X0.mg "zip" = none
  enumerate : X0.mg "enumerate" = none
  sum : X0.mg "sum" = none
  any : X0.mg "any" = none
  all : X0.mg "all" = none
  min : X0.mg "min" = none
  max : X0.mg "max" = none
  abs : X0.mg "abs" = none
  sorted : X0.mg "sorted" = none
  set : X0.mg "set" = none
  dict : X0.mg "dict" = none
  list : X0.mg "list" = none
  tuple : X0.mg "tuple" = none
  int : X0.mg "int" = none
  bool : X0.mg "bool" = none
  str : X0.mg "str" = none
  repr : X0.mg "repr" = none
  isinstance : X0.mg "isinstance" = none

section
variable {ι : Type} {X : ι → Cx} {X0 : Cx} [hF : Fam X X0] [hB : Blt X0] {ρ ρ1 ρ2 ρ3 : List Slot} {r ra rb rc : Res} {e a b c : Expr} {es : List Expr} {te ta tb : TE} {tt : TT} {tr : TA} {st : Stmt} {rest : List Stmt} {P : Post} {ts : TS} {pos p' : Pos}
variable {α β γ δ : Type} {R : Rp α} {S : Rp β} {T : Rp γ} {U : Rp δ}

def rTupleS (K : PySem.W.Frag) : List V → Hp → VK → Prop := fun xs H Q => ∃ p ys, xs = [.ref p] ∧ ((SqL K H p ys ∧ ∀ l, H l = none → Q (.ref l) (upd H l (.tup ys))) ∨ (SqT K H p ys ∧ Q (.ref p) H))
theorem cLen (i : ι) : CallR (X i) (.builtin "len") (Evl.rLenS X0.K) := by rw [← hF.K i]; exact call_len_seq
theorem cList (i : ι) : CallR (X i) (.type "list") (Evl.rListS X0.K) := by rw [← hF.K i]; exact call_list_of
theorem cTuple (i : ι) : CallR (X i) (.type "tuple") (rTupleS X0.K) := by rw [← hF.K i]; exact call_tuple_of
theorem cSum (i : ι) : CallR (X i) (.builtin "sum") (rSum X0.K) := by rw [← hF.K i]; exact cr_sum (hF.calm i)
theorem cAll (i : ι) : CallR (X i) (.builtin "all") (rAll X0.K) := by rw [← hF.K i]; exact cr_all (hF.calm i)
theorem cAny (i : ι) : CallR (X i) (.builtin "any") (rAny X0.K) := by rw [← hF.K i]; exact cr_any (hF.calm i)
theorem cMin (i : ι) : CallR (X i) (.builtin "min") (rMin X0.K) := by rw [← hF.K i]; exact cr_min (hF.calm i)
theorem cMax (i : ι) : CallR (X i) (.builtin "max") (rMax X0.K) := by rw [← hF.K i]; exact cr_max (hF.calm i)
theorem boot_list' : bootBuiltins "list" = some (.type "list") := by decide +kernel
theorem boot_tuple' : bootBuiltins "tuple" = some (.type "tuple") := by decide +kernel
theorem boot_int' : bootBuiltins "int" = some (.type "int") := by decide +kernel
theorem boot_abs' : bootBuiltins "abs" = some (.builtin "abs") := by decide +kernel
theorem boot_min' : bootBuiltins "min" = some (.builtin "min") := by decide +kernel
theorem boot_max' : bootBuiltins "max" = some (.builtin "max") := by decide +kernel
theorem boot_sum' : bootBuiltins "sum" = some (.builtin "sum") := by decide +kernel
theorem boot_all' : bootBuiltins "all" = some (.builtin "all") := by decide +kernel
theorem boot_any' : bootBuiltins "any" = some (.builtin "any") := by decide +kernel
include hF hB
/-! ### what reads as a list, as a tuple -/
def SeenL (ρ : List Slot) (ra : Res) (R : Rp α) (xs : List α) : Prop :=
  ∀ F σ H H0 v, Hold F σ H ρ → RV ρ H0 F H v ra → ∃ a vs, v = .ref a ∧ H a = some (.lst vs) ∧ All (R.rel F) vs xs
def SeenT (ρ : List Slot) (ra : Res) (R : Rp α) (xs : List α) : Prop :=
  ∀ F σ H H0 v, Hold F σ H ρ → RV ρ H0 F H v ra → ∃ a vs, v = .ref a ∧ H a = some (.tup vs) ∧ All (R.rel F) vs xs
omit hF hB in
theorem seen_imm {xs : List α} : SeenL ρ (.imm (RL R) xs) R xs := fun F σ H H0 v hh ⟨a, vs, h1, h2, h3⟩ => ⟨a, vs, h1, hh.ex a _ h2, h3⟩
omit hF hB in
theorem seen_new {xs : List α} : SeenL ρ (.new (OL R) xs) R xs := fun F σ H H0 v hh ⟨p, h1, _, _, vs, h4, h3⟩ => ⟨p, vs, h1, h4, h3⟩
omit hF hB in
theorem seen_view {xs : List α} {p : Addr} (i : Nat) (e : ρ[i]? = some (.own p (OL R) xs)) : SeenL ρ (.view p (OL R) xs) R xs := fun F σ H H0 v hh hv => by
  obtain ⟨_, _, vs, e2, h3⟩ := hh.own e
  exact ⟨p, vs, hv, e2, h3⟩
omit hF hB in
theorem seen_tup {xs : List α} : SeenT ρ (.imm (RT R) xs) R xs := fun F σ H H0 v hh ⟨a, vs, h1, h2, h3⟩ => ⟨a, vs, h1, hh.ex a _ h2, h3⟩

/-! ### len -/
omit hB in
theorem dv_callB {x : Str} {id : String} {rd : List V → Hp → VK → Prop} {rs : List Res} (hm : X0.mg x = none) (hc : ∀ i, CallR (X i) (.builtin id) rd) (hv : bootBuiltins x = some (.builtin id)) (ha : DA X ρ (e :: es) rs ρ1) (h : ClV rd ρ1 rs r ρ2)
    (hg : ∀ i, Gl (X i) x) (hn : x ≠ "__name__") (hdb : (x == ("__debug__" : Str)) = false)
    (he : ∀ i, starEach (e :: es) (X i).env = (false, eval e (X i).env) :: starEach es (X i).env) (hpl : ∀ i, (backTo pos (starEach es (X i).env)).any (·.1) = false) : DV X ρ (.Call (.Name x p') (e :: es) [] pos) r ρ2 :=
  dv_of (fun i => pe_callB (hc i) (hg i) (by rw [hF.mg i]; exact hm) hv (canA _ i) hn hdb (he i) (hpl i)) (ev_cb ha h)
omit hB in
theorem dv_callTy {x : Str} {id : String} {rd : List V → Hp → VK → Prop} {rs : List Res} (hm : X0.mg x = none) (hc : ∀ i, CallR (X i) (.type id) rd) (hv : bootBuiltins x = some (.type id)) (ha : DA X ρ (e :: es) rs ρ1) (h : ClV rd ρ1 rs r ρ2)
    (hg : ∀ i, Gl (X i) x) (hn : x ≠ "__name__") (hdb : (x == ("__debug__" : Str)) = false)
    (he : ∀ i, starEach (e :: es) (X i).env = (false, eval e (X i).env) :: starEach es (X i).env) (hpl : ∀ i, (backTo pos (starEach es (X i).env)).any (·.1) = false) : DV X ρ (.Call (.Name x p') (e :: es) [] pos) r ρ2 :=
  dv_of (fun i => pe_callTy (hc i) (hg i) (by rw [hF.mg i]; exact hm) hv (canA _ i) hn hdb (he i) (hpl i)) (ev_cb ha h)
omit hF hB in
theorem da_one (h : DV X ρ e r ρ1) (hs : ∀ i, starEach [e] (X i).env = (false, eval e (X i).env) :: starEach [] (X i).env) : DA X ρ [e] [r] ρ1 := da_cons h da_nil hs
omit hF hB in
theorem da_two (h : DV X ρ a ra ρ1) (h2 : DV X ρ1 b rb ρ2) (hs : ∀ i, starEach [a, b] (X i).env = (false, eval a (X i).env) :: starEach [b] (X i).env) (hs2 : ∀ i, starEach [b] (X i).env = (false, eval b (X i).env) :: starEach [] (X i).env) : DA X ρ [a, b] [ra, rb] ρ2 :=
  da_cons h (da_one h2 hs2) hs
section
theorem dv_lenL {xs : List α} (h : DV X ρ e r ρ1) (hs : SeenL ρ1 r R xs) (hg : ∀ i, Gl (X i) "len") (he : ∀ i, starEach [e] (X i).env = (false, eval e (X i).env) :: starEach [] (X i).env) : DV X ρ (.Call (.Name "len" p') [e] [] pos) (.imm RInt (xs.length : Int)) ρ1 :=
  dv_callB hB.len cLen PySem.boot_len (da_one h he) (fun F σ H H0 vs hh hv Q k => by
    cases hv with
    | cons h1 hv =>
      cases hv
      obtain ⟨a, vs, rfl, h2, h3⟩ := hs F σ H H0 _ hh h1
      refine ⟨a, vs, rfl, .inl (SqL.of h2), ?_⟩
      rw [h3.len]
      exact k _ F H (Go.refl hh) rfl) hg (by decide) (by decide) he (fun i => rfl)
theorem dv_lenT {xs : List α} (h : DV X ρ e r ρ1) (hs : SeenT ρ1 r R xs) (hg : ∀ i, Gl (X i) "len") (he : ∀ i, starEach [e] (X i).env = (false, eval e (X i).env) :: starEach [] (X i).env) : DV X ρ (.Call (.Name "len" p') [e] [] pos) (.imm RInt (xs.length : Int)) ρ1 :=
  dv_callB hB.len cLen PySem.boot_len (da_one h he) (fun F σ H H0 vs hh hv Q k => by
    cases hv with
    | cons h1 hv =>
      cases hv
      obtain ⟨a, vs, rfl, h2, h3⟩ := hs F σ H H0 _ hh h1
      refine ⟨a, vs, rfl, .inr (SqT.of h2), ?_⟩
      rw [h3.len]
      exact k _ F H (Go.refl hh) rfl) hg (by decide) (by decide) he (fun i => rfl)
/-! ### tuple(..), list(..), int(..) -/
theorem dv_tupleL {xs : List α} (h : DV X ρ e r ρ1) (hs : SeenL ρ1 r R xs) (hg : ∀ i, Gl (X i) "tuple") (he : ∀ i, starEach [e] (X i).env = (false, eval e (X i).env) :: starEach [] (X i).env) : DV X ρ (.Call (.Name "tuple" p') [e] [] pos) (.imm (RT R) xs) ρ1 :=
  dv_callTy hB.tuple cTuple boot_tuple' (da_one h he) (fun F σ H H0 vs hh hv Q k => by
    cases hv with
    | cons h1 hv =>
      cases hv
      obtain ⟨a, vs, rfl, h2, h3⟩ := hs F σ H H0 _ hh h1
      refine ⟨a, vs, rfl, .inl ⟨SqL.of h2, fun l hl => ?_⟩⟩
      have ga : Go ρ1 F H ρ1 σ (upd F l (.tup vs)) (upd H l (.tup vs)) := Go.alloc hh hl
      exact k _ _ _ ga ⟨l, vs, rfl, upd_same, h3.imp fun _ _ => R.up ga.ex⟩) hg (by decide) (by decide) he (fun i => rfl)
theorem dv_tupleT {xs : List α} (h : DV X ρ e (.imm (RT R) xs) ρ1) (hg : ∀ i, Gl (X i) "tuple") (he : ∀ i, starEach [e] (X i).env = (false, eval e (X i).env) :: starEach [] (X i).env) : DV X ρ (.Call (.Name "tuple" p') [e] [] pos) (.imm (RT R) xs) ρ1 :=
  dv_callTy hB.tuple cTuple boot_tuple' (da_one h he) (fun F σ H H0 vs hh hv Q k => by
    cases hv with
    | cons h1 hv =>
      cases hv
      obtain ⟨a, vs, rfl, h2, h3⟩ := id h1
      exact ⟨a, vs, rfl, .inr ⟨SqT.of (hh.ex a _ h2), k _ _ _ (Go.refl hh) h1⟩⟩) hg (by decide) (by decide) he (fun i => rfl)
theorem dv_listL {xs : List α} (h : DV X ρ e r ρ1) (hs : SeenL ρ1 r R xs) (hg : ∀ i, Gl (X i) "list") (he : ∀ i, starEach [e] (X i).env = (false, eval e (X i).env) :: starEach [] (X i).env) : DV X ρ (.Call (.Name "list" p') [e] [] pos) (.new (OL R) xs) ρ1 :=
  dv_callTy hB.list cList boot_list' (da_one h he) (fun F σ H H0 vs hh hv Q k => by
    cases hv with
    | cons h1 hv =>
      cases hv
      obtain ⟨a, vs, rfl, h2, h3⟩ := hs F σ H H0 _ hh h1
      exact ⟨a, vs, rfl, .inl (SqL.of h2), fun l hl => k _ _ _ (Go.allocO hh hl) (new_lst hh hl hl h3)⟩) hg (by decide) (by decide) he (fun i => rfl)
theorem dv_listT {xs : List α} (h : DV X ρ e r ρ1) (hs : SeenT ρ1 r R xs) (hg : ∀ i, Gl (X i) "list") (he : ∀ i, starEach [e] (X i).env = (false, eval e (X i).env) :: starEach [] (X i).env) : DV X ρ (.Call (.Name "list" p') [e] [] pos) (.new (OL R) xs) ρ1 :=
  dv_callTy hB.list cList boot_list' (da_one h he) (fun F σ H H0 vs hh hv Q k => by
    cases hv with
    | cons h1 hv =>
      cases hv
      obtain ⟨a, vs, rfl, h2, h3⟩ := hs F σ H H0 _ hh h1
      exact ⟨a, vs, rfl, .inr (SqT.of h2), fun l hl => k _ _ _ (Go.allocO hh hl) (new_lst hh hl hl h3)⟩) hg (by decide) (by decide) he (fun i => rfl)
def b2n (k : Bool) : Int := if k = true then 1 else 0
theorem dv_intB {k : Bool} (h : DV X ρ e (.imm RBool k) ρ1) (hg : ∀ i, Gl (X i) "int") (he : ∀ i, starEach [e] (X i).env = (false, eval e (X i).env) :: starEach [] (X i).env) : DV X ρ (.Call (.Name "int" p') [e] [] pos) (.imm RInt (b2n k)) ρ1 :=
  dv_callTy hB.int (fun i => call_int1) boot_int' (da_one h he) (fun F σ H H0 vs hh hv Q q => by
    cases hv with
    | cons h1 hv =>
      cases hv
      cases (show _ = V.bl k from h1)
      refine .inr ⟨k, rfl, q _ F H (Go.refl hh) rfl⟩) hg (by decide) (by decide) he (fun i => rfl)
theorem dv_abs {k : Int} (h : DV X ρ e (.imm RInt k) ρ1) (hg : ∀ i, Gl (X i) "abs") (he : ∀ i, starEach [e] (X i).env = (false, eval e (X i).env) :: starEach [] (X i).env) : DV X ρ (.Call (.Name "abs" p') [e] [] pos) (.imm RInt (k.natAbs : Int)) ρ1 :=
  dv_callB hB.abs (fun i => call_abs) boot_abs' (da_one h he) (fun F σ H H0 vs hh hv Q q => by
    cases hv with
    | cons h1 hv =>
      cases hv
      cases (show _ = V.int k from h1)
      refine ⟨k, rfl, q _ F H (Go.refl hh) ?_⟩
      show V.int _ = V.int _
      congr 1
      split <;> omega) hg (by decide) (by decide) he (fun i => rfl)
theorem dv_max2 {i j : Int} (h : DV X ρ a (.imm RInt i) ρ1) (h2 : DV X ρ1 b (.imm RInt j) ρ2) (hg : ∀ i, Gl (X i) "max") (hs : ∀ i, starEach [a, b] (X i).env = (false, eval a (X i).env) :: starEach [b] (X i).env) (hs2 : ∀ i, starEach [b] (X i).env = (false, eval b (X i).env) :: starEach [] (X i).env)
    (hpl : ∀ i, (backTo pos (starEach [b] (X i).env)).any (·.1) = false) : DV X ρ (.Call (.Name "max" p') [a, b] [] pos) (.imm RInt (max i j)) ρ2 :=
  dv_callB hB.max (fun i => call_max2 (hF.calm i)) boot_max' (da_two h h2 hs hs2) (fun F σ H H0 vs hh hv Q q => by
    cases hv with
    | cons h1 hv =>
      cases hv with
      | cons h2 hv =>
        cases hv
        cases (show _ = V.int i from h1)
        cases (show _ = V.int j from h2)
        refine ⟨i, j, rfl, q _ F H (Go.refl hh) ?_⟩
        show V.int _ = V.int _
        congr 1
        split <;> omega) hg (by decide) (by decide) hs hpl
theorem dv_min2 {i j : Int} (h : DV X ρ a (.imm RInt i) ρ1) (h2 : DV X ρ1 b (.imm RInt j) ρ2) (hg : ∀ i, Gl (X i) "min") (hs : ∀ i, starEach [a, b] (X i).env = (false, eval a (X i).env) :: starEach [b] (X i).env) (hs2 : ∀ i, starEach [b] (X i).env = (false, eval b (X i).env) :: starEach [] (X i).env)
    (hpl : ∀ i, (backTo pos (starEach [b] (X i).env)).any (·.1) = false) : DV X ρ (.Call (.Name "min" p') [a, b] [] pos) (.imm RInt (min i j)) ρ2 :=
  dv_callB hB.min (fun i => call_min2 (hF.calm i)) boot_min' (da_two h h2 hs hs2) (fun F σ H H0 vs hh hv Q q => by
    cases hv with
    | cons h1 hv =>
      cases hv with
      | cons h2 hv =>
        cases hv
        cases (show _ = V.int i from h1)
        cases (show _ = V.int j from h2)
        refine ⟨i, j, rfl, q _ F H (Go.refl hh) ?_⟩
        show V.int _ = V.int _
        congr 1
        split <;> omega) hg (by decide) (by decide) hs hpl
end
/-! ### sum, any, all, min, max of lists -/
omit hF hB in
theorem ints_eq {F : Hp} {vs : List V} {xs : List Int} (h : All (RInt.rel F) vs xs) : vs = xs.map V.int := All.eq_map (f := V.int) h
omit hF hB in
theorem bls_eq {F : Hp} {vs : List V} {xs : List Bool} (h : All (RBool.rel F) vs xs) : vs = xs.map V.bl := All.eq_map (f := V.bl) h
section
variable (h : DV X ρ e r ρ1)
include h
theorem dv_sum {xs : List Int} (hs : SeenL ρ1 r RInt xs) (hg : ∀ i, Gl (X i) "sum") (he : ∀ i, starEach [e] (X i).env = (false, eval e (X i).env) :: starEach [] (X i).env) : DV X ρ (.Call (.Name "sum" p') [e] [] pos) (.imm RInt xs.sum) ρ1 :=
  dv_callB hB.sum cSum boot_sum' (da_one h he) (fun F σ H H0 vs hh hv Q k => by
    cases hv with
    | cons h1 hv =>
      cases hv
      obtain ⟨a, vs, rfl, h2, h3⟩ := hs F σ H H0 _ hh h1
      exact ⟨a, xs, rfl, by rw [← ints_eq h3]; exact SqL.of h2, k _ F H (Go.refl hh) rfl⟩) hg (by decide) (by decide) he (fun i => rfl)
theorem dv_all {xs : List Bool} (hs : SeenL ρ1 r RBool xs) (hg : ∀ i, Gl (X i) "all") (he : ∀ i, starEach [e] (X i).env = (false, eval e (X i).env) :: starEach [] (X i).env) : DV X ρ (.Call (.Name "all" p') [e] [] pos) (.imm RBool (xs.all id)) ρ1 :=
  dv_callB hB.all cAll boot_all' (da_one h he) (fun F σ H H0 vs hh hv Q k => by
    cases hv with
    | cons h1 hv =>
      cases hv
      obtain ⟨a, vs, rfl, h2, h3⟩ := hs F σ H H0 _ hh h1
      exact ⟨a, xs, rfl, by rw [← bls_eq h3]; exact SqL.of h2, k _ F H (Go.refl hh) rfl⟩) hg (by decide) (by decide) he (fun i => rfl)
theorem dv_any {xs : List Bool} (hs : SeenL ρ1 r RBool xs) (hg : ∀ i, Gl (X i) "any") (he : ∀ i, starEach [e] (X i).env = (false, eval e (X i).env) :: starEach [] (X i).env) : DV X ρ (.Call (.Name "any" p') [e] [] pos) (.imm RBool (xs.any id)) ρ1 :=
  dv_callB hB.any cAny boot_any' (da_one h he) (fun F σ H H0 vs hh hv Q k => by
    cases hv with
    | cons h1 hv =>
      cases hv
      obtain ⟨a, vs, rfl, h2, h3⟩ := hs F σ H H0 _ hh h1
      exact ⟨a, xs, rfl, by rw [← bls_eq h3]; exact SqL.of h2, k _ F H (Go.refl hh) rfl⟩) hg (by decide) (by decide) he (fun i => rfl)
theorem dv_minI {xs : List Int} {m : Int} (hs : SeenL ρ1 r RInt xs) (hm : m ∈ xs) (hm2 : ∀ y ∈ xs, m ≤ y) (hg : ∀ i, Gl (X i) "min") (he : ∀ i, starEach [e] (X i).env = (false, eval e (X i).env) :: starEach [] (X i).env) : DV X ρ (.Call (.Name "min" p') [e] [] pos) (.imm RInt m) ρ1 :=
  dv_callB hB.min cMin boot_min' (da_one h he) (fun F σ H H0 vs hh hv Q k => by
    cases hv with
    | cons h1 hv =>
      cases hv
      obtain ⟨a, vs, rfl, h2, h3⟩ := hs F σ H H0 _ hh h1
      refine ⟨a, xs, rfl, by rw [← ints_eq h3]; exact SqL.of h2, List.length_pos_of_mem hm, fun m' h1' h2' => ?_⟩
      have : m' = m := Int.le_antisymm (h2' m hm) (hm2 m' h1')
      rw [this]
      exact k _ F H (Go.refl hh) rfl) hg (by decide) (by decide) he (fun i => rfl)
end
end
end PD

set_option Elab.async false
set_option linter.all false
set_option maxRecDepth 100000
set_option maxHeartbeats 4000000
namespace PD
open PySem L2

section
variable {F F1 F2 F' H H0 H1 H2 H' : Hp} {σ σ1 σ2 σ' : L2.St} {ρ ρ0 ρ1 ρ2 ρ' : List Slot} {p q : Addr} {o : HO} {v : V}
/-- a slot's own object is changed at q -/
theorem Go.write (hh : Hold F σ H ρ) {i : Nat} {α β : Type} {R : Ro α} {x : α} (e : ρ[i]? = some (.own p R x)) {S : Ro β} {y : β} (hq : R.foot H p q) (hr : S.rel F (upd H q o) p y) (hf : ∀ u, S.foot (upd H q o) p u → R.foot H p u) :
    Go ρ F H (ρ.set i (.own p S y)) σ F (upd H q o) := by
  obtain ⟨e1, r0⟩ := hh.own e
  have own : ∀ u, R.foot H p u → Owns ρ H u := fun u f => ⟨i, p, _, R, x, e, f⟩
  have hi : i < ρ.length := (List.getElem?_eq_some_iff.mp e).1
  have hFq : F q = none := (R.out r0 hq).1
  have other : ∀ {j : Nat} {p' : Addr} {γ : Type} {T : Ro γ} {z : γ}, j ≠ i → ρ[j]? = some (.own p' T z) → ∀ u, T.foot H p' u → upd H q o u = H u := fun {j p' γ T z} hj e2 u f =>
    upd_ne fun w => hj (hh.sep j i p' p u _ _ T z R x e2 e f (w ▸ hq))
  refine ⟨⟨fun a u z => ?_, by rw [List.length_set]; exact hh.len, fun j w s a b => ?_, fun j k p1 p2 u γ δ T z T' z' a b f1 f2 => ?_⟩, fun _ _ z => z, fun u w z n => ?_, fun u w z f n => f, fun u z => ?_, fun u w => ?_⟩
  · rw [upd_ne (fun w => by rw [w, hFq] at z; cases z)]
    exact hh.ex a u z
  · rcases set_get b with ⟨rfl, rfl⟩ | ⟨hj, b⟩
    · rw [e1] at a; cases a
      exact ⟨rfl, hr⟩
    · have c := hh.ok j w s a b
      cases s with
      | any => trivial
      | imm T z => exact c
      | own p' T z => exact ⟨c.1, T.stay c.2 (fun _ _ z => z) fun u f => ⟨other hj b u f, (T.out c.2 f).1⟩⟩
  · rcases set_get a with ⟨ej, a⟩ | ⟨hj, a⟩
    · rcases set_get b with ⟨ek, b⟩ | ⟨hk, b⟩
      · exact ej.trans ek.symm
      · cases a
        have f2' := T'.stayf (hh.own b).2 (other hk b) f2
        exact ej.trans (hh.sep k i p2 p u _ _ T' z' R x b e f2' (hf u f1)).symm
    · have f1' := T.stayf (hh.own a).2 (other hj a) f1
      rcases set_get b with ⟨ek, b⟩ | ⟨hk, b⟩
      · cases b
        exact (hh.sep j i p1 p u _ _ T z R x a e f1' (hf u f2)).trans ek.symm
      · exact hh.sep j k p1 p2 u _ _ T z T' z' a b f1' (T'.stayf (hh.own b).2 (other hk b) f2)
  · rw [upd_ne (fun w' => n (by rw [w']; exact own q hq))]; exact z
  · by_cases hu : u = q
    · rw [hu, upd_same] at z; cases z
    · rw [upd_ne hu] at z; exact z
  · obtain ⟨j, p', γ, T, z, a, f⟩ := w
    rcases set_get a with ⟨_, a⟩ | ⟨hj, a⟩
    · cases a
      exact .inl (own u (hf u f))
    · exact .inl ⟨j, p', γ, T, z, a, T.stayf (hh.own a).2 (other hj a) f⟩
end

section
variable {ι : Type} {X : ι → Cx} {X0 : Cx} [hF : Fam X X0] {ρ ρ1 ρ2 ρ3 : List Slot} {r ra rb rc : Res} {e a b c : Expr} {es : List Expr} {te ta tb : TE} {tt : TT} {tr : TA} {st : Stmt} {rest : List Stmt} {P : Post} {ts : TS} {pos p' p2 : Pos}
variable {α β γ δ : Type} {R : Rp α} {S : Rp β} {T : Rp γ} {U : Rp δ}
/-! ### subscripts -/
theorem atI_all {F : V → α → Prop} {vs : List V} {xs : List α} (h : All F vs xs) {i : Int} {y : α} (e : atI xs i = some y) : ∃ v, atI vs i = some v ∧ F v y := by
  unfold atI at e ⊢
  rw [h.len]
  cases hk : ixN xs.length i with
  | none => rw [hk] at e; cases e
  | some k =>
    rw [hk] at e
    exact h.get e
theorem atI_in {xs : List α} [Inhabited α] {i : Int} (h0 : 0 ≤ i) (h1 : i < xs.length) : atI xs i = some xs[i.toNat]! := by
  obtain ⟨n, rfl⟩ := Int.eq_ofNat_of_zero_le h0
  have hn : n < xs.length := by omega
  exact atI_nat (by simp [hn])
theorem atI_neg {xs : List α} [Inhabited α] {i : Int} (h0 : i < 0) (h1 : -(xs.length : Int) ≤ i) : atI xs i = some xs[(i + xs.length).toNat]! := by
  unfold atI ixN
  rw [if_neg (by omega), if_pos h1]
  show xs[(i + xs.length).toNat]? = _
  have hn : (i + xs.length).toNat < xs.length := by omega
  simp [hn]
include hF
theorem cIxL (i : ι) : IxR (X i) (rIxL X0.K) := by rw [← hF.K i]; exact ix_list
theorem cIxT (i : ι) : IxR (X i) (rIxT X0.K) := by rw [← hF.K i]; exact ix_tup
theorem dv_ixL {xs : List α} {i : Int} {y : α} (ha : DV X ρ a ra ρ1) (hb : DV X ρ1 b (.imm RInt i) ρ2) (hs : SeenL ρ2 ra R xs) (hy : atI xs i = some y) (hp : PlainIx b) : DV X ρ (.Subscript a b pos) (.imm R y) ρ2 :=
  dv_of (fun i => pe_ix (cIxL i) (can a i) (can b i) hp) (ev_op ha hb fun F σ H H0 x z hh h1 h2 Q k => by
    obtain ⟨p, vs, rfl, h3, h4⟩ := hs F σ H H0 x hh h1
    obtain ⟨v, e1, e2⟩ := atI_all h4 hy
    exact ⟨p, vs, i, v, rfl, h2, SqL.of h3, e1, k v F H (Go.refl hh) e2⟩)
theorem dv_ixT {xs : List α} {i : Int} {y : α} (ha : DV X ρ a ra ρ1) (hb : DV X ρ1 b (.imm RInt i) ρ2) (hs : SeenT ρ2 ra R xs) (hy : atI xs i = some y) (hp : PlainIx b) : DV X ρ (.Subscript a b pos) (.imm R y) ρ2 :=
  dv_of (fun i => pe_ix (cIxT i) (can a i) (can b i) hp) (ev_op ha hb fun F σ H H0 x z hh h1 h2 Q k => by
    obtain ⟨p, vs, rfl, h3, h4⟩ := hs F σ H H0 x hh h1
    obtain ⟨v, e1, e2⟩ := atI_all h4 hy
    exact ⟨p, vs, i, v, rfl, h2, SqT.of h3, e1, k v F H (Go.refl hh) e2⟩)
/-- a place of a tuple of things unlike -/
theorem dv_ixH {x : α} {i : Int} {y : β} (ha : DV X ρ a (.imm R x) ρ1) (hb : DV X ρ1 b (.imm RInt i) ρ2) (hs : ∀ F v, R.rel F v x → ∃ p vs v', v = .ref p ∧ F p = some (.tup vs) ∧ atI vs i = some v' ∧ S.rel F v' y) (hp : PlainIx b) : DV X ρ (.Subscript a b pos) (.imm S y) ρ2 :=
  dv_of (fun i => pe_ix (cIxT i) (can a i) (can b i) hp) (ev_op ha hb fun F σ H H0 x' z hh h1 h2 Q k => by
    obtain ⟨p, vs, v', rfl, h3, e1, e2⟩ := hs F x' h1
    exact ⟨p, vs, i, v', rfl, h2, SqT.of (hh.ex p _ h3), e1, k v' F H (Go.refl hh) e2⟩)
theorem dv_ix20 {x : α × β} (ha : DV X ρ a (.imm (R2T R S) x) ρ1) (hb : DV X ρ1 b (.imm RInt 0) ρ2) (hp : PlainIx b) : DV X ρ (.Subscript a b pos) (.imm R x.1) ρ2 :=
  dv_ixH ha hb (fun F v ⟨p, v1, v2, h1, h2, h3, h4⟩ => ⟨p, _, v1, h1, h2, rfl, h3⟩) hp
theorem dv_ix21 {x : α × β} (ha : DV X ρ a (.imm (R2T R S) x) ρ1) (hb : DV X ρ1 b (.imm RInt 1) ρ2) (hp : PlainIx b) : DV X ρ (.Subscript a b pos) (.imm S x.2) ρ2 :=
  dv_ixH ha hb (fun F v ⟨p, v1, v2, h1, h2, h3, h4⟩ => ⟨p, _, v2, h1, h2, rfl, h4⟩) hp
theorem dv_ix30 {x : α × β × γ} (ha : DV X ρ a (.imm (R3T R S T) x) ρ1) (hb : DV X ρ1 b (.imm RInt 0) ρ2) (hp : PlainIx b) : DV X ρ (.Subscript a b pos) (.imm R x.1) ρ2 :=
  dv_ixH ha hb (fun F v ⟨p, v1, v2, v3, h1, h2, h3, h4, h5⟩ => ⟨p, _, v1, h1, h2, rfl, h3⟩) hp
theorem dv_ix31 {x : α × β × γ} (ha : DV X ρ a (.imm (R3T R S T) x) ρ1) (hb : DV X ρ1 b (.imm RInt 1) ρ2) (hp : PlainIx b) : DV X ρ (.Subscript a b pos) (.imm S x.2.1) ρ2 :=
  dv_ixH ha hb (fun F v ⟨p, v1, v2, v3, h1, h2, h3, h4, h5⟩ => ⟨p, _, v2, h1, h2, rfl, h4⟩) hp
theorem dv_ix32 {x : α × β × γ} (ha : DV X ρ a (.imm (R3T R S T) x) ρ1) (hb : DV X ρ1 b (.imm RInt 2) ρ2) (hp : PlainIx b) : DV X ρ (.Subscript a b pos) (.imm T x.2.2) ρ2 :=
  dv_ixH ha hb (fun F v ⟨p, v1, v2, v3, h1, h2, h3, h4, h5⟩ => ⟨p, _, v3, h1, h2, rfl, h5⟩) hp
/-! ### slices -/
def EvO (to : TO) (ρ : List Slot) (o : Option Int) (ρ' : List Slot) : Prop := ∀ F σ H, Hold F σ H ρ → ∀ Q : Option Int → Hp → Prop, (∀ F' H', Go ρ F H ρ' σ F' H' → Q o H') → to σ H Q
def toOf (X : ι → Cx) (e : Option Expr) : TO := fun σ H Q => ∀ (i : ι) (pins : List (Addr × Obj)) (s : Shared), Inv (X i) pins σ H s → wpAny (model (X i).prog (X i).w) (X i).A (evalPart e (X i).env) (fun u s' => ∃ o H', Inv (X i) pins σ H' s' ∧ IsPart u o ∧ Q o H') (X i).xe s
omit hF in
theorem canO (e : Option Expr) (i : ι) : PO (X i) e (toOf X e) := ⟨fun pins s σ H Q I h => h i pins s I⟩
def DO (X : ι → Cx) (ρ : List Slot) (e : Option Expr) (o : Option Int) (ρ' : List Slot) : Prop := EvO (toOf X e) ρ o ρ'
omit hF in
theorem do_none : DO X ρ none none ρ := fun F σ H hh Q k i pins s I => po_none.run pins s σ H Q I (k F H (Go.refl hh))
omit hF in
theorem do_some {k : Int} (h : DV X ρ e (.imm RInt k) ρ1) : DO X ρ (some e) (some k) ρ1 := fun F σ H hh Q q i pins s I =>
  (po_some (can e i)).run pins s σ H Q I (h F σ H hh _ fun v F1 H1 g rv => ⟨k, rv, q F1 H1 g⟩)
def cut {α : Type} (xs : List α) (lo hi : Option Int) : List α := (xs.drop (HT.sIx xs.length 0 lo)).take (HT.sIx xs.length xs.length hi - HT.sIx xs.length 0 lo)
omit hF in
theorem All.cut {P : V → α → Prop} {vs : List V} {xs : List α} (h : All P vs xs) (lo hi : Option Int) : All P (cutV vs lo hi) (cut xs lo hi) := by
  unfold cutV PD.cut
  rw [h.len]
  exact (h.drop _).take _
theorem cSlT (i : ι) : SlR (X i) (rSlA X0.K) := by rw [← hF.K i]; exact sl_tupA
theorem cSlL (i : ι) : SlR (X i) (rSlL X0.K) := by rw [← hF.K i]; exact sl_list
omit hF in
theorem cut_all {xs : List α} {lo hi : Option Int} (h : HT.sIx xs.length 0 lo = 0 ∧ HT.sIx xs.length xs.length hi = xs.length) : cut xs lo hi = xs := by
  unfold cut
  rw [h.1, h.2]
  simp
theorem dv_slT {xs : List α} {lo hi : Option Expr} {l u : Option Int} (he : DV X ρ e (.imm (RT R) xs) ρ1) (hl : DO X ρ1 lo l ρ2) (hu : DO X ρ2 hi u ρ3) : DV X ρ (.Subscript e (.Slice lo hi none p2) pos) (.imm (RT R) (cut xs l u)) ρ3 :=
  dv_of (fun i => pe_slice (cSlT i) (can e i) (canO lo i) (canO hi i)) fun F σ H hh Q k => he F σ H hh _ fun v F1 H1 g1 r1 => hl F1 σ H1 g1.hold _ fun F2 H2 g2 => hu F2 σ H2 g2.hold _ fun F3 H3 g3 => by
    have gg := (g1.trans g2).trans g3
    obtain ⟨a, vs, rfl, h1, h2⟩ := (RT R).up (Evl.Ex.trans g2.ex g3.ex) r1
    refine ⟨a, vs, rfl, SqT.of (g3.hold.ex a _ h1), fun w => ?_, fun _ p hp => ?_⟩
    · rw [h2.len] at w
      rw [cut_all w] at k
      exact k _ F3 H3 gg ⟨a, vs, rfl, h1, h2⟩
    · have ga : Go ρ3 F3 H3 ρ3 σ (upd F3 p (.tup (cutV vs l u))) (upd H3 p (.tup (cutV vs l u))) := Go.alloc g3.hold hp
      exact k _ _ _ (gg.trans ga) ⟨p, _, rfl, upd_same, (h2.cut l u).imp fun _ _ => R.up ga.ex⟩
theorem dv_slL {xs : List α} {lo hi : Option Expr} {l u : Option Int} (he : DV X ρ e ra ρ1) (hl : DO X ρ1 lo l ρ2) (hu : DO X ρ2 hi u ρ3) (hs : SeenL ρ3 ra R xs) : DV X ρ (.Subscript e (.Slice lo hi none p2) pos) (.new (OL R) (cut xs l u)) ρ3 :=
  dv_of (fun i => pe_slice (cSlL i) (can e i) (canO lo i) (canO hi i)) fun F σ H hh Q k => he F σ H hh _ fun v F1 H1 g1 r1 => hl F1 σ H1 g1.hold _ fun F2 H2 g2 => hu F2 σ H2 g2.hold _ fun F3 H3 g3 => by
    have gg := (g1.trans g2).trans g3
    obtain ⟨a, vs, rfl, h1, h2⟩ := hs F3 σ H3 H v g3.hold ((r1.keep g2).keep g3)
    refine ⟨a, vs, rfl, SqL.of h1, fun p hp => ?_⟩
    exact k _ _ _ (gg.trans (Go.allocO g3.hold hp)) (new_lst g3.hold hp (gg.there p hp) (h2.cut l u))
/-! ### + and * of tuples and lists -/
theorem cCatA (i : ι) : OpR (X i) (binaryOp .Add) (rCatA X0.K) := by rw [← hF.K i]; exact op_catA
theorem dv_catT {xs ys : List α} (ha : DV X ρ a (.imm (RT R) xs) ρ1) (hb : DV X ρ1 b (.imm (RT R) ys) ρ2) (hl : xs.length + ys.length ≤ 10000000) : DV X ρ (.BinOp a .Add b pos) (.imm (RT R) (xs ++ ys)) ρ2 :=
  dv_bin (fun i => cCatA i) ha hb fun F σ H H0 x y hh h1 h2 Q k => by
    obtain ⟨p, vs, rfl, e1, l1⟩ := h1
    obtain ⟨q, ws, rfl, e2, l2⟩ := h2
    refine ⟨p, q, vs, ws, rfl, rfl, SqT.of (hh.ex p _ e1), SqT.of (hh.ex q _ e2), by rw [l1.len, l2.len]; exact sz hl, fun w => ?_, fun _ w => ?_, fun _ _ n hn => ?_⟩
    · subst w
      cases l1
      exact k _ F H (Go.refl hh) ⟨q, ws, rfl, e2, l2⟩
    · subst w
      cases l2
      refine k _ F H (Go.refl hh) ⟨p, vs, rfl, e1, ?_⟩
      rw [List.append_nil]
      exact l1
    · have ga : Go ρ2 F H ρ2 σ (upd F n (.tup (vs ++ ws))) (upd H n (.tup (vs ++ ws))) := Go.alloc hh hn
      exact k _ _ _ ga ⟨n, _, rfl, upd_same, (l1.append l2).imp fun _ _ => R.up ga.ex⟩
theorem dv_catL {xs ys : List α} (ha : DV X ρ a ra ρ1) (hb : DV X ρ1 b rb ρ2) (hs : SeenL ρ2 ra R xs) (ht : SeenL ρ2 rb R ys) (hl : xs.length + ys.length ≤ 10000000) : DV X ρ (.BinOp a .Add b pos) (.new (OL R) (xs ++ ys)) ρ2 :=
  dv_bin (fun i => op_cat) ha hb fun F σ H H0 x y hh h1 h2 Q k => by
    obtain ⟨p, vs, rfl, e1, l1⟩ := hs F σ H H0 x hh h1
    obtain ⟨q, ws, rfl, e2, l2⟩ := ht F σ H H0 y hh h2
    exact ⟨p, q, vs, ws, rfl, rfl, e1, e2, by rw [l1.len, l2.len]; exact sz hl, fun n hn => k _ _ _ (Go.allocO hh hn) (new_lst hh hn hn (l1.append l2))⟩
omit hF in
theorem All.rep {P : V → α → Prop} {vs : List V} {xs : List α} (h : All P vs xs) : ∀ n : Nat, All P (List.replicate n vs).flatten (List.replicate n xs).flatten
  | 0 => .nil
  | n + 1 => by rw [List.replicate_succ, List.replicate_succ, List.flatten_cons, List.flatten_cons]; exact h.append (All.rep h n)
theorem dv_repL {xs : List α} {n : Int} (ha : DV X ρ a ra ρ1) (hb : DV X ρ1 b (.imm RInt n) ρ2) (hs : SeenL ρ2 ra R xs) (h0 : 0 ≤ n) (h1 : n ≤ 1000000) (hl : xs.length * n.toNat ≤ 10000000) : DV X ρ (.BinOp a .Mult b pos) (.new (OL R) (List.replicate n.toNat xs).flatten) ρ2 :=
  dv_bin (fun i => op_rep) ha hb fun F σ H H0 x y hh hx hy Q k => by
    obtain ⟨p, vs, rfl, e1, l1⟩ := hs F σ H H0 x hh hx
    exact ⟨p, n, vs, rfl, hy, e1, by omega, by omega, by rw [l1.len]; exact sz hl, fun u hn => k _ _ _ (Go.allocO hh hn) (new_lst hh hn hn (l1.rep _))⟩

/-! ### methods of lists -/
def MtV (rd : V → List V → Hp → VK → Prop) (ρ : List Slot) (ra : Res) (rs : List Res) (r : Res) (ρ' : List Slot) : Prop :=
  ∀ F σ H H0 x vs, Hold F σ H ρ → RV ρ H0 F H x ra → AllR (RV ρ H0 F H) vs rs → ∀ Q : VK, (∀ v F' H', Go ρ F H ρ' σ F' H' → RV ρ' H F' H' v r → Q v H') → rd x vs H Q
theorem dv_bm {o : Expr} {name : Str} {apos cpos : Pos} {Ty id : String} {rd : V → List V → Hp → VK → Prop} {rs : List Res} (pa : PlainAttrs Ty) (slot : PySem.Slot Ty name id) (hty : typeOf (.builtin id) = pure (.type "method_descriptor")) (hm : ∀ i, MtR (X i) id rd)
    (ho : DV X ρ o ra ρ1) (hT : ∀ F σ H H0 v, Hold F σ H ρ1 → RV ρ1 H0 F H v ra → tyV X0.K Ty v H) (ha : DA X ρ1 (e :: es) rs ρ2) (h : MtV rd ρ2 ra rs r ρ3)
    (hbase : ∀ i, attributeBase o name (X i).env (eval o (X i).env) = eval o (X i).env)
    (hfew : ∀ i, ((backTo cpos (starEach (e :: es) (X i).env)).all (fun x => !x.1) && (backToKw cpos (keywordEach [] (X i).env)).all (fun x => x.1.isSome)
      && decide ((e :: es).length + ([] : List Keyword).length + (if ([] : List Keyword).isEmpty then 0 else 1) < 30)) = true)
    (hline : (apos.endLine == cpos.line) = true) (hs : ∀ i, starEach (e :: es) (X i).env = (false, eval e (X i).env) :: starEach es (X i).env) (hplain : ∀ i, (backTo cpos (starEach es (X i).env)).any (·.1) = false) :
    DV X ρ (.Call (.Attribute o name apos) (e :: es) [] cpos) r ρ3 :=
  dv_of (te := tBM X0.K Ty rd (teOf X o) (taOf X (e :: es))) (fun i => by rw [← hF.K i]; exact pe_bm pa slot hty (hm i) (can o i) (canA _ i) (hbase i) (hfew i) hline (hs i) (hplain i))
    fun F σ H hh Q k => ho F σ H hh _ fun v F1 H1 g1 r1 => ⟨hT F1 σ H1 H v g1.hold r1, ha F1 σ H1 g1.hold _ fun vs F2 H2 g2 r2 => h F2 σ H2 H v vs g2.hold (r1.keep g2) (AllR.mapP (fun _ _ rv => rv.back g1.there) r2) Q fun v F3 H3 g3 r3 =>
      k v F3 H3 ((g1.trans g2).trans g3) (r3.back fun q z => g1.there q (g2.there q z))⟩
theorem dv_bm0 {o : Expr} {name : Str} {apos cpos : Pos} {Ty id : String} {rd : V → List V → Hp → VK → Prop} (pa : PlainAttrs Ty) (slot : PySem.Slot Ty name id) (hty : typeOf (.builtin id) = pure (.type "method_descriptor")) (hm : ∀ i, MtR (X i) id rd)
    (ho : DV X ρ o ra ρ1) (hT : ∀ F σ H H0 v, Hold F σ H ρ1 → RV ρ1 H0 F H v ra → tyV X0.K Ty v H) (h : MtV rd ρ1 ra [] r ρ3)
    (hbase : ∀ i, attributeBase o name (X i).env (eval o (X i).env) = eval o (X i).env) (hline : (apos.endLine == cpos.line) = true) :
    DV X ρ (.Call (.Attribute o name apos) [] [] cpos) r ρ3 :=
  dv_of (te := tBM0 X0.K Ty rd (teOf X o)) (fun i => by rw [← hF.K i]; exact pe_bm0 pa slot hty (hm i) (can o i) (hbase i) hline)
    fun F σ H hh Q k => ho F σ H hh _ fun v F1 H1 g1 r1 => ⟨hT F1 σ H1 H v g1.hold r1, h F1 σ H1 H v [] g1.hold r1 .nil Q fun v F3 H3 g3 r3 => k v F3 H3 (g1.trans g3) (r3.back g1.there)⟩
omit hF in
theorem tyL {K : PySem.W.Frag} {xs : List α} (hs : SeenL ρ ra R xs) : ∀ F σ H H0 v, Hold F σ H ρ → RV ρ H0 F H v ra → tyV K "list" v H := fun F σ H H0 v hh rv => by
  obtain ⟨a, vs, rfl, h1, _⟩ := hs F σ H H0 v hh rv
  exact .inl ⟨rfl, vs, SqL.of h1⟩
omit hF in
/-- a list of one's own is changed -/
theorem go_ol {F H : Hp} {σ : L2.St} {p : Addr} {xs ys : List α} {vs : List V} (hh : Hold F σ H ρ) (i : Nat) (e : ρ[i]? = some (.own p (OL R) xs)) (h : All (R.rel F) vs ys) : Go ρ F H (ρ.set i (.own p (OL R) ys)) σ F (upd H p (.lst vs)) :=
  Go.write hh e (S := OL R) rfl ⟨((hh.own e).2).1, vs, upd_same, h⟩ fun u f => f
section
variable {o : Expr} {apos cpos : Pos} {p : Addr} {xs : List α}
    (hbase : ∀ (nm : Str) i, attributeBase o nm (X i).env (eval o (X i).env) = eval o (X i).env)
theorem dv_append (i : Nat) {y : α} (ho : DV X ρ o (.view p (OL R) xs) ρ1) (ha : DV X ρ1 e (.imm R y) ρ2) (e1 : ρ1[i]? = some (.own p (OL R) xs)) (e2 : ρ2[i]? = some (.own p (OL R) xs)) (hl : xs.length ≤ 10000000)
    (hbase : ∀ i, attributeBase o "append" (X i).env (eval o (X i).env) = eval o (X i).env)
    (hfew : ∀ i, ((backTo cpos (starEach (e :: []) (X i).env)).all (fun x => !x.1) && (backToKw cpos (keywordEach [] (X i).env)).all (fun x => x.1.isSome)
      && decide ((e :: []).length + ([] : List Keyword).length + (if ([] : List Keyword).isEmpty then 0 else 1) < 30)) = true)
    (hline : (apos.endLine == cpos.line) = true) (hs : ∀ i, starEach (e :: []) (X i).env = (false, eval e (X i).env) :: starEach [] (X i).env) (hplain : ∀ i, (backTo cpos (starEach [] (X i).env)).any (·.1) = false) :
    DV X ρ (.Call (.Attribute o "append" apos) [e] [] cpos) (.imm RNon ()) (ρ2.set i (.own p (OL R) (xs ++ [y]))) :=
  dv_bm PySem.F.plainAttrs_list PySem.F.slot_list_append PySem.F.type_list_append (fun i => mt_append) ho (tyL (seen_view i e1)) (da_one ha hs) (fun F σ H H0 x vs hh hx hv Q k => by
    cases hv with
    | cons h1 hv =>
      cases hv
      cases (show x = .ref p from hx)
      obtain ⟨_, hn, ws, hw, hall⟩ := hh.own e2
      refine ⟨p, ws, _, rfl, rfl, hw, by rw [hall.len]; exact szl hl, ?_⟩
      exact k _ F _ (go_ol hh i e2 (hall.append (.cons h1 .nil))) rfl) hbase hfew hline hs hplain
theorem dv_extend (i : Nat) {ys : List α} (ho : DV X ρ o (.view p (OL R) xs) ρ1) (ha : DV X ρ1 e ra ρ2) (hy : SeenL ρ2 ra R ys) (e1 : ρ1[i]? = some (.own p (OL R) xs)) (e2 : ρ2[i]? = some (.own p (OL R) xs)) (hl : xs.length + ys.length ≤ 10000000)
    (hbase : ∀ i, attributeBase o "extend" (X i).env (eval o (X i).env) = eval o (X i).env)
    (hfew : ∀ i, ((backTo cpos (starEach (e :: []) (X i).env)).all (fun x => !x.1) && (backToKw cpos (keywordEach [] (X i).env)).all (fun x => x.1.isSome)
      && decide ((e :: []).length + ([] : List Keyword).length + (if ([] : List Keyword).isEmpty then 0 else 1) < 30)) = true)
    (hline : (apos.endLine == cpos.line) = true) (hs : ∀ i, starEach (e :: []) (X i).env = (false, eval e (X i).env) :: starEach [] (X i).env) (hplain : ∀ i, (backTo cpos (starEach [] (X i).env)).any (·.1) = false) :
    DV X ρ (.Call (.Attribute o "extend" apos) [e] [] cpos) (.imm RNon ()) (ρ2.set i (.own p (OL R) (xs ++ ys))) :=
  dv_bm PySem.F.plainAttrs_list PySem.F.slot_list_extend PySem.F.type_list_extend (fun i => mt_extend) ho (tyL (seen_view i e1)) (da_one ha hs) (fun F σ H H0 x vs hh hx hv Q k => by
    cases hv with
    | cons h1 hv =>
      cases hv
      cases (show x = .ref p from hx)
      obtain ⟨_, hn, ws, hw, hall⟩ := hh.own e2
      obtain ⟨b, us, rfl, hb, hall2⟩ := hy F σ H H0 _ hh h1
      refine ⟨p, b, ws, us, rfl, rfl, hw, hb, by rw [hall.len, hall2.len]; exact sz hl, ?_⟩
      exact k _ F _ (go_ol hh i e2 (hall.append hall2)) rfl) hbase hfew hline hs hplain
theorem dv_insert (i : Nat) {y : α} {n : Int} (ho : DV X ρ o (.view p (OL R) xs) ρ1) (ha : DV X ρ1 a (.imm RInt n) ρ2) (hb : DV X ρ2 b (.imm R y) ρ3) (e1 : ρ1[i]? = some (.own p (OL R) xs)) (e2 : ρ3[i]? = some (.own p (OL R) xs)) (hl : xs.length ≤ 10000000) (h0 : 0 ≤ n) (h1 : n ≤ 10000000)
    (hbase : ∀ i, attributeBase o "insert" (X i).env (eval o (X i).env) = eval o (X i).env)
    (hfew : ∀ i, ((backTo cpos (starEach (a :: [b]) (X i).env)).all (fun x => !x.1) && (backToKw cpos (keywordEach [] (X i).env)).all (fun x => x.1.isSome)
      && decide ((a :: [b]).length + ([] : List Keyword).length + (if ([] : List Keyword).isEmpty then 0 else 1) < 30)) = true)
    (hline : (apos.endLine == cpos.line) = true) (hs : ∀ i, starEach (a :: [b]) (X i).env = (false, eval a (X i).env) :: starEach [b] (X i).env) (hs2 : ∀ i, starEach [b] (X i).env = (false, eval b (X i).env) :: starEach [] (X i).env) (hplain : ∀ i, (backTo cpos (starEach [b] (X i).env)).any (·.1) = false) :
    DV X ρ (.Call (.Attribute o "insert" apos) [a, b] [] cpos) (.imm RNon ()) (ρ3.set i (.own p (OL R) (xs.take n.toNat ++ [y] ++ xs.drop n.toNat))) :=
  dv_bm PySem.F.plainAttrs_list PySem.F.slot_list_insert PySem.F.type_list_insert (fun i => mt_insert) ho (tyL (seen_view i e1)) (da_two ha hb hs hs2) (fun F σ H H0 x vs hh hx hv Q k => by
    cases hv with
    | cons h1' hv =>
      cases hv with
      | cons h2' hv =>
        cases hv
        cases (show x = .ref p from hx)
        cases (show _ = V.int n from h1')
        obtain ⟨_, hn, ws, hw, hall⟩ := hh.own e2
        refine ⟨p, ws, n, _, rfl, rfl, hw, by rw [hall.len]; exact szl hl, h0, by omega, ?_⟩
        exact k _ F _ (go_ol hh i e2 (((hall.take _).append (.cons h2' .nil)).append (hall.drop _))) rfl) hbase hfew hline hs hplain
end
end
end PD

set_option Elab.async false
set_option linter.all false
set_option maxRecDepth 100000
set_option maxHeartbeats 4000000
namespace PD
open PySem L2

/-! ### what is walked -/
/-- what stands stays -/
structure Keep (ρ : List Slot) (F H F2 H2 : Hp) : Prop where
  ex : Ex F F2
  exh : Ex F2 H2
  old : ∀ q o, H q = some o → ¬ Owns ρ H q → H2 q = some o
theorem Go.keep' {ρ ρ' : List Slot} {F H F' H' : Hp} {σ' : L2.St} (g : Go ρ F H ρ' σ' F' H') : Keep ρ F H F' H' := ⟨g.ex, g.hold.ex, g.old⟩
def IterOk {α : Type} (J : It) (R : Rp α) (xs : List α) (ρ : List Slot) (F H : Hp) : Prop :=
  ∃ (G : Hp → Prop) (Y : Nat → Hp → V → Hp → Prop), Walk J xs.length G Y ∧ (∀ F2 H2, Keep ρ F H F2 H2 → G H2) ∧
    ∀ i x F2 H2 v H3, xs[i]? = some x → Keep ρ F H F2 H2 → Y i H2 v H3 → (H3 = H2 ∧ R.rel F2 v x) ∨ ∃ T o, H2 T = none ∧ H3 = upd H2 T o ∧ R.rel (upd F2 T o) v x
def EvI {α : Type} (wi : TI) (ρ : List Slot) (R : Rp α) (xs : List α) (ρ' : List Slot) : Prop :=
  ∀ F σ H, Hold F σ H ρ → ∀ RR : It → Hp → Prop, (∀ J F' H', Go ρ F H ρ' σ F' H' → IterOk J R xs ρ' F' H' → RR J H') → wi σ H RR
section
variable {ι : Type}
def tiOf (X : ι → Cx) (tg it : Expr) : TI := fun σ H RR => ∀ (i : ι) (pins : List (Addr × Obj)) (s : Shared), Inv (X i) pins σ H s →
  wpAny (model (X i).prog (X i).w) (X i).A (eval it (X i).env) (fun v s1 => wpAny (model (X i).prog (X i).w) (X i).A (pyIter v) (PIE (X i) pins σ tg RR) (X i).xe s1) (X i).xe s
def tgOf (X : ι → Cx) (tg : Expr) : TG := fun v σ H Q => ∀ (i : ι) (pins : List (Addr × Obj)) (s : Shared) (u : Value), Inv (X i) pins σ H s → RelV v u →
  wpAny (model (X i).prog (X i).w) (X i).A (assign tg (X i).env u) (fun _ s' => ∃ σ' H', Inv (X i) pins σ' H' s' ∧ Q σ' H') (X i).xe s
def tgsOf (X : ι → Cx) (tgs : List Expr) : TGs := fun vs σ H Q => ∀ (i : ι) (pins : List (Addr × Obj)) (s : Shared) (us : List Value), Inv (X i) pins σ H s → Vals vs us →
  wpAny (model (X i).prog (X i).w) (X i).A (assignInOrder ((assignEach tgs (X i).env).map (·.2)) us) (fun _ s' => ∃ σ' H', Inv (X i) pins σ' H' s' ∧ Q σ' H') (X i).xe s
variable {X : ι → Cx}
theorem canI (tg it : Expr) (i : ι) : PI (X i) tg it (tiOf X tg it) := ⟨fun pins s σ H R I h => h i pins s I⟩
theorem canG (tg : Expr) (i : ι) : PG (X i) tg (tgOf X tg) := ⟨fun pins s σ H v u Q I r h => h i pins s u I r⟩
theorem canGs (tg : List Expr) (i : ι) : PGs (X i) tg (tgsOf X tg) := ⟨fun pins s σ H vs us Q I r h => h i pins s us I r⟩
def DI {α : Type} (X : ι → Cx) (ρ : List Slot) (tg it : Expr) (R : Rp α) (xs : List α) (ρ' : List Slot) : Prop := EvI (tiOf X tg it) ρ R xs ρ'
/-- the slots but those at ts are as they were -/
def Same' (ts : List Nat) (σ σ' : L2.St) : Prop := σ'.length = σ.length ∧ ∀ j, j ∉ ts → σ'[j]? = σ[j]?
theorem Same'.refl {ts : List Nat} {σ : L2.St} : Same' ts σ σ := ⟨rfl, fun _ _ => rfl⟩
/-- a target takes x -/
def EvG {α : Type} (g : TG) (ts : List Nat) (R : Rp α) (x : α) (ρ ρ' : List Slot) : Prop :=
  ∀ F σ H v, Hold F σ H ρ → R.rel F v x → ∀ Q : L2.St → Hp → Prop, (∀ σ', Hold F σ' H ρ' → (∀ q, Owns ρ' H q → Owns ρ H q) → Same' ts σ σ' → Q σ' H) → g v σ H Q
def DG {α : Type} (X : ι → Cx) (tg : Expr) (ts : List Nat) (R : Rp α) (x : α) (ρ ρ' : List Slot) : Prop := EvG (tgOf X tg) ts R x ρ ρ'
variable {ρ ρ1 ρ2 ρ3 : List Slot} {α β γ δ : Type} {R : Rp α} {S : Rp β} {T : Rp γ} {U : Rp δ} {tg it e : Expr} {g : TG} {wi : TI} {pos p' : Pos}
theorem di_of {xs : List α} (h : ∀ i, PI (X i) tg it wi) (q : EvI wi ρ R xs ρ1) : DI X ρ tg it R xs ρ1 := fun F σ H hh RR k i pins s I => (h i).run pins s σ H RR I (q F σ H hh RR k)
theorem dg_of {x : α} {ts : List Nat} (h : ∀ i, PG (X i) tg g) (q : EvG g ts R x ρ ρ1) : DG X tg ts R x ρ ρ1 := fun F σ H v hh hr Q k i pins s u I r => (h i).run pins s σ H v u Q I r (q F σ H v hh hr Q k)
theorem go_of_hold {F H : Hp} {σ σ' : L2.St} (hh : Hold F σ H ρ) (h' : Hold F σ' H ρ1) (ho : ∀ q, Owns ρ1 H q → Owns ρ H q) : Go ρ F H ρ1 σ' F H :=
  ⟨h', fun _ _ e => e, fun _ _ e _ => e, fun _ _ _ e _ => e, fun _ e => e, fun q w => .inl (ho q w)⟩

/-! ### targets -/
theorem eg_name {i : Nat} {x : α} : EvG (gName i) [i] R x ρ (ρ.set i (.imm R x)) := fun F σ H v hh hr Q k =>
  k _ (hh.set ⟨v, rfl, hr⟩ fun q f => f.elim) (fun q w => (owns_set w).elim id fun z => z.elim) ⟨by rw [List.length_set], fun j hj => List.getElem?_set_ne (fun e => hj (by simp [e]))⟩
theorem dg_name (i : Nat) {n : Str} {x : α} (hN : ∀ j, (X j).N.Nodup) (hi : ∀ j, (X j).N[i]? = some n) (hx : ∀ j, Loc (X j).env.scope n) (hf : ∀ j, (X j).fn n = true ∨ (X j).env.scope.names.lookup n = some .local) : DG X (.Name n pos) [i] R x ρ (ρ.set i (.imm R x)) :=
  dg_of (fun j => pg_name (hN j) (hi j) (hx j) (hf j)) eg_name
/-- several targets take values -/
inductive AllS (F : Hp) : List V → List Slot → Prop
  | nil : AllS F [] []
  | cons {v : V} {vs : List V} {β : Type} {S : Rp β} {y : β} {ss : List Slot} : S.rel F v y → AllS F vs ss → AllS F (v :: vs) (.imm S y :: ss)
def EvGs (g : TGs) (ts : List Nat) (ss : List Slot) (ρ ρ' : List Slot) : Prop :=
  ∀ F σ H vs, Hold F σ H ρ → AllS F vs ss → ∀ Q : L2.St → Hp → Prop, (∀ σ', Hold F σ' H ρ' → (∀ q, Owns ρ' H q → Owns ρ H q) → Same' ts σ σ' → Q σ' H) → g vs σ H Q
def DGs (X : ι → Cx) (tgs : List Expr) (ts : List Nat) (ss : List Slot) (ρ ρ' : List Slot) : Prop := EvGs (tgsOf X tgs) ts ss ρ ρ'
theorem dgs_of {g : TGs} {tgs : List Expr} {ts : List Nat} {ss : List Slot} (h : ∀ i, PGs (X i) tgs g) (q : EvGs g ts ss ρ ρ1) : DGs X tgs ts ss ρ ρ1 := fun F σ H vs hh hr Q k i pins s u I r => (h i).run pins s σ H vs u Q I r (q F σ H vs hh hr Q k)
theorem dgs_nil : DGs X [] [] [] ρ ρ := dgs_of (fun i => pgs_nil) fun F σ H vs hh hr Q k => by
  cases hr
  exact ⟨rfl, k σ hh (fun _ w => w) Same'.refl⟩
theorem dgs_cons {e : Expr} {es : List Expr} {y : β} {ts us : List Nat} {ss : List Slot} (h1 : DG X e ts S y ρ ρ1) (h2 : DGs X es us ss ρ1 ρ2) (hs : ∀ i, (assignEach (e :: es) (X i).env).map (·.2) = assign e (X i).env :: (assignEach es (X i).env).map (·.2)) : DGs X (e :: es) (ts ++ us) (.imm S y :: ss) ρ ρ2 :=
  dgs_of (fun i => pgs_cons (canG e i) (canGs es i) (hs i)) fun F σ H vs hh hr Q k => by
    cases hr with
    | cons a b => exact ⟨_, _, rfl, h1 F σ H _ hh a _ fun σ1 hh1 o1 s1 => h2 F σ1 H _ hh1 b Q fun σ2 hh2 o2 s2 => k σ2 hh2 (fun q w => o1 q (o2 q w)) ⟨s2.1.trans s1.1, fun j hj => (s2.2 j fun z => hj (by simp [z])).trans (s1.2 j fun z => hj (by simp [z]))⟩⟩
theorem dg_tup [hF : Fam X X0] {es : List Expr} {k : Nat} {n : Nat} {x : α} {ts : List Nat} {ss : List Slot} (hx : ∀ F v, R.rel F v x → ∃ a vs, v = .ref a ∧ F a = some (.tup vs) ∧ vs.length = n ∧ AllS F vs ss) (h : DGs X es ts ss ρ ρ1)
    (hn : ∀ i, (assignEach es (X i).env).length = n) (hst : ∀ i, (assignEach es (X i).env).findIdx? (·.1) = none) : DG X (.Tuple es k pos) ts R x ρ ρ1 :=
  dg_of (g := gTup X0.K n (tgsOf X es)) (fun i => by rw [← hF.K i]; exact pg_tup (hF.calm i) (canGs es i) (hn i) (hst i)) fun F σ H v hh hr Q q => by
    obtain ⟨a, vs, rfl, h1, h2, h3⟩ := hx F v hr
    exact ⟨a, vs, rfl, SqT.of (hh.ex a _ h1), h2, h F σ H vs hh h3 Q q⟩
theorem dg_2 [hF : Fam X X0] {a b : Expr} {k : Nat} {x : α × β} {ts : List Nat} (h : DGs X [a, b] ts [.imm R x.1, .imm S x.2] ρ ρ1) (hn : ∀ i, (assignEach [a, b] (X i).env).length = 2) (hst : ∀ i, (assignEach [a, b] (X i).env).findIdx? (·.1) = none) : DG X (.Tuple [a, b] k pos) ts (R2T R S) x ρ ρ1 :=
  dg_tup (fun F v ⟨p, v1, v2, e1, e2, r1, r2⟩ => ⟨p, _, e1, e2, rfl, .cons r1 (.cons r2 .nil)⟩) h hn hst
theorem dg_3 [hF : Fam X X0] {a b c : Expr} {k : Nat} {x : α × β × γ} {ts : List Nat} (h : DGs X [a, b, c] ts [.imm R x.1, .imm S x.2.1, .imm T x.2.2] ρ ρ1) (hn : ∀ i, (assignEach [a, b, c] (X i).env).length = 3) (hst : ∀ i, (assignEach [a, b, c] (X i).env).findIdx? (·.1) = none) : DG X (.Tuple [a, b, c] k pos) ts (R3T R S T) x ρ ρ1 :=
  dg_tup (fun F v ⟨p, v1, v2, v3, e1, e2, r1, r2, r3⟩ => ⟨p, _, e1, e2, rfl, .cons r1 (.cons r2 (.cons r3 .nil))⟩) h hn hst
theorem dg_4 [hF : Fam X X0] {a b c d : Expr} {k : Nat} {x : α × β × γ × δ} {ts : List Nat} (h : DGs X [a, b, c, d] ts [.imm R x.1, .imm S x.2.1, .imm T x.2.2.1, .imm U x.2.2.2] ρ ρ1) (hn : ∀ i, (assignEach [a, b, c, d] (X i).env).length = 4) (hst : ∀ i, (assignEach [a, b, c, d] (X i).env).findIdx? (·.1) = none) : DG X (.Tuple [a, b, c, d] k pos) ts (R4T R S T U) x ρ ρ1 :=
  dg_tup (fun F v ⟨p, v1, v2, v3, v4, e1, e2, r1, r2, r3, r4⟩ => ⟨p, _, e1, e2, rfl, .cons r1 (.cons r2 (.cons r3 (.cons r4 .nil)))⟩) h hn hst

/-! ### iterables -/
theorem di_list [hF : Fam X X0] {xs : List α} (h : DV X ρ it (.imm (RL R) xs) ρ1) : DI X ρ tg it R xs ρ1 :=
  di_of (wi := iList X0.K (teOf X it)) (fun i => by rw [← hF.K i]; exact pi_list (can it i)) fun F σ H hh RR k => h F σ H hh _ fun v F1 H1 g rv => by
    obtain ⟨a, vs, rfl, e1, e2⟩ := rv
    refine ⟨a, rfl, ⟨vs, SqL.of (g.hold.ex a _ e1)⟩, k _ F1 H1 g ⟨_, _, e2.len ▸ walk_list (K := X0.K) (xs := vs), fun F2 H2 kp => SqL.of (kp.exh a _ (kp.ex a _ e1)), fun i x F2 H2 v H3 hx kp y => ?_⟩⟩
    obtain ⟨w, hw, rw⟩ := e2.get hx
    obtain ⟨y1, y2⟩ := y
    cases hw.symm.trans y2
    exact .inl ⟨y1, R.up kp.ex rw⟩
theorem di_new [hF : Fam X X0] {xs : List α} (h : DV X ρ it (.new (OL R) xs) ρ1) : DI X ρ tg it R xs ρ1 := di_list (dv_fz h)
theorem di_tup [hF : Fam X X0] {xs : List α} (h : DV X ρ it (.imm (RT R) xs) ρ1) : DI X ρ tg it R xs ρ1 :=
  di_of (wi := iTup X0.K (teOf X it)) (fun i => by rw [← hF.K i]; exact pi_tup (can it i)) fun F σ H hh RR k => h F σ H hh _ fun v F1 H1 g rv => by
    obtain ⟨a, vs, rfl, e1, e2⟩ := rv
    refine ⟨a, rfl, ⟨vs, SqT.of (g.hold.ex a _ e1)⟩, k _ F1 H1 g ⟨_, _, e2.len ▸ walk_tup (K := X0.K) (xs := vs), fun F2 H2 kp => SqT.of (kp.exh a _ (kp.ex a _ e1)), fun i x F2 H2 v H3 hx kp y => ?_⟩⟩
    obtain ⟨w, hw, rw⟩ := e2.get hx
    obtain ⟨y1, y2⟩ := y
    cases hw.symm.trans y2
    exact .inl ⟨y1, R.up kp.ex rw⟩
/-- 0, 1, .. below n ; a, a + 1, .. below b -/
def rng (a b : Int) : List Int := (List.range (b - a).toNat).map fun (i : Nat) => a + (i : Int)
theorem rng_len (a b : Int) : (rng a b).length = (b - a).toNat := by simp [rng]
theorem rng_get {a b x : Int} {i : Nat} (h : (rng a b)[i]? = some x) : x = a + (i : Int) ∧ i < (b - a).toNat := by
  unfold rng at h
  rw [List.getElem?_map] at h
  by_cases hi : i < (b - a).toNat
  · rw [List.getElem?_range hi] at h
    exact ⟨(Option.some.inj h).symm, hi⟩
  · rw [List.getElem?_eq_none (by simpa using hi)] at h
    cases h
theorem rng_mem {a b x : Int} (h : x ∈ rng a b) : a ≤ x ∧ x < b := by
  obtain ⟨i, hi⟩ := List.mem_iff_getElem?.mp h
  obtain ⟨e, l⟩ := rng_get hi
  omega
theorem it_rng {F H : Hp} {lo : Int} {n : Nat} {xs : List Int} (hl : xs.length = n) (hg : ∀ (i : Nat) (x : Int), xs[i]? = some x → x = lo + (i : Int)) : IterOk (Itr lo n) RInt xs ρ F H :=
  ⟨fun _ => True, YFn fun i => .int (lo + i), by rw [hl]; exact walk_range, fun _ _ _ => trivial, fun i x F2 H2 v H3 hx _ y => .inl ⟨y.1, by
    rw [hg i x hx]
    exact y.2⟩⟩
theorem di_range1 [hF : Fam X X0] [hB : Blt X0] {n : Int} (h : DV X ρ e (.imm RInt n) ρ1) (h0 : -(2 ^ 62) ≤ n) (h1 : n < 2 ^ 62) (hg : ∀ i, Gl (X i) "range") (hs : ∀ i, starEach [e] (X i).env = (false, eval e (X i).env) :: starEach [] (X i).env) (hs' : ∀ i, starEach [e] (X i).env = [(false, eval e (X i).env)]) : DI X ρ tg (.Call (.Name "range" p') [e] [] pos) RInt (rng 0 n) ρ1 :=
  di_of (wi := iRng1 (taOf X [e])) (fun i => pi_range1 (hg i) (by rw [hF.mg i]; exact hB.range) (canA [e] i) (hs' i)) fun F σ H hh RR k => da_one h hs F σ H hh _ fun vs F1 H1 g rv => by
    cases rv with
    | cons a b =>
      cases b
      cases (show _ = V.int n from a)
      exact ⟨n, rfl, h0, h1, k _ F1 H1 g (it_rng (by rw [rng_len]; omega) fun i x hx => (rng_get hx).1)⟩
theorem di_range2 [hF : Fam X X0] [hB : Blt X0] {e2 : Expr} {lo n : Int} (h : DV X ρ e (.imm RInt lo) ρ1) (h2 : DV X ρ1 e2 (.imm RInt n) ρ2) (hb : -(2 ^ 62) ≤ lo ∧ lo < 2 ^ 62 ∧ -(2 ^ 62) ≤ n ∧ n < 2 ^ 62) (hg : ∀ i, Gl (X i) "range") (hs : ∀ i, starEach [e, e2] (X i).env = (false, eval e (X i).env) :: starEach [e2] (X i).env)
    (hs2 : ∀ i, starEach [e2] (X i).env = (false, eval e2 (X i).env) :: starEach [] (X i).env) (hs' : ∀ i, starEach [e, e2] (X i).env = [(false, eval e (X i).env), (false, eval e2 (X i).env)]) (hs'' : ∀ i, starEach [e2] (X i).env = [(false, eval e2 (X i).env)]) : DI X ρ tg (.Call (.Name "range" p') [e, e2] [] pos) RInt (rng lo n) ρ2 :=
  di_of (wi := iRng2 (taOf X [e, e2])) (fun i => pi_range2 (hg i) (by rw [hF.mg i]; exact hB.range) (canA _ i) (hs' i) (hs'' i)) fun F σ H hh RR k => da_two h h2 hs hs2 F σ H hh _ fun vs F1 H1 g rv => by
    cases rv with
    | cons a b =>
      cases b with
      | cons b c =>
        cases c
        cases (show _ = V.int lo from a)
        cases (show _ = V.int n from b)
        exact ⟨lo, n, rfl, hb, k _ F1 H1 g (it_rng (by rw [rng_len]) fun i x hx => (rng_get hx).1)⟩
/-! ### for -/
theorem ev_for {xs : List α} {tb : TS} {P : Post} (hi : EvI wi ρ R xs ρ1) (I : Nat → List Slot → Prop) (h0 : I 0 ρ1)
    (hs : ∀ k x ρk, xs[k]? = some x → I k ρk → ∃ ts ρk', EvG g ts R x ρk ρk' ∧ EvS tb ρk' { P with nx := I (k + 1), ct := I (k + 1), bk := P.nx }) (hd : ∀ ρn, I xs.length ρn → P.nx ρn) : EvS (tFor wi g tb) ρ P := fun F σ H D hh k1 k2 k3 k4 =>
  hi F σ H hh _ fun J F1 H1 g1 ⟨G, Y, w, hG, hY⟩ => by
    refine for_it w (fun k σ' H' => ∃ ρk F', I k ρk ∧ Go ρ1 F1 H1 ρk σ' F' H') ⟨ρ1, F1, h0, Go.refl g1.hold⟩ (fun k σ' H' _ ⟨ρk, F', _, g2⟩ => hG F' H' g2.keep') ?_ fun σ' H' ⟨ρk, F', ik, g2⟩ => k1 ρk σ' F' H' (hd ρk ik) (g1.trans g2)
    rintro k v σ' H' H3 hk ⟨ρk, F', ik, g2⟩ y
    have hx : xs[k]? = some xs[k] := List.getElem?_eq_getElem hk
    obtain ⟨ts, ρk', hg, hb⟩ := hs k xs[k] ρk hx ik
    have main : ∀ F3, R.rel F3 v xs[k] → Go ρ1 F1 H1 ρk σ' F3 H3 → g v σ' H3 fun σ2 H2 => tb { D with nx := fun σ' H' => ∃ ρk F', I (k + 1) ρk ∧ Go ρ1 F1 H1 ρk σ' F' H', ct := fun σ' H' => ∃ ρk F', I (k + 1) ρk ∧ Go ρ1 F1 H1 ρk σ' F' H', bk := D.nx } σ2 H2 := fun F3 hr g3 =>
      hg F3 σ' H3 v g3.hold hr _ fun σ2 h2 ho _ => by
        have g4 := g3.trans (go_of_hold g3.hold h2 ho)
        have g5 := g1.trans g4
        exact hb F3 σ2 H3 _ h2 (fun ρ' σ3 F4 H4 q g6 => ⟨ρ', F4, q, g4.trans g6⟩) (fun ρ' r σ3 F4 H4 v q g6 rv => k2 ρ' r σ3 F4 H4 v q (g5.trans g6) (rv.back g5.there))
          (fun ρ' σ3 F4 H4 q g6 => k1 ρ' σ3 F4 H4 q (g5.trans g6)) (fun ρ' σ3 F4 H4 q g6 => ⟨ρ', F4, q, g4.trans g6⟩)
    rcases hY k xs[k] F' H' v H3 hx g2.keep' y with ⟨rfl, hr⟩ | ⟨T, o, hT, rfl, hr⟩
    · exact main F' hr g2
    · exact main _ hr (g2.trans (Go.alloc g2.hold hT))
class POwn {ι : Type} (X : ι → Cx) : Prop where
  own : ∀ i, PassesOwn (model (X i).prog (X i).w) (X i).A (X i).env (X i).xe
theorem ds_for [hF : Fam X X0] [hP : POwn X] {xs : List α} {body : List Stmt} {P : Post} (hi : DI X ρ tg it R xs ρ1) (I : Nat → List Slot → Prop) (h0 : I 0 ρ1)
    (hs : ∀ k x ρk, xs[k]? = some x → I k ρk → ∃ ts ρk', DG X tg ts R x ρk ρk' ∧ DSs X ρk' body { P with nx := I (k + 1), ct := I (k + 1), bk := P.nx }) (hd : ∀ ρn, I xs.length ρn → P.nx ρn)
    (hfs : ∀ i x, foldedSetIterable it (X i).env x = pure x) : DS X ρ (.For tg it body [] pos) P :=
  ds_of (fun i => ps_for (hP.own i) (hF.calm i) (canI tg it i) (canG tg i) (canSs body i) (hfs i)) (ev_for hi I h0 hs hd)
/-- the invariant an environment told by the prefix -/
theorem ds_forE [hF : Fam X X0] [hP : POwn X] {xs : List α} {body : List Stmt} {P : Post} (hi : DI X ρ tg it R xs ρ1) (E : List α → List Slot) (h0 : Wk ρ1 (E []))
    (hs : ∀ pre x suf, xs = pre ++ x :: suf → ∃ ts ρk', DG X tg ts R x (E pre) ρk' ∧ DSs X ρk' body { P with nx := fun ρ' => Wk ρ' (E (pre ++ [x])), ct := fun ρ' => Wk ρ' (E (pre ++ [x])), bk := P.nx }) (hd : ∀ ρ', Wk ρ' (E xs) → P.nx ρ')
    (hfs : ∀ i x, foldedSetIterable it (X i).env x = pure x) : DS X ρ (.For tg it body [] pos) P := by
  refine ds_for hi (fun k ρk => Wk ρk (E (xs.take k))) (by simpa using h0) (fun k x ρk hx ik => ?_) (fun ρn ik => hd ρn (by simpa using ik)) hfs
  have hk : k < xs.length := (List.getElem?_eq_some_iff.mp hx).1
  have hxe : xs[k] = x := (List.getElem?_eq_some_iff.mp hx).2
  have e : xs = xs.take k ++ x :: xs.drop (k + 1) := by rw [← hxe, ← List.drop_eq_getElem_cons hk, List.take_append_drop]
  obtain ⟨ts, ρk', h1, h2⟩ := hs (xs.take k) x (xs.drop (k + 1)) e
  have et : xs.take k ++ [x] = xs.take (k + 1) := by rw [List.take_add_one, hx]; rfl
  rw [et] at h2
  refine ⟨ts, ρk', fun F σ H v hh hr Q q => h1 F σ H v (hh.wk ik) hr Q fun σ' a b c => q σ' a (fun u w => ik.owns (b u w)) c, h2⟩

/-! ### while -/
theorem ev_while {c : TT} {tb : TS} {P : Post} (I : Nat → List Slot → Prop) (m0 : Nat) (h0 : I m0 ρ)
    (hs : ∀ m ρk, I m ρk → ∃ b ρk1, EvT c ρk b ρk1 ∧ (b = true → EvS tb ρk1 { P with nx := fun ρ' => ∃ m', m' < m ∧ I m' ρ', ct := fun ρ' => ∃ m', m' < m ∧ I m' ρ', bk := P.nx }) ∧ (b = false → P.nx ρk1)) : EvS (tWhile c tb) ρ P := fun F σ H D hh k1 k2 k3 k4 => by
  refine ⟨fun m σ' H' => ∃ ρk F', I m ρk ∧ Go ρ F H ρk σ' F' H', ⟨m0, ρ, F, h0, Go.refl hh⟩, ?_⟩
  rintro m σ' H' ⟨ρk, F', ik, g⟩
  obtain ⟨b, ρk1, hc, hb, hn⟩ := hs m ρk ik
  refine hc F' σ' H' g.hold _ fun F1 H1 g1 => ?_
  have g2 := g.trans g1
  cases b with
  | true =>
    rw [if_pos rfl]
    refine ⟨fun σ' H' => ∃ m', m' < m ∧ ∃ ρk F', I m' ρk ∧ Go ρ F H ρk σ' F' H', fun σ3 H3 ⟨m', l, q⟩ => ⟨m', l, q⟩, ?_⟩
    exact hb rfl F1 σ' H1 _ g1.hold (fun ρ' σ3 F4 H4 ⟨m', l, q⟩ g6 => ⟨m', l, ρ', F4, q, g2.trans g6⟩) (fun ρ' r σ3 F4 H4 v q g6 rv => k2 ρ' r σ3 F4 H4 v q (g2.trans g6) (rv.back g2.there))
      (fun ρ' σ3 F4 H4 q g6 => k1 ρ' σ3 F4 H4 q (g2.trans g6)) (fun ρ' σ3 F4 H4 ⟨m', l, q⟩ g6 => ⟨m', l, ρ', F4, q, g2.trans g6⟩)
  | false =>
    rw [if_neg Bool.false_ne_true]
    exact k1 ρk1 σ' F1 H1 (hn rfl) g2
theorem ds_while [hP : POwn X] {c : Expr} {body : List Stmt} {P : Post} (I : Nat → List Slot → Prop) (m0 : Nat) (h0 : I m0 ρ)
    (hs : ∀ m ρk, I m ρk → ∃ b ρk1, DT X ρk c b ρk1 ∧ (b = true → DSs X ρk1 body { P with nx := fun ρ' => ∃ m', m' < m ∧ I m' ρ', ct := fun ρ' => ∃ m', m' < m ∧ I m' ρ', bk := P.nx }) ∧ (b = false → P.nx ρk1)) : DS X ρ (.While c body [] pos) P :=
  ds_of (fun i => ps_while (hP.own i) (canT c i) (canSs body i)) (ev_while I m0 h0 hs)
end
end PD

set_option Elab.async false
set_option linter.all false
set_option maxRecDepth 100000
set_option maxHeartbeats 4000000
namespace PDE
open PySem
open Sem (wp)
/-- enumerate(v), v anything that begins -/
theorem meets_enumerate_new1 {v : Value} {o : Obj} {H : Heap → Prop} (B : Begins v o H) :
    Meets (Builtin.«enumerate.__new__» ⟨[.type "enumerate", v], []⟩) (fun _ R s => H s.heap ∧
      R (.ok (.ret (.ref (s.heap.push o).objs.size))) { s with heap := (s.heap.push o).push { cls := .type "enumerate", data := .fields #[.none, .bool false, .ref s.heap.objs.size, rawInt 0, .none, .none] } }) :=
  .of_wp fun prog w A R s h => by
    obtain ⟨hp, g, d, tk, os⟩ := s; obtain ⟨h1, h⟩ := h
    have hsub := sub_enumerate
    have q1 : ∀ {A' : Around} {E : Value → Shared → Prop} {Q : Value → Shared → Prop}, Q (.ref hp.objs.size) ⟨hp.push o, g, d, tk, os⟩ → wpAny (model prog w) A' (pyIter v) Q E ⟨hp, g, d, tk, os⟩ :=
      fun q => B.iter prog w _ _ ⟨hp, g, d, tk, os⟩ _ h1 q
    wp_walk using q1
    refine wpAny_stack_any fun st => wpAny_pure ?_
    split
    · rename_i c _ _ _ _ _
      cases (c == Value.type "enumerate")
      · wp_walk using q1
        exact ⟨_, rfl, h⟩
      · wp_walk using q1
        exact ⟨_, rfl, h⟩
    · wp_walk using q1
      exact ⟨_, rfl, h⟩
section
variable {prog : Program} {w : World} {A : Around} {E : Value → Shared → Prop} {s : Shared}
theorem enum_begins1 {v : Value} {o : Obj} {H : Heap → Prop} {Q : Value → Shared → Prop} (B : Begins v o H) (h1 : H s.heap)
    (h : ∀ h', IsEnum h' (s.heap.objs.size + 1) s.heap.objs.size 0 .none → h'.get? s.heap.objs.size = some o → h'.objs.size = s.heap.objs.size + 2 →
      (∀ b o, s.heap.get? b = some o → h'.get? b = some o) → Q (.ref (s.heap.objs.size + 1)) { s with heap := h' }) :
    wpAny (model prog w) A (call (.type "enumerate") [v]) Q E s := by
  refine callType_new F.called_enumerate (by decide) (F.typeCall_enumerate_1 _) (F.newCall_enumerate_1 _) (fun obj => F.args_object_init_2 obj _) F.entry_enumerate_new
    (meets_enumerate_new1 B) ⟨h1, ?_⟩
  have hz : (s.heap.push o).objs.size = s.heap.objs.size + 1 := Heap.size_push ..
  show _ ∧ _
  rw [hz]
  have he : IsEnum ((s.heap.push o).push { cls := .type "enumerate", data := .fields #[.none, .bool false, .ref s.heap.objs.size, rawInt 0, .none, .none] }) (s.heap.objs.size + 1) s.heap.objs.size 0 .none := by
    have := Heap.get?_push_size (s.heap.push o) (o := { cls := .type "enumerate", data := .fields #[.none, .bool false, .ref s.heap.objs.size, rawInt 0, .none, .none] }) rfl
    rw [hz] at this; exact this
  refine ⟨⟨_, he, rfl⟩, h _ he (Heap.get?_push_of_some _ (Heap.get?_push_size _ B.free)) (by rw [Heap.size_push, hz]) fun b o x => Heap.get?_push_of_some _ (Heap.get?_push_of_some _ x)⟩
end
end PDE
namespace L2
open PySem PySem.Spec PyProof.Rows
def IteT (K : PySem.W.Frag) (a : Addr) : It :=
  ⟨fun i H => ∃ (xs : List V) (x : V), SqT K H a xs ∧ xs[i]? = some x, fun i H v H' => ∃ T x, v = .ref T ∧ H T = none ∧ H' = upd H T (.tup [.int (i : Nat), x]) ∧ ∀ xs, SqT K H a xs → xs[i]? = some x, fun i H => ∃ xs : List V, SqT K H a xs ∧ xs.length ≤ i⟩
theorem turn_enumT {P : Program} {w : World} {K : PySem.W.Frag} {elts : List Expr} {kk : Nat} {tpos : Pos} (a e it : Addr) :
    Turn P w K (.Tuple elts kk tpos) (IteT K a) [e, it] e (fun i h => (∃ old, IsEnum h e it ((i : Nat) : Int) old) ∧ h.IsTupleIter it a i ∧ e ≠ it ∧ a ≠ it ∧ a ≠ e) where
  mem := by simp
  obj := fun i h st b hb => by
    obtain ⟨⟨old, he⟩, ⟨o, ho, hc, hd⟩, _⟩ := st
    have e' : b = e ∨ b = it := by simpa using hb
    rcases e' with z | z
    · rw [z]; exact ⟨_, he, fun v q => nomatch q⟩
    · rw [z]; exact ⟨o, ho, fun v q => by rw [hd] at q; cases q⟩
  keep := fun i h h' st k => let ⟨⟨old, he⟩, hi, hne⟩ := st; ⟨⟨old, k e (by simp) _ he⟩, hi.at fun o q => k it (by simp) o q, hne⟩
  item := by
    intro X hP hw hK hc i pins s σ H E I hf st hg
    subst hP hw hK
    obtain ⟨⟨old, he⟩, hit, hne, ha1, ha2⟩ := st
    obtain ⟨xs, x, hq, hx⟩ := hg
    obtain ⟨its, rv, p, hz⟩ := I.tuple hq
    obtain ⟨u, hu, ru⟩ := rv.get hx
    have hel : e < s.heap.objs.size := Heap.lt_size he
    have hil : it < s.heap.objs.size := by obtain ⟨_, q, _⟩ := hit; exact Heap.lt_size q
    have hlt : i < its.toArray.size := by
      have := (List.getElem?_eq_some_iff.mp hu).1
      simpa using this
    refine wpAny_pyNext_enum_itemD (Draws.tuple (show X.A.in1.handled = none from I.ok.hd hc) it a ha1 its.toArray) he ⟨hit, show s.heap.IsTuple a its.toArray from p⟩ hlt hne (by simp [hne, Ne.symm ha2]) fun x' h' tk hx' ho hit' hT hsz hk => ?_
    have hxu : x' = u := by
      have q : its.toArray[i]? = some u := by simpa using hu
      rw [q] at hx'
      exact (Option.some.inj hx').symm
    subst hxu
    refine ⟨_, rfl, wpAny_letOwnedTupleGo_enum (s := { s with heap := h', toks := tk + 1 }) ho fun h'' he' sb => ?_⟩
    have hT2 : h''.get? s.heap.objs.size = some { cls := .type "tuple", data := .seq #[.int i tk, x'] } := (sb.2 _ (Nat.ne_of_gt hel)).trans hT
    have new : ObjOk X.prog X.w (upd H s.heap.objs.size (.tup [.int (i : Nat), x])) h'' s.heap.objs.size (.tup [.int (i : Nat), x]) :=
      ⟨by show 2 ≤ sizeLine; decide, [.int i tk, x'], .cons ⟨_, rfl⟩ (.cons ru .nil), ⟨_, hT2, rfl, _, rfl⟩⟩
    have I1 : Inv X pins σ (upd H s.heap.objs.size (.tup [.int (i : Nat), x])) { s with heap := h'', toks := tk + 1 } :=
      I.turnedNew (ch := [e, it]) (fun b ob hb q => (sb.2 b (fun z => hb (by simp [z]))).trans (hk b ob (fun z => hb (by simp [z])) (fun z => hb (by simp [z])) q)) hf (Nat.le_refl _) new
    refine ⟨.ref s.heap.objs.size, _, I1, rfl, ⟨_, x, rfl, I.hok.fresh (Nat.le_refl _), rfl, fun ys hy => by rw [I.tuple_inj hy hq]; exact hx⟩, ⟨⟨x', ?_⟩, hit'.1.at fun o q => (sb.2 it (Ne.symm hne)).trans q, hne, ha1, ha2⟩, fun b hb => ?_⟩
    · have e1 : ((i + 1 : Nat) : Int) = (i : Int) + 1 := by omega
      rw [e1]; exact he'
    · have hb' : b < s.heap.objs.size := by
        have e' : b = e ∨ b = it := by simpa using hb
        rcases e' with z | z
        · rw [z]; exact hel
        · rw [z]; exact hil
      rw [upd_ne (Nat.ne_of_lt hb')]
      exact (hf b hb).1
  done := by
    intro X hP hw hK hc i pins s σ H E I hf st hg
    subst hP hw hK
    obtain ⟨⟨old, he⟩, hit, hne, ha1, ha2⟩ := st
    obtain ⟨xs, hq, hx⟩ := hg
    obtain ⟨its, rv, p, hz⟩ := I.tuple hq
    obtain ⟨f0, f1, f2, f3, f4, f5⟩ := hf it (by simp)
    have hl := rv.length
    have hh : X.A.in1.handled = none := I.ok.hd hc
    unfold pyNext
    have hT : s.TypeIs (.ref e) "enumerate" := ⟨_, he, rfl⟩
    refine wpAny_bind (wpAny_attempt (wpAny_callSpecial?_slot (name := Str.ofString "__next__") hT F.slot_enumerate_next
      (wpAny_call_entry F.slot_enumerate_next hT F.entry_enumerate_next ?_ (F.args_enumerate_next_1 _))))
    show wpAny _ _ (field (.ref e) 2 >>= _) _ _ _
    refine wpAny_bind (wpAny_field he rfl (x := .ref it) rfl ?_)
    refine wpAny_bind (wpAny_nextOf_tuple_end hh hit (show s.heap.IsTuple a its.toArray from p) (by simp; omega) fun h' x he' hx' => ?_)
    obtain ⟨o, ho, hc⟩ := hx'
    refine wpAny_bind (wpAny_isInstance (T := "StopIteration") (b := true) ⟨o, ho, hc⟩ isSubtype_stop ?_)
    exact wpAny_pure ⟨rfl, I.turned (t' := s.toks) (fun b o hb q => he' b o hb q) f0 f1 f3 f4 f5⟩
  self := fun A i s Q E st h => let ⟨⟨_, he⟩, _⟩ := st; wpAny_pyIter_enum he h
def iEnumT (K : PySem.W.Frag) (ta : TA) : TI := fun σ H R => ta σ H fun vs H1 => ∃ a xs, vs = [.ref a] ∧ SqT K H1 a xs ∧ R (IteT K a) H1
theorem pi_enumT {X : Cx} {e : Expr} {ta : TA} {p pos tpos : Pos} {elts : List Expr} {kk : Nat} (hg : Gl X "enumerate") (hm : X.mg "enumerate" = none) (ha : PA X [e] ta) (hs : starEach [e] X.env = [(false, eval e X.env)] := by rfl) :
    PI X (.Tuple elts kk tpos) (.Call (.Name "enumerate" p) [e] [] pos) (iEnumT X.K ta) := by
  refine ⟨fun pins s σ H R I h => ?_⟩
  refine Call_ (ld_blt I hg hm boot_enumerate (PyProof.Rows.callWith_type1 (thn (ha.run pos pins s σ H _ I h) fun us s1 ⟨vs, H1, I1, r1, q1⟩ => ?_) hs rfl))
  obtain ⟨a, xs, ex, hq, q⟩ := q1
  subst ex
  cases r1 with
  | cons r rr =>
    cases rr
    cases r
    obtain ⟨its, rv, p', hz⟩ := I1.tuple hq
    have hal : a < s1.heap.objs.size := p'.lt
    refine PDE.enum_begins1 (begins_tuple a its.toArray) (show s1.heap.IsTuple a its.toArray from p') fun h' he hit hsz hk => wpAny_pyIter_enum he ?_
    have I2 : Inv X pins σ H1 { s1 with heap := h' } := I1.kept (t' := s1.toks) hk
    refine ⟨s1.heap.objs.size + 1, [s1.heap.objs.size + 1, s1.heap.objs.size], _, _, H1, rfl, I2, turn_enumT a (s1.heap.objs.size + 1) s1.heap.objs.size, ⟨⟨.none, he⟩, ⟨_, hit, rfl, rfl⟩, Nat.succ_ne_self _, Nat.ne_of_lt hal, Nat.ne_of_lt (Nat.lt_succ_of_lt hal)⟩, fun b hb => ?_, q⟩
    have e' : b = s1.heap.objs.size + 1 ∨ b = s1.heap.objs.size := by simpa using hb
    have hle : s1.heap.objs.size ≤ b := by
      rcases e' with z | z
      · rw [z]; exact Nat.le_add_right _ _
      · rw [z]; exact Nat.le_refl _
    exact I1.fpOk hle (I1.hok.fresh hle)
theorem walk_enumT {K : PySem.W.Frag} {a : Addr} {xs : List V} : Walk (IteT K a) xs.length (fun H => SqT K H a xs) (YPair (fun i => some (.int (i : Nat))) (fun i => xs[i]?)) := by
  refine ⟨fun i _ hi q => ⟨xs, xs[i], q, by simp [hi]⟩, fun _ q => ⟨xs, q, Nat.le_refl _⟩, fun i H v H' _ q y => ?_⟩
  obtain ⟨T, x, h1, h2, h3, h4⟩ := y
  exact ⟨T, .int (i : Nat), x, h1, h2, h3, rfl, h4 xs q⟩
end L2

set_option Elab.async false
set_option linter.all false
set_option maxRecDepth 100000
set_option maxHeartbeats 4000000
namespace PD
open PySem L2

/-! ### enumerate, zip -/
/-- (k, x0), (k + 1, x1), .. -/
def en {α : Type} (k : Nat) : List α → List (Int × α)
  | [] => []
  | x :: xs => ((k : Int), x) :: en (k + 1) xs
theorem en_len {α : Type} : ∀ (k : Nat) (xs : List α), (en k xs).length = xs.length
  | _, [] => rfl
  | k, _ :: xs => by simp [en, en_len (k + 1) xs]
theorem en_get {α : Type} : ∀ (k : Nat) (xs : List α) (i : Nat), (en k xs)[i]? = xs[i]?.map fun x => (((k + i : Nat) : Int), x)
  | _, [], i => by simp [en]
  | k, x :: xs, 0 => by simp [en]
  | k, x :: xs, i + 1 => by
    simp only [en, List.getElem?_cons_succ]
    rw [en_get (k + 1) xs i, show k + 1 + i = k + (i + 1) by omega]
theorem en_append {α : Type} : ∀ (k : Nat) (xs ys : List α), en k (xs ++ ys) = en k xs ++ en (k + xs.length) ys
  | k, [], ys => by simp [en]
  | k, x :: xs, ys => by
    simp only [List.cons_append, en, List.length_cons]
    rw [en_append (k + 1) xs ys, show k + 1 + xs.length = k + (xs.length + 1) by omega]
section
variable {ι : Type} {X : ι → Cx} {X0 : Cx} [hF : Fam X X0] [hB : Blt X0] {ρ ρ1 ρ2 ρ3 : List Slot} {α β γ δ : Type} {R : Rp α} {S : Rp β} {T : Rp γ} {U : Rp δ} {e e2 : Expr} {elts : List Expr} {kk : Nat} {pos p' tpos : Pos}
theorem pair_ok {F2 H2 : Hp} {ws us : Nat → Option V} {i : Nat} {v : V} {H3 : Hp} {a : V} {b : V} {x : α} {y : β} (hy : YPair ws us i H2 v H3) (ha : ws i = some a) (hb : us i = some b) (hx : R.rel F2 a x) (hy' : S.rel F2 b y) (fx : Ex F2 H2) :
    (H3 = H2 ∧ (R2T R S).rel F2 v (x, y)) ∨ ∃ T o, H2 T = none ∧ H3 = upd H2 T o ∧ (R2T R S).rel (upd F2 T o) v (x, y) := by
  obtain ⟨T, c, d, rfl, hT, rfl, hc, hd⟩ := hy
  cases ha.symm.trans hc
  cases hb.symm.trans hd
  have g : Ex F2 (upd F2 T (.tup [a, b])) := Evl.Ex.new (Evl.fresh_back fx hT)
  exact .inr ⟨T, _, hT, rfl, T, a, b, rfl, upd_same, R.up g hx, S.up g hy'⟩
include hF hB
theorem di_enumL {xs : List α} (h : DV X ρ e (.imm (RL R) xs) ρ1) (hg : ∀ i, Gl (X i) "enumerate") (hs : ∀ i, starEach [e] (X i).env = (false, eval e (X i).env) :: starEach [] (X i).env) (hs' : ∀ i, starEach [e] (X i).env = [(false, eval e (X i).env)]) : DI X ρ (.Tuple elts kk tpos) (.Call (.Name "enumerate" p') [e] [] pos) (R2T RInt R) (en 0 xs) ρ1 :=
  di_of (wi := iEnum X0.K (taOf X [e])) (fun i => by rw [← hF.K i]; exact pi_enum (hg i) (by rw [hF.mg i]; exact hB.enumerate) (canA [e] i) (hs' i)) fun F σ H hh RR k => da_one h hs F σ H hh _ fun vs F1 H1 g rv => by
    cases rv with
    | cons a b =>
      cases b
      obtain ⟨p, ws, rfl, e1, e2⟩ := id a
      refine ⟨p, ws, rfl, SqL.of (g.hold.ex p _ e1), k _ F1 H1 g ⟨_, _, ((en_len 0 xs).trans e2.len.symm) ▸ walk_enum (K := X0.K) (xs := ws), fun F2 H2 kp => SqL.of (kp.exh p _ (kp.ex p _ e1)), fun i x F2 H2 v H3 hx kp y => ?_⟩⟩
      rw [en_get] at hx
      obtain ⟨z, hz, rfl⟩ := Option.map_eq_some_iff.mp hx
      obtain ⟨w, hw, rw⟩ := e2.get hz
      exact pair_ok (R := RInt) y rfl hw (by rw [Nat.zero_add]; rfl) (R.up kp.ex rw) kp.exh
theorem di_enumT {xs : List α} (h : DV X ρ e (.imm (RT R) xs) ρ1) (hg : ∀ i, Gl (X i) "enumerate") (hs : ∀ i, starEach [e] (X i).env = (false, eval e (X i).env) :: starEach [] (X i).env) (hs' : ∀ i, starEach [e] (X i).env = [(false, eval e (X i).env)]) : DI X ρ (.Tuple elts kk tpos) (.Call (.Name "enumerate" p') [e] [] pos) (R2T RInt R) (en 0 xs) ρ1 :=
  di_of (wi := iEnumT X0.K (taOf X [e])) (fun i => by rw [← hF.K i]; exact pi_enumT (hg i) (by rw [hF.mg i]; exact hB.enumerate) (canA [e] i) (hs' i)) fun F σ H hh RR k => da_one h hs F σ H hh _ fun vs F1 H1 g rv => by
    cases rv with
    | cons a b =>
      cases b
      obtain ⟨p, ws, rfl, e1, e2⟩ := id a
      refine ⟨p, ws, rfl, SqT.of (g.hold.ex p _ e1), k _ F1 H1 g ⟨_, _, ((en_len 0 xs).trans e2.len.symm) ▸ walk_enumT (K := X0.K) (xs := ws), fun F2 H2 kp => SqT.of (kp.exh p _ (kp.ex p _ e1)), fun i x F2 H2 v H3 hx kp y => ?_⟩⟩
      rw [en_get] at hx
      obtain ⟨z, hz, rfl⟩ := Option.map_eq_some_iff.mp hx
      obtain ⟨w, hw, rw⟩ := e2.get hz
      exact pair_ok (R := RInt) y rfl hw (by rw [Nat.zero_add]; rfl) (R.up kp.ex rw) kp.exh
end

/-! ### comprehensions -/
section
variable {ι : Type}
def blkF (X : ι → Cx) (scope : Scope) : ι × Shared × Hp × Addr × List (Str × Addr) × List Addr → Cx := fun t => (X t.1).blk t.2.1 t.2.2.1 scope (compEnvC scope t.2.2.2.2.1 t.2.2.2.1 (X t.1).env) t.2.2.2.2.2
instance {X : ι → Cx} {X0 : Cx} {scope : Scope} [hF : Fam X X0] : Fam (blkF X scope) X0 where
  prog := fun t => hF.prog t.1
  w := fun t => hF.w t.1
  K := fun t => hF.K t.1
  mg := fun t => hF.mg t.1
  base := fun t => hF.base t.1
  A := fun t => hF.A t.1
  N := fun t => hF.N t.1
  calm := fun t => hF.calm t.1
  nd := hF.nd
  u := hF.u
end
section
variable {F F1 F2 F' H H0 H1 H2 H' : Hp} {σ σ1 σ2 σ' : L2.St} {ρ ρ0 ρ1 ρ2 ρ' : List Slot} {p q : Addr} {o : HO} {v : V} {w : Option V} {s : Slot} {α : Type} {R : Ro α} {x : α}
theorem get_append_last.{u} {β : Type u} {l : List β} {a : β} {i : Nat} {b : β} (h : (l ++ [a])[i]? = some b) : l[i]? = some b ∨ (i = l.length ∧ b = a) := by
  by_cases hi : i < l.length
  · rw [List.getElem?_append_left hi] at h; exact .inl h
  · rw [List.getElem?_append_right (by omega)] at h
    by_cases hz : i - l.length = 0
    · rw [hz] at h; exact .inr ⟨by omega, (Option.some.inj h).symm⟩
    · rw [List.getElem?_eq_none (by simp; omega)] at h; cases h
/-- without the last slot -/
theorem Hold.init (h : Hold F (σ ++ [w]) H (ρ ++ [s])) : Hold F σ H ρ where
  ex := h.ex
  len := by have := h.len; simpa using this
  ok := fun i w s e1 e2 => h.ok i w s (by rw [List.getElem?_append_left (List.getElem?_eq_some_iff.mp e1).1]; exact e1) (by rw [List.getElem?_append_left (List.getElem?_eq_some_iff.mp e2).1]; exact e2)
  sep := fun i j p p' q α β R x S y e1 e2 => h.sep i j p p' q α β R x S y (by rw [List.getElem?_append_left (List.getElem?_eq_some_iff.mp e1).1]; exact e1) (by rw [List.getElem?_append_left (List.getElem?_eq_some_iff.mp e2).1]; exact e2)
theorem owns_app {q : Addr} (h : Owns (ρ ++ [.own p R x]) H q) : Owns ρ H q ∨ R.foot H p q := by
  obtain ⟨i, p', β, S, y, e, f⟩ := h
  rcases get_append_last e with e | ⟨_, e⟩
  · exact .inl ⟨i, p', β, S, y, e, f⟩
  · cases e; exact .inr f
theorem owns_app1 {q : Addr} (h : Owns ρ H q) : Owns (ρ ++ [s]) H q := by
  obtain ⟨i, p', β, S, y, e, f⟩ := h
  exact ⟨i, p', β, S, y, by rw [List.getElem?_append_left (List.getElem?_eq_some_iff.mp e).1]; exact e, f⟩
theorem owns_app2 {q : Addr} (f : R.foot H p q) : Owns (ρ ++ [.own p R x]) H q := ⟨ρ.length, p, _, R, x, by simp, f⟩
theorem Hold.lastOwn (h : Hold F (σ ++ [w]) H (ρ ++ [.own p R x])) : w = some (.ref p) ∧ R.rel F H p x ∧ ∀ q, R.foot H p q → ¬ Owns ρ H q := by
  have hl : σ.length = ρ.length := by have := h.len; simpa using this
  have e : (ρ ++ [Slot.own p R x])[ρ.length]? = some (.own p R x) := by simp
  obtain ⟨e1, e2⟩ := h.own e
  rw [← hl] at e1
  simp at e1
  refine ⟨e1, e2, fun q f ⟨i, p', β, S, y, e', f'⟩ => ?_⟩
  have hi : i < ρ.length := (List.getElem?_eq_some_iff.mp e').1
  have := h.sep i ρ.length p' p q _ _ S y R x (by rw [List.getElem?_append_left hi]; exact e') e f' f
  omega
/-- a slot more, its own object disjoint -/
theorem Hold.app (h : Hold F σ H ρ) (hr : R.rel F H p x) (hd : ∀ q, R.foot H p q → ¬ Owns ρ H q) : Hold F (σ ++ [some (.ref p)]) H (ρ ++ [.own p R x]) where
  ex := h.ex
  len := by simp [h.len]
  ok := fun i w s e1 e2 => by
    rcases get_append_last e2 with e2 | ⟨ei, es⟩
    · have hi : i < σ.length := by rw [h.len]; exact (List.getElem?_eq_some_iff.mp e2).1
      rw [List.getElem?_append_left hi] at e1
      exact h.ok i w s e1 e2
    · subst es
      rw [ei, ← h.len] at e1
      simp at e1
      exact ⟨e1.symm, hr⟩
  sep := fun i j p1 p2 q α' β' S y T z e1 e2 f1 f2 => by
    rcases get_append_last e1 with e1 | ⟨ei, e1⟩
    · rcases get_append_last e2 with e2 | ⟨ej, e2⟩
      · exact h.sep i j p1 p2 q α' β' S y T z e1 e2 f1 f2
      · cases e2; exact absurd ⟨i, p1, α', S, y, e1, f1⟩ (hd q f2)
    · rcases get_append_last e2 with e2 | ⟨ej, e2⟩
      · cases e1; exact absurd ⟨j, p2, β', T, z, e2, f2⟩ (hd q f1)
      · omega
/-- a step beside an own object that it does not know -/
theorem Go.frame (hh : Hold F (σ ++ [some (.ref p)]) H (ρ ++ [.own p R x])) (g : Go ρ F H ρ' σ' F' H') : Go (ρ ++ [.own p R x]) F H (ρ' ++ [.own p R x]) (σ' ++ [some (.ref p)]) F' H' := by
  obtain ⟨_, hr, hd⟩ := hh.lastOwn
  have k : ∀ q, R.foot H p q → H' q = H q ∧ F' q = none := fun q f => by
    obtain ⟨a, o, b⟩ := R.out hr f
    exact ⟨(g.old q o b (hd q f)).trans b.symm, g.new q o b a (hd q f)⟩
  have kf : ∀ q, R.foot H' p q → R.foot H p q := fun q f => R.stayf hr (fun q f => (k q f).1) f
  have hd' : ∀ q, R.foot H' p q → ¬ Owns ρ' H' q := fun q f w => by
    rcases g.owns q w with z | z
    · exact hd q (kf q f) z
    · obtain ⟨_, o, b⟩ := R.out hr (kf q f)
      rw [z] at b; cases b
  refine ⟨g.hold.app (R.stay hr g.ex k) hd', g.ex, fun q o e n => g.old q o e fun z => n (owns_app1 z), fun q o e f n => g.new q o e f fun z => n (owns_app1 z), g.there, fun q w => ?_⟩
  rcases owns_app w with z | z
  · exact (g.owns q z).imp owns_app1 id
  · exact .inl (owns_app2 (kf q z))
/-- other values where nothing is known -/
theorem Hold.vals (h : Hold F σ H ρ) (hl : σ'.length = σ.length) (hv : ∀ i : Nat, ρ[i]? = some Slot.any ∨ σ'[i]? = σ[i]?) : Hold F σ' H ρ where
  ex := h.ex
  len := hl.trans h.len
  ok := fun i w s e1 e2 => by
    rcases hv i with z | z
    · rw [z] at e2; cases e2; trivial
    · exact h.ok i w s (z ▸ e1) e2
  sep := h.sep
end
def wipeS (ρ : List Slot) : List Nat → List Slot
  | [] => ρ
  | v :: vs => (wipeS ρ vs).set v Slot.any
def Slot.still : Option Slot → Slot
  | some (.imm R x) => .imm R x
  | _ => .any
/-- behind a block: what its own names held ahead of it -/
def backS (ρ ρb : List Slot) : List Nat → List Slot
  | [] => ρb
  | v :: vs => (backS ρ ρb vs).set v (Slot.still ρ[v]?)
theorem wipeS_len (ρ : List Slot) : ∀ vs, (wipeS ρ vs).length = ρ.length
  | [] => rfl
  | v :: vs => by unfold wipeS; rw [List.length_set, wipeS_len ρ vs]
theorem wipeS_get {ρ : List Slot} : ∀ {vs : List Nat} {i : Nat} {s : Slot}, (wipeS ρ vs)[i]? = some s → s = .any ∨ (i ∉ vs ∧ ρ[i]? = some s)
  | [], i, s, h => .inr ⟨by simp, h⟩
  | v :: vs, i, s, h => by
    unfold wipeS at h
    rcases set_get h with ⟨_, e⟩ | ⟨hj, h⟩
    · exact .inl e
    · rcases wipeS_get h with e | ⟨e1, e2⟩
      · exact .inl e
      · exact .inr ⟨by simp [hj, e1], e2⟩
theorem backS_len (ρ ρb : List Slot) : ∀ vs, (backS ρ ρb vs).length = ρb.length
  | [] => rfl
  | v :: vs => by unfold backS; rw [List.length_set, backS_len ρ ρb vs]
theorem backS_get {ρ ρb : List Slot} : ∀ {vs : List Nat} {i : Nat} {s : Slot}, (backS ρ ρb vs)[i]? = some s → (i ∉ vs ∧ ρb[i]? = some s) ∨ s = Slot.still ρ[i]?
  | [], i, s, h => .inl ⟨by simp, h⟩
  | v :: vs, i, s, h => by
    unfold backS at h
    rcases set_get h with ⟨e0, e⟩ | ⟨hj, h⟩
    · exact .inr (by rw [e, e0])
    · rcases backS_get h with ⟨e1, e2⟩ | e
      · exact .inl ⟨by simp [hj, e1], e2⟩
      · exact .inr e
section
variable {F F1 F2 F' H H0 H1 H2 H' : Hp} {σ σ1 σ2 σ' : L2.St} {ρ ρ0 ρ1 ρ2 ρ' ρb : List Slot} {vs : List Nat}
theorem Hold.wiped (h : Hold F σ H ρ) : Hold F (L2.wipe σ vs) H (wipeS ρ vs) where
  ex := h.ex
  len := by rw [wipe_length, wipeS_len]; exact h.len
  ok := fun i w s e1 e2 => by
    rcases wipeS_get e2 with e | ⟨n, e⟩
    · subst e; trivial
    · rw [wipe_out n] at e1
      exact h.ok i w s e1 e
  sep := fun i j p p' q α β R x S y e1 e2 => by
    rcases wipeS_get e1 with e | ⟨n, e⟩
    · cases e
    · rcases wipeS_get e2 with d | ⟨m, d⟩
      · cases d
      · exact h.sep i j p p' q α β R x S y e d
theorem wipeS_owns {q : Addr} (w : Owns (wipeS ρ vs) H q) : Owns ρ H q := by
  obtain ⟨i, p, α, R, x, e, f⟩ := w
  rcases wipeS_get e with d | ⟨_, d⟩
  · cases d
  · exact ⟨i, p, α, R, x, d, f⟩
theorem still_own {o : Option Slot} {p : Addr} {α : Type} {R : Ro α} {x : α} (e : Slot.own p R x = Slot.still o) : False := by
  unfold Slot.still at e
  split at e <;> cases e
theorem backS_owns {q : Addr} (w : Owns (backS ρ ρb vs) H q) : Owns ρb H q := by
  obtain ⟨i, p, α, R, x, e, f⟩ := w
  rcases backS_get e with ⟨_, d⟩ | d
  · exact ⟨i, p, α, R, x, d, f⟩
  · exact (still_own d).elim
theorem Hold.backS (h : Hold F σ H ρ) (hb : Hold F' (wipe σ vs) H' ρb) (ex : Ex F F') : Hold F' σ H' (backS ρ ρb vs) where
  ex := hb.ex
  len := by rw [backS_len, ← hb.len, wipe_length]
  ok := fun i w s e1 e2 => by
    rcases backS_get e2 with ⟨n, e⟩ | e
    · exact hb.ok i w s (by rw [wipe_out n]; exact e1) e
    · subst e
      cases hr : ρ[i]? with
      | none => trivial
      | some s =>
        cases s with
        | any => trivial
        | own p R x => trivial
        | imm R x =>
          obtain ⟨v, a, r⟩ := h.ok i w _ e1 hr
          exact ⟨v, a, R.up ex r⟩
  sep := fun i j p p' q α β R x S y e1 e2 => by
    rcases backS_get e1 with ⟨n, e⟩ | e
    · rcases backS_get e2 with ⟨m, d⟩ | d
      · exact hb.sep i j p p' q α β R x S y e d
      · exact (still_own d).elim
    · exact (still_own e).elim
end
section
variable {α β : Type} {R : Rp α} {S : Rp β} {ρ ρ1 : List Slot} {wi : TI} {g : TG} {tt : TT} {te : TE} {vs : List Nat} {xs : List α}
theorem wipe_same {ts vs : List Nat} {σ σ' : L2.St} (hs : Same' ts σ σ') (h : ∀ i ∈ ts, i ∈ vs) : wipe σ' vs = wipe σ vs := by
  refine List.ext_getElem? fun i => ?_
  have hl : (wipe σ' vs).length = (wipe σ vs).length := by rw [wipe_length, wipe_length]; exact hs.1
  by_cases hi : i ∈ vs
  · have key : ∀ (σ : L2.St) (vs : List Nat), i ∈ vs → (wipe σ vs)[i]? = if i < σ.length then some none else none := fun σ vs => by
      induction vs with
      | nil => intro h; simp at h
      | cons v vs ih =>
        intro hm
        unfold wipe
        by_cases hv : v = i
        · subst hv
          by_cases hlt : v < σ.length
          · rw [List.getElem?_set_self (by rw [wipe_length]; exact hlt), if_pos hlt]
          · rw [List.getElem?_eq_none (by rw [List.length_set, wipe_length]; omega), if_neg hlt]
        · rw [List.getElem?_set_ne hv]
          exact ih (by rcases List.mem_cons.mp hm with e | e; exact absurd e.symm hv; exact e)
    rw [key _ _ hi, key _ _ hi, hs.1]
  · rw [wipe_out hi, wipe_out hi]
    exact hs.2 i fun z => hi (h i z)
theorem ev_lc (hi : EvI wi ρ R xs ρ1) (E : Nat → List Slot) (acc : Nat → List β) (h0 : E 0 = wipeS ρ1 vs) (ha : acc 0 = []) (hE : ∀ k, k ≤ xs.length → ∀ i ∈ vs, (E k)[i]? = some Slot.any ∨ (E k)[i]? = none) (hl : ∀ k, k ≤ xs.length → (acc k).length ≤ 10000000)
    (hs : ∀ k x, xs[k]? = some x → ∃ ts ρk b ρk1, (∀ i ∈ ts, i ∈ vs) ∧ EvG g ts R x (E k) ρk ∧ EvT tt ρk b ρk1 ∧ (b = true → ∃ y ρk2, EvV te ρk1 (.imm S y) ρk2 ∧ Wk ρk2 (E (k + 1)) ∧ acc (k + 1) = acc k ++ [y]) ∧ (b = false → Wk ρk1 (E (k + 1)) ∧ acc (k + 1) = acc k)) :
    EvV (tLc wi g tt te vs) ρ (.new (OL S) (acc xs.length)) (backS ρ1 (E xs.length) vs) := fun F σ H hh Q kk =>
  hi F σ H hh _ fun J F1 H1 g1 ⟨G, Y, w, hG, hY⟩ D hD => by
    have hF1 : F1 D = none := Evl.fresh_back g1.hold.ex hD
    have gD : Go ρ1 F1 H1 ρ1 σ F1 (upd H1 D (.lst [])) := Go.allocO g1.hold hD
    have nD : ¬ Owns ρ1 (upd H1 D (.lst [])) D := fun z => g1.hold.notOwn hD (owns_step g1.hold (fun q w => by
      obtain ⟨_, u, b⟩ := g1.hold.owned w
      exact upd_ne (ne_of_none b hD)) z)
    have hb0 : Hold F1 (wipe σ vs) (upd H1 D (.lst [])) (wipeS ρ1 vs) := gD.hold.wiped
    have hb : Hold F1 (wipe σ vs ++ [some (.ref D)]) (upd H1 D (.lst [])) (E 0 ++ [.own D (OL S) (acc 0)]) := by
      rw [h0, ha]
      exact hb0.app ⟨hF1, [], upd_same, .nil⟩ fun q f z => by
        have f' : q = D := f
        rw [f'] at z
        exact nD (wipeS_owns z)
    refine lc_it w (fun k H' => ∃ F', Go (E 0 ++ [.own D (OL S) (acc 0)]) F1 (upd H1 D (.lst [])) (E k ++ [.own D (OL S) (acc k)]) (wipe σ vs ++ [some (.ref D)]) F' H') ⟨F1, Go.refl hb⟩ ?_ ?_ ?_
    · rintro k H' _ ⟨F', g2⟩
      refine hG F' H' ⟨g2.ex, g2.hold.ex, fun q o e n => g2.old q o (by rw [upd_ne (ne_of_none e hD)]; exact e) fun z => ?_⟩
      rcases owns_app z with z | z
      · rw [h0] at z
        exact n (owns_step g1.hold (fun q w => by
          obtain ⟨_, u, b⟩ := g1.hold.owned w
          exact upd_ne (ne_of_none b hD)) (wipeS_owns z))
      · have z' : q = D := z
        rw [z', hD] at e; cases e
    · rintro k v H' H3 hk ⟨F', g2⟩ y
      have hx : xs[k]? = some xs[k] := List.getElem?_eq_getElem hk
      obtain ⟨ts, ρk, b, ρk1, hts, hg, ht, h1, h2⟩ := hs k xs[k] hx
      have kp : Keep ρ1 F1 H1 F' H' := ⟨g2.ex, g2.hold.ex, fun q o e n => g2.old q o (by rw [upd_ne (ne_of_none e hD)]; exact e) fun z => by
        rcases owns_app z with z | z
        · rw [h0] at z
          exact n (owns_step g1.hold (fun q w => by
            obtain ⟨_, u, b⟩ := g1.hold.owned w
            exact upd_ne (ne_of_none b hD)) (wipeS_owns z))
        · have z' : q = D := z
          rw [z', hD] at e; cases e⟩
      have main : ∀ F3, R.rel F3 v xs[k] → Go (E 0 ++ [.own D (OL S) (acc 0)]) F1 (upd H1 D (.lst [])) (E k ++ [.own D (OL S) (acc k)]) (wipe σ vs ++ [some (.ref D)]) F3 H3 →
          g v (wipe σ vs) H3 fun σ2 H2 => wipe σ2 vs = wipe σ vs ∧ tt σ2 H2 fun b H3 => if b = true then te σ2 H3 fun y H4 => ∃ acc', H4 D = some (.lst acc') ∧ acc'.length < sizeLine ∧
            ∃ F', Go (E 0 ++ [.own D (OL S) (acc 0)]) F1 (upd H1 D (.lst [])) (E (k + 1) ++ [.own D (OL S) (acc (k + 1))]) (wipe σ vs ++ [some (.ref D)]) F' (upd H4 D (.lst (acc' ++ [y])))
            else ∃ F', Go (E 0 ++ [.own D (OL S) (acc 0)]) F1 (upd H1 D (.lst [])) (E (k + 1) ++ [.own D (OL S) (acc (k + 1))]) (wipe σ vs ++ [some (.ref D)]) F' H3 := fun F3 hr g3 => by
        refine hg F3 (wipe σ vs) H3 v g3.hold.init hr _ fun σ2 hh2 ho hsm => ?_
        have hw : wipe σ2 vs = wipe σ vs := by
          rw [wipe_same hsm hts]
          refine List.ext_getElem? fun i => ?_
          by_cases him : i ∈ vs
          · have hww : ∀ σ : L2.St, wipe (wipe σ vs) vs = wipe σ vs := fun σ => by
              have := wipe_same (ts := vs) (vs := vs) (σ := wipe σ vs) (σ' := σ) ⟨(wipe_length σ vs).symm, fun j hj => (wipe_out hj).symm⟩ fun i h => h
              exact this.symm
            rw [hww]
          · rw [wipe_out him]
        refine ⟨hw, ht F3 σ2 H3 hh2 _ fun F4 H4 g4 => ?_⟩
        -- back to the block's values
        have toE : ∀ {ρe : List Slot} {F5 H5 : Hp} {o : HO} {zs : List β}, Go (E 0 ++ [.own D (OL S) (acc 0)]) F1 (upd H1 D (.lst [])) (ρe ++ [.own D (OL S) zs]) (σ2 ++ [some (.ref D)]) F5 H5 → Wk ρe (E (k + 1)) →
            Go (E 0 ++ [.own D (OL S) (acc 0)]) F1 (upd H1 D (.lst [])) (E (k + 1) ++ [.own D (OL S) zs]) (wipe σ vs ++ [some (.ref D)]) F5 H5 := fun {ρe F5 H5 o zs} g5 wk => by
          have wapp : ∀ {a b : List Slot}, Wk a b → Wk (a ++ [Slot.own D (OL S) zs]) (b ++ [Slot.own D (OL S) zs]) := fun {a b} h => by
            induction h with
            | nil => exact .keep .nil
            | keep _ ih => exact .keep ih
            | forget _ ih => exact .forget ih
          have g6 := g5.wk (wapp wk)
          refine ⟨g6.hold.vals ?_ fun i => ?_, g6.ex, g6.old, g6.new, g6.there, g6.owns⟩
          · rw [List.length_append, List.length_append, wipe_length, hsm.1, wipe_length]
          · by_cases him : i ∈ vs
            · by_cases hil : i < (E (k + 1)).length
              · rcases hE (k + 1) hk i him with z | z
                · exact .inl (by rw [List.getElem?_append_left hil]; exact z)
                · rw [List.getElem?_eq_none_iff] at z; omega
              · have hlen : (E (k + 1)).length = (wipe σ vs).length := by
                  have := g6.hold.len
                  rw [List.length_append, List.length_append, hsm.1] at this
                  simpa using this.symm
                have hlen2 : (E (k + 1)).length = σ2.length := by rw [hlen, hsm.1]
                exact .inr (by rw [List.getElem?_append_right (by omega), List.getElem?_append_right (by omega), ← hlen, ← hlen2])
            · refine .inr ?_
              have e1 : (wipe σ vs)[i]? = σ2[i]? := by
                have := hsm.2 i fun z => him (hts i z)
                exact this.symm
              by_cases hil : i < σ2.length
              · rw [List.getElem?_append_left (by rw [← hsm.1]; exact hil), List.getElem?_append_left hil, e1]
              · rw [List.getElem?_append_right (by rw [← hsm.1]; omega), List.getElem?_append_right (by omega), hsm.1]
        have g3' : Go (E 0 ++ [.own D (OL S) (acc 0)]) F1 (upd H1 D (.lst [])) (ρk ++ [.own D (OL S) (acc k)]) (σ2 ++ [some (.ref D)]) F3 H3 := by
          have fr := Go.frame g3.hold (go_of_hold g3.hold.init hh2 ho)
          exact g3.trans fr
        have g4' := g3'.trans (Go.frame g3'.hold g4)
        cases b with
        | true =>
          rw [if_pos rfl]
          obtain ⟨yv, ρk2, hv, wk, eacc⟩ := h1 rfl
          refine hv F4 σ2 H4 g4.hold _ fun yv' F5 H5 g5 r5 => ?_
          have g5' := g4'.trans (Go.frame g4'.hold g5)
          have hDl : (ρk2 ++ [Slot.own D (OL S) (acc k)])[ρk2.length]? = some (.own D (OL S) (acc k)) := by simp
          obtain ⟨_, _, ws, hws, hall⟩ := g5'.hold.own hDl
          refine ⟨ws, hws, by rw [hall.len]; exact szl (hl k (by omega)), F5, ?_⟩
          have g6 := g5'.trans (go_ol g5'.hold ρk2.length hDl (hall.append (.cons r5 .nil)))
          have es : (ρk2 ++ [Slot.own D (OL S) (acc k)]).set ρk2.length (.own D (OL S) (acc k ++ [yv])) = ρk2 ++ [Slot.own D (OL S) (acc k ++ [yv])] := by simp
          rw [es, ← eacc] at g6
          exact toE (o := .lst []) g6 wk
        | false =>
          rw [if_neg Bool.false_ne_true]
          obtain ⟨wk, eacc⟩ := h2 rfl
          rw [eacc]
          exact ⟨F4, toE (o := .lst []) g4' wk⟩
      rcases hY k xs[k] F' H' v H3 hx kp y with ⟨rfl, hr⟩ | ⟨T, o, hT, rfl, hr⟩
      · exact main F' hr g2
      · exact main _ hr (g2.trans (Go.alloc g2.hold hT))
    · rintro H' ⟨F', g2⟩
      have hlast : (E xs.length ++ [Slot.own D (OL S) (acc xs.length)])[(E xs.length).length]? = some (.own D (OL S) (acc xs.length)) := by simp
      obtain ⟨_, hr, hd⟩ := g2.hold.lastOwn
      have hB : Hold F' σ H' (backS ρ1 (E xs.length) vs) := g1.hold.backS g2.hold.init g2.ex
      have no : ∀ q, ¬ Owns ρ1 H1 q → q ≠ D → ¬ Owns (E 0 ++ [.own D (OL S) (acc 0)]) (upd H1 D (.lst [])) q := fun q n ne z => by
        rcases owns_app z with z | z
        · rw [h0] at z
          exact n (owns_step g1.hold (fun q w => by
            obtain ⟨_, u, b⟩ := g1.hold.owned w
            exact upd_ne (ne_of_none b hD)) (wipeS_owns z))
        · exact ne z
      have gf : Go ρ1 F1 H1 (backS ρ1 (E xs.length) vs) σ F' H' := by
        refine ⟨hB, g2.ex, fun q o e n => ?_, fun q o e f n => ?_, fun q e => gD.there q (g2.there q e), fun q w => ?_⟩
        · have ne := ne_of_none e hD
          exact g2.old q o (by rw [upd_ne ne]; exact e) (no q n ne)
        · have ne := ne_of_none e hD
          exact g2.new q o (by rw [upd_ne ne]; exact e) f (no q n ne)
        · have w1 : Owns (E xs.length) H' q := backS_owns w
          rcases g2.owns q (owns_app1 w1) with z | z
          · rcases owns_app z with z | z
            · rw [h0] at z
              exact .inl (owns_step g1.hold (fun q w => by
                obtain ⟨_, u, b⟩ := g1.hold.owned w
                exact upd_ne (ne_of_none b hD)) (wipeS_owns z))
            · have z' : q = D := z
              exact .inr (by rw [z']; exact hD)
          · exact .inr (gD.there q z)
      refine kk _ F' H' (g1.trans gf) ⟨D, rfl, fun q f => ⟨?_, fun w => hd q f (backS_owns w)⟩, hr⟩
      have f' : q = D := f
      rw [f']
      exact g1.there D hD
end
end PD

set_option Elab.async false
set_option linter.all false
set_option maxRecDepth 100000
set_option maxHeartbeats 4000000
namespace PD
open PySem L2

section
variable {ι : Type} {X : ι → Cx} {X0 : Cx} [hF : Fam X X0] {ρ ρ1 ρ2 ρ3 : List Slot} {α β γ δ : Type} {R : Rp α} {S : Rp β} {T : Rp γ} {U : Rp δ} {e e2 elt tg iter c : Expr} {pos p' tpos py spos : Pos} {scope : Scope} {own : List (Str × Nat)} {xs : List α} {r : Res} {P : Post}
/-- a comprehension's reading, one for, with one test or none -/
def LC (X : ι → Cx) (ρ : List Slot) (elt tg iter : Expr) (ifs : List Expr) (scope : Scope) (vs : List Nat) (r : Res) (ρ' : List Slot) : Prop :=
  (ifs = [] ∧ EvV (tLc (tiOf X tg iter) (tgOf (blkF X scope) tg) tYes (teOf (blkF X scope) elt) vs) ρ r ρ') ∨
    ∃ c, ifs = [c] ∧ EvV (tLc (tiOf X tg iter) (tgOf (blkF X scope) tg) (ttOf (blkF X scope) c) (teOf (blkF X scope) elt) vs) ρ r ρ'
include hF
theorem dv_lc {ifs : List Expr} (h : LC X ρ elt tg iter ifs scope (own.map (·.2)) r ρ1) (ok : ∀ i, blkC (X i).N (X i).env.scope scope own = true) (hs : ∀ i x, foldedSetIterable iter (X i).env x = pure x) : DV X ρ (.ListComp elt [⟨tg, iter, ifs, 0⟩] scope pos) r ρ1 := by
  have nd : ∀ i, (X i).N.Nodup := fun i => by rw [hF.N i]; exact hF.nd
  rcases h with ⟨rfl, h⟩ | ⟨c, rfl, h⟩
  · exact dv_of (fun i => pe_lc (hF.calm i) (nd i) (canI tg iter i) (blkOk_by (ok i)) (fun s H C cl fp => canG (X := blkF X scope) tg (i, s, H, C, cl, fp)) (fun _ _ _ _ _ => pts_nil) (fun s H C cl fp => can (X := blkF X scope) elt (i, s, H, C, cl, fp)) (hs i)) h
  · exact dv_of (fun i => pe_lc (hF.calm i) (nd i) (canI tg iter i) (blkOk_by (ok i)) (fun s H C cl fp => canG (X := blkF X scope) tg (i, s, H, C, cl, fp)) (fun s H C cl fp => pts_one (canT (X := blkF X scope) c (i, s, H, C, cl, fp))) (fun s H C cl fp => can (X := blkF X scope) elt (i, s, H, C, cl, fp)) (hs i)) h
/-- name = [..] on one line -/
theorem ds_lc {ifs : List Expr} {k : Nat} {y : Str} (h : LC X ρ elt tg iter ifs scope (own.map (·.2)) r ρ1) (q : ∀ {te : TE}, EvV te ρ r ρ1 → EvS (tAsg te (gName k)) ρ P) (ok : ∀ i, blkC (X i).N (X i).env.scope scope own = true) (hs : ∀ i x, foldedSetIterable iter (X i).env x = pure x)
    (hy : ∀ i, (X i).N[k]? = some y) (hyl : ∀ i, (X i).env.scope.names.lookup y = some .local) (hsw : ∀ i, swapsWith (.ListComp elt [⟨tg, iter, ifs, 0⟩] scope pos) (some (.Name y py)) spos.line (X i).env = pure true) :
    DS X ρ (.Assign [.Name y py] (.ListComp elt [⟨tg, iter, ifs, 0⟩] scope pos) spos) P := by
  have nd : ∀ i, (X i).N.Nodup := fun i => by rw [hF.N i]; exact hF.nd
  rcases h with ⟨rfl, h⟩ | ⟨c, rfl, h⟩
  · exact ds_of (fun i => ps_setLc (hF.calm i) (nd i) (hy i) (hyl i) (hsw i) (canI tg iter i) (blkOk_by (ok i)) (fun s H C cl fp => canG (X := blkF X scope) tg (i, s, H, C, cl, fp)) (fun _ _ _ _ _ => pts_nil) (fun s H C cl fp => can (X := blkF X scope) elt (i, s, H, C, cl, fp)) (hs i)) (q h)
  · exact ds_of (fun i => ps_setLc (hF.calm i) (nd i) (hy i) (hyl i) (hsw i) (canI tg iter i) (blkOk_by (ok i)) (fun s H C cl fp => canG (X := blkF X scope) tg (i, s, H, C, cl, fp)) (fun s H C cl fp => pts_one (canT (X := blkF X scope) c (i, s, H, C, cl, fp))) (fun s H C cl fp => can (X := blkF X scope) elt (i, s, H, C, cl, fp)) (hs i)) (q h)
omit hF in
theorem noAny {vs : List Nat} {ρb : List Slot} (h : (vs.all fun i => match ρb[i]? with | some .any => true | none => true | _ => false) = true) : ∀ i ∈ vs, ρb[i]? = some Slot.any ∨ ρb[i]? = none := fun i hi => by
  have q := List.all_eq_true.mp h i hi
  split at q
  · next e => exact .inl e
  · next e => exact .inr e
  · cases q
omit hF in
theorem wipeS_any {ρ : List Slot} : ∀ {vs : List Nat} {i : Nat}, i ∈ vs → (wipeS ρ vs)[i]? = some Slot.any ∨ (wipeS ρ vs)[i]? = none
  | v :: vs, i, h => by
    by_cases hl : i < (wipeS ρ (v :: vs)).length
    · refine .inl ?_
      have e := List.getElem?_eq_getElem hl
      rw [e]
      rcases wipeS_get e with z | ⟨z, _⟩
      · rw [z]
      · exact absurd h z
    · exact .inr (List.getElem?_eq_none (by omega))
omit hF in
/-- where nothing but the block's own names changes -/
theorem backS_wipeS {ρ : List Slot} {vs : List Nat} (h : ∀ i ∈ vs, ∀ s, ρ[i]? = some s → Slot.still (some s) = s) : backS ρ (wipeS ρ vs) vs = ρ := by
  refine List.ext_getElem? fun i => ?_
  by_cases hi : i < ρ.length
  · have hl : i < (backS ρ (wipeS ρ vs) vs).length := by rw [backS_len, wipeS_len]; exact hi
    have e := List.getElem?_eq_getElem hl
    rw [e]
    have this : ∀ (vs : List Nat), i ∉ vs → (wipeS ρ vs)[i]? = ρ[i]? := fun vs => by
      induction vs with
      | nil => intro _; rfl
      | cons v vs ih =>
        intro n
        unfold wipeS
        rw [List.getElem?_set_ne (fun e => n (by simp [e]))]
        exact ih fun z => n (by simp [z])
    rcases backS_get e with ⟨n, z⟩ | z
    · rw [← this vs n]
      exact z.symm
    · by_cases him : i ∈ vs
      · have e2 := List.getElem?_eq_getElem hi
        rw [z, e2, h i him _ e2]
      · have key : ∀ (vs : List Nat) (ρb : List Slot), i ∉ vs → (backS ρ ρb vs)[i]? = ρb[i]? := fun vs ρb => by
          induction vs with
          | nil => intro _; rfl
          | cons v vs ih =>
            intro n
            unfold backS
            rw [List.getElem?_set_ne (fun e => n (by simp [e]))]
            exact ih fun z => n (by simp [z])
        rw [← e, key vs _ him, this vs him]
  · rw [List.getElem?_eq_none (by rw [backS_len, wipeS_len]; omega), List.getElem?_eq_none (by omega)]
omit hF in
theorem take_more {α : Type} {xs : List α} {k : Nat} {x : α} (h : xs[k]? = some x) : xs.take (k + 1) = xs.take k ++ [x] := by
  rw [List.take_add_one, h]; rfl
/-- [f x for x in xs], nothing else changed -/
theorem lc_map {vs : List Nat} (hi : DI X ρ tg iter R xs ρ1) (f : α → β) (hl : xs.length ≤ 10000000) (hb : ∀ i ∈ vs, ∀ s, ρ1[i]? = some s → Slot.still (some s) = s)
    (hs : ∀ x, x ∈ xs → ∃ ts ρk, (∀ i ∈ ts, i ∈ vs) ∧ DG (blkF X scope) tg ts R x (wipeS ρ1 vs) ρk ∧ ∃ ρk2, DV (blkF X scope) ρk elt (.imm S (f x)) ρk2 ∧ Wk ρk2 (wipeS ρ1 vs)) :
    LC X ρ elt tg iter [] scope vs (.new (OL S) (xs.map f)) ρ1 := by
  refine .inl ⟨rfl, ?_⟩
  have h := ev_lc (R := R) (S := S) (tt := tYes) (g := tgOf (blkF X scope) tg) (te := teOf (blkF X scope) elt) (vs := vs) hi (fun _ => wipeS ρ1 vs) (fun k => (xs.take k).map f) rfl rfl (fun k _ i him => wipeS_any him) (fun k hk => by simp; omega) fun k x hx => ?_
  · rw [backS_wipeS hb, List.take_length] at h
    exact h
  · obtain ⟨ts, ρk, h1, h2, ρk2, h3, h4⟩ := hs x (List.mem_of_getElem? hx)
    exact ⟨ts, ρk, true, ρk, h1, h2, fun F σ H hh Q q => q F H (Go.refl hh), fun _ => ⟨f x, ρk2, h3, h4, by rw [take_more hx, List.map_append]; rfl⟩, fun z => by cases z⟩
/-- [f x for x in xs if p x] -/
theorem lc_filter {vs : List Nat} (hi : DI X ρ tg iter R xs ρ1) (p : α → Bool) (f : α → β) (hl : xs.length ≤ 10000000) (hb : ∀ i ∈ vs, ∀ s, ρ1[i]? = some s → Slot.still (some s) = s)
    (hs : ∀ x, x ∈ xs → ∃ ts ρk, (∀ i ∈ ts, i ∈ vs) ∧ DG (blkF X scope) tg ts R x (wipeS ρ1 vs) ρk ∧ ∃ ρk1, DT (blkF X scope) ρk c (p x) ρk1 ∧ (p x = true → ∃ ρk2, DV (blkF X scope) ρk1 elt (.imm S (f x)) ρk2 ∧ Wk ρk2 (wipeS ρ1 vs)) ∧ (p x = false → Wk ρk1 (wipeS ρ1 vs))) :
    LC X ρ elt tg iter [c] scope vs (.new (OL S) ((xs.filter p).map f)) ρ1 := by
  refine .inr ⟨c, rfl, ?_⟩
  have h := ev_lc (R := R) (S := S) (tt := ttOf (blkF X scope) c) (g := tgOf (blkF X scope) tg) (te := teOf (blkF X scope) elt) (vs := vs) hi (fun _ => wipeS ρ1 vs) (fun k => ((xs.take k).filter p).map f) rfl rfl (fun k _ i him => wipeS_any him) (fun k hk => by
      have := List.length_filter_le p (xs.take k)
      simp at this ⊢; omega) fun k x hx => ?_
  · rw [backS_wipeS hb, List.take_length] at h
    exact h
  · obtain ⟨ts, ρk, h1, h2, ρk1, h3, h4, h5⟩ := hs x (List.mem_of_getElem? hx)
    refine ⟨ts, ρk, p x, ρk1, h1, h2, h3, fun hp => ?_, fun hp => ⟨h5 hp, by rw [take_more hx, List.filter_append]; simp [hp]⟩⟩
    obtain ⟨ρk2, h6, h7⟩ := h4 hp
    exact ⟨f x, ρk2, h6, h7, by rw [take_more hx, List.filter_append]; simp [hp]⟩
/-- with a state: E k ahead of turn k -/
theorem lc_st {vs : List Nat} (hi : DI X ρ tg iter R xs ρ1) (E : Nat → List Slot) (y : Nat → β) (hl : xs.length ≤ 10000000) (h0 : E 0 = wipeS ρ1 vs) (hE : ∀ k, k ≤ xs.length → ∀ i ∈ vs, (E k)[i]? = some Slot.any ∨ (E k)[i]? = none)
    (hs : ∀ k x, xs[k]? = some x → ∃ ts ρk, (∀ i ∈ ts, i ∈ vs) ∧ DG (blkF X scope) tg ts R x (E k) ρk ∧ ∃ ρk2, DV (blkF X scope) ρk elt (.imm S (y k)) ρk2 ∧ Wk ρk2 (E (k + 1))) :
    LC X ρ elt tg iter [] scope vs (.new (OL S) ((List.range xs.length).map y)) (backS ρ1 (E xs.length) vs) := by
  refine .inl ⟨rfl, ?_⟩
  refine ev_lc (R := R) (S := S) (tt := tYes) (g := tgOf (blkF X scope) tg) (te := teOf (blkF X scope) elt) (vs := vs) hi E (fun k => (List.range k).map y) h0 rfl hE (fun k hk => by simp; omega) fun k x hx => ?_
  obtain ⟨ts, ρk, h1, h2, ρk2, h3, h4⟩ := hs k x hx
  exact ⟨ts, ρk, true, ρk, h1, h2, fun F σ H hh Q q => q F H (Go.refl hh), fun _ => ⟨y k, ρk2, h3, h4, by rw [List.range_succ, List.map_append]; rfl⟩, fun z => by cases z⟩
omit hF in
theorem set_imm {i : Nat} {te : TE} {x : α} (q : P.nx (ρ1.set i (.imm R x))) : EvV te ρ (.imm R x) ρ1 → EvS (tAsg te (gName i)) ρ P := fun h => ev_setI h q
omit hF in
theorem set_new {i : Nat} {te : TE} {R : Ro α} {x : α} (q : ∀ p, P.nx (ρ1.set i (.own p R x))) : EvV te ρ (.new R x) ρ1 → EvS (tAsg te (gName i)) ρ P := fun h => ev_setN h q
omit hF in
theorem set_fz {i : Nat} {te : TE} {R : Ro α} {x : α} (q : P.nx (ρ1.set i (.imm R.fz x))) : EvV te ρ (.new R x) ρ1 → EvS (tAsg te (gName i)) ρ P := fun h => ev_setI (ev_fz h) q
end

/-! ### calls of defs -/
def toRes : Slot → Res
  | .any => .imm RNon ()
  | .imm R x => .imm R x
  | .own p R x => .view p R x
/-- a def's promise: S args args' r: called with args it leaves args' and tells r -/
def SpG (n : Nat) (S : List Slot → List Slot → Res → Prop) : Sp := fun vs H Q _ => vs.length = n ∧ ∃ F ρ ρ' r, Hold F (vs.map some) H ρ ∧ S ρ ρ' r ∧ ∀ v F' H', Go ρ F H ρ' (vs.map some) F' H' → RV ρ' H F' H' v r → Q v H'
/-- the def of that name keeps S -/
def Cal (P : Program) (w : World) (K : PySem.W.Frag) (mg : Str → Option Value) (base : Heap) (x : Str) (n k : Nat) (S : List Slot → List Slot → Res → Prop) : Prop :=
  ∃ f fd ps, FnOk P w K mg base CX0 k f fd ps (SpG n S) ∧ mg x = some (.ref f) ∧ PySem.W.keepIn K (.ref f) = true ∧ Binds K fd ps []
inductive Imms : List Slot → Prop
  | nil : Imms []
  | cons {α : Type} {R : Rp α} {x : α} {as : List Slot} : Imms as → Imms (.imm R x :: as)
section
variable {F F1 F2 F' H H0 H1 H2 H' : Hp} {σ σ1 σ2 σ' : L2.St} {ρ ρ0 ρ1 ρ2 ρ' : List Slot} {as : List Slot} {vs : List V}
theorem Imms.noOwn (h : Imms as) {q : Addr} : ¬ Owns as H q := by
  induction h with
  | nil => rintro ⟨i, p, α, R, x, e, _⟩; simp at e
  | cons _ ih =>
    rintro ⟨i, p, β, S, y, e, f⟩
    cases i with
    | zero => simp at e
    | succ i => exact ih ⟨i, p, β, S, y, by simpa using e, f⟩
theorem hold_args (h : Imms as) (ex : Ex F H) (hv : AllR (RV ρ H0 F H) vs (as.map toRes)) : Hold F (vs.map some) H as where
  ex := ex
  len := by rw [List.length_map, hv.len, List.length_map]
  ok := by
    intro i w s e1 e2
    induction h generalizing vs i with
    | nil => simp at e2
    | cons h ih =>
      cases hv with
      | cons a b =>
        cases i with
        | zero =>
          simp at e1 e2
          subst e1 e2
          exact ⟨_, rfl, a⟩
        | succ i => exact ih b i (by simpa using e1) (by simpa using e2)
  sep := fun i j p p' q α β R x S y e1 e2 f1 f2 => absurd ⟨i, p, α, R, x, e1, f1⟩ h.noOwn
/-- behind a call that owns nothing of ours -/
theorem Go.over (hh : Hold F σ H ρ) (g : Go as F H ρ' σ' F' H') (no : ∀ q, ¬ Owns as H q) : Go ρ F H ρ σ F' H' := by
  have k : ∀ q, Owns ρ H q → H' q = H q ∧ F' q = none := fun q w => by
    obtain ⟨a, o, b⟩ := hh.owned w
    exact ⟨(g.old q o b (no q)).trans b.symm, g.new q o b a (no q)⟩
  exact ⟨hh.step g.ex g.hold.ex k, g.ex, fun q o e _ => g.old q o e (no q), fun q o e f _ => g.new q o e f (no q), g.there, fun q w => .inl (owns_step hh (fun q w => (k q w).1) w)⟩
end
section
variable {ι : Type} {X : ι → Cx} {X0 : Cx} [hF : Fam X X0] {ρ ρ1 ρ2 ρ3 : List Slot} {α β γ δ : Type} {R : Rp α} {S : Rp β} {e : Expr} {es : List Expr} {pos p' : Pos} {r : Res} {x : Str} {n k j : Nat} {as : List Slot} {Sx : List Slot → List Slot → Res → Prop}
theorem pass0' {X : Cx} : Passes CX0 X E0 := fun _ _ _ _ _ _ _ h => h.elim
include hF
theorem pe_cal (C : Cal X0.prog X0.w X0.K X0.mg X0.base x n k Sx) (hr : Room j X0.A) (hj : k ≤ j) (hg : ∀ i, Gl (X i) x) (he : ∀ i, starEach (e :: es) (X i).env = (false, eval e (X i).env) :: starEach es (X i).env) (hpl : ∀ i, (backTo pos (starEach es (X i).env)).any (·.1) = false) (hdb : (x == ("__debug__" : Str)) = false) (i : ι) :
    PE (X i) (.Call (.Name x p') (e :: es) [] pos) (tCall (SpG n Sx) [] E0 (taOf X (e :: es))) := by
  obtain ⟨f, fd, ps, F, hm, hk, hb⟩ := C
  refine pe_call (k := k) (f := f) (fd := fd) (ps := ps) (ds := []) (CX := CX0) ?_ ?_ (hg i) ?_ ?_ ?_ .nil pass0' (canA _ i) (hdb := hdb) (he := he i) (hpl := hpl i)
  · rw [hF.prog i, hF.w i, hF.K i, hF.mg i, hF.base i]; exact F
  · rw [hF.A i]; exact hr.mono hj
  · rw [hF.mg i]; exact hm
  · rw [hF.K i]; exact hk
  · rw [hF.K i]; exact hb
/-- f(a, ..), all arguments values -/
theorem dv_call (C : Cal X0.prog X0.w X0.K X0.mg X0.base x n k Sx) (hr : Room j X0.A) (hj : k ≤ j) (ha : DA X ρ (e :: es) (as.map toRes) ρ1) (hi : Imms as) (hn : as.length = n) (hS : Sx as as r)
    (hg : ∀ i, Gl (X i) x) (he : ∀ i, starEach (e :: es) (X i).env = (false, eval e (X i).env) :: starEach es (X i).env) (hpl : ∀ i, (backTo pos (starEach es (X i).env)).any (·.1) = false) (hdb : (x == ("__debug__" : Str)) = false) : DV X ρ (.Call (.Name x p') (e :: es) [] pos) r ρ1 :=
  dv_of (fun i => pe_cal C hr hj hg he hpl hdb i) fun F σ H hh Q q => ha F σ H hh _ fun vs F1 H1 g1 hv => by
    refine ⟨by rw [List.append_nil, hv.len, List.length_map]; exact hn, F1, as, as, r, by rw [List.append_nil]; exact hold_args hi g1.hold.ex hv, hS, fun v F' H' g rv => ?_⟩
    rw [List.append_nil] at g
    have g2 : Go ρ1 F1 H1 ρ1 σ F' H' := g.over g1.hold fun q => hi.noOwn
    refine q v F' H' (g1.trans g2) ?_
    cases r with
    | imm R x => exact rv
    | view p R x => exact rv
    | new R x =>
      obtain ⟨p, ev, nn, hr⟩ := rv
      refine ⟨p, ev, fun q f => ⟨g1.there q (nn q f).1, fun w => ?_⟩, hr⟩
      have w' := owns_step g1.hold (fun q w => by
        obtain ⟨a, o, b⟩ := g1.hold.owned w
        exact (g.old q o b hi.noOwn).trans b.symm) w
      exact g1.hold.notOwn (nn q f).1 w'
/-- f(pen, a, ..): the first argument a name's own object, changed by the call -/
theorem dv_callO {i : Nat} {p : Addr} {O O' : Ro γ} {y y' : γ} (C : Cal X0.prog X0.w X0.K X0.mg X0.base x n k Sx) (hr : Room j X0.A) (hj : k ≤ j) (ha : DA X ρ (e :: es) (.view p O y :: as.map toRes) ρ1) (ho : ρ1[i]? = some (.own p O y)) (hi : Imms as) (hn : as.length + 1 = n) (hS : Sx (.own p O y :: as) (.own p O' y' :: as) r)
    (hf : ∀ F H q, O'.rel F H p y' → O'.foot H p q → q = p) (hf0 : ∀ H, O.foot H p p)
    (hg : ∀ i, Gl (X i) x) (he : ∀ i, starEach (e :: es) (X i).env = (false, eval e (X i).env) :: starEach es (X i).env) (hpl : ∀ i, (backTo pos (starEach es (X i).env)).any (·.1) = false) (hdb : (x == ("__debug__" : Str)) = false) : DV X ρ (.Call (.Name x p') (e :: es) [] pos) r (ρ1.set i (.own p O' y')) :=
  dv_of (fun i => pe_cal C hr hj hg he hpl hdb i) fun F σ H hh Q q => ha F σ H hh _ fun vs F1 H1 g1 hv => by
    cases hv with
    | cons h0 hv =>
    cases (show _ = V.ref p from h0)
    rename_i vs
    have e1 := g1.hold.own ho
    have hA := hold_args (ρ := ρ1) hi g1.hold.ex hv
    have noA : ∀ q H', ¬ Owns as H' q := fun q H' => hi.noOwn
    have hcall : Hold F1 ((V.ref p :: vs).map some) H1 (.own p O y :: as) :=
      ⟨g1.hold.ex, by rw [List.length_map, List.length_cons, List.length_cons, hv.len, List.length_map], fun m w s a b => by
        cases m with
        | zero => simp at a b; subst a b; exact ⟨rfl, e1.2⟩
        | succ m => exact hA.ok m w s (by simpa using a) (by simpa using b), fun a b p1 p2 u α β R z S z' d1 d2 f1 f2 => by
        cases a with
        | zero => cases b with
          | zero => rfl
          | succ b => exact absurd ⟨b, p2, β, S, z', by simpa using d2, f2⟩ (noA u H1)
        | succ a => exact absurd ⟨a, p1, α, R, z, by simpa using d1, f1⟩ (noA u H1)⟩
    have ownC : ∀ u, Owns (.own p O y :: as) H1 u → O.foot H1 p u := fun u ⟨m, p1, α, R, z, d, f⟩ => by
      cases m with
      | zero =>
        have d' : Slot.own p O y = Slot.own p1 R z := by simpa using d
        cases d'; exact f
      | succ m => exact absurd ⟨m, p1, α, R, z, by simpa using d, f⟩ (noA u H1)
    have ownR : ∀ u, O.foot H1 p u → Owns ρ1 H1 u := fun u f => ⟨i, p, _, O, y, ho, f⟩
    refine ⟨by rw [List.append_nil, List.length_cons, hv.len, List.length_map]; exact hn, F1, _, _, r, by rw [List.append_nil]; exact hcall, hS, fun v F' H' g rv => ?_⟩
    rw [List.append_nil] at g
    have hil : i < ρ1.length := (List.getElem?_eq_some_iff.mp ho).1
    have hnew : O'.rel F' H' p y' := (g.hold.own (i := 0) rfl).2
    -- what our other slots own stays
    have other : ∀ {m : Nat} {p1 : Addr} {α : Type} {R : Ro α} {z : α}, m ≠ i → ρ1[m]? = some (.own p1 R z) → ∀ u, R.foot H1 p1 u → H' u = H1 u ∧ F' u = none := fun {m p1 α R z} hm d u f => by
      have hn : ¬ Owns (.own p O y :: as) H1 u := fun w => hm (g1.hold.sep m i p1 p u _ _ R z O y d ho f (ownC u w))
      obtain ⟨a, o, b⟩ := R.out (g1.hold.own d).2 f
      exact ⟨(g.old u o b hn).trans b.symm, g.new u o b a hn⟩
    have foot' : ∀ u, O'.foot H' p u → u = p := fun u f => hf F' H' u hnew f
    have hh' : Hold F' σ H' (ρ1.set i (.own p O' y')) := by
      refine ⟨g.hold.ex, by rw [List.length_set]; exact g1.hold.len, fun m w s a b => ?_, fun a b p1 p2 u α β R z S z' d1 d2 f1 f2 => ?_⟩
      · rcases set_get b with ⟨rfl, rfl⟩ | ⟨hm, b⟩
        · rw [e1.1] at a; cases a; exact ⟨rfl, hnew⟩
        · have c := g1.hold.ok m w s a b
          cases s with
          | any => trivial
          | imm R z => obtain ⟨v, c1, c2⟩ := c; exact ⟨v, c1, R.up g.ex c2⟩
          | own p1 R z => exact ⟨c.1, R.stay c.2 g.ex fun u f => other hm b u f⟩
      · rcases set_get d1 with ⟨ea, c1⟩ | ⟨ha', c1⟩
        · rcases set_get d2 with ⟨eb, c2⟩ | ⟨hb', c2⟩
          · exact ea.trans eb.symm
          · cases c1
            have f2' := S.stayf (g1.hold.own c2).2 (fun u f => (other hb' c2 u f).1) f2
            have := foot' u f1
            subst this
            exact absurd (g1.hold.sep b i p2 u u _ _ S z' O y c2 ho f2' (hf0 H1)) hb'
        · have f1' := R.stayf (g1.hold.own c1).2 (fun u f => (other ha' c1 u f).1) f1
          rcases set_get d2 with ⟨eb, c2⟩ | ⟨hb', c2⟩
          · cases c2
            have := foot' u f2
            subst this
            exact absurd (g1.hold.sep a i p1 u u _ _ R z O y c1 ho f1' (hf0 H1)) ha'
          · exact g1.hold.sep a b p1 p2 u α β R z S z' c1 c2 f1' (S.stayf (g1.hold.own c2).2 (fun u f => (other hb' c2 u f).1) f2)
    have owns' : ∀ u, Owns (ρ1.set i (.own p O' y')) H' u → Owns ρ1 H1 u := fun u ⟨m, p1, α, R, z, d, f⟩ => by
      rcases set_get d with ⟨_, d⟩ | ⟨hm, d⟩
      · cases d
        have := foot' u f
        subst this
        exact ownR u (hf0 H1)
      · exact ⟨m, p1, α, R, z, d, R.stayf (g1.hold.own d).2 (fun u f => (other hm d u f).1) f⟩
    have g2 : Go ρ1 F1 H1 (ρ1.set i (.own p O' y')) σ F' H' :=
      ⟨hh', g.ex, fun u o a n => g.old u o a fun w => n (ownR u (ownC u w)), fun u o a f n => g.new u o a f fun w => n (ownR u (ownC u w)), g.there, fun u w => .inl (owns' u w)⟩
    refine q v F' H' (g1.trans g2) ?_
    cases r with
    | imm R x => exact rv
    | view p R x => exact rv
    | new R x =>
      obtain ⟨p1, ev, nn, hr⟩ := rv
      exact ⟨p1, ev, fun u f => ⟨g1.there u (nn u f).1, fun w => g1.hold.notOwn (nn u f).1 (owns' u w)⟩, hr⟩
end

/-! ### defs -/
def Slot.addr' : Slot → Option Addr
  | .own p _ _ => some p
  | _ => none
/-- the end of a def's body: args as promised, the result as promised -/
inductive FnEnv (ρ1 : List Slot) : List Slot → List Slot → Prop
  | nil : FnEnv ρ1 [] []
  | imm {α : Type} {R : Rp α} {x : α} {as as' : List Slot} : FnEnv ρ1 as as' → FnEnv ρ1 (.imm R x :: as) (.imm R x :: as')
  | own {p : Addr} {α β : Type} {R : Ro α} {x : α} {S : Ro β} {y : β} {as as' : List Slot} (j : Nat) : ρ1[j]? = some (.own p S y) → FnEnv ρ1 as as' → FnEnv ρ1 (.own p R x :: as) (.own p S y :: as')
inductive FnRet (as : List Slot) (ρ1 : List Slot) : Res → Res → Prop
  | same {r : Res} : FnRet as ρ1 r r
  | out {p : Addr} {α : Type} {R : Ro α} {x : α} (j : Nat) : ρ1[j]? = some (.own p R x) → (∀ (i : Nat) (p' : Addr) (β : Type) (S : Ro β) (y : β), as[i]? = some (.own p' S y) → (∃ (j2 : Nat) (γ : Type) (S2 : Ro γ) (y2 : γ), j2 ≠ j ∧ ρ1[j2]? = some (.own p' S2 y2)) ∧ ∀ H q, S.foot H p' q → q = p') → FnRet as ρ1 (.view p R x) (.new R x)
section
variable {F F1 F2 F' H H0 H1 H2 H' : Hp} {σ σ1 σ2 σ' : L2.St} {ρ ρ0 ρ1 ρ2 ρ' : List Slot} {as as' : List Slot} {vs : List V}
theorem FnEnv.len (h : FnEnv ρ1 as as') : as'.length = as.length := by
  induction h with
  | nil => rfl
  | imm _ ih => simp [ih]
  | own _ _ _ ih => simp [ih]
theorem FnEnv.get (h : FnEnv ρ1 as as') : ∀ {i : Nat} {s : Slot}, as'[i]? = some s → (as[i]? = some s ∧ s.addr' = none) ∨
    ∃ (p : Addr) (α β : Type) (R : Ro α) (x : α) (S : Ro β) (y : β) (j : Nat), s = .own p S y ∧ as[i]? = some (.own p R x) ∧ ρ1[j]? = some (.own p S y) := by
  induction h with
  | nil => intro i s e; simp at e
  | imm _ ih =>
    intro i s e
    cases i with
    | zero => simp at e; subst e; exact .inl ⟨rfl, rfl⟩
    | succ i => exact ih (i := i) (by simpa using e)
  | own j hj _ ih =>
    intro i s e
    cases i with
    | zero => simp at e; subst e; exact .inr ⟨_, _, _, _, _, _, _, j, rfl, rfl, hj⟩
    | succ i => exact ih (i := i) (by simpa using e)
theorem any_get {n i : Nat} {s : Slot} (h : (as ++ List.replicate n Slot.any)[i]? = some s) : as[i]? = some s ∨ s = .any := by
  by_cases hi : i < as.length
  · rw [List.getElem?_append_left hi] at h; exact .inl h
  · rw [List.getElem?_append_right (by omega), List.getElem?_replicate] at h
    split at h
    · exact .inr (Option.some.inj h).symm
    · cases h
theorem owns_any {n : Nat} {q : Addr} (w : Owns (as ++ List.replicate n Slot.any) H q) : Owns as H q := by
  obtain ⟨i, p, α, R, x, e, f⟩ := w
  rcases any_get e with e | e
  · exact ⟨i, p, α, R, x, e, f⟩
  · cases e
theorem owns_any1 {n : Nat} {q : Addr} (w : Owns as H q) : Owns (as ++ List.replicate n Slot.any) H q := by
  obtain ⟨i, p, α, R, x, e, f⟩ := w
  exact ⟨i, p, α, R, x, by rw [List.getElem?_append_left (List.getElem?_eq_some_iff.mp e).1]; exact e, f⟩
theorem hold_start {N : List Str} (hh : Hold F (vs.map some) H as) (hN : as.length ≤ N.length) : Hold F (L2.start N vs) H (as ++ List.replicate (N.length - as.length) Slot.any) where
  ex := hh.ex
  len := by
    have := hh.len
    unfold L2.start
    simp at this ⊢
    rw [this]
  ok := fun i w s e1 e2 => by
    rcases any_get e2 with e2 | e2
    · have hi : i < (vs.map some).length := by rw [hh.len]; exact (List.getElem?_eq_some_iff.mp e2).1
      unfold L2.start at e1
      rw [List.getElem?_append_left hi] at e1
      exact hh.ok i w s e1 e2
    · subst e2; trivial
  sep := fun i j p p' q α β R x S y e1 e2 => by
    rcases any_get e1 with e1 | e1
    · rcases any_get e2 with e2 | e2
      · exact hh.sep i j p p' q α β R x S y e1 e2
      · cases e2
    · cases e1
theorem FnEnv.owns (h : FnEnv ρ1 as as') {q : Addr} (w : Owns as' H q) : Owns ρ1 H q := by
  obtain ⟨i, p, α, R, x, e, f⟩ := w
  rcases h.get e with ⟨_, e⟩ | ⟨p', _, _, _, _, S, y, j, es, _, ej⟩
  · cases e
  · cases es
    exact ⟨j, p, _, R, x, ej, f⟩
theorem go_end {n : Nat} (hh : Hold F (vs.map some) H as) (fe : FnEnv ρ1 as as') (g : Go (as ++ List.replicate n Slot.any) F H ρ1 σ' F' H') : Go as F H as' (vs.map some) F' H' where
  hold := {
    ex := g.hold.ex
    len := by rw [fe.len]; exact hh.len
    ok := fun i w s e1 e2 => by
      rcases fe.get e2 with ⟨e, hn⟩ | ⟨p, _, _, R, x, S, y, j, es, e, ej⟩
      · have q := hh.ok i w s e1 e
        cases s with
        | any => trivial
        | imm R x => obtain ⟨v, a, r⟩ := q; exact ⟨v, a, R.up g.ex r⟩
        | own p R x => cases hn
      · subst es
        have q := hh.ok i w _ e1 e
        exact ⟨q.1, (g.hold.own ej).2⟩
    sep := fun i j p p' q α β R x S y e1 e2 f1 f2 => by
      rcases fe.get e1 with ⟨_, hn⟩ | ⟨p1, _, _, R1, x1, S1, y1, j1, es1, a1, b1⟩
      · cases hn
      · rcases fe.get e2 with ⟨_, hn⟩ | ⟨p2, _, _, R2, x2, S2, y2, j2, es2, a2, b2⟩
        · cases hn
        · cases es1
          cases es2
          have ej := g.hold.sep j1 j2 p p' q _ _ R x S y b1 b2 f1 f2
          subst ej
          rw [b1] at b2
          cases b2
          exact hh.sep i j p p p _ _ R1 x1 R2 x2 a1 a2 R1.self R2.self }
  ex := g.ex
  old := fun q o e m => g.old q o e fun w => m (owns_any w)
  new := fun q o e f m => g.new q o e f fun w => m (owns_any w)
  there := g.there
  owns := fun q w => (g.owns q (fe.owns w)).imp owns_any id
theorem rv_end {n : Nat} {r r1 : Res} {v : V} (hh : Hold F (vs.map some) H as) (fe : FnEnv ρ1 as as') (fr : FnRet as ρ1 r1 r) (g : Go (as ++ List.replicate n Slot.any) F H ρ1 σ' F' H') (rv : RV ρ1 H F' H' v r1) : RV as' H F' H' v r := by
  cases fr with
  | same =>
    cases r with
    | imm R x => exact rv
    | view p R x => exact rv
    | new R x =>
      obtain ⟨p, ev, nn, hr⟩ := rv
      exact ⟨p, ev, fun q f => ⟨(nn q f).1, fun w => (nn q f).2 (fe.owns w)⟩, hr⟩
  | out j hj hno0 =>
    rename_i p α R x
    have hr := (g.hold.own hj).2
    have hno : ∀ (i : Nat) (p' : Addr) (β : Type) (S : Ro β) (y : β), as[i]? = some (.own p' S y) → p' ≠ p ∧ ∀ H q, S.foot H p' q → q = p' := fun i p' β S y e => by
      obtain ⟨⟨j2, γ, S2, y2, ne, e2⟩, h2⟩ := hno0 i p' β S y e
      exact ⟨fun eq => ne (g.hold.sep j2 j p' p p' _ _ S2 y2 R x e2 hj S2.self (eq ▸ R.self)), h2⟩
    refine ⟨p, rv, fun q f => ⟨?_, fun w => ?_⟩, hr⟩
    · rcases g.owns q ⟨j, p, _, R, x, hj, f⟩ with w | w
      · exfalso
        obtain ⟨i, p', β, S, y, e, f'⟩ := owns_any w
        obtain ⟨ne, hs⟩ := hno i p' β S y e
        have eq := hs H q f'
        subst eq
        have hi : i < as'.length := by rw [fe.len]; exact (List.getElem?_eq_some_iff.mp e).1
        rcases fe.get (List.getElem?_eq_getElem hi) with ⟨e2, hn⟩ | ⟨p2, _, _, R2, x2, S2, y2, j2, es2, a2, b2⟩
        · rw [e] at e2
          rw [← Option.some.inj e2] at hn
          cases hn
        · rw [e] at a2
          cases a2
          have := g.hold.sep j j2 p q q _ _ R x S2 y2 hj b2 f S2.self
          subst this
          rw [hj] at b2
          cases b2
          exact ne rfl
      · exact w
    · obtain ⟨i, p', β, S, y, e, f'⟩ := w
      rcases fe.get e with ⟨_, hn⟩ | ⟨p2, _, _, R2, x2, S2, y2, j2, es2, a2, b2⟩
      · cases hn
      · cases es2
        have := g.hold.sep j j2 p p' q _ _ R x S y hj b2 f f'
        subst this
        rw [hj] at b2
        cases b2
        exact (hno i p _ R2 x2 a2).1 rfl
end
section
variable {P : Program} {w : World} {K : PySem.W.Frag} {mg : Str → Option Value} {base : Heap}
def bodyPost (as as' : List Slot) (r : Res) : Post where
  nx := fun ρ1 => FnEnv ρ1 as as' ∧ FnRet as ρ1 (.imm RNon ()) r
  rt := fun ρ1 r1 => FnEnv ρ1 as as' ∧ FnRet as ρ1 r1 r
/-- THE RULE for a def -/
theorem fn_ok {x qual : Str} {st : Stmt} {f : Addr} {fd : FuncData} {N ps : List Str} {k : Nat} {S : List Slot → List Slot → Res → Prop} (F : Fun K x qual st f fd) (Sc : FnScope N ps (defScope st))
    (hS : ∀ as as' r, S as as' r → as.length = ps.length) (hN : ps.length ≤ N.length)
    (hbody : ∀ (cdv : Value) (A : Around) (outer : List Env) (s : Shared) (H : Hp) (E : XK) (as as' : List Slot) (r : Res), Room k (A.deeper (PyProof.Rows.envOfC qual (defScope st) s.heap.objs.size f cdv)) → S as as' r →
      DSs (fun _ : Unit => (cxOf CX0 P w K mg base N qual (defScope st) f cdv A outer s H E).nox) (as ++ List.replicate (N.length - as.length) Slot.any) (defBody st) (bodyPost as as' r)) :
    FnOk P w K mg base CX0 (k + 1) f fd ps (SpG ps.length S) := by
  refine F.ok Sc (fun vs H Q E h => h.1) (fun cdv A outer s H vs Q E hr hsp => ?_)
  obtain ⟨hl, F0, as, as', r, hh, hs, hq⟩ := hsp
  have hN' : as.length ≤ N.length := by rw [hS _ _ _ hs]; exact hN
  refine ⟨_, canSs (X := fun _ : Unit => (cxOf CX0 P w K mg base N qual (defScope st) f cdv A outer s H E).nox) (defBody st) (), ?_⟩
  refine hbody cdv A outer s H E as as' r hr hs F0 (L2.start N vs) H _ (hold_start hh hN') ?_ ?_ ?_ ?_
  · rintro ρ1 σ' F' H' ⟨fe, fr⟩ g
    exact hq .non F' H' (go_end hh fe g) (rv_end hh fe fr g rfl)
  · rintro ρ1 r1 σ' F' H' v ⟨fe, fr⟩ g rv
    exact hq v F' H' (go_end hh fe g) (rv_end hh fe fr g rv)
  · intro _ _ _ _ h; exact h.elim
  · intro _ _ _ _ h; exact h.elim
theorem fn_pd {x qual : Str} {st : Stmt} {f : Addr} {fd : FuncData} {N ps : List Str} {k : Nat} {S : List Slot → List Slot → Res → Prop} (F : Fun K x qual st f fd) (Sc : FnScope N ps (defScope st)) (hm : mg x = some (.ref f)) (hb : Binds K fd ps [])
    (hS : ∀ as as' r, S as as' r → as.length = ps.length) (hN : ps.length ≤ N.length)
    (hbody : ∀ (cdv : Value) (A : Around) (outer : List Env) (s : Shared) (H : Hp) (E : XK) (as as' : List Slot) (r : Res), Room k (A.deeper (PyProof.Rows.envOfC qual (defScope st) s.heap.objs.size f cdv)) → S as as' r →
      DSs (fun _ : Unit => (cxOf CX0 P w K mg base N qual (defScope st) f cdv A outer s H E).nox) (as ++ List.replicate (N.length - as.length) Slot.any) (defBody st) (bodyPost as as' r)) :
    Cal P w K mg base x ps.length (k + 1) S := ⟨f, fd, ps, fn_ok F Sc hS hN hbody, hm, F.kp, hb⟩
/-- the body's family -/
theorem fam_of {N ps : List Str} {qual : Str} {scope : Scope} {f : Addr} {cdv : Value} {A : Around} {outer : List Env} {s : Shared} {H : Hp} {E : XK} {k : Nat} (Sc : FnScope N ps scope) (hr : Room k (A.deeper (PyProof.Rows.envOfC qual scope s.heap.objs.size f cdv))) :
    Fam (fun _ : Unit => (cxOf CX0 P w K mg base N qual scope f cdv A outer s H E).nox) (cxOf CX0 P w K mg base N qual scope f cdv A outer s H E).nox where
  prog := fun _ => rfl
  w := fun _ => rfl
  K := fun _ => rfl
  mg := fun _ => rfl
  base := fun _ => rfl
  A := fun _ => rfl
  N := fun _ => rfl
  calm := fun _ => rfl
  nd := Sc.nd
  u := by have := hr.un; show (A.deeper _).units + 66 < _; omega
instance pown_of {X : Cx} : POwn (fun _ : Unit => X.nox) := ⟨fun _ => PassesOwn.never⟩
instance pown_blk {ι : Type} {X : ι → Cx} {scope : Scope} : POwn (blkF X scope) := ⟨fun _ => PassesOwn.never⟩
end
end PD

set_option Elab.async false
set_option linter.all false
set_option maxRecDepth 100000
set_option maxHeartbeats 4000000
namespace PD
open PySem L2

inductive SetAt : List Slot → Nat → Slot → List Slot → Prop
  | zero {s t : Slot} {r : List Slot} : SetAt (t :: r) 0 s (s :: r)
  | succ {s t : Slot} {r r' : List Slot} {n : Nat} : SetAt r n s r' → SetAt (t :: r) (n + 1) s (t :: r')
theorem SetAt.eq {r r' : List Slot} {n : Nat} {s : Slot} (h : SetAt r n s r') : r' = r.set n s := by
  induction h with
  | zero => rfl
  | succ _ ih => rw [ih]; rfl
section
variable {ι : Type} {X : ι → Cx} {X0 : Cx} {ρ ρ1 ρ2 ρ3 : List Slot} {r ra rb rc : Res} {e a b c : Expr} {es : List Expr} {te ta tb : TE} {tt : TT} {tr : TA} {st : Stmt} {rest : List Stmt} {P : Post} {ts : TS} {pos p' p2 apos cpos : Pos}
variable {α β γ δ : Type} {R : Rp α} {S : Rp β} {T : Rp γ} {U : Rp δ}
/-! ### choices by what is at hand -/
theorem OpV.lft {rd rd' : R2} (h : OpV rd ρ ra rb r) : OpV (fun x y H Q => rd x y H Q ∨ rd' x y H Q) ρ ra rb r := fun F σ H H0 x y hh h1 h2 Q k => .inl (h F σ H H0 x y hh h1 h2 Q k)
theorem OpV.rgt {rd rd' : R2} (h : OpV rd' ρ ra rb r) : OpV (fun x y H Q => rd x y H Q ∨ rd' x y H Q) ρ ra rb r := fun F σ H H0 x y hh h1 h2 Q k => .inr (h F σ H H0 x y hh h1 h2 Q k)
def rAddA (K : PySem.W.Frag) : R2 := fun x y H Q => rI0 (fun i j => .int (i + j)) x y H Q ∨ (rCatA K x y H Q ∨ (rCat x y H Q ∨ (fun x y H Q => ∃ i j, x = .str i ∧ y = .str j ∧ i.length + j.length ≤ sizeLine ∧ Q (.str (i ++ j)) H) x y H Q))
def rMulA (K : PySem.W.Frag) : R2 := fun x y H Q => rI CMulX (fun i j => .int (i * j)) x y H Q ∨ (rRep x y H Q ∨ rRepT K x y H Q)
def rEqA (K : PySem.W.Frag) : R2 := fun x y H Q => rEq x y H Q ∨ rEqD K x y H Q
def rNeA (K : PySem.W.Frag) : R2 := fun x y H Q => rNe x y H Q ∨ rNeD K x y H Q
theorem add_I {i j : Int} {K : PySem.W.Frag} : OpV (rAddA K) ρ (.imm RInt i) (.imm RInt j) (.imm RInt (i + j)) := OpV.lft op_I0
theorem add_T {K : PySem.W.Frag} {xs ys : List α} (hl : xs.length + ys.length ≤ 10000000) : OpV (rAddA K) ρ (.imm (RT R) xs) (.imm (RT R) ys) (.imm (RT R) (xs ++ ys)) := OpV.rgt (OpV.lft fun F σ H H0 x y hh h1 h2 Q k => by
    obtain ⟨p, vs, rfl, e1, l1⟩ := h1
    obtain ⟨q, ws, rfl, e2, l2⟩ := h2
    refine ⟨p, q, vs, ws, rfl, rfl, SqT.of (hh.ex p _ e1), SqT.of (hh.ex q _ e2), by rw [l1.len, l2.len]; exact sz hl, fun w => ?_, fun _ w => ?_, fun _ _ n hn => ?_⟩
    · subst w
      cases l1
      exact k _ F H (Go.refl hh) ⟨q, ws, rfl, e2, l2⟩
    · subst w
      cases l2
      refine k _ F H (Go.refl hh) ⟨p, vs, rfl, e1, ?_⟩
      rw [List.append_nil]
      exact l1
    · have ga : Go ρ F H ρ σ (upd F n (.tup (vs ++ ws))) (upd H n (.tup (vs ++ ws))) := Go.alloc hh hn
      exact k _ _ _ ga ⟨n, _, rfl, upd_same, (l1.append l2).imp fun _ _ => R.up ga.ex⟩)
theorem add_L {K : PySem.W.Frag} {xs ys : List α} (hs : SeenL ρ ra R xs) (ht : SeenL ρ rb R ys) (hl : xs.length + ys.length ≤ 10000000) : OpV (rAddA K) ρ ra rb (.new (OL R) (xs ++ ys)) := OpV.rgt (OpV.rgt (OpV.lft fun F σ H H0 x y hh h1 h2 Q k => by
    obtain ⟨p, vs, rfl, e1, l1⟩ := hs F σ H H0 x hh h1
    obtain ⟨q, ws, rfl, e2, l2⟩ := ht F σ H H0 y hh h2
    exact ⟨p, q, vs, ws, rfl, rfl, e1, e2, by rw [l1.len, l2.len]; exact sz hl, fun n hn => k _ _ _ (Go.allocO hh hn) (new_lst hh hn hn (l1.append l2))⟩))
theorem mul_I {K : PySem.W.Frag} {i j : Int} (h : CMulX i j) : OpV (rMulA K) ρ (.imm RInt i) (.imm RInt j) (.imm RInt (i * j)) := OpV.lft (op_I h)
theorem mul_L {K : PySem.W.Frag} {xs : List α} {n : Int} (hs : SeenL ρ ra R xs) (h0 : 0 ≤ n) (h1 : n ≤ 1000000) (hl : xs.length * n.toNat ≤ 10000000) : OpV (rMulA K) ρ ra (.imm RInt n) (.new (OL R) (List.replicate n.toNat xs).flatten) := OpV.rgt (OpV.lft fun F σ H H0 x y hh hx hy Q k => by
    obtain ⟨p, vs, rfl, e1, l1⟩ := hs F σ H H0 x hh hx
    exact ⟨p, n, vs, rfl, hy, e1, by omega, by omega, by rw [l1.len]; exact sz hl, fun u hn => k _ _ _ (Go.allocO hh hn) (new_lst hh hn hn (l1.rep _))⟩)
/-! ### data compared -/
/-- the data that a value shows -/
class Dat {α : Type} (R : Rp α) (f : outParam (α → PyData)) : Prop where
  dp : ∀ (K : PySem.W.Frag) (F : Hp) (v : V) (x : α), R.rel F v x → Dp K F v (f x)
theorem dpAll {K : PySem.W.Frag} {F : Hp} {f : α → PyData} [d : Dat R f] : ∀ {vs : List V} {xs : List α}, All (R.rel F) vs xs → DpAll K F vs (xs.map f)
  | _, _, .nil => .nil
  | _, _, .cons a b => .cons (d.dp K F _ _ a) (dpAll b)
instance : Dat RInt PyData.int := ⟨fun K F v x h => by cases (show v = .int x from h); exact .int x⟩
instance : Dat RBool PyData.bool := ⟨fun K F v x h => by cases (show v = .bl x from h); exact .bl x⟩
instance : Dat RStr PyData.str := ⟨fun K F v x h => by cases (show v = .str x from h); exact .str x⟩
instance : Dat RNon (fun _ => PyData.none) := ⟨fun K F v x h => by cases (show v = .non from h); exact .non⟩
instance {f : α → PyData} [Dat R f] : Dat (RT R) (fun xs => PyData.tuple (xs.map f)) := ⟨fun K F v xs ⟨a, vs, e, h1, h2⟩ => by subst e; exact .tup (SqT.of h1) (dpAll h2)⟩
instance {f : α → PyData} [Dat R f] : Dat (RL R) (fun xs => PyData.list (xs.map f)) := ⟨fun K F v xs ⟨a, vs, e, h1, h2⟩ => by subst e; exact .lst (SqL.of h1) (dpAll h2)⟩
instance {f : α → PyData} {g : β → PyData} [d : Dat R f] [d' : Dat S g] : Dat (R2T R S) (fun x => PyData.tuple [f x.1, g x.2]) := ⟨fun K F v x ⟨a, v1, v2, e, h1, h2, h3⟩ => by subst e; exact .tup (SqT.of h1) (.cons (d.dp K F _ _ h2) (.cons (d'.dp K F _ _ h3) .nil))⟩
instance {f : α → PyData} {g : β → PyData} {h : γ → PyData} [d : Dat R f] [d' : Dat S g] [d'' : Dat T h] : Dat (R3T R S T) (fun x => PyData.tuple [f x.1, g x.2.1, h x.2.2]) := ⟨fun K F v x ⟨a, v1, v2, v3, e, h1, h2, h3, h4⟩ => by subst e; exact .tup (SqT.of h1) (.cons (d.dp K F _ _ h2) (.cons (d'.dp K F _ _ h3) (.cons (d''.dp K F _ _ h4) .nil)))⟩
instance {f : α → PyData} [d : Dat R f] : Dat (ROpt R) (fun o => match o with | none => PyData.none | some x => f x) := ⟨fun K F v o h => by
  cases o with
  | none => cases (show v = .non from h); exact .non
  | some x => exact d.dp K F v x h⟩
/-- what a result reads as, as data -/
def SeenD (ρ : List Slot) (ra : Res) (d : PyData) : Prop := ∀ (K : PySem.W.Frag) F σ H H0 v, Hold F σ H ρ → RV ρ H0 F H v ra → Dp K H v d
theorem seenD_imm {f : α → PyData} [d : Dat R f] {x : α} : SeenD ρ (.imm R x) (f x) := fun K F σ H H0 v hh rv => d.dp K H v x (R.up hh.ex rv)
theorem seenD_list {f : α → PyData} [d : Dat R f] {xs : List α} (h : SeenL ρ ra R xs) : SeenD ρ ra (PyData.list (xs.map f)) := fun K F σ H H0 v hh rv => by
  obtain ⟨a, vs, rfl, h1, h2⟩ := h F σ H H0 v hh rv
  exact .lst (SqL.of h1) (dpAll (h2.imp fun _ _ => R.up hh.ex))
theorem eq_D {K : PySem.W.Frag} {d d' : PyData} (h : SeenD ρ ra d) (h' : SeenD ρ rb d') (hs : SeqAt.shaped d = true) (hs' : SeqAt.shaped d' = true) : OpV (rEqA K) ρ ra rb (.imm RBool (PyData.eqv d d')) := OpV.rgt fun F σ H H0 x y hh h1 h2 Q k =>
  ⟨d, d', h K F σ H H0 x hh h1, h' K F σ H H0 y hh h2, hs, hs', k _ F H (Go.refl hh) rfl⟩
theorem ne_D {K : PySem.W.Frag} {d d' : PyData} (h : SeenD ρ ra d) (h' : SeenD ρ rb d') (hs : SeqAt.shaped d = true) (hs' : SeqAt.shaped d' = true) : OpV (rNeA K) ρ ra rb (.imm RBool (!PyData.eqv d d')) := OpV.rgt fun F σ H H0 x y hh h1 h2 Q k =>
  ⟨d, d', h K F σ H H0 x hh h1, h' K F σ H H0 y hh h2, hs, hs', k _ F H (Go.refl hh) rfl⟩
theorem eq_I {K : PySem.W.Frag} {i j : Int} : OpV (rEqA K) ρ (.imm RInt i) (.imm RInt j) (.imm RBool (decide (i = j))) := OpV.lft op_eqI
theorem ne_I {K : PySem.W.Frag} {i j : Int} : OpV (rNeA K) ρ (.imm RInt i) (.imm RInt j) (.imm RBool (!decide (i = j))) := OpV.lft op_neI
theorem eq_S {K : PySem.W.Frag} {i j : Str} : OpV (rEqA K) ρ (.imm RStr i) (.imm RStr j) (.imm RBool (decide (i = j))) := OpV.lft op_eqS
theorem ne_S {K : PySem.W.Frag} {i j : Str} : OpV (rNeA K) ρ (.imm RStr i) (.imm RStr j) (.imm RBool (!decide (i = j))) := OpV.lft op_neS

/-! ### subscripts -/
theorem ix_L {K : PySem.W.Frag} {xs : List α} {i : Int} {y : α} (hs : SeenL ρ ra R xs) (hy : atI xs i = some y) : OpV (rIx K) ρ ra (.imm RInt i) (.imm R y) := OpV.lft fun F σ H H0 x z hh h1 h2 Q k => by
  obtain ⟨p, vs, rfl, h3, h4⟩ := hs F σ H H0 x hh h1
  obtain ⟨v, e1, e2⟩ := atI_all h4 hy
  exact ⟨p, vs, i, v, rfl, h2, SqL.of h3, e1, k v F H (Go.refl hh) e2⟩
theorem ix_T {K : PySem.W.Frag} {xs : List α} {i : Int} {y : α} (hy : atI xs i = some y) : OpV (rIx K) ρ (.imm (RT R) xs) (.imm RInt i) (.imm R y) := OpV.rgt (OpV.lft fun F σ H H0 x z hh h1 h2 Q k => by
  obtain ⟨p, vs, rfl, h3, h4⟩ := h1
  obtain ⟨v, e1, e2⟩ := atI_all h4 hy
  exact ⟨p, vs, i, v, rfl, h2, SqT.of (hh.ex p _ h3), e1, k v F H (Go.refl hh) e2⟩)
theorem ix_Hh {K : PySem.W.Frag} {x : α} {i : Int} {y : β} (hs : ∀ F v, R.rel F v x → ∃ p vs v', v = .ref p ∧ F p = some (.tup vs) ∧ atI vs i = some v' ∧ S.rel F v' y) : OpV (rIx K) ρ (.imm R x) (.imm RInt i) (.imm S y) := OpV.rgt (OpV.lft fun F σ H H0 x' z hh h1 h2 Q k => by
  obtain ⟨p, vs, v', rfl, h3, e1, e2⟩ := hs F x' h1
  exact ⟨p, vs, i, v', rfl, h2, SqT.of (hh.ex p _ h3), e1, k v' F H (Go.refl hh) e2⟩)
section
variable {K : PySem.W.Frag}
theorem ix_20 {x : α × β} : OpV (rIx K) ρ (.imm (R2T R S) x) (.imm RInt 0) (.imm R x.1) := ix_Hh fun F v ⟨p, v1, v2, h1, h2, h3, h4⟩ => ⟨p, _, v1, h1, h2, rfl, h3⟩
theorem ix_21 {x : α × β} : OpV (rIx K) ρ (.imm (R2T R S) x) (.imm RInt 1) (.imm S x.2) := ix_Hh fun F v ⟨p, v1, v2, h1, h2, h3, h4⟩ => ⟨p, _, v2, h1, h2, rfl, h4⟩
theorem ix_30 {x : α × β × γ} : OpV (rIx K) ρ (.imm (R3T R S T) x) (.imm RInt 0) (.imm R x.1) := ix_Hh fun F v ⟨p, v1, v2, v3, h1, h2, h3, h4, h5⟩ => ⟨p, _, v1, h1, h2, rfl, h3⟩
theorem ix_31 {x : α × β × γ} : OpV (rIx K) ρ (.imm (R3T R S T) x) (.imm RInt 1) (.imm S x.2.1) := ix_Hh fun F v ⟨p, v1, v2, v3, h1, h2, h3, h4, h5⟩ => ⟨p, _, v2, h1, h2, rfl, h4⟩
theorem ix_32 {x : α × β × γ} : OpV (rIx K) ρ (.imm (R3T R S T) x) (.imm RInt 2) (.imm T x.2.2) := ix_Hh fun F v ⟨p, v1, v2, v3, h1, h2, h3, h4, h5⟩ => ⟨p, _, v3, h1, h2, rfl, h5⟩
theorem ix_40 {x : α × β × γ × δ} : OpV (rIx K) ρ (.imm (R4T R S T U) x) (.imm RInt 0) (.imm R x.1) := ix_Hh fun F v ⟨p, v1, v2, v3, v4, h1, h2, h3, h4, h5, h6⟩ => ⟨p, _, v1, h1, h2, rfl, h3⟩
theorem ix_41 {x : α × β × γ × δ} : OpV (rIx K) ρ (.imm (R4T R S T U) x) (.imm RInt 1) (.imm S x.2.1) := ix_Hh fun F v ⟨p, v1, v2, v3, v4, h1, h2, h3, h4, h5, h6⟩ => ⟨p, _, v2, h1, h2, rfl, h4⟩
theorem ix_42 {x : α × β × γ × δ} : OpV (rIx K) ρ (.imm (R4T R S T U) x) (.imm RInt 2) (.imm T x.2.2.1) := ix_Hh fun F v ⟨p, v1, v2, v3, v4, h1, h2, h3, h4, h5, h6⟩ => ⟨p, _, v3, h1, h2, rfl, h5⟩
theorem ix_43 {x : α × β × γ × δ} : OpV (rIx K) ρ (.imm (R4T R S T U) x) (.imm RInt 3) (.imm U x.2.2.2) := ix_Hh fun F v ⟨p, v1, v2, v3, v4, h1, h2, h3, h4, h5, h6⟩ => ⟨p, _, v4, h1, h2, rfl, h6⟩
end
/-! ### len -/
/-- what has a length -/
def SeenN (ρ : List Slot) (ra : Res) (n : Nat) : Prop := ∀ F σ H H0 v, Hold F σ H ρ → RV ρ H0 F H v ra → ∃ a vs, v = .ref a ∧ (H a = some (.lst vs) ∨ H a = some (.tup vs)) ∧ vs.length = n
theorem seenN_L {xs : List α} (h : SeenL ρ ra R xs) : SeenN ρ ra xs.length := fun F σ H H0 v hh rv => by
  obtain ⟨a, vs, rfl, h1, h2⟩ := h F σ H H0 v hh rv
  exact ⟨a, vs, rfl, .inl h1, h2.len⟩
theorem seenN_T {xs : List α} : SeenN ρ (.imm (RT R) xs) xs.length := fun F σ H H0 v hh ⟨a, vs, e, h1, h2⟩ => ⟨a, vs, e, .inr (hh.ex a _ h1), h2.len⟩
theorem seenN_2 {x : α × β} : SeenN ρ (.imm (R2T R S) x) 2 := fun F σ H H0 v hh ⟨p, v1, v2, h1, h2, h3, h4⟩ => ⟨p, _, h1, .inr (hh.ex p _ h2), rfl⟩
theorem seenN_3 {x : α × β × γ} : SeenN ρ (.imm (R3T R S T) x) 3 := fun F σ H H0 v hh ⟨p, v1, v2, v3, h1, h2, h3, h4, h5⟩ => ⟨p, _, h1, .inr (hh.ex p _ h2), rfl⟩
theorem seenN_4 {x : α × β × γ × δ} : SeenN ρ (.imm (R4T R S T U) x) 4 := fun F σ H H0 v hh ⟨p, v1, v2, v3, v4, h1, h2, h3, h4, h5, h6⟩ => ⟨p, _, h1, .inr (hh.ex p _ h2), rfl⟩
/-- what list(..), tuple(..) take -/
def SeenS (ρ : List Slot) (ra : Res) (R : Rp α) (xs : List α) : Prop := ∀ F σ H H0 v, Hold F σ H ρ → RV ρ H0 F H v ra → ∃ a vs, v = .ref a ∧ ((H a = some (.lst vs) ∧ True) ∨ F a = some (.tup vs)) ∧ All (R.rel F) vs xs
theorem seenS_L {xs : List α} (h : SeenL ρ ra R xs) : SeenS ρ ra R xs := fun F σ H H0 v hh rv => by
  obtain ⟨a, vs, rfl, h1, h2⟩ := h F σ H H0 v hh rv
  exact ⟨a, vs, rfl, .inl ⟨h1, trivial⟩, h2⟩
theorem seenS_T {xs : List α} : SeenS ρ (.imm (RT R) xs) R xs := fun F σ H H0 v hh ⟨a, vs, e, h1, h2⟩ => ⟨a, vs, e, .inr h1, h2⟩
section
variable [hF : Fam X X0] [hB : Blt X0]
/-! ### expressions in short -/
theorem v (i : Nat) {x : Str} {y : α} (h : ρ[i]? = some (.imm R y)) (hN : ∀ j, (X j).N[i]? = some x := by intro _; rfl) (hv : ∀ j, Vis (X j).env.scope x := by intro _; first | exact Or.inl rfl | exact Or.inr (Or.inl rfl) | exact Or.inr (Or.inr rfl)) (hd : (x == ("__debug__" : Str)) = false := by decide) (hcd : (x == ("__classdict__" : Str)) = false := by decide) : DV X ρ (.Name x pos) (.imm R y) ρ := dv_var i h hN hv hd hcd
theorem vO (i : Nat) {x : Str} {p : Addr} {O : Ro α} {y : α} (h : ρ[i]? = some (.own p O y)) (hN : ∀ j, (X j).N[i]? = some x := by intro _; rfl) (hv : ∀ j, Vis (X j).env.scope x := by intro _; first | exact Or.inl rfl | exact Or.inr (Or.inl rfl) | exact Or.inr (Or.inr rfl)) (hd : (x == ("__debug__" : Str)) = false := by decide) (hcd : (x == ("__classdict__" : Str)) = false := by decide) : DV X ρ (.Name x pos) (.view p O y) ρ := dv_varO i h hN hv hd hcd
include hF
theorem cAdd (i : ι) : OpR (X i) (binaryOp .Add) (rAddA X0.K) := op_add.or ((cCatA i).or (op_cat.or op_add_str))
theorem cRepT (i : ι) : OpR (X i) (binaryOp .Mult) (rRepT X0.K) := by rw [← hF.K i]; exact op_repT
theorem cMul (i : ι) : OpR (X i) (binaryOp .Mult) (rMulA X0.K) := op_mulX.or (op_rep.or (cRepT i))
theorem hu64 (i : ι) : (X i).A.units + 64 < cLine := by rw [hF.A i]; have := hF.u; omega
theorem cEqD (i : ι) : OpR (X i) (compareOp .Eq) (rEqD X0.K) := by rw [← hF.K i]; exact op_eqD (hu64 i)
theorem cNeD (i : ι) : OpR (X i) (compareOp .NotEq) (rNeD X0.K) := by rw [← hF.K i]; exact op_neD (hu64 i)
theorem cEq (i : ι) : OpR (X i) (compareOp .Eq) (rEqA X0.K) := op_eq.or (cEqD i)
theorem cNe (i : ι) : OpR (X i) (compareOp .NotEq) (rNeA X0.K) := op_ne.or (cNeD i)
theorem cIx (i : ι) : IxR (X i) (rIx X0.K) := by rw [← hF.K i]; exact ix_seq
theorem add (ha : DV X ρ a ra ρ1) (hb : DV X ρ1 b rb ρ2) (h : OpV (rAddA X0.K) ρ2 ra rb r) : DV X ρ (.BinOp a .Add b pos) r ρ2 := dv_bin cAdd ha hb h
theorem mul (ha : DV X ρ a ra ρ1) (hb : DV X ρ1 b rb ρ2) (h : OpV (rMulA X0.K) ρ2 ra rb r) : DV X ρ (.BinOp a .Mult b pos) r ρ2 := dv_bin cMul ha hb h
theorem eqV (ha : DV X ρ a ra ρ1) (hb : DV X ρ1 b rb ρ2) (h : OpV (rEqA X0.K) ρ2 ra rb r) : DV X ρ (.Compare a [.Eq] [b] pos) r ρ2 := dv_cmp cEq ha hb h (nomark _)
theorem neV (ha : DV X ρ a ra ρ1) (hb : DV X ρ1 b rb ρ2) (h : OpV (rNeA X0.K) ρ2 ra rb r) : DV X ρ (.Compare a [.NotEq] [b] pos) r ρ2 := dv_cmp cNe ha hb h (nomark _)
theorem eqT {k : Bool} (ha : DV X ρ a ra ρ1) (hb : DV X ρ1 b rb ρ2) (h : OpV (rEqA X0.K) ρ2 ra rb (.imm RBool k)) : DT X ρ (.Compare a [.Eq] [b] pos) k ρ2 := dt_cmp cEq ha hb h (nomark _)
theorem neT {k : Bool} (ha : DV X ρ a ra ρ1) (hb : DV X ρ1 b rb ρ2) (h : OpV (rNeA X0.K) ρ2 ra rb (.imm RBool k)) : DT X ρ (.Compare a [.NotEq] [b] pos) k ρ2 := dt_cmp cNe ha hb h (nomark _)
theorem ix (ha : DV X ρ a ra ρ1) (hb : DV X ρ1 b rb ρ2) (h : OpV (rIx X0.K) ρ2 ra rb r) (hp : PlainIx b := by exact fun _ _ => rfl) : DV X ρ (.Subscript a b pos) r ρ2 := dv_of (fun i => pe_ix (cIx i) (can a i) (can b i) hp) (ev_op ha hb h)
theorem a0 : DA X ρ [] [] ρ := da_nil
theorem a1 {rs : List Res} (ha : DV X ρ e r ρ1) (hr : DA X ρ1 es rs ρ2) (hs : ∀ i, starEach (e :: es) (X i).env = (false, eval e (X i).env) :: starEach es (X i).env := by intro i; rfl) : DA X ρ (e :: es) (r :: rs) ρ2 := da_cons ha hr hs
include hB
theorem len {n : Nat} (h : DV X ρ e r ρ1) (hs : SeenN ρ1 r n) (hg : ∀ i, Gl (X i) "len" := by intro _; rfl) (he : ∀ i, starEach [e] (X i).env = (false, eval e (X i).env) :: starEach [] (X i).env := by intro _; rfl) : DV X ρ (.Call (.Name "len" p') [e] [] pos) (.imm RInt (n : Int)) ρ1 :=
  dv_callB hB.len cLen PySem.boot_len (da_one h he) (fun F σ H H0 vs hh hv Q k => by
    cases hv with
    | cons h1 hv =>
      cases hv
      obtain ⟨a, vs, rfl, h2, h3⟩ := hs F σ H H0 _ hh h1
      subst h3
      rcases h2 with h2 | h2
      · exact ⟨a, vs, rfl, .inl (SqL.of h2), k _ F H (Go.refl hh) rfl⟩
      · exact ⟨a, vs, rfl, .inr (SqT.of h2), k _ F H (Go.refl hh) rfl⟩) hg (by decide) (by decide) he (fun i => rfl)
theorem tuple {xs : List α} (h : DV X ρ e r ρ1) (hs : SeenS ρ1 r R xs) (hg : ∀ i, Gl (X i) "tuple" := by intro _; rfl) (he : ∀ i, starEach [e] (X i).env = (false, eval e (X i).env) :: starEach [] (X i).env := by intro _; rfl) : DV X ρ (.Call (.Name "tuple" p') [e] [] pos) (.imm (RT R) xs) ρ1 :=
  dv_callTy hB.tuple cTuple boot_tuple' (da_one h he) (fun F σ H H0 vs hh hv Q k => by
    cases hv with
    | cons h1 hv =>
      cases hv
      obtain ⟨a, vs, rfl, h2, h3⟩ := hs F σ H H0 _ hh h1
      rcases h2 with ⟨h2, _⟩ | h2
      · refine ⟨a, vs, rfl, .inl ⟨SqL.of h2, fun l hl => ?_⟩⟩
        have ga : Go ρ1 F H ρ1 σ (upd F l (.tup vs)) (upd H l (.tup vs)) := Go.alloc hh hl
        exact k _ _ _ ga ⟨l, vs, rfl, upd_same, h3.imp fun _ _ => R.up ga.ex⟩
      · exact ⟨a, vs, rfl, .inr ⟨SqT.of (hh.ex a _ h2), k _ _ _ (Go.refl hh) ⟨a, vs, rfl, h2, h3⟩⟩⟩) hg (by decide) (by decide) he (fun i => rfl)
theorem list {xs : List α} (h : DV X ρ e r ρ1) (hs : SeenS ρ1 r R xs) (hg : ∀ i, Gl (X i) "list" := by intro _; rfl) (he : ∀ i, starEach [e] (X i).env = (false, eval e (X i).env) :: starEach [] (X i).env := by intro _; rfl) : DV X ρ (.Call (.Name "list" p') [e] [] pos) (.new (OL R) xs) ρ1 :=
  dv_callTy hB.list cList boot_list' (da_one h he) (fun F σ H H0 vs hh hv Q k => by
    cases hv with
    | cons h1 hv =>
      cases hv
      obtain ⟨a, vs, rfl, h2, h3⟩ := hs F σ H H0 _ hh h1
      rcases h2 with ⟨h2, _⟩ | h2
      · exact ⟨a, vs, rfl, .inl (SqL.of h2), fun l hl => k _ _ _ (Go.allocO hh hl) (new_lst hh hl hl h3)⟩
      · exact ⟨a, vs, rfl, .inr (SqT.of (hh.ex a _ h2)), fun l hl => k _ _ _ (Go.allocO hh hl) (new_lst hh hl hl h3)⟩) hg (by decide) (by decide) he (fun i => rfl)
/-- list(range(n)), list(range(a, b)) -/
theorem listRg1 {n : Int} (h : DV X ρ e (.imm RInt n) ρ1) (hn : 0 ≤ n ∧ n ≤ 10000000) (hg : ∀ i, Gl (X i) "list" := by intro _; rfl) (hg2 : ∀ i, Gl (X i) "range" := by intro _; rfl) (he : ∀ i, starEach [Expr.Call (.Name "range" p2) [e] [] pos] (X i).env = (false, eval (Expr.Call (.Name "range" p2) [e] [] pos) (X i).env) :: starEach [] (X i).env := by intro _; rfl)
    (he2 : ∀ i, starEach [e] (X i).env = (false, eval e (X i).env) :: starEach [] (X i).env := by intro _; rfl) : DV X ρ (.Call (.Name "list" p') [.Call (.Name "range" p2) [e] [] pos] [] cpos) (.new (OL RInt) (rng 0 n)) ρ1 :=
  dv_of (fun i => pe_listRg (hF.calm i) (hg i) (by rw [hF.mg i]; exact hB.list) (prg_1 (hg2 i) (by rw [hF.mg i]; exact hB.range) (can e i) (he2 i)) (he i)) fun F σ H hh Q k => h F σ H hh _ fun v F1 H1 g rv =>
    ⟨n, rv, RgOk.of_le (Int.le_refl 0) (by omega) (by decide) hn.1, fun q hq => k _ _ _ (g.trans (Go.allocO g.hold hq)) (new_lst g.hold hq (g.there q hq) (by
      unfold rgV rng
      exact (All.map (P := fun v x => v = V.int x) (f := V.int) (fun _ => rfl) ((List.range (n - 0).toNat).map fun (i : Nat) => (0 : Int) + (i : Int))) |> fun a => by rw [List.map_map] at a; exact a))⟩
end
end
end PD

set_option Elab.async false
set_option linter.all false
set_option maxRecDepth 100000
set_option maxHeartbeats 4000000
namespace PD
open PySem L2

/-! ### a list at a place -/
def nth {α : Type} [Inhabited α] (xs : List α) (i : Int) : α := xs.getD i.toNat default
section
variable {α : Type} [Inhabited α] {xs : List α}
theorem nth_ok {i : Int} (h : 0 ≤ i ∧ i < xs.length) : atI xs i = some (nth xs i) := by
  unfold nth
  rw [atI_in h.1 h.2]
  have : i.toNat < xs.length := by omega
  rw [List.getD_eq_getElem?_getD, getElem!_pos xs i.toNat this, List.getElem?_eq_getElem this]; rfl
theorem nth_nat {i : Nat} : nth xs (i : Int) = xs.getD i default := rfl
theorem nth_mem {i : Int} (h : 0 ≤ i ∧ i < xs.length) : nth xs i ∈ xs := by
  unfold nth
  rw [List.getD_eq_getElem?_getD]
  have : i.toNat < xs.length := by omega
  rw [List.getElem?_eq_getElem this]; exact List.getElem_mem this
theorem nth_map {β : Type} [Inhabited β] {f : α → β} {i : Int} (h : 0 ≤ i ∧ i < xs.length) : nth (xs.map f) i = f (nth xs i) := by
  unfold nth
  have : i.toNat < xs.length := by omega
  simp [List.getD_eq_getElem?_getD, List.getElem?_eq_getElem this]
end
theorem SetAt.wk {r r' : List Slot} {n : Nat} {s : Slot} (h : SetAt r n s r') : r[n]? = some Slot.any → Wk r' r := by
  induction h with
  | zero => intro e; simp at e; subst e; exact .forget (Wk.refl _)
  | succ _ ih => intro e; exact .keep (ih (by simpa using e))
theorem Wk.trans {a b c : List Slot} (h : Wk a b) (h2 : Wk b c) : Wk a c := by
  induction h generalizing c with
  | nil => exact h2
  | keep _ ih => cases h2 with
    | keep h2 => exact .keep (ih h2)
    | forget h2 => exact .forget (ih h2)
  | forget _ ih => cases h2 with
    | keep h2 => exact .forget (ih h2)
    | forget h2 => exact .forget (ih h2)
section
variable {s a b c d e f g h i j k l m n o p : Slot} {r : List Slot}
theorem s0 : SetAt (a :: r) 0 s (s :: r) := .zero
theorem s1 : SetAt (a :: b :: r) 1 s (a :: s :: r) := .succ .zero
theorem s2 : SetAt (a :: b :: c :: r) 2 s (a :: b :: s :: r) := .succ s1
theorem s3 : SetAt (a :: b :: c :: d :: r) 3 s (a :: b :: c :: s :: r) := .succ s2
theorem s4 : SetAt (a :: b :: c :: d :: e :: r) 4 s (a :: b :: c :: d :: s :: r) := .succ s3
theorem s5 : SetAt (a :: b :: c :: d :: e :: f :: r) 5 s (a :: b :: c :: d :: e :: s :: r) := .succ s4
theorem s6 : SetAt (a :: b :: c :: d :: e :: f :: g :: r) 6 s (a :: b :: c :: d :: e :: f :: s :: r) := .succ s5
theorem s7 : SetAt (a :: b :: c :: d :: e :: f :: g :: h :: r) 7 s (a :: b :: c :: d :: e :: f :: g :: s :: r) := .succ s6
theorem s8 : SetAt (a :: b :: c :: d :: e :: f :: g :: h :: i :: r) 8 s (a :: b :: c :: d :: e :: f :: g :: h :: s :: r) := .succ s7
theorem s9 : SetAt (a :: b :: c :: d :: e :: f :: g :: h :: i :: j :: r) 9 s (a :: b :: c :: d :: e :: f :: g :: h :: i :: s :: r) := .succ s8
theorem s10 : SetAt (a :: b :: c :: d :: e :: f :: g :: h :: i :: j :: k :: r) 10 s (a :: b :: c :: d :: e :: f :: g :: h :: i :: j :: s :: r) := .succ s9
theorem s11 : SetAt (a :: b :: c :: d :: e :: f :: g :: h :: i :: j :: k :: l :: r) 11 s (a :: b :: c :: d :: e :: f :: g :: h :: i :: j :: k :: s :: r) := .succ s10
theorem s12 : SetAt (a :: b :: c :: d :: e :: f :: g :: h :: i :: j :: k :: l :: m :: r) 12 s (a :: b :: c :: d :: e :: f :: g :: h :: i :: j :: k :: l :: s :: r) := .succ s11
theorem s13 : SetAt (a :: b :: c :: d :: e :: f :: g :: h :: i :: j :: k :: l :: m :: n :: r) 13 s (a :: b :: c :: d :: e :: f :: g :: h :: i :: j :: k :: l :: m :: s :: r) := .succ s12
end
section
variable {ι : Type} {X : ι → Cx} {X0 : Cx} [hF : Fam X X0] {ρ ρ1 ρ2 ρ3 : List Slot} {r ra rb rc : Res} {e a b c elt tg iter it : Expr} {es : List Expr} {te ta tb : TE} {tt : TT} {tr : TA} {st : Stmt} {rest body : List Stmt} {P : Post} {ts : TS} {pos p' p2 pos' apos cpos py spos : Pos} {scope : Scope}
variable {α β γ δ : Type} {R : Rp α} {S : Rp β} {T : Rp γ} {U : Rp δ} {x : Str}
include hF
theorem nodups (j : ι) : (X j).N.Nodup := by rw [hF.N j]; exact hF.nd
/-! ### statements -/
theorem asg (i : Nat) {y : α} (h : DV X ρ e (.imm R y) ρ1) (hs : SetAt ρ1 i (.imm R y) ρ2) (q : DSs X ρ2 rest P) (hi : ∀ j, (X j).N[i]? = some x := by intro _; rfl) (hx : ∀ j, Loc (X j).env.scope x := by intro _; first | exact Or.inl rfl | exact Or.inr rfl | rfl)
    (hsw : ∀ j, swapsWith e (some (.Name x pos')) pos.line (X j).env = pure false := by intro _; rfl) (hf : ∀ j, (X j).fn x = true ∨ (X j).env.scope.names.lookup x = some .local := by intro _; first | exact Or.inr rfl | exact Or.inl rfl) : DSs X ρ (.Assign [.Name x pos'] e pos :: rest) P :=
  dss_cons (ds_setI (i := i) h (by rw [← hs.eq]; exact q) nodups hi hx hsw hf)
theorem asgN (i : Nat) {R : Ro α} {y : α} {ρ2 : Addr → List Slot} (h : DV X ρ e (.new R y) ρ1) (hs : ∀ p, SetAt ρ1 i (.own p R y) (ρ2 p)) (q : ∀ p, DSs X (ρ2 p) rest P) (hi : ∀ j, (X j).N[i]? = some x := by intro _; rfl) (hx : ∀ j, Loc (X j).env.scope x := by intro _; first | exact Or.inl rfl | exact Or.inr rfl | rfl)
    (hsw : ∀ j, swapsWith e (some (.Name x pos')) pos.line (X j).env = pure false := by intro _; rfl) (hf : ∀ j, (X j).fn x = true ∨ (X j).env.scope.names.lookup x = some .local := by intro _; first | exact Or.inr rfl | exact Or.inl rfl) : DSs X ρ (.Assign [.Name x pos'] e pos :: rest) P :=
  dss_cons (ds_setN (i := i) h (fun p => by show DSs X _ rest P; rw [← (hs p).eq]; exact q p) nodups hi hx hsw hf)
theorem ex (h : DV X ρ e r ρ1) (q : DSs X ρ1 rest P) (hs : ∀ j, swapsWith e none pos.line (X j).env = pure false := by intro j; rfl) : DSs X ρ (.Expr e pos :: rest) P := dss_cons (ds_expr h q hs)
theorem ret (h : DV X ρ e r ρ1) (q : P.rt ρ1 r) : DSs X ρ (.Return (some e) pos :: rest) P := dss_cons (ds_ret h q)
theorem iff {k : Bool} {A B : List Stmt} (hc : DT X ρ c k ρ1) (h1 : k = true → DSs X ρ1 A { P with nx := fun ρ1 => DSs X ρ1 rest P }) (h2 : k = false → DSs X ρ1 B { P with nx := fun ρ1 => DSs X ρ1 rest P }) : DSs X ρ (.If c A B pos :: rest) P := dss_cons (ds_if hc h1 h2)
/-- a for loop; E: the names' things behind the turns for a prefix -/
theorem forE [hP : POwn X] {xs : List α} (E : List α → List Slot) (hi : DI X ρ tg it R xs ρ1) (h0 : Wk ρ1 (E []))
    (hs : ∀ pre x suf, xs = pre ++ x :: suf → ∃ ts ρk', DG X tg ts R x (E pre) ρk' ∧ DSs X ρk' body { P with nx := fun ρ' => Wk ρ' (E (pre ++ [x])), ct := fun ρ' => Wk ρ' (E (pre ++ [x])), bk := fun ρ1 => DSs X ρ1 rest P }) (hd : DSs X (E xs) rest P)
    (hfs : ∀ i x, foldedSetIterable it (X i).env x = pure x := by intro _ _; rfl) : DSs X ρ (.For tg it body [] pos :: rest) P :=
  dss_cons (ds_forE hi E h0 hs (fun ρ' w => dss_wk w hd) hfs)
/-! ### targets -/
theorem tgN (i : Nat) {y : α} (hs : SetAt ρ i (.imm R y) ρ1) (hi : ∀ j, (X j).N[i]? = some x := by intro _; rfl) (hx : ∀ j, Loc (X j).env.scope x := by intro _; first | exact Or.inl rfl | exact Or.inr rfl | rfl) (hf : ∀ j, (X j).fn x = true ∨ (X j).env.scope.names.lookup x = some .local := by intro _; first | exact Or.inr rfl | exact Or.inl rfl) : DG X (.Name x pos) [i] R y ρ ρ1 := by
  rw [hs.eq]; exact dg_name i nodups hi hx hf
theorem tg2 {a b : Expr} {k : Nat} {y : α × β} {ts us : List Nat} (h1 : DG X a ts R y.1 ρ ρ1) (h2 : DG X b us S y.2 ρ1 ρ2) (hs : ∀ i, (assignEach [a, b] (X i).env).map (·.2) = assign a (X i).env :: (assignEach [b] (X i).env).map (·.2) := by intro _; rfl) (hs2 : ∀ i, (assignEach [b] (X i).env).map (·.2) = assign b (X i).env :: (assignEach [] (X i).env).map (·.2) := by intro _; rfl)
    (hn : ∀ i, (assignEach [a, b] (X i).env).length = 2 := by intro _; rfl) (hst : ∀ i, (assignEach [a, b] (X i).env).findIdx? (·.1) = none := by intro _; rfl) : DG X (.Tuple [a, b] k pos) (ts ++ (us ++ [])) (R2T R S) y ρ ρ2 :=
  dg_2 (dgs_cons h1 (dgs_cons h2 dgs_nil hs2) hs) hn hst
/-! ### comprehensions -/
section
variable {own : List (Str × Nat)} {xs : List α}
theorem lcm (own : List (Str × Nat)) {f : α → β} (hi : DI X ρ tg iter R xs ρ1) (hl : xs.length ≤ 10000000)
    (hs : ∀ y, y ∈ xs → ∃ ts ρk ρk2, (∀ i ∈ ts, i ∈ own.map (·.2)) ∧ DG (blkF X scope) tg ts R y ρ1 ρk ∧ DV (blkF X scope) ρk elt (.imm S (f y)) ρk2 ∧ Wk ρk2 ρ1) (hw : wipeS ρ1 (own.map (·.2)) = ρ1 := by rfl) :
    LC X ρ elt tg iter [] scope (own.map (·.2)) (.new (OL S) (xs.map f)) ρ1 :=
  lc_map hi f hl (fun i him s hx => by
    rw [← hw] at hx
    rcases wipeS_any (ρ := ρ1) him with z | z
    · rw [z] at hx; cases hx; rfl
    · rw [z] at hx; cases hx) fun y hy => by
    obtain ⟨ts, ρk, ρk2, h1, h2, h3, h4⟩ := hs y hy
    rw [hw]
    exact ⟨ts, ρk, h1, h2, ρk2, h3, h4⟩
theorem lcf (own : List (Str × Nat)) {p : α → Bool} {f : α → β} (hi : DI X ρ tg iter R xs ρ1) (hl : xs.length ≤ 10000000)
    (hs : ∀ y, y ∈ xs → ∃ ts ρk ρk1 ρk2, (∀ i ∈ ts, i ∈ own.map (·.2)) ∧ DG (blkF X scope) tg ts R y ρ1 ρk ∧ DT (blkF X scope) ρk c (p y) ρk1 ∧ DV (blkF X scope) ρk1 elt (.imm S (f y)) ρk2 ∧ Wk ρk2 ρ1 ∧ Wk ρk1 ρ1) (hw : wipeS ρ1 (own.map (·.2)) = ρ1 := by rfl) :
    LC X ρ elt tg iter [c] scope (own.map (·.2)) (.new (OL S) ((xs.filter p).map f)) ρ1 :=
  lc_filter hi p f hl (fun i him s hx => by
    rw [← hw] at hx
    rcases wipeS_any (ρ := ρ1) him with z | z
    · rw [z] at hx; cases hx; rfl
    · rw [z] at hx; cases hx) fun y hy => by
    obtain ⟨ts, ρk, ρk1, ρk2, h1, h2, h3, h4, h5, h6⟩ := hs y hy
    rw [hw]
    exact ⟨ts, ρk, h1, h2, ρk1, h3, fun _ => ⟨ρk2, h4, h5⟩, fun _ => h6⟩
theorem lcV {ifs : List Expr} (h : LC X ρ elt tg iter ifs scope (own.map (·.2)) r ρ1) (ok : ∀ i, blkC (X i).N (X i).env.scope scope own = true := by intro _; rfl) (hs : ∀ i x, foldedSetIterable iter (X i).env x = pure x := by intro _ _; rfl) : DV X ρ (.ListComp elt [⟨tg, iter, ifs, 0⟩] scope pos) r ρ1 := dv_lc h ok hs
theorem asgLc (i : Nat) {ifs : List Expr} {y : α} {O : Ro α} (h : LC X ρ elt tg iter ifs scope (own.map (·.2)) (.new O y) ρ1) (hsa : SetAt ρ1 i (.imm O.fz y) ρ2) (q : DSs X ρ2 rest P) (ok : ∀ i, blkC (X i).N (X i).env.scope scope own = true := by intro _; rfl) (hs : ∀ i x, foldedSetIterable iter (X i).env x = pure x := by intro _ _; rfl)
    (hy : ∀ j, (X j).N[i]? = some x := by intro _; rfl) (hyl : ∀ i, (X i).env.scope.names.lookup x = some .local := by intro _; rfl) (hsw : ∀ i, swapsWith (.ListComp elt [⟨tg, iter, ifs, 0⟩] scope pos) (some (.Name x py)) spos.line (X i).env = pure true := by intro _; rfl) :
    DSs X ρ (.Assign [.Name x py] (.ListComp elt [⟨tg, iter, ifs, 0⟩] scope pos) spos :: rest) P :=
  dss_cons (ds_lc h (set_fz (by rw [← hsa.eq]; exact q)) ok hs hy hyl hsw)
theorem asgLcN (i : Nat) {ifs : List Expr} {y : α} {O : Ro α} {ρ2 : Addr → List Slot} (h : LC X ρ elt tg iter ifs scope (own.map (·.2)) (.new O y) ρ1) (hsa : ∀ p, SetAt ρ1 i (.own p O y) (ρ2 p)) (q : ∀ p, DSs X (ρ2 p) rest P) (ok : ∀ i, blkC (X i).N (X i).env.scope scope own = true := by intro _; rfl) (hs : ∀ i x, foldedSetIterable iter (X i).env x = pure x := by intro _ _; rfl)
    (hy : ∀ j, (X j).N[i]? = some x := by intro _; rfl) (hyl : ∀ i, (X i).env.scope.names.lookup x = some .local := by intro _; rfl) (hsw : ∀ i, swapsWith (.ListComp elt [⟨tg, iter, ifs, 0⟩] scope pos) (some (.Name x py)) spos.line (X i).env = pure true := by intro _; rfl) :
    DSs X ρ (.Assign [.Name x py] (.ListComp elt [⟨tg, iter, ifs, 0⟩] scope pos) spos :: rest) P :=
  dss_cons (ds_lc h (set_new fun p => by show DSs X _ rest P; rw [← (hsa p).eq]; exact q p) ok hs hy hyl hsw)
end
end
/-! ### more on iterables and calls in short -/
section
variable {ι : Type} {X : ι → Cx} {X0 : Cx} [hF : Fam X X0] [hB : Blt X0] {ρ ρ1 ρ2 ρ3 : List Slot} {r ra rb rc : Res} {e e2 a b c tg : Expr} {pos p' p2 pos' : Pos} {α β : Type} {R : Rp α} {xs : List α}
include hF hB
theorem rg1 {n : Int} (h : DV X ρ e (.imm RInt n) ρ1) (hb : -(2 ^ 62) ≤ n ∧ n < 2 ^ 62) (hg : ∀ i, Gl (X i) "range" := by intro _; rfl) (hs : ∀ i, starEach [e] (X i).env = (false, eval e (X i).env) :: starEach [] (X i).env := by intro _; rfl) (hs' : ∀ i, starEach [e] (X i).env = [(false, eval e (X i).env)] := by intro _; rfl) : DI X ρ tg (.Call (.Name "range" p') [e] [] pos) RInt (rng 0 n) ρ1 := di_range1 h hb.1 hb.2 hg hs hs'
theorem rg2 {lo n : Int} (h : DV X ρ e (.imm RInt lo) ρ1) (h2 : DV X ρ1 e2 (.imm RInt n) ρ2) (hb : -(2 ^ 62) ≤ lo ∧ lo < 2 ^ 62 ∧ -(2 ^ 62) ≤ n ∧ n < 2 ^ 62) (hg : ∀ i, Gl (X i) "range" := by intro _; rfl) (hs : ∀ i, starEach [e, e2] (X i).env = (false, eval e (X i).env) :: starEach [e2] (X i).env := by intro _; rfl)
    (hs2 : ∀ i, starEach [e2] (X i).env = (false, eval e2 (X i).env) :: starEach [] (X i).env := by intro _; rfl) (hs' : ∀ i, starEach [e, e2] (X i).env = [(false, eval e (X i).env), (false, eval e2 (X i).env)] := by intro _; rfl) (hs'' : ∀ i, starEach [e2] (X i).env = [(false, eval e2 (X i).env)] := by intro _; rfl) : DI X ρ tg (.Call (.Name "range" p') [e, e2] [] pos) RInt (rng lo n) ρ2 := di_range2 h h2 hb hg hs hs2 hs' hs''
theorem sum {xs : List Int} (h : DV X ρ e r ρ1) (hs : SeenL ρ1 r RInt xs) (hg : ∀ i, Gl (X i) "sum" := by intro _; rfl) (he : ∀ i, starEach [e] (X i).env = (false, eval e (X i).env) :: starEach [] (X i).env := by intro _; rfl) : DV X ρ (.Call (.Name "sum" p') [e] [] pos) (.imm RInt xs.sum) ρ1 := dv_sum h hs hg he
theorem allV {xs : List Bool} (h : DV X ρ e r ρ1) (hs : SeenL ρ1 r RBool xs) (hg : ∀ i, Gl (X i) "all" := by intro _; rfl) (he : ∀ i, starEach [e] (X i).env = (false, eval e (X i).env) :: starEach [] (X i).env := by intro _; rfl) : DV X ρ (.Call (.Name "all" p') [e] [] pos) (.imm RBool (xs.all id)) ρ1 := dv_all h hs hg he
theorem anyV {xs : List Bool} (h : DV X ρ e r ρ1) (hs : SeenL ρ1 r RBool xs) (hg : ∀ i, Gl (X i) "any" := by intro _; rfl) (he : ∀ i, starEach [e] (X i).env = (false, eval e (X i).env) :: starEach [] (X i).env := by intro _; rfl) : DV X ρ (.Call (.Name "any" p') [e] [] pos) (.imm RBool (xs.any id)) ρ1 := dv_any h hs hg he
theorem intB {k : Bool} (h : DV X ρ e (.imm RBool k) ρ1) (hg : ∀ i, Gl (X i) "int" := by intro _; rfl) (he : ∀ i, starEach [e] (X i).env = (false, eval e (X i).env) :: starEach [] (X i).env := by intro _; rfl) : DV X ρ (.Call (.Name "int" p') [e] [] pos) (.imm RInt (b2n k)) ρ1 := dv_intB h hg he
/-- a call, all arguments values -/
theorem cal {es : List Expr} {x : Str} {n k j : Nat} {as : List Slot} {Sx : List Slot → List Slot → Res → Prop} (C : Cal X0.prog X0.w X0.K X0.mg X0.base x n k Sx) (hr : Room j X0.A) (hj : k ≤ j) (ha : DA X ρ (e :: es) (as.map toRes) ρ1) (hi : Imms as) (hn : as.length = n) (hS : Sx as as r)
    (hg : ∀ i, Gl (X i) x := by intro _; rfl) (he : ∀ i, starEach (e :: es) (X i).env = (false, eval e (X i).env) :: starEach es (X i).env := by intro _; rfl) (hpl : ∀ i, (backTo pos (starEach es (X i).env)).any (·.1) = false := by intro _; rfl) (hdb : (x == ("__debug__" : Str)) = false := by decide) : DV X ρ (.Call (.Name x p') (e :: es) [] pos) r ρ1 :=
  dv_call C hr hj ha hi hn hS hg he hpl hdb
end
end PD

set_option Elab.async false
set_option linter.all false
set_option maxRecDepth 100000
set_option maxHeartbeats 4000000
namespace PD
open PySem L2
/-- the module leaves the built-in names alone -/
class BltG (mg : Str → Option Value) : Prop where
  len : mg "len" = none
  range : mg "range" = none
  zip : mg "zip" = none
  enumerate : mg "enumerate" = none
  sum : mg "sum" = none
  any : mg "any" = none
  all : mg "all" = none
  min : mg "min" = none
  max : mg "max" = none
  abs : mg "abs" = none
  sorted : mg "sorted" = none
  set : mg "set" = none
  dict : mg "dict" = none
  list : mg "list" = none
  tuple : mg "tuple" = none
  int : mg "int" = none
  bool : mg "bool" = none
  str : mg "str" = none
  repr : mg "repr" = none
  isinstance : mg "isinstance" = none
section
variable {P : Program} {w : World} {K : PySem.W.Frag} {mg : Str → Option Value} {base : Heap}
instance blt_of [B : BltG mg] {N : List Str} {qual : Str} {scope : Scope} {f : Addr} {cdv : Value} {A : Around} {outer : List Env} {s : Shared} {H : Hp} {E : XK} : Blt (cxOf CX0 P w K mg base N qual scope f cdv A outer s H E).nox :=
  ⟨B.len, B.range, B.zip, B.enumerate, B.sum, B.any, B.all, B.min, B.max, B.abs, B.sorted, B.set, B.dict, B.list, B.tuple, B.int, B.bool, B.str, B.repr, B.isinstance⟩
/-- a def as the module holds it -/
structure FnM (K : PySem.W.Frag) (mg : Str → Option Value) (x : Str) (st : Stmt) (ps : List Str) : Prop where
  ex : ∃ f fd, Fun K x x st f fd ∧ mg x = some (.ref f) ∧ Binds K fd ps []
theorem fnK {x : Str} {st : Stmt} {N ps : List Str} {k : Nat} {S : List Slot → List Slot → Res → Prop} {f : Addr} {fd : FuncData} (F : Fun K x x st f fd) (Sc : FnScope N ps (defScope st))
    (hS : ∀ as as' r, S as as' r → as.length = ps.length) (hN : ps.length ≤ N.length)
    (hbody : ∀ (f : Addr) (cdv : Value) (A : Around) (outer : List Env) (s : Shared) (H : Hp) (E : XK) (as as' : List Slot) (r : Res), Room k (A.deeper (PyProof.Rows.envOfC x (defScope st) s.heap.objs.size f cdv)) →
      Fam (fun _ : Unit => (cxOf CX0 P w K mg base N x (defScope st) f cdv A outer s H E).nox) (cxOf CX0 P w K mg base N x (defScope st) f cdv A outer s H E).nox → S as as' r →
      DSs (fun _ : Unit => (cxOf CX0 P w K mg base N x (defScope st) f cdv A outer s H E).nox) (as ++ List.replicate (N.length - as.length) Slot.any) (defBody st) (bodyPost as as' r)) :
    FnOk P w K mg base CX0 (k + 1) f fd ps (SpG ps.length S) :=
  fn_ok F Sc hS hN fun cdv A outer s H E as as' r hr h => hbody f cdv A outer s H E as as' r hr (fam_of Sc hr) h
theorem fnM {x : Str} {st : Stmt} {N ps : List Str} {k : Nat} {S : List Slot → List Slot → Res → Prop} (F : FnM K mg x st ps) (Sc : FnScope N ps (defScope st))
    (hS : ∀ as as' r, S as as' r → as.length = ps.length) (hN : ps.length ≤ N.length)
    (hbody : ∀ (f : Addr) (cdv : Value) (A : Around) (outer : List Env) (s : Shared) (H : Hp) (E : XK) (as as' : List Slot) (r : Res), Room k (A.deeper (PyProof.Rows.envOfC x (defScope st) s.heap.objs.size f cdv)) →
      Fam (fun _ : Unit => (cxOf CX0 P w K mg base N x (defScope st) f cdv A outer s H E).nox) (cxOf CX0 P w K mg base N x (defScope st) f cdv A outer s H E).nox → S as as' r →
      DSs (fun _ : Unit => (cxOf CX0 P w K mg base N x (defScope st) f cdv A outer s H E).nox) (as ++ List.replicate (N.length - as.length) Slot.any) (defBody st) (bodyPost as as' r)) :
    Cal P w K mg base x ps.length (k + 1) S := by
  obtain ⟨f, fd, F, hm, hb⟩ := F.ex
  exact fn_pd F Sc hm hb hS hN fun cdv A outer s H E as as' r hr h => hbody f cdv A outer s H E as as' r hr (fam_of Sc hr) h
end
end PD

set_option Elab.async false
set_option linter.all false
set_option maxRecDepth 100000
set_option maxHeartbeats 4000000
/-! library walks that the hand layer lacks: min, sorted of a tuple; sum of a dict's values -/
namespace PD
open PySem PySem.Spec PyProof.Rows L2
theorem isTup_of {h : Heap} {a : Addr} {items : Array Value} (x : IsTup h a items) : h.IsTuple a items := by
  obtain ⟨o, h1, h2, n, h3⟩ := x
  exact ⟨o, h1, h2, n, h3⟩
section
variable {X : Cx}
def rMinT (K : PySem.W.Frag) : List V → Hp → VK → Prop := fun vs H Q => ∃ (a : Addr) (ns : List Int), vs = [V.ref a] ∧ SqT K H a (ns.map V.int) ∧ 0 < ns.length ∧ ∀ m, m ∈ ns → (∀ y, y ∈ ns → m ≤ y) → Q (.int m) H
theorem cr_minT (hc : X.calm = true) : CallR X (.builtin "min") (rMinT X.K) := by
  intro pins s σ H vs us Q I r h
  obtain ⟨a, ns, rfl, hs, hne, q⟩ := h
  obtain ⟨its, rv, ht, hz⟩ := I.tuple hs
  obtain rfl := Vals.ref1 r
  have hl := isTup_of ht
  have hi := rv.ints
  have hlen : its.length = ns.length := by have := rv.length; rw [List.length_map] at this; exact this.symm
  have hlt : a < s.heap.objs.size := by obtain ⟨_, e, _⟩ := hl; exact Heap.lt_size e
  have hval : ∀ (i : Nat) (v : Value), its.toArray[i]? = some v → ∃ t, v = Value.int (ns.getD i 0) t := fun i v hv => by
    have hv' : its[i]? = some v := by simpa using hv
    have key : ∀ (us : List Value) (ms : List Int), IntsAre us ms → ∀ (i : Nat) (v : Value), us[i]? = some v → ∃ t, v = Value.int (ms.getD i 0) t := fun us ms h => by
      induction h with
      | nil => intro i v e; simp at e
      | cons n t r ih =>
        intro i v e
        cases i with
        | zero => simp at e; exact ⟨t, e.symm⟩
        | succ i => simp at e; simpa using ih i v e
    exact key its ns hi i v hv'
  refine call_min_walk (wpAny_pyIter_tuple hl ?_)
  refine ⟨_, _, _, _, _, _, _, rfl, Walks.tuple (A := X.A.in1) (I.ok.hd hc) s.heap.objs.size a (Nat.ne_of_lt hlt) its.toArray, ⟨⟨_, Heap.get?_push_size _ rfl, rfl, rfl⟩, hl.push _⟩, fun b hb => ?_, by simp; omega, CmpOf.ints_lt (fun i => ns.getD i 0) hval, fun v h' tk hP hk => ?_⟩
  · show b < (s.heap.push _).objs.size
    rw [Heap.size_push]
    rcases List.mem_cons.mp hb with e | hb
    · rw [e]; exact Nat.lt_succ_self _
    · rw [List.mem_singleton.mp hb]; exact Nat.lt_succ_of_lt hlt
  · obtain ⟨t, rfl⟩ := hval _ v hP
    obtain ⟨b1, b2⟩ := argBest_lt (fun i => ns.getD i 0) (its.toArray.size - 1)
    have hsz : its.toArray.size = ns.length := by simp [hlen]
    refine ⟨.int _, H, I.kept (t' := tk) fun b u e => hk b u (fun hm => ?_) (Heap.get?_push_of_some _ e), ⟨t, rfl⟩, q _ ?_ fun j hj => ?_⟩
    · have e1 := List.mem_singleton.mp hm
      have e2 := Heap.lt_size e
      rw [e1] at e2
      exact absurd e2 (Nat.lt_irrefl _)
    · have hb : argBest (fun i j => decide (ns.getD i 0 < ns.getD j 0)) (its.toArray.size - 1) < ns.length := by omega
      rw [List.getD_eq_getElem?_getD, List.getElem?_eq_getElem hb]
      exact List.getElem_mem hb
    · obtain ⟨i, hi', e⟩ := List.mem_iff_getElem.mp hj
      have e2 : ns.getD i 0 = j := by rw [List.getD_eq_getElem?_getD, List.getElem?_eq_getElem hi', ← e] <;> rfl
      rw [← e2]
      exact b2 i (by omega)
end
section
variable {prog : Program} {w : World} {A : Around} {E : Value → Shared → Prop} {s : Shared}
theorem collect_tup {l : Addr} {vs : List Value} {Q : List Value → Shared → Prop} (hl : IsTup s.heap l vs.toArray) (hsz : vs.length ≤ sizeLine)
    (h : Q vs { s with heap := (s.heap.push (seqObj "list" #[] 0)).update s.heap.objs.size (Obj.mapSeq (· ++ vs.toArray)) }) :
    wpAny (model prog w) A (collect (.ref l)) Q E s := by
  obtain ⟨o, ho, hc, n, hd⟩ := id hl
  unfold collect
  refine wpAny_bind (wpAny_runValue (codeAny_builtin entry_proto_collect' ?_))
  show wpAny _ _ (newList [] >>= fun l' => again (.builtin "list.__iadd__" ⟨[l', .ref l], []⟩)) _ _ s
  refine wpAny_bind (wpAny_newList (wpAny_pure ⟨Code.quiet_builtin _ (by decide +kernel), codeAny_builtin entry_list_iadd' ?_⟩))
  have ho' : (s.heap.push (seqObj "list" #[] 0)).get? l = some o := Heap.get?_push_of_some _ ho
  have hS : (s.heap.push (seqObj "list" #[] 0)).get? s.heap.objs.size = some (seqObj "list" #[] 0) := Heap.get?_push_size _ rfl
  show wpAny _ _ (Builtin.List.listExtendWith (.ref s.heap.objs.size) (.ref l) (.ref s.heap.objs.size)) _ _ { s with heap := s.heap.push (seqObj "list" #[] 0) }
  unfold Builtin.List.listExtendWith
  refine wpAny_bind (wpAny_typeOf (T := "tuple") ⟨o, ho', hc⟩ ?_)
  have ht : (Builtin.List.listSameRef (.ref s.heap.objs.size) (.ref l) || Value.type "tuple" == Value.type "list" || Value.type "tuple" == Value.type "tuple") = true := by simp
  simp only [ht, if_true]
  refine wpAny_bind (listItems_at ho' hd ?_)
  refine wpAny_bind (listItems_at (xs := #[]) (n := 0) hS rfl ?_)
  rw [if_neg (by simp)]
  refine wpAny_bind (listUpdate_at (xs := #[]) (n := 0) hS rfl ?_ (Nat.zero_le _) (by simp only [Array.size_append, List.size_toArray, List.size_toArray]; simp; omega))
  refine wpAny_pure ?_
  refine wpAny_bind (wpAny_load (get?_update_seq hS _) ?_)
  show wpAny _ _ (pure ((#[] : Array Value) ++ vs.toArray).toList) Q E _
  have e : ((#[] : Array Value) ++ vs.toArray).toList = vs := by simp
  rw [e]
  exact wpAny_pure h
theorem sorted_tup {l : Addr} {vs : List Value} {ns : List Int} {Q : Value → Shared → Prop} (hl : IsTup s.heap l vs.toArray) (hI : IntsAre vs ns) (h64 : vs.length < 64)
    (h : ∀ (out : Array Value) (ns' : List Int), IntsAre out.toList ns' → ns'.Perm ns → ns'.Pairwise (· ≤ ·) → Q (.ref (s.heap.objs.size + 1)) { s with heap := sortedAll s.heap vs out }) :
    wpAny (model prog w) A (call (.builtin "sorted") [.ref l]) Q E s := by
  refine Calls.call_function_entry kind_sorted plain_sorted entry_sorted (args_sorted1 _) ?_
  unfold Builtin.«sorted»
  refine wpAny_bind (m := checkCount "sorted" 1 1 _) (wpAny_pure ?_)
  refine wpAny_bind (collect_tup hl (by rw [sizeLine_eq]; omega) ?_)
  refine wpAny_bind (wpAny_newList ?_)
  have hsz : ((s.heap.push (seqObj "list" #[] 0)).update s.heap.objs.size (Obj.mapSeq (· ++ vs.toArray))).objs.size = s.heap.objs.size + 1 := by
    rw [Heap.size_update, size_push']
  have hoL : (((s.heap.push (seqObj "list" #[] 0)).update s.heap.objs.size (Obj.mapSeq (· ++ vs.toArray))).push (seqObj "list" vs.toArray 0)).get? (s.heap.objs.size + 1) = some (seqObj "list" vs.toArray 0) := by
    rw [← hsz]
    exact Heap.get?_push_size _ rfl
  show wpAny _ _ _ _ _ { s with heap := ((s.heap.push (seqObj "list" #[] 0)).update s.heap.objs.size (Obj.mapSeq (· ++ vs.toArray))).push (seqObj "list" vs.toArray 0) }
  rw [hsz]
  refine wpAny_bind (wpAny_holding (wpAny_call_entry slot_list_sort ⟨_, hoL, rfl⟩ entry_list_sort (list_sort_tree hoL hI h64 fun out ns' a1 a2 a3 => ⟨_, rfl, ?_⟩) (args_list_sort _)))
  exact wpAny_pure ⟨_, rfl, h out ns' a1 a2 a3⟩
end
section
variable {X : Cx}
def rSortedT (K : PySem.W.Frag) : List V → Hp → VK → Prop := fun vs H Q => ∃ (a : Addr) (ns : List Int), vs = [V.ref a] ∧ SqT K H a (ns.map V.int) ∧ ns.length < 64 ∧
  ∀ (ns' : List Int) (p : Addr), ns'.Perm ns → ns'.Pairwise (· ≤ ·) → H p = none → Q (.ref p) (upd H p (.lst (ns'.map V.int)))
theorem cr_sortedTup : CallR X (.builtin "sorted") (rSortedT X.K) := by
  intro pins s σ H vs us Q I r h
  obtain ⟨a, ns, rfl, hs, h64, q⟩ := h
  obtain ⟨its, rv, hl, _⟩ := I.tuple hs
  rw [Vals.ref1 r]
  have hi := rv.ints
  refine sorted_tup hl hi (by rw [hi.length]; exact h64) fun out ns' h1 h2 h3 => ?_
  obtain ⟨ep, he'⟩ := PyProof.Rows.sortedAll_at s.heap its out
  have hlen : (ns'.map V.int).length ≤ sizeLine := by rw [List.length_map, h2.length_eq]; exact small64 h64
  exact ⟨.ref _, upd H (s.heap.objs.size + 1) (.lst (ns'.map V.int)), I.laid (t' := s.toks) (fun _ _ => PyProof.Rows.sortedAll_old) (Nat.le_succ _) ⟨hlen, out.toList, ep, vals_of_ints h1, he'⟩, rfl, q ns' _ h2 h3 (I.hok.fresh (Nat.le_succ _))⟩
/-- sum(o.values()), a dict with int values -/
def tSumVals (td : TE) : TE := fun σ H Q => td σ H fun x H1 => ∃ (a : Addr) (kvs : List (Key × V)) (is : List Int), x = V.ref a ∧ H1 a = some (.dK kvs) ∧ kvs.map (·.2) = is.map V.int ∧ Q (.int is.sum) H1
theorem preSum_is (is : List Int) : ∀ n, n ≤ is.length → preSum (fun i => is.getD i 0) n = (is.take n).sum
  | 0, _ => by simp [preSum]
  | n + 1, h => by
    have hn : n < is.length := by omega
    rw [preSum, preSum_is is n (by omega), take_more (List.getElem?_eq_getElem hn), List.getD_eq_getElem?_getD, List.getElem?_eq_getElem hn, List.sum_append]
    simp
variable {o : Expr} {p pos apos mpos : Pos} {td : TE}
theorem pe_sumVals (hc : X.calm = true) (hg : Gl X "sum") (hm : X.mg "sum" = none) (hd : PE X o td) (hbase : attributeBase o "values" X.env (eval o X.env) = eval o X.env) (hline : (apos.endLine == mpos.line) = true)
    (hse : starEach [Expr.Call (.Attribute o "values" apos) [] [] mpos] X.env = [(false, eval (Expr.Call (.Attribute o "values" apos) [] [] mpos) X.env)]) :
    PE X (.Call (.Name "sum" p) [.Call (.Attribute o "values" apos) [] [] mpos] [] pos) (tSumVals td) := by
  refine ⟨fun pins s σ H Q I h => ?_⟩
  refine wpAny_Call_Name_kw (ld_blt I hg hm (u := .builtin "sum") (by first | rfl | decide +kernel) ?_ (by first | decide +kernel | decide) (by first | decide +kernel | decide))
  rw [hse]
  refine PySem.callWith_builtin1 (wpAny_Call_method0_late hbase hline (thn (hd.run pins s σ H _ I h) fun v s1 ⟨x, H1, I1, r1, a, kvs, is, ex, ha, hv, q⟩ => ?_))
  subst ex
  obtain rfl : v = Value.ref a := r1
  obtain ⟨_, hsys, vs, rel, dof⟩ := dk_of I1.hok ha
  obtain ⟨ep, dat⟩ := dof.dictAt
  obtain ⟨ob, es, ho, ex, hdat, hko, hpr, hnd⟩ := id dat
  refine ⟨"dict", "dict.values", F.plainAttrs_dict, F.slot_dict_values, F.type_dict_values, ⟨ob, ho, ex.1⟩, fun b e => ?_, Calls.callWith_builtin rfl (PySem.evalArgs_none ?_)⟩
  · cases e
    exact ⟨ob, ho, ex.2.1⟩
  refine call_meetsIn F.slot_dict_values ⟨ob, ho, ex.1⟩ F.entry_dict_values (F.args_dict_values_1 _) (meets_dict_values (mixKind X.prog X.w) a hsys) ⟨⟨vs, dof⟩, ?_⟩
  have k1 : ∀ b u, s1.heap.get? b = some u → (s1.heap.push { cls := .type "dict_values", data := .fields #[.ref a] }).get? b = some u := fun b u e => Heap.get?_push_of_some _ e
  have dat1 : (s1.heap.push { cls := .type "dict_values", data := .fields #[.ref a] }).DictAt (mixKind X.prog X.w) a vs ep := dat.keep k1
  have hlv : vs.length = is.length := by
    have e1 := congrArg List.length hv
    simp only [List.length_map] at e1
    rw [← e1]
    exact (KV.length rel).symm
  have hval : ∀ (i : Nat) (v : Value), (∃ k, vs[i]? = some (k, v)) → ∃ t, v = Value.int (is.getD i 0) t := fun i v ⟨k, hk⟩ => by
    obtain ⟨x, h1, h2⟩ := KV.at' rel hk
    have e1 : (kvs.map (·.2))[i]? = some x := by simp [h1]
    rw [hv, List.getElem?_map] at e1
    obtain ⟨j, hj, e2⟩ := Option.map_eq_some_iff.mp e1
    subst e2
    obtain ⟨t, e3⟩ := h2
    exact ⟨t, by rw [e3, List.getD_eq_getElem?_getD, hj]; rfl⟩
  have hlt : a < s1.heap.objs.size := Heap.lt_size ho
  have hsz : (s1.heap.push { cls := .type "dict_values", data := .fields #[.ref a] }).objs.size = s1.heap.objs.size + 1 := Heap.size_push _ _
  refine call_sum_walkG (wpAny_pyIter_values (v := s1.heap.objs.size) (d := a) ⟨_, Heap.get?_push_size _ rfl, rfl, rfl⟩ dat1 ?_)
  refine ⟨_, _, _, _, _, _, fun i => is.getD i 0, rfl, Walks.dictValues (knd := mixKind X.prog X.w) (A := X.A.in1) (I.ok.hd hc) (s1.heap.push { cls := .type "dict_values", data := .fields #[.ref a] }).objs.size a (by rw [hsz]; exact Nat.ne_of_lt (Nat.lt_succ_of_lt hlt)) vs ep,
    ⟨⟨_, Heap.get?_push_size _ rfl, rfl, rfl⟩, dat1.keep fun b u e => Heap.get?_push_of_some _ e⟩, fun b hb => ?_, hval, fun h' tk t' hk => ?_⟩
  · show b < ((s1.heap.push _).push _).objs.size
    rw [Heap.size_push, Heap.size_push]
    rw [hsz] at hb
    rcases List.mem_cons.mp hb with e | hb
    · rw [e]; exact Nat.lt_succ_self _
    · have e : b = a := List.mem_singleton.mp hb
      rw [e]
      exact Nat.lt_succ_of_lt (Nat.lt_succ_of_lt hlt)
  · refine ⟨.int _, H1, I1.kept (t' := tk) fun b u e => hk b u (fun hmem => ?_) (Heap.get?_push_of_some _ (k1 b u e)), ⟨t', rfl⟩, ?_⟩
    · have e1 := List.mem_singleton.mp hmem
      have e2 := Heap.lt_size e
      rw [hsz] at e1
      rw [e1] at e2
      exact absurd e2 (Nat.not_lt.mpr (Nat.le_succ _))
    · rw [hlv, preSum_is is is.length (Nat.le_refl _), List.take_length]
      exact q
end
end PD

set_option Elab.async false
set_option linter.all false
set_option maxRecDepth 100000
set_option maxHeartbeats 4000000
namespace PD
open PySem L2
/-! ### the pen: [cells, at, rest] -/
abbrev PenT := List Int × Int × Int
def OPen : Ro PenT where
  foot := fun _ p q => q = p
  rel := fun F H p x => F p = none ∧ ∃ c, H p = some (.lst [c, .int x.2.1, .int x.2.2]) ∧ (RL RInt).rel F c x.1
  self := rfl
  out := fun ⟨h1, c, h2, h3⟩ e => by subst e; exact ⟨h1, _, h2⟩
  stay := fun ⟨h1, c, h2, h3⟩ e k => ⟨(k _ rfl).2, c, (k _ rfl).1.trans h2, (RL RInt).up e h3⟩
  stayf := fun _ _ e => e
  fz := ⟨fun _ _ _ => True, fun _ _ => trivial⟩
  fzr := fun _ _ _ => trivial
/-! ### a dict of ints by ints -/
abbrev kvZ (kvs : List (Int × Int)) : List (Key × V) := kvs.map fun kv => (.inl kv.1, .int kv.2)
def RDf : Rp (List (Int × Int)) := ⟨fun F v kvs => ∃ d o, v = .ref d ∧ F d = some (.frz o (.dK (kvZ kvs))), fun e ⟨d, o, h1, h2⟩ => ⟨d, o, h1, e d _ h2⟩⟩
def RDk : Rp (List (Int × Int)) := ⟨fun F v kvs => ∃ d, v = .ref d ∧ F d = some (.dK (kvZ kvs)), fun e ⟨d, h1, h2⟩ => ⟨d, h1, e d _ h2⟩⟩
def OD : Ro (List (Int × Int)) where
  foot := fun _ p q => q = p
  rel := fun F H p kvs => F p = none ∧ H p = some (.dK (kvZ kvs))
  self := rfl
  out := fun ⟨h1, h2⟩ e => by subst e; exact ⟨h1, _, h2⟩
  stay := fun ⟨h1, h2⟩ e k => ⟨(k _ rfl).2, (k _ rfl).1.trans h2⟩
  stayf := fun _ _ e => e
  fz := RDk
  fzr := fun ⟨h1, h2⟩ e k => ⟨_, rfl, k _ _ rfl h2⟩
def getZ (kvs : List (Int × Int)) (k : Int) : Option Int := (kvs.find? fun kv => decide (kv.1 = k)).map (·.2)
def putZ (kvs : List (Int × Int)) (k v : Int) : List (Int × Int) :=
  if (kvs.any fun kv => decide (kv.1 = k)) = true then kvs.map (fun kv => if kv.1 = k then (kv.1, v) else kv) else kvs ++ [(k, v)]
theorem valV_Z (k : Int) : ∀ kvs : List (Int × Int), valV (kvZ kvs) (.inl k) = (getZ kvs k).map V.int
  | [] => rfl
  | p :: r => by
    have ih := valV_Z k r
    by_cases e : p.1 = k
    · simp [kvZ, valV, getZ, List.find?_cons, e]
    · have e2 : ¬ ((Sum.inl p.1 : Key) = Sum.inl k) := fun z => e (Sum.inl.inj z)
      simp only [kvZ, valV, getZ, List.map_cons, List.find?_cons] at ih ⊢
      simp only [e, e2, decide_false]
      exact ih
theorem putK_Z (kvs : List (Int × Int)) (k v : Int) : putK (kvZ kvs) (.inl k) (.int v) = kvZ (putZ kvs k v) := by
  unfold putK putZ kvZ
  have e : ((kvs.map fun kv => ((Sum.inl kv.1 : Key), V.int kv.2)).any fun kv => decide (kv.1 = Sum.inl k)) = kvs.any fun kv => decide (kv.1 = k) := by
    rw [List.any_map]
    congr 1
    funext kv
    simp
  rw [e]
  split
  · rw [List.map_map, List.map_map]
    refine List.map_congr_left fun kv _ => ?_
    simp only [Function.comp]
    by_cases e : kv.1 = k
    · simp [e]
    · have e2 : ¬ ((Sum.inl kv.1 : Key) = Sum.inl k) := fun z => e (Sum.inl.inj z)
      simp [e, e2]
  · rw [List.map_append]; rfl
theorem putZ_new {kvs : List (Int × Int)} {k v : Int} (h : ∀ kv ∈ kvs, kv.1 ≠ k) : putZ kvs k v = kvs ++ [(k, v)] := by
  unfold putZ
  rw [if_neg]
  simp only [List.any_eq_true, decide_eq_true_eq, not_exists, not_and]
  exact h
section
variable {ι : Type} {X : ι → Cx} {X0 : Cx} [hF : Fam X X0] [hB : Blt X0] {ρ ρ1 ρ2 ρ3 ρ4 : List Slot} {r ra rb rc : Res} {e ie o a b c tg : Expr} {rest : List Stmt} {P : Post} {pos p' p2 pos' tpos apos mpos : Pos} {α β : Type} {R : Rp α}
theorem ev_asg {te : TE} {g : TG} {α : Type} {R : Rp α} {x : α} (he : EvV te ρ (.imm R x) ρ1) (hg : ∀ F σ H v, Hold F σ H ρ1 → R.rel F v x → ∀ Q : L2.St → Hp → Prop, (∀ F' H', Go ρ1 F H ρ2 σ F' H' → Q σ H') → g v σ H Q) (q : P.nx ρ2) : EvS (tAsg te g) ρ P := fun F σ H D hh k1 _ _ _ =>
  he F σ H hh _ fun v F1 H1 g1 r1 => hg F1 σ H1 v g1.hold r1 _ fun F2 H2 g2 => k1 ρ2 σ F2 H2 q (g1.trans g2)
/-- xs[i] = e, a list of one's own -/
theorem setix (k : Nat) {xs : List α} {y : α} {n : Int} {p : Addr} (he : DV X ρ e (.imm R y) ρ1) (ho : DV X ρ1 o (.view p (OL R) xs) ρ2) (hi : DV X ρ2 ie (.imm RInt n) ρ3) (hk : ρ3[k]? = some (.own p (OL R) xs)) (hn : 0 ≤ n ∧ n < xs.length) (hs : SetAt ρ3 k (.own p (OL R) (xs.set n.toNat y)) ρ4) (q : DSs X ρ4 rest P)
    (ha : ∀ i v, assign (.Subscript o ie tpos) (X i).env v = (do
      let ov ← holding [v] (eval o (X i).env)
      let iv ← holding [v, ov] (eval ie (X i).env)
      standAt tpos
      holding [v, ov, iv] (setItem ov iv v)
      release [v, ov, iv] []) := by intro _ _; rfl) (hsw : ∀ i, swapsWithSole [.Subscript o ie tpos] e pos.line (X i).env = pure false := by intro _; rfl) (hw : ∀ i, swappedStores [.Subscript o ie tpos] e (X i).env = pure none := by intro _; rfl) :
    DSs X ρ (.Assign [.Subscript o ie tpos] e pos :: rest) P :=
  dss_cons (ds_of (ts := tAsg (teOf X e) (gSub (teOf X o) (teOf X ie) rSetL)) (fun i => ps_asg (can e i) (pg_sub (can o i) (can ie i) set_list (ha i)) (hsw i) (hw i)) (ev_asg (ρ2 := ρ4) he (fun F σ H v hh rv Q k0 => ho F σ H hh _ fun v1 F1 H1 g1 r1 => hi F1 σ H1 g1.hold _ fun v2 F2 H2 g2 r2 => by
    cases (show v1 = .ref p from r1)
    cases (show v2 = .int n from r2)
    obtain ⟨_, hn0, ws, hw, hall⟩ := g2.hold.own hk
    have hl := hall.len
    refine ⟨p, ws, n, n.toNat, rfl, rfl, hw, ?_, ?_⟩
    · unfold ixN
      rw [if_pos hn.1, if_pos (by omega)]
    · have g3 := go_ol g2.hold k hk (hall.set (R.up (Evl.Ex.trans g1.ex g2.ex) rv) n.toNat)
      rw [← hs.eq] at g3
      exact k0 F2 _ ((g1.trans g2).trans g3)) q))
/-! ### the pen -/
theorem pen0 {p : Addr} {y : PenT} (k : Nat) (ho : DV X ρ o (.view p OPen y) ρ1) (hk : ρ1[k]? = some (.own p OPen y)) {kk : Option (List Nat)} : True := trivial
theorem seen_pen {p : Addr} {y : PenT} (k : Nat) (hk : ρ[k]? = some (.own p OPen y)) {F : Hp} {σ : L2.St} {H : Hp} (hh : Hold F σ H ρ) : ∃ c, H p = some (.lst [c, .int y.2.1, .int y.2.2]) ∧ (RL RInt).rel F c y.1 := by
  obtain ⟨_, _, c, h1, h2⟩ := hh.own hk
  exact ⟨c, h1, h2⟩
theorem ix_pen0 {K : PySem.W.Frag} {p : Addr} {y : PenT} (k : Nat) (hk : ρ[k]? = some (.own p OPen y)) : OpV (rIx K) ρ (.view p OPen y) (.imm RInt 0) (.imm (RL RInt) y.1) := OpV.lft fun F σ H H0 x z hh h1 h2 Q q => by
  obtain ⟨c, e1, e2⟩ := seen_pen k hk hh
  exact ⟨p, _, 0, c, h1, h2, SqL.of e1, rfl, q c F H (Go.refl hh) e2⟩
theorem ix_pen1 {K : PySem.W.Frag} {p : Addr} {y : PenT} (k : Nat) (hk : ρ[k]? = some (.own p OPen y)) : OpV (rIx K) ρ (.view p OPen y) (.imm RInt 1) (.imm RInt y.2.1) := OpV.lft fun F σ H H0 x z hh h1 h2 Q q => by
  obtain ⟨c, e1, e2⟩ := seen_pen k hk hh
  exact ⟨p, _, 1, _, h1, h2, SqL.of e1, rfl, q _ F H (Go.refl hh) rfl⟩
theorem ix_pen2 {K : PySem.W.Frag} {p : Addr} {y : PenT} (k : Nat) (hk : ρ[k]? = some (.own p OPen y)) : OpV (rIx K) ρ (.view p OPen y) (.imm RInt 2) (.imm RInt y.2.2) := OpV.lft fun F σ H H0 x z hh h1 h2 Q q => by
  obtain ⟨c, e1, e2⟩ := seen_pen k hk hh
  exact ⟨p, _, 2, _, h1, h2, SqL.of e1, rfl, q _ F H (Go.refl hh) rfl⟩
theorem setpen {y y' : PenT} (k : Nat) {x n : Int} {p : Addr} (he : DV X ρ e (.imm RInt x) ρ1) (ho : DV X ρ1 o (.view p OPen y) ρ2) (hi : DV X ρ2 ie (.imm RInt n) ρ3) (hk : ρ3[k]? = some (.own p OPen y)) (hn : (n = 1 ∧ y' = (y.1, x, y.2.2)) ∨ (n = 2 ∧ y' = (y.1, y.2.1, x))) (hs : SetAt ρ3 k (.own p OPen y') ρ4) (q : DSs X ρ4 rest P)
    (ha : ∀ i v, assign (.Subscript o ie tpos) (X i).env v = (do
      let ov ← holding [v] (eval o (X i).env)
      let iv ← holding [v, ov] (eval ie (X i).env)
      standAt tpos
      holding [v, ov, iv] (setItem ov iv v)
      release [v, ov, iv] []) := by intro _ _; rfl) (hsw : ∀ i, swapsWithSole [.Subscript o ie tpos] e pos.line (X i).env = pure false := by intro _; rfl) (hw : ∀ i, swappedStores [.Subscript o ie tpos] e (X i).env = pure none := by intro _; rfl) :
    DSs X ρ (.Assign [.Subscript o ie tpos] e pos :: rest) P :=
  dss_cons (ds_of (ts := tAsg (teOf X e) (gSub (teOf X o) (teOf X ie) rSetL)) (fun i => ps_asg (can e i) (pg_sub (can o i) (can ie i) set_list (ha i)) (hsw i) (hw i)) (ev_asg (ρ2 := ρ4) he (fun F σ H v hh rv Q k0 => ho F σ H hh _ fun v1 F1 H1 g1 r1 => hi F1 σ H1 g1.hold _ fun v2 F2 H2 g2 r2 => by
    cases (show v1 = .ref p from r1)
    cases (show v2 = .int n from r2)
    cases (show v = .int x from rv)
    obtain ⟨c, e1, e2⟩ := seen_pen k hk g2.hold
    have hnF := ((g2.hold.own hk).2).1
    rcases hn with ⟨rfl, rfl⟩ | ⟨rfl, rfl⟩
    · refine ⟨p, _, 1, 1, rfl, rfl, e1, rfl, ?_⟩
      have g3 := Go.write g2.hold hk (S := OPen) (y := (y.1, x, y.2.2)) (o := .lst [c, .int x, .int y.2.2]) rfl ⟨hnF, c, upd_same, e2⟩ fun u f => f
      rw [← hs.eq] at g3
      exact k0 F2 _ ((g1.trans g2).trans g3)
    · refine ⟨p, _, 2, 2, rfl, rfl, e1, rfl, ?_⟩
      have g3 := Go.write g2.hold hk (S := OPen) (y := (y.1, y.2.1, x)) (o := .lst [c, .int y.2.1, .int x]) rfl ⟨hnF, c, upd_same, e2⟩ fun u f => f
      rw [← hs.eq] at g3
      exact k0 F2 _ ((g1.trans g2).trans g3)) q))
end
end PD

set_option Elab.async false
set_option linter.all false
set_option maxRecDepth 100000
set_option maxHeartbeats 4000000
namespace PD
open PySem L2
open PySem.Spec PyProof.Rows in
/-- a, b = c, d where a comprehension reads the names, too -/
theorem ps_parC {X : Cx} {i j : Nat} {x y : Str} {a b : Expr} {ta : TA} {px py pt pos : Pos} {kt k2 pt2} (hc : X.calm = true) (hN : X.N.Nodup) (hi : X.N[i]? = some x) (hj : X.N[j]? = some y) (hij : i ≠ j) (hx : Loc X.env.scope x) (hy : Loc X.env.scope y) (fx : X.fn x = true ∨ X.env.scope.names.lookup x = some .local) (fy : X.fn y = true ∨ X.env.scope.names.lookup y = some .local) (ha : PA X [a, b] ta)
    (hw : swappedStores [.Tuple [.Name x px, .Name y py] kt pt] (.Tuple [a, b] k2 pt2) X.env = pure (some [x, y])) (hs : swapsWithSole [.Tuple [.Name x px, .Name y py] kt pt] (.Tuple [a, b] k2 pt2) pos.line X.env = pure false) : PS X (.Assign [.Tuple [.Name x px, .Name y py] kt pt] (.Tuple [a, b] k2 pt2) pos) (tPar i j ta) := ⟨fun pins s σ H D I h => by
  rw [exec_Assign_arm]; refine wpAny_bind (wpAny_standAt ?_)
  rw [hs]; refine wpAny_bind (wpAny_pure ?_); rw [if_neg (by decide)]
  refine wpAny_bind (Tuple_ (thn (ha.run _ pins s σ H _ I h) fun us s1 ⟨vs, H1, I1, r1, w1, w2, e1, q1⟩ => ?_)); subst e1
  cases r1 with
  | cons rv r2 => cases r2 with
    | cons rw' r3 =>
      cases r3; rename_i u1 u2 _hh
      refine wpAny_newObj_type ?_ (by show 2 ≤ sizeLine; decide)
      have I2 : L2.Inv X pins σ H1 { s1 with heap := s1.heap.push { cls := .type "tuple", data := .seq [u1, u2].toArray } } := I1.kept (t' := s1.toks) (fun b o e => Heap.get?_push_of_some _ e)
      rw [hw]; refine wpAny_bind (wpAny_pure ?_)
      show wpAny (model X.prog X.w) X.A (rule "assign.swapped-stores" >>= fun _ => unpackItems (.ref s1.heap.objs.size) 2 none >>= fun items => assignInOrder [fun v => bindName X.env y v, fun v => bindName X.env x v] items.reverse >>= fun _ => pure Flow.next) _ _ _
      refine wpAny_bind (wpAny_rule (wpAny_bind (unpackItems_tuple (items := #[u1, u2]) (I.ok.hd hc) (IsTup.new s1.heap _) (fun h' hx' => ?_))))
      have I3 := I2.kept (h' := h') (t' := s1.toks) (fun b o e => hx' b o (Nat.ne_of_lt (Heap.lt_size e)) e)
      refine wpAny_bind (assignInOrder_cons (wpAny_bindName (store_ok I3 hN hj hy rw' (fun s2 I4 => ?_) fy)))
      refine assignInOrder_cons (wpAny_bindName (store_ok I4 hN hi hx rv (fun s3 I5 => assignInOrder_nil (wpAny_pure ?_)) fx))
      rw [List.set_comm _ _ (Ne.symm hij)] at I5; exact ⟨_, H1, I5, q1⟩⟩
section
variable {ι : Type} {X : ι → Cx} {X0 : Cx} [hF : Fam X X0] [hB : Blt X0] {ρ ρ1 ρ2 ρ3 ρ4 : List Slot} {r ra rb rc : Res} {e ie o a b c tg : Expr} {es : List Expr} {rest A B : List Stmt} {P : Post} {pos p' p2 pos' tpos apos mpos cpos px py pt pt2 : Pos} {α β γ : Type} {R : Rp α} {S : Rp β} {x y : Str}
include hF hB
theorem nodups' (j : ι) : (X j).N.Nodup := nodups j
/-! ### both branches go on from one environment -/
theorem iffJ (E : List Slot) {k : Bool} (hc : DT X ρ c k ρ1) (h1 : k = true → DSs X ρ1 A { P with nx := fun ρ' => Wk ρ' E }) (h2 : k = false → DSs X ρ1 B { P with nx := fun ρ' => Wk ρ' E }) (q : DSs X E rest P) : DSs X ρ (.If c A B pos :: rest) P :=
  dss_cons (ds_cut (M := fun ρ' => Wk ρ' E) (ds_if hc h1 h2) fun ρ' w => dss_wk w q)
/-! ### lists of one's own -/
section
variable {p : Addr} {xs : List α}
theorem app (k : Nat) {y : α} (ho : DV X ρ o (.view p (OL R) xs) ρ1) (ha : DV X ρ1 e (.imm R y) ρ2) (e1 : ρ1[k]? = some (.own p (OL R) xs)) (e2 : ρ2[k]? = some (.own p (OL R) xs)) (hl : xs.length ≤ 10000000) (hs : SetAt ρ2 k (.own p (OL R) (xs ++ [y])) ρ3)
    (hbase : ∀ i, attributeBase o "append" (X i).env (eval o (X i).env) = eval o (X i).env := by intro _; rfl)
    (hfew : ∀ i, ((backTo cpos (starEach (e :: []) (X i).env)).all (fun x => !x.1) && (backToKw cpos (keywordEach [] (X i).env)).all (fun x => x.1.isSome)
      && decide ((e :: []).length + ([] : List Keyword).length + (if ([] : List Keyword).isEmpty then 0 else 1) < 30)) = true := by intro _; rfl)
    (hline : (apos.endLine == cpos.line) = true := by rfl) (hse : ∀ i, starEach (e :: []) (X i).env = (false, eval e (X i).env) :: starEach [] (X i).env := by intro _; rfl) (hplain : ∀ i, (backTo cpos (starEach [] (X i).env)).any (·.1) = false := by intro _; rfl) :
    DV X ρ (.Call (.Attribute o "append" apos) [e] [] cpos) (.imm RNon ()) ρ3 := by
  rw [hs.eq]; exact dv_append k ho ha e1 e2 hl hbase hfew hline hse hplain
theorem ins (k : Nat) {y : α} {n : Int} (ho : DV X ρ o (.view p (OL R) xs) ρ1) (ha : DV X ρ1 a (.imm RInt n) ρ2) (hb : DV X ρ2 b (.imm R y) ρ3) (e1 : ρ1[k]? = some (.own p (OL R) xs)) (e2 : ρ3[k]? = some (.own p (OL R) xs)) (hl : xs.length ≤ 10000000) (h0 : 0 ≤ n ∧ n ≤ 10000000) (hs : SetAt ρ3 k (.own p (OL R) (xs.take n.toNat ++ [y] ++ xs.drop n.toNat)) ρ4)
    (hbase : ∀ i, attributeBase o "insert" (X i).env (eval o (X i).env) = eval o (X i).env := by intro _; rfl)
    (hfew : ∀ i, ((backTo cpos (starEach (a :: [b]) (X i).env)).all (fun x => !x.1) && (backToKw cpos (keywordEach [] (X i).env)).all (fun x => x.1.isSome)
      && decide ((a :: [b]).length + ([] : List Keyword).length + (if ([] : List Keyword).isEmpty then 0 else 1) < 30)) = true := by intro _; rfl)
    (hline : (apos.endLine == cpos.line) = true := by rfl) (hse : ∀ i, starEach (a :: [b]) (X i).env = (false, eval a (X i).env) :: starEach [b] (X i).env := by intro _; rfl) (hse2 : ∀ i, starEach [b] (X i).env = (false, eval b (X i).env) :: starEach [] (X i).env := by intro _; rfl) (hplain : ∀ i, (backTo cpos (starEach [b] (X i).env)).any (·.1) = false := by intro _; rfl) :
    DV X ρ (.Call (.Attribute o "insert" apos) [a, b] [] cpos) (.imm RNon ()) ρ4 := by
  rw [hs.eq]; exact dv_insert k ho ha hb e1 e2 hl h0.1 h0.2 hbase hfew hline hse hse2 hplain
end
/-- f(pen, ..) -/
theorem pcal {n k j : Nat} {as : List Slot} {Sx : List Slot → List Slot → Res → Prop} (i : Nat) {p : Addr} {y y' : PenT} (C : Cal X0.prog X0.w X0.K X0.mg X0.base x n k Sx) (hr : Room j X0.A) (hj : k ≤ j) (ha : DA X ρ (e :: es) (.view p OPen y :: as.map toRes) ρ1) (ho : ρ1[i]? = some (.own p OPen y)) (hi : Imms as) (hn : as.length + 1 = n) (hS : Sx (.own p OPen y :: as) (.own p OPen y' :: as) r) (hs : SetAt ρ1 i (.own p OPen y') ρ2)
    (hg : ∀ i, Gl (X i) x := by intro _; rfl) (he : ∀ i, starEach (e :: es) (X i).env = (false, eval e (X i).env) :: starEach es (X i).env := by intro _; rfl) (hpl : ∀ i, (backTo pos (starEach es (X i).env)).any (·.1) = false := by intro _; rfl) (hdb : (x == ("__debug__" : Str)) = false := by decide) : DV X ρ (.Call (.Name x p') (e :: es) [] pos) r ρ2 := by
  rw [hs.eq]
  exact dv_callO C hr hj ha ho hi hn hS (fun _ _ _ _ h => h) (fun _ => rfl) hg he hpl hdb
/-- [cells, 0, 0] -/
theorem newpen {cs : List Int} {m n : Int} (h : DA X ρ [a, b, c] [.imm (RL RInt) cs, .imm RInt m, .imm RInt n] ρ1) : DV X ρ (.List [a, b, c] pos) (.new OPen (cs, m, n)) ρ1 :=
  dv_of (fun i => pe_lst (canA _ i)) fun F σ H hh Q k => h F σ H hh _ fun vs F1 H1 g rv => ⟨by rw [rv.len]; exact sz (show 3 ≤ 10000000 by decide), fun p hp => by
    cases rv with
    | cons h1 rv => cases rv with
      | cons h2 rv => cases rv with
        | cons h3 rv =>
          cases rv
          cases (show _ = V.int m from h2)
          cases (show _ = V.int n from h3)
          rename_i v0
          have ga : Go ρ1 F1 H1 ρ1 σ F1 (upd H1 p (.lst [v0, .int m, .int n])) := Go.allocO g.hold hp
          refine k _ _ _ (g.trans ga) ⟨p, rfl, fun q e => ?_, Evl.fresh_back g.hold.ex hp, _, upd_same, h1⟩
          cases (show q = p from e)
          exact ⟨g.there p hp, fun w => g.hold.notOwn hp (owns_step g.hold (fun q w => by
            obtain ⟨_, u, b⟩ := g.hold.owned w
            exact upd_ne (ne_of_none b hp)) w)⟩⟩
/-! ### a, b = (c, d) -/
theorem par (i j : Nat) {u : α} {v : β} (hij : i ≠ j) (h : DA X ρ [a, b] [.imm R u, .imm S v] ρ1) (hs : SetAt ρ1 i (.imm R u) ρ2) (hs2 : SetAt ρ2 j (.imm S v) ρ3) (q : DSs X ρ3 rest P) {kt k2}
    (hi : ∀ t, (X t).N[i]? = some x := by intro _; rfl) (hj : ∀ t, (X t).N[j]? = some y := by intro _; rfl) (hx : ∀ t, Loc (X t).env.scope x := by intro _; first | exact Or.inl rfl | exact Or.inr rfl) (hy : ∀ t, Loc (X t).env.scope y := by intro _; first | exact Or.inl rfl | exact Or.inr rfl) (fx : ∀ t, (X t).fn x = true ∨ (X t).env.scope.names.lookup x = some .local := by intro _; first | exact Or.inr rfl | exact Or.inl rfl) (fy : ∀ t, (X t).fn y = true ∨ (X t).env.scope.names.lookup y = some .local := by intro _; first | exact Or.inr rfl | exact Or.inl rfl)
    (hw : ∀ t, swappedStores [.Tuple [.Name x px, .Name y py] kt pt] (.Tuple [a, b] k2 pt2) (X t).env = pure (some [x, y]) := by intro _; rfl)
    (hsw : ∀ t, swapsWithSole [.Tuple [.Name x px, .Name y py] kt pt] (.Tuple [a, b] k2 pt2) pos.line (X t).env = pure false := by intro _; rfl) :
    DSs X ρ (.Assign [.Tuple [.Name x px, .Name y py] kt pt] (.Tuple [a, b] k2 pt2) pos :: rest) P :=
  dss_cons (ds_of (fun t => ps_parC (hF.calm t) (nodups t) (hi t) (hj t) hij (hx t) (hy t) (fx t) (fy t) (canA _ t) (hw t) (hsw t)) fun F σ H D hh k1 _ _ _ => h F σ H hh _ fun vs F1 H1 g rv => by
    cases rv with
    | cons h1 rv => cases rv with
      | cons h2 rv =>
        cases rv
        refine ⟨_, _, rfl, k1 ρ3 _ F1 H1 q ?_⟩
        rw [hs2.eq, hs.eq]
        exact Go.set (s := .imm S v) (Go.set (s := .imm R u) g ⟨_, rfl, h1⟩ fun p e => e.elim) ⟨_, rfl, h2⟩ fun p e => e.elim)
/-! ### constants of the module -/
theorem glob {u : Value} {v : V} {z : α} (hm : X0.mg x = some u) (rr : RelV v u) (hz : ∀ F, R.rel F v z) (hg : ∀ i, Gl (X i) x := by intro _; rfl) (hd : (x == ("__debug__" : Str)) = false := by decide) : DV X ρ (.Name x pos) (.imm R z) ρ :=
  dv_of (fun i => pe_glob (hg i) (by rw [hF.mg i]; exact hm) rr hd) (ev_c hz)
/-- a <= b <= c -/
theorem chainLe {i j k : Int} (ha : DV X ρ a (.imm RInt i) ρ1) (hb : DV X ρ1 b (.imm RInt j) ρ2) (hc : DV X ρ2 c (.imm RInt k) ρ2) (hm : lastMarks [.LtE, .LtE] [b, c] = false := by with_unfolding_all rfl) : DV X ρ (.Compare a [.LtE, .LtE] [b, c] pos) (.imm RBool (decide (i ≤ j) && decide (j ≤ k))) ρ2 :=
  dv_of (fun t => pe_chain op_le op_le (can a t) (can b t) (can c t) hm) fun F σ H hh Q q => ha F σ H hh _ fun v1 F1 H1 g1 r1 => hb F1 σ H1 g1.hold _ fun v2 F2 H2 g2 r2 => by
    cases (show v1 = .int i from r1)
    cases (show v2 = .int j from r2)
    refine ⟨i, j, rfl, rfl, _, rfl, ?_⟩
    by_cases h : i ≤ j
    · rw [if_pos (by simpa using h)]
      refine hc F2 σ H2 g2.hold _ fun v3 F3 H3 g3 r3 => ?_
      cases (show v3 = .int k from r3)
      exact ⟨j, k, rfl, rfl, q _ F3 H3 ((g1.trans g2).trans g3) (by
        show V.bl _ = V.bl _
        simp [h])⟩
    · rw [if_neg (by simpa using h)]
      exact q _ F2 H2 (g1.trans g2) (by
        show V.bl _ = V.bl _
        simp [h])
/-! ### isinstance -/
omit hB in
theorem cIsi (i : ι) : CallR (X i) (.builtin "isinstance") (rIsi X0.K) := by rw [← hF.K i]; exact call_isi
omit hF hB in
theorem boot_isi : bootBuiltins "isinstance" = some (.builtin "isinstance") := by decide +kernel
omit hF hB in
/-- what type a value has -/
class HasTy {α : Type} (R : Rp α) (t : outParam String) : Prop where
  ty : ∀ (K : PySem.W.Frag) (F H : Hp) (v : V) (x : α), Evl.Ex F H → R.rel F v x → TyX K H v (.type t)
instance : HasTy RInt "int" := ⟨fun K F H v x e h => by cases (show v = .int x from h); exact .base (.int x)⟩
instance : HasTy RBool "bool" := ⟨fun K F H v x e h => by cases (show v = .bl x from h); exact .base (.bl x)⟩
instance : HasTy (RT R) "tuple" := ⟨fun K F H v x e ⟨a, vs, h1, h2, h3⟩ => by subst h1; exact .base (.tup (e a _ h2))⟩
theorem isi {t T : String} {k : Bool} {z : α} [hT : HasTy R t] {TN : Str} (h : DV X ρ e (.imm R z) ρ1) (hm : X0.mg TN = none) (hb : bootBuiltins TN = some (.type T)) (hk : ∀ K, PySem.W.kitOne K (.type t) (.type T) = some k) (hn : TN ≠ "__name__" := by decide) (hd : (TN == ("__debug__" : Str)) = false := by decide) (hg : ∀ i, Gl (X i) "isinstance" := by intro _; rfl) (hg2 : ∀ i, Gl (X i) TN := by intro _; rfl)
    (he : ∀ i, starEach [e, .Name TN p2] (X i).env = (false, eval e (X i).env) :: starEach [.Name TN p2] (X i).env := by intro _; rfl) (he2 : ∀ i, starEach [Expr.Name TN p2] (X i).env = (false, eval (.Name TN p2) (X i).env) :: starEach [] (X i).env := by intro _; rfl) (hpl : ∀ i, (backTo pos (starEach [Expr.Name TN p2] (X i).env)).any (·.1) = false := by intro _; rfl) :
    DV X ρ (.Call (.Name "isinstance" p') [e, .Name TN p2] [] pos) (.imm RBool k) ρ1 :=
  dv_of (fun i => pe_callB (cIsi i) (hg i) (by rw [hF.mg i]; exact hB.isinstance) boot_isi (pa_cons (can e i) (pa_cons (pe_bltn (v := .ty T) (hg2 i) (by rw [hF.mg i]; exact hm) hb rfl hn hd) pa_nil (he2 i)) (he i)) (by decide) (by decide) (he i) (hpl i)) fun F σ H hh Q q => h F σ H hh _ fun v F1 H1 g rv => by
    exact ⟨v, .ty T, .type t, .type T, k, rfl, .ty T, hT.ty X0.K F1 H1 v z g.hold.ex rv, hk X0.K, q _ F1 H1 g rfl⟩
end
end PD

set_option Elab.async false
set_option linter.all false
set_option maxRecDepth 100000
set_option maxHeartbeats 4000000
namespace PD
open PySem L2
section
variable {ι : Type} {X : ι → Cx} {X0 : Cx} [hF : Fam X X0] {ρ ρ1 ρ2 ρ3 ρ4 : List Slot} {r ra rb rc : Res} {e ie o a b c tg : Expr} {es : List Expr} {rest A B : List Stmt} {P : Post} {pos p' p2 pos' tpos apos mpos cpos px py pt pt2 : Pos} {α β γ : Type} {R : Rp α} {S : Rp β} {x y : Str}
include hF
theorem hu1 (i : ι) : (X i).A.units + 1 < cLine := by rw [hF.A i]; have := hF.u; omega
/-! ### dicts -/
theorem newD : DV X ρ (.Dict [] [] pos) (.new OD []) ρ :=
  dv_of (fun i => pe_dnewK) fun F σ H hh Q k p hp => k _ F _ (Go.allocO hh hp) ⟨p, rfl, fun q e => by
    cases (show q = p from e)
    exact ⟨hp, fun w => hh.notOwn hp (owns_step hh (fun q w => by
      obtain ⟨_, u, b⟩ := hh.owned w
      exact upd_ne (ne_of_none b hp)) w)⟩, Evl.fresh_back hh.ex hp, upd_same⟩
omit hF in
theorem kvZ_len (kvs : List (Int × Int)) : (kvZ kvs).length = kvs.length := by simp [kvZ]
theorem setD (k : Nat) {kvs : List (Int × Int)} {v n : Int} {p : Addr} (he : DV X ρ e (.imm RInt v) ρ1) (ho : DV X ρ1 o (.view p OD kvs) ρ2) (hi : DV X ρ2 ie (.imm RInt n) ρ3) (hk : ρ3[k]? = some (.own p OD kvs)) (hl : kvs.length ≤ 1000000) (hs : SetAt ρ3 k (.own p OD (putZ kvs n v)) ρ4) (q : DSs X ρ4 rest P)
    (hsw : ∀ i, swapsWith e (some (.Subscript o ie pos')) pos.line (X i).env = pure false := by intro _; rfl) : DSs X ρ (.Assign [.Subscript o ie pos'] e pos :: rest) P :=
  dss_cons (ds_of (fun i => ps_dput (hu1 i) (can o i) (can ie i) (can e i) (hsw i)) fun F σ H D hh k1 _ _ _ => he F σ H hh _ fun w F1 H1 g1 r1 => ho F1 σ H1 g1.hold _ fun w2 F2 H2 g2 r2 => hi F2 σ H2 g2.hold _ fun w3 F3 H3 g3 r3 => by
    cases (show w = .int v from r1)
    cases (show w2 = .ref p from r2)
    cases (show w3 = .int n from r3)
    obtain ⟨_, hnF, hd⟩ := g3.hold.own hk
    refine ⟨p, _, rfl, DPut.k (k := .inl n) hd (by rw [kvZ_len]; exact szl (by omega)), ?_⟩
    rw [putK_Z]
    have g4 := Go.write g3.hold hk (S := OD) (y := putZ kvs n v) (o := .dK (kvZ (putZ kvs n v))) rfl ⟨hnF, upd_same⟩ fun u f => f
    rw [← hs.eq] at g4
    exact k1 ρ4 _ F3 _ q (((g1.trans g2).trans g3).trans g4))
/-- what reads as a dict -/
def SeenDc (ρ : List Slot) (ra : Res) (kvs : List (Int × Int)) : Prop := ∀ F σ H H0 v, Hold F σ H ρ → RV ρ H0 F H v ra → ∃ d, v = .ref d ∧ Rd H d (.dK (kvZ kvs))
omit hF in
theorem seenDc_imm {kvs : List (Int × Int)} : SeenDc ρ (.imm RDf kvs) kvs := fun F σ H H0 v hh ⟨d, o, h1, h2⟩ => ⟨d, h1, .inr ⟨o, hh.ex d _ h2⟩⟩
omit hF in
theorem seenDc_k {kvs : List (Int × Int)} : SeenDc ρ (.imm RDk kvs) kvs := fun F σ H H0 v hh ⟨d, h1, h2⟩ => ⟨d, h1, .inl (hh.ex d _ h2)⟩
omit hF in
theorem seenDc_new {kvs : List (Int × Int)} : SeenDc ρ (.new OD kvs) kvs := fun F σ H H0 v hh ⟨p, h1, _, _, h4⟩ => ⟨p, h1, .inl h4⟩
omit hF in
theorem seenDc_view {kvs : List (Int × Int)} {p : Addr} (i : Nat) (e : ρ[i]? = some (.own p OD kvs)) : SeenDc ρ (.view p OD kvs) kvs := fun F σ H H0 v hh hv => ⟨p, hv, .inl (hh.own e).2.2⟩
theorem ixD {kvs : List (Int × Int)} {n v : Int} (ho : DV X ρ o ra ρ1) (hi : DV X ρ1 ie (.imm RInt n) ρ2) (hs : SeenDc ρ2 ra kvs) (h : getZ kvs n = some v) (hsl : NoSl ie := by exact fun _ _ => rfl) : DV X ρ (.Subscript o ie pos) (.imm RInt v) ρ2 :=
  dv_of (fun i => pe_dget (hu1 i) (can o i) (can ie i) hsl) fun F σ H hh Q k => ho F σ H hh _ fun w F1 H1 g1 r1 => hi F1 σ H1 g1.hold _ fun w2 F2 H2 g2 r2 => by
    cases (show w2 = .int n from r2)
    obtain ⟨d, rfl, hd⟩ := hs F2 σ H2 H w g2.hold (r1.keep g2)
    refine ⟨d, .int v, rfl, .inl ⟨_, .inl n, hd, rfl, ?_⟩, k _ F2 H2 (g1.trans g2) rfl⟩
    rw [valV_Z, h]; rfl
theorem di_keys {kvs : List (Int × Int)} (h : DV X ρ o (.imm RDf kvs) ρ1) : DI X ρ tg o RInt (kvs.map (·.1)) ρ1 :=
  di_of (wi := iKeys (teOf X o)) (fun i => pi_keys (can o i)) fun F σ H hh RR k => h F σ H hh _ fun v F1 H1 g rv => by
    obtain ⟨d, ob, rfl, e1⟩ := rv
    have hl : (kvs.map (·.1)).length = (kvZ kvs).length := by simp [kvZ]
    refine ⟨d, ob, rfl, .inl ⟨kvZ kvs, g.hold.ex d _ e1, k _ F1 H1 g ⟨_, _, hl ▸ walk_keys (d := d) (o := ob) (kvs := kvZ kvs), fun F2 H2 kp => kp.exh d _ (kp.ex d _ e1), fun i x F2 H2 v H3 hx kp y => ?_⟩⟩⟩
    obtain ⟨y1, k', w, y2, y3⟩ := y
    rw [List.getElem?_map] at hx
    obtain ⟨kv, hkv, rfl⟩ := Option.map_eq_some_iff.mp hx
    have e3 : (kvZ kvs)[i]? = some (.inl kv.1, .int kv.2) := by simp [kvZ, hkv]
    rw [e3] at y2
    cases y2
    exact .inl ⟨y1, y3⟩
/-- a dict of one's own read through, nothing else owned -/
theorem dv_lock {i : Nat} {p : Addr} {kvs : List (Int × Int)} {z : Int} (e1 : ρ[i]? = some (.own p OD kvs)) (hno : ∀ (j : Nat) (p' : Addr) (γ : Type) (T : Ro γ) (y : γ), ρ[j]? = some (.own p' T y) → j = i) (hs : SetAt ρ i (.imm RDf kvs) ρ1) (h : DV X ρ1 e (.imm RInt z) ρ1) : DV X ρ e (.imm RInt z) ρ :=
  dv_of (fun t => pe_lock (can e t)) fun F σ H hh Q k => by
    obtain ⟨hσ, hnF, hd⟩ := hh.own e1
    refine ⟨p, _, hd, trivial, fun od => ?_⟩
    have exF : Evl.Ex F (upd F p (.frz od (.dK (kvZ kvs)))) := Evl.Ex.new hnF
    have hold' : Hold (upd F p (.frz od (.dK (kvZ kvs)))) σ (upd H p (.frz od (.dK (kvZ kvs)))) ρ1 := by
      rw [hs.eq]
      refine ⟨fun a u z => ?_, by rw [List.length_set]; exact hh.len, fun j w s a b => ?_, fun j l q q' u γ δ T y T' y' a b f1 f2 => ?_⟩
      · by_cases ea : a = p
        · subst ea; rw [upd_same] at z ⊢; exact z
        · rw [upd_ne ea] at z ⊢; exact hh.ex a u z
      · rcases set_get b with ⟨rfl, rfl⟩ | ⟨hj, b⟩
        · rw [hσ] at a; cases a
          exact ⟨_, rfl, p, od, rfl, upd_same⟩
        · have qq := hh.ok j w s a b
          cases s with
          | any => trivial
          | imm T y => obtain ⟨v, c1, c2⟩ := qq; exact ⟨v, c1, T.up exF c2⟩
          | own p1 T y => exact absurd (hno j p1 _ T y b) hj
      · rcases set_get a with ⟨_, a⟩ | ⟨hj, a⟩
        · cases a
        · exact absurd (hno j _ _ _ _ a) hj
    refine h _ σ _ hold' _ fun v F1 H1 g rv => ?_
    have hp1 : H1 p = some (.frz od (.dK (kvZ kvs))) := g.hold.ex p _ (g.ex p _ upd_same)
    refine ⟨hp1, ?_⟩
    have noOwn : ∀ q, ¬ Owns ρ1 (upd H p (.frz od (.dK (kvZ kvs)))) q := fun q ⟨j, q', γ, T, y, w, f⟩ => by
      rw [hs.eq] at w
      rcases set_get w with ⟨_, w⟩ | ⟨hj, w⟩
      · cases w
      · exact hj (hno j _ _ _ _ w)
    have ownP : ∀ q H', Owns ρ H' q → q = p := fun q H' ⟨j, q', γ, T, y, w, f⟩ => by
      have := hno j _ _ _ _ w
      subst this
      rw [e1] at w
      cases w
      exact f
    have ownI : ∀ H', Owns ρ H' p := fun H' => ⟨i, p, _, OD, kvs, e1, rfl⟩
    have exH : Evl.Ex F (upd H1 p (.dK (kvZ kvs))) := fun a u z => by
      have ea : a ≠ p := fun w => by rw [w, hnF] at z; cases z
      rw [upd_ne ea]
      exact g.hold.ex a u (g.ex a u (exF a u z))
    refine k v F _ ⟨⟨exH, hh.len, fun j w s a b => ?_, fun j l q q' u γ δ T y T' y' a b _ _ => (hno j _ _ _ _ a).trans (hno l _ _ _ _ b).symm⟩, fun _ _ z => z, fun q u z n => ?_, fun _ _ _ f _ => f, fun q z => ?_, fun q w => .inl ?_⟩ rv
    · have qq := hh.ok j w s a b
      cases s with
      | any => trivial
      | imm T y => exact qq
      | own p1 T y =>
        have := hno j _ _ _ _ b
        subst this
        rw [e1] at b
        cases b
        exact ⟨qq.1, hnF, upd_same⟩
    · have eq : q ≠ p := fun w => n (w ▸ ownI H)
      rw [upd_ne eq]
      exact g.old q u (by rw [upd_ne eq]; exact z) (noOwn q)
    · have eq : q ≠ p := fun w => by rw [w, upd_same] at z; cases z
      rw [upd_ne eq] at z
      have := g.there q z
      rw [upd_ne eq] at this
      exact this
    · rw [ownP q _ w]; exact ownI H
end
section
variable {ι : Type} {X : ι → Cx} {X0 : Cx} [hF : Fam X X0] [hB : Blt X0] {ρ ρ1 ρ2 ρ3 ρ4 : List Slot} {r ra rb rc : Res} {e ie o a b c tg : Expr} {rest A B : List Stmt} {P : Post} {pos p' p2 pos' tpos apos mpos cpos px py pt pt2 : Pos} {α β γ : Type} {R : Rp α} {S : Rp β} {x y : Str}
include hF hB
theorem sumV {kvs : List (Int × Int)} (h : DV X ρ o (.new OD kvs) ρ1) (hg : ∀ i, Gl (X i) "sum" := by intro _; rfl) (hbase : ∀ i, attributeBase o "values" (X i).env (eval o (X i).env) = eval o (X i).env := by intro _; rfl) (hline : (apos.endLine == mpos.line) = true := by rfl)
    (hse : ∀ i, starEach [Expr.Call (.Attribute o "values" apos) [] [] mpos] (X i).env = [(false, eval (Expr.Call (.Attribute o "values" apos) [] [] mpos) (X i).env)] := by intro _; rfl) :
    DV X ρ (.Call (.Name "sum" p') [.Call (.Attribute o "values" apos) [] [] mpos] [] pos) (.imm RInt (kvs.map (·.2)).sum) ρ1 :=
  dv_of (fun i => pe_sumVals (hF.calm i) (hg i) (by rw [hF.mg i]; exact hB.sum) (can o i) (hbase i) hline (hse i)) fun F σ H hh Q k => h F σ H hh _ fun v F1 H1 g ⟨p, e1, _, _, e2⟩ =>
    ⟨p, kvZ kvs, kvs.map (fun kv => kv.2), e1, e2, by simp [kvZ], k _ F1 H1 g (show V.int _ = V.int _ from rfl)⟩
omit hB in
theorem cMinT (i : ι) : CallR (X i) (.builtin "min") (rMinT X0.K) := by rw [← hF.K i]; exact cr_minT (hF.calm i)
omit hB in
theorem cSortT (i : ι) : CallR (X i) (.builtin "sorted") (rSortedT X0.K) := by rw [← hF.K i]; exact cr_sortedTup
omit hF hB in
theorem boot_sorted' : bootBuiltins "sorted" = some (.builtin "sorted") := by decide +kernel
def minZ : List Int → Int
  | [] => 0
  | [x] => x
  | x :: y :: r => min x (minZ (y :: r))
omit hF hB in
theorem minZ_mem : ∀ {xs : List Int}, xs ≠ [] → minZ xs ∈ xs
  | [x], _ => by simp [minZ]
  | x :: y :: r, _ => by
    have ih := minZ_mem (xs := y :: r) (by simp)
    unfold minZ
    by_cases h : x ≤ minZ (y :: r)
    · rw [Int.min_eq_left h]; simp
    · rw [Int.min_eq_right (by omega)]; exact List.mem_cons_of_mem _ ih
omit hF hB in
theorem minZ_le : ∀ {xs : List Int} {z : Int}, z ∈ xs → minZ xs ≤ z
  | [x], z, h => by simp at h; subst h; exact Int.le_refl _
  | x :: y :: r, z, h => by
    unfold minZ
    rcases List.mem_cons.mp h with e | h
    · subst e; exact Int.min_le_left _ _
    · exact Int.le_trans (Int.min_le_right _ _) (minZ_le h)
theorem minT {xs : List Int} (h : DV X ρ e (.imm RInts xs) ρ1) (h0 : xs ≠ []) (hg : ∀ i, Gl (X i) "min" := by intro _; rfl) (he : ∀ i, starEach [e] (X i).env = (false, eval e (X i).env) :: starEach [] (X i).env := by intro _; rfl) : DV X ρ (.Call (.Name "min" p') [e] [] pos) (.imm RInt (minZ xs)) ρ1 :=
  dv_callB hB.min cMinT boot_min' (da_one h he) (fun F σ H H0 vs hh hv Q k => by
    cases hv with
    | cons h1 hv =>
      cases hv
      obtain ⟨a, vs, rfl, h2, h3⟩ := id h1
      refine ⟨a, xs, rfl, by rw [← ints_eq h3]; exact SqT.of (hh.ex a _ h2), List.length_pos_iff.mpr h0, fun m hm hm2 => ?_⟩
      have : m = minZ xs := Int.le_antisymm (hm2 _ (minZ_mem h0)) (minZ_le hm)
      rw [this]
      exact k _ F H (Go.refl hh) rfl) hg (by decide) (by decide) he (fun i => rfl)
theorem sortT {xs zs : List Int} (h : DV X ρ e (.imm RInts xs) ρ1) (hl : xs.length < 64) (hz : ∀ ys : List Int, ys.Perm xs → ys.Pairwise (· ≤ ·) → ys = zs) (hg : ∀ i, Gl (X i) "sorted" := by intro _; rfl) (he : ∀ i, starEach [e] (X i).env = (false, eval e (X i).env) :: starEach [] (X i).env := by intro _; rfl) : DV X ρ (.Call (.Name "sorted" p') [e] [] pos) (.new (OL RInt) zs) ρ1 :=
  dv_callB hB.sorted cSortT boot_sorted' (da_one h he) (fun F σ H H0 vs hh hv Q k => by
    cases hv with
    | cons h1 hv =>
      cases hv
      obtain ⟨a, vs, rfl, h2, h3⟩ := id h1
      refine ⟨a, xs, rfl, by rw [← ints_eq h3]; exact SqT.of (hh.ex a _ h2), hl, fun ys p hp hs hn => ?_⟩
      rw [hz ys hp hs]
      exact k _ _ _ (Go.allocO hh hn) (new_lst hh hn hn (All.map (f := V.int) (P := RInt.rel F) (fun _ => rfl) zs))) hg (by decide) (by decide) he (fun i => rfl)
end
/-! ### a list of lists, all one's own -/
inductive AllI {α : Type} (P : Addr → α → Prop) : List Addr → List α → Prop
  | nil : AllI P [] []
  | cons {a : Addr} {x : α} {as : List Addr} {xs : List α} : P a x → AllI P as xs → AllI P (a :: as) (x :: xs)
section
variable {α : Type} {P P' : Addr → α → Prop}
theorem AllI.imp : ∀ {as : List Addr} {xs : List α}, AllI P as xs → (∀ a x, a ∈ as → P a x → P' a x) → AllI P' as xs
  | _, _, .nil, _ => .nil
  | _, _, .cons a b, f => .cons (f _ _ (by simp) a) (AllI.imp b fun a x h => f a x (by simp [h]))
theorem AllI.len : ∀ {as : List Addr} {xs : List α}, AllI P as xs → as.length = xs.length
  | _, _, .nil => rfl
  | _, _, .cons _ b => by simp [AllI.len b]
theorem AllI.get : ∀ {as : List Addr} {xs : List α} {i : Nat} {x : α}, AllI P as xs → xs[i]? = some x → ∃ a, as[i]? = some a ∧ P a x
  | _, _, i, x, .nil, e => by simp at e
  | _, _, 0, x, .cons a b, e => by simp at e; subst e; exact ⟨_, rfl, a⟩
  | _, _, i + 1, x, .cons a b, e => by
    obtain ⟨v, h1, h2⟩ := AllI.get (i := i) b (by simpa using e)
    exact ⟨v, by simpa using h1, h2⟩
theorem AllI.of : ∀ {as : List Addr} {xs : List α}, AllI P as xs → ∀ {a : Addr}, a ∈ as → ∃ x, P a x
  | _, _, .cons h b, a, m => by
    rcases List.mem_cons.mp m with e | m
    · subst e; exact ⟨_, h⟩
    · exact AllI.of b m
theorem AllI.snoc {a : Addr} {x : α} (h : P a x) : ∀ {as : List Addr} {xs : List α}, AllI P as xs → AllI P (as ++ [a]) (xs ++ [x])
  | _, _, .nil => .cons h .nil
  | _, _, .cons b c => .cons b (AllI.snoc h c)
theorem AllI.set {a : Addr} {x : α} (h : P' a x) : ∀ {as : List Addr} {xs : List α} {i : Nat}, AllI P as xs → as.Nodup → as[i]? = some a → (∀ b y, b ∈ as → b ≠ a → P b y → P' b y) → AllI P' as (xs.set i x)
  | _, _, i, .nil, _, e, _ => by simp at e
  | _, _, 0, .cons b c, nd, e, f => by
    simp at e
    subst e
    rw [List.nodup_cons] at nd
    exact .cons h (c.imp fun a y m => f a y (by simp [m]) fun z => nd.1 (z ▸ m))
  | b0 :: bs, _, i + 1, .cons b c, nd, e, f => by
    rw [List.nodup_cons] at nd
    have e' : bs[i]? = some a := by simpa using e
    exact .cons (f _ _ (by simp) (fun z => nd.1 (z ▸ List.mem_of_getElem? e')) b) (AllI.set h c nd.2 e' fun b y m => f b y (by simp [m]))
theorem AllI.toAll {Q : V → α → Prop} : ∀ {as : List Addr} {xs : List α}, AllI P as xs → (∀ a x, a ∈ as → P a x → Q (.ref a) x) → All Q (as.map V.ref) xs
  | _, _, .nil, _ => .nil
  | _, _, .cons a b, f => .cons (f _ _ (by simp) a) (AllI.toAll b fun a x m => f a x (by simp [m]))
end
theorem refs_inj {as bs : List Addr} (h : as.map V.ref = bs.map V.ref) : as = bs := by
  induction as generalizing bs with
  | nil => cases bs with
    | nil => rfl
    | cons _ _ => simp at h
  | cons a as ih => cases bs with
    | nil => simp at h
    | cons b bs =>
      simp at h
      rw [h.1, ih (by simpa using h.2)]
def OLL {α : Type} (R : Rp α) : Ro (List (List α)) where
  foot := fun H p q => q = p ∨ ∃ as : List Addr, H p = some (.lst (as.map V.ref)) ∧ q ∈ as
  rel := fun F H p xss => F p = none ∧ ∃ as : List Addr, H p = some (.lst (as.map V.ref)) ∧ as.Nodup ∧ p ∉ as ∧ AllI (fun a xs => F a = none ∧ ∃ vs, H a = some (.lst vs) ∧ All (R.rel F) vs xs) as xss
  self := .inl rfl
  out := fun ⟨h1, as, h2, h3, h4, h5⟩ e => by
    rcases e with e | ⟨bs, e1, e2⟩
    · subst e; exact ⟨h1, _, h2⟩
    · rw [h2] at e1
      have := refs_inj (HO.lst.inj (Option.some.inj e1))
      subst this
      obtain ⟨x, b1, vs, b2, _⟩ := h5.of e2
      exact ⟨b1, _, b2⟩
  stay := fun ⟨h1, as, h2, h3, h4, h5⟩ e k => ⟨(k _ (.inl rfl)).2, as, (k _ (.inl rfl)).1.trans h2, h3, h4, h5.imp fun a x m ⟨b1, vs, b2, b3⟩ => ⟨(k a (.inr ⟨as, h2, m⟩)).2, vs, (k a (.inr ⟨as, h2, m⟩)).1.trans b2, b3.imp fun _ _ => R.up e⟩⟩
  stayf := fun ⟨h1, as, h2, h3, h4, h5⟩ k e => by
    rcases e with e | ⟨bs, e1, e2⟩
    · exact .inl e
    · rw [k _ (.inl rfl)] at e1
      exact .inr ⟨bs, e1, e2⟩
  fz := RL (RL R)
  fzr := fun ⟨h1, as, h2, h3, h4, h5⟩ e k => ⟨_, _, rfl, k _ _ (.inl rfl) h2, h5.toAll fun a x m ⟨b1, vs, b2, b3⟩ => ⟨a, vs, rfl, k a _ (.inr ⟨as, h2, m⟩) b2, b3.imp fun _ _ => R.up e⟩⟩
end PD

set_option Elab.async false
set_option linter.all false
set_option maxRecDepth 100000
set_option maxHeartbeats 4000000
namespace PD
open PySem L2
section
variable {F F1 F2 F' H H0 H1 H2 H' : Hp} {σ σ1 σ2 σ' : L2.St} {ρ ρ0 ρ1 ρ2 ρ3 ρ4 ρ5 : List Slot} {α β γ : Type} {R : Rp α}
theorem set_same {ρ : List Slot} {k : Nat} {s : Slot} (h : ρ[k]? = some s) : (ρ.set k s) = ρ := by
  refine List.ext_getElem? fun i => ?_
  by_cases e : i = k
  · subst e
    rw [List.getElem?_set_self (List.getElem?_eq_some_iff.mp h).1, h]
  · rw [List.getElem?_set_ne (Ne.symm e)]
/-- a thing of one's own that isn't looked at -/
theorem Go.aside {k : Nat} {p : Addr} {O : Ro α} {x : α} (hh : Hold F σ H ρ) (e : ρ[k]? = some (.own p O x)) (e1 : ρ1[k]? = some (.own p O x)) (g : Go (ρ.set k .any) F H (ρ1.set k .any) σ F1 H1) : Go ρ F H ρ1 σ F1 H1 ∧ ∀ q, O.foot H p q → H1 q = H q := by
  have hr := (hh.own e).2
  have own : ∀ q, O.foot H p q → Owns ρ H q := fun q f => ⟨k, p, _, O, x, e, f⟩
  have no : ∀ q, O.foot H p q → ¬ Owns (ρ.set k .any) H q := fun q f ⟨i, p', β, S, y, e', f'⟩ => by
    rcases set_get e' with ⟨_, e'⟩ | ⟨hj, e'⟩
    · cases e'
    · exact hj (hh.sep i k p' p q _ _ S y O x e' e f' f)
  have keep : ∀ q, O.foot H p q → H1 q = H q ∧ F1 q = none := fun q f => by
    obtain ⟨a, o, b⟩ := O.out hr f
    exact ⟨(g.old q o b (no q f)).trans b.symm, g.new q o b a (no q f)⟩
  have hr1 : O.rel F1 H1 p x := O.stay hr g.ex keep
  have back : ∀ q, O.foot H1 p q → O.foot H p q := fun q f => O.stayf hr (fun q f => (keep q f).1) f
  have sub1 : ∀ q, Owns (ρ1.set k .any) H1 q → Owns ρ1 H1 q := fun q w => (owns_set w).elim id fun z => z.elim
  have split1 : ∀ q, Owns ρ1 H1 q → Owns (ρ1.set k .any) H1 q ∨ O.foot H1 p q := fun q ⟨i, p', β, S, y, e', f'⟩ => by
    by_cases hi : i = k
    · subst hi; rw [e1] at e'; cases e'; exact .inr f'
    · exact .inl ⟨i, p', β, S, y, by rw [List.getElem?_set_ne (Ne.symm hi)]; exact e', f'⟩
  have sub : ∀ q, Owns (ρ.set k .any) H q → Owns ρ H q := fun q w => (owns_set w).elim id fun z => z.elim
  have dis : ∀ q, Owns (ρ1.set k .any) H1 q → ¬ O.foot H1 p q := fun q w f => by
    rcases g.owns q w with z | z
    · exact no q (back q f) z
    · obtain ⟨_, o, b⟩ := O.out hr (back q f)
      rw [z] at b; cases b
  refine ⟨⟨⟨g.hold.ex, by have := g.hold.len; rwa [List.length_set] at this, fun j w s a b => ?_, fun i j p1 p2 q β γ S y T z a b f1 f2 => ?_⟩, g.ex, fun q o a n => g.old q o a fun w => n (sub q w), fun q o a f n => g.new q o a f fun w => n (sub q w), g.there, fun q w => ?_⟩, fun q f => (keep q f).1⟩
  · by_cases hj : j = k
    · subst hj
      rw [e1] at b; cases b
      rw [(hh.own e).1] at a; cases a
      exact ⟨rfl, hr1⟩
    · exact g.hold.ok j w s a (by rw [List.getElem?_set_ne (Ne.symm hj)]; exact b)
  · by_cases hi : i = k
    · by_cases hj : j = k
      · rw [hi, hj]
      · subst hi
        rw [e1] at a; cases a
        exact absurd f1 (dis q ⟨j, p2, γ, T, z, by rw [List.getElem?_set_ne (Ne.symm hj)]; exact b, f2⟩)
    · by_cases hj : j = k
      · subst hj
        rw [e1] at b; cases b
        exact absurd f2 (dis q ⟨i, p1, β, S, y, by rw [List.getElem?_set_ne (Ne.symm hi)]; exact a, f1⟩)
      · exact g.hold.sep i j p1 p2 q β γ S y T z (by rw [List.getElem?_set_ne (Ne.symm hi)]; exact a) (by rw [List.getElem?_set_ne (Ne.symm hj)]; exact b) f1 f2
  · rcases split1 q w with z | z
    · exact (g.owns q z).imp (sub q) id
    · exact .inl (own q (back q z))
/-- a list of one's own becomes the last row -/
theorem go_appOwn {k j : Nat} {p q : Addr} {xss : List (List α)} {xs : List α} {vs : List V} (hh : Hold F σ H ρ) (hkj : k ≠ j) (ek : ρ[k]? = some (.own p (OLL R) xss)) (ej : ρ[j]? = some (.own q (OL R) xs)) (hv : H p = some (.lst vs)) :
    Go ρ F H ((ρ.set j .any).set k (.own p (OLL R) (xss ++ [xs]))) σ F (upd H p (.lst (vs ++ [.ref q]))) := by
  obtain ⟨hσ, hp, as, h2, h3, h4, h5⟩ := hh.own ek
  obtain ⟨hσ2, hq, ws, g2, g3⟩ := hh.own ej
  have ev : vs = as.map V.ref := by rw [h2] at hv; exact (HO.lst.inj (Option.some.inj hv)).symm
  subst ev
  have fk : ∀ u, (OLL R).foot H p u → Owns ρ H u := fun u f => ⟨k, p, _, OLL R, xss, ek, f⟩
  have fj : Owns ρ H q := ⟨j, q, _, OL R, xs, ej, rfl⟩
  have nq : ∀ u, (OLL R).foot H p u → u ≠ q := fun u f e => hkj (hh.sep k j p q u _ _ _ _ _ _ ek ej f e)
  have eA : (as ++ [q]).map V.ref = as.map V.ref ++ [V.ref q] := by simp
  have newrel : (OLL R).rel F (upd H p (.lst (as.map V.ref ++ [.ref q]))) p (xss ++ [xs]) := by
    refine ⟨hp, as ++ [q], by rw [upd_same, eA], ?_, ?_, ?_⟩
    · rw [List.nodup_append]
      exact ⟨h3, by simp, fun a ha b hb => by simp at hb; subst hb; exact nq a (.inr ⟨as, h2, ha⟩)⟩
    · simp only [List.mem_append, List.mem_singleton, not_or]
      exact ⟨h4, nq p (.inl rfl)⟩
    · refine AllI.snoc ⟨hq, ws, by rw [upd_ne (Ne.symm (nq p (.inl rfl)))]; exact g2, g3⟩ (h5.imp fun a x m ⟨b1, us, b2, b3⟩ => ⟨b1, us, ?_, b3⟩)
      rw [upd_ne (show a ≠ p from fun e => h4 (e ▸ m))]; exact b2
  have newfoot : ∀ u, (OLL R).foot (upd H p (.lst (as.map V.ref ++ [.ref q]))) p u → (OLL R).foot H p u ∨ u = q := fun u f => by
    rcases f with e | ⟨bs, e1, e2⟩
    · exact .inl (.inl e)
    · rw [upd_same, ← eA] at e1
      have := refs_inj (HO.lst.inj (Option.some.inj e1))
      subst this
      rcases List.mem_append.mp e2 with m | m
      · exact .inl (.inr ⟨as, h2, m⟩)
      · exact .inr (by simpa using m)
  have other : ∀ {m : Nat} {p' : Addr} {γ : Type} {T : Ro γ} {z : γ}, m ≠ k → ρ[m]? = some (.own p' T z) → ∀ u, T.foot H p' u → upd H p (.lst (as.map V.ref ++ [.ref q])) u = H u := fun {m p' γ T z} hm e f w =>
    upd_ne fun e2 => hm (hh.sep m k p' p _ _ _ T z _ _ e ek w (.inl e2))
  have get : ∀ {m : Nat} {s : Slot}, ((ρ.set j .any).set k (.own p (OLL R) (xss ++ [xs])))[m]? = some s → (m = k ∧ s = .own p (OLL R) (xss ++ [xs])) ∨ (m ≠ k ∧ s = .any) ∨ (m ≠ k ∧ m ≠ j ∧ ρ[m]? = some s) := fun {m s} h => by
    rcases set_get h with ⟨e, e2⟩ | ⟨hm, h⟩
    · exact .inl ⟨e, e2⟩
    · rcases set_get h with ⟨e, e2⟩ | ⟨hm2, h⟩
      · exact .inr (.inl ⟨hm, e2⟩)
      · exact .inr (.inr ⟨hm, hm2, h⟩)
  have own' : ∀ u, Owns ((ρ.set j .any).set k (.own p (OLL R) (xss ++ [xs]))) (upd H p (.lst (as.map V.ref ++ [.ref q]))) u → Owns ρ H u := fun u ⟨m, p', γ, T, z, e, f⟩ => by
    rcases get e with ⟨_, e⟩ | ⟨_, e⟩ | ⟨hm, _, e⟩
    · cases e
      rcases newfoot u f with f | f
      · exact fk u f
      · exact f ▸ fj
    · cases e
    · exact ⟨m, p', γ, T, z, e, T.stayf (hh.own e).2 (other hm e) f⟩
  refine ⟨⟨fun a u z => ?_, by rw [List.length_set, List.length_set]; exact hh.len, fun m w s a b => ?_, fun m l p1 p2 u γ δ T z U z' a b f1 f2 => ?_⟩, fun _ _ z => z, fun u o z n => ?_, fun u o z f n => f, fun u z => ?_, fun u w => .inl (own' u w)⟩
  · rw [upd_ne fun e => by rw [e, hp] at z; cases z]
    exact hh.ex a u z
  · rcases get b with ⟨e, e2⟩ | ⟨_, e⟩ | ⟨hm, hm2, e⟩
    · subst e e2
      rw [hσ] at a; cases a
      exact ⟨rfl, newrel⟩
    · subst e; trivial
    · have c := hh.ok m w s a e
      cases s with
      | any => trivial
      | imm T z => exact c
      | own p' T z => exact ⟨c.1, T.stay c.2 (fun _ _ z => z) fun u f => ⟨other hm e u f, (T.out c.2 f).1⟩⟩
  · have case : ∀ {m l : Nat} {p2 : Addr} {δ : Type} {U : Ro δ} {z' : δ}, m = k → l ≠ k → l ≠ j → ρ[l]? = some (.own p2 U z') → (OLL R).foot (upd H p (.lst (as.map V.ref ++ [.ref q]))) p u → U.foot (upd H p (.lst (as.map V.ref ++ [.ref q]))) p2 u → False := fun {m l p2 δ U z'} em hl hlj e f1 f2 => by
      have f2' := U.stayf (hh.own e).2 (other hl e) f2
      rcases newfoot u f1 with f | f
      · exact hl (hh.sep l k p2 p u _ _ _ _ _ _ e ek f2' f)
      · exact hlj (hh.sep l j p2 q u _ _ _ _ _ _ e ej f2' f)
    rcases get a with ⟨ea, e2⟩ | ⟨_, e⟩ | ⟨hm, hm2, e⟩
    · rcases get b with ⟨eb, d2⟩ | ⟨_, d⟩ | ⟨hl, hl2, d⟩
      · exact ea.trans eb.symm
      · cases d
      · cases e2
        exact (case ea hl hl2 d f1 f2).elim
    · cases e
    · rcases get b with ⟨eb, d2⟩ | ⟨_, d⟩ | ⟨hl, hl2, d⟩
      · cases d2
        exact (case eb hm hm2 e f2 f1).elim
      · cases d
      · exact hh.sep m l p1 p2 u _ _ _ _ _ _ e d (T.stayf (hh.own e).2 (other hm e) f1) (U.stayf (hh.own d).2 (other hl d) f2)
  · rw [upd_ne (show u ≠ p from fun e => n (e ▸ fk p (.inl rfl)))]; exact z
  · by_cases e : u = p
    · rw [e, upd_same] at z; cases z
    · rw [upd_ne e] at z; exact z
end
section
variable {ι : Type} {X : ι → Cx} {X0 : Cx} [hF : Fam X X0] [hB : Blt X0] {ρ ρ1 ρ2 ρ3 ρ4 ρ5 : List Slot} {r ra rb rc : Res} {e ie je o a b c tg : Expr} {rest A B : List Stmt} {P : Post} {pos p' p2 pos' tpos spos apos mpos cpos : Pos} {α β γ : Type} {R : Rp α}
include hF hB
theorem appO (k j : Nat) {p q : Addr} {xss : List (List α)} {xs : List α} (hkj : k ≠ j) (ho : DV X ρ o (.view p (OLL R) xss) ρ1) (ha : DV X ρ1 e (.view q (OL R) xs) ρ2) (e1 : ρ1[k]? = some (.own p (OLL R) xss)) (e2 : ρ2[k]? = some (.own p (OLL R) xss)) (e3 : ρ2[j]? = some (.own q (OL R) xs)) (hl : xss.length ≤ 10000000) (hs : SetAt ρ2 j .any ρ3) (hs2 : SetAt ρ3 k (.own p (OLL R) (xss ++ [xs])) ρ4)
    (hbase : ∀ i, attributeBase o "append" (X i).env (eval o (X i).env) = eval o (X i).env := by intro _; rfl)
    (hfew : ∀ i, ((backTo cpos (starEach (e :: []) (X i).env)).all (fun x => !x.1) && (backToKw cpos (keywordEach [] (X i).env)).all (fun x => x.1.isSome)
      && decide ((e :: []).length + ([] : List Keyword).length + (if ([] : List Keyword).isEmpty then 0 else 1) < 30)) = true := by intro _; rfl)
    (hline : (apos.endLine == cpos.line) = true := by rfl) (hse : ∀ i, starEach (e :: []) (X i).env = (false, eval e (X i).env) :: starEach [] (X i).env := by intro _; rfl) (hplain : ∀ i, (backTo cpos (starEach [] (X i).env)).any (·.1) = false := by intro _; rfl) :
    DV X ρ (.Call (.Attribute o "append" apos) [e] [] cpos) (.imm RNon ()) ρ4 := by
  rw [hs2.eq, hs.eq]
  refine dv_bm PySem.F.plainAttrs_list PySem.F.slot_list_append PySem.F.type_list_append (fun i => mt_append) ho (fun F σ H H0 v hh hv => ?_) (da_one ha hse) (fun F σ H H0 x vs hh hx hv Q kk => ?_) hbase hfew hline hse hplain
  · obtain ⟨_, _, as, h2, _⟩ := hh.own e1
    cases (show v = .ref p from hv)
    exact .inl ⟨rfl, _, SqL.of h2⟩
  · cases hv with
    | cons h1 hv =>
      cases hv
      cases (show x = .ref p from hx)
      cases (show _ = V.ref q from h1)
      obtain ⟨_, _, as, h2, _, _, h5⟩ := hh.own e2
      refine ⟨p, _, _, rfl, rfl, h2, by rw [List.length_map, h5.len]; exact szl hl, ?_⟩
      exact kk _ F _ (go_appOwn hh hkj e2 e3 h2) rfl
/-- rows[i][j] = e -/
theorem setix2 (k : Nat) {xss : List (List α)} {xs : List α} {y : α} {m n : Int} {p : Addr} (he : DV X ρ e (.imm R y) ρ1) (ho : DV X ρ1 o (.view p (OLL R) xss) ρ2) (hi : DV X ρ2 ie (.imm RInt m) ρ3) (hk : ρ3[k]? = some (.own p (OLL R) xss)) (hj : DV X (ρ3.set k .any) je (.imm RInt n) (ρ4.set k .any)) (hk4 : ρ4[k]? = some (.own p (OLL R) xss))
    (hm : 0 ≤ m ∧ m < xss.length) (hxs : xss[m.toNat]? = some xs) (hn : 0 ≤ n ∧ n < xs.length) (hs : SetAt ρ4 k (.own p (OLL R) (xss.set m.toNat (xs.set n.toNat y))) ρ5) (q : DSs X ρ5 rest P) (hp : PlainIx ie := by exact fun _ _ => rfl)
    (ha : ∀ i v, assign (.Subscript (.Subscript o ie spos) je tpos) (X i).env v = (do
      let ov ← holding [v] (eval (.Subscript o ie spos) (X i).env)
      let iv ← holding [v, ov] (eval je (X i).env)
      standAt tpos
      holding [v, ov, iv] (setItem ov iv v)
      release [v, ov, iv] []) := by intro _ _; rfl) (hsw : ∀ i, swapsWithSole [.Subscript (.Subscript o ie spos) je tpos] e pos.line (X i).env = pure false := by intro _; rfl) (hw : ∀ i, swappedStores [.Subscript (.Subscript o ie spos) je tpos] e (X i).env = pure none := by intro _; rfl) :
    DSs X ρ (.Assign [.Subscript (.Subscript o ie spos) je tpos] e pos :: rest) P :=
  dss_cons (ds_of (ts := tAsg (teOf X e) (gSub (tOp (rIx X0.K) (teOf X o) (teOf X ie)) (teOf X je) rSetL)) (fun i => ps_asg (can e i) (pg_sub (pe_ix (cIx i) (can o i) (can ie i) hp) (can je i) set_list (ha i)) (hsw i) (hw i)) (ev_asg (ρ2 := ρ5) he (fun F σ H v hh rv Q k0 => ho F σ H hh _ fun v1 F1 H1 g1 r1 => hi F1 σ H1 g1.hold _ fun v2 F2 H2 g2 r2 => by
    cases (show v1 = .ref p from r1)
    cases (show v2 = .int m from r2)
    obtain ⟨hσ, hpF, as, h2, h3, h4, h5⟩ := g2.hold.own hk
    obtain ⟨ar, har, hrF, ws, hws, hall⟩ := h5.get hxs
    have har' : (as.map V.ref)[m.toNat]? = some (V.ref ar) := by rw [List.getElem?_map, har]; rfl
    have hat : atI (as.map V.ref) m = some (V.ref ar) := by
      have e0 : ixN (as.map V.ref).length m = some m.toNat := by
        unfold ixN
        rw [if_pos hm.1, if_pos (by rw [List.length_map, h5.len]; exact hm.2)]
      unfold atI
      rw [e0]
      exact har'
    refine .inl ⟨p, _, m, _, rfl, rfl, SqL.of h2, hat, ?_⟩
    have hany : Hold F2 σ H2 (ρ3.set k .any) := by
      refine ⟨g2.hold.ex, by rw [List.length_set]; exact g2.hold.len, fun j w s a b => ?_, fun i j p1 p2 q β γ S y T z a b f1 f2 => ?_⟩
      · rcases set_get b with ⟨_, rfl⟩ | ⟨_, b⟩
        · trivial
        · exact g2.hold.ok j w s a b
      · rcases set_get a with ⟨_, a⟩ | ⟨_, a⟩
        · cases a
        · rcases set_get b with ⟨_, b⟩ | ⟨_, b⟩
          · cases b
          · exact g2.hold.sep i j p1 p2 q β γ S y T z a b f1 f2
    refine hj F2 σ H2 hany _ fun v3 F3 H3 g3 r3 => ?_
    cases (show v3 = .int n from r3)
    obtain ⟨g4, kp⟩ := g3.aside g2.hold hk hk4
    have hmem : ar ∈ as := List.mem_of_getElem? har
    have e3 : H3 ar = some (.lst ws) := (kp ar (.inr ⟨as, h2, hmem⟩)).trans hws
    have hpar : ar ≠ p := fun e => h4 (e ▸ hmem)
    have hl := hall.len
    refine ⟨ar, ws, n, n.toNat, rfl, rfl, e3, by unfold ixN; rw [if_pos hn.1, if_pos (by omega)], ?_⟩
    have exA : Evl.Ex F F3 := Evl.Ex.trans g1.ex (Evl.Ex.trans g2.ex g3.ex)
    have ex23 : Evl.Ex F2 F3 := g3.ex
    have hp3 : H3 p = some (.lst (as.map V.ref)) := (kp p (.inl rfl)).trans h2
    have hnFp : F3 p = none := ((g4.hold.own hk4).2).1
    obtain ⟨_, _, as3, h23, h33, h43, h53⟩ := g4.hold.own hk4
    have eas : as3 = as := by
      rw [hp3] at h23
      exact (refs_inj (HO.lst.inj (Option.some.inj h23))).symm
    subst eas
    have g5 : Go ρ4 F3 H3 (ρ4.set k (.own p (OLL R) (xss.set m.toNat (xs.set n.toNat y)))) σ F3 (upd H3 ar (.lst (ws.set n.toNat v))) := by
      refine Go.write g4.hold hk4 (S := OLL R) (.inr ⟨as3, hp3, hmem⟩) ⟨hnFp, as3, by rw [upd_ne (Ne.symm hpar)]; exact hp3, h3, h4, ?_⟩ fun u f => ?_
      · obtain ⟨ar2, har2, hrF3, ws2, hws2, hall2⟩ := h53.get hxs
        have : ar2 = ar := by rw [har] at har2; exact (Option.some.inj har2).symm
        subst this
        refine h53.set (i := m.toNat) ⟨hrF3, _, upd_same, ?_⟩ h3 har fun b y' mb nb ⟨b1, us, b2, b3⟩ => ⟨b1, us, by rw [upd_ne nb]; exact b2, b3⟩
        exact (hall.imp fun _ _ => R.up ex23).set (R.up exA rv) n.toNat
      · rcases f with e | ⟨bs, e1, e2⟩
        · exact .inl e
        · rw [upd_ne (Ne.symm hpar)] at e1
          exact .inr ⟨bs, e1, e2⟩
    rw [← hs.eq] at g5
    exact k0 F3 _ ((g1.trans g2).trans (g4.trans g5))) q))
/-- rows = [] -/
theorem newLL : DV X ρ (.List [] pos) (.new (OLL R) []) ρ :=
  dv_of (fun i => pe_lst (canA [] i)) fun F σ H hh Q k => a0 F σ H hh _ fun vs F1 H1 g rv => by
    cases rv
    refine ⟨Nat.zero_le _, fun p hp => k _ _ _ (g.trans (Go.allocO g.hold hp)) ⟨p, rfl, fun q e => ?_, Evl.fresh_back g.hold.ex hp, [], upd_same, List.nodup_nil, by simp, .nil⟩⟩
    have eq : q = p := by
      rcases e with e | ⟨as, e1, e2⟩
      · exact e
      · rw [upd_same] at e1
        have := refs_inj (bs := as) (as := []) (HO.lst.inj (Option.some.inj e1))
        subst this
        simp at e2
    rw [eq]
    exact ⟨g.there p hp, fun w => g.hold.notOwn hp (owns_step g.hold (fun q w => by
      obtain ⟨_, u, b⟩ := g.hold.owned w
      exact upd_ne (ne_of_none b hp)) w)⟩
end
end PD

set_option Elab.async false
set_option linter.all false
set_option maxRecDepth 100000
set_option maxHeartbeats 4000000
namespace PD
open PySem L2
theorem eqvAll_ints : ∀ xs ys : List Int, PyData.eqvAll (xs.map PyData.int) (ys.map PyData.int) = decide (xs = ys)
  | [], [] => by simp [PyData.eqvAll]
  | [], _ :: _ => by simp [PyData.eqvAll]
  | _ :: _, [] => by simp [PyData.eqvAll]
  | x :: xs, y :: ys => by
    have ih := eqvAll_ints xs ys
    simp only [List.map_cons, PyData.eqvAll, PyData.eqv, ih]
    by_cases h : x = y <;> simp [h]
theorem eqv_ints {xs ys : List Int} : PyData.eqv (.list (xs.map PyData.int)) (.list (ys.map PyData.int)) = decide (xs = ys) := by
  rw [← eqvAll_ints]; simp [PyData.eqv]
theorem lay_ints : ∀ xs : List Int, PyData.canLayAll0 (xs.map PyData.int) = true
  | [] => by simp [PyData.canLayAll0]
  | x :: xs => by simp [PyData.canLayAll0, PyData.canLay0, lay_ints xs]
theorem depth_ints : ∀ xs : List Int, PyData.depthAll (xs.map PyData.int) = 0
  | [] => by simp [PyData.depthAll]
  | x :: xs => by simp [PyData.depthAll, PyData.depth, depth_ints xs]
theorem shaped_ints (xs : List Int) : SeqAt.shaped (.list (xs.map PyData.int)) = true := by
  unfold SeqAt.shaped
  rw [PyData.canLay0, lay_ints, PyData.depth, depth_ints]; rfl
section
variable {ι : Type} {X : ι → Cx} {X0 : Cx} [hF : Fam X X0] {ρ ρ1 ρ2 : List Slot} {a b c : Expr} {pos : Pos}
theorem chainLeT {i j k : Int} (ha : DV X ρ a (.imm RInt i) ρ1) (hb : DV X ρ1 b (.imm RInt j) ρ2) (hc : DV X ρ2 c (.imm RInt k) ρ2) (hm : lastMarks [.LtE, .LtE] [b, c] = false := by with_unfolding_all rfl) : DT X ρ (.Compare a [.LtE, .LtE] [b, c] pos) (decide (i ≤ j) && decide (j ≤ k)) ρ2 :=
  dt_of (fun t => pt_chain op_le op_le (can a t) (can b t) (can c t) hm) fun F σ H hh Q q => ha F σ H hh _ fun v1 F1 H1 g1 r1 => hb F1 σ H1 g1.hold _ fun v2 F2 H2 g2 r2 => by
    cases (show v1 = .int i from r1)
    cases (show v2 = .int j from r2)
    refine ⟨i, j, rfl, rfl, _, rfl, ?_⟩
    by_cases h : i ≤ j
    · rw [if_pos (by simpa using h)]
      refine hc F2 σ H2 g2.hold _ fun v3 F3 H3 g3 r3 => ?_
      cases (show v3 = .int k from r3)
      refine ⟨j, k, rfl, rfl, _, rfl, ?_⟩
      have := q F3 H3 ((g1.trans g2).trans g3)
      simpa [h] using this
    · rw [if_neg (by simpa using h)]
      refine ⟨false, rfl, ?_⟩
      have := q F2 H2 (g1.trans g2)
      simpa [h] using this
end
end PD

set_option Elab.async false
set_option linter.all false
set_option maxRecDepth 100000
set_option maxHeartbeats 4000000
namespace PD
open PySem L2
section
variable {s a b c d e f g h i j k l m n o p q t u x : Slot} {r : List Slot}
theorem s14 : SetAt (a :: b :: c :: d :: e :: f :: g :: h :: i :: j :: k :: l :: m :: n :: o :: r) 14 s (a :: b :: c :: d :: e :: f :: g :: h :: i :: j :: k :: l :: m :: n :: s :: r) := .succ s13
theorem s15 : SetAt (a :: b :: c :: d :: e :: f :: g :: h :: i :: j :: k :: l :: m :: n :: o :: p :: r) 15 s (a :: b :: c :: d :: e :: f :: g :: h :: i :: j :: k :: l :: m :: n :: o :: s :: r) := .succ s14
theorem s16 : SetAt (a :: b :: c :: d :: e :: f :: g :: h :: i :: j :: k :: l :: m :: n :: o :: p :: q :: r) 16 s (a :: b :: c :: d :: e :: f :: g :: h :: i :: j :: k :: l :: m :: n :: o :: p :: s :: r) := .succ s15
theorem s17 : SetAt (a :: b :: c :: d :: e :: f :: g :: h :: i :: j :: k :: l :: m :: n :: o :: p :: q :: t :: r) 17 s (a :: b :: c :: d :: e :: f :: g :: h :: i :: j :: k :: l :: m :: n :: o :: p :: q :: s :: r) := .succ s16
theorem s18 : SetAt (a :: b :: c :: d :: e :: f :: g :: h :: i :: j :: k :: l :: m :: n :: o :: p :: q :: t :: u :: r) 18 s (a :: b :: c :: d :: e :: f :: g :: h :: i :: j :: k :: l :: m :: n :: o :: p :: q :: t :: s :: r) := .succ s17
theorem s19 : SetAt (a :: b :: c :: d :: e :: f :: g :: h :: i :: j :: k :: l :: m :: n :: o :: p :: q :: t :: u :: x :: r) 19 s (a :: b :: c :: d :: e :: f :: g :: h :: i :: j :: k :: l :: m :: n :: o :: p :: q :: t :: u :: s :: r) := .succ s18
end
section
variable {ι : Type} {X : ι → Cx} {X0 : Cx} [hF : Fam X X0] {ρ ρ1 ρ2 ρ3 : List Slot} {elt tg iter : Expr} {scope : Scope} {α β : Type} {R : Rp α} {S : Rp β} {xs : List α}
include hF
/-- [..] whose turns change what names hold: E k ahead of turn k -/
theorem lcs (own : List (Str × Nat)) (E : Nat → List Slot) (y : Nat → β) (hi : DI X ρ tg iter R xs ρ1) (hl : xs.length ≤ 10000000) (h0 : E 0 = ρ1)
    (hE : ∀ k, ∀ i ∈ own.map (·.2), (E k)[i]? = some Slot.any ∨ (E k)[i]? = none)
    (hs : ∀ k x, xs[k]? = some x → ∃ ts ρk ρk2, (∀ i ∈ ts, i ∈ own.map (·.2)) ∧ DG (blkF X scope) tg ts R x (E k) ρk ∧ DV (blkF X scope) ρk elt (.imm S (y k)) ρk2 ∧ Wk ρk2 (E (k + 1)))
    (hw : wipeS ρ1 (own.map (·.2)) = ρ1 := by rfl) (hb : backS ρ1 (E xs.length) (own.map (·.2)) = E xs.length := by rfl) : LC X ρ elt tg iter [] scope (own.map (·.2)) (.new (OL S) ((List.range xs.length).map y)) (E xs.length) := by
  have h := lc_st (X := X) (elt := elt) (scope := scope) (S := S) hi E y hl (by rw [hw]; exact h0) (fun k _ => hE k) fun k x hx => by
    obtain ⟨ts, ρk, ρk2, h1, h2, h3, h4⟩ := hs k x hx
    exact ⟨ts, ρk, h1, h2, ρk2, h3, h4⟩
  rw [hb] at h
  exact h
/-- target = value, by the target's parts -/
theorem asgT {e : Expr} {rest : List Stmt} {P : Post} {pos : Pos} {x : α} {ts : List Nat} (h : DV X ρ e (.imm R x) ρ1) (ht : DG X tg ts R x ρ1 ρ2) (q : DSs X ρ2 rest P) (hsw : ∀ i, swapsWithSole [tg] e pos.line (X i).env = pure false := by intro _; rfl) (hw : ∀ i, swappedStores [tg] e (X i).env = pure none := by intro _; rfl) (h1 : ∀ i, (assignEach [tg] (X i).env).map (·.2) = [assign tg (X i).env] := by intro _; rfl) : DSs X ρ (.Assign [tg] e pos :: rest) P :=
  dss_cons (ds_of (ts := tAsg (teOf X e) (tgOf X tg)) (fun i => ps_asg (can e i) (canG tg i) (hsw i) (hw i) (h1 i)) fun F σ H D hh k1 _ _ _ => h F σ H hh _ fun v F1 H1 g r1 => ht F1 σ H1 v g.hold r1 _ fun σ' h' ho hs => k1 ρ2 σ' F1 H1 q (g.trans (go_of_hold g.hold h' ho)))
/-- a, b = (c, d), the first a thing of one's own -/
theorem parN {c d : Expr} {x y : Str} {px py pt pt2 pos : Pos} {kt k2 : Nat} {rest : List Stmt} {P : Post} {γ δ : Type} {O : Ro γ} {S : Rp δ} {ρ2 ρ3 : Addr → List Slot} (i j : Nat) {u : γ} {v : δ} (hij : i ≠ j) (h : DA X ρ [c, d] [.new O u, .imm S v] ρ1) (hs : ∀ p, SetAt ρ1 i (.own p O u) (ρ2 p)) (hs2 : ∀ p, SetAt (ρ2 p) j (.imm S v) (ρ3 p)) (q : ∀ p, DSs X (ρ3 p) rest P)
    (hi : ∀ t, (X t).N[i]? = some x := by intro _; rfl) (hj : ∀ t, (X t).N[j]? = some y := by intro _; rfl) (hx : ∀ t, Loc (X t).env.scope x := by intro _; first | exact Or.inl rfl | exact Or.inr rfl) (hy : ∀ t, Loc (X t).env.scope y := by intro _; first | exact Or.inl rfl | exact Or.inr rfl) (fx : ∀ t, (X t).fn x = true ∨ (X t).env.scope.names.lookup x = some .local := by intro _; first | exact Or.inr rfl | exact Or.inl rfl) (fy : ∀ t, (X t).fn y = true ∨ (X t).env.scope.names.lookup y = some .local := by intro _; first | exact Or.inr rfl | exact Or.inl rfl)
    (hw : ∀ t, swappedStores [.Tuple [.Name x px, .Name y py] kt pt] (.Tuple [c, d] k2 pt2) (X t).env = pure (some [x, y]) := by intro _; rfl) (hsw : ∀ t, swapsWithSole [.Tuple [.Name x px, .Name y py] kt pt] (.Tuple [c, d] k2 pt2) pos.line (X t).env = pure false := by intro _; rfl) :
    DSs X ρ (.Assign [.Tuple [.Name x px, .Name y py] kt pt] (.Tuple [c, d] k2 pt2) pos :: rest) P :=
  dss_cons (ds_of (fun t => ps_parC (hF.calm t) (nodups t) (hi t) (hj t) hij (hx t) (hy t) (fx t) (fy t) (canA _ t) (hw t) (hsw t)) fun F σ H D hh k1 _ _ _ => h F σ H hh _ fun vs F1 H1 g rv => by
    cases rv with
    | cons h1 rv => cases rv with
      | cons h2 rv =>
        cases rv
        obtain ⟨p, rfl, nn, hr⟩ := h1
        refine ⟨_, _, rfl, k1 (ρ3 p) _ F1 H1 (q p) ?_⟩
        rw [(hs2 p).eq, (hs p).eq]
        exact Go.set (s := .imm S v) (Go.set (s := .own p O u) g ⟨rfl, hr⟩ nn) ⟨_, rfl, h2⟩ fun p e => e.elim)
/-- a list of ints that stands: the script -/
def RSq (K : PySem.W.Frag) : Rp (List Int) := ⟨fun F v xs => ∃ a, v = .ref a ∧ ∀ H, Ex F H → SqL K H a (xs.map V.int), fun e ⟨a, h1, h2⟩ => ⟨a, h1, fun H hx => h2 H (Evl.Ex.trans e hx)⟩⟩
theorem dv_slQ {e : Expr} {lo hi : Option Expr} {l u : Option Int} {pos p2 : Pos} {xs : List Int} (he : DV X ρ e (.imm (RSq X0.K) xs) ρ1) (hl : DO X ρ1 lo l ρ2) (hu : DO X ρ2 hi u ρ3) : DV X ρ (.Subscript e (.Slice lo hi none p2) pos) (.new (OL RInt) (cut xs l u)) ρ3 :=
  dv_of (fun i => pe_slice (cSlL i) (can e i) (canO lo i) (canO hi i)) fun F σ H hh Q k => he F σ H hh _ fun v F1 H1 g1 r1 => hl F1 σ H1 g1.hold _ fun F2 H2 g2 => hu F2 σ H2 g2.hold _ fun F3 H3 g3 => by
    have gg := (g1.trans g2).trans g3
    obtain ⟨a, rfl, h1⟩ := (RSq X0.K).up (Evl.Ex.trans g2.ex g3.ex) r1
    refine ⟨a, _, rfl, h1 H3 g3.hold.ex, fun p hp => ?_⟩
    exact k _ _ _ (gg.trans (Go.allocO g3.hold hp)) (new_lst g3.hold hp (gg.there p hp) (All.cut (P := RInt.rel F3) (All.map (f := V.int) (P := RInt.rel F3) (fun _ => rfl) xs) l u))
/-- the heap that knows one thing alone -/
noncomputable def atF (H : Hp) (a : Addr) : Hp := fun q => by
  classical
  exact if q = a then H q else none
omit hF in
theorem atF_ex {H : Hp} {a : Addr} : Ex (atF H a) H := fun q o e => by
  unfold atF at e
  by_cases h : q = a
  · rw [if_pos h] at e; exact e
  · rw [if_neg h] at e; cases e
omit hF in
theorem rsq_start {K : PySem.W.Frag} {H : Hp} {a : Addr} {xs : List Int} (h : SqL K H a (xs.map V.int)) : (RSq K).rel (atF H a) (.ref a) xs := ⟨a, rfl, fun H' hx => by
  have key : ∀ o, H a = some o → H' a = some o := fun o e => hx a o (by unfold atF; rw [if_pos rfl]; exact e)
  rcases h with (h | ⟨o, h⟩) | h
  · exact .inl (.inl (key _ h))
  · exact .inl (.inr ⟨o, key _ h⟩)
  · exact .inr h⟩
end
end PD

set_option Elab.async false
set_option linter.all false
set_option maxRecDepth 100000
set_option maxHeartbeats 4000000
namespace PD
open PySem L2
local macro_rules | `(tactic| walk_at "ret") => `(tactic| exact ⟨.imm (.imm .nil), .same⟩)
local macro_rules | `(tactic| walk_at "ret1") => `(tactic| exact ⟨.imm .nil, .same⟩)
local macro_rules | `(tactic| walk_at "wk") => `(tactic| repeat (first | exact Wk.nil | refine Wk.keep ?_ | refine Wk.forget ?_))
local macro_rules | `(tactic| walk_at "lclen") => `(tactic| ((try simp only [rng_len, List.length_map]); omega))
local macro_rules | `(tactic| walk_at "rg") => `(tactic| omega)
local macro_rules | `(tactic| walk_at "app") => `(tactic| (simp; omega))
theorem boot_bool' : bootBuiltins "bool" = some (.type "bool") := by decide +kernel
def topS (i : Nat) : Stmt := PySem.Challenge.pw_laidroads_k27_whole_rounds_and_the_deter.main.body.getD i (.Pass ⟨0,0,0,0⟩)
/-! ### webs -/
abbrev Mat := List (List Int)
structure Sq (n : Nat) (m : Mat) : Prop where
  len : m.length = n
  row : ∀ r ∈ m, r.length = n
def Bd (B : Nat) (m : Mat) : Prop := ∀ r ∈ m, ∀ x ∈ r, x.natAbs < 2 ^ B
theorem Sq.at {n : Nat} {m : Mat} (h : Sq n m) {i : Int} (hi : 0 ≤ i ∧ i < n) : (nth m i).length = n := h.row _ (nth_mem (by rw [h.len]; exact hi))
theorem Bd.at {n B : Nat} {m : Mat} (hb : Bd B m) (h : Sq n m) {i j : Int} (hi : 0 ≤ i ∧ i < n) (hj : 0 ≤ j ∧ j < n) : (nth (nth m i) j).natAbs < 2 ^ B :=
  hb _ (nth_mem (by rw [h.len]; exact hi)) _ (nth_mem (by rw [h.at hi]; exact hj))
def mprod (one other : Mat) : Mat := one.map fun row => (rng 0 one.length).map fun j => ((rng 0 one.length).map fun k => nth row k * nth (nth other k) j).sum
def mtr (n : Nat) (m : Mat) : Int := ((rng 0 n).map fun p => nth (nth m p) p).sum
def mpow (web : Mat) : Nat → Mat
  | 0 => web
  | k + 1 => mprod (mpow web k) web
structure Web (n : Nat) (m : Mat) : Prop extends Sq n m where
  n1 : 1 ≤ n
  n8 : n ≤ 8
  pos : ∀ r ∈ m, ∀ x ∈ r, 0 ≤ x
theorem sum_abs {B : Nat} : ∀ {xs : List Int}, (∀ x ∈ xs, x.natAbs ≤ B) → xs.sum.natAbs ≤ xs.length * B
  | [], _ => by simp
  | x :: xs, h => by
    have h1 := h x (by simp)
    have h2 := sum_abs (xs := xs) fun y hy => h y (by simp [hy])
    rw [List.sum_cons, List.length_cons, Nat.add_mul]
    have := Int.natAbs_add_le x xs.sum
    omega
theorem sq_mprod {n : Nat} {a b : Mat} (ha : Sq n a) : Sq n (mprod a b) where
  len := by unfold mprod; rw [List.length_map]; exact ha.len
  row := fun r hr => by
    unfold mprod at hr
    obtain ⟨row, _, rfl⟩ := List.mem_map.mp hr
    rw [List.length_map, rng_len, ha.len]; omega
theorem bd_mprod {n A B : Nat} {a b : Mat} (hn : n ≤ 8) (ha : Sq n a) (hb : Sq n b) (h1 : Bd A a) (h2 : Bd B b) : Bd (A + B + 3) (mprod a b) := fun r hr x hx => by
  unfold mprod at hr
  obtain ⟨row, hrow, rfl⟩ := List.mem_map.mp hr
  obtain ⟨j, hj, rfl⟩ := List.mem_map.mp hx
  have hj' := rng_mem hj
  rw [ha.len] at hj' ⊢
  have hl := ha.row row hrow
  have key : ∀ x ∈ (rng 0 n).map fun k => nth row k * nth (nth b k) j, x.natAbs ≤ 2 ^ (A + B) - 1 := fun x hx => by
    obtain ⟨k, hk, rfl⟩ := List.mem_map.mp hx
    have hk' := rng_mem hk
    have e1 := h1 row hrow _ (nth_mem (xs := row) (i := k) (by omega))
    have e2 := h2.at hb (i := k) (j := j) (by omega) (by omega)
    rw [Int.natAbs_mul, Nat.pow_add]
    have := Nat.mul_lt_mul'' e1 e2
    omega
  have hs := sum_abs key
  rw [List.length_map, rng_len] at hs
  have hp : 0 < 2 ^ (A + B) := Nat.two_pow_pos _
  have : ((n : Int) - 0).toNat = n := by omega
  rw [this] at hs
  have h8 : n * (2 ^ (A + B) - 1) ≤ 8 * (2 ^ (A + B) - 1) := Nat.mul_le_mul_right _ hn
  have e : 2 ^ (A + B + 3) = 2 ^ (A + B) * 8 := by rw [Nat.pow_add]
  omega
theorem sq_mpow {n : Nat} {m : Mat} (h : Sq n m) : ∀ k, Sq n (mpow m k)
  | 0 => h
  | k + 1 => sq_mprod (sq_mpow h k)
theorem bd_mpow {n B : Nat} {m : Mat} (hn : n ≤ 8) (h : Sq n m) (hb : Bd B m) : ∀ k, Bd ((B + 3) * (k + 1)) (mpow m k)
  | 0 => fun r hr x hx => Nat.lt_of_lt_of_le (hb r hr x hx) (Nat.pow_le_pow_right (by decide) (by omega))
  | k + 1 => fun r hr x hx => by
    have := bd_mprod hn (sq_mpow h k) h (bd_mpow hn h hb k) hb r hr x hx
    have e : (B + 3) * (k + 1 + 1) = (B + 3) * (k + 1) + B + 3 := by rw [Nat.mul_add]; omega
    rw [e]; exact this
/-- how many closed ways of 1, 2, .. roads, behind a nought -/
def ways (m : Mat) (L : Nat) : List Int := 0 :: (List.range L).map fun k => mtr m.length (mpow m k)
def divs (n : Int) : List Int := (rng 1 (n + 1)).filter fun part => decide (n % part = 0)
/-- b tells the rounds gone once -/
structure Gau (m : Mat) (b : Int → Int) : Prop where
  eq : ∀ L : Nat, 1 ≤ L → L ≤ 60 → mtr m.length (mpow m (L - 1)) = ((divs L).map fun e => e * b e).sum
  bd : ∀ e : Int, 1 ≤ e → e ≤ 60 → (b e).natAbs < 2 ^ 10000
theorem mem_divs {n e : Int} : e ∈ divs n ↔ 1 ≤ e ∧ e ≤ n ∧ n % e = 0 := by
  unfold divs
  rw [List.mem_filter]
  constructor
  · rintro ⟨h1, h2⟩
    have := rng_mem h1
    exact ⟨by omega, by omega, by simpa using h2⟩
  · rintro ⟨h1, h2, h3⟩
    refine ⟨?_, by simpa using h3⟩
    unfold rng
    exact List.mem_map.mpr ⟨(e - 1).toNat, List.mem_range.mpr (by omega), by omega⟩
theorem rng_snoc {a b : Int} (h : a ≤ b) : rng a (b + 1) = rng a b ++ [b] := by
  unfold rng
  rw [show (b + 1 - a).toNat = (b - a).toNat + 1 by omega, List.range_succ, List.map_append]
  congr 1
  simp
  omega
theorem rng_split {a b c : Int} (h : a ≤ b) (h2 : b ≤ c) : rng a c = rng a b ++ rng b c := by
  obtain ⟨k, hk⟩ : ∃ k : Nat, c = b + k := ⟨(c - b).toNat, by omega⟩
  subst hk
  clear h2
  induction k with
  | zero => simp [rng]
  | succ k ih =>
    have e : b + ((k + 1 : Nat) : Int) = (b + k) + 1 := by omega
    rw [e, rng_snoc (by omega), ih, rng_snoc (a := b) (by omega), List.append_assoc]
theorem rng_rise {a b : Int} : (rng a b).Pairwise (· < ·) := by
  unfold rng
  rw [List.pairwise_map]
  exact List.pairwise_lt_range.imp fun h => by omega
/-- the divisors ahead of one of them, those that divide it: its own lesser divisors -/
theorem divs_pre {n x : Int} {pre suf : List Int} (h : divs n = pre ++ x :: suf) : (pre.filter fun part => decide (x % part = 0)) ++ [x] = divs x := by
  have hx : x ∈ divs n := by rw [h]; simp
  obtain ⟨x1, x2, x3⟩ := mem_divs.mp hx
  have hr : (divs n).Pairwise (· < ·) := rng_rise.filter _
  have e1 : divs n = ((rng 1 x).filter fun part => decide (n % part = 0)) ++ (x :: ((rng (x + 1) (n + 1)).filter fun part => decide (n % part = 0))) := by
    unfold divs
    rw [rng_split (a := 1) (b := x) (c := n + 1) (by omega) (by omega), rng_split (a := x) (b := x + 1) (c := n + 1) (by omega) (by omega), List.filter_append, List.filter_append]
    have : rng x (x + 1) = [x] := by rw [rng_snoc (by omega)]; simp [rng]
    rw [this]
    simp [x3]
  have key : ∀ (as bs cs ds : List Int), (as ++ x :: bs).Pairwise (· < ·) → (as ++ x :: bs) = (cs ++ x :: ds) → as = cs := fun as => by
    induction as with
    | nil =>
      intro bs cs ds hp he
      cases cs with
      | nil => rfl
      | cons c cs =>
        simp at he
        rw [List.nil_append, List.pairwise_cons] at hp
        have := hp.1 x (by rw [he.2]; simp)
        omega
    | cons a as ih =>
      intro bs cs ds hp he
      cases cs with
      | nil =>
        simp at he
        rw [List.cons_append, List.pairwise_cons] at hp
        have := hp.1 x (by simp)
        omega
      | cons c cs =>
        simp at he
        rw [List.cons_append, List.pairwise_cons] at hp
        rw [he.1, ih bs cs ds hp.2 he.2]
  have e2 : pre = (rng 1 x).filter fun part => decide (n % part = 0) := key _ _ _ _ (h ▸ hr) (h.symm.trans e1)
  rw [e2, List.filter_filter]
  unfold divs
  rw [rng_snoc (by omega), List.filter_append]
  congr 1
  · refine List.filter_congr fun e he => ?_
    have := rng_mem he
    by_cases h0 : x % e = 0
    · have : n % e = 0 := Int.emod_eq_zero_of_dvd (Int.dvd_trans (Int.dvd_of_emod_eq_zero h0) (Int.dvd_of_emod_eq_zero x3))
      simp [h0, this]
    · simp [h0]
  · simp
def reord (m : Mat) (order : List Int) : Mat := order.map fun place => order.map fun other => nth (nth m place) other
theorem rise_eq {n : Nat} {ys : List Int} (h : ys.Perm (rng 0 n)) (hp : ys.Pairwise (· ≤ ·)) : ys = rng 0 n :=
  h.eq_of_pairwise (fun a b _ _ h1 h2 => Int.le_antisymm h1 h2) hp (rng_rise.imp fun h => Int.le_of_lt h)
theorem lone_pre {L x e : Int} {pre suf : List Int} (h : divs L = pre ++ x :: suf) (he : e ∈ pre) : 1 ≤ e ∧ e < x := by
  have h1 : e ∈ divs L := by rw [h]; simp [he]
  have hr : (divs L).Pairwise (· < ·) := rng_rise.filter _
  rw [h, List.pairwise_append] at hr
  exact ⟨(mem_divs.mp h1).1, hr.2.2 e he x (by simp)⟩
theorem lone_get {b : Int → Int} {e : Int} : ∀ {es : List Int}, e ∈ es → getZ (es.map fun e => (e, b e)) e = some (b e)
  | d :: es, h => by
    unfold getZ
    rw [List.map_cons, List.find?_cons]
    by_cases hd : d = e
    · subst hd; simp
    · have hd' : decide (d = e) = false := by simp [hd]
      simp only [hd']
      exact lone_get (es := es) (by rcases List.mem_cons.mp h with z | z; exact absurd z.symm hd; exact z)
theorem hkey2 {b : Int → Int} {e : Int} {es : List Int} (h : e ∈ ((es.map fun e => (e, b e)).map (·.1))) : e ∈ es := by
  simpa [List.map_map] using h
theorem hkey {b : Int → Int} {e : Int} {es : List Int} (h : e ∈ ((es.map fun e => (e, b e)).map (·.1))) : ∃ d, d ∈ es ∧ e = d := ⟨e, hkey2 h, rfl⟩
theorem ways_at {m : Mat} {L : Int} (h : 1 ≤ L) : nth (ways m L.toNat) L = mtr m.length (mpow m (L.toNat - 1)) := by
  obtain ⟨k, hk⟩ : ∃ k : Nat, L.toNat = k + 1 := ⟨L.toNat - 1, by omega⟩
  unfold nth ways
  rw [hk]
  simp [List.getD_eq_getElem?_getD]
theorem ways_in {m : Mat} {L x : Int} (h : 1 ≤ x) (h2 : x ≤ L) : nth (ways m L.toNat) x = mtr m.length (mpow m (x.toNat - 1)) := by
  obtain ⟨k, hk⟩ : ∃ k : Nat, x.toNat = k + 1 := ⟨x.toNat - 1, by omega⟩
  have hlt : k < L.toNat := by omega
  unfold nth ways
  rw [hk]
  simp [List.getD_eq_getElem?_getD, hlt]
theorem lone_step {m : Mat} {b : Int → Int} {L x : Int} {pre suf : List Int} (hg : Gau m b) (hL : L ≤ 60) (hx : divs L = pre ++ x :: suf) :
    putZ (pre.map fun e => (e, b e)) x ((nth (ways m L.toNat) x - ((((pre.map fun e => (e, b e)).map (·.1)).filter fun y => decide (x % y = 0)).map fun y => y * b y).sum) / x) = (pre ++ [x]).map fun e => (e, b e) := by
  have hx1 : x ∈ divs L := by rw [hx]; simp
  obtain ⟨x1, x2, x3⟩ := mem_divs.mp hx1
  have hpre : ∀ e ∈ pre, 1 ≤ e ∧ e < x := fun e he => lone_pre hx he
  have e1 := hg.eq x.toNat (by omega) (by omega)
  rw [show ((x.toNat : Nat) : Int) = x by omega, ← divs_pre hx, List.map_append, List.sum_append] at e1
  rw [ways_in x1 x2, e1]
  have e2 : ((pre.map fun e => (e, b e)).map (·.1)) = pre := by rw [List.map_map]; exact List.map_id' pre
  rw [e2]
  have e3 : (((pre.filter fun part => decide (x % part = 0)).map fun e => e * b e).sum + ([x].map fun e => e * b e).sum - ((pre.filter fun y => decide (x % y = 0)).map fun y => y * b y).sum) = x * b x := by
    simp; omega
  rw [e3, Int.mul_ediv_cancel_left _ (by omega), putZ_new fun kv hkv => ?_, List.map_append]
  · rfl
  · obtain ⟨e, he, rfl⟩ := List.mem_map.mp hkv
    have := hpre e he
    show e ≠ x
    omega
section
variable {P : Program} {w : World} {K : PySem.W.Frag} {mg : Str → Option Value} {base : Heap} [BltG mg]
def S_is_whole (as as' : List Slot) (r : Res) : Prop := ∃ z : Int, as = [.imm RInt z] ∧ as' = as ∧ r = .imm RBool true
def S_is_from (as as' : List Slot) (r : Res) : Prop := ∃ z l : Int, as = [.imm RInt z, .imm RInt l] ∧ as' = as ∧ r = .imm RBool (decide (l ≤ z))
def S_is_square (as as' : List Slot) (r : Res) : Prop := ∃ (n : Nat) (m : Mat), Sq n m ∧ n ≤ 8 ∧ as = [.imm RWeb m, .imm RInt n] ∧ as' = as ∧ r = .imm RBool true
def S_product (as as' : List Slot) (r : Res) : Prop := ∃ (n : Nat) (one other : Mat) (A B : Nat), Sq n one ∧ Sq n other ∧ Bd A one ∧ Bd B other ∧ A + B ≤ 100000000 ∧ n ≤ 8 ∧ as = [.imm RWeb one, .imm RWeb other] ∧ as' = as ∧ r = .imm RWeb (mprod one other)
def S_is_web (as as' : List Slot) (r : Res) : Prop := ∃ (n : Nat) (m : Mat), Web n m ∧ as = [.imm RWeb m] ∧ as' = as ∧ r = .imm RBool true
def S_need_web (as as' : List Slot) (r : Res) : Prop := ∃ (n : Nat) (m : Mat), Web n m ∧ as = [.imm RWeb m] ∧ as' = as ∧ r = .imm RNon ()
def S_reordered (as as' : List Slot) (r : Res) : Prop := ∃ (n : Nat) (m : Mat) (order : List Int), Web n m ∧ order.Perm (rng 0 n) ∧ as = [.imm RWeb m, .imm RInts order] ∧ as' = as ∧ r = .imm RWeb (reord m order)
def S_need_length (as as' : List Slot) (r : Res) : Prop := ∃ z : Int, 1 ≤ z ∧ z ≤ 60 ∧ as = [.imm RInt z] ∧ as' = as ∧ r = .imm RNon ()
def S_ways_of (as as' : List Slot) (r : Res) : Prop := ∃ (n : Nat) (m : Mat) (L : Int) (B : Nat), Web n m ∧ Bd B m ∧ B ≤ 100000 ∧ 0 ≤ L ∧ L ≤ 60 ∧ as = [.imm RWeb m, .imm RInt L] ∧ as' = as ∧ r = .new (OL RInt) (ways m L.toNat)
def S_divisors (as as' : List Slot) (r : Res) : Prop := ∃ z : Int, 1 ≤ z ∧ z ≤ 60 ∧ as = [.imm RInt z] ∧ as' = as ∧ r = .new (OL RInt) (divs z)
def S_lone_by (as as' : List Slot) (r : Res) : Prop := ∃ (n : Nat) (m : Mat) (L : Int) (B : Nat) (b : Int → Int), Web n m ∧ Bd B m ∧ B ≤ 100000 ∧ Gau m b ∧ 1 ≤ L ∧ L ≤ 60 ∧ as = [.imm RWeb m, .imm RInt L] ∧ as' = as ∧ r = .new OD ((divs L).map fun e => (e, b e))
def S_closed_ways (as as' : List Slot) (r : Res) : Prop := ∃ (n : Nat) (m : Mat) (L : Int) (B : Nat), Web n m ∧ Bd B m ∧ B ≤ 100000 ∧ 1 ≤ L ∧ L ≤ 60 ∧ as = [.imm RWeb m, .imm RInt L] ∧ as' = as ∧ r = .imm RInt (mtr m.length (mpow m (L.toNat - 1)))
def S_many_rounds (as as' : List Slot) (r : Res) : Prop := ∃ (n : Nat) (m : Mat) (L : Int) (B : Nat) (b : Int → Int), Web n m ∧ Bd B m ∧ B ≤ 100000 ∧ Gau m b ∧ 1 ≤ L ∧ L ≤ 60 ∧ as = [.imm RWeb m, .imm RInt L] ∧ as' = as ∧ r = .imm RInt ((divs L).map b).sum
def S_lone_rounds (as as' : List Slot) (r : Res) : Prop := ∃ (n : Nat) (m : Mat) (L : Int) (B : Nat) (b : Int → Int), Web n m ∧ Bd B m ∧ B ≤ 100000 ∧ Gau m b ∧ 1 ≤ L ∧ L ≤ 60 ∧ as = [.imm RWeb m, .imm RInt L] ∧ as' = as ∧ r = .imm RInt (b L)

abbrev s_is_whole : Stmt := topS 6
abbrev n_is_whole : List Str := ["thing"]
theorem sc_is_whole : FnScope n_is_whole ["thing"] (defScope s_is_whole) := ⟨rfl, rfl, rfl, by decide +kernel, rfl, by decide +kernel, by decide +kernel⟩
theorem w_is_whole (F : FnM K mg "is_whole" s_is_whole ["thing"]) : Cal P w K mg base "is_whole" 1 1 S_is_whole := by
  refine fnM F sc_is_whole (fun as as' r hS => by obtain ⟨_, e, _⟩ := hS; rw [e]; rfl) (by decide) fun f cdv AA outer sh H E as as' r hr hFam hS => ?_
  obtain ⟨z, rfl, rfl, rfl⟩ := hS
  show DSs _ [.imm RInt z] _ _
  refine ret (dv_and (isi (v 0 rfl) Blt.int boot_int' (fun _ => rfl)) (fun hc => (dv_one (dv_not (isi (v 0 rfl) Blt.bool boot_bool' (fun _ => rfl)))))) ?_
  walk_at "ret1"
abbrev s_is_from : Stmt := topS 7
abbrev n_is_from : List Str := ["thing", "least"]
theorem sc_is_from : FnScope n_is_from ["thing", "least"] (defScope s_is_from) := ⟨rfl, rfl, rfl, by decide +kernel, rfl, by decide +kernel, by decide +kernel⟩
theorem w_is_from (F : FnM K mg "is_from" s_is_from ["thing", "least"]) (C_is_whole : Cal P w K mg base "is_whole" 1 1 S_is_whole) : Cal P w K mg base "is_from" 2 2 S_is_from := by
  refine fnM F sc_is_from (fun as as' r hS => by obtain ⟨_, _, e, _⟩ := hS; rw [e]; rfl) (by decide) fun f cdv AA outer sh H E as as' r hr hFam hS => ?_
  obtain ⟨z, l, rfl, rfl, rfl⟩ := hS
  show DSs _ [.imm RInt z, .imm RInt l] _ _
  refine ret (dv_and (cal (as := [.imm RInt _]) C_is_whole hr (by decide) (a1 (v 0 rfl) a0) (Imms.cons Imms.nil) rfl (by exact ⟨_, rfl, rfl, rfl⟩)) (fun hc => (dv_one (dv_ge (v 0 rfl) (v 1 rfl))))) ?_
  walk_at "ret"
abbrev s_is_square : Stmt := topS 8
abbrev n_is_square : List Str := ["thing", "many", "row", "number"]
theorem sc_is_square : FnScope n_is_square ["thing", "many"] (defScope s_is_square) := ⟨rfl, rfl, rfl, by decide +kernel, rfl, by decide +kernel, by decide +kernel⟩
theorem w_is_square (F : FnM K mg "is_square" s_is_square ["thing", "many"]) (C_is_whole : Cal P w K mg base "is_whole" 1 1 S_is_whole) : Cal P w K mg base "is_square" 2 2 S_is_square := by
  refine fnM F sc_is_square (fun as as' r hS => by obtain ⟨_, _, _, _, e, _⟩ := hS; rw [e]; rfl) (by decide) fun f cdv AA outer sh H E as as' r hr hFam hS => ?_
  obtain ⟨n, m, hm, hn, rfl, rfl, rfl⟩ := hS
  show DSs _ [.imm RWeb m, .imm RInt n, .any, .any] _ _
  refine iff (dw_dt (dw_or (dt_not (dt_val (isi (v 0 rfl) Blt.tuple boot_tuple' (fun _ => rfl)))) (fun hc => (dw_or1 (dt_neI (len (v 0 rfl) seenN_T) (v 1 rfl)))))) (fun hc => ?_) (fun hc => ?_)
  · exact absurd hc (by simp [hm.len])
  skip
  refine dss_nil ?_
  refine forE (fun pre => [.imm RWeb m, .imm RInt n, .any, .any]) (di_tup (v 0 rfl)) (by walk_at "wk") (fun pre x suf hx => ⟨_, _, (tgN 2 s2), ?_⟩) ?_
  · have hx1 : x.length = n := hm.row x (by rw [hx]; simp)
    refine iff (dw_dt (dw_or (dt_not (dt_val (isi (v 2 rfl) Blt.tuple boot_tuple' (fun _ => rfl)))) (fun hc => (dw_or (dt_neI (len (v 2 rfl) seenN_T) (v 1 rfl)) (fun hc => (dw_or1 (dt_not (dt_val (allV (lcV (lcm [("number", 3)] (di_tup (v 2 rfl)) (by walk_at "lclen") fun y3 hy3 => ⟨_, _, _, by decide, (tgN 3 s3), (cal (as := [.imm RInt _]) C_is_whole hr (by decide) (a1 (v 3 rfl) a0) (Imms.cons Imms.nil) rfl (by exact ⟨_, rfl, rfl, rfl⟩)), (SetAt.wk s3 rfl)⟩)) seen_new))))))))) (fun hc => ?_) (fun hc => ?_)
    · exact absurd hc (by simp [hx1])
    skip
    refine dss_nil ?_
    skip
    exact dss_nil (by walk_at "wk")
  refine ret dv_bool ?_
  walk_at "ret"
abbrev s_product : Stmt := topS 9
abbrev n_product : List Str := ["one", "other", "size", "found", "row", "j", "k"]
theorem sc_product : FnScope n_product ["one", "other"] (defScope s_product) := ⟨rfl, rfl, rfl, by decide +kernel, rfl, by decide +kernel, by decide +kernel⟩
theorem w_product (F : FnM K mg "product" s_product ["one", "other"]) : Cal P w K mg base "product" 2 1 S_product := by
  refine fnM F sc_product (fun as as' r hS => by obtain ⟨_, _, _, _, _, _, _, _, _, _, _, e, _⟩ := hS; rw [e]; rfl) (by decide) fun f cdv AA outer sh H E as as' r hr hFam hS => ?_
  obtain ⟨n, one, other, A, B, h1, h2, b1, b2, hAB, hn, rfl, rfl, rfl⟩ := hS
  have hl1 := h1.len; have hl2 := h2.len
  show DSs _ [.imm RWeb one, .imm RWeb other, .any, .any, .any, .any, .any] _ _
  refine asg 2 (dv_fz (listRg1 (len (v 0 rfl) seenN_T) (by walk_at "rg"))) s2 ?_
  refine asgN 3 (dv_lst (R := (RT RInt)) (xs := []) a0 (Nat.le_of_ble_eq_true rfl)) (fun _ => s3) fun p3 => ?_
  refine forE (fun pre => [.imm RWeb one, .imm RWeb other, .imm (RL RInt) (rng 0 one.length), .own p3 (OL RInts) (pre.map fun row => (rng 0 one.length).map fun j => ((rng 0 one.length).map fun k => nth row k * nth (nth other k) j).sum), .any, .any, .any]) (di_tup (v 0 rfl)) (by walk_at "wk") (fun pre x suf hx => ⟨_, _, (tgN 4 s4), ?_⟩) ?_
  · have hx1 : x ∈ one := by rw [hx]; simp
    have hx2 : x.length = n := h1.row x hx1
    have hx3 : pre.length < one.length := by rw [hx]; simp
    refine ex (app 3 (vO 3 rfl) (tuple (lcV (lcm [("j", 5)] (di_list (v 2 rfl)) (by walk_at "lclen") fun y5 hy5 => ⟨_, _, _, by decide, (tgN 5 s5), (sum (lcV (lcm [("k", 6)] (di_list (v 2 rfl)) (by walk_at "lclen") fun y6 hy6 => ⟨_, _, _, by decide, (tgN 6 s6), (dv_mul (ix (v 4 rfl) (v 6 rfl) (ix_T (nth_ok (by have h5 := rng_mem hy5; have h6 := rng_mem hy6; omega)))) (ix (ix (v 1 rfl) (v 6 rfl) (ix_T (nth_ok (by have h5 := rng_mem hy5; have h6 := rng_mem hy6; omega)))) (v 5 rfl) (ix_T (nth_ok (by rw [h2.at (by have h5 := rng_mem hy5; have h6 := rng_mem hy6; omega)]; have h5 := rng_mem hy5; have h6 := rng_mem hy6; omega)))) (by exact mulx_ok (b1 x hx1 _ (nth_mem (by have h5 := rng_mem hy5; have h6 := rng_mem hy6; omega))) (b2.at h2 (by have h5 := rng_mem hy5; have h6 := rng_mem hy6; omega) (by have h5 := rng_mem hy5; have h6 := rng_mem hy6; omega)) (by omega))), (SetAt.wk s6 rfl)⟩)) seen_new), (SetAt.wk s5 rfl)⟩)) (seenS_L seen_new)) rfl rfl (by walk_at "app") s3) ?_
    exact dss_nil (.keep (.keep (.keep (.own (by simp) (.forget (.keep (.keep .nil)))))))
  refine ret (tuple (vO 3 rfl) (seenS_L (seen_view 3 rfl))) ?_
  walk_at "ret"
abbrev s_is_web : Stmt := topS 12
abbrev n_is_web : List Str := ["thing", "row"]
theorem sc_is_web : FnScope n_is_web ["thing"] (defScope s_is_web) := ⟨rfl, rfl, rfl, by decide +kernel, rfl, by decide +kernel, by decide +kernel⟩
theorem w_is_web (F : FnM K mg "is_web" s_is_web ["thing"]) (C_is_square : Cal P w K mg base "is_square" 2 2 S_is_square) (hMP : ∃ t, mg "MOST_PLACES" = some (.int 8 t)) : Cal P w K mg base "is_web" 1 3 S_is_web := by
  refine fnM F sc_is_web (fun as as' r hS => by obtain ⟨_, _, _, e, _⟩ := hS; rw [e]; rfl) (by decide) fun f cdv AA outer sh H E as as' r hr hFam hS => ?_
  obtain ⟨n, m, hm, rfl, rfl, rfl⟩ := hS
  obtain ⟨t, hMP⟩ := hMP
  have hl := hm.len; have h1 := hm.n1; have h8 := hm.n8
  show DSs _ [.imm RWeb m, .any] _ _
  refine iff (dw_dt (dw_or (dt_not (dt_val (isi (v 0 rfl) Blt.tuple boot_tuple' (fun _ => rfl)))) (fun hc => (dw_or (dt_not (chainLeT dv_int (len (v 0 rfl) seenN_T) (glob (R := RInt) (z := 8) (v := .int 8) hMP ⟨_, rfl⟩ (fun _ => rfl)))) (fun hc => (dw_or1 (dt_not (dt_val (cal (as := [.imm (RT (RT RInt)) _, .imm RInt _]) C_is_square hr (by decide) (a1 (v 0 rfl) (a1 (len (v 0 rfl) seenN_T) a0)) (Imms.cons (Imms.cons Imms.nil)) rfl (by exact ⟨_, _, hm.toSq, hm.n8, by rw [← hl], rfl, rfl⟩)))))))))) (fun hc => ?_) (fun hc => ?_)
  · exact absurd hc (by simp [hl]; omega)
  skip
  refine dss_nil ?_
  refine ret (allV (lcV (lcm [("row", 1)] (di_tup (v 0 rfl)) (by walk_at "lclen") fun y1 hy1 => ⟨_, _, _, by decide, (tgN 1 s1), (dv_ge (minT (v 1 rfl) (by intro h; have := hm.row _ hy1; rw [h] at this; simp at this; omega)) dv_int), (SetAt.wk s1 rfl)⟩)) seen_new) ?_
  refine ⟨.imm .nil, ?_⟩
  rw [show (List.map (fun row => decide (0 ≤ minZ row)) m).all id = true from by
    rw [List.all_map, List.all_eq_true]
    intro r hr
    have hne : r ≠ [] := fun h => by have := hm.row r hr; rw [h] at this; simp at this; omega
    simpa using hm.pos r hr _ (minZ_mem hne)]
  exact .same
abbrev s_need_web : Stmt := topS 13
abbrev n_need_web : List Str := ["web"]
theorem sc_need_web : FnScope n_need_web ["web"] (defScope s_need_web) := ⟨rfl, rfl, rfl, by decide +kernel, rfl, by decide +kernel, by decide +kernel⟩
theorem w_need_web (F : FnM K mg "need_web" s_need_web ["web"]) (C_is_web : Cal P w K mg base "is_web" 1 3 S_is_web) : Cal P w K mg base "need_web" 1 4 S_need_web := by
  refine fnM F sc_need_web (fun as as' r hS => by obtain ⟨_, _, _, e, _⟩ := hS; rw [e]; rfl) (by decide) fun f cdv AA outer sh H E as as' r hr hFam hS => ?_
  obtain ⟨n, m, hm, rfl, rfl, rfl⟩ := hS
  show DSs _ [.imm RWeb m] _ _
  refine iff (dt_not (dt_val (cal (as := [.imm (RT (RT RInt)) _]) C_is_web hr (by decide) (a1 (v 0 rfl) a0) (Imms.cons Imms.nil) rfl (by exact ⟨_, _, hm, rfl, rfl, rfl⟩)))) (fun hc => ?_) (fun hc => ?_)
  · exact absurd hc (by simp)
  skip
  refine dss_nil ?_
  exact dss_nil ⟨.imm .nil, .same⟩
abbrev s_reordered : Stmt := topS 14
abbrev n_reordered : List Str := ["web", "order", "place", "other"]
theorem sc_reordered : FnScope n_reordered ["web", "order"] (defScope s_reordered) := ⟨rfl, rfl, rfl, by decide +kernel, rfl, by decide +kernel, by decide +kernel⟩
theorem w_reordered (F : FnM K mg "reordered" s_reordered ["web", "order"]) (C_need_web : Cal P w K mg base "need_web" 1 4 S_need_web) (C_is_whole : Cal P w K mg base "is_whole" 1 1 S_is_whole) : Cal P w K mg base "reordered" 2 5 S_reordered := by
  refine fnM F sc_reordered (fun as as' r hS => by obtain ⟨_, _, _, _, _, e, _⟩ := hS; rw [e]; rfl) (by decide) fun f cdv AA outer sh H E as as' r hr hFam hS => ?_
  obtain ⟨n, m, order, hm, ho, rfl, rfl, rfl⟩ := hS
  have hl := hm.len; have h1 := hm.n1; have h8 := hm.n8
  have hol : order.length = n := by have := ho.length_eq; rw [rng_len] at this; omega
  have hin : ∀ x ∈ order, 0 ≤ x ∧ x < n := fun x hx => rng_mem (ho.mem_iff.mp hx)
  show DSs _ [.imm RWeb m, .imm RInts order, .any, .any] _ _
  refine ex (cal (as := [.imm (RT (RT RInt)) _]) C_need_web hr (by decide) (a1 (v 0 rfl) a0) (Imms.cons Imms.nil) rfl (by exact ⟨_, _, hm, rfl, rfl, rfl⟩)) ?_
  refine iff (dw_dt (dw_or (dt_not (dt_val (isi (v 1 rfl) Blt.tuple boot_tuple' (fun _ => rfl)))) (fun hc => (dw_or1 (dt_not (dt_val (allV (lcV (lcm [("place", 2)] (di_tup (v 1 rfl)) (by walk_at "lclen") fun y2 hy2 => ⟨_, _, _, by decide, (tgN 2 s2), (cal (as := [.imm RInt _]) C_is_whole hr (by decide) (a1 (v 2 rfl) a0) (Imms.cons Imms.nil) rfl (by exact ⟨_, rfl, rfl, rfl⟩)), (SetAt.wk s2 rfl)⟩)) seen_new))))))) (fun hc => ?_) (fun hc => ?_)
  · exact absurd hc (by simp)
  skip
  refine dss_nil ?_
  refine iff (neT (sortT (v 1 rfl) (by omega) (by exact fun ys h2 h3 => rise_eq (h2.trans ho) h3)) (listRg1 (len (v 0 rfl) seenN_T) (by walk_at "rg")) (ne_D (seenD_list seen_new) (seenD_list seen_new) (by exact shaped_ints _) (by exact shaped_ints _))) (fun hc => ?_) (fun hc => ?_)
  · exact absurd hc (by rw [eqv_ints]; simp [hl])
  skip
  refine dss_nil ?_
  refine ret (tuple (lcV (lcm [("place", 2)] (di_tup (v 1 rfl)) (by walk_at "lclen") fun y2 hy2 => ⟨_, _, _, by decide, (tgN 2 s2), (tuple (lcV (lcm [("other", 3)] (di_tup (v 1 rfl)) (by walk_at "lclen") fun y3 hy3 => ⟨_, _, _, by decide, (tgN 3 s3), (ix (ix (v 0 rfl) (v 2 rfl) (ix_T (nth_ok (by first | (have := hin _ hy2; omega) | (rw [hm.at (hin _ hy2)]; exact hin _ hy3) | skip)))) (v 3 rfl) (ix_T (nth_ok (by first | (have := hin _ hy2; omega) | (rw [hm.at (hin _ hy2)]; exact hin _ hy3) | skip)))), (SetAt.wk s3 rfl)⟩)) (seenS_L seen_new)), (SetAt.wk s2 rfl)⟩)) (seenS_L seen_new)) ?_
  exact ⟨.imm (.imm .nil), .same⟩
abbrev s_need_length : Stmt := topS 17
abbrev n_need_length : List Str := ["length"]
theorem sc_need_length : FnScope n_need_length ["length"] (defScope s_need_length) := ⟨rfl, rfl, rfl, by decide +kernel, rfl, by decide +kernel, by decide +kernel⟩
theorem w_need_length (F : FnM K mg "need_length" s_need_length ["length"]) (C_is_from : Cal P w K mg base "is_from" 2 2 S_is_from) (hMP : ∃ t, mg "FARTHEST" = some (.int 60 t)) : Cal P w K mg base "need_length" 1 3 S_need_length := by
  refine fnM F sc_need_length (fun as as' r hS => by obtain ⟨_, _, _, e, _⟩ := hS; rw [e]; rfl) (by decide) fun f cdv AA outer sh H E as as' r hr hFam hS => ?_
  obtain ⟨z, h1, h2, rfl, rfl, rfl⟩ := hS
  obtain ⟨t, hMP⟩ := hMP
  show DSs _ [.imm RInt z] _ _
  refine iff (dw_dt (dw_or (dt_not (dt_val (cal (as := [.imm RInt _, .imm RInt _]) C_is_from hr (by decide) (a1 (v 0 rfl) (a1 dv_int a0)) (Imms.cons (Imms.cons Imms.nil)) rfl (by exact ⟨_, _, rfl, rfl, rfl⟩)))) (fun hc => (dw_or1 (dt_gt (v 0 rfl) (glob (R := RInt) (z := 60) (v := .int 60) hMP ⟨_, rfl⟩ (fun _ => rfl))))))) (fun hc => ?_) (fun hc => ?_)
  · exact absurd hc (by simp; omega)
  skip
  refine dss_nil ?_
  exact dss_nil ⟨.imm .nil, .same⟩
abbrev s_ways_of : Stmt := topS 18
abbrev n_ways_of : List Str := ["web", "length", "found", "here", "turn", "place"]
theorem sc_ways_of : FnScope n_ways_of ["web", "length"] (defScope s_ways_of) := ⟨rfl, rfl, rfl, by decide +kernel, rfl, by decide +kernel, by decide +kernel⟩
theorem w_ways_of (F : FnM K mg "ways_of" s_ways_of ["web", "length"]) (C_product : Cal P w K mg base "product" 2 1 S_product) : Cal P w K mg base "ways_of" 2 2 S_ways_of := by
  refine fnM F sc_ways_of (fun as as' r hS => by obtain ⟨_, _, _, _, _, _, _, _, _, e, _⟩ := hS; rw [e]; rfl) (by decide) fun f cdv AA outer sh H E as as' r hr hFam hS => ?_
  obtain ⟨n, m, L, B, hm, hb, hB, hL0, hL, rfl, rfl, rfl⟩ := hS
  have hl := hm.len; have h8 := hm.n8
  show DSs _ [.imm RWeb m, .imm RInt L, .any, .any, .any, .any] _ _
  refine asgN 2 (dv_lst (R := RInt) (xs := [_]) (a1 dv_int a0) (Nat.le_of_ble_eq_true rfl)) (fun _ => s2) fun p2 => ?_
  refine asg 3 (v 0 rfl) s3 ?_
  refine forE (fun pre => [.imm RWeb m, .imm RInt L, .own p2 (OL RInt) (ways m pre.length), .imm RWeb (mpow m pre.length), .any, .any]) (rg1 (v 1 rfl) (by walk_at "rg")) (by walk_at "wk") (fun pre x suf hx => ⟨_, _, (tgN 4 s4), ?_⟩) ?_
  · have hx3 : pre.length + (suf.length + 1) = L.toNat := by have := congrArg List.length hx; rw [rng_len] at this; simp at this; omega
    have hsq := sq_mpow hm.toSq pre.length; have hql := hsq.len
    refine ex (app 2 (vO 2 rfl) (sum (lcV (lcm [("place", 5)] (rg1 (len (v 0 rfl) seenN_T) (by walk_at "rg")) (by walk_at "lclen") fun y5 hy5 => ⟨_, _, _, by decide, (tgN 5 s5), (ix (ix (v 3 rfl) (v 5 rfl) (ix_T (nth_ok (by first | (have := rng_mem hy5; omega) | (rw [hsq.at (by have := rng_mem hy5; omega)]; have := rng_mem hy5; omega) | skip)))) (v 5 rfl) (ix_T (nth_ok (by first | (have := rng_mem hy5; omega) | (rw [hsq.at (by have := rng_mem hy5; omega)]; have := rng_mem hy5; omega) | skip)))), (SetAt.wk s5 rfl)⟩)) seen_new) rfl rfl (by simp [ways]; omega) s2) ?_
    refine asg 3 (cal (as := [.imm (RT (RT RInt)) _, .imm (RT (RT RInt)) _]) C_product hr (by decide) (a1 (v 3 rfl) (a1 (v 0 rfl) a0)) (Imms.cons (Imms.cons Imms.nil)) rfl (by exact ⟨n, _, _, (B + 3) * (pre.length + 1), B, hsq, hm.toSq, bd_mpow h8 hm.toSq hb _, hb, by have : (B + 3) * (pre.length + 1) ≤ (B + 3) * 61 := Nat.mul_le_mul_left _ (by omega); omega, h8, rfl, rfl, rfl⟩)) s3 ?_
    exact dss_nil (.keep (.keep (.own (by
      rw [List.length_append]
      show _ = ways m (pre.length + 1)
      unfold ways mtr
      rw [List.range_succ, List.map_append]; rfl) (.imm (by simp [mpow]) (.forget (.keep .nil))))))
  refine ret (vO 2 rfl) ?_
  rw [rng_len, show (L - 0).toNat = L.toNat by omega]
  exact ⟨.imm (.imm .nil), .out 2 rfl (fun i p' β S y h => by rcases i with _|_|i <;> simp at h)⟩
abbrev s_divisors : Stmt := topS 19
abbrev n_divisors : List Str := ["number", "part"]
theorem sc_divisors : FnScope n_divisors ["number"] (defScope s_divisors) := ⟨rfl, rfl, rfl, by decide +kernel, rfl, by decide +kernel, by decide +kernel⟩
theorem w_divisors (F : FnM K mg "divisors" s_divisors ["number"]) : Cal P w K mg base "divisors" 1 1 S_divisors := by
  refine fnM F sc_divisors (fun as as' r hS => by obtain ⟨_, _, _, e, _⟩ := hS; rw [e]; rfl) (by decide) fun f cdv AA outer sh H E as as' r hr hFam hS => ?_
  obtain ⟨z, h1, h2, rfl, rfl, rfl⟩ := hS
  show DSs _ [.imm RInt z, .any] _ _
  refine ret (lcV (lcf [("part", 1)] (rg2 dv_int (dv_add (v 0 rfl) dv_int) (by walk_at "rg")) (by walk_at "lclen") fun y1 hy1 => ⟨_, _, _, _, by decide, (tgN 1 s1), (dt_eqI (dv_mod (v 0 rfl) (v 1 rfl) (by have := rng_mem hy1; omega)) dv_int), (v 1 rfl), (SetAt.wk s1 rfl), (SetAt.wk s1 rfl)⟩)) ?_
  refine ⟨.imm .nil, ?_⟩
  rw [List.map_id']
  exact .same
abbrev s_lone_by : Stmt := topS 20
abbrev n_lone_by : List Str := ["web", "length", "ways", "lone", "size", "shorter", "part"]
theorem sc_lone_by : FnScope n_lone_by ["web", "length"] (defScope s_lone_by) := ⟨rfl, rfl, rfl, by decide +kernel, rfl, by decide +kernel, by decide +kernel⟩
theorem w_lone_by (F : FnM K mg "lone_by" s_lone_by ["web", "length"]) (C_ways_of : Cal P w K mg base "ways_of" 2 2 S_ways_of) (C_divisors : Cal P w K mg base "divisors" 1 1 S_divisors) : Cal P w K mg base "lone_by" 2 3 S_lone_by := by
  refine fnM F sc_lone_by (fun as as' r hS => by obtain ⟨_, _, _, _, _, _, _, _, _, _, _, e, _⟩ := hS; rw [e]; rfl) (by decide) fun f cdv AA outer sh H E as as' r hr hFam hS => ?_
  obtain ⟨n, m, L, B, b, hm, hb, hB, hg, hL0, hL, rfl, rfl, rfl⟩ := hS
  have hl := hm.len; have h8 := hm.n8
  show DSs _ [.imm RWeb m, .imm RInt L, .any, .any, .any, .any, .any] _ _
  refine asg 2 (dv_fz (cal (as := [.imm (RT (RT RInt)) _, .imm RInt _]) C_ways_of hr (by decide) (a1 (v 0 rfl) (a1 (v 1 rfl) a0)) (Imms.cons (Imms.cons Imms.nil)) rfl (by exact ⟨n, m, L, B, hm, hb, hB, by omega, hL, rfl, rfl, rfl⟩))) s2 ?_
  refine asgN 3 newD (fun _ => s3) fun p3 => ?_
  refine forE (fun pre => [.imm RWeb m, .imm RInt L, .imm (RL RInt) (ways m L.toNat), .own p3 OD (pre.map fun e => (e, b e)), .any, .any, .any]) (di_new (cal (as := [.imm RInt _]) C_divisors hr (by decide) (a1 (v 1 rfl) a0) (Imms.cons Imms.nil) rfl (by exact ⟨L, hL0, hL, rfl, rfl, rfl⟩))) (by walk_at "wk") (fun pre x suf hx => ⟨_, _, (tgN 4 s4), ?_⟩) ?_
  · have hx1 : x ∈ divs L := by rw [hx]; simp
    obtain ⟨x1, x2, x3⟩ := mem_divs.mp hx1
    have hpre : ∀ e ∈ pre, 1 ≤ e ∧ e < x := fun e he => lone_pre hx he
    have hln : pre.length ≤ 60 := by have := congrArg List.length hx; have h3 := List.length_filter_le (fun part => decide (L % part = 0)) (rng 1 (L + 1)); rw [rng_len] at h3; unfold divs at this; simp at this; omega
    refine asg 5 (dv_lock (i := 3) rfl (fun j p' γ T y h => by rcases j with _|_|_|_|_|_|_|j <;> first | rfl | (simp at h)) s3 (sum (lcV (lcf [("part", 6)] (di_keys (v 3 rfl)) (by simp; omega) fun y6 hy6 => ⟨_, _, _, _, by decide, (tgN 6 s6), (dt_eqI (dv_mod (v 4 rfl) (v 6 rfl) (by obtain ⟨e, he, rfl⟩ := hkey hy6; have := hpre _ he; omega)) dv_int), (dv_mul (v 6 rfl) (ixD (v 3 rfl) (v 6 rfl) seenDc_imm (by exact lone_get (hkey2 hy6))) (by exact mulx_ok (a := 64) (b := 10000) (by have := hpre _ (hkey2 hy6); have h64 : (60:Nat) < 2^64 := (by decide); omega) (hg.bd _ (by have := hpre _ (hkey2 hy6); omega) (by have := hpre _ (hkey2 hy6); omega)) (by decide))), (SetAt.wk s6 rfl), (SetAt.wk s6 rfl)⟩)) seen_new)) s5 ?_
    refine setD 3 (dv_fdiv (dv_sub (ix (v 2 rfl) (v 4 rfl) (ix_L seen_imm (nth_ok (by simp [ways]; omega)))) (v 5 rfl)) (v 4 rfl) (by exact wide_div (b := 6) (by omega) (by omega) (by decide) (by decide))) (vO 3 rfl) (v 4 rfl) rfl (by simp; omega) s3 ?_
    exact dss_nil (.keep (.keep (.keep (.own (lone_step hg hL hx) (.forget (.forget (.keep .nil)))))))
  refine ret (vO 3 rfl) ?_
  exact ⟨.imm (.imm .nil), .out 3 rfl (fun i p' β S y h => by rcases i with _|_|i <;> simp at h)⟩
abbrev s_closed_ways : Stmt := topS 21
abbrev n_closed_ways : List Str := ["web", "length"]
theorem sc_closed_ways : FnScope n_closed_ways ["web", "length"] (defScope s_closed_ways) := ⟨rfl, rfl, rfl, by decide +kernel, rfl, by decide +kernel, by decide +kernel⟩
theorem w_closed_ways (F : FnM K mg "closed_ways" s_closed_ways ["web", "length"]) (C_need_web : Cal P w K mg base "need_web" 1 4 S_need_web) (C_need_length : Cal P w K mg base "need_length" 1 3 S_need_length) (C_ways_of : Cal P w K mg base "ways_of" 2 2 S_ways_of) : Cal P w K mg base "closed_ways" 2 5 S_closed_ways := by
  refine fnM F sc_closed_ways (fun as as' r hS => by obtain ⟨_, _, _, _, _, _, _, _, _, e, _⟩ := hS; rw [e]; rfl) (by decide) fun f cdv AA outer sh H E as as' r hr hFam hS => ?_
  obtain ⟨n, m, L, B, hm, hb, hB, hL0, hL, rfl, rfl, rfl⟩ := hS
  show DSs _ [.imm RWeb m, .imm RInt L] _ _
  refine ex (cal (as := [.imm (RT (RT RInt)) _]) C_need_web hr (by decide) (a1 (v 0 rfl) a0) (Imms.cons Imms.nil) rfl (by exact ⟨_, _, hm, rfl, rfl, rfl⟩)) ?_
  refine ex (cal (as := [.imm RInt _]) C_need_length hr (by decide) (a1 (v 1 rfl) a0) (Imms.cons Imms.nil) rfl (by exact ⟨L, hL0, hL, rfl, rfl, rfl⟩)) ?_
  refine ret (ix (cal (as := [.imm (RT (RT RInt)) _, .imm RInt _]) C_ways_of hr (by decide) (a1 (v 0 rfl) (a1 (v 1 rfl) a0)) (Imms.cons (Imms.cons Imms.nil)) rfl (by exact ⟨n, m, L, B, hm, hb, hB, by omega, hL, rfl, rfl, rfl⟩)) (v 1 rfl) (ix_L seen_new (nth_ok (by simp [ways]; omega)))) ?_
  rw [ways_at hL0]
  exact ⟨.imm (.imm .nil), .same⟩
abbrev s_many_rounds : Stmt := topS 22
abbrev n_many_rounds : List Str := ["web", "length"]
theorem sc_many_rounds : FnScope n_many_rounds ["web", "length"] (defScope s_many_rounds) := ⟨rfl, rfl, rfl, by decide +kernel, rfl, by decide +kernel, by decide +kernel⟩
theorem w_many_rounds (F : FnM K mg "many_rounds" s_many_rounds ["web", "length"]) (C_need_web : Cal P w K mg base "need_web" 1 4 S_need_web) (C_need_length : Cal P w K mg base "need_length" 1 3 S_need_length) (C_lone_by : Cal P w K mg base "lone_by" 2 3 S_lone_by) : Cal P w K mg base "many_rounds" 2 5 S_many_rounds := by
  refine fnM F sc_many_rounds (fun as as' r hS => by obtain ⟨_, _, _, _, _, _, _, _, _, _, _, e, _⟩ := hS; rw [e]; rfl) (by decide) fun f cdv AA outer sh H E as as' r hr hFam hS => ?_
  obtain ⟨n, m, L, B, b, hm, hb, hB, hg, hL0, hL, rfl, rfl, rfl⟩ := hS
  show DSs _ [.imm RWeb m, .imm RInt L] _ _
  refine ex (cal (as := [.imm (RT (RT RInt)) _]) C_need_web hr (by decide) (a1 (v 0 rfl) a0) (Imms.cons Imms.nil) rfl (by exact ⟨_, _, hm, rfl, rfl, rfl⟩)) ?_
  refine ex (cal (as := [.imm RInt _]) C_need_length hr (by decide) (a1 (v 1 rfl) a0) (Imms.cons Imms.nil) rfl (by exact ⟨L, hL0, hL, rfl, rfl, rfl⟩)) ?_
  refine ret (sumV (cal (as := [.imm (RT (RT RInt)) _, .imm RInt _]) C_lone_by hr (by decide) (a1 (v 0 rfl) (a1 (v 1 rfl) a0)) (Imms.cons (Imms.cons Imms.nil)) rfl (by exact ⟨n, m, L, B, b, hm, hb, hB, hg, hL0, hL, rfl, rfl, rfl⟩))) ?_
  rw [List.map_map]
  exact ⟨.imm (.imm .nil), .same⟩
abbrev s_lone_rounds : Stmt := topS 23
abbrev n_lone_rounds : List Str := ["web", "length"]
theorem sc_lone_rounds : FnScope n_lone_rounds ["web", "length"] (defScope s_lone_rounds) := ⟨rfl, rfl, rfl, by decide +kernel, rfl, by decide +kernel, by decide +kernel⟩
theorem w_lone_rounds (F : FnM K mg "lone_rounds" s_lone_rounds ["web", "length"]) (C_need_web : Cal P w K mg base "need_web" 1 4 S_need_web) (C_need_length : Cal P w K mg base "need_length" 1 3 S_need_length) (C_lone_by : Cal P w K mg base "lone_by" 2 3 S_lone_by) : Cal P w K mg base "lone_rounds" 2 5 S_lone_rounds := by
  refine fnM F sc_lone_rounds (fun as as' r hS => by obtain ⟨_, _, _, _, _, _, _, _, _, _, _, e, _⟩ := hS; rw [e]; rfl) (by decide) fun f cdv AA outer sh H E as as' r hr hFam hS => ?_
  obtain ⟨n, m, L, B, b, hm, hb, hB, hg, hL0, hL, rfl, rfl, rfl⟩ := hS
  show DSs _ [.imm RWeb m, .imm RInt L] _ _
  refine ex (cal (as := [.imm (RT (RT RInt)) _]) C_need_web hr (by decide) (a1 (v 0 rfl) a0) (Imms.cons Imms.nil) rfl (by exact ⟨_, _, hm, rfl, rfl, rfl⟩)) ?_
  refine ex (cal (as := [.imm RInt _]) C_need_length hr (by decide) (a1 (v 1 rfl) a0) (Imms.cons Imms.nil) rfl (by exact ⟨L, hL0, hL, rfl, rfl, rfl⟩)) ?_
  refine ret (ixD (cal (as := [.imm (RT (RT RInt)) _, .imm RInt _]) C_lone_by hr (by decide) (a1 (v 0 rfl) (a1 (v 1 rfl) a0)) (Imms.cons (Imms.cons Imms.nil)) rfl (by exact ⟨n, m, L, B, b, hm, hb, hB, hg, hL0, hL, rfl, rfl, rfl⟩)) (v 1 rfl) seenDc_new (by exact lone_get (mem_divs.mpr ⟨hL0, Int.le_refl _, Int.emod_self⟩))) ?_
  exact ⟨.imm (.imm .nil), .same⟩
end
end PD

set_option Elab.async false
set_option linter.all false
set_option maxRecDepth 100000
set_option maxHeartbeats 4000000
namespace PD
open PySem L2
local macro_rules | `(tactic| walk_at "ret") => `(tactic| exact ⟨.imm (.imm .nil), .same⟩)
local macro_rules | `(tactic| walk_at "ret1") => `(tactic| exact ⟨.imm .nil, .same⟩)
local macro_rules | `(tactic| walk_at "wk") => `(tactic| repeat (first | exact Wk.nil | refine Wk.keep ?_ | refine Wk.forget ?_))
local macro_rules | `(tactic| walk_at "lclen") => `(tactic| ((try simp only [rng_len, List.length_map]); omega))
local macro_rules | `(tactic| walk_at "rg") => `(tactic| omega)
local macro_rules | `(tactic| walk_at "app") => `(tactic| (simp; omega))
/-! ### the pen -/
def primes : List Int := [2147483629, 2147483587, 2147483579, 2147483563, 2147483549, 2147483543, 2147483497] ++ [2147483489, 2147483477, 2147483423, 2147483399, 2147483353, 2147483323]
theorem primes_in {i : Int} (h : 0 ≤ i ∧ i < 13) : 0 < nth primes i ∧ nth primes i < 2147483648 := by
  have hm : nth primes i ∈ primes := nth_mem (by show 0 ≤ i ∧ i < ((13 : Nat) : Int); omega)
  have : ∀ p ∈ primes, 0 < p ∧ p < 2147483648 := by decide
  exact this _ hm
def mixed (cell a : Int) : Int := cell % 1000000007 * (2 * a + 69069) + a * 40503 + 977
def spOne (cell a : Int) : Int := mixed cell a ^ (3 : Int).toNat % nth primes (a % 13)
def spTwo (cell a : Int) : Int := (spOne cell a * (a + 3) + cell % 65537 + 5) ^ (5 : Int).toNat % nth primes ((a + 5) % 13)
def spThree (cell a : Int) : Int := (spTwo cell a + spOne cell a % 1009 + a) ^ (3 : Int).toNat % nth primes ((a + 7) % 13)
def spread (cell a : Int) : Int := if (10 : Int) ^ (18 : Int).toNat ≤ cell then cell else (spOne cell a * 2147483647 + spTwo cell a) * 2147483647 + spThree cell a
theorem spOne_in {cell a : Int} : 0 ≤ spOne cell a ∧ spOne cell a < 2147483648 := by
  have h := primes_in (i := a % 13) ⟨Int.emod_nonneg _ (by decide), Int.emod_lt_of_pos _ (by decide)⟩
  exact ⟨Int.emod_nonneg _ (by omega), Int.lt_trans (Int.emod_lt_of_pos _ h.1) h.2⟩
theorem spTwo_in {cell a : Int} : 0 ≤ spTwo cell a ∧ spTwo cell a < 2147483648 := by
  have h := primes_in (i := (a + 5) % 13) ⟨Int.emod_nonneg _ (by decide), Int.emod_lt_of_pos _ (by decide)⟩
  exact ⟨Int.emod_nonneg _ (by omega), Int.lt_trans (Int.emod_lt_of_pos _ h.1) h.2⟩
theorem spThree_in {cell a : Int} : 0 ≤ spThree cell a ∧ spThree cell a < 2147483648 := by
  have h := primes_in (i := (a + 7) % 13) ⟨Int.emod_nonneg _ (by decide), Int.emod_lt_of_pos _ (by decide)⟩
  exact ⟨Int.emod_nonneg _ (by omega), Int.lt_trans (Int.emod_lt_of_pos _ h.1) h.2⟩
theorem mul_in {x y X Y : Int} (h1 : 0 ≤ x) (h2 : x ≤ X) (h3 : 0 ≤ y) (h4 : y ≤ Y) : 0 ≤ x * y ∧ x * y ≤ X * Y :=
  ⟨Int.mul_nonneg h1 h3, Int.mul_le_mul h2 h4 h3 (by omega)⟩
def cellP (pen : PenT) : Int := if pen.2.1 < (pen.1.length : Int) then nth pen.1 pen.2.1 else if (0 : Int) < (pen.1.length : Int) then nth pen.1 ((pen.2.1 * 5 + 3) % (pen.1.length : Int)) % ((10 : Int) ^ (17 : Int).toNat + pen.2.1) else 0
def refill (pen : PenT) (many : Int) : PenT := if pen.2.2 < many then (pen.1, pen.2.1 + 1, spread (cellP pen) pen.2.1) else pen
def takeP (pen : PenT) (many : Int) : Int × PenT := ((refill pen many).2.2 % many, ((refill pen many).1, (refill pen many).2.1, (refill pen many).2.2 / many))
/-- the pen stands at a place from 0 to k -/
def At (k : Int) (pen : PenT) : Prop := 0 ≤ pen.2.1 ∧ pen.2.1 ≤ k
theorem At.mono {k l : Int} {pen : PenT} (h : At k pen) (hk : k ≤ l) : At l pen := ⟨h.1, by have := h.2; omega⟩
theorem at_take {k : Int} {pen : PenT} {many : Int} (h : At k pen) : At (k + 1) (takeP pen many).2 := by
  obtain ⟨h1, h2⟩ := h
  unfold takeP refill At
  dsimp only
  split
  · dsimp only; omega
  · omega
theorem take_in {pen : PenT} {many : Int} (h : 0 < many) : 0 ≤ (takeP pen many).1 ∧ (takeP pen many).1 < many :=
  ⟨Int.emod_nonneg _ (by omega), Int.emod_lt_of_pos _ h⟩
/-! ### the script's cells -/
def openStep (cells : List Int) (kc : Int × Int) : List Int := cells.set (kc.1 % 12).toNat (nth cells (kc.1 % 12) + kc.2)
def openP (s : List Int) : List Int := (en 0 (cut s (some 12) (some 63))).foldl openStep (cut s none (some 12))
def anew (pen : PenT) : PenT := (pen.1, pen.2.1, 0)
def drawnStep (st : List Int × PenT) (k : Int) : List Int × PenT := (st.1.take (takeP st.2 (k + 1)).1.toNat ++ [k] ++ st.1.drop (takeP st.2 (k + 1)).1.toNat, (takeP st.2 (k + 1)).2)
def drawnP (pen : PenT) (many : Int) : List Int × PenT := (rng 0 many).foldl drawnStep ([], pen)
theorem cut_len {α : Type} (xs : List α) (lo hi : Option Int) : (cut xs lo hi).length ≤ xs.length := by
  unfold cut
  rw [List.length_take, List.length_drop]; omega
theorem open_len (kcs : List (Int × Int)) : ∀ cells : List Int, (kcs.foldl openStep cells).length = cells.length := by
  induction kcs with
  | nil => intro _; rfl
  | cons kc kcs ih => intro cells; rw [List.foldl_cons, ih]; unfold openStep; rw [List.length_set]
theorem en_mem {α : Type} {xs : List α} {k : Nat} {y : Int × α} (h : y ∈ en k xs) : (k : Int) ≤ y.1 ∧ y.1 < k + xs.length ∧ y.2 ∈ xs := by
  obtain ⟨i, hi⟩ := List.mem_iff_getElem?.mp h
  rw [en_get] at hi
  obtain ⟨x, hx, rfl⟩ := Option.map_eq_some_iff.mp hi
  have := (List.getElem?_eq_some_iff.mp hx).1
  exact ⟨by show (k : Int) ≤ ((k + i : Nat) : Int); omega, by show ((k + i : Nat) : Int) < _; omega, List.mem_of_getElem? hx⟩
theorem open_in {s : List Int} {pre suf : List (Int × Int)} {x : Int × Int} (hx : en 0 (cut s (some 12) (some 63)) = pre ++ x :: suf) : 0 ≤ x.1 ∧ 12 < s.length := by
  have hm : x ∈ en 0 (cut s (some 12) (some 63)) := by rw [hx]; simp
  obtain ⟨h1, h2, h3⟩ := en_mem hm
  refine ⟨by omega, ?_⟩
  unfold cut at h3
  have := List.length_pos_of_mem h3
  rw [List.length_take, List.length_drop] at this
  have e : HT.sIx s.length 0 (some 12) = min 12 s.length := HT.sIx_nat s.length 0 12
  omega
theorem open_ix {s : List Int} {k : Int} (h : 0 ≤ k ∧ 12 < s.length) : 0 ≤ k % 12 ∧ k % 12 < ((cut s none (some 12)).length : Int) := by
  have e : HT.sIx s.length s.length (some 12) = min 12 s.length := HT.sIx_nat s.length s.length 12
  have e0 : HT.sIx s.length 0 none = 0 := HT.sIx_none s.length 0
  unfold cut
  rw [e, e0, List.length_take, List.length_drop]
  omega
theorem drawn_at : ∀ (ks : List Int) {st : List Int × PenT} {k : Int}, At k st.2 → At (k + ks.length) (ks.foldl drawnStep st).2
  | [], st, k, h => by simpa using h
  | x :: ks, st, k, h => by
    rw [List.foldl_cons]
    exact (drawn_at ks (st := drawnStep st x) (at_take h)).mono (by simp; omega)
theorem drawn_len : ∀ (ks : List Int) {st : List Int × PenT}, (∀ k ∈ ks, 0 ≤ k) → (ks.foldl drawnStep st).1.length = st.1.length + ks.length
  | [], st, h => by simp
  | x :: ks, st, h => by
    rw [List.foldl_cons, drawn_len ks fun k hk => h k (by simp [hk])]
    unfold drawnStep
    have hx := h x (by simp)
    simp
    omega
/-- of pen and a value the pen alone is owned -/
theorem pen_only {p p' : Addr} {pen : PenT} {α β : Type} {R : Rp α} {x : α} {S : Ro β} {y : β} {i j : Nat} {ρ1 : List Slot} (h : [Slot.own p OPen pen, .imm R x][i]? = some (.own p' S y)) {pen' : PenT} (hj : ∃ j2, j2 ≠ j ∧ ρ1[j2]? = some (.own p OPen pen')) :
    (∃ (j2 : Nat) (γ : Type) (S2 : Ro γ) (y2 : γ), j2 ≠ j ∧ ρ1[j2]? = some (.own p' S2 y2)) ∧ ∀ H q, S.foot H p' q → q = p' := by
  obtain ⟨j2, h1, h2⟩ := hj
  rcases i with _ | _ | i
  · have h' : Slot.own p OPen pen = .own p' S y := Option.some.inj h
    cases h'
    exact ⟨⟨j2, _, _, _, h1, h2⟩, fun H q f => f⟩
  · have h' : Slot.imm R x = .own p' S y := Option.some.inj h
    cases h'
  · simp at h
section
variable {P : Program} {w : World} {K : PySem.W.Frag} {mg : Str → Option Value} {base : Heap} [BltG mg]
def S_law_spread (as as' : List Slot) (r : Res) : Prop := ∃ (cell a : Int), 0 ≤ a ∧ a ≤ 1000 ∧ as = [.imm RInt cell, .imm RInt a] ∧ as' = as ∧ r = .imm RInt (spread cell a)
def S_law_open (K : PySem.W.Frag) (as as' : List Slot) (r : Res) : Prop := ∃ s : List Int, s.length ≤ 63 ∧ as = [.imm (RSq K) s] ∧ as' = as ∧ r = .new OPen (openP s, 0, 0)
def S_law_anew (as as' : List Slot) (r : Res) : Prop := ∃ (p : Addr) (pen : PenT), as = [.own p OPen pen] ∧ as' = [.own p OPen (anew pen)] ∧ r = .view p OPen (anew pen)
def S_law_take (as as' : List Slot) (r : Res) : Prop := ∃ (p : Addr) (pen : PenT) (many : Int), At 900 pen ∧ 1 ≤ many ∧ many < 2 ^ 60 ∧ as = [.own p OPen pen, .imm RInt many] ∧ as' = [.own p OPen (takeP pen many).2, .imm RInt many] ∧ r = .imm RInt (takeP pen many).1
def S_law_one (as as' : List Slot) (r : Res) : Prop := ∃ (p : Addr) (pen : PenT) (some_ : List Int), At 900 pen ∧ some_ ≠ [] ∧ some_.length ≤ 1000 ∧ as = [.own p OPen pen, .imm (RL RInt) some_] ∧ as' = [.own p OPen (takeP pen some_.length).2, .imm (RL RInt) some_] ∧ r = .imm RInt (nth some_ (takeP pen some_.length).1)
def S_law_drawn (as as' : List Slot) (r : Res) : Prop := ∃ (p : Addr) (pen : PenT) (many : Int), At 800 pen ∧ 0 ≤ many ∧ many ≤ 60 ∧ as = [.own p OPen pen, .imm RInt many] ∧ as' = [.own p OPen (drawnP pen many).2, .imm RInt many] ∧ r = .new (OL RInt) (drawnP pen many).1

abbrev s_law_spread : Stmt := topS 25
abbrev n_law_spread : List Str := ["_law_cell", "_law_at", "_law_primes", "_law_mixed", "_law_one_here", "_law_two", "_law_three"]
theorem sc_law_spread : FnScope n_law_spread ["_law_cell", "_law_at"] (defScope s_law_spread) := ⟨rfl, rfl, rfl, by decide +kernel, rfl, by decide +kernel, by decide +kernel⟩
theorem w_law_spread (F : FnM K mg "_law_spread" s_law_spread ["_law_cell", "_law_at"]) : Cal P w K mg base "_law_spread" 2 1 S_law_spread := by
  refine fnM F sc_law_spread (fun as as' r hS => by obtain ⟨_, _, _, _, e, _⟩ := hS; rw [e]; rfl) (by decide) fun f cdv AA outer sh H E as as' r hr hFam hS => ?_
  obtain ⟨cell, a, h0, h1, rfl, rfl, rfl⟩ := hS
  have ha := primes_in (i := a % 13) (by omega)
  have hb := primes_in (i := (a + 5) % 13) (by omega)
  have hc2 := primes_in (i := (a + 7) % 13) (by omega)
  have q1 := spOne_in (cell := cell) (a := a)
  have q2 := spTwo_in (cell := cell) (a := a)
  have q3 := spThree_in (cell := cell) (a := a)
  have m1 := mul_in (x := cell % 1000000007) (X := 1000000006) (y := 2 * a + 69069) (Y := 71069) (by omega) (by omega) (by omega) (by omega)
  have m2 := mul_in (x := spOne cell a) (X := 2147483648) (y := a + 3) (Y := 1003) (by omega) (by omega) (by omega) (by omega)
  show DSs _ [.imm RInt cell, .imm RInt a, .any, .any, .any, .any, .any] _ _
  refine iff (dt_ge (v 0 rfl) (dv_pow dv_int dv_int (by first | exact ⟨by decide, by decide, by decide⟩ | exact ⟨by decide, by decide, by unfold mixed; omega⟩ | exact ⟨by decide, by decide, by omega⟩))) (fun hc => ?_) (fun hc => ?_)
  · have hcc : (10 : Int) ^ (18 : Int).toNat ≤ cell := by simpa using hc
    refine ret (v 0 rfl) ?_
    have e : spread cell a = cell := if_pos hcc
    rw [e]
    exact ⟨.imm (.imm .nil), .same⟩
  have hcc : ¬ (10 : Int) ^ (18 : Int).toNat ≤ cell := by simpa using hc
  refine dss_nil ?_
  refine asg 2 (dv_fz (R := OL RInt) (dv_lst (R := RInt) (xs := [_, _, _, _, _, _, _]) (a1 dv_int (a1 dv_int (a1 dv_int (a1 dv_int (a1 dv_int (a1 dv_int (a1 dv_int a0))))))) (Nat.le_of_ble_eq_true rfl))) s2 ?_
  refine asg 2 (dv_fz (R := OL RInt) (add (v 2 rfl) (dv_lst (R := RInt) (xs := [_, _, _, _, _, _]) (a1 dv_int (a1 dv_int (a1 dv_int (a1 dv_int (a1 dv_int (a1 dv_int a0)))))) (Nat.le_of_ble_eq_true rfl)) (add_L seen_imm seen_new (by decide)))) s2 ?_
  show DSs _ [.imm RInt cell, .imm RInt a, .imm (RL RInt) primes, .any, .any, .any, .any] _ _
  refine asg 3 (dv_add (dv_add (dv_mul (dv_mod (v 0 rfl) dv_int (by first | decide | exact ha.1 | exact hb.1 | exact hc2.1)) (dv_add (dv_mul dv_int (v 1 rfl) (by refine mulx_ok (a := 90) (b := 90) ?_ ?_ (by decide) <;> omega)) dv_int) (by refine mulx_ok (a := 90) (b := 90) ?_ ?_ (by decide) <;> omega)) (dv_mul (v 1 rfl) dv_int (by refine mulx_ok (a := 90) (b := 90) ?_ ?_ (by decide) <;> omega))) dv_int) s3 ?_
  show DSs _ [.imm RInt cell, .imm RInt a, .imm (RL RInt) primes, .imm RInt (mixed cell a), .any, .any, .any] _ _
  refine asg 4 (dv_mod (dv_pow (v 3 rfl) dv_int (by first | exact ⟨by decide, by decide, by decide⟩ | exact ⟨by decide, by decide, by unfold mixed; omega⟩ | exact ⟨by decide, by decide, by omega⟩)) (ix (v 2 rfl) (dv_mod (v 1 rfl) dv_int (by first | decide | exact ha.1 | exact hb.1 | exact hc2.1)) (ix_L seen_imm (nth_ok (by show 0 ≤ _ ∧ _ < ((13 : Nat) : Int); omega)))) (by first | decide | exact ha.1 | exact hb.1 | exact hc2.1)) s4 ?_
  show DSs _ [.imm RInt cell, .imm RInt a, .imm (RL RInt) primes, .imm RInt (mixed cell a), .imm RInt (spOne cell a), .any, .any] _ _
  refine asg 5 (dv_mod (dv_pow (dv_add (dv_add (dv_mul (v 4 rfl) (dv_add (v 1 rfl) dv_int) (by refine mulx_ok (a := 90) (b := 90) ?_ ?_ (by decide) <;> omega)) (dv_mod (v 0 rfl) dv_int (by first | decide | exact ha.1 | exact hb.1 | exact hc2.1))) dv_int) dv_int (by first | exact ⟨by decide, by decide, by decide⟩ | exact ⟨by decide, by decide, by unfold mixed; omega⟩ | exact ⟨by decide, by decide, by omega⟩)) (ix (v 2 rfl) (dv_mod (dv_add (v 1 rfl) dv_int) dv_int (by first | decide | exact ha.1 | exact hb.1 | exact hc2.1)) (ix_L seen_imm (nth_ok (by show 0 ≤ _ ∧ _ < ((13 : Nat) : Int); omega)))) (by first | decide | exact ha.1 | exact hb.1 | exact hc2.1)) s5 ?_
  show DSs _ [.imm RInt cell, .imm RInt a, .imm (RL RInt) primes, .imm RInt (mixed cell a), .imm RInt (spOne cell a), .imm RInt (spTwo cell a), .any] _ _
  refine asg 6 (dv_mod (dv_pow (dv_add (dv_add (v 5 rfl) (dv_mod (v 4 rfl) dv_int (by first | decide | exact ha.1 | exact hb.1 | exact hc2.1))) (v 1 rfl)) dv_int (by first | exact ⟨by decide, by decide, by decide⟩ | exact ⟨by decide, by decide, by unfold mixed; omega⟩ | exact ⟨by decide, by decide, by omega⟩)) (ix (v 2 rfl) (dv_mod (dv_add (v 1 rfl) dv_int) dv_int (by first | decide | exact ha.1 | exact hb.1 | exact hc2.1)) (ix_L seen_imm (nth_ok (by show 0 ≤ _ ∧ _ < ((13 : Nat) : Int); omega)))) (by first | decide | exact ha.1 | exact hb.1 | exact hc2.1)) s6 ?_
  show DSs _ [.imm RInt cell, .imm RInt a, .imm (RL RInt) primes, .imm RInt (mixed cell a), .imm RInt (spOne cell a), .imm RInt (spTwo cell a), .imm RInt (spThree cell a)] _ _
  refine ret (dv_add (dv_mul (dv_add (dv_mul (v 4 rfl) dv_int (by refine mulx_ok (a := 90) (b := 90) ?_ ?_ (by decide) <;> omega)) (v 5 rfl)) dv_int (by refine mulx_ok (a := 90) (b := 90) ?_ ?_ (by decide) <;> omega)) (v 6 rfl)) ?_
  have e : spread cell a = (spOne cell a * 2147483647 + spTwo cell a) * 2147483647 + spThree cell a := if_neg hcc
  rw [e]
  exact ⟨.imm (.imm .nil), .same⟩
abbrev s_law_open : Stmt := topS 26
abbrev n_law_open : List Str := ["_law_script", "_law_cells", "_law_k", "_law_cell"]
theorem sc_law_open : FnScope n_law_open ["_law_script"] (defScope s_law_open) := ⟨rfl, rfl, rfl, by decide +kernel, rfl, by decide +kernel, by decide +kernel⟩
theorem w_law_open (F : FnM K mg "_law_open" s_law_open ["_law_script"]) : Cal P w K mg base "_law_open" 1 1 (S_law_open K) := by
  refine fnM F sc_law_open (fun as as' r hS => by obtain ⟨_, _, e, _⟩ := hS; rw [e]; rfl) (by decide) fun f cdv AA outer sh H E as as' r hr hFam hS => ?_
  obtain ⟨s, h63, rfl, rfl, rfl⟩ := hS
  show DSs _ [.imm (RSq K) s, .any, .any, .any] _ _
  refine asgN 1 (list (dv_slQ (v 0 rfl) do_none (do_some dv_int)) (seenS_L seen_new)) (fun _ => s1) fun p1 => ?_
  refine forE (fun pre => [.imm (RSq K) s, .own p1 (OL RInt) (pre.foldl openStep (cut s none (some 12))), .any, .any]) (di_enumL (dv_fz (R := OL RInt) (dv_slQ (v 0 rfl) (do_some dv_int) (do_some dv_int))) (fun _ => rfl) (fun _ => rfl) (fun _ => rfl)) (by walk_at "wk") (fun pre x suf hx => ⟨_, _, (tg2 (tgN 2 s2) (tgN 3 s3)), ?_⟩) ?_
  · have hln : (pre.foldl openStep (cut s none (some 12))).length = (cut s none (some 12)).length := open_len _ _
    have hx0 := open_in hx
    obtain ⟨k, c⟩ := x
    refine setix 1 (dv_add (ix (vO 1 rfl) (dv_mod (v 2 rfl) dv_int (by decide)) (ix_L (seen_view 1 rfl) (nth_ok (by rw [hln]; exact open_ix hx0)))) (v 3 rfl)) (vO 1 rfl) (dv_mod (v 2 rfl) dv_int (by decide)) rfl (by rw [hln]; exact open_ix hx0) s1 ?_
    exact dss_nil (.keep (.own (by rw [List.foldl_append]; rfl) (.forget (.forget .nil))))
  refine dss_fz (i := 1) rfl ?_
  refine ret (newpen (a1 (v 1 rfl) (a1 dv_int (a1 dv_int a0)))) ?_
  exact ⟨.imm .nil, .same⟩
abbrev s_law_anew : Stmt := topS 27
abbrev n_law_anew : List Str := ["_law_pen"]
theorem sc_law_anew : FnScope n_law_anew ["_law_pen"] (defScope s_law_anew) := ⟨rfl, rfl, rfl, by decide +kernel, rfl, by decide +kernel, by decide +kernel⟩
theorem w_law_anew (F : FnM K mg "_law_anew" s_law_anew ["_law_pen"]) : Cal P w K mg base "_law_anew" 1 1 S_law_anew := by
  refine fnM F sc_law_anew (fun as as' r hS => by obtain ⟨_, _, e, _⟩ := hS; rw [e]; rfl) (by decide) fun f cdv AA outer sh H E as as' r hr hFam hS => ?_
  obtain ⟨p, pen, rfl, rfl, rfl⟩ := hS
  show DSs _ [.own p OPen pen] _ _
  refine setpen 0 dv_int (vO 0 rfl) dv_int rfl (Or.inr ⟨rfl, rfl⟩) s0 ?_
  refine ret (vO 0 rfl) ?_
  exact ⟨.own 0 rfl .nil, .same⟩
abbrev s_law_take : Stmt := topS 28
abbrev n_law_take : List Str := ["_law_pen", "_law_many", "_law_at", "_law_cell", "_law_found"]
theorem sc_law_take : FnScope n_law_take ["_law_pen", "_law_many"] (defScope s_law_take) := ⟨rfl, rfl, rfl, by decide +kernel, rfl, by decide +kernel, by decide +kernel⟩
theorem w_law_take (F : FnM K mg "_law_take" s_law_take ["_law_pen", "_law_many"]) (C__law_spread : Cal P w K mg base "_law_spread" 2 1 S_law_spread) : Cal P w K mg base "_law_take" 2 2 S_law_take := by
  refine fnM F sc_law_take (fun as as' r hS => by obtain ⟨_, _, _, _, _, _, e, _⟩ := hS; rw [e]; rfl) (by decide) fun f cdv AA outer sh H E as as' r hr hFam hS => ?_
  obtain ⟨p, pen, many, hat, h1, h2, rfl, rfl, rfl⟩ := hS
  obtain ⟨hat1, hat2⟩ := hat
  show DSs _ [.own p OPen pen, .imm RInt many, .any, .any, .any] _ _
  refine iffJ [.own p OPen (refill pen many), .imm RInt many, .any, .any, .any] (dt_lt (ix (vO 0 rfl) dv_int (ix_pen2 0 rfl)) (v 1 rfl)) (fun hc => ?_) (fun hc => ?_) ?_
  · skip
    refine asg 2 (ix (vO 0 rfl) dv_int (ix_pen1 0 rfl)) s2 ?_
    refine asg 3 dv_int s3 ?_
    refine iffJ [.own p OPen pen, .imm RInt many, .imm RInt pen.2.1, .imm RInt (cellP pen), .any] (dt_lt (v 2 rfl) (len (ix (vO 0 rfl) dv_int (ix_pen0 0 rfl)) (seenN_L seen_imm))) (fun hc => ?_) (fun hc => ?_) ?_
    · have hcc : pen.2.1 < (pen.1.length : Int) := by simpa using hc
      refine asg 3 (ix (ix (vO 0 rfl) dv_int (ix_pen0 0 rfl)) (v 2 rfl) (ix_L seen_imm (nth_ok (by first | exact ⟨hat1, hcc⟩ | exact ⟨Int.emod_nonneg _ (by omega), Int.emod_lt_of_pos _ hc3⟩)))) s3 ?_
      exact dss_nil (.keep (.keep (.keep (.imm (by rw [cellP, if_pos hcc]) (.keep .nil)))))
    · have hcc : ¬ pen.2.1 < (pen.1.length : Int) := by simpa using hc
      refine iffJ [.own p OPen pen, .imm RInt many, .imm RInt pen.2.1, .imm RInt (cellP pen), .any] (dt_gt (len (ix (vO 0 rfl) dv_int (ix_pen0 0 rfl)) (seenN_L seen_imm)) dv_int) (fun hc => ?_) (fun hc => ?_) ?_
      · have hc3 : (0 : Int) < (pen.1.length : Int) := by simpa using hc
        refine asg 3 (dv_mod (ix (ix (vO 0 rfl) dv_int (ix_pen0 0 rfl)) (dv_mod (dv_add (dv_mul (v 2 rfl) dv_int (by exact mulx_ok (a := 64) (b := 64) (by omega) (by decide) (by decide))) dv_int) (len (ix (vO 0 rfl) dv_int (ix_pen0 0 rfl)) (seenN_L seen_imm)) (by first | omega | (have h17 : (0 : Int) < (10 : Int) ^ (17 : Int).toNat := (by decide); omega))) (ix_L seen_imm (nth_ok (by first | exact ⟨hat1, hcc⟩ | exact ⟨Int.emod_nonneg _ (by omega), Int.emod_lt_of_pos _ hc3⟩)))) (dv_add (dv_pow dv_int dv_int (by exact ⟨by decide, by decide, by decide⟩)) (v 2 rfl)) (by first | omega | (have h17 : (0 : Int) < (10 : Int) ^ (17 : Int).toNat := (by decide); omega))) s3 ?_
        exact dss_nil (.keep (.keep (.keep (.imm (by rw [cellP, if_neg hcc, if_pos hc3]) (.keep .nil)))))
      · have hc3 : ¬ (0 : Int) < (pen.1.length : Int) := by simpa using hc
        exact dss_nil (.keep (.keep (.keep (.imm (by rw [cellP, if_neg hcc, if_neg hc3]) (.keep .nil)))))
      exact dss_nil (by walk_at "wk")
    refine setpen 0 (dv_add (v 2 rfl) dv_int) (vO 0 rfl) dv_int rfl (Or.inl ⟨rfl, rfl⟩) s0 ?_
    refine setpen 0 (cal (as := [.imm RInt _, .imm RInt _]) C__law_spread hr (by decide) (a1 (v 3 rfl) (a1 (v 2 rfl) a0)) (Imms.cons (Imms.cons Imms.nil)) rfl (by exact ⟨_, _, hat1, by omega, rfl, rfl, rfl⟩)) (vO 0 rfl) dv_int rfl (Or.inr ⟨rfl, rfl⟩) s0 ?_
    exact dss_nil (.own (by rw [refill, if_pos (by simpa using hc)]) (.keep (.forget (.forget (.keep .nil)))))
  · skip
    exact dss_nil (.own (by rw [refill, if_neg (by simpa using hc)]) (.keep (.keep (.keep (.keep .nil)))))
  refine asg 4 (dv_mod (ix (vO 0 rfl) dv_int (ix_pen2 0 rfl)) (v 1 rfl) (by first | omega | (have h17 : (0 : Int) < (10 : Int) ^ (17 : Int).toNat := (by decide); omega))) s4 ?_
  refine setpen 0 (dv_fdiv (ix (vO 0 rfl) dv_int (ix_pen2 0 rfl)) (v 1 rfl) (by exact wide_div (b := 60) (by omega) (by omega) (by decide) (by decide))) (vO 0 rfl) dv_int rfl (Or.inr ⟨rfl, rfl⟩) s0 ?_
  refine ret (v 4 rfl) ?_
  exact ⟨.own 0 rfl (.imm .nil), .same⟩
abbrev s_law_one : Stmt := topS 29
abbrev n_law_one : List Str := ["_law_pen", "_law_some"]
theorem sc_law_one : FnScope n_law_one ["_law_pen", "_law_some"] (defScope s_law_one) := ⟨rfl, rfl, rfl, by decide +kernel, rfl, by decide +kernel, by decide +kernel⟩
theorem w_law_one (F : FnM K mg "_law_one" s_law_one ["_law_pen", "_law_some"]) (C__law_take : Cal P w K mg base "_law_take" 2 2 S_law_take) : Cal P w K mg base "_law_one" 2 3 S_law_one := by
  refine fnM F sc_law_one (fun as as' r hS => by obtain ⟨_, _, _, _, _, _, e, _⟩ := hS; rw [e]; rfl) (by decide) fun f cdv AA outer sh H E as as' r hr hFam hS => ?_
  obtain ⟨p, pen, some_, hat, h1, h2, rfl, rfl, rfl⟩ := hS
  have h0 : 0 < some_.length := List.length_pos_iff.mpr h1
  show DSs _ [.own p OPen pen, .imm (RL RInt) some_] _ _
  refine ret (ix (v 1 rfl) (pcal (as := [.imm RInt _]) 0 C__law_take hr (by decide) (a1 (vO 0 rfl) (a1 (len (v 1 rfl) (seenN_L seen_imm)) a0)) rfl (Imms.cons Imms.nil) rfl (by exact ⟨p, pen, some_.length, hat, by omega, by omega, rfl, rfl, rfl⟩) s0) (ix_L seen_imm (nth_ok (by exact take_in (by omega))))) ?_
  exact ⟨.own 0 rfl (.imm .nil), .same⟩
abbrev s_law_drawn : Stmt := topS 30
abbrev n_law_drawn : List Str := ["_law_pen", "_law_many", "_law_found", "_law_k"]
theorem sc_law_drawn : FnScope n_law_drawn ["_law_pen", "_law_many"] (defScope s_law_drawn) := ⟨rfl, rfl, rfl, by decide +kernel, rfl, by decide +kernel, by decide +kernel⟩
theorem w_law_drawn (F : FnM K mg "_law_drawn" s_law_drawn ["_law_pen", "_law_many"]) (C__law_take : Cal P w K mg base "_law_take" 2 2 S_law_take) : Cal P w K mg base "_law_drawn" 2 3 S_law_drawn := by
  refine fnM F sc_law_drawn (fun as as' r hS => by obtain ⟨_, _, _, _, _, _, e, _⟩ := hS; rw [e]; rfl) (by decide) fun f cdv AA outer sh H E as as' r hr hFam hS => ?_
  obtain ⟨p, pen, many, hat, h1, h2, rfl, rfl, rfl⟩ := hS
  show DSs _ [.own p OPen pen, .imm RInt many, .any, .any] _ _
  refine asgN 2 (dv_lst (R := RInt) (xs := []) a0 (Nat.le_of_ble_eq_true rfl)) (fun _ => s2) fun p2 => ?_
  refine forE (fun pre => [.own p OPen (pre.foldl drawnStep ([], pen)).2, .imm RInt many, .own p2 (OL RInt) (pre.foldl drawnStep ([], pen)).1, .any]) (rg1 (v 1 rfl) (by walk_at "rg")) (by walk_at "wk") (fun pre x suf hx => ⟨_, _, (tgN 3 s3), ?_⟩) ?_
  · have hpl : pre.length ≤ 60 := by have := congrArg List.length hx; rw [rng_len] at this; simp at this; omega
    have hat2 := drawn_at pre (st := ([], pen)) hat
    have hln := drawn_len pre (st := ([], pen)) (fun k hk => (rng_mem (a := 0) (b := many) (by rw [hx]; simp [hk])).1)
    have hx0 : 0 ≤ x ∧ x < many := rng_mem (by rw [hx]; simp)
    refine ex (ins 2 (vO 2 rfl) (pcal (as := [.imm RInt _]) 0 C__law_take hr (by decide) (a1 (vO 0 rfl) (a1 (dv_add (v 3 rfl) dv_int) a0)) rfl (Imms.cons Imms.nil) rfl (by exact ⟨p, _, _, hat2.mono (by omega), by omega, by omega, rfl, rfl, rfl⟩) s0) (v 3 rfl) rfl rfl (by simp at hln ⊢; omega) (by have := take_in (pen := (pre.foldl drawnStep ([], pen)).2) (many := x + 1) (by omega); omega) s2) ?_
    exact dss_nil (.own (by rw [List.foldl_append]; rfl) (.keep (.own (by rw [List.foldl_append]; rfl) (.forget .nil))))
  refine ret (vO 2 rfl) ?_
  exact ⟨.own 0 rfl (.imm .nil), .out 2 rfl (fun i p' β S y h => pen_only h ⟨0, by decide, rfl⟩)⟩
end
end PD

set_option Elab.async false
set_option linter.all false
set_option maxRecDepth 100000
set_option maxHeartbeats 4000000
namespace PD
open PySem L2
local macro_rules | `(tactic| walk_at "ret") => `(tactic| exact ⟨.imm (.imm .nil), .same⟩)
local macro_rules | `(tactic| walk_at "ret1") => `(tactic| exact ⟨.imm .nil, .same⟩)
local macro_rules | `(tactic| walk_at "wk") => `(tactic| repeat (first | exact Wk.nil | refine Wk.keep ?_ | refine Wk.forget ?_))
local macro_rules | `(tactic| walk_at "lclen") => `(tactic| ((try simp only [rng_len, List.length_map]); omega))
local macro_rules | `(tactic| walk_at "rg") => `(tactic| omega)
local macro_rules | `(tactic| walk_at "app") => `(tactic| (simp; omega))
/-! ### the law's web -/
def penIt (size : Int) (pen : PenT) : Nat → PenT
  | 0 => pen
  | k + 1 => (takeP (takeP (penIt size pen k) 4).2 size).2
def cellAt (size holes : Int) (pen : PenT) (k : Nat) : Int := b2n (decide (holes ≤ (takeP (penIt size pen k) 4).1)) * (takeP (takeP (penIt size pen k) 4).2 size).1
def penRows (size : Int) (many : Nat) (pen : PenT) : Nat → PenT
  | 0 => pen
  | k + 1 => penIt size (penRows size many pen k) many
def rowAt (size holes : Int) (many : Nat) (pen : PenT) (k : Nat) : List Int := (List.range many).map (cellAt size holes (penRows size many pen k))
def grid (size holes : Int) (many : Nat) (pen : PenT) (k : Nat) : Mat := (List.range k).map (rowAt size holes many pen)
def sizes : List Int := [2, 2, 3, 5]
def wMany (pen : PenT) (most : Int) : Int := 1 + (takeP pen most).1
def wSize (pen : PenT) (most : Int) : Int := nth sizes (takeP (takeP pen most).2 sizes.length).1
def wP2 (pen : PenT) (most : Int) : PenT := (takeP (takeP pen most).2 sizes.length).2
def wHoles (pen : PenT) (most : Int) : Int := (takeP (wP2 pen most) 4).1
def wP3 (pen : PenT) (most : Int) : PenT := (takeP (wP2 pen most) 4).2
def wP4 (pen : PenT) (most : Int) : PenT := penRows (wSize pen most) (wMany pen most).toNat (wP3 pen most) (wMany pen most).toNat
def wRows (pen : PenT) (most : Int) : Mat := grid (wSize pen most) (wHoles pen most) (wMany pen most).toNat (wP3 pen most) (wMany pen most).toNat
def wP5 (pen : PenT) (most : Int) : PenT := (takeP (wP4 pen most) 6).2
def wV (pen : PenT) (most : Int) : Int × PenT := takeP (wP5 pen most) ((10 : Int) ^ (12 : Int).toNat)
def wI (pen : PenT) (most : Int) : Int × PenT := takeP (wV pen most).2 (wMany pen most)
def wJ (pen : PenT) (most : Int) : Int × PenT := takeP (wI pen most).2 (wMany pen most)
def webP (pen : PenT) (most : Int) : Mat × PenT :=
  if (takeP (wP4 pen most) 6).1 = 0 then ((wRows pen most).set (wI pen most).1.toNat (((wRows pen most).getD (wI pen most).1.toNat []).set (wJ pen most).1.toNat (wV pen most).1), (wJ pen most).2) else (wRows pen most, wP5 pen most)
theorem at_it {size : Int} {pen : PenT} {k : Int} (h : At k pen) : ∀ j : Nat, At (k + 2 * (j : Int)) (penIt size pen j)
  | 0 => h.mono (by omega)
  | j + 1 => (at_take (at_take (at_it h j))).mono (by omega)
theorem at_rows {size : Int} {many : Nat} {pen : PenT} {k : Int} (h : At k pen) : ∀ j : Nat, At (k + 2 * (many : Int) * (j : Int)) (penRows size many pen j)
  | 0 => h.mono (by simp)
  | j + 1 => (at_it (at_rows h j) many).mono (by
    have : 2 * (many : Int) * ((j + 1 : Nat) : Int) = 2 * many * j + 2 * many := by
      rw [Int.natCast_add, Int.mul_add]; simp
    omega)
theorem size_in {pen : PenT} {most : Int} : 2 ≤ wSize pen most ∧ wSize pen most ≤ 5 := by
  have h : wSize pen most ∈ sizes := nth_mem (take_in (by decide))
  have : ∀ z ∈ sizes, 2 ≤ z ∧ z ≤ 5 := by decide
  exact this _ h
theorem many_in {pen : PenT} {most : Int} (h : 1 ≤ most) : 1 ≤ wMany pen most ∧ wMany pen most ≤ most := by
  have := take_in (pen := pen) (many := most) (by omega)
  unfold wMany
  omega
theorem cell_in {size holes : Int} {pen : PenT} {k : Nat} (h : 0 < size) : 0 ≤ cellAt size holes pen k ∧ cellAt size holes pen k < size := by
  unfold cellAt b2n
  have h2 := take_in (pen := (takeP (penIt size pen k) 4).2) h
  split <;> omega
theorem sq_grid {size holes : Int} {many : Nat} {pen : PenT} : Sq many (grid size holes many pen many) where
  len := by unfold grid; simp
  row := fun r hr => by
    unfold grid at hr
    obtain ⟨k, _, rfl⟩ := List.mem_map.mp hr
    unfold rowAt; simp
theorem in_grid {size holes : Int} {many : Nat} {pen : PenT} (h : 0 < size) {r : List Int} (hr : r ∈ grid size holes many pen many) {x : Int} (hx : x ∈ r) : 0 ≤ x ∧ x < size := by
  unfold grid at hr
  obtain ⟨k, _, rfl⟩ := List.mem_map.mp hr
  unfold rowAt at hx
  obtain ⟨j, _, rfl⟩ := List.mem_map.mp hx
  exact cell_in h
theorem set_mem {α : Type} {xs : List α} {i : Nat} {y z : α} (h : z ∈ xs.set i y) : z ∈ xs ∨ z = y := by
  rcases List.mem_or_eq_of_mem_set h with h | h
  · exact .inl h
  · exact .inr h
/-- the drawn web is one -/
theorem web_webP {pen : PenT} {most : Int} (h1 : 1 ≤ most) (h8 : most ≤ 8) : Web (wMany pen most).toNat (webP pen most).1 ∧ ∀ r ∈ (webP pen most).1, ∀ x ∈ r, 0 ≤ x ∧ x < 1000000000000 := by
  obtain ⟨m1, m2⟩ := many_in (pen := pen) h1
  obtain ⟨s1, s2⟩ := size_in (pen := pen) (most := most)
  have hsq : Sq (wMany pen most).toNat (wRows pen most) := sq_grid
  have hin : ∀ r ∈ wRows pen most, ∀ x ∈ r, 0 ≤ x ∧ x < 1000000000000 := fun r hr x hx => by
    have := in_grid (by omega) hr hx
    omega
  suffices Sq (wMany pen most).toNat (webP pen most).1 ∧ ∀ r ∈ (webP pen most).1, ∀ x ∈ r, 0 ≤ x ∧ x < 1000000000000 from
    ⟨⟨this.1, by omega, by omega, fun r hr x hx => (this.2 r hr x hx).1⟩, this.2⟩
  unfold webP
  split
  · have hi := take_in (pen := (wV pen most).2) (many := wMany pen most) (by omega)
    have hv := take_in (pen := wP5 pen most) (many := (10 : Int) ^ (12 : Int).toNat) (by decide)
    have e12 : (10 : Int) ^ (12 : Int).toNat = 1000000000000 := by decide
    have hI : (wI pen most).1.toNat < (wRows pen most).length := by rw [hsq.len]; show (takeP (wV pen most).2 (wMany pen most)).1.toNat < _; omega
    have hget : (wRows pen most).getD (wI pen most).1.toNat [] ∈ wRows pen most := by
      rw [List.getD_eq_getElem?_getD, List.getElem?_eq_getElem hI]; exact List.getElem_mem hI
    refine ⟨⟨by rw [List.length_set]; exact hsq.len, fun r hr => ?_⟩, fun r hr x hx => ?_⟩
    · rcases set_mem hr with h | h
      · exact hsq.row r h
      · rw [h, List.length_set]; exact hsq.row _ hget
    · rcases set_mem hr with h | h
      · exact hin r h x hx
      · rw [h] at hx
        rcases set_mem hx with h | h
        · exact hin _ hget x h
        · rw [h]; rw [e12] at hv; unfold wV; rw [e12]; exact hv
  · exact ⟨hsq, hin⟩
theorem at_wP4 {pen : PenT} {most k : Int} (h : At k pen) (h1 : 1 ≤ most) (h8 : most ≤ 8) : At (k + 131) (wP4 pen most) := by
  obtain ⟨m1, m2⟩ := many_in (pen := pen) h1
  have hb : (2 * ((wMany pen most).toNat : Int) * ((wMany pen most).toNat : Int)) ≤ 128 := by
    have : ((wMany pen most).toNat : Int) = wMany pen most := by omega
    rw [this]
    have := (mul_in (x := wMany pen most) (X := 8) (y := wMany pen most) (Y := 8) (by omega) (by omega) (by omega) (by omega)).2
    rw [Int.mul_assoc]
    omega
  exact (at_rows (at_take (at_take (at_take h))) _).mono (by omega)
theorem at_webP {pen : PenT} {most k : Int} (h : At k pen) (h1 : 1 ≤ most) (h8 : most ≤ 8) : At (k + 135) (webP pen most).2 := by
  have h4 := at_wP4 h h1 h8
  unfold webP
  split
  · exact (at_take (at_take (at_take (at_take h4)))).mono (by omega)
  · exact (at_take h4).mono (by omega)
section
variable {P : Program} {w : World} {K : PySem.W.Frag} {mg : Str → Option Value} {base : Heap} [BltG mg]
def S_law_web (as as' : List Slot) (r : Res) : Prop := ∃ (p : Addr) (pen : PenT) (most : Int), At 700 pen ∧ 1 ≤ most ∧ most ≤ 8 ∧ as = [.own p OPen pen, .imm RInt most] ∧ as' = [.own p OPen (webP pen most).2, .imm RInt most] ∧ r = .imm RWeb (webP pen most).1

abbrev s_law_web : Stmt := topS 31
abbrev n_law_web : List Str := ["_law_pen", "_law_most", "_law_many", "_law_size", "_law_holes", "_law_rows", "_law_place", "_law_row", "_law_other"]
theorem sc_law_web : FnScope n_law_web ["_law_pen", "_law_most"] (defScope s_law_web) := ⟨rfl, rfl, rfl, by decide +kernel, rfl, by decide +kernel, by decide +kernel⟩
theorem grid_snoc {size holes : Int} {many : Nat} {pen : PenT} {k : Nat} : grid size holes many pen (k + 1) = grid size holes many pen k ++ [rowAt size holes many pen k] := by
  unfold grid
  rw [List.range_succ, List.map_append]; rfl
theorem w_law_web (F : FnM K mg "_law_web" s_law_web ["_law_pen", "_law_most"]) (C__law_take : Cal P w K mg base "_law_take" 2 2 S_law_take) (C__law_one : Cal P w K mg base "_law_one" 2 3 S_law_one) : Cal P w K mg base "_law_web" 2 4 S_law_web := by
  refine fnM F sc_law_web (fun as as' r hS => by obtain ⟨_, _, _, _, _, _, e, _⟩ := hS; rw [e]; rfl) (by decide) fun f cdv AA outer sh H E as as' r hr hFam hS => ?_
  obtain ⟨p, pen, most, hat, hm1, hm8, rfl, rfl, rfl⟩ := hS
  obtain ⟨m1, m2⟩ := many_in (pen := pen) hm1
  obtain ⟨z1, z2⟩ := size_in (pen := pen) (most := most)
  have hp1 : At 701 (takeP pen most).2 := at_take hat
  have hp2 : At 702 (wP2 pen most) := at_take hp1
  have hp3 : At 703 (wP3 pen most) := at_take hp2
  have hp4 : At 831 (wP4 pen most) := at_wP4 hat hm1 hm8
  have hp5 : At 832 (wP5 pen most) := at_take hp4
  have hp6 : At 833 (wV pen most).2 := at_take hp5
  have hp7 : At 834 (wI pen most).2 := at_take hp6
  obtain ⟨mm, hmm⟩ : ∃ mm : Nat, wMany pen most = (mm : Int) := ⟨(wMany pen most).toNat, by omega⟩
  have hmm2 : (wMany pen most).toNat = mm := by omega
  have e12 : (10 : Int) ^ (12 : Int).toNat = 1000000000000 := by decide
  show DSs _ [.own p OPen pen, .imm RInt most, .any, .any, .any, .any, .any, .any, .any] _ _
  refine asg 2 (dv_add dv_int (pcal (as := [.imm RInt most]) 0 C__law_take hr (by decide) (a1 (vO 0 rfl) (a1 (v 1 rfl) a0)) rfl (Imms.cons Imms.nil) rfl (by exact ⟨p, pen, most, hat.mono (by omega), by omega, by omega, rfl, rfl, rfl⟩) s0)) s2 ?_
  show DSs _ [.own p OPen (takeP pen most).2, .imm RInt most, .imm RInt (wMany pen most), .any, .any, .any, .any, .any, .any] _ _
  refine asgT (dv_tup2 (a1 (pcal (as := [.imm (RL RInt) sizes]) 0 C__law_one hr (by decide) (a1 (vO 0 rfl) (a1 (dv_fz (dv_lst (R := RInt) (xs := [_, _, _, _]) (a1 dv_int (a1 dv_int (a1 dv_int (a1 dv_int a0)))) (by decide))) a0)) rfl (Imms.cons Imms.nil) rfl (by exact ⟨p, _, sizes, hp1.mono (by omega), by decide, by decide, rfl, rfl, rfl⟩) s0)
    (a1 (pcal (as := [.imm RInt 4]) 0 C__law_take hr (by decide) (a1 (vO 0 rfl) (a1 dv_int a0)) rfl (Imms.cons Imms.nil) rfl (by exact ⟨p, wP2 pen most, 4, hp2.mono (by omega), by decide, by decide, rfl, rfl, rfl⟩) s0) a0))) (tg2 (tgN 3 s3) (tgN 4 s4)) ?_
  show DSs _ [.own p OPen (wP3 pen most), .imm RInt most, .imm RInt (wMany pen most), .imm RInt (wSize pen most), .imm RInt (wHoles pen most), .any, .any, .any, .any] _ _
  refine asgN 5 (newLL (R := RInt)) (fun _ => s5) fun p5 => ?_
  refine forE (fun pre => [.own p OPen (penRows (wSize pen most) mm (wP3 pen most) pre.length), .imm RInt most, .imm RInt (wMany pen most), .imm RInt (wSize pen most), .imm RInt (wHoles pen most), .own p5 (OLL RInt) (grid (wSize pen most) (wHoles pen most) mm (wP3 pen most) pre.length), .any, .any, .any]) (rg1 (v 2 rfl) (by omega)) (by walk_at "wk") (fun pre x suf hx => ⟨_, _, (tgN 6 s6), ?_⟩) ?_
  · have hpl : pre.length < mm := by have := congrArg List.length hx; rw [rng_len] at this; simp at this; omega
    have hprow : At (703 + 2 * (mm : Int) * (pre.length : Int)) (penRows (wSize pen most) mm (wP3 pen most) pre.length) := at_rows hp3 pre.length
    have hb : 2 * (mm : Int) * (pre.length : Int) ≤ 112 := by
      have := (mul_in (x := (mm : Int)) (X := 8) (y := (pre.length : Int)) (Y := 7) (by omega) (by omega) (by omega) (by omega)).2
      rw [Int.mul_assoc]; omega
    have hit : ∀ k : Nat, k ≤ mm → At 840 (penIt (wSize pen most) (penRows (wSize pen most) mm (wP3 pen most) pre.length) k) := fun k hk => (at_it hprow k).mono (by omega)
    refine asgLcN 7 (lcs (S := RInt) [("_law_other", 8)] (fun k => [.own p OPen (penIt (wSize pen most) (penRows (wSize pen most) mm (wP3 pen most) pre.length) k), .imm RInt most, .imm RInt (wMany pen most), .imm RInt (wSize pen most), .imm RInt (wHoles pen most), .own p5 (OLL RInt) (grid (wSize pen most) (wHoles pen most) mm (wP3 pen most) pre.length), .imm RInt x, .any, .any])
      (cellAt (wSize pen most) (wHoles pen most) (penRows (wSize pen most) mm (wP3 pen most) pre.length)) (rg1 (v 2 rfl) (by omega)) (by walk_at "lclen") rfl (fun k i hi => by simp at hi; subst hi; exact .inl rfl) (fun k y hy => ?_)) (fun _ => s7) fun p7 => ?_
    · have hk : k < mm := by have := (rng_get hy).2; omega
      have hik := hit k (by omega)
      exact ⟨_, _, _, by decide, tgN 8 s8, dv_mul (intB (dv_ge (pcal (as := [.imm RInt 4]) 0 C__law_take hr (by decide) (a1 (vO 0 rfl) (a1 dv_int a0)) rfl (Imms.cons Imms.nil) rfl (by exact ⟨p, _, 4, hik.mono (by omega), by decide, by decide, rfl, rfl, rfl⟩) s0) (v 4 rfl)))
        (pcal (as := [.imm RInt (wSize pen most)]) 0 C__law_take hr (by decide) (a1 (vO 0 rfl) (a1 (v 3 rfl) a0)) rfl (Imms.cons Imms.nil) rfl (by exact ⟨p, _, wSize pen most, (at_take hik).mono (by omega), by omega, by omega, rfl, rfl, rfl⟩) s0)
        (by
          have h2 := take_in (pen := (takeP (penIt (wSize pen most) (penRows (wSize pen most) mm (wP3 pen most) pre.length) k) 4).2) (many := wSize pen most) (by omega)
          refine mulx_ok (a := 2) (b := 10) ?_ (by omega) (by decide)
          unfold b2n; split <;> decide), .own rfl (by walk_at "wk")⟩
    · have elen : (rng 0 (wMany pen most)).length = mm := by rw [rng_len]; omega
      refine ex (appO 5 7 (by decide) (vO 5 rfl) (vO 7 rfl) rfl rfl rfl (by unfold grid; simp; omega) s7 s5) ?_
      refine dss_nil (.own ?_ (.keep (.keep (.keep (.keep (.own ?_ (.forget (.keep (.keep .nil)))))))))
      · rw [elen, List.length_append]; rfl
      · rw [elen, List.length_append]
        exact grid_snoc.symm
  · have elen : (rng 0 (wMany pen most)).length = mm := by rw [rng_len]; omega
    rw [elen]
    have e4 : penRows (wSize pen most) mm (wP3 pen most) mm = wP4 pen most := by unfold wP4; rw [hmm2]
    have eR : grid (wSize pen most) (wHoles pen most) mm (wP3 pen most) mm = wRows pen most := by unfold wRows; rw [hmm2]
    rw [e4, eR]
    have hsq : Sq mm (wRows pen most) := eR ▸ sq_grid
    refine iffJ [.own p OPen (webP pen most).2, .imm RInt most, .imm RInt (wMany pen most), .imm RInt (wSize pen most), .imm RInt (wHoles pen most), .own p5 (OLL RInt) (webP pen most).1, .any, .any, .any]
      (dt_eqI (pcal (as := [.imm RInt 6]) 0 C__law_take hr (by decide) (a1 (vO 0 rfl) (a1 dv_int a0)) rfl (Imms.cons Imms.nil) rfl (by exact ⟨p, wP4 pen most, 6, hp4.mono (by omega), by decide, by decide, rfl, rfl, rfl⟩) s0) dv_int) (fun hc => ?_) (fun hc => ?_) ?_
    · have hcc : (takeP (wP4 pen most) 6).1 = 0 := by simpa using hc
      have hI := take_in (pen := (wV pen most).2) (many := wMany pen most) (by omega)
      have hJ := take_in (pen := (wI pen most).2) (many := wMany pen most) (by omega)
      have hIn : (wI pen most).1.toNat < (wRows pen most).length := by rw [hsq.len]; show (takeP (wV pen most).2 (wMany pen most)).1.toNat < _; omega
      have hrow : ((wRows pen most).getD (wI pen most).1.toNat []).length = mm := by
        rw [List.getD_eq_getElem?_getD, List.getElem?_eq_getElem hIn]
        exact hsq.row _ (List.getElem_mem hIn)
      refine setix2 5 (ρ4 := [.own p OPen (wJ pen most).2, .imm RInt most, .imm RInt (wMany pen most), .imm RInt (wSize pen most), .imm RInt (wHoles pen most), .own p5 (OLL RInt) (wRows pen most), .any, .any, .any]) (xs := (wRows pen most).getD (wI pen most).1.toNat [])
        (pcal (as := [.imm RInt ((10 : Int) ^ (12 : Int).toNat)]) 0 C__law_take hr (by decide) (a1 (vO 0 rfl) (a1 (dv_pow dv_int dv_int ⟨by decide, by decide, by decide⟩) a0)) rfl (Imms.cons Imms.nil) rfl (by exact ⟨p, wP5 pen most, _, hp5.mono (by omega), by decide, by decide, rfl, rfl, rfl⟩) s0)
        (vO 5 rfl) (pcal (as := [.imm RInt (wMany pen most)]) 0 C__law_take hr (by decide) (a1 (vO 0 rfl) (a1 (v 2 rfl) a0)) rfl (Imms.cons Imms.nil) rfl (by exact ⟨p, (wV pen most).2, _, hp6.mono (by omega), by omega, by omega, rfl, rfl, rfl⟩) s0) rfl
        (pcal (as := [.imm RInt (wMany pen most)]) 0 C__law_take hr (by decide) (a1 (vO 0 rfl) (a1 (v 2 rfl) a0)) rfl (Imms.cons Imms.nil) rfl (by exact ⟨p, (wI pen most).2, _, hp7.mono (by omega), by omega, by omega, rfl, rfl, rfl⟩) s0) rfl
        ⟨hI.1, by rw [hsq.len, ← hmm]; exact hI.2⟩ (by
          show (wRows pen most)[(wI pen most).1.toNat]? = some _
          rw [List.getD_eq_getElem?_getD, List.getElem?_eq_getElem hIn]; rfl) ⟨hJ.1, by
          show _ < ((((wRows pen most).getD (wI pen most).1.toNat []).length : Nat) : Int)
          rw [hrow, ← hmm]; exact hJ.2⟩ s5 ?_
      exact dss_nil (.own (by rw [webP, if_pos hcc]) (.keep (.keep (.keep (.keep (.own (by rw [webP, if_pos hcc]; rfl) (.keep (.keep (.keep .nil)))))))))
    · have hcc : ¬ (takeP (wP4 pen most) 6).1 = 0 := by simpa using hc
      exact dss_nil (.own (by rw [webP, if_neg hcc]; rfl) (.keep (.keep (.keep (.keep (.own (by rw [webP, if_neg hcc]) (.keep (.keep (.keep .nil)))))))))
    · obtain ⟨hweb, hin⟩ := web_webP (pen := pen) hm1 hm8
      have hwl := hweb.len
      refine dss_fz (i := 5) rfl ?_
      refine ret (tuple (lcV (lcm [("_law_row", 7)] (di_list (v 5 rfl)) (by omega) fun y7 hy7 => ⟨_, _, _, by decide, (tgN 7 s7), (tuple (v 7 rfl) (seenS_L seen_imm)), (SetAt.wk s7 rfl)⟩)) (seenS_L seen_new)) ?_
      rw [List.map_id']
      exact ⟨.own 0 rfl (.imm .nil), .same⟩


end
end PD

set_option Elab.async false
set_option linter.all false
set_option maxRecDepth 100000
set_option maxHeartbeats 4000000
namespace PD
open PySem L2
local macro_rules | `(tactic| walk_at "ret") => `(tactic| exact ⟨.imm (.imm .nil), .same⟩)
local macro_rules | `(tactic| walk_at "ret1") => `(tactic| exact ⟨.imm .nil, .same⟩)
local macro_rules | `(tactic| walk_at "wk") => `(tactic| repeat (first | exact Wk.nil | refine Wk.keep ?_ | refine Wk.forget ?_))
local macro_rules | `(tactic| walk_at "lclen") => `(tactic| ((try simp only [rng_len, List.length_map]); omega))
local macro_rules | `(tactic| walk_at "rg") => `(tactic| omega)
local macro_rules | `(tactic| walk_at "app") => `(tactic| (simp; omega))
/-! ### letters' powers put together -/
def stepIn (most a number : Int) (found : List Int) (bf : Int × Int) : List Int := if a + bf.1 ≤ most then found.set (a + bf.1).toNat (nth found (a + bf.1) + number * bf.2) else found
def stepOut (most : Int) (other : List Int) (found : List Int) (an : Int × Int) : List Int := (en 0 other).foldl (stepIn most an.1 an.2) found
def noughts (n : Int) : List Int := (List.replicate n.toNat [(0 : Int)]).flatten
def timesF (one other : List Int) (most : Int) : List Int := (en 0 one).foldl (stepOut most other) (noughts (most + 1))
theorem noughts_len (n : Int) : (noughts n).length = n.toNat := by unfold noughts; simp
theorem stepIn_len {most a number : Int} {found : List Int} {bf : Int × Int} : (stepIn most a number found bf).length = found.length := by
  unfold stepIn; split <;> simp
theorem foldIn_len {most a number : Int} : ∀ (bfs : List (Int × Int)) (found : List Int), (bfs.foldl (stepIn most a number) found).length = found.length
  | [], _ => rfl
  | bf :: bfs, found => by rw [List.foldl_cons, foldIn_len bfs, stepIn_len]
theorem foldOut_len {most : Int} {other : List Int} : ∀ (ans : List (Int × Int)) (found : List Int), (ans.foldl (stepOut most other) found).length = found.length
  | [], _ => rfl
  | an :: ans, found => by rw [List.foldl_cons, foldOut_len ans]; exact foldIn_len _ _
def Bits (B : Nat) (xs : List Int) : Prop := ∀ x ∈ xs, x.natAbs < 2 ^ B
/-! ### all orders of places -/
def ordOne (k : Int) (rs : List Int × Int) (a : Int) : List Int × Int := (cut rs.1 none (some a) ++ [k] ++ cut rs.1 (some a) none, rs.2 * nth [1, -1] (((rs.1.length : Int) - a) % 2))
def ordExt (k : Int) (rs : List Int × Int) : List (List Int × Int) := (rng 0 ((rs.1.length : Int) + 1)).map (ordOne k rs)
def ordStep (found : List (List Int × Int)) (k : Int) : List (List Int × Int) := found.flatMap (ordExt k)
def ordersN (n : Nat) : List (List Int × Int) := (rng 0 n).foldl ordStep [([], 1)]
/-- what is asked of them -/
def ordOk (n : Nat) (os : List (List Int × Int)) : Bool := decide (os.length ≤ 24) && os.all fun rs => decide (rs.1.length = n) && decide (rs.2.natAbs = 1) && rs.1.all fun x => decide (0 ≤ x) && decide (x < n)
theorem orders_ok : ∀ n : Nat, n ≤ 4 → ordOk n (ordersN n) = true
  | 0, _ => by decide
  | 1, _ => by decide
  | 2, _ => by decide
  | 3, _ => by decide
  | 4, _ => by decide +kernel
  | n + 5, h => by omega
theorem rng_prefix {n : Nat} {pre suf : List Int} {x : Int} (h : rng 0 n = pre ++ x :: suf) : pre = rng 0 pre.length ∧ x = pre.length ∧ pre.length < n := by
  have hl : pre.length + (suf.length + 1) = n := by have := congrArg List.length h; rw [rng_len] at this; simp at this; omega
  have hs : rng 0 (n : Int) = rng 0 (pre.length : Int) ++ rng pre.length n := rng_split (by omega) (by omega)
  have e := h.symm.trans hs
  have hl2 : pre.length = (rng 0 (pre.length : Int)).length := by rw [rng_len]; omega
  obtain ⟨e1, e2⟩ := List.append_inj e hl2
  refine ⟨e1, ?_, by omega⟩
  have e3 : (rng (pre.length : Int) n)[0]? = some x := by rw [← e2]; rfl
  have := (rng_get e3).1
  omega
theorem ordExt_len {k : Int} {rs : List Int × Int} : (ordExt k rs).length = rs.1.length + 1 := by unfold ordExt; rw [List.length_map, rng_len]; omega
theorem flat_len {α β : Type} {f : α → List β} {c : Nat} : ∀ {xs : List α}, (∀ x ∈ xs, (f x).length ≤ c) → (xs.flatMap f).length ≤ xs.length * c
  | [], _ => by simp
  | x :: xs, h => by
    have h1 := h x (by simp)
    have h2 := flat_len (f := f) (xs := xs) fun y hy => h y (by simp [hy])
    rw [List.flatMap_cons, List.length_append, List.length_cons, Nat.add_mul]; omega
theorem sgn_in {z : Int} : (nth [(1 : Int), -1] (z % 2)).natAbs < 2 ^ 3 := by
  have h2 : z % 2 = 0 ∨ z % 2 = 1 := by omega
  rcases h2 with h2 | h2 <;> rw [h2] <;> decide
section
variable {P : Program} {w : World} {K : PySem.W.Frag} {mg : Str → Option Value} {base : Heap} [BltG mg]
def S_law_times (as as' : List Slot) (r : Res) : Prop := ∃ (one other : List Int) (most : Int) (A B : Nat), Bits A one ∧ Bits B other ∧ A + B ≤ 100000000 ∧ one.length ≤ 1000 ∧ other.length ≤ 1000 ∧ 0 ≤ most ∧ most ≤ 1000 ∧ as = [.imm (RL RInt) one, .imm (RL RInt) other, .imm RInt most] ∧ as' = as ∧ r = .new (OL RInt) (timesF one other most)
def S_law_orders (as as' : List Slot) (r : Res) : Prop := ∃ n : Nat, n ≤ 4 ∧ as = [.imm RInt n] ∧ as' = as ∧ r = .imm (RL (R2T RInts RInt)) (ordersN n)

abbrev s_law_times : Stmt := topS 32
abbrev n_law_times : List Str := ["_law_one_here", "_law_other", "_law_most", "_law_found", "_law_a", "_law_number", "_law_b", "_law_factor"]
theorem sc_law_times : FnScope n_law_times ["_law_one_here", "_law_other", "_law_most"] (defScope s_law_times) := ⟨rfl, rfl, rfl, by decide +kernel, rfl, by decide +kernel, by decide +kernel⟩
theorem w_law_times (F : FnM K mg "_law_times" s_law_times ["_law_one_here", "_law_other", "_law_most"]) : Cal P w K mg base "_law_times" 3 1 S_law_times := by
  refine fnM F sc_law_times (fun as as' r hS => by obtain ⟨_, _, _, _, _, _, _, _, _, _, _, _, e, _⟩ := hS; rw [e]; rfl) (by decide) fun f cdv AA outer sh H E as as' r hr hFam hS => ?_
  obtain ⟨one, other, most, A, B, h1, h2, hAB, hl1, hl2, hm0, hm, rfl, rfl, rfl⟩ := hS
  show DSs _ [.imm (RL RInt) one, .imm (RL RInt) other, .imm RInt most, .any, .any, .any, .any, .any] _ _
  refine asgN 3 (mul (dv_lst (R := RInt) (xs := [_]) (a1 dv_int a0) (Nat.le_of_ble_eq_true rfl)) (dv_add (v 2 rfl) dv_int) (mul_L seen_new (by omega) (by omega) (by simp; omega))) (fun _ => s3) fun p3 => ?_
  refine forE (fun pre => [.imm (RL RInt) one, .imm (RL RInt) other, .imm RInt most, .own p3 (OL RInt) (pre.foldl (stepOut most other) (noughts (most + 1))), .any, .any, .any, .any]) (di_enumL (v 0 rfl) (fun _ => rfl) (fun _ => rfl) (fun _ => rfl)) (by walk_at "wk") (fun pre x suf hx => ⟨_, _, (tg2 (tgN 4 s4) (tgN 5 s5)), ?_⟩) ?_
  · obtain ⟨a, number⟩ := x
    obtain ⟨ha0, ha1, hn1⟩ := en_mem (show (a, number) ∈ en 0 one by rw [hx]; simp)
    refine forE (fun pre2 => [.imm (RL RInt) one, .imm (RL RInt) other, .imm RInt most, .own p3 (OL RInt) (pre2.foldl (stepIn most a number) (pre.foldl (stepOut most other) (noughts (most + 1)))), .imm RInt a, .imm RInt number, .any, .any]) (di_enumL (v 1 rfl) (fun _ => rfl) (fun _ => rfl) (fun _ => rfl)) (by walk_at "wk") (fun pre2 x2 suf2 hx2 => ⟨_, _, (tg2 (tgN 6 s6) (tgN 7 s7)), ?_⟩) ?_
    · obtain ⟨b, factor⟩ := x2
      obtain ⟨hb0, hb1, hf1⟩ := en_mem (show (b, factor) ∈ en 0 other by rw [hx2]; simp)
      have hlen : (pre2.foldl (stepIn most a number) (pre.foldl (stepOut most other) (noughts (most + 1)))).length = (most + 1).toNat := by rw [foldIn_len, foldOut_len, noughts_len]
      have ha0' : 0 ≤ a := ha0
      have hb0' : 0 ≤ b := hb0
      refine iffJ [.imm (RL RInt) one, .imm (RL RInt) other, .imm RInt most, .own p3 (OL RInt) (stepIn most a number (pre2.foldl (stepIn most a number) (pre.foldl (stepOut most other) (noughts (most + 1)))) (b, factor)), .imm RInt a, .imm RInt number, .imm RInt b, .imm RInt factor] (dt_le (dv_add (v 4 rfl) (v 6 rfl)) (v 2 rfl)) (fun hc => ?_) (fun hc => ?_) ?_
      · have hcc : a + b ≤ most := by simpa using hc
        refine setix 3 (dv_add (ix (vO 3 rfl) (dv_add (v 4 rfl) (v 6 rfl)) (ix_L (seen_view 3 rfl) (nth_ok (by rw [hlen]; omega)))) (dv_mul (v 5 rfl) (v 7 rfl) (by exact mulx_ok (h1 _ hn1) (h2 _ hf1) (by omega)))) (vO 3 rfl) (dv_add (v 4 rfl) (v 6 rfl)) rfl (by rw [hlen]; omega) s3 ?_
        exact dss_nil (.keep (.keep (.keep (.own (by rw [stepIn, if_pos hcc]) (.keep (.keep (.keep (.keep .nil))))))))
      · have hcc : ¬ a + b ≤ most := by simpa using hc
        exact dss_nil (.keep (.keep (.keep (.own (by rw [stepIn, if_neg hcc]) (.keep (.keep (.keep (.keep .nil))))))))
      exact dss_nil (.keep (.keep (.keep (.own (by rw [List.foldl_append]; rfl) (.keep (.keep (.forget (.forget .nil))))))))
    exact dss_nil (.keep (.keep (.keep (.own (by rw [List.foldl_append]; rfl) (.forget (.forget (.keep (.keep .nil))))))))
  refine ret (vO 3 rfl) ?_
  exact ⟨.imm (.imm (.imm .nil)), .out 3 rfl (fun i p' β S y h => by rcases i with _|_|_|i <;> simp at h)⟩
abbrev s_law_orders : Stmt := topS 33
abbrev n_law_orders : List Str := ["_law_many", "_law_found", "_law_k", "_law_longer", "_law_row", "_law_sort", "_law_at"]
theorem sc_law_orders : FnScope n_law_orders ["_law_many"] (defScope s_law_orders) := ⟨rfl, rfl, rfl, by decide +kernel, rfl, by decide +kernel, by decide +kernel⟩
theorem w_law_orders (F : FnM K mg "_law_orders" s_law_orders ["_law_many"]) : Cal P w K mg base "_law_orders" 1 1 S_law_orders := by
  refine fnM F sc_law_orders (fun as as' r hS => by obtain ⟨_, _, e, _⟩ := hS; rw [e]; rfl) (by decide) fun f cdv AA outer sh H E as as' r hr hFam hS => ?_
  obtain ⟨n, hn, rfl, rfl, rfl⟩ := hS
  show DSs _ [.imm RInt (n : Int), .any, .any, .any, .any, .any, .any] _ _
  refine asg 1 (dv_fz (R := OL (R2T (RT RInt) RInt)) (dv_lst (R := (R2T (RT RInt) RInt)) (xs := [_]) (a1 (dv_tup2 (a1 (dv_tup (R := RInt) (xs := []) a0 (by decide)) (a1 dv_int a0))) a0) (Nat.le_of_ble_eq_true rfl))) s1 ?_
  refine forE (fun pre => [.imm RInt (n : Int), .imm (RL (R2T RInts RInt)) (pre.foldl ordStep [([], 1)]), .any, .any, .any, .any, .any]) (rg1 (v 0 rfl) (by simp at *; omega)) (by walk_at "wk") (fun pre x suf hx => ⟨_, _, (tgN 2 s2), ?_⟩) ?_
  · obtain ⟨q1, q2, q3⟩ := rng_prefix hx
    have hok := orders_ok pre.length (by omega)
    unfold ordersN at hok
    rw [← q1] at hok
    simp only [ordOk, Bool.and_eq_true, decide_eq_true_eq, List.all_eq_true] at hok
    obtain ⟨ok1, ok2⟩ := hok
    refine asgN 3 (dv_lst (R := (R2T (RT RInt) RInt)) (xs := []) a0 (Nat.le_of_ble_eq_true rfl)) (fun _ => s3) fun p3 => ?_
    refine forE (fun pre2 => [.imm RInt (n : Int), .imm (RL (R2T RInts RInt)) (pre.foldl ordStep [([], 1)]), .imm RInt x, .own p3 (OL (R2T RInts RInt)) (pre2.flatMap (ordExt x)), .any, .any, .any]) (di_list (v 1 rfl)) (by walk_at "wk") (fun pre2 x2 suf2 hx2 => ⟨_, _, (tg2 (tgN 4 s4) (tgN 5 s5)), ?_⟩) ?_
    · have hx2m : x2 ∈ pre.foldl ordStep [([], 1)] := by rw [hx2]; simp
      obtain ⟨⟨t1, t2⟩, t3⟩ := ok2 x2 hx2m
      have hp2 : pre2.length < 24 := by have := congrArg List.length hx2; simp at this; omega
      have hfl : (pre2.flatMap (ordExt x)).length ≤ pre2.length * 5 := flat_len fun y hy => by
        rw [ordExt_len]
        have := (ok2 y (by rw [hx2]; simp [hy])).1.1
        omega
      obtain ⟨row, sort⟩ := x2
      refine forE (fun pre3 => [.imm RInt (n : Int), .imm (RL (R2T RInts RInt)) (pre.foldl ordStep [([], 1)]), .imm RInt x, .own p3 (OL (R2T RInts RInt)) (pre2.flatMap (ordExt x) ++ pre3.map (ordOne x (row, sort))), .imm RInts row, .imm RInt sort, .any]) (rg1 (dv_add (len (v 4 rfl) seenN_T) dv_int) (by simp at *; omega)) (.keep (.keep (.keep (.own (by simp) (.keep (.keep (.keep .nil))))))) (fun pre3 x3 suf3 hx3 => ⟨_, _, (tgN 6 s6), ?_⟩) ?_
      · have hx3m := rng_mem (show x3 ∈ rng 0 ((row.length : Int) + 1) by rw [hx3]; simp)
        have hp3 : pre3.length ≤ 5 := by have := congrArg List.length hx3; rw [rng_len] at this; simp at this t1; omega
        have t1' : row.length = pre.length := t1
        have t2' : sort.natAbs = 1 := t2
        refine ex (app 3 (vO 3 rfl) (dv_tup2 (a1 (add (add (dv_slT (v 4 rfl) do_none (do_some (v 6 rfl))) (dv_tup (R := RInt) (xs := [_]) (a1 (v 2 rfl) a0) (Nat.le_of_ble_eq_true rfl)) (add_T (by have := cut_len row none (some x3); have := cut_len row (some x3) none; simp; omega))) (dv_slT (v 4 rfl) (do_some (v 6 rfl)) do_none) (add_T (by have := cut_len row none (some x3); have := cut_len row (some x3) none; simp; omega))) (a1 (dv_mul (v 5 rfl) (ix (dv_lst (R := RInt) (xs := [_, _]) (a1 dv_int (a1 (dv_neg dv_int) a0)) (Nat.le_of_ble_eq_true rfl)) (dv_mod (dv_sub (len (v 4 rfl) seenN_T) (v 6 rfl)) dv_int (by decide)) (ix_L seen_new (nth_ok (by show 0 ≤ _ ∧ _ < ((2 : Nat) : Int); omega)))) (by exact mulx_ok (a := 3) (b := 3) (by omega) sgn_in (by decide))) a0))) rfl rfl (by rw [List.length_append, List.length_map]; omega) s3) ?_
        exact dss_nil (.keep (.keep (.keep (.own (by simp [ordOne]) (.keep (.keep (.forget .nil)))))))
      exact dss_nil (.keep (.keep (.keep (.own (by simp [ordExt]) (.forget (.forget (.keep .nil)))))))
    refine dss_fz (i := 3) rfl ?_
    refine asg 1 (v 3 rfl) s1 ?_
    exact dss_nil (.keep (.imm (by rw [List.foldl_append]; rfl) (.forget (.forget (.keep (.keep (.keep .nil)))))))
  refine ret (v 1 rfl) ?_
  exact ⟨.imm .nil, .same⟩
end
end PD

set_option Elab.async false
set_option linter.all false
set_option maxRecDepth 100000
set_option maxHeartbeats 4000000
namespace PD
open PySem L2
local macro_rules | `(tactic| walk_at "ret") => `(tactic| exact ⟨.imm (.imm .nil), .same⟩)
local macro_rules | `(tactic| walk_at "ret1") => `(tactic| exact ⟨.imm .nil, .same⟩)
local macro_rules | `(tactic| walk_at "wk") => `(tactic| repeat (first | exact Wk.nil | refine Wk.keep ?_ | refine Wk.forget ?_))
local macro_rules | `(tactic| walk_at "lclen") => `(tactic| ((try simp only [rng_len, List.length_map]); omega))
local macro_rules | `(tactic| walk_at "rg") => `(tactic| omega)
local macro_rules | `(tactic| walk_at "app") => `(tactic| (simp; omega))
/-! ### how great the numbers grow -/
def Upto (M c : Nat) (xs : List Int) : Prop := ∀ x ∈ xs, x.natAbs ≤ c * M
theorem upto_nth {M c : Nat} {xs : List Int} (h : Upto M c xs) (i : Int) : (nth xs i).natAbs ≤ c * M := by
  unfold nth
  rw [List.getD_eq_getElem?_getD]
  by_cases hi : i.toNat < xs.length
  · rw [List.getElem?_eq_getElem hi]; exact h _ (List.getElem_mem hi)
  · rw [List.getElem?_eq_none (by omega)]; exact Nat.zero_le _
theorem upto_stepIn {M c : Nat} {most a number : Int} {found : List Int} {bf : Int × Int} (h : Upto M c found) (hm : (number * bf.2).natAbs ≤ M) : Upto M (c + 1) (stepIn most a number found bf) := fun x hx => by
  unfold stepIn at hx
  have e : (c + 1) * M = c * M + M := by rw [Nat.add_mul, Nat.one_mul]
  split at hx
  · rcases set_mem hx with hx | hx
    · have := h x hx; omega
    · have h1 := upto_nth h (a + bf.1)
      have h2 := Int.natAbs_add_le (nth found (a + bf.1)) (number * bf.2)
      rw [hx]; omega
  · have := h x hx; omega
theorem upto_foldIn {M : Nat} {most a number : Int} : ∀ (bfs : List (Int × Int)) {c : Nat} {found : List Int}, Upto M c found → (∀ bf ∈ bfs, (number * bf.2).natAbs ≤ M) → Upto M (c + bfs.length) (bfs.foldl (stepIn most a number) found)
  | [], c, found, h, _ => h
  | bf :: bfs, c, found, h, hm => by
    have := upto_foldIn (most := most) (a := a) bfs (c := c + 1) (found := stepIn most a number found bf) (upto_stepIn h (hm bf (by simp))) fun b hb => hm b (by simp [hb])
    rw [List.foldl_cons, List.length_cons, show c + (bfs.length + 1) = c + 1 + bfs.length by omega]; exact this
theorem upto_foldOut {M : Nat} {most : Int} {other : List Int} : ∀ (ans : List (Int × Int)) {c : Nat} {found : List Int}, Upto M c found → (∀ an ∈ ans, ∀ f ∈ other, (an.2 * f).natAbs ≤ M) → Upto M (c + ans.length * other.length) (ans.foldl (stepOut most other) found)
  | [], c, found, h, _ => by simpa using h
  | an :: ans, c, found, h, hm => by
    have h1 : Upto M (c + (en 0 other).length) (stepOut most other found an) := upto_foldIn (en 0 other) h fun bf hb => hm an (by simp) _ (en_mem hb).2.2
    rw [en_len] at h1
    have := upto_foldOut (most := most) ans (c := c + other.length) (found := stepOut most other found an) h1 fun b hb => hm b (by simp [hb])
    rw [List.foldl_cons, List.length_cons, Nat.add_mul, Nat.one_mul, show c + (ans.length * other.length + other.length) = c + other.length + ans.length * other.length by omega]; exact this
theorem bits_timesF {A B : Nat} {one other : List Int} {most : Int} (h1 : Bits A one) (h2 : Bits B other) (l1 : one.length ≤ 1000) (l2 : other.length ≤ 1000) : Bits (A + B + 20) (timesF one other most) := fun x hx => by
  have hu : Upto (2 ^ (A + B)) (0 + (en 0 one).length * other.length) (timesF one other most) := upto_foldOut _ (fun x hx => by
    unfold noughts at hx
    simp at hx
    rw [hx.2]; simp) fun an ha f hf => by
    rw [Int.natAbs_mul, Nat.pow_add]
    exact Nat.le_of_lt (Nat.mul_lt_mul'' (h1 _ (en_mem ha).2.2) (h2 _ hf))
  have := hu x hx
  rw [en_len] at this
  have hl : 0 + one.length * other.length ≤ 1000 * 1000 := by rw [Nat.zero_add]; exact Nat.mul_le_mul l1 l2
  have h3 : (0 + one.length * other.length) * 2 ^ (A + B) ≤ 1000 * 1000 * 2 ^ (A + B) := Nat.mul_le_mul_right _ hl
  have h4 : (1000 * 1000) * 2 ^ (A + B) < 2 ^ 20 * 2 ^ (A + B) := Nat.mul_lt_mul_of_pos_right (by decide) (Nat.two_pow_pos _)
  rw [Nat.pow_add, Nat.mul_comm (2 ^ (A + B))]
  omega
theorem timesF_len {one other : List Int} {most : Int} : (timesF one other most).length = (most + 1).toNat := by unfold timesF; rw [foldOut_len, noughts_len]
theorem Bits.mono {A B : Nat} {xs : List Int} (h : Bits A xs) (hAB : A ≤ B) : Bits B xs := fun x hx => Nat.lt_of_lt_of_le (h x hx) (Nat.pow_le_pow_right (by decide) hAB)
theorem ediv_abs {a k : Int} (hk : 1 ≤ k) : (a / k).natAbs ≤ a.natAbs := by
  by_cases ha : 0 ≤ a
  · have h1 := Int.ediv_nonneg ha (by omega : 0 ≤ k)
    have h2 := Int.ediv_le_self k ha
    omega
  · have h1 : a / k < 0 := Int.ediv_neg_of_neg_of_pos (by omega) (by omega)
    have h2 : a ≤ a / k := (Int.le_ediv_iff_mul_le (by omega)).mpr (by
      have : a * k ≤ a * 1 := Int.mul_le_mul_of_nonpos_left (by omega) hk
      omega)
    omega
/-! ### ones less a letter, to a power -/
def powStep (size many : Int) (st : List Int × Int) (k : Int) : List Int × Int := (st.1.set (k * size).toNat (st.2 * (many - k + 1) / k * nth [1, -1] (k % 2)), st.2 * (many - k + 1) / k)
def powerF (size many most : Int) : List Int := ((rng 1 (most / size + 1)).foldl (powStep size many) ([1] ++ noughts most, 1)).1
theorem pow_next {B C : Nat} {many f k : Int} (hm : many.natAbs < 2 ^ B) (hf : f.natAbs < 2 ^ C) (h1 : 1 ≤ k) (h2 : k ≤ 1000) : (many - k + 1).natAbs < 2 ^ (B + 11) ∧ (f * (many - k + 1) / k).natAbs < 2 ^ (C + (B + 11)) := by
  have hp : 0 < 2 ^ B := Nat.two_pow_pos _
  have e : 2 ^ (B + 11) = 2 ^ B * 2048 := by rw [Nat.pow_add]
  have h3 : (many - k + 1).natAbs < 2 ^ (B + 11) := by omega
  exact ⟨h3, Nat.lt_of_le_of_lt (ediv_abs h1) (by rw [Int.natAbs_mul, Nat.pow_add]; exact Nat.mul_lt_mul'' hf h3)⟩
theorem pow_bits {size many : Int} {B : Nat} (hm : many.natAbs < 2 ^ B) : ∀ (ks : List Int) {C : Nat} {st : List Int × Int}, (∀ k ∈ ks, 1 ≤ k ∧ k ≤ 1000) → st.2.natAbs < 2 ^ C → Bits C st.1 → (ks.foldl (powStep size many) st).2.natAbs < 2 ^ (C + (B + 11) * ks.length) ∧ Bits (C + (B + 11) * ks.length) (ks.foldl (powStep size many) st).1 ∧ (ks.foldl (powStep size many) st).1.length = st.1.length
  | [], C, st, _, h, h2 => ⟨h, h2, rfl⟩
  | k :: ks, C, st, hk, h, h2 => by
    obtain ⟨k1, k2⟩ := hk k (by simp)
    have hn := (pow_next hm h k1 k2).2
    have hb : Bits (C + (B + 11)) (powStep size many st k).1 := fun x hx => by
      rcases set_mem hx with hx | hx
      · exact h2.mono (by omega) x hx
      · rw [hx, Int.natAbs_mul]
        have hs : (nth [(1 : Int), -1] (k % 2)).natAbs = 1 := by
          have h2 : k % 2 = 0 ∨ k % 2 = 1 := by omega
          rcases h2 with h2 | h2 <;> rw [h2] <;> decide
        rw [hs, Nat.mul_one]; exact hn
    obtain ⟨q1, q2, q3⟩ := pow_bits hm ks (st := powStep size many st k) (fun k hk' => hk k (by simp [hk'])) hn hb
    have e : C + (B + 11) * (ks.length + 1) = C + (B + 11) + (B + 11) * ks.length := by rw [Nat.mul_add]; omega
    rw [List.foldl_cons, List.length_cons, e]
    exact ⟨q1, q2, q3.trans (by unfold powStep; rw [List.length_set])⟩
/-! ### the determinant -/
def linStep (web : Mat) (most : Int) (row : List Int) (po : Int × Int) : List Int := timesF row [b2n (decide (po.1 = po.2)), 0 - nth (nth web po.1) po.2] most
def detRow (web : Mat) (most : Int) (rs : List Int × Int) : List Int := (en 0 rs.1).foldl (linStep web most) [rs.2] ++ noughts (most + 1)
def detStep (web : Mat) (most : Int) (found : List Int) (rs : List Int × Int) : List Int := (en 0 found).map fun kn => kn.2 + nth (detRow web most rs) kn.1
def detF (web : Mat) (most : Int) : List Int := (ordersN web.length).foldl (detStep web most) (noughts (most + 1))
theorem lin_bits {n B : Nat} {web : Mat} {most : Int} (hsq : Sq n web) (hb : Bd B web) (hB : 1 ≤ B) (hm : 0 ≤ most ∧ most ≤ 100) : ∀ (pos : List (Int × Int)) {C : Nat} {row : List Int}, (∀ po ∈ pos, (0 ≤ po.1 ∧ po.1 < n) ∧ (0 ≤ po.2 ∧ po.2 < n)) → Bits C row → row.length ≤ 101 →
    Bits (C + (B + 20) * pos.length) (pos.foldl (linStep web most) row) ∧ (pos.foldl (linStep web most) row).length ≤ 101
  | [], C, row, _, h, hl => ⟨h, hl⟩
  | po :: pos, C, row, hp, h, hl => by
    obtain ⟨p1, p2⟩ := hp po (by simp)
    have hw := hb.at hsq p1 p2
    have h2 : Bits B [b2n (decide (po.1 = po.2)), 0 - nth (nth web po.1) po.2] := fun x hx => by
      simp at hx
      rcases hx with hx | hx
      · have : (1 : Nat) < 2 ^ B := Nat.one_lt_two_pow (by omega)
        rw [hx]; unfold b2n; split <;> simp <;> omega
      · rw [hx]; omega
    have h3 := bits_timesF (most := most) h h2 (by omega) (by simp)
    obtain ⟨q1, q2⟩ := lin_bits hsq hb hB hm pos (row := linStep web most row po) (fun z hz => hp z (by simp [hz])) h3 (by unfold linStep; rw [timesF_len]; omega)
    have e : C + (B + 20) * (pos.length + 1) = C + B + 20 + (B + 20) * pos.length := by rw [Nat.mul_add]; omega
    rw [List.foldl_cons, List.length_cons, e]
    exact ⟨q1, q2⟩
theorem detStep_len {web : Mat} {most : Int} : ∀ (rss : List (List Int × Int)) (found : List Int), (rss.foldl (detStep web most) found).length = found.length
  | [], _ => rfl
  | rs :: rss, found => by rw [List.foldl_cons, detStep_len rss]; unfold detStep; rw [List.length_map, en_len]
theorem pow_start (most : Int) : Bits 2 ([1] ++ noughts most) := fun x hx => by
  unfold noughts at hx
  simp at hx
  rcases hx with hx | hx
  · rw [hx]; decide
  · rw [hx.2]; decide
theorem lin2 {B : Nat} {k : Bool} {x : Int} (hB : 1 ≤ B) (hx : x.natAbs < 2 ^ B) : Bits B [b2n k, 0 - x] := fun y hy => by
  simp at hy
  rcases hy with hy | hy
  · have : (1 : Nat) < 2 ^ B := Nat.one_lt_two_pow (by omega)
    rw [hy]; unfold b2n; split <;> simp <;> omega
  · rw [hy]; omega
section
variable {P : Program} {w : World} {K : PySem.W.Frag} {mg : Str → Option Value} {base : Heap} [BltG mg]
def S_law_power (as as' : List Slot) (r : Res) : Prop := ∃ (size many most : Int) (B : Nat), 1 ≤ size ∧ 0 ≤ most ∧ most ≤ 100 ∧ size ≤ 100 ∧ many.natAbs < 2 ^ B ∧ B ≤ 100000 ∧ as = [.imm RInt size, .imm RInt many, .imm RInt most] ∧ as' = as ∧ r = .new (OL RInt) (powerF size many most)
def S_law_determinant (as as' : List Slot) (r : Res) : Prop := ∃ (n : Nat) (web : Mat) (most : Int) (B : Nat), Sq n web ∧ n ≤ 4 ∧ Bd B web ∧ 1 ≤ B ∧ B ≤ 100000 ∧ 0 ≤ most ∧ most ≤ 100 ∧ as = [.imm RWeb web, .imm RInt most] ∧ as' = as ∧ r = .imm (RL RInt) (detF web most)

abbrev s_law_power : Stmt := topS 35
abbrev n_law_power : List Str := ["_law_size", "_law_many", "_law_most", "_law_found", "_law_factor", "_law_k"]
theorem sc_law_power : FnScope n_law_power ["_law_size", "_law_many", "_law_most"] (defScope s_law_power) := ⟨rfl, rfl, rfl, by decide +kernel, rfl, by decide +kernel, by decide +kernel⟩
theorem w_law_power (F : FnM K mg "_law_power" s_law_power ["_law_size", "_law_many", "_law_most"]) : Cal P w K mg base "_law_power" 3 1 S_law_power := by
  refine fnM F sc_law_power (fun as as' r hS => by obtain ⟨_, _, _, _, _, _, _, _, _, _, e, _⟩ := hS; rw [e]; rfl) (by decide) fun f cdv AA outer sh H E as as' r hr hFam hS => ?_
  obtain ⟨size, many, most, B, hs1, hm0, hm, hs2, hmany, hB, rfl, rfl, rfl⟩ := hS
  have hd0 := Int.ediv_nonneg hm0 (by omega : 0 ≤ size)
  have hd1 := Int.ediv_le_self size hm0
  have hds := Int.ediv_mul_le most (by omega : size ≠ 0)
  show DSs _ [.imm RInt size, .imm RInt many, .imm RInt most, .any, .any, .any] _ _
  refine parN 3 4 (by decide) (a1 (add (dv_lst (R := RInt) (xs := [_]) (a1 dv_int a0) (Nat.le_of_ble_eq_true rfl)) (mul (dv_lst (R := RInt) (xs := [_]) (a1 dv_int a0) (Nat.le_of_ble_eq_true rfl)) (v 2 rfl) (mul_L seen_new (by omega) (by omega) (by simp; omega))) (add_L seen_new seen_new (by simp; omega))) (a1 dv_int a0)) (fun _ => s3) (fun _ => s4) fun p3 => ?_
  refine forE (fun pre => [.imm RInt size, .imm RInt many, .imm RInt most, .own p3 (OL RInt) (pre.foldl (powStep size many) ([1] ++ noughts most, 1)).1, .imm RInt (pre.foldl (powStep size many) ([1] ++ noughts most, 1)).2, .any]) (rg2 dv_int (dv_add (dv_fdiv (v 2 rfl) (v 0 rfl) (by first | exact wide_div (b := 10) (by omega) (by omega) (by decide) (by decide))) dv_int) (by omega)) (by walk_at "wk") (fun pre x suf hx => ⟨_, _, (tgN 5 s5), ?_⟩) ?_
  · have hx1 := rng_mem (show x ∈ rng 1 (most / size + 1) by rw [hx]; simp)
    have hpl : pre.length ≤ 100 := by have := congrArg List.length hx; rw [rng_len] at this; simp at this; omega
    obtain ⟨b1, b2, b3⟩ := pow_bits (size := size) hmany pre (C := 2) (st := ([1] ++ noughts most, 1)) (fun k hk => by have := rng_mem (show k ∈ rng 1 (most / size + 1) by rw [hx]; simp [hk]); omega) (show (1 : Int).natAbs < 2 ^ 2 by decide) (pow_start most)
    have hbb : (B + 11) * pre.length ≤ (B + 11) * 100 := Nat.mul_le_mul_left _ hpl
    obtain ⟨n1, n2⟩ := pow_next hmany b1 hx1.1 (by omega)
    have hxs : 0 ≤ x * size ∧ x * size ≤ most := ⟨Int.mul_nonneg (by omega) (by omega), Int.le_trans (Int.mul_le_mul_of_nonneg_right (by omega : x ≤ most / size) (by omega)) hds⟩
    have hlen3 : (pre.foldl (powStep size many) ([1] ++ noughts most, 1)).1.length = most.toNat + 1 := by rw [b3, List.length_append, noughts_len]; simp; omega
    refine asg 4 (dv_fdiv (dv_mul (v 4 rfl) (dv_add (dv_sub (v 1 rfl) (v 5 rfl)) dv_int) (by first | exact mulx_ok b1 n1 (by omega) | exact mulx_ok n2 sgn_in (by omega) | exact mulx_ok (a := 10) (b := 10) (by omega) (by omega) (by decide))) (v 5 rfl) (by first | exact wide_div (b := 10) (by omega) (by omega) (by decide) (by decide))) s4 ?_
    refine setix 3 (dv_mul (v 4 rfl) (ix (dv_lst (R := RInt) (xs := [_, _]) (a1 dv_int (a1 (dv_neg dv_int) a0)) (Nat.le_of_ble_eq_true rfl)) (dv_mod (v 5 rfl) dv_int (by decide)) (ix_L seen_new (nth_ok (by first | (show 0 ≤ _ ∧ _ < ((2 : Nat) : Int); omega) | (rw [hlen3]; omega))))) (by first | exact mulx_ok b1 n1 (by omega) | exact mulx_ok n2 sgn_in (by omega) | exact mulx_ok (a := 10) (b := 10) (by omega) (by omega) (by decide))) (vO 3 rfl) (dv_mul (v 5 rfl) (v 0 rfl) (by first | exact mulx_ok b1 n1 (by omega) | exact mulx_ok n2 sgn_in (by omega) | exact mulx_ok (a := 10) (b := 10) (by omega) (by omega) (by decide))) rfl (by first | (show 0 ≤ _ ∧ _ < ((2 : Nat) : Int); omega) | (rw [hlen3]; omega)) s3 ?_
    exact dss_nil (.keep (.keep (.keep (.own (by rw [List.foldl_append]; rfl) (.imm (by rw [List.foldl_append]; rfl) (.forget .nil))))))
  refine ret (vO 3 rfl) ?_
  exact ⟨.imm (.imm (.imm .nil)), .out 3 rfl (fun i p' β S y h => by rcases i with _|_|_|i <;> simp at h)⟩
abbrev s_law_determinant : Stmt := topS 34
abbrev n_law_determinant : List Str := ["_law_web_here", "_law_most", "_law_found", "_law_order", "_law_sort", "_law_row", "_law_place", "_law_other", "_law_k", "_law_number"]
theorem sc_law_determinant : FnScope n_law_determinant ["_law_web_here", "_law_most"] (defScope s_law_determinant) := ⟨rfl, rfl, rfl, by decide +kernel, rfl, by decide +kernel, by decide +kernel⟩
theorem w_law_determinant (F : FnM K mg "_law_determinant" s_law_determinant ["_law_web_here", "_law_most"]) (C__law_orders : Cal P w K mg base "_law_orders" 1 1 S_law_orders) (C__law_times : Cal P w K mg base "_law_times" 3 1 S_law_times) : Cal P w K mg base "_law_determinant" 2 2 S_law_determinant := by
  refine fnM F sc_law_determinant (fun as as' r hS => by obtain ⟨_, _, _, _, _, _, _, _, _, _, _, e, _⟩ := hS; rw [e]; rfl) (by decide) fun f cdv AA outer sh H E as as' r hr hFam hS => ?_
  obtain ⟨n, web, most, B, hsq, hn, hb, hB1, hB, hm0, hm, rfl, rfl, rfl⟩ := hS
  have hl := hsq.len
  show DSs _ [.imm RWeb web, .imm RInt most, .any, .any, .any, .any, .any, .any, .any, .any] _ _
  refine asg 2 (dv_fz (R := OL RInt) (mul (dv_lst (R := RInt) (xs := [_]) (a1 dv_int a0) (Nat.le_of_ble_eq_true rfl)) (dv_add (v 1 rfl) dv_int) (mul_L seen_new (by omega) (by omega) (by first | (simp; omega; done) | (have h1 : ((List.replicate (most + 1).toNat [(0 : Int)]).flatten).length = (most + 1).toNat := noughts_len _; omega))))) s2 ?_
  refine forE (fun pre => [.imm RWeb web, .imm RInt most, .imm (RL RInt) (pre.foldl (detStep web most) (noughts (most + 1))), .any, .any, .any, .any, .any, .any, .any]) (di_list (cal (as := [.imm RInt _]) C__law_orders hr (by decide) (a1 (len (v 0 rfl) seenN_T) a0) (Imms.cons Imms.nil) rfl (by exact ⟨web.length, by omega, rfl, rfl, rfl⟩))) (by walk_at "wk") (fun pre x suf hx => ⟨_, _, (tg2 (tgN 3 s3) (tgN 4 s4)), ?_⟩) ?_
  · have hok := orders_ok web.length (by omega)
    simp only [ordOk, Bool.and_eq_true, decide_eq_true_eq, List.all_eq_true] at hok
    obtain ⟨⟨t1, t2⟩, t3⟩ := hok.2 x (by rw [hx]; simp)
    obtain ⟨ord, sort⟩ := x
    have t1' : ord.length = web.length := t1
    have t2' : sort.natAbs = 1 := t2
    have t3' : ∀ o ∈ ord, 0 ≤ o ∧ o < (web.length : Int) := t3
    have hfl : (pre.foldl (detStep web most) (noughts (most + 1))).length = (most + 1).toNat := by rw [detStep_len, noughts_len]
    have hsort : Bits 1 [sort] := fun y hy => by simp at hy; rw [hy]; omega
    have hpos : ∀ po ∈ en 0 ord, (0 ≤ po.1 ∧ po.1 < n) ∧ (0 ≤ po.2 ∧ po.2 < n) := fun po hpo => by
      obtain ⟨e1, e2, e3⟩ := en_mem hpo
      have := t3' _ e3
      omega
    obtain ⟨_, hall⟩ := lin_bits hsq hb hB1 ⟨hm0, hm⟩ (en 0 ord) hpos hsort (by simp)
    refine asg 5 (dv_fz (R := OL RInt) (dv_lst (R := RInt) (xs := [_]) (a1 (v 4 rfl) a0) (Nat.le_of_ble_eq_true rfl))) s5 ?_
    refine forE (fun pre2 => [.imm RWeb web, .imm RInt most, .imm (RL RInt) (pre.foldl (detStep web most) (noughts (most + 1))), .imm RInts ord, .imm RInt sort, .imm (RL RInt) (pre2.foldl (linStep web most) [sort]), .any, .any, .any, .any]) (di_enumT (v 3 rfl) (fun _ => rfl) (fun _ => rfl) (fun _ => rfl)) (by walk_at "wk") (fun pre2 x2 suf2 hx2 => ⟨_, _, (tg2 (tgN 6 s6) (tgN 7 s7)), ?_⟩) ?_
    · have hx2m : x2 ∈ en 0 ord := by rw [hx2]; simp
      obtain ⟨hq1, hq2⟩ := hpos x2 hx2m
      obtain ⟨place, oth⟩ := x2
      have hq1' : 0 ≤ place ∧ place < n := hq1
      have hq2' : 0 ≤ oth ∧ oth < n := hq2
      have hp2 : pre2.length ≤ 4 := by have := congrArg List.length hx2; rw [en_len] at this; simp at this; omega
      obtain ⟨hlb, hll⟩ := lin_bits hsq hb hB1 ⟨hm0, hm⟩ pre2 (fun po hpo => hpos po (by rw [hx2]; simp [hpo])) hsort (by simp)
      have hbb : (B + 20) * pre2.length ≤ (B + 20) * 4 := Nat.mul_le_mul_left _ hp2
      have hw := hb.at hsq hq1' hq2'
      refine asg 5 (dv_fz (R := OL RInt) (cal (as := [.imm (RL RInt) _, .imm (RL RInt) _, .imm RInt _]) C__law_times hr (by decide) (a1 (v 5 rfl) (a1 (dv_fz (R := OL RInt) (dv_lst (R := RInt) (xs := [_, _]) (a1 (intB (dv_eqI (v 6 rfl) (v 7 rfl))) (a1 (dv_sub dv_int (ix (ix (v 0 rfl) (v 6 rfl) (ix_T (nth_ok (by first | (rw [hl]; exact hq1) | (rw [hsq.at hq1]; exact hq2) | (have h0 := en_mem hy8; have h1 : ((List.replicate (most + 1).toNat [(0 : Int)]).flatten).length = (most + 1).toNat := noughts_len _; rw [hfl] at h0; rw [List.length_append]; omega))))) (v 7 rfl) (ix_T (nth_ok (by first | (rw [hl]; exact hq1) | (rw [hsq.at hq1]; exact hq2) | (have h0 := en_mem hy8; have h1 : ((List.replicate (most + 1).toNat [(0 : Int)]).flatten).length = (most + 1).toNat := noughts_len _; rw [hfl] at h0; rw [List.length_append]; omega)))))) a0)) (Nat.le_of_ble_eq_true rfl))) (a1 (v 1 rfl) a0))) (Imms.cons (Imms.cons (Imms.cons Imms.nil))) rfl (by exact ⟨_, _, most, _, B, hlb, lin2 hB1 hw, by omega, by omega, by simp, hm0, by omega, rfl, rfl, rfl⟩))) s5 ?_
      exact dss_nil (.keep (.keep (.keep (.keep (.keep (.imm (by rw [List.foldl_append]; rfl) (.forget (.forget (.keep (.keep .nil))))))))))
    refine asg 5 (dv_fz (R := OL RInt) (add (v 5 rfl) (mul (dv_lst (R := RInt) (xs := [_]) (a1 dv_int a0) (Nat.le_of_ble_eq_true rfl)) (dv_add (v 1 rfl) dv_int) (mul_L seen_new (by omega) (by omega) (by first | (simp; omega; done) | (have h1 : ((List.replicate (most + 1).toNat [(0 : Int)]).flatten).length = (most + 1).toNat := noughts_len _; omega)))) (add_L seen_imm seen_new (by first | (simp; omega; done) | (have h1 : ((List.replicate (most + 1).toNat [(0 : Int)]).flatten).length = (most + 1).toNat := noughts_len _; omega))))) s5 ?_
    refine asgLc 2 (lcm [("_law_k", 8), ("_law_number", 9)] (di_enumL (v 2 rfl) (fun _ => rfl) (fun _ => rfl) (fun _ => rfl)) (by rw [en_len, hfl]; omega) fun y8 hy8 => ⟨_, _, _, by decide, (tg2 (tgN 8 s8) (tgN 9 s9)), (dv_add (v 9 rfl) (ix (v 5 rfl) (v 8 rfl) (ix_L seen_imm (nth_ok (by first | (rw [hl]; exact hq1) | (rw [hsq.at hq1]; exact hq2) | (have h0 := en_mem hy8; have h1 : ((List.replicate (most + 1).toNat [(0 : Int)]).flatten).length = (most + 1).toNat := noughts_len _; rw [hfl] at h0; rw [List.length_append]; omega)))))), (Wk.trans (SetAt.wk s9 rfl) (SetAt.wk s8 rfl))⟩) s2 ?_
    exact dss_nil (.keep (.keep (.imm (by rw [List.foldl_append]; rfl) (.forget (.forget (.forget (.keep (.keep (.keep (.keep .nil))))))))))
  refine ret (v 2 rfl) ?_
  exact ⟨.imm (.imm .nil), .same⟩
end
end PD

set_option Elab.async false
set_option linter.all false
set_option maxRecDepth 100000
set_option maxHeartbeats 4000000
namespace PD
open PySem L2
local macro_rules | `(tactic| walk_at "ret") => `(tactic| exact ⟨.imm (.imm .nil), .same⟩)
local macro_rules | `(tactic| walk_at "ret1") => `(tactic| exact ⟨.imm .nil, .same⟩)
local macro_rules | `(tactic| walk_at "wk") => `(tactic| repeat (first | exact Wk.nil | refine Wk.keep ?_ | refine Wk.forget ?_))
local macro_rules | `(tactic| walk_at "lclen") => `(tactic| ((try simp only [rng_len, List.length_map]); omega))
local macro_rules | `(tactic| walk_at "rg") => `(tactic| omega)
local macro_rules | `(tactic| walk_at "app") => `(tactic| (simp; omega))
/-! ### the law -/
def putStep (b : Int → Int) (put : List Int) (size : Int) : List Int := timesF put (powerF size (b size) 10) 10
def transp (m : Mat) : Mat := (rng 0 m.length).map fun k => (rng 0 m.length).map fun place => nth (nth m place) k
/-- all that the law asks of a web -/
structure Fine (n : Nat) (m : Mat) (b : Int → Int) : Prop where
  gau : Gau m b
  put : (rng 1 11).foldl (putStep b) ([1] ++ noughts 10) = detF m 10
  ro : ∀ o : List Int, o.Perm (rng 0 n) → Gau (reord m o) b ∧ ∀ k, mtr (reord m o).length (mpow (reord m o) k) = mtr m.length (mpow m k)
  tr : Gau (transp m) b ∧ ∀ k, mtr (transp m).length (mpow (transp m) k) = mtr m.length (mpow m k)
def turnP (pen : PenT) : PenT := (takeP (takeP (drawnP (webP (anew pen) 4).2 (webP (anew pen) 4).1.length).2 10).2 50).2
def penAt (pen : PenT) : Nat → PenT
  | 0 => pen
  | k + 1 => turnP (penAt pen k)
theorem at_anew {k : Int} {pen : PenT} (h : At k pen) : At k (anew pen) := h
theorem at_drawn {k : Int} {pen : PenT} {n : Nat} (h : At k pen) : At (k + n) (drawnP pen n).2 := by
  have := drawn_at (rng 0 n) (st := ([], pen)) h
  rw [rng_len] at this
  exact this.mono (by omega)
theorem web4 (pen : PenT) : Web (webP pen 4).1.length (webP pen 4).1 ∧ (webP pen 4).1.length ≤ 4 ∧ Bd 40 (webP pen 4).1 := by
  obtain ⟨h1, h2⟩ := web_webP (pen := pen) (most := 4) (by decide) (by decide)
  obtain ⟨m1, m2⟩ := many_in (pen := pen) (most := 4) (by decide)
  have hl := h1.len
  refine ⟨by rw [hl]; exact h1, by omega, fun r hr x hx => ?_⟩
  have := h2 r hr x hx
  omega
theorem at_turn {k : Int} {pen : PenT} (h : At k pen) : At (k + 141) (turnP pen) := by
  have h1 := at_webP (at_anew h) (most := 4) (by decide) (by decide)
  have h2 := (web4 (anew pen)).2.1
  exact (at_take (at_take (at_drawn h1))).mono (by omega)
theorem at_pen {pen : PenT} (h : At 0 pen) : ∀ j : Nat, At (141 * (j : Int)) (penAt pen j)
  | 0 => h
  | j + 1 => (at_turn (at_pen h j)).mono (by omega)
theorem drawn_perm (pen : PenT) (n : Nat) : (drawnP pen n).1.Perm (rng 0 n) := by
  unfold drawnP
  induction n with
  | zero => exact List.Perm.refl _
  | succ n ih =>
    rw [show (((n + 1 : Nat) : Int)) = (n : Int) + 1 by omega, rng_snoc (by omega), List.foldl_append]
    generalize (rng 0 (n : Int)).foldl drawnStep ([], pen) = st at ih
    show (drawnStep st (n : Int)).1.Perm _
    unfold drawnStep
    dsimp only
    rw [List.append_assoc]
    refine (List.perm_append_comm_assoc _ _ _).trans ?_
    rw [List.take_append_drop]
    exact (List.perm_append_comm (l₁ := [(n : Int)]) (l₂ := st.1)).trans (ih.append_right _)
theorem sq_reord {n : Nat} {m : Mat} {o : List Int} (ho : o.Perm (rng 0 n)) : Sq n (reord m o) where
  len := by unfold reord; rw [List.length_map, ho.length_eq, rng_len]; omega
  row := fun r hr => by
    unfold reord at hr
    obtain ⟨x, _, rfl⟩ := List.mem_map.mp hr
    rw [List.length_map, ho.length_eq, rng_len]; omega
theorem in_reord {n : Nat} {m : Mat} {o : List Int} (h : Sq n m) (ho : o.Perm (rng 0 n)) {r : List Int} (hr : r ∈ reord m o) {x : Int} (hx : x ∈ r) : ∃ r' ∈ m, x ∈ r' := by
  unfold reord at hr
  obtain ⟨p, hp, rfl⟩ := List.mem_map.mp hr
  obtain ⟨q, hq, rfl⟩ := List.mem_map.mp hx
  have h1 := rng_mem (ho.mem_iff.mp hp)
  have h2 := rng_mem (ho.mem_iff.mp hq)
  exact ⟨nth m p, nth_mem (by rw [h.len]; exact h1), nth_mem (by rw [h.at h1]; exact h2)⟩
theorem web_reord {n B : Nat} {m : Mat} {o : List Int} (h : Web n m) (hb : Bd B m) (ho : o.Perm (rng 0 n)) : Web n (reord m o) ∧ Bd B (reord m o) := by
  refine ⟨⟨sq_reord ho, h.n1, h.n8, fun r hr x hx => ?_⟩, fun r hr x hx => ?_⟩
  · obtain ⟨r', h1, h2⟩ := in_reord h.toSq ho hr hx; exact h.pos r' h1 x h2
  · obtain ⟨r', h1, h2⟩ := in_reord h.toSq ho hr hx; exact hb r' h1 x h2
theorem in_transp {n : Nat} {m : Mat} (h : Sq n m) {r : List Int} (hr : r ∈ transp m) {x : Int} (hx : x ∈ r) : ∃ r' ∈ m, x ∈ r' := by
  unfold transp at hr
  rw [h.len] at hr
  obtain ⟨p, hp, rfl⟩ := List.mem_map.mp hr
  obtain ⟨q, hq, rfl⟩ := List.mem_map.mp hx
  have h1 := rng_mem hp
  have h2 := rng_mem hq
  exact ⟨nth m q, nth_mem (by rw [h.len]; exact h2), nth_mem (by rw [h.at h2]; exact h1)⟩
theorem web_transp {n B : Nat} {m : Mat} (h : Web n m) (hb : Bd B m) : Web n (transp m) ∧ Bd B (transp m) := by
  refine ⟨⟨⟨by unfold transp; rw [List.length_map, rng_len, h.len]; omega, fun r hr => ?_⟩, h.n1, h.n8, fun r hr x hx => ?_⟩, fun r hr x hx => ?_⟩
  · unfold transp at hr
    obtain ⟨x, _, rfl⟩ := List.mem_map.mp hr
    rw [List.length_map, rng_len, h.len]; omega
  · obtain ⟨r', h1, h2⟩ := in_transp h.toSq hr hx; exact h.pos r' h1 x h2
  · obtain ⟨r', h1, h2⟩ := in_transp h.toSq hr hx; exact hb r' h1 x h2
theorem bits_power {size many most : Int} {B : Nat} (hm : many.natAbs < 2 ^ B) (hs : 1 ≤ size) (hm0 : 0 ≤ most) (hmm : most ≤ 10) : Bits (2 + (B + 11) * 10) (powerF size many most) ∧ (powerF size many most).length ≤ 12 := by
  have hd0 := Int.ediv_nonneg hm0 (by omega : 0 ≤ size)
  have hd1 := Int.ediv_le_self size hm0
  obtain ⟨_, h1, h2⟩ := pow_bits (size := size) hm (rng 1 (most / size + 1)) (C := 2) (st := ([1] ++ noughts most, 1)) (fun k hk => by have := rng_mem hk; omega) (show (1 : Int).natAbs < 2 ^ 2 by decide) (pow_start most)
  have hl : (rng 1 (most / size + 1)).length ≤ 10 := by rw [rng_len]; omega
  refine ⟨h1.mono (by have := Nat.mul_le_mul_left (B + 11) hl; omega), ?_⟩
  unfold powerF
  rw [h2, List.length_append, noughts_len]; simp; omega
theorem bits_put {b : Int → Int} (hb : ∀ e : Int, 1 ≤ e → e ≤ 60 → (b e).natAbs < 2 ^ 10000) : ∀ (ks : List Int) {C : Nat} {put : List Int}, (∀ k ∈ ks, 1 ≤ k ∧ k ≤ 10) → Bits C put → put.length ≤ 12 → Bits (C + 100200 * ks.length) (ks.foldl (putStep b) put) ∧ (ks.foldl (putStep b) put).length ≤ 12
  | [], C, put, _, h, hl => ⟨h, hl⟩
  | k :: ks, C, put, hk, h, hl => by
    obtain ⟨k1, k2⟩ := hk k (by simp)
    obtain ⟨p1, p2⟩ := bits_power (size := k) (most := 10) (hb k k1 (by omega)) k1 (by decide) (by decide)
    have h3 := bits_timesF (most := 10) h p1 (by omega) (by omega)
    obtain ⟨q1, q2⟩ := bits_put hb ks (C := C + 100200) (put := putStep b put k) (fun z hz => hk z (by simp [hz])) (h3.mono (by omega)) (by unfold putStep; rw [timesF_len]; decide)
    rw [List.foldl_cons, List.length_cons, show C + 100200 * (ks.length + 1) = C + 100200 + 100200 * ks.length by omega]
    exact ⟨q1, q2⟩
theorem part_in {L y : Int} (h : y ∈ List.map (fun y => y) (List.filter (fun y => decide (L % y = 0)) (rng 1 (L + 1)))) : 1 ≤ y ∧ y ≤ L := by
  rw [List.map_id'] at h
  have := mem_divs.mp (show y ∈ divs L from h)
  omega
section
variable {P : Program} {w : World} {K : PySem.W.Frag} {mg : Str → Option Value} {base : Heap} [BltG mg]
/-- what the mathematics gives -/
def FineOf : Prop := ∀ (n : Nat) (m : Mat), Web n m → n ≤ 4 → Bd 40 m → ∃ b, Fine n m b
def S_law (K : PySem.W.Frag) (as as' : List Slot) (r : Res) : Prop := ∃ s : List Int, s.length ≤ 63 ∧ as = [.imm (RSq K) s] ∧ as' = as ∧ r = .imm RBool true

abbrev s_law : Stmt := topS 36
abbrev n_law : List Str := ["_law_script", "_law_pen", "_law_turn", "_law_web_here", "_law_put", "_law_size", "_law_many", "_law_other", "_law_back", "_law_length", "_law_some", "_law_parts", "_law_k", "_law_place", "_law_part"]
theorem sc_law : FnScope n_law ["_law_script"] (defScope s_law) := ⟨rfl, rfl, rfl, by decide +kernel, rfl, by decide +kernel, by decide +kernel⟩
theorem w_law {fA : Addr} {fdA : FuncData} (F : Fun K "law" "law" s_law fA fdA) (C__law_open : Cal P w K mg base "_law_open" 1 1 (S_law_open K)) (C__law_anew : Cal P w K mg base "_law_anew" 1 1 S_law_anew) (C__law_take : Cal P w K mg base "_law_take" 2 2 S_law_take) (C__law_web : Cal P w K mg base "_law_web" 2 4 S_law_web) (C__law_drawn : Cal P w K mg base "_law_drawn" 2 3 S_law_drawn) (C__law_power : Cal P w K mg base "_law_power" 3 1 S_law_power) (C__law_times : Cal P w K mg base "_law_times" 3 1 S_law_times) (C__law_determinant : Cal P w K mg base "_law_determinant" 2 2 S_law_determinant) (C_lone_rounds : Cal P w K mg base "lone_rounds" 2 5 S_lone_rounds) (C_many_rounds : Cal P w K mg base "many_rounds" 2 5 S_many_rounds) (C_closed_ways : Cal P w K mg base "closed_ways" 2 5 S_closed_ways) (C_reordered : Cal P w K mg base "reordered" 2 5 S_reordered) (HM : FineOf) : FnOk P w K mg base CX0 6 fA fdA ["_law_script"] (SpG 1 (S_law K)) := by
  refine fnK F sc_law (fun as as' r hS => by obtain ⟨_, _, e, _⟩ := hS; rw [e]; rfl) (by decide) fun f cdv AA outer sh H E as as' r hr hFam hS => ?_
  obtain ⟨s, h63, rfl, rfl, rfl⟩ := hS
  show DSs _ [.imm (RSq K) s, .any, .any, .any, .any, .any, .any, .any, .any, .any, .any, .any, .any, .any, .any] _ _
  refine asgN 1 (cal (as := [.imm (RSq K) _]) C__law_open hr (by decide) (a1 (v 0 rfl) a0) (Imms.cons Imms.nil) rfl (by exact ⟨s, h63, rfl, rfl, rfl⟩)) (fun _ => s1) fun p1 => ?_
  refine forE (fun pre => [.any, .own p1 OPen (penAt (openP s, 0, 0) pre.length), .any, .any, .any, .any, .any, .any, .any, .any, .any, .any, .any, .any, .any]) (rg1 dv_int (by walk_at "rg")) (by walk_at "wk") (fun pre x suf hx => ⟨_, _, (tgN 2 s2), ?_⟩) ?_
  · have hpl : pre.length ≤ 1 := by have := congrArg List.length hx; rw [rng_len] at this; simp at this; omega
    have ha0 : At 141 (penAt (openP s, 0, 0) pre.length) := (at_pen (pen := (openP s, 0, 0)) ⟨Int.le_refl _, Int.le_refl _⟩ _).mono (by omega)
    have ha1 := at_webP (at_anew ha0) (most := 4) (by decide) (by decide)
    obtain ⟨hw, hw4, hwb⟩ := web4 (anew (penAt (openP s, 0, 0) pre.length))
    obtain ⟨b, hf⟩ := HM _ _ hw hw4 hwb
    refine asg 3 (pcal (as := [.imm RInt _]) 1 C__law_web hr (by decide) (a1 (pcal (as := []) 1 C__law_anew hr (by decide) (a1 (vO 1 rfl) a0) rfl Imms.nil rfl (by exact ⟨p1, _, rfl, rfl, rfl⟩) s1) (a1 dv_int a0)) rfl (Imms.cons Imms.nil) rfl (by exact ⟨p1, _, 4, (at_anew ha0).mono (by decide), by decide, by decide, rfl, rfl, rfl⟩) s1) s3 ?_
    generalize hm : (webP (anew (penAt (openP s, 0, 0) pre.length)) 4).1 = m at hw hw4 hwb hf ⊢
    generalize hpn : (webP (anew (penAt (openP s, 0, 0) pre.length)) 4).2 = pn at ha1 ⊢
    have hod : (drawnP pn (m.length : Int)).1.Perm (rng 0 m.length) := drawn_perm pn m.length
    have had : At 280 (drawnP pn (m.length : Int)).2 := (at_drawn ha1).mono (by omega)
    have htp : (takeP (takeP (drawnP pn (m.length : Int)).2 10).2 50).2 = penAt (openP s, 0, 0) (pre.length + 1) := by
      rw [← hpn, ← hm]; rfl
    refine asg 4 (dv_fz (R := OL RInt) (add (dv_lst (R := RInt) (xs := [_]) (a1 dv_int a0) (Nat.le_of_ble_eq_true rfl)) (mul (dv_lst (R := RInt) (xs := [_]) (a1 dv_int a0) (Nat.le_of_ble_eq_true rfl)) dv_int (mul_L seen_new (by decide) (by decide) (by decide))) (add_L seen_new seen_new (by decide)))) s4 ?_
    refine forE (fun pre2 => [.any, .own p1 OPen pn, .any, .imm RWeb m, .imm (RL RInt) (pre2.foldl (putStep b) ([1] ++ noughts 10)), .any, .any, .any, .any, .any, .any, .any, .any, .any, .any]) (rg2 dv_int dv_int (by walk_at "rg")) (by walk_at "wk") (fun pre2 x2 suf2 hx2 => ⟨_, _, (tgN 5 s5), ?_⟩) ?_
    · have hx2m := rng_mem (show x2 ∈ rng 1 11 by rw [hx2]; simp)
      have hp2 : pre2.length ≤ 10 := by have := congrArg List.length hx2; rw [rng_len] at this; simp at this; omega
      obtain ⟨u1, u2⟩ := bits_put hf.gau.bd pre2 (C := 2) (put := [1] ++ noughts 10) (fun k hk => by have := rng_mem (show k ∈ rng 1 11 by rw [hx2]; simp [hk]); omega) (pow_start 10) (by rw [List.length_append, noughts_len]; decide)
      obtain ⟨w1, w2⟩ := bits_power (size := x2) (most := 10) (hf.gau.bd x2 hx2m.1 (by omega)) hx2m.1 (by decide) (by decide)
      refine asg 4 (dv_fz (R := OL RInt) (cal (as := [.imm (RL RInt) _, .imm (RL RInt) _, .imm RInt _]) C__law_times hr (by decide) (a1 (v 4 rfl) (a1 (dv_fz (R := OL RInt) (cal (as := [.imm RInt _, .imm RInt _, .imm RInt _]) C__law_power hr (by decide) (a1 (v 5 rfl) (a1 (cal (as := [.imm (RT (RT RInt)) _, .imm RInt _]) C_lone_rounds hr (by decide) (a1 (v 3 rfl) (a1 (v 5 rfl) a0)) (Imms.cons (Imms.cons Imms.nil)) rfl (by first | exact ⟨m.length, m, x2, 40, b, hw, hwb, by decide, hf.gau, hx2m.1, by omega, rfl, rfl, rfl⟩ | exact ⟨m.length, m, _, 40, b, hw, hwb, by decide, hf.gau, (part_in hy14).1, Int.le_trans (part_in hy14).2 hL.2, rfl, rfl, rfl⟩)) (a1 dv_int a0))) (Imms.cons (Imms.cons (Imms.cons Imms.nil))) rfl (by exact ⟨x2, b x2, 10, 10000, hx2m.1, by decide, by decide, by omega, hf.gau.bd x2 hx2m.1 (by omega), by decide, rfl, rfl, rfl⟩))) (a1 dv_int a0))) (Imms.cons (Imms.cons (Imms.cons Imms.nil))) rfl (by exact ⟨_, _, 10, _, _, u1, w1, by omega, by omega, by omega, by decide, by decide, rfl, rfl, rfl⟩))) s4 ?_
      exact dss_nil (.keep (.keep (.keep (.keep (.imm (by rw [List.foldl_append]; rfl) (.forget (.keep (.keep (.keep (.keep (.keep (.keep (.keep (.keep (.keep .nil)))))))))))))))
    refine iff (neT (v 4 rfl) (cal (as := [.imm (RT (RT RInt)) _, .imm RInt _]) C__law_determinant hr (by decide) (a1 (v 3 rfl) (a1 dv_int a0)) (Imms.cons (Imms.cons Imms.nil)) rfl (by exact ⟨m.length, m, 10, 40, hw.toSq, hw4, hwb, by decide, by decide, by decide, by decide, rfl, rfl, rfl⟩)) (ne_D seenD_imm seenD_imm (by exact shaped_ints _) (by exact shaped_ints _))) (fun hc => ?_) (fun hc => ?_)
    · exact absurd hc (by rw [eqv_ints, hf.put]; simp)
    skip
    refine dss_nil ?_
    refine asg 6 (len (v 3 rfl) seenN_T) s6 ?_
    show DSs _ [.any, .own p1 OPen pn, .any, .imm RWeb m, _, .any, .imm RInt (m.length : Int), .any, .any, .any, .any, .any, .any, .any, .any] _ _
    refine asg 7 (cal (as := [.imm (RT (RT RInt)) _, .imm (RT RInt) _]) C_reordered hr (by decide) (a1 (v 3 rfl) (a1 (tuple (pcal (as := [.imm RInt _]) 1 C__law_drawn hr (by decide) (a1 (vO 1 rfl) (a1 (v 6 rfl) a0)) rfl (Imms.cons Imms.nil) rfl (by exact ⟨p1, pn, m.length, ha1.mono (by decide), by omega, by omega, rfl, rfl, rfl⟩) s1) (seenS_L seen_new)) a0)) (Imms.cons (Imms.cons Imms.nil)) rfl (by exact ⟨m.length, m, (drawnP pn (m.length : Int)).1, hw, hod, rfl, rfl, rfl⟩)) s7 ?_
    show DSs _ [.any, .own p1 OPen (drawnP pn (m.length : Int)).2, .any, .imm RWeb m, _, .any, .imm RInt (m.length : Int), .imm RWeb (reord m (drawnP pn (m.length : Int)).1), .any, .any, .any, .any, .any, .any, .any] _ _
    refine asg 8 (tuple (lcV (lcm [("_law_k", 12)] (rg1 (v 6 rfl) (by walk_at "rg")) (by first | ((try simp only [rng_len, List.length_map]); omega) | (rw [List.length_map]; have h9 := List.length_filter_le (fun y => decide (x2 % y = 0)) (rng 1 (x2 + 1)); rw [rng_len] at h9; omega)) fun y12 hy12 => ⟨_, _, _, by decide, (tgN 12 s12), (tuple (lcV (lcm [("_law_place", 13)] (rg1 (v 6 rfl) (by walk_at "rg")) (by first | ((try simp only [rng_len, List.length_map]); omega) | (rw [List.length_map]; have h9 := List.length_filter_le (fun y => decide (x2 % y = 0)) (rng 1 (x2 + 1)); rw [rng_len] at h9; omega)) fun y13 hy13 => ⟨_, _, _, by decide, (tgN 13 s13), (ix (ix (v 3 rfl) (v 13 rfl) (ix_T (nth_ok (by first | (have h1 := rng_mem hy12; have h2 := rng_mem hy13; omega) | (have h1 := rng_mem hy12; have h2 := rng_mem hy13; rw [hw.at h2]; exact h1))))) (v 12 rfl) (ix_T (nth_ok (by first | (have h1 := rng_mem hy12; have h2 := rng_mem hy13; omega) | (have h1 := rng_mem hy12; have h2 := rng_mem hy13; rw [hw.at h2]; exact h1))))), (SetAt.wk s13 rfl)⟩)) (seenS_L seen_new)), (SetAt.wk s12 rfl)⟩)) (seenS_L seen_new)) s8 ?_
    show DSs _ [.any, .own p1 OPen (drawnP pn (m.length : Int)).2, .any, .imm RWeb m, _, .any, .imm RInt (m.length : Int), .imm RWeb (reord m (drawnP pn (m.length : Int)).1), .imm RWeb (transp m), .any, .any, .any, .any, .any, .any] _ _
    refine forE (fun pre2 => [.any, .own p1 OPen (takeP (takeP (drawnP pn (m.length : Int)).2 10).2 50).2, .any, .imm RWeb m, .any, .any, .any, .imm RWeb (reord m (drawnP pn (m.length : Int)).1), .imm RWeb (transp m), .any, .any, .any, .any, .any, .any]) (di_new (dv_lst (R := RInt) (xs := [_, _]) (a1 (dv_add dv_int (pcal (as := [.imm RInt _]) 1 C__law_take hr (by decide) (a1 (vO 1 rfl) (a1 dv_int a0)) rfl (Imms.cons Imms.nil) rfl (by first | exact ⟨p1, (drawnP pn (m.length : Int)).2, 10, had.mono (by decide), by decide, by decide, rfl, rfl, rfl⟩ | exact ⟨p1, (takeP (drawnP pn (m.length : Int)).2 10).2, 50, (at_take had).mono (by decide), by decide, by decide, rfl, rfl, rfl⟩) s1)) (a1 (dv_add dv_int (pcal (as := [.imm RInt _]) 1 C__law_take hr (by decide) (a1 (vO 1 rfl) (a1 dv_int a0)) rfl (Imms.cons Imms.nil) rfl (by first | exact ⟨p1, (drawnP pn (m.length : Int)).2, 10, had.mono (by decide), by decide, by decide, rfl, rfl, rfl⟩ | exact ⟨p1, (takeP (drawnP pn (m.length : Int)).2 10).2, 50, (at_take had).mono (by decide), by decide, by decide, rfl, rfl, rfl⟩) s1)) a0)) (Nat.le_of_ble_eq_true rfl))) (by walk_at "wk") (fun pre2 x2 suf2 hx2 => ⟨_, _, (tgN 9 s9), ?_⟩) ?_
    · have hL : 1 ≤ x2 ∧ x2 ≤ 60 := by
        have h1 := take_in (pen := (drawnP pn (m.length : Int)).2) (many := 10) (by decide)
        have h2 := take_in (pen := (takeP (drawnP pn (m.length : Int)).2 10).2) (many := 50) (by decide)
        have h3 : x2 ∈ [1 + (takeP (drawnP pn (m.length : Int)).2 10).1, 11 + (takeP (takeP (drawnP pn (m.length : Int)).2 10).2 50).1] := by rw [hx2]; simp
        simp at h3
        omega
      refine forE (fun pre3 => [.any, .own p1 OPen (takeP (takeP (drawnP pn (m.length : Int)).2 10).2 50).2, .any, .imm RWeb m, .any, .any, .any, .imm RWeb (reord m (drawnP pn (m.length : Int)).1), .imm RWeb (transp m), .imm RInt x2, .any, .any, .any, .any, .any]) (di_new (dv_lst (R := (RT (RT RInt))) (xs := [_, _]) (a1 (v 7 rfl) (a1 (v 8 rfl) a0)) (Nat.le_of_ble_eq_true rfl))) (by walk_at "wk") (fun pre3 x3 suf3 hx3 => ⟨_, _, (tgN 10 s10), ?_⟩) ?_
      · obtain ⟨hs1, hs2, hs3, hs4⟩ : Web m.length x3 ∧ Bd 40 x3 ∧ Gau x3 b ∧ ∀ k, mtr x3.length (mpow x3 k) = mtr m.length (mpow m k) := by
          have h3 : x3 ∈ [reord m (drawnP pn (m.length : Int)).1, transp m] := by rw [hx3]; simp
          simp at h3
          rcases h3 with rfl | rfl
          · exact ⟨(web_reord hw hwb hod).1, (web_reord hw hwb hod).2, (hf.ro (drawnP pn (m.length : Int)).1 hod).1, (hf.ro (drawnP pn (m.length : Int)).1 hod).2⟩
          · exact ⟨(web_transp hw hwb).1, (web_transp hw hwb).2, hf.tr.1, hf.tr.2⟩
        refine iff (dt_neI (cal (as := [.imm (RT (RT RInt)) _, .imm RInt _]) C_closed_ways hr (by decide) (a1 (v 10 rfl) (a1 (v 9 rfl) a0)) (Imms.cons (Imms.cons Imms.nil)) rfl (by first | exact ⟨m.length, x3, x2, 40, hs1, hs2, by decide, hL.1, hL.2, rfl, rfl, rfl⟩ | exact ⟨m.length, m, x2, 40, hw, hwb, by decide, hL.1, hL.2, rfl, rfl, rfl⟩)) (cal (as := [.imm (RT (RT RInt)) _, .imm RInt _]) C_closed_ways hr (by decide) (a1 (v 3 rfl) (a1 (v 9 rfl) a0)) (Imms.cons (Imms.cons Imms.nil)) rfl (by first | exact ⟨m.length, x3, x2, 40, hs1, hs2, by decide, hL.1, hL.2, rfl, rfl, rfl⟩ | exact ⟨m.length, m, x2, 40, hw, hwb, by decide, hL.1, hL.2, rfl, rfl, rfl⟩))) (fun hc => ?_) (fun hc => ?_)
        · exact absurd hc (by rw [hs4]; simp)
        skip
        refine dss_nil ?_
        refine iff (dt_neI (cal (as := [.imm (RT (RT RInt)) _, .imm RInt _]) C_many_rounds hr (by decide) (a1 (v 10 rfl) (a1 (v 9 rfl) a0)) (Imms.cons (Imms.cons Imms.nil)) rfl (by first | exact ⟨m.length, x3, x2, 40, b, hs1, hs2, by decide, hs3, hL.1, hL.2, rfl, rfl, rfl⟩ | exact ⟨m.length, m, x2, 40, b, hw, hwb, by decide, hf.gau, hL.1, hL.2, rfl, rfl, rfl⟩)) (cal (as := [.imm (RT (RT RInt)) _, .imm RInt _]) C_many_rounds hr (by decide) (a1 (v 3 rfl) (a1 (v 9 rfl) a0)) (Imms.cons (Imms.cons Imms.nil)) rfl (by first | exact ⟨m.length, x3, x2, 40, b, hs1, hs2, by decide, hs3, hL.1, hL.2, rfl, rfl, rfl⟩ | exact ⟨m.length, m, x2, 40, b, hw, hwb, by decide, hf.gau, hL.1, hL.2, rfl, rfl, rfl⟩))) (fun hc => ?_) (fun hc => ?_)
        · exact absurd hc (by simp)
        skip
        refine dss_nil ?_
        skip
        exact dss_nil (by walk_at "wk")
      refine asgLc 11 (lcf [("_law_part", 14)] (rg2 dv_int (dv_add (v 9 rfl) dv_int) (by walk_at "rg")) (by first | ((try simp only [rng_len, List.length_map]); omega) | (rw [List.length_map]; have h9 := List.length_filter_le (fun y => decide (x2 % y = 0)) (rng 1 (x2 + 1)); rw [rng_len] at h9; omega)) fun y14 hy14 => ⟨_, _, _, _, by decide, (tgN 14 s14), (dt_eqI (dv_mod (v 9 rfl) (v 14 rfl) (by have := rng_mem hy14; omega)) dv_int), (v 14 rfl), (SetAt.wk s14 rfl), (SetAt.wk s14 rfl)⟩) s11 ?_
      refine iff (dt_neI (cal (as := [.imm (RT (RT RInt)) _, .imm RInt _]) C_many_rounds hr (by decide) (a1 (v 3 rfl) (a1 (v 9 rfl) a0)) (Imms.cons (Imms.cons Imms.nil)) rfl (by first | exact ⟨m.length, x3, x2, 40, b, hs1, hs2, by decide, hs3, hL.1, hL.2, rfl, rfl, rfl⟩ | exact ⟨m.length, m, x2, 40, b, hw, hwb, by decide, hf.gau, hL.1, hL.2, rfl, rfl, rfl⟩)) (sum (lcV (lcm [("_law_part", 14)] (di_list (v 11 rfl)) (by first | ((try simp only [rng_len, List.length_map]); omega) | (rw [List.length_map]; have h9 := List.length_filter_le (fun y => decide (x2 % y = 0)) (rng 1 (x2 + 1)); rw [rng_len] at h9; omega)) fun y14 hy14 => ⟨_, _, _, by decide, (tgN 14 s14), (cal (as := [.imm (RT (RT RInt)) _, .imm RInt _]) C_lone_rounds hr (by decide) (a1 (v 3 rfl) (a1 (v 14 rfl) a0)) (Imms.cons (Imms.cons Imms.nil)) rfl (by first | exact ⟨m.length, m, x2, 40, b, hw, hwb, by decide, hf.gau, hx2m.1, by omega, rfl, rfl, rfl⟩ | exact ⟨m.length, m, _, 40, b, hw, hwb, by decide, hf.gau, (part_in hy14).1, Int.le_trans (part_in hy14).2 hL.2, rfl, rfl, rfl⟩)), (SetAt.wk s14 rfl)⟩)) seen_new)) (fun hc => ?_) (fun hc => ?_)
      · have e : (List.map (fun y => b y) (List.map (fun y => y) (List.filter (fun y => decide (x2 % y = 0)) (rng 1 (x2 + 1))))) = (divs x2).map b := by rw [List.map_id']; rfl
        exact absurd hc (by rw [e]; simp)
      skip
      refine dss_nil ?_
      refine iff (dt_neI (cal (as := [.imm (RT (RT RInt)) _, .imm RInt _]) C_closed_ways hr (by decide) (a1 (v 3 rfl) (a1 (v 9 rfl) a0)) (Imms.cons (Imms.cons Imms.nil)) rfl (by first | exact ⟨m.length, x3, x2, 40, hs1, hs2, by decide, hL.1, hL.2, rfl, rfl, rfl⟩ | exact ⟨m.length, m, x2, 40, hw, hwb, by decide, hL.1, hL.2, rfl, rfl, rfl⟩)) (sum (lcV (lcm [("_law_part", 14)] (di_list (v 11 rfl)) (by first | ((try simp only [rng_len, List.length_map]); omega) | (rw [List.length_map]; have h9 := List.length_filter_le (fun y => decide (x2 % y = 0)) (rng 1 (x2 + 1)); rw [rng_len] at h9; omega)) fun y14 hy14 => ⟨_, _, _, by decide, (tgN 14 s14), (dv_mul (v 14 rfl) (cal (as := [.imm (RT (RT RInt)) _, .imm RInt _]) C_lone_rounds hr (by decide) (a1 (v 3 rfl) (a1 (v 14 rfl) a0)) (Imms.cons (Imms.cons Imms.nil)) rfl (by first | exact ⟨m.length, m, x2, 40, b, hw, hwb, by decide, hf.gau, hx2m.1, by omega, rfl, rfl, rfl⟩ | exact ⟨m.length, m, _, 40, b, hw, hwb, by decide, hf.gau, (part_in hy14).1, Int.le_trans (part_in hy14).2 hL.2, rfl, rfl, rfl⟩)) (by exact mulx_ok (a := 64) (b := 10000) (by have h1 := part_in hy14; have h64 : (60:Nat) < 2^64 := (by decide); omega) (hf.gau.bd _ (part_in hy14).1 (Int.le_trans (part_in hy14).2 hL.2)) (by decide))), (SetAt.wk s14 rfl)⟩)) seen_new)) (fun hc => ?_) (fun hc => ?_)
      · have e : (List.map (fun y => y * b y) (List.map (fun y => y) (List.filter (fun y => decide (x2 % y = 0)) (rng 1 (x2 + 1))))) = (divs x2).map (fun y => y * b y) := by rw [List.map_id']; rfl
        have e2 := hf.gau.eq x2.toNat (by omega) (by omega)
        rw [show ((x2.toNat : Nat) : Int) = x2 by omega] at e2
        exact absurd hc (by rw [e, e2]; simp)
      skip
      refine dss_nil ?_
      skip
      exact dss_nil (by walk_at "wk")
    exact dss_nil (.forget (.own (by rw [List.length_append]; exact htp) (by walk_at "wk")))
  refine ret dv_bool ?_
  exact ⟨.imm .nil, .same⟩
end
end PD

set_option Elab.async false
set_option linter.all false
set_option maxRecDepth 100000
namespace PD
/-! ### sums -/
def su (f : Nat → Int) : Nat → Int
  | 0 => 0
  | n + 1 => su f n + f n
theorem su_congr {f g : Nat → Int} : ∀ {n : Nat}, (∀ i, i < n → f i = g i) → su f n = su g n
  | 0, _ => rfl
  | n + 1, h => by
    show su f n + f n = su g n + g n
    rw [su_congr fun i hi => h i (by omega), h n (by omega)]
theorem su_add (f g : Nat → Int) : ∀ n, su (fun i => f i + g i) n = su f n + su g n
  | 0 => rfl
  | n + 1 => by simp only [su, su_add f g n]; omega
theorem su_mul (c : Int) (f : Nat → Int) : ∀ n, su (fun i => c * f i) n = c * su f n
  | 0 => by simp [su]
  | n + 1 => by simp only [su, su_mul c f n, Int.mul_add]
theorem su_mulr (c : Int) (f : Nat → Int) (n : Nat) : su (fun i => f i * c) n = su f n * c := by
  rw [Int.mul_comm, ← su_mul]; exact su_congr fun i _ => Int.mul_comm _ _
theorem su_zero : ∀ n, su (fun _ => 0) n = 0
  | 0 => rfl
  | n + 1 => by simp only [su, su_zero n]; rfl
theorem su_head (f : Nat → Int) : ∀ n, su f (n + 1) = f 0 + su (fun i => f (i + 1)) n
  | 0 => by simp [su]
  | n + 1 => by
    have := su_head f n
    simp only [su] at this ⊢
    omega
theorem su_rev (f : Nat → Int) : ∀ n, su (fun i => f (n - 1 - i)) n = su f n
  | 0 => rfl
  | n + 1 => by
    rw [su_head, ← show su f n + f n = su f (n + 1) from rfl, ← su_rev f n]
    have : su (fun i => f (n + 1 - 1 - (i + 1))) n = su (fun i => f (n - 1 - i)) n := su_congr fun i hi => by congr 1; omega
    rw [this, show n + 1 - 1 - 0 = n by omega]; omega
theorem su_swap (F : Nat → Nat → Int) : ∀ n m, su (fun i => su (fun j => F i j) m) n = su (fun j => su (fun i => F i j) n) m
  | 0, m => (su_zero m).symm
  | n + 1, m => by
    show su (fun i => su (fun j => F i j) m) n + su (fun j => F n j) m = _
    rw [su_swap F n m, ← su_add]; rfl
/-- the triangle, the other way -/
theorem su_tri (F : Nat → Nat → Int) : ∀ n, su (fun i => su (fun j => F j i) (i + 1)) n = su (fun j => su (fun l => F j (j + l)) (n - j)) n
  | 0 => rfl
  | n + 1 => by
    show su (fun i => su (fun j => F j i) (i + 1)) n + su (fun j => F j n) (n + 1) = su (fun j => su (fun l => F j (j + l)) (n + 1 - j)) n + su (fun l => F n (n + l)) (n + 1 - n)
    rw [su_tri F n]
    have e1 : su (fun j => su (fun l => F j (j + l)) (n + 1 - j)) n = su (fun j => su (fun l => F j (j + l)) (n - j) + F j n) n := su_congr fun j hj => by
      rw [show n + 1 - j = (n - j) + 1 by omega]
      show su _ (n - j) + F j (j + (n - j)) = _
      rw [show j + (n - j) = n by omega]
    rw [e1, su_add, show n + 1 - n = 1 by omega]
    show _ + (su (fun j => F j n) n + F n n) = _ + (0 + F n (n + 0))
    rw [Nat.add_zero]; omega
/-! ### series put together -/
def cv (f g : Nat → Int) (k : Nat) : Int := su (fun i => f i * g (k - i)) (k + 1)
theorem cv_comm (f g : Nat → Int) (k : Nat) : cv f g k = cv g f k := by
  unfold cv
  rw [← su_rev]
  exact su_congr fun i hi => by
    rw [show k + 1 - 1 - i = k - i by omega, show k - (k - i) = i by omega, Int.mul_comm]
theorem cv_assoc (f g h : Nat → Int) (k : Nat) : cv (cv f g) h k = cv f (cv g h) k := by
  unfold cv
  have e1 : su (fun i => su (fun j => f j * g (i - j)) (i + 1) * h (k - i)) (k + 1) = su (fun i => su (fun j => f j * g (i - j) * h (k - i)) (i + 1)) (k + 1) := su_congr fun i _ => (su_mulr _ _ _).symm
  rw [e1, su_tri (fun j i => f j * g (i - j) * h (k - i))]
  refine su_congr fun j hj => ?_
  rw [← su_mul, show k + 1 - j = k - j + 1 by omega]
  refine su_congr fun l hl => ?_
  rw [show j + l - j = l by omega, show k - (j + l) = k - j - l by omega, Int.mul_assoc]
theorem cv_congr {f f' g g' : Nat → Int} {k : Nat} (h1 : ∀ i, i ≤ k → f i = f' i) (h2 : ∀ i, i ≤ k → g i = g' i) : cv f g k = cv f' g' k :=
  su_congr fun i hi => by rw [h1 i (by omega), h2 (k - i) (by omega)]
theorem cv_addl (f f' g : Nat → Int) (k : Nat) : cv (fun i => f i + f' i) g k = cv f g k + cv f' g k := by
  unfold cv
  rw [← su_add]
  exact su_congr fun i _ => Int.add_mul _ _ _
theorem cv_negl (f g : Nat → Int) (k : Nat) : cv (fun i => -f i) g k = -cv f g k := by
  unfold cv
  have := su_mul (-1) (fun i => f i * g (k - i)) (k + 1)
  rw [show -su (fun i => f i * g (k - i)) (k + 1) = -1 * su (fun i => f i * g (k - i)) (k + 1) by omega, ← this]
  exact su_congr fun i _ => by rw [Int.neg_mul]; omega
def one' : Nat → Int := fun k => if k = 0 then 1 else 0
/-- q is what f's letters grow by: k f(k) = - (q f)(k) -/
def Gr (q f : Nat → Int) : Prop := ∀ k : Nat, (k : Int) * f k = - cv q f k
theorem gr_one : Gr (fun _ => 0) one' := fun k => by
  have : cv (fun _ => 0) one' k = 0 := by
    unfold cv
    exact (su_congr fun i _ => Int.zero_mul _).trans (su_zero (k + 1))
  rw [this]
  unfold one'
  by_cases h : k = 0
  · subst h; rfl
  · rw [if_neg h]; simp
theorem gr_mul {q q' f g : Nat → Int} (h : Gr q f) (h' : Gr q' g) : Gr (fun i => q i + q' i) (cv f g) := fun k => by
  have e1 : (k : Int) * cv f g k = cv (fun i => (i : Int) * f i) g k + cv f (fun i => (i : Int) * g i) k := by
    unfold cv
    rw [← su_mul, ← su_add]
    refine su_congr fun i hi => ?_
    have : (k : Int) = (i : Int) + ((k - i : Nat) : Int) := by omega
    rw [this]
    grind
  rw [e1]
  have e2 : cv (fun i => (i : Int) * f i) g k = - cv (cv q f) g k := by
    rw [← cv_negl]; exact cv_congr (fun i _ => h i) fun _ _ => rfl
  have e3 : cv f (fun i => (i : Int) * g i) k = - cv f (cv q' g) k := by
    rw [cv_comm, cv_comm f, ← cv_negl]; exact cv_congr (fun i _ => h' i) fun _ _ => rfl
  rw [e2, e3, cv_addl, cv_assoc q f g, ← cv_assoc f q' g]
  have e4 : cv (cv f q') g k = cv q' (cv f g) k := by
    rw [← cv_assoc]; exact cv_congr (fun i _ => cv_comm _ _ _) fun _ _ => rfl
  rw [e4]; omega
/-- what grows alike is the same, up to n -/
theorem gr_same {q q' f g : Nat → Int} {n : Nat} (h : Gr q f) (h' : Gr q' g) (h0 : f 0 = g 0) (hq : ∀ i, i ≤ n → q i = q' i) (hz : q 0 = 0) : ∀ k, k ≤ n → f k = g k := fun k => by
  induction k using Nat.strongRecOn with
  | ind k ih =>
    intro hk
    by_cases h1 : k = 0
    · rw [h1]; exact h0
    · have e : cv q f k = cv q' g k := by
        unfold cv
        rw [su_head, su_head, ← hq 0 (by omega), hz, Int.zero_mul, Int.zero_mul]
        congr 1
        exact su_congr fun i hi => by rw [hq (i + 1) (by omega), ih (k - (i + 1)) (by omega) (by omega)]
      have e1 := h k
      have e2 := h' k
      rw [e] at e1
      exact Int.eq_of_mul_eq_mul_left (a := (k : Int)) (by omega) (e1.trans e2.symm)
/-- the first that they differ in -/
theorem gr_next {q q' f g : Nat → Int} {n : Nat} (h : Gr q f) (h' : Gr q' g) (h0 : f 0 = 1) (h0' : g 0 = 1) (hq : ∀ i, i ≤ n → q i = q' i) (hz : q 0 = 0) : q (n + 1) - q' (n + 1) = ((n + 1 : Nat) : Int) * (g (n + 1) - f (n + 1)) := by
  have hs := gr_same h h' (h0.trans h0'.symm) hq hz
  have e1 := h (n + 1)
  have e2 := h' (n + 1)
  have c1 : cv q f (n + 1) = su (fun i => q i * f (n + 1 - i)) (n + 1) + q (n + 1) * 1 := by
    unfold cv
    show su _ (n + 1) + q (n + 1) * f (n + 1 - (n + 1)) = _
    rw [Nat.sub_self, h0]
  have c2 : cv q' g (n + 1) = su (fun i => q i * f (n + 1 - i)) (n + 1) + q' (n + 1) * 1 := by
    unfold cv
    show su _ (n + 1) + q' (n + 1) * g (n + 1 - (n + 1)) = _
    rw [Nat.sub_self, h0']
    congr 1
    rw [su_head, su_head, ← hq 0 (by omega), hz, Int.zero_mul, Int.zero_mul]
    congr 1
    exact su_congr fun i hi => by rw [hq (i + 1) (by omega), hs (n + 1 - (i + 1)) (by omega)]
  rw [c1] at e1
  rw [c2] at e2
  rw [Int.mul_sub]
  omega
end PD

set_option Elab.async false
set_option linter.all false
set_option maxRecDepth 100000
namespace PD
/-! ### choosing j of b -/
def chN : Nat → Nat → Int
  | _, 0 => 1
  | 0, _ + 1 => 0
  | n + 1, j + 1 => chN n j + chN n (j + 1)
theorem chN_next : ∀ n j : Nat, ((j : Int) + 1) * chN n (j + 1) = ((n : Int) - j) * chN n j
  | 0, 0 => by simp [chN]
  | 0, j + 1 => by simp [chN]
  | n + 1, 0 => by
    have h := chN_next n 0
    simp only [chN] at h ⊢
    simp at h ⊢
    omega
  | n + 1, j + 1 => by
    have h1 := chN_next n (j + 1)
    have h2 := chN_next n j
    simp only [chN]
    have e1 : ((n + 1 : Nat) : Int) - ((j + 1 : Nat) : Int) = (n : Int) - j := by omega
    have e2 : (((j + 1 : Nat) : Int) + 1) = (j : Int) + 2 := by omega
    have e3 : (n : Int) - ((j + 1 : Nat) : Int) = (n : Int) - j - 1 := by omega
    rw [e1, e2] at *
    rw [e3] at h1
    grind
theorem chN_up (n j : Nat) : ((j : Int) + 1) * chN (n + 1) (j + 1) = ((n : Int) + 1) * chN n j := by
  have h := chN_next n j
  simp only [chN]
  grind
def sgn (j : Nat) : Int := if j % 2 = 0 then 1 else -1
theorem sgn_next (j : Nat) : sgn (j + 1) = - sgn j := by
  unfold sgn
  by_cases h : j % 2 = 0
  · rw [if_pos h, if_neg (by omega)]
  · rw [if_neg h, if_pos (by omega)]; rfl
def chI (b : Int) (j : Nat) : Int := if 0 ≤ b then chN b.toNat j else sgn j * chN (j + (-b - 1).toNat) j
theorem chI_zero (b : Int) : chI b 0 = 1 := by
  unfold chI
  split <;> simp [chN, sgn]
theorem chI_next (b : Int) (j : Nat) : ((j : Int) + 1) * chI b (j + 1) = (b - j) * chI b j := by
  unfold chI
  by_cases h : 0 ≤ b
  · rw [if_pos h, if_pos h]
    have := chN_next b.toNat j
    rw [show ((b.toNat : Nat) : Int) = b by omega] at this
    exact this
  · rw [if_neg h, if_neg h, sgn_next]
    have := chN_up (j + (-b - 1).toNat) j
    rw [show j + 1 + (-b - 1).toNat = j + (-b - 1).toNat + 1 by omega]
    have e : (((j + (-b - 1).toNat : Nat) : Int) + 1) = (j : Int) - b := by omega
    rw [e] at this
    grind
/-- the letters' powers of (1 - t)^b -/
def pc (b : Int) (j : Nat) : Int := sgn j * chI b j
theorem pc_sum (b : Int) : ∀ j : Nat, (j : Int) * pc b j = - (b * su (pc b) j)
  | 0 => by simp [su]
  | j + 1 => by
    have ih := pc_sum b j
    have h := chI_next b j
    simp only [su]
    unfold pc at *
    rw [sgn_next]
    have e : ((j + 1 : Nat) : Int) = (j : Int) + 1 := by omega
    rw [e]
    grind
/-- (1 - t^s)^b -/
def pw (s : Nat) (b : Int) (k : Nat) : Int := if k % s = 0 then pc b (k / s) else 0
def qw (s : Nat) (b : Int) (k : Nat) : Int := if k % s = 0 ∧ k ≠ 0 then s * b else 0
theorem su_step {s : Nat} (hs : 0 < s) (f : Nat → Int) : ∀ n : Nat, su (fun i => if i % s = 0 then f (i / s) else 0) n = su f ((n + s - 1) / s)
  | 0 => by
    rw [show (0 + s - 1) / s = 0 from Nat.div_eq_of_lt (by omega)]; rfl
  | n + 1 => by
    show su _ n + (if n % s = 0 then f (n / s) else 0) = _
    rw [su_step hs f n]
    by_cases h : n % s = 0
    · rw [if_pos h]
      obtain ⟨m, rfl⟩ : ∃ m, n = s * m := ⟨n / s, by have := Nat.div_add_mod n s; omega⟩
      have e1 : (s * m + s - 1) / s = m := by
        rw [Nat.add_sub_assoc hs, Nat.mul_add_div hs, Nat.div_eq_of_lt (by omega)]; omega
      have e2 : (s * m + 1 + s - 1) / s = m + 1 := by
        rw [show s * m + 1 + s - 1 = s * m + s by omega, Nat.mul_add_div hs, Nat.div_self hs]
      rw [e1, e2, Nat.mul_div_cancel_left m hs]; rfl
    · rw [if_neg h, Int.add_zero]
      congr 1
      have hm := Nat.div_add_mod n s
      have hlt := Nat.mod_lt n hs
      have e1 : (n + s - 1) / s = n / s + 1 := by
        rw [show n + s - 1 = s * (n / s) + (s + (n % s - 1)) by omega, Nat.mul_add_div hs, show (s + (n % s - 1)) / s = 1 from by
          rw [Nat.add_div_left _ hs, Nat.div_eq_of_lt (by omega)]]
      have e2 : (n + 1 + s - 1) / s = n / s + 1 := by
        rw [show n + 1 + s - 1 = s * (n / s) + (s + n % s) by omega, Nat.mul_add_div hs, show (s + n % s) / s = 1 from by
          rw [Nat.add_div_left _ hs, Nat.div_eq_of_lt (by omega)]]
      rw [e1, e2]
theorem gr_pw {s : Nat} (hs : 0 < s) (b : Int) : Gr (qw s b) (pw s b) := fun k => by
  have hc : cv (qw s b) (pw s b) k = su (fun i => pw s b i * qw s b (k - i)) (k + 1) := cv_comm _ _ _
  rw [hc]
  show _ = -(su (fun i => pw s b i * qw s b (k - i)) k + pw s b k * qw s b (k - k))
  have e0 : qw s b (k - k) = 0 := by unfold qw; simp
  rw [e0, Int.mul_zero, Int.add_zero]
  by_cases hk : k % s = 0
  · have e1 : su (fun i => pw s b i * qw s b (k - i)) k = su (fun i => (if i % s = 0 then pc b (i / s) else 0) * (s * b)) k := su_congr fun i hi => by
      unfold pw qw
      by_cases h : i % s = 0
      · have h2 : (k - i) % s = 0 := Nat.sub_mod_eq_zero_of_mod_eq (hk.trans h.symm)
        rw [if_pos h, if_pos ⟨h2, by omega⟩]
      · rw [if_neg h]; simp
    rw [e1, su_mulr, su_step hs]
    obtain ⟨m, rfl⟩ : ∃ m, k = s * m := ⟨k / s, by have := Nat.div_add_mod k s; omega⟩
    have e2 : (s * m + s - 1) / s = m := by
      rw [Nat.add_sub_assoc hs, Nat.mul_add_div hs, Nat.div_eq_of_lt (by omega)]; omega
    rw [e2]
    unfold pw
    rw [if_pos hk, Nat.mul_div_cancel_left m hs]
    have := pc_sum b m
    rw [Int.natCast_mul]
    grind
  · have e1 : su (fun i => pw s b i * qw s b (k - i)) k = su (fun _ => 0) k := su_congr fun i hi => by
      unfold pw qw
      by_cases h : i % s = 0
      · have h2 : (k - i) % s ≠ 0 := fun z => hk (by
          have := Nat.add_mod (k - i) i s
          rw [z, h] at this
          rw [show k - i + i = k by omega] at this
          simpa using this)
        rw [if_pos h, if_neg (fun z => h2 z.1)]; simp
      · rw [if_neg h]; simp
    rw [e1, su_zero]
    unfold pw
    rw [if_neg hk]; simp
end PD

set_option Elab.async false
set_option linter.all false
set_option maxRecDepth 100000
namespace PD
/-! ### lists as series -/
def co (xs : List Int) (k : Nat) : Int := xs.getD k 0
theorem co_nth (xs : List Int) (k : Nat) : nth xs (k : Int) = co xs k := rfl
theorem co_nil (k : Nat) : co [] k = 0 := rfl
theorem co_cons (x : Int) (xs : List Int) (k : Nat) : co (x :: xs) k = if k = 0 then x else co xs (k - 1) := by
  cases k with
  | zero => rfl
  | succ k => simp [co]
theorem co_set (xs : List Int) (i k : Nat) (v : Int) : co (xs.set i v) k = if k = i ∧ i < xs.length then v else co xs k := by
  unfold co
  rw [List.getD_eq_getElem?_getD, List.getD_eq_getElem?_getD, List.getElem?_set]
  by_cases h : i = k
  · subst h
    by_cases h2 : i < xs.length
    · simp [h2]
    · simp [h2]
  · rw [if_neg h, if_neg (fun z => h z.1.symm)]
theorem co_out {xs : List Int} {k : Nat} (h : xs.length ≤ k) : co xs k = 0 := by
  unfold co
  rw [List.getD_eq_getElem?_getD, List.getElem?_eq_none h]; rfl
theorem co_ext {xs ys : List Int} (h : xs.length = ys.length) (hc : ∀ k, k < xs.length → co xs k = co ys k) : xs = ys := by
  refine List.ext_getElem h fun k h1 h2 => ?_
  have := hc k h1
  unfold co at this
  rwa [List.getD_eq_getElem?_getD, List.getD_eq_getElem?_getD, List.getElem?_eq_getElem h1, List.getElem?_eq_getElem h2] at this
theorem co_noughts (n : Int) (k : Nat) : co (noughts n) k = 0 := by
  by_cases h : k < (noughts n).length
  · unfold co
    rw [List.getD_eq_getElem?_getD, List.getElem?_eq_getElem h]
    have : (noughts n)[k] ∈ noughts n := List.getElem_mem h
    unfold noughts at this
    simp at this
    simpa [noughts] using this.2
  · exact co_out (by omega)
theorem co_start (n : Int) (k : Nat) : co ([1] ++ noughts n) k = one' k := by
  show co (1 :: noughts n) k = _
  rw [co_cons, co_noughts]; rfl
/-! ### two lists put together -/
theorem co_stepIn {n : Nat} {a b : Nat} {number factor : Int} {found : List Int} (hl : found.length = n + 1) (k : Nat) : co (stepIn (n : Int) (a : Int) number found ((b : Int), factor)) k = co found k + (if a + b = k ∧ k ≤ n then number * factor else 0) := by
  unfold stepIn
  dsimp only
  have e : ((a : Int) + b).toNat = a + b := by omega
  by_cases h : (a : Int) + b ≤ n
  · rw [if_pos h, e, co_set]
    have e2 : nth found ((a : Int) + b) = co found (a + b) := by
      rw [show ((a : Int) + b) = ((a + b : Nat) : Int) by omega]; exact co_nth _ _
    by_cases hk : k = a + b
    · subst hk
      rw [if_pos ⟨rfl, by omega⟩, if_pos ⟨rfl, by omega⟩, e2]
    · rw [if_neg (fun z => hk z.1), if_neg (fun z => hk z.1.symm), Int.add_zero]
  · rw [if_neg h]
    by_cases hk : a + b = k ∧ k ≤ n
    · omega
    · rw [if_neg hk, Int.add_zero]
theorem co_foldIn {n a : Nat} {number : Int} (k : Nat) : ∀ (other : List Int) (j : Nat) {found : List Int}, found.length = n + 1 → co ((en j other).foldl (stepIn (n : Int) (a : Int) number) found) k = co found k + (if a + j ≤ k ∧ k ≤ n then number * co other (k - a - j) else 0)
  | [], j, found, hl => by
    show co found k = _
    simp [co_nil]
  | f :: other, j, found, hl => by
    show co ((en (j + 1) other).foldl (stepIn (n : Int) (a : Int) number) (stepIn (n : Int) (a : Int) number found ((j : Int), f))) k = _
    rw [co_foldIn k other (j + 1) (by rw [stepIn_len]; exact hl), co_stepIn hl]
    by_cases h1 : k ≤ n
    · by_cases h2 : a + j = k
      · rw [if_pos ⟨h2, h1⟩, if_neg (by omega), if_pos ⟨by omega, h1⟩, show k - a - j = 0 by omega]
        simp [co]
      · by_cases h3 : a + j ≤ k
        · rw [if_neg (fun z => h2 z.1), if_pos ⟨by omega, h1⟩, if_pos ⟨h3, h1⟩, co_cons, if_neg (by omega), show k - a - (j + 1) = k - a - j - 1 by omega, Int.add_zero]
        · rw [if_neg (fun z => h2 z.1), if_neg (by omega), if_neg (fun z => h3 z.1), Int.add_zero]
    · rw [if_neg (fun z => h1 z.2), if_neg (fun z => h1 z.2), if_neg (fun z => h1 z.2)]; omega
theorem co_foldOut {n : Nat} {other : List Int} (k : Nat) (hk : k ≤ n) : ∀ (one : List Int) (i : Nat) {found : List Int}, found.length = n + 1 → co ((en i one).foldl (stepOut (n : Int) other) found) k = co found k + su (fun j => if i + j ≤ k then co one j * co other (k - (i + j)) else 0) one.length
  | [], i, found, hl => by
    show co found k = co found k + 0
    omega
  | x :: one, i, found, hl => by
    show co ((en (i + 1) one).foldl (stepOut (n : Int) other) ((en 0 other).foldl (stepIn (n : Int) (i : Int) x) found)) k = _
    rw [co_foldOut k hk one (i + 1) (by rw [foldIn_len]; exact hl), co_foldIn k other 0 hl, List.length_cons, su_head]
    have e1 : su (fun j => if i + 1 + j ≤ k then co one j * co other (k - (i + 1 + j)) else 0) one.length = su (fun j => if i + (j + 1) ≤ k then co (x :: one) (j + 1) * co other (k - (i + (j + 1))) else 0) one.length := su_congr fun j _ => by
      have e9 : co (x :: one) (j + 1) = co one j := by rw [co_cons, if_neg (by omega), Nat.add_sub_cancel]
      rw [show i + 1 + j = i + (j + 1) by omega, e9]
    rw [e1]
    have e2 : (if i + 0 ≤ k ∧ k ≤ n then x * co other (k - i - 0) else 0) = (if i + 0 ≤ k then co (x :: one) 0 * co other (k - (i + 0)) else 0) := by
      by_cases h : i + 0 ≤ k
      · rw [if_pos ⟨h, hk⟩, if_pos h]; rfl
      · rw [if_neg (fun z => h z.1), if_neg h]
    rw [e2]; omega
theorem su_more {f : Nat → Int} {n m : Nat} (h : n ≤ m) (hz : ∀ i, n ≤ i → i < m → f i = 0) : su f m = su f n := by
  obtain ⟨d, rfl⟩ : ∃ d, m = n + d := ⟨m - n, by omega⟩
  induction d with
  | zero => rfl
  | succ d ih =>
    show su f (n + d) + f (n + d) = _
    rw [ih (by omega) fun i h1 h2 => hz i h1 (by omega), hz (n + d) (by omega) (by omega), Int.add_zero]
theorem co_timesF {one other : List Int} {n : Nat} (k : Nat) (hk : k ≤ n) : co (timesF one other (n : Int)) k = cv (co one) (co other) k := by
  unfold timesF
  have hl : (noughts ((n : Int) + 1)).length = n + 1 := by rw [noughts_len]; omega
  rw [co_foldOut k hk one 0 hl, co_noughts, Int.zero_add]
  unfold cv
  have e1 : su (fun j => if 0 + j ≤ k then co one j * co other (k - (0 + j)) else 0) one.length = su (fun j => if j ≤ k then co one j * co other (k - j) else 0) (max one.length (k + 1)) := by
    rw [su_more (n := one.length) (m := max one.length (k + 1)) (Nat.le_max_left _ _) fun i h1 _ => by
      rw [co_out (xs := one) h1]; simp]
    exact su_congr fun j _ => by rw [Nat.zero_add]
  rw [e1, su_more (n := k + 1) (Nat.le_max_right _ _) fun i h1 _ => if_neg (by omega)]
  exact su_congr fun j hj => if_pos (by omega)
/-! ### powers -/
theorem pow_inv {s n : Nat} (hs : 0 < s) (b : Int) : ∀ m : Nat, s * m ≤ n → ((rng 1 ((m : Int) + 1)).foldl (powStep (s : Int) b) ([1] ++ noughts (n : Int), 1)).2 = chI b m ∧
    ((rng 1 ((m : Int) + 1)).foldl (powStep (s : Int) b) ([1] ++ noughts (n : Int), 1)).1.length = n + 1 ∧
    ∀ k, co ((rng 1 ((m : Int) + 1)).foldl (powStep (s : Int) b) ([1] ++ noughts (n : Int), 1)).1 k = if k % s = 0 ∧ k / s ≤ m then pc b (k / s) else 0
  | 0, _ => by
    refine ⟨(chI_zero b).symm, by show ([1] ++ noughts (n : Int)).length = _; rw [List.length_append, noughts_len]; simp; omega, fun k => ?_⟩
    show co ([1] ++ noughts (n : Int)) k = _
    rw [co_start]
    unfold one'
    by_cases h : k = 0
    · subst h
      rw [if_pos rfl, if_pos ⟨Nat.zero_mod _, by rw [Nat.zero_div]; exact Nat.le_refl _⟩, Nat.zero_div]
      unfold pc; rw [chI_zero]; rfl
    · rw [if_neg h, if_neg]
      rintro ⟨h1, h2⟩
      have := Nat.div_add_mod k s
      have h3 : k / s = 0 := Nat.le_zero.mp h2
      rw [h3, h1] at this
      simp at this
      omega
  | m + 1, hm => by
    have hms : s * (m + 1) = s * m + s := Nat.mul_succ _ _
    obtain ⟨h1, h2, h3⟩ := pow_inv (n := n) hs b m (by omega)
    rw [show (((m + 1 : Nat) : Int) + 1) = ((m : Int) + 1) + 1 by omega, rng_snoc (by omega), List.foldl_append]
    generalize hst : (rng 1 ((m : Int) + 1)).foldl (powStep (s : Int) b) ([1] ++ noughts (n : Int), 1) = st at h1 h2 h3
    show (powStep (s : Int) b st ((m : Int) + 1)).2 = _ ∧ (powStep (s : Int) b st ((m : Int) + 1)).1.length = _ ∧ ∀ k, co (powStep (s : Int) b st ((m : Int) + 1)).1 k = _
    have ef : st.2 * (b - ((m : Int) + 1) + 1) / ((m : Int) + 1) = chI b (m + 1) := by
      have := chI_next b m
      rw [h1, show chI b m * (b - ((m : Int) + 1) + 1) = ((m : Int) + 1) * chI b (m + 1) by rw [this, Int.mul_comm]; congr 1; omega]
      exact Int.mul_ediv_cancel_left _ (by omega)
    have es : nth [(1 : Int), -1] (((m : Int) + 1) % 2) = sgn (m + 1) := by
      unfold sgn
      by_cases h : (m + 1) % 2 = 0
      · rw [if_pos h, show ((m : Int) + 1) % 2 = 0 by omega]; rfl
      · rw [if_neg h, show ((m : Int) + 1) % 2 = 1 by omega]; rfl
    have ei : (((m : Int) + 1) * (s : Int)).toNat = s * (m + 1) := by
      rw [show ((m : Int) + 1) * (s : Int) = ((s * (m + 1) : Nat) : Int) by rw [Int.natCast_mul, Int.mul_comm]; rfl]; rfl
    unfold powStep
    dsimp only
    rw [ef, es, ei]
    refine ⟨rfl, by rw [List.length_set]; exact h2, fun k => ?_⟩
    rw [co_set, h3, h2]
    by_cases hk : k = s * (m + 1)
    · subst hk
      rw [if_pos ⟨rfl, by omega⟩, if_pos ⟨Nat.mul_mod_right _ _, by rw [Nat.mul_div_cancel_left _ hs]; exact Nat.le_refl _⟩, Nat.mul_div_cancel_left _ hs]
      unfold pc; exact Int.mul_comm _ _
    · rw [if_neg (fun z => hk z.1)]
      by_cases hm2 : k % s = 0
      · have hd := Nat.div_add_mod k s
        rw [hm2, Nat.add_zero] at hd
        have : k / s ≠ m + 1 := fun z => hk (by rw [← hd, z])
        by_cases h5 : k / s ≤ m
        · rw [if_pos ⟨hm2, h5⟩, if_pos ⟨hm2, by omega⟩]
        · rw [if_neg (fun z => h5 z.2), if_neg (fun z => by omega)]
      · rw [if_neg (fun z => hm2 z.1), if_neg (fun z => hm2 z.1)]
theorem co_powerF {s n : Nat} (hs : 0 < s) (b : Int) (k : Nat) (hk : k ≤ n) : co (powerF (s : Int) b (n : Int)) k = pw s b k := by
  have h := (pow_inv (n := n) hs b (n / s) (by rw [Nat.mul_comm]; exact Nat.div_mul_le_self n s)).2.2 k
  unfold powerF
  have e : (n : Int) / (s : Int) = ((n / s : Nat) : Int) := by rw [Int.natCast_ediv]
  rw [e, h]
  unfold pw
  by_cases h1 : k % s = 0
  · rw [if_pos ⟨h1, Nat.div_le_div_right hk⟩, if_pos h1]
  · rw [if_neg (fun z => h1 z.1), if_neg h1]
/-! ### all factors -/
def PS (b : Int → Int) : Nat → Nat → Int
  | 0 => one'
  | m + 1 => cv (PS b m) (pw (m + 1) (b ((m + 1 : Nat) : Int)))
def QS (b : Int → Int) : Nat → Nat → Int
  | 0 => fun _ => 0
  | m + 1 => fun k => QS b m k + qw (m + 1) (b ((m + 1 : Nat) : Int)) k
theorem gr_PS (b : Int → Int) : ∀ m, Gr (QS b m) (PS b m)
  | 0 => gr_one
  | m + 1 => gr_mul (gr_PS b m) (gr_pw (by omega) _)
theorem PS_zero (b : Int → Int) : ∀ m, PS b m 0 = 1
  | 0 => rfl
  | m + 1 => by
    show cv _ _ 0 = 1
    unfold cv
    show 0 + PS b m 0 * pw (m + 1) _ (0 - 0) = 1
    rw [PS_zero b m]
    unfold pw pc
    rw [Nat.sub_zero, Nat.zero_mod, if_pos rfl, Nat.zero_div, chI_zero]; rfl
theorem QS_zero (b : Int → Int) : ∀ m, QS b m 0 = 0
  | 0 => rfl
  | m + 1 => by
    show QS b m 0 + qw _ _ 0 = 0
    rw [QS_zero b m]
    unfold qw; simp
theorem co_put (b : Int → Int) (n : Nat) : ∀ (m : Nat) (k : Nat), k ≤ n → co ((rng 1 ((m : Int) + 1)).foldl (fun put size => timesF put (powerF size (b size) (n : Int)) (n : Int)) ([1] ++ noughts (n : Int))) k = PS b m k
  | 0, k, hk => co_start _ _
  | m + 1, k, hk => by
    rw [show (((m + 1 : Nat) : Int) + 1) = ((m : Int) + 1) + 1 by omega, rng_snoc (by omega), List.foldl_append]
    show co (timesF _ (powerF ((m : Int) + 1) (b ((m : Int) + 1)) (n : Int)) (n : Int)) k = cv (PS b m) (pw (m + 1) (b ((m + 1 : Nat) : Int))) k
    rw [co_timesF k hk]
    refine cv_congr (fun i hi => co_put b n m i (by omega)) fun i hi => ?_
    exact co_powerF (s := m + 1) (by omega) _ i (by omega)
/-! ### numbers that tell a series -/
def BS (cf : Nat → Int) : Nat → Int → Int
  | 0 => fun _ => 0
  | m + 1 => fun e => if e = ((m + 1 : Nat) : Int) then PS (BS cf m) m (m + 1) - cf (m + 1) else BS cf m e
def bOf (cf : Nat → Int) (e : Int) : Int := BS cf e.toNat e
theorem BS_eq (cf : Nat → Int) : ∀ (m : Nat) (e : Int), 1 ≤ e → e ≤ m → BS cf m e = bOf cf e
  | 0, e, h1, h2 => by omega
  | m + 1, e, h1, h2 => by
    by_cases h : e = ((m + 1 : Nat) : Int)
    · subst h; rfl
    · show (if e = ((m + 1 : Nat) : Int) then _ else BS cf m e) = _
      rw [if_neg h]
      exact BS_eq cf m e h1 (by omega)
theorem QS_congr {b b' : Int → Int} : ∀ {m : Nat}, (∀ e : Int, 1 ≤ e → e ≤ m → b e = b' e) → ∀ k, QS b m k = QS b' m k
  | 0, _, k => rfl
  | m + 1, h, k => by
    show QS b m k + qw (m + 1) (b _) k = QS b' m k + qw (m + 1) (b' _) k
    rw [QS_congr (fun e h1 h2 => h e h1 (by omega)) k, h _ (by omega) (by omega)]
theorem qw_less {s k : Nat} {b : Int} (h : k < s) : qw s b k = 0 := by
  unfold qw
  rw [if_neg]
  rintro ⟨h1, h2⟩
  rw [Nat.mod_eq_of_lt h] at h1
  exact h2 h1
theorem qw_self {s : Nat} {b : Int} (h : s ≠ 0) : qw s b s = s * b := by
  unfold qw
  rw [if_pos ⟨Nat.mod_self s, h⟩]
theorem BS_ok {p cf : Nat → Int} (h : Gr p cf) (h0 : cf 0 = 1) (hp : p 0 = 0) : ∀ m k : Nat, k ≤ m → QS (BS cf m) m k = p k
  | 0, k, hk => by
    rw [show k = 0 by omega, hp]; rfl
  | m + 1, k, hk => by
    show QS (BS cf (m + 1)) m k + qw (m + 1) (BS cf (m + 1) ((m + 1 : Nat) : Int)) k = p k
    have e1 : QS (BS cf (m + 1)) m k = QS (BS cf m) m k := QS_congr (fun e h1 h2 => by
      show (if e = ((m + 1 : Nat) : Int) then _ else BS cf m e) = _
      rw [if_neg (by omega)]) k
    rw [e1]
    by_cases hkm : k ≤ m
    · rw [qw_less (by omega), Int.add_zero]
      exact BS_ok h h0 hp m k hkm
    · have : k = m + 1 := by omega
      subst this
      rw [qw_self (by omega)]
      have e2 : BS cf (m + 1) ((m + 1 : Nat) : Int) = PS (BS cf m) m (m + 1) - cf (m + 1) := if_pos rfl
      rw [e2]
      have := gr_next h (gr_PS (BS cf m) m) h0 (PS_zero _ _) (n := m) (fun i hi => (BS_ok h h0 hp m i hi).symm) hp
      rw [← this]; omega
theorem bOf_ok {p cf : Nat → Int} (h : Gr p cf) (h0 : cf 0 = 1) (hp : p 0 = 0) (m k : Nat) (hk : k ≤ m) : QS (bOf cf) m k = p k := by
  rw [← BS_ok h h0 hp m k hk]
  exact QS_congr (fun e h1 h2 => (BS_eq cf m e h1 h2).symm) k
theorem bOf_put {p cf : Nat → Int} (h : Gr p cf) (h0 : cf 0 = 1) (hp : p 0 = 0) (m k : Nat) (hk : k ≤ m) : PS (bOf cf) m k = cf k :=
  gr_same (gr_PS (bOf cf) m) h ((PS_zero _ _).trans h0.symm) (n := m) (fun i hi => bOf_ok h h0 hp m i hi) (QS_zero _ _) k hk
end PD

set_option Elab.async false
set_option linter.all false
set_option maxRecDepth 100000
namespace PD
/-! ### four places: a square of numbers solves its own letters -/
section
variable (a b c d e f g h i j k l m n o p : Int)
def l1 (a f k p : Int) : Int := -(a + f + k + p)
def l2 : Int := a * f - b * e + (a * k - c * i) + (a * p - d * m) + (f * k - g * j) + (f * p - h * n) + (k * p - l * o)
def l3 : Int := -((a * (f * k - g * j) - b * (e * k - g * i) + c * (e * j - f * i)) + (a * (f * p - h * n) - b * (e * p - h * m) + d * (e * n - f * m)) + (a * (k * p - l * o) - c * (i * p - l * m) + d * (i * o - k * m)) + (f * (k * p - l * o) - g * (j * p - l * n) + h * (j * o - k * n)))
def l4 : Int := a * (f * (k * p - l * o) - g * (j * p - l * n) + h * (j * o - k * n)) - b * (e * (k * p - l * o) - g * (i * p - l * m) + h * (i * o - k * m)) + c * (e * (j * p - l * n) - f * (i * p - l * m) + h * (i * n - j * m)) - d * (e * (j * o - k * n) - f * (i * o - k * m) + g * (i * n - j * m))
theorem ch00 (s0 s1 s2 s3 t0 t1 t2 t3 : Int) (hs0 : s0 = a * a + b * e + c * i + d * m) (hs1 : s1 = a * b + b * f + c * j + d * n) (hs2 : s2 = a * c + b * g + c * k + d * o) (hs3 : s3 = a * d + b * h + c * l + d * p)
    (ht0 : t0 = s0 * a + s1 * e + s2 * i + s3 * m)
    (ht1 : t1 = s0 * b + s1 * f + s2 * j + s3 * n)
    (ht2 : t2 = s0 * c + s1 * g + s2 * k + s3 * o)
    (ht3 : t3 = s0 * d + s1 * h + s2 * l + s3 * p)
    : (t0 * a + t1 * e + t2 * i + t3 * m) + l1 a f k p * t0 + l2 a b c d e f g h i j k l m n o p * s0 + l3 a b c d e f g h i j k l m n o p * a + l4 a b c d e f g h i j k l m n o p * 1 = 0 := by
  unfold l1 l2 l3 l4
  subst ht0 ht1 ht2 ht3 hs0 hs1 hs2 hs3
  grind
theorem ch01 (s0 s1 s2 s3 t0 t1 t2 t3 : Int) (hs0 : s0 = a * a + b * e + c * i + d * m) (hs1 : s1 = a * b + b * f + c * j + d * n) (hs2 : s2 = a * c + b * g + c * k + d * o) (hs3 : s3 = a * d + b * h + c * l + d * p)
    (ht0 : t0 = s0 * a + s1 * e + s2 * i + s3 * m)
    (ht1 : t1 = s0 * b + s1 * f + s2 * j + s3 * n)
    (ht2 : t2 = s0 * c + s1 * g + s2 * k + s3 * o)
    (ht3 : t3 = s0 * d + s1 * h + s2 * l + s3 * p)
    : (t0 * b + t1 * f + t2 * j + t3 * n) + l1 a f k p * t1 + l2 a b c d e f g h i j k l m n o p * s1 + l3 a b c d e f g h i j k l m n o p * b + l4 a b c d e f g h i j k l m n o p * 0 = 0 := by
  unfold l1 l2 l3 l4
  subst ht0 ht1 ht2 ht3 hs0 hs1 hs2 hs3
  grind
theorem ch02 (s0 s1 s2 s3 t0 t1 t2 t3 : Int) (hs0 : s0 = a * a + b * e + c * i + d * m) (hs1 : s1 = a * b + b * f + c * j + d * n) (hs2 : s2 = a * c + b * g + c * k + d * o) (hs3 : s3 = a * d + b * h + c * l + d * p)
    (ht0 : t0 = s0 * a + s1 * e + s2 * i + s3 * m)
    (ht1 : t1 = s0 * b + s1 * f + s2 * j + s3 * n)
    (ht2 : t2 = s0 * c + s1 * g + s2 * k + s3 * o)
    (ht3 : t3 = s0 * d + s1 * h + s2 * l + s3 * p)
    : (t0 * c + t1 * g + t2 * k + t3 * o) + l1 a f k p * t2 + l2 a b c d e f g h i j k l m n o p * s2 + l3 a b c d e f g h i j k l m n o p * c + l4 a b c d e f g h i j k l m n o p * 0 = 0 := by
  unfold l1 l2 l3 l4
  subst ht0 ht1 ht2 ht3 hs0 hs1 hs2 hs3
  grind
theorem ch03 (s0 s1 s2 s3 t0 t1 t2 t3 : Int) (hs0 : s0 = a * a + b * e + c * i + d * m) (hs1 : s1 = a * b + b * f + c * j + d * n) (hs2 : s2 = a * c + b * g + c * k + d * o) (hs3 : s3 = a * d + b * h + c * l + d * p)
    (ht0 : t0 = s0 * a + s1 * e + s2 * i + s3 * m)
    (ht1 : t1 = s0 * b + s1 * f + s2 * j + s3 * n)
    (ht2 : t2 = s0 * c + s1 * g + s2 * k + s3 * o)
    (ht3 : t3 = s0 * d + s1 * h + s2 * l + s3 * p)
    : (t0 * d + t1 * h + t2 * l + t3 * p) + l1 a f k p * t3 + l2 a b c d e f g h i j k l m n o p * s3 + l3 a b c d e f g h i j k l m n o p * d + l4 a b c d e f g h i j k l m n o p * 0 = 0 := by
  unfold l1 l2 l3 l4
  subst ht0 ht1 ht2 ht3 hs0 hs1 hs2 hs3
  grind
theorem ch10 (s0 s1 s2 s3 t0 t1 t2 t3 : Int) (hs0 : s0 = e * a + f * e + g * i + h * m) (hs1 : s1 = e * b + f * f + g * j + h * n) (hs2 : s2 = e * c + f * g + g * k + h * o) (hs3 : s3 = e * d + f * h + g * l + h * p)
    (ht0 : t0 = s0 * a + s1 * e + s2 * i + s3 * m)
    (ht1 : t1 = s0 * b + s1 * f + s2 * j + s3 * n)
    (ht2 : t2 = s0 * c + s1 * g + s2 * k + s3 * o)
    (ht3 : t3 = s0 * d + s1 * h + s2 * l + s3 * p)
    : (t0 * a + t1 * e + t2 * i + t3 * m) + l1 a f k p * t0 + l2 a b c d e f g h i j k l m n o p * s0 + l3 a b c d e f g h i j k l m n o p * e + l4 a b c d e f g h i j k l m n o p * 0 = 0 := by
  unfold l1 l2 l3 l4
  subst ht0 ht1 ht2 ht3 hs0 hs1 hs2 hs3
  grind
theorem ch11 (s0 s1 s2 s3 t0 t1 t2 t3 : Int) (hs0 : s0 = e * a + f * e + g * i + h * m) (hs1 : s1 = e * b + f * f + g * j + h * n) (hs2 : s2 = e * c + f * g + g * k + h * o) (hs3 : s3 = e * d + f * h + g * l + h * p)
    (ht0 : t0 = s0 * a + s1 * e + s2 * i + s3 * m)
    (ht1 : t1 = s0 * b + s1 * f + s2 * j + s3 * n)
    (ht2 : t2 = s0 * c + s1 * g + s2 * k + s3 * o)
    (ht3 : t3 = s0 * d + s1 * h + s2 * l + s3 * p)
    : (t0 * b + t1 * f + t2 * j + t3 * n) + l1 a f k p * t1 + l2 a b c d e f g h i j k l m n o p * s1 + l3 a b c d e f g h i j k l m n o p * f + l4 a b c d e f g h i j k l m n o p * 1 = 0 := by
  unfold l1 l2 l3 l4
  subst ht0 ht1 ht2 ht3 hs0 hs1 hs2 hs3
  grind
theorem ch12 (s0 s1 s2 s3 t0 t1 t2 t3 : Int) (hs0 : s0 = e * a + f * e + g * i + h * m) (hs1 : s1 = e * b + f * f + g * j + h * n) (hs2 : s2 = e * c + f * g + g * k + h * o) (hs3 : s3 = e * d + f * h + g * l + h * p)
    (ht0 : t0 = s0 * a + s1 * e + s2 * i + s3 * m)
    (ht1 : t1 = s0 * b + s1 * f + s2 * j + s3 * n)
    (ht2 : t2 = s0 * c + s1 * g + s2 * k + s3 * o)
    (ht3 : t3 = s0 * d + s1 * h + s2 * l + s3 * p)
    : (t0 * c + t1 * g + t2 * k + t3 * o) + l1 a f k p * t2 + l2 a b c d e f g h i j k l m n o p * s2 + l3 a b c d e f g h i j k l m n o p * g + l4 a b c d e f g h i j k l m n o p * 0 = 0 := by
  unfold l1 l2 l3 l4
  subst ht0 ht1 ht2 ht3 hs0 hs1 hs2 hs3
  grind
theorem ch13 (s0 s1 s2 s3 t0 t1 t2 t3 : Int) (hs0 : s0 = e * a + f * e + g * i + h * m) (hs1 : s1 = e * b + f * f + g * j + h * n) (hs2 : s2 = e * c + f * g + g * k + h * o) (hs3 : s3 = e * d + f * h + g * l + h * p)
    (ht0 : t0 = s0 * a + s1 * e + s2 * i + s3 * m)
    (ht1 : t1 = s0 * b + s1 * f + s2 * j + s3 * n)
    (ht2 : t2 = s0 * c + s1 * g + s2 * k + s3 * o)
    (ht3 : t3 = s0 * d + s1 * h + s2 * l + s3 * p)
    : (t0 * d + t1 * h + t2 * l + t3 * p) + l1 a f k p * t3 + l2 a b c d e f g h i j k l m n o p * s3 + l3 a b c d e f g h i j k l m n o p * h + l4 a b c d e f g h i j k l m n o p * 0 = 0 := by
  unfold l1 l2 l3 l4
  subst ht0 ht1 ht2 ht3 hs0 hs1 hs2 hs3
  grind
theorem ch20 (s0 s1 s2 s3 t0 t1 t2 t3 : Int) (hs0 : s0 = i * a + j * e + k * i + l * m) (hs1 : s1 = i * b + j * f + k * j + l * n) (hs2 : s2 = i * c + j * g + k * k + l * o) (hs3 : s3 = i * d + j * h + k * l + l * p)
    (ht0 : t0 = s0 * a + s1 * e + s2 * i + s3 * m)
    (ht1 : t1 = s0 * b + s1 * f + s2 * j + s3 * n)
    (ht2 : t2 = s0 * c + s1 * g + s2 * k + s3 * o)
    (ht3 : t3 = s0 * d + s1 * h + s2 * l + s3 * p)
    : (t0 * a + t1 * e + t2 * i + t3 * m) + l1 a f k p * t0 + l2 a b c d e f g h i j k l m n o p * s0 + l3 a b c d e f g h i j k l m n o p * i + l4 a b c d e f g h i j k l m n o p * 0 = 0 := by
  unfold l1 l2 l3 l4
  subst ht0 ht1 ht2 ht3 hs0 hs1 hs2 hs3
  grind
theorem ch21 (s0 s1 s2 s3 t0 t1 t2 t3 : Int) (hs0 : s0 = i * a + j * e + k * i + l * m) (hs1 : s1 = i * b + j * f + k * j + l * n) (hs2 : s2 = i * c + j * g + k * k + l * o) (hs3 : s3 = i * d + j * h + k * l + l * p)
    (ht0 : t0 = s0 * a + s1 * e + s2 * i + s3 * m)
    (ht1 : t1 = s0 * b + s1 * f + s2 * j + s3 * n)
    (ht2 : t2 = s0 * c + s1 * g + s2 * k + s3 * o)
    (ht3 : t3 = s0 * d + s1 * h + s2 * l + s3 * p)
    : (t0 * b + t1 * f + t2 * j + t3 * n) + l1 a f k p * t1 + l2 a b c d e f g h i j k l m n o p * s1 + l3 a b c d e f g h i j k l m n o p * j + l4 a b c d e f g h i j k l m n o p * 0 = 0 := by
  unfold l1 l2 l3 l4
  subst ht0 ht1 ht2 ht3 hs0 hs1 hs2 hs3
  grind
theorem ch22 (s0 s1 s2 s3 t0 t1 t2 t3 : Int) (hs0 : s0 = i * a + j * e + k * i + l * m) (hs1 : s1 = i * b + j * f + k * j + l * n) (hs2 : s2 = i * c + j * g + k * k + l * o) (hs3 : s3 = i * d + j * h + k * l + l * p)
    (ht0 : t0 = s0 * a + s1 * e + s2 * i + s3 * m)
    (ht1 : t1 = s0 * b + s1 * f + s2 * j + s3 * n)
    (ht2 : t2 = s0 * c + s1 * g + s2 * k + s3 * o)
    (ht3 : t3 = s0 * d + s1 * h + s2 * l + s3 * p)
    : (t0 * c + t1 * g + t2 * k + t3 * o) + l1 a f k p * t2 + l2 a b c d e f g h i j k l m n o p * s2 + l3 a b c d e f g h i j k l m n o p * k + l4 a b c d e f g h i j k l m n o p * 1 = 0 := by
  unfold l1 l2 l3 l4
  subst ht0 ht1 ht2 ht3 hs0 hs1 hs2 hs3
  grind
theorem ch23 (s0 s1 s2 s3 t0 t1 t2 t3 : Int) (hs0 : s0 = i * a + j * e + k * i + l * m) (hs1 : s1 = i * b + j * f + k * j + l * n) (hs2 : s2 = i * c + j * g + k * k + l * o) (hs3 : s3 = i * d + j * h + k * l + l * p)
    (ht0 : t0 = s0 * a + s1 * e + s2 * i + s3 * m)
    (ht1 : t1 = s0 * b + s1 * f + s2 * j + s3 * n)
    (ht2 : t2 = s0 * c + s1 * g + s2 * k + s3 * o)
    (ht3 : t3 = s0 * d + s1 * h + s2 * l + s3 * p)
    : (t0 * d + t1 * h + t2 * l + t3 * p) + l1 a f k p * t3 + l2 a b c d e f g h i j k l m n o p * s3 + l3 a b c d e f g h i j k l m n o p * l + l4 a b c d e f g h i j k l m n o p * 0 = 0 := by
  unfold l1 l2 l3 l4
  subst ht0 ht1 ht2 ht3 hs0 hs1 hs2 hs3
  grind
theorem ch30 (s0 s1 s2 s3 t0 t1 t2 t3 : Int) (hs0 : s0 = m * a + n * e + o * i + p * m) (hs1 : s1 = m * b + n * f + o * j + p * n) (hs2 : s2 = m * c + n * g + o * k + p * o) (hs3 : s3 = m * d + n * h + o * l + p * p)
    (ht0 : t0 = s0 * a + s1 * e + s2 * i + s3 * m)
    (ht1 : t1 = s0 * b + s1 * f + s2 * j + s3 * n)
    (ht2 : t2 = s0 * c + s1 * g + s2 * k + s3 * o)
    (ht3 : t3 = s0 * d + s1 * h + s2 * l + s3 * p)
    : (t0 * a + t1 * e + t2 * i + t3 * m) + l1 a f k p * t0 + l2 a b c d e f g h i j k l m n o p * s0 + l3 a b c d e f g h i j k l m n o p * m + l4 a b c d e f g h i j k l m n o p * 0 = 0 := by
  unfold l1 l2 l3 l4
  subst ht0 ht1 ht2 ht3 hs0 hs1 hs2 hs3
  grind
theorem ch31 (s0 s1 s2 s3 t0 t1 t2 t3 : Int) (hs0 : s0 = m * a + n * e + o * i + p * m) (hs1 : s1 = m * b + n * f + o * j + p * n) (hs2 : s2 = m * c + n * g + o * k + p * o) (hs3 : s3 = m * d + n * h + o * l + p * p)
    (ht0 : t0 = s0 * a + s1 * e + s2 * i + s3 * m)
    (ht1 : t1 = s0 * b + s1 * f + s2 * j + s3 * n)
    (ht2 : t2 = s0 * c + s1 * g + s2 * k + s3 * o)
    (ht3 : t3 = s0 * d + s1 * h + s2 * l + s3 * p)
    : (t0 * b + t1 * f + t2 * j + t3 * n) + l1 a f k p * t1 + l2 a b c d e f g h i j k l m n o p * s1 + l3 a b c d e f g h i j k l m n o p * n + l4 a b c d e f g h i j k l m n o p * 0 = 0 := by
  unfold l1 l2 l3 l4
  subst ht0 ht1 ht2 ht3 hs0 hs1 hs2 hs3
  grind
theorem ch32 (s0 s1 s2 s3 t0 t1 t2 t3 : Int) (hs0 : s0 = m * a + n * e + o * i + p * m) (hs1 : s1 = m * b + n * f + o * j + p * n) (hs2 : s2 = m * c + n * g + o * k + p * o) (hs3 : s3 = m * d + n * h + o * l + p * p)
    (ht0 : t0 = s0 * a + s1 * e + s2 * i + s3 * m)
    (ht1 : t1 = s0 * b + s1 * f + s2 * j + s3 * n)
    (ht2 : t2 = s0 * c + s1 * g + s2 * k + s3 * o)
    (ht3 : t3 = s0 * d + s1 * h + s2 * l + s3 * p)
    : (t0 * c + t1 * g + t2 * k + t3 * o) + l1 a f k p * t2 + l2 a b c d e f g h i j k l m n o p * s2 + l3 a b c d e f g h i j k l m n o p * o + l4 a b c d e f g h i j k l m n o p * 0 = 0 := by
  unfold l1 l2 l3 l4
  subst ht0 ht1 ht2 ht3 hs0 hs1 hs2 hs3
  grind
theorem ch33 (s0 s1 s2 s3 t0 t1 t2 t3 : Int) (hs0 : s0 = m * a + n * e + o * i + p * m) (hs1 : s1 = m * b + n * f + o * j + p * n) (hs2 : s2 = m * c + n * g + o * k + p * o) (hs3 : s3 = m * d + n * h + o * l + p * p)
    (ht0 : t0 = s0 * a + s1 * e + s2 * i + s3 * m)
    (ht1 : t1 = s0 * b + s1 * f + s2 * j + s3 * n)
    (ht2 : t2 = s0 * c + s1 * g + s2 * k + s3 * o)
    (ht3 : t3 = s0 * d + s1 * h + s2 * l + s3 * p)
    : (t0 * d + t1 * h + t2 * l + t3 * p) + l1 a f k p * t3 + l2 a b c d e f g h i j k l m n o p * s3 + l3 a b c d e f g h i j k l m n o p * p + l4 a b c d e f g h i j k l m n o p * 1 = 0 := by
  unfold l1 l2 l3 l4
  subst ht0 ht1 ht2 ht3 hs0 hs1 hs2 hs3
  grind
theorem newt2 : 2 * l2 a b c d e f g h i j k l m n o p = -(l1 a f k p * (a + f + k + p) + ((a * a + b * e + c * i + d * m) + (e * b + f * f + g * j + h * n) + (i * c + j * g + k * k + l * o) + (m * d + n * h + o * l + p * p))) := by
  unfold l1 l2
  grind
theorem newt3 (s : Nat → Nat → Int) (h00 : s 0 0 = a * a + b * e + c * i + d * m) (h01 : s 0 1 = a * b + b * f + c * j + d * n) (h02 : s 0 2 = a * c + b * g + c * k + d * o) (h03 : s 0 3 = a * d + b * h + c * l + d * p)
    (h10 : s 1 0 = e * a + f * e + g * i + h * m) (h11 : s 1 1 = e * b + f * f + g * j + h * n) (h12 : s 1 2 = e * c + f * g + g * k + h * o) (h13 : s 1 3 = e * d + f * h + g * l + h * p)
    (h20 : s 2 0 = i * a + j * e + k * i + l * m) (h21 : s 2 1 = i * b + j * f + k * j + l * n) (h22 : s 2 2 = i * c + j * g + k * k + l * o) (h23 : s 2 3 = i * d + j * h + k * l + l * p)
    (h30 : s 3 0 = m * a + n * e + o * i + p * m) (h31 : s 3 1 = m * b + n * f + o * j + p * n) (h32 : s 3 2 = m * c + n * g + o * k + p * o) (h33 : s 3 3 = m * d + n * h + o * l + p * p) :
    3 * l3 a b c d e f g h i j k l m n o p = -(l2 a b c d e f g h i j k l m n o p * (a + f + k + p) + l1 a f k p * (s 0 0 + s 1 1 + s 2 2 + s 3 3) + ((s 0 0 * a + s 0 1 * e + s 0 2 * i + s 0 3 * m) + (s 1 0 * b + s 1 1 * f + s 1 2 * j + s 1 3 * n) + (s 2 0 * c + s 2 1 * g + s 2 2 * k + s 2 3 * o) + (s 3 0 * d + s 3 1 * h + s 3 2 * l + s 3 3 * p))) := by
  rw [h00, h01, h02, h03, h10, h11, h12, h13, h20, h21, h22, h23, h30, h31, h32, h33]
  unfold l1 l2 l3
  grind
end
end PD

set_option Elab.async false
set_option linter.all false
set_option maxRecDepth 100000
namespace PD
/-! ### powers of a square of four places, as series -/
def mq (a : Nat → Nat → Int) : Nat → Nat → Nat → Int
  | 0 => fun i j => if i = j then 1 else 0
  | k + 1 => fun i j => mq a k i 0 * a 0 j + mq a k i 1 * a 1 j + mq a k i 2 * a 2 j + mq a k i 3 * a 3 j
def L1 (a : Nat → Nat → Int) : Int := l1 (a 0 0) (a 1 1) (a 2 2) (a 3 3)
def L2 (a : Nat → Nat → Int) : Int := l2 (a 0 0) (a 0 1) (a 0 2) (a 0 3) (a 1 0) (a 1 1) (a 1 2) (a 1 3) (a 2 0) (a 2 1) (a 2 2) (a 2 3) (a 3 0) (a 3 1) (a 3 2) (a 3 3)
def L3 (a : Nat → Nat → Int) : Int := l3 (a 0 0) (a 0 1) (a 0 2) (a 0 3) (a 1 0) (a 1 1) (a 1 2) (a 1 3) (a 2 0) (a 2 1) (a 2 2) (a 2 3) (a 3 0) (a 3 1) (a 3 2) (a 3 3)
def L4 (a : Nat → Nat → Int) : Int := l4 (a 0 0) (a 0 1) (a 0 2) (a 0 3) (a 1 0) (a 1 1) (a 1 2) (a 1 3) (a 2 0) (a 2 1) (a 2 2) (a 2 3) (a 3 0) (a 3 1) (a 3 2) (a 3 3)
theorem mq_one (a : Nat → Nat → Int) {i j : Nat} (hi : i < 4) : mq a 1 i j = a i j := by
  show (if i = 0 then 1 else 0) * a 0 j + (if i = 1 then 1 else 0) * a 1 j + (if i = 2 then 1 else 0) * a 2 j + (if i = 3 then 1 else 0) * a 3 j = a i j
  match i, hi with
  | 0, _ => simp
  | 1, _ => simp
  | 2, _ => simp
  | 3, _ => simp
theorem mq_two (a : Nat → Nat → Int) {i j : Nat} (hi : i < 4) : mq a 2 i j = a i 0 * a 0 j + a i 1 * a 1 j + a i 2 * a 2 j + a i 3 * a 3 j := by
  show mq a 1 i 0 * a 0 j + mq a 1 i 1 * a 1 j + mq a 1 i 2 * a 2 j + mq a 1 i 3 * a 3 j = _
  rw [mq_one a hi, mq_one a hi, mq_one a hi, mq_one a hi]
theorem mq_base (a : Nat → Nat → Int) {i j : Nat} (hi : i < 4) (hj : j < 4) : mq a 4 i j + L1 a * mq a 3 i j + L2 a * mq a 2 i j + L3 a * mq a 1 i j + L4 a * mq a 0 i j = 0 := by
  rw [mq_one a hi]
  match i, hi, j, hj with
  | 0, h, 0, _ => exact ch00 (a 0 0) (a 0 1) (a 0 2) (a 0 3) (a 1 0) (a 1 1) (a 1 2) (a 1 3) (a 2 0) (a 2 1) (a 2 2) (a 2 3) (a 3 0) (a 3 1) (a 3 2) (a 3 3) _ _ _ _ _ _ _ _ (mq_two a h) (mq_two a h) (mq_two a h) (mq_two a h) rfl rfl rfl rfl
  | 0, h, 1, _ => exact ch01 (a 0 0) (a 0 1) (a 0 2) (a 0 3) (a 1 0) (a 1 1) (a 1 2) (a 1 3) (a 2 0) (a 2 1) (a 2 2) (a 2 3) (a 3 0) (a 3 1) (a 3 2) (a 3 3) _ _ _ _ _ _ _ _ (mq_two a h) (mq_two a h) (mq_two a h) (mq_two a h) rfl rfl rfl rfl
  | 0, h, 2, _ => exact ch02 (a 0 0) (a 0 1) (a 0 2) (a 0 3) (a 1 0) (a 1 1) (a 1 2) (a 1 3) (a 2 0) (a 2 1) (a 2 2) (a 2 3) (a 3 0) (a 3 1) (a 3 2) (a 3 3) _ _ _ _ _ _ _ _ (mq_two a h) (mq_two a h) (mq_two a h) (mq_two a h) rfl rfl rfl rfl
  | 0, h, 3, _ => exact ch03 (a 0 0) (a 0 1) (a 0 2) (a 0 3) (a 1 0) (a 1 1) (a 1 2) (a 1 3) (a 2 0) (a 2 1) (a 2 2) (a 2 3) (a 3 0) (a 3 1) (a 3 2) (a 3 3) _ _ _ _ _ _ _ _ (mq_two a h) (mq_two a h) (mq_two a h) (mq_two a h) rfl rfl rfl rfl
  | 1, h, 0, _ => exact ch10 (a 0 0) (a 0 1) (a 0 2) (a 0 3) (a 1 0) (a 1 1) (a 1 2) (a 1 3) (a 2 0) (a 2 1) (a 2 2) (a 2 3) (a 3 0) (a 3 1) (a 3 2) (a 3 3) _ _ _ _ _ _ _ _ (mq_two a h) (mq_two a h) (mq_two a h) (mq_two a h) rfl rfl rfl rfl
  | 1, h, 1, _ => exact ch11 (a 0 0) (a 0 1) (a 0 2) (a 0 3) (a 1 0) (a 1 1) (a 1 2) (a 1 3) (a 2 0) (a 2 1) (a 2 2) (a 2 3) (a 3 0) (a 3 1) (a 3 2) (a 3 3) _ _ _ _ _ _ _ _ (mq_two a h) (mq_two a h) (mq_two a h) (mq_two a h) rfl rfl rfl rfl
  | 1, h, 2, _ => exact ch12 (a 0 0) (a 0 1) (a 0 2) (a 0 3) (a 1 0) (a 1 1) (a 1 2) (a 1 3) (a 2 0) (a 2 1) (a 2 2) (a 2 3) (a 3 0) (a 3 1) (a 3 2) (a 3 3) _ _ _ _ _ _ _ _ (mq_two a h) (mq_two a h) (mq_two a h) (mq_two a h) rfl rfl rfl rfl
  | 1, h, 3, _ => exact ch13 (a 0 0) (a 0 1) (a 0 2) (a 0 3) (a 1 0) (a 1 1) (a 1 2) (a 1 3) (a 2 0) (a 2 1) (a 2 2) (a 2 3) (a 3 0) (a 3 1) (a 3 2) (a 3 3) _ _ _ _ _ _ _ _ (mq_two a h) (mq_two a h) (mq_two a h) (mq_two a h) rfl rfl rfl rfl
  | 2, h, 0, _ => exact ch20 (a 0 0) (a 0 1) (a 0 2) (a 0 3) (a 1 0) (a 1 1) (a 1 2) (a 1 3) (a 2 0) (a 2 1) (a 2 2) (a 2 3) (a 3 0) (a 3 1) (a 3 2) (a 3 3) _ _ _ _ _ _ _ _ (mq_two a h) (mq_two a h) (mq_two a h) (mq_two a h) rfl rfl rfl rfl
  | 2, h, 1, _ => exact ch21 (a 0 0) (a 0 1) (a 0 2) (a 0 3) (a 1 0) (a 1 1) (a 1 2) (a 1 3) (a 2 0) (a 2 1) (a 2 2) (a 2 3) (a 3 0) (a 3 1) (a 3 2) (a 3 3) _ _ _ _ _ _ _ _ (mq_two a h) (mq_two a h) (mq_two a h) (mq_two a h) rfl rfl rfl rfl
  | 2, h, 2, _ => exact ch22 (a 0 0) (a 0 1) (a 0 2) (a 0 3) (a 1 0) (a 1 1) (a 1 2) (a 1 3) (a 2 0) (a 2 1) (a 2 2) (a 2 3) (a 3 0) (a 3 1) (a 3 2) (a 3 3) _ _ _ _ _ _ _ _ (mq_two a h) (mq_two a h) (mq_two a h) (mq_two a h) rfl rfl rfl rfl
  | 2, h, 3, _ => exact ch23 (a 0 0) (a 0 1) (a 0 2) (a 0 3) (a 1 0) (a 1 1) (a 1 2) (a 1 3) (a 2 0) (a 2 1) (a 2 2) (a 2 3) (a 3 0) (a 3 1) (a 3 2) (a 3 3) _ _ _ _ _ _ _ _ (mq_two a h) (mq_two a h) (mq_two a h) (mq_two a h) rfl rfl rfl rfl
  | 3, h, 0, _ => exact ch30 (a 0 0) (a 0 1) (a 0 2) (a 0 3) (a 1 0) (a 1 1) (a 1 2) (a 1 3) (a 2 0) (a 2 1) (a 2 2) (a 2 3) (a 3 0) (a 3 1) (a 3 2) (a 3 3) _ _ _ _ _ _ _ _ (mq_two a h) (mq_two a h) (mq_two a h) (mq_two a h) rfl rfl rfl rfl
  | 3, h, 1, _ => exact ch31 (a 0 0) (a 0 1) (a 0 2) (a 0 3) (a 1 0) (a 1 1) (a 1 2) (a 1 3) (a 2 0) (a 2 1) (a 2 2) (a 2 3) (a 3 0) (a 3 1) (a 3 2) (a 3 3) _ _ _ _ _ _ _ _ (mq_two a h) (mq_two a h) (mq_two a h) (mq_two a h) rfl rfl rfl rfl
  | 3, h, 2, _ => exact ch32 (a 0 0) (a 0 1) (a 0 2) (a 0 3) (a 1 0) (a 1 1) (a 1 2) (a 1 3) (a 2 0) (a 2 1) (a 2 2) (a 2 3) (a 3 0) (a 3 1) (a 3 2) (a 3 3) _ _ _ _ _ _ _ _ (mq_two a h) (mq_two a h) (mq_two a h) (mq_two a h) rfl rfl rfl rfl
  | 3, h, 3, _ => exact ch33 (a 0 0) (a 0 1) (a 0 2) (a 0 3) (a 1 0) (a 1 1) (a 1 2) (a 1 3) (a 2 0) (a 2 1) (a 2 2) (a 2 3) (a 3 0) (a 3 1) (a 3 2) (a 3 3) _ _ _ _ _ _ _ _ (mq_two a h) (mq_two a h) (mq_two a h) (mq_two a h) rfl rfl rfl rfl
theorem mq_all (a : Nat → Nat → Int) : ∀ (k : Nat) {i j : Nat}, i < 4 → j < 4 → mq a (k + 4) i j + L1 a * mq a (k + 3) i j + L2 a * mq a (k + 2) i j + L3 a * mq a (k + 1) i j + L4 a * mq a k i j = 0
  | 0, i, j, hi, hj => mq_base a hi hj
  | k + 1, i, j, hi, hj => by
    have h0 := mq_all a k hi (show 0 < 4 by decide)
    have h1 := mq_all a k hi (show 1 < 4 by decide)
    have h2 := mq_all a k hi (show 2 < 4 by decide)
    have h3 := mq_all a k hi (show 3 < 4 by decide)
    have e : ∀ n, mq a (n + 1) i j = mq a n i 0 * a 0 j + mq a n i 1 * a 1 j + mq a n i 2 * a 2 j + mq a n i 3 * a 3 j := fun n => rfl
    rw [show k + 1 + 4 = (k + 4) + 1 by omega, show k + 1 + 3 = (k + 3) + 1 by omega, show k + 1 + 2 = (k + 2) + 1 by omega, e, e, e, e (k + 1), e k]
    generalize mq a (k + 4) i 0 = x0 at *
    generalize mq a (k + 4) i 1 = x1 at *
    generalize mq a (k + 4) i 2 = x2 at *
    generalize mq a (k + 4) i 3 = x3 at *
    generalize mq a (k + 3) i 0 = y0 at *
    generalize mq a (k + 3) i 1 = y1 at *
    generalize mq a (k + 3) i 2 = y2 at *
    generalize mq a (k + 3) i 3 = y3 at *
    generalize mq a (k + 2) i 0 = z0 at *
    generalize mq a (k + 2) i 1 = z1 at *
    generalize mq a (k + 2) i 2 = z2 at *
    generalize mq a (k + 2) i 3 = z3 at *
    generalize mq a (k + 1) i 0 = u0 at *
    generalize mq a (k + 1) i 1 = u1 at *
    generalize mq a (k + 1) i 2 = u2 at *
    generalize mq a (k + 1) i 3 = u3 at *
    generalize mq a k i 0 = v0 at *
    generalize mq a k i 1 = v1 at *
    generalize mq a k i 2 = v2 at *
    generalize mq a k i 3 = v3 at *
    generalize L1 a = c1 at *
    generalize L2 a = c2 at *
    generalize L3 a = c3 at *
    generalize L4 a = c4 at *
    generalize a 0 j = w0 at *
    generalize a 1 j = w1 at *
    generalize a 2 j = w2 at *
    generalize a 3 j = w3 at *
    have g0 : (x0 + c1 * y0 + c2 * z0 + c3 * u0 + c4 * v0) * w0 = 0 := by rw [h0, Int.zero_mul]
    have g1 : (x1 + c1 * y1 + c2 * z1 + c3 * u1 + c4 * v1) * w1 = 0 := by rw [h1, Int.zero_mul]
    have g2 : (x2 + c1 * y2 + c2 * z2 + c3 * u2 + c4 * v2) * w2 = 0 := by rw [h2, Int.zero_mul]
    have g3 : (x3 + c1 * y3 + c2 * z3 + c3 * u3 + c4 * v3) * w3 = 0 := by rw [h3, Int.zero_mul]
    clear h0 h1 h2 h3
    grind
/-- closed ways of k roads -/
def pp (a : Nat → Nat → Int) (k : Nat) : Int := if k = 0 then 0 else mq a k 0 0 + mq a k 1 1 + mq a k 2 2 + mq a k 3 3
def cf (a : Nat → Nat → Int) : Nat → Int
  | 0 => 1
  | 1 => L1 a
  | 2 => L2 a
  | 3 => L3 a
  | 4 => L4 a
  | _ + 5 => 0
theorem gr_cf (a : Nat → Nat → Int) : Gr (pp a) (cf a)
  | 0 => by
    show (0 : Int) * _ = -(0 + pp a 0 * cf a 0)
    simp [pp]
  | 1 => by
    show ((1 : Nat) : Int) * L1 a = -(0 + pp a 0 * L1 a + pp a 1 * 1)
    have : pp a 1 = a 0 0 + a 1 1 + a 2 2 + a 3 3 := by
      show mq a 1 0 0 + mq a 1 1 1 + mq a 1 2 2 + mq a 1 3 3 = _
      rw [mq_one a (by decide), mq_one a (by decide), mq_one a (by decide), mq_one a (by decide)]
    rw [this]
    show ((1 : Nat) : Int) * l1 _ _ _ _ = -(0 + 0 * L1 a + (a 0 0 + a 1 1 + a 2 2 + a 3 3) * 1)
    unfold l1
    omega
  | 2 => by
    show ((2 : Nat) : Int) * L2 a = -(0 + pp a 0 * L2 a + pp a 1 * L1 a + pp a 2 * 1)
    have e1 : pp a 1 = a 0 0 + a 1 1 + a 2 2 + a 3 3 := by
      show mq a 1 0 0 + mq a 1 1 1 + mq a 1 2 2 + mq a 1 3 3 = _
      rw [mq_one a (by decide), mq_one a (by decide), mq_one a (by decide), mq_one a (by decide)]
    have e2 : pp a 2 = mq a 2 0 0 + mq a 2 1 1 + mq a 2 2 2 + mq a 2 3 3 := rfl
    have e0 : pp a 0 = 0 := rfl
    rw [e1, e2, e0, mq_two a (by decide), mq_two a (by decide), mq_two a (by decide), mq_two a (by decide)]
    have h : 2 * L2 a = -(L1 a * (a 0 0 + a 1 1 + a 2 2 + a 3 3) + _) := newt2 (a 0 0) (a 0 1) (a 0 2) (a 0 3) (a 1 0) (a 1 1) (a 1 2) (a 1 3) (a 2 0) (a 2 1) (a 2 2) (a 2 3) (a 3 0) (a 3 1) (a 3 2) (a 3 3)
    show (2 : Int) * L2 a = _
    rw [h]
    generalize L1 a = c1
    generalize L2 a = c2
    rw [Int.mul_comm (a 0 0 + a 1 1 + a 2 2 + a 3 3) c1]
    omega
  | 3 => by
    show ((3 : Nat) : Int) * L3 a = -(0 + pp a 0 * L3 a + pp a 1 * L2 a + pp a 2 * L1 a + pp a 3 * 1)
    have e1 : pp a 1 = a 0 0 + a 1 1 + a 2 2 + a 3 3 := by
      show mq a 1 0 0 + mq a 1 1 1 + mq a 1 2 2 + mq a 1 3 3 = _
      rw [mq_one a (by decide), mq_one a (by decide), mq_one a (by decide), mq_one a (by decide)]
    have e2 : pp a 2 = mq a 2 0 0 + mq a 2 1 1 + mq a 2 2 2 + mq a 2 3 3 := rfl
    have e0 : pp a 0 = 0 := rfl
    have e3 : pp a 3 = mq a 3 0 0 + mq a 3 1 1 + mq a 3 2 2 + mq a 3 3 3 := rfl
    have h := newt3 (a 0 0) (a 0 1) (a 0 2) (a 0 3) (a 1 0) (a 1 1) (a 1 2) (a 1 3) (a 2 0) (a 2 1) (a 2 2) (a 2 3) (a 3 0) (a 3 1) (a 3 2) (a 3 3) (mq a 2) (mq_two a (by decide)) (mq_two a (by decide)) (mq_two a (by decide)) (mq_two a (by decide)) (mq_two a (by decide)) (mq_two a (by decide)) (mq_two a (by decide)) (mq_two a (by decide)) (mq_two a (by decide)) (mq_two a (by decide)) (mq_two a (by decide)) (mq_two a (by decide)) (mq_two a (by decide)) (mq_two a (by decide)) (mq_two a (by decide)) (mq_two a (by decide))
    have h' : 3 * L3 a = -(L2 a * (a 0 0 + a 1 1 + a 2 2 + a 3 3) + L1 a * (mq a 2 0 0 + mq a 2 1 1 + mq a 2 2 2 + mq a 2 3 3) + (mq a 3 0 0 + mq a 3 1 1 + mq a 3 2 2 + mq a 3 3 3)) := h
    show (3 : Int) * L3 a = _
    rw [h', e0, e1, e2, e3, Int.mul_comm (a 0 0 + a 1 1 + a 2 2 + a 3 3) (L2 a), Int.mul_comm (mq a 2 0 0 + mq a 2 1 1 + mq a 2 2 2 + mq a 2 3 3) (L1 a)]
    omega
  | k + 4 => by
    have hc : cv (pp a) (cf a) (k + 4) = su (fun i => cf a i * pp a (k + 4 - i)) (k + 4 + 1) := cv_comm _ _ _
    have e5 : su (fun i => cf a i * pp a (k + 4 - i)) (k + 4 + 1) = su (fun i => cf a i * pp a (k + 4 - i)) 5 := su_more (by omega) fun i h1 _ => by
      obtain ⟨d, rfl⟩ : ∃ d, i = d + 5 := ⟨i - 5, by omega⟩
      show 0 * _ = (0 : Int)
      exact Int.zero_mul _
    rw [hc, e5]
    show ((k + 4 : Nat) : Int) * cf a (k + 4) = -(0 + 1 * pp a (k + 4) + L1 a * pp a (k + 3) + L2 a * pp a (k + 2) + L3 a * pp a (k + 1) + L4 a * pp a k)
    have q0 := mq_all a k (show 0 < 4 by decide) (show 0 < 4 by decide)
    have q1 := mq_all a k (show 1 < 4 by decide) (show 1 < 4 by decide)
    have q2 := mq_all a k (show 2 < 4 by decide) (show 2 < 4 by decide)
    have q3 := mq_all a k (show 3 < 4 by decide) (show 3 < 4 by decide)
    have p4 : pp a (k + 4) = mq a (k + 4) 0 0 + mq a (k + 4) 1 1 + mq a (k + 4) 2 2 + mq a (k + 4) 3 3 := rfl
    have p3 : pp a (k + 3) = mq a (k + 3) 0 0 + mq a (k + 3) 1 1 + mq a (k + 3) 2 2 + mq a (k + 3) 3 3 := rfl
    have p2 : pp a (k + 2) = mq a (k + 2) 0 0 + mq a (k + 2) 1 1 + mq a (k + 2) 2 2 + mq a (k + 2) 3 3 := rfl
    have p1 : pp a (k + 1) = mq a (k + 1) 0 0 + mq a (k + 1) 1 1 + mq a (k + 1) 2 2 + mq a (k + 1) 3 3 := rfl
    rw [p4, p3, p2, p1]
    cases k with
    | zero =>
      have e0 : pp a 0 = 0 := rfl
      have d0 : mq a 0 0 0 = 1 := rfl
      have d1 : mq a 0 1 1 = 1 := rfl
      have d2 : mq a 0 2 2 = 1 := rfl
      have d3 : mq a 0 3 3 = 1 := rfl
      rw [e0]
      rw [d0] at q0
      rw [d1] at q1
      rw [d2] at q2
      rw [d3] at q3
      show ((0 + 4 : Nat) : Int) * L4 a = _
      simp only [Nat.zero_add, Int.mul_add, Int.mul_zero, Int.mul_one] at *
      omega
    | succ k =>
      have p0 : pp a (k + 1) = mq a (k + 1) 0 0 + mq a (k + 1) 1 1 + mq a (k + 1) 2 2 + mq a (k + 1) 3 3 := rfl
      rw [p0]
      show ((k + 1 + 4 : Nat) : Int) * 0 = _
      simp only [Int.mul_add, Int.mul_zero] at *
      omega
end PD

set_option Elab.async false
set_option linter.all false
set_option maxRecDepth 100000
namespace PD
/-! ### webs as functions -/
def el (m : Mat) (i j : Nat) : Int := nth (nth m (i : Int)) (j : Int)
theorem rng_sum (f : Int → Int) : ∀ n : Nat, ((rng 0 (n : Int)).map f).sum = su (fun i => f (i : Int)) n
  | 0 => rfl
  | n + 1 => by
    rw [show (((n + 1 : Nat) : Int)) = (n : Int) + 1 by omega, rng_snoc (by omega), List.map_append, List.sum_append, rng_sum f n]
    simp [su]
theorem nth_rng {n i : Nat} (h : i < n) : nth (rng 0 (n : Int)) (i : Int) = (i : Int) := by
  unfold nth rng
  rw [List.getD_eq_getElem?_getD, List.getElem?_map, show ((i : Int)).toNat = i by omega, List.getElem?_range (by omega)]
  simp
theorem el_mprod {n : Nat} {a b : Mat} (ha : Sq n a) {i j : Nat} (hi : i < n) (hj : j < n) : el (mprod a b) i j = su (fun k => el a i k * el b k j) n := by
  unfold el mprod
  rw [nth_map (by rw [ha.len]; omega), ha.len, nth_map (by rw [rng_len]; omega), nth_rng hj, rng_sum]
theorem mtr_el (n : Nat) (m : Mat) : mtr n m = su (fun p => el m p p) n := rng_sum _ n
/-- powers by functions -/
def mp (a : Nat → Nat → Int) (n : Nat) : Nat → Nat → Nat → Int
  | 0 => a
  | k + 1 => fun i j => su (fun l => mp a n k i l * a l j) n
theorem el_mpow {n : Nat} {m : Mat} (h : Sq n m) : ∀ (k : Nat) {i j : Nat}, i < n → j < n → el (mpow m k) i j = mp (el m) n k i j
  | 0, i, j, _, _ => rfl
  | k + 1, i, j, hi, hj => by
    show el (mprod (mpow m k) m) i j = _
    rw [el_mprod (sq_mpow h k) hi hj]
    exact su_congr fun l hl => by rw [el_mpow h k hi hl]
theorem mp_congr {a b : Nat → Nat → Int} {n : Nat} (h : ∀ i j, i < n → j < n → a i j = b i j) : ∀ (k : Nat) {i j : Nat}, i < n → j < n → mp a n k i j = mp b n k i j
  | 0, i, j, hi, hj => h i j hi hj
  | k + 1, i, j, hi, hj => su_congr fun l hl => by rw [mp_congr h k hi hl, h l j hl hj]
theorem tr_el {n : Nat} {m : Mat} (h : Sq n m) (k : Nat) : mtr m.length (mpow m k) = su (fun p => mp (el m) n k p p) n := by
  rw [h.len, mtr_el]
  exact su_congr fun p hp => el_mpow h k hp hp
/-- from the left -/
theorem mp_left (a : Nat → Nat → Int) (n : Nat) : ∀ (k : Nat) (i j : Nat), mp a n (k + 1) i j = su (fun l => a i l * mp a n k l j) n
  | 0, i, j => rfl
  | k + 1, i, j => by
    show su (fun l => mp a n (k + 1) i l * a l j) n = su (fun l => a i l * su (fun q => mp a n k l q * a q j) n) n
    have e1 : su (fun l => mp a n (k + 1) i l * a l j) n = su (fun l => su (fun q => a i q * mp a n k q l * a l j) n) n := su_congr fun l _ => by
      rw [mp_left a n k i l, su_mulr]
    rw [e1, su_swap]
    exact su_congr fun l _ => by
      rw [← su_mul]
      exact su_congr fun q _ => Int.mul_assoc _ _ _
/-! ### all roads the other way -/
theorem el_transp {n : Nat} {m : Mat} (h : Sq n m) {i j : Nat} (hi : i < n) (hj : j < n) : el (transp m) i j = el m j i := by
  unfold el transp
  rw [h.len, nth_map (by rw [rng_len]; omega), nth_rng hi, nth_map (by rw [rng_len]; omega), nth_rng hj]
theorem mp_transp (a : Nat → Nat → Int) (n : Nat) : ∀ (k : Nat) (i j : Nat), mp (fun i j => a j i) n k i j = mp a n k j i
  | 0, i, j => rfl
  | k + 1, i, j => by
    rw [mp_left a n k j i]
    show su (fun l => mp (fun i j => a j i) n k i l * a j l) n = _
    exact su_congr fun l _ => by rw [mp_transp a n k i l, Int.mul_comm]
theorem tr_transp {n : Nat} {m : Mat} (h : Sq n m) (h' : Sq n (transp m)) (k : Nat) : mtr (transp m).length (mpow (transp m) k) = mtr m.length (mpow m k) := by
  rw [tr_el h', tr_el h]
  exact su_congr fun p hp => by
    rw [mp_congr (b := fun i j => el m j i) (fun i j hi hj => el_transp h hi hj) k hp hp, mp_transp]
/-! ### places in another order -/
theorem perm_sum {f : Int → Int} {xs ys : List Int} (h : xs.Perm ys) : (xs.map f).sum = (ys.map f).sum := by
  induction h with
  | nil => rfl
  | cons x _ ih => simp [ih]
  | swap x y l => simp; omega
  | trans _ _ ih1 ih2 => exact ih1.trans ih2
theorem list_su (f : Int → Int) : ∀ o : List Int, (o.map f).sum = su (fun i => f (nth o (i : Int))) o.length
  | [] => rfl
  | x :: o => by
    rw [List.map_cons, List.sum_cons, List.length_cons, su_head, list_su f o]
    congr 1
theorem perm_su {n : Nat} {o : List Int} (ho : o.Perm (rng 0 n)) (f : Nat → Int) : su (fun i => f (nth o (i : Int)).toNat) n = su f n := by
  have hl : o.length = n := by have := ho.length_eq; rw [rng_len] at this; omega
  have e1 := list_su (fun z => f z.toNat) o
  rw [hl] at e1
  rw [← e1, perm_sum ho, rng_sum]
  exact su_congr fun i _ => by rw [show ((i : Int)).toNat = i by omega]
theorem ord_in {n i : Nat} {o : List Int} (ho : o.Perm (rng 0 n)) (h : i < n) : 0 ≤ nth o (i : Int) ∧ nth o (i : Int) < n := by
  have hl : o.length = n := by have := ho.length_eq; rw [rng_len] at this; omega
  exact rng_mem (ho.mem_iff.mp (nth_mem (by rw [hl]; omega)))
theorem el_reord {n : Nat} {m : Mat} {o : List Int} (ho : o.Perm (rng 0 n)) {i j : Nat} (hi : i < n) (hj : j < n) : el (reord m o) i j = el m (nth o (i : Int)).toNat (nth o (j : Int)).toNat := by
  have hl : o.length = n := by have := ho.length_eq; rw [rng_len] at this; omega
  have h1 := ord_in ho hi
  have h2 := ord_in ho hj
  unfold el reord
  rw [nth_map (by rw [hl]; omega), nth_map (by rw [hl]; omega), show (((nth o (i : Int)).toNat : Nat) : Int) = nth o (i : Int) by omega, show (((nth o (j : Int)).toNat : Nat) : Int) = nth o (j : Int) by omega]
theorem mp_reord {a : Nat → Nat → Int} {n : Nat} {o : List Int} (ho : o.Perm (rng 0 n)) : ∀ (k : Nat) {i j : Nat}, i < n → j < n → mp (fun i j => a (nth o (i : Int)).toNat (nth o (j : Int)).toNat) n k i j = mp a n k (nth o (i : Int)).toNat (nth o (j : Int)).toNat
  | 0, i, j, _, _ => rfl
  | k + 1, i, j, hi, hj => by
    show su (fun l => mp _ n k i l * a (nth o (l : Int)).toNat (nth o (j : Int)).toNat) n = su (fun l => mp a n k (nth o (i : Int)).toNat l * a l (nth o (j : Int)).toNat) n
    rw [← perm_su ho fun l => mp a n k (nth o (i : Int)).toNat l * a l (nth o (j : Int)).toNat]
    exact su_congr fun l hl => by rw [mp_reord ho k hi hl]
theorem tr_reord {n : Nat} {m : Mat} {o : List Int} (h : Sq n m) (ho : o.Perm (rng 0 n)) (k : Nat) : mtr (reord m o).length (mpow (reord m o) k) = mtr m.length (mpow m k) := by
  rw [tr_el (sq_reord ho), tr_el h, ← perm_su ho fun p => mp (el m) n k p p]
  exact su_congr fun p hp => by
    rw [mp_congr (b := fun i j => el m (nth o (i : Int)).toNat (nth o (j : Int)).toNat) (fun i j hi hj => el_reord ho hi hj) k hp hp, mp_reord ho k hp hp]
/-! ### up to four places -/
def pad (m : Mat) (n i j : Nat) : Int := if i < n ∧ j < n then el m i j else 0
theorem mq_su (a : Nat → Nat → Int) (k i j : Nat) : mq a (k + 1) i j = su (fun l => mq a k i l * a l j) 4 := by
  show _ = 0 + mq a k i 0 * a 0 j + mq a k i 1 * a 1 j + mq a k i 2 * a 2 j + mq a k i 3 * a 3 j
  rw [Int.zero_add]; rfl
theorem mq_pad {m : Mat} {n : Nat} (hn : n ≤ 4) : ∀ (k : Nat) {i j : Nat}, i < n → j < n → mq (pad m n) (k + 1) i j = mp (el m) n k i j
  | 0, i, j, hi, hj => by
    rw [mq_one _ (by omega)]
    exact if_pos ⟨hi, hj⟩
  | k + 1, i, j, hi, hj => by
    rw [mq_su, su_more hn fun l h1 _ => by
      show _ * pad m n l j = 0
      unfold pad
      rw [if_neg (fun z => by omega), Int.mul_zero]]
    exact su_congr fun l hl => by
      rw [mq_pad hn k hi hl]
      congr 1
      exact if_pos ⟨hl, hj⟩
theorem mq_pad0 {m : Mat} {n : Nat} (hn : n ≤ 4) (k : Nat) {i j : Nat} (h : n ≤ j) : mq (pad m n) (k + 1) i j = 0 := by
  rw [mq_su]
  refine (su_congr fun l hl => ?_).trans (su_zero 4)
  unfold pad
  rw [if_neg (fun z => by omega), Int.mul_zero]
theorem pp_web {n : Nat} {m : Mat} (h : Sq n m) (hn : n ≤ 4) (k : Nat) : pp (pad m n) (k + 1) = mtr m.length (mpow m k) := by
  rw [tr_el h]
  show mq (pad m n) (k + 1) 0 0 + mq (pad m n) (k + 1) 1 1 + mq (pad m n) (k + 1) 2 2 + mq (pad m n) (k + 1) 3 3 = _
  have e : su (fun p => mq (pad m n) (k + 1) p p) 4 = su (fun p => mq (pad m n) (k + 1) p p) n := su_more hn fun p h1 _ => mq_pad0 hn k h1
  have e2 : su (fun p => mq (pad m n) (k + 1) p p) 4 = mq (pad m n) (k + 1) 0 0 + mq (pad m n) (k + 1) 1 1 + mq (pad m n) (k + 1) 2 2 + mq (pad m n) (k + 1) 3 3 := by
    show 0 + _ + _ + _ + _ = _
    rw [Int.zero_add]
  rw [← e2, e]
  exact su_congr fun p hp => mq_pad hn k hp hp
end PD

set_option Elab.async false
set_option linter.all false
set_option maxRecDepth 100000
namespace PD
/-! ### the determinant as a series -/
def st (s : Int) (k : Nat) : Int := if k = 0 then s else 0
/-- d - w t, put to f -/
def ln (d w : Int) (f : Nat → Int) : Nat → Int
  | 0 => d * f 0
  | k + 1 => d * f (k + 1) - w * f k
theorem co_lin {m : Mat} {row : List Int} {p o : Int} (k : Nat) (hk : k ≤ 10) : co (linStep m 10 row (p, o)) k = ln (b2n (decide (p = o))) (nth (nth m p) o) (co row) k := by
  unfold linStep
  dsimp only
  rw [show (10 : Int) = ((10 : Nat) : Int) from rfl, co_timesF k hk, cv_comm]
  unfold cv
  cases k with
  | zero =>
    show 0 + co [b2n (decide (p = o)), 0 - nth (nth m p) o] 0 * co row 0 = _
    rw [Int.zero_add]; rfl
  | succ k =>
    rw [su_more (n := 2) (by omega) fun i h1 _ => by rw [co_out (xs := [b2n (decide (p = o)), 0 - nth (nth m p) o]) (by simpa using h1), Int.zero_mul]]
    show 0 + b2n (decide (p = o)) * co row (k + 1 - 0) + (0 - nth (nth m p) o) * co row (k + 1 - 1) = _
    rw [Nat.sub_zero, Nat.add_sub_cancel, Int.sub_mul, Int.zero_mul]
    show _ = b2n (decide (p = o)) * co row (k + 1) - nth (nth m p) o * co row k
    omega
theorem ln_congr {d w : Int} {f g : Nat → Int} {n : Nat} (h : ∀ i, i ≤ n → f i = g i) : ∀ k, k ≤ n → ln d w f k = ln d w g k
  | 0, _ => by show d * f 0 = d * g 0; rw [h 0 (by omega)]
  | k + 1, hk => by show d * f (k + 1) - w * f k = d * g (k + 1) - w * g k; rw [h (k + 1) hk, h k (by omega)]
def Ds (m : Mat) (pos : List (Int × Int)) (f : Nat → Int) : Nat → Int := pos.foldl (fun f po => ln (b2n (decide (po.1 = po.2))) (nth (nth m po.1) po.2) f) f
theorem Ds_congr {m : Mat} {n : Nat} : ∀ (pos : List (Int × Int)) {f g : Nat → Int}, (∀ i, i ≤ n → f i = g i) → ∀ k, k ≤ n → Ds m pos f k = Ds m pos g k
  | [], f, g, h, k, hk => h k hk
  | po :: pos, f, g, h, k, hk => Ds_congr pos (f := ln _ _ f) (g := ln _ _ g) (fun i hi => ln_congr h i hi) k hk
theorem co_fold {m : Mat} : ∀ (pos : List (Int × Int)) (row : List Int) (k : Nat), k ≤ 10 → co (pos.foldl (linStep m 10) row) k = Ds m pos (co row) k
  | [], row, k, hk => rfl
  | (p, o) :: pos, row, k, hk => by
    show co (pos.foldl (linStep m 10) (linStep m 10 row (p, o))) k = Ds m pos (ln _ _ (co row)) k
    rw [co_fold pos _ k hk]
    exact Ds_congr pos (fun i hi => co_lin i hi) k hk
theorem co_append_noughts (xs : List Int) (n : Int) (k : Nat) : co (xs ++ noughts n) k = co xs k := by
  by_cases h : k < xs.length
  · unfold co
    rw [List.getD_eq_getElem?_getD, List.getD_eq_getElem?_getD, List.getElem?_append_left h]
  · rw [co_out (xs := xs) (by omega)]
    have := co_noughts n (k - xs.length)
    unfold co at this ⊢
    rw [List.getD_eq_getElem?_getD] at this ⊢
    rw [List.getElem?_append_right (by omega)]
    exact this
theorem co_detRow {m : Mat} {rs : List Int × Int} (k : Nat) (hk : k ≤ 10) : co (detRow m 10 rs) k = Ds m (en 0 rs.1) (st rs.2) k := by
  unfold detRow
  rw [co_append_noughts, co_fold _ _ k hk]
  refine Ds_congr _ (fun i _ => ?_) k hk
  rw [co_cons]
  unfold st
  by_cases h : i = 0
  · rw [if_pos h, if_pos h]
  · rw [if_neg h, if_neg h]; exact co_nil _
theorem co_detStep {m : Mat} {found : List Int} {rs : List Int × Int} (k : Nat) (hk : k < found.length) (h10 : k ≤ 10) : co (detStep m 10 found rs) k = co found k + Ds m (en 0 rs.1) (st rs.2) k := by
  rw [← co_detRow k h10]
  unfold co detStep
  rw [List.getD_eq_getElem?_getD, List.getD_eq_getElem?_getD, List.getElem?_map, en_get, List.getElem?_eq_getElem hk]
  simp [nth, co]
theorem co_detFold {m : Mat} (k : Nat) (h10 : k ≤ 10) : ∀ (rss : List (List Int × Int)) (found : List Int), k < found.length → co (rss.foldl (detStep m 10) found) k = co found k + (rss.map fun rs => Ds m (en 0 rs.1) (st rs.2) k).sum
  | [], found, _ => by show co found k = co found k + 0; omega
  | rs :: rss, found, hk => by
    show co (rss.foldl (detStep m 10) (detStep m 10 found rs)) k = _
    rw [co_detFold k h10 rss _ (by unfold detStep; rw [List.length_map, en_len]; exact hk), co_detStep k hk h10, List.map_cons, List.sum_cons]
    omega
/-- four factors -/
theorem ln_four (d0 d1 d2 d3 w0 w1 w2 w3 s : Int) : ∀ k, ln d3 w3 (ln d2 w2 (ln d1 w1 (ln d0 w0 (st s)))) k =
    match k with
    | 0 => d3 * (d2 * (d1 * (d0 * s)))
    | 1 => d3 * (d2 * (d1 * (0 - w0 * s) - w1 * (d0 * s)) - w2 * (d1 * (d0 * s))) - w3 * (d2 * (d1 * (d0 * s)))
    | 2 => d3 * (d2 * (0 - w1 * (0 - w0 * s)) - w2 * (d1 * (0 - w0 * s) - w1 * (d0 * s))) - w3 * (d2 * (d1 * (0 - w0 * s) - w1 * (d0 * s)) - w2 * (d1 * (d0 * s)))
    | 3 => d3 * (0 - w2 * (0 - w1 * (0 - w0 * s))) - w3 * (d2 * (0 - w1 * (0 - w0 * s)) - w2 * (d1 * (0 - w0 * s) - w1 * (d0 * s)))
    | 4 => 0 - w3 * (0 - w2 * (0 - w1 * (0 - w0 * s)))
    | _ + 5 => 0
  | 0 => rfl
  | 1 => by simp only [ln, st]; simp
  | 2 => by simp only [ln, st]; simp
  | 3 => by simp only [ln, st]; simp
  | 4 => by simp only [ln, st]; simp
  | k + 5 => by simp only [ln, st]; simp
theorem ln_id (f : Nat → Int) : ln 1 0 f = f := by
  funext k
  cases k with
  | zero => exact Int.one_mul _
  | succ k => show 1 * f (k + 1) - 0 * f k = f (k + 1); rw [Int.one_mul, Int.zero_mul, Int.sub_zero]
end PD

set_option Elab.async false
set_option linter.all false
set_option maxRecDepth 100000
set_option maxHeartbeats 4000000
namespace PD
theorem ord_1 : ordersN 1 = [([0], 1)] := by decide +kernel
theorem ord_2 : ordersN 2 = [([1, 0], -1), ([0, 1], 1)] := by decide +kernel
theorem ord_3 : ordersN 3 = [([2, 1, 0], -1), ([1, 2, 0], 1), ([1, 0, 2], -1), ([2, 0, 1], 1), ([0, 2, 1], -1), ([0, 1, 2], 1)] := by decide +kernel
theorem ord_4 : ordersN 4 = [([3, 2, 1, 0], 1), ([2, 3, 1, 0], -1), ([2, 1, 3, 0], 1), ([2, 1, 0, 3], -1), ([3, 1, 2, 0], -1), ([1, 3, 2, 0], 1), ([1, 2, 3, 0], -1), ([1, 2, 0, 3], 1), ([3, 1, 0, 2], 1), ([1, 3, 0, 2], -1), ([1, 0, 3, 2], 1), ([1, 0, 2, 3], -1), ([3, 2, 0, 1], -1), ([2, 3, 0, 1], 1), ([2, 0, 3, 1], -1), ([2, 0, 1, 3], 1), ([3, 0, 2, 1], 1), ([0, 3, 2, 1], -1), ([0, 2, 3, 1], 1), ([0, 2, 1, 3], -1), ([3, 0, 1, 2], -1), ([0, 3, 1, 2], 1), ([0, 1, 3, 2], -1), ([0, 1, 2, 3], 1)] := by decide +kernel
def Dn (m : Mat) (n k : Nat) : Int := ((ordersN n).map fun rs => Ds m (en 0 rs.1) (st rs.2) k).sum
theorem dn_1 (m : Mat) (k : Nat) : Dn m 1 k = ((ln 1 0 (ln 1 0 (ln 1 0 (ln 1 (el m 0 0) (st (1)))))) k + 0) := by
  unfold Dn
  rw [ord_1]
  simp only [ln_id]
  rfl
theorem dn_2 (m : Mat) (k : Nat) : Dn m 2 k = ((ln 1 0 (ln 1 0 (ln 0 (el m 1 0) (ln 0 (el m 0 1) (st (-1)))))) k + ((ln 1 0 (ln 1 0 (ln 1 (el m 1 1) (ln 1 (el m 0 0) (st (1)))))) k + 0)) := by
  unfold Dn
  rw [ord_2]
  simp only [ln_id]
  rfl
theorem dn_3 (m : Mat) (k : Nat) : Dn m 3 k = ((ln 1 0 (ln 0 (el m 2 0) (ln 1 (el m 1 1) (ln 0 (el m 0 2) (st (-1)))))) k + ((ln 1 0 (ln 0 (el m 2 0) (ln 0 (el m 1 2) (ln 0 (el m 0 1) (st (1)))))) k + ((ln 1 0 (ln 1 (el m 2 2) (ln 0 (el m 1 0) (ln 0 (el m 0 1) (st (-1)))))) k + ((ln 1 0 (ln 0 (el m 2 1) (ln 0 (el m 1 0) (ln 0 (el m 0 2) (st (1)))))) k + ((ln 1 0 (ln 0 (el m 2 1) (ln 0 (el m 1 2) (ln 1 (el m 0 0) (st (-1)))))) k + ((ln 1 0 (ln 1 (el m 2 2) (ln 1 (el m 1 1) (ln 1 (el m 0 0) (st (1)))))) k + 0)))))) := by
  unfold Dn
  rw [ord_3]
  simp only [ln_id]
  rfl
theorem dn_4 (m : Mat) (k : Nat) : Dn m 4 k = ((ln 0 (el m 3 0) (ln 0 (el m 2 1) (ln 0 (el m 1 2) (ln 0 (el m 0 3) (st (1)))))) k + ((ln 0 (el m 3 0) (ln 0 (el m 2 1) (ln 0 (el m 1 3) (ln 0 (el m 0 2) (st (-1)))))) k + ((ln 0 (el m 3 0) (ln 0 (el m 2 3) (ln 1 (el m 1 1) (ln 0 (el m 0 2) (st (1)))))) k + ((ln 1 (el m 3 3) (ln 0 (el m 2 0) (ln 1 (el m 1 1) (ln 0 (el m 0 2) (st (-1)))))) k + ((ln 0 (el m 3 0) (ln 1 (el m 2 2) (ln 1 (el m 1 1) (ln 0 (el m 0 3) (st (-1)))))) k + ((ln 0 (el m 3 0) (ln 1 (el m 2 2) (ln 0 (el m 1 3) (ln 0 (el m 0 1) (st (1)))))) k + ((ln 0 (el m 3 0) (ln 0 (el m 2 3) (ln 0 (el m 1 2) (ln 0 (el m 0 1) (st (-1)))))) k + ((ln 1 (el m 3 3) (ln 0 (el m 2 0) (ln 0 (el m 1 2) (ln 0 (el m 0 1) (st (1)))))) k + ((ln 0 (el m 3 2) (ln 0 (el m 2 0) (ln 1 (el m 1 1) (ln 0 (el m 0 3) (st (1)))))) k + ((ln 0 (el m 3 2) (ln 0 (el m 2 0) (ln 0 (el m 1 3) (ln 0 (el m 0 1) (st (-1)))))) k + ((ln 0 (el m 3 2) (ln 0 (el m 2 3) (ln 0 (el m 1 0) (ln 0 (el m 0 1) (st (1)))))) k + ((ln 1 (el m 3 3) (ln 1 (el m 2 2) (ln 0 (el m 1 0) (ln 0 (el m 0 1) (st (-1)))))) k + ((ln 0 (el m 3 1) (ln 0 (el m 2 0) (ln 0 (el m 1 2) (ln 0 (el m 0 3) (st (-1)))))) k + ((ln 0 (el m 3 1) (ln 0 (el m 2 0) (ln 0 (el m 1 3) (ln 0 (el m 0 2) (st (1)))))) k + ((ln 0 (el m 3 1) (ln 0 (el m 2 3) (ln 0 (el m 1 0) (ln 0 (el m 0 2) (st (-1)))))) k + ((ln 1 (el m 3 3) (ln 0 (el m 2 1) (ln 0 (el m 1 0) (ln 0 (el m 0 2) (st (1)))))) k + ((ln 0 (el m 3 1) (ln 1 (el m 2 2) (ln 0 (el m 1 0) (ln 0 (el m 0 3) (st (1)))))) k + ((ln 0 (el m 3 1) (ln 1 (el m 2 2) (ln 0 (el m 1 3) (ln 1 (el m 0 0) (st (-1)))))) k + ((ln 0 (el m 3 1) (ln 0 (el m 2 3) (ln 0 (el m 1 2) (ln 1 (el m 0 0) (st (1)))))) k + ((ln 1 (el m 3 3) (ln 0 (el m 2 1) (ln 0 (el m 1 2) (ln 1 (el m 0 0) (st (-1)))))) k + ((ln 0 (el m 3 2) (ln 0 (el m 2 1) (ln 0 (el m 1 0) (ln 0 (el m 0 3) (st (-1)))))) k + ((ln 0 (el m 3 2) (ln 0 (el m 2 1) (ln 0 (el m 1 3) (ln 1 (el m 0 0) (st (1)))))) k + ((ln 0 (el m 3 2) (ln 0 (el m 2 3) (ln 1 (el m 1 1) (ln 1 (el m 0 0) (st (-1)))))) k + ((ln 1 (el m 3 3) (ln 1 (el m 2 2) (ln 1 (el m 1 1) (ln 1 (el m 0 0) (st (1)))))) k + 0)))))))))))))))))))))))) := by
  unfold Dn
  rw [ord_4]
  rfl
end PD

set_option Elab.async false
set_option linter.all false
set_option maxRecDepth 100000
set_option maxHeartbeats 4000000
namespace PD
theorem cf_1 (m : Mat) (k : Nat) : Dn m 1 k = cf (pad m 1) k := by
  rw [dn_1]
  have h00 : pad m 1 0 0 = el m 0 0 := if_pos ⟨by decide, by decide⟩
  have h01 : pad m 1 0 1 = 0 := if_neg (by decide)
  have h02 : pad m 1 0 2 = 0 := if_neg (by decide)
  have h03 : pad m 1 0 3 = 0 := if_neg (by decide)
  have h10 : pad m 1 1 0 = 0 := if_neg (by decide)
  have h11 : pad m 1 1 1 = 0 := if_neg (by decide)
  have h12 : pad m 1 1 2 = 0 := if_neg (by decide)
  have h13 : pad m 1 1 3 = 0 := if_neg (by decide)
  have h20 : pad m 1 2 0 = 0 := if_neg (by decide)
  have h21 : pad m 1 2 1 = 0 := if_neg (by decide)
  have h22 : pad m 1 2 2 = 0 := if_neg (by decide)
  have h23 : pad m 1 2 3 = 0 := if_neg (by decide)
  have h30 : pad m 1 3 0 = 0 := if_neg (by decide)
  have h31 : pad m 1 3 1 = 0 := if_neg (by decide)
  have h32 : pad m 1 3 2 = 0 := if_neg (by decide)
  have h33 : pad m 1 3 3 = 0 := if_neg (by decide)
  simp only [ln_four]
  match k with
  | 0 =>
    show _ = (1 : Int)
    simp
  | 1 =>
    show _ = L1 (pad m 1)
    simp only [L1, l1, h00, h01, h02, h03, h10, h11, h12, h13, h20, h21, h22, h23, h30, h31, h32, h33]
    clear h00 h01 h02 h03 h10 h11 h12 h13 h20 h21 h22 h23 h30 h31 h32 h33
    generalize el m 0 0 = x00
    simp only [Int.one_mul, Int.zero_mul, Int.mul_zero, Int.mul_one, Int.add_zero, Int.zero_add, Int.sub_zero, Int.zero_sub]
    try grind
  | 2 =>
    show _ = L2 (pad m 1)
    simp only [L2, l2, h00, h01, h02, h03, h10, h11, h12, h13, h20, h21, h22, h23, h30, h31, h32, h33]
    clear h00 h01 h02 h03 h10 h11 h12 h13 h20 h21 h22 h23 h30 h31 h32 h33
    generalize el m 0 0 = x00
    simp only [Int.one_mul, Int.zero_mul, Int.mul_zero, Int.mul_one, Int.add_zero, Int.zero_add, Int.sub_zero, Int.zero_sub]
    try grind
  | 3 =>
    show _ = L3 (pad m 1)
    simp only [L3, l3, h00, h01, h02, h03, h10, h11, h12, h13, h20, h21, h22, h23, h30, h31, h32, h33]
    clear h00 h01 h02 h03 h10 h11 h12 h13 h20 h21 h22 h23 h30 h31 h32 h33
    generalize el m 0 0 = x00
    simp only [Int.one_mul, Int.zero_mul, Int.mul_zero, Int.mul_one, Int.add_zero, Int.zero_add, Int.sub_zero, Int.zero_sub]
    try grind
  | 4 =>
    show _ = L4 (pad m 1)
    simp only [L4, l4, h00, h01, h02, h03, h10, h11, h12, h13, h20, h21, h22, h23, h30, h31, h32, h33]
    clear h00 h01 h02 h03 h10 h11 h12 h13 h20 h21 h22 h23 h30 h31 h32 h33
    generalize el m 0 0 = x00
    simp only [Int.one_mul, Int.zero_mul, Int.mul_zero, Int.mul_one, Int.add_zero, Int.zero_add, Int.sub_zero, Int.zero_sub]
    try grind
  | k + 5 =>
    show _ = (0 : Int)
    simp
theorem cf_2 (m : Mat) (k : Nat) : Dn m 2 k = cf (pad m 2) k := by
  rw [dn_2]
  have h00 : pad m 2 0 0 = el m 0 0 := if_pos ⟨by decide, by decide⟩
  have h01 : pad m 2 0 1 = el m 0 1 := if_pos ⟨by decide, by decide⟩
  have h02 : pad m 2 0 2 = 0 := if_neg (by decide)
  have h03 : pad m 2 0 3 = 0 := if_neg (by decide)
  have h10 : pad m 2 1 0 = el m 1 0 := if_pos ⟨by decide, by decide⟩
  have h11 : pad m 2 1 1 = el m 1 1 := if_pos ⟨by decide, by decide⟩
  have h12 : pad m 2 1 2 = 0 := if_neg (by decide)
  have h13 : pad m 2 1 3 = 0 := if_neg (by decide)
  have h20 : pad m 2 2 0 = 0 := if_neg (by decide)
  have h21 : pad m 2 2 1 = 0 := if_neg (by decide)
  have h22 : pad m 2 2 2 = 0 := if_neg (by decide)
  have h23 : pad m 2 2 3 = 0 := if_neg (by decide)
  have h30 : pad m 2 3 0 = 0 := if_neg (by decide)
  have h31 : pad m 2 3 1 = 0 := if_neg (by decide)
  have h32 : pad m 2 3 2 = 0 := if_neg (by decide)
  have h33 : pad m 2 3 3 = 0 := if_neg (by decide)
  simp only [ln_four]
  match k with
  | 0 =>
    show _ = (1 : Int)
    simp
  | 1 =>
    show _ = L1 (pad m 2)
    simp only [L1, l1, h00, h01, h02, h03, h10, h11, h12, h13, h20, h21, h22, h23, h30, h31, h32, h33]
    clear h00 h01 h02 h03 h10 h11 h12 h13 h20 h21 h22 h23 h30 h31 h32 h33
    generalize el m 0 0 = x00
    generalize el m 0 1 = x01
    generalize el m 1 0 = x10
    generalize el m 1 1 = x11
    simp only [Int.one_mul, Int.zero_mul, Int.mul_zero, Int.mul_one, Int.add_zero, Int.zero_add, Int.sub_zero, Int.zero_sub]
    try grind
  | 2 =>
    show _ = L2 (pad m 2)
    simp only [L2, l2, h00, h01, h02, h03, h10, h11, h12, h13, h20, h21, h22, h23, h30, h31, h32, h33]
    clear h00 h01 h02 h03 h10 h11 h12 h13 h20 h21 h22 h23 h30 h31 h32 h33
    generalize el m 0 0 = x00
    generalize el m 0 1 = x01
    generalize el m 1 0 = x10
    generalize el m 1 1 = x11
    simp only [Int.one_mul, Int.zero_mul, Int.mul_zero, Int.mul_one, Int.add_zero, Int.zero_add, Int.sub_zero, Int.zero_sub]
    try grind
  | 3 =>
    show _ = L3 (pad m 2)
    simp only [L3, l3, h00, h01, h02, h03, h10, h11, h12, h13, h20, h21, h22, h23, h30, h31, h32, h33]
    clear h00 h01 h02 h03 h10 h11 h12 h13 h20 h21 h22 h23 h30 h31 h32 h33
    generalize el m 0 0 = x00
    generalize el m 0 1 = x01
    generalize el m 1 0 = x10
    generalize el m 1 1 = x11
    simp only [Int.one_mul, Int.zero_mul, Int.mul_zero, Int.mul_one, Int.add_zero, Int.zero_add, Int.sub_zero, Int.zero_sub]
    try grind
  | 4 =>
    show _ = L4 (pad m 2)
    simp only [L4, l4, h00, h01, h02, h03, h10, h11, h12, h13, h20, h21, h22, h23, h30, h31, h32, h33]
    clear h00 h01 h02 h03 h10 h11 h12 h13 h20 h21 h22 h23 h30 h31 h32 h33
    generalize el m 0 0 = x00
    generalize el m 0 1 = x01
    generalize el m 1 0 = x10
    generalize el m 1 1 = x11
    simp only [Int.one_mul, Int.zero_mul, Int.mul_zero, Int.mul_one, Int.add_zero, Int.zero_add, Int.sub_zero, Int.zero_sub]
    try grind
  | k + 5 =>
    show _ = (0 : Int)
    simp
theorem cf_3 (m : Mat) (k : Nat) : Dn m 3 k = cf (pad m 3) k := by
  rw [dn_3]
  have h00 : pad m 3 0 0 = el m 0 0 := if_pos ⟨by decide, by decide⟩
  have h01 : pad m 3 0 1 = el m 0 1 := if_pos ⟨by decide, by decide⟩
  have h02 : pad m 3 0 2 = el m 0 2 := if_pos ⟨by decide, by decide⟩
  have h03 : pad m 3 0 3 = 0 := if_neg (by decide)
  have h10 : pad m 3 1 0 = el m 1 0 := if_pos ⟨by decide, by decide⟩
  have h11 : pad m 3 1 1 = el m 1 1 := if_pos ⟨by decide, by decide⟩
  have h12 : pad m 3 1 2 = el m 1 2 := if_pos ⟨by decide, by decide⟩
  have h13 : pad m 3 1 3 = 0 := if_neg (by decide)
  have h20 : pad m 3 2 0 = el m 2 0 := if_pos ⟨by decide, by decide⟩
  have h21 : pad m 3 2 1 = el m 2 1 := if_pos ⟨by decide, by decide⟩
  have h22 : pad m 3 2 2 = el m 2 2 := if_pos ⟨by decide, by decide⟩
  have h23 : pad m 3 2 3 = 0 := if_neg (by decide)
  have h30 : pad m 3 3 0 = 0 := if_neg (by decide)
  have h31 : pad m 3 3 1 = 0 := if_neg (by decide)
  have h32 : pad m 3 3 2 = 0 := if_neg (by decide)
  have h33 : pad m 3 3 3 = 0 := if_neg (by decide)
  simp only [ln_four]
  match k with
  | 0 =>
    show _ = (1 : Int)
    simp
  | 1 =>
    show _ = L1 (pad m 3)
    simp only [L1, l1, h00, h01, h02, h03, h10, h11, h12, h13, h20, h21, h22, h23, h30, h31, h32, h33]
    clear h00 h01 h02 h03 h10 h11 h12 h13 h20 h21 h22 h23 h30 h31 h32 h33
    generalize el m 0 0 = x00
    generalize el m 0 1 = x01
    generalize el m 0 2 = x02
    generalize el m 1 0 = x10
    generalize el m 1 1 = x11
    generalize el m 1 2 = x12
    generalize el m 2 0 = x20
    generalize el m 2 1 = x21
    generalize el m 2 2 = x22
    simp only [Int.one_mul, Int.zero_mul, Int.mul_zero, Int.mul_one, Int.add_zero, Int.zero_add, Int.sub_zero, Int.zero_sub]
    try grind
  | 2 =>
    show _ = L2 (pad m 3)
    simp only [L2, l2, h00, h01, h02, h03, h10, h11, h12, h13, h20, h21, h22, h23, h30, h31, h32, h33]
    clear h00 h01 h02 h03 h10 h11 h12 h13 h20 h21 h22 h23 h30 h31 h32 h33
    generalize el m 0 0 = x00
    generalize el m 0 1 = x01
    generalize el m 0 2 = x02
    generalize el m 1 0 = x10
    generalize el m 1 1 = x11
    generalize el m 1 2 = x12
    generalize el m 2 0 = x20
    generalize el m 2 1 = x21
    generalize el m 2 2 = x22
    simp only [Int.one_mul, Int.zero_mul, Int.mul_zero, Int.mul_one, Int.add_zero, Int.zero_add, Int.sub_zero, Int.zero_sub]
    try grind
  | 3 =>
    show _ = L3 (pad m 3)
    simp only [L3, l3, h00, h01, h02, h03, h10, h11, h12, h13, h20, h21, h22, h23, h30, h31, h32, h33]
    clear h00 h01 h02 h03 h10 h11 h12 h13 h20 h21 h22 h23 h30 h31 h32 h33
    generalize el m 0 0 = x00
    generalize el m 0 1 = x01
    generalize el m 0 2 = x02
    generalize el m 1 0 = x10
    generalize el m 1 1 = x11
    generalize el m 1 2 = x12
    generalize el m 2 0 = x20
    generalize el m 2 1 = x21
    generalize el m 2 2 = x22
    simp only [Int.one_mul, Int.zero_mul, Int.mul_zero, Int.mul_one, Int.add_zero, Int.zero_add, Int.sub_zero, Int.zero_sub]
    try grind
  | 4 =>
    show _ = L4 (pad m 3)
    simp only [L4, l4, h00, h01, h02, h03, h10, h11, h12, h13, h20, h21, h22, h23, h30, h31, h32, h33]
    clear h00 h01 h02 h03 h10 h11 h12 h13 h20 h21 h22 h23 h30 h31 h32 h33
    generalize el m 0 0 = x00
    generalize el m 0 1 = x01
    generalize el m 0 2 = x02
    generalize el m 1 0 = x10
    generalize el m 1 1 = x11
    generalize el m 1 2 = x12
    generalize el m 2 0 = x20
    generalize el m 2 1 = x21
    generalize el m 2 2 = x22
    simp only [Int.one_mul, Int.zero_mul, Int.mul_zero, Int.mul_one, Int.add_zero, Int.zero_add, Int.sub_zero, Int.zero_sub]
    try grind
  | k + 5 =>
    show _ = (0 : Int)
    simp
theorem cf_4 (m : Mat) (k : Nat) : Dn m 4 k = cf (pad m 4) k := by
  rw [dn_4]
  have h00 : pad m 4 0 0 = el m 0 0 := if_pos ⟨by decide, by decide⟩
  have h01 : pad m 4 0 1 = el m 0 1 := if_pos ⟨by decide, by decide⟩
  have h02 : pad m 4 0 2 = el m 0 2 := if_pos ⟨by decide, by decide⟩
  have h03 : pad m 4 0 3 = el m 0 3 := if_pos ⟨by decide, by decide⟩
  have h10 : pad m 4 1 0 = el m 1 0 := if_pos ⟨by decide, by decide⟩
  have h11 : pad m 4 1 1 = el m 1 1 := if_pos ⟨by decide, by decide⟩
  have h12 : pad m 4 1 2 = el m 1 2 := if_pos ⟨by decide, by decide⟩
  have h13 : pad m 4 1 3 = el m 1 3 := if_pos ⟨by decide, by decide⟩
  have h20 : pad m 4 2 0 = el m 2 0 := if_pos ⟨by decide, by decide⟩
  have h21 : pad m 4 2 1 = el m 2 1 := if_pos ⟨by decide, by decide⟩
  have h22 : pad m 4 2 2 = el m 2 2 := if_pos ⟨by decide, by decide⟩
  have h23 : pad m 4 2 3 = el m 2 3 := if_pos ⟨by decide, by decide⟩
  have h30 : pad m 4 3 0 = el m 3 0 := if_pos ⟨by decide, by decide⟩
  have h31 : pad m 4 3 1 = el m 3 1 := if_pos ⟨by decide, by decide⟩
  have h32 : pad m 4 3 2 = el m 3 2 := if_pos ⟨by decide, by decide⟩
  have h33 : pad m 4 3 3 = el m 3 3 := if_pos ⟨by decide, by decide⟩
  simp only [ln_four]
  match k with
  | 0 =>
    show _ = (1 : Int)
    simp
  | 1 =>
    show _ = L1 (pad m 4)
    simp only [L1, l1, h00, h01, h02, h03, h10, h11, h12, h13, h20, h21, h22, h23, h30, h31, h32, h33]
    clear h00 h01 h02 h03 h10 h11 h12 h13 h20 h21 h22 h23 h30 h31 h32 h33
    generalize el m 0 0 = x00
    generalize el m 0 1 = x01
    generalize el m 0 2 = x02
    generalize el m 0 3 = x03
    generalize el m 1 0 = x10
    generalize el m 1 1 = x11
    generalize el m 1 2 = x12
    generalize el m 1 3 = x13
    generalize el m 2 0 = x20
    generalize el m 2 1 = x21
    generalize el m 2 2 = x22
    generalize el m 2 3 = x23
    generalize el m 3 0 = x30
    generalize el m 3 1 = x31
    generalize el m 3 2 = x32
    generalize el m 3 3 = x33
    simp only [Int.one_mul, Int.zero_mul, Int.mul_zero, Int.mul_one, Int.add_zero, Int.zero_add, Int.sub_zero, Int.zero_sub]
    try grind
  | 2 =>
    show _ = L2 (pad m 4)
    simp only [L2, l2, h00, h01, h02, h03, h10, h11, h12, h13, h20, h21, h22, h23, h30, h31, h32, h33]
    clear h00 h01 h02 h03 h10 h11 h12 h13 h20 h21 h22 h23 h30 h31 h32 h33
    generalize el m 0 0 = x00
    generalize el m 0 1 = x01
    generalize el m 0 2 = x02
    generalize el m 0 3 = x03
    generalize el m 1 0 = x10
    generalize el m 1 1 = x11
    generalize el m 1 2 = x12
    generalize el m 1 3 = x13
    generalize el m 2 0 = x20
    generalize el m 2 1 = x21
    generalize el m 2 2 = x22
    generalize el m 2 3 = x23
    generalize el m 3 0 = x30
    generalize el m 3 1 = x31
    generalize el m 3 2 = x32
    generalize el m 3 3 = x33
    simp only [Int.one_mul, Int.zero_mul, Int.mul_zero, Int.mul_one, Int.add_zero, Int.zero_add, Int.sub_zero, Int.zero_sub]
    try grind
  | 3 =>
    show _ = L3 (pad m 4)
    simp only [L3, l3, h00, h01, h02, h03, h10, h11, h12, h13, h20, h21, h22, h23, h30, h31, h32, h33]
    clear h00 h01 h02 h03 h10 h11 h12 h13 h20 h21 h22 h23 h30 h31 h32 h33
    generalize el m 0 0 = x00
    generalize el m 0 1 = x01
    generalize el m 0 2 = x02
    generalize el m 0 3 = x03
    generalize el m 1 0 = x10
    generalize el m 1 1 = x11
    generalize el m 1 2 = x12
    generalize el m 1 3 = x13
    generalize el m 2 0 = x20
    generalize el m 2 1 = x21
    generalize el m 2 2 = x22
    generalize el m 2 3 = x23
    generalize el m 3 0 = x30
    generalize el m 3 1 = x31
    generalize el m 3 2 = x32
    generalize el m 3 3 = x33
    simp only [Int.one_mul, Int.zero_mul, Int.mul_zero, Int.mul_one, Int.add_zero, Int.zero_add, Int.sub_zero, Int.zero_sub]
    try grind
  | 4 =>
    show _ = L4 (pad m 4)
    simp only [L4, l4, h00, h01, h02, h03, h10, h11, h12, h13, h20, h21, h22, h23, h30, h31, h32, h33]
    clear h00 h01 h02 h03 h10 h11 h12 h13 h20 h21 h22 h23 h30 h31 h32 h33
    generalize el m 0 0 = x00
    generalize el m 0 1 = x01
    generalize el m 0 2 = x02
    generalize el m 0 3 = x03
    generalize el m 1 0 = x10
    generalize el m 1 1 = x11
    generalize el m 1 2 = x12
    generalize el m 1 3 = x13
    generalize el m 2 0 = x20
    generalize el m 2 1 = x21
    generalize el m 2 2 = x22
    generalize el m 2 3 = x23
    generalize el m 3 0 = x30
    generalize el m 3 1 = x31
    generalize el m 3 2 = x32
    generalize el m 3 3 = x33
    simp only [Int.one_mul, Int.zero_mul, Int.mul_zero, Int.mul_one, Int.add_zero, Int.zero_add, Int.sub_zero, Int.zero_sub]
    try grind
  | k + 5 =>
    show _ = (0 : Int)
    simp
end PD

set_option Elab.async false
set_option linter.all false
set_option maxRecDepth 100000
namespace PD
/-! ### bounds -/
theorem su_abs {f : Nat → Int} {g : Nat → Nat} : ∀ {n : Nat}, (∀ i, i < n → (f i).natAbs ≤ g i) → (su f n).natAbs ≤ (su (fun i => (g i : Int)) n).toNat ∧ 0 ≤ su (fun i => (g i : Int)) n
  | 0, _ => ⟨Nat.le_refl _, Int.le_refl _⟩
  | n + 1, h => by
    obtain ⟨h1, h2⟩ := su_abs (f := f) (g := g) (n := n) fun i hi => h i (by omega)
    have h3 := h n (by omega)
    have h4 := Int.natAbs_add_le (su f n) (f n)
    show (su f n + f n).natAbs ≤ (su (fun i => (g i : Int)) n + (g n : Int)).toNat ∧ 0 ≤ su (fun i => (g i : Int)) n + (g n : Int)
    omega
theorem su_two (M : Nat) : ∀ n, su (fun i => ((M * 2 ^ (i + 1) : Nat) : Int)) n + 2 * M = ((M * 2 ^ (n + 1) : Nat) : Int)
  | 0 => by
    show (0 : Int) + 2 * M = ((M * 2 ^ 1 : Nat) : Int)
    omega
  | n + 1 => by
    have ih := su_two M n
    show su (fun i => ((M * 2 ^ (i + 1) : Nat) : Int)) n + ((M * 2 ^ (n + 1) : Nat) : Int) + 2 * M = _
    have e : M * 2 ^ (n + 1 + 1) = M * 2 ^ (n + 1) + M * 2 ^ (n + 1) := by rw [Nat.pow_succ 2 (n + 1), ← Nat.mul_assoc]; omega
    rw [e]; omega
theorem qs_su (b : Int → Int) : ∀ m k, QS b m k = su (fun i => qw (i + 1) (b ((i + 1 : Nat) : Int)) k) m
  | 0, _ => rfl
  | m + 1, k => by
    show QS b m k + _ = _
    rw [qs_su b m k]; rfl
theorem qw_abs (s k : Nat) (b : Int) : (qw s b k).natAbs ≤ s * b.natAbs := by
  unfold qw
  split
  · rw [Int.natAbs_mul]; exact Nat.le_of_eq rfl
  · exact Nat.zero_le _
theorem b_abs {p : Nat → Int} {b : Int → Int} {N M : Nat} (hp : ∀ k, k ≤ N → (p k).natAbs ≤ M) (hq : ∀ k, k ≤ N → QS b k k = p k) : ∀ k, 1 ≤ k → k ≤ N → k * (b (k : Int)).natAbs ≤ M * 2 ^ k := fun k => by
  induction k using Nat.strongRecOn with
  | ind k ih =>
    intro h1 hN
    obtain ⟨j, rfl⟩ : ∃ j, k = j + 1 := ⟨k - 1, by omega⟩
    have e := hq (j + 1) hN
    have e2 : QS b (j + 1) (j + 1) = QS b j (j + 1) + ((j + 1 : Nat) : Int) * b ((j + 1 : Nat) : Int) := by
      show QS b j (j + 1) + qw (j + 1) _ (j + 1) = _
      rw [qw_self (by omega)]
    rw [e2, qs_su] at e
    obtain ⟨h2, h3⟩ := su_abs (f := fun i => qw (i + 1) (b ((i + 1 : Nat) : Int)) (j + 1)) (g := fun i => M * 2 ^ (i + 1)) (n := j) fun i hi =>
      Nat.le_trans (qw_abs _ _ _) (ih (i + 1) (by omega) (by omega) (by omega))
    have h4 := su_two M j
    have h5 := hp (j + 1) hN
    have h6 : (((j + 1 : Nat) : Int) * b ((j + 1 : Nat) : Int)).natAbs = (j + 1) * (b ((j + 1 : Nat) : Int)).natAbs := by rw [Int.natAbs_mul]; rfl
    rw [← h6]
    generalize ((j + 1 : Nat) : Int) * b ((j + 1 : Nat) : Int) = y at *
    generalize su (fun i => qw (i + 1) (b ((i + 1 : Nat) : Int)) (j + 1)) j = z at *
    generalize su (fun i => ((M * 2 ^ (i + 1) : Nat) : Int)) j = u at *
    generalize M * 2 ^ (j + 1) = v at *
    omega
/-! ### sums over divisors -/
theorem rng1_sum (f : Int → Int) : ∀ n : Nat, ((rng 1 ((n : Int) + 1)).map f).sum = su (fun i => f ((i + 1 : Nat) : Int)) n
  | 0 => rfl
  | n + 1 => by
    rw [show (((n + 1 : Nat) : Int) + 1) = ((n : Int) + 1) + 1 by omega, rng_snoc (by omega), List.map_append, List.sum_append, rng1_sum f n]
    simp [su]
theorem filter_sum (p : Int → Bool) (f : Int → Int) : ∀ xs : List Int, ((xs.filter p).map f).sum = (xs.map fun x => if p x = true then f x else 0).sum
  | [] => rfl
  | x :: xs => by
    rw [List.filter_cons, List.map_cons, List.sum_cons, ← filter_sum p f xs]
    split
    · next h => rw [List.map_cons, List.sum_cons]
    · next h => rw [Int.zero_add]
theorem divs_sum (b : Int → Int) (L : Nat) (hL : 1 ≤ L) : ((divs (L : Int)).map fun e => e * b e).sum = QS b L L := by
  unfold divs
  rw [filter_sum, rng1_sum, qs_su]
  refine su_congr fun i hi => ?_
  unfold qw
  by_cases h : L % (i + 1) = 0
  · have h' : (L : Int) % ((i + 1 : Nat) : Int) = 0 := by rw [← Int.natCast_emod, h]; rfl
    rw [if_pos (by simpa using h'), if_pos ⟨h, by omega⟩]
  · have h' : ¬ (L : Int) % ((i + 1 : Nat) : Int) = 0 := by rw [← Int.natCast_emod]; omega
    rw [if_neg (by simpa using h'), if_neg (fun z => h z.1)]
theorem mtr_abs {n B : Nat} {m : Mat} (h : Sq n m) (hn : n ≤ 8) (hb : Bd B m) : (mtr n m).natAbs ≤ 2 ^ (B + 3) := by
  have key : ∀ x ∈ (rng 0 n).map fun p => nth (nth m p) p, x.natAbs ≤ 2 ^ B := fun x hx => by
    obtain ⟨p, hp, rfl⟩ := List.mem_map.mp hx
    have := rng_mem hp
    exact Nat.le_of_lt (hb.at h (by omega) (by omega))
  have := sum_abs key
  rw [List.length_map, rng_len, show ((n : Int) - 0).toNat = n by omega] at this
  unfold mtr
  have h8 : n * 2 ^ B ≤ 8 * 2 ^ B := Nat.mul_le_mul_right _ hn
  have e : 2 ^ (B + 3) = 8 * 2 ^ B := by rw [Nat.pow_add, Nat.mul_comm]
  omega
/-! ### all of it -/
theorem gau_of {m : Mat} {n : Nat} (h : Web n m) (hn : n ≤ 4) (hb : Bd 40 m) : Gau m (bOf (cf (pad m n))) := by
  have hG := gr_cf (pad m n)
  have hq : ∀ k, QS (bOf (cf (pad m n))) k k = pp (pad m n) k := fun k => bOf_ok hG rfl rfl k k (Nat.le_refl k)
  have hpp : ∀ k, k ≤ 60 → (pp (pad m n) k).natAbs ≤ 2 ^ 2600 := fun k hk => by
    cases k with
    | zero => exact Nat.zero_le _
    | succ k =>
      rw [pp_web h.toSq hn k, h.len]
      have h1 := mtr_abs (sq_mpow h.toSq k) h.n8 (bd_mpow h.n8 h.toSq hb k)
      exact Nat.le_trans h1 (Nat.pow_le_pow_right (by decide) (by omega))
  refine ⟨fun L h1 h2 => ?_, fun e h1 h2 => ?_⟩
  · rw [divs_sum _ L h1, hq L, ← pp_web h.toSq hn, show L - 1 + 1 = L by omega]
  · obtain ⟨k, rfl⟩ : ∃ k : Nat, e = (k : Int) := ⟨e.toNat, by omega⟩
    have := b_abs (N := 60) hpp (fun k _ => hq k) k (by omega) (by omega)
    have h3 : (bOf (cf (pad m n)) (k : Int)).natAbs ≤ k * (bOf (cf (pad m n)) (k : Int)).natAbs := Nat.le_mul_of_pos_left _ (by omega)
    have h4 : 2 ^ 2600 * 2 ^ k < 2 ^ 10000 := by
      rw [← Nat.pow_add]
      exact Nat.pow_lt_pow_right (by decide) (by omega)
    omega
theorem gau_same {m m' : Mat} {b : Int → Int} (h : Gau m b) (ht : ∀ k, mtr m'.length (mpow m' k) = mtr m.length (mpow m k)) : Gau m' b :=
  ⟨fun L h1 h2 => (ht _).trans (h.eq L h1 h2), h.bd⟩
theorem det_cf {m : Mat} {n : Nat} (h : Web n m) (hn : n ≤ 4) (k : Nat) (hk : k ≤ 10) : co (detF m 10) k = cf (pad m n) k := by
  unfold detF
  rw [h.len, co_detFold k hk _ _ (by rw [noughts_len]; show k < 11; omega), co_noughts, Int.zero_add]
  show Dn m n k = _
  have h1 := h.n1
  match n, h1, hn with
  | 1, _, _ => exact cf_1 m k
  | 2, _, _ => exact cf_2 m k
  | 3, _, _ => exact cf_3 m k
  | 4, _, _ => exact cf_4 m k
theorem put_len {b : Int → Int} : ∀ (ks : List Int) (put : List Int), put.length = 11 → (ks.foldl (putStep b) put).length = 11
  | [], _, h => h
  | k :: ks, put, h => put_len ks _ (by unfold putStep; rw [timesF_len]; rfl)
theorem fine_of : FineOf := fun n m hw hn hb => by
  have hG := gr_cf (pad m n)
  have hg := gau_of hw hn hb
  refine ⟨bOf (cf (pad m n)), hg, ?_, fun o ho => ?_, ?_⟩
  · have hl : ((rng 1 11).foldl (putStep (bOf (cf (pad m n)))) ([1] ++ noughts 10)).length = 11 := put_len _ _ (by rw [List.length_append, noughts_len]; rfl)
    refine co_ext ?_ fun k hk => ?_
    · rw [hl]
      unfold detF
      rw [detStep_len, noughts_len]; rfl
    · rw [hl] at hk
      rw [det_cf hw hn k (by omega), ← bOf_put hG rfl rfl 10 k (by omega)]
      exact co_put (bOf (cf (pad m n))) 10 10 k (by omega)
  · have ht := tr_reord hw.toSq ho
    exact ⟨gau_same hg ht, ht⟩
  · have ht := tr_transp hw.toSq (web_transp hw hb).1.toSq
    exact ⟨gau_same hg ht, ht⟩
end PD

set_option maxRecDepth 100000
namespace PD
open PySem L2
/-! ### what the top has written -/
theorem fnM_of {K : PySem.W.Frag} {h : Heap} {mg : Str → Option Value} {x : Str} {st : Stmt} {ps : List Str} {f : Addr} (X : K.In h) (G : h.Ns mainGlobals mg) {od an : Option Addr} {sl : Array (Option Value)} {oc kV dc pm cd ct : Value}
    (a : PySem.W.nsIn K mainGlobals x = some (some (.ref f))) (l : K.lookup f = some ⟨oc, od, .func (PySem.W.fnOf x x (defArgs st) (defBody st) (defScope st) .none kV dc pm an cd ct), sl⟩) (c : PySem.W.codeIn K cd x = true) (k : PySem.W.keepIn K (.ref f) = true)
    (hb : ∀ us : List Value, us.length = ps.length → bindArgs (PySem.W.fnOf x x (defArgs st) (defBody st) (defScope st) .none kV dc pm an cd ct) ⟨us, []⟩ = pure (ps.zip us)) : FnM K mg x st ps :=
  ⟨f, _, fun_mk (st := st) l c k, PySem.W.mg_of X G a, .all hb⟩
theorem all_mk {P : Program} {w : World} {K : PySem.W.Frag} {h : Heap} {mg : Str → Option Value} {fa f0 f1 f2 f3 f4 f5 f6 f7 f8 f9 f10 f11 f12 f13 f14 f15 f16 f17 f18 f19 f20 f21 f22 f23 f24 f25 : Addr} {od0 an0 od1 an1 od2 an2 od3 an3 od4 an4 od5 an5 od6 an6 od7 an7 od8 an8 od9 an9 od10 an10 od11 an11 od12 an12 od13 an13 od14 an14 od15 an15 od16 an16 od17 an17 od18 an18 od19 an19 od20 an20 od21 an21 od22 an22 od23 an23 od24 an24 od25 an25 : Option Addr} {sl0 sl1 sl2 sl3 sl4 sl5 sl6 sl7 sl8 sl9 sl10 sl11 sl12 sl13 sl14 sl15 sl16 sl17 sl18 sl19 sl20 sl21 sl22 sl23 sl24 sl25 : Array (Option Value)} {oc0 kV0 dc0 pm0 cd0 ct0 oc1 kV1 dc1 pm1 cd1 ct1 oc2 kV2 dc2 pm2 cd2 ct2 oc3 kV3 dc3 pm3 cd3 ct3 oc4 kV4 dc4 pm4 cd4 ct4 oc5 kV5 dc5 pm5 cd5 ct5 oc6 kV6 dc6 pm6 cd6 ct6 oc7 kV7 dc7 pm7 cd7 ct7 oc8 kV8 dc8 pm8 cd8 ct8 oc9 kV9 dc9 pm9 cd9 ct9 oc10 kV10 dc10 pm10 cd10 ct10 oc11 kV11 dc11 pm11 cd11 ct11 oc12 kV12 dc12 pm12 cd12 ct12 oc13 kV13 dc13 pm13 cd13 ct13 oc14 kV14 dc14 pm14 cd14 ct14 oc15 kV15 dc15 pm15 cd15 ct15 oc16 kV16 dc16 pm16 cd16 ct16 oc17 kV17 dc17 pm17 cd17 ct17 oc18 kV18 dc18 pm18 cd18 ct18 oc19 kV19 dc19 pm19 cd19 ct19 oc20 kV20 dc20 pm20 cd20 ct20 oc21 kV21 dc21 pm21 cd21 ct21 oc22 kV22 dc22 pm22 cd22 ct22 oc23 kV23 dc23 pm23 cd23 ct23 oc24 kV24 dc24 pm24 cd24 ct24 oc25 kV25 dc25 pm25 cd25 ct25 : Value} {t1 t2 : Tok} (X : K.In h) (G : h.Ns mainGlobals mg) (hfa : mg "law" = some (.ref fa)) (HM : FineOf)
    (a0 : PySem.W.nsIn K mainGlobals "is_whole" = some (some (.ref f0))) (l0 : K.lookup f0 = some ⟨oc0, od0, .func (PySem.W.fnOf "is_whole" "is_whole" (defArgs s_is_whole) (defBody s_is_whole) (defScope s_is_whole) .none kV0 dc0 pm0 an0 cd0 ct0), sl0⟩) (c0 : PySem.W.codeIn K cd0 "is_whole" = true) (k0 : PySem.W.keepIn K (.ref f0) = true)
    (a1 : PySem.W.nsIn K mainGlobals "is_from" = some (some (.ref f1))) (l1 : K.lookup f1 = some ⟨oc1, od1, .func (PySem.W.fnOf "is_from" "is_from" (defArgs s_is_from) (defBody s_is_from) (defScope s_is_from) .none kV1 dc1 pm1 an1 cd1 ct1), sl1⟩) (c1 : PySem.W.codeIn K cd1 "is_from" = true) (k1 : PySem.W.keepIn K (.ref f1) = true)
    (a2 : PySem.W.nsIn K mainGlobals "is_square" = some (some (.ref f2))) (l2 : K.lookup f2 = some ⟨oc2, od2, .func (PySem.W.fnOf "is_square" "is_square" (defArgs s_is_square) (defBody s_is_square) (defScope s_is_square) .none kV2 dc2 pm2 an2 cd2 ct2), sl2⟩) (c2 : PySem.W.codeIn K cd2 "is_square" = true) (k2 : PySem.W.keepIn K (.ref f2) = true)
    (a3 : PySem.W.nsIn K mainGlobals "product" = some (some (.ref f3))) (l3 : K.lookup f3 = some ⟨oc3, od3, .func (PySem.W.fnOf "product" "product" (defArgs s_product) (defBody s_product) (defScope s_product) .none kV3 dc3 pm3 an3 cd3 ct3), sl3⟩) (c3 : PySem.W.codeIn K cd3 "product" = true) (k3 : PySem.W.keepIn K (.ref f3) = true)
    (a4 : PySem.W.nsIn K mainGlobals "is_web" = some (some (.ref f4))) (l4 : K.lookup f4 = some ⟨oc4, od4, .func (PySem.W.fnOf "is_web" "is_web" (defArgs s_is_web) (defBody s_is_web) (defScope s_is_web) .none kV4 dc4 pm4 an4 cd4 ct4), sl4⟩) (c4 : PySem.W.codeIn K cd4 "is_web" = true) (k4 : PySem.W.keepIn K (.ref f4) = true)
    (a5 : PySem.W.nsIn K mainGlobals "need_web" = some (some (.ref f5))) (l5 : K.lookup f5 = some ⟨oc5, od5, .func (PySem.W.fnOf "need_web" "need_web" (defArgs s_need_web) (defBody s_need_web) (defScope s_need_web) .none kV5 dc5 pm5 an5 cd5 ct5), sl5⟩) (c5 : PySem.W.codeIn K cd5 "need_web" = true) (k5 : PySem.W.keepIn K (.ref f5) = true)
    (a6 : PySem.W.nsIn K mainGlobals "reordered" = some (some (.ref f6))) (l6 : K.lookup f6 = some ⟨oc6, od6, .func (PySem.W.fnOf "reordered" "reordered" (defArgs s_reordered) (defBody s_reordered) (defScope s_reordered) .none kV6 dc6 pm6 an6 cd6 ct6), sl6⟩) (c6 : PySem.W.codeIn K cd6 "reordered" = true) (k6 : PySem.W.keepIn K (.ref f6) = true)
    (a7 : PySem.W.nsIn K mainGlobals "need_length" = some (some (.ref f7))) (l7 : K.lookup f7 = some ⟨oc7, od7, .func (PySem.W.fnOf "need_length" "need_length" (defArgs s_need_length) (defBody s_need_length) (defScope s_need_length) .none kV7 dc7 pm7 an7 cd7 ct7), sl7⟩) (c7 : PySem.W.codeIn K cd7 "need_length" = true) (k7 : PySem.W.keepIn K (.ref f7) = true)
    (a8 : PySem.W.nsIn K mainGlobals "ways_of" = some (some (.ref f8))) (l8 : K.lookup f8 = some ⟨oc8, od8, .func (PySem.W.fnOf "ways_of" "ways_of" (defArgs s_ways_of) (defBody s_ways_of) (defScope s_ways_of) .none kV8 dc8 pm8 an8 cd8 ct8), sl8⟩) (c8 : PySem.W.codeIn K cd8 "ways_of" = true) (k8 : PySem.W.keepIn K (.ref f8) = true)
    (a9 : PySem.W.nsIn K mainGlobals "divisors" = some (some (.ref f9))) (l9 : K.lookup f9 = some ⟨oc9, od9, .func (PySem.W.fnOf "divisors" "divisors" (defArgs s_divisors) (defBody s_divisors) (defScope s_divisors) .none kV9 dc9 pm9 an9 cd9 ct9), sl9⟩) (c9 : PySem.W.codeIn K cd9 "divisors" = true) (k9 : PySem.W.keepIn K (.ref f9) = true)
    (a10 : PySem.W.nsIn K mainGlobals "lone_by" = some (some (.ref f10))) (l10 : K.lookup f10 = some ⟨oc10, od10, .func (PySem.W.fnOf "lone_by" "lone_by" (defArgs s_lone_by) (defBody s_lone_by) (defScope s_lone_by) .none kV10 dc10 pm10 an10 cd10 ct10), sl10⟩) (c10 : PySem.W.codeIn K cd10 "lone_by" = true) (k10 : PySem.W.keepIn K (.ref f10) = true)
    (a11 : PySem.W.nsIn K mainGlobals "closed_ways" = some (some (.ref f11))) (l11 : K.lookup f11 = some ⟨oc11, od11, .func (PySem.W.fnOf "closed_ways" "closed_ways" (defArgs s_closed_ways) (defBody s_closed_ways) (defScope s_closed_ways) .none kV11 dc11 pm11 an11 cd11 ct11), sl11⟩) (c11 : PySem.W.codeIn K cd11 "closed_ways" = true) (k11 : PySem.W.keepIn K (.ref f11) = true)
    (a12 : PySem.W.nsIn K mainGlobals "many_rounds" = some (some (.ref f12))) (l12 : K.lookup f12 = some ⟨oc12, od12, .func (PySem.W.fnOf "many_rounds" "many_rounds" (defArgs s_many_rounds) (defBody s_many_rounds) (defScope s_many_rounds) .none kV12 dc12 pm12 an12 cd12 ct12), sl12⟩) (c12 : PySem.W.codeIn K cd12 "many_rounds" = true) (k12 : PySem.W.keepIn K (.ref f12) = true)
    (a13 : PySem.W.nsIn K mainGlobals "lone_rounds" = some (some (.ref f13))) (l13 : K.lookup f13 = some ⟨oc13, od13, .func (PySem.W.fnOf "lone_rounds" "lone_rounds" (defArgs s_lone_rounds) (defBody s_lone_rounds) (defScope s_lone_rounds) .none kV13 dc13 pm13 an13 cd13 ct13), sl13⟩) (c13 : PySem.W.codeIn K cd13 "lone_rounds" = true) (k13 : PySem.W.keepIn K (.ref f13) = true)
    (a14 : PySem.W.nsIn K mainGlobals "_law_spread" = some (some (.ref f14))) (l14 : K.lookup f14 = some ⟨oc14, od14, .func (PySem.W.fnOf "_law_spread" "_law_spread" (defArgs s_law_spread) (defBody s_law_spread) (defScope s_law_spread) .none kV14 dc14 pm14 an14 cd14 ct14), sl14⟩) (c14 : PySem.W.codeIn K cd14 "_law_spread" = true) (k14 : PySem.W.keepIn K (.ref f14) = true)
    (a15 : PySem.W.nsIn K mainGlobals "_law_open" = some (some (.ref f15))) (l15 : K.lookup f15 = some ⟨oc15, od15, .func (PySem.W.fnOf "_law_open" "_law_open" (defArgs s_law_open) (defBody s_law_open) (defScope s_law_open) .none kV15 dc15 pm15 an15 cd15 ct15), sl15⟩) (c15 : PySem.W.codeIn K cd15 "_law_open" = true) (k15 : PySem.W.keepIn K (.ref f15) = true)
    (a16 : PySem.W.nsIn K mainGlobals "_law_anew" = some (some (.ref f16))) (l16 : K.lookup f16 = some ⟨oc16, od16, .func (PySem.W.fnOf "_law_anew" "_law_anew" (defArgs s_law_anew) (defBody s_law_anew) (defScope s_law_anew) .none kV16 dc16 pm16 an16 cd16 ct16), sl16⟩) (c16 : PySem.W.codeIn K cd16 "_law_anew" = true) (k16 : PySem.W.keepIn K (.ref f16) = true)
    (a17 : PySem.W.nsIn K mainGlobals "_law_take" = some (some (.ref f17))) (l17 : K.lookup f17 = some ⟨oc17, od17, .func (PySem.W.fnOf "_law_take" "_law_take" (defArgs s_law_take) (defBody s_law_take) (defScope s_law_take) .none kV17 dc17 pm17 an17 cd17 ct17), sl17⟩) (c17 : PySem.W.codeIn K cd17 "_law_take" = true) (k17 : PySem.W.keepIn K (.ref f17) = true)
    (a18 : PySem.W.nsIn K mainGlobals "_law_one" = some (some (.ref f18))) (l18 : K.lookup f18 = some ⟨oc18, od18, .func (PySem.W.fnOf "_law_one" "_law_one" (defArgs s_law_one) (defBody s_law_one) (defScope s_law_one) .none kV18 dc18 pm18 an18 cd18 ct18), sl18⟩) (c18 : PySem.W.codeIn K cd18 "_law_one" = true) (k18 : PySem.W.keepIn K (.ref f18) = true)
    (a19 : PySem.W.nsIn K mainGlobals "_law_drawn" = some (some (.ref f19))) (l19 : K.lookup f19 = some ⟨oc19, od19, .func (PySem.W.fnOf "_law_drawn" "_law_drawn" (defArgs s_law_drawn) (defBody s_law_drawn) (defScope s_law_drawn) .none kV19 dc19 pm19 an19 cd19 ct19), sl19⟩) (c19 : PySem.W.codeIn K cd19 "_law_drawn" = true) (k19 : PySem.W.keepIn K (.ref f19) = true)
    (a20 : PySem.W.nsIn K mainGlobals "_law_web" = some (some (.ref f20))) (l20 : K.lookup f20 = some ⟨oc20, od20, .func (PySem.W.fnOf "_law_web" "_law_web" (defArgs s_law_web) (defBody s_law_web) (defScope s_law_web) .none kV20 dc20 pm20 an20 cd20 ct20), sl20⟩) (c20 : PySem.W.codeIn K cd20 "_law_web" = true) (k20 : PySem.W.keepIn K (.ref f20) = true)
    (a21 : PySem.W.nsIn K mainGlobals "_law_times" = some (some (.ref f21))) (l21 : K.lookup f21 = some ⟨oc21, od21, .func (PySem.W.fnOf "_law_times" "_law_times" (defArgs s_law_times) (defBody s_law_times) (defScope s_law_times) .none kV21 dc21 pm21 an21 cd21 ct21), sl21⟩) (c21 : PySem.W.codeIn K cd21 "_law_times" = true) (k21 : PySem.W.keepIn K (.ref f21) = true)
    (a22 : PySem.W.nsIn K mainGlobals "_law_orders" = some (some (.ref f22))) (l22 : K.lookup f22 = some ⟨oc22, od22, .func (PySem.W.fnOf "_law_orders" "_law_orders" (defArgs s_law_orders) (defBody s_law_orders) (defScope s_law_orders) .none kV22 dc22 pm22 an22 cd22 ct22), sl22⟩) (c22 : PySem.W.codeIn K cd22 "_law_orders" = true) (k22 : PySem.W.keepIn K (.ref f22) = true)
    (a23 : PySem.W.nsIn K mainGlobals "_law_determinant" = some (some (.ref f23))) (l23 : K.lookup f23 = some ⟨oc23, od23, .func (PySem.W.fnOf "_law_determinant" "_law_determinant" (defArgs s_law_determinant) (defBody s_law_determinant) (defScope s_law_determinant) .none kV23 dc23 pm23 an23 cd23 ct23), sl23⟩) (c23 : PySem.W.codeIn K cd23 "_law_determinant" = true) (k23 : PySem.W.keepIn K (.ref f23) = true)
    (a24 : PySem.W.nsIn K mainGlobals "_law_power" = some (some (.ref f24))) (l24 : K.lookup f24 = some ⟨oc24, od24, .func (PySem.W.fnOf "_law_power" "_law_power" (defArgs s_law_power) (defBody s_law_power) (defScope s_law_power) .none kV24 dc24 pm24 an24 cd24 ct24), sl24⟩) (c24 : PySem.W.codeIn K cd24 "_law_power" = true) (k24 : PySem.W.keepIn K (.ref f24) = true)
    (a25 : PySem.W.nsIn K mainGlobals "law" = some (some (.ref f25))) (l25 : K.lookup f25 = some ⟨oc25, od25, .func (PySem.W.fnOf "law" "law" (defArgs s_law) (defBody s_law) (defScope s_law) .none kV25 dc25 pm25 an25 cd25 ct25), sl25⟩) (c25 : PySem.W.codeIn K cd25 "law" = true) (k25 : PySem.W.keepIn K (.ref f25) = true)
    (z_len : PySem.W.nsIn K mainGlobals "len" = some none)
    (z_range : PySem.W.nsIn K mainGlobals "range" = some none)
    (z_zip : PySem.W.nsIn K mainGlobals "zip" = some none)
    (z_enumerate : PySem.W.nsIn K mainGlobals "enumerate" = some none)
    (z_sum : PySem.W.nsIn K mainGlobals "sum" = some none)
    (z_any : PySem.W.nsIn K mainGlobals "any" = some none)
    (z_all : PySem.W.nsIn K mainGlobals "all" = some none)
    (z_min : PySem.W.nsIn K mainGlobals "min" = some none)
    (z_max : PySem.W.nsIn K mainGlobals "max" = some none)
    (z_abs : PySem.W.nsIn K mainGlobals "abs" = some none)
    (z_sorted : PySem.W.nsIn K mainGlobals "sorted" = some none)
    (z_set : PySem.W.nsIn K mainGlobals "set" = some none)
    (z_dict : PySem.W.nsIn K mainGlobals "dict" = some none)
    (z_list : PySem.W.nsIn K mainGlobals "list" = some none)
    (z_tuple : PySem.W.nsIn K mainGlobals "tuple" = some none)
    (z_int : PySem.W.nsIn K mainGlobals "int" = some none)
    (z_bool : PySem.W.nsIn K mainGlobals "bool" = some none)
    (z_str : PySem.W.nsIn K mainGlobals "str" = some none)
    (z_repr : PySem.W.nsIn K mainGlobals "repr" = some none)
    (z_isinstance : PySem.W.nsIn K mainGlobals "isinstance" = some none)
    (m1 : PySem.W.nsIn K mainGlobals "MOST_PLACES" = some (some (.int 8 t1))) (m2 : PySem.W.nsIn K mainGlobals "FARTHEST" = some (some (.int 60 t2)))
    : ∃ fd : FuncData, (∀ (s : Shared) (v : Value), BindsTo s fd ⟨[v], []⟩ [("_law_script", v)]) ∧ ∀ base : Heap, K.In base → base.Ns mainGlobals mg → FnOk P w K mg base CX0 6 fa fd ["_law_script"] (SpG 1 (S_law K)) := by
  have e := hfa.symm.trans (PySem.W.mg_of X G a25)
  cases e
  haveI : BltG mg := ⟨PySem.W.mg_none_of X G z_len, PySem.W.mg_none_of X G z_range, PySem.W.mg_none_of X G z_zip, PySem.W.mg_none_of X G z_enumerate, PySem.W.mg_none_of X G z_sum, PySem.W.mg_none_of X G z_any, PySem.W.mg_none_of X G z_all, PySem.W.mg_none_of X G z_min, PySem.W.mg_none_of X G z_max, PySem.W.mg_none_of X G z_abs, PySem.W.mg_none_of X G z_sorted, PySem.W.mg_none_of X G z_set, PySem.W.mg_none_of X G z_dict, PySem.W.mg_none_of X G z_list, PySem.W.mg_none_of X G z_tuple, PySem.W.mg_none_of X G z_int, PySem.W.mg_none_of X G z_bool, PySem.W.mg_none_of X G z_str, PySem.W.mg_none_of X G z_repr, PySem.W.mg_none_of X G z_isinstance⟩
  refine ⟨PySem.W.fnOf "law" "law" (defArgs s_law) (defBody s_law) (defScope s_law) .none kV25 dc25 pm25 an25 cd25 ct25, fun s v => .of_eq rfl, fun base _ _ => ?_⟩
  have C_is_whole : Cal P w K mg base "is_whole" 1 1 S_is_whole := w_is_whole (fnM_of (st := s_is_whole) (ps := ["thing"]) X G a0 l0 c0 k0 fun us hl => match us, hl with | [_], _ => rfl) 
  have C_is_from : Cal P w K mg base "is_from" 2 2 S_is_from := w_is_from (fnM_of (st := s_is_from) (ps := ["thing", "least"]) X G a1 l1 c1 k1 fun us hl => match us, hl with | [_, _], _ => rfl) C_is_whole
  have C_is_square : Cal P w K mg base "is_square" 2 2 S_is_square := w_is_square (fnM_of (st := s_is_square) (ps := ["thing", "many"]) X G a2 l2 c2 k2 fun us hl => match us, hl with | [_, _], _ => rfl) C_is_whole
  have C_product : Cal P w K mg base "product" 2 1 S_product := w_product (fnM_of (st := s_product) (ps := ["one", "other"]) X G a3 l3 c3 k3 fun us hl => match us, hl with | [_, _], _ => rfl) 
  have C_is_web : Cal P w K mg base "is_web" 1 3 S_is_web := w_is_web (fnM_of (st := s_is_web) (ps := ["thing"]) X G a4 l4 c4 k4 fun us hl => match us, hl with | [_], _ => rfl) C_is_square ⟨_, PySem.W.mg_of X G m1⟩
  have C_need_web : Cal P w K mg base "need_web" 1 4 S_need_web := w_need_web (fnM_of (st := s_need_web) (ps := ["web"]) X G a5 l5 c5 k5 fun us hl => match us, hl with | [_], _ => rfl) C_is_web
  have C_reordered : Cal P w K mg base "reordered" 2 5 S_reordered := w_reordered (fnM_of (st := s_reordered) (ps := ["web", "order"]) X G a6 l6 c6 k6 fun us hl => match us, hl with | [_, _], _ => rfl) C_need_web C_is_whole
  have C_need_length : Cal P w K mg base "need_length" 1 3 S_need_length := w_need_length (fnM_of (st := s_need_length) (ps := ["length"]) X G a7 l7 c7 k7 fun us hl => match us, hl with | [_], _ => rfl) C_is_from ⟨_, PySem.W.mg_of X G m2⟩
  have C_ways_of : Cal P w K mg base "ways_of" 2 2 S_ways_of := w_ways_of (fnM_of (st := s_ways_of) (ps := ["web", "length"]) X G a8 l8 c8 k8 fun us hl => match us, hl with | [_, _], _ => rfl) C_product
  have C_divisors : Cal P w K mg base "divisors" 1 1 S_divisors := w_divisors (fnM_of (st := s_divisors) (ps := ["number"]) X G a9 l9 c9 k9 fun us hl => match us, hl with | [_], _ => rfl) 
  have C_lone_by : Cal P w K mg base "lone_by" 2 3 S_lone_by := w_lone_by (fnM_of (st := s_lone_by) (ps := ["web", "length"]) X G a10 l10 c10 k10 fun us hl => match us, hl with | [_, _], _ => rfl) C_ways_of C_divisors
  have C_closed_ways : Cal P w K mg base "closed_ways" 2 5 S_closed_ways := w_closed_ways (fnM_of (st := s_closed_ways) (ps := ["web", "length"]) X G a11 l11 c11 k11 fun us hl => match us, hl with | [_, _], _ => rfl) C_need_web C_need_length C_ways_of
  have C_many_rounds : Cal P w K mg base "many_rounds" 2 5 S_many_rounds := w_many_rounds (fnM_of (st := s_many_rounds) (ps := ["web", "length"]) X G a12 l12 c12 k12 fun us hl => match us, hl with | [_, _], _ => rfl) C_need_web C_need_length C_lone_by
  have C_lone_rounds : Cal P w K mg base "lone_rounds" 2 5 S_lone_rounds := w_lone_rounds (fnM_of (st := s_lone_rounds) (ps := ["web", "length"]) X G a13 l13 c13 k13 fun us hl => match us, hl with | [_, _], _ => rfl) C_need_web C_need_length C_lone_by
  have C__law_spread : Cal P w K mg base "_law_spread" 2 1 S_law_spread := w_law_spread (fnM_of (st := s_law_spread) (ps := ["_law_cell", "_law_at"]) X G a14 l14 c14 k14 fun us hl => match us, hl with | [_, _], _ => rfl) 
  have C__law_open : Cal P w K mg base "_law_open" 1 1 (S_law_open K) := w_law_open (fnM_of (st := s_law_open) (ps := ["_law_script"]) X G a15 l15 c15 k15 fun us hl => match us, hl with | [_], _ => rfl) 
  have C__law_anew : Cal P w K mg base "_law_anew" 1 1 S_law_anew := w_law_anew (fnM_of (st := s_law_anew) (ps := ["_law_pen"]) X G a16 l16 c16 k16 fun us hl => match us, hl with | [_], _ => rfl) 
  have C__law_take : Cal P w K mg base "_law_take" 2 2 S_law_take := w_law_take (fnM_of (st := s_law_take) (ps := ["_law_pen", "_law_many"]) X G a17 l17 c17 k17 fun us hl => match us, hl with | [_, _], _ => rfl) C__law_spread
  have C__law_one : Cal P w K mg base "_law_one" 2 3 S_law_one := w_law_one (fnM_of (st := s_law_one) (ps := ["_law_pen", "_law_some"]) X G a18 l18 c18 k18 fun us hl => match us, hl with | [_, _], _ => rfl) C__law_take
  have C__law_drawn : Cal P w K mg base "_law_drawn" 2 3 S_law_drawn := w_law_drawn (fnM_of (st := s_law_drawn) (ps := ["_law_pen", "_law_many"]) X G a19 l19 c19 k19 fun us hl => match us, hl with | [_, _], _ => rfl) C__law_take
  have C__law_web : Cal P w K mg base "_law_web" 2 4 S_law_web := w_law_web (fnM_of (st := s_law_web) (ps := ["_law_pen", "_law_most"]) X G a20 l20 c20 k20 fun us hl => match us, hl with | [_, _], _ => rfl) C__law_take C__law_one
  have C__law_times : Cal P w K mg base "_law_times" 3 1 S_law_times := w_law_times (fnM_of (st := s_law_times) (ps := ["_law_one_here", "_law_other", "_law_most"]) X G a21 l21 c21 k21 fun us hl => match us, hl with | [_, _, _], _ => rfl) 
  have C__law_orders : Cal P w K mg base "_law_orders" 1 1 S_law_orders := w_law_orders (fnM_of (st := s_law_orders) (ps := ["_law_many"]) X G a22 l22 c22 k22 fun us hl => match us, hl with | [_], _ => rfl) 
  have C__law_determinant : Cal P w K mg base "_law_determinant" 2 2 S_law_determinant := w_law_determinant (fnM_of (st := s_law_determinant) (ps := ["_law_web_here", "_law_most"]) X G a23 l23 c23 k23 fun us hl => match us, hl with | [_, _], _ => rfl) C__law_orders C__law_times
  have C__law_power : Cal P w K mg base "_law_power" 3 1 S_law_power := w_law_power (fnM_of (st := s_law_power) (ps := ["_law_size", "_law_many", "_law_most"]) X G a24 l24 c24 k24 fun us hl => match us, hl with | [_, _, _], _ => rfl) 
  exact w_law (fun_mk (st := s_law) l25 c25 k25) C__law_open C__law_anew C__law_take C__law_web C__law_drawn C__law_power C__law_times C__law_determinant C_lone_rounds C_many_rounds C_closed_ways C_reordered HM
theorem law_start {K : PySem.W.Frag} (H : Hp) (a : Addr) (ns : List Int) (hl : ns.length ≤ 63) (hS : SqL K H a (ns.map V.int)) : SpG 1 (S_law K) [.ref a] H (fun v _ => v = .bl true) fun _ _ _ => False := by
  refine ⟨rfl, atF H a, [.imm (RSq K) ns], _, .imm RBool true, ⟨atF_ex, rfl, fun i w s e1 e2 => ?_, fun i j p p' q α β R x S y e1 e2 _ _ => ?_⟩, ⟨ns, hl, rfl, rfl, rfl⟩, fun v F' H' _ rv => rv⟩
  · rcases i with _ | i
    · simp at e1 e2
      subst e1 e2
      exact ⟨_, rfl, rsq_start hS⟩
    · simp at e2
  · rcases i with _ | i <;> simp at e1
end PD
open PySem PySem.W PyProof.Rows
set_option maxRecDepth 100000 in
set_option maxHeartbeats 0 in
theorem PySem.Challenge.cw_laidroads_k27_whole_rounds_and_the_deter_holds : PySem.Challenge.rw_laidroads_k27_whole_rounds_and_the_deter.Holds := by
  w_on; o_law; k_head; (case hw => w_witness2)
  k_fill
  refine L2.walk_of (l := PySem.Challenge.rw_laidroads_k27_whole_rounds_and_the_deter) (n := 63) (k := 6) (x := "_law_script") (CX := fun _ => L2.CX0) (sp := fun w => PD.SpG 1 (PD.S_law _)) rfl (by decide) rfl ⟨rfl, by decide, by decide⟩ (fun w h Y => PySem.W.kIn_of Y) ?F (fun _ H a ns hl _ hS => PD.law_start H a ns hl hS) (fun _ _ _ _ _ h => h)
  case F =>
    intro w mg fa h KX G hmg
    refine' PD.all_mk KX G hmg PD.fine_of ?a0 ?l0 ?c0 ?k0 ?a1 ?l1 ?c1 ?k1 ?a2 ?l2 ?c2 ?k2 ?a3 ?l3 ?c3 ?k3 ?a4 ?l4 ?c4 ?k4 ?a5 ?l5 ?c5 ?k5 ?a6 ?l6 ?c6 ?k6 ?a7 ?l7 ?c7 ?k7 ?a8 ?l8 ?c8 ?k8 ?a9 ?l9 ?c9 ?k9 ?a10 ?l10 ?c10 ?k10 ?a11 ?l11 ?c11 ?k11 ?a12 ?l12 ?c12 ?k12 ?a13 ?l13 ?c13 ?k13 ?a14 ?l14 ?c14 ?k14 ?a15 ?l15 ?c15 ?k15 ?a16 ?l16 ?c16 ?k16 ?a17 ?l17 ?c17 ?k17 ?a18 ?l18 ?c18 ?k18 ?a19 ?l19 ?c19 ?k19 ?a20 ?l20 ?c20 ?k20 ?a21 ?l21 ?c21 ?k21 ?a22 ?l22 ?c22 ?k22 ?a23 ?l23 ?c23 ?k23 ?a24 ?l24 ?c24 ?k24 ?a25 ?l25 ?c25 ?k25 ?z_len ?z_range ?z_zip ?z_enumerate ?z_sum ?z_any ?z_all ?z_min ?z_max ?z_abs ?z_sorted ?z_set ?z_dict ?z_list ?z_tuple ?z_int ?z_bool ?z_str ?z_repr ?z_isinstance ?m1 ?m2
    case a0 => k_is
    case l0 => k_is
    case c0 => k_is
    case k0 => k_is
    case a1 => k_is
    case l1 => k_is
    case c1 => k_is
    case k1 => k_is
    case a2 => k_is
    case l2 => k_is
    case c2 => k_is
    case k2 => k_is
    case a3 => k_is
    case l3 => k_is
    case c3 => k_is
    case k3 => k_is
    case a4 => k_is
    case l4 => k_is
    case c4 => k_is
    case k4 => k_is
    case a5 => k_is
    case l5 => k_is
    case c5 => k_is
    case k5 => k_is
    case a6 => k_is
    case l6 => k_is
    case c6 => k_is
    case k6 => k_is
    case a7 => k_is
    case l7 => k_is
    case c7 => k_is
    case k7 => k_is
    case a8 => k_is
    case l8 => k_is
    case c8 => k_is
    case k8 => k_is
    case a9 => k_is
    case l9 => k_is
    case c9 => k_is
    case k9 => k_is
    case a10 => k_is
    case l10 => k_is
    case c10 => k_is
    case k10 => k_is
    case a11 => k_is
    case l11 => k_is
    case c11 => k_is
    case k11 => k_is
    case a12 => k_is
    case l12 => k_is
    case c12 => k_is
    case k12 => k_is
    case a13 => k_is
    case l13 => k_is
    case c13 => k_is
    case k13 => k_is
    case a14 => k_is
    case l14 => k_is
    case c14 => k_is
    case k14 => k_is
    case a15 => k_is
    case l15 => k_is
    case c15 => k_is
    case k15 => k_is
    case a16 => k_is
    case l16 => k_is
    case c16 => k_is
    case k16 => k_is
    case a17 => k_is
    case l17 => k_is
    case c17 => k_is
    case k17 => k_is
    case a18 => k_is
    case l18 => k_is
    case c18 => k_is
    case k18 => k_is
    case a19 => k_is
    case l19 => k_is
    case c19 => k_is
    case k19 => k_is
    case a20 => k_is
    case l20 => k_is
    case c20 => k_is
    case k20 => k_is
    case a21 => k_is
    case l21 => k_is
    case c21 => k_is
    case k21 => k_is
    case a22 => k_is
    case l22 => k_is
    case c22 => k_is
    case k22 => k_is
    case a23 => k_is
    case l23 => k_is
    case c23 => k_is
    case k23 => k_is
    case a24 => k_is
    case l24 => k_is
    case c24 => k_is
    case k24 => k_is
    case a25 => k_is
    case l25 => k_is
    case c25 => k_is
    case k25 => k_is
    case z_len => k_is
    case z_range => k_is
    case z_zip => k_is
    case z_enumerate => k_is
    case z_sum => k_is
    case z_any => k_is
    case z_all => k_is
    case z_min => k_is
    case z_max => k_is
    case z_abs => k_is
    case z_sorted => k_is
    case z_set => k_is
    case z_dict => k_is
    case z_list => k_is
    case z_tuple => k_is
    case z_int => k_is
    case z_bool => k_is
    case z_str => k_is
    case z_repr => k_is
    case z_isinstance => k_is
    case m1 => k_is
    case m2 => k_is

