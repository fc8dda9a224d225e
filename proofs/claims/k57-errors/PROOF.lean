import PyProof.Rows.All
import Wide.All
import OpenK.AllK
import Wide.FinOn
import HandS.ForMost
import HandS.ForExc
import HandS.HeadHook1
import HandS.Wide
import HandS.Defaults
import HandS.Iter
import HandS.Zip
import HandS.Comp
import PyProof.ListCopy
import KE.KExcSuper
import HandS.Base
import HandS.Call
import HandS.List
import HandS.Exc
import HandS.ExcInit
import HandS.ExcOwn
import KE.KIsAll
import KE.KTryMore
import HandS.ExcIs
import HandS.ExcField
import HandS.IsInst
import HandS.WordsExc
import HandS.HeadHook2
import KE.KStateDown
import HandS.Ends
import HandS.More
import HandS.Words
import HandS.Head0
import HandS.Head1
import HandS.Head2
import HandS.HeadEnd
import PySem.Challenge.RW_rungbounds_k57_errors_and_their_fields
set_option Elab.async false
set_option linter.all false
set_option maxRecDepth 100000
set_option maxHeartbeats 4000000
/-! TL0: the typed layer's ground: results, representations, states, judgements. -/
namespace TL
open PySem L2

/-! ### results -/
inductive Err where
  | num (v : Int) | name (s : Str) | taken (s : Str) | unknown (s : Str) | place (p : Int) | many (n : Int)
  | site (ring : List Int) | shape (bl : List (List Int)) | other | state (s : Str) | line (n : Int) | undo | redo | deed (n : Int)
inductive Res (α : Type) where
  | ok (a : α) | err (e : Err) | bad
def Res.bind {α β : Type} (r : Res α) (k : α → Res β) : Res β := match r with
  | .ok a => k a
  | .err e => .err e
  | .bad => .bad
instance : Monad Res where
  pure := Res.ok
  bind := Res.bind
abbrev AS := Addr → Prop
abbrev Sub (F G : Hp) : Prop := ∀ a o, F a = some o → G a = some o
theorem Sub.rf (F : Hp) : Sub F F := fun _ _ h => h
theorem Sub.tr {F G H : Hp} (h : Sub F G) (h' : Sub G H) : Sub F H := fun a o e => h' a o (h a o e)
theorem Sub.none {F G : Hp} (h : Sub F G) {a : Addr} (e : G a = none) : F a = none := by
  cases q : F a with
  | none => rfl
  | some o => rw [h a o q] at e; cases e
/-! ### how data stand in the heap -/
/-- F: what never changes any more -/
structure Ty (α : Type) where
  rep : Hp → V → α → Prop
  mono : ∀ {F F' : Hp} {v : V} {x : α}, Sub F F' → rep F v x → rep F' v x
/-- an object of one's own, that may change: F, the heap, the value, what it is, its addresses -/
structure OTy (α : Type) where
  rep : Hp → Hp → V → α → AS → Prop
  mono : ∀ {F F' H H' : Hp} {v : V} {x : α} {p : AS}, Sub F F' → (∀ a, p a → H' a = H a) → rep F H v x p → rep F' H' v x p
  live : ∀ {F H : Hp} {v : V} {x : α} {p : AS} {a : Addr}, rep F H v x p → p a → ∃ o, H a = some o
inductive Sl : Type 1
  | no
  /-- frozen data -/
  | fz {α : Type} (t : Ty α) (x : α)
  /-- one's own -/
  | ow {α : Type} (t : OTy α) (x : α)
  /-- lent: it is read -/
  | bw {α : Type} (t : OTy α) (x : α)
  /-- the k-th in-out argument -/
  | bx (k : Nat)
abbrev Envt := List Sl
/-- heaps that grow; M may change -/
structure Grow (M : AS) (F H F' H' : Hp) : Prop where
  f : Sub F F'
  h : ∀ a o, H a = some o → ¬ M a → H' a = some o
  s : Sub F' H'
  n : ∀ a o, F a = none → H a = some o → F' a = none
  l : ∀ a o, H a = some o → ∃ o', H' a = some o'
abbrev nil : AS := fun _ => False
theorem Grow.rf {M : AS} {F H : Hp} (s : Sub F H) : Grow M F H F H := ⟨Sub.rf F, fun _ _ e _ => e, s, fun _ _ e _ => e, fun _ o e => ⟨o, e⟩⟩
theorem Grow.tr {M M1 : AS} {F H F1 H1 F2 H2 : Hp} (g : Grow M F H F1 H1) (k : Grow M1 F1 H1 F2 H2) (hm : ∀ a, M1 a → M a ∨ H a = none) : Grow M F H F2 H2 where
  f := g.f.tr k.f
  h := fun a o e nm => k.h a o (g.h a o e nm) fun m1 => (hm a m1).elim nm fun z => by rw [e] at z; cases z
  s := k.s
  n := fun a o e q => let ⟨_, q'⟩ := g.l a o q; k.n a _ (g.n a o e q) q'
  l := fun a o e => let ⟨_, q'⟩ := g.l a o e; k.l a _ q'
theorem Grow.wk {M M' : AS} {F H F' H' : Hp} (g : Grow M F H F' H') (h : ∀ a, M a → M' a) : Grow M' F H F' H' := ⟨g.f, fun a o e n => g.h a o e fun z => n (h a z), g.s, g.n, g.l⟩
theorem Grow.tr0 {M : AS} {F H F1 H1 F2 H2 : Hp} (g : Grow M F H F1 H1) (k : Grow nil F1 H1 F2 H2) : Grow M F H F2 H2 := g.tr k fun _ z => z.elim
theorem Grow.non {M : AS} {F H F' H' : Hp} (g : Grow M F H F' H') {a : Addr} (h : H' a = none) : H a = none := by
  cases e : H a with
  | none => rfl
  | some o =>
    obtain ⟨o', e'⟩ := g.l a o e
    rw [h] at e'; cases e'
/-- a new object, frozen at once -/
theorem Grow.newF {F H : Hp} {p : Addr} {o : HO} (s : Sub F H) (hp : H p = none) : Grow nil F H (upd F p o) (upd H p o) where
  f := fun a u e => by rw [upd_ne (ne_of_none e (s.none hp))]; exact e
  h := fun a u e _ => by rw [upd_ne (ne_of_none e hp)]; exact e
  s := fun a u e => by
    by_cases h : a = p
    · subst h; rw [upd_same] at e ⊢; exact e
    · rw [upd_ne h] at e ⊢; exact s a u e
  n := fun a u e q => by rw [upd_ne (ne_of_none q hp)]; exact e
  l := fun a u e => ⟨u, by rw [upd_ne (ne_of_none e hp)]; exact e⟩
/-- a new object of one's own -/
theorem Grow.newO {F H : Hp} {p : Addr} {o : HO} (s : Sub F H) (hp : H p = none) : Grow nil F H F (upd H p o) where
  f := Sub.rf F
  h := fun a u e _ => by rw [upd_ne (ne_of_none e hp)]; exact e
  s := fun a u e => by rw [upd_ne (ne_of_none (s a u e) hp)]; exact s a u e
  n := fun a u e q => e
  l := fun a u e => ⟨u, by rw [upd_ne (ne_of_none e hp)]; exact e⟩

/-! ### states: T, b, vb: the in-out arguments -/
structure OTs (β : Type) where
  rep : Hp → Hp → List V → β → AS → Prop
  mono : ∀ {F F' H H' : Hp} {v : List V} {x : β} {p : AS}, Sub F F' → (∀ a, p a → H' a = H a) → rep F H v x p → rep F' H' v x p
  live : ∀ {F H : Hp} {v : List V} {x : β} {p : AS} {a : Addr}, rep F H v x p → p a → ∃ o, H a = some o
def SlOk (vb : List V) (F H : Hp) (O : AS) : Sl → Option V → AS → Prop
  | .no, _, p => ∀ a, ¬ p a
  | .fz t x, w, p => (∃ v, w = some v ∧ t.rep F v x) ∧ ∀ a, ¬ p a
  | .ow t x, w, p => (∃ v, w = some v ∧ t.rep F H v x p) ∧ ∀ a, p a → F a = none
  | .bw t x, w, p => (∃ v q, w = some v ∧ t.rep F H v x q ∧ ∀ a, q a → ¬ O a) ∧ ∀ a, ¬ p a
  | .bx k, w, p => (w ≠ none ∧ w = vb[k]?) ∧ ∀ a, ¬ p a
abbrev slot (σ : L2.St) (i : Nat) : Option V := (σ[i]?).join
/-- B: what belongs to the in-out arguments; O: what belongs to the names -/
structure Stt {β : Type} (T : OTs β) (b : β) (vb : List V) (Γ : Envt) (σ : L2.St) (F H : Hp) (B O : AS) : Prop where
  len : σ.length = Γ.length
  sub : Sub F H
  bx : T.rep F H vb b B
  bf : ∀ a, B a → F a = none
  bo : ∀ a, B a → ¬ O a
  ex : ∃ ps : Nat → AS, (∀ i, SlOk vb F H (fun a => B a ∨ O a) (Γ.getD i .no) (slot σ i) (ps i)) ∧ (∀ a, O a ↔ ∃ i, ps i a) ∧ (∀ i j, i ≠ j → ∀ a, ps i a → ¬ ps j a)
section
variable {β : Type} {T : OTs β} {b : β} {vb : List V} {Γ : Envt} {σ : L2.St} {F H F' H' : Hp} {B O : AS}
theorem SlOk.grow {O O' : AS} {s : Sl} {w : Option V} {p : AS} (h : SlOk vb F H O s w p) (f : Sub F F') (hh : ∀ a o, H a = some o → (p a ∨ ¬ O a) → H' a = some o) (n : ∀ a o, F a = none → H a = some o → F' a = none) (ho : ∀ a, O' a → O a ∨ H a = none) : SlOk vb F' H' O' s w p := by
  cases s with
  | no => exact h
  | fz t x => obtain ⟨⟨v, e, r⟩, z⟩ := h; exact ⟨⟨v, e, t.mono f r⟩, z⟩
  | ow t x =>
    obtain ⟨⟨v, e, r⟩, z⟩ := h
    refine ⟨⟨v, e, t.mono f (fun a ha => ?_) r⟩, fun a ha => ?_⟩
    · obtain ⟨o, q⟩ := t.live r ha
      rw [q]; exact hh a o q (.inl ha)
    · obtain ⟨o, q⟩ := t.live r ha
      exact n a o (z a ha) q
  | bw t x =>
    obtain ⟨⟨v, q, e, r, d⟩, z⟩ := h
    refine ⟨⟨v, q, e, t.mono f (fun a ha => ?_) r, fun a ha z => ?_⟩, z⟩
    · obtain ⟨o, y⟩ := t.live r ha
      rw [y]; exact hh a o y (.inr (d a ha))
    · rcases ho a z with y | y
      · exact d a ha y
      · obtain ⟨o, y'⟩ := t.live r ha
        rw [y] at y'; cases y'
  | bx k => exact h
/-- all grew, nothing that stood has changed -/
theorem Stt.grow0 (h : Stt T b vb Γ σ F H B O) (g : Grow nil F H F' H') : Stt T b vb Γ σ F' H' B O := by
  obtain ⟨l, s, r, f0, bo, ps, ss, u, d⟩ := h
  refine ⟨l, g.s, T.mono g.f (fun a ha => ?_) r, fun a ha => ?_, bo, ps, fun i => (ss i).grow g.f (fun a o e _ => g.h a o e id) g.n fun _ z => .inl z, u, d⟩
  · obtain ⟨o, q⟩ := T.live r ha
    rw [q]; exact g.h a o q id
  · obtain ⟨o, q⟩ := T.live r ha
    exact g.n a o (f0 a ha) q
/-- the in-out arguments changed -/
theorem Stt.growB {b' : β} {B' : AS} (h : Stt T b vb Γ σ F H B O) (g : Grow B F H F' H') (hb : ∀ a, B' a → B a ∨ H a = none) (r' : T.rep F' H' vb b' B') (f' : ∀ a, B' a → F' a = none) : Stt T b' vb Γ σ F' H' B' O := by
  obtain ⟨l, s, r, f0, bo, ps, ss, u, d⟩ := h
  have alive : ∀ a, O a → ∃ o, H a = some o := fun a ha => by
    obtain ⟨i, hi⟩ := (u a).mp ha
    have q := ss i
    revert q
    cases hs : Γ.getD i .no with
    | no => exact fun q => (q a hi).elim
    | fz t x => exact fun q => (q.2 a hi).elim
    | ow t x => exact fun q => let ⟨⟨_, _, r⟩, _⟩ := q; t.live r hi
    | bw t x => exact fun q => (q.2 a hi).elim
    | bx k => exact fun q => (q.2 a hi).elim
  have nb : ∀ a, O a → ¬ B a := fun a ha hb => bo a hb ha
  refine ⟨l, g.s, r', f', fun a ha ho => ?_, ps, fun i => (ss i).grow g.f (fun a o e p => g.h a o e fun z => ?_) g.n (fun a z => ?_), u, d⟩
  · rcases hb a ha with z | z
    · exact bo a z ho
    · obtain ⟨o, e⟩ := alive a ho
      rw [z] at e; cases e
  · rcases p with p | p
    · exact bo a z ((u a).mpr ⟨i, p⟩)
    · exact p (.inl z)
  · rcases z with z | z
    · exact (hb a z).imp .inl id
    · exact .inl (.inr z)
/-- owned things are not frozen -/
theorem Stt.nf (h : Stt T b vb Γ σ F H B O) {a : Addr} (ha : O a) : F a = none := by
  obtain ⟨l, s, r, f0, bo, ps, ss, u, d⟩ := h
  obtain ⟨i, z⟩ := (u a).mp ha
  have q := ss i
  revert q
  cases hs : Γ.getD i .no with
  | no => exact fun q => (q a z).elim
  | fz t x => exact fun q => (q.2 a z).elim
  | ow t x => exact fun q => q.2 a z
  | bw t x => exact fun q => (q.2 a z).elim
  | bx k => exact fun q => (q.2 a z).elim
theorem slot_get {σ : L2.St} {i : Nat} {v : V} (h : slot σ i = some v) : σ[i]? = some (some v) := by
  unfold slot at h
  cases e : σ[i]? with
  | none => rw [e] at h; cases h
  | some w => rw [e] at h; cases w with
    | none => cases h
    | some u => cases h; rfl
theorem Stt.at_ (h : Stt T b vb Γ σ F H B O) {i : Nat} {s : Sl} (e : Γ[i]? = some s) : ∃ p, SlOk vb F H (fun a => B a ∨ O a) s (slot σ i) p ∧ (∀ a, p a → O a) := by
  obtain ⟨l, _, r, f0, bo, ps, ss, u, d⟩ := h
  have q := ss i
  rw [List.getD_eq_getElem?_getD, e] at q
  exact ⟨ps i, q, fun a ha => (u a).mpr ⟨i, ha⟩⟩
theorem Stt.fz (h : Stt T b vb Γ σ F H B O) {i : Nat} {α : Type} {t : Ty α} {x : α} (e : Γ[i]? = some (.fz t x)) : ∃ v, σ[i]? = some (some v) ∧ t.rep F v x := by
  obtain ⟨p, ⟨⟨v, e1, r⟩, _⟩, _⟩ := h.at_ e
  exact ⟨v, slot_get e1, r⟩
theorem slot_set_ne {σ : L2.St} {i j : Nat} {w : Option V} (h : j ≠ i) : slot (σ.set i w) j = slot σ j := by
  unfold slot; rw [List.getElem?_set_ne (Ne.symm h)]
theorem slot_set {σ : L2.St} {i : Nat} {w : Option V} (h : i < σ.length) : slot (σ.set i w) i = w := by
  unfold slot; rw [List.getElem?_set_self h]; rfl
theorem getD_set_ne {Γ : Envt} {i j : Nat} {s : Sl} (h : j ≠ i) : (Γ.set i s).getD j .no = Γ.getD j .no := by
  rw [List.getD_eq_getElem?_getD, List.getD_eq_getElem?_getD, List.getElem?_set_ne (Ne.symm h)]
theorem getD_set {Γ : Envt} {i : Nat} {s : Sl} (h : i < Γ.length) : (Γ.set i s).getD i .no = s := by
  rw [List.getD_eq_getElem?_getD, List.getElem?_set_self h]; rfl
theorem SlOk.wkO {O O' : AS} {s : Sl} {w : Option V} {p : AS} (h : SlOk vb F H O s w p) (hO : ∀ a, O' a → O a) : SlOk vb F H O' s w p := by
  cases s with
  | bw t x =>
    obtain ⟨⟨v, q, e, r, d⟩, z⟩ := h
    exact ⟨⟨v, q, e, r, fun a ha z => d a ha (hO a z)⟩, z⟩
  | no => exact h
  | fz t x => exact h
  | ow t x => exact h
  | bx k => exact h
def butp (ps : Nat → AS) (i : Nat) : Nat → AS := fun j a => j ≠ i ∧ ps j a
theorem butp_ne {ps : Nat → AS} {i j : Nat} (h : j ≠ i) : butp ps i j = ps j := funext fun a => propext ⟨fun z => z.2, fun z => ⟨h, z⟩⟩
/-- a name is given frozen data; what it held is forgotten -/
theorem Stt.setF (h : Stt T b vb Γ σ F H B O) {i : Nat} (hi : i < Γ.length) {α : Type} {t : Ty α} {x : α} {v : V} (r : t.rep F v x) :
    ∃ O', (∀ a, O' a → O a) ∧ Stt T b vb (Γ.set i (.fz t x)) (σ.set i (some v)) F H B O' := by
  obtain ⟨l, s, rb, f0, bo, ps, ss, u, d⟩ := h
  have sub' : ∀ a, (∃ j, butp ps i j a) → O a := fun a ⟨j, _, z⟩ => (u a).mpr ⟨j, z⟩
  refine ⟨fun a => ∃ j, butp ps i j a, sub', ?_, s, rb, f0, fun a ha z => bo a ha (sub' a z), butp ps i, fun j => ?_, fun a => Iff.rfl, fun j k hjk a ha z => d j k hjk a ha.2 z.2⟩
  · rw [List.length_set, List.length_set]; exact l
  · by_cases hj : j = i
    · subst hj
      rw [getD_set hi, slot_set (by rw [l]; exact hi)]
      exact ⟨⟨v, rfl, r⟩, fun _ z => z.1 rfl⟩
    · rw [getD_set_ne hj, slot_set_ne hj, butp_ne hj]
      exact (ss j).wkO fun a z => z.imp id (sub' a)
end

/-! ### the weakest readings -/
section
variable (X : Cx)
def RE (e : Expr) : TE := fun σ H Q => ∀ (pins : List (Addr × Obj)) (s : Shared), Inv X pins σ H s → wpAny (model X.prog X.w) X.A (eval e X.env) (EP X pins σ Q) X.xe s
def RT (e : Expr) : TT := fun σ H Q => ∀ (pins : List (Addr × Obj)) (s : Shared), Inv X pins σ H s → wpAny (model X.prog X.w) X.A (isTrue e X.env (eval e X.env)) (TP X pins σ Q) X.xe s
def RA (es : List Expr) : TA := fun σ H Q => ∀ (pos : Pos) (pins : List (Addr × Obj)) (s : Shared), Inv X pins σ H s → wpAny (model X.prog X.w) X.A (spliced (backTo pos (starEach es X.env))) (AP X pins σ Q) X.xe s
def RS (st : Stmt) : TS := fun D σ H => ∀ (pins : List (Addr × Obj)) (s : Shared), Inv X pins σ H s → wpAny (model X.prog X.w) X.A (exec st X.env) (SP X pins D) X.xe s
def RB (sts : List Stmt) : TS := fun D σ H => ∀ (pins : List (Addr × Obj)) (s : Shared), Inv X pins σ H s → wpAny (model X.prog X.w) X.A (execs sts X.env) (SP X pins D) X.xe s
end
section
variable {X : Cx}
theorem re_pe (e : Expr) : PE X e (RE X e) := ⟨fun pins s σ H Q I h => h pins s I⟩
theorem rt_pt (e : Expr) : PT X e (RT X e) := ⟨fun pins s σ H Q I h => h pins s I⟩
theorem ra_pa (es : List Expr) : PA X es (RA X es) := ⟨fun pos pins s σ H Q I h => h pos pins s I⟩
theorem rs_ps (st : Stmt) : PS X st (RS X st) := ⟨fun pins s σ H D I h => h pins s I⟩
theorem rb_pss (sts : List Stmt) : PSs X sts (RB X sts) := ⟨fun pins s σ H D I h => h pins s I⟩
theorem re_of {e : Expr} {t : TE} (h : PE X e t) {σ : L2.St} {H : Hp} {Q : VK} (q : t σ H Q) : RE X e σ H Q := fun pins s I => h.run pins s σ H Q I q
theorem rt_of {e : Expr} {t : TT} (h : PT X e t) {σ : L2.St} {H : Hp} {Q : Bool → Hp → Prop} (q : t σ H Q) : RT X e σ H Q := fun pins s I => h.run pins s σ H Q I q
theorem ra_of {es : List Expr} {t : TA} (h : PA X es t) {σ : L2.St} {H : Hp} {Q : List V → Hp → Prop} (q : t σ H Q) : RA X es σ H Q := fun pos pins s I => h.run pos pins s σ H Q I q
theorem rs_of {st : Stmt} {t : TS} (h : PS X st t) {σ : L2.St} {H : Hp} {D : Ends} (q : t D σ H) : RS X st D σ H := fun pins s I => h.run pins s σ H D I q
theorem rb_of {sts : List Stmt} {t : TS} (h : PSs X sts t) {σ : L2.St} {H : Hp} {D : Ends} (q : t D σ H) : RB X sts D σ H := fun pins s I => h.run pins s σ H D I q
theorem rb_cons {st : Stmt} {rest : List Stmt} {σ : L2.St} {H : Hp} {D : Ends} (q : RS X st { D with nx := RB X rest D } σ H) : RB X (st :: rest) D σ H := rb_of (pss_cons (rs_ps st) (rb_pss rest)) q
end
end TL
/-! TL1: what carries the in-out arguments; the typed judgements. -/
namespace TL
open PySem L2
/-! ### the carriers -/
class Mo (β : outParam Type) (m : Type → Type) extends Monad m where
  T : OTs β
  run : {α : Type} → m α → β → Res (α × β)
  lift : {α : Type} → Res α → m α
  run_pure : ∀ {α : Type} (x : α) (b : β), run (pure x) b = .ok (x, b)
  run_bind : ∀ {α γ : Type} (r : m α) (k : α → m γ) (b : β), run (r >>= k) b = (run r b).bind fun p => run (k p.1) p.2
  run_lift : ∀ {α : Type} (r : Res α) (b : β), run (lift r) b = r.bind fun x => .ok (x, b)
  /-- where an error may not leave -/
  noErr : {α : Type} → m α → m α
  run_noErr : ∀ {α : Type} (r : m α) (b : β), run (noErr r) b = match run r b with | .ok p => .ok p | _ => .bad
def Res.noErr {α : Type} : Res α → Res α
  | .ok x => .ok x
  | _ => .bad
def unitT : OTs Unit := ⟨fun _ _ _ _ p => ∀ a, ¬ p a, fun _ _ h => h, fun h q => (h _ q).elim⟩
instance moRes : Mo Unit Res where
  T := unitT
  run := fun r _ => r.bind fun x => .ok (x, ())
  lift := id
  run_pure := fun _ _ => rfl
  run_bind := fun r k b => by cases r <;> rfl
  run_lift := fun _ _ => rfl
  noErr := Res.noErr
  run_noErr := fun r _ => by cases r <;> rfl
class StT (β : Type) where
  T : OTs β
def LM (β α : Type) : Type := β → Res (α × β)
instance {β : Type} [StT β] : Mo β (LM β) where
  pure := fun x b => .ok (x, b)
  bind := fun r k b => (r b).bind fun p => k p.1 p.2
  T := StT.T
  run := fun r b => r b
  lift := fun r b => r.bind fun x => .ok (x, b)
  run_pure := fun _ _ => rfl
  run_bind := fun _ _ _ => rfl
  run_lift := fun _ _ => rfl
  noErr := fun r b => (r b).noErr
  run_noErr := fun r b => by
    show (r b).noErr = _
    cases r b <;> rfl
@[simp] theorem lift_res {α : Type} (r : Res α) : (Mo.lift r : Res α) = r := rfl

/-! ### errors -/
def Err.cls : Err → Str
  | .num _ => "BadNumber" | .name _ => "BadName" | .taken _ => "TakenName" | .unknown _ => "UnknownName" | .place _ => "NoPlace" | .many _ => "TooMany"
  | .site _ => "NoSite" | .shape _ => "NoShape" | .other => "OtherSite" | .state _ => "BadState" | .line _ => "BadLine" | .undo => "NothingToUndo" | .redo => "NothingToRedo" | .deed _ => "DeedFailed"
def Err.fld : Err → Str
  | .num _ => "value" | .name _ => "name" | .taken _ => "name" | .unknown _ => "name" | .place _ => "place" | .many _ => "count"
  | .site _ => "ring" | .shape _ => "blames" | .other => "" | .state _ => "state" | .line _ => "line" | .undo => "" | .redo => "" | .deed _ => "row"
/-! ### data -/
def tInt : Ty Int := ⟨fun _ v x => v = .int x, fun _ h => h⟩
def tBool : Ty Bool := ⟨fun _ v x => v = .bl x, fun _ h => h⟩
def tStr : Ty Str := ⟨fun _ v x => v = .str x, fun _ h => h⟩
def tNone : Ty Unit := ⟨fun _ v _ => v = .non, fun _ h => h⟩
/-- items one by one -/
def Reps {α : Type} (t : Ty α) (F : Hp) : List V → List α → Prop
  | [], [] => True
  | v :: vs, x :: xs => t.rep F v x ∧ Reps t F vs xs
  | _, _ => False
section
variable {α : Type} {t : Ty α} {F F' : Hp}
theorem Reps.mono (s : Sub F F') : ∀ {vs : List V} {xs : List α}, Reps t F vs xs → Reps t F' vs xs
  | [], [], h => h
  | _ :: _, _ :: _, h => ⟨t.mono s h.1, Reps.mono s h.2⟩
  | [], _ :: _, h => h.elim
  | _ :: _, [], h => h.elim
theorem Reps.length : ∀ {vs : List V} {xs : List α}, Reps t F vs xs → vs.length = xs.length
  | [], [], _ => rfl
  | _ :: _, _ :: _, h => congrArg (· + 1) (Reps.length h.2)
  | [], _ :: _, h => h.elim
  | _ :: _, [], h => h.elim
theorem Reps.get : ∀ {vs : List V} {xs : List α} {i : Nat} {x : α}, Reps t F vs xs → xs[i]? = some x → ∃ v, vs[i]? = some v ∧ t.rep F v x
  | [], [], _, _, _, e => by simp at e
  | v :: _, _ :: _, 0, _, h, e => by simp at e; subst e; exact ⟨v, rfl, h.1⟩
  | _ :: _, _ :: _, i + 1, _, h, e => by
    obtain ⟨v, a, b⟩ := Reps.get (i := i) h.2 (by simpa using e)
    exact ⟨v, by simpa using a, b⟩
  | [], _ :: _, _, _, h, _ => h.elim
  | _ :: _, [], _, _, h, _ => h.elim
theorem Reps.getV : ∀ {vs : List V} {xs : List α} {i : Nat} {v : V}, Reps t F vs xs → vs[i]? = some v → ∃ x, xs[i]? = some x ∧ t.rep F v x
  | [], [], _, _, _, e => by simp at e
  | _ :: _, x :: _, 0, _, h, e => by simp at e; subst e; exact ⟨x, rfl, h.1⟩
  | _ :: _, _ :: _, i + 1, _, h, e => by
    obtain ⟨v, a, b⟩ := Reps.getV (i := i) h.2 (by simpa using e)
    exact ⟨v, by simpa using a, b⟩
  | [], _ :: _, _, _, h, _ => h.elim
  | _ :: _, [], _, _, h, _ => h.elim
theorem Reps.append : ∀ {vs us : List V} {xs ys : List α}, Reps t F vs xs → Reps t F us ys → Reps t F (vs ++ us) (xs ++ ys)
  | [], _, [], _, _, h => h
  | _ :: _, _, _ :: _, _, h, h' => ⟨h.1, Reps.append h.2 h'⟩
  | [], _, _ :: _, _, h, _ => h.elim
  | _ :: _, _, [], _, h, _ => h.elim
theorem Reps.set : ∀ {vs : List V} {xs : List α} {v : V} {x : α} (i : Nat), Reps t F vs xs → t.rep F v x → Reps t F (vs.set i v) (xs.set i x)
  | [], [], _, _, _, h, _ => h
  | _ :: _, _ :: _, _, _, 0, h, r => ⟨r, h.2⟩
  | _ :: _, _ :: _, _, _, i + 1, h, r => ⟨h.1, Reps.set i h.2 r⟩
  | [], _ :: _, _, _, _, h, _ => h.elim
  | _ :: _, [], _, _, _, h, _ => h.elim
theorem Reps.take : ∀ {vs : List V} {xs : List α} (n : Nat), Reps t F vs xs → Reps t F (vs.take n) (xs.take n)
  | _, _, 0, _ => trivial
  | [], [], _ + 1, h => h
  | _ :: _, _ :: _, n + 1, h => ⟨h.1, Reps.take n h.2⟩
  | [], _ :: _, _ + 1, h => h.elim
  | _ :: _, [], _ + 1, h => h.elim
theorem Reps.drop : ∀ {vs : List V} {xs : List α} (n : Nat), Reps t F vs xs → Reps t F (vs.drop n) (xs.drop n)
  | _, _, 0, h => h
  | [], [], _ + 1, h => h
  | _ :: _, _ :: _, n + 1, h => Reps.drop n h.2
  | [], _ :: _, _ + 1, h => h.elim
  | _ :: _, [], _ + 1, h => h.elim
theorem Reps.reverse {vs : List V} {xs : List α} (h : Reps t F vs xs) : Reps t F vs.reverse xs.reverse := by
  induction vs generalizing xs with
  | nil => cases xs with
    | nil => exact h
    | cons => exact h.elim
  | cons v vs ih => cases xs with
    | nil => exact h.elim
    | cons x xs => rw [List.reverse_cons, List.reverse_cons]; exact Reps.append (ih h.2) ⟨h.1, trivial⟩
theorem Reps.ints : ∀ {vs : List V} {xs : List Int}, Reps tInt F vs xs ↔ vs = xs.map V.int
  | [], [] => ⟨fun _ => rfl, fun _ => trivial⟩
  | _ :: _, _ :: _ => ⟨fun h => by rw [List.map_cons, ← Reps.ints.mp h.2]; exact congrArg (· :: _) h.1, fun h => by rw [List.map_cons] at h; injection h with h1 h2; exact ⟨h1, Reps.ints.mpr h2⟩⟩
  | [], _ :: _ => ⟨fun h => h.elim, fun h => by cases h⟩
  | _ :: _, [] => ⟨fun h => h.elim, fun h => by cases h⟩
end
/-- a list of t -/
def tList {α : Type} (t : Ty α) : Ty (List α) :=
  ⟨fun F v xs => ∃ a vs, v = .ref a ∧ F a = some (.lst vs) ∧ Reps t F vs xs ∧ xs.length ≤ sizeLine, fun s ⟨a, vs, e, h, r, z⟩ => ⟨a, vs, e, s _ _ h, r.mono s, z⟩⟩
theorem sqT_mono {K : PySem.W.Frag} {F F' : Hp} {a : Addr} {vs : List V} (s : Sub F F') (h : SqT K F a vs) : SqT K F' a vs := by
  rcases h with h | h
  · rcases h with h | ⟨o, h⟩
    · exact .inl (.inl (s _ _ h))
    · exact .inl (.inr ⟨o, s _ _ h⟩)
  · exact .inr h
/-- tuples: of one kind, any length; of two, three, four parts -/
def tTupL {α : Type} (K : PySem.W.Frag) (t : Ty α) : Ty (List α) := ⟨fun F v xs => ∃ a vs, v = .ref a ∧ SqT K F a vs ∧ Reps t F vs xs ∧ xs.length ≤ sizeLine, fun s ⟨a, vs, e, h, r, z⟩ => ⟨a, vs, e, sqT_mono s h, r.mono s, z⟩⟩
def tTup1 {α : Type} (K : PySem.W.Frag) (t : Ty α) : Ty α := ⟨fun F v x => ∃ a v1, v = .ref a ∧ SqT K F a [v1] ∧ t.rep F v1 x, fun s ⟨a, v1, e, h, r⟩ => ⟨a, v1, e, sqT_mono s h, t.mono s r⟩⟩
def tTup2 {α β : Type} (K : PySem.W.Frag) (t : Ty α) (u : Ty β) : Ty (α × β) :=
  ⟨fun F v x => ∃ a v1 v2, v = .ref a ∧ SqT K F a [v1, v2] ∧ t.rep F v1 x.1 ∧ u.rep F v2 x.2, fun s ⟨a, v1, v2, e, h, r1, r2⟩ => ⟨a, v1, v2, e, sqT_mono s h, t.mono s r1, u.mono s r2⟩⟩
def tTup3 {α β γ : Type} (K : PySem.W.Frag) (t : Ty α) (u : Ty β) (w : Ty γ) : Ty (α × β × γ) :=
  ⟨fun F v x => ∃ a v1 v2 v3, v = .ref a ∧ SqT K F a [v1, v2, v3] ∧ t.rep F v1 x.1 ∧ u.rep F v2 x.2.1 ∧ w.rep F v3 x.2.2,
   fun s ⟨a, v1, v2, v3, e, h, r1, r2, r3⟩ => ⟨a, v1, v2, v3, e, sqT_mono s h, t.mono s r1, u.mono s r2, w.mono s r3⟩⟩
def tTup4 {α β γ δ : Type} (K : PySem.W.Frag) (t : Ty α) (u : Ty β) (w : Ty γ) (z : Ty δ) : Ty (α × β × γ × δ) :=
  ⟨fun F v x => ∃ a v1 v2 v3 v4, v = .ref a ∧ SqT K F a [v1, v2, v3, v4] ∧ t.rep F v1 x.1 ∧ u.rep F v2 x.2.1 ∧ w.rep F v3 x.2.2.1 ∧ z.rep F v4 x.2.2.2,
   fun s ⟨a, v1, v2, v3, v4, e, h, r1, r2, r3, r4⟩ => ⟨a, v1, v2, v3, v4, e, sqT_mono s h, t.mono s r1, u.mono s r2, w.mono s r3, z.mono s r4⟩⟩
/-- None, or t -/
def tOpt {α : Type} (t : Ty α) : Ty (Option α) :=
  ⟨fun F v x => match x with | none => v = .non | some y => v ≠ .non ∧ t.rep F v y, fun {_ _ _ x} s h => by
    cases x with
    | none => exact h
    | some y => exact ⟨h.1, t.mono s h.2⟩⟩
/-- what is never None -/
def NN {α : Type} (t : Ty α) : Prop := ∀ F v x, t.rep F v x → v ≠ .non
theorem nn_int : NN tInt := fun _ _ _ h e => by cases (show _ = _ from h).symm.trans e
theorem nn_bool : NN tBool := fun _ _ _ h e => by cases (show _ = _ from h).symm.trans e
theorem nn_str : NN tStr := fun _ _ _ h e => by cases (show _ = _ from h).symm.trans e
theorem nn_list {α : Type} {t : Ty α} : NN (tList t) := fun _ _ _ ⟨_, _, e, _⟩ q => by cases e.symm.trans q
theorem nn_tupL {α : Type} {K : PySem.W.Frag} {t : Ty α} : NN (tTupL K t) := fun _ _ _ ⟨_, _, e, _⟩ q => by cases e.symm.trans q
theorem nn_tup2 {α β : Type} {K : PySem.W.Frag} {t : Ty α} {u : Ty β} : NN (tTup2 K t u) := fun _ _ _ ⟨_, _, _, e, _⟩ q => by cases e.symm.trans q
theorem nn_tup3 {α β γ : Type} {K : PySem.W.Frag} {t : Ty α} {u : Ty β} {w : Ty γ} : NN (tTup3 K t u w) := fun _ _ _ ⟨_, _, _, _, e, _⟩ q => by cases e.symm.trans q
theorem nn_tup4 {α β γ δ : Type} {K : PySem.W.Frag} {t : Ty α} {u : Ty β} {w : Ty γ} {z : Ty δ} : NN (tTup4 K t u w z) := fun _ _ _ ⟨_, _, _, _, _, e, _⟩ q => by cases e.symm.trans q
/-! ### errors as they lie -/
def ErrRep (K : PySem.W.Frag) (F : Hp) (C : Value) (d : Option Addr) (e : Err) : Prop :=
  C = .ref (He.ga K e.cls) ∧ match e with
  | .num v => ∃ dx, d = some dx ∧ F dx = some (.xd [("value", .int v)])
  | .name s => ∃ dx, d = some dx ∧ F dx = some (.xd [("name", .str s)])
  | .taken s => ∃ dx, d = some dx ∧ F dx = some (.xd [("name", .str s)])
  | .unknown s => ∃ dx, d = some dx ∧ F dx = some (.xd [("name", .str s)])
  | .place v => ∃ dx, d = some dx ∧ F dx = some (.xd [("place", .int v)])
  | .many v => ∃ dx, d = some dx ∧ F dx = some (.xd [("count", .int v)])
  | .site r => ∃ dx v, d = some dx ∧ F dx = some (.xd [("ring", v)]) ∧ (tList tInt).rep F v r
  | .shape bl => ∃ dx v, d = some dx ∧ F dx = some (.xd [("blames", v)]) ∧ (tList (tTupL K tInt)).rep F v bl
  | .other => d = none
  | .state s => ∃ dx, d = some dx ∧ F dx = some (.xd [("state", .str s)])
  | .line v => ∃ dx, d = some dx ∧ F dx = some (.xd [("line", .int v)])
  | .undo => d = none
  | .redo => d = none
  | .deed v => ∃ dx, d = some dx ∧ F dx = some (.xd [("row", .int v)])
/-! ### the judgements -/
def PostR {α : Type} (r : Res α) (P : α → Prop) (Ee : Err → Prop) : Prop := match r with
  | .ok x => P x
  | .err e => Ee e
  | .bad => False
theorem PostR.bind {α γ : Type} {r : Res α} {k : α → Res γ} {P : γ → Prop} {Ee : Err → Prop} (h : PostR (r.bind k) P Ee) : PostR r (fun x => PostR (k x) P Ee) Ee := by
  cases r <;> exact h
theorem PostR.mono {α : Type} {r : Res α} {P P' : α → Prop} {Ee Ee' : Err → Prop} (h : PostR r P Ee) (hp : ∀ x, P x → P' x) (he : ∀ e, Ee e → Ee' e) : PostR r P' Ee' := by
  cases r with
  | ok x => exact hp x h
  | err e => exact he e h
  | bad => exact h
def opt {α : Type} : Option α → Res α
  | some x => .ok x
  | none => .bad
/-- nothing of the in-out arguments comes to stand there -/
theorem nb_stay {B B' : AS} {H : Hp} {p : Addr} {o : HO} (hb : ∀ a, B' a → B a ∨ H a = none) (nb : ¬ B p) (h : H p = some o) : ¬ B' p := fun z => (hb p z).elim nb fun q => by rw [h] at q; cases q
/-- what is said of a value: F, the heap, the in-out arguments' addresses, the heap at the start -/
structure PR (α : Type) where
  rep : α → V → Hp → Hp → AS → Hp → Prop
  stab : ∀ {x v F H B H0 F' H' B'}, rep x v F H B H0 → Grow B F H F' H' → (∀ a, B' a → B a ∨ H a = none) → rep x v F' H' B' H0
  anti : ∀ {x v F H B H1 H0}, rep x v F H B H1 → (∀ a, H1 a = none → H0 a = none) → rep x v F H B H0
/-- frozen data of the type t -/
def PF {α : Type} (t : Ty α) : PR α := ⟨fun x v F _ _ _ => t.rep F v x, fun h g _ => t.mono g.f h, fun h _ => h⟩
/-- a new list, of one's own -/
def PN {α : Type} (t : Ty α) : PR (List α) := ⟨fun xs v F H B H0 => ∃ p vs, v = .ref p ∧ H p = some (.lst vs) ∧ F p = none ∧ ¬ B p ∧ H0 p = none ∧ Reps t F vs xs ∧ xs.length ≤ sizeLine,
  fun ⟨p, vs, e, h, f, nb, n0, r, z⟩ g hb => ⟨p, vs, e, g.h _ _ h nb, g.n _ _ f h, nb_stay hb nb h, n0, r.mono g.f, z⟩, fun ⟨p, vs, e, h, f, nb, n0, r, z⟩ s => ⟨p, vs, e, h, f, nb, s p n0, r, z⟩⟩
/-- a list that may be read -/
def PL {α : Type} (t : Ty α) : PR (List α) := ⟨fun xs v F H B _ => ∃ p vs, v = .ref p ∧ H p = some (.lst vs) ∧ ¬ B p ∧ Reps t F vs xs ∧ xs.length ≤ sizeLine,
  fun ⟨p, vs, e, h, nb, r, z⟩ g hb => ⟨p, vs, e, g.h _ _ h nb, nb_stay hb nb h, r.mono g.f, z⟩, fun h _ => h⟩
/-- .. a list or a tuple -/
def PQ {α : Type} (K : PySem.W.Frag) (t : Ty α) : PR (List α) := ⟨fun xs v F H B _ => ∃ p vs, v = .ref p ∧ ((H p = some (.lst vs) ∧ ¬ B p) ∨ SqT K F p vs) ∧ Reps t F vs xs ∧ xs.length ≤ sizeLine,
  fun ⟨p, vs, e, h, r, z⟩ g hb => ⟨p, vs, e, h.imp (fun ⟨h, nb⟩ => ⟨g.h _ _ h nb, nb_stay hb nb h⟩) (sqT_mono g.f), r.mono g.f, z⟩, fun h _ => h⟩
def KE {β : Type} {m : Type → Type} [Mo β m] (vb : List V) (Γ : Envt) (σ : L2.St) (F H : Hp) (B O : AS) {α : Type} (P : PR α) (Q : VK) : α × β → Prop := fun p =>
  ∀ v F' H' B', Grow B F H F' H' → (∀ a, B' a → B a ∨ H a = none) → Stt (Mo.T m) p.2 vb Γ σ F' H' B' O → P.rep p.1 v F' H' B' H → Q v H'
def KX (K : PySem.W.Frag) (F H : Hp) (B : AS) (E : XK) : Err → Prop := fun e => ∀ C d F' H', Grow B F H F' H' → ErrRep K F' C d e → E C d H'
/-- e comes to what P says -/
def TG {β : Type} {m : Type → Type} [Mo β m] (X : Cx) (E : XK) (Γ : Envt) (e : Expr) {α : Type} (P : PR α) (mm : m α) : Prop :=
  ∀ (b : β) (vb : List V) (σ : L2.St) (F H : Hp) (B O : AS), Stt (Mo.T m) b vb Γ σ F H B O → ∀ Q : VK, PostR (Mo.run mm b) (KE (m := m) vb Γ σ F H B O P Q) (KX X.K F H B E) → RE X e σ H Q
abbrev TE {β : Type} {m : Type → Type} [Mo β m] (X : Cx) (E : XK) (Γ : Envt) (e : Expr) {α : Type} (t : Ty α) (mm : m α) : Prop := TG X E Γ e (PF t) mm
section
variable {X : Cx} {E : XK} {Γ : Envt} {β : Type} {m : Type → Type} [Mo β m] {α γ δ : Type}
/-- a step behind a step -/
theorem PostR.run_bind {mm : m α} {k : α → m γ} {b : β} {P : γ × β → Prop} {Ee : Err → Prop} (h : PostR (Mo.run (mm >>= k) b) P Ee) : PostR (Mo.run mm b) (fun p => PostR (Mo.run (k p.1) p.2) P Ee) Ee := by
  rw [Mo.run_bind] at h
  exact h.bind
theorem PostR.run_pure {x : α} {b : β} {P : α × β → Prop} {Ee : Err → Prop} (h : PostR (Mo.run (m := m) (pure x) b) P Ee) : P (x, b) := by
  rw [Mo.run_pure] at h
  exact h
theorem PostR.run_opt {x : Option α} {b : β} {P : α × β → Prop} {Ee : Err → Prop} (h : PostR (Mo.run (m := m) (Mo.lift (opt x)) b) P Ee) : ∃ y, x = some y ∧ P (y, b) := by
  rw [Mo.run_lift] at h
  cases x with
  | none => exact h.elim
  | some y => exact ⟨y, rfl, h⟩
theorem KX.tr {K : PySem.W.Frag} {F H F1 H1 : Hp} {B B1 : AS} {er : Err} (k : KX K F H B E er) (g : Grow B F H F1 H1) (hb : ∀ a, B1 a → B a ∨ H a = none) : KX K F1 H1 B1 E er := fun C d F' H' g' r => k C d F' H' (g.tr g' hb) r
theorem back {F H F1 H1 : Hp} {B B1 B2 : AS} (g : Grow B F H F1 H1) (hb : ∀ a, B1 a → B a ∨ H a = none) (hc : ∀ a, B2 a → B1 a ∨ H1 a = none) : ∀ a, B2 a → B a ∨ H a = none := fun a z => (hc a z).elim (hb a) fun q => by
  cases e : H a with
  | none => exact .inr rfl
  | some o =>
    obtain ⟨o', e'⟩ := g.l a o e
    rw [q] at e'; cases e'
theorem KE.tr {vb : List V} {σ : L2.St} {F H F1 H1 : Hp} {B B1 O : AS} {Q : VK} {P : PR α} {p : α × β} (k : KE (m := m) vb Γ σ F H B O P Q p) (g : Grow B F H F1 H1) (hb : ∀ a, B1 a → B a ∨ H a = none) : KE (m := m) vb Γ σ F1 H1 B1 O P Q p :=
  fun v F' H' B' g' hb' st r => k v F' H' B' (g.tr g' hb) (back g hb hb') st (P.anti r fun a z => g.non z)
/-- the end of a step: nothing but growth -/
theorem KE.end0 {vb : List V} {σ : L2.St} {F H F1 H1 : Hp} {B O : AS} {Q : VK} {P : PR α} {x : α} {b : β} {v : V} (k : KE (m := m) vb Γ σ F H B O P Q (x, b)) (st : Stt (Mo.T m) b vb Γ σ F H B O) (g : Grow nil F H F1 H1) (r : P.rep x v F1 H1 B H) : Q v H1 :=
  k v F1 H1 B (g.wk fun _ z => z.elim) (fun _ z => .inl z) (st.grow0 g) r
theorem KE.here {vb : List V} {σ : L2.St} {F H : Hp} {B O : AS} {Q : VK} {P : PR α} {x : α} {b : β} {v : V} (k : KE (m := m) vb Γ σ F H B O P Q (x, b)) (st : Stt (Mo.T m) b vb Γ σ F H B O) (r : P.rep x v F H B H) : Q v H :=
  k.end0 st (Grow.rf st.sub) r
end

/-- a list or a tuple -/
def tSeq {α : Type} (K : PySem.W.Frag) (t : Ty α) : Ty (List α) := ⟨fun F v xs => ∃ a vs, v = .ref a ∧ (F a = some (.lst vs) ∨ SqT K F a vs) ∧ Reps t F vs xs ∧ xs.length ≤ sizeLine, fun s ⟨a, vs, e, h, r, z⟩ => ⟨a, vs, e, h.imp (s _ _) (sqT_mono s), r.mono s, z⟩⟩
theorem nn_seq {α : Type} {K : PySem.W.Frag} {t : Ty α} : NN (tSeq K t) := fun _ _ _ ⟨_, _, e, _⟩ q => by cases e.symm.trans q
/-- a list of one's own -/
def oList {α : Type} (t : Ty α) : OTy (List α) where
  rep := fun F H v xs p => ∃ a vs, v = .ref a ∧ H a = some (.lst vs) ∧ Reps t F vs xs ∧ xs.length ≤ sizeLine ∧ p = fun b => b = a
  mono := fun s h ⟨a, vs, e, q, r, z, w⟩ => ⟨a, vs, e, by rw [h a (by rw [w])]; exact q, r.mono s, z, w⟩
  live := fun ⟨a, vs, e, q, r, z, w⟩ hp => by rw [w] at hp; exact ⟨_, by rw [show _ = a from hp]; exact q⟩
end TL
/-! TL2: expressions. -/
namespace TL
open PySem L2
/-- the heap's order of things -/
structure Cc (F H : Hp) (B : AS) (H0 : Hp) : Prop where
  sub : Sub F H
  bl : ∀ a, B a → ∃ o, H a = some o
  h0 : ∀ a, H a = none → H0 a = none
section
variable {X : Cx} {E : XK} {Γ : Envt} {β : Type} {m : Type → Type} [Mo β m] {α γ δ ε : Type} {t : Ty α} {u : Ty γ} {w : Ty δ} {a b c e : Expr} {x : α} {y : γ} {pos : Pos} {P : PR α} {P' : PR γ} {P'' : PR δ} {P3 : PR ε} {ma : m α} {mb : m γ} {mc : m δ}
theorem Stt.cc {T : OTs β} {bb : β} {vb : List V} {σ : L2.St} {F H : Hp} {B O : AS} (st : Stt T bb vb Γ σ F H B O) {H0 : Hp} (h0 : ∀ a, H a = none → H0 a = none) : Cc F H B H0 := ⟨st.sub, fun _ ha => T.live st.bx ha, h0⟩
theorem Cc.fresh {F H H0 : Hp} {B : AS} (c : Cc F H B H0) {p : Addr} (hp : H p = none) : ¬ B p := fun z => by
  obtain ⟨o, e⟩ := c.bl p z
  rw [hp] at e; cases e
/-! ### names, constants -/
theorem te_var (i : Nat) {nm : Str} (hv : Vis X.env.scope nm) (hΓ : Γ[i]? = some (.fz t x)) (hN : X.N[i]? = some nm) (hd : (nm == ("__debug__" : Str)) = false := by decide) (hcd : (nm == ("__classdict__" : Str)) = false := by decide) : TE (m := m) X E Γ (.Name nm pos) t (pure x) :=
  fun bb vb σ F H B O st Q q => by
    obtain ⟨v, e, r⟩ := st.fz hΓ
    exact re_of (pe_var hN hv hd hcd) ⟨v, e, q.run_pure.here st r⟩
theorem te_int {i : Int} {j : Nat} : TE (m := m) X E Γ (.Constant (.int i) j pos) tInt (pure i) := fun bb vb σ F H B O st Q q => re_of pe_int (q.run_pure.here st rfl)
theorem te_bool {i : Bool} {j : Nat} : TE (m := m) X E Γ (.Constant (.bool i) j pos) tBool (pure i) := fun bb vb σ F H B O st Q q => re_of pe_bl (q.run_pure.here st rfl)
theorem te_str {i : Str} {j : Nat} : TE (m := m) X E Γ (.Constant (.str i) j pos) tStr (pure i) := fun bb vb σ F H B O st Q q => re_of pe_str (q.run_pure.here st rfl)
theorem te_none {j : Nat} : TE (m := m) X E Γ (.Constant .none j pos) tNone (pure ()) := fun bb vb σ F H B O st Q q => re_of pe_non (q.run_pure.here st rfl)
theorem te_noneO {j : Nat} : TE (m := m) X E Γ (.Constant .none j pos) (tOpt t) (pure none) := fun bb vb σ F H B O st Q q => re_of pe_non (q.run_pure.here st rfl)
theorem te_glob {nm : Str} {v : V} {vv : Value} (hg : Gl X nm) (hm : X.mg nm = some vv) (r : RelV v vv) (hr : ∀ F, t.rep F v x) (hd : (nm == ("__debug__" : Str)) = false := by decide) : TE (m := m) X E Γ (.Name nm pos) t (pure x) :=
  fun bb vb σ F H B O st Q q => re_of (pe_glob hg hm r hd) (q.run_pure.here st (hr F))
/-- another reading of the same value -/
theorem tg_map {f : α → γ} (h : TG X E Γ e P ma) (hp : ∀ x v F H B H0, Cc F H B H0 → P.rep x v F H B H0 → P'.rep (f x) v F H B H0) : TG X E Γ e P' (ma >>= fun x => pure (f x)) := fun bb vb σ F H B O st Q q =>
  h bb vb σ F H B O st Q (q.run_bind.mono (fun p k v F' H' B' g hb st' r => k.run_pure v F' H' B' g hb st' (hp _ _ _ _ _ _ (st'.cc fun a z => g.non z) r)) fun _ z => z)
theorem tg_imp (h : TG X E Γ e P ma) {P1 : PR α} (hp : ∀ x v F H B H0, Cc F H B H0 → P.rep x v F H B H0 → P1.rep x v F H B H0) : TG X E Γ e P1 ma := fun bb vb σ F H B O st Q q =>
  h bb vb σ F H B O st Q (q.mono (fun p k v F' H' B' g hb st' r => k v F' H' B' g hb st' (hp _ _ _ _ _ _ (st'.cc fun a z => g.non z) r)) fun _ z => z)
theorem te_some (nn : NN t) (h : TE X E Γ e t ma) : TE X E Γ e (tOpt t) (ma >>= fun x => pure (some x)) := tg_map h fun x v F H B H0 _ r => ⟨nn _ _ _ r, r⟩
theorem te_seqL {ml : m (List α)} (h : TE X E Γ e (tList t) ml) : TE X E Γ e (tSeq X.K t) ml := tg_imp h fun x v F H B H0 _ ⟨p, vs, e, q, r⟩ => ⟨p, vs, e, .inl q, r⟩
/-! ### operations on two values -/
def Op2 (r : R2) (P : PR α) (P' : PR γ) (P'' : PR δ) (f : α → γ → δ) : Prop := ∀ F H B H0 v1 v2 x y, Cc F H B H0 → P.rep x v1 F H B H0 → P'.rep y v2 F H B H0 → ∀ Q : VK, (∀ v F' H', Grow nil F H F' H' → P''.rep (f x y) v F' H' B H0 → Q v H') → r v1 v2 H Q
def Op2p (r : R2) (P : PR α) (P' : PR γ) (P'' : PR δ) (f : α → γ → Option δ) : Prop := ∀ F H B H0 v1 v2 x y z, Cc F H B H0 → P.rep x v1 F H B H0 → P'.rep y v2 F H B H0 → f x y = some z → ∀ Q : VK, (∀ v F' H', Grow nil F H F' H' → P''.rep z v F' H' B H0 → Q v H') → r v1 v2 H Q
theorem two {r : R2} {f : α → γ → δ} (o : Op2 r P P' P'' f) (ha : TG X E Γ a P ma) (hb : TG X E Γ b P' mb) {bb : β} {vb : List V} {σ : L2.St} {F H : Hp} {B O : AS} (st : Stt (Mo.T m) bb vb Γ σ F H B O) {Q : VK}
    (p : PostR (Mo.run (ma >>= fun x => mb >>= fun y => pure (f x y)) bb) (KE (m := m) vb Γ σ F H B O P'' Q) (KX X.K F H B E)) : RE X a σ H fun v1 H1 => RE X b σ H1 fun v2 H2 => r v1 v2 H2 Q := by
  refine ha bb vb σ F H B O st _ (p.run_bind.mono (fun p1 q1 v1 F1 H1 B1 g1 b1 st1 r1 => ?_) fun _ z => z)
  refine hb p1.2 vb σ F1 H1 B1 O st1 _ (q1.run_bind.mono (fun p2 q2 v2 F2 H2 B2 g2 b2 st2 r2 => ?_) fun er z => z.tr g1 b1)
  exact o F2 H2 B2 H v1 v2 p1.1 p2.1 (st2.cc fun a z => g1.non (g2.non z)) (P.stab r1 g2 b2) (P'.anti r2 fun a z => g1.non z) Q fun v F' H' g3 r3 => q2.run_pure v F' H' B2 ((g1.tr g2 b1).tr0 g3) (back g1 b1 b2) (st2.grow0 g3) r3
theorem twop {r : R2} {f : α → γ → Option δ} (o : Op2p r P P' P'' f) (ha : TG X E Γ a P ma) (hb : TG X E Γ b P' mb) {bb : β} {vb : List V} {σ : L2.St} {F H : Hp} {B O : AS} (st : Stt (Mo.T m) bb vb Γ σ F H B O) {Q : VK}
    (p : PostR (Mo.run (ma >>= fun x => mb >>= fun y => Mo.lift (opt (f x y))) bb) (KE (m := m) vb Γ σ F H B O P'' Q) (KX X.K F H B E)) : RE X a σ H fun v1 H1 => RE X b σ H1 fun v2 H2 => r v1 v2 H2 Q := by
  refine ha bb vb σ F H B O st _ (p.run_bind.mono (fun p1 q1 v1 F1 H1 B1 g1 b1 st1 r1 => ?_) fun _ z => z)
  refine hb p1.2 vb σ F1 H1 B1 O st1 _ (q1.run_bind.mono (fun p2 q2 v2 F2 H2 B2 g2 b2 st2 r2 => ?_) fun er z => z.tr g1 b1)
  obtain ⟨z, ez, q3⟩ := q2.run_opt
  exact o F2 H2 B2 H v1 v2 p1.1 p2.1 z (st2.cc fun a z => g1.non (g2.non z)) (P.stab r1 g2 b2) (P'.anti r2 fun a z => g1.non z) ez Q fun v F' H' g3 r3 => q3 v F' H' B2 ((g1.tr g2 b1).tr0 g3) (back g1 b1 b2) (st2.grow0 g3) r3
theorem te_bin {op : Operator} {r : R2} {f : α → γ → δ} (ho : OpR X (binaryOp op) r) (o : Op2 r P P' P'' f) (ha : TG X E Γ a P ma) (hb : TG X E Γ b P' mb) : TG X E Γ (.BinOp a op b pos) P'' (ma >>= fun x => mb >>= fun y => pure (f x y)) :=
  fun bb vb σ F H B O st Q q => re_of (pe_op ho (re_pe a) (re_pe b)) (two o ha hb st q)
theorem te_binp {op : Operator} {r : R2} {f : α → γ → Option δ} (ho : OpR X (binaryOp op) r) (o : Op2p r P P' P'' f) (ha : TG X E Γ a P ma) (hb : TG X E Γ b P' mb) : TG X E Γ (.BinOp a op b pos) P'' (ma >>= fun x => mb >>= fun y => Mo.lift (opt (f x y))) :=
  fun bb vb σ F H B O st Q q => re_of (pe_op ho (re_pe a) (re_pe b)) (twop o ha hb st q)
theorem te_cmp {op : CmpOp} {r : R2} {f : α → γ → Bool} (ho : OpR X (compareOp op) r) (o : Op2 r P P' (PF tBool) f) (ha : TG X E Γ a P ma) (hb : TG X E Γ b P' mb) (hm : behindInMarks op b = false) : TE X E Γ (.Compare a [op] [b] pos) tBool (ma >>= fun x => mb >>= fun y => pure (f x y)) :=
  fun bb vb σ F H B O st Q q => re_of (pe_cmpR ho (re_pe a) (re_pe b) hm) (two o ha hb st q)
theorem te_ix {r : R2} {f : α → γ → Option δ} (ho : IxR X r) (o : Op2p r P P' P'' f) (ha : TG X E Γ a P ma) (hb : TG X E Γ b P' mb) (hs : PlainIx b) : TG X E Γ (.Subscript a b pos) P'' (ma >>= fun x => mb >>= fun y => Mo.lift (opt (f x y))) :=
  fun bb vb σ F H B O st Q q => re_of (pe_ix ho (re_pe a) (re_pe b) hs) (twop o ha hb st q)
/-- a op1 b op2 c -/
theorem te_chain {op op' : CmpOp} {r r' : R2} {f : α → γ → Bool} {f' : γ → δ → Bool} (ho : OpR X (compareOp op) r) (ho' : OpR X (compareOp op') r') (o : Op2 r P P' (PF tBool) f) (o' : Op2 r' P' P'' (PF tBool) f') 
    (ha : TG X E Γ a P ma) (hb : TG X E Γ b P' mb) (hc : TG X E Γ c P'' mc) (hm : lastMarks [op, op'] [b, c] = false) :
    TE X E Γ (.Compare a [op, op'] [b, c] pos) tBool (ma >>= fun x => mb >>= fun y => if f x y = true then mc >>= fun z => pure (f' y z) else pure false) := fun bb vb σ F H B O st Q p => by
  refine re_of (pe_chain ho ho' (re_pe a) (re_pe b) (re_pe c) hm) ?_
  refine ha bb vb σ F H B O st _ (p.run_bind.mono (fun p1 q1 v1 F1 H1 B1 g1 b1 st1 r1 => ?_) fun _ z => z)
  refine hb p1.2 vb σ F1 H1 B1 O st1 _ (q1.run_bind.mono (fun p2 q2 v2 F2 H2 B2 g2 b2 st2 r2 => ?_) fun er z => z.tr g1 b1)
  refine o F2 H2 B2 H v1 v2 p1.1 p2.1 (st2.cc fun a z => g1.non (g2.non z)) (P.stab r1 g2 b2) (P'.anti r2 fun a z => g1.non z) _ fun v F3 H3 g3 r3 => ⟨f p1.1 p2.1, r3, ?_⟩
  cases hf : f p1.1 p2.1 with
  | true =>
    rw [hf] at q2
    rw [if_pos rfl] at q2 ⊢
    have g3' : Grow B2 F2 H2 F3 H3 := g3.wk fun _ z => z.elim
    refine hc p2.2 vb σ F3 H3 B2 O (st2.grow0 g3) _ (q2.run_bind.mono (fun p3 q3 v3 F4 H4 B4 g4 b4 st4 r4 => ?_) fun er z => ((z.tr g1 b1).tr g2 b2).tr g3' fun _ z => .inl z)
    refine o' F4 H4 B4 H v2 v3 p2.1 p3.1 (st4.cc fun a z => g1.non (g2.non (g3.non (g4.non z)))) (P'.stab (P'.stab (P'.anti r2 fun a z => g1.non z) g3' fun _ z => .inl z) g4 b4) (P''.anti r4 fun a z => g1.non (g2.non (g3.non z))) Q fun v' F5 H5 g5 r5 => ?_
    exact q3.run_pure v' F5 H5 B4 ((((g1.tr g2 b1).tr0 g3).tr g4 (back g1 b1 b2)).tr0 g5) (back ((g1.tr g2 b1).tr0 g3) (back g1 b1 b2) b4) (st4.grow0 g5) r5
  | false =>
    rw [hf] at q2 r3
    rw [if_neg Bool.false_ne_true] at q2 ⊢
    exact q2.run_pure (.bl false) F3 H3 B2 ((g1.tr g2 b1).tr0 g3) (back g1 b1 b2) (st2.grow0 g3) rfl
/-! ### operations on one value -/
def Op1 (r : V → Hp → VK → Prop) (P : PR α) (P' : PR γ) (f : α → γ) : Prop := ∀ F H B H0 v x, Cc F H B H0 → P.rep x v F H B H0 → ∀ Q : VK, (∀ v' F' H', Grow nil F H F' H' → P'.rep (f x) v' F' H' B H0 → Q v' H') → r v H Q
def Op1p (r : V → Hp → VK → Prop) (P : PR α) (P' : PR γ) (f : α → Option γ) : Prop := ∀ F H B H0 v x z, Cc F H B H0 → P.rep x v F H B H0 → f x = some z → ∀ Q : VK, (∀ v' F' H', Grow nil F H F' H' → P'.rep z v' F' H' B H0 → Q v' H') → r v H Q
theorem one {r : V → Hp → VK → Prop} {f : α → γ} (o : Op1 r P P' f) (ha : TG X E Γ a P ma) {bb : β} {vb : List V} {σ : L2.St} {F H : Hp} {B O : AS} (st : Stt (Mo.T m) bb vb Γ σ F H B O) {Q : VK}
    (p : PostR (Mo.run (ma >>= fun x => pure (f x)) bb) (KE (m := m) vb Γ σ F H B O P' Q) (KX X.K F H B E)) : RE X a σ H fun v1 H1 => r v1 H1 Q := by
  refine ha bb vb σ F H B O st _ (p.run_bind.mono (fun p1 q1 v1 F1 H1 B1 g1 b1 st1 r1 => ?_) fun _ z => z)
  exact o F1 H1 B1 H v1 p1.1 (st1.cc fun a z => g1.non z) r1 Q fun v F' H' g3 r3 => q1.run_pure v F' H' B1 (g1.tr0 g3) b1 (st1.grow0 g3) r3
theorem onep {r : V → Hp → VK → Prop} {f : α → Option γ} (o : Op1p r P P' f) (ha : TG X E Γ a P ma) {bb : β} {vb : List V} {σ : L2.St} {F H : Hp} {B O : AS} (st : Stt (Mo.T m) bb vb Γ σ F H B O) {Q : VK}
    (p : PostR (Mo.run (ma >>= fun x => Mo.lift (opt (f x))) bb) (KE (m := m) vb Γ σ F H B O P' Q) (KX X.K F H B E)) : RE X a σ H fun v1 H1 => r v1 H1 Q := by
  refine ha bb vb σ F H B O st _ (p.run_bind.mono (fun p1 q1 v1 F1 H1 B1 g1 b1 st1 r1 => ?_) fun _ z => z)
  obtain ⟨z, ez, q3⟩ := q1.run_opt
  exact o F1 H1 B1 H v1 p1.1 z (st1.cc fun a z => g1.non z) r1 ez Q fun v F' H' g3 r3 => q3 v F' H' B1 (g1.tr0 g3) b1 (st1.grow0 g3) r3
theorem te_un {op : UnaryOp} {r : V → Hp → VK → Prop} {f : α → γ} (ho : UnR X (unaryOp op) r) (o : Op1 r P P' f) (ha : TG X E Γ a P ma) : TG X E Γ (.UnaryOp op a pos) P' (ma >>= fun x => pure (f x)) :=
  fun bb vb σ F H B O st Q q => re_of (pe_un ho (re_pe a)) (one o ha st q)
/-- a built-in function, a built-in type, of one argument -/
theorem te_call1 {nm : Str} {id : String} {p pos : Pos} {r : List V → Hp → VK → Prop} {f : α → γ} (hc : CallR X (.builtin id) r) (o : Op1 (fun v => r [v]) P P' f) (hg : Gl X nm) (hm : X.mg nm = none) (hv : bootBuiltins nm = some (.builtin id)) (ha : TG X E Γ a P ma)
    (hpa : ∀ tt, PE X a tt → PA X [a] (tCons tt tNil)) (hcl : ∀ tt, PA X [a] tt → PE X (.Call (.Name nm p) [a] [] pos) (tCB r tt)) : TG X E Γ (.Call (.Name nm p) [a] [] pos) P' (ma >>= fun x => pure (f x)) :=
  fun bb vb σ F H B O st Q q => re_of (hcl _ (hpa _ (re_pe a))) (one o ha st q)
theorem te_call1p {nm : Str} {p pos : Pos} {r : List V → Hp → VK → Prop} {f : α → Option γ} (o : Op1p (fun v => r [v]) P P' f) (ha : TG X E Γ a P ma)
    (hpa : ∀ tt, PE X a tt → PA X [a] (tCons tt tNil)) (hcl : ∀ tt, PA X [a] tt → PE X (.Call (.Name nm p) [a] [] pos) (tCB r tt)) : TG X E Γ (.Call (.Name nm p) [a] [] pos) P' (ma >>= fun x => Mo.lift (opt (f x))) :=
  fun bb vb σ F H B O st Q q => re_of (hcl _ (hpa _ (re_pe a))) (onep o ha st q)
end
end TL
/-! TL3: the operations: ints, truths, texts, lists, tuples. -/
namespace TL
open PySem L2
section
variable {α γ δ : Type} {t : Ty α} {u : Ty γ} {w : Ty δ} {K : PySem.W.Frag}
/-! ### ints -/
theorem o_int {g : Int → Int → Int} : Op2 (rI0 fun i j => .int (g i j)) (PF tInt) (PF tInt) (PF tInt) g := fun F H B H0 v1 v2 x y c h1 h2 Q q => ⟨x, y, h1, h2, q _ F H (Grow.rf c.sub) rfl⟩
theorem o_cmp {g : Int → Int → Bool} : Op2 (rI0 fun i j => .bl (g i j)) (PF tInt) (PF tInt) (PF tBool) g := fun F H B H0 v1 v2 x y c h1 h2 Q q => ⟨x, y, h1, h2, q _ F H (Grow.rf c.sub) rfl⟩
/-- a value under a condition -/
def onlyIf {α : Type} (C : Prop) [Decidable C] (x : α) : Option α := if C then some x else none
theorem onlyIf_some {α : Type} {C : Prop} [Decidable C] {x z : α} (h : onlyIf C x = some z) : C ∧ x = z := by
  unfold onlyIf at h
  by_cases c : C
  · rw [if_pos c] at h; exact ⟨c, Option.some.inj h⟩
  · rw [if_neg c] at h; cases h
theorem o_intC {C : Int → Int → Prop} [∀ i j, Decidable (C i j)] {g : Int → Int → Int} : Op2p (rI C fun i j => .int (g i j)) (PF tInt) (PF tInt) (PF tInt) (fun x y => onlyIf (C x y) (g x y)) := fun F H B H0 v1 v2 x y z c h1 h2 e Q q => by
  obtain ⟨hc, rfl⟩ := onlyIf_some e
  exact ⟨x, y, h1, h2, hc, q _ F H (Grow.rf c.sub) rfl⟩
theorem o1_int {g : Int → Int} : Op1 (rU fun i => .int (g i)) (PF tInt) (PF tInt) g := fun F H B H0 v x c h Q q => ⟨x, h, q _ F H (Grow.rf c.sub) rfl⟩
/-- == of ints, truths, texts -/
theorem o_eqI : Op2 rEq (PF tInt) (PF tInt) (PF tBool) (fun x y => x == y) := fun F H B H0 v1 v2 x y c h1 h2 Q q => by
  rw [show v1 = .int x from h1, show v2 = .int y from h2]
  exact ⟨rfl, by rw [dec_int]; exact q _ F H (Grow.rf c.sub) rfl⟩
theorem o_neI : Op2 rNe (PF tInt) (PF tInt) (PF tBool) (fun x y => x != y) := fun F H B H0 v1 v2 x y c h1 h2 Q q => by
  rw [show v1 = .int x from h1, show v2 = .int y from h2]
  exact ⟨rfl, by rw [dec_int]; exact q _ F H (Grow.rf c.sub) rfl⟩
theorem o_eqB : Op2 rEq (PF tBool) (PF tBool) (PF tBool) (fun x y => x == y) := fun F H B H0 v1 v2 x y c h1 h2 Q q => by
  rw [show v1 = .bl x from h1, show v2 = .bl y from h2]
  exact ⟨rfl, by rw [dec_bl]; exact q _ F H (Grow.rf c.sub) rfl⟩
theorem o_neB : Op2 rNe (PF tBool) (PF tBool) (PF tBool) (fun x y => x != y) := fun F H B H0 v1 v2 x y c h1 h2 Q q => by
  rw [show v1 = .bl x from h1, show v2 = .bl y from h2]
  exact ⟨rfl, by rw [dec_bl]; exact q _ F H (Grow.rf c.sub) rfl⟩
theorem o_eqS : Op2 rEq (PF tStr) (PF tStr) (PF tBool) (fun x y => x == y) := fun F H B H0 v1 v2 x y c h1 h2 Q q => by
  rw [show v1 = .str x from h1, show v2 = .str y from h2]
  exact ⟨rfl, by rw [dec_str]; exact q _ F H (Grow.rf c.sub) rfl⟩
theorem o_neS : Op2 rNe (PF tStr) (PF tStr) (PF tBool) (fun x y => x != y) := fun F H B H0 v1 v2 x y c h1 h2 Q q => by
  rw [show v1 = .str x from h1, show v2 = .str y from h2]
  exact ⟨rfl, by rw [dec_str]; exact q _ F H (Grow.rf c.sub) rfl⟩
/-! ### is None -/
def rIsNone : R2 := fun x y H Q => y = .non ∧ Q (.bl (decide (x = .non))) H
def rNotNone : R2 := fun x y H Q => y = .non ∧ Q (.bl (!decide (x = .non))) H
theorem o_isN : Op2 rIsNone (PF (tOpt t)) (PF tNone) (PF tBool) (fun x _ => x.isNone) := fun F H B H0 v1 v2 x y c h1 h2 Q q => ⟨h2, by
  have e : decide (v1 = V.non) = x.isNone := by
    cases x with
    | none => exact decide_eq_true h1
    | some z => exact decide_eq_false h1.1
  rw [e]; exact q _ F H (Grow.rf c.sub) rfl⟩
theorem o_notN : Op2 rNotNone (PF (tOpt t)) (PF tNone) (PF tBool) (fun x _ => x.isSome) := fun F H B H0 v1 v2 x y c h1 h2 Q q => ⟨h2, by
  have e : (!decide (v1 = V.non)) = x.isSome := by
    cases x with
    | none => rw [decide_eq_true (show v1 = V.non from h1)]; rfl
    | some z => rw [decide_eq_false h1.1]; rfl
  rw [e]; exact q _ F H (Grow.rf c.sub) rfl⟩
/-! ### lists: a place, the length -/
theorem Reps.atI {F : Hp} {vs : List V} {xs : List α} {i : Int} {x : α} (r : Reps t F vs xs) (e : L2.atI xs i = some x) : ∃ v, L2.atI vs i = some v ∧ t.rep F v x := by
  unfold L2.atI at e ⊢
  rw [r.length]
  cases h : ixN xs.length i with
  | none => rw [h] at e; cases e
  | some j =>
    rw [h] at e
    exact r.get (i := j) (x := x) e
theorem o_ixL : Op2p (rIxL K) (PL t) (PF tInt) (PF t) (fun xs i => atI xs i) := fun F H B H0 v1 v2 xs i z c ⟨p, vs, e, h, nb, r, zl⟩ h2 ez Q q => by
  obtain ⟨v, ev, rv⟩ := r.atI ez
  exact ⟨p, vs, i, v, e, h2, SqL.of h, ev, q v F H (Grow.rf c.sub) rv⟩
theorem sqT_up {F H : Hp} {p : Addr} {vs : List V} (s : Sub F H) (h : SqT K F p vs) : SqT K H p vs := sqT_mono s h
theorem o_ixQ : Op2p (rIx K) (PQ K t) (PF tInt) (PF t) (fun xs i => atI xs i) := fun F H B H0 v1 v2 xs i z c ⟨p, vs, e, h, r, zl⟩ h2 ez Q q => by
  obtain ⟨v, ev, rv⟩ := r.atI ez
  rcases h with ⟨h, nb⟩ | h
  · exact .inl ⟨p, vs, i, v, e, h2, SqL.of h, ev, q v F H (Grow.rf c.sub) rv⟩
  · exact .inr (.inl ⟨p, vs, i, v, e, h2, sqT_up c.sub h, ev, q v F H (Grow.rf c.sub) rv⟩)
def rLenQ (K : PySem.W.Frag) : List V → Hp → VK → Prop := fun xs H Q => ∃ p ys, xs = [.ref p] ∧ (SqL K H p ys ∨ SqT K H p ys) ∧ Q (.int ys.length) H
theorem o1_lenQ : Op1 (fun v => rLenQ K [v]) (PQ K t) (PF tInt) (fun xs => (xs.length : Int)) := fun F H B H0 v xs c ⟨p, vs, e, h, r, zl⟩ Q q => by
  refine ⟨p, vs, by rw [e], h.imp (fun z => SqL.of z.1) (sqT_up c.sub), ?_⟩
  rw [r.length]; exact q _ F H (Grow.rf c.sub) rfl
def rLenS : List V → Hp → VK → Prop := fun xs H Q => ∃ z, xs = [.str z] ∧ z.length ≤ sizeLine ∧ Q (.int z.length) H
theorem o1_lenS : Op1p (fun v => rLenS [v]) (PF tStr) (PF tInt) (fun s => onlyIf (s.length ≤ sizeLine) (s.length : Int)) := fun F H B H0 v s z c h ez Q q => by
  obtain ⟨hz, rfl⟩ := onlyIf_some ez
  exact ⟨s, by rw [show v = .str s from h], hz, q _ F H (Grow.rf c.sub) rfl⟩
/-! ### lists: +, copies -/
theorem new_list {F H H0 : Hp} {B : AS} {vs : List V} {xs : List α} (c : Cc F H B H0) (r : Reps t F vs xs) (z : xs.length ≤ sizeLine) {Q : VK} (q : ∀ v F' H', Grow nil F H F' H' → (PN t).rep xs v F' H' B H0 → Q v H') : ∀ p, H p = none → Q (.ref p) (upd H p (.lst vs)) := fun p hp =>
  q _ F _ (Grow.newO c.sub hp) ⟨p, vs, rfl, upd_same, c.sub.none hp, c.fresh hp, c.h0 p hp, r, z⟩
theorem o_cat : Op2p L2.rCat (PL t) (PL t) (PN t) (fun xs ys => onlyIf (xs.length + ys.length ≤ sizeLine) (xs ++ ys)) := fun F H B H0 v1 v2 xs ys z c ⟨p, vs, e, h, nb, r, zl⟩ ⟨p', vs', e', h', nb', r', zl'⟩ ez Q q => by
  obtain ⟨hz, rfl⟩ := onlyIf_some ez
  exact ⟨p, p', vs, vs', e, e', h, h', by rw [r.length, r'.length]; exact hz, new_list c (r.append r') (by rw [List.length_append]; exact hz) q⟩
theorem Reps.rep {F : Hp} {vs : List V} {xs : List α} (r : Reps t F vs xs) : ∀ k : Nat, Reps t F (List.replicate k vs).flatten (List.replicate k xs).flatten
  | 0 => trivial
  | k + 1 => by rw [List.replicate_succ, List.replicate_succ, List.flatten_cons, List.flatten_cons]; exact r.append (Reps.rep r k)
theorem rep_len {α : Type} (vs : List α) : ∀ k : Nat, (List.replicate k vs).flatten.length = k * vs.length
  | 0 => by simp
  | k + 1 => by rw [List.replicate_succ, List.flatten_cons, List.length_append, rep_len vs k, Nat.succ_mul, Nat.add_comm]
theorem o_rep : Op2p L2.rRep (PL t) (PF tInt) (PN t) (fun xs k => onlyIf (-(2 ^ 63) ≤ k ∧ k < 2 ^ 63 ∧ xs.length * k.toNat ≤ sizeLine) (List.replicate k.toNat xs).flatten) := fun F H B H0 v1 v2 xs k z c ⟨p, vs, e, h, nb, r, zl⟩ h2 ez Q q => by
  obtain ⟨hz, rfl⟩ := onlyIf_some ez
  exact ⟨p, k, vs, e, h2, h, hz.1, hz.2.1, by rw [r.length]; exact hz.2.2, new_list c (r.rep k.toNat) (by rw [← (r.rep k.toNat).length, rep_len, r.length, Nat.mul_comm]; exact hz.2.2) q⟩
def rListQ (K : PySem.W.Frag) : List V → Hp → VK → Prop := fun xs H Q => ∃ p ys, xs = [.ref p] ∧ (SqL K H p ys ∨ SqT K H p ys) ∧ ∀ l, H l = none → Q (.ref l) (upd H l (.lst ys))
theorem o1_listQ : Op1 (fun v => rListQ K [v]) (PQ K t) (PN t) (fun xs => xs) := fun F H B H0 v xs c ⟨p, vs, e, h, r, zl⟩ Q q =>
  ⟨p, vs, by rw [e], h.imp (fun z => SqL.of z.1) (sqT_up c.sub), new_list c r zl q⟩
/-! ### in -/
theorem beq_sym {α : Type} [BEq α] [LawfulBEq α] (x y : α) : (x == y) = (y == x) := by
  rw [Bool.eq_iff_iff, beq_iff_eq, beq_iff_eq]; exact ⟨Eq.symm, Eq.symm⟩
theorem inV_ints {F : Hp} {i : Int} : ∀ {vs : List V} {xs : List Int}, Reps tInt F vs xs → inV (.int i) vs = xs.contains i ∧ vs.all flatV = true
  | [], [], _ => ⟨rfl, rfl⟩
  | v :: vs, x :: xs, h => by
    obtain ⟨h1, h2⟩ := inV_ints (i := i) h.2
    have e : v = .int x := h.1
    subst e
    refine ⟨?_, ?_⟩
    · show (eqV (.int x) (.int i) || vs.any fun y => eqV y (.int i)) = _
      rw [show (vs.any fun y => eqV y (.int i)) = inV (.int i) vs from rfl, h1, List.contains_cons]
      show ((x == i) || _) = ((i == x) || _)
      rw [beq_sym x i]
    · show (true && vs.all flatV) = true
      rw [h2]; rfl
  | [], _ :: _, h => h.elim
  | _ :: _, [], h => h.elim
theorem inV_strs {F : Hp} {i : Str} : ∀ {vs : List V} {xs : List Str}, Reps tStr F vs xs → inV (.str i) vs = xs.contains i ∧ vs.all flatV = true
  | [], [], _ => ⟨rfl, rfl⟩
  | v :: vs, x :: xs, h => by
    obtain ⟨h1, h2⟩ := inV_strs (i := i) h.2
    have e : v = .str x := h.1
    subst e
    refine ⟨?_, ?_⟩
    · show (eqV (.str x) (.str i) || vs.any fun y => eqV y (.str i)) = _
      rw [show (vs.any fun y => eqV y (.str i)) = inV (.str i) vs from rfl, h1, List.contains_cons]
      show ((x == i) || _) = ((i == x) || _)
      rw [beq_sym x i]
    · show (true && vs.all flatV) = true
      rw [h2]; rfl
  | [], _ :: _, h => h.elim
  | _ :: _, [], h => h.elim
theorem o_inI {neg : Bool} : Op2 (rIn K neg) (PF tInt) (PQ K tInt) (PF tBool) (fun i xs => if neg then !xs.contains i else xs.contains i) := fun F H B H0 v1 v2 i xs c h1 ⟨p, vs, e, h, r, zl⟩ Q q => by
  obtain ⟨a1, a2⟩ := inV_ints (i := i) r
  rw [show v1 = .int i from h1]
  refine ⟨p, vs, e, h.imp (fun z => SqL.of z.1) (sqT_up c.sub), rfl, a2, ?_⟩
  rw [a1]; exact q _ F H (Grow.rf c.sub) rfl
theorem o_inS {neg : Bool} : Op2 (rIn K neg) (PF tStr) (PQ K tStr) (PF tBool) (fun i xs => if neg then !xs.contains i else xs.contains i) := fun F H B H0 v1 v2 i xs c h1 ⟨p, vs, e, h, r, zl⟩ Q q => by
  obtain ⟨a1, a2⟩ := inV_strs (i := i) r
  rw [show v1 = .str i from h1]
  refine ⟨p, vs, e, h.imp (fun z => SqL.of z.1) (sqT_up c.sub), rfl, a2, ?_⟩
  rw [a1]; exact q _ F H (Grow.rf c.sub) rfl
end
end TL
/-! TL4: argument lists, displays, attributes, calls. -/
namespace TL
open PySem L2
/-! ### parameters -/
inductive Pd : Type → Type 1
  | z : Pd Unit
  /-- frozen data -/
  | fz {α ι : Type} (t : Ty α) (r : Pd ι) : Pd (α × ι)
  /-- a list that is lent -/
  | bw {α ι : Type} (t : Ty α) (r : Pd ι) : Pd (List α × ι)
  /-- an in-out argument -/
  | bx {ι : Type} (k : Nat) (r : Pd ι) : Pd ι
def Pd.rep (vb : List V) (F H : Hp) (B : AS) : {ι : Type} → Pd ι → ι → List V → Prop
  | _, .z, _, vs => vs = []
  | _, .fz t r, i, vs => ∃ v us, vs = v :: us ∧ t.rep F v i.1 ∧ r.rep vb F H B i.2 us
  | _, .bw t r, i, vs => ∃ v us, vs = v :: us ∧ (PL t).rep i.1 v F H B H ∧ r.rep vb F H B i.2 us
  | _, .bx k r, i, vs => ∃ v us, vs = v :: us ∧ vb[k]? = some v ∧ r.rep vb F H B i us
def Pd.env : {ι : Type} → Pd ι → ι → Envt
  | _, .z, _ => []
  | _, .fz t r, i => .fz t i.1 :: r.env i.2
  | _, .bw t r, i => .bw (oList t) i.1 :: r.env i.2
  | _, .bx k r, i => .bx k :: r.env i
def Pd.len : {ι : Type} → Pd ι → Nat
  | _, .z => 0
  | _, .fz _ r => r.len + 1
  | _, .bw _ r => r.len + 1
  | _, .bx _ r => r.len + 1
section
variable {vb : List V} {F H F' H' : Hp} {B B' : AS}
theorem Pd.rep_len : {ι : Type} → {d : Pd ι} → {i : ι} → {vs : List V} → d.rep vb F H B i vs → vs.length = d.len
  | _, .z, _, _, h => by rw [show _ = [] from h]; rfl
  | _, .fz t r, i, _, h => by obtain ⟨v, us, e, _, q⟩ := h; rw [e]; exact congrArg (· + 1) (Pd.rep_len q)
  | _, .bw t r, i, _, h => by obtain ⟨v, us, e, _, q⟩ := h; rw [e]; exact congrArg (· + 1) (Pd.rep_len q)
  | _, .bx k r, i, _, h => by obtain ⟨v, us, e, _, q⟩ := h; rw [e]; exact congrArg (· + 1) (Pd.rep_len q)
theorem Pd.rep_stay : {ι : Type} → {d : Pd ι} → {i : ι} → {vs : List V} → d.rep vb F H B i vs → Grow B F H F' H' → (∀ a, B' a → B a ∨ H a = none) → d.rep vb F' H' B' i vs
  | _, .z, _, _, h, _, _ => h
  | _, .fz t r, i, _, h, g, hb => by obtain ⟨v, us, e, x, q⟩ := h; exact ⟨v, us, e, t.mono g.f x, Pd.rep_stay q g hb⟩
  | _, .bw t r, i, _, h, g, hb => by obtain ⟨v, us, e, x, q⟩ := h; exact ⟨v, us, e, (PL t).stab x g hb, Pd.rep_stay q g hb⟩
  | _, .bx k r, i, _, h, g, hb => by obtain ⟨v, us, e, x, q⟩ := h; exact ⟨v, us, e, x, Pd.rep_stay q g hb⟩
theorem Pd.rep_less : {ι : Type} → {d : Pd ι} → {i : ι} → {vs : List V} → d.rep vb F H B i vs → (∀ a, B' a → B a) → d.rep vb F H B' i vs
  | _, .z, _, _, h, _ => h
  | _, .fz t r, i, _, h, s => by obtain ⟨v, us, e, x, q⟩ := h; exact ⟨v, us, e, x, Pd.rep_less q s⟩
  | _, .bw t r, i, _, h, s => by obtain ⟨v, us, e, ⟨p, ws, e1, e2, nb, rr⟩, q⟩ := h; exact ⟨v, us, e, ⟨p, ws, e1, e2, fun z => nb (s p z), rr⟩, Pd.rep_less q s⟩
  | _, .bx k r, i, _, h, s => by obtain ⟨v, us, e, x, q⟩ := h; exact ⟨v, us, e, x, Pd.rep_less q s⟩
theorem Pd.env_len : {ι : Type} → (d : Pd ι) → (i : ι) → (d.env i).length = d.len
  | _, .z, _ => rfl
  | _, .fz _ r, i => congrArg (· + 1) (Pd.env_len r i.2)
  | _, .bw _ r, i => congrArg (· + 1) (Pd.env_len r i.2)
  | _, .bx _ r, i => congrArg (· + 1) (Pd.env_len r i)
/-- the names' values at the entry, one by one -/
theorem Pd.slots : {ι : Type} → {d : Pd ι} → {i : ι} → {vs : List V} → d.rep vb F H B i vs → ∀ (n j : Nat), SlOk vb F H (fun a => B a ∨ False) ((d.env i ++ List.replicate n Sl.no).getD j Sl.no) (slot (vs.map some ++ List.replicate n none) j) TL.nil
  | _, .z, _, _, h, n, j => by
    rw [show _ = [] from h]
    have e1 : ((List.map some ([] : List V)) ++ List.replicate n none) = List.replicate n none := rfl
    have e2 : (Pd.z.env () ++ List.replicate n Sl.no) = List.replicate n .no := rfl
    show SlOk vb F H _ ((List.replicate n Sl.no).getD j .no) _ _
    have e3 : (List.replicate n Sl.no).getD j .no = .no := by
      rw [List.getD_eq_getElem?_getD]
      by_cases hj : j < n
      · rw [List.getElem?_replicate, if_pos hj]; rfl
      · rw [List.getElem?_replicate, if_neg hj]; rfl
    rw [e3]
    exact fun _ z => z
  | _, .fz t r, i, _, h, n, 0 => by obtain ⟨v, us, e, x, q⟩ := h; rw [e]; exact ⟨⟨v, rfl, x⟩, fun _ z => z⟩
  | _, .bw t r, i, _, h, n, 0 => by
    obtain ⟨v, us, e, ⟨p, ws, e1, e2, nb, rr, zl⟩, q⟩ := h; rw [e]
    exact ⟨⟨v, fun b => b = p, rfl, ⟨p, ws, e1, e2, rr, zl, rfl⟩, fun a ha z => by rw [show a = p from ha] at z; exact z.elim nb id⟩, fun _ z => z⟩
  | _, .bx k r, i, _, h, n, 0 => by obtain ⟨v, us, e, x, q⟩ := h; rw [e]; exact ⟨⟨(by intro z; cases z), x.symm⟩, fun _ z => z⟩
  | _, .fz t r, i, _, h, n, j + 1 => by obtain ⟨v, us, e, x, q⟩ := h; rw [e]; exact Pd.slots q n j
  | _, .bw t r, i, _, h, n, j + 1 => by obtain ⟨v, us, e, x, q⟩ := h; rw [e]; exact Pd.slots q n j
  | _, .bx k r, i, _, h, n, j + 1 => by obtain ⟨v, us, e, x, q⟩ := h; rw [e]; exact Pd.slots q n j
theorem Pd.start {β : Type} {T : OTs β} {b : β} {ι : Type} {d : Pd ι} {i : ι} {vs : List V} {N : List Str} (h : d.rep vb F H B i vs) (s : Sub F H) (rb : T.rep F H vb b B) (bf : ∀ a, B a → F a = none) (hN : d.len ≤ N.length) :
    Stt T b vb (d.env i ++ List.replicate (N.length - d.len) Sl.no) (L2.start N vs) F H B TL.nil := by
  have hl := Pd.rep_len h
  refine ⟨?_, s, rb, bf, fun _ _ z => z, fun _ => TL.nil, fun j => ?_, fun a => ⟨fun w => w.elim, fun ⟨_, w⟩ => w⟩, fun _ _ _ _ w => w.elim⟩
  · unfold L2.start
    rw [List.length_append, List.length_append, List.length_map, List.length_replicate, List.length_replicate, Pd.env_len, hl]
  · unfold L2.start
    rw [hl]
    exact Pd.slots h (N.length - d.len) j
end
/-! ### what a def promises -/
/-- it computes f of its arguments -/
def SpM (K : PySem.W.Frag) {β : Type} {m : Type → Type} [Mo β m] {ι γ : Type} (d : Pd ι) (f : ι → m γ) (P : PR γ) : Sp := fun vs H Q E => ∃ (i : ι) (F : Hp) (B : AS) (b : β) (vb : List V), Sub F H ∧ (∀ a, B a → F a = none) ∧ (Mo.T m).rep F H vb b B ∧ d.rep vb F H B i vs ∧
  PostR (Mo.run (f i) b) (fun p => ∀ v F' H' B', Grow B F H F' H' → (∀ a, B' a → B a ∨ H a = none) → (∀ a, B' a → F' a = none) → (Mo.T m).rep F' H' vb p.2 B' → P.rep p.1 v F' H' B' H → Q v H')
    (fun e => ∀ C dx F' H', Grow B F H F' H' → ErrRep K F' C dx e → E C dx H')
theorem SpM.len {K : PySem.W.Frag} {β : Type} {m : Type → Type} [Mo β m] {ι γ : Type} {d : Pd ι} {f : ι → m γ} {P : PR γ} {vs : List V} {H : Hp} {Q : VK} {E : XK} (h : SpM K d f P vs H Q E) : vs.length = d.len := by
  obtain ⟨i, F, B, b, vb, c, bf, r, h, _⟩ := h
  exact Pd.rep_len h
section
variable {X : Cx} {E : XK} {Γ : Envt} {β : Type} {m : Type → Type} [Mo β m] {α γ δ ε ι : Type} {t : Ty α} {u : Ty γ} {w : Ty δ} {z : Ty ε} {a b c e : Expr} {es : List Expr} {x : α} {y : γ} {pos : Pos} {P : PR α} {P' : PR γ} {P'' : PR δ} {P3 : PR ε} {ma : m α} {mb : m γ} {mc : m δ} {md : m ε} {mm : m ι}
/-! ### argument lists -/
def KA (m : Type → Type) [Mo β m] (vb : List V) (Γ : Envt) (σ : L2.St) (F H : Hp) (B O : AS) (A : ι → List V → Hp → Hp → AS → Prop) (Q : List V → Hp → Prop) : ι × β → Prop := fun p =>
  ∀ vs F' H' B', Grow B F H F' H' → (∀ a, B' a → B a ∨ H a = none) → Stt (Mo.T m) p.2 vb Γ σ F' H' B' O → A p.1 vs F' H' B' → Q vs H'
def TAg (X : Cx) (E : XK) (Γ : Envt) (es : List Expr) (A : List V → ι → List V → Hp → Hp → AS → Prop) (mm : m ι) : Prop :=
  ∀ (b : β) (vb : List V) (σ : L2.St) (F H : Hp) (B O : AS), Stt (Mo.T m) b vb Γ σ F H B O → ∀ Q : List V → Hp → Prop, PostR (Mo.run mm b) (KA m vb Γ σ F H B O (A vb) Q) (KX X.K F H B E) → RA X es σ H Q
abbrev TA (X : Cx) (E : XK) (Γ : Envt) (es : List Expr) (d : Pd ι) (mm : m ι) : Prop := TAg X E Γ es (fun vb i vs F H B => d.rep vb F H B i vs) mm
theorem KA.tr {A : ι → List V → Hp → Hp → AS → Prop} {vb : List V} {σ : L2.St} {F H F1 H1 : Hp} {B B1 O : AS} {Q : List V → Hp → Prop} {p : ι × β} (k : KA m vb Γ σ F H B O A Q p) (g : Grow B F H F1 H1) (hb : ∀ a, B1 a → B a ∨ H a = none) : KA m vb Γ σ F1 H1 B1 O A Q p :=
  fun v F' H' B' g' hb' st r => k v F' H' B' (g.tr g' hb) (back g hb hb') st r
theorem ta_nil : TA (m := m) X E Γ [] Pd.z (pure ()) := fun bb vb σ F H B O st Q q => ra_of pa_nil (q.run_pure [] F H B (Grow.rf st.sub) (fun _ z => .inl z) st rfl)
theorem ta_fz {d : Pd ι} (ha : TE X E Γ a t ma) (hr : TA X E Γ es d mm) (hs : starEach (a :: es) X.env = (false, eval a X.env) :: starEach es X.env := by rfl) : TA X E Γ (a :: es) (.fz t d) (ma >>= fun x => mm >>= fun i => pure (x, i)) :=
  fun bb vb σ F H B O st Q q => by
    refine ra_of (pa_cons (re_pe a) (ra_pa es) hs) ?_
    refine ha bb vb σ F H B O st _ (q.run_bind.mono (fun p1 q1 v1 F1 H1 B1 g1 b1 st1 r1 => ?_) fun _ z => z)
    refine hr p1.2 vb σ F1 H1 B1 O st1 _ (q1.run_bind.mono (fun p2 q2 vs F2 H2 B2 g2 b2 st2 r2 => ?_) fun er z => z.tr g1 b1)
    exact ((q2.run_pure.tr g1 b1).tr g2 b2) (v1 :: vs) F2 H2 B2 (Grow.rf st2.sub) (fun _ z => .inl z) st2 ⟨v1, vs, rfl, t.mono g2.f r1, r2⟩
theorem ta_bw {d : Pd ι} {ml : m (List α)} (ha : TG X E Γ a (PL t) ml) (hr : TA X E Γ es d mm) (hs : starEach (a :: es) X.env = (false, eval a X.env) :: starEach es X.env := by rfl) : TA X E Γ (a :: es) (.bw t d) (ml >>= fun x => mm >>= fun i => pure (x, i)) :=
  fun bb vb σ F H B O st Q q => by
    refine ra_of (pa_cons (re_pe a) (ra_pa es) hs) ?_
    refine ha bb vb σ F H B O st _ (q.run_bind.mono (fun p1 q1 v1 F1 H1 B1 g1 b1 st1 r1 => ?_) fun _ z => z)
    refine hr p1.2 vb σ F1 H1 B1 O st1 _ (q1.run_bind.mono (fun p2 q2 vs F2 H2 B2 g2 b2 st2 r2 => ?_) fun er z => z.tr g1 b1)
    exact ((q2.run_pure.tr g1 b1).tr g2 b2) (v1 :: vs) F2 H2 B2 (Grow.rf st2.sub) (fun _ z => .inl z) st2 ⟨v1, vs, rfl, (PL t).stab r1 g2 b2, r2⟩
/-- an in-out argument handed on -/
theorem ta_bx {d : Pd ι} (i k : Nat) {nm : Str} {p : Pos} (hv : Vis X.env.scope nm) (hΓ : Γ[i]? = some (.bx k)) (hN : X.N[i]? = some nm) (hr : TA X E Γ es d mm) (hs : starEach (.Name nm p :: es) X.env = (false, eval (.Name nm p) X.env) :: starEach es X.env := by rfl) (hd : (nm == ("__debug__" : Str)) = false := by decide) (hcd : (nm == ("__classdict__" : Str)) = false := by decide) :
    TA X E Γ (.Name nm p :: es) (.bx k d) mm :=
  fun bb vb σ F H B O st Q q => by
    refine ra_of (pa_cons (pe_var hN hv hd hcd) (ra_pa es) hs) ?_
    obtain ⟨pp, ⟨⟨h1, h2⟩, _⟩, _⟩ := st.at_ hΓ
    cases hv2 : vb[k]? with
    | none => rw [hv2] at h2; exact (h1 h2).elim
    | some v =>
      rw [hv2] at h2
      refine ⟨v, slot_get h2, ?_⟩
      exact hr bb vb σ F H B O st _ (q.mono (fun p2 q2 vs F2 H2 B2 g2 b2 st2 r2 => q2 (v :: vs) F2 H2 B2 g2 b2 st2 ⟨v, vs, rfl, hv2, r2⟩) fun _ z => z)
/-- items of one kind -/
def TAl (X : Cx) (E : XK) (Γ : Envt) (es : List Expr) (t : Ty α) (mm : m (List α)) : Prop := TAg X E Γ es (fun _ xs vs F _ _ => Reps t F vs xs ∧ xs.length = es.length) mm
theorem tal_nil : TAl (m := m) X E Γ [] t (pure []) := fun bb vb σ F H B O st Q q => ra_of pa_nil (q.run_pure [] F H B (Grow.rf st.sub) (fun _ z => .inl z) st ⟨trivial, rfl⟩)
theorem tal_cons {ml : m (List α)} (ha : TE X E Γ a t ma) (hr : TAl X E Γ es t ml) (hs : starEach (a :: es) X.env = (false, eval a X.env) :: starEach es X.env := by rfl) : TAl X E Γ (a :: es) t (ma >>= fun x => ml >>= fun xs => pure (x :: xs)) :=
  fun bb vb σ F H B O st Q q => by
    refine ra_of (pa_cons (re_pe a) (ra_pa es) hs) ?_
    refine ha bb vb σ F H B O st _ (q.run_bind.mono (fun p1 q1 v1 F1 H1 B1 g1 b1 st1 r1 => ?_) fun _ z => z)
    refine hr p1.2 vb σ F1 H1 B1 O st1 _ (q1.run_bind.mono (fun p2 q2 vs F2 H2 B2 g2 b2 st2 r2 => ?_) fun er z => z.tr g1 b1)
    exact ((q2.run_pure.tr g1 b1).tr g2 b2) (v1 :: vs) F2 H2 B2 (Grow.rf st2.sub) (fun _ z => .inl z) st2 ⟨⟨t.mono g2.f r1, r2.1⟩, congrArg (· + 1) r2.2⟩
/-! ### displays -/
theorem te_list {ml : m (List α)} (h : TAl X E Γ es t ml) (hl : es.length ≤ sizeLine) : TG X E Γ (.List es pos) (PN t) ml := fun bb vb σ F H B O st Q q => by
  refine re_of (pe_lst (ra_pa es)) ?_
  refine h bb vb σ F H B O st _ (q.mono (fun p1 q vs F1 H1 B1 g1 b1 st1 r1 => ?_) fun _ z => z)
  exact ⟨by rw [r1.1.length, r1.2]; exact hl, fun p hp => (KE.tr (m := m) q g1 b1).end0 st1 (Grow.newO st1.sub hp) ⟨p, vs, rfl, upd_same, st1.sub.none hp, (st1.cc (H0 := H1) fun _ z => z).fresh hp, hp, r1.1, by rw [r1.2]; exact hl⟩⟩
/-- a tuple of items of one kind -/
theorem te_tupL {ml : m (List α)} {n : Nat} {K : PySem.W.Frag} (h : TAl X E Γ es t ml) (hl : es.length ≤ sizeLine) (hK : X.K = K := by rfl) : TE X E Γ (.Tuple es n pos) (tTupL K t) ml := fun bb vb σ F H B O st Q q => by
  subst hK
  refine re_of (pe_tup (ra_pa es)) ?_
  refine h bb vb σ F H B O st _ (q.mono (fun p1 q vs F1 H1 B1 g1 b1 st1 r1 => ?_) fun _ z => z)
  refine ⟨by rw [r1.1.length, r1.2]; exact hl, fun p hp => ?_⟩
  have g := Grow.newF (o := .tup vs) st1.sub hp
  exact (KE.tr (m := m) q g1 b1).end0 st1 g ⟨p, vs, rfl, SqT.of upd_same, r1.1.mono g.f, by rw [r1.2]; exact hl⟩
/-- the display of frozen data: what A says of the items is what P says of the new tuple -/
theorem te_tup {d : Pd ι} (h : TA X E Γ es d mm) (hl : d.len ≤ sizeLine) (f : ι → α) (hp : ∀ vb i vs F H B p, d.rep vb F H B i vs → F p = some (.tup vs) → t.rep F (.ref p) (f i)) (hd : ∀ vb i vs F H B F' H' B', d.rep vb F H B i vs → Sub F F' → d.rep vb F' H' B' i vs) : TE X E Γ (.Tuple es n pos) t (mm >>= fun i => pure (f i)) := fun bb vb σ F H B O st Q q => by
  refine re_of (pe_tup (ra_pa es)) ?_
  refine h bb vb σ F H B O st _ (q.run_bind.mono (fun p1 q1 vs F1 H1 B1 g1 b1 st1 r1 => ?_) fun _ z => z)
  refine ⟨by rw [Pd.rep_len r1]; exact hl, fun p hp' => ?_⟩
  have g := Grow.newF (o := .tup vs) st1.sub hp'
  exact (q1.run_pure.tr g1 b1).end0 st1 g (hp vb p1.1 vs _ (upd H1 p (.tup vs)) B1 p (hd _ _ _ _ _ _ _ _ _ r1 g.f) upd_same)
theorem te_tup1 (ha : TE X E Γ a t ma) (hs : starEach [a] X.env = (false, eval a X.env) :: starEach [] X.env := by rfl) : TE X E Γ (.Tuple [a] n pos) (tTup1 X.K t) ((ma >>= fun x => pure () >>= fun i => pure (x, i)) >>= fun i => pure i.1) :=
  te_tup (d := .fz t .z) (ta_fz ha ta_nil hs) (by show 1 ≤ sizeLine; decide) (fun i => i.1) (fun vb i vs F H B p ⟨v1, us, e, r1, e2⟩ hp => ⟨p, v1, rfl, SqT.of (by rw [hp, e, show us = [] from e2]), r1⟩) fun vb i vs F H B F' H' B' ⟨v1, us, e, r1, e2⟩ s => ⟨v1, us, e, t.mono s r1, e2⟩
theorem te_tup2 (ha : TE X E Γ a t ma) (hb : TE X E Γ b u mb) (hs : starEach [a, b] X.env = (false, eval a X.env) :: starEach [b] X.env := by rfl) (hs2 : starEach [b] X.env = (false, eval b X.env) :: starEach [] X.env := by rfl) :
    TE X E Γ (.Tuple [a, b] n pos) (tTup2 X.K t u) ((ma >>= fun x => (mb >>= fun y => pure () >>= fun i => pure (y, i)) >>= fun i => pure (x, i)) >>= fun i => pure (i.1, i.2.1)) :=
  te_tup (d := .fz t (.fz u .z)) (ta_fz ha (ta_fz hb ta_nil hs2) hs) (by show 2 ≤ sizeLine; decide) (fun i => (i.1, i.2.1))
    (fun vb i vs F H B p ⟨v1, us, e, r1, v2, us2, e2, r2, e3⟩ hp => ⟨p, v1, v2, rfl, SqT.of (by rw [hp, e, e2, show us2 = [] from e3]), r1, r2⟩) fun vb i vs F H B F' H' B' ⟨v1, us, e, r1, v2, us2, e2, r2, e3⟩ s => ⟨v1, us, e, t.mono s r1, v2, us2, e2, u.mono s r2, e3⟩
theorem te_tup3 (ha : TE X E Γ a t ma) (hb : TE X E Γ b u mb) (hc : TE X E Γ c w mc) (hs : starEach [a, b, c] X.env = (false, eval a X.env) :: starEach [b, c] X.env := by rfl) (hs2 : starEach [b, c] X.env = (false, eval b X.env) :: starEach [c] X.env := by rfl) (hs3 : starEach [c] X.env = (false, eval c X.env) :: starEach [] X.env := by rfl) :
    TE X E Γ (.Tuple [a, b, c] n pos) (tTup3 X.K t u w) ((ma >>= fun x => (mb >>= fun y => (mc >>= fun z => pure () >>= fun i => pure (z, i)) >>= fun i => pure (y, i)) >>= fun i => pure (x, i)) >>= fun i => pure (i.1, i.2.1, i.2.2.1)) :=
  te_tup (d := .fz t (.fz u (.fz w .z))) (ta_fz ha (ta_fz hb (ta_fz hc ta_nil hs3) hs2) hs) (by show 3 ≤ sizeLine; decide) (fun i => (i.1, i.2.1, i.2.2.1))
    (fun vb i vs F H B p ⟨v1, us, e, r1, v2, us2, e2, r2, v3, us3, e3, r3, e4⟩ hp => ⟨p, v1, v2, v3, rfl, SqT.of (by rw [hp, e, e2, e3, show us3 = [] from e4]), r1, r2, r3⟩)
    fun vb i vs F H B F' H' B' ⟨v1, us, e, r1, v2, us2, e2, r2, v3, us3, e3, r3, e4⟩ s => ⟨v1, us, e, t.mono s r1, v2, us2, e2, u.mono s r2, v3, us3, e3, w.mono s r3, e4⟩
theorem te_tup4 {d' : Expr} (ha : TE X E Γ a t ma) (hb : TE X E Γ b u mb) (hc : TE X E Γ c w mc) (hd : TE X E Γ d' z md) (hs : starEach [a, b, c, d'] X.env = (false, eval a X.env) :: starEach [b, c, d'] X.env := by rfl) (hs2 : starEach [b, c, d'] X.env = (false, eval b X.env) :: starEach [c, d'] X.env := by rfl) (hs3 : starEach [c, d'] X.env = (false, eval c X.env) :: starEach [d'] X.env := by rfl) (hs4 : starEach [d'] X.env = (false, eval d' X.env) :: starEach [] X.env := by rfl) :
    TE X E Γ (.Tuple [a, b, c, d'] n pos) (tTup4 X.K t u w z) ((ma >>= fun x => (mb >>= fun y => (mc >>= fun z => (md >>= fun q => pure () >>= fun i => pure (q, i)) >>= fun i => pure (z, i)) >>= fun i => pure (y, i)) >>= fun i => pure (x, i)) >>= fun i => pure (i.1, i.2.1, i.2.2.1, i.2.2.2.1)) :=
  te_tup (d := .fz t (.fz u (.fz w (.fz z .z)))) (ta_fz ha (ta_fz hb (ta_fz hc (ta_fz hd ta_nil hs4) hs3) hs2) hs) (by show 4 ≤ sizeLine; decide) (fun i => (i.1, i.2.1, i.2.2.1, i.2.2.2.1))
    (fun vb i vs F H B p ⟨v1, us, e, r1, v2, us2, e2, r2, v3, us3, e3, r3, v4, us4, e4, r4, e5⟩ hp => ⟨p, v1, v2, v3, v4, rfl, SqT.of (by rw [hp, e, e2, e3, e4, show us4 = [] from e5]), r1, r2, r3, r4⟩)
    fun vb i vs F H B F' H' B' ⟨v1, us, e, r1, v2, us2, e2, r2, v3, us3, e3, r3, v4, us4, e4, r4, e5⟩ s => ⟨v1, us, e, t.mono s r1, v2, us2, e2, u.mono s r2, v3, us3, e3, w.mono s r3, v4, us4, e4, z.mono s r4, e5⟩
/-! ### a new list is frozen -/
theorem Grow.frz {B : AS} {F H F1 H1 : Hp} {p : Addr} {o : HO} (g : Grow B F H F1 H1) (h1 : H1 p = some o) (f1 : F1 p = none) (n0 : H p = none) : Grow B F H (upd F1 p o) H1 where
  f := fun a u e => by rw [upd_ne (ne_of_none (g.f a u e) f1)]; exact g.f a u e
  h := g.h
  s := fun a u e => by
    by_cases ha : a = p
    · subst ha; rw [upd_same] at e; cases e; exact h1
    · rw [upd_ne ha] at e; exact g.s a u e
  n := fun a u e q => by rw [upd_ne (ne_of_none q n0)]; exact g.n a u e q
  l := g.l
theorem Sub.updF {F : Hp} {p : Addr} {o : HO} (h : F p = Option.none) : TL.Sub F (L2.upd F p o) := fun a u e => by rw [upd_ne (ne_of_none e h)]; exact e
theorem te_frz {ml : m (List α)} (h : TG X E Γ e (PN t) ml) : TE X E Γ e (tList t) ml := fun bb vb σ F H B O st Q q => h bb vb σ F H B O st Q (q.mono (fun p k v F1 H1 B1 g b1 st1 ⟨p1, vs, ev, hp, fp, nb, n0, r, zl⟩ => by
    have g2 := g.frz hp fp n0
    have s2 : Sub F1 (upd F1 p1 (.lst vs)) := Sub.updF fp
    refine k v _ H1 B1 g2 b1 (st.growB g2 b1 ((Mo.T m).mono s2 (fun _ _ => rfl) st1.bx) fun a ha => ?_) ⟨p1, vs, ev, upd_same, r.mono s2, zl⟩
    have ne : a ≠ p1 := fun z => nb (z ▸ ha)
    rw [upd_ne ne]; exact st1.bf a ha) fun _ z => z)
theorem tg_newL {ml : m (List α)} (h : TG X E Γ e (PN t) ml) : TG X E Γ e (PL t) ml := tg_imp h fun x v F H B H0 _ ⟨p, vs, e, hp, fp, nb, n0, r⟩ => ⟨p, vs, e, hp, nb, r⟩
theorem tg_newQ {ml : m (List α)} (h : TG X E Γ e (PN t) ml) : TG X E Γ e (PQ X.K t) ml := tg_imp h fun x v F H B H0 _ ⟨p, vs, e, hp, fp, nb, n0, r⟩ => ⟨p, vs, e, .inl ⟨hp, nb⟩, r⟩
theorem tg_LQ {ml : m (List α)} (h : TG X E Γ e (PL t) ml) : TG X E Γ e (PQ X.K t) ml := tg_imp h fun x v F H B H0 _ ⟨p, vs, e, hp, nb, r⟩ => ⟨p, vs, e, .inl ⟨hp, nb⟩, r⟩
/-- frozen lists are read: what is frozen is not in the in-out arguments -/
theorem tg_frzL {ml : m (List α)} (h : TE X E Γ e (tList t) ml) : TG X E Γ e (PL t) ml := fun bb vb σ F H B O st Q q => h bb vb σ F H B O st Q (q.mono (fun p k v F1 H1 B1 g b1 st1 ⟨p1, vs, ev, fp, r⟩ =>
    k v F1 H1 B1 g b1 st1 ⟨p1, vs, ev, st1.sub _ _ fp, (fun z => by rw [st1.bf p1 z] at fp; cases fp), r⟩) fun _ z => z)
theorem tg_seqQ {ml : m (List α)} (h : TE X E Γ e (tSeq X.K t) ml) : TG X E Γ e (PQ X.K t) ml := fun bb vb σ F H B O st Q q => h bb vb σ F H B O st Q (q.mono (fun p k v F1 H1 B1 g b1 st1 ⟨p1, vs, ev, fp, r⟩ =>
    k v F1 H1 B1 g b1 st1 ⟨p1, vs, ev, fp.imp (fun fp => ⟨st1.sub _ _ fp, (fun z => by rw [st1.bf p1 z] at fp; cases fp)⟩) id, r⟩) fun _ z => z)
theorem tg_tupQ {ml : m (List α)} (h : TE X E Γ e (tTupL X.K t) ml) : TG X E Γ e (PQ X.K t) ml := tg_imp h fun x v F H B H0 _ ⟨p, vs, e, hp, r⟩ => ⟨p, vs, e, .inr hp, r⟩
/-- a list of one's own, a lent one, at a name -/
theorem tg_own (i : Nat) {nm : Str} {xs : List α} (hv : Vis X.env.scope nm) (hΓ : Γ[i]? = some (.ow (oList t) xs)) (hN : X.N[i]? = some nm) (hd : (nm == ("__debug__" : Str)) = false := by decide) (hcd : (nm == ("__classdict__" : Str)) = false := by decide) : TG (m := m) X E Γ (.Name nm pos) (PL t) (pure xs) :=
  fun bb vb σ F H B O st Q q => by
    obtain ⟨pp, ⟨⟨v, e1, a, vs, e2, h2, r, zl, w⟩, _⟩, ho⟩ := st.at_ hΓ
    exact re_of (pe_var hN hv hd hcd) ⟨v, slot_get e1, q.run_pure.here st ⟨a, vs, e2, h2, (fun z => st.bo a z (ho a (by rw [w]))), r, zl⟩⟩
theorem tg_lent (i : Nat) {nm : Str} {xs : List α} (hv : Vis X.env.scope nm) (hΓ : Γ[i]? = some (.bw (oList t) xs)) (hN : X.N[i]? = some nm) (hd : (nm == ("__debug__" : Str)) = false := by decide) (hcd : (nm == ("__classdict__" : Str)) = false := by decide) : TG (m := m) X E Γ (.Name nm pos) (PL t) (pure xs) :=
  fun bb vb σ F H B O st Q q => by
    obtain ⟨pp, ⟨⟨v, qs, e1, ⟨a, vs, e2, h2, r, zl, w⟩, dj⟩, _⟩, _⟩ := st.at_ hΓ
    exact re_of (pe_var hN hv hd hcd) ⟨v, slot_get e1, q.run_pure.here st ⟨a, vs, e2, h2, (fun z => dj a (by rw [w]) (.inl z)), r, zl⟩⟩
/-! ### attributes -/
/-- the field f of a frozen object -/
theorem te_fld {f : Str} {g : α → γ} (hr : ∀ F v x, t.rep F v x → ∃ a C dx fs y, v = .ref a ∧ F a = some (.ins C dx fs) ∧ Cls X.K C ∧ NoAttr X.K C f ∧ fs.lookup f = some y ∧ u.rep F y (g x)) (ha : TE X E Γ a t ma) (hb : attributeBase a f X.env (eval a X.env) = eval a X.env := by rfl) :
    TE X E Γ (.Attribute a f pos) u (ma >>= fun x => pure (g x)) := fun bb vb σ F H B O st Q q =>
  re_of (pe_fld (re_pe a) hb) (ha bb vb σ F H B O st _ (q.run_bind.mono (fun p1 q1 v1 F1 H1 B1 g1 b1 st1 r1 => by
    obtain ⟨a, C, dx, fs, y, e1, e2, c1, c2, e3, ry⟩ := hr F1 v1 p1.1 r1
    exact ⟨a, C, dx, fs, y, e1, st1.sub _ _ e2, c1, c2, e3, q1.run_pure y F1 H1 B1 g1 b1 st1 ry⟩) fun _ z => z))
/-! ### calls of defs -/
/-- what a def may hand back -/
def Ret {α : Type} (P : PR α) : Prop := ∀ {x v F H B B1 H0}, P.rep x v F H B H0 → (∀ a, B1 a → ∃ o, H0 a = some o) → P.rep x v F H B1 H0
theorem ret_F {α : Type} {t : Ty α} : Ret (PF t) := fun h _ => h
theorem ret_N {α : Type} {t : Ty α} : Ret (PN t) := fun ⟨p, vs, e, hp, fp, nb, n0, r⟩ s => ⟨p, vs, e, hp, fp, (fun z => by obtain ⟨o, q⟩ := s p z; rw [n0] at q; cases q), n0, r⟩
/-- the call of a def that computes f (whatever carries the caller's in-out arguments) -/
theorem te_call {ι γ : Type} {d : Pd ι} {f : ι → Res γ} {P : PR γ} {mm : m ι} {es : List Expr} {call : Expr} (hP : Ret P) (hcl : ∀ tt, PA X es tt → PE X call (tCall (SpM X.K d f P) [] E tt)) (h : TA X E Γ es d mm) : TG X E Γ call P (mm >>= fun i => Mo.lift (f i)) := fun bb vb σ F H B O st Q q =>
  re_of (hcl _ (ra_pa es)) (h bb vb σ F H B O st _ (q.run_bind.mono (fun p1 q1 vs F1 H1 B1 g1 b1 st1 r1 => by
    show SpM X.K d f P (vs ++ []) H1 Q E
    rw [List.append_nil]
    rw [Mo.run_lift] at q1
    have r2 : d.rep vb F1 H1 nil p1.1 vs := Pd.rep_less r1 fun _ z => z.elim
    refine ⟨p1.1, F1, nil, (), vb, st1.sub, fun _ z => z.elim, fun _ z => z, r2, ?_⟩
    show PostR ((f p1.1).bind fun x => .ok (x, ())) _ _
    cases hf : f p1.1 with
    | bad => rw [hf] at q1; exact q1
    | ok z =>
      rw [hf] at q1
      intro v F' H' B' g' b' _ rb rz
      have e : ∀ a, ¬ B' a := rb
      have g0 : Grow nil F1 H1 F' H' := g'
      have g1' : Grow B1 F1 H1 F' H' := g0.wk fun _ z => z.elim
      exact q1 v F' H' B1 (g1.tr0 g0) b1 (st1.grow0 g0) (P.anti (hP rz fun a z => (st1.cc (H0 := H1) fun _ z => z).bl a z) fun a z => g1.non z)
    | err er =>
      rw [hf] at q1
      exact fun C dx F' H' g' r => q1 C dx F' H' (g1.tr0 g') r) fun _ z => z))
end
end TL
/-! TL5: tests, targets, what is walked, list comprehensions. -/
namespace TL
open PySem L2
/-! ### tests -/
section
variable {X : Cx} {E : XK} {Γ : Envt} {β : Type} {m : Type → Type} [Mo β m] {α γ δ ι : Type} {t : Ty α} {u : Ty γ} {a b c e : Expr} {es : List Expr} {pos : Pos} {P : PR α} {P' : PR γ} {ma : m α} {mb : m γ} {mt mu : m Bool}
def KT (m : Type → Type) [Mo β m] (vb : List V) (Γ : Envt) (σ : L2.St) (F H : Hp) (B O : AS) (Q : Bool → Hp → Prop) : Bool × β → Prop := fun p =>
  ∀ F' H' B', Grow B F H F' H' → (∀ a, B' a → B a ∨ H a = none) → Stt (Mo.T m) p.2 vb Γ σ F' H' B' O → Q p.1 H'
theorem KT.tr {vb : List V} {σ : L2.St} {F H F1 H1 : Hp} {B B1 O : AS} {Q : Bool → Hp → Prop} {p : Bool × β} (k : KT m vb Γ σ F H B O Q p) (g : Grow B F H F1 H1) (hb : ∀ a, B1 a → B a ∨ H a = none) : KT m vb Γ σ F1 H1 B1 O Q p :=
  fun F' H' B' g' hb' st => k F' H' B' (g.tr g' hb) (back g hb hb') st
/-- a test -/
def TTt (X : Cx) (E : XK) (Γ : Envt) (e : Expr) (mm : m Bool) : Prop :=
  ∀ (b : β) (vb : List V) (σ : L2.St) (F H : Hp) (B O : AS), Stt (Mo.T m) b vb Γ σ F H B O → ∀ Q : Bool → Hp → Prop, PostR (Mo.run mm b) (KT m vb Γ σ F H B O Q) (KX X.K F H B E) → RT X e σ H Q
def RW (X : Cx) (e : Expr) : TT := fun σ H Q => ∀ (whole : Sem Value) (pins : List (Addr × Obj)) (s : Shared), Inv X pins σ H s → wpAny (model X.prog X.w) X.A (isTrue e X.env whole) (TP X pins σ Q) X.xe s
theorem rw_pw (e : Expr) : PW X e (RW X e) := ⟨fun whole pins s σ H Q I h => h whole pins s I⟩
theorem rw_of {e : Expr} {t : TT} (h : PW X e t) {σ : L2.St} {H : Hp} {Q : Bool → Hp → Prop} (q : t σ H Q) : RW X e σ H Q := fun whole pins s I => h.run whole pins s σ H Q I q
def TWt (X : Cx) (E : XK) (Γ : Envt) (e : Expr) (mm : m Bool) : Prop :=
  ∀ (b : β) (vb : List V) (σ : L2.St) (F H : Hp) (B O : AS), Stt (Mo.T m) b vb Γ σ F H B O → ∀ Q : Bool → Hp → Prop, PostR (Mo.run mm b) (KT m vb Γ σ F H B O Q) (KX X.K F H B E) → RW X e σ H Q
theorem tt_w (h : TWt X E Γ e mt) : TTt X E Γ e mt := fun bb vb σ F H B O st Q q pins s I => h bb vb σ F H B O st Q q _ pins s I
/-- a truth's expression as a test -/
theorem tt_val (h : TE X E Γ e tBool mt) (he : ∀ whole, isTrue e X.env whole = (do let v ← whole; standAt e.pos; holding [v] (truthy v)) := by intro _; rfl) : TTt X E Γ e mt := fun bb vb σ F H B O st Q q =>
  rt_of (pt_val (re_pe e) he) (h bb vb σ F H B O st _ (q.mono (fun p k v F1 H1 B1 g b1 st1 r => ⟨p.1, r, k F1 H1 B1 g b1 st1⟩) fun _ z => z))
theorem tt_cmp {op : CmpOp} {r : R2} {f : α → γ → Bool} (ho : OpR X (compareOp op) r) (o : Op2 r P P' (PF tBool) f) (ha : TG X E Γ a P ma) (hb : TG X E Γ b P' mb) (hm : behindInMarks op b = false) : TTt X E Γ (.Compare a [op] [b] pos) (ma >>= fun x => mb >>= fun y => pure (f x y)) := fun bb vb σ F H B O st Q q =>
  rt_of (pt_cmpR ho (re_pe a) (re_pe b) hm) (two o ha hb st (Q := fun x H' => ∃ k, x = .bl k ∧ Q k H') (q.mono (fun p k v F1 H1 B1 g b1 st1 r => ⟨p.1, r, k F1 H1 B1 g b1 st1⟩) fun _ z => z))
theorem tt_chain {P'' : PR δ} {mc : m δ} {op op' : CmpOp} {r r' : R2} {f : α → γ → Bool} {f' : γ → δ → Bool} (ho : OpR X (compareOp op) r) (ho' : OpR X (compareOp op') r') (o : Op2 r P P' (PF tBool) f) (o' : Op2 r' P' P'' (PF tBool) f')
    (ha : TG X E Γ a P ma) (hb : TG X E Γ b P' mb) (hc : TG X E Γ c P'' mc) (hm : lastMarks [op, op'] [b, c] = false) (he : ∀ whole, isTrue (.Compare a [op, op'] [b, c] pos) X.env whole = (do let v ← whole; standAt (Expr.Compare a [op, op'] [b, c] pos).pos; holding [v] (truthy v)) := by intro _; rfl) :
    TTt X E Γ (.Compare a [op, op'] [b, c] pos) (ma >>= fun x => mb >>= fun y => if f x y = true then mc >>= fun z => pure (f' y z) else pure false) := tt_val (te_chain ho ho' o o' ha hb hc hm) he
theorem tt_not (h : TTt X E Γ a mt) : TTt X E Γ (.UnaryOp .Not a pos) (mt >>= fun b => pure (!b)) := fun bb vb σ F H B O st Q q =>
  rt_of (pt_not (rt_pt a)) (h bb vb σ F H B O st _ (q.run_bind.mono (fun p k F1 H1 B1 g b1 st1 => k.run_pure F1 H1 B1 g b1 st1) fun _ z => z))
theorem tw_one_and (h : TTt X E Γ a mt) : TWt X E Γ (.BoolOp .And [a] pos) mt := fun bb vb σ F H B O st Q q => rw_of (pw_and1 (rt_pt a)) (h bb vb σ F H B O st Q q)
theorem tw_one_or (h : TTt X E Γ a mt) : TWt X E Γ (.BoolOp .Or [a] pos) mt := fun bb vb σ F H B O st Q q => rw_of (pw_or1 (rt_pt a)) (h bb vb σ F H B O st Q q)
theorem tw_and (h : TTt X E Γ a mt) (h2 : TWt X E Γ (.BoolOp .And (b :: es) pos) mu) : TWt X E Γ (.BoolOp .And (a :: b :: es) pos) (mt >>= fun x => if x = true then mu else pure false) := fun bb vb σ F H B O st Q q =>
  rw_of (pw_and (rt_pt a) (rw_pw _)) (h bb vb σ F H B O st _ (q.run_bind.mono (fun p k F1 H1 B1 g b1 st1 => by
    cases hp : p.1 with
    | true =>
      rw [hp, if_pos rfl] at k
      rw [if_pos rfl]
      exact h2 p.2 vb σ F1 H1 B1 O st1 Q (k.mono (fun q k => k.tr g b1) fun er z => z.tr g b1)
    | false =>
      rw [hp, if_neg Bool.false_ne_true] at k
      rw [if_neg Bool.false_ne_true]
      exact k.run_pure F1 H1 B1 g b1 st1) fun _ z => z))
theorem tw_or (h : TTt X E Γ a mt) (h2 : TWt X E Γ (.BoolOp .Or (b :: es) pos) mu) : TWt X E Γ (.BoolOp .Or (a :: b :: es) pos) (mt >>= fun x => if x = true then pure true else mu) := fun bb vb σ F H B O st Q q =>
  rw_of (pw_or (rt_pt a) (rw_pw _)) (h bb vb σ F H B O st _ (q.run_bind.mono (fun p k F1 H1 B1 g b1 st1 => by
    cases hp : p.1 with
    | true =>
      rw [hp, if_pos rfl] at k
      rw [if_pos rfl]
      exact k.run_pure F1 H1 B1 g b1 st1
    | false =>
      rw [hp, if_neg Bool.false_ne_true] at k
      rw [if_neg Bool.false_ne_true]
      exact h2 p.2 vb σ F1 H1 B1 O st1 Q (k.mono (fun q k => k.tr g b1) fun er z => z.tr g b1)) fun _ z => z))
/-- .. as values -/
theorem te_one {op : BoolOp} (h : TE X E Γ a tBool mt) : TE X E Γ (.BoolOp op [a] pos) tBool mt := fun bb vb σ F H B O st Q q => re_of (pe_one (re_pe a)) (h bb vb σ F H B O st Q q)
theorem te_and (h : TE X E Γ a tBool mt) (h2 : TE X E Γ (.BoolOp .And (b :: es) pos) tBool mu) : TE X E Γ (.BoolOp .And (a :: b :: es) pos) tBool (mt >>= fun x => if x = true then mu else pure false) := fun bb vb σ F H B O st Q q =>
  re_of (pe_and (re_pe a) (re_pe _)) (h bb vb σ F H B O st _ (q.run_bind.mono (fun p k v F1 H1 B1 g b1 st1 r => ⟨p.1, r, by
    cases hp : p.1 with
    | true =>
      rw [hp, if_pos rfl] at k
      rw [if_pos rfl]
      exact h2 p.2 vb σ F1 H1 B1 O st1 Q (k.mono (fun q k => k.tr g b1) fun er z => z.tr g b1)
    | false =>
      rw [hp, if_neg Bool.false_ne_true] at k
      rw [if_neg Bool.false_ne_true]
      exact k.run_pure _ F1 H1 B1 g b1 st1 rfl⟩) fun _ z => z))
theorem te_or (h : TE X E Γ a tBool mt) (h2 : TE X E Γ (.BoolOp .Or (b :: es) pos) tBool mu) : TE X E Γ (.BoolOp .Or (a :: b :: es) pos) tBool (mt >>= fun x => if x = true then pure true else mu) := fun bb vb σ F H B O st Q q =>
  re_of (pe_or (re_pe a) (re_pe _)) (h bb vb σ F H B O st _ (q.run_bind.mono (fun p k v F1 H1 B1 g b1 st1 r => ⟨p.1, r, by
    cases hp : p.1 with
    | true =>
      rw [hp, if_pos rfl] at k
      rw [if_pos rfl]
      exact k.run_pure _ F1 H1 B1 g b1 st1 rfl
    | false =>
      rw [hp, if_neg Bool.false_ne_true] at k
      rw [if_neg Bool.false_ne_true]
      exact h2 p.2 vb σ F1 H1 B1 O st1 Q (k.mono (fun q k => k.tr g b1) fun er z => z.tr g b1)⟩) fun _ z => z))
theorem te_not (h : TE X E Γ a tBool mt) : TE X E Γ (.UnaryOp .Not a pos) tBool (mt >>= fun b => pure (!b)) := fun bb vb σ F H B O st Q q =>
  re_of (pe_not (re_pe a)) (h bb vb σ F H B O st _ (q.run_bind.mono (fun p k v F1 H1 B1 g b1 st1 r => ⟨p.1, r, k.run_pure _ F1 H1 B1 g b1 st1 rfl⟩) fun _ z => z))
/-- a if t else b -/
theorem te_ifExp {mx my : m γ} (hc : TTt X E Γ c mt) (ha : TG X E Γ a P' mx) (hb : TG X E Γ b P' my) : TG X E Γ (.IfExp c a b pos) P' (mt >>= fun x => if x = true then mx else my) := fun bb vb σ F H B O st Q q =>
  re_of (pe_ifExp (rt_pt c) (re_pe a) (re_pe b)) (hc bb vb σ F H B O st _ (q.run_bind.mono (fun p k F1 H1 B1 g b1 st1 => by
    cases hp : p.1 with
    | true =>
      rw [hp, if_pos rfl] at k
      rw [if_pos rfl]
      exact ha p.2 vb σ F1 H1 B1 O st1 Q (k.mono (fun q k => k.tr g b1) fun er z => z.tr g b1)
    | false =>
      rw [hp, if_neg Bool.false_ne_true] at k
      rw [if_neg Bool.false_ne_true]
      exact hb p.2 vb σ F1 H1 B1 O st1 Q (k.mono (fun q k => k.tr g b1) fun er z => z.tr g b1)) fun _ z => z))
/-- the truth of a list, of what may be None, of a number, of a text -/
theorem tt_truth {f : α → Bool} (hf : ∀ F H B H0 v x, Cc F H B H0 → P.rep x v F H B H0 → TruV X.K v H (f x)) (h : TG X E Γ e P ma) (he : ∀ whole, isTrue e X.env whole = (do let v ← whole; standAt e.pos; holding [v] (truthy v)) := by intro _; rfl) : TTt X E Γ e (ma >>= fun x => pure (f x)) := fun bb vb σ F H B O st Q q =>
  rt_of (pt_truth (re_pe e) he) (h bb vb σ F H B O st _ (q.run_bind.mono (fun p k v F1 H1 B1 g b1 st1 r => ⟨f p.1, hf _ _ _ _ _ _ (st1.cc fun a z => g.non z) r, k.run_pure F1 H1 B1 g b1 st1⟩) fun _ z => z))
theorem tru_list {K : PySem.W.Frag} : ∀ F H B H0 v (xs : List α), Cc F H B H0 → (PQ K t).rep xs v F H B H0 → TruV K v H (!xs.isEmpty) := fun F H B H0 v xs c ⟨p, vs, e, h, r, z⟩ => by
  have ev : (!vs.isEmpty) = !xs.isEmpty := by
    have l := r.length
    cases vs <;> cases xs <;> first | rfl | cases l
  rw [e]
  rcases h with ⟨h, nb⟩ | h
  · exact .inl ⟨vs, SqL.of h, ev.symm⟩
  · exact .inr (.inl ⟨vs, sqT_mono c.sub h, ev.symm⟩)
theorem tru_int {K : PySem.W.Frag} : ∀ F H B H0 v (x : Int), Cc F H B H0 → (PF tInt).rep x v F H B H0 → TruV K v H (x != 0) := fun F H B H0 v x c h => by rw [show v = .int x from h]; rfl
end
/-! ### targets -/
def RGt (X : Cx) (tg : Expr) : L2.TG := fun v σ H Q => ∀ (pins : List (Addr × Obj)) (s : Shared) (u : Value), Inv X pins σ H s → RelV v u → wpAny (model X.prog X.w) X.A (assign tg X.env u) (fun _ s' => ∃ σ' H', Inv X pins σ' H' s' ∧ Q σ' H') X.xe s
theorem rg_pg {X : Cx} (tg : Expr) : PG X tg (RGt X tg) := ⟨fun pins s σ H v u Q I r h => h pins s u I r⟩
/-- what is stored at the target, the places is -/
def TT (X : Cx) (tg : Expr) {ι : Type} (t : Ty ι) (is : List Nat) (up : ι → Envt → Envt) : Prop :=
  ∀ {β : Type} {T : OTs β} {b : β} {vb : List V} {Γ : Envt} {σ : L2.St} {F H : Hp} {B O : AS} (v : V) (x : ι), Stt T b vb Γ σ F H B O → t.rep F v x → ∀ Q : L2.St → Hp → Prop,
    (∀ σ' O', (∀ a, O' a → O a) → (∀ j, j ∉ is → σ'[j]? = σ[j]?) → σ'.length = σ.length → Stt T b vb (up x Γ) σ' F H B O' → Q σ' H) → RGt X tg v σ H Q
section
variable {X : Cx} {α γ δ ε : Type} {t : Ty α} {u : Ty γ} {w : Ty δ} {z : Ty ε} {a b c d : Expr} {i1 i2 i3 i4 : List Nat} {u1 : α → Envt → Envt} {u2 : γ → Envt → Envt} {u3 : δ → Envt → Envt} {u4 : ε → Envt → Envt} {pos : Pos} {n : Nat}
theorem tt_name (i : Nat) {nm : Str} (hN : X.N.Nodup) (hi : X.N[i]? = some nm) (hx : Loc X.env.scope nm) (hf : X.fn nm = true ∨ X.env.scope.names.lookup nm = some .local := by first | exact .inl rfl | exact .inr rfl | assumption) : TT X (.Name nm pos) t [i] (fun x Γ => Γ.set i (.fz t x)) :=
  fun v x st r Q q pins s u I rv => by
    have hl : i < _ := (List.getElem?_eq_some_iff.mp hi).1
    rw [← I.len, st.len] at hl
    obtain ⟨O', s1, s2⟩ := st.setF hl r
    exact (pg_name hN hi hx hf).run pins s _ _ v u Q I rv (q _ O' s1 (fun j hj => List.getElem?_set_ne (fun e => hj (by rw [e]; exact List.mem_cons_self))) (List.length_set ..) s2)
theorem tt_tup2 (hc : X.calm = true) (h1 : TT X a t i1 u1) (h2 : TT X b u i2 u2) (e1 : (assignEach [a, b] X.env).map (·.2) = assign a X.env :: (assignEach [b] X.env).map (·.2) := by rfl) (e2 : (assignEach [b] X.env).map (·.2) = assign b X.env :: (assignEach [] X.env).map (·.2) := by rfl)
    (hn : (assignEach [a, b] X.env).length = 2 := by rfl) (hst : (assignEach [a, b] X.env).findIdx? (·.1) = none := by rfl) : TT X (.Tuple [a, b] n pos) (tTup2 X.K t u) (i1 ++ i2) (fun x Γ => u2 x.2 (u1 x.1 Γ)) := fun v x st r Q q pins s uu I rv => by
  obtain ⟨p, v1, v2, e, hp, r1, r2⟩ := r
  refine (pg_tup hc (pgs_cons (rg_pg a) (pgs_cons (rg_pg b) pgs_nil e2) e1) hn hst).run pins s _ _ v uu Q I rv ⟨p, [v1, v2], e, sqT_mono st.sub hp, rfl, v1, [v2], rfl, ?_⟩
  refine h1 v1 x.1 st r1 _ fun σ1 O1 o1 k1 l1 st1 => ⟨v2, [], rfl, ?_⟩
  exact h2 v2 x.2 st1 r2 _ fun σ2 O2 o2 k2 l2 st2 => ⟨rfl, q σ2 O2 (fun a z => o1 a (o2 a z)) (fun j hj => (k2 j fun z => hj (List.mem_append_right _ z)).trans (k1 j fun z => hj (List.mem_append_left _ z))) (l2.trans l1) st2⟩
theorem tt_tup3 (hc : X.calm = true) (h1 : TT X a t i1 u1) (h2 : TT X b u i2 u2) (h3 : TT X c w i3 u3) (e1 : (assignEach [a, b, c] X.env).map (·.2) = assign a X.env :: (assignEach [b, c] X.env).map (·.2) := by rfl) (e2 : (assignEach [b, c] X.env).map (·.2) = assign b X.env :: (assignEach [c] X.env).map (·.2) := by rfl) (e3 : (assignEach [c] X.env).map (·.2) = assign c X.env :: (assignEach [] X.env).map (·.2) := by rfl)
    (hn : (assignEach [a, b, c] X.env).length = 3 := by rfl) (hst : (assignEach [a, b, c] X.env).findIdx? (·.1) = none := by rfl) : TT X (.Tuple [a, b, c] n pos) (tTup3 X.K t u w) (i1 ++ (i2 ++ i3)) (fun x Γ => u3 x.2.2 (u2 x.2.1 (u1 x.1 Γ))) := fun v x st r Q q pins s uu I rv => by
  obtain ⟨p, v1, v2, v3, e, hp, r1, r2, r3⟩ := r
  refine (pg_tup hc (pgs_cons (rg_pg a) (pgs_cons (rg_pg b) (pgs_cons (rg_pg c) pgs_nil e3) e2) e1) hn hst).run pins s _ _ v uu Q I rv ⟨p, [v1, v2, v3], e, sqT_mono st.sub hp, rfl, v1, [v2, v3], rfl, ?_⟩
  refine h1 v1 x.1 st r1 _ fun σ1 O1 o1 k1 l1 st1 => ⟨v2, [v3], rfl, ?_⟩
  refine h2 v2 x.2.1 st1 r2 _ fun σ2 O2 o2 k2 l2 st2 => ⟨v3, [], rfl, ?_⟩
  exact h3 v3 x.2.2 st2 r3 _ fun σ3 O3 o3 k3 l3 st3 => ⟨rfl, q σ3 O3 (fun a z => o1 a (o2 a (o3 a z))) (fun j hj => ((k3 j fun z => hj (List.mem_append_right _ (List.mem_append_right _ z))).trans (k2 j fun z => hj (List.mem_append_right _ (List.mem_append_left _ z)))).trans (k1 j fun z => hj (List.mem_append_left _ z))) ((l3.trans l2).trans l1) st3⟩
theorem tt_tup4 (hc : X.calm = true) (h1 : TT X a t i1 u1) (h2 : TT X b u i2 u2) (h3 : TT X c w i3 u3) (h4 : TT X d z i4 u4) (e1 : (assignEach [a, b, c, d] X.env).map (·.2) = assign a X.env :: (assignEach [b, c, d] X.env).map (·.2) := by rfl) (e2 : (assignEach [b, c, d] X.env).map (·.2) = assign b X.env :: (assignEach [c, d] X.env).map (·.2) := by rfl) (e3 : (assignEach [c, d] X.env).map (·.2) = assign c X.env :: (assignEach [d] X.env).map (·.2) := by rfl) (e4 : (assignEach [d] X.env).map (·.2) = assign d X.env :: (assignEach [] X.env).map (·.2) := by rfl)
    (hn : (assignEach [a, b, c, d] X.env).length = 4 := by rfl) (hst : (assignEach [a, b, c, d] X.env).findIdx? (·.1) = none := by rfl) : TT X (.Tuple [a, b, c, d] n pos) (tTup4 X.K t u w z) (i1 ++ (i2 ++ (i3 ++ i4))) (fun x Γ => u4 x.2.2.2 (u3 x.2.2.1 (u2 x.2.1 (u1 x.1 Γ)))) := fun v x st r Q q pins s uu I rv => by
  obtain ⟨p, v1, v2, v3, v4, e, hp, r1, r2, r3, r4⟩ := r
  refine (pg_tup hc (pgs_cons (rg_pg a) (pgs_cons (rg_pg b) (pgs_cons (rg_pg c) (pgs_cons (rg_pg d) pgs_nil e4) e3) e2) e1) hn hst).run pins s _ _ v uu Q I rv ⟨p, [v1, v2, v3, v4], e, sqT_mono st.sub hp, rfl, v1, [v2, v3, v4], rfl, ?_⟩
  refine h1 v1 x.1 st r1 _ fun σ1 O1 o1 k1 l1 st1 => ⟨v2, [v3, v4], rfl, ?_⟩
  refine h2 v2 x.2.1 st1 r2 _ fun σ2 O2 o2 k2 l2 st2 => ⟨v3, [v4], rfl, ?_⟩
  refine h3 v3 x.2.2.1 st2 r3 _ fun σ3 O3 o3 k3 l3 st3 => ⟨v4, [], rfl, ?_⟩
  exact h4 v4 x.2.2.2 st3 r4 _ fun σ4 O4 o4 k4 l4 st4 => ⟨rfl, q σ4 O4 (fun a z => o1 a (o2 a (o3 a (o4 a z)))) (fun j hj => (((k4 j fun z => hj (List.mem_append_right _ (List.mem_append_right _ (List.mem_append_right _ z)))).trans (k3 j fun z => hj (List.mem_append_right _ (List.mem_append_right _ (List.mem_append_left _ z))))).trans (k2 j fun z => hj (List.mem_append_right _ (List.mem_append_left _ z)))).trans (k1 j fun z => hj (List.mem_append_left _ z))) (((l4.trans l3).trans l2).trans l1) st4⟩
end
end TL
/-! TL6: what is walked; list comprehensions. -/
namespace TL
open PySem L2
def RI (X : Cx) (tg iter : Expr) : TI := fun σ H R => ∀ (pins : List (Addr × Obj)) (s : Shared), Inv X pins σ H s → wpAny (model X.prog X.w) X.A (eval iter X.env) (fun v s1 => wpAny (model X.prog X.w) X.A (pyIter v) (PIE X pins σ tg R) X.xe s1) X.xe s
theorem ri_pi {X : Cx} (tg iter : Expr) : PI X tg iter (RI X tg iter) := ⟨fun pins s σ H R I h => h pins s I⟩
theorem ri_of {X : Cx} {tg iter : Expr} {w : TI} (h : PI X tg iter w) {σ : L2.St} {H : Hp} {R : It → Hp → Prop} (q : w σ H R) : RI X tg iter σ H R := fun pins s I => h.run pins s σ H R I q
/-- the items xs come, one by one -/
structure TWalk {ι : Type} (J : It) (F0 : Hp) (t : Ty ι) (xs : List ι) : Prop where
  go : ∀ i H, Sub F0 H → i < xs.length → J.go i H
  stop : ∀ i H, Sub F0 H → xs.length ≤ i → J.stop i H
  yld : ∀ i H v H' F x, Sub F0 F → Sub F H → xs[i]? = some x → J.yld i H v H' → ∃ F', Grow nil F H F' H' ∧ t.rep F' v x
section
variable {X : Cx} {E : XK} {Γ : Envt} {β : Type} {m : Type → Type} [Mo β m] {α γ δ ι : Type} {t : Ty α} {u : Ty γ} {a b c e tg iter : Expr} {es : List Expr} {pos : Pos} {ma : m α}
def KI (m : Type → Type) [Mo β m] (vb : List V) (Γ : Envt) (σ : L2.St) (F H : Hp) (B O : AS) (t : Ty ι) (R : It → Hp → Prop) : List ι × β → Prop := fun p =>
  ∀ J F' H' B', Grow B F H F' H' → (∀ a, B' a → B a ∨ H a = none) → Stt (Mo.T m) p.2 vb Γ σ F' H' B' O → TWalk J F' t p.1 → p.1.length ≤ sizeLine → R J H'
/-- iter walks items of the type t -/
def TIt (X : Cx) (E : XK) (Γ : Envt) (tg iter : Expr) (t : Ty ι) (mm : m (List ι)) : Prop :=
  ∀ (b : β) (vb : List V) (σ : L2.St) (F H : Hp) (B O : AS), Stt (Mo.T m) b vb Γ σ F H B O → ∀ R : It → Hp → Prop, PostR (Mo.run mm b) (KI m vb Γ σ F H B O t R) (KX X.K F H B E) → RI X tg iter σ H R
theorem walk_list {K : PySem.W.Frag} {F : Hp} {p : Addr} {vs : List V} {xs : List α} (hp : F p = some (.lst vs)) (r : Reps t F vs xs) : TWalk (Itl K p) F t xs where
  go := fun i H s hi => by
    obtain ⟨v, e, _⟩ := r.get (List.getElem?_eq_getElem hi)
    exact ⟨vs, v, SqL.of (s _ _ hp), e⟩
  stop := fun i H s hi => ⟨vs, SqL.of (s _ _ hp), by rw [r.length]; exact hi⟩
  yld := fun i H v H' F' x s s' ex ⟨e1, e2⟩ => by
    subst e1
    obtain ⟨v', ev, rv⟩ := r.get ex
    have h := e2 vs (SqL.of (s' _ _ (s _ _ hp)))
    rw [ev] at h; cases h
    exact ⟨F', Grow.rf s', t.mono s rv⟩
theorem walk_tup {K : PySem.W.Frag} {F : Hp} {p : Addr} {vs : List V} {xs : List α} (hp : SqT K F p vs) (r : Reps t F vs xs) : TWalk (Itt K p) F t xs where
  go := fun i H s hi => by
    obtain ⟨v, e, _⟩ := r.get (List.getElem?_eq_getElem hi)
    exact ⟨vs, v, sqT_mono s hp, e⟩
  stop := fun i H s hi => ⟨vs, sqT_mono s hp, by rw [r.length]; exact hi⟩
  yld := fun i H v H' F' x s s' ex ⟨e1, e2⟩ => by
    subst e1
    obtain ⟨v', ev, rv⟩ := r.get ex
    have h := e2 vs (sqT_mono s' (sqT_mono s hp))
    rw [ev] at h; cases h
    exact ⟨F', Grow.rf s', t.mono s rv⟩
/-- over a list -/
theorem ti_list {ml : m (List α)} (h : TE X E Γ iter (tList t) ml) : TIt X E Γ tg iter t ml := fun bb vb σ F H B O st R q =>
  ri_of (pi_list (re_pe iter)) (h bb vb σ F H B O st _ (q.mono (fun p k v F1 H1 B1 g b1 st1 ⟨p1, vs, e, hp, r, z⟩ => ⟨p1, e, ⟨vs, SqL.of (st1.sub _ _ hp)⟩, k _ F1 H1 B1 g b1 st1 (walk_list hp r) z⟩) fun _ z => z))
/-- over a tuple -/
theorem ti_tup {ml : m (List α)} (h : TE X E Γ iter (tTupL X.K t) ml) : TIt X E Γ tg iter t ml := fun bb vb σ F H B O st R q =>
  ri_of (pi_tup (re_pe iter)) (h bb vb σ F H B O st _ (q.mono (fun p k v F1 H1 B1 g b1 st1 ⟨p1, vs, e, hp, r, z⟩ => ⟨p1, e, ⟨vs, sqT_mono st1.sub hp⟩, k _ F1 H1 B1 g b1 st1 (walk_tup hp r) z⟩) fun _ z => z))
/-- a list or a tuple -/
def iSeq (K : PySem.W.Frag) (tl : L2.TE) : TI := fun σ H R => tl σ H fun x H1 => ∃ a, x = .ref a ∧ (((∃ xs, SqL K H1 a xs) ∧ R (Itl K a) H1) ∨ ((∃ xs, SqT K H1 a xs) ∧ R (Itt K a) H1))
theorem pi_seq {l : Expr} {tl : L2.TE} (hl : PE X l tl) : PI X tg l (iSeq X.K tl) := by
  refine ⟨fun pins s σ H R I h => ?_⟩
  refine thn (hl.run pins s σ H _ I h) fun v s1 ⟨x, H1, I1, r1, q1⟩ => ?_
  obtain ⟨a, e, q1⟩ := q1
  subst e
  cases r1
  rcases q1 with ⟨⟨xs, hq⟩, q⟩ | ⟨⟨xs, hq⟩, q⟩
  · obtain ⟨its, rv, p, hz⟩ := I1.list hq
    refine wpAny_pyIter_list p.isList ?_
    refine ⟨s1.heap.objs.size, [s1.heap.objs.size], _, _, H1, rfl, I1.kept (t' := s1.toks) (fun b o e => Heap.get?_push_of_some _ e), turn_list a _, ⟨_, Heap.get?_push_size _ rfl, rfl, rfl⟩, fun b hb => ?_, q⟩
    have e : b = s1.heap.objs.size := by simpa using hb
    subst e
    exact I1.fpOk (Nat.le_refl _) (I1.hok.fresh (Nat.le_refl _))
  · obtain ⟨its, rv, p, hz⟩ := I1.tuple hq
    refine wpAny_pyIter_tuple (show s1.heap.IsTuple a its.toArray from p) ?_
    refine ⟨s1.heap.objs.size, [s1.heap.objs.size], _, _, H1, rfl, I1.kept (t' := s1.toks) (fun b o e => Heap.get?_push_of_some _ e), turn_tuple a _, ⟨_, Heap.get?_push_size _ rfl, rfl, rfl⟩, fun b hb => ?_, q⟩
    have e : b = s1.heap.objs.size := by simpa using hb
    subst e
    exact I1.fpOk (Nat.le_refl _) (I1.hok.fresh (Nat.le_refl _))
theorem ti_seq {ml : m (List α)} (h : TE X E Γ iter (tSeq X.K t) ml) : TIt X E Γ tg iter t ml := fun bb vb σ F H B O st R q =>
  ri_of (pi_seq (re_pe iter)) (h bb vb σ F H B O st _ (q.mono (fun p k v F1 H1 B1 g b1 st1 ⟨p1, vs, e, hp, r, z⟩ => ⟨p1, e, by
    rcases hp with hp | hp
    · exact .inl ⟨⟨vs, SqL.of (st1.sub _ _ hp)⟩, k _ F1 H1 B1 g b1 st1 (walk_list hp r) z⟩
    · exact .inr ⟨⟨vs, sqT_mono st1.sub hp⟩, k _ F1 H1 B1 g b1 st1 (walk_tup hp r) z⟩⟩) fun _ z => z))
/-! ### ranges -/
def intsFrom (lo : Int) (n : Nat) : List Int := (List.range n).map fun (i : Nat) => lo + (i : Int)
theorem intsFrom_length (lo : Int) (n : Nat) : (intsFrom lo n).length = n := by unfold intsFrom; rw [List.length_map, List.length_range]
theorem intsFrom_get {lo : Int} {n i : Nat} {x : Int} (h : (intsFrom lo n)[i]? = some x) : i < n ∧ x = lo + i := by
  unfold intsFrom at h
  rw [List.getElem?_map] at h
  by_cases hi : i < n
  · rw [List.getElem?_range hi] at h; exact ⟨hi, (Option.some.inj h).symm⟩
  · rw [List.getElem?_eq_none (by rw [List.length_range]; omega)] at h; cases h
theorem walk_range {F : Hp} {lo : Int} {n : Nat} : TWalk (Itr lo n) F tInt (intsFrom lo n) where
  go := fun i H s hi => by rw [intsFrom_length] at hi; exact hi
  stop := fun i H s hi => by rw [intsFrom_length] at hi; exact hi
  yld := fun i H v H' F' x s s' ex ⟨e1, e2⟩ => by
    subst e1
    exact ⟨F', Grow.rf s', by rw [(intsFrom_get ex).2]; exact e2⟩
/-- range(n), range(lo, hi): at most so many -/
def rng1 (n : Int) : Option (List Int) := onlyIf (-(2 ^ 62) ≤ n ∧ n ≤ 16777216) (intsFrom 0 n.toNat)
def rng2 (lo hi : Int) : Option (List Int) := onlyIf ((-(2 ^ 62) ≤ lo ∧ lo < 2 ^ 62) ∧ (-(2 ^ 62) ≤ hi ∧ hi < 2 ^ 62) ∧ hi - lo ≤ 16777216) (intsFrom lo (hi - lo).toNat)
theorem ti_range1 {mi : m Int} {p : Pos} (hg : Gl X "range") (hm : X.mg "range" = none) (ha : TE X E Γ a tInt mi) (hs : starEach [a] X.env = [(false, eval a X.env)] := by rfl) (hs' : starEach [a] X.env = (false, eval a X.env) :: starEach [] X.env := by rfl) : TIt X E Γ tg (.Call (.Name "range" p) [a] [] pos) tInt (mi >>= fun n => Mo.lift (opt (rng1 n))) :=
  fun bb vb σ F H B O st R q => by
    refine ri_of (pi_range1 hg hm (pa_cons (re_pe a) pa_nil hs') hs) ?_
    refine ha bb vb σ F H B O st _ (q.run_bind.mono (fun p1 q1 v1 F1 H1 B1 g1 b1 st1 r1 => ?_) fun _ z => z)
    obtain ⟨z, ez, q2⟩ := q1.run_opt
    obtain ⟨hc, rfl⟩ := onlyIf_some ez
    exact ⟨p1.1, by rw [show v1 = .int p1.1 from r1], hc.1, by omega, q2 _ F1 H1 B1 g1 b1 st1 walk_range (by rw [intsFrom_length, sizeLine_eq]; omega)⟩
theorem ti_range2 {mi mj : m Int} {p : Pos} (hg : Gl X "range") (hm : X.mg "range" = none) (ha : TE X E Γ a tInt mi) (hb : TE X E Γ b tInt mj) (hs : starEach [a, b] X.env = [(false, eval a X.env), (false, eval b X.env)] := by rfl) (hs2 : starEach [b] X.env = [(false, eval b X.env)] := by rfl) (hs' : starEach [a, b] X.env = (false, eval a X.env) :: starEach [b] X.env := by rfl) (hs2' : starEach [b] X.env = (false, eval b X.env) :: starEach [] X.env := by rfl) :
    TIt X E Γ tg (.Call (.Name "range" p) [a, b] [] pos) tInt (mi >>= fun lo => mj >>= fun hi => Mo.lift (opt (rng2 lo hi))) :=
  fun bb vb σ F H B O st R q => by
    refine ri_of (pi_range2 hg hm (pa_cons (re_pe a) (pa_cons (re_pe b) pa_nil hs2') hs') hs hs2) ?_
    refine ha bb vb σ F H B O st _ (q.run_bind.mono (fun p1 q1 v1 F1 H1 B1 g1 b1 st1 r1 => ?_) fun _ z => z)
    refine hb p1.2 vb σ F1 H1 B1 O st1 _ (q1.run_bind.mono (fun p2 q2 v2 F2 H2 B2 g2 b2 st2 r2 => ?_) fun er z => z.tr g1 b1)
    obtain ⟨z, ez, q3⟩ := q2.run_opt
    obtain ⟨hc, rfl⟩ := onlyIf_some ez
    exact ⟨p1.1, p2.1, by rw [show v1 = .int p1.1 from r1, show v2 = .int p2.1 from r2], ⟨hc.1.1, hc.1.2, hc.2.1.1, hc.2.1.2⟩, q3 _ F2 H2 B2 (g1.tr g2 b1) (back g1 b1 b2) st2 walk_range (by rw [intsFrom_length, sizeLine_eq]; omega)⟩
/-- range(i, j, -1) -/
def down (hi : Int) (n : Nat) : List Int := (List.range n).map fun i => hi + ((i : Nat) : Int) * (-1)
theorem walk_down {F : Hp} {lo : Int} {n : Nat} : TWalk (Itc lo (-1) n) F tInt (down lo n) where
  go := fun i H s hi => by unfold down at hi; rw [List.length_map, List.length_range] at hi; exact hi
  stop := fun i H s hi => by unfold down at hi; rw [List.length_map, List.length_range] at hi; exact hi
  yld := fun i H v H' F' x s s' ex ⟨e1, e2⟩ => by
    subst e1
    unfold down at ex
    rw [List.getElem?_map] at ex
    by_cases hi : i < n
    · rw [List.getElem?_range hi] at ex
      have ex' := Option.some.inj ex
      exact ⟨F', Grow.rf s', by rw [← ex']; exact e2⟩
    · rw [List.getElem?_eq_none (by rw [List.length_range]; omega)] at ex; cases ex
def rngD (i j : Int) : Option (List Int) := onlyIf ((-(2 ^ 62) ≤ i ∧ i < 2 ^ 62) ∧ (-(2 ^ 62) ≤ j ∧ j < 2 ^ 62) ∧ i - j ≤ 16777216) (down i (i - j).toNat)
theorem ti_rangeD {mi mj : m Int} {p : Pos} (hg : Gl X "range") (hm : X.mg "range" = none) (ha : TE X E Γ a tInt mi) (hb : TE X E Γ b tInt mj) (hc : TE (m := m) X E Γ c tInt (pure (-1))) (hs : starEach [a, b, c] X.env = (false, eval a X.env) :: starEach [b, c] X.env := by rfl) (hs2 : starEach [b, c] X.env = (false, eval b X.env) :: starEach [c] X.env := by rfl) (hs3 : starEach [c] X.env = (false, eval c X.env) :: starEach [] X.env := by rfl)
    (hp : ∀ ta, PA X [a, b, c] ta → PI X tg (.Call (.Name "range" p) [a, b, c] [] pos) (iRng3 ta)) : TIt X E Γ tg (.Call (.Name "range" p) [a, b, c] [] pos) tInt (mi >>= fun lo => mj >>= fun hi => Mo.lift (opt (rngD lo hi))) :=
  fun bb vb σ F H B O st R q => by
    refine ri_of (hp _ (pa_cons (re_pe a) (pa_cons (re_pe b) (pa_cons (re_pe c) pa_nil hs3) hs2) hs)) ?_
    refine ha bb vb σ F H B O st _ (q.run_bind.mono (fun p1 q1 v1 F1 H1 B1 g1 b1 st1 r1 => ?_) fun _ z => z)
    refine hb p1.2 vb σ F1 H1 B1 O st1 _ (q1.run_bind.mono (fun p2 q2 v2 F2 H2 B2 g2 b2 st2 r2 => ?_) fun er z => z.tr g1 b1)
    refine hc p2.2 vb σ F2 H2 B2 O st2 _ ?_
    rw [Mo.run_pure]
    intro v3 F3 H3 B3 g3 b3 st3 r3
    obtain ⟨z, ez, q3⟩ := q2.run_opt
    obtain ⟨hc, rfl⟩ := onlyIf_some ez
    refine ⟨p1.1, p2.1, -1, (p1.1 - p2.1).toNat, by rw [show v1 = .int p1.1 from r1, show v2 = .int p2.1 from r2, show v3 = .int (-1) from r3], RgC.neg hc.1.1 hc.1.2 hc.2.1.1 hc.2.1.2, ?_⟩
    exact q3 _ F3 H3 B3 ((g1.tr g2 b1).tr g3 (back g1 b1 b2)) (back (g1.tr g2 b1) (back g1 b1 b2) b3) st3 walk_down (by unfold down; rw [List.length_map, List.length_range, sizeLine_eq]; omega)
/-! ### enumerate, zip of lists -/
def enumI {α : Type} (xs : List α) : List (Int × α) := xs.zipIdx.map fun p => ((p.2 : Int), p.1)
theorem enumI_length {α : Type} (xs : List α) : (enumI xs).length = xs.length := by unfold enumI; rw [List.length_map, List.length_zipIdx]
theorem enumI_get {α : Type} {xs : List α} {i : Nat} {x : Int × α} (h : (enumI xs)[i]? = some x) : x.1 = (i : Int) ∧ xs[i]? = some x.2 := by
  unfold enumI at h
  rw [List.getElem?_map, List.getElem?_zipIdx] at h
  cases e : xs[i]? with
  | none => rw [e] at h; cases h
  | some y =>
    rw [e] at h
    have h' := Option.some.inj h
    subst h'
    exact ⟨by simp, rfl⟩
theorem walk_enum {K : PySem.W.Frag} {F : Hp} {p : Addr} {vs : List V} {xs : List α} (hp : F p = some (.lst vs)) (r : Reps t F vs xs) : TWalk (Ite K p) F (tTup2 K tInt t) (enumI xs) where
  go := fun i H s hi => by
    rw [enumI_length] at hi
    obtain ⟨v, e, _⟩ := r.get (List.getElem?_eq_getElem hi)
    exact ⟨vs, v, SqL.of (s _ _ hp), e⟩
  stop := fun i H s hi => ⟨vs, SqL.of (s _ _ hp), by rw [r.length, ← enumI_length]; exact hi⟩
  yld := fun i H v H' F' x s s' ex ⟨T, y, e1, e2, e3, e4⟩ => by
    subst e3
    obtain ⟨x1, x2⟩ := enumI_get ex
    obtain ⟨v', ev, rv⟩ := r.get x2
    have h := e4 vs (SqL.of (s' _ _ (s _ _ hp)))
    rw [ev] at h
    rw [Option.some.inj h] at rv
    have g : Grow nil F' H (upd F' T (.tup [.int (i : Nat), y])) _ := Grow.newF s' e2
    exact ⟨_, g, T, .int (i : Nat), y, e1, SqT.of upd_same, by rw [x1]; rfl, t.mono (s.tr g.f) rv⟩
theorem ti_enum {ml : m (List α)} {p tpos : Pos} {elts : List Expr} {kk : Nat} (hg : Gl X "enumerate") (hm : X.mg "enumerate" = none) (ha : TE X E Γ a (tList t) ml) (hs : starEach [a] X.env = [(false, eval a X.env)] := by rfl) (hs' : starEach [a] X.env = (false, eval a X.env) :: starEach [] X.env := by rfl) :
    TIt X E Γ (.Tuple elts kk tpos) (.Call (.Name "enumerate" p) [a] [] pos) (tTup2 X.K tInt t) (ml >>= fun xs => pure (enumI xs)) := fun bb vb σ F H B O st R q => by
  refine ri_of (pi_enum hg hm (pa_cons (re_pe a) pa_nil hs') hs) ?_
  refine ha bb vb σ F H B O st _ (q.run_bind.mono (fun p1 q1 v1 F1 H1 B1 g1 b1 st1 ⟨pp, vs, e, hp, r, z⟩ => ?_) fun _ z => z)
  exact ⟨pp, vs, by rw [e], SqL.of (st1.sub _ _ hp), q1.run_pure _ F1 H1 B1 g1 b1 st1 (walk_enum hp r) (by rw [enumI_length]; exact z)⟩
theorem walk_zip {K : PySem.W.Frag} {F : Hp} {p p' : Addr} {vs us : List V} {xs : List α} {ys : List γ} (hp : F p = some (.lst vs)) (r : Reps t F vs xs) (hp' : F p' = some (.lst us)) (r' : Reps u F us ys) : TWalk (Itz K p p') F (tTup2 K t u) (xs.zip ys) where
  go := fun i H s hi => by
    rw [List.length_zip] at hi
    obtain ⟨v, e, _⟩ := r.get (List.getElem?_eq_getElem (Nat.lt_of_lt_of_le hi (Nat.min_le_left _ _)))
    obtain ⟨v', e', _⟩ := r'.get (List.getElem?_eq_getElem (Nat.lt_of_lt_of_le hi (Nat.min_le_right _ _)))
    exact ⟨vs, us, v, v', SqL.of (s _ _ hp), SqL.of (s _ _ hp'), e, e'⟩
  stop := fun i H s hi => ⟨vs, us, SqL.of (s _ _ hp), SqL.of (s _ _ hp'), by rw [r.length, r'.length]; rw [List.length_zip] at hi; omega⟩
  yld := fun i H v H' F' x s s' ex ⟨T, y, y', e1, e2, e3, e4, e5⟩ => by
    subst e3
    obtain ⟨x1, x2⟩ := List.getElem?_zip_eq_some.mp ex
    obtain ⟨v1, ev, rv⟩ := r.get x1
    obtain ⟨v2, ev', rv'⟩ := r'.get x2
    have h := e4 vs (SqL.of (s' _ _ (s _ _ hp)))
    have h' := e5 us (SqL.of (s' _ _ (s _ _ hp')))
    rw [ev] at h
    rw [ev'] at h'
    rw [Option.some.inj h] at rv
    rw [Option.some.inj h'] at rv'
    have g : Grow nil F' H (upd F' T (.tup [y, y'])) _ := Grow.newF s' e2
    exact ⟨_, g, T, y, y', e1, SqT.of upd_same, t.mono (s.tr g.f) rv, u.mono (s.tr g.f) rv'⟩
theorem ti_zip {ml : m (List α)} {ml' : m (List γ)} {p tpos : Pos} {elts : List Expr} {kk : Nat} (ha : TE X E Γ a (tList t) ml) (hb : TE X E Γ b (tList u) ml') (hs' : starEach [a, b] X.env = (false, eval a X.env) :: starEach [b] X.env := by rfl) (hs2' : starEach [b] X.env = (false, eval b X.env) :: starEach [] X.env := by rfl)
    (hp : ∀ ta, PA X [a, b] ta → PI X (.Tuple elts kk tpos) (.Call (.Name "zip" p) [a, b] [] pos) (iZip X.K ta)) : TIt X E Γ (.Tuple elts kk tpos) (.Call (.Name "zip" p) [a, b] [] pos) (tTup2 X.K t u) (ml >>= fun xs => ml' >>= fun ys => pure (xs.zip ys)) := fun bb vb σ F H B O st R q => by
  refine ri_of (hp _ (pa_cons (re_pe a) (pa_cons (re_pe b) pa_nil hs2') hs')) ?_
  refine ha bb vb σ F H B O st _ (q.run_bind.mono (fun p1 q1 v1 F1 H1 B1 g1 b1 st1 ⟨pp, vs, e, hp, r, z⟩ => ?_) fun _ z => z)
  refine hb p1.2 vb σ F1 H1 B1 O st1 _ (q1.run_bind.mono (fun p2 q2 v2 F2 H2 B2 g2 b2 st2 ⟨pp', us, e', hp', r', z'⟩ => ?_) fun er z => z.tr g1 b1)
  exact ⟨pp, pp', vs, us, by rw [e, e'], SqL.of (st2.sub _ _ (g2.f _ _ hp)), SqL.of (st2.sub _ _ hp'), q2.run_pure _ F2 H2 B2 (g1.tr g2 b1) (back g1 b1 b2) st2 (walk_zip (g2.f _ _ hp) (r.mono g2.f) hp' r') (by rw [List.length_zip]; exact Nat.le_trans (Nat.min_le_left _ _) z)⟩
/-! ### a text -/
def signs (s : Str) : List Str := s.cps.toList.map fun c => ⟨#[c]⟩
theorem walk_str {F : Hp} {x : Str} : TWalk (Its x) F tStr (signs x) where
  go := fun i H s hi => by unfold signs at hi; rw [List.length_map, Array.length_toList] at hi; exact hi
  stop := fun i H s hi => by unfold signs at hi; rw [List.length_map, Array.length_toList] at hi; exact hi
  yld := fun i H v H' F' y s s' ex ⟨e1, c, e2, e3⟩ => by
    subst e1
    unfold signs at ex
    rw [List.getElem?_map, Array.getElem?_toList, e2] at ex
    have ex' := Option.some.inj ex
    exact ⟨F', Grow.rf s', by rw [← ex']; exact e3⟩
theorem ti_str {ms : m Str} (h : TE X E Γ iter tStr ms) : TIt X E Γ tg iter tStr (ms >>= fun s => Mo.lift (opt (onlyIf (s.cps.size ≤ 16777216) (signs s)))) := fun bb vb σ F H B O st R q =>
  ri_of (pi_str (re_pe iter)) (h bb vb σ F H B O st _ (q.run_bind.mono (fun p k v F1 H1 B1 g b1 st1 r => by
    obtain ⟨z, ez, q3⟩ := k.run_opt
    obtain ⟨hc, rfl⟩ := onlyIf_some ez
    exact ⟨p.1, r, q3 _ F1 H1 B1 g b1 st1 walk_str (by unfold signs; rw [List.length_map, Array.length_toList, sizeLine_eq]; exact hc)⟩) fun _ z => z))
end
end TL
/-! TL7: list comprehensions. -/
namespace TL
open PySem L2
def wipeG (Γ : Envt) : List Nat → Envt
  | [] => Γ
  | v :: vs => (wipeG Γ vs).set v .no
/-- item by item: what is given, in order -/
def mapF {m : Type → Type} [Monad m] {α γ : Type} (f : α → m (Option γ)) : List α → m (List γ)
  | [] => pure []
  | x :: r => f x >>= fun o => mapF f r >>= fun ys => pure (o.toList ++ ys)
section
variable {β : Type} {T : OTs β} {b : β} {vb : List V} {Γ : Envt} {σ : L2.St} {F H F' H' : Hp} {B O : AS}
theorem Stt.setNo (h : Stt T b vb Γ σ F H B O) (i : Nat) : ∃ O', (∀ a, O' a → O a) ∧ Stt T b vb (Γ.set i .no) (σ.set i none) F H B O' := by
  by_cases hi : i < Γ.length
  · obtain ⟨l, s, rb, f0, bo, ps, ss, u, d⟩ := h
    have sub' : ∀ a, (∃ j, butp ps i j a) → O a := fun a ⟨j, _, z⟩ => (u a).mpr ⟨j, z⟩
    refine ⟨fun a => ∃ j, butp ps i j a, sub', ?_, s, rb, f0, fun a ha z => bo a ha (sub' a z), butp ps i, fun j => ?_, fun a => Iff.rfl, fun j k hjk a ha z => d j k hjk a ha.2 z.2⟩
    · rw [List.length_set, List.length_set]; exact l
    · by_cases hj : j = i
      · subst hj
        rw [getD_set hi]
        exact fun _ z => z.1 rfl
      · rw [getD_set_ne hj, slot_set_ne hj, butp_ne hj]
        exact (ss j).wkO fun a z => z.imp id (sub' a)
  · refine ⟨O, fun _ z => z, ?_⟩
    rw [List.set_eq_of_length_le (Nat.le_of_not_lt hi), List.set_eq_of_length_le (by rw [h.len]; exact Nat.le_of_not_lt hi)]
    exact h
theorem Stt.wipe (h : Stt T b vb Γ σ F H B O) : ∀ vs : List Nat, ∃ O', (∀ a, O' a → O a) ∧ Stt T b vb (wipeG Γ vs) (L2.wipe σ vs) F H B O'
  | [] => ⟨O, fun _ z => z, h⟩
  | v :: vs => by
    obtain ⟨O1, s1, h1⟩ := h.wipe vs
    obtain ⟨O2, s2, h2⟩ := h1.setNo v
    exact ⟨O2, fun a z => s1 a (s2 a z), h2⟩
theorem wipe_get {σ : L2.St} {j : Nat} : ∀ {vs : List Nat}, (L2.wipe σ vs)[j]? = if j ∈ vs then (σ[j]?).map (fun _ => none) else σ[j]?
  | [] => by rw [if_neg (by simp)]; rfl
  | v :: vs => by
    unfold L2.wipe
    have ih := wipe_get (σ := σ) (j := j) (vs := vs)
    by_cases hj : v = j
    · subst hj
      rw [if_pos List.mem_cons_self, List.getElem?_set]
      rw [if_pos rfl, L2.wipe_length]
      by_cases hl : v < σ.length
      · rw [if_pos hl, List.getElem?_eq_getElem hl]; rfl
      · rw [if_neg hl, List.getElem?_eq_none (Nat.le_of_not_lt hl)]; rfl
    · rw [List.getElem?_set_ne hj, ih]
      by_cases hm : j ∈ vs
      · rw [if_pos hm, if_pos (List.mem_cons_of_mem _ hm)]
      · rw [if_neg hm, if_neg (by simp only [List.mem_cons, not_or]; exact ⟨fun e => hj e.symm, hm⟩)]
theorem wipe_eq {σ σ' : L2.St} {is vs : List Nat} (hk : ∀ j, j ∉ is → σ'[j]? = (L2.wipe σ vs)[j]?) (hl : σ'.length = (L2.wipe σ vs).length) (his : ∀ j ∈ is, j ∈ vs) : L2.wipe σ' vs = L2.wipe σ vs := by
  refine List.ext_getElem? fun j => ?_
  rw [wipe_get]
  by_cases hj : j ∈ vs
  · rw [if_pos hj, wipe_get, if_pos hj]
    have e : (σ'[j]?).isSome = (σ[j]?).isSome := by
      rw [L2.wipe_length] at hl
      by_cases h : j < σ.length
      · rw [List.getElem?_eq_getElem h, List.getElem?_eq_getElem (by omega)]; rfl
      · rw [List.getElem?_eq_none (by omega), List.getElem?_eq_none (by omega)]
    revert e
    cases σ'[j]? <;> cases σ[j]? <;> intro e <;> first | rfl | cases e
  · rw [if_neg hj, hk j fun z => hj (his j z)]
/-- an object that is one's own, new since the start, is written -/
theorem Grow.own {M : AS} {p : Addr} {o u : HO} (g : Grow M F H F' H') (n0 : H p = none) (f1 : F' p = none) (h1 : H' p = some u) : Grow M F H F' (upd H' p o) where
  f := g.f
  h := fun a w e nm => by rw [upd_ne (ne_of_none e n0)]; exact g.h a w e nm
  s := fun a w e => by rw [upd_ne (ne_of_none e f1)]; exact g.s a w e
  n := g.n
  l := fun a w e => by rw [upd_ne (ne_of_none e n0)]; exact g.l a w e
end
section
variable {X : Cx} {E : XK} {Γ : Envt} {β : Type} {m : Type → Type} [Mo β m] {α γ δ ι : Type}
theorem PostR.run_noErr {mm : m α} {b : β} {P : α × β → Prop} {Ee : Err → Prop} (h : PostR (Mo.run (Mo.noErr mm) b) P Ee) : PostR (Mo.run mm b) P (fun _ => False) := by
  rw [Mo.run_noErr] at h
  revert h
  cases Mo.run mm b <;> exact id
/-! ### the tests of a clause -/
def RTs (X : Cx) (ifs : List Expr) : L2.TT := fun σ H Q => ∀ (pins : List (Addr × Obj)) (s : Shared), Inv X pins σ H s → wpAny (model X.prog X.w) X.A (forIn ifs true fun c r => if r = true then do let ok ← isTrue c X.env (eval c X.env); pure (ForInStep.yield ok) else pure (ForInStep.yield r)) (TP X pins σ Q) X.xe s
def TTs (X : Cx) (E : XK) (Γ : Envt) (ifs : List Expr) (mm : m Bool) : Prop :=
  ∀ (b : β) (vb : List V) (σ : L2.St) (F H : Hp) (B O : AS), Stt (Mo.T m) b vb Γ σ F H B O → ∀ Q : Bool → Hp → Prop, PostR (Mo.run mm b) (KT m vb Γ σ F H B O Q) (KX X.K F H B E) → RTs X ifs σ H Q
theorem tts_nil : TTs (m := m) X E Γ [] (pure true) := fun bb vb σ F H B O st Q q pins s I => pts_nil.run pins s σ H Q I (q.run_pure F H B (Grow.rf st.sub) (fun _ z => .inl z) st)
theorem tts_one {c : Expr} {mt : m Bool} (h : TTt X E Γ c mt) : TTs X E Γ [c] mt := fun bb vb σ F H B O st Q q pins s I => (pts_one (rt_pt c)).run pins s σ H Q I (h bb vb σ F H B O st Q q)
abbrev E0' : XK := fun _ _ _ => False
/-- the reading of [elt for tg in iter if ..] -/
theorem lc_read {elt tg iter : Expr} {ifs : List Expr} {scope : Scope} {own : List (Str × Nat)} {t : Ty ι} {u : Ty γ} {mi : m (List ι)} {is : List Nat} {up : ι → Envt → Envt} {mt : ι → m Bool} {me : ι → m γ}
    (hi : TIt X E Γ tg iter t mi) (his : ∀ j ∈ is, j ∈ own.map (·.2))
    (hg : ∀ (s : Shared) (H : Hp) (C : Addr) (cl : List (Str × Addr)) (fp : List Addr), TT (X.blk s H scope (compEnvC scope cl C X.env) fp) tg t is up)
    (ht : ∀ (s : Shared) (H : Hp) (C : Addr) (cl : List (Str × Addr)) (fp : List Addr) (x : ι), TTs (X.blk s H scope (compEnvC scope cl C X.env) fp) E0' (up x (wipeG Γ (own.map (·.2)))) ifs (mt x))
    (he : ∀ (s : Shared) (H : Hp) (C : Addr) (cl : List (Str × Addr)) (fp : List Addr) (x : ι), TE (X.blk s H scope (compEnvC scope cl C X.env) fp) E0' (up x (wipeG Γ (own.map (·.2)))) elt u (me x))
    {bb : β} {vb : List V} {σ : L2.St} {F H : Hp} {B O : AS} (st : Stt (Mo.T m) bb vb Γ σ F H B O) {Q : VK} (q : PostR (Mo.run (mi >>= mapF fun x => Mo.noErr (mt x >>= fun b => if b = true then me x >>= fun y => pure (some y) else pure none)) bb) (KE (m := m) vb Γ σ F H B O (PN u) Q) (KX X.K F H B E)) :
    tLc (RI X tg iter) (fun v σ H Q => ∀ s0 H0 C cl fp, RGt (X.blk s0 H0 scope (compEnvC scope cl C X.env) fp) tg v σ H Q) (fun σ H Q => ∀ s0 H0 C cl fp, RTs (X.blk s0 H0 scope (compEnvC scope cl C X.env) fp) ifs σ H Q) (fun σ H Q => ∀ s0 H0 C cl fp, RE (X.blk s0 H0 scope (compEnvC scope cl C X.env) fp) elt σ H Q) (own.map (·.2)) σ H Q := by
  refine hi bb vb σ F H B O st _ (q.run_bind.mono (fun p1 q1 J F1 H1 B1 g1 b1 st1 w zl => ?_) fun _ z => z)
  intro D hD
  have nB1 : ¬ B1 D := (st1.cc (H0 := H1) fun _ z => z).fresh hD
  refine ⟨fun i mm H' => mm = p1.1.length - i ∧ i ≤ p1.1.length ∧ ∃ (F' : Hp) (B' : AS) (b' : β) (av : List V) (ax : List γ), Grow B1 F1 H1 F' H' ∧ (∀ a, B' a → B1 a ∨ H1 a = none) ∧ Stt (Mo.T m) b' vb Γ σ F' H' B' O ∧ H' D = some (.lst av) ∧ F' D = none ∧ ¬ B' D ∧ Reps u F' av ax ∧ ax.length ≤ i ∧
    PostR (Mo.run (mapF (fun x => Mo.noErr (mt x >>= fun b => if b = true then me x >>= fun y => pure (some y) else pure none)) (p1.1.drop i)) b') (fun p => KE (m := m) vb Γ σ F1 H1 B1 O (PN u) Q (ax ++ p.1, p.2)) (KX X.K F1 H1 B1 E), ⟨_, rfl, Nat.zero_le _, F1, B1, p1.2, [], [], ?_, fun _ z => .inl z, st1.grow0 (Grow.newO st1.sub hD), upd_same, st1.sub.none hD, nB1, trivial, Nat.le_refl _, ?_⟩, fun i mm H' hW => ?_⟩
  · exact (Grow.newO st1.sub hD).wk fun _ z => z.elim
  · rw [List.drop_zero]
    exact q1.mono (fun p k => by rw [List.nil_append]; exact k.tr g1 b1) fun er z => z.tr g1 b1
  obtain ⟨rfl, hin, F', B', b', av, ax, g, hb, st2, hD', fD, nD, rr, hal, post⟩ := hW
  by_cases hlt : i < p1.1.length
  · refine .inr ⟨w.go i H' (g.f.tr st2.sub) hlt, fun H'' => (i + 1) ≤ p1.1.length ∧ ∃ (F' : Hp) (B' : AS) (b' : β) (av : List V) (ax : List γ), Grow B1 F1 H1 F' H'' ∧ (∀ a, B' a → B1 a ∨ H1 a = none) ∧ Stt (Mo.T m) b' vb Γ σ F' H'' B' O ∧ H'' D = some (.lst av) ∧ F' D = none ∧ ¬ B' D ∧ Reps u F' av ax ∧ ax.length ≤ i + 1 ∧
      PostR (Mo.run (mapF (fun x => Mo.noErr (mt x >>= fun b => if b = true then me x >>= fun y => pure (some y) else pure none)) (p1.1.drop (i + 1))) b') (fun p => KE (m := m) vb Γ σ F1 H1 B1 O (PN u) Q (ax ++ p.1, p.2)) (KX X.K F1 H1 B1 E), fun H'' hn => ⟨_, by omega, rfl, hn⟩, fun v H'' hy => ?_⟩
    obtain ⟨F'', gy, rx⟩ := w.yld i H' v H'' F' p1.1[i] g.f st2.sub (List.getElem?_eq_getElem hlt) hy
    rw [List.drop_eq_getElem_cons hlt] at post
    have st3 := st2.grow0 gy
    obtain ⟨Ow, ow, stw⟩ := st3.wipe (own.map (·.2))
    intro s0 H0 C cl fp
    refine hg s0 H0 C cl fp v p1.1[i] stw rx _ fun σ2 O2 o2 k2 l2 st4 => ⟨wipe_eq k2 l2 his, ?_⟩
    intro s0 H0 C cl fp
    have post1 := (PostR.run_bind (m := m) post)
    refine ht s0 H0 C cl fp p1.1[i] b' vb σ2 F'' H'' B' O2 st4 _ (post1.run_noErr.run_bind.mono (fun p2 q2 F3 H3 B3 g3 b3 st5 => ?_) fun _ z => z.elim)
    have hD2 : H'' D = some (.lst av) := gy.h D _ hD' id
    have hD3 : H3 D = some (.lst av) := g3.h D _ hD2 nD
    have fD2 : F'' D = none := gy.n D _ fD hD'
    have fD3 : F3 D = none := g3.n D _ fD2 hD2
    have nD3 : ¬ B3 D := nb_stay b3 nD hD2
    have G3 : Grow B1 F1 H1 F3 H3 := (g.tr0 gy).tr g3 hb
    have hb3 : ∀ a, B3 a → B1 a ∨ H1 a = none := back (g.tr0 gy) hb b3
    cases hp2 : p2.1 with
    | false =>
      rw [hp2, if_neg Bool.false_ne_true] at q2
      dsimp only
      rw [if_neg Bool.false_ne_true]
      refine ⟨hlt, F3, B3, p2.2, av, ax, G3, hb3, ?_, hD3, fD3, nD3, rr.mono (gy.f.tr g3.f), Nat.le_succ_of_le hal, ?_⟩
      · exact st1.growB G3 hb3 st5.bx st5.bf
      · exact (q2.run_pure.run_bind).mono (fun p k => k.run_pure) fun _ z => z
    | true =>
      rw [hp2, if_pos rfl] at q2
      dsimp only
      rw [if_pos rfl]
      intro s0 H0 C cl fp
      refine he s0 H0 C cl fp p1.1[i] p2.2 vb σ2 F3 H3 B3 O2 st5 _ (q2.run_bind.mono (fun p3 q3 y F4 H4 B4 g4 b4 st6 r4 => ?_) fun _ z => z.elim)
      have hD4 : H4 D = some (.lst av) := g4.h D _ hD3 nD3
      have fD4 : F4 D = none := g4.n D _ fD3 hD3
      have nD4 : ¬ B4 D := nb_stay b4 nD3 hD3
      have G4 : Grow B1 F1 H1 F4 H4 := G3.tr g4 hb3
      have hb4 : ∀ a, B4 a → B1 a ∨ H1 a = none := back G3 hb3 b4
      have lz : av.length < sizeLine := by rw [rr.length]; exact Nat.lt_of_le_of_lt hal (Nat.lt_of_lt_of_le hlt zl)
      have G5 : Grow B1 F1 H1 F4 (upd H4 D (.lst (av ++ [y]))) := G4.own hD fD4 hD4
      refine ⟨av, hD4, lz, hlt, F4, B4, p3.2, av ++ [y], ax ++ [p3.1], G5, hb4, ?_, upd_same, fD4, nD4, (rr.mono ((gy.f.tr g3.f).tr g4.f)).append ⟨r4, trivial⟩, by rw [List.length_append]; exact Nat.succ_le_succ hal, ?_⟩
      · refine st1.growB G5 hb4 ((Mo.T m).mono (Sub.rf F4) (fun a ha => upd_ne fun z => nD4 (z ▸ ha)) st6.bx) st6.bf
      · have q4 := q3.run_pure
        refine (q4.run_bind).mono (fun p k => ?_) fun _ z => z
        have k' := k.run_pure
        rw [List.append_assoc]
        exact k'
  · have hi' : i = p1.1.length := Nat.le_antisymm hin (Nat.le_of_not_lt hlt)
    refine .inl ⟨w.stop i H' (g.f.tr st2.sub) (Nat.le_of_not_lt hlt), ?_⟩
    rw [hi', List.drop_length] at post
    have k := post.run_pure
    rw [List.append_nil] at k
    exact k (.ref D) F' H' B' g hb st2 ⟨D, av, rfl, hD', fD, nD, hD, rr, Nat.le_trans hal (by rw [hi']; exact zl)⟩
/-- [elt for tg in iter if ..] -/
theorem te_lc {elt tg iter : Expr} {ifs : List Expr} {scope : Scope} {own : List (Str × Nat)} {pos : Pos} {t : Ty ι} {u : Ty γ} {mi : m (List ι)} {is : List Nat} {up : ι → Envt → Envt} {mt : ι → m Bool} {me : ι → m γ}
    (hc : X.calm = true) (hN : X.N.Nodup) (hi : TIt X E Γ tg iter t mi) (ok : BlkOk X.N X.env.scope scope own) (his : ∀ j ∈ is, j ∈ own.map (·.2))
    (hg : ∀ (s : Shared) (H : Hp) (C : Addr) (cl : List (Str × Addr)) (fp : List Addr), TT (X.blk s H scope (compEnvC scope cl C X.env) fp) tg t is up)
    (ht : ∀ (s : Shared) (H : Hp) (C : Addr) (cl : List (Str × Addr)) (fp : List Addr) (x : ι), TTs (X.blk s H scope (compEnvC scope cl C X.env) fp) E0' (up x (wipeG Γ (own.map (·.2)))) ifs (mt x))
    (he : ∀ (s : Shared) (H : Hp) (C : Addr) (cl : List (Str × Addr)) (fp : List Addr) (x : ι), TE (X.blk s H scope (compEnvC scope cl C X.env) fp) E0' (up x (wipeG Γ (own.map (·.2)))) elt u (me x))
    (hs : ∀ x, foldedSetIterable iter X.env x = pure x := by intro _; rfl) :
    TG X E Γ (.ListComp elt [⟨tg, iter, ifs, 0⟩] scope pos) (PN u) (mi >>= mapF fun x => Mo.noErr (mt x >>= fun b => if b = true then me x >>= fun y => pure (some y) else pure none)) := fun bb vb σ F H B O st Q q =>
  re_of (pe_lc hc hN (ri_pi tg iter) ok (g := fun v σ H Q => ∀ s0 H0 C cl fp, RGt (X.blk s0 H0 scope (compEnvC scope cl C X.env) fp) tg v σ H Q) (fun s0 H0 C cl fp => ⟨fun pins s σ H v u Q I r h => h s0 H0 C cl fp pins s u I r⟩)
    (tt := fun σ H Q => ∀ s0 H0 C cl fp, RTs (X.blk s0 H0 scope (compEnvC scope cl C X.env) fp) ifs σ H Q) (fun s0 H0 C cl fp => ⟨fun pins s σ H Q I h => h s0 H0 C cl fp pins s I⟩)
    (te := fun σ H Q => ∀ s0 H0 C cl fp, RE (X.blk s0 H0 scope (compEnvC scope cl C X.env) fp) elt σ H Q) (fun s0 H0 C cl fp => ⟨fun pins s σ H Q I h => h s0 H0 C cl fp pins s I⟩) hs) (lc_read hi his hg ht he st q)
end
end TL
/-! TL8: statements. -/
namespace TL
open PySem L2
/-- how a block ends: it falls through, goes to the loop's next turn, leaves the loop, hands back -/
inductive Fl (S L R : Type) | nx (s : S) | ct (l : L) | bk (l : L) | rt (r : R)
def seqF {m : Type → Type} [Monad m] {S1 S L R : Type} (x : m (Fl S1 L R)) (k : S1 → m (Fl S L R)) : m (Fl S L R) := x >>= fun f => match f with
  | .nx s => k s
  | .ct l => pure (.ct l)
  | .bk l => pure (.bk l)
  | .rt r => pure (.rt r)
/-- a loop -/
def forF {m : Type → Type} [Monad m] {ι S L R : Type} (f : S → ι → m (Fl S S R)) : List ι → S → m (Fl S L R)
  | [], s => pure (.nx s)
  | x :: r, s => f s x >>= fun e => match e with
    | .nx s' => forF f r s'
    | .ct s' => forF f r s'
    | .bk s' => pure (.nx s')
    | .rt v => pure (.rt v)
def whileF {m : Type → Type} [Monad m] {β : outParam Type} [Mo β m] {S L R : Type} (c : S → m Bool) (f : S → m (Fl S S R)) : Nat → S → m (Fl S L R)
  | 0, _ => Mo.lift .bad
  | n + 1, s => c s >>= fun b => if b = true then f s >>= fun e => match e with
      | .nx s' => whileF c f n s'
      | .ct s' => whileF c f n s'
      | .bk s' => pure (.nx s')
      | .rt v => pure (.rt v)
    else pure (.nx s)
/-- less is told of the names -/
inductive EnvLe : Envt → Envt → Prop
  | nil : EnvLe [] []
  | no {Γ' Γ : Envt} {s : Sl} : EnvLe Γ' Γ → EnvLe (.no :: Γ') (s :: Γ)
  | eq {Γ' Γ : Envt} {s : Sl} : EnvLe Γ' Γ → EnvLe (s :: Γ') (s :: Γ)
theorem EnvLe.len : ∀ {Γ' Γ : Envt}, EnvLe Γ' Γ → Γ'.length = Γ.length
  | _, _, .nil => rfl
  | _, _, .no h => congrArg (· + 1) h.len
  | _, _, .eq h => congrArg (· + 1) h.len
theorem EnvLe.at_ : ∀ {Γ' Γ : Envt}, EnvLe Γ' Γ → ∀ i, Γ'.getD i .no = .no ∨ Γ'.getD i .no = Γ.getD i .no
  | _, _, .nil, _ => .inl rfl
  | _, _, .no h, 0 => .inl rfl
  | _, _, .eq h, 0 => .inr rfl
  | _, _, .no h, i + 1 => h.at_ i
  | _, _, .eq h, i + 1 => h.at_ i
theorem EnvLe.rf : ∀ Γ : Envt, EnvLe Γ Γ
  | [] => .nil
  | _ :: Γ => .eq (EnvLe.rf Γ)
section
variable {β : Type} {T : OTs β} {b : β} {vb : List V} {Γ Γ' : Envt} {σ : L2.St} {F H F' H' : Hp} {B O : AS}
theorem Stt.ol (h : Stt T b vb Γ σ F H B O) {a : Addr} (ha : O a) : ∃ o, H a = some o := by
  obtain ⟨l, s, r, f0, bo, ps, ss, u, d⟩ := h
  obtain ⟨i, z⟩ := (u a).mp ha
  have q := ss i
  revert q
  cases hs : Γ.getD i .no with
  | no => exact fun q => (q a z).elim
  | fz t x => exact fun q => (q.2 a z).elim
  | ow t x => exact fun q => let ⟨⟨_, _, r⟩, _⟩ := q; t.live r z
  | bw t x => exact fun q => (q.2 a z).elim
  | bx k => exact fun q => (q.2 a z).elim
theorem Stt.weak (h : Stt T b vb Γ σ F H B O) (le : EnvLe Γ' Γ) : ∃ O', (∀ a, O' a → O a) ∧ Stt T b vb Γ' σ F H B O' := by
  obtain ⟨l, s, rb, f0, bo, ps, ss, u, d⟩ := h
  have hc : ∀ i, (∃ z : Γ'.getD i .no = .no, True) ∨ Γ'.getD i .no = Γ.getD i .no := fun i => (le.at_ i).imp (fun z => ⟨z, trivial⟩) id
  have sub' : ∀ a, (∃ j, (Γ'.getD j .no ≠ .no ∧ ps j a)) → O a := fun a ⟨j, _, z⟩ => (u a).mpr ⟨j, z⟩
  refine ⟨fun a => ∃ j, (Γ'.getD j .no ≠ .no ∧ ps j a), sub', l.trans le.len.symm, s, rb, f0, fun a ha z => bo a ha (sub' a z), fun j a => Γ'.getD j .no ≠ .no ∧ ps j a, fun j => ?_, fun a => Iff.rfl, fun j k hjk a ha z => d j k hjk a ha.2 z.2⟩
  rcases hc j with ⟨e, _⟩ | e
  · rw [e]; exact fun a z => z.1 e
  · by_cases hn : Γ'.getD j .no = .no
    · rw [hn]; exact fun a z => z.1 hn
    · have ep : (fun a => Γ'.getD j .no ≠ .no ∧ ps j a) = ps j := funext fun a => propext ⟨fun z => z.2, fun z => ⟨hn, z⟩⟩
      show SlOk vb F H _ _ _ (fun a => Γ'.getD j .no ≠ .no ∧ ps j a)
      rw [ep, e]
      exact (ss j).wkO fun a z => z.imp id (sub' a)
/-- behind a step a name is given something new of one's own -/
theorem Stt.setO {F1 H1 : Hp} {b' : β} {B' : AS} (h : Stt T b vb Γ σ F H B O) (g : Grow B F H F1 H1) (hb : ∀ a, B' a → B a ∨ H a = none) (rb : T.rep F1 H1 vb b' B') (bf : ∀ a, B' a → F1 a = none)
    {i : Nat} (hi : i < Γ.length) {α : Type} {t : OTy α} {x : α} {v : V} {p : AS} (r : t.rep F1 H1 v x p) (n0 : ∀ a, p a → H a = none) (f1 : ∀ a, p a → F1 a = none) (nb : ∀ a, p a → ¬ B' a) :
    ∃ O', (∀ a, O' a → O a ∨ H a = none) ∧ Stt T b' vb (Γ.set i (.ow t x)) (σ.set i (some v)) F1 H1 B' O' := by
  have st1 := h.growB g hb rb bf
  have ol := fun a ha => h.ol (a := a) ha
  obtain ⟨l, s, _, f0, bo, ps, ss, u, d⟩ := h
  have pO : ∀ a, p a → ¬ O a := fun a ha z => by
    obtain ⟨o, e⟩ := ol a z
    rw [n0 a ha] at e; cases e
  have sub' : ∀ a, (∃ j, butp ps i j a) → O a := fun a ⟨j, _, z⟩ => (u a).mpr ⟨j, z⟩
  refine ⟨fun a => p a ∨ ∃ j, butp ps i j a, fun a z => z.elim (fun z => .inr (n0 a z)) fun z => .inl (sub' a z), ?_, g.s, rb, bf, fun a ha z => z.elim (fun z => nb a z ha) fun z => st1.bo a ha (sub' a z), fun j a => (j = i ∧ p a) ∨ butp ps i j a, fun j => ?_, fun a => ?_, fun j k hjk a ha z => ?_⟩
  · rw [List.length_set, List.length_set]; exact l
  · by_cases hj : j = i
    · subst hj
      rw [getD_set hi, slot_set (by rw [l]; exact hi)]
      have ep : (fun a => (j = j ∧ p a) ∨ butp ps j j a) = p := funext fun a => propext ⟨fun z => z.elim (fun z => z.2) fun z => (z.1 rfl).elim, fun z => .inl ⟨rfl, z⟩⟩
      show SlOk vb F1 H1 _ _ _ (fun a => (j = j ∧ p a) ∨ butp ps j j a)
      rw [ep]
      exact ⟨⟨v, rfl, r⟩, f1⟩
    · rw [getD_set_ne hj, slot_set_ne hj]
      have ep : (fun a => (j = i ∧ p a) ∨ butp ps i j a) = ps j := funext fun a => propext ⟨fun z => z.elim (fun z => (hj z.1).elim) fun z => z.2, fun z => .inr ⟨hj, z⟩⟩
      show SlOk vb F1 H1 _ _ _ (fun a => (j = i ∧ p a) ∨ butp ps i j a)
      rw [ep]
      refine (ss j).grow g.f (fun a o e q => g.h a o e fun z => ?_) g.n fun a z => ?_
      · rcases q with q | q
        · exact bo a z ((u a).mpr ⟨j, q⟩)
        · exact q (.inl z)
      · rcases z with z | z | z
        · exact (hb a z).imp .inl id
        · exact .inr (n0 a z)
        · exact .inl (.inr (sub' a z))
  · constructor
    · rintro (z | ⟨j, z⟩)
      · exact ⟨i, .inl ⟨rfl, z⟩⟩
      · exact ⟨j, .inr z⟩
    · rintro ⟨j, z | z⟩
      · exact .inl z.2
      · exact .inr ⟨j, z⟩
  · rcases ha with ha | ha
    · rcases z with z | z
      · exact hjk (ha.1.trans z.1.symm)
      · exact pO a ha.2 (sub' a ⟨k, z⟩)
    · rcases z with z | z
      · exact pO a z.2 (sub' a ⟨j, ha⟩)
      · exact d j k hjk a ha.2 z.2
end
/-- the state within a def's body: since the entry (F0, H0) only M has changed -/
def SS {β : Type} (T : OTs β) (M : AS) (F0 H0 Fi : Hp) (b : β) (vb : List V) (Γ : Envt) (σ : L2.St) (F H : Hp) : Prop :=
  ∃ B O, Stt T b vb Γ σ F H B O ∧ Grow M F0 H0 F H ∧ (∀ a, B a → M a ∨ H0 a = none) ∧ (∀ a, O a → H0 a = none) ∧ Sub Fi F
section
variable {S S1 L R : Type} {X : Cx} {E : XK} {Γ : Envt} {β : Type} {m : Type → Type} [Mo β m] {α γ δ ι : Type} {t : Ty α} {u : Ty γ} {a c e tg iter : Expr} {es : List Expr} {pos : Pos} {ma : m α} {mt : m Bool} {rest body orelse sts : List Stmt} {Γn : Option (S → Envt)} {Γl : L → Envt} {P : PR R}
structure Endt (S L R : Type) where
  nx : Option (S → Envt)
  lp : L → Envt
  rt : PR R
def PostB (T : OTs β) (M : AS) (F0 H0 Fi : Hp) (vb : List V) (En : Endt S L R) (D : Ends) : Fl S L R × β → Prop := fun p => match p.1 with
  | .nx s => (match En.nx with
    | some Γn => ∀ σ F H, SS T M F0 H0 Fi p.2 vb (Γn s) σ F H → D.nx σ H
    | none => True)
  | .ct l => ∀ σ F H, SS T M F0 H0 Fi p.2 vb (En.lp l) σ F H → D.ct σ H
  | .bk l => ∀ σ F H, SS T M F0 H0 Fi p.2 vb (En.lp l) σ F H → D.bk σ H
  | .rt r => ∀ v F H B, Grow M F0 H0 F H → (∀ a, B a → M a ∨ H0 a = none) → (∀ a, B a → F a = none) → T.rep F H vb p.2 B → En.rt.rep r v F H B H0 → D.rt v H
/-- a block of statements -/
def TB (X : Cx) (E : XK) (Γ : Envt) (sts : List Stmt) (En : Endt S L R) (mm : m (Fl S L R)) : Prop :=
  ∀ (M : AS) (F0 H0 Fi : Hp) (b : β) (vb : List V) (σ : L2.St) (F H : Hp), SS (Mo.T m) M F0 H0 Fi b vb Γ σ F H → ∀ D : Ends, PostR (Mo.run mm b) (PostB (Mo.T m) M F0 H0 Fi vb En D) (KX X.K F0 H0 M E) → RB X sts D σ H
variable {En : Endt S L R}
theorem SS.weak {T : OTs β} {M : AS} {F0 H0 Fi : Hp} {b : β} {vb : List V} {Γ Γ' : Envt} {σ : L2.St} {F H : Hp} (h : SS T M F0 H0 Fi b vb Γ σ F H) (le : EnvLe Γ' Γ) : SS T M F0 H0 Fi b vb Γ' σ F H := by
  obtain ⟨B, O, st, g, hb, ho, sF⟩ := h
  obtain ⟨O', s, st'⟩ := st.weak le
  exact ⟨B, O', st', g, hb, fun a z => ho a (s a z), sF⟩
/-- behind an expression -/
theorem SS.step {T : OTs β} {M : AS} {F0 H0 Fi : Hp} {b' : β} {vb : List V} {Γ' : Envt} {σ' : L2.St} {F H F1 H1 : Hp} {B O B1 O1 : AS} (g0 : Grow M F0 H0 F H) (hb : ∀ a, B a → M a ∨ H0 a = none) (ho : ∀ a, O a → H0 a = none) (sF : Sub Fi F)
    (g : Grow B F H F1 H1) (hb1 : ∀ a, B1 a → B a ∨ H a = none) (st : Stt T b' vb Γ' σ' F1 H1 B1 O1) (ho1 : ∀ a, O1 a → O a ∨ H a = none) : SS T M F0 H0 Fi b' vb Γ' σ' F1 H1 :=
  ⟨B1, O1, st, g0.tr g hb, back g0 hb hb1, fun a z => (ho1 a z).elim (ho a) fun q => g0.non q, sF.tr g.f⟩
/-! ### the end of a block -/
theorem tb_nil {Γn : S → Envt} (s : S) (le : EnvLe (Γn s) Γ) : TB (m := m) X E Γ [] ⟨some Γn, Γl, P⟩ (pure (.nx s)) := fun M F0 H0 Fi b vb σ F H ss D q => rb_of pss_nil (q.run_pure σ F H (ss.weak le))
theorem tb_cont (l : L) (le : EnvLe (En.lp l) Γ) : TB (m := m) X E Γ (.Continue pos :: rest) En (pure (.ct l)) := fun M F0 H0 Fi b vb σ F H ss D q => rb_cons (rs_of ps_continue (q.run_pure σ F H (ss.weak le)))
theorem tb_brk (l : L) (le : EnvLe (En.lp l) Γ) : TB (m := m) X E Γ (.Break pos :: rest) En (pure (.bk l)) := fun M F0 H0 Fi b vb σ F H ss D q => rb_cons (rs_of ps_break (q.run_pure σ F H (ss.weak le)))
/-! ### return -/
theorem tb_ret {me : m R} (he : TG X E Γ e En.rt me) : TB (m := m) X E Γ (.Return (some e) pos :: rest) En (me >>= fun x => pure (.rt x)) := fun M F0 H0 Fi b vb σ F H ⟨B, O, st, g0, hb, ho, sF⟩ D q =>
  rb_cons (rs_of (ps_ret (re_pe e)) (he b vb σ F H B O st _ (q.run_bind.mono (fun p k v F1 H1 B1 g b1 st1 r => k.run_pure v F1 H1 B1 (g0.tr g hb) (back g0 hb b1) st1.bf st1.bx (En.rt.anti r fun a z => g0.non z)) fun er z => z.tr g0 hb)))
/-- a list of one's own is handed back -/
theorem tb_retO {ml : List α} {En : Endt S L (List α)} (hP : En.rt = PN t) (i : Nat) {nm : Str} {p : Pos} (hv : Vis X.env.scope nm) (hΓ : Γ[i]? = some (.ow (oList t) ml)) (hN : X.N[i]? = some nm) (hd : (nm == ("__debug__" : Str)) = false := by decide) (hcd : (nm == ("__classdict__" : Str)) = false := by decide) :
    TB (m := m) X E Γ (.Return (some (.Name nm p)) pos :: rest) En (pure (.rt ml)) := fun M F0 H0 Fi b vb σ F H ⟨B, O, st, g0, hb, ho, sF⟩ D q => by
  obtain ⟨pp, ⟨⟨v, e1, a, vs, e2, h2, r, zl, w⟩, ff⟩, po⟩ := st.at_ hΓ
  refine rb_cons (rs_of (ps_ret (pe_var hN hv hd hcd)) ⟨v, slot_get e1, q.run_pure v F H B g0 hb st.bf st.bx ?_⟩)
  rw [hP]
  have pa : pp a := by rw [w]
  exact ⟨a, vs, e2, h2, ff a pa, fun z => st.bo a z (po a pa), ho a (po a pa), r, zl⟩
theorem tb_retN {r0 : R} (hr : ∀ F H B H0, En.rt.rep r0 .non F H B H0) : TB (m := m) X E Γ (.Return none pos :: rest) En (pure (.rt r0)) := fun M F0 H0 Fi b vb σ F H ⟨B, O, st, g0, hb, ho, sF⟩ D q =>
  rb_cons (rs_of ps_retN (q.run_pure .non F H B g0 hb st.bf st.bx (hr F H B H0)))
/-! ### assignments -/
theorem tb_asg {is : List Nat} {up : α → Envt → Envt} {mr : α → m (Fl S L R)} (ht : TT X tg t is up) (he : TE X E Γ e t ma) (hr : ∀ x, TB X E (up x Γ) rest En (mr x)) (hs : swapsWithSole [tg] e pos.line X.env = pure false := by rfl) (hw : swappedStores [tg] e X.env = pure none := by rfl)
    (h1 : (assignEach [tg] X.env).map (·.2) = [assign tg X.env] := by rfl) : TB X E Γ (.Assign [tg] e pos :: rest) En (ma >>= mr) := fun M F0 H0 Fi b vb σ F H ⟨B, O, st, g0, hb, ho, sF⟩ D q =>
  rb_cons (rs_of (ps_asg (re_pe e) (rg_pg tg) hs hw h1) (he b vb σ F H B O st _ (q.run_bind.mono (fun p k v F1 H1 B1 g b1 st1 r =>
    ht v p.1 st1 r _ fun σ' O' o' _ _ st2 => hr p.1 M F0 H0 Fi p.2 vb σ' F1 H1 (SS.step g0 hb ho sF g b1 st2 fun a z => .inl (o' a z)) D k) fun er z => z.tr g0 hb)))
theorem asgN_end {i : Nat} {M : AS} {F0 H0 Fi F H : Hp} {vb : List V} {σ : L2.St} {B O : AS} {b : β} {p : List α × β} {W : L2.St → Hp → Prop} (hl : i < Γ.length) (g0 : Grow M F0 H0 F H) (hb : ∀ a, B a → M a ∨ H0 a = none) (ho : ∀ a, O a → H0 a = none) (sF : Sub Fi F) (st : Stt (Mo.T m) b vb Γ σ F H B O)
    (hr : ∀ F1 H1 σ1, SS (Mo.T m) M F0 H0 Fi p.2 vb (Γ.set i (.ow (oList t) p.1)) σ1 F1 H1 → W σ1 H1) : KE (m := m) vb Γ σ F H B O (PN t) (fun v H1 => W (σ.set i (some v)) H1) p := fun v F1 H1 B1 g b1 st1 ⟨p1, vs, ev, hp, fp, nb, n0, r, zl⟩ => by
  obtain ⟨O', o', st2⟩ := st.setO g b1 st1.bx st1.bf hl (t := oList t) (x := p.1) (v := v) (p := fun b => b = p1) ⟨p1, vs, ev, hp, r, zl, rfl⟩ (fun a z => by rw [show a = p1 from z]; exact n0) (fun a z => by rw [show a = p1 from z]; exact fp) fun a z => by rw [show a = p1 from z]; exact nb
  exact hr F1 H1 _ (SS.step g0 hb ho sF g b1 st2 o')
/-- a name = a new list, from now on one's own -/
theorem tb_asgN (i : Nat) {nm : Str} {p : Pos} {ml : m (List α)} {mr : List α → m (Fl S L R)} (hN : X.N.Nodup) (hi : X.N[i]? = some nm) (hx : Loc X.env.scope nm) (hl : i < Γ.length) (he : TG X E Γ e (PN t) ml) (hr : ∀ xs, TB X E (Γ.set i (.ow (oList t) xs)) rest En (mr xs))
    (hs : swapsWith e (some (.Name nm p)) pos.line X.env = pure false := by rfl) (hf : X.fn nm = true ∨ X.env.scope.names.lookup nm = some .local := by first | exact .inl rfl | exact .inr rfl | assumption) : TB X E Γ (.Assign [.Name nm p] e pos :: rest) En (ml >>= mr) := fun M F0 H0 Fi b vb σ F H ⟨B, O, st, g0, hb, ho, sF⟩ D q =>
  rb_cons (rs_of (ps_set hN hi hx (re_pe e) hs hf) (he b vb σ F H B O st _ (q.run_bind.mono (fun p k => asgN_end (W := fun s h => RB X rest D s h) hl g0 hb ho sF st fun F1 H1 σ1 ss => hr p.1 M F0 H0 Fi p.2 vb σ1 F1 H1 ss D k) fun er z => z.tr g0 hb)))
/-- y = [..] -/
theorem tb_setLc (i : Nat) {nm : Str} {py : Pos} {elt tg iter : Expr} {ifs : List Expr} {scope : Scope} {own : List (Str × Nat)} {pos' : Pos} {t : Ty ι} {u : Ty γ} {mi : m (List ι)} {is : List Nat} {up : ι → Envt → Envt} {mt : ι → m Bool} {me : ι → m γ} {mr : List γ → m (Fl S L R)}
    (hc : X.calm = true) (hN : X.N.Nodup) (hy : X.N[i]? = some nm) (hyl : X.env.scope.names.lookup nm = some .local) (hl : i < Γ.length) (hsw : swapsWith (.ListComp elt [⟨tg, iter, ifs, 0⟩] scope pos') (some (.Name nm py)) pos.line X.env = pure true)
    (hi : TIt X E Γ tg iter t mi) (ok : BlkOk X.N X.env.scope scope own) (his : ∀ j ∈ is, j ∈ own.map (·.2))
    (hg : ∀ (s : Shared) (H : Hp) (C : Addr) (cl : List (Str × Addr)) (fp : List Addr), TT (X.blk s H scope (compEnvC scope cl C X.env) fp) tg t is up)
    (ht : ∀ (s : Shared) (H : Hp) (C : Addr) (cl : List (Str × Addr)) (fp : List Addr) (x : ι), TTs (X.blk s H scope (compEnvC scope cl C X.env) fp) E0' (up x (wipeG Γ (own.map (·.2)))) ifs (mt x))
    (he : ∀ (s : Shared) (H : Hp) (C : Addr) (cl : List (Str × Addr)) (fp : List Addr) (x : ι), TE (X.blk s H scope (compEnvC scope cl C X.env) fp) E0' (up x (wipeG Γ (own.map (·.2)))) elt u (me x))
    (hr : ∀ xs, TB X E (Γ.set i (.ow (oList u) xs)) rest En (mr xs)) (hs : ∀ x, foldedSetIterable iter X.env x = pure x := by intro _; rfl) :
    TB X E Γ (.Assign [.Name nm py] (.ListComp elt [⟨tg, iter, ifs, 0⟩] scope pos') pos :: rest) En ((mi >>= mapF fun x => Mo.noErr (mt x >>= fun b => if b = true then me x >>= fun y => pure (some y) else pure none)) >>= mr) := fun M F0 H0 Fi b vb σ F H ⟨B, O, st, g0, hb, ho, sF⟩ D q =>
  rb_cons (rs_of (ps_setLc hc hN hy hyl hsw (ri_pi tg iter) ok (g := fun v σ H Q => ∀ s0 H0 C cl fp, RGt (X.blk s0 H0 scope (compEnvC scope cl C X.env) fp) tg v σ H Q) (fun s0 H0 C cl fp => ⟨fun pins s σ H v u Q I r h => h s0 H0 C cl fp pins s u I r⟩)
    (tt := fun σ H Q => ∀ s0 H0 C cl fp, RTs (X.blk s0 H0 scope (compEnvC scope cl C X.env) fp) ifs σ H Q) (fun s0 H0 C cl fp => ⟨fun pins s σ H Q I h => h s0 H0 C cl fp pins s I⟩)
    (te := fun σ H Q => ∀ s0 H0 C cl fp, RE (X.blk s0 H0 scope (compEnvC scope cl C X.env) fp) elt σ H Q) (fun s0 H0 C cl fp => ⟨fun pins s σ H Q I h => h s0 H0 C cl fp pins s I⟩) hs)
    (lc_read hi his hg ht he st (Q := fun v H1 => RB X rest D (σ.set i (some v)) H1) (q.run_bind.mono (fun p k => asgN_end (W := fun s h => RB X rest D s h) hl g0 hb ho sF st fun F1 H1 σ1 ss => hr p.1 M F0 H0 Fi p.2 vb σ1 F1 H1 ss D k) fun er z => z.tr g0 hb)))
end
end TL
/-! TL9: statements, more. -/
namespace TL
open PySem L2
section
variable {β : Type} {T : OTs β} {b : β} {vb : List V} {Γ Γ' : Envt} {σ : L2.St} {F H F' H' : Hp} {B O : AS}
/-- a list of one's own: where it stands, how it is written -/
theorem Stt.upd {α : Type} {t : Ty α} {xs : List α} {i : Nat} (h : Stt T b vb Γ σ F H B O) (e : Γ[i]? = some (.ow (oList t) xs)) :
    ∃ p vs, σ[i]? = some (some (.ref p)) ∧ H p = some (.lst vs) ∧ Reps t F vs xs ∧ F p = none ∧ O p ∧ ¬ B p ∧ xs.length ≤ sizeLine ∧ ∀ vs' xs', Reps t F vs' xs' → xs'.length ≤ sizeLine → Stt T b vb (Γ.set i (.ow (oList t) xs')) σ F (upd H p (.lst vs')) B O := by
  obtain ⟨l, s, rb, f0, bo, ps, ss, u, d⟩ := h
  have hi : i < Γ.length := (List.getElem?_eq_some_iff.mp e).1
  have q := ss i
  rw [List.getD_eq_getElem?_getD, e] at q
  obtain ⟨⟨v, e1, p, vs, e2, hp, r, zl, w⟩, ff⟩ := q
  subst e2
  have pp : ps i p := by rw [w]
  have hO : O p := (u p).mpr ⟨i, pp⟩
  refine ⟨p, vs, slot_get e1, hp, r, ff p pp, hO, fun z => bo p z hO, zl, fun vs' xs' r' z' => ?_⟩
  have neB : ∀ a, B a → a ≠ p := fun a ha z => bo a ha (z ▸ hO)
  refine ⟨by rw [List.length_set]; exact l, fun a o x => ?_, T.mono (Sub.rf F) (fun a ha => upd_ne (neB a ha)) rb, f0, bo, ps, fun j => ?_, u, d⟩
  · rw [upd_ne fun z => by rw [z, ff p pp] at x; cases x]
    exact s a o x
  · by_cases hj : j = i
    · subst hj
      rw [getD_set hi]
      exact ⟨⟨_, e1, p, vs', rfl, upd_same, r', z', w⟩, ff⟩
    · rw [getD_set_ne hj]
      refine (ss j).grow (Sub.rf F) (fun a o x y => ?_) (fun a o x y => x) fun a z => .inl z
      rw [upd_ne fun z => ?_]
      · exact x
      · rcases y with y | y
        · exact d j i hj a y (z ▸ pp)
        · exact y (.inr (z ▸ hO))
end
section
variable {S S1 L R : Type} {X : Cx} {E : XK} {Γ : Envt} {β : Type} {m : Type → Type} [Mo β m] {α γ δ ι : Type} {t : Ty α} {u : Ty γ} {a c e tg iter : Expr} {es : List Expr} {pos : Pos} {ma : m α} {mt : m Bool} {st : Stmt} {rest body orelse sts sa sb : List Stmt} {En : Endt S L R}
/-- the names, written out -/
theorem tb_env (Γ' : Envt) {mm : m (Fl S L R)} (h : TB X E Γ' sts En mm) (e : Γ = Γ' := by rfl) : TB X E Γ sts En mm := by rw [e]; exact h
/-- less is told of the names from here on -/
theorem tb_less {Γ' : Envt} {mm : m (Fl S L R)} (le : EnvLe Γ' Γ) (h : TB X E Γ' sts En mm) : TB X E Γ sts En mm := fun M F0 H0 Fi b vb σ F H ss D q => h M F0 H0 Fi b vb σ F H (ss.weak le) D q
theorem tb_doc {x : Str} {j pos'} {mm : m (Fl S L R)} (hr : TB X E Γ rest En mm) : TB X E Γ (.Expr (.Constant (.str x) j pos) pos' :: rest) En mm := fun M F0 H0 Fi b vb σ F H ss D q => rb_cons (rs_of ps_doc (hr M F0 H0 Fi b vb σ F H ss D q))
theorem tb_pass {mm : m (Fl S L R)} (hr : TB X E Γ rest En mm) : TB X E Γ (.Pass pos :: rest) En mm := fun M F0 H0 Fi b vb σ F H ss D q => rb_cons (rs_of ps_pass (hr M F0 H0 Fi b vb σ F H ss D q))
/-- an expression for its effect -/
theorem tb_expr {P : PR α} {mr : m (Fl S L R)} (he : TG X E Γ e P ma) (hr : TB X E Γ rest En mr) (hs : swapsWith e none pos.line X.env = pure false := by rfl) : TB X E Γ (.Expr e pos :: rest) En (ma >>= fun _ => mr) := fun M F0 H0 Fi b vb σ F H ⟨B, O, st, g0, hb, ho, sF⟩ D q =>
  rb_cons (rs_of (ps_expr (re_pe e) hs) (he b vb σ F H B O st _ (q.run_bind.mono (fun p k v F1 H1 B1 g b1 st1 r => hr M F0 H0 Fi p.2 vb σ F1 H1 (SS.step g0 hb ho sF g b1 st1 fun a z => .inl z) D k) fun er z => z.tr g0 hb)))
def push (xs : List α) (y : α) : Res (List α) := if xs.length < sizeLine then .ok (xs ++ [y]) else .bad
/-- the state behind a write to a list of one's own -/
theorem SS.wrote {T : OTs β} {M : AS} {F0 H0 Fi F H : Hp} {b : β} {vb : List V} {σ : L2.St} {B O : AS} {i : Nat} {x' : List α} {p : Addr} {vs vs' : List V} (st : Stt T b vb (Γ.set i (.ow (oList t) x')) σ F (L2.upd H p (.lst vs')) B O) (g0 : Grow M F0 H0 F H) (hb : ∀ a, B a → M a ∨ H0 a = none) (ho : ∀ a, O a → H0 a = none) (sF : Sub Fi F)
    (hO : O p) (fp : F p = none) (hp : H p = some (.lst vs)) : SS T M F0 H0 Fi b vb (Γ.set i (.ow (oList t) x')) σ F (L2.upd H p (.lst vs')) :=
  ⟨B, O, st, g0.own (ho p hO) fp hp, hb, ho, sF⟩
/-- x.append(e) -/
theorem tb_push (i : Nat) {nm : Str} {p ap cp : Pos} {xs : List α} {mr : List α → m (Fl S L R)} (hv : Vis X.env.scope nm) (hΓ : Γ[i]? = some (.ow (oList t) xs)) (hN : X.N[i]? = some nm) (he : TE X E Γ e t ma) (hr : ∀ ys, TB X E (Γ.set i (.ow (oList t) ys)) rest En (mr ys))
    (hline : (ap.endLine == cp.line) = true := by rfl) (hst : starEach (e :: []) X.env = (false, eval e X.env) :: starEach [] X.env := by rfl)
    (hfew : ((backTo cp (starEach (e :: []) X.env)).all (fun x => !x.1) && (backToKw cp (keywordEach [] X.env)).all (fun x => x.1.isSome) && decide ((e :: []).length + ([] : List Keyword).length + (if ([] : List Keyword).isEmpty then 0 else 1) < 30)) = true := by rfl)
    (hplain : (backTo cp (starEach [] X.env)).any (·.1) = false := by rfl) (hbase : attributeBase (.Name nm p) "append" X.env (eval (.Name nm p) X.env) = eval (.Name nm p) X.env := by rfl)
    (hs : swapsWith (.Call (.Attribute (.Name nm p) "append" ap) [e] [] cp) none pos.line X.env = pure false := by rfl) (hd : (nm == ("__debug__" : Str)) = false := by decide) (hcd : (nm == ("__classdict__" : Str)) = false := by decide) :
    TB X E Γ (.Expr (.Call (.Attribute (.Name nm p) "append" ap) [e] [] cp) pos :: rest) En (ma >>= fun y => Mo.lift (push xs y) >>= mr) := fun M F0 H0 Fi b vb σ F H ⟨B, O, st, g0, hb, ho, sF⟩ D q => by
  obtain ⟨p1, vs, eσ, hp, r, fp, hO, nB, zl, up⟩ := st.upd hΓ
  refine rb_cons (rs_of (ps_expr (pe_bm PySem.F.plainAttrs_list PySem.F.slot_list_append PySem.F.type_list_append mt_append (pe_var hN hv hd hcd) (pa_cons (re_pe e) pa_nil hst) hbase hfew hline hst hplain) hs) ?_)
  refine ⟨_, eσ, .inl ⟨rfl, vs, SqL.of hp⟩, ?_⟩
  refine he b vb σ F H B O st _ (q.run_bind.mono (fun pr k v F1 H1 B1 g b1 st1 rv => ?_) fun er z => z.tr g0 hb)
  have k1 := k.run_bind
  rw [Mo.run_lift] at k1
  unfold push at k1
  obtain ⟨p2, vs2, eσ2, hp2, r2, fp2, hO2, nB2, zl2, up2⟩ := st1.upd hΓ
  rw [eσ] at eσ2
  cases eσ2
  by_cases hl : xs.length < sizeLine
  · rw [if_pos hl] at k1
    refine ⟨p1, vs2, v, rfl, rfl, hp2, by rw [r2.length]; exact hl, ?_⟩
    have st2 := up2 (vs2 ++ [v]) (xs ++ [pr.1]) (r2.append ⟨rv, trivial⟩) (by rw [List.length_append]; exact hl)
    exact hr _ M F0 H0 Fi pr.2 vb σ F1 _ (SS.wrote st2 (g0.tr g hb) (back g0 hb b1) ho (sF.tr g.f) hO2 fp2 hp2) D k1
  · rw [if_neg hl] at k1
    exact k1.elim
def setAt (xs : List α) (j : Int) (y : α) : Res (List α) := match ixN xs.length j with
  | some k => .ok (xs.set k y)
  | none => .bad
/-- x[i] = e -/
theorem tb_setIx (i : Nat) {nm : Str} {p tp : Pos} {xs : List α} {ix : Expr} {mi : m Int} {mr : List α → m (Fl S L R)} (hv : Vis X.env.scope nm) (hΓ : Γ[i]? = some (.ow (oList t) xs)) (hN : X.N[i]? = some nm) (he : TE X E Γ e t ma) (hi : TE X E Γ ix tInt mi)
    (hr : ∀ ys, TB X E (Γ.set i (.ow (oList t) ys)) rest En (mr ys)) (hs : swapsWithSole [.Subscript (.Name nm p) ix tp] e pos.line X.env = pure false := by rfl) (hw : swappedStores [.Subscript (.Name nm p) ix tp] e X.env = pure none := by rfl)
    (h1 : (assignEach [.Subscript (.Name nm p) ix tp] X.env).map (·.2) = [assign (.Subscript (.Name nm p) ix tp) X.env] := by rfl)
    (ha : ∀ v, assign (.Subscript (.Name nm p) ix tp) X.env v = (do
      let ov ← holding [v] (eval (.Name nm p) X.env)
      let iv ← holding [v, ov] (eval ix X.env)
      standAt tp
      holding [v, ov, iv] (setItem ov iv v)
      release [v, ov, iv] []) := by intro _; rfl) (hd : (nm == ("__debug__" : Str)) = false := by decide) (hcd : (nm == ("__classdict__" : Str)) = false := by decide) :
    TB X E Γ (.Assign [.Subscript (.Name nm p) ix tp] e pos :: rest) En (ma >>= fun y => mi >>= fun j => Mo.lift (setAt xs j y) >>= mr) := fun M F0 H0 Fi b vb σ F H ⟨B, O, st, g0, hb, ho, sF⟩ D q => by
  refine rb_cons (rs_of (ps_asg (re_pe e) (pg_sub (pe_var hN hv hd hcd) (re_pe ix) set_list ha) hs hw h1) ?_)
  refine he b vb σ F H B O st _ (q.run_bind.mono (fun pr k v F1 H1 B1 g b1 st1 rv => ?_) fun er z => z.tr g0 hb)
  obtain ⟨p1, vs, eσ, hp, r, fp, hO, nB, zl, up⟩ := st1.upd hΓ
  refine ⟨_, eσ, ?_⟩
  refine hi pr.2 vb σ F1 H1 B1 O st1 _ (k.run_bind.mono (fun pi ki vi F2 H2 B2 g2 b2 st2 ri => ?_) fun er z => z.tr (g0.tr g hb) (back g0 hb b1))
  have k1 := ki.run_bind
  rw [Mo.run_lift] at k1
  unfold setAt at k1
  obtain ⟨p2, vs2, eσ2, hp2, r2, fp2, hO2, nB2, zl2, up2⟩ := st2.upd hΓ
  rw [eσ] at eσ2
  cases eσ2
  cases hx : ixN xs.length pi.1 with
  | none => rw [hx] at k1; exact k1.elim
  | some j =>
    rw [hx] at k1
    refine ⟨p1, vs2, pi.1, j, rfl, ri, hp2, by rw [r2.length]; exact hx, ?_⟩
    have st3 := up2 (vs2.set j v) (xs.set j pr.1) (r2.set j (t.mono g2.f rv)) (by rw [List.length_set]; exact zl2)
    exact hr _ M F0 H0 Fi pi.2 vb σ F2 _ (SS.wrote st3 ((g0.tr g hb).tr g2 (back g0 hb b1)) (back (g0.tr g hb) (back g0 hb b1) b2) ho ((sF.tr g.f).tr g2.f) hO2 fp2 hp2) D k1
/-- name op= e, ints -/
theorem tb_aug (i : Nat) {nm : Str} {p : Pos} {op : Operator} {f : Int → Int → Int} {x : Int} {mi : m Int} {mr : Int → m (Fl S L R)} (hN : X.N.Nodup) (hi : X.N[i]? = some nm) (hx : Loc X.env.scope nm) (hΓ : Γ[i]? = some (.fz tInt x)) (ho' : PIp X op (ipI f)) (he : TE X E Γ e tInt mi) (hr : ∀ y, TB X E (Γ.set i (.fz tInt y)) rest En (mr y))
    (hf : X.fn nm = true ∨ X.env.scope.names.lookup nm = some .local := by first | exact .inl rfl | exact .inr rfl | assumption) : TB X E Γ (.AugAssign (.Name nm p) op e pos :: rest) En (mi >>= fun y => pure (f x y) >>= mr) := fun M F0 H0 Fi b vb σ F H ⟨B, O, st, g0, hb, ho, sF⟩ D q => by
  obtain ⟨v, ev, rv⟩ := st.fz hΓ
  have rv' : v = .int x := rv
  subst rv'
  refine rb_cons (rs_of (ps_aug hN hi hx (re_pe e) ho' hf) ⟨_, ev, ?_⟩)
  refine he b vb σ F H B O st _ (q.run_bind.mono (fun pr k v F1 H1 B1 g b1 st1 rv => ?_) fun er z => z.tr g0 hb)
  have hl : i < Γ.length := (List.getElem?_eq_some_iff.mp hΓ).1
  obtain ⟨O', o', st2⟩ := st1.setF hl (t := tInt) (x := f x pr.1) (v := .int (f x pr.1)) rfl
  exact ⟨x, pr.1, rfl, rv, hr _ M F0 H0 Fi pr.2 vb _ F1 H1 (SS.step g0 hb ho sF g b1 st2 fun a z => .inl (o' a z)) D k.run_bind.run_pure⟩
/-! ### if -/
theorem PostB.seq {T : OTs β} {M : AS} {F0 H0 Fi : Hp} {vb : List V} {D : Ends} {Γj : S1 → Envt} {k : S1 → m (Fl S L R)} {f : Fl S1 L R} {b : β}
    (hr : ∀ s, TB X E (Γj s) rest En (k s)) (hT : T = Mo.T m)
    (h : PostR (Mo.run (m := m) (match f with | .nx s => k s | .ct l => pure (.ct l) | .bk l => pure (.bk l) | .rt r => pure (.rt r)) b) (PostB T M F0 H0 Fi vb En D) (KX X.K F0 H0 M E)) :
    PostB T M F0 H0 Fi vb (⟨some Γj, En.lp, En.rt⟩ : Endt S1 L R) { D with nx := RB X rest D } (f, b) := by
  subst hT
  cases f with
  | nx s => exact fun σ F H ss => hr s M F0 H0 Fi b vb σ F H ss D h
  | ct l => exact h.run_pure
  | bk l => exact h.run_pure
  | rt r => exact h.run_pure
theorem tb_if {Γj : S1 → Envt} {mx my : m (Fl S1 L R)} {k : S1 → m (Fl S L R)} (hc : TTt X E Γ c mt) (ha : TB X E Γ sa ⟨some Γj, En.lp, En.rt⟩ mx) (hb : TB X E Γ sb ⟨some Γj, En.lp, En.rt⟩ my) (hr : ∀ s, TB X E (Γj s) rest En (k s)) :
    TB X E Γ (.If c sa sb pos :: rest) En (mt >>= fun x => seqF (if x = true then mx else my) k) := fun M F0 H0 Fi b vb σ F H ⟨B, O, st, g0, hb0, ho, sF⟩ D q => by
  refine rb_cons (rs_of (ps_if (rt_pt c) (rb_pss sa) (rb_pss sb)) ?_)
  refine hc b vb σ F H B O st _ (q.run_bind.mono (fun pr k1 F1 H1 B1 g b1 st1 => ?_) fun er z => z.tr g0 hb0)
  have ss := SS.step g0 hb0 ho sF g b1 st1 fun a z => .inl z
  have k2 := k1.run_bind
  cases hx : pr.1 with
  | true =>
    dsimp only
    rw [if_pos rfl]
    rw [hx, if_pos rfl] at k2
    exact ha M F0 H0 Fi pr.2 vb σ F1 H1 ss _ (k2.mono (fun p z => PostB.seq hr rfl z) fun _ z => z)
  | false =>
    dsimp only
    rw [if_neg Bool.false_ne_true]
    rw [hx, if_neg Bool.false_ne_true] at k2
    exact hb M F0 H0 Fi pr.2 vb σ F1 H1 ss _ (k2.mono (fun p z => PostB.seq hr rfl z) fun _ z => z)
/-- if c: .. that never falls through; the rest -/
theorem tb_ifR {mx my : m (Fl S L R)} (hc : TTt X E Γ c mt) (ha : TB X E Γ sa (⟨none, En.lp, En.rt⟩ : Endt S L R) mx) (hr : TB X E Γ rest En my) :
    TB X E Γ (.If c sa [] pos :: rest) En (mt >>= fun x => if x = true then mx else my) := fun M F0 H0 Fi b vb σ F H ⟨B, O, st, g0, hb0, ho, sF⟩ D q => by
  refine rb_cons (rs_of (ps_if (rt_pt c) (rb_pss sa) pss_nil) ?_)
  refine hc b vb σ F H B O st _ (q.run_bind.mono (fun pr k1 F1 H1 B1 g b1 st1 => ?_) fun er z => z.tr g0 hb0)
  have ss := SS.step g0 hb0 ho sF g b1 st1 fun a z => .inl z
  cases hx : pr.1 with
  | true =>
    dsimp only
    rw [if_pos rfl]
    rw [hx, if_pos rfl] at k1
    refine ha M F0 H0 Fi pr.2 vb σ F1 H1 ss _ (k1.mono (fun p z => ?_) fun _ z => z)
    obtain ⟨f, b'⟩ := p
    cases f with
    | nx s => exact trivial
    | ct l => exact z
    | bk l => exact z
    | rt r => exact z
  | false =>
    dsimp only
    rw [if_neg Bool.false_ne_true]
    rw [hx, if_neg Bool.false_ne_true] at k1
    exact hr M F0 H0 Fi pr.2 vb σ F1 H1 ss D k1
/-- if c: .. else: .., nothing behind -/
theorem tb_ifB {mx my : m (Fl S L R)} (hc : TTt X E Γ c mt) (ha : TB X E Γ sa En mx) (hb : TB X E Γ sb En my) :
    TB X E Γ (.If c sa sb pos :: []) En (mt >>= fun x => if x = true then mx else my) := fun M F0 H0 Fi b vb σ F H ⟨B, O, st, g0, hb0, ho, sF⟩ D q => by
  refine rb_cons (rs_of (ps_if (rt_pt c) (rb_pss sa) (rb_pss sb)) ?_)
  refine hc b vb σ F H B O st _ (q.run_bind.mono (fun pr k1 F1 H1 B1 g b1 st1 => ?_) fun er z => z.tr g0 hb0)
  have ss := SS.step g0 hb0 ho sF g b1 st1 fun a z => .inl z
  have nxt : ∀ p : Fl S L R × β, PostB (Mo.T m) M F0 H0 Fi vb En D p → PostB (Mo.T m) M F0 H0 Fi vb En { D with nx := RB X [] D } p := fun p z => by
    obtain ⟨f, b'⟩ := p
    obtain ⟨n, l, r⟩ := En
    cases f with
    | nx s =>
      cases n with
      | none => exact trivial
      | some Γn => exact fun σ F H ss => rb_of pss_nil (z σ F H ss)
    | ct l => exact z
    | bk l => exact z
    | rt r => exact z
  cases hx : pr.1 with
  | true =>
    dsimp only
    rw [if_pos rfl]
    rw [hx, if_pos rfl] at k1
    exact ha M F0 H0 Fi pr.2 vb σ F1 H1 ss _ (k1.mono nxt fun _ z => z)
  | false =>
    dsimp only
    rw [if_neg Bool.false_ne_true]
    rw [hx, if_neg Bool.false_ne_true] at k1
    exact hb M F0 H0 Fi pr.2 vb σ F1 H1 ss _ (k1.mono nxt fun _ z => z)
/-! ### loops -/
theorem SS.fi {T : OTs β} {M : AS} {F0 H0 Fi Fj : Hp} {b : β} {vb : List V} {σ : L2.St} {F H : Hp} (h : SS T M F0 H0 Fi b vb Γ σ F H) (s : Sub Fj F) : SS T M F0 H0 Fj b vb Γ σ F H := by
  obtain ⟨B, O, st, g, hb, ho, _⟩ := h
  exact ⟨B, O, st, g, hb, ho, s⟩
theorem SS.sub {T : OTs β} {M : AS} {F0 H0 Fi : Hp} {b : β} {vb : List V} {σ : L2.St} {F H : Hp} (h : SS T M F0 H0 Fi b vb Γ σ F H) : Sub Fi F := by
  obtain ⟨B, O, st, g, hb, ho, s⟩ := h
  exact s
/-- how a turn of a loop ends -/
theorem turn_end {T : OTs β} {M : AS} {F0 H0 Fi F1 : Hp} {vb : List V} {D : Ends} {Γs : S1 → Envt} {k : S1 → m (Fl S L R)} {g : S1 → m (Fl S1 L R)} {f : Fl S1 S1 R} {b : β} {N : L2.St → Hp → Prop} (hT : T = Mo.T m) (s1 : Sub Fi F1) (hr : ∀ s, TB X E (Γs s) rest En (k s))
    (hN : ∀ s b2 σ F H, SS T M F0 H0 F1 b2 vb (Γs s) σ F H → PostR (Mo.run (seqF (g s) k) b2) (PostB T M F0 H0 Fi vb En D) (KX X.K F0 H0 M E) → N σ H)
    (h : PostR (Mo.run (m := m) (seqF (match f with | .nx s' => g s' | .ct s' => g s' | .bk s' => pure (.nx s') | .rt v => pure (.rt v)) k) b) (PostB T M F0 H0 Fi vb En D) (KX X.K F0 H0 M E)) :
    PostB T M F0 H0 F1 vb (⟨some Γs, Γs, En.rt⟩ : Endt S1 S1 R) { D with nx := N, ct := N, bk := RB X rest D } (f, b) := by
  subst hT
  cases f with
  | nx s => exact fun σ F H ss => hN s b σ F H ss h
  | ct s => exact fun σ F H ss => hN s b σ F H ss h
  | bk s => exact fun σ F H ss => hr s M F0 H0 Fi b vb σ F H (ss.fi (s1.tr ss.sub)) D h.run_bind.run_pure
  | rt r => exact h.run_bind.run_pure.run_pure
theorem PostR.bind' {α γ : Type} {r : Res α} {k : α → Res γ} {P : γ → Prop} {Ee : Err → Prop} (h : PostR r (fun x => PostR (k x) P Ee) Ee) : PostR (r.bind k) P Ee := by
  cases r <;> exact h
theorem seqF_for {f : S1 → ι → m (Fl S1 S1 R)} {k : S1 → m (Fl S L R)} {x : ι} {r : List ι} {s : S1} {b : β} {P : Fl S L R × β → Prop} {Ee : Err → Prop} (h : PostR (Mo.run (seqF (forF f (x :: r) s) k) b) P Ee) :
    PostR (Mo.run (f s x) b) (fun p => PostR (Mo.run (m := m) (seqF (match p.1 with | .nx s' => forF f r s' | .ct s' => forF f r s' | .bk s' => pure (.nx s') | .rt v => pure (.rt v)) k) p.2) P Ee) Ee := by
  unfold seqF forF at h
  have h1 := h.run_bind.run_bind
  refine h1.mono (fun p z => ?_) fun _ z => z
  unfold seqF
  rw [Mo.run_bind]
  exact z.bind'
/-- for .. in ..: Γs: what holds of the names at each turn -/
theorem tb_for {mi : m (List ι)} {t : Ty ι} {is : List Nat} {up : ι → Envt → Envt} {Γs : S1 → Envt} {s0 : S1} {f : S1 → ι → m (Fl S1 S1 R)} {k : S1 → m (Fl S L R)} (hp : PassesOwn (model X.prog X.w) X.A X.env X.xe) (hc : X.calm = true) (hi : TIt X E Γ tg iter t mi) (hg : TT X tg t is up) (le : EnvLe (Γs s0) Γ)
    (hb : ∀ s x, TB X E (up x (Γs s)) body ⟨some Γs, Γs, En.rt⟩ (f s x)) (hr : ∀ s, TB X E (Γs s) rest En (k s)) (hs : ∀ x, foldedSetIterable iter X.env x = pure x := by intro _; rfl) :
    TB X E Γ (.For tg iter body [] pos :: rest) En (mi >>= fun xs => seqF (forF f xs s0) k) := fun M F0 H0 Fi b vb σ F H ⟨B, O, st, g0, hb0, ho, sF⟩ D q => by
  refine rb_cons (rs_of (ps_for hp hc (ri_pi tg iter) (rg_pg tg) (rb_pss body) hs) ?_)
  refine hi b vb σ F H B O st _ (q.run_bind.mono (fun p1 q1 J F1 H1 B1 g1 b1 st1 w zl => ?_) fun er z => z.tr g0 hb0)
  have ss1 := ((SS.step g0 hb0 ho sF g1 b1 st1 fun a z => .inl z).weak le).fi (Sub.rf F1)
  refine ⟨fun i n σ' H' => n = p1.1.length - i ∧ i ≤ p1.1.length ∧ ∃ (F' : Hp) (b' : β) (s : S1), SS (Mo.T m) M F0 H0 F1 b' vb (Γs s) σ' F' H' ∧
    PostR (Mo.run (seqF (forF f (p1.1.drop i) s) k) b') (PostB (Mo.T m) M F0 H0 Fi vb En D) (KX X.K F0 H0 M E), ⟨_, rfl, Nat.zero_le _, F1, p1.2, s0, ss1, by rw [List.drop_zero]; exact q1⟩, fun i n σ' H' hW => ?_⟩
  obtain ⟨rfl, hin, F', b', s, ss, post⟩ := hW
  obtain ⟨B', O', st', g', hb', ho', sF'⟩ := id ss
  by_cases hlt : i < p1.1.length
  · refine .inr ⟨w.go i H' (sF'.tr st'.sub) hlt, fun σ'' H'' => i + 1 ≤ p1.1.length ∧ ∃ (F' : Hp) (b' : β) (s : S1), SS (Mo.T m) M F0 H0 F1 b' vb (Γs s) σ'' F' H'' ∧
      PostR (Mo.run (seqF (forF f (p1.1.drop (i + 1)) s) k) b') (PostB (Mo.T m) M F0 H0 Fi vb En D) (KX X.K F0 H0 M E), fun σ'' H'' hn => ⟨_, by omega, rfl, hn⟩, fun v H'' hy => ?_⟩
    obtain ⟨F'', gy, rx⟩ := w.yld i H' v H'' F' p1.1[i] sF' st'.sub (List.getElem?_eq_getElem hlt) hy
    rw [List.drop_eq_getElem_cons hlt] at post
    have st2 := st'.grow0 gy
    refine hg v p1.1[i] st2 rx _ fun σ3 O3 o3 _ _ st3 => ?_
    have ss3 : SS (Mo.T m) M F0 H0 F1 b' vb (up p1.1[i] (Γs s)) σ3 F'' H'' := ⟨B', O3, st3, g'.tr0 gy, hb', fun a z => ho' a (o3 a z), sF'.tr gy.f⟩
    refine hb s p1.1[i] M F0 H0 F1 b' vb σ3 F'' H'' ss3 _ ((seqF_for post).mono (fun pf z => ?_) fun _ z => z)
    exact turn_end rfl (sF.tr g1.f) hr (fun s' b2 σ4 F4 H4 ss4 p4 => ⟨hlt, F4, b2, s', ss4, p4⟩) z
  · have hi' : i = p1.1.length := Nat.le_antisymm hin (Nat.le_of_not_lt hlt)
    refine .inl ⟨w.stop i H' (sF'.tr st'.sub) (Nat.le_of_not_lt hlt), ?_⟩
    rw [hi', List.drop_length] at post
    exact hr s M F0 H0 Fi b' vb σ' F' H' (ss.fi ((sF.tr g1.f).tr sF')) D post.run_bind.run_pure
/-- while c: .. -/
theorem seqF_while {c : S1 → m Bool} {f : S1 → m (Fl S1 S1 R)} {k : S1 → m (Fl S L R)} {n : Nat} {s : S1} {b : β} {P : Fl S L R × β → Prop} {Ee : Err → Prop} (h : PostR (Mo.run (seqF (whileF c f (n + 1) s) k) b) P Ee) :
    PostR (Mo.run (c s) b) (fun p => if p.1 = true then PostR (Mo.run (f s) p.2) (fun p => PostR (Mo.run (m := m) (seqF (match p.1 with | .nx s' => whileF c f n s' | .ct s' => whileF c f n s' | .bk s' => pure (.nx s') | .rt v => pure (.rt v)) k) p.2) P Ee) Ee else PostR (Mo.run (k s) p.2) P Ee) Ee := by
  unfold seqF whileF at h
  have h1 := h.run_bind.run_bind
  refine h1.mono (fun p z => ?_) fun _ z => z
  by_cases hb : p.1 = true
  · rw [if_pos hb] at z ⊢
    refine z.run_bind.mono (fun p z => ?_) fun _ z => z
    unfold seqF
    rw [Mo.run_bind]
    exact z.bind'
  · rw [if_neg hb] at z ⊢
    exact z.run_pure
theorem tb_while {Γs : S1 → Envt} {s0 : S1} {mc : S1 → m Bool} {f : S1 → m (Fl S1 S1 R)} {k : S1 → m (Fl S L R)} (n : Nat) (hp : PassesOwn (model X.prog X.w) X.A X.env X.xe) (hc : ∀ s, TTt X E (Γs s) c (mc s)) (le : EnvLe (Γs s0) Γ)
    (hb : ∀ s, TB X E (Γs s) body ⟨some Γs, Γs, En.rt⟩ (f s)) (hr : ∀ s, TB X E (Γs s) rest En (k s)) :
    TB X E Γ (.While c body [] pos :: rest) En (seqF (whileF mc f n s0) k) := fun M F0 H0 Fi b vb σ F H ss0 D q => by
  refine rb_cons (rs_of (ps_while hp (rt_pt c) (rb_pss body)) ?_)
  refine ⟨fun n σ' H' => ∃ (F' : Hp) (b' : β) (s : S1), SS (Mo.T m) M F0 H0 Fi b' vb (Γs s) σ' F' H' ∧
    PostR (Mo.run (seqF (whileF mc f n s) k) b') (PostB (Mo.T m) M F0 H0 Fi vb En D) (KX X.K F0 H0 M E), ⟨n, F, b, s0, ss0.weak le, q⟩, fun n σ' H' hW => ?_⟩
  obtain ⟨F', b', s, ss, post⟩ := hW
  obtain ⟨B', O', st', g', hb', ho', sF'⟩ := id ss
  cases n with
  | zero =>
    unfold seqF whileF at post
    have p1 := post.run_bind
    rw [Mo.run_lift] at p1
    exact p1.elim
  | succ n =>
    refine hc s b' vb σ' F' H' B' O' st' _ ((seqF_while post).mono (fun pr z F1 H1 B1 g1 b1 st1 => ?_) fun er z => z.tr g' hb')
    have ss1 := SS.step g' hb' ho' sF' g1 b1 st1 fun a z => .inl z
    cases hx : pr.1 with
    | true =>
      rw [hx, if_pos rfl] at z
      dsimp only
      rw [if_pos rfl]
      refine ⟨fun σ'' H'' => ∃ (F' : Hp) (b' : β) (s : S1), SS (Mo.T m) M F0 H0 Fi b' vb (Γs s) σ'' F' H'' ∧ PostR (Mo.run (seqF (whileF mc f n s) k) b') (PostB (Mo.T m) M F0 H0 Fi vb En D) (KX X.K F0 H0 M E), fun σ'' H'' hn => ⟨n, Nat.lt_succ_self n, hn⟩, ?_⟩
      exact hb s M F0 H0 Fi pr.2 vb σ' F1 H1 ss1 _ (z.mono (fun pf z => turn_end rfl (Sub.rf Fi) hr (fun s' b2 σ4 F4 H4 ss4 p4 => ⟨F4, b2, s', ss4, p4⟩) z) fun _ z => z)
    | false =>
      rw [hx, if_neg Bool.false_ne_true] at z
      dsimp only
      rw [if_neg Bool.false_ne_true]
      exact hr s M F0 H0 Fi pr.2 vb σ' F1 H1 ss1 D z
end
end TL
/-! TX: own errors over ValueError (through a class between) whose __init__ says super().__init__("text"), then keeps its argument or a copy of it. -/
namespace PySem
namespace TX
open PySem.W PySem.Calls PyProof.Rows PySem.HandSPX
def iA (pn : Str) (p1 p2 : Pos) : Arguments := { posonlyargs := [], args := [{ arg := "self", annotation := none, pos := p1 }, { arg := pn, annotation := none, pos := p2 }], vararg := none, kwonlyargs := [], kw_defaults := [], kwarg := none, defaults := [] }
def iSup (m : Str) (q1 q2 q3 q4 q5 q6 : Pos) : Stmt := .Expr (.Call (.Attribute (.Call (.Name "super" q1) [] [] q2) "__init__" q3) [.Constant (.str m) 0 q4] [] q5) q6
/-- l: it keeps a copy, as a list -/
def iVal (l : Bool) (pn : Str) (q1 q2 q3 : Pos) : Expr := match l with
  | false => .Name pn q1
  | true => .Call (.Name "list" q2) [.Name pn q1] [] q3
def iB (m f pn : Str) (l : Bool) (q1 q2 q3 q4 q5 q6 q7 q8 q9 q10 q11 q12 : Pos) : List Stmt := [iSup m q1 q2 q3 q4 q5 q6, .Assign [.Attribute (.Name "self" q7) f q8] (iVal l pn q9 q10 q11) q12]
/-- what the written part says of the class at C and of its __init__ at fI -/
structure ITxt (prog : Program) (K : Frag) (C fI : Addr) (m f pn : Str) (l : Bool) : Prop where
  cls : ∃ nm q N bs bm sn sub ab col dd k0 k1 k2 k3 k5, K.lookup C = some (excClassObj nm q C N bs bm true sn sub ab col dd k0 k1 k2 k3 k5 "ValueError.__new__") ∧ refsVE bm = true ∧ alongIn K "__init__" bm = some (some (.builtin "ValueError.__init__"))
  sa : findIn K (.ref C) "__setattr__" = some (some (.builtin "object.__setattr__"))
  noF : findIn K (.ref C) f = some none
  iC : findIn K (.ref C) "__init__" = some (some (.ref fI))
  tC : typeIn K (.ref fI) = some (.type "function")
  exC : subIn K (.ref C) (.type "BaseException") = some true
  veC : subIn K (.ref C) (.type "ValueError") = some true
  smC : mroIn K C (.ref C) = some true
  opq : nsIn K cStatics "thirdparty.any" = some none
  noS : nsIn K mainGlobals "super" = some none
  noL : l = true → nsIn K mainGlobals "list" = some none
  top : (prog.main.scope.names.lookup ("super" : Str)).isSome = false
  fn : ∃ (oc : Value) (od : Option Addr) (osl : Array (Option Value)) (qual : Str) (p1 p2 : Pos) (q1 q2 q3 q4 q5 q6 q7 q8 q9 q10 q11 q12 : Pos) (scope : Scope) (dV kV doc pm ct ccl cl : Value) (an cdd cld : Option Addr) (cda cc : Addr) (vs : Array Value) (ccs csl : Array (Option Value)) (tf : Tok),
    K.lookup fI = some ⟨oc, od, .func (ksFn "__init__" qual (iA pn p1 p2) (iB m f pn l q1 q2 q3 q4 q5 q6 q7 q8 q9 q10 q11 q12) scope dV kV doc pm an (.ref cda) ct cc), osl⟩ ∧ codeIn K (.ref cda) qual = true ∧ K.lookup cda = some ⟨ccl, cdd, .fields vs, ccs⟩ ∧ vs[2]? = some (.str prog.main.file tf) ∧
    K.lookup cc = some ⟨cl, cld, .cell (some (.ref C)), csl⟩ ∧ (∀ a b : Value, bindArgs (ksFn "__init__" qual (iA pn p1 p2) (iB m f pn l q1 q2 q3 q4 q5 q6 q7 q8 q9 q10 q11 q12) scope dV kV doc pm an (.ref cda) ct cc) ⟨[a, b], []⟩ = pure [(("self" : Str), a), (pn, b)]) ∧
    (scope.names.lookup ("super" : Str) = some .globalImplicit ∧ scope.names.lookup ("__class__" : Str) = some .free ∧ scope.names.lookup ("self" : Str) = some .local ∧ scope.names.lookup pn = some .local ∧ (l = true → scope.names.lookup ("list" : Str) = some .globalImplicit) ∧ ∀ x ∈ scope.names, x.2 ≠ .cell) ∧ (q3.endLine == q5.line) = true ∧ scope.kind = .function ∧ scope.isGenerator = false ∧ scope.isCoroutine = false
  pnn : (("self" : Str) == pn) = false ∧ (pn == ("self" : Str)) = false ∧ (pn == ("__debug__" : Str)) = false
section
variable {prog : Program} {w : World} {M : Model} {A : Around} {E : Value → Shared → Prop} {R : Result → Shared → Prop} {s : Shared} {K : Frag} {C fI : Addr} {m f pn : Str} {l : Bool} {h : Heap} {g : Array GenState} {d : Drawn} {t : Nat} {os : OsState}
theorem kept_but {h h' : Heap} {x : Addr} (X : K.In h) (hx : K.lookup x = none) (k : ∀ b o, b ≠ x → h.get? b = some o → h'.get? b = some o) : K.In h' := fun a o e =>
  k a o (fun z => by rw [z, hx] at e; cases e) (X a o e)
theorem ns_ne {a x t0 : Addr} {m : Str → Option Value} (hx : h.get? x = some (excO C t0)) (G : h.Ns a m) (z : a = x) : False := by
  obtain ⟨o, es, ep, ho, hd, _⟩ := G
  rw [z, hx] at ho
  cases ho
  cases hd
/-- ValueError.__init__ bound to x, called -/
theorem call_mw {nm q : Str} {N : Addr} {bs bm : List Value} {hdct : Bool} {sn : List Str} {sub : List Value} {ab : Bool} {col : Option Bool} {dd : Option Addr} {k0 k1 k2 k3 k5 : Option Value} {u e t0 : Addr} {rest : List Value} {Q : Value → Shared → Prop}
    (hC : h.get? C = some (excClassObj nm q C N bs bm hdct sn sub ab col dd k0 k1 k2 k3 k5 "ValueError.__new__")) (he : h.get? e = some (excO C t0)) (hu : h.get? u = some (kxs_mw "ValueError.__init__" e)) (hrest : rest.length ≤ sizeLine)
    (hq : ∀ h' t1, (∀ b o, b ≠ e → h.get? b = some o → h'.get? b = some o) → h'.get? e = some (excO C t1) → Q .none ⟨h', g, d, t, os⟩) :
    wpAny (model prog w) A (call (.ref u) rest) Q E ⟨h, g, d, t, os⟩ := by
  have FB := F.excBase_ValueError
  refine wpAny_call (codeAny_of_tree ?_)
  show wpAny _ A.in1 (callAny (.ref u) ⟨rest, []⟩) _ _ _
  simp only [callAny]
  refine wpAny_bind (wpAny_load hu ?_)
  simp only [kxs_mw, show (Value.type "method-wrapper" == Value.type "method" || Value.type "method-wrapper" == Value.type "builtin_function_or_method" || Value.type "method-wrapper" == Value.type "method-wrapper") = true by decide, if_true]
  refine KFB.if_so (by decide) ?_
  refine wpAny_bind (check_bound_init FB.toExcCallFacts hC he rfl ?_)
  refine wpAny_bind (wpAny_pure (wpAny_pure ?_))
  refine ⟨plainId_quiet FB.init.plain _, codeAny_builtin FB.initEntry ?_⟩
  exact exc_init_tree (cls := .ref C) (t0 := t0) (dv := none) (c2 := .none) (c3 := .none) (b4 := .bool false) he hrest fun h' k e' _ => hq h' _ k e'
theorem eval_mcall {env : Env} {o e : Expr} {name : Str} {apos pos : Pos} (hp : (apos.endLine == pos.line) = true) (hs : starEach [e] env = [(false, eval e env)] := by rfl) : eval (.Call (.Attribute o name apos) [e] [] pos) env = (do
      let ov ← attributeBase o name env (eval o env)
      standAt apos.atName
      let (f, first) ← holding [ov] (getMethod ov name (do return (← importBound o env).getD true))
      callWith pos f first (backTo pos (starEach [e] env)) []) := by
  have h1 : methodCallForm 1 (backTo pos (starEach [e] env)) (backToKw pos (keywordEach [] env)) = true := by rw [hs]; rfl
  have h2 : methodCallPos true o env apos pos = pure pos := by
    unfold methodCallPos
    rw [hp]
    rfl
  show (do
    let ov ← attributeBase o name env (eval o env)
    standAt apos.atName
    methodCall o name apos pos env ov 1 (backTo pos (starEach [e] env)) (backToKw pos (keywordEach [] env))) = _
  unfold methodCall calleeOf
  rw [h1]
  simp only [h2, if_true, pure_bind]
  rfl
/-- super().__init__("m") in such a body -/
theorem super_step {qual : Str} {scope : Scope} {L x t0 cda cc : Addr} {body : List Stmt} {q1 q2 q3 q4 q5 q6 : Pos} {fd : FuncData} {oc ccl cl : Value} {od cdd cld : Option Addr} {osl ccs csl : Array (Option Value)} {ar : Arg} {vs : Array Value} {tf : Tok} {mL mg mb : Str → Option Value} {Q : Flow → Shared → Prop}
    (T : ITxt prog K C fI m f pn l) (X : K.In h) (hnx : K.lookup x = none) (G : h.Ns mainGlobals mg) (hmg : mg "super" = none) (Bn : h.Ns builtinsNs mb) (hmb : mb "super" = some (.type "super")) (hL : h.Ns L mL) (hLx : L ≠ x) (hself : mL "self" = some (.ref x)) (hx : h.get? x = some (excO C t0))
    (hf : K.lookup fI = some ⟨oc, od, .func fd, osl⟩) (hp : (fd.params.posonlyargs ++ fd.params.args).head? = some ar) (har : ar.arg = "self") (hcode : K.lookup cda = some ⟨ccl, cdd, .fields vs, ccs⟩) (hvs : vs[2]? = some (.str prog.main.file tf)) (hcell : K.lookup cc = some ⟨cl, cld, .cell (some (.ref C)), csl⟩)
    (hks : scope.names.lookup ("super" : Str) = some .globalImplicit) (hkc : scope.names.lookup ("__class__" : Str) = some .free) (hka : scope.names.lookup ("self" : Str) = some .local) (hk : scope.kind = .function)
    (hpos : (q3.endLine == q5.line) = true) (hq : ∀ h' tk t1, (∀ b o, b ≠ x → h.get? b = some o → h'.get? b = some o) → h'.get? x = some (excO C t1) → Q .next ⟨h', g, d, tk, os⟩) :
    _root_.PySem.wpAt (model prog w) A (.func body (ksEnv qual scope L fI (.ref cda) cc)) (exec (iSup m q1 q2 q3 q4 q5 q6) (ksEnv qual scope L fI (.ref cda) cc)) Q E ⟨h, g, d, t, os⟩ := by
  obtain ⟨nm, q, N, bs, bm, sn, sub, ab, col, dd, k0, k1, k2, k3, k5, hC, hbm, hal⟩ := T.cls
  have hcl : clsIn K C = some { name := nm, bases := bs, mro := .ref C :: bm, ns := N, qualname := q, hasDict := true, slotNames := sn, subclasses := sub, abstract := ab, collection := col, hasDel := false } := by unfold clsIn; rw [hC] <;> rfl
  refine ks_wpAt_Expr_any (ks_wpAt_MethodCall ?_ (eval_mcall hpos)) (by unfold interactive; simp [hk])
  refine ks_wpAt_super_base (env := ksEnv qual scope L fI (.ref cda) cc) hks hkc (by decide) rfl (X _ _ hf) rfl hp rfl (X _ _ hcode) rfl hvs (beq_self_eq_true _) T.top ?_
  refine ks_loadName_global hk hks (loadGlobal_builtin (env := ksEnv qual scope L fI (.ref cda) cc) G hmg Bn hmb ⟨rfl, ?_⟩)
  refine wpAny_loadName_free hk hkc rfl ⟨_, X _ _ hcell, rfl⟩ ?_
  rw [har]
  refine wpAny_loadName_local hk hka hL hself ?_
  have hCo := X _ _ hC
  have I : InstAt h x (excO C t0) C none := ⟨hx, rfl, rfl, trivial⟩
  refine ks_wpAny_isType_cls (cd := { name := nm, bases := bs, mro := .ref C :: bm, ns := N, qualname := q, hasDict := true, slotNames := sn, subclasses := sub, abstract := ab, collection := col, hasDel := false }) hCo rfl ⟨rfl, ?_⟩
  refine ks_wpAny_call_super hCo rfl hx rfl (fun c e => by cases e) (looks_mroIn X T.smC) (fun h1 e1 k1 => ?_)
  have X1 : K.In h1 := X.keeps k1
  have I1 : InstAt h1 x (excO C t0) C none := ⟨k1 _ _ hx, rfl, rfl, trivial⟩
  have hxC : x ≠ C := ks_ne X1 I1 hcl
  refine kxs_getMethod kxs_ValueError e1 (looks_opaque X1 T.opq) (l₀ := .ref C :: bm) (l := bm) (fun A Q E s k q => wpAny_bind ((looks_clsIn X1 hcl) A _ E s k (wpAny_pure q))) (by simp [List.dropWhile_cons]) X1 hal (I1.type.andThen (looks_subIn X1 T.veC)) hxC (by decide) ?_
  have hu : (h1.push (kxs_mw "ValueError.__init__" x)).get? h1.objs.size = some (kxs_mw "ValueError.__init__" x) := Heap.get?_push_at rfl rfl
  have k2 : ∀ b o, h1.get? b = some o → (h1.push (kxs_mw "ValueError.__init__" x)).get? b = some o := fun b o e => Heap.get?_push_of_some _ e
  refine kxs_callWith1 (h₀ := h1) (L := L) (news := [(h1.objs.size, kxs_mw "ValueError.__init__" x)]) (i := "ValueError.__init__") (x := x) ?_ List.mem_cons_self ?_
  · intro p hp
    rw [List.mem_singleton.mp hp]
    exact ⟨hu, fun z => by
      have y := hL.lt
      have y2 : h1.objs.size = L := z
      obtain ⟨oL, _, _, hoL, _⟩ := hL
      have y3 := Heap.lt_size (k1 _ _ hoL)
      rw [← y2] at y3
      exact absurd y3 (Nat.lt_irrefl _), by
      cases z : h1.get? h1.objs.size with
      | none => rfl
      | some o => exact absurd (Heap.lt_size z) (Nat.lt_irrefl _)⟩
  · refine wpAny_mono (Q := fun vs s' => ∃ tk tk', vs = [Value.str m tk] ∧ s' = ⟨h1.push (kxs_mw "ValueError.__init__" x), g, d, tk', os⟩) (E := fun _ _ => False) ?_ ?_ fun _ _ z => z.elim
    · wp_walk
      exact ⟨_, _, rfl, rfl⟩
    · rintro vs s' ⟨tk, tk', rfl, rfl⟩
      refine ⟨hu, ?_⟩
      exact call_mw (C := C) (k2 _ _ (X1 _ _ hC)) (k2 _ _ (k1 _ _ hx)) hu (by show 1 ≤ 16777216; decide) fun h' t1' k3 e3 => hq h' _ t1' (fun b o hb e => k3 b o hb (k2 _ _ (k1 _ _ e))) e3
/-- a list or a tuple of these items at v -/
def Lv (v : Value) (h : Heap) (items : Array Value) : Prop := ∃ (it : Addr) (o : Obj) (n : Nat) (T : String), v = .ref it ∧ h.get? it = some o ∧ (T = "list" ∨ T = "tuple") ∧ o.cls = .type T ∧ o.data = .seq items n ∧ items.size ≤ sizeLine
/-- what is kept: v itself, or a new list of the items -/
def Sv (l : Bool) (v : Value) (items : Array Value) (n : Nat) (x : Addr) (h' : Heap) (u : Value) : Prop := match l with
  | false => u = v
  | true => ∃ (a : Addr) (c' : Nat), u = .ref a ∧ n ≤ a ∧ a ≠ x ∧ h'.get? a = some { cls := .type "list", dict := none, data := .seq items c', slots := #[] }
structure InitEnd (h h' : Heap) (x C dx : Addr) (f : Str) (l : Bool) (v : Value) (items : Array Value) : Prop where
  keep : ∀ b o, b ≠ x → h.get? b = some o → h'.get? b = some o
  obj : ∃ t1, h'.get? x = some { cls := .ref C, dict := some dx, data := .fields #[.ref t1, .none, .none, .none, .bool false, .none] }
  dbig : h.objs.size ≤ dx
  dne : dx ≠ x
  val : ∃ u, Sv l v items h.objs.size x h' u ∧ h'.Ns1 dx (fun y => if y = f then some u else none)
theorem init_run (T : ITxt prog K C fI m f pn l) {x t0 : Addr} {v : Value} {items : Array Value} {mg mb : Str → Option Value} (X : K.In s.heap) (hlim : s.heap.NoLimit) (hx : s.heap.get? x = some (excO C t0)) (hnx : K.lookup x = none) (hroom : A.depth < recursionLimit)
    (G : s.heap.Ns mainGlobals mg) (Bn : s.heap.Ns builtinsNs mb) (hmb : ∀ x : Str, x ≠ "__name__" → mb x = bootBuiltins x) (hv : l = true → Lv v s.heap items ∧ v ≠ .ref x)
    (hq : ∀ h' tk dx, InitEnd s.heap h' x C dx f l v items → R (.ok (.ret .none)) { s with heap := h', toks := tk }) :
    codeAny (model prog w) A (.call (.ref fI) ⟨[.ref x, v], []⟩) R s := by
  obtain ⟨oc, od, osl, qual, p1, p2, q1, q2, q3, q4, q5, q6, q7, q8, q9, q10, q11, q12, scope, dV, kV, doc, pm, ct, ccl, cl, an, cdd, cld, cda, cc, vs, ccs, csl, tf, ho, hcd, hcode, hvs, hcell, hbnd, ⟨hss, hsc, hsl, hsp, hlst, hnc⟩, hpos, hk, hgen, hco⟩ := T.fn
  obtain ⟨nm, q, N, bs, bm, sn, sub, ab, col, dd, k0, k1, k2, k3, k5, hC, hbm, hal⟩ := T.cls
  have hcl : clsIn K C = some { name := nm, bases := bs, mro := .ref C :: bm, ns := N, qualname := q, hasDict := true, slotNames := sn, subclasses := sub, abstract := ab, collection := col, hasDel := false } := by unfold clsIn; rw [hC] <;> rfl
  refine ks_codeAny_call_defAt (fd := ksFn "__init__" qual (iA pn p1 p2) (iB m f pn l q1 q2 q3 q4 q5 q6 q7 q8 q9 q10 q11 q12) scope dV kV doc pm an (.ref cda) ct cc) (body := iB m f pn l q1 q2 q3 q4 q5 q6 q7 q8 q9 q10 q11 q12) (binds := [(("self" : Str), .ref x), (pn, v)]) hroom (X _ _ ho) rfl hlim (codeRec_of X hcd) rfl (BindsTo.of_eq (hbnd _ _)) hnc ?_ (fun h₁ hns hk₁ => ?_) hco hgen hk
  · intro y hy
    rcases List.mem_cons.mp hy with rfl | hy
    · exact hsl
    · rw [List.mem_singleton.mp hy]; exact hsp
  show wpAt _ _ (.func _ (ksEnv qual scope s.heap.objs.size fI (.ref cda) cc)) (execs _ (ksEnv qual scope s.heap.objs.size fI (.ref cda) cc)) _ _ _
  have X₁ : K.In h₁ := X.keeps hk₁
  have hself : [(("self" : Str), Value.ref x), (pn, v)].reverse.lookup ("self" : Str) = some (.ref x) := by
    show (match (("self" : Str) == pn) with | true => some v | false => (match (("self" : Str) == ("self" : Str)) with | true => some (Value.ref x) | false => none)) = some (.ref x)
    rw [T.pnn.1] <;> rfl
  have hpv : [(("self" : Str), Value.ref x), (pn, v)].reverse.lookup pn = some v := by
    show (match (pn == pn) with | true => some v | false => _) = some v
    rw [beq_self_eq_true]
  have hsz : s.heap.objs.size ≠ x := Nat.ne_of_gt (Heap.lt_size hx)
  refine ks_wpAt_execs_cons (super_step (h := h₁) T X₁ hnx (G.keeps hk₁) (mg_none_of X G T.noS) (Bn.keeps hk₁) ((hmb _ (by decide)).trans Boot.«super») hns hsz hself (hk₁ _ _ hx) ho rfl rfl hcode hvs hcell hss hsc hsl hk hpos fun h2 tk2 t1 k2 e2 => ?_)
  show wpAt _ _ _ (execs _ _) _ _ _
  have hns2 : h2.Ns s.heap.objs.size (fun y => [(("self" : Str), Value.ref x), (pn, v)].reverse.lookup y) := hns.at fun o e => k2 _ _ hsz e
  have X2 : K.In h2 := kept_but X₁ hnx k2
  have lt2 : s.heap.objs.size < h2.objs.size := hns2.lt
  refine wpAt_of_wpAny (wpAny_execs_cons (plainObj_wpAny_Assign_Attribute (wpAny_mono (Q := fun u s' => ∃ h3 tk3, s' = { s with heap := h3, toks := tk3 } ∧ (∀ b o, h2.get? b = some o → h3.get? b = some o) ∧ Sv l v items s.heap.objs.size x h3 u) (E := fun _ _ => False) ?_ (fun u s' => ?_) fun _ _ z => z.elim) ?_))
  · cases l with
    | false => exact wpAny_Name (wpAny_loadName_local hk hsp hns2 hpv ⟨h2, tk2, rfl, fun _ _ e => e, rfl⟩) T.pnn.2.2
    | true =>
      obtain ⟨⟨it, o, n, ty, ev, hit, hT, hc, hd, hz⟩, hne⟩ := hv rfl
      have hitx : it ≠ x := fun z => hne (by rw [ev, z])
      have hit2 : h2.get? it = some o := k2 _ _ hitx (hk₁ _ _ hit)
      refine wpAny_Call_Name_kw (Calls.Name_function_global hk (hlst rfl) (loadGlobal_builtin ((G.keeps hk₁).at fun o e => k2 _ _ (fun z => ?_) e) (mg_none_of X G (T.noL rfl)) ((Bn.keeps hk₁).at fun o e => k2 _ _ (fun z => ?_) e) ((hmb _ (by decide)).trans Boot.«list») ?_) (by decide))
      · exact ns_ne hx G z
      · exact ns_ne hx Bn z
      refine PyProof.Rows.callWith_type1 ?_ rfl rfl
      refine wpAny_mono (Q := fun vs s' => vs = [v] ∧ ∃ tk', s' = { s with heap := h2, toks := tk' }) (E := fun _ _ => False) ?_ ?_ fun _ _ z => z.elim
      · exact Calls.spliced_cons (wpAny_Name (wpAny_loadName_local hk hsp hns2 hpv (Calls.spliced_nil ⟨rfl, tk2, rfl⟩)) T.pnn.2.2)
      · rintro vs s' ⟨rfl, tk', rfl⟩
        rw [ev]
        refine call_list_seq it hT hit2 hc hd (fun h' c' kp e => ⟨h', tk', rfl, kp, h2.objs.size, c', rfl, Nat.le_of_lt lt2, ?_, e⟩) hz
        exact Nat.ne_of_gt (Heap.lt_size e2)
  · rintro ⟨h3, tk3, rfl, k3, hu⟩
    have hx3 := k3 _ _ e2
    have X3 : K.In h3 := X2.keeps k3
    refine wpAny_Name (wpAny_loadName_local hk hsl (hns2.keeps k3) hself ?_) (by decide)
    refine set_plain X3 (ox := excO C t1) (od := none) ⟨hx3, rfl, rfl, trivial⟩ T.sa ?_
    refine exc_osa X3 hx3 hcl (show refsVE (.ref C :: bm) = true from hbm) rfl T.noF (fun h4 tk4 dx k4 dn dne hx4 hn4 => ?_)
    show wpAny _ _ (execs _ _) _ _ _
    refine wpAny_execs_nil (hq h4 tk4 dx ⟨fun b o hb e => k4 b o hb (k3 _ _ (k2 b o hb (hk₁ b o e))), ⟨t1, hx4⟩, ?_, dne, u, ?_, hn4⟩)
    · exact Nat.le_of_lt (Nat.lt_of_lt_of_le (hns2.keeps k3).lt dn)
    · revert hu
      cases l with
      | false => exact id
      | true => exact fun ⟨a, c', e1, e2, e3, e4⟩ => ⟨a, c', e1, e2, e3, k4 _ _ e3 e4⟩
  · cases l <;> rfl
/-- a made error -/
structure Made (h h' : Heap) (e C d : Addr) (f : Str) (l : Bool) (v : Value) (items : Array Value) : Prop where
  keep : ∀ b o, h.get? b = some o → h'.get? b = some o
  new : h.objs.size ≤ e
  obj : ∃ t1, h'.get? e = some { cls := .ref C, dict := some d, data := .fields #[.ref t1, .none, .none, .none, .bool false, .none] }
  dbig : h.objs.size ≤ d
  dne : d ≠ e
  val : ∃ u, Sv l v items h.objs.size e h' u ∧ h'.Ns1 d (fun y => if y = f then some u else none)
theorem made (T : ITxt prog K C fI m f pn l) {v : Value} {items : Array Value} {mg mb : Str → Option Value} (X : K.In s.heap) (hlim : s.heap.NoLimit) (hroom : A.depth + 1 < recursionLimit) (G : s.heap.Ns mainGlobals mg) (Bn : s.heap.Ns builtinsNs mb) (hmb : ∀ x : Str, x ≠ "__name__" → mb x = bootBuiltins x)
    (hv : l = true → Lv v s.heap items) (hq : ∀ h' tk e d, Made s.heap h' e C d f l v items → R (.ok (.ret (.ref e))) { s with heap := h', toks := tk }) :
    codeAny (model prog w) A (.call (.ref C) ⟨[v], []⟩) R s := by
  obtain ⟨nm, q, N, bs, bm, sn, sub, ab, col, dd, k0, k1, k2, k3, k5, hC, hbm, hal⟩ := T.cls
  obtain ⟨hp, g, dr, tk, os⟩ := s
  have k : ∀ b o, hp.get? b = some o → ((hp.push (kdv_tup [v])).push (excO C hp.objs.size)).get? b = some o := fun b o e => Heap.get?_push_of_some _ (Heap.get?_push_of_some _ e)
  have hget : ((hp.push (kdv_tup [v])).push (excO C hp.objs.size)).get? (hp.objs.size + 1) = some (excO C hp.objs.size) := by heap_get
  have hnx : K.lookup (hp.objs.size + 1) = none := by
    cases e : K.lookup (hp.objs.size + 1) with
    | none => rfl
    | some o =>
      have z : hp.get? (hp.objs.size + 1) = some o := X _ _ e
      exact absurd (Nat.lt_of_succ_lt (Heap.lt_size z)) (Nat.lt_irrefl _)
  refine call_own F.excBase_ValueError (fun X => refsVE_contains X bm hbm) (X _ _ hC) (looks_findIn X T.iC) (fun self => bind_fn X self T.tC) (by show 1 ≤ 16777216; decide) ?_
  refine init_run (s := ⟨(hp.push (kdv_tup [v])).push (excO C hp.objs.size), g, dr, tk, os⟩) (items := items) T (X.keeps k) (hlim.keeps k) hget hnx ?_ (G.keeps k) (Bn.keeps k) hmb (fun hl => ?_) fun h' tk' dx ⟨k', ⟨t1, hx⟩, dn, dne, u, hu, hns⟩ => ?_
  · show A.depth + 1 < recursionLimit
    exact hroom
  · obtain ⟨it, o, n, ty, ev, hit, r⟩ := hv hl
    refine ⟨⟨it, o, n, ty, ev, k _ _ hit, r⟩, fun z => ?_⟩
    rw [ev] at z
    cases z
    exact absurd (Heap.lt_size hit) (Nat.not_lt.mpr (Nat.le_succ _))
  · have old : ∀ b o, hp.get? b = some o → h'.get? b = some o := fun b o e => k' b o (Nat.ne_of_lt (Nat.lt_succ_of_lt (Heap.lt_size e))) (k b o e)
    have z : hp.objs.size + 1 + 1 ≤ dx := by
      first
        | (simpa only [Heap.size_push] using dn)
        | exact dn
    have zz : hp.objs.size ≤ ((hp.push (kdv_tup [v])).push (excO C hp.objs.size)).objs.size := by
      rw [Heap.size_push, Heap.size_push]
      exact Nat.le_succ_of_le (Nat.le_succ _)
    refine ⟨rfl, hq h' tk' (hp.objs.size + 1) dx ⟨old, Nat.le_succ _, ⟨t1, hx⟩, Nat.le_trans (Nat.le_trans (Nat.le_succ _) (Nat.le_succ _)) z, dne, u, ?_, hns⟩⟩
    revert hu
    cases l with
    | false => exact id
    | true => exact fun ⟨a, c', e1, e2, e3, e4⟩ => ⟨a, c', e1, Nat.le_trans zz e2, e3, e4⟩
end
end TX
end PySem
/-! TX2: the rules for such errors. -/
namespace L2
open PySem PySem.Spec PyProof.Rows
theorem no_ge {h : Heap} {b : Addr} (hb : h.objs.size ≤ b) : h.get? b = none := by
  cases e : h.get? b with
  | none => rfl
  | some o => exact absurd (Heap.lt_size e) (Nat.not_lt.mpr hb)
/-- several new objects at once -/
theorem Inv.many0 {X : Cx} {pins : List (Addr × Obj)} {σ : St} {H H' : Hp} {s : Shared} {h' : Heap} {t' : Nat} (I : Inv X pins σ H s) (k : ∀ b u, s.heap.get? b = some u → h'.get? b = some u) (N : Addr → Prop) (hN : ∀ b, N b → s.heap.get? b = none) (hH : ∀ b, ¬ N b → H' b = H b)
    (new : ∀ b o, N b → H' b = some o → ObjOk X.prog X.w H' h' b o) : Inv X pins σ H' { s with heap := h', toks := t' } := by
  have old : ∀ b o, s.heap.get? b = some o → ¬ N b := fun b o e z => by
    have q := hN b z
    rw [e] at q
    cases q
  have oldH : ∀ b o, H b = some o → ¬ N b := fun b o e z => by
    have q := I.hok.gone (hN b z)
    rw [e] at q
    cases q
  have up : ∀ b o, H b = some o → H' b = some o := fun b o e => (hH b (oldH b o e)).trans e
  refine I.un ⟨fun b o e _ _ _ => k b o e, fun b o e _ _ _ => ⟨o.slots, k b o e⟩, fun b o e n _ => (hH b (old b o e)).trans n, fun b o e _ => ⟨o, k b o e⟩, fun b xs e => up b _ e, fun b o u e => up b _ e, fun b ps e => ⟨#[], by rw [up b _ e]; simp⟩⟩ fun b o q => ?_
  by_cases hb : N b
  · exact new b o hb q
  · rw [hH b hb] at q
    exact (I.hok b o q).stay (fun c v _ z => k c v z) (fun c hc => up c _ hc) fun c xs hc => up c _ hc
theorem Inv.many {X : Cx} {pins : List (Addr × Obj)} {σ : St} {H H' : Hp} {s : Shared} {h' : Heap} {t' : Nat} (I : Inv X pins σ H s) (k : ∀ b u, s.heap.get? b = some u → h'.get? b = some u) (N : Addr → Prop) (hN : ∀ b, N b → s.heap.objs.size ≤ b) (hH : ∀ b, ¬ N b → H' b = H b)
    (new : ∀ b o, N b → H' b = some o → ObjOk X.prog X.w H' h' b o) : Inv X pins σ H' { s with heap := h', toks := t' } := I.many0 k N (fun b z => no_ge (hN b z)) hH new
/-- the argument of a class that keeps a copy: a list or a tuple -/
theorem lv_of {X : Cx} {pins : List (Addr × Obj)} {σ : St} {H : Hp} {s : Shared} {p : Addr} {ys : List V} (I : Inv X pins σ H s) (hq : SqL X.K H p ys ∨ SqT X.K H p ys) : ∃ its : List Value, Vals ys its ∧ PySem.TX.Lv (.ref p) s.heap its.toArray ∧ ys.length ≤ sizeLine := by
  rcases hq with hq | hq
  · obtain ⟨its, r', pl, hz⟩ := I.list hq
    obtain ⟨o, ho, hc, n, hd⟩ := pl.isList
    refine ⟨its, r', ⟨p, o, n, "list", rfl, ho, .inl rfl, hc, hd, ?_⟩, hz⟩
    have hlen := r'.length
    simp only [List.size_toArray]
    omega
  · obtain ⟨its, r', pl, hz⟩ := I.tuple hq
    obtain ⟨o, ho, hc, n, hd⟩ := pl
    refine ⟨its, r', ⟨p, o, n, "tuple", rfl, ho, .inr rfl, hc, hd, ?_⟩, hz⟩
    have hlen := r'.length
    simp only [List.size_toArray]
    omega
/-- C(e) as an error to be raised: it keeps its argument | a copy of it -/
def tMkE (C : Addr) (f : Str) (ta : TA) : St → Hp → XK → Prop := fun σ H Q => ta σ H fun vs H1 => ∃ v, vs = [v] ∧ ∀ d, H1 d = none → Q (.ref C) (some d) (upd H1 d (.xd [(f, v)]))
def tMkEL (K : PySem.W.Frag) (C : Addr) (f : Str) (ta : TA) : St → Hp → XK → Prop := fun σ H Q => ta σ H fun vs H1 => ∃ p ys, vs = [.ref p] ∧ (SqL K H1 p ys ∨ SqT K H1 p ys) ∧ ∀ a d, H1 a = none → H1 d = none → a ≠ d → Q (.ref C) (some d) (upd (upd H1 a (.lst ys)) d (.xd [(f, .ref a)]))
/-- C(e) as a value -/
def tMkV (C : Addr) (f : Str) (ta : TA) : TE := fun σ H Q => ta σ H fun vs H1 => ∃ v, vs = [v] ∧ ∀ e d, H1 e = none → H1 d = none → d ≠ e → Q (.ref e) (upd (upd H1 d (exd d [(f, v)])) e (exo e C (some d)))
def tMkVL (K : PySem.W.Frag) (C : Addr) (f : Str) (ta : TA) : TE := fun σ H Q => ta σ H fun vs H1 => ∃ p ys, vs = [.ref p] ∧ (SqL K H1 p ys ∨ SqT K H1 p ys) ∧ ∀ a e d, H1 a = none → H1 e = none → H1 d = none → a ≠ d → a ≠ e → d ≠ e → Q (.ref e) (upd (upd (upd H1 a (.lst ys)) d (exd d [(f, .ref a)])) e (exo e C (some d)))
theorem relO_one {f : Str} {v : V} {u : Value} (r : RelV v u) (g : Str) : RelO (List.lookup g [(f, v)]) (if g = f then some u else none) := relO_put (fs := []) (mA := fun _ => none) r (fun _ => True.intro) g
section
variable {X : Cx} {C fI : Addr} {m f pn : Str} {a : Expr} {ta : TA} {x : Str} {p pos : Pos} {k : Nat}
theorem made_of {l : Bool} {pins : List (Addr × Obj)} {σ : St} {H1 : Hp} {s1 : Shared} {Q : Value → Shared → Prop} {v : Value} {items : Array Value} (T : PySem.TX.ITxt X.prog X.K C fI m f pn l) (hr : Room k X.A) (I1 : Inv X pins σ H1 s1) (hv : l = true → PySem.TX.Lv v s1.heap items)
    (h : ∀ h' tk e d, PySem.TX.Made s1.heap h' e C d f l v items → Q (.ref e) { s1 with heap := h', toks := tk }) : wpAny (model X.prog X.w) X.A (call (.ref C) [v]) Q X.xe s1 := by
  obtain ⟨mb, b1, b2⟩ := I1.mod.blt
  exact wpAny_call (PySem.TX.made (items := items) T I1.kIn I1.nolimit (by have := hr.dp; omega) (I1.mod.glob.keeps I1.bk) (b1.keeps I1.bk) b2 hv h)
theorem pe_mkE (T : PySem.TX.ITxt X.prog X.K C fI m f pn false) (gC : X.mg x = some (.ref C)) (kC : PySem.W.keepIn X.K (.ref C) = true) (hr : Room k X.A) (ha : PA X [a] ta) (hg : Gl X x) (hdb : (x == ("__debug__" : Str)) = false := by decide)
    (he : starEach (a :: []) X.env = (false, eval a X.env) :: starEach [] X.env := by rfl) (hpl : (backTo pos (starEach [] X.env)).any (·.1) = false := by rfl) : PE X (.Call (.Name x p) [a] [] pos) (tMkV C f ta) := by
  refine ⟨fun pins s σ H Q I h => ?_⟩
  refine wpAny_Call_Name_kw (ld_glob I hg gC ?_ hdb)
  refine PySem.W.callWith_K (h₀ := X.base) I.ok.mod.kin kC (thn (ha.run pos pins s σ H _ I h) fun us s1 ⟨vs, H1, I1, r1, v, ev, q1⟩ => ⟨I1.kIn, ?_⟩) he hpl
  subst ev
  obtain ⟨u, rfl, rv⟩ := vals1 r1
  show wpAny _ _ (call (.ref C) [u]) _ _ _
  refine made_of (items := #[]) T hr I1 (fun z => nomatch z) fun h' tk e d M => ?_
  obtain ⟨w, hw, hns⟩ := M.val
  obtain rfl : w = u := hw
  obtain ⟨t1, ho⟩ := M.obj
  have nd := I1.hok.fresh M.dbig
  have ne := I1.hok.fresh M.new
  refine ⟨.ref e, _, I1.many (N := fun b => b = d ∨ b = e) M.keep (fun b z => z.elim (fun z => z ▸ M.dbig) fun z => z ▸ M.new) (fun b z => ?_) (fun b o z q => ?_), rfl, q1 e d ne nd M.dne⟩
  · rw [upd_ne fun y => z (.inr y), upd_ne fun y => z (.inl y)]
  · rcases z with z | z
    · subst z
      rw [upd_ne M.dne, upd_same] at q
      cases q
      exact exd_ok hns (relO_one rv)
    · subst z
      rw [upd_same] at q
      cases q
      exact exo_ok ho
theorem pe_mkEL (T : PySem.TX.ITxt X.prog X.K C fI m f pn true) (gC : X.mg x = some (.ref C)) (kC : PySem.W.keepIn X.K (.ref C) = true) (hr : Room k X.A) (ha : PA X [a] ta) (hg : Gl X x) (hdb : (x == ("__debug__" : Str)) = false := by decide)
    (he : starEach (a :: []) X.env = (false, eval a X.env) :: starEach [] X.env := by rfl) (hpl : (backTo pos (starEach [] X.env)).any (·.1) = false := by rfl) : PE X (.Call (.Name x p) [a] [] pos) (tMkVL X.K C f ta) := by
  refine ⟨fun pins s σ H Q I h => ?_⟩
  refine wpAny_Call_Name_kw (ld_glob I hg gC ?_ hdb)
  refine PySem.W.callWith_K (h₀ := X.base) I.ok.mod.kin kC (thn (ha.run pos pins s σ H _ I h) fun us s1 ⟨vs, H1, I1, r1, q, ys, ev, hq, q1⟩ => ⟨I1.kIn, ?_⟩) he hpl
  subst ev
  obtain ⟨u, rfl, rv⟩ := vals1 r1
  obtain rfl : u = Value.ref q := rv
  obtain ⟨its, rits, lv, hz⟩ := lv_of I1 hq
  show wpAny _ _ (call (.ref C) [.ref q]) _ _ _
  refine made_of (items := its.toArray) T hr I1 (fun _ => lv) fun h' tk e d M => ?_
  obtain ⟨w, ⟨b, c', rfl, bbig, bne, hb⟩, hns⟩ := M.val
  obtain ⟨t1, ho⟩ := M.obj
  have nd := I1.hok.fresh M.dbig
  have ne := I1.hok.fresh M.new
  have nb := I1.hok.fresh bbig
  have bd : b ≠ d := fun z => by
    obtain ⟨o, es, ep, e1, e2, _⟩ := hns
    rw [← z, hb] at e1
    cases e1
    cases e2
  refine ⟨.ref e, _, I1.many (N := fun y => y = b ∨ y = d ∨ y = e) M.keep (fun y z => z.elim (fun z => z ▸ bbig) fun z => z.elim (fun z => z ▸ M.dbig) fun z => z ▸ M.new) (fun y z => ?_) (fun y o z q => ?_), rfl, q1 b e d nb ne nd bd bne M.dne⟩
  · rw [upd_ne fun y => z (.inr (.inr y)), upd_ne fun y => z (.inr (.inl y)), upd_ne fun y => z (.inl y)]
  · rcases z with z | z | z
    · subst z
      rw [upd_ne bne, upd_ne bd, upd_same] at q
      cases q
      exact ⟨hz, its, c', rits, hb⟩
    · subst z
      rw [upd_ne M.dne, upd_same] at q
      cases q
      exact exd_ok hns (relO_one rfl)
    · subst z
      rw [upd_same] at q
      cases q
      exact exo_ok ho
theorem pmk_mkE (T : PySem.TX.ITxt X.prog X.K C fI m f pn false) (tyC : PySem.W.typeIn X.K (.ref C) = some (.type "type")) (gC : X.mg x = some (.ref C)) (kC : PySem.W.keepIn X.K (.ref C) = true) (hr : Room k X.A) (ha : PA X [a] ta) (hg : Gl X x) (hdb : (x == ("__debug__" : Str)) = false := by decide)
    (he : starEach (a :: []) X.env = (false, eval a X.env) :: starEach [] X.env := by rfl) (hpl : (backTo pos (starEach [] X.env)).any (·.1) = false := by rfl) : PMk X (.Call (.Name x p) [a] [] pos) (tMkE C f ta) := by
  intro pins s σ H Q I h
  refine wpAny_Call_Name_kw (ld_glob I hg gC ?_ hdb)
  refine PySem.W.callWith_K (h₀ := X.base) I.ok.mod.kin kC (thn (ha.run pos pins s σ H _ I h) fun us s1 ⟨vs, H1, I1, r1, v, ev, q1⟩ => ⟨I1.kIn, ?_⟩) he hpl
  subst ev
  obtain ⟨u, rfl, rv⟩ := vals1 r1
  show wpAny _ _ (call (.ref C) [u]) _ _ _
  refine made_of (items := #[]) T hr I1 (fun z => nomatch z) fun h' tk e d M => ?_
  obtain ⟨w, hw, hns⟩ := M.val
  obtain rfl : w = u := hw
  obtain ⟨t1, ho⟩ := M.obj
  have nd := I1.hok.fresh M.dbig
  have ne := I1.hok.fresh M.new
  obtain ⟨G, g1, g2⟩ := restrict h' fun b => decide (b ≠ e)
  have gk : ∀ b, b ≠ e → G.get? b = h'.get? b := fun b hb => g1 b (decide_eq_true hb)
  have ge : G.get? e = none := g2 e (by simp)
  have old : ∀ b o, s1.heap.get? b = some o → G.get? b = some o := fun b o q => (gk b (Nat.ne_of_lt (Nat.lt_of_lt_of_le (Heap.lt_size q) M.new))).trans (M.keep b o q)
  have J : Inv X pins σ (upd H1 d (.xd [(f, v)])) { s1 with heap := G, toks := tk } := I1.many (N := fun b => b = d) old (fun b z => z ▸ M.dbig) (fun b z => upd_ne z) (fun b o z q => by
    subst z
    rw [upd_same] at q
    cases q
    exact ⟨_, hns.at fun o y => (gk b M.dne).trans y, relO_one rv⟩)
  refine ⟨e, _, _, { s1 with heap := G, toks := tk }, _, .ref C, some d, rfl, J, fun b o q => ?_, ge, ho, ⟨rfl, rfl⟩, rfl, rfl, ?_, rfl, I1.bare, raises_own T.exC tyC, q1 d nd⟩
  · by_cases hb : b = e
    · rw [hb] at q
      exact absurd (ge.symm.trans q) (by simp)
    · exact (gk b hb).symm.trans q
  · rw [upd_ne (Ne.symm M.dne)]
    exact ne
theorem pmk_mkEL (T : PySem.TX.ITxt X.prog X.K C fI m f pn true) (tyC : PySem.W.typeIn X.K (.ref C) = some (.type "type")) (gC : X.mg x = some (.ref C)) (kC : PySem.W.keepIn X.K (.ref C) = true) (hr : Room k X.A) (ha : PA X [a] ta) (hg : Gl X x) (hdb : (x == ("__debug__" : Str)) = false := by decide)
    (he : starEach (a :: []) X.env = (false, eval a X.env) :: starEach [] X.env := by rfl) (hpl : (backTo pos (starEach [] X.env)).any (·.1) = false := by rfl) : PMk X (.Call (.Name x p) [a] [] pos) (tMkEL X.K C f ta) := by
  intro pins s σ H Q I h
  refine wpAny_Call_Name_kw (ld_glob I hg gC ?_ hdb)
  refine PySem.W.callWith_K (h₀ := X.base) I.ok.mod.kin kC (thn (ha.run pos pins s σ H _ I h) fun us s1 ⟨vs, H1, I1, r1, q, ys, ev, hq, q1⟩ => ⟨I1.kIn, ?_⟩) he hpl
  subst ev
  obtain ⟨u, rfl, rv⟩ := vals1 r1
  obtain rfl : u = Value.ref q := rv
  obtain ⟨its, rits, lv, hz⟩ := lv_of I1 hq
  show wpAny _ _ (call (.ref C) [.ref q]) _ _ _
  refine made_of (items := its.toArray) T hr I1 (fun _ => lv) fun h' tk e d M => ?_
  obtain ⟨w, ⟨b, c', rfl, bbig, bne, hb⟩, hns⟩ := M.val
  obtain ⟨t1, ho⟩ := M.obj
  have nd := I1.hok.fresh M.dbig
  have ne := I1.hok.fresh M.new
  have nb := I1.hok.fresh bbig
  have bd : b ≠ d := fun z => by
    obtain ⟨o, es, ep, e1, e2, _⟩ := hns
    rw [← z, hb] at e1
    cases e1
    cases e2
  obtain ⟨G, g1, g2⟩ := restrict h' fun b => decide (b ≠ e)
  have gk : ∀ b, b ≠ e → G.get? b = h'.get? b := fun b hb => g1 b (decide_eq_true hb)
  have ge : G.get? e = none := g2 e (by simp)
  have old : ∀ b o, s1.heap.get? b = some o → G.get? b = some o := fun b o q => (gk b (Nat.ne_of_lt (Nat.lt_of_lt_of_le (Heap.lt_size q) M.new))).trans (M.keep b o q)
  have J : Inv X pins σ (upd (upd H1 b (.lst ys)) d (.xd [(f, .ref b)])) { s1 with heap := G, toks := tk } := I1.many (N := fun y => y = b ∨ y = d) old (fun y z => z.elim (fun z => z ▸ bbig) fun z => z ▸ M.dbig) (fun y z => by rw [upd_ne fun y => z (.inr y), upd_ne fun y => z (.inl y)]) (fun y o z q => by
    rcases z with z | z
    · subst z
      rw [upd_ne bd, upd_same] at q
      cases q
      exact ⟨hz, its, c', rits, (gk y bne).trans hb⟩
    · subst z
      rw [upd_same] at q
      cases q
      exact ⟨_, hns.at fun o z => (gk y M.dne).trans z, relO_one rfl⟩)
  refine ⟨e, _, _, { s1 with heap := G, toks := tk }, _, .ref C, some d, rfl, J, fun b o q => ?_, ge, ho, ⟨rfl, rfl⟩, rfl, rfl, ?_, rfl, I1.bare, raises_own T.exC tyC, q1 b d nb nd bd⟩
  · by_cases hb : b = e
    · rw [hb] at q
      exact absurd (ge.symm.trans q) (by simp)
    · exact (gk b hb).symm.trans q
  · rw [upd_ne (Ne.symm M.dne), upd_ne (Ne.symm bne)]
    exact ne
end
end L2
/-! TX3: such errors as values: attributes, isinstance; an error of a class without __init__. -/
namespace PySem.W
open PySem PySem.Spec PySem.Calls PyProof.Rows
section
variable {prog : Program} {w : World} {A : Around} {E : Value → Shared → Prop} {s : Shared} {K : Frag} {x D : Addr} {ox : Obj} {od : Option Obj}
theorem findObj_dataD {C : Addr} {name : Str} {a g : Value} (hc : (clsIn K C).isSome = true) (ha : findIn K (.ref C) name = some (some a)) (hg : specialIn K a "__get__" = some (some g)) (ht : takesIn K a = some true) : findObj K C od name = some (.bind g a) := by
  obtain ⟨cd, hc⟩ := Option.isSome_iff_exists.mp hc
  unfold findObj
  rw [hc, Option.bind_some, ha, Option.bind_some]
  simp [hg, ht]
theorem kin_classD {Q : Option Value → Shared → Prop} (hga : findIn K (.ref D) "__getattribute__" = some (some (.builtin "BaseException.__getattribute__"))) (hgt : findIn K (.ref D) "__getattr__" = some none) (hsub : subIn K (.ref D) (.type "BaseException") = some true)
    (hdct : hasDictIn K D = true) (ha : findIn K (.ref D) "__class__" = some (some (.builtin "object.__class__")))
    (hn : specialIn K (.builtin "object.__class__") "__get__" = some (some (.builtin "getset_descriptor.__get__"))) (htk : takesIn K (.builtin "object.__class__") = some true) (hm : mroIn K D (.type "object") = some true)
    (X : K.In s.heap) (I : InstAt s.heap x ox D od) (h : Q (some (.ref D)) { s with toks := s.toks + 1 }) : wpAny (model prog w) A (getAttr? (.ref x) "__class__") Q E s := by
  have hf : findObj K D od "__class__" = some (.bind (.builtin "getset_descriptor.__get__") (.builtin "object.__class__")) := findObj_dataD (by obtain ⟨cd, hc, _⟩ := any_some hdct; rw [hc]; rfl) ha hn htk
  obtain ⟨hp, g, d, t, os⟩ := s
  have L0 := I.type (M := model prog w)
  have L1 := looks_findIn (M := model prog w) X hga
  have L2 := looks_findIn (M := model prog w) X hgt
  have L3 := looks_find (M := model prog w) X I hf
  have sub : Looks (model prog w) hp (isInstance (.ref x) (.type "BaseException")) true := L0.andThen (looks_subIn X hsub)
  have hx0 : (false && onTheHeap (Value.builtin "BaseException.__getattribute__")) = false := rfl
  have hx2 : (Value.builtin "BaseException.__getattribute__" == Value.builtin "object.__getattribute__") = false := by decide +kernel
  have hx1 : (onTheHeap (Value.ref D) && Value.builtin "BaseException.__getattribute__" == Value.builtin "object.__getattribute__") = false := by rw [hx2]; rfl
  unfold getAttr? getAttrBy? getAttrBy
  refine wpAny_bind (wpAny_mkText (wpAny_bind (wpAny_attempt (wpAny_holding (wpAny_bind (L0.at (wpAny_bind (L1.at ?_))))))))
  show wpAny _ _ (if (onTheHeap (Value.ref D) && Value.builtin "BaseException.__getattribute__" == Value.builtin "object.__getattribute__") = true then _ else _) _ _ _
  rw [hx1, if_neg Bool.false_ne_true]
  unfold getAttrByItsOwn hookBefore
  refine wpAny_bind ?_
  rw [if_pos (show onTheHeap (Value.ref D) = true from rfl)]
  refine L2.at ?_
  refine wpAny_bind (wpAny_attempt (wpAny_holding ?_))
  unfold callGetattribute
  rw [hx0, if_neg Bool.false_ne_true]
  unfold boundAndCalled
  rw [PySem.F.excAttr_ValueError.ga.bind (.ref x)]
  refine wpAny_bind (wpAny_pure ?_)
  show wpAny _ _ (call (.builtin "BaseException.__getattribute__") [.ref x, .str "__class__" t]) _ _ _
  refine wpAny_call (codeAny_call_builtin PySem.F.excAttr_ValueError.ga.plain PySem.F.entry_bexc_ga ?_)
  refine @check_slot (model prog w) _ _ ⟨hp, g, d, t + 1, os⟩ "BaseException.__getattribute__" "BaseException" "__getattribute__" (.ref x) [.str "__class__" t] [] _ (by decide +kernel) (by decide +kernel) sub (PySem.F.args_bexc_ga (.ref x) (.str "__class__" t)) ?_
  unfold Builtin.«object.__getattribute__»
  refine wpAny_bind (wpAny_of_eq (a := ((Value.ref x : Value), [Value.str "__class__" t])) (by first | rfl | (simp only [slotArgs]; rfl)) ?_)
  refine wpAny_bind (wpAny_pure (wpAny_bind (L0.at (wpAny_bind (L3.at ?_)))))
  show wpAny _ _ (holding [Value.builtin "object.__class__"] (call (.builtin "getset_descriptor.__get__") [.builtin "object.__class__", .ref x, .ref D]) >>= ret) _ _ _
  refine wpAny_bind (wpAny_holding (wpAny_call (class_get (s := ⟨hp, g, d, t + 1, os⟩) (ox := ox) (od := od) X I hm ?_)))
  refine wpAny_pure ?_
  show wpAny _ _ (handedOut (.ref D)) _ _ _
  rw [handedOut_of (v := .ref D) rfl]
  first
    | exact wpAny_pure (wpAny_pure h)
    | exact wpAny_pure h
    | exact wpAny_pure (wpAny_bind (wpAny_pure (wpAny_pure h)))
theorem kitx_excD (hga : findIn K (.ref D) "__getattribute__" = some (some (.builtin "BaseException.__getattribute__"))) (hgt : findIn K (.ref D) "__getattr__" = some none) (hsub : subIn K (.ref D) (.type "BaseException") = some true) (hdct : hasDictIn K D = true) (ha : findIn K (.ref D) "__class__" = some (some (.builtin "object.__class__")))
    (hn : specialIn K (.builtin "object.__class__") "__get__" = some (some (.builtin "getset_descriptor.__get__"))) (htk : takesIn K (.builtin "object.__class__") = some true) (hm : mroIn K D (.type "object") = some true) :
    KitX K (.ref x) (.ref D) (fun h => InstAt h x ox D od) where
  ty := fun _ _ _ I => I.type
  it := fun _ _ X _ => by
    obtain ⟨cdD, hcD, _⟩ := any_some hdct
    unfold clsIn at hcD
    split at hcD
    · rename_i c' d' cd' sl' ho
      intro A' Q' E' s' k q
      unfold isType loadHead
      exact wpAny_bind (wpAny_loadPart (k _ _ (X _ _ ho)) (wpAny_pure q))
    · cases hcD
  ne := fun h tp dd its n sl X htp => by
    obtain ⟨cdD, hcD, _⟩ := any_some hdct
    refine Bool.eq_false_iff.mpr fun q => ?_
    have e : D = tp := Value.ref.inj (beq_iff_eq.mp q)
    subst e
    unfold clsIn at hcD
    split at hcD
    · rename_i c' d' cd' sl' ho
      have z := (X _ _ ho).symm.trans htp
      cases z
    · cases hcD
  ca := fun X I k => kin_classD hga hgt hsub hdct ha hn htk hm X I k
end
end PySem.W
namespace L2
open PySem PySem.Spec PyProof.Rows
/-- an error as a value: at a, of the class at C, its fields -/
def IsExo (H : Hp) (a C : Addr) (fs : List (Str × V)) : Prop := (H a = some (exo a C none) ∧ fs = []) ∨ ∃ d, H a = some (exo a C (some d)) ∧ H d = some (exd d fs)
theorem exo_inst {P : Program} {w : World} {H : Hp} {h : Heap} {a C : Addr} {fs : List (Str × V)} (hok : HOk P w H h) (e : IsExo H a C fs) : ∃ ox od, PySem.W.InstAt h a ox C od ∧ (∀ o, od = some o → ∀ f, ∃ u, PySem.W.lookIn f o = some u ∧ RelO (fs.lookup f) u) ∧ (fs ≠ [] → ∃ o, od = some o) := by
  rcases e with ⟨e, rfl⟩ | ⟨d, e, ed⟩
  · obtain ⟨t1, ho⟩ := exo_at hok e
    exact ⟨_, none, ⟨ho, rfl, rfl, trivial⟩, fun _ z => (nomatch z), fun z => (z rfl).elim⟩
  · obtain ⟨t1, ho⟩ := exo_at hok e
    obtain ⟨mA, hns, rel⟩ := exd_at hok ed
    obtain ⟨od, hd, hl⟩ := lookIn_ns hns
    exact ⟨_, some od, ⟨ho, rfl, rfl, hd⟩, fun o z f => by cases z; exact ⟨_, hl f, rel f⟩, fun _ => ⟨od, rfl⟩⟩
section
variable {X : Cx} {e : Expr} {te : TE} {pos : Pos} {n : Str}
/-- e.f -/
def tExf (K : PySem.W.Frag) (f : Str) (te : TE) : TE := fun σ H Q => te σ H fun x H1 => ∃ (a C : Addr) (fs : List (Str × V)) (v : V), x = .ref a ∧ IsExo H1 a C fs ∧ XfC K C ∧ PySem.W.findIn K (.ref C) f = some none ∧ fs.lookup f = some v ∧ Q v H1
theorem pe_exf (he : PE X e te) (hb : attributeBase e n X.env (eval e X.env) = eval e X.env := by rfl) : PE X (.Attribute e n pos) (tExf X.K n te) := by
  refine ⟨fun pins s σ H Q I h => ?_⟩
  refine attr_of hb (thn (he.run pins s σ H _ I h) fun u s1 ⟨x, H1, I1, rx, a, C, fs, v, ex, ea, T, hno, l, q⟩ => ?_)
  subst ex
  obtain rfl : u = Value.ref a := rx
  obtain ⟨ox, od, J, look, hd⟩ := exo_inst I1.hok ea
  obtain ⟨o, rfl⟩ := hd (fun z => by rw [z] at l; cases l)
  obtain ⟨uo, hl, hr⟩ := look o rfl n
  rw [l] at hr
  obtain ⟨u, rfl, ru⟩ := RelO.some_of (v := v) (o := uo) hr
  exact HandSPX.exc_get I1.kIn J T.ga T.gg T.exC (PySem.W.findObj_own T.hdC hno rfl (by rw [hl])) (handed_of ru) ⟨v, H1, I1.tok _, ru, q⟩
/-- isinstance(e, c) -/
def rIsExo (K : PySem.W.Frag) : List V → Hp → VK → Prop := fun xs H Q => ∃ (a C : Addr) (fs : List (Str × V)) (c : V) (cv : Value) (b : Bool), xs = [.ref a, c] ∧ IsExo H a C fs ∧ ExcC K C ∧ (∀ u, RelV c u → u = cv) ∧ PySem.W.kitOne K (.ref C) cv = some b ∧ Q (.bl b) H
theorem call_isExo : CallR X (.builtin "isinstance") (rIsExo X.K) := by
  intro pins s σ H xs us Q I r h
  obtain ⟨a, C, fs, c, cv, b, rfl, ea, T, hcv, e, q⟩ := h
  cases r with
  | cons rx rr =>
    cases rr with
    | cons rt rr =>
      cases rr
      cases rx
      have ec := hcv _ rt
      subst ec
      obtain ⟨ox, od, J, _, _⟩ := exo_inst I.hok ea
      exact PySem.W.kia_one (PySem.W.kitx_excD T.hg T.hk T.hs T.hd T.ha T.hn T.ht T.hm) I.kIn J e (fun z => nomatch z) fun tk => ⟨.bl b, H, I.kept (t' := tk) fun _ _ z => z, rfl, q⟩
/-- C(), C without an __init__ of its own -/
def tMk0 (C : Addr) : TE := fun σ H Q => ∀ e, H e = none → Q (.ref e) (upd H e (exo e C none))
theorem pe_mk0 {bmB : List Value} {B newId initId : String} {C : Addr} {x : Str} {p : Pos} (F : ExcBaseFacts B newId initId bmB) (q : PySem.W.excIn X.K C bmB newId = true) (gC : X.mg x = some (.ref C)) (kC : PySem.W.keepIn X.K (.ref C) = true) (hg : Gl X x) (hdb : (x == ("__debug__" : Str)) = false := by decide) :
    PE X (.Call (.Name x p) [] [] pos) (tMk0 C) := by
  refine ⟨fun pins s σ H Q I h => ?_⟩
  refine wpAny_Call_Name_kw (ld_glob I hg gC ?_ hdb)
  refine PySem.W.callWith_K0 I.kIn kC ?_
  show wpAny _ _ (call (.ref C) []) _ _ _
  obtain ⟨bm, N, nm, qn, bs, hdct, sn, sub, ab, col, dd, k0, k1, k2, k3, k5, mN, hC, hN, hni, T⟩ := exc_obj I.kIn q
  refine wpAny_call_exc_subT F T hC hN hni (fun h' e hm => ?_) (by rw [sizeLine_eq]; decide)
  obtain ⟨t, he, _, _⟩ := hm.there
  refine ⟨.ref e, _, I.many0 (t' := s.toks) (N := fun b => b = e) hm.keeps (fun b z => z ▸ hm.new) (fun b z => upd_ne z) (fun b o z q => ?_), rfl, h e (I.hok.gone hm.new)⟩
  subst z
  rw [upd_same] at q
  cases q
  exact exo_ok he
end
end L2
/-! TL10: a def from its body; raise. -/
namespace TL
open PySem L2 PyProof.Rows
def fin {γ : Type} : Fl Empty Empty γ → γ
  | .rt r => r
  | .nx s => s.elim
  | .ct s => s.elim
  | .bk s => s.elim
def finN {γ : Type} (r0 : γ) : Fl Unit Empty γ → γ
  | .rt r => r
  | .nx _ => r0
  | .ct s => s.elim
  | .bk s => s.elim
theorem EnvLe.nos : ∀ {Γ : Envt} {n : Nat}, Γ.length = n → EnvLe (List.replicate n .no) Γ
  | [], 0, _ => .nil
  | _ :: Γ, n + 1, h => .no (EnvLe.nos (Nat.succ.inj h))
  | [], _ + 1, h => by cases h
  | _ :: _, 0, h => by cases h
section
variable {Pg : Program} {w : World} {K : PySem.W.Frag} {mg : Str → Option Value} {base : Heap} {x qual : Str} {params : Arguments} {body : List Stmt} {scope : Scope} {dvs : List V} {kws : List (Str × V)} {f : Addr} {fd : FuncData} {N ps : List Str} {k : Nat}
variable {β : Type} {m : Type → Type} [Mo β m] {ι γ : Type} {d : Pd ι} {P : PR γ}
/-- a def whose body always hands back -/
theorem fn_ok (F : FunD K x qual params body scope dvs kws f fd) (Sc : FnScope N ps scope) (hd : d.len = ps.length) (hN : ps.length ≤ N.length) (mr : ι → m (Fl Empty Empty γ))
    (hb : ∀ (cdv : Value) (A : Around) (outer : List Env) (s : Shared) (H : Hp) (E : XK), Room k (A.deeper (envOfC qual scope s.heap.objs.size f cdv)) → ∀ i, TB (cxOf (L2.CX Pg w) Pg w K mg base N qual scope f cdv A outer s H E) E (d.env i ++ List.replicate (N.length - d.len) Sl.no) body (⟨none, fun e => e.elim, P⟩ : Endt Empty Empty γ) (mr i)) :
    FnOk Pg w K mg base (L2.CX Pg w) (k + 1) f fd ps (SpM K d (fun i => mr i >>= fun z => pure (fin z)) P) :=
  F.ok Sc (fun vs H Q E h => h.len.trans hd) fun cdv A outer s H vs Q E hr ⟨i, F0, B, b, vb, sF, bf, rb, rd, post⟩ => ⟨_, rb_pss body, by
    refine hb cdv A outer s H E hr i B F0 H F0 b vb _ F0 H ⟨B, TL.nil, Pd.start rd sF rb bf (by rw [hd]; exact hN), Grow.rf sF, fun a z => .inl z, fun a z => z.elim, Sub.rf F0⟩ { nx := fun _ H' => Q .non H', rt := Q } ?_
    refine post.run_bind.mono (fun p k1 => ?_) fun er z => z
    obtain ⟨z, b'⟩ := p
    have k2 := k1.run_pure
    cases z with
    | rt r => exact k2
    | nx s => exact s.elim
    | ct s => exact s.elim
    | bk s => exact s.elim⟩
/-- .. whose body may fall through: r0 is None -/
theorem fn_okN (r0 : γ) (h0 : ∀ F H B H0, P.rep r0 .non F H B H0) (F : FunD K x qual params body scope dvs kws f fd) (Sc : FnScope N ps scope) (hd : d.len = ps.length) (hN : ps.length ≤ N.length) (mr : ι → m (Fl Unit Empty γ))
    (hb : ∀ (cdv : Value) (A : Around) (outer : List Env) (s : Shared) (H : Hp) (E : XK), Room k (A.deeper (envOfC qual scope s.heap.objs.size f cdv)) → ∀ i, TB (cxOf (L2.CX Pg w) Pg w K mg base N qual scope f cdv A outer s H E) E (d.env i ++ List.replicate (N.length - d.len) Sl.no) body (⟨some fun _ => List.replicate N.length Sl.no, fun e => e.elim, P⟩ : Endt Unit Empty γ) (mr i)) :
    FnOk Pg w K mg base (L2.CX Pg w) (k + 1) f fd ps (SpM K d (fun i => mr i >>= fun z => pure (finN r0 z)) P) :=
  F.ok Sc (fun vs H Q E h => h.len.trans hd) fun cdv A outer s H vs Q E hr ⟨i, F0, B, b, vb, sF, bf, rb, rd, post⟩ => ⟨_, rb_pss body, by
    refine hb cdv A outer s H E hr i B F0 H F0 b vb _ F0 H ⟨B, TL.nil, Pd.start rd sF rb bf (by rw [hd]; exact hN), Grow.rf sF, fun a z => .inl z, fun a z => z.elim, Sub.rf F0⟩ { nx := fun _ H' => Q .non H', rt := Q } ?_
    refine post.run_bind.mono (fun p k1 => ?_) fun er z => z
    obtain ⟨z, b'⟩ := p
    have k2 := k1.run_pure
    cases z with
    | rt r => exact k2
    | nx s =>
      intro σ F' H' ⟨B', O', st, g, hb', ho', _⟩
      exact k2 .non F' H' B' g hb' st.bf st.bx (h0 _ _ _ _)
    | ct s => exact s.elim
    | bk s => exact s.elim⟩
end
/-! ### raise -/
def RMk (X : Cx) (e : Expr) : L2.St → Hp → XK → Prop := fun σ H Q => ∀ (pins : List (Addr × Obj)) (s : Shared), Inv X pins σ H s → wpAny (model X.prog X.w) X.A (eval e X.env) (MkP X pins σ Q) X.xe s
theorem rmk_pmk {X : Cx} (e : Expr) : PMk X e (RMk X e) := fun pins s σ H Q I h => h pins s I
theorem rmk_of {X : Cx} {e : Expr} {t : L2.St → Hp → XK → Prop} (h : PMk X e t) {σ : L2.St} {H : Hp} {Q : XK} (q : t σ H Q) : RMk X e σ H Q := fun pins s I => h pins s σ H Q I q
section
variable {S L R : Type} {X : Cx} {E : XK} {Γ : Envt} {β : Type} {m : Type → Type} [Mo β m] {α γ : Type} {t : Ty α} {a e : Expr} {pos : Pos} {ma : m α} {rest : List Stmt} {En : Endt S L R}
/-- e makes an error -/
def TR (X : Cx) (E : XK) (Γ : Envt) (e : Expr) (me : m Err) : Prop :=
  ∀ (b : β) (vb : List V) (σ : L2.St) (F H : Hp) (B O : AS), Stt (Mo.T m) b vb Γ σ F H B O → ∀ Q : XK, PostR (Mo.run me b) (fun p => ∀ C d F' H', Grow B F H F' H' → ErrRep X.K F' C d p.1 → Q C d H') (KX X.K F H B E) → RMk X e σ H Q
theorem tb_raise {me : m Err} (hc : X.calm = true) (tk : Takes X (fun cls d _ H => E cls d H)) (h : TR X E Γ e me) : TB X E Γ (.Raise (some e) none pos :: rest) En (me >>= fun er => Mo.lift (.err er)) := fun M F0 H0 Fi b vb σ F H ⟨B, O, st, g0, hb, ho, sF⟩ D q =>
  rb_cons (rs_of (ps_raise hc tk (rmk_pmk e)) (h b vb σ F H B O st _ (q.run_bind.mono (fun p k C d F' H' g r => by
    rw [Mo.run_lift] at k
    exact k C d F' H' (g0.tr g hb) r) fun er z => z.tr g0 hb)))
/-- C(a): it keeps its argument -/
theorem tr_mk {f pn msg : Str} {x : Str} {C fI : Addr} {p : Pos} {k : Nat} {mk : α → Err} (T : PySem.TX.ITxt X.prog X.K C fI msg f pn false) (tyC : PySem.W.typeIn X.K (.ref C) = some (.type "type")) (gC : X.mg x = some (.ref C)) (kC : PySem.W.keepIn X.K (.ref C) = true) (hr : Room k X.A) (hg : Gl X x)
    (hm : ∀ F v y dx, t.rep F v y → F dx = some (.xd [(f, v)]) → ErrRep X.K F (.ref C) (some dx) (mk y)) (ha : TE X E Γ a t ma) (hdb : (x == ("__debug__" : Str)) = false := by decide)
    (he : starEach (a :: []) X.env = (false, eval a X.env) :: starEach [] X.env := by rfl) (hpl : (backTo pos (starEach [] X.env)).any (·.1) = false := by rfl) :
    TR X E Γ (.Call (.Name x p) [a] [] pos) (ma >>= fun y => pure (mk y)) := fun b vb σ F H B O st Q q =>
  rmk_of (pmk_mkE T tyC gC kC hr (pa_cons (re_pe a) pa_nil he) hg hdb he hpl) (ha b vb σ F H B O st _ (q.run_bind.mono (fun pr k1 v F1 H1 B1 g b1 st1 r => ⟨v, rfl, fun d hd => by
    have g2 := Grow.newF (o := .xd [(f, v)]) st1.sub hd
    exact k1.run_pure (.ref C) (some d) _ _ (g.tr0 g2) (hm _ v pr.1 d (t.mono g2.f r) upd_same)⟩) fun _ z => z))
/-- C(a): it keeps a list of the items -/
theorem tr_mkL {f pn msg : Str} {x : Str} {C fI : Addr} {p : Pos} {k : Nat} {mk : List α → Err} {ml : m (List α)} (T : PySem.TX.ITxt X.prog X.K C fI msg f pn true) (tyC : PySem.W.typeIn X.K (.ref C) = some (.type "type")) (gC : X.mg x = some (.ref C)) (kC : PySem.W.keepIn X.K (.ref C) = true) (hr : Room k X.A) (hg : Gl X x)
    (hm : ∀ F v ys dx, (tList t).rep F v ys → F dx = some (.xd [(f, v)]) → ErrRep X.K F (.ref C) (some dx) (mk ys)) (ha : TG X E Γ a (PQ X.K t) ml) (hdb : (x == ("__debug__" : Str)) = false := by decide)
    (he : starEach (a :: []) X.env = (false, eval a X.env) :: starEach [] X.env := by rfl) (hpl : (backTo pos (starEach [] X.env)).any (·.1) = false := by rfl) :
    TR X E Γ (.Call (.Name x p) [a] [] pos) (ml >>= fun y => pure (mk y)) := fun b vb σ F H B O st Q q =>
  rmk_of (pmk_mkEL T tyC gC kC hr (pa_cons (re_pe a) pa_nil he) hg hdb he hpl) (ha b vb σ F H B O st _ (q.run_bind.mono (fun pr k1 v F1 H1 B1 g b1 st1 ⟨p1, vs, ev, hq, r, zl⟩ => ⟨p1, vs, by rw [ev], hq.imp (fun z => SqL.of z.1) (sqT_mono st1.sub), fun a d ha hd hne => by
    have g2 := Grow.newF (o := .lst vs) st1.sub ha
    have g3 := Grow.newF (o := .xd [(f, .ref a)]) g2.s (show upd H1 a (.lst vs) d = none by rw [upd_ne (Ne.symm hne)]; exact hd)
    exact k1.run_pure (.ref C) (some d) _ _ ((g.tr0 g2).tr0 g3) (hm _ (.ref a) pr.1 d ⟨a, vs, rfl, by rw [upd_ne hne, upd_same], r.mono (g2.f.tr g3.f), zl⟩ upd_same)⟩) fun _ z => z))
end
end TL
/-! TB1: a law's box of numbers: [the script's numbers, the place, what is left, the state]. -/
namespace TL
open PySem L2 PyProof.Rows
structure Box where
  cells : List Int
  idx : Int
  left : Int
  st : Int
def boxV (c : Addr) (b : Box) : List V := [.ref c, .int b.idx, .int b.left, .int b.st]
def boxT : OTs Box where
  rep := fun F H vb b p => ∃ a c, vb = [.ref a] ∧ H a = some (.lst (boxV c b)) ∧ (tList tInt).rep F (.ref c) b.cells ∧ p = fun x => x = a
  mono := fun s h ⟨a, c, e, q, r, w⟩ => ⟨a, c, e, by rw [h a (by rw [w])]; exact q, (tList tInt).mono s r, w⟩
  live := fun ⟨a, c, e, q, r, w⟩ hp => by rw [w] at hp; exact ⟨_, by rw [show _ = a from hp]; exact q⟩
instance : StT Box := ⟨boxT⟩
abbrev BM := LM Box
def bGet {α : Type} (g : Box → α) : BM α := fun b => .ok (g b, b)
def bSet (g : Box → Box) : BM Unit := fun b => .ok ((), g b)
section
variable {S L R : Type} {X : Cx} {E : XK} {Γ : Envt} {α : Type} {t : Ty α} {e : Expr} {pos : Pos} {ma : BM α} {rest : List Stmt} {En : Endt S L R}
theorem box_at {b : Box} {vb : List V} {σ : L2.St} {F H : Hp} {B O : AS} {i : Nat} (st : Stt boxT b vb Γ σ F H B O) (hΓ : Γ[i]? = some (.bx 0)) : ∃ a c, vb = [.ref a] ∧ σ[i]? = some (some (.ref a)) ∧ H a = some (.lst (boxV c b)) ∧ (tList tInt).rep F (.ref c) b.cells ∧ B = fun x => x = a := by
  obtain ⟨a, c, e, q, r, w⟩ := st.bx
  obtain ⟨pp, ⟨⟨h1, h2⟩, _⟩, _⟩ := st.at_ hΓ
  rw [e] at h2
  exact ⟨a, c, e, slot_get h2, q, r, w⟩
/-- box[k] -/
theorem te_bx (i : Nat) {nm : Str} {p p2 : Pos} {k : Int} {j0 : Nat} {g : Box → α} (hj : ∀ F c b, (tList tInt).rep F (.ref c) b.cells → ∃ v, atI (boxV c b) k = some v ∧ t.rep F v (g b)) (hv : Vis X.env.scope nm) (hΓ : Γ[i]? = some (.bx 0)) (hN : X.N[i]? = some nm) (hi : PlainIx (.Constant (.int k) j0 p2)) (hd : (nm == ("__debug__" : Str)) = false := by decide) (hcd : (nm == ("__classdict__" : Str)) = false := by decide) :
    TE (m := BM) X E Γ (.Subscript (.Name nm p) (.Constant (.int k) j0 p2) pos) t (bGet g) := fun b vb σ F H B O st Q q => by
  obtain ⟨a, c, ev, eσ, hp, r, w⟩ := box_at st hΓ
  obtain ⟨v, h1, h2⟩ := hj F c b r
  exact re_of (pe_ix ix_list (pe_var hN hv hd hcd) pe_int hi) ⟨_, eσ, a, boxV c b, k, v, rfl, rfl, SqL.of hp, h1, KE.here (m := BM) q st h2⟩
theorem bx0 : ∀ F c b, (tList tInt).rep F (.ref c) (Box.cells b) → ∃ v, atI (boxV c b) 0 = some v ∧ (tList tInt).rep F v (Box.cells b) := fun F c b r => ⟨_, rfl, r⟩
theorem bx1 : ∀ F c b, (tList tInt).rep F (.ref c) (Box.cells b) → ∃ v, atI (boxV c b) 1 = some v ∧ tInt.rep F v (Box.idx b) := fun F c b r => ⟨_, rfl, rfl⟩
theorem bx2 : ∀ F c b, (tList tInt).rep F (.ref c) (Box.cells b) → ∃ v, atI (boxV c b) 2 = some v ∧ tInt.rep F v (Box.left b) := fun F c b r => ⟨_, rfl, rfl⟩
theorem bx3 : ∀ F c b, (tList tInt).rep F (.ref c) (Box.cells b) → ∃ v, atI (boxV c b) 3 = some v ∧ tInt.rep F v (Box.st b) := fun F c b r => ⟨_, rfl, rfl⟩
/-- box[k] = e -/
theorem tb_bx (i : Nat) {nm : Str} {p tp p2 : Pos} {k : Int} {j j0 : Nat} {me : BM Int} {gs : Int → Box → Box} {mr : BM (Fl S L R)} (hk : ixN 4 k = some j) (hj : ∀ c b v, (boxV c b).set j (.int v) = boxV c (gs v b) ∧ (gs v b).cells = b.cells) (hv : Vis X.env.scope nm) (hΓ : Γ[i]? = some (.bx 0)) (hN : X.N[i]? = some nm) (he : TE X E Γ e tInt me)
    (hr : TB X E Γ rest En mr) (hs : swapsWithSole [.Subscript (.Name nm p) (.Constant (.int k) j0 p2) tp] e pos.line X.env = pure false := by rfl) (hw : swappedStores [.Subscript (.Name nm p) (.Constant (.int k) j0 p2) tp] e X.env = pure none := by rfl)
    (h1 : (assignEach [.Subscript (.Name nm p) (.Constant (.int k) j0 p2) tp] X.env).map (·.2) = [assign (.Subscript (.Name nm p) (.Constant (.int k) j0 p2) tp) X.env] := by rfl)
    (ha : ∀ v, assign (.Subscript (.Name nm p) (.Constant (.int k) j0 p2) tp) X.env v = (do
      let ov ← holding [v] (eval (.Name nm p) X.env)
      let iv ← holding [v, ov] (eval (.Constant (.int k) j0 p2) X.env)
      standAt tp
      holding [v, ov, iv] (setItem ov iv v)
      release [v, ov, iv] []) := by intro _; rfl) (hd : (nm == ("__debug__" : Str)) = false := by decide) (hcd : (nm == ("__classdict__" : Str)) = false := by decide) :
    TB X E Γ (.Assign [.Subscript (.Name nm p) (.Constant (.int k) j0 p2) tp] e pos :: rest) En (me >>= fun y => bSet (gs y) >>= fun _ => mr) := fun M F0 H0 Fi b vb σ F H ⟨B, O, st, g0, hb, ho, sF⟩ D q => by
  refine rb_cons (rs_of (ps_asg (re_pe e) (pg_sub (pe_var hN hv hd hcd) pe_int set_list ha) hs hw h1) ?_)
  refine he b vb σ F H B O st _ (q.run_bind.mono (fun pr kk v F1 H1 B1 g b1 st1 rv => ?_) fun er z => z.tr g0 hb)
  have rv' : v = .int pr.1 := rv
  subst rv'
  obtain ⟨a, c, ev, eσ, hp, r, w⟩ := box_at st1 hΓ
  have aB : B1 a := by rw [w]
  refine ⟨_, eσ, a, boxV c pr.2, k, j, rfl, rfl, hp, hk, ?_⟩
  rw [(hj c pr.2 pr.1).1]
  have k2 : PostR (Mo.run mr (gs pr.1 pr.2)) (PostB boxT M F0 H0 Fi vb En D) (KX X.K F0 H0 M E) := kk
  have fa := st1.bf a aB
  have g2 : Grow B1 F1 H1 F1 (upd H1 a (.lst (boxV c (gs pr.1 pr.2)))) := {
    f := Sub.rf F1
    h := fun x o e n => by rw [upd_ne fun z : x = a => n (by rw [z]; exact aB)]; exact e
    s := fun x o e => by rw [upd_ne fun z => by rw [z, fa] at e; cases e]; exact st1.sub x o e
    n := fun x o e q => e
    l := fun x o e => by
      by_cases hx : x = a
      · subst hx; exact ⟨_, upd_same⟩
      · exact ⟨o, by rw [upd_ne hx]; exact e⟩ }
  have st2 := st1.growB (b' := gs pr.1 pr.2) g2 (fun x z => .inl z) ⟨a, c, ev, upd_same, by rw [(hj c pr.2 pr.1).2]; exact r, w⟩ st1.bf
  exact hr M F0 H0 Fi (gs pr.1 pr.2) vb σ F1 _ (SS.step (g0.tr g hb) (back g0 hb b1) ho (sF.tr g.f) g2 (fun x z => .inl z) st2 fun x z => .inl z) D k2
theorem bs1 : ∀ c (b : Box) v, (boxV c b).set 1 (.int v) = boxV c { b with idx := v } ∧ ({ b with idx := v } : Box).cells = b.cells := fun _ _ _ => ⟨rfl, rfl⟩
theorem bs2 : ∀ c (b : Box) v, (boxV c b).set 2 (.int v) = boxV c { b with left := v } ∧ ({ b with left := v } : Box).cells = b.cells := fun _ _ _ => ⟨rfl, rfl⟩
theorem bs3 : ∀ c (b : Box) v, (boxV c b).set 3 (.int v) = boxV c { b with st := v } ∧ ({ b with st := v } : Box).cells = b.cells := fun _ _ _ => ⟨rfl, rfl⟩
/-- a call that may change the in-out arguments -/
theorem te_callM {β : Type} {m : Type → Type} [Mo β m] {ι γ : Type} {d : Pd ι} {f : ι → m γ} {P : PR γ} {mm : m ι} {es : List Expr} {call : Expr} (hcl : ∀ tt, PA X es tt → PE X call (tCall (SpM X.K d f P) [] E tt)) (h : TA X E Γ es d mm) : TG X E Γ call P (mm >>= f) := fun bb vb σ F H B O st Q q =>
  re_of (hcl _ (ra_pa es)) (h bb vb σ F H B O st _ (q.run_bind.mono (fun p1 q1 vs F1 H1 B1 g1 b1 st1 r1 => by
    show SpM X.K d f P (vs ++ []) H1 Q E
    rw [List.append_nil]
    refine ⟨p1.1, F1, B1, p1.2, vb, st1.sub, st1.bf, st1.bx, r1, ?_⟩
    exact q1.mono (fun p k v F' H' B' g' hb' bf' rb rz => (KE.tr (m := m) k g1 b1) v F' H' B' g' hb' (st1.growB g' hb' rb bf') rz) fun er z C dx F' H' g' r => (z.tr g1 b1) C dx F' H' g' r) fun _ z => z))
/-- a new box -/
def PBox : PR Box := ⟨fun b v F H B H0 => ∃ a c, v = .ref a ∧ H a = some (.lst (boxV c b)) ∧ F a = none ∧ ¬ B a ∧ H0 a = none ∧ (tList tInt).rep F (.ref c) b.cells,
  fun ⟨a, c, e, h, f, nb, n0, r⟩ g hb => ⟨a, c, e, g.h _ _ h nb, g.n _ _ f h, nb_stay hb nb h, n0, (tList tInt).mono g.f r⟩, fun ⟨a, c, e, h, f, nb, n0, r⟩ s => ⟨a, c, e, h, f, nb, s a n0, r⟩⟩
def runB {α : Type} (r : BM α) (b : Box) : Res α := (r b).bind fun p => .ok p.1
def noBx : Envt → Prop
  | [] => True
  | .bx _ :: _ => False
  | .bw _ _ :: _ => False
  | _ :: Γ => noBx Γ
theorem noBx.at_ : ∀ {Γ : Envt}, noBx Γ → ∀ i, (∀ k, Γ.getD i .no ≠ .bx k) ∧ ∀ {α : Type} (t : OTy α) (x : α), Γ.getD i .no ≠ .bw t x
  | [], _, _ => ⟨fun _ z => (nomatch z), fun _ _ z => (nomatch z)⟩
  | .no :: _, h, 0 => ⟨fun _ z => (nomatch z), fun _ _ z => (nomatch z)⟩
  | .fz _ _ :: _, h, 0 => ⟨fun _ z => (nomatch z), fun _ _ z => (nomatch z)⟩
  | .ow _ _ :: _, h, 0 => ⟨fun _ z => (nomatch z), fun _ _ z => (nomatch z)⟩
  | .no :: Γ, h, i + 1 => noBx.at_ (Γ := Γ) h i
  | .fz _ _ :: Γ, h, i + 1 => noBx.at_ (Γ := Γ) h i
  | .ow _ _ :: Γ, h, i + 1 => noBx.at_ (Γ := Γ) h i
  | .bw _ _ :: _, h, _ => h.elim
  | .bx _ :: _, h, _ => h.elim
/-- a name = a new box, from now on the in-out argument -/
theorem tb_open (i : Nat) {nm : Str} {p : Pos} {me : Res Box} {mr : BM (Fl Empty Empty α)} (hN : X.N.Nodup) (hi : X.N[i]? = some nm) (hx : Loc X.env.scope nm) (hl : i < Γ.length) (hb0 : noBx Γ) (he : TG (m := Res) X E Γ e PBox me) (hr : TB (m := BM) X E (Γ.set i (.bx 0)) rest (⟨none, fun e => e.elim, PF t⟩ : Endt Empty Empty α) mr)
    (hs : swapsWith e (some (.Name nm p)) pos.line X.env = pure false := by rfl) (hf : X.fn nm = true ∨ X.env.scope.names.lookup nm = some .local := by first | exact .inl rfl | exact .inr rfl | assumption) : TB (m := Res) X E Γ (.Assign [.Name nm p] e pos :: rest) (⟨none, fun e => e.elim, PF t⟩ : Endt Empty Empty α) (me >>= fun b => runB mr b) := fun M F0 H0 Fi b vb σ F H ⟨B, O, st, g0, hb, ho, sF⟩ D q =>
  rb_cons (rs_of (ps_set hN hi hx (re_pe e) hs hf) (he b vb σ F H B O st _ (q.run_bind.mono (fun p k v F1 H1 B1 g b1 st1 ⟨a, c, ev, hp, fa, nb, n0, rc⟩ => by
    subst ev
    obtain ⟨bx, u⟩ := p
    obtain ⟨l, s, rb, f0, bo, ps, ss, un, d⟩ := st1
    have emp : ∀ a, ¬ B1 a := rb
    have h0 : H0 a = none := g0.non n0
    have nO : ¬ O a := fun z => by
      obtain ⟨o, e⟩ := st.ol z
      rw [n0] at e; cases e
    have sub' : ∀ y, (∃ j, butp ps i j y) → O y := fun y ⟨j, _, z⟩ => (un y).mpr ⟨j, z⟩
    have st2 : Stt boxT bx [.ref a] (Γ.set i (.bx 0)) (σ.set i (some (.ref a))) F1 H1 (fun x => x = a) (fun y => ∃ j, butp ps i j y) := by
      refine ⟨by rw [List.length_set, List.length_set]; exact l, s, ⟨a, c, rfl, hp, rc, rfl⟩, fun y z => by rw [show y = a from z]; exact fa, fun y z w => nO (by rw [← show y = a from z]; exact sub' y w), butp ps i, fun j => ?_, fun y => Iff.rfl, fun j k hjk y hy z => d j k hjk y hy.2 z.2⟩
      by_cases hj : j = i
      · subst hj
        rw [getD_set hl, slot_set (by rw [l]; exact hl)]
        exact ⟨⟨(fun z => nomatch z), rfl⟩, fun _ z => z.1 rfl⟩
      · rw [getD_set_ne hj, slot_set_ne hj, butp_ne hj]
        have q := ss j
        have nbx := hb0.at_ j
        revert q nbx
        cases hs : Γ.getD j .no with
        | no => exact fun q _ => q
        | fz t x => exact fun q _ => q
        | ow t x => exact fun q _ => q
        | bw t x => exact fun _ nbx => (nbx.2 t x rfl).elim
        | bx k => exact fun _ nbx => (nbx.1 k rfl).elim
    have k' : PostR (runB mr bx) (fun r => PostB unitT M F0 H0 Fi vb (⟨none, fun e => e.elim, PF t⟩ : Endt Empty Empty α) D (r, ())) (KX X.K F0 H0 M E) := by
      have k2 : PostR ((runB mr bx).bind fun x => .ok (x, ())) (PostB unitT M F0 H0 Fi vb (⟨none, fun e => e.elim, PF t⟩ : Endt Empty Empty α) D) (KX X.K F0 H0 M E) := k
      exact k2.bind
    refine hr M F0 H0 Fi bx [.ref a] _ F1 H1 ⟨_, _, st2, g0.tr g hb, fun y z => .inr (by rw [show y = a from z]; exact h0), fun y z => ho y (sub' y z), sF.tr g.f⟩ D ?_
    have k3 : PostR (mr bx) (fun p => PostB unitT M F0 H0 Fi vb (⟨none, fun e => e.elim, PF t⟩ : Endt Empty Empty α) D (p.1, ())) (KX X.K F0 H0 M E) := k'.bind
    refine k3.mono (fun p z => ?_) fun _ z => z
    obtain ⟨f, b2⟩ := p
    cases f with
    | rt r => exact fun v F H B g hb bf rb rv => z v F H nil g (fun _ z => z.elim) (fun _ z => z.elim) (fun _ z => z) rv
    | nx s => exact s.elim
    | ct s => exact s.elim
    | bk s => exact s.elim) fun er z => z.tr g0 hb)))
end
end TL
/-! TL11: calls by name; what is used often. -/
namespace TL
open PySem L2 PyProof.Rows
/-- the module's function x keeps sp within k -/
def Rdy (Pg : Program) (w : World) (K : PySem.W.Frag) (mg : Str → Option Value) (base : Heap) (x : Str) (k : Nat) (ps : List Str) (sp : Sp) : Prop :=
  ∃ fd, FnOk Pg w K mg base (L2.CX Pg w) k (He.ga K x) fd ps sp ∧ Binds K fd ps [] ∧ PySem.W.keepIn K (.ref (He.ga K x)) = true ∧ mg x = some (.ref (He.ga K x))
/-- what an error may do that leaves X -/
structure Ex (X : Cx) (E : XK) : Prop where
  ps : Passes (L2.CX X.prog X.w) X E
theorem ex_of {X : Cx} {E : XK} (tk : Takes X (fun cls d _ H => E cls d H)) : Ex X E := ⟨passes_call tk fun _ _ _ _ h => h⟩
theorem ex0 {X : Cx} : Ex X E0' := ⟨passL⟩
section
variable {S L R : Type} {X : Cx} {E : XK} {Γ : Envt} {β : Type} {m : Type → Type} [Mo β m] {α γ ι : Type} {t : Ty α} {u : Ty γ} {a e : Expr} {es : List Expr} {pos p : Pos} {ma : m α} {mm : m ι} {d : Pd ι} {P : PR γ} {x : Str} {k : Nat} {ps : List Str} {rest : List Stmt} {En : Endt S L R}
theorem te_f {f : ι → Res γ} (Rd : Rdy X.prog X.w X.K X.mg X.base x k ps (SpM X.K d f P)) (hP : Ret P) (hr : Room k X.A) (ex : Ex X E) (hg : Gl X x) (h : TA X E Γ (e :: es) d mm) (hdb : (x == ("__debug__" : Str)) = false := by decide)
    (he : starEach (e :: es) X.env = (false, eval e X.env) :: starEach es X.env := by rfl) (hpl : (backTo pos (starEach es X.env)).any (·.1) = false := by rfl) : TG X E Γ (.Call (.Name x p) (e :: es) [] pos) P (mm >>= fun i => Mo.lift (f i)) := by
  obtain ⟨fd, F, b, kp, hm⟩ := Rd
  exact te_call hP (fun tt h => pe_call F hr hg hm kp b .nil ex.ps h hdb he hpl) h
theorem te_fM {f : ι → m γ} (Rd : Rdy X.prog X.w X.K X.mg X.base x k ps (SpM X.K d f P)) (hr : Room k X.A) (ex : Ex X E) (hg : Gl X x) (h : TA X E Γ (e :: es) d mm) (hdb : (x == ("__debug__" : Str)) = false := by decide)
    (he : starEach (e :: es) X.env = (false, eval e X.env) :: starEach es X.env := by rfl) (hpl : (backTo pos (starEach es X.env)).any (·.1) = false := by rfl) : TG X E Γ (.Call (.Name x p) (e :: es) [] pos) P (mm >>= f) := by
  obtain ⟨fd, F, b, kp, hm⟩ := Rd
  exact te_callM (fun tt h => pe_call F hr hg hm kp b .nil ex.ps h hdb he hpl) h
/-- it is not None -/
theorem te_get {mo : m (Option α)} (h : TE X E Γ e (tOpt t) mo) : TE X E Γ e t (mo >>= fun o => Mo.lift (opt o)) := fun bb vb σ F H B O st Q q => h bb vb σ F H B O st Q (q.run_bind.mono (fun p k v F' H' B' g hb st' r => by
  obtain ⟨y, ey, k2⟩ := k.run_opt
  have r' : (tOpt t).rep F' v p.1 := r
  rw [ey] at r'
  exact k2 v F' H' B' g hb st' r'.2) fun _ z => z)
/-! ### built-in functions of one argument -/
theorem te_len1 {ml : m (List α)} (hg : Gl X "len") (hm : X.mg "len" = none) (h : TG X E Γ e (PQ X.K t) ml) (he : starEach (e :: []) X.env = (false, eval e X.env) :: starEach [] X.env := by rfl) (hpl : (backTo pos (starEach [] X.env)).any (·.1) = false := by rfl) : TE X E Γ (.Call (.Name "len" p) [e] [] pos) tInt (ml >>= fun xs => pure (xs.length : Int)) :=
  te_call1 (id := "len") call_len_seq o1_lenQ hg hm boot_len h (fun tt h => pa_cons h pa_nil he) fun tt h => pe_callB call_len_seq hg hm boot_len h (by decide) (by decide) he hpl
theorem o1_id {X' : Cx} : Op1 (fun v H Q => (∃ i, [v] = [.int i] ∧ Q (.int i) H) ∨ ∃ k, [v] = [.bl k] ∧ Q (.int (if k then 1 else 0)) H) (PF tInt) (PF tInt) (fun x => x) := fun F H B H0 v x c h Q q => .inl ⟨x, by rw [show v = .int x from h], q _ F H (Grow.rf c.sub) rfl⟩
/-- int(e), of an int -/
theorem te_int1 {mi : m Int} (hg : Gl X "int") (hm : X.mg "int" = none) (h : TE X E Γ e tInt mi) (he : starEach (e :: []) X.env = (false, eval e X.env) :: starEach [] X.env := by rfl) (hpl : (backTo pos (starEach [] X.env)).any (·.1) = false := by rfl) : TE X E Γ (.Call (.Name "int" p) [e] [] pos) tInt (mi >>= fun x => pure x) := fun bb vb σ F H B O st Q q =>
  re_of (pe_callTy call_int1 hg hm (by decide +kernel) (pa_cons (re_pe e) pa_nil he) (by decide) (by decide) he hpl) (one (o1_id (X' := X)) h st q)
/-- list(e) -/
theorem te_list1 {ml : m (List α)} (hg : Gl X "list") (hm : X.mg "list" = none) (h : TG X E Γ e (PQ X.K t) ml) (he : starEach (e :: []) X.env = (false, eval e X.env) :: starEach [] X.env := by rfl) (hpl : (backTo pos (starEach [] X.env)).any (·.1) = false := by rfl) : TG X E Γ (.Call (.Name "list" p) [e] [] pos) (PN t) (ml >>= fun x => pure x) := fun bb vb σ F H B O st Q q =>
  re_of (pe_callTy call_list_of hg hm (by decide +kernel) (pa_cons (re_pe e) pa_nil he) (by decide) (by decide) he hpl) (one o1_listQ h st q)
/-- isinstance(e, c), c a built-in type -/
theorem te_isi {c : Str} {cn : String} {p2 : Pos} {f : α → Bool} (hx : ∀ F H v x, Sub F H → t.rep F v x → ∃ ty, TyX X.K H v (.type ty) ∧ kitB ty cn = some (f x)) (hg : Gl X "isinstance") (hm : X.mg "isinstance" = none) (hgc : Gl X c) (hmc : X.mg c = none) (hvc : bootBuiltins c = some (.type cn)) (h : TE X E Γ e t ma)
    (hn : c ≠ "__name__" := by decide) (hd : (c == ("__debug__" : Str)) = false := by decide) (he : starEach (e :: [.Name c p2]) X.env = (false, eval e X.env) :: starEach [.Name c p2] X.env := by rfl) (he2 : starEach [.Name c p2] X.env = (false, eval (.Name c p2) X.env) :: starEach [] X.env := by rfl) (hpl : (backTo pos (starEach [.Name c p2] X.env)).any (·.1) = false := by rfl) :
    TE X E Γ (.Call (.Name "isinstance" p) [e, .Name c p2] [] pos) tBool (ma >>= fun x => pure (f x)) := fun bb vb σ F H B O st Q q =>
  re_of (pe_callB call_isi hg hm (by decide +kernel) (pa_cons (re_pe e) (pa_cons (pe_bltn hgc hmc hvc (v := .ty cn) rfl hn hd) pa_nil he2) he) (by decide) (by decide) he hpl) (h bb vb σ F H B O st _ (q.run_bind.mono (fun pr k v F1 H1 B1 g b1 st1 r => by
    obtain ⟨ty, h1, h2⟩ := hx F1 H1 v pr.1 st1.sub r
    exact ⟨v, .ty cn, .type ty, .type cn, f pr.1, rfl, .ty cn, h1, kit_ty h2, k.run_pure (.bl (f pr.1)) F1 H1 B1 g b1 st1 rfl⟩) fun _ z => z))
theorem isI {cn : String} {b : Bool} {K : PySem.W.Frag} (h : kitB "int" cn = some b := by decide +kernel) : ∀ (F H : Hp) v (x : Int), Sub F H → tInt.rep F v x → ∃ ty, TyX K H v (.type ty) ∧ kitB ty cn = some b := fun F H v x s r => ⟨"int", by rw [show v = .int x from r]; exact .base (.int x), h⟩
theorem isS {cn : String} {b : Bool} {K : PySem.W.Frag} (h : kitB "str" cn = some b := by decide +kernel) : ∀ (F H : Hp) v (x : Str), Sub F H → tStr.rep F v x → ∃ ty, TyX K H v (.type ty) ∧ kitB ty cn = some b := fun F H v x s r => ⟨"str", by rw [show v = .str x from r]; exact .base (.str x), h⟩
theorem isL {cn : String} {b : Bool} {K : PySem.W.Frag} (h : kitB "list" cn = some b := by decide +kernel) : ∀ (F H : Hp) v (x : List α), Sub F H → (tList t).rep F v x → ∃ ty, TyX K H v (.type ty) ∧ kitB ty cn = some b := fun F H v x s ⟨a, vs, e, hf, _⟩ => ⟨"list", by rw [e]; exact .base (.lst (s _ _ hf)), h⟩
theorem Reps.strs {F : Hp} : ∀ {vs : List V} {xs : List Str}, Reps tStr F vs xs → vs = xs.map V.str
  | [], [], _ => rfl
  | _ :: _, _ :: _, h => by rw [List.map_cons, ← Reps.strs h.2]; exact congrArg (· :: _) h.1
  | [], _ :: _, h => h.elim
  | _ :: _, [], h => h.elim
/-- sep.join(list of texts) -/
theorem te_join {o : Expr} {ms : m Str} {ml : m (List Str)} {apos : Pos} (ho : TE X E Γ o tStr ms) (h : TG X E Γ e (PQ X.K tStr) ml) (hs : starEach [e] X.env = [(false, eval e X.env)] := by rfl) (hbase : attributeBase o "join" X.env (eval o X.env) = eval o X.env := by rfl) (hline : (apos.endLine == pos.line) = true := by rfl) :
    TE X E Γ (.Call (.Attribute o "join" apos) [e] [] pos) tStr (ms >>= fun a => ml >>= fun ys => Mo.lift (opt (onlyIf ((ys.map (·.length)).sum + ys.length * a.length ≤ 16777216) (Txt.join a ys)))) := fun bb vb σ F H B O st Q q => by
  refine re_of (pe_join (re_pe o) (re_pe e) hs hbase hline) ?_
  refine ho bb vb σ F H B O st _ (q.run_bind.mono (fun p1 q1 v1 F1 H1 B1 g1 b1 st1 r1 => ?_) fun _ z => z)
  have r1' : v1 = .str p1.1 := r1
  refine ⟨⟨_, r1'⟩, ?_⟩
  refine h p1.2 vb σ F1 H1 B1 O st1 _ (q1.run_bind.mono (fun p2 q2 v2 F2 H2 B2 g2 b2 st2 ⟨p, vs, ev, hq, r, zl⟩ => ?_) fun er z => z.tr g1 b1)
  obtain ⟨y, ey, q3⟩ := q2.run_opt
  obtain ⟨hc, rfl⟩ := onlyIf_some ey
  have evs : vs = p2.1.map V.str := Reps.strs r
  refine ⟨p1.1, p, p2.1, r1', by rw [ev], ?_, hc, ?_⟩
  · rw [← evs]
    exact hq.imp (fun z => SqL.of z.1) (sqT_mono st2.sub)
  · exact q3 _ F2 H2 B2 (g1.tr g2 b1) (back g1 b1 b2) st2 rfl
end
end TL
/-! TE1: errors as values. -/
namespace TL
open PySem L2 PyProof.Rows
def ErrFs (K : PySem.W.Frag) (F : Hp) : Err → List (Str × V) → Prop
  | .num v, fs => fs = [(("value" : Str), .int v)]
  | .name s, fs => fs = [(("name" : Str), .str s)]
  | .taken s, fs => fs = [(("name" : Str), .str s)]
  | .unknown s, fs => fs = [(("name" : Str), .str s)]
  | .place v, fs => fs = [(("place" : Str), .int v)]
  | .many v, fs => fs = [(("count" : Str), .int v)]
  | .site r, fs => ∃ v, fs = [(("ring" : Str), v)] ∧ (tList tInt).rep F v r
  | .shape bl, fs => ∃ v, fs = [(("blames" : Str), v)] ∧ (tList (tTupL K tInt)).rep F v bl
  | .other, fs => fs = []
  | .state s, fs => fs = [(("state" : Str), .str s)]
  | .line v, fs => fs = [(("line" : Str), .int v)]
  | .undo, fs => fs = []
  | .redo, fs => fs = []
  | .deed v, fs => fs = [(("row" : Str), .int v)]
theorem ErrFs.mono {K : PySem.W.Frag} {F F' : Hp} (s : Sub F F') : ∀ {e : Err} {fs : List (Str × V)}, ErrFs K F e fs → ErrFs K F' e fs
  | .num _, _, h => h | .name _, _, h => h | .taken _, _, h => h | .unknown _, _, h => h | .place _, _, h => h | .many _, _, h => h
  | .site r, _, ⟨v, e, h⟩ => ⟨v, e, (tList tInt).mono s h⟩
  | .shape bl, _, ⟨v, e, h⟩ => ⟨v, e, (tList (tTupL K tInt)).mono s h⟩
  | .other, _, h => h | .state _, _, h => h | .line _, _, h => h | .undo, _, h => h | .redo, _, h => h | .deed _, _, h => h
theorem exo_mono {F F' : Hp} {a C : Addr} {fs : List (Str × V)} (s : Sub F F') : IsExo F a C fs → IsExo F' a C fs
  | .inl ⟨h, e⟩ => .inl ⟨s _ _ h, e⟩
  | .inr ⟨d, h, h'⟩ => .inr ⟨d, s _ _ h, s _ _ h'⟩
/-- an error as a value -/
def tExc (K : PySem.W.Frag) : Ty Err := ⟨fun F v e => ∃ a fs, v = .ref a ∧ IsExo F a (He.ga K e.cls) fs ∧ ErrFs K F e fs, fun s ⟨a, fs, e, h, r⟩ => ⟨a, fs, e, exo_mono s h, r.mono s⟩⟩
section
variable {X : Cx} {E : XK} {Γ : Envt} {β : Type} {m : Type → Type} [Mo β m] {α γ : Type} {t : Ty α} {u : Ty γ} {a e : Expr} {pos p : Pos} {ma : m α} {me : m Err} {f pn msg x : Str} {fI : Addr} {k : Nat}
theorem te_mkV {mk : α → Err} (T : PySem.TX.ITxt X.prog X.K (He.ga X.K x) fI msg f pn false) (gC : X.mg x = some (.ref (He.ga X.K x))) (kC : PySem.W.keepIn X.K (.ref (He.ga X.K x)) = true) (hr : Room k X.A) (hg : Gl X x)
    (hm : ∀ F v y, t.rep F v y → (mk y).cls = x ∧ ErrFs X.K F (mk y) [(f, v)]) (ha : TE X E Γ a t ma) (hdb : (x == ("__debug__" : Str)) = false := by decide)
    (he : starEach (a :: []) X.env = (false, eval a X.env) :: starEach [] X.env := by rfl) (hpl : (backTo pos (starEach [] X.env)).any (·.1) = false := by rfl) :
    TE X E Γ (.Call (.Name x p) [a] [] pos) (tExc X.K) (ma >>= fun y => pure (mk y)) := fun b vb σ F H B O st Q q =>
  re_of (pe_mkE T gC kC hr (pa_cons (re_pe a) pa_nil he) hg hdb he hpl) (ha b vb σ F H B O st _ (q.run_bind.mono (fun pr k1 v F1 H1 B1 g b1 st1 r => ⟨v, rfl, fun e d he hd hne => by
    have g2 := Grow.newF (o := exd d [(f, v)]) st1.sub hd
    have g3 := Grow.newF (o := exo e (He.ga X.K x) (some d)) g2.s (show upd H1 d _ e = none by rw [upd_ne (Ne.symm hne)]; exact he)
    obtain ⟨hc, hf⟩ := hm _ v pr.1 (t.mono (g2.f.tr g3.f) r)
    refine k1.run_pure _ _ _ B1 (g.tr0 (g2.tr0 g3)) b1 (st1.grow0 (g2.tr0 g3)) ⟨e, _, rfl, ?_, hf⟩
    rw [hc]
    exact .inr ⟨d, upd_same, by rw [upd_ne hne, upd_same]⟩⟩) fun _ z => z))
theorem te_mkVL {mk : List α → Err} {ml : m (List α)} (T : PySem.TX.ITxt X.prog X.K (He.ga X.K x) fI msg f pn true) (gC : X.mg x = some (.ref (He.ga X.K x))) (kC : PySem.W.keepIn X.K (.ref (He.ga X.K x)) = true) (hr : Room k X.A) (hg : Gl X x)
    (hm : ∀ F v y, (tList t).rep F v y → (mk y).cls = x ∧ ErrFs X.K F (mk y) [(f, v)]) (ha : TG X E Γ a (PQ X.K t) ml) (hdb : (x == ("__debug__" : Str)) = false := by decide)
    (he : starEach (a :: []) X.env = (false, eval a X.env) :: starEach [] X.env := by rfl) (hpl : (backTo pos (starEach [] X.env)).any (·.1) = false := by rfl) :
    TE X E Γ (.Call (.Name x p) [a] [] pos) (tExc X.K) (ml >>= fun y => pure (mk y)) := fun b vb σ F H B O st Q q =>
  re_of (pe_mkEL T gC kC hr (pa_cons (re_pe a) pa_nil he) hg hdb he hpl) (ha b vb σ F H B O st _ (q.run_bind.mono (fun pr k1 v F1 H1 B1 g b1 st1 ⟨p1, vs, ev, hq, r, zl⟩ => ⟨p1, vs, by rw [ev], hq.imp (fun z => SqL.of z.1) (sqT_mono st1.sub), fun a e d ha he hd nad nae hne => by
    have g1 := Grow.newF (o := .lst vs) st1.sub ha
    have g2 := Grow.newF (o := exd d [(f, .ref a)]) g1.s (show upd H1 a _ d = none by rw [upd_ne (Ne.symm nad)]; exact hd)
    have g3 := Grow.newF (o := exo e (He.ga X.K x) (some d)) g2.s (show upd (upd H1 a _) d _ e = none by rw [upd_ne (Ne.symm hne), upd_ne (Ne.symm nae)]; exact he)
    have gg := (g1.tr0 g2).tr0 g3
    obtain ⟨hc, hf⟩ := hm _ (.ref a) pr.1 ⟨a, vs, rfl, by rw [upd_ne nae, upd_ne nad, upd_same], r.mono gg.f, zl⟩
    refine k1.run_pure _ _ _ B1 (g.tr0 gg) b1 (st1.grow0 gg) ⟨e, _, rfl, ?_, hf⟩
    rw [hc]
    exact .inr ⟨d, upd_same, by rw [upd_ne hne, upd_same]⟩⟩) fun _ z => z))
theorem te_mk0 {er : Err} (q0 : PySem.W.excIn X.K (He.ga X.K x) He.veBase "ValueError.__new__" = true) (gC : X.mg x = some (.ref (He.ga X.K x))) (kC : PySem.W.keepIn X.K (.ref (He.ga X.K x)) = true) (hg : Gl X x) (hc : er.cls = x) (hf : ∀ F, ErrFs X.K F er []) (hdb : (x == ("__debug__" : Str)) = false := by decide) :
    TE (m := m) X E Γ (.Call (.Name x p) [] [] pos) (tExc X.K) (pure er) := fun b vb σ F H B O st Q q =>
  re_of (pe_mk0 PySem.F.excBase_ValueError q0 gC kC hg hdb) fun e he => by
    have g := Grow.newF (o := exo e (He.ga X.K x) none) st.sub he
    exact q.run_pure.end0 st g ⟨e, [], rfl, .inl ⟨by rw [hc, upd_same], rfl⟩, hf _⟩
/-- e.f -/
theorem te_excF {sel : Err → Option γ} (hs : ∀ F er fs y, sel er = some y → ErrFs X.K F er fs → XfC X.K (He.ga X.K er.cls) ∧ PySem.W.findIn X.K (.ref (He.ga X.K er.cls)) f = some none ∧ ∃ v, fs.lookup f = some v ∧ u.rep F v y) (h : TE X E Γ e (tExc X.K) me) (hb : attributeBase e f X.env (eval e X.env) = eval e X.env := by rfl) :
    TE X E Γ (.Attribute e f pos) u (me >>= fun er => Mo.lift (opt (sel er))) := fun b vb σ F H B O st Q q =>
  re_of (pe_exf (re_pe e) hb) (h b vb σ F H B O st _ (q.run_bind.mono (fun pr k v F1 H1 B1 g b1 st1 ⟨a, fs, ev, hx, hfs⟩ => by
    obtain ⟨y, ey, k2⟩ := k.run_opt
    obtain ⟨h1, h2, w, h3, h4⟩ := hs F1 pr.1 fs y ey hfs
    exact ⟨a, _, fs, w, ev, exo_mono st1.sub hx, h1, h2, h3, k2 w F1 H1 B1 g b1 st1 h4⟩) fun _ z => z))
/-- isinstance(e, C), C an own class -/
theorem te_isE {c : Str} {p2 : Pos} {g : Err → Bool} (hk : ∀ er, ExcC X.K (He.ga X.K er.cls) ∧ PySem.W.kitOne X.K (.ref (He.ga X.K er.cls)) (.ref (He.ga X.K c)) = some (g er)) (hg : Gl X "isinstance") (hm : X.mg "isinstance" = none) (hgc : Gl X c) (hmc : X.mg c = some (.ref (He.ga X.K c))) (h : TE X E Γ e (tExc X.K) me)
    (hd : (c == ("__debug__" : Str)) = false := by decide) (he : starEach (e :: [.Name c p2]) X.env = (false, eval e X.env) :: starEach [.Name c p2] X.env := by rfl) (he2 : starEach [.Name c p2] X.env = (false, eval (.Name c p2) X.env) :: starEach [] X.env := by rfl) (hpl : (backTo pos (starEach [.Name c p2] X.env)).any (·.1) = false := by rfl) :
    TE X E Γ (.Call (.Name "isinstance" p) [e, .Name c p2] [] pos) tBool (me >>= fun x => pure (g x)) := fun bb vb σ F H B O st Q q =>
  re_of (pe_callB call_isExo hg hm (by decide +kernel) (pa_cons (re_pe e) (pa_cons (pe_glob hgc hmc (v := .ref (He.ga X.K c)) rfl hd) pa_nil he2) he) (by decide) (by decide) he hpl) (h bb vb σ F H B O st _ (q.run_bind.mono (fun pr k v F1 H1 B1 g1 b1 st1 ⟨a, fs, ev, hx, hfs⟩ => by
    obtain ⟨h1, h2⟩ := hk pr.1
    exact ⟨a, _, fs, .ref (He.ga X.K c), .ref (He.ga X.K c), g pr.1, by rw [ev], exo_mono st1.sub hx, h1, fun u r => r, h2, k.run_pure _ F1 H1 B1 g1 b1 st1 rfl⟩) fun _ z => z))
/-- isinstance(e, T), T a built-in class -/
theorem te_isET {c : Str} {cn : String} {p2 : Pos} {g : Err → Bool} (hk : ∀ er, ExcC X.K (He.ga X.K er.cls) ∧ PySem.W.kitOne X.K (.ref (He.ga X.K er.cls)) (.type cn) = some (g er)) (hg : Gl X "isinstance") (hm : X.mg "isinstance" = none) (hgc : Gl X c) (hmc : X.mg c = none) (hvc : bootBuiltins c = some (.type cn)) (h : TE X E Γ e (tExc X.K) me)
    (hn : c ≠ "__name__" := by decide) (hd : (c == ("__debug__" : Str)) = false := by decide) (he : starEach (e :: [.Name c p2]) X.env = (false, eval e X.env) :: starEach [.Name c p2] X.env := by rfl) (he2 : starEach [.Name c p2] X.env = (false, eval (.Name c p2) X.env) :: starEach [] X.env := by rfl) (hpl : (backTo pos (starEach [.Name c p2] X.env)).any (·.1) = false := by rfl) :
    TE X E Γ (.Call (.Name "isinstance" p) [e, .Name c p2] [] pos) tBool (me >>= fun x => pure (g x)) := fun bb vb σ F H B O st Q q =>
  re_of (pe_callB call_isExo hg hm (by decide +kernel) (pa_cons (re_pe e) (pa_cons (pe_bltn hgc hmc hvc (v := .ty cn) rfl hn hd) pa_nil he2) he) (by decide) (by decide) he hpl) (h bb vb σ F H B O st _ (q.run_bind.mono (fun pr k v F1 H1 B1 g1 b1 st1 ⟨a, fs, ev, hx, hfs⟩ => by
    obtain ⟨h1, h2⟩ := hk pr.1
    exact ⟨a, _, fs, .ty cn, .type cn, g pr.1, by rw [ev], exo_mono st1.sub hx, h1, fun u r => r, h2, k.run_pure _ F1 H1 B1 g1 b1 st1 rfl⟩) fun _ z => z))
end
end TL
/-! TL12: what the printer wants more. -/
namespace TL
open PySem L2 PyProof.Rows
instance (i j : Int) : Decidable (L2.CMul i j) := by unfold L2.CMul; infer_instance
instance (i j : Int) : Decidable (L2.CPow i j) := by unfold L2.CPow; infer_instance
instance (i j : Int) : Decidable (L2.CDivW i j) := by unfold L2.CDivW; infer_instance
def CPos (_ j : Int) : Prop := 0 < j
instance (i j : Int) : Decidable (CPos i j) := by unfold CPos; infer_instance
theorem op_modP {X : Cx} : OpR X (binaryOp .Mod) (rI CPos fun i j => .int (i % j)) := op_mod
theorem SlOk.frz {vb : List V} {F H : Hp} {O : AS} {s : Sl} {w : Option V} {q : AS} {p : Addr} {o : HO} (h : SlOk vb F H O s w q) (fp : F p = none) (hq : ∀ a, q a → a ≠ p) : SlOk vb (upd F p o) H O s w q := by
  have sub : Sub F (upd F p o) := Sub.updF fp
  cases s with
  | no => exact h
  | fz t x => obtain ⟨⟨v, e, r⟩, z⟩ := h; exact ⟨⟨v, e, t.mono sub r⟩, z⟩
  | ow t x => obtain ⟨⟨v, e, r⟩, z⟩ := h; exact ⟨⟨v, e, t.mono sub (fun _ _ => rfl) r⟩, fun a ha => by rw [upd_ne (hq a ha)]; exact z a ha⟩
  | bw t x => obtain ⟨⟨v, y, e, r, d⟩, z⟩ := h; exact ⟨⟨v, y, e, t.mono sub (fun _ _ => rfl) r, d⟩, z⟩
  | bx k => exact h
/-- a list of one's own is frozen -/
theorem Stt.frz {β : Type} {T : OTs β} {b : β} {vb : List V} {Γ : Envt} {σ : L2.St} {F H : Hp} {B O : AS} {α : Type} {t : Ty α} {xs : List α} {i : Nat} (h : Stt T b vb Γ σ F H B O) (e : Γ[i]? = some (.ow (oList t) xs)) :
    ∃ p vs O', H p = some (.lst vs) ∧ F p = none ∧ O p ∧ (∀ a, O' a → O a) ∧ Stt T b vb (Γ.set i (.fz (tList t) xs)) σ (L2.upd F p (.lst vs)) H B O' := by
  obtain ⟨p, vs, eσ, hp, r, fp, hO, nB, zl, _⟩ := h.upd e
  obtain ⟨l, s, rb, f0, bo, ps, ss, u, d⟩ := h
  have hi : i < Γ.length := (List.getElem?_eq_some_iff.mp e).1
  have q := ss i
  rw [List.getD_eq_getElem?_getD, e] at q
  obtain ⟨⟨v, e1, p', vs', e2, hp', r', zl', w⟩, ff⟩ := q
  have ev := slot_get e1
  rw [eσ] at ev
  cases ev
  cases e2
  rw [hp] at hp'
  cases hp'
  have pp : ps i p := by rw [w]
  have sub : Sub F (L2.upd F p (.lst vs)) := Sub.updF fp
  have sub' : ∀ a, (∃ j, butp ps i j a) → O a := fun a ⟨j, _, z⟩ => (u a).mpr ⟨j, z⟩
  refine ⟨p, vs, fun a => ∃ j, butp ps i j a, hp, fp, hO, sub', by rw [List.length_set]; exact l, fun a o x => ?_, T.mono sub (fun _ _ => rfl) rb, fun a ha => ?_, fun a ha z => bo a ha (sub' a z), butp ps i, fun j => ?_, fun a => Iff.rfl, fun j k hjk a ha z => d j k hjk a ha.2 z.2⟩
  · by_cases ha : a = p
    · subst ha
      rw [upd_same] at x
      cases x
      exact hp
    · rw [upd_ne ha] at x
      exact s a o x
  · rw [upd_ne fun z : a = p => nB (by rw [← z]; exact ha)]
    exact f0 a ha
  · by_cases hj : j = i
    · subst hj
      rw [getD_set hi]
      exact ⟨⟨_, e1, p, vs, rfl, upd_same, r.mono sub, zl⟩, fun _ z => z.1 rfl⟩
    · rw [getD_set_ne hj, butp_ne hj]
      exact ((ss j).frz fp fun a ha z => d j i hj a ha (by rw [show a = p from z]; exact pp)).wkO fun a z => z.imp id (sub' a)
section
variable {S L R : Type} {X : Cx} {E : XK} {Γ : Envt} {β : Type} {m : Type → Type} [Mo β m] {α γ ι : Type} {t : Ty α} {u : Ty γ} {a b e : Expr} {es : List Expr} {pos : Pos} {ma : m α} {mb : m γ} {rest : List Stmt} {En : Endt S L R}
/-- a list of one's own is frozen from here on -/
theorem tb_frz (i : Nat) {xs : List α} {mm : m (Fl S L R)} (hΓ : Γ[i]? = some (.ow (oList t) xs)) (hr : TB X E (Γ.set i (.fz (tList t) xs)) rest En mm) : TB X E Γ rest En mm := fun M F0 H0 Fi bb vb σ F H ⟨B, O, st, g0, hb, ho, sF⟩ D q => by
  obtain ⟨p, vs, O', hp, fp, hO, o', st2⟩ := st.frz hΓ
  exact hr M F0 H0 Fi bb vb σ _ H ⟨B, O', st2, g0.frz hp fp (ho p hO), hb, fun a z => ho a (o' a z), sF.tr (Sub.updF fp)⟩ D q
/-- y = [..], frozen at once -/
theorem tb_setLcF (i : Nat) {nm : Str} {py : Pos} {elt tg iter : Expr} {ifs : List Expr} {scope : Scope} {own : List (Str × Nat)} {pos' : Pos} {t : Ty ι} {u : Ty γ} {mi : m (List ι)} {is : List Nat} {up : ι → Envt → Envt} {mt : ι → m Bool} {me : ι → m γ} {mr : List γ → m (Fl S L R)}
    (hc : X.calm = true) (hN : X.N.Nodup) (hy : X.N[i]? = some nm) (hyl : X.env.scope.names.lookup nm = some .local) (hl : i < Γ.length) (hsw : swapsWith (.ListComp elt [⟨tg, iter, ifs, 0⟩] scope pos') (some (.Name nm py)) pos.line X.env = pure true)
    (hi : TIt X E Γ tg iter t mi) (ok : BlkOk X.N X.env.scope scope own) (his : ∀ j ∈ is, j ∈ own.map (·.2))
    (hg : ∀ (s : Shared) (H : Hp) (C : Addr) (cl : List (Str × Addr)) (fp : List Addr), TT (X.blk s H scope (compEnvC scope cl C X.env) fp) tg t is up)
    (ht : ∀ (s : Shared) (H : Hp) (C : Addr) (cl : List (Str × Addr)) (fp : List Addr) (x : ι), TTs (X.blk s H scope (compEnvC scope cl C X.env) fp) E0' (up x (wipeG Γ (own.map (·.2)))) ifs (mt x))
    (he : ∀ (s : Shared) (H : Hp) (C : Addr) (cl : List (Str × Addr)) (fp : List Addr) (x : ι), TE (X.blk s H scope (compEnvC scope cl C X.env) fp) E0' (up x (wipeG Γ (own.map (·.2)))) elt u (me x))
    (hr : ∀ xs, TB X E (Γ.set i (.fz (tList u) xs)) rest En (mr xs)) (hs : ∀ x, foldedSetIterable iter X.env x = pure x := by intro _; rfl) :
    TB X E Γ (.Assign [.Name nm py] (.ListComp elt [⟨tg, iter, ifs, 0⟩] scope pos') pos :: rest) En ((mi >>= mapF fun x => Mo.noErr (mt x >>= fun b => if b = true then me x >>= fun y => pure (some y) else pure none)) >>= mr) :=
  tb_setLc i hc hN hy hyl hl hsw hi ok his hg ht he (fun xs => tb_frz i (xs := xs) (by rw [List.getElem?_set_self hl]) (by rw [List.set_set]; exact hr xs)) hs
/-- x, y = a, b -/
theorem tb_par (i j : Nat) {x y : Str} {px py pt : Pos} {kt k2 : Nat} {pt2 : Pos} {mr : α → γ → m (Fl S L R)} (hc : X.calm = true) (hN : X.N.Nodup) (hi : X.N[i]? = some x) (hj : X.N[j]? = some y) (hij : i ≠ j) (hx : X.env.scope.names.lookup x = some .local) (hy : X.env.scope.names.lookup y = some .local)
    (ha : TE X E Γ a t ma) (hb : TE X E Γ b u mb) (hr : ∀ p q, TB X E ((Γ.set i (.fz t p)).set j (.fz u q)) rest En (mr p q)) (hli : i < Γ.length) (hlj : j < Γ.length)
    (hs1 : starEach [a, b] X.env = (false, eval a X.env) :: starEach [b] X.env := by rfl) (hs2 : starEach [b] X.env = (false, eval b X.env) :: starEach [] X.env := by rfl)
    (hw : swappedStores [.Tuple [.Name x px, .Name y py] kt pt] (.Tuple [a, b] k2 pt2) X.env = pure (some [x, y]) := by rfl)
    (hs : swapsWithSole [.Tuple [.Name x px, .Name y py] kt pt] (.Tuple [a, b] k2 pt2) pos.line X.env = pure false := by rfl) :
    TB X E Γ (.Assign [.Tuple [.Name x px, .Name y py] kt pt] (.Tuple [a, b] k2 pt2) pos :: rest) En (ma >>= fun p => mb >>= fun q => mr p q) := fun M F0 H0 Fi bb vb σ F H ⟨B, O, st, g0, hb0, ho, sF⟩ D q => by
  refine rb_cons (rs_of (ps_par hc hN hi hj hij hx hy (pa_cons (re_pe a) (pa_cons (re_pe b) pa_nil hs2) hs1) hw hs) ?_)
  refine ha bb vb σ F H B O st _ (q.run_bind.mono (fun p1 q1 v1 F1 H1 B1 g1 b1 st1 r1 => ?_) fun er z => z.tr g0 hb0)
  refine hb p1.2 vb σ F1 H1 B1 O st1 _ (q1.run_bind.mono (fun p2 q2 v2 F2 H2 B2 g2 b2 st2 r2 => ?_) fun er z => z.tr (g0.tr g1 hb0) (back g0 hb0 b1))
  refine ⟨v1, v2, rfl, ?_⟩
  obtain ⟨O3, o3, st3⟩ := st2.setF hli (t := t) (x := p1.1) (v := v1) (t.mono g2.f r1)
  obtain ⟨O4, o4, st4⟩ := st3.setF (i := j) (by rw [List.length_set]; exact hlj) (t := u) (x := p2.1) (v := v2) r2
  exact hr p1.1 p2.1 M F0 H0 Fi p2.2 vb _ F2 H2 (SS.step (g0.tr g1 hb0) (back g0 hb0 b1) ho (sF.tr g1.f) g2 b2 st4 fun z w => .inl (o3 z (o4 z w))) D q2
theorem te_neg1 {p : Pos} {j : Nat} : TE (m := m) X E Γ (.UnaryOp .USub (.Constant (.int 1) j p) pos) tInt (pure (-1)) := fun bb vb σ F H B O st Q q => re_of (pe_un un_neg pe_int) ⟨1, rfl, q.run_pure.here st rfl⟩
/-- len of a text -/
theorem te_lenS {ms : m Str} {p : Pos} (hg : Gl X "len") (hm : X.mg "len" = none) (h : TE X E Γ e tStr ms) (he : starEach (e :: []) X.env = (false, eval e X.env) :: starEach [] X.env := by rfl) (hpl : (backTo pos (starEach [] X.env)).any (·.1) = false := by rfl) :
    TE X E Γ (.Call (.Name "len" p) [e] [] pos) tInt (ms >>= fun s => Mo.lift (opt (onlyIf (s.length ≤ sizeLine) (s.length : Int)))) :=
  te_call1p o1_lenS h (fun tt h => pa_cons h pa_nil he) fun tt h => pe_callB call_len_str hg hm boot_len h (by decide) (by decide) he hpl
/-- a pair's part, by a number -/
theorem te_tix2_0 {mp : m (α × γ)} {p2 : Pos} {j : Nat} (h : TE X E Γ e (tTup2 X.K t u) mp) : TE X E Γ (.Subscript e (.Constant (.int 0) j p2) pos) t (mp >>= fun x => pure x.1) := fun bb vb σ F H B O st Q q =>
  re_of (pe_ix ix_seq (re_pe e) pe_int fun _ _ => rfl) (h bb vb σ F H B O st _ (q.run_bind.mono (fun pr k v F1 H1 B1 g b1 st1 ⟨a, v1, v2, ev, hq, r1, r2⟩ => .inr (.inl ⟨a, [v1, v2], 0, v1, ev, rfl, sqT_mono st1.sub hq, rfl, k.run_pure v1 F1 H1 B1 g b1 st1 r1⟩)) fun _ z => z))
theorem te_tix2_1 {mp : m (α × γ)} {p2 : Pos} {j : Nat} (h : TE X E Γ e (tTup2 X.K t u) mp) : TE X E Γ (.Subscript e (.Constant (.int 1) j p2) pos) u (mp >>= fun x => pure x.2) := fun bb vb σ F H B O st Q q =>
  re_of (pe_ix ix_seq (re_pe e) pe_int fun _ _ => rfl) (h bb vb σ F H B O st _ (q.run_bind.mono (fun pr k v F1 H1 B1 g b1 st1 ⟨a, v1, v2, ev, hq, r1, r2⟩ => .inr (.inl ⟨a, [v1, v2], 1, v2, ev, rfl, sqT_mono st1.sub hq, rfl, k.run_pure v2 F1 H1 B1 g b1 st1 r2⟩)) fun _ z => z))
theorem te_seqT {ml : m (List α)} (h : TE X E Γ e (tTupL X.K t) ml) : TE X E Γ e (tSeq X.K t) ml := tg_imp h fun x v F H B H0 _ ⟨p, vs, e, q, r⟩ => ⟨p, vs, e, .inr q, r⟩
/-- the script -/
def tScr (K : PySem.W.Frag) : Ty (List Int) := ⟨fun F v xs => ∃ a, v = .ref a ∧ SqL K F a (xs.map V.int) ∧ xs.length ≤ sizeLine, fun s ⟨a, e, h, z⟩ => ⟨a, e, (by
  rcases h with h | h
  · rcases h with h | ⟨o, h⟩
    · exact .inl (.inl (s _ _ h))
    · exact .inl (.inr ⟨o, s _ _ h⟩)
  · exact .inr h), z⟩⟩
end
section
variable {X : Cx} {E : XK} {Γ : Envt} {β : Type} {m : Type → Type} [Mo β m] {e : Expr} {pos : Pos}
/-! ### slices -/
def RO (X : Cx) (oe : Option Expr) : TO := fun σ H Q => ∀ (pins : List (Addr × Obj)) (s : Shared), Inv X pins σ H s → wpAny (model X.prog X.w) X.A (evalPart oe X.env) (fun u s' => ∃ o H', Inv X pins σ H' s' ∧ IsPart u o ∧ Q o H') X.xe s
theorem ro_po (oe : Option Expr) : PO X oe (RO X oe) := ⟨fun pins s σ H Q I h => h pins s I⟩
theorem ro_of {oe : Option Expr} {t : TO} (h : PO X oe t) {σ : L2.St} {H : Hp} {Q : Option Int → Hp → Prop} (q : t σ H Q) : RO X oe σ H Q := fun pins s I => h.run pins s σ H Q I q
/-- a slice's part -/
def TPo (X : Cx) (E : XK) (Γ : Envt) (oe : Option Expr) (mo : m (Option Int)) : Prop :=
  ∀ (b : β) (vb : List V) (σ : L2.St) (F H : Hp) (B O : AS), Stt (Mo.T m) b vb Γ σ F H B O → ∀ Q : Option Int → Hp → Prop, PostR (Mo.run mo b) (fun p => ∀ F' H' B', Grow B F H F' H' → (∀ a, B' a → B a ∨ H a = none) → Stt (Mo.T m) p.2 vb Γ σ F' H' B' O → Q p.1 H') (KX X.K F H B E) → RO X oe σ H Q
theorem tpo_none : TPo (m := m) X E Γ none (pure none) := fun b vb σ F H B O st Q q => ro_of po_none (q.run_pure F H B (Grow.rf st.sub) (fun _ z => .inl z) st)
theorem tpo_some {mi : m Int} (h : TE X E Γ e tInt mi) : TPo X E Γ (some e) (mi >>= fun i => pure (some i)) := fun b vb σ F H B O st Q q =>
  ro_of (po_some (re_pe e)) (h b vb σ F H B O st _ (q.run_bind.mono (fun p k v F' H' B' g hb st' r => ⟨p.1, r, k.run_pure F' H' B' g hb st'⟩) fun _ z => z))
def cutL {α : Type} (xs : List α) (lo hi : Option Int) : List α := (xs.drop (HT.sIx xs.length 0 lo)).take (HT.sIx xs.length xs.length hi - HT.sIx xs.length 0 lo)
theorem Reps.cut {α : Type} {t : Ty α} {F : Hp} {vs : List V} {xs : List α} (r : Reps t F vs xs) (lo hi : Option Int) : Reps t F (cutV vs lo hi) (cutL xs lo hi) := by
  unfold cutV cutL
  rw [r.length]
  exact (r.drop _).take _
theorem cutL_le {α : Type} (xs : List α) (lo hi : Option Int) : (cutL xs lo hi).length ≤ xs.length := by
  unfold cutL
  rw [List.length_take, List.length_drop]
  omega
/-- a list's slice -/
theorem te_slice {α : Type} {t : Ty α} {P : PR (List α)} {ml : m (List α)} {lo hi : Option Expr} {ma mb : m (Option Int)} {p2 : Pos} (hS : ∀ F H B H0 v xs, Cc F H B H0 → P.rep xs v F H B H0 → ∃ p vs, v = .ref p ∧ SqL X.K H p vs ∧ Reps t F vs xs ∧ xs.length ≤ sizeLine) (h : TG X E Γ e P ml) (hl : TPo X E Γ lo ma) (hh : TPo X E Γ hi mb) :
    TG X E Γ (.Subscript e (.Slice lo hi none p2) pos) (PN t) (ml >>= fun xs => ma >>= fun i => mb >>= fun j => pure (cutL xs i j)) := fun bb vb σ F H B O st Q q => by
  refine re_of (pe_slice sl_list (re_pe e) (ro_po lo) (ro_po hi)) ?_
  refine h bb vb σ F H B O st _ (q.run_bind.mono (fun p1 q1 v F1 H1 B1 g1 b1 st1 r1 => ?_) fun _ z => z)
  refine hl p1.2 vb σ F1 H1 B1 O st1 _ (q1.run_bind.mono (fun p2 q2 F2 H2 B2 g2 b2 st2 => ?_) fun er z => z.tr g1 b1)
  refine hh p2.2 vb σ F2 H2 B2 O st2 _ (q2.run_bind.mono (fun p3 q3 F3 H3 B3 g3 b3 st3 => ?_) fun er z => (z.tr g1 b1).tr g2 b2)
  have r3 := P.stab (P.stab r1 g2 b2) g3 b3
  obtain ⟨p, vs, ev, hq, r, zl⟩ := hS F3 H3 B3 H v p1.1 (st3.cc fun a z => g1.non (g2.non (g3.non z))) r3
  have zl2 : (cutL p1.1 p2.1 p3.1).length ≤ sizeLine := Nat.le_trans (cutL_le _ _ _) zl
  refine ⟨p, vs, ev, hq, fun l hl => ?_⟩
  have k := (((KE.tr (m := m) (PostR.run_pure (m := m) q3) g1 b1).tr g2 b2).tr g3 b3)
  exact k.end0 st3 (Grow.newO st3.sub hl) ⟨l, _, rfl, upd_same, st3.sub.none hl, (st3.cc (H0 := H3) fun _ z => z).fresh hl, hl, r.cut _ _, zl2⟩
theorem slL {α : Type} {t : Ty α} : ∀ F H B H0 v (xs : List α), Cc F H B H0 → (PL t).rep xs v F H B H0 → ∃ p vs, v = .ref p ∧ SqL X.K H p vs ∧ Reps t F vs xs ∧ xs.length ≤ sizeLine := fun F H B H0 v xs c ⟨p, vs, e, h, nb, r, z⟩ => ⟨p, vs, e, SqL.of h, r, z⟩
theorem Reps.of_ints {F : Hp} (xs : List Int) : Reps tInt F (xs.map V.int) xs := Reps.ints.mpr rfl
theorem slS : ∀ F H B H0 v (xs : List Int), Cc F H B H0 → (PF (tScr X.K)).rep xs v F H B H0 → ∃ p vs, v = .ref p ∧ SqL X.K H p vs ∧ Reps tInt F vs xs ∧ xs.length ≤ sizeLine := fun F H B H0 v xs c r => by
  obtain ⟨p, e, h, z⟩ := (tScr X.K).mono c.sub r
  exact ⟨p, _, e, h, Reps.of_ints xs, z⟩
/-- a law's new box -/
theorem te_box {ml : m (List Int)} {p1 p2 p3 : Pos} {j1 j2 j3 : Nat} (h : TG X E Γ e (PN tInt) ml) (hs : starEach (e :: [.Constant (.int 0) j1 p1, .Constant (.int 0) j2 p2, .Constant (.int 0) j3 p3]) X.env = (false, eval e X.env) :: starEach [.Constant (.int 0) j1 p1, .Constant (.int 0) j2 p2, .Constant (.int 0) j3 p3] X.env := by rfl) :
    TG X E Γ (.List [e, .Constant (.int 0) j1 p1, .Constant (.int 0) j2 p2, .Constant (.int 0) j3 p3] pos) PBox (ml >>= fun xs => pure (⟨xs, 0, 0, 0⟩ : Box)) := fun bb vb σ F H B O st Q q => by
  refine re_of (pe_lst (pa_cons (re_pe e) (pa_cons pe_int (pa_cons pe_int (pa_cons pe_int pa_nil))) hs)) ?_
  have h2 := te_frz h
  refine h2 bb vb σ F H B O st _ (q.run_bind.mono (fun p1 q1 v F1 H1 B1 g1 b1 st1 r1 => ?_) fun _ z => z)
  refine ⟨by show 4 ≤ 16777216; decide, fun p hp => ?_⟩
  obtain ⟨c, vs, ev, hc, r, zl⟩ := id r1
  subst ev
  exact (KE.tr (m := m) (PostR.run_pure (m := m) q1) g1 b1).end0 st1 (Grow.newO st1.sub hp) ⟨p, c, rfl, upd_same, st1.sub.none hp, (st1.cc (H0 := H1) fun _ z => z).fresh hp, hp, r1⟩
end
/-- a block's scope, checked -/
def blkB (N : List Str) (sc scope : Scope) (own : List (Str × Nat)) : Bool :=
  decide (scope.kind = .function) && (scope.names.all fun y => decide (scope.names.lookup y.1 = some y.2)) && (own.all fun p => decide (N[p.2]? = some p.1)) &&
    (scope.names.all fun y => if y.2 = .free then decide (sc.names.lookup y.1 = some .cell ∨ sc.names.lookup y.1 = some .free) else true) &&
    (scope.names.all fun y => if y.2 = .local ∨ y.2 = .cell then decide (y.1 ∈ own.map (·.1) ∨ y.1 ∉ N) else true)
theorem blk_of {N : List Str} {sc scope : Scope} {own : List (Str × Nat)} (h : blkB N sc scope own = true) : BlkOk N sc scope own := by
  unfold blkB at h
  simp only [Bool.and_eq_true, decide_eq_true_eq, List.all_eq_true] at h
  obtain ⟨⟨⟨⟨h1, h2⟩, h3⟩, h4⟩, h5⟩ := h
  refine ⟨h1, h2, h3, fun y hy e => ?_, fun y hy e => ?_⟩
  · have q := h4 y hy
    rw [if_pos e] at q
    exact of_decide_eq_true q
  · have q := h5 y hy
    rw [if_pos e] at q
    exact of_decide_eq_true q
/-- a text's sign -/
def chAt (s : Str) (i : Int) : Option Str := onlyIf (s.length ≤ sizeLine) () |>.bind fun _ => (atI s.cps.toList i).map fun c => ⟨#[c]⟩
theorem o_ixS : Op2p rIxS (PF tStr) (PF tInt) (PF tStr) chAt := fun F H B H0 v1 v2 x y z c h1 h2 ez Q q => by
  unfold chAt at ez
  obtain ⟨_, e1, e2⟩ := Option.bind_eq_some_iff.mp ez
  obtain ⟨hl, _⟩ := onlyIf_some e1
  obtain ⟨ch, e3, rfl⟩ := Option.map_eq_some_iff.mp e2
  exact ⟨x, y, ch, h1, h2, hl, e3, q _ F H (Grow.rf c.sub) rfl⟩
theorem ret_Bx : Ret PBox := fun ⟨a, c, e, h, f, nb, n0, r⟩ s => ⟨a, c, e, h, f, (fun z => by obtain ⟨o, q⟩ := s a z; rw [n0] at q; cases q), n0, r⟩
/-- built-in names that the module leaves alone -/
structure Nn (mg : Str → Option Value) : Prop where
  len : mg "len" = none
  int : mg "int" = none
  list : mg "list" = none
  range : mg "range" = none
  isinstance : mg "isinstance" = none
  enumerate : mg "enumerate" = none
  zip : mg "zip" = none
  bool : mg "bool" = none
  str : mg "str" = none
  ValueError : mg "ValueError" = none
def Def0 (K : PySem.W.Frag) (mg : Str → Option Value) (x : Str) (st : Stmt) : Prop := ∃ fd, FunD K x x (defArgs st) (defBody st) (defScope st) [] [] (He.ga K x) fd ∧ mg x = some (.ref (He.ga K x))
end TL
/-! TL13: == of data, as deep as it may be. -/
namespace TL
open PySem L2 PyProof.Rows
structure Dq (K : PySem.W.Frag) {α : Type} [DecidableEq α] (t : Ty α) (n : Nat) where
  f : α → PyData
  dp : ∀ {F H v x}, Sub F H → t.rep F v x → Dp K H v (f x)
  dep : ∀ x, (f x).depth ≤ n
  eq : ∀ x y, PyData.eqv (f x) (f y) = decide (x = y)
section
variable {K : PySem.W.Frag} {α γ δ ε : Type} [DecidableEq α] [DecidableEq γ] [DecidableEq δ] [DecidableEq ε] {t : Ty α} {u : Ty γ} {w : Ty δ} {z : Ty ε} {n n2 n3 n4 : Nat}
theorem beq_dec {α : Type} [DecidableEq α] (x y : α) : (x == y) = decide (x = y) := by
  by_cases h : x = y
  · rw [decide_eq_true h, h]; exact beq_self_eq_true y
  · rw [decide_eq_false h]; exact beq_eq_false_iff_ne.mpr h
def dqI : Dq K tInt 0 := ⟨.int, fun {F H v x} s r => by rw [show v = .int x from r]; exact .int x, fun _ => by simp [PyData.depth], fun x y => by simp only [PyData.eqv]; exact beq_dec x y⟩
def dqB : Dq K tBool 0 := ⟨.bool, fun {F H v x} s r => by rw [show v = .bl x from r]; exact .bl x, fun _ => by simp [PyData.depth], fun x y => by simp only [PyData.eqv]; exact beq_dec x y⟩
def dqS : Dq K tStr 0 := ⟨.str, fun {F H v x} s r => by rw [show v = .str x from r]; exact .str x, fun _ => by simp [PyData.depth], fun x y => by simp only [PyData.eqv]; exact beq_dec x y⟩
theorem dpAll {f : α → PyData} {F H : Hp} (h : ∀ {v x}, t.rep F v x → Dp K H v (f x)) : ∀ {vs : List V} {xs : List α}, Reps t F vs xs → DpAll K H vs (xs.map f)
  | [], [], _ => .nil
  | _ :: _, _ :: _, r => .cons (h r.1) (dpAll h r.2)
  | [], _ :: _, r => r.elim
  | _ :: _, [], r => r.elim
theorem layAll {f : α → PyData} (h : ∀ x, (f x).canLay0 = true) : ∀ xs : List α, PyData.canLayAll0 (xs.map f) = true
  | [] => rfl
  | x :: xs => by
    simp only [List.map_cons, PyData.canLayAll0, Bool.and_eq_true]
    exact ⟨h x, layAll h xs⟩
theorem depAll {f : α → PyData} (h : ∀ x, (f x).depth ≤ n) : ∀ xs : List α, PyData.depthAll (xs.map f) ≤ n
  | [] => by simp [PyData.depthAll]
  | x :: xs => by
    simp only [List.map_cons, PyData.depthAll]
    exact Nat.max_le.mpr ⟨h x, depAll h xs⟩
theorem eqAll {f : α → PyData} (h : ∀ x y, PyData.eqv (f x) (f y) = decide (x = y)) : ∀ xs ys : List α, PyData.eqvAll (xs.map f) (ys.map f) = decide (xs = ys)
  | [], [] => by simp [PyData.eqvAll]
  | [], y :: ys => by simp [PyData.eqvAll]
  | x :: xs, [] => by simp [PyData.eqvAll]
  | x :: xs, y :: ys => by
    simp only [List.map_cons, PyData.eqvAll, h, eqAll h xs ys, List.cons.injEq]
    by_cases h1 : x = y <;> by_cases h2 : xs = ys <;> simp [h1, h2]
def dqL (q : Dq K t n) : Dq K (tList t) (n + 1) where
  f := fun xs => .list (xs.map q.f)
  dp := fun s ⟨a, vs, e, h, r, _⟩ => by rw [e]; exact .lst (SqL.of (s _ _ h)) (dpAll (fun r => q.dp s r) r)
  dep := fun xs => by simp only [PyData.depth]; exact Nat.succ_le_succ (depAll q.dep xs)
  eq := fun xs ys => by simp only [PyData.eqv]; exact eqAll q.eq xs ys
def dqT (q : Dq K t n) : Dq K (tTupL K t) (n + 1) where
  f := fun xs => .tuple (xs.map q.f)
  dp := fun s ⟨a, vs, e, h, r, _⟩ => by rw [e]; exact .tup (sqT_mono s h) (dpAll (fun r => q.dp s r) r)
  dep := fun xs => by simp only [PyData.depth]; exact Nat.succ_le_succ (depAll q.dep xs)
  eq := fun xs ys => by simp only [PyData.eqv]; exact eqAll q.eq xs ys
def dq2 (q : Dq K t n) (q2 : Dq K u n2) : Dq K (tTup2 K t u) (max n n2 + 1) where
  f := fun x => .tuple [q.f x.1, q2.f x.2]
  dp := fun s ⟨a, v1, v2, e, h, r1, r2⟩ => by rw [e]; exact .tup (sqT_mono s h) (.cons (q.dp s r1) (.cons (q2.dp s r2) .nil))
  dep := fun x => by
    have h1 := q.dep x.1
    have h2 := q2.dep x.2
    simp only [PyData.depth, PyData.depthAll]
    omega
  eq := fun x y => by
    simp only [PyData.eqv, PyData.eqvAll, q.eq, q2.eq, Bool.and_true, Prod.ext_iff]
    by_cases h1 : x.1 = y.1 <;> by_cases h2 : x.2 = y.2 <;> simp [h1, h2]
def dq3 (q : Dq K t n) (q2 : Dq K u n2) (q3 : Dq K w n3) : Dq K (tTup3 K t u w) (max n (max n2 n3) + 1) where
  f := fun x => .tuple [q.f x.1, q2.f x.2.1, q3.f x.2.2]
  dp := fun s ⟨a, v1, v2, v3, e, h, r1, r2, r3⟩ => by rw [e]; exact .tup (sqT_mono s h) (.cons (q.dp s r1) (.cons (q2.dp s r2) (.cons (q3.dp s r3) .nil)))
  dep := fun x => by
    have h1 := q.dep x.1
    have h2 := q2.dep x.2.1
    have h3 := q3.dep x.2.2
    simp only [PyData.depth, PyData.depthAll]
    omega
  eq := fun x y => by
    simp only [PyData.eqv, PyData.eqvAll, q.eq, q2.eq, q3.eq, Bool.and_true, Prod.ext_iff]
    by_cases h1 : x.1 = y.1 <;> by_cases h2 : x.2.1 = y.2.1 <;> by_cases h3 : x.2.2 = y.2.2 <;> simp [h1, h2, h3]
/-- every such datum may be compared (texts: only those without strange signs) -/
def Lay (q : Dq K t n) : Prop := ∀ x, (q.f x).canLay0 = true
theorem layI : Lay (dqI (K := K)) := fun _ => rfl
theorem layB : Lay (dqB (K := K)) := fun _ => rfl
theorem layL {q : Dq K t n} (h : Lay q) : Lay (dqL q) := fun xs => by simp only [dqL, PyData.canLay0]; exact layAll h xs
theorem layT {q : Dq K t n} (h : Lay q) : Lay (dqT q) := fun xs => by simp only [dqT, PyData.canLay0]; exact layAll h xs
theorem lay2 {q : Dq K t n} {q2 : Dq K u n2} (h : Lay q) (h2 : Lay q2) : Lay (dq2 q q2) := fun x => by simp only [dq2, PyData.canLay0, PyData.canLayAll0, h x.1, h2 x.2, Bool.and_self]
theorem lay3 {q : Dq K t n} {q2 : Dq K u n2} {q3 : Dq K w n3} (h : Lay q) (h2 : Lay q2) (h3 : Lay q3) : Lay (dq3 q q2 q3) := fun x => by simp only [dq3, PyData.canLay0, PyData.canLayAll0, h x.1, h2 x.2.1, h3 x.2.2, Bool.and_self]
theorem Dq.shaped {q : Dq K t n} (hn : n ≤ 64) {x : α} (h : (q.f x).canLay0 = true) : SeqAt.shaped (q.f x) = true := by
  unfold SeqAt.shaped
  rw [h, decide_eq_true (Nat.le_trans (q.dep x) hn)] <;> rfl
theorem o_eqD {q : Dq K t n} (h : Lay q) (hn : n ≤ 64 := by decide) : Op2 (rEqD K) (PF t) (PF t) (PF tBool) (fun x y => decide (x = y)) := fun F H B H0 v1 v2 x y c h1 h2 Q k =>
  ⟨q.f x, q.f y, q.dp c.sub h1, q.dp c.sub h2, Dq.shaped hn (h x), Dq.shaped hn (h y), by rw [q.eq]; exact k _ F H (Grow.rf c.sub) rfl⟩
theorem o_neD {q : Dq K t n} (h : Lay q) (hn : n ≤ 64 := by decide) : Op2 (rNeD K) (PF t) (PF t) (PF tBool) (fun x y => !decide (x = y)) := fun F H B H0 v1 v2 x y c h1 h2 Q k =>
  ⟨q.f x, q.f y, q.dp c.sub h1, q.dp c.sub h2, Dq.shaped hn (h x), Dq.shaped hn (h y), by rw [q.eq]; exact k _ F H (Grow.rf c.sub) rfl⟩
theorem o_eqDp (q : Dq K t n) (hn : n ≤ 64 := by decide) : Op2p (rEqD K) (PF t) (PF t) (PF tBool) (fun x y => onlyIf ((q.f x).canLay0 = true ∧ (q.f y).canLay0 = true) (decide (x = y))) := fun F H B H0 v1 v2 x y z c h1 h2 ez Q k => by
  obtain ⟨⟨l1, l2⟩, rfl⟩ := onlyIf_some ez
  exact ⟨q.f x, q.f y, q.dp c.sub h1, q.dp c.sub h2, Dq.shaped hn l1, Dq.shaped hn l2, by rw [q.eq]; exact k _ F H (Grow.rf c.sub) rfl⟩
theorem o_neDp (q : Dq K t n) (hn : n ≤ 64 := by decide) : Op2p (rNeD K) (PF t) (PF t) (PF tBool) (fun x y => onlyIf ((q.f x).canLay0 = true ∧ (q.f y).canLay0 = true) (!decide (x = y))) := fun F H B H0 v1 v2 x y z c h1 h2 ez Q k => by
  obtain ⟨⟨l1, l2⟩, rfl⟩ := onlyIf_some ez
  exact ⟨q.f x, q.f y, q.dp c.sub h1, q.dp c.sub h2, Dq.shaped hn l1, Dq.shaped hn l2, by rw [q.eq]; exact k _ F H (Grow.rf c.sub) rfl⟩
end
end TL
/-! TE2: the program's errors, all of them. -/
namespace TL
open PySem L2 PyProof.Rows
structure InD where
  c : Str
  m : Str
  f : Str
  l : Bool
def initN : List InD := [⟨"BadNumber", "number out of range", "value", false⟩, ⟨"BadName", "name not allowed", "name", false⟩, ⟨"TakenName", "name is taken", "name", false⟩, ⟨"UnknownName", "unknown name", "name", false⟩, ⟨"NoPlace", "no such place", "place", false⟩, ⟨"TooMany", "too many objects", "count", false⟩, ⟨"NoSite", "the told limits contradict one another", "ring", true⟩, ⟨"NoShape", "the trials contradict one another", "blames", true⟩, ⟨"BadState", "not a state of the menu", "state", false⟩, ⟨"BadLine", "line not understood", "line", false⟩, ⟨"DeedFailed", "a deed of the run failed", "row", false⟩]
def zeroN : List Str := ["OtherSite", "NothingToUndo", "NothingToRedo"]
def clsN : List Str := ["BadNumber", "BadName", "TakenName", "UnknownName", "NoPlace", "TooMany", "NoSite", "NoShape", "BadState", "BadLine", "DeedFailed", "OtherSite", "NothingToUndo", "NothingToRedo"]
def fldN : List Str := ["value", "name", "place", "count", "ring", "blames", "state", "line", "row"]
structure Hx (Pg : Program) (K : PySem.W.Frag) (mg : Str → Option Value) : Prop where
  exc : ∀ c ∈ clsN, ExcC K (He.ga K c)
  kit : ∀ c ∈ clsN, ∀ c' ∈ clsN, PySem.W.kitOne K (.ref (He.ga K c)) (.ref (He.ga K c')) = some (decide (c = c'))
  kitL : ∀ c ∈ clsN, PySem.W.kitOne K (.ref (He.ga K c)) (.ref (He.ga K "LadderError")) = some true
  kitV : ∀ c ∈ clsN, PySem.W.kitOne K (.ref (He.ga K c)) (.type "ValueError") = some true
  gL : mg "LadderError" = some (.ref (He.ga K "LadderError"))
  g : ∀ c ∈ clsN, mg c = some (.ref (He.ga K c))
  kp : ∀ c ∈ clsN, PySem.W.keepIn K (.ref (He.ga K c)) = true
  ty : ∀ c ∈ clsN, PySem.W.typeIn K (.ref (He.ga K c)) = some (.type "type")
  it : ∀ d ∈ initN, PySem.TX.ITxt Pg K (He.ga K d.c) (He.ma K (He.ga K d.c) "__init__") d.m d.f d.f d.l
  z : ∀ c ∈ zeroN, PySem.W.excIn K (He.ga K c) He.veBase "ValueError.__new__" = true
  xf : ∀ c ∈ clsN, XfC K (He.ga K c)
  noF : ∀ d ∈ initN, PySem.W.findIn K (.ref (He.ga K d.c)) d.f = some none
theorem cls_mem : ∀ e : Err, e.cls ∈ clsN
  | .num _ => by show ("BadNumber" : Str) ∈ clsN; decide +kernel
  | .name _ => by show ("BadName" : Str) ∈ clsN; decide +kernel
  | .taken _ => by show ("TakenName" : Str) ∈ clsN; decide +kernel
  | .unknown _ => by show ("UnknownName" : Str) ∈ clsN; decide +kernel
  | .place _ => by show ("NoPlace" : Str) ∈ clsN; decide +kernel
  | .many _ => by show ("TooMany" : Str) ∈ clsN; decide +kernel
  | .site _ => by show ("NoSite" : Str) ∈ clsN; decide +kernel
  | .shape _ => by show ("NoShape" : Str) ∈ clsN; decide +kernel
  | .state _ => by show ("BadState" : Str) ∈ clsN; decide +kernel
  | .line _ => by show ("BadLine" : Str) ∈ clsN; decide +kernel
  | .deed _ => by show ("DeedFailed" : Str) ∈ clsN; decide +kernel
  | .other => by show ("OtherSite" : Str) ∈ clsN; decide +kernel
  | .undo => by show ("NothingToUndo" : Str) ∈ clsN; decide +kernel
  | .redo => by show ("NothingToRedo" : Str) ∈ clsN; decide +kernel
def isE (c : Str) (e : Err) : Bool := decide (e.cls = c)
section
variable {X : Cx} {E : XK} {Γ : Envt} {β : Type} {m : Type → Type} [Mo β m] {α γ : Type} {a e : Expr} {pos p p2 : Pos} {me : m Err} {k : Nat}
theorem Hx.isE (hx : Hx X.prog X.K X.mg) {c : Str} (hc : c ∈ clsN) (hn : X.mg "isinstance" = none) (hg : Gl X "isinstance") (hgc : Gl X c) (h : TE X E Γ e (tExc X.K) me)
    (hd : (c == ("__debug__" : Str)) = false := by decide) (he : starEach (e :: [.Name c p2]) X.env = (false, eval e X.env) :: starEach [.Name c p2] X.env := by rfl) (he2 : starEach [.Name c p2] X.env = (false, eval (.Name c p2) X.env) :: starEach [] X.env := by rfl) (hpl : (backTo pos (starEach [.Name c p2] X.env)).any (·.1) = false := by rfl) :
    TE X E Γ (.Call (.Name "isinstance" p) [e, .Name c p2] [] pos) tBool (me >>= fun x => pure (TL.isE c x)) := te_isE (g := TL.isE c) (fun er => ⟨hx.exc _ (cls_mem er), hx.kit _ (cls_mem er) _ hc⟩) hg hn hgc (hx.g c hc) h hd he he2 hpl
theorem Hx.isL (hx : Hx X.prog X.K X.mg) (hn : X.mg "isinstance" = none) (hg : Gl X "isinstance") (hgc : Gl X "LadderError") (h : TE X E Γ e (tExc X.K) me)
    (he : starEach (e :: [.Name "LadderError" p2]) X.env = (false, eval e X.env) :: starEach [.Name "LadderError" p2] X.env := by rfl) (he2 : starEach [.Name "LadderError" p2] X.env = (false, eval (.Name "LadderError" p2) X.env) :: starEach [] X.env := by rfl) (hpl : (backTo pos (starEach [.Name "LadderError" p2] X.env)).any (·.1) = false := by rfl) :
    TE X E Γ (.Call (.Name "isinstance" p) [e, .Name "LadderError" p2] [] pos) tBool (me >>= fun x => pure true) := te_isE (g := fun _ => true) (fun er => ⟨hx.exc _ (cls_mem er), hx.kitL _ (cls_mem er)⟩) hg hn hgc hx.gL h (by decide) he he2 hpl
theorem Hx.isV (hx : Hx X.prog X.K X.mg) (hn : X.mg "isinstance" = none) (hv : X.mg "ValueError" = none) (hg : Gl X "isinstance") (hgc : Gl X "ValueError") (h : TE X E Γ e (tExc X.K) me)
    (he : starEach (e :: [.Name "ValueError" p2]) X.env = (false, eval e X.env) :: starEach [.Name "ValueError" p2] X.env := by rfl) (he2 : starEach [.Name "ValueError" p2] X.env = (false, eval (.Name "ValueError" p2) X.env) :: starEach [] X.env := by rfl) (hpl : (backTo pos (starEach [.Name "ValueError" p2] X.env)).any (·.1) = false := by rfl) :
    TE X E Γ (.Call (.Name "isinstance" p) [e, .Name "ValueError" p2] [] pos) tBool (me >>= fun x => pure true) := te_isET (g := fun _ => true) (fun er => ⟨hx.exc _ (cls_mem er), hx.kitV _ (cls_mem er)⟩) hg hn hgc hv (by decide +kernel) h (by decide) (by decide) he he2 hpl
theorem Hx.r_BadNumber {ma : m (Int)} (hx : Hx X.prog X.K X.mg) (hr : Room k X.A) (hg : Gl X "BadNumber") (ha : TE X E Γ a tInt ma) (he : starEach (a :: []) X.env = (false, eval a X.env) :: starEach [] X.env := by rfl) (hpl : (backTo pos (starEach [] X.env)).any (·.1) = false := by rfl) :
    TR X E Γ (.Call (.Name "BadNumber" p) [a] [] pos) (ma >>= fun y => pure (Err.num y)) := tr_mk (mk := Err.num) (hx.it ⟨"BadNumber", "number out of range", "value", false⟩ (List.mem_of_getElem? (i := 0) rfl)) (hx.ty _ (by decide +kernel)) (hx.g _ (by decide +kernel)) (hx.kp _ (by decide +kernel)) hr hg (fun F v y dx r h => ⟨rfl, dx, rfl, by rw [h, show v = .int y from r]⟩) ha (by decide) he hpl
theorem Hx.v_BadNumber {ma : m (Int)} (hx : Hx X.prog X.K X.mg) (hr : Room k X.A) (hg : Gl X "BadNumber") (ha : TE X E Γ a tInt ma) (he : starEach (a :: []) X.env = (false, eval a X.env) :: starEach [] X.env := by rfl) (hpl : (backTo pos (starEach [] X.env)).any (·.1) = false := by rfl) :
    TE X E Γ (.Call (.Name "BadNumber" p) [a] [] pos) (tExc X.K) (ma >>= fun y => pure (Err.num y)) := te_mkV (mk := Err.num) (hx.it ⟨"BadNumber", "number out of range", "value", false⟩ (List.mem_of_getElem? (i := 0) rfl)) (hx.g _ (by decide +kernel)) (hx.kp _ (by decide +kernel)) hr hg (fun F v y r => ⟨rfl, by rw [show v = .int y from r]; rfl⟩) ha (by decide) he hpl
theorem Hx.r_BadName {ma : m (Str)} (hx : Hx X.prog X.K X.mg) (hr : Room k X.A) (hg : Gl X "BadName") (ha : TE X E Γ a tStr ma) (he : starEach (a :: []) X.env = (false, eval a X.env) :: starEach [] X.env := by rfl) (hpl : (backTo pos (starEach [] X.env)).any (·.1) = false := by rfl) :
    TR X E Γ (.Call (.Name "BadName" p) [a] [] pos) (ma >>= fun y => pure (Err.name y)) := tr_mk (mk := Err.name) (hx.it ⟨"BadName", "name not allowed", "name", false⟩ (List.mem_of_getElem? (i := 1) rfl)) (hx.ty _ (by decide +kernel)) (hx.g _ (by decide +kernel)) (hx.kp _ (by decide +kernel)) hr hg (fun F v y dx r h => ⟨rfl, dx, rfl, by rw [h, show v = .str y from r]⟩) ha (by decide) he hpl
theorem Hx.v_BadName {ma : m (Str)} (hx : Hx X.prog X.K X.mg) (hr : Room k X.A) (hg : Gl X "BadName") (ha : TE X E Γ a tStr ma) (he : starEach (a :: []) X.env = (false, eval a X.env) :: starEach [] X.env := by rfl) (hpl : (backTo pos (starEach [] X.env)).any (·.1) = false := by rfl) :
    TE X E Γ (.Call (.Name "BadName" p) [a] [] pos) (tExc X.K) (ma >>= fun y => pure (Err.name y)) := te_mkV (mk := Err.name) (hx.it ⟨"BadName", "name not allowed", "name", false⟩ (List.mem_of_getElem? (i := 1) rfl)) (hx.g _ (by decide +kernel)) (hx.kp _ (by decide +kernel)) hr hg (fun F v y r => ⟨rfl, by rw [show v = .str y from r]; rfl⟩) ha (by decide) he hpl
theorem Hx.r_TakenName {ma : m (Str)} (hx : Hx X.prog X.K X.mg) (hr : Room k X.A) (hg : Gl X "TakenName") (ha : TE X E Γ a tStr ma) (he : starEach (a :: []) X.env = (false, eval a X.env) :: starEach [] X.env := by rfl) (hpl : (backTo pos (starEach [] X.env)).any (·.1) = false := by rfl) :
    TR X E Γ (.Call (.Name "TakenName" p) [a] [] pos) (ma >>= fun y => pure (Err.taken y)) := tr_mk (mk := Err.taken) (hx.it ⟨"TakenName", "name is taken", "name", false⟩ (List.mem_of_getElem? (i := 2) rfl)) (hx.ty _ (by decide +kernel)) (hx.g _ (by decide +kernel)) (hx.kp _ (by decide +kernel)) hr hg (fun F v y dx r h => ⟨rfl, dx, rfl, by rw [h, show v = .str y from r]⟩) ha (by decide) he hpl
theorem Hx.v_TakenName {ma : m (Str)} (hx : Hx X.prog X.K X.mg) (hr : Room k X.A) (hg : Gl X "TakenName") (ha : TE X E Γ a tStr ma) (he : starEach (a :: []) X.env = (false, eval a X.env) :: starEach [] X.env := by rfl) (hpl : (backTo pos (starEach [] X.env)).any (·.1) = false := by rfl) :
    TE X E Γ (.Call (.Name "TakenName" p) [a] [] pos) (tExc X.K) (ma >>= fun y => pure (Err.taken y)) := te_mkV (mk := Err.taken) (hx.it ⟨"TakenName", "name is taken", "name", false⟩ (List.mem_of_getElem? (i := 2) rfl)) (hx.g _ (by decide +kernel)) (hx.kp _ (by decide +kernel)) hr hg (fun F v y r => ⟨rfl, by rw [show v = .str y from r]; rfl⟩) ha (by decide) he hpl
theorem Hx.r_UnknownName {ma : m (Str)} (hx : Hx X.prog X.K X.mg) (hr : Room k X.A) (hg : Gl X "UnknownName") (ha : TE X E Γ a tStr ma) (he : starEach (a :: []) X.env = (false, eval a X.env) :: starEach [] X.env := by rfl) (hpl : (backTo pos (starEach [] X.env)).any (·.1) = false := by rfl) :
    TR X E Γ (.Call (.Name "UnknownName" p) [a] [] pos) (ma >>= fun y => pure (Err.unknown y)) := tr_mk (mk := Err.unknown) (hx.it ⟨"UnknownName", "unknown name", "name", false⟩ (List.mem_of_getElem? (i := 3) rfl)) (hx.ty _ (by decide +kernel)) (hx.g _ (by decide +kernel)) (hx.kp _ (by decide +kernel)) hr hg (fun F v y dx r h => ⟨rfl, dx, rfl, by rw [h, show v = .str y from r]⟩) ha (by decide) he hpl
theorem Hx.v_UnknownName {ma : m (Str)} (hx : Hx X.prog X.K X.mg) (hr : Room k X.A) (hg : Gl X "UnknownName") (ha : TE X E Γ a tStr ma) (he : starEach (a :: []) X.env = (false, eval a X.env) :: starEach [] X.env := by rfl) (hpl : (backTo pos (starEach [] X.env)).any (·.1) = false := by rfl) :
    TE X E Γ (.Call (.Name "UnknownName" p) [a] [] pos) (tExc X.K) (ma >>= fun y => pure (Err.unknown y)) := te_mkV (mk := Err.unknown) (hx.it ⟨"UnknownName", "unknown name", "name", false⟩ (List.mem_of_getElem? (i := 3) rfl)) (hx.g _ (by decide +kernel)) (hx.kp _ (by decide +kernel)) hr hg (fun F v y r => ⟨rfl, by rw [show v = .str y from r]; rfl⟩) ha (by decide) he hpl
theorem Hx.r_NoPlace {ma : m (Int)} (hx : Hx X.prog X.K X.mg) (hr : Room k X.A) (hg : Gl X "NoPlace") (ha : TE X E Γ a tInt ma) (he : starEach (a :: []) X.env = (false, eval a X.env) :: starEach [] X.env := by rfl) (hpl : (backTo pos (starEach [] X.env)).any (·.1) = false := by rfl) :
    TR X E Γ (.Call (.Name "NoPlace" p) [a] [] pos) (ma >>= fun y => pure (Err.place y)) := tr_mk (mk := Err.place) (hx.it ⟨"NoPlace", "no such place", "place", false⟩ (List.mem_of_getElem? (i := 4) rfl)) (hx.ty _ (by decide +kernel)) (hx.g _ (by decide +kernel)) (hx.kp _ (by decide +kernel)) hr hg (fun F v y dx r h => ⟨rfl, dx, rfl, by rw [h, show v = .int y from r]⟩) ha (by decide) he hpl
theorem Hx.v_NoPlace {ma : m (Int)} (hx : Hx X.prog X.K X.mg) (hr : Room k X.A) (hg : Gl X "NoPlace") (ha : TE X E Γ a tInt ma) (he : starEach (a :: []) X.env = (false, eval a X.env) :: starEach [] X.env := by rfl) (hpl : (backTo pos (starEach [] X.env)).any (·.1) = false := by rfl) :
    TE X E Γ (.Call (.Name "NoPlace" p) [a] [] pos) (tExc X.K) (ma >>= fun y => pure (Err.place y)) := te_mkV (mk := Err.place) (hx.it ⟨"NoPlace", "no such place", "place", false⟩ (List.mem_of_getElem? (i := 4) rfl)) (hx.g _ (by decide +kernel)) (hx.kp _ (by decide +kernel)) hr hg (fun F v y r => ⟨rfl, by rw [show v = .int y from r]; rfl⟩) ha (by decide) he hpl
theorem Hx.r_TooMany {ma : m (Int)} (hx : Hx X.prog X.K X.mg) (hr : Room k X.A) (hg : Gl X "TooMany") (ha : TE X E Γ a tInt ma) (he : starEach (a :: []) X.env = (false, eval a X.env) :: starEach [] X.env := by rfl) (hpl : (backTo pos (starEach [] X.env)).any (·.1) = false := by rfl) :
    TR X E Γ (.Call (.Name "TooMany" p) [a] [] pos) (ma >>= fun y => pure (Err.many y)) := tr_mk (mk := Err.many) (hx.it ⟨"TooMany", "too many objects", "count", false⟩ (List.mem_of_getElem? (i := 5) rfl)) (hx.ty _ (by decide +kernel)) (hx.g _ (by decide +kernel)) (hx.kp _ (by decide +kernel)) hr hg (fun F v y dx r h => ⟨rfl, dx, rfl, by rw [h, show v = .int y from r]⟩) ha (by decide) he hpl
theorem Hx.v_TooMany {ma : m (Int)} (hx : Hx X.prog X.K X.mg) (hr : Room k X.A) (hg : Gl X "TooMany") (ha : TE X E Γ a tInt ma) (he : starEach (a :: []) X.env = (false, eval a X.env) :: starEach [] X.env := by rfl) (hpl : (backTo pos (starEach [] X.env)).any (·.1) = false := by rfl) :
    TE X E Γ (.Call (.Name "TooMany" p) [a] [] pos) (tExc X.K) (ma >>= fun y => pure (Err.many y)) := te_mkV (mk := Err.many) (hx.it ⟨"TooMany", "too many objects", "count", false⟩ (List.mem_of_getElem? (i := 5) rfl)) (hx.g _ (by decide +kernel)) (hx.kp _ (by decide +kernel)) hr hg (fun F v y r => ⟨rfl, by rw [show v = .int y from r]; rfl⟩) ha (by decide) he hpl
theorem Hx.r_NoSite {ma : m (List Int)} (hx : Hx X.prog X.K X.mg) (hr : Room k X.A) (hg : Gl X "NoSite") (ha : TG X E Γ a (PQ X.K tInt) ma) (he : starEach (a :: []) X.env = (false, eval a X.env) :: starEach [] X.env := by rfl) (hpl : (backTo pos (starEach [] X.env)).any (·.1) = false := by rfl) :
    TR X E Γ (.Call (.Name "NoSite" p) [a] [] pos) (ma >>= fun y => pure (Err.site y)) := tr_mkL (mk := Err.site) (hx.it ⟨"NoSite", "the told limits contradict one another", "ring", true⟩ (List.mem_of_getElem? (i := 6) rfl)) (hx.ty _ (by decide +kernel)) (hx.g _ (by decide +kernel)) (hx.kp _ (by decide +kernel)) hr hg (fun F v y dx r h => ⟨rfl, dx, v, rfl, h, r⟩) ha (by decide) he hpl
theorem Hx.v_NoSite {ma : m (List Int)} (hx : Hx X.prog X.K X.mg) (hr : Room k X.A) (hg : Gl X "NoSite") (ha : TG X E Γ a (PQ X.K tInt) ma) (he : starEach (a :: []) X.env = (false, eval a X.env) :: starEach [] X.env := by rfl) (hpl : (backTo pos (starEach [] X.env)).any (·.1) = false := by rfl) :
    TE X E Γ (.Call (.Name "NoSite" p) [a] [] pos) (tExc X.K) (ma >>= fun y => pure (Err.site y)) := te_mkVL (mk := Err.site) (hx.it ⟨"NoSite", "the told limits contradict one another", "ring", true⟩ (List.mem_of_getElem? (i := 6) rfl)) (hx.g _ (by decide +kernel)) (hx.kp _ (by decide +kernel)) hr hg (fun F v y r => ⟨rfl, v, rfl, r⟩) ha (by decide) he hpl
theorem Hx.r_NoShape {ma : m (List (List Int))} (hx : Hx X.prog X.K X.mg) (hr : Room k X.A) (hg : Gl X "NoShape") (ha : TG X E Γ a (PQ X.K (tTupL X.K tInt)) ma) (he : starEach (a :: []) X.env = (false, eval a X.env) :: starEach [] X.env := by rfl) (hpl : (backTo pos (starEach [] X.env)).any (·.1) = false := by rfl) :
    TR X E Γ (.Call (.Name "NoShape" p) [a] [] pos) (ma >>= fun y => pure (Err.shape y)) := tr_mkL (mk := Err.shape) (hx.it ⟨"NoShape", "the trials contradict one another", "blames", true⟩ (List.mem_of_getElem? (i := 7) rfl)) (hx.ty _ (by decide +kernel)) (hx.g _ (by decide +kernel)) (hx.kp _ (by decide +kernel)) hr hg (fun F v y dx r h => ⟨rfl, dx, v, rfl, h, r⟩) ha (by decide) he hpl
theorem Hx.v_NoShape {ma : m (List (List Int))} (hx : Hx X.prog X.K X.mg) (hr : Room k X.A) (hg : Gl X "NoShape") (ha : TG X E Γ a (PQ X.K (tTupL X.K tInt)) ma) (he : starEach (a :: []) X.env = (false, eval a X.env) :: starEach [] X.env := by rfl) (hpl : (backTo pos (starEach [] X.env)).any (·.1) = false := by rfl) :
    TE X E Γ (.Call (.Name "NoShape" p) [a] [] pos) (tExc X.K) (ma >>= fun y => pure (Err.shape y)) := te_mkVL (mk := Err.shape) (hx.it ⟨"NoShape", "the trials contradict one another", "blames", true⟩ (List.mem_of_getElem? (i := 7) rfl)) (hx.g _ (by decide +kernel)) (hx.kp _ (by decide +kernel)) hr hg (fun F v y r => ⟨rfl, v, rfl, r⟩) ha (by decide) he hpl
theorem Hx.r_BadState {ma : m (Str)} (hx : Hx X.prog X.K X.mg) (hr : Room k X.A) (hg : Gl X "BadState") (ha : TE X E Γ a tStr ma) (he : starEach (a :: []) X.env = (false, eval a X.env) :: starEach [] X.env := by rfl) (hpl : (backTo pos (starEach [] X.env)).any (·.1) = false := by rfl) :
    TR X E Γ (.Call (.Name "BadState" p) [a] [] pos) (ma >>= fun y => pure (Err.state y)) := tr_mk (mk := Err.state) (hx.it ⟨"BadState", "not a state of the menu", "state", false⟩ (List.mem_of_getElem? (i := 8) rfl)) (hx.ty _ (by decide +kernel)) (hx.g _ (by decide +kernel)) (hx.kp _ (by decide +kernel)) hr hg (fun F v y dx r h => ⟨rfl, dx, rfl, by rw [h, show v = .str y from r]⟩) ha (by decide) he hpl
theorem Hx.v_BadState {ma : m (Str)} (hx : Hx X.prog X.K X.mg) (hr : Room k X.A) (hg : Gl X "BadState") (ha : TE X E Γ a tStr ma) (he : starEach (a :: []) X.env = (false, eval a X.env) :: starEach [] X.env := by rfl) (hpl : (backTo pos (starEach [] X.env)).any (·.1) = false := by rfl) :
    TE X E Γ (.Call (.Name "BadState" p) [a] [] pos) (tExc X.K) (ma >>= fun y => pure (Err.state y)) := te_mkV (mk := Err.state) (hx.it ⟨"BadState", "not a state of the menu", "state", false⟩ (List.mem_of_getElem? (i := 8) rfl)) (hx.g _ (by decide +kernel)) (hx.kp _ (by decide +kernel)) hr hg (fun F v y r => ⟨rfl, by rw [show v = .str y from r]; rfl⟩) ha (by decide) he hpl
theorem Hx.r_BadLine {ma : m (Int)} (hx : Hx X.prog X.K X.mg) (hr : Room k X.A) (hg : Gl X "BadLine") (ha : TE X E Γ a tInt ma) (he : starEach (a :: []) X.env = (false, eval a X.env) :: starEach [] X.env := by rfl) (hpl : (backTo pos (starEach [] X.env)).any (·.1) = false := by rfl) :
    TR X E Γ (.Call (.Name "BadLine" p) [a] [] pos) (ma >>= fun y => pure (Err.line y)) := tr_mk (mk := Err.line) (hx.it ⟨"BadLine", "line not understood", "line", false⟩ (List.mem_of_getElem? (i := 9) rfl)) (hx.ty _ (by decide +kernel)) (hx.g _ (by decide +kernel)) (hx.kp _ (by decide +kernel)) hr hg (fun F v y dx r h => ⟨rfl, dx, rfl, by rw [h, show v = .int y from r]⟩) ha (by decide) he hpl
theorem Hx.v_BadLine {ma : m (Int)} (hx : Hx X.prog X.K X.mg) (hr : Room k X.A) (hg : Gl X "BadLine") (ha : TE X E Γ a tInt ma) (he : starEach (a :: []) X.env = (false, eval a X.env) :: starEach [] X.env := by rfl) (hpl : (backTo pos (starEach [] X.env)).any (·.1) = false := by rfl) :
    TE X E Γ (.Call (.Name "BadLine" p) [a] [] pos) (tExc X.K) (ma >>= fun y => pure (Err.line y)) := te_mkV (mk := Err.line) (hx.it ⟨"BadLine", "line not understood", "line", false⟩ (List.mem_of_getElem? (i := 9) rfl)) (hx.g _ (by decide +kernel)) (hx.kp _ (by decide +kernel)) hr hg (fun F v y r => ⟨rfl, by rw [show v = .int y from r]; rfl⟩) ha (by decide) he hpl
theorem Hx.r_DeedFailed {ma : m (Int)} (hx : Hx X.prog X.K X.mg) (hr : Room k X.A) (hg : Gl X "DeedFailed") (ha : TE X E Γ a tInt ma) (he : starEach (a :: []) X.env = (false, eval a X.env) :: starEach [] X.env := by rfl) (hpl : (backTo pos (starEach [] X.env)).any (·.1) = false := by rfl) :
    TR X E Γ (.Call (.Name "DeedFailed" p) [a] [] pos) (ma >>= fun y => pure (Err.deed y)) := tr_mk (mk := Err.deed) (hx.it ⟨"DeedFailed", "a deed of the run failed", "row", false⟩ (List.mem_of_getElem? (i := 10) rfl)) (hx.ty _ (by decide +kernel)) (hx.g _ (by decide +kernel)) (hx.kp _ (by decide +kernel)) hr hg (fun F v y dx r h => ⟨rfl, dx, rfl, by rw [h, show v = .int y from r]⟩) ha (by decide) he hpl
theorem Hx.v_DeedFailed {ma : m (Int)} (hx : Hx X.prog X.K X.mg) (hr : Room k X.A) (hg : Gl X "DeedFailed") (ha : TE X E Γ a tInt ma) (he : starEach (a :: []) X.env = (false, eval a X.env) :: starEach [] X.env := by rfl) (hpl : (backTo pos (starEach [] X.env)).any (·.1) = false := by rfl) :
    TE X E Γ (.Call (.Name "DeedFailed" p) [a] [] pos) (tExc X.K) (ma >>= fun y => pure (Err.deed y)) := te_mkV (mk := Err.deed) (hx.it ⟨"DeedFailed", "a deed of the run failed", "row", false⟩ (List.mem_of_getElem? (i := 10) rfl)) (hx.g _ (by decide +kernel)) (hx.kp _ (by decide +kernel)) hr hg (fun F v y r => ⟨rfl, by rw [show v = .int y from r]; rfl⟩) ha (by decide) he hpl
theorem Hx.v_OtherSite (hx : Hx X.prog X.K X.mg) (hg : Gl X "OtherSite") : TE (m := m) X E Γ (.Call (.Name "OtherSite" p) [] [] pos) (tExc X.K) (pure Err.other) := te_mk0 (hx.z _ (by decide +kernel)) (hx.g _ (by decide +kernel)) (hx.kp _ (by decide +kernel)) hg rfl (fun _ => rfl) (by decide)
theorem Hx.v_NothingToUndo (hx : Hx X.prog X.K X.mg) (hg : Gl X "NothingToUndo") : TE (m := m) X E Γ (.Call (.Name "NothingToUndo" p) [] [] pos) (tExc X.K) (pure Err.undo) := te_mk0 (hx.z _ (by decide +kernel)) (hx.g _ (by decide +kernel)) (hx.kp _ (by decide +kernel)) hg rfl (fun _ => rfl) (by decide)
theorem Hx.v_NothingToRedo (hx : Hx X.prog X.K X.mg) (hg : Gl X "NothingToRedo") : TE (m := m) X E Γ (.Call (.Name "NothingToRedo" p) [] [] pos) (tExc X.K) (pure Err.redo) := te_mk0 (hx.z _ (by decide +kernel)) (hx.g _ (by decide +kernel)) (hx.kp _ (by decide +kernel)) hg rfl (fun _ => rfl) (by decide)
def sel_value : Err → Option (Int)
  | .num v => some v
  | _ => none
theorem Hx.f_value (hx : Hx X.prog X.K X.mg) (h : TE X E Γ e (tExc X.K) me) (hb : attributeBase e "value" X.env (eval e X.env) = eval e X.env := by rfl) : TE X E Γ (.Attribute e "value" pos) tInt (me >>= fun er => Mo.lift (opt (sel_value er))) := te_excF (sel := sel_value) (fun F er fs y hs hf => by
  cases er with
  | num v =>
    cases hs
    exact ⟨hx.xf _ (cls_mem _), hx.noF ⟨"BadNumber", "number out of range", "value", false⟩ (List.mem_of_getElem? (i := 0) rfl), _, by rw [show fs = _ from hf]; rfl, rfl⟩
  | _ => cases hs) h hb
def sel_place : Err → Option (Int)
  | .place v => some v
  | _ => none
theorem Hx.f_place (hx : Hx X.prog X.K X.mg) (h : TE X E Γ e (tExc X.K) me) (hb : attributeBase e "place" X.env (eval e X.env) = eval e X.env := by rfl) : TE X E Γ (.Attribute e "place" pos) tInt (me >>= fun er => Mo.lift (opt (sel_place er))) := te_excF (sel := sel_place) (fun F er fs y hs hf => by
  cases er with
  | place v =>
    cases hs
    exact ⟨hx.xf _ (cls_mem _), hx.noF ⟨"NoPlace", "no such place", "place", false⟩ (List.mem_of_getElem? (i := 4) rfl), _, by rw [show fs = _ from hf]; rfl, rfl⟩
  | _ => cases hs) h hb
def sel_count : Err → Option (Int)
  | .many v => some v
  | _ => none
theorem Hx.f_count (hx : Hx X.prog X.K X.mg) (h : TE X E Γ e (tExc X.K) me) (hb : attributeBase e "count" X.env (eval e X.env) = eval e X.env := by rfl) : TE X E Γ (.Attribute e "count" pos) tInt (me >>= fun er => Mo.lift (opt (sel_count er))) := te_excF (sel := sel_count) (fun F er fs y hs hf => by
  cases er with
  | many v =>
    cases hs
    exact ⟨hx.xf _ (cls_mem _), hx.noF ⟨"TooMany", "too many objects", "count", false⟩ (List.mem_of_getElem? (i := 5) rfl), _, by rw [show fs = _ from hf]; rfl, rfl⟩
  | _ => cases hs) h hb
def sel_line : Err → Option (Int)
  | .line v => some v
  | _ => none
theorem Hx.f_line (hx : Hx X.prog X.K X.mg) (h : TE X E Γ e (tExc X.K) me) (hb : attributeBase e "line" X.env (eval e X.env) = eval e X.env := by rfl) : TE X E Γ (.Attribute e "line" pos) tInt (me >>= fun er => Mo.lift (opt (sel_line er))) := te_excF (sel := sel_line) (fun F er fs y hs hf => by
  cases er with
  | line v =>
    cases hs
    exact ⟨hx.xf _ (cls_mem _), hx.noF ⟨"BadLine", "line not understood", "line", false⟩ (List.mem_of_getElem? (i := 9) rfl), _, by rw [show fs = _ from hf]; rfl, rfl⟩
  | _ => cases hs) h hb
def sel_row : Err → Option (Int)
  | .deed v => some v
  | _ => none
theorem Hx.f_row (hx : Hx X.prog X.K X.mg) (h : TE X E Γ e (tExc X.K) me) (hb : attributeBase e "row" X.env (eval e X.env) = eval e X.env := by rfl) : TE X E Γ (.Attribute e "row" pos) tInt (me >>= fun er => Mo.lift (opt (sel_row er))) := te_excF (sel := sel_row) (fun F er fs y hs hf => by
  cases er with
  | deed v =>
    cases hs
    exact ⟨hx.xf _ (cls_mem _), hx.noF ⟨"DeedFailed", "a deed of the run failed", "row", false⟩ (List.mem_of_getElem? (i := 10) rfl), _, by rw [show fs = _ from hf]; rfl, rfl⟩
  | _ => cases hs) h hb
def sel_name : Err → Option (Str)
  | .name v => some v
  | .taken v => some v
  | .unknown v => some v
  | _ => none
theorem Hx.f_name (hx : Hx X.prog X.K X.mg) (h : TE X E Γ e (tExc X.K) me) (hb : attributeBase e "name" X.env (eval e X.env) = eval e X.env := by rfl) : TE X E Γ (.Attribute e "name" pos) tStr (me >>= fun er => Mo.lift (opt (sel_name er))) := te_excF (sel := sel_name) (fun F er fs y hs hf => by
  cases er with
  | name v =>
    cases hs
    exact ⟨hx.xf _ (cls_mem _), hx.noF ⟨"BadName", "name not allowed", "name", false⟩ (List.mem_of_getElem? (i := 1) rfl), _, by rw [show fs = _ from hf]; rfl, rfl⟩
  | taken v =>
    cases hs
    exact ⟨hx.xf _ (cls_mem _), hx.noF ⟨"TakenName", "name is taken", "name", false⟩ (List.mem_of_getElem? (i := 2) rfl), _, by rw [show fs = _ from hf]; rfl, rfl⟩
  | unknown v =>
    cases hs
    exact ⟨hx.xf _ (cls_mem _), hx.noF ⟨"UnknownName", "unknown name", "name", false⟩ (List.mem_of_getElem? (i := 3) rfl), _, by rw [show fs = _ from hf]; rfl, rfl⟩
  | _ => cases hs) h hb
def sel_state : Err → Option (Str)
  | .state v => some v
  | _ => none
theorem Hx.f_state (hx : Hx X.prog X.K X.mg) (h : TE X E Γ e (tExc X.K) me) (hb : attributeBase e "state" X.env (eval e X.env) = eval e X.env := by rfl) : TE X E Γ (.Attribute e "state" pos) tStr (me >>= fun er => Mo.lift (opt (sel_state er))) := te_excF (sel := sel_state) (fun F er fs y hs hf => by
  cases er with
  | state v =>
    cases hs
    exact ⟨hx.xf _ (cls_mem _), hx.noF ⟨"BadState", "not a state of the menu", "state", false⟩ (List.mem_of_getElem? (i := 8) rfl), _, by rw [show fs = _ from hf]; rfl, rfl⟩
  | _ => cases hs) h hb
def sel_ring : Err → Option (List Int)
  | .site v => some v
  | _ => none
theorem Hx.f_ring (hx : Hx X.prog X.K X.mg) (h : TE X E Γ e (tExc X.K) me) (hb : attributeBase e "ring" X.env (eval e X.env) = eval e X.env := by rfl) : TE X E Γ (.Attribute e "ring" pos) (tList tInt) (me >>= fun er => Mo.lift (opt (sel_ring er))) := te_excF (sel := sel_ring) (fun F er fs y hs hf => by
  cases er with
  | site v =>
    cases hs
    obtain ⟨w, e1, r⟩ := hf
    exact ⟨hx.xf _ (cls_mem _), hx.noF ⟨"NoSite", "the told limits contradict one another", "ring", true⟩ (List.mem_of_getElem? (i := 6) rfl), w, by rw [e1]; rfl, r⟩
  | _ => cases hs) h hb
def sel_blames : Err → Option (List (List Int))
  | .shape v => some v
  | _ => none
theorem Hx.f_blames (hx : Hx X.prog X.K X.mg) (h : TE X E Γ e (tExc X.K) me) (hb : attributeBase e "blames" X.env (eval e X.env) = eval e X.env := by rfl) : TE X E Γ (.Attribute e "blames" pos) (tList (tTupL X.K tInt)) (me >>= fun er => Mo.lift (opt (sel_blames er))) := te_excF (sel := sel_blames) (fun F er fs y hs hf => by
  cases er with
  | shape v =>
    cases hs
    obtain ⟨w, e1, r⟩ := hf
    exact ⟨hx.xf _ (cls_mem _), hx.noF ⟨"NoShape", "the trials contradict one another", "blames", true⟩ (List.mem_of_getElem? (i := 7) rfl), w, by rw [e1]; rfl, r⟩
  | _ => cases hs) h hb
end
end TL
/-! TK57: a list of two lists of one's own. -/
namespace TL
open PySem L2 PyProof.Rows
def oTwo {α γ : Type} (t : Ty α) (u : Ty γ) : OTy (List α × List γ) where
  rep := fun F H v x p => ∃ a b c vs us, v = .ref a ∧ H a = some (.lst [.ref b, .ref c]) ∧ H b = some (.lst vs) ∧ H c = some (.lst us) ∧ (Reps t F vs x.1 ∧ x.1.length ≤ sizeLine) ∧ (Reps u F us x.2 ∧ x.2.length ≤ sizeLine) ∧ (a ≠ b ∧ a ≠ c ∧ b ≠ c) ∧ p = fun q => q = a ∨ q = b ∨ q = c
  mono := fun s h ⟨a, b, c, vs, us, e, ha, hb, hc, r1, r2, n, w⟩ => ⟨a, b, c, vs, us, e, by rw [h a (by rw [w]; exact .inl rfl)]; exact ha, by rw [h b (by rw [w]; exact .inr (.inl rfl))]; exact hb, by rw [h c (by rw [w]; exact .inr (.inr rfl))]; exact hc, ⟨r1.1.mono s, r1.2⟩, ⟨r2.1.mono s, r2.2⟩, n, w⟩
  live := fun ⟨a, b, c, vs, us, e, ha, hb, hc, r1, r2, n, w⟩ hp => by
    rw [w] at hp
    rcases hp with hp | hp | hp
    · rw [hp]; exact ⟨_, ha⟩
    · rw [hp]; exact ⟨_, hb⟩
    · rw [hp]; exact ⟨_, hc⟩
section
variable {β : Type} {T : OTs β} {b : β} {vb : List V} {Γ : Envt} {σ : L2.St} {F H : Hp} {B O : AS} {α γ : Type}
/-- what is one's own is written -/
theorem Stt.updO {t : OTy α} {x : α} {i : Nat} (h : Stt T b vb Γ σ F H B O) (e : Γ[i]? = some (.ow t x)) :
    ∃ v p, σ[i]? = some (some v) ∧ t.rep F H v x p ∧ (∀ a, p a → F a = none ∧ O a ∧ ¬ B a) ∧ ∀ (H' : Hp) (x' : α), (∀ a, ¬ p a → H' a = H a) → t.rep F H' v x' p → Stt T b vb (Γ.set i (.ow t x')) σ F H' B O := by
  obtain ⟨l, s, rb, f0, bo, ps, ss, u, d⟩ := h
  have hi : i < Γ.length := (List.getElem?_eq_some_iff.mp e).1
  have q := ss i
  rw [List.getD_eq_getElem?_getD, e] at q
  obtain ⟨⟨v, e1, r⟩, ff⟩ := q
  have hO : ∀ a, ps i a → O a := fun a z => (u a).mpr ⟨i, z⟩
  refine ⟨v, ps i, slot_get e1, r, fun a z => ⟨ff a z, hO a z, fun w => bo a w (hO a z)⟩, fun H' x' hs r' => ?_⟩
  refine ⟨by rw [List.length_set]; exact l, fun a o x => ?_, T.mono (Sub.rf F) (fun a ha => hs a fun z => bo a ha (hO a z)) rb, f0, bo, ps, fun j => ?_, u, d⟩
  · rw [hs a fun z => by rw [ff a z] at x; cases x]
    exact s a o x
  · by_cases hj : j = i
    · subst hj
      rw [getD_set hi]
      exact ⟨⟨v, e1, r'⟩, ff⟩
    · rw [getD_set_ne hj]
      refine (ss j).grow (Sub.rf F) (fun a o x y => ?_) (fun a o x y => x) fun a z => .inl z
      rw [hs a fun z => ?_]
      · exact x
      · rcases y with y | y
        · exact d j i hj a y z
        · exact y (.inr (hO a z))
end
section
variable {S L R : Type} {X : Cx} {E : XK} {Γ : Envt} {β : Type} {m : Type → Type} [Mo β m] {α γ : Type} {t : Ty α} {u : Ty γ} {a c e : Expr} {pos : Pos} {rest : List Stmt} {En : Endt S L R}
/-- x = [a new list, a new list] -/
theorem tb_two (i : Nat) {nm : Str} {p p2 : Pos} {ma : m (List α)} {mb : m (List γ)} {mr : List α → List γ → m (Fl S L R)} (hN : X.N.Nodup) (hi : X.N[i]? = some nm) (hx : Loc X.env.scope nm) (hl : i < Γ.length) (ha : TG X E Γ a (PN t) ma) (hb : TG X E Γ c (PN u) mb) (hr : ∀ x y, TB X E (Γ.set i (.ow (oTwo t u) (x, y))) rest En (mr x y))
    (hs1 : starEach (a :: [c]) X.env = (false, eval a X.env) :: starEach [c] X.env := by rfl) (hs2 : starEach (c :: []) X.env = (false, eval c X.env) :: starEach [] X.env := by rfl)
    (hs : swapsWith (.List [a, c] p2) (some (.Name nm p)) pos.line X.env = pure false := by rfl) (hf : X.fn nm = true ∨ X.env.scope.names.lookup nm = some .local := by first | exact .inl rfl | exact .inr rfl | assumption) : TB X E Γ (.Assign [.Name nm p] (.List [a, c] p2) pos :: rest) En (ma >>= fun x => mb >>= fun y => mr x y) := fun M F0 H0 Fi bb vb σ F H ⟨B, O, st, g0, hb0, ho, sF⟩ D q => by
  refine rb_cons (rs_of (ps_set hN hi hx (pe_lst (pa_cons (re_pe a) (pa_cons (re_pe c) pa_nil hs2) hs1)) hs hf) ?_)
  refine ha bb vb σ F H B O st _ (q.run_bind.mono (fun p1 q1 v1 F1 H1 B1 g1 b1 st1 r1 => ?_) fun er z => z.tr g0 hb0)
  refine hb p1.2 vb σ F1 H1 B1 O st1 _ (q1.run_bind.mono (fun p2 q2 v2 F2 H2 B2 g2 b2 st2 r2 => ?_) fun er z => z.tr (g0.tr g1 hb0) (back g0 hb0 b1))
  refine ⟨by show 2 ≤ 16777216; decide, fun l hl' => ?_⟩
  obtain ⟨x, vs, ev, hp, fp, nb, n0, r, zl⟩ := (PN t).stab r1 g2 b2
  obtain ⟨y, us, eu, hq, fq, nc, m0, r', zl'⟩ := r2
  subst ev; subst eu
  have lx : l ≠ x := fun z => by rw [z, hp] at hl'; cases hl'
  have ly : l ≠ y := fun z => by rw [z, hq] at hl'; cases hl'
  have xy : x ≠ y := fun z => by
    obtain ⟨w, ws, e1, e2, _⟩ := r1
    cases e1
    rw [z] at e2
    rw [m0] at e2
    cases e2
  have g3 : Grow nil F2 H2 F2 (upd H2 l (.lst [.ref x, .ref y])) := Grow.newO st2.sub hl'
  have lB : ¬ B2 l := (st2.cc (H0 := H2) fun _ z => z).fresh hl'
  have G : Grow B F H F2 (upd H2 l (.lst [.ref x, .ref y])) := (g1.tr g2 b1).tr0 g3
  have y0 : H y = none := g1.non m0
  obtain ⟨O', o', st3⟩ := st.setO (t := oTwo t u) (x := (p1.1, p2.1)) (v := .ref l) (p := fun q => q = l ∨ q = x ∨ q = y) G (back g1 b1 b2) ((Mo.T m).mono (Sub.rf F2) (fun a ha => upd_ne fun z => lB (z ▸ ha)) st2.bx) st2.bf hl
    ⟨l, x, y, vs, us, rfl, upd_same, by rw [upd_ne (Ne.symm lx)]; exact hp, by rw [upd_ne (Ne.symm ly)]; exact hq, ⟨r, zl⟩, ⟨r', zl'⟩, ⟨lx, ly, xy⟩, rfl⟩
    (fun a z => by rcases z with z | z | z <;> rw [z]; exact g1.non (g2.non hl'); exact n0; exact y0)
    (fun a z => by rcases z with z | z | z <;> rw [z]; exact st2.sub.none hl'; exact fp; exact fq)
    (fun a z => by rcases z with z | z | z <;> rw [z]; exact lB; exact nb; exact nc)
  exact hr p1.1 p2.1 M F0 H0 Fi p2.2 vb _ F2 _ (SS.step g0 hb0 ho sF G (back g1 b1 b2) st3 o') D q2
/-- x[0], x[1] -/
theorem te_two0 (i : Nat) {nm : Str} {p p2 : Pos} {j : Nat} {x : List α × List γ} (hv : Vis X.env.scope nm) (hΓ : Γ[i]? = some (.ow (oTwo t u) x)) (hN : X.N[i]? = some nm) (hd : (nm == ("__debug__" : Str)) = false := by decide) (hcd : (nm == ("__classdict__" : Str)) = false := by decide) :
    TG (m := m) X E Γ (.Subscript (.Name nm p) (.Constant (.int 0) j p2) pos) (PL t) (pure x.1) := fun bb vb σ F H B O st Q q => by
  obtain ⟨v, pp, eσ, ⟨a, b, c, vs, us, ev, ha, hb, hc, r1, r2, n, w⟩, po, _⟩ := st.updO hΓ
  subst ev
  exact re_of (pe_ix ix_list (pe_var hN hv hd hcd) pe_int fun _ _ => rfl) ⟨_, eσ, a, [.ref b, .ref c], 0, .ref b, rfl, rfl, SqL.of ha, rfl, q.run_pure.here st ⟨b, vs, rfl, hb, (po b (by rw [w]; exact .inr (.inl rfl))).2.2, r1⟩⟩
theorem te_two1 (i : Nat) {nm : Str} {p p2 : Pos} {j : Nat} {x : List α × List γ} (hv : Vis X.env.scope nm) (hΓ : Γ[i]? = some (.ow (oTwo t u) x)) (hN : X.N[i]? = some nm) (hd : (nm == ("__debug__" : Str)) = false := by decide) (hcd : (nm == ("__classdict__" : Str)) = false := by decide) :
    TG (m := m) X E Γ (.Subscript (.Name nm p) (.Constant (.int 1) j p2) pos) (PL u) (pure x.2) := fun bb vb σ F H B O st Q q => by
  obtain ⟨v, pp, eσ, ⟨a, b, c, vs, us, ev, ha, hb, hc, r1, r2, n, w⟩, po, _⟩ := st.updO hΓ
  subst ev
  exact re_of (pe_ix ix_list (pe_var hN hv hd hcd) pe_int fun _ _ => rfl) ⟨_, eσ, a, [.ref b, .ref c], 1, .ref c, rfl, rfl, SqL.of ha, rfl, q.run_pure.here st ⟨c, us, rfl, hc, (po c (by rw [w]; exact .inr (.inr rfl))).2.2, r2⟩⟩
/-- x[0].append(e) -/
theorem tb_two0push (i : Nat) {nm : Str} {p p2 p3 ap cp : Pos} {j : Nat} {x : List α × List γ} {ma : m α} {mr : List α → m (Fl S L R)} (hv : Vis X.env.scope nm) (hΓ : Γ[i]? = some (.ow (oTwo t u) x)) (hN : X.N[i]? = some nm) (he : TE X E Γ e t ma) (hr : ∀ y, TB X E (Γ.set i (.ow (oTwo t u) (y, x.2))) rest En (mr y))
    (hline : (ap.endLine == cp.line) = true := by rfl) (hst : starEach (e :: []) X.env = (false, eval e X.env) :: starEach [] X.env := by rfl)
    (hfew : ((backTo cp (starEach (e :: []) X.env)).all (fun x => !x.1) && (backToKw cp (keywordEach [] X.env)).all (fun x => x.1.isSome) && decide ((e :: []).length + ([] : List Keyword).length + (if ([] : List Keyword).isEmpty then 0 else 1) < 30)) = true := by rfl)
    (hplain : (backTo cp (starEach [] X.env)).any (·.1) = false := by rfl) (hbase : attributeBase (.Subscript (.Name nm p) (.Constant (.int 0) j p2) p3) "append" X.env (eval (.Subscript (.Name nm p) (.Constant (.int 0) j p2) p3) X.env) = eval (.Subscript (.Name nm p) (.Constant (.int 0) j p2) p3) X.env := by rfl)
    (hs : swapsWith (.Call (.Attribute (.Subscript (.Name nm p) (.Constant (.int 0) j p2) p3) "append" ap) [e] [] cp) none pos.line X.env = pure false := by rfl) (hd : (nm == ("__debug__" : Str)) = false := by decide) (hcd : (nm == ("__classdict__" : Str)) = false := by decide) :
    TB X E Γ (.Expr (.Call (.Attribute (.Subscript (.Name nm p) (.Constant (.int 0) j p2) p3) "append" ap) [e] [] cp) pos :: rest) En (ma >>= fun y => Mo.lift (push x.1 y) >>= mr) := fun M F0 H0 Fi b vb σ F H ⟨B, O, st, g0, hb, ho, sF⟩ D q => by
  obtain ⟨v, pp, eσ, ⟨a, b1, c, vs, us, ev, ha, hbb, hc, r1, r2, n, w⟩, po, up⟩ := st.updO hΓ
  subst ev
  refine rb_cons (rs_of (ps_expr (pe_bm PySem.F.plainAttrs_list PySem.F.slot_list_append PySem.F.type_list_append mt_append (pe_ix ix_list (pe_var hN hv hd hcd) pe_int fun _ _ => rfl) (pa_cons (re_pe e) pa_nil hst) hbase hfew hline hst hplain) hs) ?_)
  refine ⟨_, eσ, a, [.ref b1, .ref c], 0, .ref b1, rfl, rfl, SqL.of ha, rfl, .inl ⟨rfl, vs, SqL.of hbb⟩, ?_⟩
  refine he b vb σ F H B O st _ (q.run_bind.mono (fun pr k v F1 H1 B1 g bb1 st1 rv => ?_) fun er z => z.tr g0 hb)
  have k1 := k.run_bind
  rw [Mo.run_lift] at k1
  unfold push at k1
  obtain ⟨v', pp', eσ', ⟨a', b', c', vs', us', ev', ha', hb', hc', r1', r2', n', w'⟩, po', up'⟩ := st1.updO hΓ
  rw [eσ] at eσ'
  cases eσ'
  cases ev'
  have hA : H1 a = some (.lst [.ref b1, .ref c]) := g.h a _ ha (po a (by rw [w]; exact .inl rfl)).2.2
  rw [hA] at ha'
  cases ha'
  by_cases hl : x.1.length < sizeLine
  · rw [if_pos hl] at k1
    refine ⟨b1, vs', v, rfl, rfl, hb', by rw [r1'.1.length]; exact hl, ?_⟩
    have pb := po' b1 (by rw [w']; exact .inr (.inl rfl))
    have st2 := up' (upd H1 b1 (.lst (vs' ++ [v]))) (x.1 ++ [pr.1], x.2) (fun y hy => upd_ne fun z => hy (by rw [z, w']; exact .inr (.inl rfl)))
      ⟨a, b1, c, vs' ++ [v], us', rfl, by rw [upd_ne n'.1]; exact hA, upd_same, by rw [upd_ne (Ne.symm n'.2.2)]; exact hc', ⟨r1'.1.append ⟨rv, trivial⟩, by rw [List.length_append]; exact hl⟩, r2', n', w'⟩
    exact hr _ M F0 H0 Fi pr.2 vb σ F1 _ ⟨B1, O, st2, (g0.tr g hb).own (ho b1 pb.2.1) pb.1 hb', back g0 hb bb1, ho, sF.tr g.f⟩ D k1
  · rw [if_neg hl] at k1
    exact k1.elim
/-- x[1].clear() -/
theorem tb_two1clear (i : Nat) {nm : Str} {p p2 p3 ap cp : Pos} {j : Nat} {x : List α × List γ} {mr : m (Fl S L R)} (hv : Vis X.env.scope nm) (hΓ : Γ[i]? = some (.ow (oTwo t u) x)) (hN : X.N[i]? = some nm) (hr : TB X E (Γ.set i (.ow (oTwo t u) (x.1, []))) rest En mr)
    (hline : (ap.endLine == cp.line) = true := by rfl) (hbase : attributeBase (.Subscript (.Name nm p) (.Constant (.int 1) j p2) p3) "clear" X.env (eval (.Subscript (.Name nm p) (.Constant (.int 1) j p2) p3) X.env) = eval (.Subscript (.Name nm p) (.Constant (.int 1) j p2) p3) X.env := by rfl)
    (hs : swapsWith (.Call (.Attribute (.Subscript (.Name nm p) (.Constant (.int 1) j p2) p3) "clear" ap) [] [] cp) none pos.line X.env = pure false := by rfl) (hd : (nm == ("__debug__" : Str)) = false := by decide) (hcd : (nm == ("__classdict__" : Str)) = false := by decide) :
    TB X E Γ (.Expr (.Call (.Attribute (.Subscript (.Name nm p) (.Constant (.int 1) j p2) p3) "clear" ap) [] [] cp) pos :: rest) En mr := fun M F0 H0 Fi b vb σ F H ⟨B, O, st, g0, hb, ho, sF⟩ D q => by
  obtain ⟨v, pp, eσ, ⟨a, b1, c, vs, us, ev, ha, hbb, hc, r1, r2, n, w⟩, po, up⟩ := st.updO hΓ
  subst ev
  refine rb_cons (rs_of (ps_expr (pe_bm0 PySem.F.plainAttrs_list PySem.F.slot_list_clear PySem.F.type_list_clear mt_clear (pe_ix ix_list (pe_var hN hv hd hcd) pe_int fun _ _ => rfl) hbase hline) hs) ?_)
  refine ⟨_, eσ, a, [.ref b1, .ref c], 1, .ref c, rfl, rfl, SqL.of ha, rfl, .inl ⟨rfl, us, SqL.of hc⟩, c, us, rfl, rfl, hc, ?_⟩
  have pc := po c (by rw [w]; exact .inr (.inr rfl))
  have st2 := up (upd H c (.lst [])) (x.1, []) (fun y hy => upd_ne fun z => hy (by rw [z, w]; exact .inr (.inr rfl)))
    ⟨a, b1, c, vs, [], rfl, by rw [upd_ne n.2.1]; exact ha, by rw [upd_ne n.2.2]; exact hbb, upd_same, r1, ⟨trivial, Nat.zero_le _⟩, n, w⟩
  exact hr M F0 H0 Fi b vb σ F _ ⟨B, O, st2, g0.own (ho c pc.2.1) pc.1 hc, hb, ho, sF⟩ D q
end
end TL
namespace K57
open TL PySem L2 PyProof.Rows
def top (i : Nat) : Stmt := PySem.Challenge.pw_rungbounds_k57_errors_and_their_fields.main.body.getD i (.Pass ⟨0, 0, 0, 0⟩)

def b_law_box (i : (List Int) × Unit) : Res (Fl Empty Empty Box) := (((((pure i.1) >>= fun x2 => (pure none) >>= fun x3 => ((pure (63 : Int)) >>= fun x1 => pure (some x1)) >>= fun x4 => pure (cutL x2 x3 x4)) >>= mapF fun c5 => Mo.noErr ((pure true) >>= fun x7 => if x7 = true then ((pure c5) >>= fun x6 => pure (x6)) >>= fun x8 => pure (some x8) else pure none)) >>= fun x9 => pure (⟨x9, 0, 0, 0⟩ : Box)) >>= fun x10 => pure (.rt x10))
def m_law_box (i : (List Int) × Unit) : Res Box := b_law_box i >>= fun z => pure (fin z)
theorem sc_law_box : FnScope ["_law_script", "_law_cell"] ["_law_script"] (defScope (top 17)) := ⟨rfl, rfl, rfl, by decide +kernel, rfl, by decide +kernel, by decide +kernel⟩
def pd_law_box (K : PySem.W.Frag) : Pd ((List Int) × Unit) := (.fz (tScr K) .z)
theorem o_law_box {Pg : Program} {w : World} {K : PySem.W.Frag} {mg : Str → Option Value} {base : Heap} (nn : Nn mg)  {fd : FuncData} (F : FunD K "_law_box" "_law_box" (defArgs (top 17)) (defBody (top 17)) (defScope (top 17)) [] [] (He.ga K "_law_box") fd) : FnOk Pg w K mg base (L2.CX Pg w) 1 (He.ga K "_law_box") fd ["_law_script"] (SpM K (pd_law_box K) m_law_box PBox) := by
  refine fn_ok F sc_law_box rfl (by decide) b_law_box (fun cdv A outer s H E hr i => ?_)
  have tk : Takes (cxOf (L2.CX Pg w) Pg w K mg base ["_law_script", "_law_cell"] "_law_box" (defScope (top 17)) (He.ga K "_law_box") cdv A outer s H E) (fun cls d _ H => E cls d H) := takes_of rfl rfl rfl rfl
  have ex := ex_of tk
  have hp := passes_of (X := (cxOf (L2.CX Pg w) Pg w K mg base ["_law_script", "_law_cell"] "_law_box" (defScope (top 17)) (He.ga K "_law_box") cdv A outer s H E)) rfl
  exact (tb_ret (te_box (te_lc rfl sc_law_box.nd (ti_list (te_frz (te_slice slS (te_var 0 (.inl rfl) rfl rfl) tpo_none (tpo_some te_int)))) (own := [("_law_cell", 1)]) (blk_of rfl) (by decide) (fun _ _ _ _ _ => (tt_name 1 sc_law_box.nd rfl (.inl rfl))) (fun _ _ _ _ _ _ => tts_nil) (fun _ _ _ _ _ _ => (te_int1 rfl nn.int (te_var 1 (.inl rfl) rfl rfl))))))
theorem r_law_box {Pg : Program} {w : World} {K : PySem.W.Frag} {mg : Str → Option Value} {base : Heap} (nn : Nn mg)  (D : Def0 K mg "_law_box" (top 17)) : Rdy Pg w K mg base "_law_box" 1 ["_law_script"] (SpM K (pd_law_box K) m_law_box PBox) := by
  obtain ⟨fd, F, gm⟩ := D
  exact ⟨fd, o_law_box nn F, F.bindsN (fun _ _ _ _ _ _ us hl => match us, hl with | [_], _ => rfl), F.kp, gm⟩

def b_law_take (i : Int × Unit) : BM (Fl Empty Empty Int) := ((((bGet Box.left) >>= fun x1 => (pure (1 : Int)) >>= fun x2 => pure (decide (x1 < x2))) >>= fun x6 => if x6 = true then ((bGet Box.idx) >>= fun x4 => ((bGet Box.cells) >>= fun x3 => pure ((x3.length : Int))) >>= fun x5 => pure (decide (x4 < x5))) else pure false) >>= fun x7 => seqF (S1 := Unit) (if x7 = true then (((bGet Box.cells) >>= fun x10 => (bGet Box.idx) >>= fun x11 => Mo.lift (opt (atI x10 x11))) >>= fun x9 => (((bGet Box.idx) >>= fun x12 => (pure (1 : Int)) >>= fun x13 => pure (x12 + x13)) >>= fun x38 => bSet (fun b => { b with idx := x38 }) >>= fun u39 => (((pure x9) >>= fun x16 => ((pure (10 : Int)) >>= fun x14 => (pure (18 : Int)) >>= fun x15 => Mo.lift (opt (onlyIf (CPow x14 x15) (x14 ^ x15.toNat)))) >>= fun x17 => pure (decide (x17 ≤ x16))) >>= fun x18 => if x18 = true then (((pure x9) >>= fun x21 => ((pure (10 : Int)) >>= fun x19 => (pure (18 : Int)) >>= fun x20 => Mo.lift (opt (onlyIf (CPow x19 x20) (x19 ^ x20.toNat)))) >>= fun x22 => pure (x21 - x22)) >>= fun x23 => bSet (fun b => { b with left := x23 }) >>= fun u24 => (pure (.nx ()))) else (((((((bGet Box.st) >>= fun x25 => (pure (48271 : Int)) >>= fun x26 => Mo.lift (opt (onlyIf (CMul x25 x26) (x25 * x26)))) >>= fun x29 => ((pure x9) >>= fun x27 => (pure (69621 : Int)) >>= fun x28 => Mo.lift (opt (onlyIf (CMul x27 x28) (x27 * x28)))) >>= fun x30 => pure (x29 + x30)) >>= fun x31 => (pure (7919 : Int)) >>= fun x32 => pure (x31 + x32)) >>= fun x33 => pure (x33)) >>= fun x34 => (pure (2147483647 : Int)) >>= fun x35 => Mo.lift (opt (onlyIf (CPos x34 x35) (x34 % x35)))) >>= fun x36 => bSet (fun b => { b with st := x36 }) >>= fun u37 => (pure (.nx ())))))) else (pure (.nx ()))) (fun s8 => (((bGet Box.left) >>= fun x40 => (pure (0 : Int)) >>= fun x41 => pure (decide (x41 < x40))) >>= fun x42 => if x42 = true then ((((bGet Box.left) >>= fun x44 => pure (x44)) >>= fun x45 => (pure i.1) >>= fun x46 => Mo.lift (opt (onlyIf (CPos x45 x46) (x45 % x46)))) >>= fun x43 => (((bGet Box.left) >>= fun x47 => (pure i.1) >>= fun x48 => Mo.lift (opt (onlyIf (CDivW x47 x48) (x47 / x48)))) >>= fun x50 => bSet (fun b => { b with left := x50 }) >>= fun u51 => ((pure x43) >>= fun x49 => pure (.rt x49)))) else (((((bGet Box.st) >>= fun x52 => (pure (48271 : Int)) >>= fun x53 => Mo.lift (opt (onlyIf (CMul x52 x53) (x52 * x53)))) >>= fun x54 => pure (x54)) >>= fun x55 => (pure (2147483647 : Int)) >>= fun x56 => Mo.lift (opt (onlyIf (CPos x55 x56) (x55 % x56)))) >>= fun x63 => bSet (fun b => { b with st := x63 }) >>= fun u64 => (((((bGet Box.st) >>= fun x57 => (pure (16 : Int)) >>= fun x58 => Mo.lift (opt (onlyIf (CDivW x57 x58) (x57 / x58)))) >>= fun x59 => pure (x59)) >>= fun x60 => (pure i.1) >>= fun x61 => Mo.lift (opt (onlyIf (CPos x60 x61) (x60 % x61)))) >>= fun x62 => pure (.rt x62))))))
def m_law_take (i : Int × Unit) : BM Int := b_law_take i >>= fun z => pure (fin z)
theorem sc_law_take : FnScope ["_law_box_here", "_law_size", "_law_cell", "_law_digit"] ["_law_box_here", "_law_size"] (defScope (top 18)) := ⟨rfl, rfl, rfl, by decide +kernel, rfl, by decide +kernel, by decide +kernel⟩
def pd_law_take (K : PySem.W.Frag) : Pd (Int × Unit) := (.bx 0 (.fz tInt .z))
theorem o_law_take {Pg : Program} {w : World} {K : PySem.W.Frag} {mg : Str → Option Value} {base : Heap} (nn : Nn mg)  {fd : FuncData} (F : FunD K "_law_take" "_law_take" (defArgs (top 18)) (defBody (top 18)) (defScope (top 18)) [] [] (He.ga K "_law_take") fd) : FnOk Pg w K mg base (L2.CX Pg w) 1 (He.ga K "_law_take") fd ["_law_box_here", "_law_size"] (SpM K (pd_law_take K) m_law_take (PF tInt)) := by
  refine fn_ok F sc_law_take rfl (by decide) b_law_take (fun cdv A outer s H E hr i => ?_)
  have tk : Takes (cxOf (L2.CX Pg w) Pg w K mg base ["_law_box_here", "_law_size", "_law_cell", "_law_digit"] "_law_take" (defScope (top 18)) (He.ga K "_law_take") cdv A outer s H E) (fun cls d _ H => E cls d H) := takes_of rfl rfl rfl rfl
  have ex := ex_of tk
  have hp := passes_of (X := (cxOf (L2.CX Pg w) Pg w K mg base ["_law_box_here", "_law_size", "_law_cell", "_law_digit"] "_law_take" (defScope (top 18)) (He.ga K "_law_take") cdv A outer s H E)) rfl
  exact (tb_if (S1 := Unit) (Γj := fun s8 => [.bx 0, .fz tInt i.1, .no, .no]) (tt_w (tw_and (tt_cmp op_lt o_cmp (te_bx 0 bx2 (.inl rfl) rfl rfl (fun _ _ => rfl)) te_int (nomark _)) (tw_one_and (tt_cmp op_lt o_cmp (te_bx 0 bx1 (.inl rfl) rfl rfl (fun _ _ => rfl)) (te_len1 rfl nn.len (tg_LQ (tg_frzL (te_bx 0 bx0 (.inl rfl) rfl rfl (fun _ _ => rfl))))) (nomark _))))) (tb_asg (tt_name 2 sc_law_take.nd rfl (.inl rfl)) (te_ix ix_list o_ixL (tg_frzL (te_bx 0 bx0 (.inl rfl) rfl rfl (fun _ _ => rfl))) (te_bx 0 bx1 (.inl rfl) rfl rfl (fun _ _ => rfl)) (fun _ _ => rfl)) (fun x9 => (tb_env [.bx 0, .fz tInt i.1, .fz tInt x9, .no] (tb_bx 0 (j := 1) rfl bs1 (.inl rfl) rfl rfl (te_bin op_add o_int (te_bx 0 bx1 (.inl rfl) rfl rfl (fun _ _ => rfl)) te_int) (tb_ifB (tt_cmp op_ge o_cmp (te_var 2 (.inl rfl) rfl rfl) (te_binp op_pow o_intC te_int te_int) (nomark _)) (tb_bx 0 (j := 2) rfl bs2 (.inl rfl) rfl rfl (te_bin op_sub o_int (te_var 2 (.inl rfl) rfl rfl) (te_binp op_pow o_intC te_int te_int)) (tb_nil () (.eq (.eq (.no (.no .nil)))))) (tb_bx 0 (j := 3) rfl bs3 (.inl rfl) rfl rfl (te_binp op_modP o_intC (te_int1 rfl nn.int (te_bin op_add o_int (te_bin op_add o_int (te_binp op_mul o_intC (te_bx 0 bx3 (.inl rfl) rfl rfl (fun _ _ => rfl)) te_int) (te_binp op_mul o_intC (te_var 2 (.inl rfl) rfl rfl) te_int)) te_int)) te_int) (tb_nil () (.eq (.eq (.no (.no .nil))))))))))) (tb_nil () (.eq (.eq (.no (.no .nil))))) (fun s8 => (tb_ifR (tt_cmp op_gt o_cmp (te_bx 0 bx2 (.inl rfl) rfl rfl (fun _ _ => rfl)) te_int (nomark _)) (tb_asg (tt_name 3 sc_law_take.nd rfl (.inl rfl)) (te_binp op_modP o_intC (te_int1 rfl nn.int (te_bx 0 bx2 (.inl rfl) rfl rfl (fun _ _ => rfl))) (te_var 1 (.inl rfl) rfl rfl)) (fun x43 => (tb_env [.bx 0, .fz tInt i.1, .no, .fz tInt x43] (tb_bx 0 (j := 2) rfl bs2 (.inl rfl) rfl rfl (te_binp op_fdivW o_intC (te_bx 0 bx2 (.inl rfl) rfl rfl (fun _ _ => rfl)) (te_var 1 (.inl rfl) rfl rfl)) (tb_ret (te_var 3 (.inl rfl) rfl rfl)))))) (tb_bx 0 (j := 3) rfl bs3 (.inl rfl) rfl rfl (te_binp op_modP o_intC (te_int1 rfl nn.int (te_binp op_mul o_intC (te_bx 0 bx3 (.inl rfl) rfl rfl (fun _ _ => rfl)) te_int)) te_int) (tb_ret (te_binp op_modP o_intC (te_int1 rfl nn.int (te_binp op_fdivW o_intC (te_bx 0 bx3 (.inl rfl) rfl rfl (fun _ _ => rfl)) te_int)) (te_var 1 (.inl rfl) rfl rfl)))))))
theorem r_law_take {Pg : Program} {w : World} {K : PySem.W.Frag} {mg : Str → Option Value} {base : Heap} (nn : Nn mg)  (D : Def0 K mg "_law_take" (top 18)) : Rdy Pg w K mg base "_law_take" 1 ["_law_box_here", "_law_size"] (SpM K (pd_law_take K) m_law_take (PF tInt)) := by
  obtain ⟨fd, F, gm⟩ := D
  exact ⟨fd, o_law_take nn F, F.bindsN (fun _ _ _ _ _ _ us hl => match us, hl with | [_, _], _ => rfl), F.kp, gm⟩

def b_law_number (i : Int × Unit) : Res (Fl Empty Empty Bool) := ((((pure i.1) >>= fun x1 => pure (true)) >>= fun x4 => if x4 = true then (((pure i.1) >>= fun x2 => pure (false)) >>= fun x3 => pure (!x3)) else pure false) >>= fun x5 => pure (.rt x5))
def m_law_number (i : Int × Unit) : Res Bool := b_law_number i >>= fun z => pure (fin z)
theorem sc_law_number : FnScope ["_law_x"] ["_law_x"] (defScope (top 19)) := ⟨rfl, rfl, rfl, by decide +kernel, rfl, by decide +kernel, by decide +kernel⟩
def pd_law_number (K : PySem.W.Frag) : Pd (Int × Unit) := (.fz tInt .z)
theorem o_law_number {Pg : Program} {w : World} {K : PySem.W.Frag} {mg : Str → Option Value} {base : Heap} (nn : Nn mg)  {fd : FuncData} (F : FunD K "_law_number" "_law_number" (defArgs (top 19)) (defBody (top 19)) (defScope (top 19)) [] [] (He.ga K "_law_number") fd) : FnOk Pg w K mg base (L2.CX Pg w) 1 (He.ga K "_law_number") fd ["_law_x"] (SpM K (pd_law_number K) m_law_number (PF tBool)) := by
  refine fn_ok F sc_law_number rfl (by decide) b_law_number (fun cdv A outer s H E hr i => ?_)
  have tk : Takes (cxOf (L2.CX Pg w) Pg w K mg base ["_law_x"] "_law_number" (defScope (top 19)) (He.ga K "_law_number") cdv A outer s H E) (fun cls d _ H => E cls d H) := takes_of rfl rfl rfl rfl
  have ex := ex_of tk
  have hp := passes_of (X := (cxOf (L2.CX Pg w) Pg w K mg base ["_law_x"] "_law_number" (defScope (top 19)) (He.ga K "_law_number") cdv A outer s H E)) rfl
  exact (tb_ret (te_and (te_isi (cn := "int") isI rfl nn.isinstance rfl nn.int (by decide +kernel) (te_var 0 (.inl rfl) rfl rfl)) (te_one (te_not (te_isi (cn := "bool") isI rfl nn.isinstance rfl nn.bool (by decide +kernel) (te_var 0 (.inl rfl) rfl rfl))))))
theorem r_law_number {Pg : Program} {w : World} {K : PySem.W.Frag} {mg : Str → Option Value} {base : Heap} (nn : Nn mg)  (D : Def0 K mg "_law_number" (top 19)) : Rdy Pg w K mg base "_law_number" 1 ["_law_x"] (SpM K (pd_law_number K) m_law_number (PF tBool)) := by
  obtain ⟨fd, F, gm⟩ := D
  exact ⟨fd, o_law_number nn F, F.bindsN (fun _ _ _ _ _ _ us hl => match us, hl with | [_], _ => rfl), F.kp, gm⟩

def b_law_classes (i : Err × Unit) : Res (Fl Empty Empty (List Int)) := ((pure []) >>= fun x1 => (((pure i.1) >>= fun x2 => pure (isE "BadNumber" x2)) >>= fun x3 => Mo.lift (push x1 x3) >>= fun x4 => (((pure i.1) >>= fun x5 => pure (isE "BadName" x5)) >>= fun x6 => Mo.lift (push x4 x6) >>= fun x7 => (((pure i.1) >>= fun x8 => pure (isE "TakenName" x8)) >>= fun x9 => Mo.lift (push x7 x9) >>= fun x10 => (((pure i.1) >>= fun x11 => pure (isE "UnknownName" x11)) >>= fun x12 => Mo.lift (push x10 x12) >>= fun x13 => (((pure i.1) >>= fun x14 => pure (isE "NoPlace" x14)) >>= fun x15 => Mo.lift (push x13 x15) >>= fun x16 => (((pure i.1) >>= fun x17 => pure (isE "TooMany" x17)) >>= fun x18 => Mo.lift (push x16 x18) >>= fun x19 => (((pure i.1) >>= fun x20 => pure (isE "NoSite" x20)) >>= fun x21 => Mo.lift (push x19 x21) >>= fun x22 => (((pure i.1) >>= fun x23 => pure (isE "NoShape" x23)) >>= fun x24 => Mo.lift (push x22 x24) >>= fun x25 => (((pure i.1) >>= fun x26 => pure (isE "BadState" x26)) >>= fun x27 => Mo.lift (push x25 x27) >>= fun x28 => (((pure i.1) >>= fun x29 => pure (isE "BadLine" x29)) >>= fun x30 => Mo.lift (push x28 x30) >>= fun x31 => (((pure i.1) >>= fun x32 => pure (isE "DeedFailed" x32)) >>= fun x33 => Mo.lift (push x31 x33) >>= fun x34 => (((pure i.1) >>= fun x35 => pure (isE "OtherSite" x35)) >>= fun x36 => Mo.lift (push x34 x36) >>= fun x37 => (((pure i.1) >>= fun x38 => pure (isE "NothingToUndo" x38)) >>= fun x39 => Mo.lift (push x37 x39) >>= fun x40 => (((pure i.1) >>= fun x41 => pure (isE "NothingToRedo" x41)) >>= fun x42 => Mo.lift (push x40 x42) >>= fun x43 => (((((pure x43) >>= fun x44 => pure ((x44.length : Int))) >>= fun x45 => Mo.lift (opt (rng1 x45))) >>= mapF fun c46 => Mo.noErr (((pure x43) >>= fun x47 => (pure c46) >>= fun x48 => Mo.lift (opt (atI x47 x48))) >>= fun x49 => if x49 = true then (pure c46) >>= fun x50 => pure (some x50) else pure none)) >>= fun x51 => pure (.rt x51)))))))))))))))))
def m_law_classes (i : Err × Unit) : Res (List Int) := b_law_classes i >>= fun z => pure (fin z)
theorem sc_law_classes : FnScope ["_law_error", "_law_found", "_law_k"] ["_law_error"] (defScope (top 20)) := ⟨rfl, rfl, rfl, by decide +kernel, rfl, by decide +kernel, by decide +kernel⟩
def pd_law_classes (K : PySem.W.Frag) : Pd (Err × Unit) := (.fz (tExc K) .z)
theorem o_law_classes {Pg : Program} {w : World} {K : PySem.W.Frag} {mg : Str → Option Value} {base : Heap} (nn : Nn mg) (hx : Hx Pg K mg)  {fd : FuncData} (F : FunD K "_law_classes" "_law_classes" (defArgs (top 20)) (defBody (top 20)) (defScope (top 20)) [] [] (He.ga K "_law_classes") fd) : FnOk Pg w K mg base (L2.CX Pg w) 1 (He.ga K "_law_classes") fd ["_law_error"] (SpM K (pd_law_classes K) m_law_classes (PN tInt)) := by
  refine fn_ok F sc_law_classes rfl (by decide) b_law_classes (fun cdv A outer s H E hr i => ?_)
  have tk : Takes (cxOf (L2.CX Pg w) Pg w K mg base ["_law_error", "_law_found", "_law_k"] "_law_classes" (defScope (top 20)) (He.ga K "_law_classes") cdv A outer s H E) (fun cls d _ H => E cls d H) := takes_of rfl rfl rfl rfl
  have ex := ex_of tk
  have hp := passes_of (X := (cxOf (L2.CX Pg w) Pg w K mg base ["_law_error", "_law_found", "_law_k"] "_law_classes" (defScope (top 20)) (He.ga K "_law_classes") cdv A outer s H E)) rfl
  exact (tb_asgN 1 sc_law_classes.nd rfl (.inr rfl) (Nat.le_of_ble_eq_true rfl) (te_list tal_nil (by decide)) (fun x1 => (tb_env [.fz (tExc K) i.1, .ow (oList tBool) x1, .no] (tb_push 1 (.inr (.inl rfl)) rfl rfl (Hx.isE hx (by decide +kernel) nn.isinstance rfl rfl (te_var 0 (.inl rfl) rfl rfl)) (fun x4 => (tb_env [.fz (tExc K) i.1, .ow (oList tBool) x4, .no] (tb_push 1 (.inr (.inl rfl)) rfl rfl (Hx.isE hx (by decide +kernel) nn.isinstance rfl rfl (te_var 0 (.inl rfl) rfl rfl)) (fun x7 => (tb_env [.fz (tExc K) i.1, .ow (oList tBool) x7, .no] (tb_push 1 (.inr (.inl rfl)) rfl rfl (Hx.isE hx (by decide +kernel) nn.isinstance rfl rfl (te_var 0 (.inl rfl) rfl rfl)) (fun x10 => (tb_env [.fz (tExc K) i.1, .ow (oList tBool) x10, .no] (tb_push 1 (.inr (.inl rfl)) rfl rfl (Hx.isE hx (by decide +kernel) nn.isinstance rfl rfl (te_var 0 (.inl rfl) rfl rfl)) (fun x13 => (tb_env [.fz (tExc K) i.1, .ow (oList tBool) x13, .no] (tb_push 1 (.inr (.inl rfl)) rfl rfl (Hx.isE hx (by decide +kernel) nn.isinstance rfl rfl (te_var 0 (.inl rfl) rfl rfl)) (fun x16 => (tb_env [.fz (tExc K) i.1, .ow (oList tBool) x16, .no] (tb_push 1 (.inr (.inl rfl)) rfl rfl (Hx.isE hx (by decide +kernel) nn.isinstance rfl rfl (te_var 0 (.inl rfl) rfl rfl)) (fun x19 => (tb_env [.fz (tExc K) i.1, .ow (oList tBool) x19, .no] (tb_push 1 (.inr (.inl rfl)) rfl rfl (Hx.isE hx (by decide +kernel) nn.isinstance rfl rfl (te_var 0 (.inl rfl) rfl rfl)) (fun x22 => (tb_env [.fz (tExc K) i.1, .ow (oList tBool) x22, .no] (tb_push 1 (.inr (.inl rfl)) rfl rfl (Hx.isE hx (by decide +kernel) nn.isinstance rfl rfl (te_var 0 (.inl rfl) rfl rfl)) (fun x25 => (tb_env [.fz (tExc K) i.1, .ow (oList tBool) x25, .no] (tb_push 1 (.inr (.inl rfl)) rfl rfl (Hx.isE hx (by decide +kernel) nn.isinstance rfl rfl (te_var 0 (.inl rfl) rfl rfl)) (fun x28 => (tb_env [.fz (tExc K) i.1, .ow (oList tBool) x28, .no] (tb_push 1 (.inr (.inl rfl)) rfl rfl (Hx.isE hx (by decide +kernel) nn.isinstance rfl rfl (te_var 0 (.inl rfl) rfl rfl)) (fun x31 => (tb_env [.fz (tExc K) i.1, .ow (oList tBool) x31, .no] (tb_push 1 (.inr (.inl rfl)) rfl rfl (Hx.isE hx (by decide +kernel) nn.isinstance rfl rfl (te_var 0 (.inl rfl) rfl rfl)) (fun x34 => (tb_env [.fz (tExc K) i.1, .ow (oList tBool) x34, .no] (tb_push 1 (.inr (.inl rfl)) rfl rfl (Hx.isE hx (by decide +kernel) nn.isinstance rfl rfl (te_var 0 (.inl rfl) rfl rfl)) (fun x37 => (tb_env [.fz (tExc K) i.1, .ow (oList tBool) x37, .no] (tb_push 1 (.inr (.inl rfl)) rfl rfl (Hx.isE hx (by decide +kernel) nn.isinstance rfl rfl (te_var 0 (.inl rfl) rfl rfl)) (fun x40 => (tb_env [.fz (tExc K) i.1, .ow (oList tBool) x40, .no] (tb_push 1 (.inr (.inl rfl)) rfl rfl (Hx.isE hx (by decide +kernel) nn.isinstance rfl rfl (te_var 0 (.inl rfl) rfl rfl)) (fun x43 => (tb_env [.fz (tExc K) i.1, .ow (oList tBool) x43, .no] (tb_ret (te_lc rfl sc_law_classes.nd (ti_range1 rfl nn.range (te_len1 rfl nn.len (tg_LQ (tg_own 1 (.inr (.inl rfl)) rfl rfl)))) (own := [("_law_k", 2)]) (blk_of rfl) (by decide) (fun _ _ _ _ _ => (tt_name 2 sc_law_classes.nd rfl (.inl rfl))) (fun _ _ _ _ _ _ => (tts_one (tt_val (te_ix ix_list o_ixL (tg_own 1 (.inr (.inl rfl)) rfl rfl) (te_var 2 (.inl rfl) rfl rfl) (fun _ _ => rfl))))) (fun _ _ _ _ _ _ => (te_var 2 (.inl rfl) rfl rfl)))))))))))))))))))))))))))))))))))))))))))))))))
theorem r_law_classes {Pg : Program} {w : World} {K : PySem.W.Frag} {mg : Str → Option Value} {base : Heap} (nn : Nn mg) (hx : Hx Pg K mg)  (D : Def0 K mg "_law_classes" (top 20)) : Rdy Pg w K mg base "_law_classes" 1 ["_law_error"] (SpM K (pd_law_classes K) m_law_classes (PN tInt)) := by
  obtain ⟨fd, F, gm⟩ := D
  exact ⟨fd, o_law_classes nn hx F, F.bindsN (fun _ _ _ _ _ _ us hl => match us, hl with | [_], _ => rfl), F.kp, gm⟩

def b_law_based (i : (List Err) × Unit) : Res (Fl Empty Empty Bool) := ((((pure i.1) >>= fun x1 => pure ((x1.length : Int))) >>= fun x2 => Mo.lift (opt (rng1 x2))) >>= fun l25 => seqF (S1 := Unit) (forF (fun (s3 : Unit) e4 => (((pure i.1) >>= fun x6 => (pure e4) >>= fun x7 => Mo.lift (opt (atI x6 x7))) >>= fun x5 => (((((pure x5) >>= fun x8 => pure (true)) >>= fun x9 => pure (!x9)) >>= fun x12 => if x12 = true then pure true else (((pure x5) >>= fun x10 => pure (true)) >>= fun x11 => pure (!x11))) >>= fun x13 => if x13 = true then ((pure false) >>= fun x14 => pure (.rt x14)) else (((((pure x5) >>= fun x15 => (pure ()) >>= fun x16 => pure (x15, x16)) >>= fun i17 => Mo.lift (m_law_classes i17)) >>= fun x20 => ((pure e4) >>= fun x18 => (pure []) >>= fun x19 => pure (x18 :: x19)) >>= fun x21 => pure (!decide (x20 = x21))) >>= fun x22 => if x22 = true then ((pure false) >>= fun x23 => pure (.rt x23)) else (pure (.nx ())))))) l25 ()) (fun s24 => ((pure true) >>= fun x26 => pure (.rt x26))))
def m_law_based (i : (List Err) × Unit) : Res Bool := b_law_based i >>= fun z => pure (fin z)
theorem sc_law_based : FnScope ["_law_errors", "_law_k", "_law_error"] ["_law_errors"] (defScope (top 21)) := ⟨rfl, rfl, rfl, by decide +kernel, rfl, by decide +kernel, by decide +kernel⟩
def pd_law_based (K : PySem.W.Frag) : Pd ((List Err) × Unit) := (.fz (tList (tExc K)) .z)
theorem o_law_based {Pg : Program} {w : World} {K : PySem.W.Frag} {mg : Str → Option Value} {base : Heap} (nn : Nn mg) (hx : Hx Pg K mg) (r_law_classes : Rdy Pg w K mg base "_law_classes" 1 ["_law_error"] (SpM K (pd_law_classes K) m_law_classes (PN tInt))) {fd : FuncData} (F : FunD K "_law_based" "_law_based" (defArgs (top 21)) (defBody (top 21)) (defScope (top 21)) [] [] (He.ga K "_law_based") fd) : FnOk Pg w K mg base (L2.CX Pg w) 2 (He.ga K "_law_based") fd ["_law_errors"] (SpM K (pd_law_based K) m_law_based (PF tBool)) := by
  refine fn_ok F sc_law_based rfl (by decide) b_law_based (fun cdv A outer s H E hr i => ?_)
  have tk : Takes (cxOf (L2.CX Pg w) Pg w K mg base ["_law_errors", "_law_k", "_law_error"] "_law_based" (defScope (top 21)) (He.ga K "_law_based") cdv A outer s H E) (fun cls d _ H => E cls d H) := takes_of rfl rfl rfl rfl
  have ex := ex_of tk
  have hp := passes_of (X := (cxOf (L2.CX Pg w) Pg w K mg base ["_law_errors", "_law_k", "_law_error"] "_law_based" (defScope (top 21)) (He.ga K "_law_based") cdv A outer s H E)) rfl
  exact (tb_for (S1 := Unit) (Γs := fun s3 => [.fz (tList (tExc K)) i.1, .no, .no]) hp rfl (ti_range1 rfl nn.range (te_len1 rfl nn.len (tg_LQ (tg_frzL (te_var 0 (.inl rfl) rfl rfl))))) (tt_name 1 sc_law_based.nd rfl (.inl rfl)) (.eq (.no (.no .nil))) (fun s3 e4 => (tb_env [.fz (tList (tExc K)) i.1, .fz tInt e4, .no] (tb_asg (tt_name 2 sc_law_based.nd rfl (.inl rfl)) (te_ix ix_list o_ixL (tg_frzL (te_var 0 (.inl rfl) rfl rfl)) (te_var 1 (.inl rfl) rfl rfl) (fun _ _ => rfl)) (fun x5 => (tb_env [.fz (tList (tExc K)) i.1, .fz tInt e4, .fz (tExc K) x5] (tb_ifR (tt_w (tw_or (tt_not (tt_val (Hx.isL hx nn.isinstance rfl rfl (te_var 2 (.inl rfl) rfl rfl)))) (tw_one_or (tt_not (tt_val (Hx.isV hx nn.isinstance nn.ValueError rfl rfl (te_var 2 (.inl rfl) rfl rfl))))))) (tb_ret te_bool) (tb_ifR (tt_cmp (op_neD hr.units) (o_neD (layL layI)) (te_frz (te_f r_law_classes ret_N (hr.mono (by decide)) ex rfl (ta_fz (te_var 2 (.inl rfl) rfl rfl) ta_nil))) (te_frz (te_list (tal_cons (te_var 1 (.inl rfl) rfl rfl) tal_nil) (by decide))) (nomark _)) (tb_ret te_bool) (tb_nil () (.eq (.no (.no .nil))))))))))) (fun s24 => (tb_ret te_bool)))
theorem r_law_based {Pg : Program} {w : World} {K : PySem.W.Frag} {mg : Str → Option Value} {base : Heap} (nn : Nn mg) (hx : Hx Pg K mg) (r_law_classes : Rdy Pg w K mg base "_law_classes" 1 ["_law_error"] (SpM K (pd_law_classes K) m_law_classes (PN tInt))) (D : Def0 K mg "_law_based" (top 21)) : Rdy Pg w K mg base "_law_based" 2 ["_law_errors"] (SpM K (pd_law_based K) m_law_based (PF tBool)) := by
  obtain ⟨fd, F, gm⟩ := D
  exact ⟨fd, o_law_based nn hx r_law_classes F, F.bindsN (fun _ _ _ _ _ _ us hl => match us, hl with | [_], _ => rfl), F.kp, gm⟩

def b_law (i : (List Int) × Unit) : Res (Fl Empty Empty Bool) := ((((pure i.1) >>= fun x2 => (pure ()) >>= fun x3 => pure (x2, x3)) >>= fun i4 => Mo.lift (m_law_box i4)) >>= fun x1 => runB ((((((pure (10 : Int)) >>= fun x6 => (pure (30 : Int)) >>= fun x7 => Mo.lift (opt (onlyIf (CPow x6 x7) (x6 ^ x7.toNat)))) >>= fun x8 => (pure ()) >>= fun x9 => pure (x8, x9)) >>= fun i10 => m_law_take i10) >>= fun x16 => ((((pure (10 : Int)) >>= fun x11 => (pure (30 : Int)) >>= fun x12 => Mo.lift (opt (onlyIf (CPow x11 x12) (x11 ^ x12.toNat)))) >>= fun x13 => (pure ()) >>= fun x14 => pure (x13, x14)) >>= fun i15 => m_law_take i15) >>= fun x17 => pure (x16 - x17)) >>= fun x5 => (((pure ("" : Str)) >>= fun x31 => (((((pure (9 : Int)) >>= fun x19 => (pure ()) >>= fun x20 => pure (x19, x20)) >>= fun i21 => m_law_take i21) >>= fun x22 => Mo.lift (opt (rng1 x22))) >>= mapF fun c23 => Mo.noErr ((pure true) >>= fun x29 => if x29 = true then ((pure ("abz A9_" : Str)) >>= fun x27 => (((pure (7 : Int)) >>= fun x24 => (pure ()) >>= fun x25 => pure (x24, x25)) >>= fun i26 => m_law_take i26) >>= fun x28 => Mo.lift (opt (chAt x27 x28))) >>= fun x30 => pure (some x30) else pure none)) >>= fun x32 => Mo.lift (opt (onlyIf ((x32.map (·.length)).sum + x32.length * x31.length ≤ 16777216) (Txt.join x31 x32)))) >>= fun x18 => ((((((pure (5 : Int)) >>= fun x34 => (pure ()) >>= fun x35 => pure (x34, x35)) >>= fun i36 => m_law_take i36) >>= fun x37 => Mo.lift (opt (rng1 x37))) >>= mapF fun c38 => Mo.noErr ((pure true) >>= fun x44 => if x44 = true then ((((pure (24 : Int)) >>= fun x39 => (pure ()) >>= fun x40 => pure (x39, x40)) >>= fun i41 => m_law_take i41) >>= fun x42 => (pure (1 : Int)) >>= fun x43 => pure (x42 - x43)) >>= fun x45 => pure (some x45) else pure none)) >>= fun x33 => ((((((pure (5 : Int)) >>= fun x47 => (pure ()) >>= fun x48 => pure (x47, x48)) >>= fun i49 => m_law_take i49) >>= fun x50 => Mo.lift (opt (rng1 x50))) >>= mapF fun c51 => Mo.noErr ((pure true) >>= fun x57 => if x57 = true then ((((pure (40 : Int)) >>= fun x52 => (pure ()) >>= fun x53 => pure (x52, x53)) >>= fun i54 => m_law_take i54) >>= fun x55 => (pure []) >>= fun x56 => pure (x55 :: x56)) >>= fun x58 => pure (some x58) else pure none)) >>= fun x46 => (((pure x33) >>= fun x59 => pure (x59)) >>= fun x61 => ((pure x46) >>= fun x60 => pure (x60)) >>= fun x62 => ((((pure x5) >>= fun x64 => pure (Err.num x64)) >>= fun x77 => (((pure x18) >>= fun x65 => pure (Err.name x65)) >>= fun x75 => (((pure x18) >>= fun x66 => pure (Err.taken x66)) >>= fun x73 => (((pure x18) >>= fun x67 => pure (Err.unknown x67)) >>= fun x71 => (((pure x5) >>= fun x68 => pure (Err.place x68)) >>= fun x69 => (pure []) >>= fun x70 => pure (x69 :: x70)) >>= fun x72 => pure (x71 :: x72)) >>= fun x74 => pure (x73 :: x74)) >>= fun x76 => pure (x75 :: x76)) >>= fun x78 => pure (x77 :: x78)) >>= fun x63 => (((pure x63) >>= fun x92 => (((pure x5) >>= fun x80 => pure (Err.many x80)) >>= fun x90 => (((pure (x61, x62).1) >>= fun x81 => pure (Err.site x81)) >>= fun x88 => (((pure (x61, x62).2) >>= fun x82 => pure (Err.shape x82)) >>= fun x86 => (((pure x18) >>= fun x83 => pure (Err.state x83)) >>= fun x84 => (pure []) >>= fun x85 => pure (x84 :: x85)) >>= fun x87 => pure (x86 :: x87)) >>= fun x89 => pure (x88 :: x89)) >>= fun x91 => pure (x90 :: x91)) >>= fun x93 => Mo.lift (opt (onlyIf (x92.length + x93.length ≤ sizeLine) (x92 ++ x93)))) >>= fun x79 => (((pure x79) >>= fun x107 => (((pure x5) >>= fun x95 => pure (Err.line x95)) >>= fun x105 => (((pure x5) >>= fun x96 => pure (Err.deed x96)) >>= fun x103 => ((pure Err.other) >>= fun x101 => ((pure Err.undo) >>= fun x99 => ((pure Err.redo) >>= fun x97 => (pure []) >>= fun x98 => pure (x97 :: x98)) >>= fun x100 => pure (x99 :: x100)) >>= fun x102 => pure (x101 :: x102)) >>= fun x104 => pure (x103 :: x104)) >>= fun x106 => pure (x105 :: x106)) >>= fun x108 => Mo.lift (opt (onlyIf (x107.length + x108.length ≤ sizeLine) (x107 ++ x108)))) >>= fun x94 => ((pure (99 : Int)) >>= fun x109 => Mo.lift (push (x61, x62).1 x109) >>= fun x110 => (((((pure x94) >>= fun x112 => (pure ()) >>= fun x113 => pure (x112, x113)) >>= fun i114 => Mo.lift (m_law_based i114)) >>= fun x115 => pure (!x115)) >>= fun x116 => if x116 = true then ((pure false) >>= fun x117 => pure (.rt x117)) else (((((pure x94) >>= fun x119 => (pure (0 : Int)) >>= fun x120 => Mo.lift (opt (atI x119 x120))) >>= fun x121 => Mo.lift (opt (sel_value x121))) >>= fun x142 => ((((pure x94) >>= fun x122 => (pure (4 : Int)) >>= fun x123 => Mo.lift (opt (atI x122 x123))) >>= fun x124 => Mo.lift (opt (sel_place x124))) >>= fun x140 => ((((pure x94) >>= fun x125 => (pure (5 : Int)) >>= fun x126 => Mo.lift (opt (atI x125 x126))) >>= fun x127 => Mo.lift (opt (sel_count x127))) >>= fun x138 => ((((pure x94) >>= fun x128 => (pure (9 : Int)) >>= fun x129 => Mo.lift (opt (atI x128 x129))) >>= fun x130 => Mo.lift (opt (sel_line x130))) >>= fun x136 => ((((pure x94) >>= fun x131 => (pure (10 : Int)) >>= fun x132 => Mo.lift (opt (atI x131 x132))) >>= fun x133 => Mo.lift (opt (sel_row x133))) >>= fun x134 => (pure []) >>= fun x135 => pure (x134 :: x135)) >>= fun x137 => pure (x136 :: x137)) >>= fun x139 => pure (x138 :: x139)) >>= fun x141 => pure (x140 :: x141)) >>= fun x143 => pure (x142 :: x143)) >>= fun x118 => (((((pure x118) >>= mapF fun c154 => Mo.noErr ((((((pure c154) >>= fun x155 => (pure ()) >>= fun x156 => pure (x155, x156)) >>= fun i157 => Mo.lift (m_law_number i157)) >>= fun x158 => pure (!x158)) >>= fun x161 => if x161 = true then pure true else ((pure c154) >>= fun x159 => (pure x5) >>= fun x160 => pure (x159 != x160))) >>= fun x162 => if x162 = true then (pure c154) >>= fun x163 => pure (some x163) else pure none)) >>= fun x164 => pure ((x164.length : Int))) >>= fun x165 => (pure (0 : Int)) >>= fun x166 => pure (decide (x166 < x165))) >>= fun x167 => if x167 = true then ((pure false) >>= fun x168 => pure (.rt x168)) else (((((pure x94) >>= fun x170 => (pure (1 : Int)) >>= fun x171 => Mo.lift (opt (atI x170 x171))) >>= fun x172 => Mo.lift (opt (sel_name x172))) >>= fun x188 => ((((pure x94) >>= fun x173 => (pure (2 : Int)) >>= fun x174 => Mo.lift (opt (atI x173 x174))) >>= fun x175 => Mo.lift (opt (sel_name x175))) >>= fun x186 => ((((pure x94) >>= fun x176 => (pure (3 : Int)) >>= fun x177 => Mo.lift (opt (atI x176 x177))) >>= fun x178 => Mo.lift (opt (sel_name x178))) >>= fun x184 => ((((pure x94) >>= fun x179 => (pure (8 : Int)) >>= fun x180 => Mo.lift (opt (atI x179 x180))) >>= fun x181 => Mo.lift (opt (sel_state x181))) >>= fun x182 => (pure []) >>= fun x183 => pure (x182 :: x183)) >>= fun x185 => pure (x184 :: x185)) >>= fun x187 => pure (x186 :: x187)) >>= fun x189 => pure (x188 :: x189)) >>= fun x169 => (((((pure x169) >>= mapF fun c198 => Mo.noErr (((((pure c198) >>= fun x199 => pure (true)) >>= fun x200 => pure (!x200)) >>= fun x203 => if x203 = true then pure true else ((pure c198) >>= fun x201 => (pure x18) >>= fun x202 => pure (x201 != x202))) >>= fun x204 => if x204 = true then (pure c198) >>= fun x205 => pure (some x205) else pure none)) >>= fun x206 => pure ((x206.length : Int))) >>= fun x207 => (pure (0 : Int)) >>= fun x208 => pure (decide (x208 < x207))) >>= fun x209 => if x209 = true then ((pure false) >>= fun x210 => pure (.rt x210)) else (((((((pure x94) >>= fun x211 => (pure (6 : Int)) >>= fun x212 => Mo.lift (opt (atI x211 x212))) >>= fun x213 => Mo.lift (opt (sel_ring x213))) >>= fun x214 => pure (true)) >>= fun x215 => pure (!x215)) >>= fun x221 => if x221 = true then pure true else (((((pure x94) >>= fun x216 => (pure (7 : Int)) >>= fun x217 => Mo.lift (opt (atI x216 x217))) >>= fun x218 => Mo.lift (opt (sel_blames x218))) >>= fun x219 => pure (true)) >>= fun x220 => pure (!x220))) >>= fun x222 => if x222 = true then ((pure false) >>= fun x223 => pure (.rt x223)) else ((((((pure x94) >>= fun x224 => (pure (6 : Int)) >>= fun x225 => Mo.lift (opt (atI x224 x225))) >>= fun x226 => Mo.lift (opt (sel_ring x226))) >>= fun x227 => (pure x33) >>= fun x228 => pure (decide (x227 = x228))) >>= fun x234 => if x234 = true then ((((pure x94) >>= fun x229 => (pure (7 : Int)) >>= fun x230 => Mo.lift (opt (atI x229 x230))) >>= fun x231 => Mo.lift (opt (sel_blames x231))) >>= fun x232 => (pure x46) >>= fun x233 => pure (decide (x232 = x233))) else pure false) >>= fun x235 => pure (.rt x235))))))))))))))))) x1)
def m_law (i : (List Int) × Unit) : Res Bool := b_law i >>= fun z => pure (fin z)
theorem sc_law : FnScope ["_law_script", "_law_box_here", "_law_value", "_law_name", "_law_ring", "_law_blames", "_law_passed", "_law_errors", "_law_numbers", "_law_names", "_law_k", "_law_number_here", "_law_word"] ["_law_script"] (defScope (top 22)) := ⟨rfl, rfl, rfl, by decide +kernel, rfl, by decide +kernel, by decide +kernel⟩
def pd_law (K : PySem.W.Frag) : Pd ((List Int) × Unit) := (.fz (tScr K) .z)
theorem o_law {Pg : Program} {w : World} {K : PySem.W.Frag} {mg : Str → Option Value} {base : Heap} (nn : Nn mg) (hx : Hx Pg K mg) (r_law_box : Rdy Pg w K mg base "_law_box" 1 ["_law_script"] (SpM K (pd_law_box K) m_law_box PBox)) (r_law_take : Rdy Pg w K mg base "_law_take" 1 ["_law_box_here", "_law_size"] (SpM K (pd_law_take K) m_law_take (PF tInt))) (r_law_based : Rdy Pg w K mg base "_law_based" 2 ["_law_errors"] (SpM K (pd_law_based K) m_law_based (PF tBool))) (r_law_number : Rdy Pg w K mg base "_law_number" 1 ["_law_x"] (SpM K (pd_law_number K) m_law_number (PF tBool))) {fd : FuncData} (F : FunD K "law" "law" (defArgs (top 22)) (defBody (top 22)) (defScope (top 22)) [] [] (He.ga K "law") fd) : FnOk Pg w K mg base (L2.CX Pg w) 3 (He.ga K "law") fd ["_law_script"] (SpM K (pd_law K) m_law (PF tBool)) := by
  refine fn_ok F sc_law rfl (by decide) b_law (fun cdv A outer s H E hr i => ?_)
  have tk : Takes (cxOf (L2.CX Pg w) Pg w K mg base ["_law_script", "_law_box_here", "_law_value", "_law_name", "_law_ring", "_law_blames", "_law_passed", "_law_errors", "_law_numbers", "_law_names", "_law_k", "_law_number_here", "_law_word"] "law" (defScope (top 22)) (He.ga K "law") cdv A outer s H E) (fun cls d _ H => E cls d H) := takes_of rfl rfl rfl rfl
  have ex := ex_of tk
  have hp := passes_of (X := (cxOf (L2.CX Pg w) Pg w K mg base ["_law_script", "_law_box_here", "_law_value", "_law_name", "_law_ring", "_law_blames", "_law_passed", "_law_errors", "_law_numbers", "_law_names", "_law_k", "_law_number_here", "_law_word"] "law" (defScope (top 22)) (He.ga K "law") cdv A outer s H E)) rfl
  exact (tb_open 1 sc_law.nd rfl (.inr rfl) (Nat.le_of_ble_eq_true rfl) trivial (te_f r_law_box ret_Bx (hr.mono (by decide)) ex rfl (ta_fz (te_var 0 (.inl rfl) rfl rfl) ta_nil)) (tb_env [.fz (tScr K) i.1, .bx 0, .no, .no, .no, .no, .no, .no, .no, .no, .no, .no, .no] (tb_asg (tt_name 2 sc_law.nd rfl (.inr rfl)) (te_bin op_sub o_int (te_fM r_law_take (hr.mono (by decide)) ex rfl (ta_bx 1 0 (.inr (.inl rfl)) rfl rfl (ta_fz (te_binp op_pow o_intC te_int te_int) ta_nil))) (te_fM r_law_take (hr.mono (by decide)) ex rfl (ta_bx 1 0 (.inr (.inl rfl)) rfl rfl (ta_fz (te_binp op_pow o_intC te_int te_int) ta_nil)))) (fun x5 => (tb_env [.fz (tScr K) i.1, .bx 0, .fz tInt x5, .no, .no, .no, .no, .no, .no, .no, .no, .no, .no] (tb_asg (tt_name 3 sc_law.nd rfl (.inr rfl)) (te_join te_str (tg_newQ (te_lc rfl sc_law.nd (ti_range1 rfl nn.range (te_fM r_law_take (hr.mono (by decide)) ex rfl (ta_bx 1 0 (.inr (.inl rfl)) rfl rfl (ta_fz te_int ta_nil)))) (own := [("_law_k", 10)]) (blk_of rfl) (by decide) (fun _ _ _ _ _ => (tt_name 10 sc_law.nd rfl (.inl rfl))) (fun _ _ _ _ _ _ => tts_nil) (fun _ _ _ _ _ _ => (te_ix ix_str o_ixS te_str (te_fM r_law_take (hr.mono (by decide)) ex0 rfl (ta_bx 1 0 (.inr (.inl rfl)) rfl rfl (ta_fz te_int ta_nil))) (fun _ _ => rfl)))))) (fun x18 => (tb_env [.fz (tScr K) i.1, .bx 0, .fz tInt x5, .fz tStr x18, .no, .no, .no, .no, .no, .no, .no, .no, .no] (tb_setLcF 4 rfl sc_law.nd rfl rfl (Nat.le_of_ble_eq_true rfl) rfl (ti_range1 rfl nn.range (te_fM r_law_take (hr.mono (by decide)) ex rfl (ta_bx 1 0 (.inr (.inl rfl)) rfl rfl (ta_fz te_int ta_nil)))) (own := [("_law_k", 10)]) (blk_of rfl) (by decide) (fun _ _ _ _ _ => (tt_name 10 sc_law.nd rfl (.inl rfl))) (fun _ _ _ _ _ _ => tts_nil) (fun _ _ _ _ _ _ => (te_bin op_sub o_int (te_fM r_law_take (hr.mono (by decide)) ex0 rfl (ta_bx 1 0 (.inr (.inl rfl)) rfl rfl (ta_fz te_int ta_nil))) te_int)) (fun x33 => (tb_env [.fz (tScr K) i.1, .bx 0, .fz tInt x5, .fz tStr x18, .fz (tList tInt) x33, .no, .no, .no, .no, .no, .no, .no, .no] (tb_setLcF 5 rfl sc_law.nd rfl rfl (Nat.le_of_ble_eq_true rfl) rfl (ti_range1 rfl nn.range (te_fM r_law_take (hr.mono (by decide)) ex rfl (ta_bx 1 0 (.inr (.inl rfl)) rfl rfl (ta_fz te_int ta_nil)))) (own := [("_law_k", 10)]) (blk_of rfl) (by decide) (fun _ _ _ _ _ => (tt_name 10 sc_law.nd rfl (.inl rfl))) (fun _ _ _ _ _ _ => tts_nil) (fun _ _ _ _ _ _ => (te_tupL (tal_cons (te_fM r_law_take (hr.mono (by decide)) ex0 rfl (ta_bx 1 0 (.inr (.inl rfl)) rfl rfl (ta_fz te_int ta_nil))) tal_nil) (by decide))) (fun x46 => (tb_env [.fz (tScr K) i.1, .bx 0, .fz tInt x5, .fz tStr x18, .fz (tList tInt) x33, .fz (tList (tTupL K tInt)) x46, .no, .no, .no, .no, .no, .no, .no] (tb_two 6 sc_law.nd rfl (.inl rfl) (Nat.le_of_ble_eq_true rfl) (te_list1 rfl nn.list (tg_LQ (tg_frzL (te_var 4 (.inl rfl) rfl rfl)))) (te_list1 rfl nn.list (tg_LQ (tg_frzL (te_var 5 (.inl rfl) rfl rfl)))) (fun x61 x62 => (tb_env [.fz (tScr K) i.1, .bx 0, .fz tInt x5, .fz tStr x18, .fz (tList tInt) x33, .fz (tList (tTupL K tInt)) x46, .ow (oTwo tInt (tTupL K tInt)) (x61, x62), .no, .no, .no, .no, .no, .no] (tb_asg (tt_name 7 sc_law.nd rfl (.inl rfl)) (te_frz (te_list (tal_cons (Hx.v_BadNumber hx hr rfl (te_var 2 (.inr (.inl rfl)) rfl rfl)) (tal_cons (Hx.v_BadName hx hr rfl (te_var 3 (.inr (.inl rfl)) rfl rfl)) (tal_cons (Hx.v_TakenName hx hr rfl (te_var 3 (.inr (.inl rfl)) rfl rfl)) (tal_cons (Hx.v_UnknownName hx hr rfl (te_var 3 (.inr (.inl rfl)) rfl rfl)) (tal_cons (Hx.v_NoPlace hx hr rfl (te_var 2 (.inr (.inl rfl)) rfl rfl)) tal_nil))))) (by decide))) (fun x63 => (tb_env [.fz (tScr K) i.1, .bx 0, .fz tInt x5, .fz tStr x18, .fz (tList tInt) x33, .fz (tList (tTupL K tInt)) x46, .ow (oTwo tInt (tTupL K tInt)) (x61, x62), .fz (tList (tExc K)) x63, .no, .no, .no, .no, .no] (tb_asg (tt_name 7 sc_law.nd rfl (.inl rfl)) (te_frz (te_binp op_cat o_cat (tg_frzL (te_var 7 (.inl rfl) rfl rfl)) (tg_newL (te_list (tal_cons (Hx.v_TooMany hx hr rfl (te_var 2 (.inr (.inl rfl)) rfl rfl)) (tal_cons (Hx.v_NoSite hx hr rfl (tg_LQ (te_two0 6 (.inl rfl) rfl rfl))) (tal_cons (Hx.v_NoShape hx hr rfl (tg_LQ (te_two1 6 (.inl rfl) rfl rfl))) (tal_cons (Hx.v_BadState hx hr rfl (te_var 3 (.inr (.inl rfl)) rfl rfl)) tal_nil)))) (by decide))))) (fun x79 => (tb_env [.fz (tScr K) i.1, .bx 0, .fz tInt x5, .fz tStr x18, .fz (tList tInt) x33, .fz (tList (tTupL K tInt)) x46, .ow (oTwo tInt (tTupL K tInt)) (x61, x62), .fz (tList (tExc K)) x79, .no, .no, .no, .no, .no] (tb_asg (tt_name 7 sc_law.nd rfl (.inl rfl)) (te_frz (te_binp op_cat o_cat (tg_frzL (te_var 7 (.inl rfl) rfl rfl)) (tg_newL (te_list (tal_cons (Hx.v_BadLine hx hr rfl (te_var 2 (.inr (.inl rfl)) rfl rfl)) (tal_cons (Hx.v_DeedFailed hx hr rfl (te_var 2 (.inr (.inl rfl)) rfl rfl)) (tal_cons (Hx.v_OtherSite hx rfl) (tal_cons (Hx.v_NothingToUndo hx rfl) (tal_cons (Hx.v_NothingToRedo hx rfl) tal_nil))))) (by decide))))) (fun x94 => (tb_env [.fz (tScr K) i.1, .bx 0, .fz tInt x5, .fz tStr x18, .fz (tList tInt) x33, .fz (tList (tTupL K tInt)) x46, .ow (oTwo tInt (tTupL K tInt)) (x61, x62), .fz (tList (tExc K)) x94, .no, .no, .no, .no, .no] (tb_two0push 6 (.inl rfl) rfl rfl te_int (fun x110 => (tb_env [.fz (tScr K) i.1, .bx 0, .fz tInt x5, .fz tStr x18, .fz (tList tInt) x33, .fz (tList (tTupL K tInt)) x46, .ow (oTwo tInt (tTupL K tInt)) (x110, (x61, x62).2), .fz (tList (tExc K)) x94, .no, .no, .no, .no, .no] (tb_two1clear 6 (.inl rfl) rfl rfl (tb_env [.fz (tScr K) i.1, .bx 0, .fz tInt x5, .fz tStr x18, .fz (tList tInt) x33, .fz (tList (tTupL K tInt)) x46, .ow (oTwo tInt (tTupL K tInt)) ((x110, (x61, x62).2).1, []), .fz (tList (tExc K)) x94, .no, .no, .no, .no, .no] (tb_ifR (tt_not (tt_val (te_f r_law_based ret_F (hr.mono (by decide)) ex rfl (ta_fz (te_var 7 (.inl rfl) rfl rfl) ta_nil)))) (tb_ret te_bool) (tb_asg (tt_name 8 sc_law.nd rfl (.inl rfl)) (te_frz (te_list (tal_cons (Hx.f_value hx (te_ix ix_list o_ixL (tg_frzL (te_var 7 (.inl rfl) rfl rfl)) te_int (fun _ _ => rfl))) (tal_cons (Hx.f_place hx (te_ix ix_list o_ixL (tg_frzL (te_var 7 (.inl rfl) rfl rfl)) te_int (fun _ _ => rfl))) (tal_cons (Hx.f_count hx (te_ix ix_list o_ixL (tg_frzL (te_var 7 (.inl rfl) rfl rfl)) te_int (fun _ _ => rfl))) (tal_cons (Hx.f_line hx (te_ix ix_list o_ixL (tg_frzL (te_var 7 (.inl rfl) rfl rfl)) te_int (fun _ _ => rfl))) (tal_cons (Hx.f_row hx (te_ix ix_list o_ixL (tg_frzL (te_var 7 (.inl rfl) rfl rfl)) te_int (fun _ _ => rfl))) tal_nil))))) (by decide))) (fun x118 => (tb_env [.fz (tScr K) i.1, .bx 0, .fz tInt x5, .fz tStr x18, .fz (tList tInt) x33, .fz (tList (tTupL K tInt)) x46, .ow (oTwo tInt (tTupL K tInt)) ((x110, (x61, x62).2).1, []), .fz (tList (tExc K)) x94, .fz (tList tInt) x118, .no, .no, .no, .no] (tb_ifR (tt_cmp op_gt o_cmp (te_len1 rfl nn.len (tg_newQ (te_lc rfl sc_law.nd (ti_list (te_var 8 (.inl rfl) rfl rfl)) (own := [("_law_number_here", 11)]) (blk_of rfl) (by decide) (fun _ _ _ _ _ => (tt_name 11 sc_law.nd rfl (.inl rfl))) (fun _ _ _ _ _ _ => (tts_one (tt_w (tw_or (tt_not (tt_val (te_f r_law_number ret_F (hr.mono (by decide)) ex0 rfl (ta_fz (te_var 11 (.inl rfl) rfl rfl) ta_nil)))) (tw_one_or (tt_cmp op_ne o_neI (te_var 11 (.inl rfl) rfl rfl) (te_var 2 (.inr (.inl rfl)) rfl rfl) (nomark _))))))) (fun _ _ _ _ _ _ => (te_var 11 (.inl rfl) rfl rfl))))) te_int (nomark _)) (tb_ret te_bool) (tb_asg (tt_name 9 sc_law.nd rfl (.inl rfl)) (te_frz (te_list (tal_cons (Hx.f_name hx (te_ix ix_list o_ixL (tg_frzL (te_var 7 (.inl rfl) rfl rfl)) te_int (fun _ _ => rfl))) (tal_cons (Hx.f_name hx (te_ix ix_list o_ixL (tg_frzL (te_var 7 (.inl rfl) rfl rfl)) te_int (fun _ _ => rfl))) (tal_cons (Hx.f_name hx (te_ix ix_list o_ixL (tg_frzL (te_var 7 (.inl rfl) rfl rfl)) te_int (fun _ _ => rfl))) (tal_cons (Hx.f_state hx (te_ix ix_list o_ixL (tg_frzL (te_var 7 (.inl rfl) rfl rfl)) te_int (fun _ _ => rfl))) tal_nil)))) (by decide))) (fun x169 => (tb_env [.fz (tScr K) i.1, .bx 0, .fz tInt x5, .fz tStr x18, .fz (tList tInt) x33, .fz (tList (tTupL K tInt)) x46, .ow (oTwo tInt (tTupL K tInt)) ((x110, (x61, x62).2).1, []), .fz (tList (tExc K)) x94, .fz (tList tInt) x118, .fz (tList tStr) x169, .no, .no, .no] (tb_ifR (tt_cmp op_gt o_cmp (te_len1 rfl nn.len (tg_newQ (te_lc rfl sc_law.nd (ti_list (te_var 9 (.inl rfl) rfl rfl)) (own := [("_law_word", 12)]) (blk_of rfl) (by decide) (fun _ _ _ _ _ => (tt_name 12 sc_law.nd rfl (.inl rfl))) (fun _ _ _ _ _ _ => (tts_one (tt_w (tw_or (tt_not (tt_val (te_isi (cn := "str") isS rfl nn.isinstance rfl nn.str (by decide +kernel) (te_var 12 (.inl rfl) rfl rfl)))) (tw_one_or (tt_cmp op_ne o_neS (te_var 12 (.inl rfl) rfl rfl) (te_var 3 (.inr (.inl rfl)) rfl rfl) (nomark _))))))) (fun _ _ _ _ _ _ => (te_var 12 (.inl rfl) rfl rfl))))) te_int (nomark _)) (tb_ret te_bool) (tb_ifR (tt_w (tw_or (tt_not (tt_val (te_isi (cn := "list") isL rfl nn.isinstance rfl nn.list (by decide +kernel) (Hx.f_ring hx (te_ix ix_list o_ixL (tg_frzL (te_var 7 (.inl rfl) rfl rfl)) te_int (fun _ _ => rfl)))))) (tw_one_or (tt_not (tt_val (te_isi (cn := "list") isL rfl nn.isinstance rfl nn.list (by decide +kernel) (Hx.f_blames hx (te_ix ix_list o_ixL (tg_frzL (te_var 7 (.inl rfl) rfl rfl)) te_int (fun _ _ => rfl))))))))) (tb_ret te_bool) (tb_ret (te_and (te_cmp (op_eqD hr.units) (o_eqD (layL layI)) (Hx.f_ring hx (te_ix ix_list o_ixL (tg_frzL (te_var 7 (.inl rfl) rfl rfl)) te_int (fun _ _ => rfl))) (te_var 4 (.inl rfl) rfl rfl) (nomark _)) (te_one (te_cmp (op_eqD hr.units) (o_eqD (layL (layT layI))) (Hx.f_blames hx (te_ix ix_list o_ixL (tg_frzL (te_var 7 (.inl rfl) rfl rfl)) te_int (fun _ _ => rfl))) (te_var 5 (.inl rfl) rfl rfl) (nomark _))))))))))))))))))))))))))))))))))))))))))))))
theorem r_law {Pg : Program} {w : World} {K : PySem.W.Frag} {mg : Str → Option Value} {base : Heap} (nn : Nn mg) (hx : Hx Pg K mg) (r_law_box : Rdy Pg w K mg base "_law_box" 1 ["_law_script"] (SpM K (pd_law_box K) m_law_box PBox)) (r_law_take : Rdy Pg w K mg base "_law_take" 1 ["_law_box_here", "_law_size"] (SpM K (pd_law_take K) m_law_take (PF tInt))) (r_law_based : Rdy Pg w K mg base "_law_based" 2 ["_law_errors"] (SpM K (pd_law_based K) m_law_based (PF tBool))) (r_law_number : Rdy Pg w K mg base "_law_number" 1 ["_law_x"] (SpM K (pd_law_number K) m_law_number (PF tBool))) (D : Def0 K mg "law" (top 22)) : Rdy Pg w K mg base "law" 3 ["_law_script"] (SpM K (pd_law K) m_law (PF tBool)) := by
  obtain ⟨fd, F, gm⟩ := D
  exact ⟨fd, o_law nn hx r_law_box r_law_take r_law_based r_law_number F, F.bindsN (fun _ _ _ _ _ _ us hl => match us, hl with | [_], _ => rfl), F.kp, gm⟩
end K57
namespace K57
open TL PySem L2 PyProof.Rows
/-! ### what is fine of a box -/
def Fine (b : Box) : Prop := 0 ≤ b.idx
def OkB {α : Type} (x : BM α) (P : α → Prop) : Prop := ∀ b, Fine b → ∃ a b', x b = .ok (a, b') ∧ Fine b' ∧ P a
section
variable {α γ : Type} {P : α → Prop} {Q : γ → Prop}
theorem okB_pure {a : α} : OkB (pure a : BM α) (fun x => x = a) := fun b h => ⟨a, b, rfl, h, rfl⟩
theorem okB_any {a : α} : OkB (pure a : BM α) (fun _ => True) := fun b h => ⟨a, b, rfl, h, trivial⟩
theorem okB_bind {x : BM α} {k : α → BM γ} (h : OkB x P) (hk : ∀ a, P a → OkB (k a) Q) : OkB (x >>= k) Q := fun b hb => by
  obtain ⟨a, b1, e, h1, p⟩ := h b hb
  obtain ⟨c, b2, e2, h2, q⟩ := hk a p b1 h1
  exact ⟨c, b2, by show (x b).bind _ = _; rw [e]; exact e2, h2, q⟩
theorem okB_lift {r : Res α} {a : α} (e : r = .ok a) : OkB (Mo.lift r : BM α) (fun x => x = a) := fun b h => ⟨a, b, by show r.bind _ = _; rw [e] <;> rfl, h, rfl⟩
theorem okB_liftP {r : Res α} (h : ∃ a, r = .ok a ∧ P a) : OkB (Mo.lift r : BM α) P := fun b hb => by
  obtain ⟨a, e, p⟩ := h
  exact ⟨a, b, by show r.bind _ = _; rw [e] <;> rfl, hb, p⟩
theorem okB_imp {P' : α → Prop} {x : BM α} (h : OkB x P) (hp : ∀ a, P a → P' a) : OkB x P' := fun b hb => by
  obtain ⟨a, b1, e, h1, p⟩ := h b hb
  exact ⟨a, b1, e, h1, hp a p⟩
theorem okB_noErr {x : BM α} (h : OkB x P) : OkB (Mo.noErr x : BM α) P := fun b hb => by
  obtain ⟨a, b1, e, h1, p⟩ := h b hb
  exact ⟨a, b1, by show (x b).noErr = _; rw [e] <;> rfl, h1, p⟩
theorem okB_map {f : α → BM (Option γ)} : ∀ {xs : List α}, (∀ x ∈ xs, OkB (f x) (fun o => ∃ y, o = some y ∧ Q y)) → OkB (mapF f xs) (fun ys => ys.length = xs.length ∧ ∀ y ∈ ys, Q y)
  | [], _ => okB_imp okB_pure fun a e => by subst e; exact ⟨rfl, fun y hy => by cases hy⟩
  | x :: xs, h => by
    unfold mapF
    refine okB_bind (h x List.mem_cons_self) fun o ho => ?_
    obtain ⟨y, rfl, hy⟩ := ho
    refine okB_bind (okB_map fun z hz => h z (List.mem_cons_of_mem _ hz)) fun ys hys => ?_
    refine okB_imp okB_pure fun a e => ?_
    subst e
    refine ⟨by simp [hys.1], fun w hw => ?_⟩
    rcases List.mem_cons.mp hw with rfl | hw
    · exact hy
    · exact hys.2 w hw
end
theorem lm_bind {α γ : Type} (r : BM α) (k : α → BM γ) (b : Box) : (r >>= k) b = (r b).bind fun p => k p.1 p.2 := rfl
theorem lm_pure {α : Type} (x : α) (b : Box) : (pure x : BM α) b = .ok (x, b) := rfl
theorem lm_lift {α : Type} (r : Res α) (b : Box) : (Mo.lift r : BM α) b = r.bind fun x => .ok (x, b) := rfl
theorem lm_get {α : Type} (g : Box → α) (b : Box) : bGet g b = .ok (g b, b) := rfl
theorem lm_set (g : Box → Box) (b : Box) : bSet g b = .ok ((), g b) := rfl
theorem rb_ok {α γ : Type} (x : α) (k : α → Res γ) : (Res.ok x).bind k = k x := rfl
theorem opt_some {α : Type} (x : α) : opt (some x) = .ok x := rfl
theorem onlyIf_true {α : Type} {C : Prop} [Decidable C] (h : C) (x : α) : onlyIf C x = some x := if_pos h
theorem if_app {α : Type} {C : Prop} [Decidable C] (f g : BM α) (b : Box) : (if C then f else g) b = if C then f b else g b := by split <;> rfl
def headT : BM (Fl Unit Empty Int) := ((((bGet Box.left) >>= fun x1 => (pure (1 : Int)) >>= fun x2 => pure (decide (x1 < x2))) >>= fun x6 => if x6 = true then ((bGet Box.idx) >>= fun x4 => ((bGet Box.cells) >>= fun x3 => pure ((x3.length : Int))) >>= fun x5 => pure (decide (x4 < x5))) else pure false) >>= fun x7 => (if x7 = true then (((bGet Box.cells) >>= fun x10 => (bGet Box.idx) >>= fun x11 => Mo.lift (opt (atI x10 x11))) >>= fun x9 => (((bGet Box.idx) >>= fun x12 => (pure (1 : Int)) >>= fun x13 => pure (x12 + x13)) >>= fun x38 => bSet (fun b => { b with idx := x38 }) >>= fun u39 => (((pure x9) >>= fun x16 => ((pure (10 : Int)) >>= fun x14 => (pure (18 : Int)) >>= fun x15 => Mo.lift (opt (onlyIf (CPow x14 x15) (x14 ^ x15.toNat)))) >>= fun x17 => pure (decide (x17 ≤ x16))) >>= fun x18 => if x18 = true then (((pure x9) >>= fun x21 => ((pure (10 : Int)) >>= fun x19 => (pure (18 : Int)) >>= fun x20 => Mo.lift (opt (onlyIf (CPow x19 x20) (x19 ^ x20.toNat)))) >>= fun x22 => pure (x21 - x22)) >>= fun x23 => bSet (fun b => { b with left := x23 }) >>= fun u24 => (pure (.nx ()))) else (((((((bGet Box.st) >>= fun x25 => (pure (48271 : Int)) >>= fun x26 => Mo.lift (opt (onlyIf (CMul x25 x26) (x25 * x26)))) >>= fun x29 => ((pure x9) >>= fun x27 => (pure (69621 : Int)) >>= fun x28 => Mo.lift (opt (onlyIf (CMul x27 x28) (x27 * x28)))) >>= fun x30 => pure (x29 + x30)) >>= fun x31 => (pure (7919 : Int)) >>= fun x32 => pure (x31 + x32)) >>= fun x33 => pure (x33)) >>= fun x34 => (pure (2147483647 : Int)) >>= fun x35 => Mo.lift (opt (onlyIf (CPos x34 x35) (x34 % x35)))) >>= fun x36 => bSet (fun b => { b with st := x36 }) >>= fun u37 => (pure (.nx ())))))) else (pure (.nx ()))))
def tailT (z : Int) : BM (Fl Empty Empty Int) := (((bGet Box.left) >>= fun x40 => (pure (0 : Int)) >>= fun x41 => pure (decide (x41 < x40))) >>= fun x42 => if x42 = true then ((((bGet Box.left) >>= fun x44 => pure (x44)) >>= fun x45 => (pure z) >>= fun x46 => Mo.lift (opt (onlyIf (CPos x45 x46) (x45 % x46)))) >>= fun x43 => (((bGet Box.left) >>= fun x47 => (pure z) >>= fun x48 => Mo.lift (opt (onlyIf (CDivW x47 x48) (x47 / x48)))) >>= fun x50 => bSet (fun b => { b with left := x50 }) >>= fun u51 => ((pure x43) >>= fun x49 => pure (.rt x49)))) else (((((bGet Box.st) >>= fun x52 => (pure (48271 : Int)) >>= fun x53 => Mo.lift (opt (onlyIf (CMul x52 x53) (x52 * x53)))) >>= fun x54 => pure (x54)) >>= fun x55 => (pure (2147483647 : Int)) >>= fun x56 => Mo.lift (opt (onlyIf (CPos x55 x56) (x55 % x56)))) >>= fun x63 => bSet (fun b => { b with st := x63 }) >>= fun u64 => (((((bGet Box.st) >>= fun x57 => (pure (16 : Int)) >>= fun x58 => Mo.lift (opt (onlyIf (CDivW x57 x58) (x57 / x58)))) >>= fun x59 => pure (x59)) >>= fun x60 => (pure z) >>= fun x61 => Mo.lift (opt (onlyIf (CPos x60 x61) (x60 % x61)))) >>= fun x62 => pure (.rt x62))))
theorem lm_assoc {α γ δ : Type} (r : BM α) (k : α → BM γ) (l : γ → BM δ) : (r >>= k) >>= l = r >>= fun x => k x >>= l := by
  funext b
  show ((r b).bind _).bind _ = (r b).bind _
  cases r b <;> rfl
theorem take_eq (z : Int) : m_law_take (z, ()) = seqF headT (fun _ => tailT z) >>= fun r => pure (fin r) := by
  unfold m_law_take b_law_take headT tailT seqF
  simp only [lm_assoc]
theorem okB_get {α : Type} (g : Box → α) : OkB (bGet g) (fun _ => True) := fun b h => ⟨g b, b, rfl, h, trivial⟩
theorem okB_set (g : Box → Box) (h : ∀ b, Fine b → Fine (g b)) : OkB (bSet g) (fun _ => True) := fun b hb => ⟨(), g b, rfl, h b hb, trivial⟩
theorem okB_if {α : Type} {c : Bool} {x y : BM α} {P : α → Prop} (hx : OkB x P) (hy : OkB y P) : OkB (if c = true then x else y) P := by
  split <;> assumption
theorem okB_lo {α : Type} {C : Prop} [Decidable C] (h : C) (x : α) : OkB (Mo.lift (opt (onlyIf C x)) : BM α) (fun y => y = x) := okB_lift (by rw [onlyIf_true h]; rfl)
theorem okB_loT {α : Type} {C : Prop} [Decidable C] (h : C) (x : α) : OkB (Mo.lift (opt (onlyIf C x)) : BM α) (fun _ => True) := okB_imp (okB_lo h x) fun _ _ => trivial
theorem tail_ok (z : Int) (hz : 0 < z) (hs : z.natAbs.log2 < 9000) : OkB (tailT z) (fun f => ∃ d, f = .rt d ∧ 0 ≤ d ∧ d < z) := by
  have md : ∀ x : Int, 0 ≤ x % z ∧ x % z < z := fun x => ⟨Int.emod_nonneg _ (by omega), Int.emod_lt_of_pos _ hz⟩
  unfold tailT
  refine okB_bind (P := fun _ => True) (okB_bind (okB_get _) fun _ _ => okB_bind okB_pure fun _ _ => okB_imp okB_pure fun _ _ => trivial) fun t _ => okB_if ?_ ?_
  · refine okB_bind (P := fun d => 0 ≤ d ∧ d < z) (okB_bind (okB_bind (okB_get _) fun _ _ => okB_any) fun x _ => okB_bind okB_pure fun y hy => ?_) fun d hd => ?_
    · subst hy
      exact okB_imp (okB_lo (show CPos x y from hz) _) fun _ e => by subst e; exact md x
    · refine okB_bind (P := fun _ => True) (okB_bind (okB_get _) fun x _ => okB_bind okB_pure fun y hy => ?_) fun q _ => okB_bind (okB_set _ fun b h => h) fun _ _ => okB_bind okB_pure fun r hr => okB_imp okB_pure fun a e => ⟨d, by rw [e, hr], hd⟩
      subst hy
      exact okB_imp (okB_lo (show CDivW x y from ⟨hz, hs⟩) _) fun _ _ => trivial
  · refine okB_bind (P := fun _ => True) (okB_bind (okB_bind (okB_bind (okB_get _) fun x _ => okB_bind okB_pure fun y hy => okB_loT (show CMul x y by rw [hy]; exact .inr ⟨by decide, by decide⟩) _) fun _ _ => okB_any) fun x _ => okB_bind okB_pure fun y hy => okB_imp (okB_lo (show CPos x y by rw [hy]; show (0 : Int) < 2147483647; decide) _) fun _ _ => trivial) fun q _ => okB_bind (okB_set _ fun b h => h) fun _ _ => ?_
    refine okB_bind (P := fun d => 0 ≤ d ∧ d < z) (okB_bind (okB_bind (okB_bind (okB_get _) fun x _ => okB_bind okB_pure fun y hy => okB_loT (show CDivW x y by rw [hy]; exact ⟨by decide, by decide⟩) _) fun _ _ => okB_any) fun x _ => okB_bind okB_pure fun y hy => ?_) fun r hr => okB_imp okB_pure fun a e => ⟨r, e, hr⟩
    subst hy
    exact okB_imp (okB_lo (show CPos x y from hz) _) fun _ e => by subst e; exact md x
theorem head_ok : OkB headT (fun f => f = .nx ()) := fun b hb => by
  have hb' : (0 : Int) ≤ b.idx := hb
  have c1 : ∀ x : Int, CMul x 48271 := fun x => .inr ⟨by decide, by decide⟩
  have c2 : ∀ x : Int, CMul x 69621 := fun x => .inr ⟨by decide, by decide⟩
  have c3 : CPow 10 18 := ⟨by decide, by decide, by decide⟩
  have c4 : ∀ x : Int, CPos x 2147483647 := fun x => by show (0 : Int) < 2147483647; decide
  have hcell : b.idx < b.cells.length → ∃ c, atI b.cells b.idx = some c := fun h => by
    unfold atI ixN
    rw [if_pos hb', if_pos h, Option.bind_some]
    exact ⟨_, List.getElem?_eq_getElem (by omega)⟩
  unfold headT
  simp only [lm_bind, lm_pure, lm_lift, lm_get, lm_set, rb_ok, if_app, decide_eq_true_eq]
  by_cases h1 : b.left < 1
  · by_cases h2 : b.idx < b.cells.length
    · obtain ⟨c, hc⟩ := hcell h2
      simp only [h1, h2, if_true, rb_ok, decide_true, hc, opt_some, onlyIf_true c3, onlyIf_true (c1 _), onlyIf_true (c2 _), onlyIf_true (c4 _), decide_eq_true_eq]
      split
      · exact ⟨_, _, rfl, by show (0 : Int) ≤ b.idx + 1; omega, rfl⟩
      · exact ⟨_, _, rfl, by show (0 : Int) ≤ b.idx + 1; omega, rfl⟩
    · simp only [h1, h2, if_true, rb_ok, decide_false, Bool.false_eq_true, if_false]
      exact ⟨_, _, rfl, hb, rfl⟩
  · simp only [h1, if_false, rb_ok, Bool.false_eq_true]
    exact ⟨_, _, rfl, hb, rfl⟩
theorem take_ok (z : Int) (hz : 0 < z) (hs : z.natAbs.log2 < 9000) : OkB (m_law_take (z, ())) (fun d => 0 ≤ d ∧ d < z) := by
  rw [take_eq]
  unfold seqF
  refine okB_bind (P := fun f => ∃ d, f = .rt d ∧ 0 ≤ d ∧ d < z) (okB_bind head_ok fun f hf => ?_) fun f hf => ?_
  · subst hf
    exact tail_ok z hz hs
  · obtain ⟨d, rfl, hd⟩ := hf
    exact okB_imp okB_pure fun a e => by subst e; exact hd
theorem map_id : ∀ xs : List Int, mapF (fun c5 => Mo.noErr ((pure true) >>= fun x7 => if x7 = true then ((pure c5) >>= fun x6 => pure (x6)) >>= fun x8 => pure (some x8) else pure none)) xs = (.ok xs : Res (List Int))
  | [] => rfl
  | x :: xs => by
    unfold mapF
    rw [map_id xs]
    rfl
theorem box_ok (ns : List Int) : ∃ xs, m_law_box (ns, ()) = .ok ⟨xs, 0, 0, 0⟩ := by
  refine ⟨cutL ns none (some 63), ?_⟩
  show ((mapF _ (cutL ns none (some 63)) >>= fun x9 => pure (⟨x9, 0, 0, 0⟩ : Box)) >>= fun x10 => pure (Fl.rt x10) : Res (Fl Empty Empty Box)) >>= (fun z => pure (fin z)) = _
  rw [map_id]
  rfl
theorem lm_pb {α γ : Type} (x : α) (k : α → BM γ) : (pure x : BM α) >>= k = k x := rfl
theorem lm_ok {α γ : Type} (x : α) (k : α → BM γ) : (Mo.lift (Res.ok x) : BM α) >>= k = k x := rfl
theorem cp30 : CPow 10 30 := ⟨by decide, by decide, by decide⟩
theorem okB_mapN {α γ : Type} {f : α → BM (Option γ)} : ∀ {xs : List α}, (∀ x ∈ xs, OkB (f x) (fun o => o = none)) → OkB (mapF f xs) (fun ys => ys = [])
  | [], _ => okB_pure
  | x :: xs, h => by
    unfold mapF
    refine okB_bind (h x List.mem_cons_self) fun o ho => ?_
    subst ho
    refine okB_bind (okB_mapN fun z hz => h z (List.mem_cons_of_mem _ hz)) fun ys hys => ?_
    subst hys
    exact okB_pure
theorem run_ok {ns xs : List Int} {B : BM (Fl Empty Empty Bool)} (hb : m_law_box (ns, ()) = .ok ⟨xs, 0, 0, 0⟩) (h : OkB B (fun f => f = .rt true)) :
    (((((pure ns : Res (List Int)) >>= fun x2 => pure () >>= fun x3 => pure (x2, x3)) >>= fun i4 => (Mo.lift (m_law_box i4) : Res Box)) >>= fun x1 => runB B x1) >>= fun z => pure (fin z)) = (.ok true : Res Bool) := by
  show (((m_law_box (ns, ())).bind fun x1 => runB B x1).bind fun z => .ok (fin z)) = .ok true
  rw [hb]
  obtain ⟨f, b', e, _, rfl⟩ := h ⟨xs, 0, 0, 0⟩ (by show (0 : Int) ≤ 0; decide)
  show ((runB B ⟨xs, 0, 0, 0⟩).bind fun z => .ok (fin z)) = .ok true
  unfold runB
  rw [e] <;> rfl
theorem based_ok (v : Int) (s : Str) (r : List Int) (bl : List (List Int)) : m_law_based ([.num v, .name s, .taken s, .unknown s, .place v, .many v, .site r, .shape bl, .state s, .line v, .deed v, .other, .undo, .redo], ()) = .ok true := by
  kernel_rfl
theorem rng_ok {n : Int} (h : 0 ≤ n ∧ n < 9) : ∃ l, opt (rng1 n) = .ok l ∧ l.length ≤ 9 := by
  have c : -(2 ^ 62) ≤ n ∧ n ≤ 16777216 := by omega
  refine ⟨intsFrom 0 n.toNat, ?_, by rw [intsFrom_length]; omega⟩
  show opt (onlyIf _ _) = _
  rw [onlyIf_true c] <;> rfl
theorem sum_one : ∀ {l : List Str}, (∀ y ∈ l, y.length = 1) → (l.map (·.length)).sum = l.length
  | [], _ => rfl
  | x :: l, h => by
    rw [List.map_cons, List.sum_cons, h x List.mem_cons_self, sum_one fun y hy => h y (List.mem_cons_of_mem _ hy), List.length_cons]
    omega
theorem ch_ok {x : Int} (h : 0 ≤ x ∧ x < 7) : ∃ c, opt (chAt (Str.ofString "abz A9_") x) = .ok c ∧ c.length = 1 := by
  have : x = 0 ∨ x = 1 ∨ x = 2 ∨ x = 3 ∨ x = 4 ∨ x = 5 ∨ x = 6 := by omega
  rcases this with rfl | rfl | rfl | rfl | rfl | rfl | rfl <;> exact ⟨_, rfl, rfl⟩
theorem law_ok (ns : List Int) : m_law (ns, ()) = .ok true := by
  obtain ⟨xs, hb⟩ := box_ok ns
  unfold m_law b_law
  simp only [lm_assoc, lm_pb, onlyIf_true cp30, opt_some, lm_ok, if_true]
  refine run_ok hb ?_
  refine okB_bind (take_ok _ (by decide) (by decide)) fun v1 _ => okB_bind (take_ok _ (by decide) (by decide)) fun v2 _ => ?_
  refine okB_bind (take_ok 9 (by decide) (by decide)) fun n hn => okB_bind (okB_liftP (rng_ok hn)) fun l hl => ?_
  refine okB_bind (okB_map (Q := fun y => y.length = 1) fun x _ => okB_noErr (okB_bind (take_ok 7 (by decide) (by decide)) fun d hd => okB_bind (okB_liftP (ch_ok hd)) fun c hc => okB_imp okB_pure fun a e => ⟨c, e, hc⟩)) fun ys hys => ?_
  refine okB_bind (okB_lo (by rw [sum_one hys.2]; show ys.length + ys.length * 0 ≤ 16777216; omega) _) fun nm hnm => ?_
  refine okB_bind (take_ok 5 (by decide) (by decide)) fun n hn => okB_bind (okB_liftP (rng_ok ⟨hn.1, by omega⟩)) fun l2 hl => ?_
  refine okB_bind (okB_map (Q := fun y => True) fun x _ => okB_noErr (okB_bind (take_ok 24 (by decide) (by decide)) fun d hd => okB_imp okB_pure fun a e => ⟨_, e, trivial⟩)) fun ring hring => ?_
  refine okB_bind (take_ok 5 (by decide) (by decide)) fun n hn => okB_bind (okB_liftP (rng_ok ⟨hn.1, by omega⟩)) fun l hl2 => ?_
  refine okB_bind (okB_map (Q := fun y => True) fun x _ => okB_noErr (okB_bind (take_ok 40 (by decide) (by decide)) fun d hd => okB_imp okB_pure fun a e => ⟨_, e, trivial⟩)) fun bl hbl => ?_
  generalize v1 - v2 = v
  refine okB_bind (okB_lift rfl) fun x79 e => ?_
  subst e
  refine okB_bind (okB_lift rfl) fun x94 e => ?_
  subst e
  have hp : ring.length < sizeLine := by
    rw [hring.1]
    show l2.length < 16777216
    omega
  refine okB_bind (P := fun _ => True) (okB_liftP ⟨_, if_pos hp, trivial⟩) fun _ _ => ?_
  refine okB_bind (okB_lift (based_ok v nm ring bl)) fun x e => ?_
  subst e
  simp only [Bool.not_true, Bool.false_eq_true, if_false]
  iterate 10
    refine okB_bind (okB_lift rfl) fun x e => ?_
    subst x
  refine okB_bind (okB_mapN fun x hx => okB_noErr ?_) fun x e => ?_
  · have ex : x = v := by simpa using hx
    subst x
    refine okB_bind (okB_lift rfl) fun y e => ?_
    subst y
    simp only [Bool.not_true, Bool.false_eq_true, if_false, bne_self_eq_false, lm_pb]
    exact okB_pure
  subst e
  simp only [List.length_nil, Int.ofNat_zero, Int.lt_irrefl, decide_false, Bool.false_eq_true, if_false]
  iterate 8
    refine okB_bind (okB_lift rfl) fun x e => ?_
    subst x
  refine okB_bind (okB_mapN fun x hx => okB_noErr ?_) fun x e => ?_
  · have ex : x = nm := by simpa using hx
    subst x
    simp only [bne_self_eq_false, lm_pb, Bool.false_eq_true, if_false]
    exact okB_pure
  subst e
  simp only [List.length_nil, Int.ofNat_zero, Int.lt_irrefl, decide_false, Bool.false_eq_true, if_false]
  iterate 2
    refine okB_bind (okB_lift rfl) fun x e => ?_
    subst x
  simp only [lm_assoc, lm_pb, Bool.false_eq_true, if_false]
  iterate 4
    refine okB_bind (okB_lift rfl) fun x e => ?_
    subst x
  simp only [decide_true, if_true, lm_assoc, lm_pb]
  iterate 2
    refine okB_bind (okB_lift rfl) fun x e => ?_
    subst x
  simp only [decide_true]
  exact okB_pure
end K57
/-! TH: what the head tells: the defs, the errors. -/
namespace TL
open PySem PySem.Spec PyProof.Rows L2
/-! ### an error's class, its __init__ -/
def clsB (K : PySem.W.Frag) (C : Addr) : Bool := match K.lookup C with
  | some ⟨.type "type", _, .cls cd, sl⟩ => (match cd.mro, sl.toList with
    | .ref C' :: bm, [_, _, _, _, some (.builtin n), _] => C' == C && n == "ValueError.__new__" && !cd.hasDel && cd.hasDict && PySem.HandSPX.refsVE bm && decide (PySem.W.alongIn K "__init__" bm = some (some (.builtin "ValueError.__init__")))
    | _, _ => false)
  | _ => false
theorem clsB_ok {K : PySem.W.Frag} {C : Addr} (q : clsB K C = true) : ∃ nm q N bs bm sn sub ab col dd k0 k1 k2 k3 k5, K.lookup C = some (excClassObj nm q C N bs bm true sn sub ab col dd k0 k1 k2 k3 k5 "ValueError.__new__") ∧ PySem.HandSPX.refsVE bm = true ∧ PySem.W.alongIn K "__init__" bm = some (some (.builtin "ValueError.__init__")) := by
  unfold clsB at q
  split at q
  · rename_i dd cd sl ho
    split at q
    · rename_i C' bm k0 k1 k2 k3 n k5 hm hs
      simp only [Bool.and_eq_true, beq_iff_eq, Bool.not_eq_true', decide_eq_true_eq] at q
      obtain ⟨⟨⟨⟨⟨rfl, rfl⟩, hdel⟩, hd⟩, hr⟩, hal⟩ := q
      obtain ⟨nm, bs, mro, ns, qn, hdd, sn, sub, ab, col, del⟩ := cd
      dsimp only at hm hdel hd
      subst hm hdel hd
      have hsl : sl = #[k0, k1, k2, k3, some (.builtin "ValueError.__new__"), k5] := by
        obtain ⟨l⟩ := sl
        simp only at hs
        rw [hs]
      subst hsl
      exact ⟨nm, qn, ns, bs, bm, sn, sub, ab, col, dd, k0, k1, k2, k3, k5, ho, hr, hal⟩
    · cases q
  · cases q
def codB (prog : Program) (K : PySem.W.Frag) (f C : Addr) : Bool := match K.lookup f with
  | some ⟨_, _, .func fd, _⟩ => (match fd.closure, fd.code, fd.defaults, fd.kwdefaults with
    | [(n, cc)], .ref cda, .none, .none => decide (n = "__class__") && (PySem.W.codeIn K (.ref cda) fd.qualname && ((match K.lookup cda with
      | some ⟨_, _, .fields vs, _⟩ => (match (vs[2]? : Option Value) with
        | some (Value.str file _) => decide (file = prog.main.file)
        | _ => false)
      | _ => false) && (match K.lookup cc with
      | some ⟨_, _, .cell (some (.ref D)), _⟩ => decide (D = C)
      | _ => false)))
    | _, _, _, _ => false)
  | _ => false
abbrev FnX : Type := Option (Str × Str × Arguments × FuncBody × Scope × Addr × Addr)
def fnX (K : PySem.W.Frag) (f : Addr) : FnX := match K.lookup f with
  | some ⟨_, _, .func fd, _⟩ => some (fd.name, fd.qualname, fd.params, fd.body, fd.scope, fd.globals, fd.builtins)
  | _ => none
theorem codB_ok {prog : Program} {K : PySem.W.Frag} {f C : Addr} {name qual : Str} {params : Arguments} {body : List Stmt} {scope : Scope} (h : codB prog K f C = true) (e : fnX K f = some (name, qual, params, .stmts body, scope, mainGlobals, builtinsNs)) :
    ∃ (oc : Value) (od : Option Addr) (osl : Array (Option Value)) (doc pm ct ccl cl : Value) (an cdd cld : Option Addr) (cda cc : Addr) (vs : Array Value) (ccs csl : Array (Option Value)) (tf : Tok),
      K.lookup f = some ⟨oc, od, .func (PySem.W.ksFn name qual params body scope .none .none doc pm an (.ref cda) ct cc), osl⟩ ∧ PySem.W.codeIn K (.ref cda) qual = true ∧ K.lookup cda = some ⟨ccl, cdd, .fields vs, ccs⟩ ∧ vs[2]? = some (.str prog.main.file tf) ∧ K.lookup cc = some ⟨cl, cld, .cell (some (.ref C)), csl⟩ := by
  unfold codB at h
  unfold fnX at e
  split at h
  · rename_i oc od fd osl ho
    rw [ho] at e
    obtain ⟨n1, n2, n3, n4, n5, n6, n7, n8, n9, n10, n11, n12, n13, n14, n15⟩ := fd
    simp only [Option.some.injEq, Prod.mk.injEq] at e
    obtain ⟨rfl, rfl, rfl, rfl, rfl, rfl, rfl⟩ := e
    dsimp only at h
    split at h
    · rename_i n cc cda
      simp only [Bool.and_eq_true, decide_eq_true_eq] at h
      obtain ⟨rfl, hc, h2, h3⟩ := h
      split at h2
      · rename_i ccl cdd vs ccs hcda
        split at h2
        · rename_i file tf hf
          have e2 := of_decide_eq_true h2
          subst e2
          split at h3
          · rename_i cl cld D csl hcc
            have e3 := of_decide_eq_true h3
            subst e3
            exact ⟨oc, od, osl, n10, n11, n14, ccl, cl, n12, cdd, cld, cda, cc, vs, ccs, csl, tf, ho, hc, hcda, hf, hcc⟩
          · cases h3
        · cases h2
      · cases h2
    · cases h
  · cases h
/-- all that is asked of one class with an __init__ -/
def iniB (prog : Program) (K : PySem.W.Frag) (d : InD) : Bool :=
  clsB K (He.ga K d.c) && codB prog K (He.ma K (He.ga K d.c) "__init__") (He.ga K d.c) && decide (PySem.W.findIn K (.ref (He.ga K d.c)) "__setattr__" = some (some (.builtin "object.__setattr__"))) && decide (PySem.W.findIn K (.ref (He.ga K d.c)) d.f = some none) &&
  decide (PySem.W.findIn K (.ref (He.ga K d.c)) "__init__" = some (some (.ref (He.ma K (He.ga K d.c) "__init__")))) && decide (PySem.W.typeIn K (.ref (He.ma K (He.ga K d.c) "__init__")) = some (.type "function")) && decide (PySem.W.subIn K (.ref (He.ga K d.c)) (.type "BaseException") = some true) &&
  decide (PySem.W.subIn K (.ref (He.ga K d.c)) (.type "ValueError") = some true) && decide (PySem.W.mroIn K (He.ga K d.c) (.ref (He.ga K d.c)) = some true)
def genB (K : PySem.W.Frag) : Bool := decide (PySem.W.nsIn K cStatics "thirdparty.any" = some none) && decide (PySem.W.nsIn K mainGlobals "super" = some none) && decide (PySem.W.nsIn K mainGlobals "list" = some none)
def clsB2 (K : PySem.W.Frag) (c : Str) : Bool :=
  decide (PySem.W.findIn K (.ref (He.ga K c)) "__getattribute__" = some (some (.builtin "BaseException.__getattribute__"))) && decide (PySem.W.findIn K (.ref (He.ga K c)) "__getattr__" = some none) && decide (PySem.W.subIn K (.ref (He.ga K c)) (.type "BaseException") = some true) && PySem.W.hasDictIn K (He.ga K c) &&
  decide (PySem.W.findIn K (.ref (He.ga K c)) "__class__" = some (some (.builtin "object.__class__"))) && decide (PySem.W.specialIn K (.builtin "object.__class__") "__get__" = some (some (.builtin "getset_descriptor.__get__"))) && decide (PySem.W.takesIn K (.builtin "object.__class__") = some true) && decide (PySem.W.mroIn K (He.ga K c) (.type "object") = some true) &&
  (clsN.all fun c' => decide (PySem.W.kitOne K (.ref (He.ga K c)) (.ref (He.ga K c')) = some (decide (c = c')))) && decide (PySem.W.kitOne K (.ref (He.ga K c)) (.ref (He.ga K "LadderError")) = some true) && decide (PySem.W.kitOne K (.ref (He.ga K c)) (.type "ValueError") = some true) &&
  decide (PySem.W.nsIn K mainGlobals c = some (some (.ref (He.ga K c)))) && PySem.W.keepIn K (.ref (He.ga K c)) && decide (PySem.W.typeIn K (.ref (He.ga K c)) = some (.type "type"))
def errB (prog : Program) (K : PySem.W.Frag) : Bool := genB K && (initN.all fun d => iniB prog K d) && (clsN.all fun c => clsB2 K c) && (zeroN.all fun c => PySem.W.excIn K (He.ga K c) He.veBase "ValueError.__new__") && decide (PySem.W.nsIn K mainGlobals "LadderError" = some (some (.ref (He.ga K "LadderError"))))
/-- the text of an __init__ -/
structure ShE (st : Stmt) (m f : Str) (l : Bool) : Prop where
  ex : ∃ (p1 p2 q1 q2 q3 q4 q5 q6 q7 q8 q9 q10 q11 q12 : Pos), defArgs st = PySem.TX.iA f p1 p2 ∧ defBody st = PySem.TX.iB m f f l q1 q2 q3 q4 q5 q6 q7 q8 q9 q10 q11 q12 ∧ (q3.endLine == q5.line) = true ∧
    ∀ (qual : Str) (doc pm ct : Value) (an : Option Addr) (cda cc : Addr) (a b : Value), bindArgs (PySem.W.ksFn "__init__" qual (PySem.TX.iA f p1 p2) (PySem.TX.iB m f f l q1 q2 q3 q4 q5 q6 q7 q8 q9 q10 q11 q12) (defScope st) .none .none doc pm an (.ref cda) ct cc) ⟨[a, b], []⟩ = pure [(("self" : Str), a), (f, b)]
  sc : (defScope st).names.lookup ("super" : Str) = some .globalImplicit ∧ (defScope st).names.lookup ("__class__" : Str) = some .free ∧ (defScope st).names.lookup ("self" : Str) = some .local ∧ (defScope st).names.lookup f = some .local ∧ (l = true → (defScope st).names.lookup ("list" : Str) = some .globalImplicit) ∧ ∀ x ∈ (defScope st).names, x.2 ≠ .cell
  kd : (defScope st).kind = .function ∧ (defScope st).isGenerator = false ∧ (defScope st).isCoroutine = false
  nm : (("self" : Str) == f) = false ∧ (f == ("self" : Str)) = false ∧ (f == ("__debug__" : Str)) = false
def ba' {a b : Bool} (h : (a && b) = true) : a = true ∧ b = true := Bool.and_eq_true_iff.mp h
theorem itxt_of {prog : Program} {K : PySem.W.Frag} {d : InD} {st : Stmt} {qual : Str} (g : genB K = true) (h : iniB prog K d = true) (S : ShE st d.m d.f d.l) (top : (prog.main.scope.names.lookup ("super" : Str)).isSome = false) (e : fnX K (He.ma K (He.ga K d.c) "__init__") = some (("__init__" : Str), qual, defArgs st, .stmts (defBody st), defScope st, mainGlobals, builtinsNs)) :
    PySem.TX.ITxt prog K (He.ga K d.c) (He.ma K (He.ga K d.c) "__init__") d.m d.f d.f d.l := by
  unfold iniB at h
  unfold genB at g
  simp only [Bool.and_eq_true, decide_eq_true_eq] at h g
  obtain ⟨⟨⟨⟨⟨⟨⟨⟨h1, h2⟩, h3⟩, h4⟩, h5⟩, h6⟩, h7⟩, h8⟩, h9⟩ := h
  obtain ⟨⟨g1, g2⟩, g3⟩ := g
  obtain ⟨p1, p2, q1, q2, q3, q4, q5, q6, q7, q8, q9, q10, q11, q12, eA, eB, hp, hb⟩ := S.ex
  rw [eA, eB] at e
  obtain ⟨oc, od, osl, doc, pm, ct, ccl, cl, an, cdd, cld, cda, cc, vs, ccs, csl, tf, k1, k2, k3, k4, k5⟩ := codB_ok h2 e
  exact ⟨clsB_ok h1, h3, h4, h5, h6, h7, h8, h9, g1, g2, fun _ => g3, top, ⟨oc, od, osl, qual, p1, p2, q1, q2, q3, q4, q5, q6, q7, q8, q9, q10, q11, q12, defScope st, .none, .none, doc, pm, ct, ccl, cl, an, cdd, cld, cda, cc, vs, ccs, csl, tf, k1, k2, k3, k4, k5, fun a b => hb _ _ _ _ _ _ _ a b, S.sc, hp, S.kd.1, S.kd.2.1, S.kd.2.2⟩, S.nm⟩
/-! ### the Hook -/
abbrev AlX : Type := He.AlD × Bool × List FnX
def frX (n : Nat) (g : Addr → Option Obj) : PySem.W.Frag := He.frG g (cStatics :: He.asD g n)
def obsX (prog : Program) (fa : List He.Fa) (fn : List He.DefD) (K : PySem.W.Frag) : AlX := (He.obsD fa fn K, errB prog K, initN.map fun d => fnX K (He.ma K (He.ga K d.c) "__init__"))
def SaysX (prog : Program) (fa : List He.Fa) (fn : List He.DefD) (fx : List FnX) (K : PySem.W.Frag) : Prop := obsX prog fa fn K = (He.valD fn, true, fx)
def hookX (prog : Program) (n : Nat) (fa : List He.Fa) (fn : List He.DefD) (fx : List FnX) : PySem.W.Hook where
  α := AlX
  obs := fun s => obsX prog fa fn (frX n s.heap.get?)
  val := fun _ => (He.valD fn, true, fx)
  says := fun _ h => ∃ K : PySem.W.Frag, K.In h ∧ SaysX prog fa fn fx K
  of := fun _ _ e => ⟨_, He.frG_in, e⟩
  keeps := fun _ _ _ ⟨K, hK, c⟩ k => ⟨K, PySem.W.Frag.In.keeps hK k, c⟩
theorem obsX_eq {prog : Program} {n : Nat} {fa : List He.Fa} {fn : List He.DefD} {fx : List FnX} {g : Addr → Option Obj} {s : Shared} (h : ∀ a, g a = s.heap.get? a) : obsX prog fa fn (frX n g) = (hookX prog n fa fn fx).obs s := by
  have e : g = s.heap.get? := funext h
  rw [e] <;> rfl
section
variable {prog : Program} {fa : List He.Fa} {fn : List He.DefD} {fx : List FnX} {K : PySem.W.Frag} {h : Heap} {mg : Str → Option Value}
theorem SaysX.d (c : SaysX prog fa fn fx K) : He.SaysD fa fn K := congrArg (fun z : AlX => z.1) c
theorem SaysX.e (c : SaysX prog fa fn fx K) : errB prog K = true := congrArg (fun z : AlX => z.2.1) c
theorem SaysX.x (c : SaysX prog fa fn fx K) : (initN.map fun d => fnX K (He.ma K (He.ga K d.c) "__init__")) = fx := congrArg (fun z : AlX => z.2.2) c
/-- the values of the eleven -/
def inVal (qs : List Str) (sts : List Stmt) : List FnX := (qs.zip sts).map fun p => some (("__init__" : Str), p.1, defArgs p.2, .stmts (defBody p.2), defScope p.2, mainGlobals, builtinsNs)
theorem hx_of (c : SaysX prog fa fn fx K) (X : K.In h) (G : h.Ns mainGlobals mg) (top : (prog.main.scope.names.lookup ("super" : Str)).isSome = false) {qs : List Str} {sts : List Stmt} (hf : fx = inVal qs sts) (S : ∀ (i : Nat) (d : InD), initN[i]? = some d → ∃ q st, (qs.zip sts)[i]? = some (q, st) ∧ ShE st d.m d.f d.l) : Hx prog K mg := by
  have he := c.e
  have hxx := c.x
  unfold errB at he
  simp only [Bool.and_eq_true, decide_eq_true_eq, List.all_eq_true] at he
  obtain ⟨⟨⟨⟨g, hi⟩, hc⟩, hz⟩, hl⟩ := he
  have cl : ∀ c ∈ clsN, _ := fun c hcc => by
    have q := hc c hcc
    unfold clsB2 at q
    simp only [Bool.and_eq_true, decide_eq_true_eq, List.all_eq_true] at q
    exact q
  refine ⟨fun c m => ?_, fun c m c' m' => ?_, fun c m => ?_, fun c m => ?_, PySem.W.mg_of X G hl, fun c m => ?_, fun c m => ?_, fun c m => ?_, fun d m => ?_, fun c m => hz c m, fun c m => ?_, fun d m => ?_⟩
  · obtain ⟨⟨⟨⟨⟨⟨⟨⟨⟨⟨⟨⟨⟨a1, a2⟩, a3⟩, a4⟩, a5⟩, a6⟩, a7⟩, a8⟩, a9⟩, a10⟩, a11⟩, a12⟩, a13⟩, a14⟩ := cl c m
    exact ⟨a1, a2, a3, a4, a5, a6, a7, a8⟩
  · obtain ⟨⟨⟨⟨⟨⟨⟨⟨⟨⟨⟨⟨⟨a1, a2⟩, a3⟩, a4⟩, a5⟩, a6⟩, a7⟩, a8⟩, a9⟩, a10⟩, a11⟩, a12⟩, a13⟩, a14⟩ := cl c m
    exact a9 c' m'
  · obtain ⟨⟨⟨⟨⟨⟨⟨⟨⟨⟨⟨⟨⟨a1, a2⟩, a3⟩, a4⟩, a5⟩, a6⟩, a7⟩, a8⟩, a9⟩, a10⟩, a11⟩, a12⟩, a13⟩, a14⟩ := cl c m
    exact a10
  · obtain ⟨⟨⟨⟨⟨⟨⟨⟨⟨⟨⟨⟨⟨a1, a2⟩, a3⟩, a4⟩, a5⟩, a6⟩, a7⟩, a8⟩, a9⟩, a10⟩, a11⟩, a12⟩, a13⟩, a14⟩ := cl c m
    exact a11
  · obtain ⟨⟨⟨⟨⟨⟨⟨⟨⟨⟨⟨⟨⟨a1, a2⟩, a3⟩, a4⟩, a5⟩, a6⟩, a7⟩, a8⟩, a9⟩, a10⟩, a11⟩, a12⟩, a13⟩, a14⟩ := cl c m
    exact PySem.W.mg_of X G a12
  · obtain ⟨⟨⟨⟨⟨⟨⟨⟨⟨⟨⟨⟨⟨a1, a2⟩, a3⟩, a4⟩, a5⟩, a6⟩, a7⟩, a8⟩, a9⟩, a10⟩, a11⟩, a12⟩, a13⟩, a14⟩ := cl c m
    exact a13
  · obtain ⟨⟨⟨⟨⟨⟨⟨⟨⟨⟨⟨⟨⟨a1, a2⟩, a3⟩, a4⟩, a5⟩, a6⟩, a7⟩, a8⟩, a9⟩, a10⟩, a11⟩, a12⟩, a13⟩, a14⟩ := cl c m
    exact a14
  · obtain ⟨i, hi'⟩ := List.getElem?_of_mem m
    obtain ⟨q, st, hq, Sh⟩ := S i d hi'
    have e1 : (initN.map fun d => fnX K (He.ma K (He.ga K d.c) "__init__"))[i]? = (inVal qs sts)[i]? := by rw [hxx, hf]
    unfold inVal at e1
    rw [List.getElem?_map, List.getElem?_map, hi', hq] at e1
    exact itxt_of g (hi d m) Sh top (Option.some.inj e1)
  · obtain ⟨⟨⟨⟨⟨⟨⟨⟨⟨⟨⟨⟨⟨a1, a2⟩, a3⟩, a4⟩, a5⟩, a6⟩, a7⟩, a8⟩, a9⟩, a10⟩, a11⟩, a12⟩, a13⟩, a14⟩ := cl c m
    exact ⟨a1, a2, a3, a4⟩
  · have q := hi d m
    unfold iniB at q
    simp only [Bool.and_eq_true, decide_eq_true_eq] at q
    exact q.1.1.1.1.1.2
end
end TL
namespace TL
open PySem PySem.Spec PyProof.Rows L2
/-- a promise kept without errors -/
theorem noX {P : Program} {w : World} {K : PySem.W.Frag} {mg : Str → Option Value} {base : Heap} {k : Nat} {f : Addr} {fd : FuncData} {ps : List Str} {sp : Sp} (F : FnOk P w K mg base (L2.CX P w) k f fd ps sp) : FnOk P w K mg base L2.CX0 k f fd ps (fun vs H Q _ => sp vs H Q (fun _ _ _ => False)) :=
  ⟨fun vs H Q E h => F.len vs H Q _ h, fun A outer s H args us vs Q E hr he hb hv h => codeAny_mono (F.run A outer s H args us vs Q _ hr he hb hv h) fun r s' q => by
    cases r with
    | error e =>
      obtain ⟨_, _, _, _, _, _, _, _, _, _, _, _, z⟩ := q
      exact z.elim
    | ok fl =>
      cases fl with
      | ret u => exact q
      | next => exact q
      | brk => exact q
      | cont => exact q⟩
def mth : Stmt → Stmt
  | .ClassDef (body := b) .. => b.getD 0 (.Pass ⟨0, 0, 0, 0⟩)
  | s => s
end TL
namespace K57
open TL PySem PySem.Spec PyProof.Rows L2
abbrev R : PySem.W.OpenRow := PySem.W.OpenLaw.row PySem.Challenge.rw_rungbounds_k57_errors_and_their_fields
def dD (x : Str) (i : Nat) : He.DefD := ⟨(x, none), x, x, defArgs (top i), defBody (top i), defScope (top i), [], []⟩
def fn : List He.DefD := [dD "_law_box" 17, dD "_law_take" 18, dD "_law_number" 19, dD "_law_classes" 20, dD "_law_based" 21, dD "law" 22]
def fa : List He.Fa := [.free "len", .free "int", .free "list", .free "range", .free "isinstance", .free "enumerate", .free "zip", .free "bool", .free "str", .free "ValueError", .glo "_law_box", .glo "_law_take", .glo "_law_number", .glo "_law_classes", .glo "_law_based", .glo "law"]
def sts : List Stmt := [mth (top 2), mth (top 3), mth (top 4), mth (top 5), mth (top 6), mth (top 7), mth (top 8), mth (top 9), mth (top 13), mth (top 14), mth (top 15)]
def qs : List Str := ["BadNumber.__init__", "BadName.__init__", "TakenName.__init__", "UnknownName.__init__", "NoPlace.__init__", "TooMany.__init__", "NoSite.__init__", "NoShape.__init__", "BadState.__init__", "BadLine.__init__", "DeedFailed.__init__"]
abbrev prog : Program := PySem.Challenge.pw_rungbounds_k57_errors_and_their_fields
abbrev hk : PySem.W.Hook := hookX prog 6 fa fn (inVal qs sts)
def ob (s : PySem.W.SharedT) : AlX := obsX prog fa fn (frX 6 (HandSHeadRun.getT s))
theorem ob_eq (s : PySem.W.SharedT) : ob s = hk.obs s.abs := obsX_eq (HandSHeadRun.getT_eq s)
def names : List PySem.Str := ["__name__", "LadderError", "BadNumber", "BadName", "TakenName", "UnknownName", "NoPlace", "TooMany", "NoSite", "NoShape", "OtherSite", "NothingToUndo", "NothingToRedo", "BadState", "BadLine", "DeedFailed", "_law_box", "_law_take", "_law_number", "_law_classes", "_law_based"]
theorem run (w : World) : HandSHeadRun.RunEq R (PySem.W.view R.prog [22]) hk ob 6000 names w := by
  intro os
  kernel_rfl
theorem sh0 : ShE (mth (top 2)) "number out of range" "value" false := ⟨⟨_, _, _, _, _, _, _, _, _, _, _, ⟨0, 0, 0, 0⟩, ⟨0, 0, 0, 0⟩, _, rfl, rfl, rfl, fun _ _ _ _ _ _ _ _ _ => rfl⟩, ⟨rfl, rfl, rfl, rfl, (fun h => nomatch h), by decide +kernel⟩, ⟨rfl, rfl, rfl⟩, ⟨by decide +kernel, by decide +kernel, by decide +kernel⟩⟩
theorem sh1 : ShE (mth (top 3)) "name not allowed" "name" false := ⟨⟨_, _, _, _, _, _, _, _, _, _, _, ⟨0, 0, 0, 0⟩, ⟨0, 0, 0, 0⟩, _, rfl, rfl, rfl, fun _ _ _ _ _ _ _ _ _ => rfl⟩, ⟨rfl, rfl, rfl, rfl, (fun h => nomatch h), by decide +kernel⟩, ⟨rfl, rfl, rfl⟩, ⟨by decide +kernel, by decide +kernel, by decide +kernel⟩⟩
theorem sh2 : ShE (mth (top 4)) "name is taken" "name" false := ⟨⟨_, _, _, _, _, _, _, _, _, _, _, ⟨0, 0, 0, 0⟩, ⟨0, 0, 0, 0⟩, _, rfl, rfl, rfl, fun _ _ _ _ _ _ _ _ _ => rfl⟩, ⟨rfl, rfl, rfl, rfl, (fun h => nomatch h), by decide +kernel⟩, ⟨rfl, rfl, rfl⟩, ⟨by decide +kernel, by decide +kernel, by decide +kernel⟩⟩
theorem sh3 : ShE (mth (top 5)) "unknown name" "name" false := ⟨⟨_, _, _, _, _, _, _, _, _, _, _, ⟨0, 0, 0, 0⟩, ⟨0, 0, 0, 0⟩, _, rfl, rfl, rfl, fun _ _ _ _ _ _ _ _ _ => rfl⟩, ⟨rfl, rfl, rfl, rfl, (fun h => nomatch h), by decide +kernel⟩, ⟨rfl, rfl, rfl⟩, ⟨by decide +kernel, by decide +kernel, by decide +kernel⟩⟩
theorem sh4 : ShE (mth (top 6)) "no such place" "place" false := ⟨⟨_, _, _, _, _, _, _, _, _, _, _, ⟨0, 0, 0, 0⟩, ⟨0, 0, 0, 0⟩, _, rfl, rfl, rfl, fun _ _ _ _ _ _ _ _ _ => rfl⟩, ⟨rfl, rfl, rfl, rfl, (fun h => nomatch h), by decide +kernel⟩, ⟨rfl, rfl, rfl⟩, ⟨by decide +kernel, by decide +kernel, by decide +kernel⟩⟩
theorem sh5 : ShE (mth (top 7)) "too many objects" "count" false := ⟨⟨_, _, _, _, _, _, _, _, _, _, _, ⟨0, 0, 0, 0⟩, ⟨0, 0, 0, 0⟩, _, rfl, rfl, rfl, fun _ _ _ _ _ _ _ _ _ => rfl⟩, ⟨rfl, rfl, rfl, rfl, (fun h => nomatch h), by decide +kernel⟩, ⟨rfl, rfl, rfl⟩, ⟨by decide +kernel, by decide +kernel, by decide +kernel⟩⟩
theorem sh6 : ShE (mth (top 8)) "the told limits contradict one another" "ring" true := ⟨⟨_, _, _, _, _, _, _, _, _, _, _, _, _, _, rfl, rfl, rfl, fun _ _ _ _ _ _ _ _ _ => rfl⟩, ⟨rfl, rfl, rfl, rfl, fun _ => rfl, by decide +kernel⟩, ⟨rfl, rfl, rfl⟩, ⟨by decide +kernel, by decide +kernel, by decide +kernel⟩⟩
theorem sh7 : ShE (mth (top 9)) "the trials contradict one another" "blames" true := ⟨⟨_, _, _, _, _, _, _, _, _, _, _, _, _, _, rfl, rfl, rfl, fun _ _ _ _ _ _ _ _ _ => rfl⟩, ⟨rfl, rfl, rfl, rfl, fun _ => rfl, by decide +kernel⟩, ⟨rfl, rfl, rfl⟩, ⟨by decide +kernel, by decide +kernel, by decide +kernel⟩⟩
theorem sh8 : ShE (mth (top 13)) "not a state of the menu" "state" false := ⟨⟨_, _, _, _, _, _, _, _, _, _, _, ⟨0, 0, 0, 0⟩, ⟨0, 0, 0, 0⟩, _, rfl, rfl, rfl, fun _ _ _ _ _ _ _ _ _ => rfl⟩, ⟨rfl, rfl, rfl, rfl, (fun h => nomatch h), by decide +kernel⟩, ⟨rfl, rfl, rfl⟩, ⟨by decide +kernel, by decide +kernel, by decide +kernel⟩⟩
theorem sh9 : ShE (mth (top 14)) "line not understood" "line" false := ⟨⟨_, _, _, _, _, _, _, _, _, _, _, ⟨0, 0, 0, 0⟩, ⟨0, 0, 0, 0⟩, _, rfl, rfl, rfl, fun _ _ _ _ _ _ _ _ _ => rfl⟩, ⟨rfl, rfl, rfl, rfl, (fun h => nomatch h), by decide +kernel⟩, ⟨rfl, rfl, rfl⟩, ⟨by decide +kernel, by decide +kernel, by decide +kernel⟩⟩
theorem sh10 : ShE (mth (top 15)) "a deed of the run failed" "row" false := ⟨⟨_, _, _, _, _, _, _, _, _, _, _, ⟨0, 0, 0, 0⟩, ⟨0, 0, 0, 0⟩, _, rfl, rfl, rfl, fun _ _ _ _ _ _ _ _ _ => rfl⟩, ⟨rfl, rfl, rfl, rfl, (fun h => nomatch h), by decide +kernel⟩, ⟨rfl, rfl, rfl⟩, ⟨by decide +kernel, by decide +kernel, by decide +kernel⟩⟩
theorem shapes : ∀ (i : Nat) (d : InD), initN[i]? = some d → ∃ q st, (qs.zip sts)[i]? = some (q, st) ∧ ShE st d.m d.f d.l
  | 0, _, h => by cases h; exact ⟨_, _, rfl, sh0⟩
  | 1, _, h => by cases h; exact ⟨_, _, rfl, sh1⟩
  | 2, _, h => by cases h; exact ⟨_, _, rfl, sh2⟩
  | 3, _, h => by cases h; exact ⟨_, _, rfl, sh3⟩
  | 4, _, h => by cases h; exact ⟨_, _, rfl, sh4⟩
  | 5, _, h => by cases h; exact ⟨_, _, rfl, sh5⟩
  | 6, _, h => by cases h; exact ⟨_, _, rfl, sh6⟩
  | 7, _, h => by cases h; exact ⟨_, _, rfl, sh7⟩
  | 8, _, h => by cases h; exact ⟨_, _, rfl, sh8⟩
  | 9, _, h => by cases h; exact ⟨_, _, rfl, sh9⟩
  | 10, _, h => by cases h; exact ⟨_, _, rfl, sh10⟩
  | _ + 11, _, h => by cases h
section
variable {w : World} {K : PySem.W.Frag} {h : Heap} {mg : Str → Option Value}
theorem def0 (c : He.SaysD fa fn K) (X : K.In h) (G : h.Ns mainGlobals mg) (i j : Nat) {x : Str} {n : Nat} (hi : fn[i]? = some (dD x n)) (hj : fa[j]? = some (.glo x)) : Def0 K mg x (top n) := by
  obtain ⟨fd, F⟩ := c.def_ i hi
  exact ⟨fd, F, He.glo_ok X G (c.fact j hj)⟩
theorem nn_of (c : He.SaysD fa fn K) (X : K.In h) (G : h.Ns mainGlobals mg) : Nn mg :=
  ⟨He.free_ok X G (c.fact 0 rfl), He.free_ok X G (c.fact 1 rfl), He.free_ok X G (c.fact 2 rfl), He.free_ok X G (c.fact 3 rfl), He.free_ok X G (c.fact 4 rfl), He.free_ok X G (c.fact 5 rfl), He.free_ok X G (c.fact 6 rfl), He.free_ok X G (c.fact 7 rfl), He.free_ok X G (c.fact 8 rfl), He.free_ok X G (c.fact 9 rfl)⟩
theorem facts {f : Addr} (X : K.In h) (G : h.Ns mainGlobals mg) (hfa : mg ("law" : Str) = some (.ref f)) (c : SaysX prog fa fn (inVal qs sts) K) :
    ∃ fd : FuncData, (∀ (s : Shared) (v : Value), BindsTo s fd ⟨[v], []⟩ [("_law_script", v)]) ∧ ∀ base : Heap, K.In base → base.Ns mainGlobals mg → FnOk prog w K mg base L2.CX0 3 f fd ["_law_script"] (fun vs H Q _ => SpM K (pd_law K) m_law (PF tBool) vs H Q (fun _ _ _ => False)) := by
  have hx : Hx prog K mg := hx_of c X G (by decide +kernel) rfl shapes
  have nn := nn_of c.d X G
  obtain ⟨fd, F, gm⟩ := def0 c.d X G 5 15 (x := "law") (n := 22) rfl rfl
  have e := hfa.symm.trans gm
  cases e
  have d0 := def0 c.d X G 0 10 (x := "_law_box") (n := 17) rfl rfl
  have d1 := def0 c.d X G 1 11 (x := "_law_take") (n := 18) rfl rfl
  have d2 := def0 c.d X G 2 12 (x := "_law_number") (n := 19) rfl rfl
  have d3 := def0 c.d X G 3 13 (x := "_law_classes") (n := 20) rfl rfl
  have d4 := def0 c.d X G 4 14 (x := "_law_based") (n := 21) rfl rfl
  have b := FunD.bindsA (ps := ["_law_script"]) F fun _ _ _ _ _ _ us hl => match us, hl with | [_], _ => rfl
  refine ⟨fd, fun s v => b s [v] rfl, fun base _ _ => noX ?_⟩
  exact o_law nn hx (r_law_box nn d0) (r_law_take nn d1) (r_law_based nn hx (r_law_classes nn hx d3) d4) (r_law_number nn d2) F
end
end K57
open PySem PySem.W PySem.Calls PyProof.Rows
theorem PySem.Challenge.cw_rungbounds_k57_errors_and_their_fields_holds : PySem.Challenge.rw_rungbounds_k57_errors_and_their_fields.Holds := by
  w_on; o_law
  refine HandSHeadRun.head_any (r := OpenLaw.row PySem.Challenge.rw_rungbounds_k57_errors_and_their_fields) (q := view (OpenLaw.row PySem.Challenge.rw_rungbounds_k57_errors_and_their_fields).prog [22]) (H := K57.hk) (ob := K57.ob) (M := 6000) (loose := K57.names) (d := HandSHeadRun.topDef (OpenLaw.row PySem.Challenge.rw_rungbounds_k57_errors_and_their_fields).prog 22) (kwd := []) K57.ob_eq
    (by kernel_rfl) (fun s => by kernel_rfl) K57.run (by kernel_rfl) (by kernel_rfl) (by kernel_rfl) (by rfl) (by first | assumption | decide +kernel) (by decide +kernel) ⟨rfl, rfl, rfl, rfl, rfl, by decide +kernel⟩ ?hw ?hc
  case hw => w_witness2
  case hc =>
    refine L2.walk_ofE (l := PySem.Challenge.rw_rungbounds_k57_errors_and_their_fields) (n := 63) (k := 3) (x := "_law_script") (CX := L2.CX0) rfl (by decide) (by kernel_rfl) ⟨rfl, by decide, by decide⟩ ?F (fun _ _ _ _ z => z)
    intro w mg fa h Y G hmg0
    obtain ⟨K, KX, c⟩ := Y
    have hmg : mg ("law" : PySem.Str) = some (.ref fa) := by
      have e : (HandSHeadRun.topDef (OpenLaw.row PySem.Challenge.rw_rungbounds_k57_errors_and_their_fields).prog 22).name = ("law" : PySem.Str) := by kernel_rfl
      rw [← e]
      exact hmg0
    obtain ⟨fd, hb, hF⟩ := K57.facts (w := w) KX G hmg c
    refine ⟨K, fd, _, KX, hb, fun H a ns hl ho hS => ?_, hF⟩
    have hz : ns.length ≤ sizeLine := by show ns.length ≤ 16777216; omega
    refine ⟨(ns, ()), H, TL.nil, (), [], TL.Sub.rf H, fun _ z => z.elim, fun _ z => z, ⟨_, _, rfl, ⟨a, rfl, hS, hz⟩, rfl⟩, ?_⟩
    show TL.PostR ((K57.m_law (ns, ())).bind fun x => .ok (x, ())) _ _
    rw [K57.law_ok]
    exact fun v F' H' B' _ _ _ _ r => r
