import PyProof.Rows.All
import Wide.All
import OpenK.AllK
import Wide.FinOn
import HandS.ForMost
import KE.KOpsOwn
import KE.KCallOwn
import PyProof.StrReplace2
import HandS.Wide
import HandS.Defaults
import HandS.MakeKwOnly
import HandS.ClsMeth
import HandS.DictComp
import HandS.Iter
import HandS.Style
import HandS.Conv
import HandS.IsInst
import HandS.Text
import HandS.HeadNt
import HandS.Star
import HandS.Head2
import HandS.HeadEnd
import HandS.HeadHook1
import HandS.HeadHook2
import HandS.SetTxt0
import HandS.SetFor
import HandS.Strs
import PyProof.Rows.MatchSeqLen
import HandS.SortInts
import HandS.SortRule
import KE.KDictCopyH
import HandS.SetBool
import PyProof.StrOps2
import PySem.Challenge.RW_lotcosts_k79_whole_what_shown_costs_tell
set_option Elab.async false
set_option linter.all false
set_option maxRecDepth 100000
section LcBase
set_option maxHeartbeats 4000000
/-! A layer in the style of weakest preconditions: what is known for good (B), what may change (M), what else lies around. -/
namespace LC
open PySem L2

/-! ### heaps: what is known for good, what is owned -/
def Ex (H H' : Hp) : Prop := ∀ a o, H a = some o → H' a = some o
theorem Ex.id' {H : Hp} : Ex H H := fun _ _ h => h
theorem Ex.tr {H H1 H2 : Hp} (a : Ex H H1) (b : Ex H1 H2) : Ex H H2 := fun x o h => b x o (a x o h)
theorem Ex.non {H H' : Hp} (e : Ex H H') {p : Addr} (h : H' p = none) : H p = none := by
  cases q : H p with
  | none => exact rfl
  | some o => rw [e p o q] at h; cases h
theorem Ex.up {H : Hp} {p : Addr} {o : HO} (h : H p = none) : Ex H (upd H p o) := fun a u e => by
  rw [upd_ne (ne_of_none e h)]; exact e
theorem Ex.up' {H H' : Hp} {p : Addr} {o : HO} (x : Ex H H') (h : H p = none) : Ex H (upd H' p o) := fun a u e => by
  rw [upd_ne (ne_of_none e h)]; exact x a u e

/-- forget an address -/
def del (M : Hp) (p : Addr) : Hp := fun q => if q = p then none else M q
theorem del_same {M : Hp} {p : Addr} : del M p p = none := if_pos rfl
theorem del_ne {M : Hp} {p q : Addr} (h : q ≠ p) : del M p q = M q := if_neg h
theorem del_upd {M : Hp} {p : Addr} {o : HO} (h : M p = none) : del (upd M p o) p = M := by
  funext q
  by_cases e : q = p
  · rw [e, del_same, h]
  · rw [del_ne e, upd_ne e]
theorem upd_twice {M : Hp} {p : Addr} {o u : HO} : upd (upd M p o) p u = upd M p u := upd_upd
theorem upd_self {M : Hp} {p : Addr} {o : HO} (h : M p = some o) : upd M p o = M := by
  funext q
  by_cases e : q = p
  · rw [e, upd_same, h]
  · rw [upd_ne e]
theorem upd_comm {M : Hp} {p q : Addr} {o u : HO} (h : p ≠ q) : upd (upd M p o) q u = upd (upd M q u) p o := by
  funext r
  by_cases e : r = p
  · subst e; rw [upd_ne h, upd_same, upd_same]
  · by_cases e2 : r = q
    · subst e2; rw [upd_same, upd_ne e, upd_same]
    · rw [upd_ne e2, upd_ne e, upd_ne e, upd_ne e2]
/-- both together -/
def jn (B M : Hp) : Hp := fun p => match B p with
  | some o => some o
  | none => M p
theorem jn_b {B M : Hp} {p : Addr} {o : HO} (h : B p = some o) : jn B M p = some o := by unfold jn; rw [h]
theorem jn_m {B M : Hp} {p : Addr} {o : HO} (h : M p = some o) (n : B p = none) : jn B M p = some o := by unfold jn; rw [n]; exact h
theorem jn_none {B M : Hp} {p : Addr} (h : M p = none) (n : B p = none) : jn B M p = none := by unfold jn; rw [n]; exact h
theorem jn_inv {B M : Hp} {p : Addr} {o : HO} (h : jn B M p = some o) : B p = some o ∨ (B p = none ∧ M p = some o) := by
  unfold jn at h
  cases q : B p with
  | none => rw [q] at h; exact .inr ⟨rfl, h⟩
  | some u => rw [q] at h; exact .inl h
theorem ex_jn {B M : Hp} : Ex B (jn B M) := fun _ _ h => jn_b h
structure Own (B M H : Hp) : Prop where
  b : Ex B H
  m : ∀ p o, M p = some o → H p = some o ∧ B p = none
theorem Own.jn {B M H : Hp} (w : Own B M H) : Ex (jn B M) H := fun p o h => by
  rcases jn_inv h with h | ⟨_, h⟩
  · exact w.b p o h
  · exact (w.m p o h).1
theorem Own.jm {B M H : Hp} (w : Own B M H) {p : Addr} {o : HO} (h : M p = some o) : LC.jn B M p = some o := jn_m h (w.m p o h).2
theorem Own.fresh {B M H : Hp} (w : Own B M H) {p : Addr} (h : H p = none) : B p = none ∧ M p = none := ⟨w.b.non h, by
  cases q : M p with
  | none => rfl
  | some o => rw [(w.m p o q).1] at h; cases h⟩
/-- a step: what is known for good stays known -/
structure Gs (B M H B' M' H' : Hp) : Prop where
  b : Ex B B'
  own : Own B' M' H'
section
variable {B M H B' M' H' B1 M1 H1 B2 M2 H2 : Hp} {p : Addr} {o u : HO}
theorem Gs.id' (w : Own B M H) : Gs B M H B M H := ⟨Ex.id', w⟩
theorem Gs.tr (g : Gs B M H B1 M1 H1) (g2 : Gs B1 M1 H1 B2 M2 H2) : Gs B M H B2 M2 H2 := ⟨g.b.tr g2.b, g2.own⟩
/-- something new, known for good -/
theorem Gs.newB (w : Own B M H) (hp : H p = none) : Gs B M H (upd B p o) M (upd H p o) := by
  obtain ⟨bp, mp⟩ := w.fresh hp
  refine ⟨Ex.up bp, fun a u e => ?_, fun a u e => ?_⟩
  · by_cases q : a = p
    · subst q; rw [upd_same] at e ⊢; exact e
    · rw [upd_ne q] at e ⊢; exact w.b a u e
  · have q : a ≠ p := fun q => by rw [q, mp] at e; cases e
    rw [upd_ne q, upd_ne q]; exact w.m a u e
/-- something that lies around is known for good from now on -/
theorem Gs.seen (w : Own B M H) (hp : H p = some o) (bp : B p = none) (mp : M p = none) : Gs B M H (upd B p o) M H := by
  refine ⟨Ex.up bp, fun a u e => ?_, fun a u e => ?_⟩
  · by_cases q : a = p
    · subst q; rw [upd_same] at e; rw [hp]; exact e
    · rw [upd_ne q] at e; exact w.b a u e
  · have q : a ≠ p := fun q => by rw [q, mp] at e; cases e
    rw [upd_ne q]; exact w.m a u e
/-- something new, owned -/
theorem Gs.newM (w : Own B M H) (hp : H p = none) : Gs B M H B (upd M p o) (upd H p o) := by
  obtain ⟨bp, mp⟩ := w.fresh hp
  refine ⟨Ex.id', w.b.up' bp, fun a u e => ?_⟩
  by_cases q : a = p
  · subst q; rw [upd_same] at e ⊢; exact ⟨e, bp⟩
  · rw [upd_ne q] at e ⊢; exact w.m a u e
/-- an owned thing changes -/
theorem Gs.setM (w : Own B M H) (hp : M p = some u) : Gs B M H B (upd M p o) (upd H p o) := by
  have bp := (w.m p u hp).2
  refine ⟨Ex.id', w.b.up' bp, fun a x e => ?_⟩
  by_cases q : a = p
  · subst q; rw [upd_same] at e ⊢; exact ⟨e, bp⟩
  · rw [upd_ne q] at e ⊢; exact w.m a x e
/-- an owned thing is known for good from now on -/
theorem Gs.frz (w : Own B M H) (hp : M p = some o) : Gs B M H (upd B p o) (del M p) H := by
  obtain ⟨hh, bp⟩ := w.m p o hp
  refine ⟨Ex.up bp, fun a u e => ?_, fun a u e => ?_⟩
  · by_cases q : a = p
    · subst q; rw [upd_same] at e; rw [hh]; exact e
    · rw [upd_ne q] at e; exact w.b a u e
  · have q : a ≠ p := fun q => by rw [q, del_same] at e; cases e
    rw [del_ne q] at e
    rw [upd_ne q]; exact w.m a u e
/-- a known thing of the written kind is met again -/
theorem Own.meet (w : Own B M H) (hp : H p = some o) : ∃ B', Gs B M H B' M H ∧ LC.jn B' M p = some o := by
  cases q : B p with
  | some u =>
    have := w.b p u q
    rw [hp] at this
    exact ⟨B, Gs.id' w, jn_b (q.trans this.symm)⟩
  | none =>
    cases r : M p with
    | some u =>
      have := (w.m p u r).1
      rw [hp] at this
      exact ⟨B, Gs.id' w, jn_m (r.trans this.symm) q⟩
    | none => exact ⟨_, Gs.seen w hp q r, jn_b upd_same⟩
end

/-! ### transformers with B and M -/
abbrev Tm (α : Type) := Hp → (α → Hp → Prop) → Prop
def Emt {α : Type} (t : Tm α) (B M : Hp) (P : α → Hp → Hp → Prop) : Prop :=
  ∀ H, Own B M H → ∀ Q : α → Hp → Prop, (∀ a B' M' H', Gs B M H B' M' H' → P a B' M' → Q a H') → t H Q
section
variable {α β : Type} {t : Tm α} {B M : Hp} {P P' : α → Hp → Hp → Prop} {p : Addr} {o u : HO}
theorem Emt.bind {f : α → Tm β} {P : β → Hp → Hp → Prop} (h : Emt t B M fun a B1 M1 => Emt (f a) B1 M1 P) : Emt (fun H Q => t H fun a H1 => f a H1 Q) B M P := fun H w Q k =>
  h H w _ fun a B1 M1 H1 g q => q H1 g.own Q fun b B2 M2 H2 g2 r => k b B2 M2 H2 (g.tr g2) r
theorem Emt.ret {a : α} (h : P a B M) : Emt (fun H Q => Q a H) B M P := fun H w Q k => k a B M H (Gs.id' w) h
theorem Emt.ex (h : Emt t B M fun a B1 M1 => Ex B B1 → P a B1 M1) : Emt t B M P := fun H w Q k => h H w Q fun a B1 M1 H1 g q => k a B1 M1 H1 g (q g.b)
theorem Emt.imp (h : Emt t B M P) (f : ∀ a B' M', Ex B B' → P a B' M' → P' a B' M') : Emt t B M P' := fun H w Q k => h H w Q fun a B1 M1 H1 g q => k a B1 M1 H1 g (f a B1 M1 g.b q)
/-- ahead of it, something owned is known for good -/
theorem Emt.frz (hp : M p = some o) (h : Emt t (upd B p o) (del M p) P) : Emt t B M P := fun H w Q k =>
  h H (Gs.frz w hp).own Q fun a B1 M1 H1 g q => k a B1 M1 H1 ((Gs.frz w hp).tr g) q
/-- behind it -/
theorem Emt.fz (h : Emt t B M fun a B1 M1 => ∃ p o, M1 p = some o ∧ P a (upd B1 p o) (del M1 p)) : Emt t B M P := fun H w Q k =>
  h H w Q fun a B1 M1 H1 g ⟨p, o, hp, q⟩ => k a _ _ H1 (g.tr (Gs.frz g.own hp)) q
/-- a new thing, for good or owned -/
theorem Emt.newB {f : Addr → α} (h : ∀ p, B p = none → M p = none → P (f p) (upd B p o) M) : Emt (fun H Q => ∀ p, H p = none → Q (f p) (upd H p o)) B M P := fun H w Q k p hp =>
  k _ _ _ _ (Gs.newB w hp) (h p (w.fresh hp).1 (w.fresh hp).2)
theorem Emt.newM {f : Addr → α} (h : ∀ p, B p = none → M p = none → P (f p) B (upd M p o)) : Emt (fun H Q => ∀ p, H p = none → Q (f p) (upd H p o)) B M P := fun H w Q k p hp =>
  k _ _ _ _ (Gs.newM w hp) (h p (w.fresh hp).1 (w.fresh hp).2)
end

/-! ### readings -/
/-- readings hold on in a grown heap -/
theorem rd_up {H H' : Hp} {a : Addr} {u : HO} (e : Ex H H') (h : Rd H a u) : Rd H' a u := by
  rcases h with h | ⟨o, h⟩
  · exact .inl (e a _ h)
  · exact .inr ⟨o, e a _ h⟩
theorem sql_up {K : PySem.W.Frag} {H H' : Hp} {a : Addr} {xs : List V} (e : Ex H H') (h : SqL K H a xs) : SqL K H' a xs := h.imp (rd_up e) id
theorem sqt_up {K : PySem.W.Frag} {H H' : Hp} {a : Addr} {xs : List V} (e : Ex H H') (h : SqT K H a xs) : SqT K H' a xs := h.imp (rd_up e) id
theorem dget_up {H H' : Hp} {a : Addr} {y : V} {r : Option V} (e : Ex H H') (h : DGet H a y r) : DGet H' a y r := by
  rcases h with ⟨kvs, k, h1, h2, h3⟩ | ⟨kvs, k, b, h1, h2, h3, h4⟩
  · exact .inl ⟨kvs, k, rd_up e h1, h2, h3⟩
  · exact .inr ⟨kvs, k, b, rd_up e h1, h2, e _ _ h3, h4⟩
theorem tru_up {K : PySem.W.Frag} {x : V} {H H' : Hp} {k : Bool} (e : Ex H H') (h : TruV K x H k) : TruV K x H' k := by
  cases x with
  | ref p =>
    rcases h with ⟨xs, h1, h2⟩ | ⟨xs, h1, h2⟩ | ⟨kvs, h1, h2⟩
    · exact .inl ⟨xs, sql_up e h1, h2⟩
    · exact .inr (.inl ⟨xs, sqt_up e h1, h2⟩)
    · exact .inr (.inr ⟨kvs, e _ _ h1, h2⟩)
  | _ => exact h

/-! ### weakest preconditions of syntax -/
def wE (X : Cx) (e : Expr) : TE := fun σ H Q => ∀ (pins : List (Addr × Obj)) (s : Shared), Inv X pins σ H s → wpAny (model X.prog X.w) X.A (eval e X.env) (EP X pins σ Q) X.xe s
def wT (X : Cx) (e : Expr) : TT := fun σ H Q => ∀ (pins : List (Addr × Obj)) (s : Shared), Inv X pins σ H s → wpAny (model X.prog X.w) X.A (isTrue e X.env (eval e X.env)) (TP X pins σ Q) X.xe s
def wW (X : Cx) (e : Expr) : TT := fun σ H Q => ∀ (whole : Sem Value) (pins : List (Addr × Obj)) (s : Shared), Inv X pins σ H s → wpAny (model X.prog X.w) X.A (isTrue e X.env whole) (TP X pins σ Q) X.xe s
def wA (X : Cx) (es : List Expr) : TA := fun σ H Q => ∀ (pos : Pos) (pins : List (Addr × Obj)) (s : Shared), Inv X pins σ H s → wpAny (model X.prog X.w) X.A (spliced (backTo pos (starEach es X.env))) (AP X pins σ Q) X.xe s
def wS (X : Cx) (st : Stmt) : TS := fun D σ H => ∀ (pins : List (Addr × Obj)) (s : Shared), Inv X pins σ H s → wpAny (model X.prog X.w) X.A (exec st X.env) (SP X pins D) X.xe s
def wB (X : Cx) (st : List Stmt) : TS := fun D σ H => ∀ (pins : List (Addr × Obj)) (s : Shared), Inv X pins σ H s → wpAny (model X.prog X.w) X.A (execs st X.env) (SP X pins D) X.xe s
section
variable {X : Cx} {e : Expr} {es : List Expr} {st : Stmt} {sts : List Stmt} {te : TE} {tt : TT} {ta : TA} {ts : TS} {σ : St} {H B M : Hp}
theorem pe_w : PE X e (wE X e) := ⟨fun pins s _ _ _ I h => h pins s I⟩
theorem pt_w : PT X e (wT X e) := ⟨fun pins s _ _ _ I h => h pins s I⟩
theorem pw_w : PW X e (wW X e) := ⟨fun wh pins s _ _ _ I h => h wh pins s I⟩
theorem pa_w : PA X es (wA X es) := ⟨fun pos pins s _ _ _ I h => h pos pins s I⟩
theorem ps_w : PS X st (wS X st) := ⟨fun pins s _ _ _ I h => h pins s I⟩
theorem pss_w : PSs X sts (wB X sts) := ⟨fun pins s _ _ _ I h => h pins s I⟩
theorem wE_of (h : PE X e te) {Q : VK} (q : te σ H Q) : wE X e σ H Q := fun pins s I => h.run pins s σ H Q I q
theorem wT_of (h : PT X e tt) {Q : Bool → Hp → Prop} (q : tt σ H Q) : wT X e σ H Q := fun pins s I => h.run pins s σ H Q I q
theorem wW_of (h : PW X e tt) {Q : Bool → Hp → Prop} (q : tt σ H Q) : wW X e σ H Q := fun wh pins s I => h.run wh pins s σ H Q I q
theorem wA_of (h : PA X es ta) {Q : List V → Hp → Prop} (q : ta σ H Q) : wA X es σ H Q := fun pos pins s I => h.run pos pins s σ H Q I q
theorem wS_of (h : PS X st ts) {D : Ends} (q : ts D σ H) : wS X st D σ H := fun pins s I => h.run pins s σ H D I q
theorem wB_of (h : PSs X sts ts) {D : Ends} (q : ts D σ H) : wB X sts D σ H := fun pins s I => h.run pins s σ H D I q
end
abbrev EM (X : Cx) (e : Expr) (σ : St) (B M : Hp) (P : V → Hp → Hp → Prop) : Prop := Emt (wE X e σ) B M P
abbrev TM (X : Cx) (e : Expr) (σ : St) (B M : Hp) (P : Bool → Hp → Hp → Prop) : Prop := Emt (wT X e σ) B M P
abbrev WM (X : Cx) (e : Expr) (σ : St) (B M : Hp) (P : Bool → Hp → Hp → Prop) : Prop := Emt (wW X e σ) B M P
abbrev AM (X : Cx) (es : List Expr) (σ : St) (B M : Hp) (P : List V → Hp → Hp → Prop) : Prop := Emt (wA X es σ) B M P
abbrev OM (r : R2) (x y : V) (B M : Hp) (P : V → Hp → Hp → Prop) : Prop := Emt (r x y) B M P
abbrev CM (r : List V → Hp → VK → Prop) (xs : List V) (B M : Hp) (P : V → Hp → Hp → Prop) : Prop := Emt (r xs) B M P

section
variable {X : Cx} {a b c e : Expr} {es : List Expr} {σ : St} {B M : Hp} {P : V → Hp → Hp → Prop} {PT' : Bool → Hp → Hp → Prop} {PA' : List V → Hp → Hp → Prop} {pos : Pos} {v : V} {te : TE} {tt : TT}
theorem em_of (h : PE X e te) (q : Emt (te σ) B M P) : EM X e σ B M P := fun H w Q k => wE_of h (q H w Q k)
theorem tm_of (h : PT X e tt) (q : Emt (tt σ) B M PT') : TM X e σ B M PT' := fun H w Q k => wT_of h (q H w Q k)
theorem em_name (i : Nat) {x : Str} (hN : X.N[i]? = some x := by rfl) (hv : Vis X.env.scope x := by first | exact Or.inl rfl | exact Or.inr (Or.inl rfl) | exact Or.inr (Or.inr rfl)) (hs : σ[i]? = some (some v) := by rfl) (h : P v B M)
    (hd : (x == ("__debug__" : Str)) = false := by decide) (hcd : (x == ("__classdict__" : Str)) = false := by decide) : EM X (.Name x pos) σ B M P :=
  em_of (pe_var hN hv hd hcd) fun H w Q k => ⟨v, hs, k v B M H (Gs.id' w) h⟩
theorem em_int {i j} (h : P (.int i) B M) : EM X (.Constant (.int i) j pos) σ B M P := em_of pe_int (Emt.ret h)
theorem em_bl {b j} (h : P (.bl b) B M) : EM X (.Constant (.bool b) j pos) σ B M P := em_of pe_bl (Emt.ret h)
theorem em_non {j} (h : P .non B M) : EM X (.Constant .none j pos) σ B M P := em_of pe_non (Emt.ret h)
theorem em_str {x j} (h : P (.str x) B M) : EM X (.Constant (.str x) j pos) σ B M P := em_of pe_str (Emt.ret h)
theorem em_op {op : Operator} {r : R2} (ho : OpR X (binaryOp op) r) (h : EM X a σ B M fun x B1 M1 => EM X b σ B1 M1 fun y B2 M2 => OM r x y B2 M2 P) : EM X (.BinOp a op b pos) σ B M P :=
  em_of (pe_op ho pe_w pe_w) (Emt.bind (t := wE X a σ) (f := fun x H Q => wE X b σ H fun y H2 => r x y H2 Q) (h.imp fun x B1 M1 _ q => Emt.bind (t := wE X b σ) (f := fun y H2 Q => r x y H2 Q) q))
theorem em_cmp {op : CmpOp} {r : R2} (ho : OpR X (compareOp op) r) (h : EM X a σ B M fun x B1 M1 => EM X b σ B1 M1 fun y B2 M2 => OM r x y B2 M2 P) (hm : behindInMarks op b = false := by first | exact nomark _ | rfl) : EM X (.Compare a [op] [b] pos) σ B M P :=
  em_of (pe_cmpR ho pe_w pe_w hm) (Emt.bind (t := wE X a σ) (f := fun x H Q => wE X b σ H fun y H2 => r x y H2 Q) (h.imp fun x B1 M1 _ q => Emt.bind (t := wE X b σ) (f := fun y H2 Q => r x y H2 Q) q))
theorem tm_cmp {op : CmpOp} {r : R2} (ho : OpR X (compareOp op) r) (h : EM X a σ B M fun x B1 M1 => EM X b σ B1 M1 fun y B2 M2 => OM r x y B2 M2 fun z B3 M3 => ∃ k, z = .bl k ∧ PT' k B3 M3) (hm : behindInMarks op b = false := by first | exact nomark _ | rfl) :
    TM X (.Compare a [op] [b] pos) σ B M PT' :=
  tm_of (pt_cmpR ho pe_w pe_w hm) fun H w Q k => h H w _ fun x B1 M1 H1 g1 q1 => q1 H1 g1.own _ fun y B2 M2 H2 g2 q2 => q2 H2 g2.own _ fun z B3 M3 H3 g3 ⟨c, hc, q3⟩ => ⟨c, hc, k c B3 M3 H3 (g1.tr (g2.tr g3)) q3⟩
/-- an expression that gives a bool, as a test -/
theorem tm_val (h : EM X e σ B M fun z B3 M3 => ∃ k, z = .bl k ∧ PT' k B3 M3) (he : ∀ whole, isTrue e X.env whole = (do let v ← whole; standAt e.pos; holding [v] (truthy v)) := by intro _; rfl) : TM X e σ B M PT' :=
  tm_of (pt_val pe_w he) fun H w Q k => h H w _ fun z B3 M3 H3 g3 ⟨c, hc, q3⟩ => ⟨c, hc, k c B3 M3 H3 g3 q3⟩
/-- an expression by its truth -/
theorem tm_tru (h : EM X e σ B M fun z B3 M3 => ∃ k, TruV X.K z (jn B3 M3) k ∧ PT' k B3 M3) (he : ∀ whole, isTrue e X.env whole = (do let v ← whole; standAt e.pos; holding [v] (truthy v)) := by intro _; rfl) : TM X e σ B M PT' :=
  tm_of (pt_truth pe_w he) fun H w Q k => h H w _ fun z B3 M3 H3 g3 ⟨c, hc, q3⟩ => ⟨c, tru_up g3.own.jn hc, k c B3 M3 H3 g3 q3⟩
theorem tm_not (h : TM X a σ B M fun k B1 M1 => PT' (!k) B1 M1) : TM X (.UnaryOp .Not a pos) σ B M PT' :=
  tm_of (pt_not pt_w) fun H w Q k => h H w _ fun c B1 M1 H1 g q => k _ B1 M1 H1 g q
theorem tm_w (h : WM X e σ B M PT') : TM X e σ B M PT' := fun H w Q k => wT_of pw_w.pt (h H w Q k)
theorem wm_and1 (h : TM X a σ B M PT') : WM X (.BoolOp .And [a] pos) σ B M PT' := fun H w Q k => wW_of (pw_and1 pt_w) (h H w Q k)
theorem wm_or1 (h : TM X a σ B M PT') : WM X (.BoolOp .Or [a] pos) σ B M PT' := fun H w Q k => wW_of (pw_or1 pt_w) (h H w Q k)
theorem wm_and {rest : List Expr} (h : TM X a σ B M fun k B1 M1 => if k = true then WM X (.BoolOp .And (b :: rest) pos) σ B1 M1 PT' else PT' false B1 M1) : WM X (.BoolOp .And (a :: b :: rest) pos) σ B M PT' := fun H w Q k =>
  wW_of (pw_and pt_w pw_w) (h H w _ fun c B1 M1 H1 g q => by
    cases c with
    | true => exact q H1 g.own _ fun d B2 M2 H2 g2 q2 => k d B2 M2 H2 (g.tr g2) q2
    | false => exact k false B1 M1 H1 g q)
theorem wm_or {rest : List Expr} (h : TM X a σ B M fun k B1 M1 => if k = true then PT' true B1 M1 else WM X (.BoolOp .Or (b :: rest) pos) σ B1 M1 PT') : WM X (.BoolOp .Or (a :: b :: rest) pos) σ B M PT' := fun H w Q k =>
  wW_of (pw_or pt_w pw_w) (h H w _ fun c B1 M1 H1 g q => by
    cases c with
    | true => exact k true B1 M1 H1 g q
    | false => exact q H1 g.own _ fun d B2 M2 H2 g2 q2 => k d B2 M2 H2 (g.tr g2) q2)
/-- and, or, not of bools as values -/
theorem em_one {op} (h : EM X a σ B M P) : EM X (.BoolOp op [a] pos) σ B M P := em_of (pe_one pe_w) h
theorem em_and {rest : List Expr} (h : EM X a σ B M fun x B1 M1 => ∃ c, x = .bl c ∧ if c = true then EM X (.BoolOp .And (b :: rest) pos) σ B1 M1 P else P (.bl false) B1 M1) : EM X (.BoolOp .And (a :: b :: rest) pos) σ B M P :=
  em_of (pe_and pe_w pe_w) fun H w Q k => h H w _ fun x B1 M1 H1 g ⟨c, hc, q⟩ => ⟨c, hc, by
    cases c with
    | true => exact q H1 g.own _ fun d B2 M2 H2 g2 q2 => k d B2 M2 H2 (g.tr g2) q2
    | false => exact k _ B1 M1 H1 g q⟩
theorem em_or {rest : List Expr} (h : EM X a σ B M fun x B1 M1 => ∃ c, x = .bl c ∧ if c = true then P (.bl true) B1 M1 else EM X (.BoolOp .Or (b :: rest) pos) σ B1 M1 P) : EM X (.BoolOp .Or (a :: b :: rest) pos) σ B M P :=
  em_of (pe_or pe_w pe_w) fun H w Q k => h H w _ fun x B1 M1 H1 g ⟨c, hc, q⟩ => ⟨c, hc, by
    cases c with
    | true => exact k _ B1 M1 H1 g q
    | false => exact q H1 g.own _ fun d B2 M2 H2 g2 q2 => k d B2 M2 H2 (g.tr g2) q2⟩
theorem em_not (h : EM X a σ B M fun x B1 M1 => ∃ c, x = .bl c ∧ P (.bl (!c)) B1 M1) : EM X (.UnaryOp .Not a pos) σ B M P :=
  em_of (L2.pe_not pe_w) fun H w Q k => h H w _ fun x B1 M1 H1 g ⟨c, hc, q⟩ => ⟨c, hc, k _ B1 M1 H1 g q⟩
theorem em_if (h : TM X c σ B M fun k B1 M1 => if k = true then EM X a σ B1 M1 P else EM X b σ B1 M1 P) : EM X (.IfExp c a b pos) σ B M P :=
  em_of (pe_ifExp pt_w pe_w pe_w) fun H w Q k => h H w _ fun d B1 M1 H1 g q => by
    cases d with
    | true => exact q H1 g.own _ fun d B2 M2 H2 g2 q2 => k d B2 M2 H2 (g.tr g2) q2
    | false => exact q H1 g.own _ fun d B2 M2 H2 g2 q2 => k d B2 M2 H2 (g.tr g2) q2
theorem em_un {op : UnaryOp} {r : V → Hp → VK → Prop} (ho : UnR X (unaryOp op) r) (h : EM X a σ B M fun x B1 M1 => Emt (r x) B1 M1 P) : EM X (.UnaryOp op a pos) σ B M P :=
  em_of (pe_un ho pe_w) (Emt.bind (t := wE X a σ) (f := fun x H Q => r x H Q) h)
theorem em_chain {op op' : CmpOp} {r r' : R2} (ho : OpR X (compareOp op) r) (ho' : OpR X (compareOp op') r') (h : EM X a σ B M fun x B1 M1 => EM X b σ B1 M1 fun y B2 M2 => OM r x y B2 M2 fun z B3 M3 => ∃ k, z = .bl k ∧
      if k = true then EM X c σ B3 M3 fun w' B4 M4 => OM r' y w' B4 M4 P else P (.bl false) B3 M3) (hm : lastMarks [op, op'] [b, c] = false := by with_unfolding_all rfl) : EM X (.Compare a [op, op'] [b, c] pos) σ B M P :=
  em_of (pe_chain ho ho' pe_w pe_w pe_w hm) fun H w Q k => h H w _ fun x B1 M1 H1 g1 q1 => q1 H1 g1.own _ fun y B2 M2 H2 g2 q2 => q2 H2 g2.own _ fun z B3 M3 H3 g3 ⟨d, hd, q3⟩ => ⟨d, hd, by
    cases d with
    | true => exact q3 H3 g3.own _ fun w' B4 M4 H4 g4 q4 => q4 H4 g4.own _ fun z' B5 M5 H5 g5 q5 => k z' B5 M5 H5 (g1.tr (g2.tr (g3.tr (g4.tr g5)))) q5
    | false => exact k _ B3 M3 H3 (g1.tr (g2.tr g3)) q3⟩

/-! ### argument lists, displays -/
theorem am_nil (h : PA' [] B M) : AM X [] σ B M PA' := fun H w Q k => wA_of pa_nil (k _ B M H (Gs.id' w) h)
theorem am_cons (h : EM X e σ B M fun x B1 M1 => AM X es σ B1 M1 fun xs B2 M2 => PA' (x :: xs) B2 M2) (hs : starEach (e :: es) X.env = (false, eval e X.env) :: starEach es X.env := by rfl) : AM X (e :: es) σ B M PA' := fun H w Q k =>
  wA_of (pa_cons pe_w pa_w hs) (h H w _ fun x B1 M1 H1 g q => q H1 g.own _ fun xs B2 M2 H2 g2 q2 => k _ B2 M2 H2 (g.tr g2) q2)
theorem em_tup {k} (h : AM X es σ B M fun xs B1 M1 => xs.length ≤ sizeLine ∧ ∀ p, B1 p = none → M1 p = none → P (.ref p) (upd B1 p (.tup xs)) M1) : EM X (.Tuple es k pos) σ B M P :=
  em_of (pe_tup pa_w) fun H w Q k => h H w _ fun xs B1 M1 H1 g ⟨hl, q⟩ => ⟨hl, fun p hp => k _ _ _ _ (g.tr (Gs.newB g.own hp)) (q p (g.own.fresh hp).1 (g.own.fresh hp).2)⟩
theorem em_lst (h : AM X es σ B M fun xs B1 M1 => xs.length ≤ sizeLine ∧ ∀ p, B1 p = none → M1 p = none → P (.ref p) B1 (upd M1 p (.lst xs))) : EM X (.List es pos) σ B M P :=
  em_of (pe_lst pa_w) fun H w Q k => h H w _ fun xs B1 M1 H1 g ⟨hl, q⟩ => ⟨hl, fun p hp => k _ _ _ _ (g.tr (Gs.newM g.own hp)) (q p (g.own.fresh hp).1 (g.own.fresh hp).2)⟩
theorem em_lstB (h : AM X es σ B M fun xs B1 M1 => xs.length ≤ sizeLine ∧ ∀ p, B1 p = none → M1 p = none → P (.ref p) (upd B1 p (.lst xs)) M1) : EM X (.List es pos) σ B M P :=
  em_of (pe_lst pa_w) fun H w Q k => h H w _ fun xs B1 M1 H1 g ⟨hl, q⟩ => ⟨hl, fun p hp => k _ _ _ _ (g.tr (Gs.newB g.own hp)) (q p (g.own.fresh hp).1 (g.own.fresh hp).2)⟩
theorem em_fld {f : Str} (h : EM X e σ B M fun x B1 M1 => ∃ a C dx fs v, x = .ref a ∧ jn B1 M1 a = some (.ins C dx fs) ∧ Cls X.K C ∧ NoAttr X.K C f ∧ fs.lookup f = some v ∧ P v B1 M1) (hb : attributeBase e f X.env (eval e X.env) = eval e X.env := by rfl) :
    EM X (.Attribute e f pos) σ B M P :=
  em_of (pe_fld pe_w hb) fun H w Q k => h H w _ fun x B1 M1 H1 g ⟨a, C, dx, fs, v, hx, hj, hc, hn, hl, q⟩ => ⟨a, C, dx, fs, v, hx, g.own.jn a _ hj, hc, hn, hl, k v B1 M1 H1 g q⟩
theorem em_dget (hu : X.A.units + 1 < cLine) {o i : Expr} (h : EM X o σ B M fun x B1 M1 => EM X i σ B1 M1 fun y B2 M2 => ∃ a v, x = .ref a ∧ DGet (jn B2 M2) a y (some v) ∧ P v B2 M2) (hs : NoSl i := by exact fun _ _ => rfl) :
    EM X (.Subscript o i pos) σ B M P :=
  em_of (pe_dget hu pe_w pe_w hs) fun H w Q k => h H w _ fun x B1 M1 H1 g q => q H1 g.own _ fun y B2 M2 H2 g2 ⟨a, v, hx, hd, q2⟩ => ⟨a, v, hx, dget_up g2.own.jn hd, k v B2 M2 H2 (g.tr g2) q2⟩
end
end LC
end LcBase
section LcStmt
set_option maxHeartbeats 4000000
/-! Statements, targets, loops, comprehensions over B and M. -/
namespace LC
open PySem L2

structure EndsM where
  nx : St → Hp → Hp → Prop
  rt : V → Hp → Hp → Prop
  bk : St → Hp → Hp → Prop := fun _ _ _ => False
  ct : St → Hp → Hp → Prop := fun _ _ _ => False
def EmS (t : TS) (σ : St) (B M : Hp) (E : EndsM) : Prop :=
  ∀ H, Own B M H → ∀ D : Ends, (∀ σ' B' M' H', Gs B M H B' M' H' → E.nx σ' B' M' → D.nx σ' H') → (∀ v B' M' H', Gs B M H B' M' H' → E.rt v B' M' → D.rt v H') →
    (∀ σ' B' M' H', Gs B M H B' M' H' → E.bk σ' B' M' → D.bk σ' H') → (∀ σ' B' M' H', Gs B M H B' M' H' → E.ct σ' B' M' → D.ct σ' H') → t D σ H
abbrev SM (X : Cx) (sts : List Stmt) (σ : St) (B M : Hp) (E : EndsM) : Prop := EmS (wB X sts) σ B M E
abbrev S1 (X : Cx) (st : Stmt) (σ : St) (B M : Hp) (E : EndsM) : Prop := EmS (wS X st) σ B M E
/-- targets -/
def wG (X : Cx) (tg : Expr) : TG := fun v σ H Q => ∀ (pins : List (Addr × Obj)) (s : Shared) (u : Value), Inv X pins σ H s → RelV v u → wpAny (model X.prog X.w) X.A (assign tg X.env u) (fun _ s' => ∃ σ' H', Inv X pins σ' H' s' ∧ Q σ' H') X.xe s
theorem pg_w {X : Cx} {tg : Expr} : PG X tg (wG X tg) := ⟨fun pins s _ _ _ u _ I r h => h pins s u I r⟩
theorem wG_of {X : Cx} {tg : Expr} {g : TG} {v : V} {σ : St} {H : Hp} {Q : St → Hp → Prop} (h : PG X tg g) (q : g v σ H Q) : wG X tg v σ H Q := fun pins s u I r => h.run pins s σ H v u Q I r q
abbrev GM (X : Cx) (tg : Expr) (v : V) (σ : St) (B M : Hp) (P : St → Hp → Hp → Prop) : Prop := Emt (fun H Q => wG X tg v σ H Q) B M P

section
variable {X : Cx} {e a b c o i : Expr} {es : List Expr} {st : Stmt} {rest sts body orelse : List Stmt} {σ : St} {B M : Hp} {E : EndsM} {pos pos' : Pos} {v : V} {P : St → Hp → Hp → Prop}

theorem EmS.frz {t : TS} {p : Addr} {u : HO} (hp : M p = some u) (h : EmS t σ (upd B p u) (del M p) E) : EmS t σ B M E := fun H w D k1 k2 k3 k4 =>
  h H (Gs.frz w hp).own D (fun a b c d g => k1 a b c d ((Gs.frz w hp).tr g)) (fun a b c d g => k2 a b c d ((Gs.frz w hp).tr g)) (fun a b c d g => k3 a b c d ((Gs.frz w hp).tr g)) (fun a b c d g => k4 a b c d ((Gs.frz w hp).tr g))
theorem sm_nil (h : E.nx σ B M) : SM X [] σ B M E := fun H w D k1 _ _ _ => wB_of pss_nil (k1 σ B M H (Gs.id' w) h)
theorem sm_cons (h : S1 X st σ B M { E with nx := fun σ' B' M' => SM X rest σ' B' M' E }) : SM X (st :: rest) σ B M E := fun H w D k1 k2 k3 k4 =>
  wB_of (pss_cons ps_w pss_w) (h H w { D with nx := wB X rest D }
    (fun σ' B' M' H' g q => q H' g.own D (fun a b c d g2 => k1 a b c d (g.tr g2)) (fun a b c d g2 => k2 a b c d (g.tr g2)) (fun a b c d g2 => k3 a b c d (g.tr g2)) (fun a b c d g2 => k4 a b c d (g.tr g2))) k2 k3 k4)
theorem sm_one (h : S1 X st σ B M E) : SM X [st] σ B M E := fun H w D k1 k2 k3 k4 => wB_of (pss_one ps_w) (h H w D k1 k2 k3 k4)
theorem s1_of {ts : TS} (h : PS X st ts) (q : EmS ts σ B M E) : S1 X st σ B M E := fun H w D k1 k2 k3 k4 => wS_of h (q H w D k1 k2 k3 k4)
theorem s1_pass (h : E.nx σ B M) : S1 X (.Pass pos) σ B M E := s1_of ps_pass fun H w D k1 _ _ _ => k1 _ _ _ _ (Gs.id' w) h
theorem s1_expr (h : EM X e σ B M fun _ B1 M1 => E.nx σ B1 M1) (hs : swapsWith e none pos.line X.env = pure false := by rfl) : S1 X (.Expr e pos) σ B M E :=
  s1_of (ps_expr pe_w hs) fun H w D k1 _ _ _ => h H w _ fun v B1 M1 H1 g q => k1 σ B1 M1 H1 g q
theorem s1_ret (h : EM X e σ B M E.rt) : S1 X (.Return (some e) pos) σ B M E := s1_of (ps_ret pe_w) fun H w D _ k2 _ _ => h H w _ fun v B1 M1 H1 g q => k2 v B1 M1 H1 g q
theorem s1_retN (h : E.rt .non B M) : S1 X (.Return none pos) σ B M E := s1_of ps_retN fun H w D _ k2 _ _ => k2 _ _ _ _ (Gs.id' w) h
theorem s1_if (h : TM X c σ B M fun k B1 M1 => if k = true then SM X sts σ B1 M1 E else SM X orelse σ B1 M1 E) : S1 X (.If c sts orelse pos) σ B M E :=
  s1_of (ps_if pt_w pss_w pss_w) fun H w D k1 k2 k3 k4 => h H w _ fun k B1 M1 H1 g q => by
    cases k with
    | true => exact q H1 g.own D (fun a b c d g2 => k1 a b c d (g.tr g2)) (fun a b c d g2 => k2 a b c d (g.tr g2)) (fun a b c d g2 => k3 a b c d (g.tr g2)) (fun a b c d g2 => k4 a b c d (g.tr g2))
    | false => exact q H1 g.own D (fun a b c d g2 => k1 a b c d (g.tr g2)) (fun a b c d g2 => k2 a b c d (g.tr g2)) (fun a b c d g2 => k3 a b c d (g.tr g2)) (fun a b c d g2 => k4 a b c d (g.tr g2))
/-- x = e -/
theorem s1_set (j : Nat) {x : Str} (hN : X.N.Nodup) (h : EM X e σ B M fun v B1 M1 => E.nx (σ.set j (some v)) B1 M1) (hi : X.N[j]? = some x := by rfl) (hx : Loc X.env.scope x := by first | exact Or.inl rfl | exact Or.inr rfl)
    (hs : swapsWith e (some (.Name x pos')) pos.line X.env = pure false := by rfl) (hf : X.fn x = true ∨ X.env.scope.names.lookup x = some .local := by first | exact Or.inl rfl | exact Or.inr rfl) : S1 X (.Assign [.Name x pos'] e pos) σ B M E :=
  s1_of (ps_set hN hi hx pe_w hs hf) fun H w D k1 _ _ _ => h H w _ fun v B1 M1 H1 g q => k1 _ B1 M1 H1 g q
/-- target = e -/
theorem s1_asg {tg : Expr} (h : EM X e σ B M fun v B1 M1 => GM X tg v σ B1 M1 E.nx) (hs : swapsWithSole [tg] e pos.line X.env = pure false := by rfl) (hw : swappedStores [tg] e X.env = pure none := by rfl)
    (h1 : (assignEach [tg] X.env).map (·.2) = [assign tg X.env] := by rfl) : S1 X (.Assign [tg] e pos) σ B M E :=
  s1_of (ps_asg pe_w pg_w hs hw h1) fun H w D k1 _ _ _ => h H w _ fun v B1 M1 H1 g q => q H1 g.own _ fun σ' B2 M2 H2 g2 q2 => k1 σ' B2 M2 H2 (g.tr g2) q2
theorem gm_name (j : Nat) {x : Str} (hN : X.N.Nodup) (h : P (σ.set j (some v)) B M) (hi : X.N[j]? = some x := by rfl) (hx : Loc X.env.scope x := by first | exact Or.inl rfl | exact Or.inr rfl) (hf : X.fn x = true ∨ X.env.scope.names.lookup x = some .local := by first | exact Or.inl rfl | exact Or.inr rfl) :
    GM X (.Name x pos) v σ B M P := fun H w Q k => wG_of (pg_name hN hi hx hf) (k _ B M H (Gs.id' w) h)
/-- several targets -/
def wGs (X : Cx) (ts : List Expr) : TGs := fun vs σ H Q => ∀ (pins : List (Addr × Obj)) (s : Shared) (us : List Value), Inv X pins σ H s → Vals vs us → wpAny (model X.prog X.w) X.A (assignInOrder ((assignEach ts X.env).map (·.2)) us) (fun _ s' => ∃ σ' H', Inv X pins σ' H' s' ∧ Q σ' H') X.xe s
theorem pgs_w : PGs X es (wGs X es) := ⟨fun pins s _ _ _ us _ I r h => h pins s us I r⟩
abbrev GMs (X : Cx) (ts : List Expr) (vs : List V) (σ : St) (B M : Hp) (P : St → Hp → Hp → Prop) : Prop := Emt (fun H Q => wGs X ts vs σ H Q) B M P
theorem gms_nil (h : P σ B M) : GMs X [] [] σ B M P := fun H w Q k => fun pins s us I r => pgs_nil.run pins s σ H [] us Q I r ⟨rfl, k σ B M H (Gs.id' w) h⟩
theorem gms_cons {vs : List V} (h : GM X e v σ B M fun σ1 B1 M1 => GMs X es vs σ1 B1 M1 P) (hs : (assignEach (e :: es) X.env).map (·.2) = assign e X.env :: (assignEach es X.env).map (·.2) := by rfl) : GMs X (e :: es) (v :: vs) σ B M P := fun H w Q k => fun pins s us I r =>
  (pgs_cons pg_w pgs_w hs).run pins s σ H (v :: vs) us Q I r ⟨v, vs, rfl, h H w _ fun σ1 B1 M1 H1 g q => q H1 g.own _ fun σ2 B2 M2 H2 g2 q2 => k σ2 B2 M2 H2 (g.tr g2) q2⟩
theorem gm_tup {k0 : Nat} {q : Addr} {vs : List V} (hc : X.calm = true) (hq : SqT X.K (jn B M) q vs) (h : GMs X es vs σ B M P) (hn : (assignEach es X.env).length = vs.length := by rfl) (hst : (assignEach es X.env).findIdx? (·.1) = none := by rfl) :
    GM X (.Tuple es k0 pos) (.ref q) σ B M P := fun H w Q k => wG_of (pg_tup hc pgs_w hn hst) ⟨q, vs, rfl, sqt_up w.jn hq, rfl, h H w Q k⟩
/-- o.f = e -/
theorem s1_fld {f : Str} {value : Expr} (h : EM X value σ B M fun y B1 M1 => EM X o σ B1 M1 fun x B2 M2 => ∃ a C dx fs, x = .ref a ∧ M2 a = some (.ins C dx fs) ∧ Cls X.K C ∧ NoAttr X.K C f ∧ fs.length < 1000 ∧ E.nx σ B2 (upd M2 a (.ins C dx (putF f y fs))))
    (hs : swapsWith value (some (.Attribute o f pos')) pos.line X.env = pure false := by rfl) : S1 X (.Assign [.Attribute o f pos'] value pos) σ B M E :=
  s1_of (ps_fld pe_w pe_w hs) fun H w D k1 _ _ _ => h H w _ fun y B1 M1 H1 g q => q H1 g.own _ fun x B2 M2 H2 g2 ⟨a, C, dx, fs, hx, hm, hc, hn, hl, q2⟩ =>
    ⟨a, C, dx, fs, hx, (g2.own.m a _ hm).1, hc, hn, hl, k1 _ _ _ _ ((g.tr g2).tr (Gs.setM g2.own hm)) q2⟩
/-- d[k] = e -/
theorem s1_dput {value : Expr} (hu : X.A.units + 1 < cLine) (h : EM X value σ B M fun z B1 M1 => EM X o σ B1 M1 fun x B2 M2 => EM X i σ B2 M2 fun y B3 M3 => ∃ d, x = .ref d ∧
      ((∃ kvs k, M3 d = some (.dK kvs) ∧ y = kV k ∧ kvs.length < sizeLine ∧ E.nx σ B3 (upd M3 d (.dK (putK kvs k z)))) ∨
        ∃ kvs k b, M3 d = some (.dT kvs) ∧ y = .ref b ∧ jn B3 M3 b = some (.tup (k.map kV)) ∧ kvs.length < sizeLine ∧ E.nx σ B3 (upd M3 d (.dT (putK kvs k z)))))
    (hs : swapsWith value (some (.Subscript o i pos')) pos.line X.env = pure false := by rfl) : S1 X (.Assign [.Subscript o i pos'] value pos) σ B M E :=
  s1_of (ps_dput hu pe_w pe_w pe_w hs) fun H w D k1 _ _ _ => h H w _ fun z B1 M1 H1 g1 q1 => q1 H1 g1.own _ fun x B2 M2 H2 g2 q2 => q2 H2 g2.own _ fun y B3 M3 H3 g3 ⟨d, hx, q3⟩ => by
    have g := (g1.tr g2).tr g3
    rcases q3 with ⟨kvs, k, hm, hy, hl, q⟩ | ⟨kvs, k, b, hm, hy, hb, hl, q⟩
    · exact ⟨d, _, hx, by subst hy; exact DPut.k (g3.own.m d _ hm).1 hl, k1 _ _ _ _ (g.tr (Gs.setM g3.own hm)) q⟩
    · exact ⟨d, _, hx, by subst hy; exact DPut.t (g3.own.m d _ hm).1 (g3.own.jn _ _ hb) hl, k1 _ _ _ _ (g.tr (Gs.setM g3.own hm)) q⟩
/-- xs[i] = e -/
theorem s1_lput {value : Expr} (h : EM X value σ B M fun z B1 M1 => EM X o σ B1 M1 fun x B2 M2 => EM X i σ B2 M2 fun y B3 M3 => ∃ l xs k j, x = .ref l ∧ y = .int k ∧ M3 l = some (.lst xs) ∧ ixN xs.length k = some j ∧ E.nx σ B3 (upd M3 l (.lst (xs.set j z))))
    (hs : swapsWithSole [.Subscript o i pos'] value pos.line X.env = pure false := by rfl) (hw : swappedStores [.Subscript o i pos'] value X.env = pure none := by rfl) (h1 : (assignEach [.Subscript o i pos'] X.env).map (·.2) = [assign (.Subscript o i pos') X.env] := by rfl)
    (ha : ∀ v, assign (.Subscript o i pos') X.env v = (do
      let ov ← holding [v] (eval o X.env)
      let iv ← holding [v, ov] (eval i X.env)
      standAt pos'
      holding [v, ov, iv] (setItem ov iv v)
      release [v, ov, iv] []) := by intro _; rfl) : S1 X (.Assign [.Subscript o i pos'] value pos) σ B M E :=
  s1_of (ps_asg pe_w (pg_sub pe_w pe_w set_list ha) hs hw h1) fun H w D k1 _ _ _ => h H w _ fun z B1 M1 H1 g1 q1 => q1 H1 g1.own _ fun x B2 M2 H2 g2 q2 => q2 H2 g2.own _ fun y B3 M3 H3 g3 ⟨l, xs, k, j, hx, hy, hm, hj, q⟩ =>
    ⟨l, xs, k, j, hx, hy, (g3.own.m l _ hm).1, hj, k1 _ _ _ _ (((g1.tr g2).tr g3).tr (Gs.setM g3.own hm)) q⟩

/-! ### loops -/
/-- while -/
theorem s1_while {body : List Stmt} (hp : PassesOwn (model X.prog X.w) X.A X.env X.xe) (W : Nat → St → Hp → Hp → Prop) (m0 : Nat) (w0 : W m0 σ B M)
    (turn : ∀ m σ' B' M', W m σ' B' M' → TM X c σ' B' M' fun k B1 M1 => if k = true then SM X body σ' B1 M1 { nx := fun σ2 B2 M2 => ∃ m', m' < m ∧ W m' σ2 B2 M2, ct := fun σ2 B2 M2 => ∃ m', m' < m ∧ W m' σ2 B2 M2, bk := E.nx, rt := E.rt } else E.nx σ' B1 M1) :
    S1 X (.While c body [] pos) σ B M E :=
  s1_of (ps_while hp pt_w pss_w) fun H w D k1 k2 k3 k4 => ⟨fun m σ' H' => ∃ B' M', Gs B M H B' M' H' ∧ W m σ' B' M', ⟨m0, B, M, Gs.id' w, w0⟩, fun m σ1 H1 ⟨B1, M1, g1, w1⟩ => turn m σ1 B1 M1 w1 H1 g1.own _ fun k B2 M2 H2 g2 q => by
    cases k with
    | true => exact ⟨_, fun _ _ n => n, q H2 g2.own { D with nx := fun σ' H' => ∃ m', m' < m ∧ ∃ B' M', Gs B M H B' M' H' ∧ W m' σ' B' M', ct := fun σ' H' => ∃ m', m' < m ∧ ∃ B' M', Gs B M H B' M' H' ∧ W m' σ' B' M', bk := D.nx }
        (fun σ3 B3 M3 H3 g3 ⟨m', l, z⟩ => ⟨m', l, B3, M3, (g1.tr g2).tr g3, z⟩) (fun a b c d g3 z => k2 a b c d ((g1.tr g2).tr g3) z) (fun a b c d g3 z => k1 a b c d ((g1.tr g2).tr g3) z) (fun σ3 B3 M3 H3 g3 ⟨m', l, z⟩ => ⟨m', l, B3, M3, (g1.tr g2).tr g3, z⟩)⟩
    | false => exact k1 _ _ _ _ (g1.tr g2) q⟩
/-- one turn of a for loop -/
abbrev TurnM (X : Cx) (tg : Expr) (body : List Stmt) (E : EndsM) (I : St → Hp → Hp → Prop) (x : V) (σ : St) (B M : Hp) : Prop :=
  GM X tg x σ B M fun σ2 B2 M2 => SM X body σ2 B2 M2 { nx := I, ct := I, bk := E.nx, rt := E.rt }
theorem turn_go {tg : Expr} {D : Ends} {H H1 : Hp} {B1 M1 : Hp} {σ1 : St} {x : V} {I : St → Hp → Hp → Prop} {N : St → Hp → Prop} (g1 : Gs B M H B1 M1 H1) (h : TurnM X tg body E I x σ1 B1 M1) (kN : ∀ σ' B' M' H', Gs B M H B' M' H' → I σ' B' M' → N σ' H')
    (k1 : ∀ σ' B' M' H', Gs B M H B' M' H' → E.nx σ' B' M' → D.nx σ' H') (k2 : ∀ v B' M' H', Gs B M H B' M' H' → E.rt v B' M' → D.rt v H') :
    wG X tg x σ1 H1 fun σ2 H2 => wB X body { D with nx := N, ct := N, bk := D.nx } σ2 H2 :=
  h H1 g1.own _ fun σ2 B2 M2 H2 g2 q => q H2 g2.own _ (fun a b c d g3 z => kN a b c d ((g1.tr g2).tr g3) z) (fun a b c d g3 z => k2 a b c d ((g1.tr g2).tr g3) z) (fun a b c d g3 z => k1 a b c d ((g1.tr g2).tr g3) z) (fun a b c d g3 z => kN a b c d ((g1.tr g2).tr g3) z)
/-- for x in a list -/
theorem s1_for {tg src : Expr} (hp : PassesOwn (model X.prog X.w) X.A X.env X.xe) (hc : X.calm = true)
    (h : EM X src σ B M fun v B1 M1 => ∃ a xs, v = .ref a ∧ SqL X.K (jn B1 M1) a xs ∧ ∃ I : Nat → St → Hp → Hp → Prop, I 0 σ B1 M1 ∧ (∀ i σ' B' M', i ≤ xs.length → I i σ' B' M' → SqL X.K (jn B' M') a xs) ∧
      (∀ i x σ' B' M', xs[i]? = some x → Ex B1 B' → I i σ' B' M' → TurnM X tg body E (I (i + 1)) x σ' B' M') ∧ ∀ σ' B' M', Ex B1 B' → I xs.length σ' B' M' → E.nx σ' B' M')
    (hs : ∀ x, foldedSetIterable src X.env x = pure x := by intro _; rfl) : S1 X (.For tg src body [] pos) σ B M E :=
  s1_of (ps_for hp hc (pi_list pe_w) pg_w pss_w hs) fun H w D k1 k2 k3 k4 => h H w _ fun v B1 M1 H1 g1 ⟨a, xs, hv, hx, I, i0, il, it, ie⟩ => ⟨a, hv, ⟨xs, sql_up g1.own.jn hx⟩,
    for_list (K := X.K) (xs := xs) (fun i σ' H' => ∃ B' M', Gs B1 M1 H1 B' M' H' ∧ I i σ' B' M') ⟨B1, M1, Gs.id' g1.own, i0⟩ (fun i σ' H' hi ⟨B', M', g, q⟩ => sql_up g.own.jn (il i σ' B' M' hi q))
      (fun i x σ' H' hi ⟨B', M', g, q⟩ => turn_go g (it i x σ' B' M' hi g.b q) (fun a b c d g3 z => ⟨b, c, g3, z⟩) (fun a b c d g3 z => k1 a b c d (g1.tr g3) z) (fun a b c d g3 z => k2 a b c d (g1.tr g3) z))
      (fun σ' H' ⟨B', M', g, q⟩ => k1 _ _ _ _ (g1.tr g) (ie σ' B' M' g.b q))⟩
/-- for x in range(n) -/
theorem s1_forR {tg ex : Expr} {p rp : Pos} (hp : PassesOwn (model X.prog X.w) X.A X.env X.xe) (hc : X.calm = true) (hm : X.mg "range" = none)
    (h : EM X ex σ B M fun v B1 M1 => ∃ n : Nat, v = .int n ∧ n ≤ 1000000 ∧ ∃ I : Nat → St → Hp → Hp → Prop, I 0 σ B1 M1 ∧
      (∀ (i : Nat) σ' B' M', i < n → Ex B1 B' → I i σ' B' M' → TurnM X tg body E (I (i + 1)) (.int i) σ' B' M') ∧ ∀ σ' B' M', Ex B1 B' → I n σ' B' M' → E.nx σ' B' M')
    (hg : Gl X "range" := by rfl) (ha : starEach [ex] X.env = [(false, eval ex X.env)] := by rfl) (ha2 : starEach [ex] X.env = (false, eval ex X.env) :: starEach [] X.env := by rfl)
    (hs : ∀ x, foldedSetIterable (.Call (.Name "range" p) [ex] [] rp) X.env x = pure x := by intro _; rfl) : S1 X (.For tg (.Call (.Name "range" p) [ex] [] rp) body [] pos) σ B M E :=
  s1_of (ps_for hp hc (pi_range1 hg hm (pa_cons pe_w pa_nil ha2) ha) pg_w pss_w hs) fun H w D k1 k2 k3 k4 => h H w _ fun v B1 M1 H1 g1 ⟨n, hv, hn, I, i0, it, ie⟩ => ⟨(n : Int), by subst hv; rfl, by omega, by omega,
    for_range (lo := 0) (n := (n : Int).toNat) (fun i σ' H' => ∃ B' M', Gs B1 M1 H1 B' M' H' ∧ I i σ' B' M') ⟨B1, M1, Gs.id' g1.own, i0⟩
      (fun i σ' H' hi ⟨B', M', g, q⟩ => by
        have e0 : (0 : Int) + (i : Int) = (i : Int) := Int.zero_add _
        rw [e0]
        exact turn_go g (it i σ' B' M' (by omega) g.b q) (fun a b c d g3 z => ⟨b, c, g3, z⟩) (fun a b c d g3 z => k1 a b c d (g1.tr g3) z) (fun a b c d g3 z => k2 a b c d (g1.tr g3) z))
      (fun σ' H' ⟨B', M', g, q⟩ => by
        rw [Int.toNat_natCast] at q
        exact k1 _ _ _ _ (g1.tr g) (ie σ' B' M' g.b q))⟩
end
end LC
end LcStmt
section LcOps
set_option maxHeartbeats 4000000
/-! Operators of own classes, great ints. -/
namespace LC
open PySem PySem.W L2

/-! ### an int and an instance: the int gives up -/
def PlainAt (x : Addr) (s : Shared) : Prop := ∃ o, s.heap.get? x = some o ∧ o.data = .plain
theorem nint_add {i : Int} {t : Tok} {x : Addr} : GivesAt (PlainAt x) (Builtin.«int.__add__» ⟨[.int i t, .ref x], []⟩) (.val Value.notImplemented) := by
  rintro prog w A R s ⟨⟨oc, od, dt, sl⟩, ho, hd⟩ h
  cases hd
  obtain ⟨hp, g, d, tk, os⟩ := s
  wp_walk using AutoSeq1.wpAny_loadPart' ho
  exact h
theorem nint_sub {i : Int} {t : Tok} {x : Addr} : GivesAt (PlainAt x) (Builtin.«int.__sub__» ⟨[.int i t, .ref x], []⟩) (.val Value.notImplemented) := by
  rintro prog w A R s ⟨⟨oc, od, dt, sl⟩, ho, hd⟩ h
  cases hd
  obtain ⟨hp, g, d, tk, os⟩ := s
  wp_walk using AutoSeq1.wpAny_loadPart' ho
  exact h
section
variable {prog : Program} {w : World} {A : Around} {E : Value → Shared → Prop} {s : Shared} {K : Frag} {x y C C' L f : Addr} {h₀ : Heap} {m : Str → Option Value} {ox oy : Obj} {od od' : Option Obj}
theorem own_try {Q : Value → Shared → Prop} {name : Str} {b : Value} (X : K.In s.heap) (I : InstAt s.heap x ox C od) (hs : findIn K (.ref C) name = some (some (.ref f))) (hf : isFn K (.ref f) = true)
    (h : wpAny (model prog w) A (call (.ref f) [.ref x, b]) (CmpBack Q) E s) {R : Option Value → Shared → Prop} (hR : ∀ v s', Q v s' → R (some v) s') : wpAny (model prog w) A (tryMethod (.ref x) name b) R E s :=
  wpAny_mono (ksp_try X I hs hf h) (fun r s' ⟨v, e, q⟩ => by rw [e]; exact hR v s' q) fun _ _ z => z
/-- int op instance: the instance's reflected method -/
theorem own_rint {op : Operator} {i : Int} {t : Tok} {g : Addr} {idl : String} {Q : Value → Shared → Prop} (X : K.In s.heap) (I : InstAt s.heap x ox C od) (hc : selfFirst K C = true)
    (hs : findIn K (.ref C) (PySem.dunder op.info.2) = some (some (.ref g))) (hr : findIn K (.ref C) (dunderR op.info.2) = some (some (.ref f))) (hf : isFn K (.ref f) = true) (fills : fillsNumberSlot (.type "int") op.info.2 = pure true)
    (slot : Slot "int" (PySem.dunder op.info.2) idl) (gives : ∀ Q' : Value → Shared → Prop, Q' .notImplemented s → wpAny (model prog w) A (call (.builtin idl) [.int i t, .ref x]) Q' E s) (hsub : subIn K (.ref C) (.type "int") = some false)
    (h : wpAny (model prog w) A (call (.ref f) [.ref x, .int i t]) (CmpBack Q) E s) : wpAny (model prog w) A (binaryOp op (.int i t) (.ref x)) Q E s := by
  obtain ⟨cd, rest, hcd, hm⟩ := ksp_first hc
  rcases hi : op.info with ⟨sym, nm⟩
  rw [hi] at hs hr fills slot
  dsimp only at hs hr fills slot
  have two : wpAny (model prog w) A (tryMethod (.ref x) (dunderR nm) (.int i t)) (fun r s' => ∃ v, r = some v ∧ Q v s') E s := ksp_try X I hr hf h
  have one : ∀ {R : Option Value → Shared → Prop}, R none s → wpAny (model prog w) A (tryMethod (.int i t) (PySem.dunder nm) (.ref x)) R E s := fun {R} q =>
    wpAny_tryMethod_declines (typeIs_int s i t) slot (gives _ ⟨rfl, q⟩)
  have hne : (Value.type "int" == Value.ref C) = false := Bool.eq_false_iff.mpr fun q => by cases beq_iff_eq.mp q
  simp only [binaryOp, hi]
  refine wpAny_holding (wpAny_bind ?_)
  unfold binaryOp1
  refine wpAny_bind (wpAny_typeOf (typeIs_int s i t) (wpAny_bind (I.type.here (wpAny_bind (wpAny_of_eq fills ?_)))))
  simp only [hne, Bool.false_eq_true, if_false]
  refine wpAny_bind ((fills_K (nm := nm) X hcd hm hs).here ?_)
  simp only [Bool.and_self, if_true]
  refine wpAny_bind ((looks_subIn X hsub).here ?_)
  have hpy : numberSlotInPython (.type "int") nm = pure false := rfl
  simp only [Bool.false_eq_true, if_false, pure_bind, Bool.not_false, Bool.and_self, if_true, hpy]
  refine wpAny_bind (one ?_)
  refine wpAny_bind (wpAny_mono two (fun r s' q => ?_) fun _ _ z => z)
  obtain ⟨v, rfl, q⟩ := q
  exact wpAny_bind (wpAny_rule (wpAny_pure (wpAny_pure q)))
theorem own_rint_add {i : Int} {t : Tok} {g : Addr} {Q : Value → Shared → Prop} (X : K.In s.heap) (I : InstAt s.heap x ox C od) (hp : ox.data = .plain) (hc : selfFirst K C = true)
    (hs : findIn K (.ref C) "__add__" = some (some (.ref g))) (hr : findIn K (.ref C) "__radd__" = some (some (.ref f))) (hf : isFn K (.ref f) = true) (hsub : subIn K (.ref C) (.type "int") = some false)
    (h : wpAny (model prog w) A (call (.ref f) [.ref x, .int i t]) (CmpBack Q) E s) : wpAny (model prog w) A (binaryOp .Add (.int i t) (.ref x)) Q E s :=
  own_rint (op := .Add) X I hc hs hr hf F.fills_int_add F.slot_int_add (fun Q' q => call_givesAt F.slot_int_add (typeIs_int s i t) F.entry_int_add (F.args_int_add_2 _ _) nint_add ⟨ox, I.at_, hp⟩ q) hsub h
theorem own_rint_sub {i : Int} {t : Tok} {g : Addr} {Q : Value → Shared → Prop} (X : K.In s.heap) (I : InstAt s.heap x ox C od) (hp : ox.data = .plain) (hc : selfFirst K C = true)
    (hs : findIn K (.ref C) "__sub__" = some (some (.ref g))) (hr : findIn K (.ref C) "__rsub__" = some (some (.ref f))) (hf : isFn K (.ref f) = true) (hsub : subIn K (.ref C) (.type "int") = some false)
    (h : wpAny (model prog w) A (call (.ref f) [.ref x, .int i t]) (CmpBack Q) E s) : wpAny (model prog w) A (binaryOp .Sub (.int i t) (.ref x)) Q E s :=
  own_rint (op := .Sub) X I hc hs hr hf F.fills_int_sub F.slot_int_sub (fun Q' q => call_givesAt F.slot_int_sub (typeIs_int s i t) F.entry_int_sub (F.args_int_sub_2 _ _) nint_sub ⟨ox, I.at_, hp⟩ q) hsub h
/-- instance op instance of another class: the left one's method -/
theorem own_two {op : Operator} {g : Addr} {rc : Option Value} {Q : Value → Shared → Prop} (X : K.In s.heap) (I : InstAt s.heap x ox C od) (J : InstAt s.heap y oy C' od') (hne : C ≠ C') (hc : selfFirst K C = true) (hc' : selfFirst K C' = true)
    (hs : findIn K (.ref C) (PySem.dunder op.info.2) = some (some (.ref f))) (hf : isFn K (.ref f) = true) (hr : findIn K (.ref C) (dunderR op.info.2) = some rc) (hp : rc = none ∨ ∃ g : Addr, rc = some (.ref g))
    (hs' : findIn K (.ref C') (PySem.dunder op.info.2) = some (some (.ref g))) {rc' : Option Value} (hr' : findIn K (.ref C') (dunderR op.info.2) = some rc') (hp' : rc' = none ∨ ∃ g : Addr, rc' = some (.ref g)) (hsub : subIn K (.ref C') (.ref C) = some false)
    (h : wpAny (model prog w) A (call (.ref f) [.ref x, .ref y]) (CmpBack Q) E s) : wpAny (model prog w) A (binaryOp op (.ref x) (.ref y)) Q E s := by
  obtain ⟨cd, rest, hcd, hm⟩ := ksp_first hc
  obtain ⟨cd', rest', hcd', hm'⟩ := ksp_first hc'
  rcases hi : op.info with ⟨sym, nm⟩
  rw [hi] at hs hr hs' hr'
  dsimp only at hs hr hs' hr'
  have one := ksp_try (b := Value.ref y) X I hs hf h
  have hb : (Value.ref C == Value.ref C') = false := Bool.eq_false_iff.mpr fun q => hne (by cases beq_iff_eq.mp q; rfl)
  have p1 : Looks (model prog w) s.heap (numberSlotInPython (.ref C) nm) true := ksp_inPy X hs hr hp
  have p2 : Looks (model prog w) s.heap (numberSlotInPython (.ref C') nm) true := ksp_inPy X hs' hr' hp'
  simp only [binaryOp, hi]
  refine wpAny_holding (wpAny_bind ?_)
  unfold binaryOp1
  refine wpAny_bind (I.type.here (wpAny_bind (J.type.here (wpAny_bind ((fills_K (nm := nm) X hcd hm hs).here ?_)))))
  simp only [hb, Bool.false_eq_true, if_false]
  refine wpAny_bind ((fills_K (nm := nm) X hcd' hm' hs').here ?_)
  simp only [Bool.and_self, if_true]
  refine wpAny_bind ((looks_subIn X hsub).here ?_)
  simp only [Bool.false_eq_true, if_false, pure_bind, Bool.not_false, Bool.and_self, if_true]
  refine wpAny_bind (p1.here ?_)
  simp only [if_true]
  refine wpAny_bind (p2.here ?_)
  simp only [Bool.not_true, Bool.false_eq_true, if_false, pure_bind]
  refine wpAny_bind (wpAny_mono one (fun r s' q => ?_) fun _ _ z => z)
  obtain ⟨v, rfl, q⟩ := q
  exact wpAny_pure (wpAny_pure q)
end
end LC
end LcOps
section LcCall
set_option maxHeartbeats 4000000
/-! Promises over B and M, calls. -/
namespace LC
open PySem L2

/-- what a def asks and gives: arguments, B, M, what is wanted -/
abbrev Spc := List V → Hp → Hp → (V → Hp → Hp → Prop) → Prop
def MSp (S : Spc) : Sp := fun vs H Q _ => ∃ B M P, Own B M H ∧ S vs B M P ∧ ∀ v B' M' H', Gs B M H B' M' H' → P v B' M' → Q v H'
/-- a def of the text that keeps S, called with arguments behind which the defaults dvs fill up -/
structure Pr (P : Program) (w : World) (K : PySem.W.Frag) (mg : Str → Option Value) (base : Heap) (k : Nat) (f : Addr) (dvs : List V) (S : Spc) : Prop where
  ex : ∃ (fd : FuncData) (ps : List Str) (ds : List Value), FnOk P w K mg base CX0 k f fd ps (MSp S) ∧ Binds K fd ps ds ∧ Vals dvs ds
  kp : PySem.W.keepIn K (.ref f) = true
section
variable {P : Program} {w : World} {K : PySem.W.Frag} {mg : Str → Option Value} {base : Heap}
/-- a def's body -/
theorem body_ok {x qual : Str} {params : Arguments} {body : List Stmt} {scope : Scope} {dvs : List V} {kws : List (Str × V)} {f : Addr} {fd : FuncData} {N ps : List Str} {k : Nat} {S : Spc} (F : FunD K x qual params body scope dvs kws f fd) (Sc : FnScope N ps scope)
    (len : ∀ vs B M Q, S vs B M Q → vs.length = ps.length)
    (h : ∀ (cdv : Value) (A : Around) (outer : List Env) (s : Shared) (H : Hp) (E : XK) (vs : List V) (B M : Hp) (Q : V → Hp → Hp → Prop), Room k (A.deeper (PyProof.Rows.envOfC qual scope s.heap.objs.size f cdv)) → S vs B M Q →
      SM (cxOf CX0 P w K mg base N qual scope f cdv A outer s H E).nox body (start N vs) B M { nx := fun _ B' M' => Q .non B' M', rt := Q }) : FnOk P w K mg base CX0 (k + 1) f fd ps (MSp S) :=
  F.ok Sc (fun vs H Q E ⟨B, M, P', _, hs, _⟩ => len vs B M P' hs) fun cdv A outer s H vs Q E hr ⟨B, M, P', ow, hs, kq⟩ =>
    ⟨wB (cxOf CX0 P w K mg base N qual scope f cdv A outer s H E).nox body, PSs.nox pss_w, h cdv A outer s H E vs B M P' hr hs H ow _ (fun σ' B' M' H' g q => kq _ _ _ _ g q) (fun v B' M' H' g q => kq _ _ _ _ g q) (fun _ _ _ _ _ z => z) (fun _ _ _ _ _ z => z)⟩
end
section
variable {X : Cx} {k : Nat} {f C : Addr} {S : Spc} {dvs : List V} {x m : Str} {p pos apos : Pos} {e o a b : Expr} {es : List Expr} {σ : St} {B M : Hp} {P : V → Hp → Hp → Prop}
theorem cs_nox (h : ∀ H, Own B M H → ∀ Q : VK, (∀ v B' M' H', Gs B M H B' M' H' → P v B' M' → Q v H') → MSp S dvs H Q E0) : CM (fun vs H Q => MSp S vs H Q E0) dvs B M P := h
theorem cs_of (h : S dvs B M P) : CM (fun vs H Q => MSp S vs H Q E0) dvs B M P := fun H w Q k => ⟨B, M, P, w, h, k⟩
/-- f(e, ..) -/
theorem em_call (F : Pr X.prog X.w X.K X.mg X.base k f dvs S) (hr : Room k X.A) (hm : X.mg x = some (.ref f)) (h : AM X (e :: es) σ B M fun vs B1 M1 => S (vs ++ dvs) B1 M1 P) (hg : Gl X x := by rfl)
    (hdb : (x == ("__debug__" : Str)) = false := by decide) (he : starEach (e :: es) X.env = (false, eval e X.env) :: starEach es X.env := by rfl) (hpl : (backTo pos (starEach es X.env)).any (·.1) = false := by rfl) : EM X (.Call (.Name x p) (e :: es) [] pos) σ B M P := by
  obtain ⟨fd, ps, ds, G, hb, hd⟩ := F.ex
  exact em_of (pe_call G hr hg hm F.kp hb hd pass0 pa_w hdb he hpl) fun H w Q kq => h H w _ fun vs B1 M1 H1 g q => ⟨B1, M1, P, g.own, q, fun v B2 M2 H2 g2 q2 => kq v B2 M2 H2 (g.tr g2) q2⟩
/-- o.m(e, ..), o.m() -/
theorem em_meth (F : Pr X.prog X.w X.K X.mg X.base k f dvs S) (hr : Room k X.A) (c : Cls X.K C) (hm : Meth X.K C m f) {pl : Sem Bool}
    (h : EM X o σ B M fun x B1 M1 => ∃ a dx fs, x = .ref a ∧ jn B1 M1 a = some (.ins C dx fs) ∧ fs.lookup m = none ∧ AM X (e :: es) σ B1 M1 fun vs B2 M2 => S (x :: (vs ++ dvs)) B2 M2 P)
    (hst : starEach (e :: es) X.env = (false, eval e X.env) :: starEach es X.env := by rfl) (hpl : (backTo pos (starEach es X.env)).any (·.1) = false := by rfl)
    (ht : eval (.Call (.Attribute o m apos) (e :: es) [] pos) X.env = (do
      let ov ← eval o X.env
      standAt apos.atName
      let (f, first) ← holding [ov] (getMethod ov m pl)
      callWith pos f first (backTo pos (starEach (e :: es) X.env)) (backToKw pos (keywordEach [] X.env))) := by rfl) : EM X (.Call (.Attribute o m apos) (e :: es) [] pos) σ B M P := by
  obtain ⟨fd, ps, ds, G, hb, hd⟩ := F.ex
  exact em_of (pe_meth pe_w c hm G hr hb hd pass0 pa_w hst hpl ht) fun H w Q kq => h H w _ fun x B1 M1 H1 g ⟨a, dx, fs, hx, hj, hl, q⟩ => ⟨a, dx, fs, hx, g.own.jn _ _ hj, hl, q H1 g.own _ fun vs B2 M2 H2 g2 q2 =>
    ⟨B2, M2, P, g2.own, q2, fun v B3 M3 H3 g3 q3 => kq v B3 M3 H3 ((g.tr g2).tr g3) q3⟩⟩
theorem em_meth0 (F : Pr X.prog X.w X.K X.mg X.base k f dvs S) (hr : Room k X.A) (c : Cls X.K C) (hm : Meth X.K C m f) {pl : Sem Bool}
    (h : EM X o σ B M fun x B1 M1 => ∃ a dx fs, x = .ref a ∧ jn B1 M1 a = some (.ins C dx fs) ∧ fs.lookup m = none ∧ S (x :: dvs) B1 M1 P)
    (ht : eval (.Call (.Attribute o m apos) [] [] pos) X.env = (do
      let ov ← eval o X.env
      standAt apos.atName
      let (f, first) ← holding [ov] (getMethod ov m pl)
      callWith pos f first (backTo pos (starEach [] X.env)) (backToKw pos (keywordEach [] X.env))) := by rfl) : EM X (.Call (.Attribute o m apos) [] [] pos) σ B M P := by
  obtain ⟨fd, ps, ds, G, hb, hd⟩ := F.ex
  exact em_of (pe_meth0 pe_w c hm G hr hb hd pass0 ht) fun H w Q kq => h H w _ fun x B1 M1 H1 g ⟨a, dx, fs, hx, hj, hl, q⟩ => ⟨a, dx, fs, hx, g.own.jn _ _ hj, hl,
    ⟨B1, M1, P, g.own, q, fun v B3 M3 H3 g3 q3 => kq v B3 M3 H3 (g.tr g3) q3⟩⟩
/-- C(e, ..), C(): the new instance is owned -/
theorem make_go {H : Hp} {Q : VK} {vs : List V} (w : Own B M H) (kq : ∀ v B' M' H', Gs B M H B' M' H' → P v B' M' → Q v H')
    (h : ∀ x dx, B x = none → M x = none → B dx = none → M dx = none → dx ≠ x → S (.ref x :: (vs ++ dvs)) (upd B dx (.own x)) (upd M x (.ins C dx [])) fun v B' M' => v = .non ∧ P (.ref x) B' M') :
    ∀ x dx, H x = none → H dx = none → dx ≠ x → MSp S (.ref x :: (vs ++ dvs)) (upd (upd H dx (.own x)) x (.ins C dx [])) (fun v H2 => v = .non ∧ Q (.ref x) H2) E0 := fun x dx hx hdx ne => by
  obtain ⟨b1, m1⟩ := w.fresh hx
  obtain ⟨b2, m2⟩ := w.fresh hdx
  have g1 := Gs.newB (o := .own x) w hdx
  have g2 : Gs (upd B dx (.own x)) M (upd H dx (.own x)) (upd B dx (.own x)) (upd M x (.ins C dx [])) (upd (upd H dx (.own x)) x (.ins C dx [])) := Gs.newM g1.own (by rw [upd_ne ne.symm]; exact hx)
  exact ⟨_, _, _, g2.own, h x dx b1 m1 b2 m2 ne, fun v B' M' H' g ⟨e, q⟩ => ⟨e, kq _ _ _ _ ((g1.tr g2).tr g) q⟩⟩
theorem em_make (F : Pr X.prog X.w X.K X.mg X.base k f dvs S) (hr : Room (k + 1) X.A) (Mk' : Mk X.K C f) (hm : X.mg x = some (.ref C))
    (h : AM X (e :: es) σ B M fun vs B1 M1 => ∀ x dx, B1 x = none → M1 x = none → B1 dx = none → M1 dx = none → dx ≠ x → S (.ref x :: (vs ++ dvs)) (upd B1 dx (.own x)) (upd M1 x (.ins C dx [])) fun v B' M' => v = .non ∧ P (.ref x) B' M') (hg : Gl X x := by rfl)
    (hdb : (x == ("__debug__" : Str)) = false := by decide) (he : starEach (e :: es) X.env = (false, eval e X.env) :: starEach es X.env := by rfl) (hpl : (backTo pos (starEach es X.env)).any (·.1) = false := by rfl) : EM X (.Call (.Name x p) (e :: es) [] pos) σ B M P := by
  obtain ⟨fd, ps, ds, G, hb, hd⟩ := F.ex
  exact em_of (pe_make Mk' G hr hg hm hb hd pass0 pa_w hdb he hpl) fun H w Q kq => h H w _ fun vs B1 M1 H1 g q => make_go g.own (fun v B' M' H' g2 => kq v B' M' H' (g.tr g2)) q
theorem em_make0 (F : Pr X.prog X.w X.K X.mg X.base k f dvs S) (hr : Room (k + 1) X.A) (Mk' : Mk X.K C f) (hm : X.mg x = some (.ref C))
    (h : ∀ x dx, B x = none → M x = none → B dx = none → M dx = none → dx ≠ x → S (.ref x :: dvs) (upd B dx (.own x)) (upd M x (.ins C dx [])) fun v B' M' => v = .non ∧ P (.ref x) B' M') (hg : Gl X x := by rfl)
    (hdb : (x == ("__debug__" : Str)) = false := by decide) : EM X (.Call (.Name x p) [] [] pos) σ B M P := by
  obtain ⟨fd, ps, ds, G, hb, hd⟩ := F.ex
  exact em_of (pe_make0 Mk' G hr hg hm hb hd pass0 hdb) fun H w Q kq => make_go (vs := []) w kq h

/-! ### operators -/
theorem cb_of {pins : List (Addr × Obj)} {Q : VK} {u : Value} {s' : Shared} (h : EP X pins σ Q u s') : PySem.W.CmpBack (EP X pins σ Q) u s' := by
  obtain ⟨v, H', I, r, q⟩ := id h
  cases u with
  | notImplemented =>
    cases v with
    | int i => obtain ⟨t, z⟩ := (show ∃ t, Value.notImplemented = Value.int i t from r); cases z
    | str y => obtain ⟨t, z⟩ := (show ∃ t, Value.notImplemented = Value.str y t from r); cases z
    | byt y => obtain ⟨t, z⟩ := (show ∃ t, Value.notImplemented = Value.bytes y t from r); cases z
    | flt y => obtain ⟨t, z⟩ := (show ∃ t, Value.notImplemented = Value.float y t from r); cases z
    | non => cases (show Value.notImplemented = Value.none from r)
    | bl y => cases (show Value.notImplemented = Value.bool y from r)
    | ref y => cases (show Value.notImplemented = Value.ref y from r)
    | ty y => cases (show Value.notImplemented = Value.type y from r)
  | _ => exact h
/-- an own class's words for the operators -/
structure OpC (K : PySem.W.Frag) (C : Addr) (nm : String) (f : Addr) : Prop where
  first : PySem.W.selfFirst K C = true
  at_ : PySem.W.findIn K (.ref C) (PySem.dunder nm) = some (some (.ref f))
  fn : PySem.W.isFn K (.ref f) = true
  ref : ∃ rc, PySem.W.findIn K (.ref C) (PySem.dunderR nm) = some rc ∧ (rc = none ∨ ∃ g : Addr, rc = some (.ref g))
/-- .. beside ints -/
structure OpI (K : PySem.W.Frag) (C : Addr) (nm : String) : Prop where
  sub : PySem.W.subIn K (.type "int") (.ref C) = some false
  l : ∃ fo, PySem.W.findIn K (.type "int") (PySem.dunder nm) = some fo
  r : ∃ ro, PySem.W.findIn K (.type "int") (PySem.dunderR nm) = some ro
theorem inst_of {pins : List (Addr × Obj)} {H : Hp} {s : Shared} {a dx : Addr} {fs : List (Str × V)} (I : Inv X pins σ H s) (h : H a = some (.ins C dx fs)) : ∃ od, PySem.W.InstAt s.heap a (PySem.W.instObj C dx) C (some od) := by
  obtain ⟨mA, O, _⟩ := ins_get I.hok h
  obtain ⟨od, J, _⟩ := O.look
  exact ⟨od, J⟩
/-- x op y, both of one own class -/
def rOwn (C : Addr) (S : Spc) : R2 := fun x y H Q => (∃ a dx fs, x = .ref a ∧ H a = some (.ins C dx fs)) ∧ (∃ a dx fs, y = .ref a ∧ H a = some (.ins C dx fs)) ∧ MSp S [x, y] H Q E0
theorem op_own {op : Operator} (F : Pr X.prog X.w X.K X.mg X.base k f [] S) (hr : Room k X.A) (c : OpC X.K C op.info.2 f) : OpR X (binaryOp op) (rOwn C S) := by
  rintro pins s σ H x y u v Q I rx ry ⟨⟨a, dx, fs, rfl, ha⟩, ⟨b, dy, gs, rfl, hb⟩, q⟩
  cases rx
  cases ry
  obtain ⟨fd, ps, ds, G, hbd, hd⟩ := F.ex
  obtain ⟨od, J⟩ := inst_of I ha
  obtain ⟨od', J'⟩ := inst_of I hb
  obtain ⟨m, Fr⟩ := I.fr
  exact PySem.W.binop_K Fr I.ok.mod.kin J J'.type c.first c.at_ c.fn (thn (run_fn (vs := [.ref a, .ref b]) G hr hbd hd pass0 I (.cons rfl (.cons rfl .nil)) q) fun u s' z => cb_of z)
/-- x op y, y an int -/
def rOwnI (C : Addr) (S : Spc) : R2 := fun x y H Q => (∃ a dx fs, x = .ref a ∧ H a = some (.ins C dx fs)) ∧ (∃ i, y = .int i) ∧ MSp S [x, y] H Q E0
theorem op_ownI {op : Operator} (F : Pr X.prog X.w X.K X.mg X.base k f [] S) (hr : Room k X.A) (c : OpC X.K C op.info.2 f) (ci : OpI X.K C op.info.2) : OpR X (binaryOp op) (rOwnI C S) := by
  rintro pins s σ H x y u v Q I rx ry ⟨⟨a, dx, fs, rfl, ha⟩, ⟨i, rfl⟩, q⟩
  cases rx
  obtain ⟨t, rfl⟩ := ry
  obtain ⟨fd, ps, ds, G, hbd, hd⟩ := F.ex
  obtain ⟨od, J⟩ := inst_of I ha
  obtain ⟨m, Fr⟩ := I.fr
  obtain ⟨rc, r1, r2⟩ := c.ref
  obtain ⟨fo, l1⟩ := ci.l
  obtain ⟨ro, l2⟩ := ci.r
  exact PySem.W.ksp_binT (T := "int") Fr I.ok.mod.kin J rfl c.first c.at_ c.fn r1 r2 l1 l2 ci.sub (thn (run_fn (vs := [.ref a, .int i]) G hr hbd hd pass0 I (.cons rfl (.cons ⟨t, rfl⟩ .nil)) q) fun u s' z => cb_of z)
/-- x op y, y of another own class -/
def rOwnT (C C' : Addr) (S : Spc) : R2 := fun x y H Q => (∃ a dx fs, x = .ref a ∧ H a = some (.ins C dx fs)) ∧ (∃ a dx fs, y = .ref a ∧ H a = some (.ins C' dx fs)) ∧ MSp S [x, y] H Q E0
theorem op_ownT {op : Operator} {C' g : Addr} (F : Pr X.prog X.w X.K X.mg X.base k f [] S) (hr : Room k X.A) (c : OpC X.K C op.info.2 f) (c' : OpC X.K C' op.info.2 g) (hne : C ≠ C') (hsub : PySem.W.subIn X.K (.ref C') (.ref C) = some false) : OpR X (binaryOp op) (rOwnT C C' S) := by
  rintro pins s σ H x y u v Q I rx ry ⟨⟨a, dx, fs, rfl, ha⟩, ⟨b, dy, gs, rfl, hb⟩, q⟩
  cases rx
  cases ry
  obtain ⟨fd, ps, ds, G, hbd, hd⟩ := F.ex
  obtain ⟨od, J⟩ := inst_of I ha
  obtain ⟨od', J'⟩ := inst_of I hb
  obtain ⟨rc, r1, r2⟩ := c.ref
  obtain ⟨rc', r1', r2'⟩ := c'.ref
  exact own_two I.kIn J J' hne c.first c'.first c.at_ c.fn r1 r2 c'.at_ r1' r2' hsub (thn (run_fn (vs := [.ref a, .ref b]) G hr hbd hd pass0 I (.cons rfl (.cons rfl .nil)) q) fun u s' z => cb_of z)
/-- int op instance -/
def rRef (C : Addr) (S : Spc) : R2 := fun x y H Q => (∃ i, x = .int i) ∧ (∃ a dx fs, y = .ref a ∧ H a = some (.ins C dx fs)) ∧ MSp S [y, x] H Q E0
theorem op_radd {g : Addr} (F : Pr X.prog X.w X.K X.mg X.base k f [] S) (hr : Room k X.A) (c : OpC X.K C "add" g) (hR : PySem.W.findIn X.K (.ref C) "__radd__" = some (some (.ref f))) (hf : PySem.W.isFn X.K (.ref f) = true) (hsub : PySem.W.subIn X.K (.ref C) (.type "int") = some false) : OpR X (binaryOp .Add) (rRef C S) := by
  rintro pins s σ H x y u v Q I rx ry ⟨⟨i, rfl⟩, ⟨b, dy, gs, rfl, hb⟩, q⟩
  obtain ⟨t, rfl⟩ := rx
  cases ry
  obtain ⟨fd, ps, ds, G, hbd, hd⟩ := F.ex
  obtain ⟨od', J'⟩ := inst_of I hb
  exact own_rint_add I.kIn J' rfl c.first c.at_ hR hf hsub (thn (run_fn (vs := [.ref b, .int i]) G hr hbd hd pass0 I (.cons rfl (.cons ⟨t, rfl⟩ .nil)) q) fun u s' z => cb_of z)
theorem op_rsub {g : Addr} (F : Pr X.prog X.w X.K X.mg X.base k f [] S) (hr : Room k X.A) (c : OpC X.K C "sub" g) (hR : PySem.W.findIn X.K (.ref C) "__rsub__" = some (some (.ref f))) (hf : PySem.W.isFn X.K (.ref f) = true) (hsub : PySem.W.subIn X.K (.ref C) (.type "int") = some false) : OpR X (binaryOp .Sub) (rRef C S) := by
  rintro pins s σ H x y u v Q I rx ry ⟨⟨i, rfl⟩, ⟨b, dy, gs, rfl, hb⟩, q⟩
  obtain ⟨t, rfl⟩ := rx
  cases ry
  obtain ⟨fd, ps, ds, G, hbd, hd⟩ := F.ex
  obtain ⟨od', J'⟩ := inst_of I hb
  exact own_rint_sub I.kIn J' rfl c.first c.at_ hR hf hsub (thn (run_fn (vs := [.ref b, .int i]) G hr hbd hd pass0 I (.cons rfl (.cons ⟨t, rfl⟩ .nil)) q) fun u s' z => cb_of z)
/-- -x -/
def rNeg (C : Addr) (S : Spc) : V → Hp → VK → Prop := fun x H Q => (∃ a dx fs, x = .ref a ∧ H a = some (.ins C dx fs)) ∧ MSp S [x] H Q E0
theorem un_own (F : Pr X.prog X.w X.K X.mg X.base k f [] S) (hr : Room k X.A) (hs : PySem.W.findIn X.K (.ref C) "__neg__" = some (some (.ref f))) (hf : PySem.W.isFn X.K (.ref f) = true) : UnR X (unaryOp .USub) (rNeg C S) := by
  rintro pins s σ H x u Q I rx ⟨⟨a, dx, fs, rfl, ha⟩, q⟩
  cases rx
  obtain ⟨fd, ps, ds, G, hbd, hd⟩ := F.ex
  obtain ⟨od, J⟩ := inst_of I ha
  obtain ⟨m, Fr⟩ := I.fr
  exact PySem.W.ksp_neg Fr I.ok.mod.kin J hs hf (run_fn (vs := [.ref a]) G hr hbd hd pass0 I (.cons rfl .nil) q)
/-- the readings -/
theorem om_own {S : Spc} {x y : V} {C : Addr} (h1 : ∃ a dx fs, x = .ref a ∧ jn B M a = some (.ins C dx fs)) (h2 : ∃ a dx fs, y = .ref a ∧ jn B M a = some (.ins C dx fs)) (h : S [x, y] B M P) : OM (rOwn C S) x y B M P := fun H w Q k =>
  ⟨let ⟨a, dx, fs, e, j⟩ := h1; ⟨a, dx, fs, e, w.jn _ _ j⟩, let ⟨a, dx, fs, e, j⟩ := h2; ⟨a, dx, fs, e, w.jn _ _ j⟩, cs_of h H w Q k⟩
theorem om_ownI {S : Spc} {x : V} {i : Int} {C : Addr} (h1 : ∃ a dx fs, x = .ref a ∧ jn B M a = some (.ins C dx fs)) (h : S [x, .int i] B M P) : OM (rOwnI C S) x (.int i) B M P := fun H w Q k =>
  ⟨let ⟨a, dx, fs, e, j⟩ := h1; ⟨a, dx, fs, e, w.jn _ _ j⟩, ⟨i, rfl⟩, cs_of h H w Q k⟩
theorem om_ownT {S : Spc} {x y : V} {C C' : Addr} (h1 : ∃ a dx fs, x = .ref a ∧ jn B M a = some (.ins C dx fs)) (h2 : ∃ a dx fs, y = .ref a ∧ jn B M a = some (.ins C' dx fs)) (h : S [x, y] B M P) : OM (rOwnT C C' S) x y B M P := fun H w Q k =>
  ⟨let ⟨a, dx, fs, e, j⟩ := h1; ⟨a, dx, fs, e, w.jn _ _ j⟩, let ⟨a, dx, fs, e, j⟩ := h2; ⟨a, dx, fs, e, w.jn _ _ j⟩, cs_of h H w Q k⟩
theorem om_ref {S : Spc} {y : V} {i : Int} {C : Addr} (h2 : ∃ a dx fs, y = .ref a ∧ jn B M a = some (.ins C dx fs)) (h : S [y, .int i] B M P) : OM (rRef C S) (.int i) y B M P := fun H w Q k =>
  ⟨⟨i, rfl⟩, let ⟨a, dx, fs, e, j⟩ := h2; ⟨a, dx, fs, e, w.jn _ _ j⟩, cs_of h H w Q k⟩
theorem om_neg {S : Spc} {x : V} {C : Addr} (h1 : ∃ a dx fs, x = .ref a ∧ jn B M a = some (.ins C dx fs)) (h : S [x] B M P) : Emt (rNeg C S x) B M P := fun H w Q k =>
  ⟨let ⟨a, dx, fs, e, j⟩ := h1; ⟨a, dx, fs, e, w.jn _ _ j⟩, cs_of h H w Q k⟩
theorem OM.inl {r r' : R2} {x y : V} (h : OM r x y B M P) : OM (fun x y H Q => r x y H Q ∨ r' x y H Q) x y B M P := fun H w Q k => .inl (h H w Q k)
theorem OM.inr {r r' : R2} {x y : V} (h : OM r' x y B M P) : OM (fun x y H Q => r x y H Q ∨ r' x y H Q) x y B M P := fun H w Q k => .inr (h H w Q k)

/-! ### ints -/
theorem om_I0 {g : Int → Int → V} {i j : Int} (h : P (g i j) B M) : OM (rI0 g) (.int i) (.int j) B M P := fun H w Q k => ⟨i, j, rfl, rfl, k _ _ _ _ (Gs.id' w) h⟩
theorem om_I {Cn : Int → Int → Prop} {g : Int → Int → V} {i j : Int} (c : Cn i j) (h : P (g i j) B M) : OM (rI Cn g) (.int i) (.int j) B M P := fun H w Q k => ⟨i, j, rfl, rfl, c, k _ _ _ _ (Gs.id' w) h⟩
theorem om_U {g : Int → V} {i : Int} (h : P (g i) B M) : Emt (rU g (.int i)) B M P := fun H w Q k => ⟨i, rfl, k _ _ _ _ (Gs.id' w) h⟩
theorem om_eq {x y : V} (hs : scal x y = true) (h : P (.bl (decide (x = y))) B M) : OM rEq x y B M P := fun H w Q k => ⟨hs, k _ _ _ _ (Gs.id' w) h⟩
theorem om_ne {x y : V} (hs : scal x y = true) (h : P (.bl (!decide (x = y))) B M) : OM rNe x y B M P := fun H w Q k => ⟨hs, k _ _ _ _ (Gs.id' w) h⟩
/-- * of great ints -/
def CMulX (i j : Int) : Prop := i.natAbs.log2 + j.natAbs.log2 + 2 ≤ 134217728
theorem CMulX.ok {i j : Int} (h : CMulX i j) : IntMulOk i j := by
  have b : ∀ x : Int, Builtin.Int.intBits x ≤ x.natAbs.log2 + 1 := fun x => by
    unfold Builtin.Int.intBits
    split <;> omega
  have h1 := b i
  have h2 := b j
  have h3 : i.natAbs.log2 + j.natAbs.log2 + 2 ≤ 134217728 := h
  have e : bitsLine = 134217728 := by decide
  unfold IntMulOk Builtin.Int.intTooBig
  rw [e]
  simp only [Bool.and_eq_true, decide_eq_true_eq, not_and]
  intro _
  omega
theorem op_mulX : OpR X (binaryOp .Mult) (rI CMulX fun i j => .int (i * j)) := opI fun _ _ _ _ _ _ _ hc q => PyProof.Rows.mul_int q hc.ok
/-- // of great ints, where the frames leave room -/
structure DivOk (X : Cx) : Prop where
  seer : X.base.NoSeer
  tree : X.prog.given.tree = none
  stk : X.stack = X.env :: X.outer
  gen : X.env.scope.isGenerator = false
  co : X.env.scope.isCoroutine = false
  dp : X.A.depth + Builtin.pylongFrames < recursionLimit
theorem op_fdivX (d : DivOk X) : OpR X (binaryOp .FloorDiv) (rI (fun _ j => j ≠ 0) fun i j => .int (i.fdiv j)) := by
  rintro pins s σ H x y v u Q I rx ry ⟨i, j, rfl, rfl, hj, q⟩
  obtain ⟨t, rfl⟩ := rx
  obtain ⟨t', rfl⟩ := ry
  refine PyProof.Rows.floordiv_int hj ⟨.int _, H, I.tok _, ⟨_, rfl⟩, q⟩ (.inr (PylongRoom.of I.nolimit d.dp ?_))
  exact SeerAt.of (d.seer.keeps I.bk) d.tree (by rw [I.ok.frames, d.stk]) d.gen d.co I.ok.blt I.ok.glob
end
end LC
end LcCall
section LcComp
set_option maxHeartbeats 4000000
/-! Comprehensions, walks of dicts. -/
namespace LC
open PySem L2

/-- in every block of the comprehension -/
abbrev Blk (X : Cx) (scope : Scope) (s : Shared) (H0 : Hp) (C : Addr) (cl : List (Str × Addr)) (fp : List Addr) : Cx := X.blk s H0 scope (compEnvC scope cl C X.env) fp
def bE (X : Cx) (scope : Scope) (e : Expr) : TE := fun σ H Q => ∀ s H0 C cl fp, wE (Blk X scope s H0 C cl fp) e σ H Q
def bG (X : Cx) (scope : Scope) (tg : Expr) : TG := fun v σ H Q => ∀ s H0 C cl fp, wG (Blk X scope s H0 C cl fp) tg v σ H Q
def testsOf (ifs : List Expr) (env : Env) : Sem Bool := forIn ifs true fun c r =>
  if r = true then isTrue c env (eval c env) >>= fun ok => pure (ForInStep.yield ok) else pure (ForInStep.yield r)
def wTs (X : Cx) (ifs : List Expr) : TT := fun σ H Q => ∀ (pins : List (Addr × Obj)) (s : Shared), Inv X pins σ H s → wpAny (model X.prog X.w) X.A (testsOf ifs X.env) (TP X pins σ Q) X.xe s
def bT (X : Cx) (scope : Scope) (ifs : List Expr) : TT := fun σ H Q => ∀ s H0 C cl fp, wTs (Blk X scope s H0 C cl fp) ifs σ H Q
section
variable {X : Cx} {scope : Scope} {e tg c kx vx : Expr} {ifs : List Expr} {σ : St} {B M : Hp} {v : V}
theorem bE_pe (s : Shared) (H0 : Hp) (C : Addr) (cl : List (Str × Addr)) (fp : List Addr) : PE (X.blk s H0 scope (compEnvC scope cl C X.env) fp) e (bE X scope e) := ⟨fun pins s1 _ _ _ I h => h s H0 C cl fp pins s1 I⟩
theorem bG_pg (s : Shared) (H0 : Hp) (C : Addr) (cl : List (Str × Addr)) (fp : List Addr) : PG (X.blk s H0 scope (compEnvC scope cl C X.env) fp) tg (bG X scope tg) := ⟨fun pins s1 _ _ _ u _ I r h => h s H0 C cl fp pins s1 u I r⟩
theorem bT_pt (s : Shared) (H0 : Hp) (C : Addr) (cl : List (Str × Addr)) (fp : List Addr) : PTs (X.blk s H0 scope (compEnvC scope cl C X.env) fp) ifs (bT X scope ifs) := ⟨fun pins s1 _ _ _ I h => h s H0 C cl fp pins s1 I⟩
theorem be_of {P : V → Hp → Hp → Prop} (h : ∀ s H0 C cl fp, EM (Blk X scope s H0 C cl fp) e σ B M P) : Emt (bE X scope e σ) B M P := fun H w Q k s H0 C cl fp => h s H0 C cl fp H w Q k
theorem bg_of {P : St → Hp → Hp → Prop} (h : ∀ s H0 C cl fp, GM (Blk X scope s H0 C cl fp) tg v σ B M P) : Emt (fun H Q => bG X scope tg v σ H Q) B M P := fun H w Q k s H0 C cl fp => h s H0 C cl fp H w Q k
theorem bt_nil {P : Bool → Hp → Hp → Prop} (h : P true B M) : Emt (bT X scope [] σ) B M P := fun H w Q k s H0 C cl fp pins s1 I => pts_nil.run pins s1 σ H Q I (k true B M H (Gs.id' w) h)
theorem bt_one {P : Bool → Hp → Hp → Prop} (h : ∀ s H0 C cl fp, TM (Blk X scope s H0 C cl fp) c σ B M P) : Emt (bT X scope [c] σ) B M P := fun H w Q k s H0 C cl fp pins s1 I =>
  (pts_one (X := Blk X scope s H0 C cl fp) pt_w).run pins s1 σ H Q I (h s H0 C cl fp H w Q k)
/-- one turn of a list comprehension: J' what holds behind it, D the list -/
def TurnC (X : Cx) (scope : Scope) (tg : Expr) (ifs : List Expr) (e : Expr) (D : Addr) (vs : List Nat) (x : V) (σ : St) (B M : Hp) (J : List V → Hp → Hp → Prop) (acc : List V) : Prop :=
  Emt (fun H Q => bG X scope tg x (wipe σ vs) H Q) B M fun σ2 B2 M2 => wipe σ2 vs = wipe σ vs ∧ Emt (bT X scope ifs σ2) B2 M2 fun k B3 M3 => if k = true then Emt (bE X scope e σ2) B3 M3 fun y B4 M4 => M4 D = some (.lst acc) ∧ acc.length < sizeLine ∧ J (acc ++ [y]) B4 (upd M4 D (.lst (acc ++ [y]))) else J acc B3 M3
theorem turnC_go {D : Addr} {vs : List Nat} {x : V} {J : List V → Hp → Hp → Prop} {acc : List V} {B1 M1 H1 : Hp} {H : Hp} {Nx : Hp → Prop} (g1 : Gs B M H B1 M1 H1) (h : TurnC X scope tg ifs e D vs x σ B1 M1 J acc) (kN : ∀ acc' B' M' H', Gs B M H B' M' H' → J acc' B' M' → Nx H') :
    bG X scope tg x (wipe σ vs) H1 fun σ2 H2 => wipe σ2 vs = wipe σ vs ∧ bT X scope ifs σ2 H2 fun b H3 => if b = true then bE X scope e σ2 H3 fun y H4 => ∃ acc, H4 D = some (.lst acc) ∧ acc.length < sizeLine ∧ Nx (upd H4 D (.lst (acc ++ [y]))) else Nx H3 :=
  h H1 g1.own _ fun σ2 B2 M2 H2 g2 ⟨hw, q⟩ => ⟨hw, q H2 g2.own _ fun k B3 M3 H3 g3 q3 => by
    cases k with
    | false => exact kN _ _ _ _ (g1.tr (g2.tr g3)) q3
    | true => exact q3 H3 g3.own _ fun y B4 M4 H4 g4 ⟨hD, hl, q4⟩ => ⟨acc, (g4.own.m D _ hD).1, hl, kN _ _ _ _ ((g1.tr (g2.tr (g3.tr g4))).tr (Gs.setM g4.own hD)) q4⟩⟩
/-- the reading of a list comprehension over a list -/
theorem lcl_read {src : Expr} {vs : List Nat} {P : V → Hp → Hp → Prop}
    (h : EM X src σ B M fun v B1 M1 => ∃ a xs, v = .ref a ∧ SqL X.K (jn B1 M1) a xs ∧ ∀ D, B1 D = none → M1 D = none → ∃ J : Nat → List V → Hp → Hp → Prop, J 0 [] B1 (upd M1 D (.lst [])) ∧ (∀ i acc B' M', i ≤ xs.length → J i acc B' M' → SqL X.K (jn B' M') a xs) ∧
      (∀ i x acc B' M', xs[i]? = some x → Ex B1 B' → J i acc B' M' → TurnC X scope tg ifs e D vs x σ B' M' (J (i + 1)) acc) ∧ ∀ acc B' M', Ex B1 B' → J xs.length acc B' M' → P (.ref D) B' M') :
    Emt (tLc (iList X.K (wE X src)) (bG X scope tg) (bT X scope ifs) (bE X scope e) vs σ) B M P := fun H w Q k =>
  h H w _ fun v B1 M1 H1 g ⟨a, xs, hv, hx, q⟩ => ⟨a, hv, ⟨xs, sql_up g.own.jn hx⟩, fun D hD => by
    obtain ⟨b0, m0⟩ := g.own.fresh hD
    obtain ⟨J, j0, jl, jt, je⟩ := q D b0 m0
    exact lc_list (xs := xs) (fun i H' => ∃ acc B' M', Gs B1 M1 H1 B' M' H' ∧ J i acc B' M') ⟨[], _, _, Gs.newM g.own hD, j0⟩ (fun i H' hi ⟨acc, B', M', g', q'⟩ => sql_up g'.own.jn (jl i acc B' M' hi q'))
      (fun i x H' hi ⟨acc, B', M', g', q'⟩ => turnC_go g' (jt i x acc B' M' hi g'.b q') fun acc' B2 M2 H2 g2 z => ⟨acc', B2, M2, g2, z⟩) (fun H' ⟨acc, B', M', g', q'⟩ => k _ _ _ _ (g.tr g') (je acc B' M' g'.b q'))⟩
theorem lcr_read {ex : Expr} {vs : List Nat} {P : V → Hp → Hp → Prop}
    (h : EM X ex σ B M fun v B1 M1 => ∃ n : Nat, v = .int n ∧ n ≤ 1000000 ∧ ∀ D, B1 D = none → M1 D = none → ∃ J : Nat → List V → Hp → Hp → Prop, J 0 [] B1 (upd M1 D (.lst [])) ∧
      (∀ (i : Nat) acc B' M', i < n → Ex B1 B' → J i acc B' M' → TurnC X scope tg ifs e D vs (.int i) σ B' M' (J (i + 1)) acc) ∧ ∀ acc B' M', Ex B1 B' → J n acc B' M' → P (.ref D) B' M') :
    Emt (tLc (iRng1 (tCons (wE X ex) tNil)) (bG X scope tg) (bT X scope ifs) (bE X scope e) vs σ) B M P := fun H w Q k =>
  h H w _ fun v B1 M1 H1 g ⟨n, hv, hn, q⟩ => ⟨(n : Int), by subst hv; rfl, by omega, by omega, fun D hD => by
    obtain ⟨b0, m0⟩ := g.own.fresh hD
    obtain ⟨J, j0, jt, je⟩ := q D b0 m0
    refine lc_range (lo := 0) (n := (n : Int).toNat) (fun i H' => ∃ acc B' M', Gs B1 M1 H1 B' M' H' ∧ J i acc B' M') ⟨[], _, _, Gs.newM g.own hD, j0⟩ (fun i H' hi ⟨acc, B', M', g', q'⟩ => ?_) (fun H' ⟨acc, B', M', g', q'⟩ => ?_)
    · rw [Int.zero_add]
      exact turnC_go g' (jt i acc B' M' (by omega) g'.b q') fun acc' B2 M2 H2 g2 z => ⟨acc', B2, M2, g2, z⟩
    · rw [Int.toNat_natCast] at q'
      exact k _ _ _ _ (g.tr g') (je acc B' M' g'.b q')⟩
/-- [e for tg in src if ..] -/
theorem em_lcl {src : Expr} {own : List (Str × Nat)} {pos : Pos} {P : V → Hp → Hp → Prop} (hc : X.calm = true) (hN : X.N.Nodup) (ok : BlkOk X.N X.env.scope scope own)
    (h : EM X src σ B M fun v B1 M1 => ∃ a xs, v = .ref a ∧ SqL X.K (jn B1 M1) a xs ∧ ∀ D, B1 D = none → M1 D = none → ∃ J : Nat → List V → Hp → Hp → Prop, J 0 [] B1 (upd M1 D (.lst [])) ∧ (∀ i acc B' M', i ≤ xs.length → J i acc B' M' → SqL X.K (jn B' M') a xs) ∧
      (∀ i x acc B' M', xs[i]? = some x → Ex B1 B' → J i acc B' M' → TurnC X scope tg ifs e D (own.map (·.2)) x σ B' M' (J (i + 1)) acc) ∧ ∀ acc B' M', Ex B1 B' → J xs.length acc B' M' → P (.ref D) B' M')
    (hs : ∀ x, foldedSetIterable src X.env x = pure x := by intro _; rfl) : EM X (.ListComp e [⟨tg, src, ifs, 0⟩] scope pos) σ B M P :=
  em_of (pe_lc hc hN (pi_list pe_w) ok bG_pg bT_pt bE_pe hs) (lcl_read h)
theorem s1_setLcl (j : Nat) {y : Str} {src : Expr} {own : List (Str × Nat)} {pos spos py : Pos} {E : EndsM} (hc : X.calm = true) (hN : X.N.Nodup) (ok : BlkOk X.N X.env.scope scope own)
    (h : EM X src σ B M fun v B1 M1 => ∃ a xs, v = .ref a ∧ SqL X.K (jn B1 M1) a xs ∧ ∀ D, B1 D = none → M1 D = none → ∃ J : Nat → List V → Hp → Hp → Prop, J 0 [] B1 (upd M1 D (.lst [])) ∧ (∀ i acc B' M', i ≤ xs.length → J i acc B' M' → SqL X.K (jn B' M') a xs) ∧
      (∀ i x acc B' M', xs[i]? = some x → Ex B1 B' → J i acc B' M' → TurnC X scope tg ifs e D (own.map (·.2)) x σ B' M' (J (i + 1)) acc) ∧ ∀ acc B' M', Ex B1 B' → J xs.length acc B' M' → E.nx (σ.set j (some (.ref D))) B' M')
    (hy : X.N[j]? = some y := by rfl) (hyl : X.env.scope.names.lookup y = some .local := by rfl) (hsw : swapsWith (.ListComp e [⟨tg, src, ifs, 0⟩] scope pos) (some (.Name y py)) spos.line X.env = pure true := by exact sw_true rfl rfl rfl (by decide +kernel))
    (hs : ∀ x, foldedSetIterable src X.env x = pure x := by intro _; rfl) : S1 X (.Assign [.Name y py] (.ListComp e [⟨tg, src, ifs, 0⟩] scope pos) spos) σ B M E :=
  s1_of (ps_setLc hc hN hy hyl hsw (pi_list pe_w) ok bG_pg bT_pt bE_pe hs) fun H w D k1 _ _ _ => lcl_read (P := fun v B' M' => E.nx (σ.set j (some v)) B' M') h H w _ fun v B1 M1 H1 g q => k1 _ _ _ _ g q
theorem em_lcr {ex : Expr} {own : List (Str × Nat)} {pos p rp : Pos} {P : V → Hp → Hp → Prop} (hc : X.calm = true) (hN : X.N.Nodup) (ok : BlkOk X.N X.env.scope scope own) (hm : X.mg "range" = none)
    (h : EM X ex σ B M fun v B1 M1 => ∃ n : Nat, v = .int n ∧ n ≤ 1000000 ∧ ∀ D, B1 D = none → M1 D = none → ∃ J : Nat → List V → Hp → Hp → Prop, J 0 [] B1 (upd M1 D (.lst [])) ∧
      (∀ (i : Nat) acc B' M', i < n → Ex B1 B' → J i acc B' M' → TurnC X scope tg ifs e D (own.map (·.2)) (.int i) σ B' M' (J (i + 1)) acc) ∧ ∀ acc B' M', Ex B1 B' → J n acc B' M' → P (.ref D) B' M')
    (hg : Gl X "range" := by rfl) (ha : starEach [ex] X.env = [(false, eval ex X.env)] := by rfl) (ha2 : starEach [ex] X.env = (false, eval ex X.env) :: starEach [] X.env := by rfl)
    (hs : ∀ x, foldedSetIterable (.Call (.Name "range" p) [ex] [] rp) X.env x = pure x := by intro _; rfl) : EM X (.ListComp e [⟨tg, .Call (.Name "range" p) [ex] [] rp, ifs, 0⟩] scope pos) σ B M P :=
  em_of (pe_lc hc hN (pi_range1 hg hm (pa_cons pe_w pa_nil ha2) ha) ok bG_pg bT_pt bE_pe hs) (lcr_read h)
theorem s1_setLcr (j : Nat) {y : Str} {ex : Expr} {own : List (Str × Nat)} {pos spos py p rp : Pos} {E : EndsM} (hc : X.calm = true) (hN : X.N.Nodup) (ok : BlkOk X.N X.env.scope scope own) (hm : X.mg "range" = none)
    (h : EM X ex σ B M fun v B1 M1 => ∃ n : Nat, v = .int n ∧ n ≤ 1000000 ∧ ∀ D, B1 D = none → M1 D = none → ∃ J : Nat → List V → Hp → Hp → Prop, J 0 [] B1 (upd M1 D (.lst [])) ∧
      (∀ (i : Nat) acc B' M', i < n → Ex B1 B' → J i acc B' M' → TurnC X scope tg ifs e D (own.map (·.2)) (.int i) σ B' M' (J (i + 1)) acc) ∧ ∀ acc B' M', Ex B1 B' → J n acc B' M' → E.nx (σ.set j (some (.ref D))) B' M')
    (hg : Gl X "range" := by rfl) (ha : starEach [ex] X.env = [(false, eval ex X.env)] := by rfl) (ha2 : starEach [ex] X.env = (false, eval ex X.env) :: starEach [] X.env := by rfl)
    (hy : X.N[j]? = some y := by rfl) (hyl : X.env.scope.names.lookup y = some .local := by rfl) (hsw : swapsWith (.ListComp e [⟨tg, .Call (.Name "range" p) [ex] [] rp, ifs, 0⟩] scope pos) (some (.Name y py)) spos.line X.env = pure true := by exact sw_true rfl rfl rfl (by decide +kernel))
    (hs : ∀ x, foldedSetIterable (.Call (.Name "range" p) [ex] [] rp) X.env x = pure x := by intro _; rfl) : S1 X (.Assign [.Name y py] (.ListComp e [⟨tg, .Call (.Name "range" p) [ex] [] rp, ifs, 0⟩] scope pos) spos) σ B M E :=
  s1_of (ps_setLc hc hN hy hyl hsw (pi_range1 hg hm (pa_cons pe_w pa_nil ha2) ha) ok bG_pg bT_pt bE_pe hs) fun H w D k1 _ _ _ => lcr_read (P := fun v B' M' => E.nx (σ.set j (some v)) B' M') h H w _ fun v B1 M1 H1 g q => k1 _ _ _ _ g q
/-- one turn of a dict comprehension -/
def TurnD (X : Cx) (scope : Scope) (tg : Expr) (ifs : List Expr) (kx vx : Expr) (D : Addr) (vs : List Nat) (x : V) (σ : St) (B M : Hp) (J : List (Key × V) → Hp → Hp → Prop) (acc : List (Key × V)) : Prop :=
  Emt (fun H Q => bG X scope tg x (wipe σ vs) H Q) B M fun σ2 B2 M2 => wipe σ2 vs = wipe σ vs ∧ Emt (bT X scope ifs σ2) B2 M2 fun k B3 M3 => if k = true then Emt (bE X scope kx σ2) B3 M3 fun y B4 M4 => Emt (bE X scope vx σ2) B4 M4 fun z B5 M5 =>
    M5 D = some (.dK acc) ∧ acc.length < sizeLine ∧ ∃ k, y = kV k ∧ J (putK acc k z) B5 (upd M5 D (.dK (putK acc k z))) else J acc B3 M3
theorem turnD_go {D : Addr} {vs : List Nat} {x : V} {J : List (Key × V) → Hp → Hp → Prop} {acc : List (Key × V)} {B1 M1 H1 : Hp} {H : Hp} {Nx : Hp → Prop} (g1 : Gs B M H B1 M1 H1) (h : TurnD X scope tg ifs kx vx D vs x σ B1 M1 J acc) (kN : ∀ acc' B' M' H', Gs B M H B' M' H' → J acc' B' M' → Nx H') :
    bG X scope tg x (wipe σ vs) H1 fun σ2 H2 => wipe σ2 vs = wipe σ vs ∧ bT X scope ifs σ2 H2 fun b H3 => if b = true then bE X scope kx σ2 H3 fun y H4 => bE X scope vx σ2 H4 fun z H5 => ∃ kvs k, y = kV k ∧ H5 D = some (.dK kvs) ∧ kvs.length < sizeLine ∧ Nx (upd H5 D (.dK (putK kvs k z))) else Nx H3 :=
  h H1 g1.own _ fun σ2 B2 M2 H2 g2 ⟨hw, q⟩ => ⟨hw, q H2 g2.own _ fun k B3 M3 H3 g3 q3 => by
    cases k with
    | false => exact kN _ _ _ _ (g1.tr (g2.tr g3)) q3
    | true => exact q3 H3 g3.own _ fun y B4 M4 H4 g4 q4 => q4 H4 g4.own _ fun z B5 M5 H5 g5 ⟨hD, hl, k, hk, q5⟩ => ⟨acc, k, hk, (g5.own.m D _ hD).1, hl, kN _ _ _ _ (((g1.tr (g2.tr (g3.tr g4))).tr g5).tr (Gs.setM g5.own hD)) q5⟩⟩
/-- over a list that stays -/
theorem dc_lst {K : PySem.W.Frag} {a : Addr} {xs : List V} {g : TG} {tt : TT} {tk tv : TE} {vs : List Nat} {H1 : Hp} {D : Addr} {Qd : Hp → Prop} (Pv : Nat → Hp → Prop) (h0 : Pv 0 (upd H1 D (.dK []))) (hl : ∀ i H, i ≤ xs.length → Pv i H → SqL K H a xs)
    (ht : ∀ i x H, xs[i]? = some x → Pv i H → g x (wipe σ vs) H fun σ2 H2 => wipe σ2 vs = wipe σ vs ∧ tt σ2 H2 fun b H3 =>
      if b = true then tk σ2 H3 fun y H4 => tv σ2 H4 fun z H5 => ∃ kvs k, y = kV k ∧ H5 D = some (.dK kvs) ∧ kvs.length < sizeLine ∧ Pv (i + 1) (upd H5 D (.dK (putK kvs k z))) else Pv (i + 1) H3) (he : ∀ H, Pv xs.length H → Qd H) :
    ∃ W : Nat → Nat → Hp → Prop, (∃ m, W 0 m (upd H1 D (.dK []))) ∧ ∀ i m H, W i m H → ((Itl K a).stop i H ∧ Qd H) ∨ ((Itl K a).go i H ∧ ∃ Nx : Hp → Prop, (∀ H', Nx H' → ∃ m', m' < m ∧ W (i + 1) m' H') ∧ ∀ x H', (Itl K a).yld i H x H' → g x (wipe σ vs) H' fun σ2 H2 => wipe σ2 vs = wipe σ vs ∧
      tt σ2 H2 fun b H3 => if b = true then tk σ2 H3 fun y H4 => tv σ2 H4 fun z H5 => ∃ kvs k, y = kV k ∧ H5 D = some (.dK kvs) ∧ kvs.length < sizeLine ∧ Nx (upd H5 D (.dK (putK kvs k z))) else Nx H3) := by
  refine ⟨fun i m H => i + m = xs.length ∧ Pv i H, ⟨xs.length, Nat.zero_add _, h0⟩, fun i m H ⟨hm, p⟩ => ?_⟩
  have q := hl i H (by omega) p
  cases m with
  | zero =>
    have e : i = xs.length := by omega
    rw [e] at p
    exact .inl ⟨⟨xs, q, by omega⟩, he H p⟩
  | succ m =>
    have hlt : i < xs.length := by omega
    exact .inr ⟨⟨xs, xs[i], q, List.getElem?_eq_getElem hlt⟩, Pv (i + 1), fun H' p' => ⟨m, Nat.lt_succ_self m, by omega, p'⟩, fun x H' ⟨e, y⟩ => by rw [e]; exact ht i x H (y xs q) p⟩
theorem em_dc {src : Expr} {own : List (Str × Nat)} {pos : Pos} {P : V → Hp → Hp → Prop} (hc : X.calm = true) (hN : X.N.Nodup) (ok : BlkOk X.N X.env.scope scope own)
    (h : EM X src σ B M fun v B1 M1 => ∃ a xs, v = .ref a ∧ SqL X.K (jn B1 M1) a xs ∧ ∀ D, B1 D = none → M1 D = none → ∃ J : Nat → List (Key × V) → Hp → Hp → Prop, J 0 [] B1 (upd M1 D (.dK [])) ∧ (∀ i acc B' M', i ≤ xs.length → J i acc B' M' → SqL X.K (jn B' M') a xs) ∧
      (∀ i x acc B' M', xs[i]? = some x → Ex B1 B' → J i acc B' M' → TurnD X scope tg ifs kx vx D (own.map (·.2)) x σ B' M' (J (i + 1)) acc) ∧ ∀ acc B' M', Ex B1 B' → J xs.length acc B' M' → P (.ref D) B' M')
    (hs : ∀ x, foldedSetIterable src X.env x = pure x := by intro _; rfl) : EM X (.DictComp kx vx [⟨tg, src, ifs, 0⟩] scope pos) σ B M P :=
  em_of (pe_dc hc hN (pi_list pe_w) ok bG_pg bT_pt bE_pe bE_pe hs) fun H w Q k => h H w _ fun v B1 M1 H1 g ⟨a, xs, hv, hx, q⟩ => ⟨a, hv, ⟨xs, sql_up g.own.jn hx⟩, fun D hD => by
    obtain ⟨b0, m0⟩ := g.own.fresh hD
    obtain ⟨J, j0, jl, jt, je⟩ := q D b0 m0
    exact dc_lst (xs := xs) (fun i H' => ∃ acc B' M', Gs B1 M1 H1 B' M' H' ∧ J i acc B' M') ⟨[], _, _, Gs.newM g.own hD, j0⟩ (fun i H' hi ⟨acc, B', M', g', q'⟩ => sql_up g'.own.jn (jl i acc B' M' hi q'))
      (fun i x H' hi ⟨acc, B', M', g', q'⟩ => turnD_go g' (jt i x acc B' M' hi g'.b q') fun acc' B2 M2 H2 g2 z => ⟨acc', B2, M2, g2, z⟩) (fun H' ⟨acc, B', M', g', q'⟩ => k _ _ _ _ (g.tr g') (je acc B' M' g'.b q'))⟩
end
end LC
end LcComp
section LcWalk
set_option maxHeartbeats 4000000
/-! Walks over the keys of dicts that stand still. -/
namespace LC
open PySem L2
section
variable {X : Cx} {scope : Scope} {e tg src kx vx : Expr} {st : Stmt} {ifs : List Expr} {body : List Stmt} {σ : St} {B M : Hp} {d : Addr} {u : HO} {pos : Pos} {E : EndsM} {P : V → Hp → Hp → Prop}
theorem em_lock (hM : M d = some u) (mu : Mut (some u)) (h : ∀ od, EM X e σ B (upd M d (.frz od u)) fun v B' M' => M' d = some (.frz od u) ∧ P v B' (upd M' d u)) : EM X e σ B M P :=
  em_of (pe_lock pe_w) fun H w Q k => ⟨d, u, (w.m d u hM).1, mu, fun od => by
    have g0 := Gs.setM (o := .frz od u) w hM
    exact h od _ g0.own _ fun v B' M' H' g ⟨hd, p⟩ => ⟨(g.own.m d _ hd).1, k _ _ _ _ ((g0.tr g).tr (Gs.setM g.own hd)) p⟩⟩
theorem s1_lock (hM : M d = some u) (mu : Mut (some u)) (h : ∀ od, S1 X st σ B (upd M d (.frz od u)) { nx := fun σ' B' M' => M' d = some (.frz od u) ∧ E.nx σ' B' (upd M' d u), rt := fun v B' M' => M' d = some (.frz od u) ∧ E.rt v B' (upd M' d u) }) : S1 X st σ B M E :=
  s1_of (ps_lock ps_w) fun H w D k1 k2 k3 k4 => ⟨d, u, (w.m d u hM).1, mu, fun od => by
    have g0 := Gs.setM (o := .frz od u) w hM
    exact h od _ g0.own _ (fun σ' B' M' H' g ⟨hd, p⟩ => ⟨(g.own.m d _ hd).1, k1 _ _ _ _ ((g0.tr g).tr (Gs.setM g.own hd)) p⟩) (fun v B' M' H' g ⟨hd, p⟩ => ⟨(g.own.m d _ hd).1, k2 _ _ _ _ ((g0.tr g).tr (Gs.setM g.own hd)) p⟩) (fun _ _ _ _ _ z => z.elim) (fun _ _ _ _ _ z => z.elim)⟩
/-- for k in d, d locked: keys ints and texts -/
theorem s1_forK (hp : PassesOwn (model X.prog X.w) X.A X.env X.xe) (hc : X.calm = true)
    (h : EM X src σ B M fun v B1 M1 => ∃ d o kvs, v = .ref d ∧ jn B1 M1 d = some (.frz o (.dK kvs)) ∧ ∃ I : Nat → St → Hp → Hp → Prop, I 0 σ B1 M1 ∧ (∀ i σ' B' M', i ≤ kvs.length → I i σ' B' M' → jn B' M' d = some (.frz o (.dK kvs))) ∧
      (∀ i k v σ' B' M', kvs[i]? = some (k, v) → Ex B1 B' → I i σ' B' M' → TurnM X tg body E (I (i + 1)) (kV k) σ' B' M') ∧ ∀ σ' B' M', Ex B1 B' → I kvs.length σ' B' M' → E.nx σ' B' M')
    (hs : ∀ x, foldedSetIterable src X.env x = pure x := by intro _; rfl) : S1 X (.For tg src body [] pos) σ B M E :=
  s1_of (ps_for hp hc (pi_keys pe_w) pg_w pss_w hs) fun H w D k1 k2 k3 k4 => h H w _ fun v B1 M1 H1 g1 ⟨d, o, kvs, hv, hd, I, i0, il, it, ie⟩ => ⟨d, o, hv, .inl ⟨kvs, g1.own.jn _ _ hd,
    fun i m σ' H' => i + m = kvs.length ∧ ∃ B' M', Gs B1 M1 H1 B' M' H' ∧ I i σ' B' M', ⟨kvs.length, Nat.zero_add _, B1, M1, Gs.id' g1.own, i0⟩, fun i m σ' H' ⟨hm, B', M', g, q⟩ => by
      have hf := g.own.jn _ _ (il i σ' B' M' (by omega) q)
      cases m with
      | zero =>
        have e : i = kvs.length := by omega
        rw [e] at q
        exact .inl ⟨⟨hf, by omega⟩, k1 _ _ _ _ (g1.tr g) (ie σ' B' M' g.b q)⟩
      | succ m =>
        refine .inr ⟨⟨hf, by omega⟩, fun σ2 H2 => ∃ B' M', Gs B1 M1 H1 B' M' H2 ∧ I (i + 1) σ2 B' M', fun σ2 H2 z => ⟨m, Nat.lt_succ_self m, by omega, z⟩, fun x H2 ⟨e, k, v, hk, hx⟩ => ?_⟩
        subst e hx
        exact turn_go g (it i k v σ' B' M' hk g.b q) (fun a b c d g3 z => ⟨b, c, g3, z⟩) (fun a b c d g3 z => k1 a b c d (g1.tr g3) z) (fun a b c d g3 z => k2 a b c d (g1.tr g3) z)⟩⟩
/-- keys that are tuples -/
theorem s1_forT (hp : PassesOwn (model X.prog X.w) X.A X.env X.xe) (hc : X.calm = true)
    (h : EM X src σ B M fun v B1 M1 => ∃ d o kvs, v = .ref d ∧ jn B1 M1 d = some (.frz o (.dT kvs)) ∧ ∃ I : Nat → St → Hp → Hp → Prop, I 0 σ B1 M1 ∧ (∀ i σ' B' M', i ≤ kvs.length → I i σ' B' M' → jn B' M' d = some (.frz o (.dT kvs))) ∧
      (∀ i k v q σ' B' M' B2, kvs[i]? = some (k, v) → Ex B1 B' → I i σ' B' M' → Ex B' B2 → jn B2 M' q = some (.tup (k.map kV)) → TurnM X tg body E (I (i + 1)) (.ref q) σ' B2 M') ∧ ∀ σ' B' M', Ex B1 B' → I kvs.length σ' B' M' → E.nx σ' B' M')
    (hs : ∀ x, foldedSetIterable src X.env x = pure x := by intro _; rfl) : S1 X (.For tg src body [] pos) σ B M E :=
  s1_of (ps_for hp hc (pi_keys pe_w) pg_w pss_w hs) fun H w D k1 k2 k3 k4 => h H w _ fun v B1 M1 H1 g1 ⟨d, o, kvs, hv, hd, I, i0, il, it, ie⟩ => ⟨d, o, hv, .inr ⟨kvs, g1.own.jn _ _ hd,
    fun i m σ' H' => i + m = kvs.length ∧ ∃ B' M', Gs B1 M1 H1 B' M' H' ∧ I i σ' B' M', ⟨kvs.length, Nat.zero_add _, B1, M1, Gs.id' g1.own, i0⟩, fun i m σ' H' ⟨hm, B', M', g, q⟩ => by
      have hf := g.own.jn _ _ (il i σ' B' M' (by omega) q)
      cases m with
      | zero =>
        have e : i = kvs.length := by omega
        rw [e] at q
        exact .inl ⟨⟨hf, by omega⟩, k1 _ _ _ _ (g1.tr g) (ie σ' B' M' g.b q)⟩
      | succ m =>
        refine .inr ⟨⟨hf, by omega⟩, fun σ2 H2 => ∃ B' M', Gs B1 M1 H1 B' M' H2 ∧ I (i + 1) σ2 B' M', fun σ2 H2 z => ⟨m, Nat.lt_succ_self m, by omega, z⟩, fun x H2 ⟨e, k, v, t, hk, hx, ht⟩ => ?_⟩
        subst e hx
        obtain ⟨B2, g2, j2⟩ := g.own.meet ht
        exact turn_go (g.tr g2) (it i k v t σ' B' M' B2 hk g.b q g2.b j2) (fun a b c d g3 z => ⟨b, c, g3, z⟩) (fun a b c d g3 z => k1 a b c d (g1.tr g3) z) (fun a b c d g3 z => k2 a b c d (g1.tr g3) z)⟩⟩
/-- [e for k in d if ..], y = it -/
theorem lck_read {vs : List Nat}
    (h : EM X src σ B M fun v B1 M1 => ∃ d o kvs, v = .ref d ∧ jn B1 M1 d = some (.frz o (.dK kvs)) ∧ ∀ D, B1 D = none → M1 D = none → ∃ J : Nat → List V → Hp → Hp → Prop, J 0 [] B1 (upd M1 D (.lst [])) ∧ (∀ i acc B' M', i ≤ kvs.length → J i acc B' M' → jn B' M' d = some (.frz o (.dK kvs))) ∧
      (∀ i k v acc B' M', kvs[i]? = some (k, v) → Ex B1 B' → J i acc B' M' → TurnC X scope tg ifs e D vs (kV k) σ B' M' (J (i + 1)) acc) ∧ ∀ acc B' M', Ex B1 B' → J kvs.length acc B' M' → P (.ref D) B' M') :
    Emt (tLc (iKeys (wE X src)) (bG X scope tg) (bT X scope ifs) (bE X scope e) vs σ) B M P := fun H w Q k =>
  h H w _ fun v B1 M1 H1 g ⟨d, o, kvs, hv, hd, q⟩ => ⟨d, o, hv, .inl ⟨kvs, g.own.jn _ _ hd, fun D hD => by
    obtain ⟨b0, m0⟩ := g.own.fresh hD
    obtain ⟨J, j0, jl, jt, je⟩ := q D b0 m0
    refine ⟨fun i m H' => i + m = kvs.length ∧ ∃ acc B' M', Gs B1 M1 H1 B' M' H' ∧ J i acc B' M', ⟨kvs.length, Nat.zero_add _, [], _, _, Gs.newM g.own hD, j0⟩, fun i m H' ⟨hm, acc, B', M', g', q'⟩ => ?_⟩
    have hf := g'.own.jn _ _ (jl i acc B' M' (by omega) q')
    cases m with
    | zero =>
      have e : i = kvs.length := by omega
      rw [e] at q'
      exact .inl ⟨⟨hf, by omega⟩, k _ _ _ _ (g.tr g') (je acc B' M' g'.b q')⟩
    | succ m =>
      refine .inr ⟨⟨hf, by omega⟩, fun H2 => ∃ acc B' M', Gs B1 M1 H1 B' M' H2 ∧ J (i + 1) acc B' M', fun H2 z => ⟨m, Nat.lt_succ_self m, by omega, z⟩, fun x H2 ⟨e, kk, vv, hk, hx⟩ => ?_⟩
      subst e hx
      exact turnC_go g' (jt i kk vv acc B' M' hk g'.b q') fun acc' B2 M2 H2 g2 z => ⟨acc', B2, M2, g2, z⟩⟩⟩
theorem s1_setLck (j : Nat) {y : Str} {own : List (Str × Nat)} {spos py : Pos} (hc : X.calm = true) (hN : X.N.Nodup) (ok : BlkOk X.N X.env.scope scope own)
    (h : EM X src σ B M fun v B1 M1 => ∃ d o kvs, v = .ref d ∧ jn B1 M1 d = some (.frz o (.dK kvs)) ∧ ∀ D, B1 D = none → M1 D = none → ∃ J : Nat → List V → Hp → Hp → Prop, J 0 [] B1 (upd M1 D (.lst [])) ∧ (∀ i acc B' M', i ≤ kvs.length → J i acc B' M' → jn B' M' d = some (.frz o (.dK kvs))) ∧
      (∀ i k v acc B' M', kvs[i]? = some (k, v) → Ex B1 B' → J i acc B' M' → TurnC X scope tg ifs e D (own.map (·.2)) (kV k) σ B' M' (J (i + 1)) acc) ∧ ∀ acc B' M', Ex B1 B' → J kvs.length acc B' M' → E.nx (σ.set j (some (.ref D))) B' M')
    (hy : X.N[j]? = some y := by rfl) (hyl : X.env.scope.names.lookup y = some .local := by rfl) (hsw : swapsWith (.ListComp e [⟨tg, src, ifs, 0⟩] scope pos) (some (.Name y py)) spos.line X.env = pure true := by exact sw_true rfl rfl rfl (by decide +kernel))
    (hs : ∀ x, foldedSetIterable src X.env x = pure x := by intro _; rfl) : S1 X (.Assign [.Name y py] (.ListComp e [⟨tg, src, ifs, 0⟩] scope pos) spos) σ B M E :=
  s1_of (ps_setLc hc hN hy hyl hsw (pi_keys pe_w) ok bG_pg bT_pt bE_pe hs) fun H w D k1 _ _ _ => lck_read (P := fun v B' M' => E.nx (σ.set j (some v)) B' M') h H w _ fun v B1 M1 H1 g q => k1 _ _ _ _ g q
/-- {k: v for k in d if ..} -/
theorem em_dck {own : List (Str × Nat)} (hc : X.calm = true) (hN : X.N.Nodup) (ok : BlkOk X.N X.env.scope scope own)
    (h : EM X src σ B M fun v B1 M1 => ∃ d o kvs, v = .ref d ∧ jn B1 M1 d = some (.frz o (.dK kvs)) ∧ ∀ D, B1 D = none → M1 D = none → ∃ J : Nat → List (Key × V) → Hp → Hp → Prop, J 0 [] B1 (upd M1 D (.dK [])) ∧ (∀ i acc B' M', i ≤ kvs.length → J i acc B' M' → jn B' M' d = some (.frz o (.dK kvs))) ∧
      (∀ i k v acc B' M', kvs[i]? = some (k, v) → Ex B1 B' → J i acc B' M' → TurnD X scope tg ifs kx vx D (own.map (·.2)) (kV k) σ B' M' (J (i + 1)) acc) ∧ ∀ acc B' M', Ex B1 B' → J kvs.length acc B' M' → P (.ref D) B' M')
    (hs : ∀ x, foldedSetIterable src X.env x = pure x := by intro _; rfl) : EM X (.DictComp kx vx [⟨tg, src, ifs, 0⟩] scope pos) σ B M P :=
  em_of (pe_dc hc hN (pi_keys pe_w) ok bG_pg bT_pt bE_pe bE_pe hs) fun H w Q k => h H w _ fun v B1 M1 H1 g ⟨d, o, kvs, hv, hd, q⟩ => ⟨d, o, hv, .inl ⟨kvs, g.own.jn _ _ hd, fun D hD => by
    obtain ⟨b0, m0⟩ := g.own.fresh hD
    obtain ⟨J, j0, jl, jt, je⟩ := q D b0 m0
    refine ⟨fun i m H' => i + m = kvs.length ∧ ∃ acc B' M', Gs B1 M1 H1 B' M' H' ∧ J i acc B' M', ⟨kvs.length, Nat.zero_add _, [], _, _, Gs.newM g.own hD, j0⟩, fun i m H' ⟨hm, acc, B', M', g', q'⟩ => ?_⟩
    have hf := g'.own.jn _ _ (jl i acc B' M' (by omega) q')
    cases m with
    | zero =>
      have e : i = kvs.length := by omega
      rw [e] at q'
      exact .inl ⟨⟨hf, by omega⟩, k _ _ _ _ (g.tr g') (je acc B' M' g'.b q')⟩
    | succ m =>
      refine .inr ⟨⟨hf, by omega⟩, fun H2 => ∃ acc B' M', Gs B1 M1 H1 B' M' H2 ∧ J (i + 1) acc B' M', fun H2 z => ⟨m, Nat.lt_succ_self m, by omega, z⟩, fun x H2 ⟨e, kk, vv, hk, hx⟩ => ?_⟩
      subst e hx
      exact turnD_go g' (jt i kk vv acc B' M' hk g'.b q') fun acc' B2 M2 H2 g2 z => ⟨acc', B2, M2, g2, z⟩⟩⟩
end
end LC
end LcWalk
section LcExp
set_option maxHeartbeats 4000000
/-! Built-ins, lists, texts, dicts. -/
namespace LC
open PySem L2
section
variable {X : Cx} {a b c e o i : Expr} {es : List Expr} {σ : St} {B M : Hp} {P : V → Hp → Hp → Prop} {pos p apos cpos : Pos} {x m : Str} {ide T : String} {v : V}

theorem em_cb {r : List V → Hp → VK → Prop} (hc : CallR X (.builtin ide) r) (hm : X.mg x = none) (hv : bootBuiltins x = some (.builtin ide)) (h : AM X (e :: es) σ B M fun vs B1 M1 => CM r vs B1 M1 P) (hg : Gl X x := by rfl) (hn : x ≠ "__name__" := by decide) (hdb : (x == ("__debug__" : Str)) = false := by decide)
    (he : starEach (e :: es) X.env = (false, eval e X.env) :: starEach es X.env := by rfl) (hpl : (backTo pos (starEach es X.env)).any (·.1) = false := by rfl) : EM X (.Call (.Name x p) (e :: es) [] pos) σ B M P :=
  em_of (pe_callB hc hg hm hv pa_w hn hdb he hpl) (Emt.bind (t := wA X (e :: es) σ) (f := fun vs H Q => r vs H Q) h)
theorem em_cty {r : List V → Hp → VK → Prop} (hc : CallR X (.type T) r) (hm : X.mg x = none) (hv : bootBuiltins x = some (.type T)) (h : AM X (e :: es) σ B M fun vs B1 M1 => CM r vs B1 M1 P) (hg : Gl X x := by rfl) (hn : x ≠ "__name__" := by decide) (hdb : (x == ("__debug__" : Str)) = false := by decide)
    (he : starEach (e :: es) X.env = (false, eval e X.env) :: starEach es X.env := by rfl) (hpl : (backTo pos (starEach es X.env)).any (·.1) = false := by rfl) : EM X (.Call (.Name x p) (e :: es) [] pos) σ B M P :=
  em_of (pe_callTy hc hg hm hv pa_w hn hdb he hpl) (Emt.bind (t := wA X (e :: es) σ) (f := fun vs H Q => r vs H Q) h)
/-- a new object as the answer -/
theorem cm_newB {u : HO} (h : ∀ q, B q = none → M q = none → P (.ref q) (upd B q u) M) {H : Hp} (w : Own B M H) {Q : VK} (k : ∀ v B' M' H', Gs B M H B' M' H' → P v B' M' → Q v H') : ∀ q, H q = none → Q (.ref q) (upd H q u) := fun q hq =>
  k _ _ _ _ (Gs.newB w hq) (h q (w.fresh hq).1 (w.fresh hq).2)
theorem cm_newM {u : HO} (h : ∀ q, B q = none → M q = none → P (.ref q) B (upd M q u)) {H : Hp} (w : Own B M H) {Q : VK} (k : ∀ v B' M' H', Gs B M H B' M' H' → P v B' M' → Q v H') : ∀ q, H q = none → Q (.ref q) (upd H q u) := fun q hq =>
  k _ _ _ _ (Gs.newM w hq) (h q (w.fresh hq).1 (w.fresh hq).2)
/-- len of a list or tuple, of a text -/
theorem em_len (hm : X.mg "len" = none) (h : EM X e σ B M fun v B1 M1 => ∃ q xs, v = .ref q ∧ (SqL X.K (jn B1 M1) q xs ∨ SqT X.K (jn B1 M1) q xs) ∧ P (.int xs.length) B1 M1) (hg : Gl X "len" := by rfl)
    (he : starEach [e] X.env = (false, eval e X.env) :: starEach [] X.env := by rfl) : EM X (.Call (.Name "len" p) [e] [] pos) σ B M P :=
  em_cb call_len_seq hm boot_len (am_cons (h.imp fun v B1 M1 _ ⟨q, xs, hv, hx, hp⟩ => am_nil fun H w Q k => ⟨q, xs, by rw [hv], hx.imp (sql_up w.jn) (sqt_up w.jn), k _ _ _ _ (Gs.id' w) hp⟩) he) hg (he := he)
theorem em_lenS (hm : X.mg "len" = none) (h : EM X e σ B M fun v B1 M1 => ∃ z : Str, v = .str z ∧ z.length ≤ sizeLine ∧ P (.int z.length) B1 M1) (hg : Gl X "len" := by rfl)
    (he : starEach [e] X.env = (false, eval e X.env) :: starEach [] X.env := by rfl) : EM X (.Call (.Name "len" p) [e] [] pos) σ B M P :=
  em_cb call_len_str hm boot_len (am_cons (h.imp fun v B1 M1 _ ⟨z, hv, hx, hp⟩ => am_nil fun H w Q k => ⟨z, by rw [hv], hx, k _ _ _ _ (Gs.id' w) hp⟩) he) hg (he := he)
theorem em_abs (hm : X.mg "abs" = none) (h : EM X e σ B M fun v B1 M1 => ∃ i : Int, v = .int i ∧ P (.int i.natAbs) B1 M1) (hg : Gl X "abs" := by rfl)
    (he : starEach [e] X.env = (false, eval e X.env) :: starEach [] X.env := by rfl) : EM X (.Call (.Name "abs" p) [e] [] pos) σ B M P :=
  em_cb L2.call_abs hm PyProof.Rows.boot_abs (am_cons (h.imp fun v B1 M1 _ ⟨i, hv, hp⟩ => am_nil fun H w Q k => ⟨i, by rw [hv], k _ _ _ _ (Gs.id' w) (by
    have e : (if i < 0 then -i else i) = (i.natAbs : Int) := by split <;> omega
    rw [e]; exact hp)⟩) he) hg (he := he)
theorem em_intI (hm : X.mg "int" = none) (h : EM X e σ B M fun v B1 M1 => ∃ i : Int, v = .int i ∧ P (.int i) B1 M1) (hg : Gl X "int" := by rfl)
    (he : starEach [e] X.env = (false, eval e X.env) :: starEach [] X.env := by rfl) : EM X (.Call (.Name "int" p) [e] [] pos) σ B M P :=
  em_cty call_int1 hm PyProof.Rows.boot_int (am_cons (h.imp fun v B1 M1 _ ⟨i, hv, hp⟩ => am_nil fun H w Q k => .inl ⟨i, by rw [hv], k _ _ _ _ (Gs.id' w) hp⟩) he) hg (he := he)
theorem em_intB (hm : X.mg "int" = none) (h : EM X e σ B M fun v B1 M1 => ∃ k : Bool, v = .bl k ∧ P (.int (if k then 1 else 0)) B1 M1) (hg : Gl X "int" := by rfl)
    (he : starEach [e] X.env = (false, eval e X.env) :: starEach [] X.env := by rfl) : EM X (.Call (.Name "int" p) [e] [] pos) σ B M P :=
  em_cty call_int1 hm PyProof.Rows.boot_int (am_cons (h.imp fun v B1 M1 _ ⟨i, hv, hp⟩ => am_nil fun H w Q k => .inr ⟨i, by rw [hv], k _ _ _ _ (Gs.id' w) hp⟩) he) hg (he := he)
theorem em_all (hc : X.calm = true) (hm : X.mg "all" = none) (h : EM X e σ B M fun v B1 M1 => ∃ (q : Addr) (bs : List Bool), v = .ref q ∧ SqL X.K (jn B1 M1) q (bs.map V.bl) ∧ P (.bl (bs.all id)) B1 M1) (hg : Gl X "all" := by rfl)
    (he : starEach [e] X.env = (false, eval e X.env) :: starEach [] X.env := by rfl) : EM X (.Call (.Name "all" p) [e] [] pos) σ B M P :=
  em_cb (cr_all hc) hm PyProof.Rows.boot_all (am_cons (h.imp fun v B1 M1 _ ⟨q, bs, hv, hx, hp⟩ => am_nil fun H w Q k => ⟨q, bs, by rw [hv], sql_up w.jn hx, k _ _ _ _ (Gs.id' w) hp⟩) he) hg (he := he)
/-- list(xs), list(d) -/
theorem em_list (hm : X.mg "list" = none) (h : EM X e σ B M fun v B1 M1 => ∃ q xs, v = .ref q ∧ (SqL X.K (jn B1 M1) q xs ∨ SqT X.K (jn B1 M1) q xs) ∧ ∀ l, B1 l = none → M1 l = none → P (.ref l) B1 (upd M1 l (.lst xs))) (hg : Gl X "list" := by rfl)
    (he : starEach [e] X.env = (false, eval e X.env) :: starEach [] X.env := by rfl) : EM X (.Call (.Name "list" p) [e] [] pos) σ B M P :=
  em_cty call_list_of hm PyProof.Rows.boot_list (am_cons (h.imp fun v B1 M1 _ ⟨q, xs, hv, hx, hp⟩ => am_nil fun H w Q k => ⟨q, xs, by rw [hv], hx.imp (sql_up w.jn) (sqt_up w.jn), cm_newM hp w k⟩) he) hg (he := he)
theorem em_listD (hc : X.calm = true) (hm : X.mg "list" = none) (h : EM X e σ B M fun v B1 M1 => ∃ (q : Addr) (kvs : List (Key × V)), v = .ref q ∧ jn B1 M1 q = some (.dK kvs) ∧ ∀ l, B1 l = none → M1 l = none → P (.ref l) (upd B1 l (.lst (kvs.map fun kv => kV kv.1))) M1) (hg : Gl X "list" := by rfl)
    (he : starEach [e] X.env = (false, eval e X.env) :: starEach [] X.env := by rfl) : EM X (.Call (.Name "list" p) [e] [] pos) σ B M P :=
  em_cty (call_list_dK hc) hm PyProof.Rows.boot_list (am_cons (h.imp fun v B1 M1 _ ⟨q, kvs, hv, hx, hp⟩ => am_nil fun H w Q k => ⟨q, kvs, by rw [hv], w.jn _ _ hx, cm_newB hp w k⟩) he) hg (he := he)
/-- sorted of texts; of a dict with text keys -/
theorem em_sortD (hc : X.calm = true) (hm : X.mg "sorted" = none) (h : EM X e σ B M fun v B1 M1 => ∃ (q : Addr) (kvs : List (Key × V)) (ks : List Str), v = .ref q ∧ Rd (jn B1 M1) q (.dK kvs) ∧ kvs.map (·.1) = ks.map Sum.inr ∧ ks.length < 64 ∧ ∀ (ys : List Str) (l : Addr), ys.Perm ks → PyProof.Rows.sortedS ys = true → B1 l = none → M1 l = none → P (.ref l) (upd B1 l (.lst (ys.map V.str))) M1) (hg : Gl X "sorted" := by rfl)
    (he : starEach [e] X.env = (false, eval e X.env) :: starEach [] X.env := by rfl) : EM X (.Call (.Name "sorted" p) [e] [] pos) σ B M P :=
  em_cb (call_sortedD hc) hm PyProof.Rows.boot_sorted (am_cons (h.imp fun v B1 M1 _ ⟨q, kvs, ks, hv, hx, hk, hl, hp⟩ => am_nil fun H w Q k => ⟨q, kvs, ks, by rw [hv], rd_up w.jn hx, hk, hl, fun ys l h1 h2 hl' => k _ _ _ _ (Gs.newB w hl') (hp ys l h1 h2 (w.fresh hl').1 (w.fresh hl').2)⟩) he) hg (he := he)
/-- x[i] -/
theorem em_ixL (h : EM X a σ B M fun x B1 M1 => EM X b σ B1 M1 fun y B2 M2 => ∃ q xs i v, x = .ref q ∧ y = .int i ∧ SqL X.K (jn B2 M2) q xs ∧ atI xs i = some v ∧ P v B2 M2) (hs : PlainIx b := by exact fun _ _ => rfl) : EM X (.Subscript a b pos) σ B M P :=
  em_of (pe_ix ix_list pe_w pe_w hs) fun H w Q k => h H w _ fun x B1 M1 H1 g q => q H1 g.own _ fun y B2 M2 H2 g2 ⟨r, xs, i, v, hx, hy, hl, ha, hp⟩ => ⟨r, xs, i, v, hx, hy, sql_up g2.own.jn hl, ha, k _ _ _ _ (g.tr g2) hp⟩
theorem em_ixT (h : EM X a σ B M fun x B1 M1 => EM X b σ B1 M1 fun y B2 M2 => ∃ q xs i v, x = .ref q ∧ y = .int i ∧ SqT X.K (jn B2 M2) q xs ∧ atI xs i = some v ∧ P v B2 M2) (hs : PlainIx b := by exact fun _ _ => rfl) : EM X (.Subscript a b pos) σ B M P :=
  em_of (pe_ix ix_tup pe_w pe_w hs) fun H w Q k => h H w _ fun x B1 M1 H1 g q => q H1 g.own _ fun y B2 M2 H2 g2 ⟨r, xs, i, v, hx, hy, hl, ha, hp⟩ => ⟨r, xs, i, v, hx, hy, sqt_up g2.own.jn hl, ha, k _ _ _ _ (g.tr g2) hp⟩
theorem em_ixS (h : EM X a σ B M fun x B1 M1 => EM X b σ B1 M1 fun y B2 M2 => ∃ (z : Str) (i : Int) (c : Nat), x = .str z ∧ y = .int i ∧ z.length ≤ sizeLine ∧ atI z.cps.toList i = some c ∧ P (.str ⟨#[c]⟩) B2 M2) (hs : PlainIx b := by exact fun _ _ => rfl) : EM X (.Subscript a b pos) σ B M P :=
  em_of (pe_ix ix_str pe_w pe_w hs) fun H w Q k => h H w _ fun x B1 M1 H1 g q => q H1 g.own _ fun y B2 M2 H2 g2 ⟨z, i, c, hx, hy, hl, ha, hp⟩ => ⟨z, i, c, hx, hy, hl, ha, k _ _ _ _ (g.tr g2) hp⟩
/-- slices of lists -/
theorem em_slU {p2 : Pos} (h : EM X a σ B M fun x B1 M1 => EM X b σ B1 M1 fun y B2 M2 => ∃ q xs i, x = .ref q ∧ y = .int i ∧ SqL X.K (jn B2 M2) q xs ∧ ∀ l, B2 l = none → M2 l = none → P (.ref l) (upd B2 l (.lst (cutV xs none (some i)))) M2) : EM X (.Subscript a (.Slice none (some b) none p2) pos) σ B M P :=
  em_of (pe_slice sl_list pe_w po_none (po_some pe_w)) fun H w Q k => h H w _ fun x B1 M1 H1 g q => q H1 g.own _ fun y B2 M2 H2 g2 ⟨r, xs, i, hx, hy, hl, hp⟩ => ⟨i, hy, r, xs, hx, sql_up g2.own.jn hl, cm_newB hp g2.own fun v B3 M3 H3 g3 => k v B3 M3 H3 ((g.tr g2).tr g3)⟩
theorem em_slL {p2 : Pos} (h : EM X a σ B M fun x B1 M1 => EM X b σ B1 M1 fun y B2 M2 => ∃ q xs i, x = .ref q ∧ y = .int i ∧ SqL X.K (jn B2 M2) q xs ∧ ∀ l, B2 l = none → M2 l = none → P (.ref l) (upd B2 l (.lst (cutV xs (some i) none))) M2) : EM X (.Subscript a (.Slice (some b) none none p2) pos) σ B M P :=
  em_of (pe_slice sl_list pe_w (po_some pe_w) po_none) fun H w Q k => h H w _ fun x B1 M1 H1 g q => q H1 g.own _ fun y B2 M2 H2 g2 ⟨r, xs, i, hx, hy, hl, hp⟩ => ⟨i, hy, r, xs, hx, sql_up g2.own.jn hl, cm_newB hp g2.own fun v B3 M3 H3 g3 => k v B3 M3 H3 ((g.tr g2).tr g3)⟩
theorem em_slSU {p2 : Pos} (h : EM X a σ B M fun x B1 M1 => EM X b σ B1 M1 fun y B2 M2 => ∃ (z : Str) (i : Int), x = .str z ∧ y = .int i ∧ z.length ≤ sizeLine ∧ P (.str (cutS z none (some i))) B2 M2) : EM X (.Subscript a (.Slice none (some b) none p2) pos) σ B M P :=
  em_of (pe_slice sl_str pe_w po_none (po_some pe_w)) fun H w Q k => h H w _ fun x B1 M1 H1 g q => q H1 g.own _ fun y B2 M2 H2 g2 ⟨z, i, hx, hy, hl, hp⟩ => ⟨i, hy, z, hx, hl, k _ _ _ _ (g.tr g2) hp⟩
theorem em_slSL {p2 : Pos} (h : EM X a σ B M fun x B1 M1 => EM X b σ B1 M1 fun y B2 M2 => ∃ (z : Str) (i : Int), x = .str z ∧ y = .int i ∧ z.length ≤ sizeLine ∧ P (.str (cutS z (some i) none)) B2 M2) : EM X (.Subscript a (.Slice (some b) none none p2) pos) σ B M P :=
  em_of (pe_slice sl_str pe_w (po_some pe_w) po_none) fun H w Q k => h H w _ fun x B1 M1 H1 g q => q H1 g.own _ fun y B2 M2 H2 g2 ⟨z, i, hx, hy, hl, hp⟩ => ⟨i, hy, z, hx, hl, k _ _ _ _ (g.tr g2) hp⟩
theorem em_rev {k : Nat} {p1 p2 p3 : Pos} (h : EM X e σ B M fun x B1 M1 => ∃ q xs, x = .ref q ∧ SqL X.K (jn B1 M1) q xs ∧ ∀ l, B1 l = none → M1 l = none → P (.ref l) (upd B1 l (.lst xs.reverse)) M1) : EM X (.Subscript e (.Slice none none (some (.UnaryOp .USub (.Constant (.int 1) k p1) p2)) p3) pos) σ B M P :=
  em_of (pe_revL pe_w) fun H w Q kq => h H w _ fun x B1 M1 H1 g ⟨r, xs, hx, hl, hp⟩ => ⟨r, xs, hx, sql_up g.own.jn hl, cm_newB hp g.own fun v B3 M3 H3 g3 => kq v B3 M3 H3 (g.tr g3)⟩
/-- xs + ys, xs * n -/
theorem om_cat {x y : V} (h : ∃ l q xs zs, x = .ref l ∧ y = .ref q ∧ jn B M l = some (.lst xs) ∧ jn B M q = some (.lst zs) ∧ xs.length + zs.length ≤ sizeLine ∧ ∀ r, B r = none → M r = none → P (.ref r) (upd B r (.lst (xs ++ zs))) M) : OM rCat x y B M P := fun H w Q k =>
  let ⟨l, q, xs, zs, hx, hy, h1, h2, hl, hp⟩ := h
  ⟨l, q, xs, zs, hx, hy, w.jn _ _ h1, w.jn _ _ h2, hl, cm_newB hp w k⟩
theorem om_rep {x y : V} (h : ∃ l k xs, x = .ref l ∧ y = .int k ∧ jn B M l = some (.lst xs) ∧ -(2 ^ 63) ≤ k ∧ k < 2 ^ 63 ∧ xs.length * k.toNat ≤ sizeLine ∧ ∀ r, B r = none → M r = none → P (.ref r) (upd B r (.lst (List.replicate k.toNat xs).flatten)) M) : OM rRep x y B M P := fun H w Q kq =>
  let ⟨l, k, xs, hx, hy, h1, h2, h3, h4, hp⟩ := h
  ⟨l, k, xs, hx, hy, w.jn _ _ h1, h2, h3, h4, cm_newB hp w kq⟩
theorem om_cats {z1 z2 : Str} (hl : z1.length + z2.length ≤ sizeLine) (h : P (.str (z1 ++ z2)) B M) : OM (fun x y H Q => ∃ i j, x = .str i ∧ y = .str j ∧ i.length + j.length ≤ sizeLine ∧ Q (.str (i ++ j)) H) (.str z1) (.str z2) B M P := fun H w Q k =>
  ⟨z1, z2, rfl, rfl, hl, k _ _ _ _ (Gs.id' w) h⟩
/-- in -/
theorem om_in {neg : Bool} {x y : V} (h : ∃ q xs, y = .ref q ∧ (SqL X.K (jn B M) q xs ∨ SqT X.K (jn B M) q xs) ∧ flatV x = true ∧ xs.all flatV = true ∧ P (.bl (if neg then !inV x xs else inV x xs)) B M) : OM (rIn X.K neg) x y B M P := fun H w Q k =>
  let ⟨q, xs, hy, hx, h1, h2, hp⟩ := h
  ⟨q, xs, hy, hx.imp (sql_up w.jn) (sqt_up w.jn), h1, h2, k _ _ _ _ (Gs.id' w) hp⟩
theorem om_inS {x y : V} (h : ∃ (c : Nat) (z : Str), x = .str ⟨#[c]⟩ ∧ y = .str z ∧ P (.bl (decide (c ∈ z.cps.toList))) B M) : OM (fun x y H Q => ∃ (c : Nat) (z : Str), x = .str ⟨#[c]⟩ ∧ y = .str z ∧ Q (.bl (decide (c ∈ z.cps.toList))) H) x y B M P := fun H w Q k =>
  let ⟨c, z, hx, hy, hp⟩ := h
  ⟨c, z, hx, hy, k _ _ _ _ (Gs.id' w) hp⟩
/-- k in d, k not in d, as a value -/
theorem em_din (hu : X.A.units + 1 < cLine) (h : EM X i σ B M fun y B1 M1 => EM X o σ B1 M1 fun x B2 M2 => ∃ a r, x = .ref a ∧ DGet (jn B2 M2) a y r ∧ P (.bl r.isSome) B2 M2) (hb : behindInMarks .In o = false := by rfl) : EM X (.Compare i [.In] [o] pos) σ B M P :=
  em_of (pe_cmp (pc_din hu pe_w pe_w) hb) fun H w Q k => h H w _ fun y B1 M1 H1 g q => q H1 g.own _ fun x B2 M2 H2 g2 ⟨a, r, hx, hd, hp⟩ => ⟨a, r, hx, dget_up g2.own.jn hd, k _ _ _ _ (g.tr g2) hp⟩
theorem em_dnin (hu : X.A.units + 1 < cLine) (h : EM X i σ B M fun y B1 M1 => EM X o σ B1 M1 fun x B2 M2 => ∃ a r, x = .ref a ∧ DGet (jn B2 M2) a y r ∧ P (.bl (!r.isSome)) B2 M2) (hb : behindInMarks .NotIn o = false := by rfl) : EM X (.Compare i [.NotIn] [o] pos) σ B M P :=
  em_of (pe_cmp (pc_dnotin hu pe_w pe_w) hb) fun H w Q k => h H w _ fun y B1 M1 H1 g q => q H1 g.own _ fun x B2 M2 H2 g2 ⟨a, r, hx, hd, hp⟩ => ⟨a, r, hx, dget_up g2.own.jn hd, k _ _ _ _ (g.tr g2) hp⟩
/-- .. as a test -/
theorem tm_din {PT' : Bool → Hp → Hp → Prop} (hu : X.A.units + 1 < cLine) (h : EM X i σ B M fun y B1 M1 => EM X o σ B1 M1 fun x B2 M2 => ∃ a r, x = .ref a ∧ DGet (jn B2 M2) a y r ∧ PT' r.isSome B2 M2) (hb : behindInMarks .In o = false := by rfl) : TM X (.Compare i [.In] [o] pos) σ B M PT' :=
  tm_of (pt_cmp (pc_din hu pe_w pe_w) hb) fun H w Q k => h H w _ fun y B1 M1 H1 g q => q H1 g.own _ fun x B2 M2 H2 g2 ⟨a, r, hx, hd, hp⟩ => ⟨a, r, hx, dget_up g2.own.jn hd, _, rfl, k _ _ _ _ (g.tr g2) hp⟩
theorem tm_dnin {PT' : Bool → Hp → Hp → Prop} (hu : X.A.units + 1 < cLine) (h : EM X i σ B M fun y B1 M1 => EM X o σ B1 M1 fun x B2 M2 => ∃ a r, x = .ref a ∧ DGet (jn B2 M2) a y r ∧ PT' (!r.isSome) B2 M2) (hb : behindInMarks .NotIn o = false := by rfl) : TM X (.Compare i [.NotIn] [o] pos) σ B M PT' :=
  tm_of (pt_cmp (pc_dnotin hu pe_w pe_w) hb) fun H w Q k => h H w _ fun y B1 M1 H1 g q => q H1 g.own _ fun x B2 M2 H2 g2 ⟨a, r, hx, hd, hp⟩ => ⟨a, r, hx, dget_up g2.own.jn hd, _, rfl, k _ _ _ _ (g.tr g2) hp⟩
/-- is None -/
theorem em_isN {j : Nat} {p2 : Pos} (h : EM X a σ B M fun x B1 M1 => P (.bl (decide (x = .non))) B1 M1) : EM X (.Compare a [.Is] [.Constant .none j p2] pos) σ B M P :=
  em_of (pe_cmp (pc_isN pe_w) (by rfl)) fun H w Q k => h H w _ fun x B1 M1 H1 g q => k _ _ _ _ g q
theorem em_notN {j : Nat} {p2 : Pos} (h : EM X a σ B M fun x B1 M1 => P (.bl (!decide (x = .non))) B1 M1) : EM X (.Compare a [.IsNot] [.Constant .none j p2] pos) σ B M P :=
  em_of (pe_cmp (pc_notN pe_w) (by rfl)) fun H w Q k => h H w _ fun x B1 M1 H1 g q => k _ _ _ _ g q
/-- d.get(k, x) -/
theorem em_dget2 {f : Expr} (hu : X.A.units + 1 < cLine) (h : EM X o σ B M fun x B1 M1 => ∃ d, x = .ref d ∧ (∃ kvs, Rd (jn B1 M1) d (.dK kvs)) ∧ EM X e σ B1 M1 fun y B2 M2 => EM X f σ B2 M2 fun z B3 M3 => ∃ r, DGet (jn B3 M3) d y r ∧ P (r.getD z) B3 M3)
    (m2 : M2 X o "get" apos e f cpos := by exact ⟨rfl, rfl, rfl, rfl⟩) : EM X (.Call (.Attribute o "get" apos) [e, f] [] cpos) σ B M P :=
  em_of (pe_dget2 hu pe_w pe_w pe_w m2) fun H w Q k => h H w _ fun x B1 M1 H1 g ⟨d, hx, ⟨kvs, hr⟩, q⟩ => ⟨d, hx, .inl ⟨kvs, rd_up g.own.jn hr⟩, q H1 g.own _ fun y B2 M2 H2 g2 q2 => q2 H2 g2.own _ fun z B3 M3 H3 g3 ⟨r, hd, hp⟩ => ⟨r, dget_up g3.own.jn hd, k _ _ _ _ ((g.tr g2).tr g3) hp⟩⟩
/-- {} (owned), its keys ints and texts, or tuples -/
theorem em_dnewK (h : ∀ d, B d = none → M d = none → P (.ref d) B (upd M d (.dK []))) : EM X (.Dict [] [] pos) σ B M P := em_of pe_dnewK fun H w Q k => cm_newM h w k
theorem em_dnewT (h : ∀ d, B d = none → M d = none → P (.ref d) B (upd M d (.dT []))) : EM X (.Dict [] [] pos) σ B M P := em_of pe_dnewT fun H w Q k => cm_newM h w k
/-- {k: v} -/
theorem em_d1 {ke ve : Expr} (h : ∀ d, B d = none → M d = none → EM X ke σ B (upd M d (.dK [])) fun x B1 M1 => EM X ve σ B1 M1 fun y B2 M2 => M2 d = some (.dK []) ∧ ∃ k, x = kV k ∧ P (.ref d) B2 (upd M2 d (.dK [(k, y)]))) : EM X (.Dict [some ke] [ve] pos) σ B M P :=
  em_of (pe_disp (pps_cons pe_w pe_w pps_nil) (by rfl) (by rfl) (fun z => by cases z) (by show 1 ≤ 15; omega)) fun H w Q kq p hp => by
    have g0 := Gs.newM (o := .dK []) w hp
    refine h p (w.fresh hp).1 (w.fresh hp).2 _ g0.own _ fun x B1 M1 H1 g q => q H1 g.own _ fun y B2 M2 H2 g2 ⟨hd, k, hx, q2⟩ => ?_
    exact ⟨(g2.own.m _ _ hd).1, [(k, y)], by subst hx; rfl, by show 1 ≤ 15; omega, kq _ _ _ _ (((g0.tr g).tr g2).tr (Gs.setM g2.own hd)) q2⟩
/-- methods of built-ins -/
theorem em_bm {r : V → List V → Hp → VK → Prop} {name : Str} (pa : PlainAttrs T) (slot : Slot T name ide) (hty : typeOf (.builtin ide) = pure (.type "method_descriptor")) (hm : MtR X ide r)
    (h : EM X o σ B M fun x B1 M1 => (∃ q xs, T = "list" ∧ x = .ref q ∧ SqL X.K (jn B1 M1) q xs) ∧ AM X (e :: es) σ B1 M1 fun vs B2 M2 => Emt (r x vs) B2 M2 P)
    (hbase : attributeBase o name X.env (eval o X.env) = eval o X.env := by rfl)
    (hfew : ((backTo cpos (starEach (e :: es) X.env)).all (fun x => !x.1) && (backToKw cpos (keywordEach [] X.env)).all (fun x => x.1.isSome)
      && decide ((e :: es).length + ([] : List Keyword).length + (if ([] : List Keyword).isEmpty then 0 else 1) < 30)) = true := by rfl)
    (hline : (apos.endLine == cpos.line) = true := by rfl) (hs : starEach (e :: es) X.env = (false, eval e X.env) :: starEach es X.env := by rfl) (hplain : (backTo cpos (starEach es X.env)).any (·.1) = false := by rfl) :
    EM X (.Call (.Attribute o name apos) (e :: es) [] cpos) σ B M P :=
  em_of (pe_bm pa slot hty hm pe_w pa_w hbase hfew hline hs hplain) fun H w Q k => h H w _ fun x B1 M1 H1 g ⟨⟨q, xs, hT, hx, hl⟩, q1⟩ => ⟨by subst hx; exact .inl ⟨hT, xs, sql_up g.own.jn hl⟩, q1 H1 g.own _ fun vs B2 M2 H2 g2 q2 => q2 H2 g2.own _ fun v B3 M3 H3 g3 q3 => k _ _ _ _ ((g.tr g2).tr g3) q3⟩
/-- xs.append(y), xs an owned list -/
theorem em_append (h : EM X o σ B M fun x B1 M1 => ∃ l xs, x = .ref l ∧ M1 l = some (.lst xs) ∧ B1 l = none ∧ EM X e σ B1 M1 fun y B2 M2 => ∃ zs, M2 l = some (.lst zs) ∧ zs.length < sizeLine ∧ P .non B2 (upd M2 l (.lst (zs ++ [y]))))
    (hbase : attributeBase o "append" X.env (eval o X.env) = eval o X.env := by rfl)
    (hfew : ((backTo cpos (starEach [e] X.env)).all (fun x => !x.1) && (backToKw cpos (keywordEach [] X.env)).all (fun x => x.1.isSome)
      && decide (([e] : List Expr).length + ([] : List Keyword).length + (if ([] : List Keyword).isEmpty then 0 else 1) < 30)) = true := by rfl)
    (hline : (apos.endLine == cpos.line) = true := by rfl) (hs : starEach [e] X.env = (false, eval e X.env) :: starEach [] X.env := by rfl) : EM X (.Call (.Attribute o "append" apos) [e] [] cpos) σ B M P :=
  em_bm PySem.F.plainAttrs_list PySem.F.slot_list_append PySem.F.type_list_append mt_append (h.imp fun x B1 M1 _ ⟨l, xs, hx, hm, hn, q⟩ => ⟨⟨l, xs, rfl, hx, SqL.of (jn_m hm hn)⟩, am_cons (q.imp fun y B2 M2 _ ⟨zs, h2, hl, hp⟩ => am_nil fun H w Q k =>
    ⟨l, zs, y, hx, rfl, (w.m l _ h2).1, hl, k _ _ _ _ (Gs.setM w h2) hp⟩) hs⟩) hbase hfew hline hs
theorem em_extend (h : EM X o σ B M fun x B1 M1 => ∃ l xs, x = .ref l ∧ M1 l = some (.lst xs) ∧ B1 l = none ∧ EM X e σ B1 M1 fun y B2 M2 => ∃ zs q ys, M2 l = some (.lst zs) ∧ y = .ref q ∧ jn B2 M2 q = some (.lst ys) ∧ zs.length + ys.length ≤ sizeLine ∧ P .non B2 (upd M2 l (.lst (zs ++ ys))))
    (hbase : attributeBase o "extend" X.env (eval o X.env) = eval o X.env := by rfl)
    (hfew : ((backTo cpos (starEach [e] X.env)).all (fun x => !x.1) && (backToKw cpos (keywordEach [] X.env)).all (fun x => x.1.isSome)
      && decide (([e] : List Expr).length + ([] : List Keyword).length + (if ([] : List Keyword).isEmpty then 0 else 1) < 30)) = true := by rfl)
    (hline : (apos.endLine == cpos.line) = true := by rfl) (hs : starEach [e] X.env = (false, eval e X.env) :: starEach [] X.env := by rfl) : EM X (.Call (.Attribute o "extend" apos) [e] [] cpos) σ B M P :=
  em_bm PySem.F.plainAttrs_list PySem.F.slot_list_extend PySem.F.type_list_extend mt_extend (h.imp fun x B1 M1 _ ⟨l, xs, hx, hm, hn, q⟩ => ⟨⟨l, xs, rfl, hx, SqL.of (jn_m hm hn)⟩, am_cons (q.imp fun y B2 M2 _ ⟨zs, r, ys, h2, hy, hr, hl, hp⟩ => am_nil fun H w Q k =>
    ⟨l, r, zs, ys, hx, by rw [hy], (w.m l _ h2).1, w.jn _ _ hr, hl, k _ _ _ _ (Gs.setM w h2) hp⟩) hs⟩) hbase hfew hline hs
theorem em_popAt (h : EM X o σ B M fun x B1 M1 => ∃ l xs, x = .ref l ∧ M1 l = some (.lst xs) ∧ B1 l = none ∧ EM X e σ B1 M1 fun y B2 M2 => ∃ (zs : List V) (j : Nat) (v : V), y = .int j ∧ M2 l = some (.lst zs) ∧ j < 1000000 ∧ zs[j]? = some v ∧ P v B2 (upd M2 l (.lst (zs.eraseIdx j))))
    (hbase : attributeBase o "pop" X.env (eval o X.env) = eval o X.env := by rfl)
    (hfew : ((backTo cpos (starEach [e] X.env)).all (fun x => !x.1) && (backToKw cpos (keywordEach [] X.env)).all (fun x => x.1.isSome)
      && decide (([e] : List Expr).length + ([] : List Keyword).length + (if ([] : List Keyword).isEmpty then 0 else 1) < 30)) = true := by rfl)
    (hline : (apos.endLine == cpos.line) = true := by rfl) (hs : starEach [e] X.env = (false, eval e X.env) :: starEach [] X.env := by rfl) : EM X (.Call (.Attribute o "pop" apos) [e] [] cpos) σ B M P :=
  em_bm PySem.F.plainAttrs_list PySem.F.slot_list_pop PySem.F.type_list_pop mt_popAt (h.imp fun x B1 M1 _ ⟨l, xs, hx, hm, hn, q⟩ => ⟨⟨l, xs, rfl, hx, SqL.of (jn_m hm hn)⟩, am_cons (q.imp fun y B2 M2 _ ⟨zs, j, v, hy, h2, hl, hv, hp⟩ => am_nil fun H w Q k =>
    ⟨l, zs, (j : Int), j, v, hx, by rw [hy], (w.m l _ h2).1, by omega, by omega, by
      have hj : j < zs.length := (List.getElem?_eq_some_iff.mp hv).1
      exact PySem.StrLaws.seqIndex_nonneg (by omega) (by omega), hv, k _ _ _ _ (Gs.setM w h2) hp⟩) hs⟩) hbase hfew hline hs
theorem em_index (h : EM X o σ B M fun x B1 M1 => ∃ l xs, x = .ref l ∧ SqL X.K (jn B1 M1) l xs ∧ EM X e σ B1 M1 fun y B2 M2 => ∃ (j : Nat) (z : V), SqL X.K (jn B2 M2) l xs ∧ flatV y = true ∧ xs.all flatV = true ∧ xs[j]? = some z ∧ eqV z y = true ∧ (∀ (i : Nat) z', i < j → xs[i]? = some z' → eqV z' y = false) ∧ P (.int j) B2 M2)
    (hbase : attributeBase o "index" X.env (eval o X.env) = eval o X.env := by rfl)
    (hfew : ((backTo cpos (starEach [e] X.env)).all (fun x => !x.1) && (backToKw cpos (keywordEach [] X.env)).all (fun x => x.1.isSome)
      && decide (([e] : List Expr).length + ([] : List Keyword).length + (if ([] : List Keyword).isEmpty then 0 else 1) < 30)) = true := by rfl)
    (hline : (apos.endLine == cpos.line) = true := by rfl) (hs : starEach [e] X.env = (false, eval e X.env) :: starEach [] X.env := by rfl) : EM X (.Call (.Attribute o "index" apos) [e] [] cpos) σ B M P :=
  em_bm PySem.F.plainAttrs_list PySem.F.slot_list_index PySem.F.type_list_index mt_index (h.imp fun x B1 M1 _ ⟨l, xs, hx, hm, q⟩ => ⟨⟨l, xs, rfl, hx, hm⟩, am_cons (q.imp fun y B2 M2 _ ⟨j, z, h2, h3, h4, h5, h6, h7, hp⟩ => am_nil fun H w Q k =>
    ⟨l, xs, y, j, z, hx, rfl, sql_up w.jn h2, h3, h4, h5, h6, h7, k _ _ _ _ (Gs.id' w) hp⟩) hs⟩) hbase hfew hline hs
end
end LC
end LcExp
section LcTxt
set_option maxHeartbeats 4000000
/-! The text's places, names, facts. Printed by gen_txt.py. -/
namespace LC
open PySem L2
open He (ga ma)
open He5 (wf DefA SaysA)
def top (i : Nat) : Stmt := PySem.Challenge.pw_lotcosts_k79_whole_what_shown_costs_tell.main.body.getD i (.Pass ⟨0, 0, 0, 0⟩)
def mkd (at_ : PySem.W.Frag → Addr) (name qual : Str) (st : Stmt) (dfl : List He.Dv) (kwd : List (Str × He.Dv)) : DefA := ⟨at_, name, qual, defArgs st, defBody st, defScope st, dfl, kwd⟩
abbrev s_Unfit_init : Stmt := inClass (top 16) 0
abbrev n_Unfit_init : List Str := ["self", "factors"]
abbrev s_common_divisor : Stmt := top 18
abbrev n_common_divisor : List Str := ["one", "other"]
abbrev s_halves : Stmt := top 19
abbrev n_halves : List Str := ["value"]
abbrev s_Ratio_init : Stmt := inClass (top 20) 0
abbrev n_Ratio_init : List Str := ["self", "top", "bottom", "divisor"]
abbrev s_Ratio_add : Stmt := inClass (top 20) 1
abbrev n_Ratio_add : List Str := ["self", "other", "top", "bottom"]
abbrev s_Ratio_radd : Stmt := inClass (top 20) 2
abbrev n_Ratio_radd : List Str := ["self", "other"]
abbrev s_Ratio_sub : Stmt := inClass (top 20) 3
abbrev n_Ratio_sub : List Str := ["self", "other", "top", "bottom"]
abbrev s_Ratio_rsub : Stmt := inClass (top 20) 4
abbrev n_Ratio_rsub : List Str := ["self", "other"]
abbrev s_Ratio_mul : Stmt := inClass (top 20) 5
abbrev n_Ratio_mul : List Str := ["self", "other", "top", "bottom"]
abbrev s_Ratio_rmul : Stmt := inClass (top 20) 6
abbrev n_Ratio_rmul : List Str := ["self", "other"]
abbrev s_Ratio_neg : Stmt := inClass (top 20) 7
abbrev n_Ratio_neg : List Str := ["self"]
abbrev s_Ratio_abs : Stmt := inClass (top 20) 8
abbrev n_Ratio_abs : List Str := ["self"]
abbrev s_Ratio_over : Stmt := inClass (top 20) 9
abbrev n_Ratio_over : List Str := ["self", "other", "top", "bottom"]
abbrev s_Ratio_less : Stmt := inClass (top 20) 10
abbrev n_Ratio_less : List Str := ["self", "other", "top", "bottom"]
abbrev s_Ratio_at_most : Stmt := inClass (top 20) 11
abbrev n_Ratio_at_most : List Str := ["self", "other", "top", "bottom"]
abbrev s_Ratio_same : Stmt := inClass (top 20) 12
abbrev n_Ratio_same : List Str := ["self", "other"]
abbrev s_Ratio_sum_of : Stmt := inClass (top 20) 15
abbrev n_Ratio_sum_of : List Str := ["items", "total", "item"]
abbrev s_valid_name : Stmt := top 23
abbrev n_valid_name : List Str := ["name", "letter"]
abbrev s_Form_init : Stmt := inClass (top 24) 0
abbrev n_Form_init : List Str := ["self", "shares", "given", "name", "exact"]
abbrev s_Form_of : Stmt := inClass (top 24) 1
abbrev n_Form_of : List Str := ["cls", "name"]
abbrev s_Form_share : Stmt := inClass (top 24) 2
abbrev n_Form_share : List Str := ["self", "name"]
abbrev s_Form_names : Stmt := inClass (top 24) 3
abbrev n_Form_names : List Str := ["self"]
abbrev s_Form_add : Stmt := inClass (top 24) 4
abbrev n_Form_add : List Str := ["self", "other", "name"]
abbrev s_Form_sub : Stmt := inClass (top 24) 5
abbrev n_Form_sub : List Str := ["self", "other", "name"]
abbrev s_Form_neg : Stmt := inClass (top 24) 6
abbrev n_Form_neg : List Str := ["self", "name"]
abbrev s_Form_mul : Stmt := inClass (top 24) 7
abbrev n_Form_mul : List Str := ["self", "number", "name"]
abbrev s_Form_rmul : Stmt := inClass (top 24) 8
abbrev n_Form_rmul : List Str := ["self", "number"]
abbrev s_Form_over : Stmt := inClass (top 24) 9
abbrev n_Form_over : List Str := ["self", "number"]
abbrev s_Form_at_most : Stmt := inClass (top 24) 10
abbrev n_Form_at_most : List Str := ["self", "other", "name"]
abbrev s_Form_same : Stmt := inClass (top 24) 11
abbrev n_Form_same : List Str := ["self", "other"]
abbrev s_Form_at : Stmt := inClass (top 24) 12
abbrev n_Form_at : List Str := ["self", "prices", "name"]
abbrev s_Step_init : Stmt := inClass (top 26) 0
abbrev n_Step_init : List Str := ["self", "pivot", "form", "factors"]
abbrev s_Step_cleared : Stmt := inClass (top 26) 1
abbrev n_Step_cleared : List Str := ["self", "other", "share"]
abbrev s_less_times : Stmt := top 27
abbrev n_less_times : List Str := ["one", "other", "share", "index"]
abbrev s_Shown_init : Stmt := inClass (top 28) 0
abbrev n_Shown_init : List Str := ["self", "forms", "number"]
abbrev s_Shown_take_in : Stmt := inClass (top 28) 1
abbrev n_Shown_take_in : List Str := ["self", "number", "own", "rest", "factors", "pivot", "share", "step", "index", "factor", "old"]
abbrev s_Shown_reduced : Stmt := inClass (top 28) 2
abbrev n_Shown_reduced : List Str := ["self", "form", "factors", "step", "share"]
abbrev s_Shown_weights : Stmt := inClass (top 28) 3
abbrev n_Shown_weights : List Str := ["self", "asked", "rest", "factors", "form", "factor"]
abbrev s_Shown_unseen : Stmt := inClass (top 28) 4
abbrev n_Shown_unseen : List Str := ["self", "asked", "rest", "factors", "names", "form", "change", "free", "step", "name"]
abbrev s_Shown_value : Stmt := inClass (top 28) 8
abbrev n_Shown_value : List Str := ["self", "asked", "values", "factors", "weights"]
abbrev s_sum_of_products : Stmt := top 29
abbrev n_sum_of_products : List Str := ["factors", "values", "index"]
abbrev s_is_name : Stmt := top 34
abbrev n_is_name : List Str := ["name", "letter"]
abbrev s_is_number : Stmt := top 35
abbrev n_is_number : List Str := ["value", "least"]
abbrev s_is_entry : Stmt := top 36
abbrev n_is_entry : List Str := ["entry", "units", "lot"]
abbrev s_Book_init : Stmt := inClass (top 37) 0
abbrev n_Book_init : List Str := ["self"]
abbrev s_Book_getitem : Stmt := inClass (top 37) 4
abbrev n_Book_getitem : List Str := ["self", "place", "day", "number"]
abbrev s_Book_setitem : Stmt := inClass (top 37) 5
abbrev n_Book_setitem : List Str := ["self", "place", "entry", "day", "number"]
abbrev s_Book_places : Stmt := inClass (top 37) 7
abbrev n_Book_places : List Str := ["self"]
abbrev s_Book_named : Stmt := inClass (top 37) 8
abbrev n_Book_named : List Str := ["self", "kind", "found", "place", "entry"]
abbrev s_Book_lots : Stmt := inClass (top 37) 9
abbrev n_Book_lots : List Str := ["self"]
abbrev s_Book_sales : Stmt := inClass (top 37) 10
abbrev n_Book_sales : List Str := ["self"]
abbrev s_Book_joined : Stmt := inClass (top 37) 14
abbrev n_Book_joined : List Str := ["self", "other", "place", "both"]
abbrev s_stacked : Stmt := top 41
abbrev n_stacked : List Str := ["layers", "found", "lot", "amount"]
abbrev s_units_in : Stmt := top 42
abbrev n_units_in : List Str := ["parts", "lot", "amount"]
abbrev s_cut : Stmt := top 43
abbrev n_cut : List Str := ["parts", "units", "taken", "left", "rest", "lot", "amount", "part"]
abbrev s_shared : Stmt := top 44
abbrev n_shared : List Str := ["parts", "share", "lot", "amount"]
abbrev s_check_units : Stmt := top 45
abbrev n_check_units : List Str := ["parts", "units", "total"]
abbrev s_Rule_init : Stmt := inClass (top 46) 0
abbrev n_Rule_init : List Str := ["self", "take", "place", "period"]
abbrev s_Rule_call : Stmt := inClass (top 46) 1
abbrev n_Rule_call : List Str := ["self", "layers", "units", "share", "taken", "left"]
abbrev s_Rule_returned : Stmt := inClass (top 46) 2
abbrev n_Rule_returned : List Str := ["self", "parts", "units", "share", "back", "kept"]
abbrev s_Rule_laid : Stmt := inClass (top 46) 3
abbrev n_Rule_laid : List Str := ["self", "layers", "parts", "lots", "found", "part"]
abbrev s_Rule_put : Stmt := inClass (top 46) 4
abbrev n_Rule_put : List Str := ["self", "layers", "part", "lots", "lot", "amount", "own", "joined", "later", "above", "spot"]
abbrev s_Rule_worked : Stmt := inClass (top 46) 5
abbrev n_Rule_worked : List Str := ["self", "book", "places", "found", "period", "own", "day", "number", "place"]
abbrev s_Costing_init : Stmt := inClass (top 48) 0
abbrev n_Costing_init : List Str := ["self", "book", "rule", "place", "day", "number", "kind", "name", "thing"]
abbrev s_Costing_check_free : Stmt := inClass (top 48) 1
abbrev n_Costing_check_free : List Str := ["self", "name"]
abbrev s_Costing_work_buy : Stmt := inClass (top 48) 2
abbrev n_Costing_work_buy : List Str := ["self", "lot", "units"]
abbrev s_Costing_work_sell : Stmt := inClass (top 48) 3
abbrev n_Costing_work_sell : List Str := ["self", "day", "number", "sale", "units", "taken", "left", "short"]
abbrev s_Costing_work_back : Stmt := inClass (top 48) 4
abbrev n_Costing_work_back : List Str := ["self", "day", "number", "sale", "units", "left", "back", "kept"]
abbrev s_Costing_work_late : Stmt := inClass (top 48) 5
abbrev n_Costing_work_late : List Str := ["self", "cost", "lot", "units", "out", "part"]
abbrev s_Costing_unit_cost : Stmt := inClass (top 48) 6
abbrev n_Costing_unit_cost : List Str := ["self", "lot", "form", "cost"]
abbrev s_Costing_cost_of : Stmt := inClass (top 48) 7
abbrev n_Costing_cost_of : List Str := ["self", "parts", "form", "lot", "amount"]
abbrev s_Costing_parts : Stmt := inClass (top 48) 8
abbrev n_Costing_parts : List Str := ["self", "sale"]
abbrev s_Costing_cost : Stmt := inClass (top 48) 9
abbrev n_Costing_cost : List Str := ["self", "sale"]
abbrev s_Costing_booked : Stmt := inClass (top 48) 10
abbrev n_Costing_booked : List Str := ["self", "day", "number"]
abbrev s_Costing_until : Stmt := inClass (top 48) 11
abbrev n_Costing_until : List Str := ["self", "day", "form", "place"]
abbrev s_Costing_layers : Stmt := inClass (top 48) 12
abbrev n_Costing_layers : List Str := ["self"]
abbrev s_Costing_stock : Stmt := inClass (top 48) 13
abbrev n_Costing_stock : List Str := ["self"]
abbrev s_Costing_paid : Stmt := inClass (top 48) 14
abbrev n_Costing_paid : List Str := ["self", "form", "lot", "cost"]
abbrev s_law_bag : Stmt := top 50
abbrev n_law_bag : List Str := ["_law_script"]
abbrev s_law_draw : Stmt := top 51
abbrev n_law_draw : List Str := ["_law_bag_here", "_law_size", "_law_cell", "_law_digit", "_law_mixed_here"]
abbrev s_law_names : Stmt := top 52
abbrev n_law_names : List Str := ["_law_bag_here", "_law_count", "_law_words", "_law_letters", "_law_size", "_law_stem", "_law_where", "_law_shift", "_law_longer", "_law_names_here", "_law_k", "_law_name", "_law_spot", "_law_word"]
abbrev s_law_pick : Stmt := top 53
abbrev n_law_pick : List Str := ["_law_bag_here", "_law_items"]
abbrev s_law_mixed : Stmt := top 54
abbrev n_law_mixed : List Str := ["_law_bag_here", "_law_items", "_law_left", "_law_found", "_law_k"]
abbrev s_law_rule : Stmt := top 55
abbrev n_law_rule : List Str := ["_law_bag_here", "_law_take", "_law_laid", "_law_span"]
abbrev s_law_made : Stmt := top 56
abbrev n_law_made : List Str := ["_law_rule_here"]
abbrev s_law_next : Stmt := top 57
abbrev n_law_next : List Str := ["_law_bag_here", "_law_entries_here", "_law_step"]
abbrev s_law_entries : Stmt := top 58
abbrev n_law_entries : List Str := ["_law_bag_here", "_law_most", "_law_steps", "_law_size", "_law_names_here", "_law_sales", "_law_entries_here", "_law_bought", "_law_left", "_law_stock", "_law_costs", "_law_k", "_law_choice", "_law_out", "_law_entry", "_law_units", "_law_sale", "_law_day", "_law_number"]
abbrev s_law_book : Stmt := top 59
abbrev n_law_book : List Str := ["_law_entries_here", "_law_book_here", "_law_day", "_law_number", "_law_entry"]
abbrev s_law_added : Stmt := top 60
abbrev n_law_added : List Str := ["_law_forms", "_law_weights", "_law_total", "_law_k"]
abbrev s_law_hidden_right : Stmt := top 61
abbrev n_law_hidden_right : List Str := ["_law_bag_here", "_law_forms", "_law_paid_here", "_law_spot", "_law_others", "_law_rest", "_law_change", "_law_told", "_law_total", "_law_name"]
abbrev s_law_paid : Stmt := top 62
abbrev n_law_paid : List Str := ["_law_entries_here", "_law_shares", "_law_day", "_law_number", "_law_entry"]
abbrev s_law : Stmt := top 63
abbrev n_law : List Str := ["_law_script", "_law_bag_here", "_law_entries_here", "_law_book_here", "_law_costs", "_law_sales", "_law_forms", "_law_paid_here", "_law_shown", "_law_weights", "_law_prices", "_law_name", "_law_values", "_law_booked", "_law_sale", "_law_form", "_law_value", "_law_spot"]
def defsL : List DefA := [
  mkd (fun K => ma K (ga K "Unfit") "__init__") "__init__" "Unfit.__init__" s_Unfit_init [] [],
  mkd (fun K => ga K "common_divisor") "common_divisor" "common_divisor" s_common_divisor [] [],
  mkd (fun K => ga K "halves") "halves" "halves" s_halves [] [],
  mkd (fun K => ma K (ga K "Ratio") "__init__") "__init__" "Ratio.__init__" s_Ratio_init [.int 1] [],
  mkd (fun K => ma K (ga K "Ratio") "__add__") "__add__" "Ratio.__add__" s_Ratio_add [] [],
  mkd (fun K => ma K (ga K "Ratio") "__radd__") "__radd__" "Ratio.__radd__" s_Ratio_radd [] [],
  mkd (fun K => ma K (ga K "Ratio") "__sub__") "__sub__" "Ratio.__sub__" s_Ratio_sub [] [],
  mkd (fun K => ma K (ga K "Ratio") "__rsub__") "__rsub__" "Ratio.__rsub__" s_Ratio_rsub [] [],
  mkd (fun K => ma K (ga K "Ratio") "__mul__") "__mul__" "Ratio.__mul__" s_Ratio_mul [] [],
  mkd (fun K => ma K (ga K "Ratio") "__rmul__") "__rmul__" "Ratio.__rmul__" s_Ratio_rmul [] [],
  mkd (fun K => ma K (ga K "Ratio") "__neg__") "__neg__" "Ratio.__neg__" s_Ratio_neg [] [],
  mkd (fun K => ma K (ga K "Ratio") "__abs__") "__abs__" "Ratio.__abs__" s_Ratio_abs [] [],
  mkd (fun K => ma K (ga K "Ratio") "over") "over" "Ratio.over" s_Ratio_over [] [],
  mkd (fun K => ma K (ga K "Ratio") "less") "less" "Ratio.less" s_Ratio_less [] [],
  mkd (fun K => ma K (ga K "Ratio") "at_most") "at_most" "Ratio.at_most" s_Ratio_at_most [] [],
  mkd (fun K => ma K (ga K "Ratio") "same") "same" "Ratio.same" s_Ratio_same [] [],
  mkd (fun K => wf K (ga K "Ratio") "staticmethod" "sum_of") "sum_of" "Ratio.sum_of" s_Ratio_sum_of [] [],
  mkd (fun K => ga K "valid_name") "valid_name" "valid_name" s_valid_name [] [],
  mkd (fun K => ma K (ga K "Form") "__init__") "__init__" "Form.__init__" s_Form_init [.non] [],
  mkd (fun K => wf K (ga K "Form") "classmethod" "of") "of" "Form.of" s_Form_of [] [],
  mkd (fun K => ma K (ga K "Form") "share") "share" "Form.share" s_Form_share [] [],
  mkd (fun K => ma K (ga K "Form") "names") "names" "Form.names" s_Form_names [] [],
  mkd (fun K => ma K (ga K "Form") "__add__") "__add__" "Form.__add__" s_Form_add [] [],
  mkd (fun K => ma K (ga K "Form") "__sub__") "__sub__" "Form.__sub__" s_Form_sub [] [],
  mkd (fun K => ma K (ga K "Form") "__neg__") "__neg__" "Form.__neg__" s_Form_neg [] [],
  mkd (fun K => ma K (ga K "Form") "__mul__") "__mul__" "Form.__mul__" s_Form_mul [] [],
  mkd (fun K => ma K (ga K "Form") "__rmul__") "__rmul__" "Form.__rmul__" s_Form_rmul [] [],
  mkd (fun K => ma K (ga K "Form") "over") "over" "Form.over" s_Form_over [] [],
  mkd (fun K => ma K (ga K "Form") "at_most") "at_most" "Form.at_most" s_Form_at_most [] [],
  mkd (fun K => ma K (ga K "Form") "same") "same" "Form.same" s_Form_same [] [],
  mkd (fun K => ma K (ga K "Form") "at") "at" "Form.at" s_Form_at [] [],
  mkd (fun K => ma K (ga K "Step") "__init__") "__init__" "Step.__init__" s_Step_init [] [],
  mkd (fun K => ma K (ga K "Step") "cleared") "cleared" "Step.cleared" s_Step_cleared [] [],
  mkd (fun K => ga K "less_times") "less_times" "less_times" s_less_times [] [],
  mkd (fun K => ma K (ga K "Shown") "__init__") "__init__" "Shown.__init__" s_Shown_init [] [],
  mkd (fun K => ma K (ga K "Shown") "take_in") "take_in" "Shown.take_in" s_Shown_take_in [] [],
  mkd (fun K => ma K (ga K "Shown") "reduced") "reduced" "Shown.reduced" s_Shown_reduced [] [],
  mkd (fun K => ma K (ga K "Shown") "weights") "weights" "Shown.weights" s_Shown_weights [] [],
  mkd (fun K => ma K (ga K "Shown") "unseen") "unseen" "Shown.unseen" s_Shown_unseen [] [],
  mkd (fun K => ma K (ga K "Shown") "value") "value" "Shown.value" s_Shown_value [] [],
  mkd (fun K => ga K "sum_of_products") "sum_of_products" "sum_of_products" s_sum_of_products [] [],
  mkd (fun K => ga K "is_name") "is_name" "is_name" s_is_name [] [],
  mkd (fun K => ga K "is_number") "is_number" "is_number" s_is_number [] [],
  mkd (fun K => ga K "is_entry") "is_entry" "is_entry" s_is_entry [] [],
  mkd (fun K => ma K (ga K "Book") "__init__") "__init__" "Book.__init__" s_Book_init [] [],
  mkd (fun K => ma K (ga K "Book") "__getitem__") "__getitem__" "Book.__getitem__" s_Book_getitem [] [],
  mkd (fun K => ma K (ga K "Book") "__setitem__") "__setitem__" "Book.__setitem__" s_Book_setitem [] [],
  mkd (fun K => ma K (ga K "Book") "places") "places" "Book.places" s_Book_places [] [],
  mkd (fun K => ma K (ga K "Book") "named") "named" "Book.named" s_Book_named [] [],
  mkd (fun K => ma K (ga K "Book") "lots") "lots" "Book.lots" s_Book_lots [] [],
  mkd (fun K => ma K (ga K "Book") "sales") "sales" "Book.sales" s_Book_sales [] [],
  mkd (fun K => ma K (ga K "Book") "joined") "joined" "Book.joined" s_Book_joined [] [],
  mkd (fun K => ga K "stacked") "stacked" "stacked" s_stacked [] [],
  mkd (fun K => ga K "units_in") "units_in" "units_in" s_units_in [] [],
  mkd (fun K => ga K "cut") "cut" "cut" s_cut [] [],
  mkd (fun K => ga K "shared") "shared" "shared" s_shared [] [],
  mkd (fun K => ga K "check_units") "check_units" "check_units" s_check_units [] [],
  mkd (fun K => ma K (ga K "Rule") "__init__") "__init__" "Rule.__init__" s_Rule_init [] [("place", .str "own"), ("period", .int 0)],
  mkd (fun K => ma K (ga K "Rule") "__call__") "__call__" "Rule.__call__" s_Rule_call [] [],
  mkd (fun K => ma K (ga K "Rule") "returned") "returned" "Rule.returned" s_Rule_returned [] [],
  mkd (fun K => ma K (ga K "Rule") "laid") "laid" "Rule.laid" s_Rule_laid [] [],
  mkd (fun K => ma K (ga K "Rule") "put") "put" "Rule.put" s_Rule_put [] [],
  mkd (fun K => ma K (ga K "Rule") "worked") "worked" "Rule.worked" s_Rule_worked [] [],
  mkd (fun K => ma K (ga K "Costing") "__init__") "__init__" "Costing.__init__" s_Costing_init [] [],
  mkd (fun K => ma K (ga K "Costing") "check_free") "check_free" "Costing.check_free" s_Costing_check_free [] [],
  mkd (fun K => ma K (ga K "Costing") "work_buy") "work_buy" "Costing.work_buy" s_Costing_work_buy [] [],
  mkd (fun K => ma K (ga K "Costing") "work_sell") "work_sell" "Costing.work_sell" s_Costing_work_sell [] [],
  mkd (fun K => ma K (ga K "Costing") "work_back") "work_back" "Costing.work_back" s_Costing_work_back [] [],
  mkd (fun K => ma K (ga K "Costing") "work_late") "work_late" "Costing.work_late" s_Costing_work_late [] [],
  mkd (fun K => ma K (ga K "Costing") "unit_cost") "unit_cost" "Costing.unit_cost" s_Costing_unit_cost [] [],
  mkd (fun K => ma K (ga K "Costing") "cost_of") "cost_of" "Costing.cost_of" s_Costing_cost_of [] [],
  mkd (fun K => ma K (ga K "Costing") "parts") "parts" "Costing.parts" s_Costing_parts [] [],
  mkd (fun K => ma K (ga K "Costing") "cost") "cost" "Costing.cost" s_Costing_cost [] [],
  mkd (fun K => ma K (ga K "Costing") "booked") "booked" "Costing.booked" s_Costing_booked [] [],
  mkd (fun K => ma K (ga K "Costing") "until") "until" "Costing.until" s_Costing_until [] [],
  mkd (fun K => ma K (ga K "Costing") "layers") "layers" "Costing.layers" s_Costing_layers [] [],
  mkd (fun K => ma K (ga K "Costing") "stock") "stock" "Costing.stock" s_Costing_stock [] [],
  mkd (fun K => ma K (ga K "Costing") "paid") "paid" "Costing.paid" s_Costing_paid [] [],
  mkd (fun K => ga K "_law_bag") "_law_bag" "_law_bag" s_law_bag [] [],
  mkd (fun K => ga K "_law_draw") "_law_draw" "_law_draw" s_law_draw [] [],
  mkd (fun K => ga K "_law_names") "_law_names" "_law_names" s_law_names [] [],
  mkd (fun K => ga K "_law_pick") "_law_pick" "_law_pick" s_law_pick [] [],
  mkd (fun K => ga K "_law_mixed") "_law_mixed" "_law_mixed" s_law_mixed [] [],
  mkd (fun K => ga K "_law_rule") "_law_rule" "_law_rule" s_law_rule [] [],
  mkd (fun K => ga K "_law_made") "_law_made" "_law_made" s_law_made [] [],
  mkd (fun K => ga K "_law_next") "_law_next" "_law_next" s_law_next [] [],
  mkd (fun K => ga K "_law_entries") "_law_entries" "_law_entries" s_law_entries [] [],
  mkd (fun K => ga K "_law_book") "_law_book" "_law_book" s_law_book [] [],
  mkd (fun K => ga K "_law_added") "_law_added" "_law_added" s_law_added [] [],
  mkd (fun K => ga K "_law_hidden_right") "_law_hidden_right" "_law_hidden_right" s_law_hidden_right [] [],
  mkd (fun K => ga K "_law_paid") "_law_paid" "_law_paid" s_law_paid [] [],
  mkd (fun K => ga K "law") "law" "law" s_law [] []]
def factsL : List He.Fa := [
  .glo "common_divisor",
  .glo "halves",
  .glo "valid_name",
  .glo "less_times",
  .glo "sum_of_products",
  .glo "is_name",
  .glo "is_number",
  .glo "is_entry",
  .glo "stacked",
  .glo "units_in",
  .glo "cut",
  .glo "shared",
  .glo "check_units",
  .glo "_law_bag",
  .glo "_law_draw",
  .glo "_law_names",
  .glo "_law_pick",
  .glo "_law_mixed",
  .glo "_law_rule",
  .glo "_law_made",
  .glo "_law_next",
  .glo "_law_entries",
  .glo "_law_book",
  .glo "_law_added",
  .glo "_law_hidden_right",
  .glo "_law_paid",
  .glo "law",
  .glo "Ratio",
  .cls "Ratio",
  .mkr "Ratio",
  .glo "Form",
  .cls "Form",
  .mkr "Form",
  .glo "Step",
  .cls "Step",
  .mkr "Step",
  .glo "Shown",
  .cls "Shown",
  .mkr "Shown",
  .glo "Book",
  .cls "Book",
  .mkr "Book",
  .glo "Rule",
  .cls "Rule",
  .mkr "Rule",
  .glo "Costing",
  .cls "Costing",
  .mkr "Costing",
  .glo "Short",
  .free "abs",
  .free "len",
  .free "range",
  .free "list",
  .free "sorted",
  .free "set",
  .free "int",
  .free "isinstance",
  .free "all",
  .free "min",
  .free "tuple",
  .free "bool",
  .free "str",
  .free "staticmethod",
  .free "classmethod",
  .str "LETTERS_forms" "abcdefghijklmnopqrstuvwxyz",
  .str "LETTERS_books" "abcdefghijklmnopqrstuvwxyz",
  .int "LONGEST" 12,
  .int "MOST" 1000000,
  .noat "Ratio" "top",
  .noat "Ratio" "bottom",
  .noat "Form" "shares",
  .noat "Step" "pivot",
  .noat "Step" "form",
  .noat "Step" "factors",
  .noat "Shown" "forms",
  .noat "Shown" "steps_found",
  .noat "Shown" "relations",
  .noat "Book" "entries",
  .noat "Rule" "take",
  .noat "Rule" "place",
  .noat "Rule" "period",
  .noat "Costing" "chosen",
  .noat "Costing" "stack",
  .noat "Costing" "bought",
  .noat "Costing" "known_late",
  .noat "Costing" "sold",
  .noat "Costing" "forms",
  .meth "Ratio" "__add__",
  .meth "Ratio" "__radd__",
  .meth "Ratio" "__sub__",
  .meth "Ratio" "__rsub__",
  .meth "Ratio" "__mul__",
  .meth "Ratio" "__rmul__",
  .meth "Ratio" "__neg__",
  .meth "Ratio" "__abs__",
  .meth "Ratio" "over",
  .meth "Ratio" "less",
  .meth "Ratio" "at_most",
  .meth "Ratio" "same",
  .meth "Form" "share",
  .meth "Form" "names",
  .meth "Form" "__add__",
  .meth "Form" "__sub__",
  .meth "Form" "__neg__",
  .meth "Form" "__mul__",
  .meth "Form" "__rmul__",
  .meth "Form" "over",
  .meth "Form" "at_most",
  .meth "Form" "same",
  .meth "Form" "at",
  .meth "Step" "cleared",
  .meth "Shown" "take_in",
  .meth "Shown" "reduced",
  .meth "Shown" "weights",
  .meth "Shown" "unseen",
  .meth "Shown" "value",
  .meth "Book" "__getitem__",
  .meth "Book" "__setitem__",
  .meth "Book" "places",
  .meth "Book" "named",
  .meth "Book" "lots",
  .meth "Book" "sales",
  .meth "Book" "joined",
  .meth "Rule" "__call__",
  .meth "Rule" "returned",
  .meth "Rule" "laid",
  .meth "Rule" "put",
  .meth "Rule" "worked",
  .meth "Costing" "check_free",
  .meth "Costing" "work_buy",
  .meth "Costing" "work_sell",
  .meth "Costing" "work_back",
  .meth "Costing" "work_late",
  .meth "Costing" "unit_cost",
  .meth "Costing" "cost_of",
  .meth "Costing" "parts",
  .meth "Costing" "cost",
  .meth "Costing" "booked",
  .meth "Costing" "until",
  .meth "Costing" "layers",
  .meth "Costing" "stock",
  .meth "Costing" "paid",
  .glo "TAKES",
  .glo "SPOTS"]
/-! ### more facts as Bools -/
def refB (x : Option (Option Value)) : Bool := match x with
  | some none => true
  | some (some (.ref _)) => true
  | _ => false
theorem refB_ok {x : Option (Option Value)} (h : refB x = true) : ∃ rc, x = some rc ∧ (rc = none ∨ ∃ g : Addr, rc = some (.ref g)) := by
  unfold refB at h
  split at h
  · exact ⟨none, rfl, .inl rfl⟩
  · exact ⟨_, rfl, .inr ⟨_, rfl⟩⟩
  · cases h
def opB (K : PySem.W.Frag) (C : Addr) (nm : String) (f : Addr) : Bool :=
  PySem.W.selfFirst K C && (He.eqO (PySem.W.findIn K (.ref C) (PySem.dunder nm)) (some (some (.ref f))) && (PySem.W.isFn K (.ref f) && refB (PySem.W.findIn K (.ref C) (PySem.dunderR nm))))
theorem opB_ok {K : PySem.W.Frag} {C f : Addr} {nm : String} (h : opB K C nm f = true) : OpC K C nm f := by
  obtain ⟨h1, h⟩ := He.ba h
  obtain ⟨h2, h⟩ := He.ba h
  obtain ⟨h3, h4⟩ := He.ba h
  exact ⟨h1, He.eqO_ok h2, h3, refB_ok h4⟩
def opiB (K : PySem.W.Frag) (C : Addr) (nm : String) : Bool :=
  decide (PySem.W.subIn K (.type "int") (.ref C) = some false) && ((PySem.W.findIn K (.type "int") (PySem.dunder nm)).isSome && (PySem.W.findIn K (.type "int") (PySem.dunderR nm)).isSome)
theorem opiB_ok {K : PySem.W.Frag} {C : Addr} {nm : String} (h : opiB K C nm = true) : OpI K C nm := by
  obtain ⟨h1, h⟩ := He.ba h
  obtain ⟨h2, h3⟩ := He.ba h
  exact ⟨of_decide_eq_true h1, Option.isSome_iff_exists.mp h2, Option.isSome_iff_exists.mp h3⟩
/-- an own class beside int, for isinstance -/
structure KitR (K : PySem.W.Frag) (C : Addr) : Prop where
  ha : PySem.W.findIn K (.ref C) "__class__" = some (some (.builtin "object.__class__"))
  hn : PySem.W.specialIn K (.builtin "object.__class__") "__get__" = some (some (.builtin "getset_descriptor.__get__"))
  htk : PySem.W.takesIn K (.builtin "object.__class__") = some true
  hm : PySem.W.mroIn K C (.type "object") = some true
  ki : PySem.W.kitOne K (.ref C) (.type "int") = some false
def kitR (K : PySem.W.Frag) (C : Addr) : Bool :=
  He.eqO (PySem.W.findIn K (.ref C) "__class__") (some (some (.builtin "object.__class__"))) && (He.eqO (PySem.W.specialIn K (.builtin "object.__class__") "__get__") (some (some (.builtin "getset_descriptor.__get__"))) &&
    (decide (PySem.W.takesIn K (.builtin "object.__class__") = some true) && (decide (PySem.W.mroIn K C (.type "object") = some true) && decide (PySem.W.kitOne K (.ref C) (.type "int") = some false))))
theorem kitR_ok {K : PySem.W.Frag} {C : Addr} (h : kitR K C = true) : KitR K C := by
  obtain ⟨h1, h⟩ := He.ba h
  obtain ⟨h2, h⟩ := He.ba h
  obtain ⟨h3, h⟩ := He.ba h
  obtain ⟨h4, h5⟩ := He.ba h
  exact ⟨He.eqO_ok h1, He.eqO_ok h2, of_decide_eq_true h3, of_decide_eq_true h4, of_decide_eq_true h5⟩
/-- a staticmethod, a classmethod -/
structure SMet (K : PySem.W.Frag) (C : Addr) (T gid : String) (m : Str) : Prop where
  rd : PySem.W.readsIn K C (.type "type") = true
  at_ : PySem.W.findCls K (.ref C) (.type "type") m = some (.get (.builtin gid) (.ref (ma K C m)) .none (.ref C))
  rc : ∃ rest, PySem.W.recIn K (ma K C m) T = some (.ref (wf K C T m) :: rest)
  fi : PySem.W.fnIn K (wf K C T m) = true
def smB (K : PySem.W.Frag) (C : Addr) (T gid : String) (m : Str) : Bool := PySem.W.readsIn K C (.type "type") && (He5.wrapB K C T gid m && PySem.W.fnIn K (wf K C T m))
theorem smB_ok {K : PySem.W.Frag} {C : Addr} {T gid : String} {m : Str} (h : smB K C T gid m = true) : SMet K C T gid m := by
  obtain ⟨h1, h⟩ := He.ba h
  obtain ⟨h2, h3⟩ := He.ba h
  obtain ⟨h4, h5⟩ := He5.wrapB_ok h2
  exact ⟨h1, h4, h5, h3⟩
theorem SMet.cread {K : PySem.W.Frag} {C : Addr} {T gid : String} {m : Str} (k : SMet K C T gid m) : ClX.CRead K C (.type "type") := by
  refine ⟨k.rd, ?_⟩
  have h := k.rd
  unfold PySem.W.readsIn at h
  obtain ⟨h, _⟩ := He.ba h
  obtain ⟨h, _⟩ := He.ba h
  obtain ⟨h, h3⟩ := He.ba h
  obtain ⟨_, h2⟩ := He.ba h
  unfold PySem.W.specialIn
  rw [beq_iff_eq.mp h2, Option.bind_some]
  exact beq_iff_eq.mp h3
/-- what of the text -/
structure OwnGet (K : PySem.W.Frag) (C : Addr) (m : Str) (f : Addr) : Prop where
  at_ : PySem.W.findIn K (.ref C) m = some (some (.ref f))
  fi : PySem.W.fnIn K f = true
  fn : PySem.W.isFn K (.ref f) = true
  nq : PySem.W.noSeq K C = true
def ownGetB (K : PySem.W.Frag) (C : Addr) (m : Str) (f : Addr) : Bool := He.eqO (PySem.W.findIn K (.ref C) m) (some (some (.ref f))) && (PySem.W.fnIn K f && (PySem.W.isFn K (.ref f) && PySem.W.noSeq K C))
theorem ownGetB_ok {K : PySem.W.Frag} {C : Addr} {m : Str} {f : Addr} (h : ownGetB K C m f = true) : OwnGet K C m f := by
  obtain ⟨h1, h⟩ := He.ba h
  obtain ⟨h2, h⟩ := He.ba h
  obtain ⟨h3, h4⟩ := He.ba h
  exact ⟨He.eqO_ok h1, h2, h3, h4⟩
def callB (K : PySem.W.Frag) (C g : Addr) : Bool := He.eqO (PySem.W.findIn K (.ref C) "__call__") (some (some (.ref g))) && (PySem.W.isFn K (.ref g) && PySem.W.fnIn K g)
theorem callB_ok {K : PySem.W.Frag} {C g : Addr} (h : callB K C g = true) : StX.CallO K C g := by
  obtain ⟨h1, h⟩ := He.ba h
  obtain ⟨h2, h3⟩ := He.ba h
  exact ⟨He.eqO_ok h1, h2, h3⟩

def strsB : List Value → List Str → Bool
  | [], [] => true
  | .str y _ :: r, z :: zs => decide (y = z) && strsB r zs
  | _, _ => false
theorem strsB_ok : ∀ {us : List Value} {zs : List Str}, strsB us zs = true → Vals (zs.map V.str) us
  | [], [], _ => .nil
  | .str y u :: r, z :: zs, h => by
    obtain ⟨h1, h2⟩ := He.ba (show (decide (y = z) && strsB r zs) = true from h)
    rw [of_decide_eq_true h1]
    exact .cons ⟨u, rfl⟩ (strsB_ok h2)
  | [], _ :: _, h => by cases h
def tupSB (K : PySem.W.Frag) (a : Addr) (zs : List Str) : Bool := match K.lookup a with
  | some o => decide (o.cls = .type "tuple") && (match o.data with
    | .seq its _ => decide (its.size ≤ sizeLine) && strsB its.toList zs
    | _ => false)
  | none => false
theorem tupSB_ok {K : PySem.W.Frag} {a : Addr} {zs : List Str} (h : tupSB K a zs = true) : ∀ H, SqT K H a (zs.map V.str) := by
  intro H
  unfold tupSB at h
  split at h
  · rename_i o ho
    obtain ⟨h1, h⟩ := He.ba h
    split at h
    · rename_i its n hd
      obtain ⟨h2, h3⟩ := He.ba h
      exact .inr ⟨o, its, n, ho, of_decide_eq_true h1, hd, of_decide_eq_true h2, strsB_ok h3⟩
    · cases h
  · cases h

def exL (K : PySem.W.Frag) : List Bool := [
  ownGetB K (ga K "Book") "__getitem__" (ma K (ga K "Book") "__getitem__"),
  ownGetB K (ga K "Book") "__setitem__" (ma K (ga K "Book") "__setitem__"),
  callB K (ga K "Rule") (ma K (ga K "Rule") "__call__"),
  smB K (ga K "Ratio") "staticmethod" "staticmethod.__get__" "sum_of",
  smB K (ga K "Form") "classmethod" "classmethod.__get__" "of",
  kitR K (ga K "Ratio"),
  opB K (ga K "Ratio") "add" (ma K (ga K "Ratio") "__add__"),
  opiB K (ga K "Ratio") "add",
  opB K (ga K "Ratio") "sub" (ma K (ga K "Ratio") "__sub__"),
  opiB K (ga K "Ratio") "sub",
  opB K (ga K "Ratio") "mul" (ma K (ga K "Ratio") "__mul__"),
  opiB K (ga K "Ratio") "mul",
  opB K (ga K "Form") "add" (ma K (ga K "Form") "__add__"),
  opiB K (ga K "Form") "add",
  opB K (ga K "Form") "sub" (ma K (ga K "Form") "__sub__"),
  opiB K (ga K "Form") "sub",
  opB K (ga K "Form") "mul" (ma K (ga K "Form") "__mul__"),
  opiB K (ga K "Form") "mul",
  He.eqO (PySem.W.findIn K (.ref (ga K "Ratio")) "__neg__") (some (some (.ref (ma K (ga K "Ratio") "__neg__")))),
  PySem.W.isFn K (.ref (ma K (ga K "Ratio") "__neg__")),
  He.eqO (PySem.W.findIn K (.ref (ga K "Form")) "__neg__") (some (some (.ref (ma K (ga K "Form") "__neg__")))),
  PySem.W.isFn K (.ref (ma K (ga K "Form") "__neg__")),
  He.eqO (PySem.W.findIn K (.ref (ga K "Ratio")) "__radd__") (some (some (.ref (ma K (ga K "Ratio") "__radd__")))),
  PySem.W.isFn K (.ref (ma K (ga K "Ratio") "__radd__")),
  He.eqO (PySem.W.findIn K (.ref (ga K "Ratio")) "__rsub__") (some (some (.ref (ma K (ga K "Ratio") "__rsub__")))),
  PySem.W.isFn K (.ref (ma K (ga K "Ratio") "__rsub__")),
  decide (PySem.W.subIn K (.ref (ga K "Ratio")) (.type "int") = some false),
  decide (PySem.W.subIn K (.ref (ga K "Ratio")) (.ref (ga K "Form")) = some false),
  decide (PySem.W.subIn K (.ref (ga K "Form")) (.ref (ga K "Ratio")) = some false),
  decide (ga K "Form" ≠ ga K "Ratio"),
  tupSB K (ga K "TAKES") ["oldest", "newest", "even"],
  tupSB K (ga K "SPOTS") ["own", "top", "bottom"]]
/-- what is told of the text behind the top -/
structure Tx (K : PySem.W.Frag) (mg : Str → Option Value) : Prop where
  says : SaysA factsL defsL K
  ex : (exL K).all id = true
  ns : ∃ h : Heap, K.In h ∧ h.Ns mainGlobals mg
section
variable {K : PySem.W.Frag} {mg : Str → Option Value} (t : Tx K mg)
theorem Tx.exAt (t : Tx K mg) (i : Nat) {b : Bool} (h : (exL K)[i]? = some b := by rfl) : b = true := by
  have := List.all_eq_true.mp t.ex b (List.mem_of_getElem? h)
  exact this
include t
theorem Tx.g_common_divisor : mg "common_divisor" = some (.ref (ga K "common_divisor")) := by
  obtain ⟨h, X, G⟩ := t.ns
  exact He.glo_ok X G (t.says.fact 0 (f := .glo "common_divisor") rfl)
theorem Tx.g_halves : mg "halves" = some (.ref (ga K "halves")) := by
  obtain ⟨h, X, G⟩ := t.ns
  exact He.glo_ok X G (t.says.fact 1 (f := .glo "halves") rfl)
theorem Tx.g_valid_name : mg "valid_name" = some (.ref (ga K "valid_name")) := by
  obtain ⟨h, X, G⟩ := t.ns
  exact He.glo_ok X G (t.says.fact 2 (f := .glo "valid_name") rfl)
theorem Tx.g_less_times : mg "less_times" = some (.ref (ga K "less_times")) := by
  obtain ⟨h, X, G⟩ := t.ns
  exact He.glo_ok X G (t.says.fact 3 (f := .glo "less_times") rfl)
theorem Tx.g_sum_of_products : mg "sum_of_products" = some (.ref (ga K "sum_of_products")) := by
  obtain ⟨h, X, G⟩ := t.ns
  exact He.glo_ok X G (t.says.fact 4 (f := .glo "sum_of_products") rfl)
theorem Tx.g_is_name : mg "is_name" = some (.ref (ga K "is_name")) := by
  obtain ⟨h, X, G⟩ := t.ns
  exact He.glo_ok X G (t.says.fact 5 (f := .glo "is_name") rfl)
theorem Tx.g_is_number : mg "is_number" = some (.ref (ga K "is_number")) := by
  obtain ⟨h, X, G⟩ := t.ns
  exact He.glo_ok X G (t.says.fact 6 (f := .glo "is_number") rfl)
theorem Tx.g_is_entry : mg "is_entry" = some (.ref (ga K "is_entry")) := by
  obtain ⟨h, X, G⟩ := t.ns
  exact He.glo_ok X G (t.says.fact 7 (f := .glo "is_entry") rfl)
theorem Tx.g_stacked : mg "stacked" = some (.ref (ga K "stacked")) := by
  obtain ⟨h, X, G⟩ := t.ns
  exact He.glo_ok X G (t.says.fact 8 (f := .glo "stacked") rfl)
theorem Tx.g_units_in : mg "units_in" = some (.ref (ga K "units_in")) := by
  obtain ⟨h, X, G⟩ := t.ns
  exact He.glo_ok X G (t.says.fact 9 (f := .glo "units_in") rfl)
theorem Tx.g_cut : mg "cut" = some (.ref (ga K "cut")) := by
  obtain ⟨h, X, G⟩ := t.ns
  exact He.glo_ok X G (t.says.fact 10 (f := .glo "cut") rfl)
theorem Tx.g_shared : mg "shared" = some (.ref (ga K "shared")) := by
  obtain ⟨h, X, G⟩ := t.ns
  exact He.glo_ok X G (t.says.fact 11 (f := .glo "shared") rfl)
theorem Tx.g_check_units : mg "check_units" = some (.ref (ga K "check_units")) := by
  obtain ⟨h, X, G⟩ := t.ns
  exact He.glo_ok X G (t.says.fact 12 (f := .glo "check_units") rfl)
theorem Tx.g_law_bag : mg "_law_bag" = some (.ref (ga K "_law_bag")) := by
  obtain ⟨h, X, G⟩ := t.ns
  exact He.glo_ok X G (t.says.fact 13 (f := .glo "_law_bag") rfl)
theorem Tx.g_law_draw : mg "_law_draw" = some (.ref (ga K "_law_draw")) := by
  obtain ⟨h, X, G⟩ := t.ns
  exact He.glo_ok X G (t.says.fact 14 (f := .glo "_law_draw") rfl)
theorem Tx.g_law_names : mg "_law_names" = some (.ref (ga K "_law_names")) := by
  obtain ⟨h, X, G⟩ := t.ns
  exact He.glo_ok X G (t.says.fact 15 (f := .glo "_law_names") rfl)
theorem Tx.g_law_pick : mg "_law_pick" = some (.ref (ga K "_law_pick")) := by
  obtain ⟨h, X, G⟩ := t.ns
  exact He.glo_ok X G (t.says.fact 16 (f := .glo "_law_pick") rfl)
theorem Tx.g_law_mixed : mg "_law_mixed" = some (.ref (ga K "_law_mixed")) := by
  obtain ⟨h, X, G⟩ := t.ns
  exact He.glo_ok X G (t.says.fact 17 (f := .glo "_law_mixed") rfl)
theorem Tx.g_law_rule : mg "_law_rule" = some (.ref (ga K "_law_rule")) := by
  obtain ⟨h, X, G⟩ := t.ns
  exact He.glo_ok X G (t.says.fact 18 (f := .glo "_law_rule") rfl)
theorem Tx.g_law_made : mg "_law_made" = some (.ref (ga K "_law_made")) := by
  obtain ⟨h, X, G⟩ := t.ns
  exact He.glo_ok X G (t.says.fact 19 (f := .glo "_law_made") rfl)
theorem Tx.g_law_next : mg "_law_next" = some (.ref (ga K "_law_next")) := by
  obtain ⟨h, X, G⟩ := t.ns
  exact He.glo_ok X G (t.says.fact 20 (f := .glo "_law_next") rfl)
theorem Tx.g_law_entries : mg "_law_entries" = some (.ref (ga K "_law_entries")) := by
  obtain ⟨h, X, G⟩ := t.ns
  exact He.glo_ok X G (t.says.fact 21 (f := .glo "_law_entries") rfl)
theorem Tx.g_law_book : mg "_law_book" = some (.ref (ga K "_law_book")) := by
  obtain ⟨h, X, G⟩ := t.ns
  exact He.glo_ok X G (t.says.fact 22 (f := .glo "_law_book") rfl)
theorem Tx.g_law_added : mg "_law_added" = some (.ref (ga K "_law_added")) := by
  obtain ⟨h, X, G⟩ := t.ns
  exact He.glo_ok X G (t.says.fact 23 (f := .glo "_law_added") rfl)
theorem Tx.g_law_hidden_right : mg "_law_hidden_right" = some (.ref (ga K "_law_hidden_right")) := by
  obtain ⟨h, X, G⟩ := t.ns
  exact He.glo_ok X G (t.says.fact 24 (f := .glo "_law_hidden_right") rfl)
theorem Tx.g_law_paid : mg "_law_paid" = some (.ref (ga K "_law_paid")) := by
  obtain ⟨h, X, G⟩ := t.ns
  exact He.glo_ok X G (t.says.fact 25 (f := .glo "_law_paid") rfl)
theorem Tx.g_law : mg "law" = some (.ref (ga K "law")) := by
  obtain ⟨h, X, G⟩ := t.ns
  exact He.glo_ok X G (t.says.fact 26 (f := .glo "law") rfl)
theorem Tx.g_Ratio : mg "Ratio" = some (.ref (ga K "Ratio")) := by
  obtain ⟨h, X, G⟩ := t.ns
  exact He.glo_ok X G (t.says.fact 27 (f := .glo "Ratio") rfl)
theorem Tx.cl_Ratio : Cls K (ga K "Ratio") := He.cls_ok (t.says.fact 28 (f := .cls "Ratio") rfl)
theorem Tx.mk_Ratio : Mk K (ga K "Ratio") (ma K (ga K "Ratio") "__init__") := He.mkr_ok (t.says.fact 29 (f := .mkr "Ratio") rfl)
theorem Tx.g_Form : mg "Form" = some (.ref (ga K "Form")) := by
  obtain ⟨h, X, G⟩ := t.ns
  exact He.glo_ok X G (t.says.fact 30 (f := .glo "Form") rfl)
theorem Tx.cl_Form : Cls K (ga K "Form") := He.cls_ok (t.says.fact 31 (f := .cls "Form") rfl)
theorem Tx.mk_Form : Mk K (ga K "Form") (ma K (ga K "Form") "__init__") := He.mkr_ok (t.says.fact 32 (f := .mkr "Form") rfl)
theorem Tx.g_Step : mg "Step" = some (.ref (ga K "Step")) := by
  obtain ⟨h, X, G⟩ := t.ns
  exact He.glo_ok X G (t.says.fact 33 (f := .glo "Step") rfl)
theorem Tx.cl_Step : Cls K (ga K "Step") := He.cls_ok (t.says.fact 34 (f := .cls "Step") rfl)
theorem Tx.mk_Step : Mk K (ga K "Step") (ma K (ga K "Step") "__init__") := He.mkr_ok (t.says.fact 35 (f := .mkr "Step") rfl)
theorem Tx.g_Shown : mg "Shown" = some (.ref (ga K "Shown")) := by
  obtain ⟨h, X, G⟩ := t.ns
  exact He.glo_ok X G (t.says.fact 36 (f := .glo "Shown") rfl)
theorem Tx.cl_Shown : Cls K (ga K "Shown") := He.cls_ok (t.says.fact 37 (f := .cls "Shown") rfl)
theorem Tx.mk_Shown : Mk K (ga K "Shown") (ma K (ga K "Shown") "__init__") := He.mkr_ok (t.says.fact 38 (f := .mkr "Shown") rfl)
theorem Tx.g_Book : mg "Book" = some (.ref (ga K "Book")) := by
  obtain ⟨h, X, G⟩ := t.ns
  exact He.glo_ok X G (t.says.fact 39 (f := .glo "Book") rfl)
theorem Tx.cl_Book : Cls K (ga K "Book") := He.cls_ok (t.says.fact 40 (f := .cls "Book") rfl)
theorem Tx.mk_Book : Mk K (ga K "Book") (ma K (ga K "Book") "__init__") := He.mkr_ok (t.says.fact 41 (f := .mkr "Book") rfl)
theorem Tx.g_Rule : mg "Rule" = some (.ref (ga K "Rule")) := by
  obtain ⟨h, X, G⟩ := t.ns
  exact He.glo_ok X G (t.says.fact 42 (f := .glo "Rule") rfl)
theorem Tx.cl_Rule : Cls K (ga K "Rule") := He.cls_ok (t.says.fact 43 (f := .cls "Rule") rfl)
theorem Tx.mk_Rule : Mk K (ga K "Rule") (ma K (ga K "Rule") "__init__") := He.mkr_ok (t.says.fact 44 (f := .mkr "Rule") rfl)
theorem Tx.g_Costing : mg "Costing" = some (.ref (ga K "Costing")) := by
  obtain ⟨h, X, G⟩ := t.ns
  exact He.glo_ok X G (t.says.fact 45 (f := .glo "Costing") rfl)
theorem Tx.cl_Costing : Cls K (ga K "Costing") := He.cls_ok (t.says.fact 46 (f := .cls "Costing") rfl)
theorem Tx.mk_Costing : Mk K (ga K "Costing") (ma K (ga K "Costing") "__init__") := He.mkr_ok (t.says.fact 47 (f := .mkr "Costing") rfl)
theorem Tx.g_Short : mg "Short" = some (.ref (ga K "Short")) := by
  obtain ⟨h, X, G⟩ := t.ns
  exact He.glo_ok X G (t.says.fact 48 (f := .glo "Short") rfl)
theorem Tx.u_abs : mg "abs" = none := by
  obtain ⟨h, X, G⟩ := t.ns
  exact He.free_ok X G (t.says.fact 49 (f := .free "abs") rfl)
theorem Tx.u_len : mg "len" = none := by
  obtain ⟨h, X, G⟩ := t.ns
  exact He.free_ok X G (t.says.fact 50 (f := .free "len") rfl)
theorem Tx.u_range : mg "range" = none := by
  obtain ⟨h, X, G⟩ := t.ns
  exact He.free_ok X G (t.says.fact 51 (f := .free "range") rfl)
theorem Tx.u_list : mg "list" = none := by
  obtain ⟨h, X, G⟩ := t.ns
  exact He.free_ok X G (t.says.fact 52 (f := .free "list") rfl)
theorem Tx.u_sorted : mg "sorted" = none := by
  obtain ⟨h, X, G⟩ := t.ns
  exact He.free_ok X G (t.says.fact 53 (f := .free "sorted") rfl)
theorem Tx.u_set : mg "set" = none := by
  obtain ⟨h, X, G⟩ := t.ns
  exact He.free_ok X G (t.says.fact 54 (f := .free "set") rfl)
theorem Tx.u_int : mg "int" = none := by
  obtain ⟨h, X, G⟩ := t.ns
  exact He.free_ok X G (t.says.fact 55 (f := .free "int") rfl)
theorem Tx.u_isinstance : mg "isinstance" = none := by
  obtain ⟨h, X, G⟩ := t.ns
  exact He.free_ok X G (t.says.fact 56 (f := .free "isinstance") rfl)
theorem Tx.u_all : mg "all" = none := by
  obtain ⟨h, X, G⟩ := t.ns
  exact He.free_ok X G (t.says.fact 57 (f := .free "all") rfl)
theorem Tx.u_min : mg "min" = none := by
  obtain ⟨h, X, G⟩ := t.ns
  exact He.free_ok X G (t.says.fact 58 (f := .free "min") rfl)
theorem Tx.u_tuple : mg "tuple" = none := by
  obtain ⟨h, X, G⟩ := t.ns
  exact He.free_ok X G (t.says.fact 59 (f := .free "tuple") rfl)
theorem Tx.u_bool : mg "bool" = none := by
  obtain ⟨h, X, G⟩ := t.ns
  exact He.free_ok X G (t.says.fact 60 (f := .free "bool") rfl)
theorem Tx.u_str : mg "str" = none := by
  obtain ⟨h, X, G⟩ := t.ns
  exact He.free_ok X G (t.says.fact 61 (f := .free "str") rfl)
theorem Tx.u_staticmethod : mg "staticmethod" = none := by
  obtain ⟨h, X, G⟩ := t.ns
  exact He.free_ok X G (t.says.fact 62 (f := .free "staticmethod") rfl)
theorem Tx.u_classmethod : mg "classmethod" = none := by
  obtain ⟨h, X, G⟩ := t.ns
  exact He.free_ok X G (t.says.fact 63 (f := .free "classmethod") rfl)
theorem Tx.c_LETTERS_forms : ∃ u, mg "LETTERS_forms" = some (.str "abcdefghijklmnopqrstuvwxyz" u) := by
  obtain ⟨h, X, G⟩ := t.ns
  exact He.str_ok X G (t.says.fact 64 (f := .str "LETTERS_forms" "abcdefghijklmnopqrstuvwxyz") rfl)
theorem Tx.c_LETTERS_books : ∃ u, mg "LETTERS_books" = some (.str "abcdefghijklmnopqrstuvwxyz" u) := by
  obtain ⟨h, X, G⟩ := t.ns
  exact He.str_ok X G (t.says.fact 65 (f := .str "LETTERS_books" "abcdefghijklmnopqrstuvwxyz") rfl)
theorem Tx.c_LONGEST : ∃ u, mg "LONGEST" = some (.int 12 u) := by
  obtain ⟨h, X, G⟩ := t.ns
  exact He.int_ok X G (t.says.fact 66 (f := .int "LONGEST" 12) rfl)
theorem Tx.c_MOST : ∃ u, mg "MOST" = some (.int 1000000 u) := by
  obtain ⟨h, X, G⟩ := t.ns
  exact He.int_ok X G (t.says.fact 67 (f := .int "MOST" 1000000) rfl)
theorem Tx.no_Ratio_top : NoAttr K (ga K "Ratio") "top" := He.noat_ok (t.says.fact 68 (f := .noat "Ratio" "top") rfl)
theorem Tx.no_Ratio_bottom : NoAttr K (ga K "Ratio") "bottom" := He.noat_ok (t.says.fact 69 (f := .noat "Ratio" "bottom") rfl)
theorem Tx.no_Form_shares : NoAttr K (ga K "Form") "shares" := He.noat_ok (t.says.fact 70 (f := .noat "Form" "shares") rfl)
theorem Tx.no_Step_pivot : NoAttr K (ga K "Step") "pivot" := He.noat_ok (t.says.fact 71 (f := .noat "Step" "pivot") rfl)
theorem Tx.no_Step_form : NoAttr K (ga K "Step") "form" := He.noat_ok (t.says.fact 72 (f := .noat "Step" "form") rfl)
theorem Tx.no_Step_factors : NoAttr K (ga K "Step") "factors" := He.noat_ok (t.says.fact 73 (f := .noat "Step" "factors") rfl)
theorem Tx.no_Shown_forms : NoAttr K (ga K "Shown") "forms" := He.noat_ok (t.says.fact 74 (f := .noat "Shown" "forms") rfl)
theorem Tx.no_Shown_steps_found : NoAttr K (ga K "Shown") "steps_found" := He.noat_ok (t.says.fact 75 (f := .noat "Shown" "steps_found") rfl)
theorem Tx.no_Shown_relations : NoAttr K (ga K "Shown") "relations" := He.noat_ok (t.says.fact 76 (f := .noat "Shown" "relations") rfl)
theorem Tx.no_Book_entries : NoAttr K (ga K "Book") "entries" := He.noat_ok (t.says.fact 77 (f := .noat "Book" "entries") rfl)
theorem Tx.no_Rule_take : NoAttr K (ga K "Rule") "take" := He.noat_ok (t.says.fact 78 (f := .noat "Rule" "take") rfl)
theorem Tx.no_Rule_place : NoAttr K (ga K "Rule") "place" := He.noat_ok (t.says.fact 79 (f := .noat "Rule" "place") rfl)
theorem Tx.no_Rule_period : NoAttr K (ga K "Rule") "period" := He.noat_ok (t.says.fact 80 (f := .noat "Rule" "period") rfl)
theorem Tx.no_Costing_chosen : NoAttr K (ga K "Costing") "chosen" := He.noat_ok (t.says.fact 81 (f := .noat "Costing" "chosen") rfl)
theorem Tx.no_Costing_stack : NoAttr K (ga K "Costing") "stack" := He.noat_ok (t.says.fact 82 (f := .noat "Costing" "stack") rfl)
theorem Tx.no_Costing_bought : NoAttr K (ga K "Costing") "bought" := He.noat_ok (t.says.fact 83 (f := .noat "Costing" "bought") rfl)
theorem Tx.no_Costing_known_late : NoAttr K (ga K "Costing") "known_late" := He.noat_ok (t.says.fact 84 (f := .noat "Costing" "known_late") rfl)
theorem Tx.no_Costing_sold : NoAttr K (ga K "Costing") "sold" := He.noat_ok (t.says.fact 85 (f := .noat "Costing" "sold") rfl)
theorem Tx.no_Costing_forms : NoAttr K (ga K "Costing") "forms" := He.noat_ok (t.says.fact 86 (f := .noat "Costing" "forms") rfl)
theorem Tx.m_Ratio_add : Meth K (ga K "Ratio") "__add__" (ma K (ga K "Ratio") "__add__") := He.meth_ok (t.says.fact 87 (f := .meth "Ratio" "__add__") rfl)
theorem Tx.m_Ratio_radd : Meth K (ga K "Ratio") "__radd__" (ma K (ga K "Ratio") "__radd__") := He.meth_ok (t.says.fact 88 (f := .meth "Ratio" "__radd__") rfl)
theorem Tx.m_Ratio_sub : Meth K (ga K "Ratio") "__sub__" (ma K (ga K "Ratio") "__sub__") := He.meth_ok (t.says.fact 89 (f := .meth "Ratio" "__sub__") rfl)
theorem Tx.m_Ratio_rsub : Meth K (ga K "Ratio") "__rsub__" (ma K (ga K "Ratio") "__rsub__") := He.meth_ok (t.says.fact 90 (f := .meth "Ratio" "__rsub__") rfl)
theorem Tx.m_Ratio_mul : Meth K (ga K "Ratio") "__mul__" (ma K (ga K "Ratio") "__mul__") := He.meth_ok (t.says.fact 91 (f := .meth "Ratio" "__mul__") rfl)
theorem Tx.m_Ratio_rmul : Meth K (ga K "Ratio") "__rmul__" (ma K (ga K "Ratio") "__rmul__") := He.meth_ok (t.says.fact 92 (f := .meth "Ratio" "__rmul__") rfl)
theorem Tx.m_Ratio_neg : Meth K (ga K "Ratio") "__neg__" (ma K (ga K "Ratio") "__neg__") := He.meth_ok (t.says.fact 93 (f := .meth "Ratio" "__neg__") rfl)
theorem Tx.m_Ratio_abs : Meth K (ga K "Ratio") "__abs__" (ma K (ga K "Ratio") "__abs__") := He.meth_ok (t.says.fact 94 (f := .meth "Ratio" "__abs__") rfl)
theorem Tx.m_Ratio_over : Meth K (ga K "Ratio") "over" (ma K (ga K "Ratio") "over") := He.meth_ok (t.says.fact 95 (f := .meth "Ratio" "over") rfl)
theorem Tx.m_Ratio_less : Meth K (ga K "Ratio") "less" (ma K (ga K "Ratio") "less") := He.meth_ok (t.says.fact 96 (f := .meth "Ratio" "less") rfl)
theorem Tx.m_Ratio_at_most : Meth K (ga K "Ratio") "at_most" (ma K (ga K "Ratio") "at_most") := He.meth_ok (t.says.fact 97 (f := .meth "Ratio" "at_most") rfl)
theorem Tx.m_Ratio_same : Meth K (ga K "Ratio") "same" (ma K (ga K "Ratio") "same") := He.meth_ok (t.says.fact 98 (f := .meth "Ratio" "same") rfl)
theorem Tx.m_Form_share : Meth K (ga K "Form") "share" (ma K (ga K "Form") "share") := He.meth_ok (t.says.fact 99 (f := .meth "Form" "share") rfl)
theorem Tx.m_Form_names : Meth K (ga K "Form") "names" (ma K (ga K "Form") "names") := He.meth_ok (t.says.fact 100 (f := .meth "Form" "names") rfl)
theorem Tx.m_Form_add : Meth K (ga K "Form") "__add__" (ma K (ga K "Form") "__add__") := He.meth_ok (t.says.fact 101 (f := .meth "Form" "__add__") rfl)
theorem Tx.m_Form_sub : Meth K (ga K "Form") "__sub__" (ma K (ga K "Form") "__sub__") := He.meth_ok (t.says.fact 102 (f := .meth "Form" "__sub__") rfl)
theorem Tx.m_Form_neg : Meth K (ga K "Form") "__neg__" (ma K (ga K "Form") "__neg__") := He.meth_ok (t.says.fact 103 (f := .meth "Form" "__neg__") rfl)
theorem Tx.m_Form_mul : Meth K (ga K "Form") "__mul__" (ma K (ga K "Form") "__mul__") := He.meth_ok (t.says.fact 104 (f := .meth "Form" "__mul__") rfl)
theorem Tx.m_Form_rmul : Meth K (ga K "Form") "__rmul__" (ma K (ga K "Form") "__rmul__") := He.meth_ok (t.says.fact 105 (f := .meth "Form" "__rmul__") rfl)
theorem Tx.m_Form_over : Meth K (ga K "Form") "over" (ma K (ga K "Form") "over") := He.meth_ok (t.says.fact 106 (f := .meth "Form" "over") rfl)
theorem Tx.m_Form_at_most : Meth K (ga K "Form") "at_most" (ma K (ga K "Form") "at_most") := He.meth_ok (t.says.fact 107 (f := .meth "Form" "at_most") rfl)
theorem Tx.m_Form_same : Meth K (ga K "Form") "same" (ma K (ga K "Form") "same") := He.meth_ok (t.says.fact 108 (f := .meth "Form" "same") rfl)
theorem Tx.m_Form_at : Meth K (ga K "Form") "at" (ma K (ga K "Form") "at") := He.meth_ok (t.says.fact 109 (f := .meth "Form" "at") rfl)
theorem Tx.m_Step_cleared : Meth K (ga K "Step") "cleared" (ma K (ga K "Step") "cleared") := He.meth_ok (t.says.fact 110 (f := .meth "Step" "cleared") rfl)
theorem Tx.m_Shown_take_in : Meth K (ga K "Shown") "take_in" (ma K (ga K "Shown") "take_in") := He.meth_ok (t.says.fact 111 (f := .meth "Shown" "take_in") rfl)
theorem Tx.m_Shown_reduced : Meth K (ga K "Shown") "reduced" (ma K (ga K "Shown") "reduced") := He.meth_ok (t.says.fact 112 (f := .meth "Shown" "reduced") rfl)
theorem Tx.m_Shown_weights : Meth K (ga K "Shown") "weights" (ma K (ga K "Shown") "weights") := He.meth_ok (t.says.fact 113 (f := .meth "Shown" "weights") rfl)
theorem Tx.m_Shown_unseen : Meth K (ga K "Shown") "unseen" (ma K (ga K "Shown") "unseen") := He.meth_ok (t.says.fact 114 (f := .meth "Shown" "unseen") rfl)
theorem Tx.m_Shown_value : Meth K (ga K "Shown") "value" (ma K (ga K "Shown") "value") := He.meth_ok (t.says.fact 115 (f := .meth "Shown" "value") rfl)
theorem Tx.m_Book_getitem : Meth K (ga K "Book") "__getitem__" (ma K (ga K "Book") "__getitem__") := He.meth_ok (t.says.fact 116 (f := .meth "Book" "__getitem__") rfl)
theorem Tx.m_Book_setitem : Meth K (ga K "Book") "__setitem__" (ma K (ga K "Book") "__setitem__") := He.meth_ok (t.says.fact 117 (f := .meth "Book" "__setitem__") rfl)
theorem Tx.m_Book_places : Meth K (ga K "Book") "places" (ma K (ga K "Book") "places") := He.meth_ok (t.says.fact 118 (f := .meth "Book" "places") rfl)
theorem Tx.m_Book_named : Meth K (ga K "Book") "named" (ma K (ga K "Book") "named") := He.meth_ok (t.says.fact 119 (f := .meth "Book" "named") rfl)
theorem Tx.m_Book_lots : Meth K (ga K "Book") "lots" (ma K (ga K "Book") "lots") := He.meth_ok (t.says.fact 120 (f := .meth "Book" "lots") rfl)
theorem Tx.m_Book_sales : Meth K (ga K "Book") "sales" (ma K (ga K "Book") "sales") := He.meth_ok (t.says.fact 121 (f := .meth "Book" "sales") rfl)
theorem Tx.m_Book_joined : Meth K (ga K "Book") "joined" (ma K (ga K "Book") "joined") := He.meth_ok (t.says.fact 122 (f := .meth "Book" "joined") rfl)
theorem Tx.m_Rule_call : Meth K (ga K "Rule") "__call__" (ma K (ga K "Rule") "__call__") := He.meth_ok (t.says.fact 123 (f := .meth "Rule" "__call__") rfl)
theorem Tx.m_Rule_returned : Meth K (ga K "Rule") "returned" (ma K (ga K "Rule") "returned") := He.meth_ok (t.says.fact 124 (f := .meth "Rule" "returned") rfl)
theorem Tx.m_Rule_laid : Meth K (ga K "Rule") "laid" (ma K (ga K "Rule") "laid") := He.meth_ok (t.says.fact 125 (f := .meth "Rule" "laid") rfl)
theorem Tx.m_Rule_put : Meth K (ga K "Rule") "put" (ma K (ga K "Rule") "put") := He.meth_ok (t.says.fact 126 (f := .meth "Rule" "put") rfl)
theorem Tx.m_Rule_worked : Meth K (ga K "Rule") "worked" (ma K (ga K "Rule") "worked") := He.meth_ok (t.says.fact 127 (f := .meth "Rule" "worked") rfl)
theorem Tx.m_Costing_check_free : Meth K (ga K "Costing") "check_free" (ma K (ga K "Costing") "check_free") := He.meth_ok (t.says.fact 128 (f := .meth "Costing" "check_free") rfl)
theorem Tx.m_Costing_work_buy : Meth K (ga K "Costing") "work_buy" (ma K (ga K "Costing") "work_buy") := He.meth_ok (t.says.fact 129 (f := .meth "Costing" "work_buy") rfl)
theorem Tx.m_Costing_work_sell : Meth K (ga K "Costing") "work_sell" (ma K (ga K "Costing") "work_sell") := He.meth_ok (t.says.fact 130 (f := .meth "Costing" "work_sell") rfl)
theorem Tx.m_Costing_work_back : Meth K (ga K "Costing") "work_back" (ma K (ga K "Costing") "work_back") := He.meth_ok (t.says.fact 131 (f := .meth "Costing" "work_back") rfl)
theorem Tx.m_Costing_work_late : Meth K (ga K "Costing") "work_late" (ma K (ga K "Costing") "work_late") := He.meth_ok (t.says.fact 132 (f := .meth "Costing" "work_late") rfl)
theorem Tx.m_Costing_unit_cost : Meth K (ga K "Costing") "unit_cost" (ma K (ga K "Costing") "unit_cost") := He.meth_ok (t.says.fact 133 (f := .meth "Costing" "unit_cost") rfl)
theorem Tx.m_Costing_cost_of : Meth K (ga K "Costing") "cost_of" (ma K (ga K "Costing") "cost_of") := He.meth_ok (t.says.fact 134 (f := .meth "Costing" "cost_of") rfl)
theorem Tx.m_Costing_parts : Meth K (ga K "Costing") "parts" (ma K (ga K "Costing") "parts") := He.meth_ok (t.says.fact 135 (f := .meth "Costing" "parts") rfl)
theorem Tx.m_Costing_cost : Meth K (ga K "Costing") "cost" (ma K (ga K "Costing") "cost") := He.meth_ok (t.says.fact 136 (f := .meth "Costing" "cost") rfl)
theorem Tx.m_Costing_booked : Meth K (ga K "Costing") "booked" (ma K (ga K "Costing") "booked") := He.meth_ok (t.says.fact 137 (f := .meth "Costing" "booked") rfl)
theorem Tx.m_Costing_until : Meth K (ga K "Costing") "until" (ma K (ga K "Costing") "until") := He.meth_ok (t.says.fact 138 (f := .meth "Costing" "until") rfl)
theorem Tx.m_Costing_layers : Meth K (ga K "Costing") "layers" (ma K (ga K "Costing") "layers") := He.meth_ok (t.says.fact 139 (f := .meth "Costing" "layers") rfl)
theorem Tx.m_Costing_stock : Meth K (ga K "Costing") "stock" (ma K (ga K "Costing") "stock") := He.meth_ok (t.says.fact 140 (f := .meth "Costing" "stock") rfl)
theorem Tx.m_Costing_paid : Meth K (ga K "Costing") "paid" (ma K (ga K "Costing") "paid") := He.meth_ok (t.says.fact 141 (f := .meth "Costing" "paid") rfl)
theorem Tx.g_TAKES : mg "TAKES" = some (.ref (ga K "TAKES")) := by
  obtain ⟨h, X, G⟩ := t.ns
  exact He.glo_ok X G (t.says.fact 142 (f := .glo "TAKES") rfl)
theorem Tx.g_SPOTS : mg "SPOTS" = some (.ref (ga K "SPOTS")) := by
  obtain ⟨h, X, G⟩ := t.ns
  exact He.glo_ok X G (t.says.fact 143 (f := .glo "SPOTS") rfl)
theorem Tx.og_Book_get : OwnGet K (ga K "Book") "__getitem__" (ma K (ga K "Book") "__getitem__") := ownGetB_ok (t.exAt 0)
theorem Tx.og_Book_set : OwnGet K (ga K "Book") "__setitem__" (ma K (ga K "Book") "__setitem__") := ownGetB_ok (t.exAt 1)
theorem Tx.co_Rule : StX.CallO K (ga K "Rule") (ma K (ga K "Rule") "__call__") := callB_ok (t.exAt 2)
theorem Tx.sm_Ratio_sum_of : SMet K (ga K "Ratio") "staticmethod" "staticmethod.__get__" "sum_of" := smB_ok (t.exAt 3)
theorem Tx.sm_Form_of : SMet K (ga K "Form") "classmethod" "classmethod.__get__" "of" := smB_ok (t.exAt 4)
theorem Tx.kit_Ratio : KitR K (ga K "Ratio") := kitR_ok (t.exAt 5)
theorem Tx.opc_Ratio_add : OpC K (ga K "Ratio") "add" (ma K (ga K "Ratio") "__add__") := opB_ok (t.exAt 6)
theorem Tx.opi_Ratio_add : OpI K (ga K "Ratio") "add" := opiB_ok (t.exAt 7)
theorem Tx.opc_Ratio_sub : OpC K (ga K "Ratio") "sub" (ma K (ga K "Ratio") "__sub__") := opB_ok (t.exAt 8)
theorem Tx.opi_Ratio_sub : OpI K (ga K "Ratio") "sub" := opiB_ok (t.exAt 9)
theorem Tx.opc_Ratio_mul : OpC K (ga K "Ratio") "mul" (ma K (ga K "Ratio") "__mul__") := opB_ok (t.exAt 10)
theorem Tx.opi_Ratio_mul : OpI K (ga K "Ratio") "mul" := opiB_ok (t.exAt 11)
theorem Tx.opc_Form_add : OpC K (ga K "Form") "add" (ma K (ga K "Form") "__add__") := opB_ok (t.exAt 12)
theorem Tx.opi_Form_add : OpI K (ga K "Form") "add" := opiB_ok (t.exAt 13)
theorem Tx.opc_Form_sub : OpC K (ga K "Form") "sub" (ma K (ga K "Form") "__sub__") := opB_ok (t.exAt 14)
theorem Tx.opi_Form_sub : OpI K (ga K "Form") "sub" := opiB_ok (t.exAt 15)
theorem Tx.opc_Form_mul : OpC K (ga K "Form") "mul" (ma K (ga K "Form") "__mul__") := opB_ok (t.exAt 16)
theorem Tx.opi_Form_mul : OpI K (ga K "Form") "mul" := opiB_ok (t.exAt 17)
theorem Tx.fi_Ratio_neg : PySem.W.findIn K (.ref (ga K "Ratio")) "__neg__" = some (some (.ref (ma K (ga K "Ratio") "__neg__"))) := He.eqO_ok (t.exAt 18)
theorem Tx.fn_Ratio_neg : PySem.W.isFn K (.ref (ma K (ga K "Ratio") "__neg__")) = true := id (t.exAt 19)
theorem Tx.fi_Form_neg : PySem.W.findIn K (.ref (ga K "Form")) "__neg__" = some (some (.ref (ma K (ga K "Form") "__neg__"))) := He.eqO_ok (t.exAt 20)
theorem Tx.fn_Form_neg : PySem.W.isFn K (.ref (ma K (ga K "Form") "__neg__")) = true := id (t.exAt 21)
theorem Tx.fi_Ratio_radd : PySem.W.findIn K (.ref (ga K "Ratio")) "__radd__" = some (some (.ref (ma K (ga K "Ratio") "__radd__"))) := He.eqO_ok (t.exAt 22)
theorem Tx.fn_Ratio_radd : PySem.W.isFn K (.ref (ma K (ga K "Ratio") "__radd__")) = true := id (t.exAt 23)
theorem Tx.fi_Ratio_rsub : PySem.W.findIn K (.ref (ga K "Ratio")) "__rsub__" = some (some (.ref (ma K (ga K "Ratio") "__rsub__"))) := He.eqO_ok (t.exAt 24)
theorem Tx.fn_Ratio_rsub : PySem.W.isFn K (.ref (ma K (ga K "Ratio") "__rsub__")) = true := id (t.exAt 25)
theorem Tx.sub_Ratio_int : PySem.W.subIn K (.ref (ga K "Ratio")) (.type "int") = some false := of_decide_eq_true (t.exAt 26)
theorem Tx.sub_Ratio_Form : PySem.W.subIn K (.ref (ga K "Ratio")) (.ref (ga K "Form")) = some false := of_decide_eq_true (t.exAt 27)
theorem Tx.sub_Form_Ratio : PySem.W.subIn K (.ref (ga K "Form")) (.ref (ga K "Ratio")) = some false := of_decide_eq_true (t.exAt 28)
theorem Tx.ne_Ratio_Form : ga K "Form" ≠ ga K "Ratio" := of_decide_eq_true (t.exAt 29)
theorem Tx.tup_TAKES : ∀ H, SqT K H (ga K "TAKES") ([("oldest" : Str), "newest", "even"].map V.str) := tupSB_ok (t.exAt 30)
theorem Tx.tup_SPOTS : ∀ H, SqT K H (ga K "SPOTS") ([("own" : Str), "top", "bottom"].map V.str) := tupSB_ok (t.exAt 31)
theorem Tx.f_Unfit_init : ∃ fd, FunD K "__init__" "Unfit.__init__" (defArgs s_Unfit_init) (defBody s_Unfit_init) (defScope s_Unfit_init) [] [] (ma K (ga K "Unfit") "__init__") fd := t.says.def_ 0 rfl
theorem Tx.f_common_divisor : ∃ fd, FunD K "common_divisor" "common_divisor" (defArgs s_common_divisor) (defBody s_common_divisor) (defScope s_common_divisor) [] [] (ga K "common_divisor") fd := t.says.def_ 1 rfl
theorem Tx.f_halves : ∃ fd, FunD K "halves" "halves" (defArgs s_halves) (defBody s_halves) (defScope s_halves) [] [] (ga K "halves") fd := t.says.def_ 2 rfl
theorem Tx.f_Ratio_init : ∃ fd, FunD K "__init__" "Ratio.__init__" (defArgs s_Ratio_init) (defBody s_Ratio_init) (defScope s_Ratio_init) [.int 1] [] (ma K (ga K "Ratio") "__init__") fd := t.says.def_ 3 rfl
theorem Tx.f_Ratio_add : ∃ fd, FunD K "__add__" "Ratio.__add__" (defArgs s_Ratio_add) (defBody s_Ratio_add) (defScope s_Ratio_add) [] [] (ma K (ga K "Ratio") "__add__") fd := t.says.def_ 4 rfl
theorem Tx.f_Ratio_radd : ∃ fd, FunD K "__radd__" "Ratio.__radd__" (defArgs s_Ratio_radd) (defBody s_Ratio_radd) (defScope s_Ratio_radd) [] [] (ma K (ga K "Ratio") "__radd__") fd := t.says.def_ 5 rfl
theorem Tx.f_Ratio_sub : ∃ fd, FunD K "__sub__" "Ratio.__sub__" (defArgs s_Ratio_sub) (defBody s_Ratio_sub) (defScope s_Ratio_sub) [] [] (ma K (ga K "Ratio") "__sub__") fd := t.says.def_ 6 rfl
theorem Tx.f_Ratio_rsub : ∃ fd, FunD K "__rsub__" "Ratio.__rsub__" (defArgs s_Ratio_rsub) (defBody s_Ratio_rsub) (defScope s_Ratio_rsub) [] [] (ma K (ga K "Ratio") "__rsub__") fd := t.says.def_ 7 rfl
theorem Tx.f_Ratio_mul : ∃ fd, FunD K "__mul__" "Ratio.__mul__" (defArgs s_Ratio_mul) (defBody s_Ratio_mul) (defScope s_Ratio_mul) [] [] (ma K (ga K "Ratio") "__mul__") fd := t.says.def_ 8 rfl
theorem Tx.f_Ratio_rmul : ∃ fd, FunD K "__rmul__" "Ratio.__rmul__" (defArgs s_Ratio_rmul) (defBody s_Ratio_rmul) (defScope s_Ratio_rmul) [] [] (ma K (ga K "Ratio") "__rmul__") fd := t.says.def_ 9 rfl
theorem Tx.f_Ratio_neg : ∃ fd, FunD K "__neg__" "Ratio.__neg__" (defArgs s_Ratio_neg) (defBody s_Ratio_neg) (defScope s_Ratio_neg) [] [] (ma K (ga K "Ratio") "__neg__") fd := t.says.def_ 10 rfl
theorem Tx.f_Ratio_abs : ∃ fd, FunD K "__abs__" "Ratio.__abs__" (defArgs s_Ratio_abs) (defBody s_Ratio_abs) (defScope s_Ratio_abs) [] [] (ma K (ga K "Ratio") "__abs__") fd := t.says.def_ 11 rfl
theorem Tx.f_Ratio_over : ∃ fd, FunD K "over" "Ratio.over" (defArgs s_Ratio_over) (defBody s_Ratio_over) (defScope s_Ratio_over) [] [] (ma K (ga K "Ratio") "over") fd := t.says.def_ 12 rfl
theorem Tx.f_Ratio_less : ∃ fd, FunD K "less" "Ratio.less" (defArgs s_Ratio_less) (defBody s_Ratio_less) (defScope s_Ratio_less) [] [] (ma K (ga K "Ratio") "less") fd := t.says.def_ 13 rfl
theorem Tx.f_Ratio_at_most : ∃ fd, FunD K "at_most" "Ratio.at_most" (defArgs s_Ratio_at_most) (defBody s_Ratio_at_most) (defScope s_Ratio_at_most) [] [] (ma K (ga K "Ratio") "at_most") fd := t.says.def_ 14 rfl
theorem Tx.f_Ratio_same : ∃ fd, FunD K "same" "Ratio.same" (defArgs s_Ratio_same) (defBody s_Ratio_same) (defScope s_Ratio_same) [] [] (ma K (ga K "Ratio") "same") fd := t.says.def_ 15 rfl
theorem Tx.f_Ratio_sum_of : ∃ fd, FunD K "sum_of" "Ratio.sum_of" (defArgs s_Ratio_sum_of) (defBody s_Ratio_sum_of) (defScope s_Ratio_sum_of) [] [] (wf K (ga K "Ratio") "staticmethod" "sum_of") fd := t.says.def_ 16 rfl
theorem Tx.f_valid_name : ∃ fd, FunD K "valid_name" "valid_name" (defArgs s_valid_name) (defBody s_valid_name) (defScope s_valid_name) [] [] (ga K "valid_name") fd := t.says.def_ 17 rfl
theorem Tx.f_Form_init : ∃ fd, FunD K "__init__" "Form.__init__" (defArgs s_Form_init) (defBody s_Form_init) (defScope s_Form_init) [.non] [] (ma K (ga K "Form") "__init__") fd := t.says.def_ 18 rfl
theorem Tx.f_Form_of : ∃ fd, FunD K "of" "Form.of" (defArgs s_Form_of) (defBody s_Form_of) (defScope s_Form_of) [] [] (wf K (ga K "Form") "classmethod" "of") fd := t.says.def_ 19 rfl
theorem Tx.f_Form_share : ∃ fd, FunD K "share" "Form.share" (defArgs s_Form_share) (defBody s_Form_share) (defScope s_Form_share) [] [] (ma K (ga K "Form") "share") fd := t.says.def_ 20 rfl
theorem Tx.f_Form_names : ∃ fd, FunD K "names" "Form.names" (defArgs s_Form_names) (defBody s_Form_names) (defScope s_Form_names) [] [] (ma K (ga K "Form") "names") fd := t.says.def_ 21 rfl
theorem Tx.f_Form_add : ∃ fd, FunD K "__add__" "Form.__add__" (defArgs s_Form_add) (defBody s_Form_add) (defScope s_Form_add) [] [] (ma K (ga K "Form") "__add__") fd := t.says.def_ 22 rfl
theorem Tx.f_Form_sub : ∃ fd, FunD K "__sub__" "Form.__sub__" (defArgs s_Form_sub) (defBody s_Form_sub) (defScope s_Form_sub) [] [] (ma K (ga K "Form") "__sub__") fd := t.says.def_ 23 rfl
theorem Tx.f_Form_neg : ∃ fd, FunD K "__neg__" "Form.__neg__" (defArgs s_Form_neg) (defBody s_Form_neg) (defScope s_Form_neg) [] [] (ma K (ga K "Form") "__neg__") fd := t.says.def_ 24 rfl
theorem Tx.f_Form_mul : ∃ fd, FunD K "__mul__" "Form.__mul__" (defArgs s_Form_mul) (defBody s_Form_mul) (defScope s_Form_mul) [] [] (ma K (ga K "Form") "__mul__") fd := t.says.def_ 25 rfl
theorem Tx.f_Form_rmul : ∃ fd, FunD K "__rmul__" "Form.__rmul__" (defArgs s_Form_rmul) (defBody s_Form_rmul) (defScope s_Form_rmul) [] [] (ma K (ga K "Form") "__rmul__") fd := t.says.def_ 26 rfl
theorem Tx.f_Form_over : ∃ fd, FunD K "over" "Form.over" (defArgs s_Form_over) (defBody s_Form_over) (defScope s_Form_over) [] [] (ma K (ga K "Form") "over") fd := t.says.def_ 27 rfl
theorem Tx.f_Form_at_most : ∃ fd, FunD K "at_most" "Form.at_most" (defArgs s_Form_at_most) (defBody s_Form_at_most) (defScope s_Form_at_most) [] [] (ma K (ga K "Form") "at_most") fd := t.says.def_ 28 rfl
theorem Tx.f_Form_same : ∃ fd, FunD K "same" "Form.same" (defArgs s_Form_same) (defBody s_Form_same) (defScope s_Form_same) [] [] (ma K (ga K "Form") "same") fd := t.says.def_ 29 rfl
theorem Tx.f_Form_at : ∃ fd, FunD K "at" "Form.at" (defArgs s_Form_at) (defBody s_Form_at) (defScope s_Form_at) [] [] (ma K (ga K "Form") "at") fd := t.says.def_ 30 rfl
theorem Tx.f_Step_init : ∃ fd, FunD K "__init__" "Step.__init__" (defArgs s_Step_init) (defBody s_Step_init) (defScope s_Step_init) [] [] (ma K (ga K "Step") "__init__") fd := t.says.def_ 31 rfl
theorem Tx.f_Step_cleared : ∃ fd, FunD K "cleared" "Step.cleared" (defArgs s_Step_cleared) (defBody s_Step_cleared) (defScope s_Step_cleared) [] [] (ma K (ga K "Step") "cleared") fd := t.says.def_ 32 rfl
theorem Tx.f_less_times : ∃ fd, FunD K "less_times" "less_times" (defArgs s_less_times) (defBody s_less_times) (defScope s_less_times) [] [] (ga K "less_times") fd := t.says.def_ 33 rfl
theorem Tx.f_Shown_init : ∃ fd, FunD K "__init__" "Shown.__init__" (defArgs s_Shown_init) (defBody s_Shown_init) (defScope s_Shown_init) [] [] (ma K (ga K "Shown") "__init__") fd := t.says.def_ 34 rfl
theorem Tx.f_Shown_take_in : ∃ fd, FunD K "take_in" "Shown.take_in" (defArgs s_Shown_take_in) (defBody s_Shown_take_in) (defScope s_Shown_take_in) [] [] (ma K (ga K "Shown") "take_in") fd := t.says.def_ 35 rfl
theorem Tx.f_Shown_reduced : ∃ fd, FunD K "reduced" "Shown.reduced" (defArgs s_Shown_reduced) (defBody s_Shown_reduced) (defScope s_Shown_reduced) [] [] (ma K (ga K "Shown") "reduced") fd := t.says.def_ 36 rfl
theorem Tx.f_Shown_weights : ∃ fd, FunD K "weights" "Shown.weights" (defArgs s_Shown_weights) (defBody s_Shown_weights) (defScope s_Shown_weights) [] [] (ma K (ga K "Shown") "weights") fd := t.says.def_ 37 rfl
theorem Tx.f_Shown_unseen : ∃ fd, FunD K "unseen" "Shown.unseen" (defArgs s_Shown_unseen) (defBody s_Shown_unseen) (defScope s_Shown_unseen) [] [] (ma K (ga K "Shown") "unseen") fd := t.says.def_ 38 rfl
theorem Tx.f_Shown_value : ∃ fd, FunD K "value" "Shown.value" (defArgs s_Shown_value) (defBody s_Shown_value) (defScope s_Shown_value) [] [] (ma K (ga K "Shown") "value") fd := t.says.def_ 39 rfl
theorem Tx.f_sum_of_products : ∃ fd, FunD K "sum_of_products" "sum_of_products" (defArgs s_sum_of_products) (defBody s_sum_of_products) (defScope s_sum_of_products) [] [] (ga K "sum_of_products") fd := t.says.def_ 40 rfl
theorem Tx.f_is_name : ∃ fd, FunD K "is_name" "is_name" (defArgs s_is_name) (defBody s_is_name) (defScope s_is_name) [] [] (ga K "is_name") fd := t.says.def_ 41 rfl
theorem Tx.f_is_number : ∃ fd, FunD K "is_number" "is_number" (defArgs s_is_number) (defBody s_is_number) (defScope s_is_number) [] [] (ga K "is_number") fd := t.says.def_ 42 rfl
theorem Tx.f_is_entry : ∃ fd, FunD K "is_entry" "is_entry" (defArgs s_is_entry) (defBody s_is_entry) (defScope s_is_entry) [] [] (ga K "is_entry") fd := t.says.def_ 43 rfl
theorem Tx.f_Book_init : ∃ fd, FunD K "__init__" "Book.__init__" (defArgs s_Book_init) (defBody s_Book_init) (defScope s_Book_init) [] [] (ma K (ga K "Book") "__init__") fd := t.says.def_ 44 rfl
theorem Tx.f_Book_getitem : ∃ fd, FunD K "__getitem__" "Book.__getitem__" (defArgs s_Book_getitem) (defBody s_Book_getitem) (defScope s_Book_getitem) [] [] (ma K (ga K "Book") "__getitem__") fd := t.says.def_ 45 rfl
theorem Tx.f_Book_setitem : ∃ fd, FunD K "__setitem__" "Book.__setitem__" (defArgs s_Book_setitem) (defBody s_Book_setitem) (defScope s_Book_setitem) [] [] (ma K (ga K "Book") "__setitem__") fd := t.says.def_ 46 rfl
theorem Tx.f_Book_places : ∃ fd, FunD K "places" "Book.places" (defArgs s_Book_places) (defBody s_Book_places) (defScope s_Book_places) [] [] (ma K (ga K "Book") "places") fd := t.says.def_ 47 rfl
theorem Tx.f_Book_named : ∃ fd, FunD K "named" "Book.named" (defArgs s_Book_named) (defBody s_Book_named) (defScope s_Book_named) [] [] (ma K (ga K "Book") "named") fd := t.says.def_ 48 rfl
theorem Tx.f_Book_lots : ∃ fd, FunD K "lots" "Book.lots" (defArgs s_Book_lots) (defBody s_Book_lots) (defScope s_Book_lots) [] [] (ma K (ga K "Book") "lots") fd := t.says.def_ 49 rfl
theorem Tx.f_Book_sales : ∃ fd, FunD K "sales" "Book.sales" (defArgs s_Book_sales) (defBody s_Book_sales) (defScope s_Book_sales) [] [] (ma K (ga K "Book") "sales") fd := t.says.def_ 50 rfl
theorem Tx.f_Book_joined : ∃ fd, FunD K "joined" "Book.joined" (defArgs s_Book_joined) (defBody s_Book_joined) (defScope s_Book_joined) [] [] (ma K (ga K "Book") "joined") fd := t.says.def_ 51 rfl
theorem Tx.f_stacked : ∃ fd, FunD K "stacked" "stacked" (defArgs s_stacked) (defBody s_stacked) (defScope s_stacked) [] [] (ga K "stacked") fd := t.says.def_ 52 rfl
theorem Tx.f_units_in : ∃ fd, FunD K "units_in" "units_in" (defArgs s_units_in) (defBody s_units_in) (defScope s_units_in) [] [] (ga K "units_in") fd := t.says.def_ 53 rfl
theorem Tx.f_cut : ∃ fd, FunD K "cut" "cut" (defArgs s_cut) (defBody s_cut) (defScope s_cut) [] [] (ga K "cut") fd := t.says.def_ 54 rfl
theorem Tx.f_shared : ∃ fd, FunD K "shared" "shared" (defArgs s_shared) (defBody s_shared) (defScope s_shared) [] [] (ga K "shared") fd := t.says.def_ 55 rfl
theorem Tx.f_check_units : ∃ fd, FunD K "check_units" "check_units" (defArgs s_check_units) (defBody s_check_units) (defScope s_check_units) [] [] (ga K "check_units") fd := t.says.def_ 56 rfl
theorem Tx.f_Rule_init : ∃ fd, FunD K "__init__" "Rule.__init__" (defArgs s_Rule_init) (defBody s_Rule_init) (defScope s_Rule_init) [] [("place", .str "own"), ("period", .int 0)] (ma K (ga K "Rule") "__init__") fd := t.says.def_ 57 rfl
theorem Tx.f_Rule_call : ∃ fd, FunD K "__call__" "Rule.__call__" (defArgs s_Rule_call) (defBody s_Rule_call) (defScope s_Rule_call) [] [] (ma K (ga K "Rule") "__call__") fd := t.says.def_ 58 rfl
theorem Tx.f_Rule_returned : ∃ fd, FunD K "returned" "Rule.returned" (defArgs s_Rule_returned) (defBody s_Rule_returned) (defScope s_Rule_returned) [] [] (ma K (ga K "Rule") "returned") fd := t.says.def_ 59 rfl
theorem Tx.f_Rule_laid : ∃ fd, FunD K "laid" "Rule.laid" (defArgs s_Rule_laid) (defBody s_Rule_laid) (defScope s_Rule_laid) [] [] (ma K (ga K "Rule") "laid") fd := t.says.def_ 60 rfl
theorem Tx.f_Rule_put : ∃ fd, FunD K "put" "Rule.put" (defArgs s_Rule_put) (defBody s_Rule_put) (defScope s_Rule_put) [] [] (ma K (ga K "Rule") "put") fd := t.says.def_ 61 rfl
theorem Tx.f_Rule_worked : ∃ fd, FunD K "worked" "Rule.worked" (defArgs s_Rule_worked) (defBody s_Rule_worked) (defScope s_Rule_worked) [] [] (ma K (ga K "Rule") "worked") fd := t.says.def_ 62 rfl
theorem Tx.f_Costing_init : ∃ fd, FunD K "__init__" "Costing.__init__" (defArgs s_Costing_init) (defBody s_Costing_init) (defScope s_Costing_init) [] [] (ma K (ga K "Costing") "__init__") fd := t.says.def_ 63 rfl
theorem Tx.f_Costing_check_free : ∃ fd, FunD K "check_free" "Costing.check_free" (defArgs s_Costing_check_free) (defBody s_Costing_check_free) (defScope s_Costing_check_free) [] [] (ma K (ga K "Costing") "check_free") fd := t.says.def_ 64 rfl
theorem Tx.f_Costing_work_buy : ∃ fd, FunD K "work_buy" "Costing.work_buy" (defArgs s_Costing_work_buy) (defBody s_Costing_work_buy) (defScope s_Costing_work_buy) [] [] (ma K (ga K "Costing") "work_buy") fd := t.says.def_ 65 rfl
theorem Tx.f_Costing_work_sell : ∃ fd, FunD K "work_sell" "Costing.work_sell" (defArgs s_Costing_work_sell) (defBody s_Costing_work_sell) (defScope s_Costing_work_sell) [] [] (ma K (ga K "Costing") "work_sell") fd := t.says.def_ 66 rfl
theorem Tx.f_Costing_work_back : ∃ fd, FunD K "work_back" "Costing.work_back" (defArgs s_Costing_work_back) (defBody s_Costing_work_back) (defScope s_Costing_work_back) [] [] (ma K (ga K "Costing") "work_back") fd := t.says.def_ 67 rfl
theorem Tx.f_Costing_work_late : ∃ fd, FunD K "work_late" "Costing.work_late" (defArgs s_Costing_work_late) (defBody s_Costing_work_late) (defScope s_Costing_work_late) [] [] (ma K (ga K "Costing") "work_late") fd := t.says.def_ 68 rfl
theorem Tx.f_Costing_unit_cost : ∃ fd, FunD K "unit_cost" "Costing.unit_cost" (defArgs s_Costing_unit_cost) (defBody s_Costing_unit_cost) (defScope s_Costing_unit_cost) [] [] (ma K (ga K "Costing") "unit_cost") fd := t.says.def_ 69 rfl
theorem Tx.f_Costing_cost_of : ∃ fd, FunD K "cost_of" "Costing.cost_of" (defArgs s_Costing_cost_of) (defBody s_Costing_cost_of) (defScope s_Costing_cost_of) [] [] (ma K (ga K "Costing") "cost_of") fd := t.says.def_ 70 rfl
theorem Tx.f_Costing_parts : ∃ fd, FunD K "parts" "Costing.parts" (defArgs s_Costing_parts) (defBody s_Costing_parts) (defScope s_Costing_parts) [] [] (ma K (ga K "Costing") "parts") fd := t.says.def_ 71 rfl
theorem Tx.f_Costing_cost : ∃ fd, FunD K "cost" "Costing.cost" (defArgs s_Costing_cost) (defBody s_Costing_cost) (defScope s_Costing_cost) [] [] (ma K (ga K "Costing") "cost") fd := t.says.def_ 72 rfl
theorem Tx.f_Costing_booked : ∃ fd, FunD K "booked" "Costing.booked" (defArgs s_Costing_booked) (defBody s_Costing_booked) (defScope s_Costing_booked) [] [] (ma K (ga K "Costing") "booked") fd := t.says.def_ 73 rfl
theorem Tx.f_Costing_until : ∃ fd, FunD K "until" "Costing.until" (defArgs s_Costing_until) (defBody s_Costing_until) (defScope s_Costing_until) [] [] (ma K (ga K "Costing") "until") fd := t.says.def_ 74 rfl
theorem Tx.f_Costing_layers : ∃ fd, FunD K "layers" "Costing.layers" (defArgs s_Costing_layers) (defBody s_Costing_layers) (defScope s_Costing_layers) [] [] (ma K (ga K "Costing") "layers") fd := t.says.def_ 75 rfl
theorem Tx.f_Costing_stock : ∃ fd, FunD K "stock" "Costing.stock" (defArgs s_Costing_stock) (defBody s_Costing_stock) (defScope s_Costing_stock) [] [] (ma K (ga K "Costing") "stock") fd := t.says.def_ 76 rfl
theorem Tx.f_Costing_paid : ∃ fd, FunD K "paid" "Costing.paid" (defArgs s_Costing_paid) (defBody s_Costing_paid) (defScope s_Costing_paid) [] [] (ma K (ga K "Costing") "paid") fd := t.says.def_ 77 rfl
theorem Tx.f_law_bag : ∃ fd, FunD K "_law_bag" "_law_bag" (defArgs s_law_bag) (defBody s_law_bag) (defScope s_law_bag) [] [] (ga K "_law_bag") fd := t.says.def_ 78 rfl
theorem Tx.f_law_draw : ∃ fd, FunD K "_law_draw" "_law_draw" (defArgs s_law_draw) (defBody s_law_draw) (defScope s_law_draw) [] [] (ga K "_law_draw") fd := t.says.def_ 79 rfl
theorem Tx.f_law_names : ∃ fd, FunD K "_law_names" "_law_names" (defArgs s_law_names) (defBody s_law_names) (defScope s_law_names) [] [] (ga K "_law_names") fd := t.says.def_ 80 rfl
theorem Tx.f_law_pick : ∃ fd, FunD K "_law_pick" "_law_pick" (defArgs s_law_pick) (defBody s_law_pick) (defScope s_law_pick) [] [] (ga K "_law_pick") fd := t.says.def_ 81 rfl
theorem Tx.f_law_mixed : ∃ fd, FunD K "_law_mixed" "_law_mixed" (defArgs s_law_mixed) (defBody s_law_mixed) (defScope s_law_mixed) [] [] (ga K "_law_mixed") fd := t.says.def_ 82 rfl
theorem Tx.f_law_rule : ∃ fd, FunD K "_law_rule" "_law_rule" (defArgs s_law_rule) (defBody s_law_rule) (defScope s_law_rule) [] [] (ga K "_law_rule") fd := t.says.def_ 83 rfl
theorem Tx.f_law_made : ∃ fd, FunD K "_law_made" "_law_made" (defArgs s_law_made) (defBody s_law_made) (defScope s_law_made) [] [] (ga K "_law_made") fd := t.says.def_ 84 rfl
theorem Tx.f_law_next : ∃ fd, FunD K "_law_next" "_law_next" (defArgs s_law_next) (defBody s_law_next) (defScope s_law_next) [] [] (ga K "_law_next") fd := t.says.def_ 85 rfl
theorem Tx.f_law_entries : ∃ fd, FunD K "_law_entries" "_law_entries" (defArgs s_law_entries) (defBody s_law_entries) (defScope s_law_entries) [] [] (ga K "_law_entries") fd := t.says.def_ 86 rfl
theorem Tx.f_law_book : ∃ fd, FunD K "_law_book" "_law_book" (defArgs s_law_book) (defBody s_law_book) (defScope s_law_book) [] [] (ga K "_law_book") fd := t.says.def_ 87 rfl
theorem Tx.f_law_added : ∃ fd, FunD K "_law_added" "_law_added" (defArgs s_law_added) (defBody s_law_added) (defScope s_law_added) [] [] (ga K "_law_added") fd := t.says.def_ 88 rfl
theorem Tx.f_law_hidden_right : ∃ fd, FunD K "_law_hidden_right" "_law_hidden_right" (defArgs s_law_hidden_right) (defBody s_law_hidden_right) (defScope s_law_hidden_right) [] [] (ga K "_law_hidden_right") fd := t.says.def_ 89 rfl
theorem Tx.f_law_paid : ∃ fd, FunD K "_law_paid" "_law_paid" (defArgs s_law_paid) (defBody s_law_paid) (defScope s_law_paid) [] [] (ga K "_law_paid") fd := t.says.def_ 90 rfl
theorem Tx.f_law : ∃ fd, FunD K "law" "law" (defArgs s_law) (defBody s_law) (defScope s_law) [] [] (ga K "law") fd := t.says.def_ 91 rfl
end
theorem sc_Unfit_init : FnScope n_Unfit_init ["self", "factors"] (defScope s_Unfit_init) := ⟨rfl, rfl, rfl, by decide +kernel, rfl, by decide +kernel, by decide +kernel⟩
theorem sc_common_divisor : FnScope n_common_divisor ["one", "other"] (defScope s_common_divisor) := ⟨rfl, rfl, rfl, by decide +kernel, rfl, by decide +kernel, by decide +kernel⟩
theorem sc_halves : FnScope n_halves ["value"] (defScope s_halves) := ⟨rfl, rfl, rfl, by decide +kernel, rfl, by decide +kernel, by decide +kernel⟩
theorem sc_Ratio_init : FnScope n_Ratio_init ["self", "top", "bottom"] (defScope s_Ratio_init) := ⟨rfl, rfl, rfl, by decide +kernel, rfl, by decide +kernel, by decide +kernel⟩
theorem sc_Ratio_add : FnScope n_Ratio_add ["self", "other"] (defScope s_Ratio_add) := ⟨rfl, rfl, rfl, by decide +kernel, rfl, by decide +kernel, by decide +kernel⟩
theorem sc_Ratio_radd : FnScope n_Ratio_radd ["self", "other"] (defScope s_Ratio_radd) := ⟨rfl, rfl, rfl, by decide +kernel, rfl, by decide +kernel, by decide +kernel⟩
theorem sc_Ratio_sub : FnScope n_Ratio_sub ["self", "other"] (defScope s_Ratio_sub) := ⟨rfl, rfl, rfl, by decide +kernel, rfl, by decide +kernel, by decide +kernel⟩
theorem sc_Ratio_rsub : FnScope n_Ratio_rsub ["self", "other"] (defScope s_Ratio_rsub) := ⟨rfl, rfl, rfl, by decide +kernel, rfl, by decide +kernel, by decide +kernel⟩
theorem sc_Ratio_mul : FnScope n_Ratio_mul ["self", "other"] (defScope s_Ratio_mul) := ⟨rfl, rfl, rfl, by decide +kernel, rfl, by decide +kernel, by decide +kernel⟩
theorem sc_Ratio_rmul : FnScope n_Ratio_rmul ["self", "other"] (defScope s_Ratio_rmul) := ⟨rfl, rfl, rfl, by decide +kernel, rfl, by decide +kernel, by decide +kernel⟩
theorem sc_Ratio_neg : FnScope n_Ratio_neg ["self"] (defScope s_Ratio_neg) := ⟨rfl, rfl, rfl, by decide +kernel, rfl, by decide +kernel, by decide +kernel⟩
theorem sc_Ratio_abs : FnScope n_Ratio_abs ["self"] (defScope s_Ratio_abs) := ⟨rfl, rfl, rfl, by decide +kernel, rfl, by decide +kernel, by decide +kernel⟩
theorem sc_Ratio_over : FnScope n_Ratio_over ["self", "other"] (defScope s_Ratio_over) := ⟨rfl, rfl, rfl, by decide +kernel, rfl, by decide +kernel, by decide +kernel⟩
theorem sc_Ratio_less : FnScope n_Ratio_less ["self", "other"] (defScope s_Ratio_less) := ⟨rfl, rfl, rfl, by decide +kernel, rfl, by decide +kernel, by decide +kernel⟩
theorem sc_Ratio_at_most : FnScope n_Ratio_at_most ["self", "other"] (defScope s_Ratio_at_most) := ⟨rfl, rfl, rfl, by decide +kernel, rfl, by decide +kernel, by decide +kernel⟩
theorem sc_Ratio_same : FnScope n_Ratio_same ["self", "other"] (defScope s_Ratio_same) := ⟨rfl, rfl, rfl, by decide +kernel, rfl, by decide +kernel, by decide +kernel⟩
theorem sc_Ratio_sum_of : FnScope n_Ratio_sum_of ["items"] (defScope s_Ratio_sum_of) := ⟨rfl, rfl, rfl, by decide +kernel, rfl, by decide +kernel, by decide +kernel⟩
theorem sc_valid_name : FnScope n_valid_name ["name"] (defScope s_valid_name) := ⟨rfl, rfl, rfl, by decide +kernel, rfl, by decide +kernel, by decide +kernel⟩
theorem sc_Form_init : FnScope n_Form_init ["self", "shares"] (defScope s_Form_init) := ⟨rfl, rfl, rfl, by decide +kernel, rfl, by decide +kernel, by decide +kernel⟩
theorem sc_Form_of : FnScope n_Form_of ["cls", "name"] (defScope s_Form_of) := ⟨rfl, rfl, rfl, by decide +kernel, rfl, by decide +kernel, by decide +kernel⟩
theorem sc_Form_share : FnScope n_Form_share ["self", "name"] (defScope s_Form_share) := ⟨rfl, rfl, rfl, by decide +kernel, rfl, by decide +kernel, by decide +kernel⟩
theorem sc_Form_names : FnScope n_Form_names ["self"] (defScope s_Form_names) := ⟨rfl, rfl, rfl, by decide +kernel, rfl, by decide +kernel, by decide +kernel⟩
theorem sc_Form_add : FnScope n_Form_add ["self", "other"] (defScope s_Form_add) := ⟨rfl, rfl, rfl, by decide +kernel, rfl, by decide +kernel, by decide +kernel⟩
theorem sc_Form_sub : FnScope n_Form_sub ["self", "other"] (defScope s_Form_sub) := ⟨rfl, rfl, rfl, by decide +kernel, rfl, by decide +kernel, by decide +kernel⟩
theorem sc_Form_neg : FnScope n_Form_neg ["self"] (defScope s_Form_neg) := ⟨rfl, rfl, rfl, by decide +kernel, rfl, by decide +kernel, by decide +kernel⟩
theorem sc_Form_mul : FnScope n_Form_mul ["self", "number"] (defScope s_Form_mul) := ⟨rfl, rfl, rfl, by decide +kernel, rfl, by decide +kernel, by decide +kernel⟩
theorem sc_Form_rmul : FnScope n_Form_rmul ["self", "number"] (defScope s_Form_rmul) := ⟨rfl, rfl, rfl, by decide +kernel, rfl, by decide +kernel, by decide +kernel⟩
theorem sc_Form_over : FnScope n_Form_over ["self", "number"] (defScope s_Form_over) := ⟨rfl, rfl, rfl, by decide +kernel, rfl, by decide +kernel, by decide +kernel⟩
theorem sc_Form_at_most : FnScope n_Form_at_most ["self", "other"] (defScope s_Form_at_most) := ⟨rfl, rfl, rfl, by decide +kernel, rfl, by decide +kernel, by decide +kernel⟩
theorem sc_Form_same : FnScope n_Form_same ["self", "other"] (defScope s_Form_same) := ⟨rfl, rfl, rfl, by decide +kernel, rfl, by decide +kernel, by decide +kernel⟩
theorem sc_Form_at : FnScope n_Form_at ["self", "prices"] (defScope s_Form_at) := ⟨rfl, rfl, rfl, by decide +kernel, rfl, by decide +kernel, by decide +kernel⟩
theorem sc_Step_init : FnScope n_Step_init ["self", "pivot", "form", "factors"] (defScope s_Step_init) := ⟨rfl, rfl, rfl, by decide +kernel, rfl, by decide +kernel, by decide +kernel⟩
theorem sc_Step_cleared : FnScope n_Step_cleared ["self", "other"] (defScope s_Step_cleared) := ⟨rfl, rfl, rfl, by decide +kernel, rfl, by decide +kernel, by decide +kernel⟩
theorem sc_less_times : FnScope n_less_times ["one", "other", "share"] (defScope s_less_times) := ⟨rfl, rfl, rfl, by decide +kernel, rfl, by decide +kernel, by decide +kernel⟩
theorem sc_Shown_init : FnScope n_Shown_init ["self", "forms"] (defScope s_Shown_init) := ⟨rfl, rfl, rfl, by decide +kernel, rfl, by decide +kernel, by decide +kernel⟩
theorem sc_Shown_take_in : FnScope n_Shown_take_in ["self", "number"] (defScope s_Shown_take_in) := ⟨rfl, rfl, rfl, by decide +kernel, rfl, by decide +kernel, by decide +kernel⟩
theorem sc_Shown_reduced : FnScope n_Shown_reduced ["self", "form", "factors"] (defScope s_Shown_reduced) := ⟨rfl, rfl, rfl, by decide +kernel, rfl, by decide +kernel, by decide +kernel⟩
theorem sc_Shown_weights : FnScope n_Shown_weights ["self", "asked"] (defScope s_Shown_weights) := ⟨rfl, rfl, rfl, by decide +kernel, rfl, by decide +kernel, by decide +kernel⟩
theorem sc_Shown_unseen : FnScope n_Shown_unseen ["self", "asked"] (defScope s_Shown_unseen) := ⟨rfl, rfl, rfl, by decide +kernel, rfl, by decide +kernel, by decide +kernel⟩
theorem sc_Shown_value : FnScope n_Shown_value ["self", "asked", "values"] (defScope s_Shown_value) := ⟨rfl, rfl, rfl, by decide +kernel, rfl, by decide +kernel, by decide +kernel⟩
theorem sc_sum_of_products : FnScope n_sum_of_products ["factors", "values"] (defScope s_sum_of_products) := ⟨rfl, rfl, rfl, by decide +kernel, rfl, by decide +kernel, by decide +kernel⟩
theorem sc_is_name : FnScope n_is_name ["name"] (defScope s_is_name) := ⟨rfl, rfl, rfl, by decide +kernel, rfl, by decide +kernel, by decide +kernel⟩
theorem sc_is_number : FnScope n_is_number ["value", "least"] (defScope s_is_number) := ⟨rfl, rfl, rfl, by decide +kernel, rfl, by decide +kernel, by decide +kernel⟩
theorem sc_is_entry : FnScope n_is_entry ["entry"] (defScope s_is_entry) := ⟨rfl, rfl, rfl, by decide +kernel, rfl, by decide +kernel, by decide +kernel⟩
theorem sc_Book_init : FnScope n_Book_init ["self"] (defScope s_Book_init) := ⟨rfl, rfl, rfl, by decide +kernel, rfl, by decide +kernel, by decide +kernel⟩
theorem sc_Book_getitem : FnScope n_Book_getitem ["self", "place"] (defScope s_Book_getitem) := ⟨rfl, rfl, rfl, by decide +kernel, rfl, by decide +kernel, by decide +kernel⟩
theorem sc_Book_setitem : FnScope n_Book_setitem ["self", "place", "entry"] (defScope s_Book_setitem) := ⟨rfl, rfl, rfl, by decide +kernel, rfl, by decide +kernel, by decide +kernel⟩
theorem sc_Book_places : FnScope n_Book_places ["self"] (defScope s_Book_places) := ⟨rfl, rfl, rfl, by decide +kernel, rfl, by decide +kernel, by decide +kernel⟩
theorem sc_Book_named : FnScope n_Book_named ["self", "kind"] (defScope s_Book_named) := ⟨rfl, rfl, rfl, by decide +kernel, rfl, by decide +kernel, by decide +kernel⟩
theorem sc_Book_lots : FnScope n_Book_lots ["self"] (defScope s_Book_lots) := ⟨rfl, rfl, rfl, by decide +kernel, rfl, by decide +kernel, by decide +kernel⟩
theorem sc_Book_sales : FnScope n_Book_sales ["self"] (defScope s_Book_sales) := ⟨rfl, rfl, rfl, by decide +kernel, rfl, by decide +kernel, by decide +kernel⟩
theorem sc_Book_joined : FnScope n_Book_joined ["self", "other"] (defScope s_Book_joined) := ⟨rfl, rfl, rfl, by decide +kernel, rfl, by decide +kernel, by decide +kernel⟩
theorem sc_stacked : FnScope n_stacked ["layers"] (defScope s_stacked) := ⟨rfl, rfl, rfl, by decide +kernel, rfl, by decide +kernel, by decide +kernel⟩
theorem sc_units_in : FnScope n_units_in ["parts"] (defScope s_units_in) := ⟨rfl, rfl, rfl, by decide +kernel, rfl, by decide +kernel, by decide +kernel⟩
theorem sc_cut : FnScope n_cut ["parts", "units"] (defScope s_cut) := ⟨rfl, rfl, rfl, by decide +kernel, rfl, by decide +kernel, by decide +kernel⟩
theorem sc_shared : FnScope n_shared ["parts", "share"] (defScope s_shared) := ⟨rfl, rfl, rfl, by decide +kernel, rfl, by decide +kernel, by decide +kernel⟩
theorem sc_check_units : FnScope n_check_units ["parts", "units"] (defScope s_check_units) := ⟨rfl, rfl, rfl, by decide +kernel, rfl, by decide +kernel, by decide +kernel⟩
theorem sc_Rule_init : FnScope n_Rule_init ["self", "take", "place", "period"] (defScope s_Rule_init) := ⟨rfl, rfl, rfl, by decide +kernel, rfl, by decide +kernel, by decide +kernel⟩
theorem sc_Rule_call : FnScope n_Rule_call ["self", "layers", "units"] (defScope s_Rule_call) := ⟨rfl, rfl, rfl, by decide +kernel, rfl, by decide +kernel, by decide +kernel⟩
theorem sc_Rule_returned : FnScope n_Rule_returned ["self", "parts", "units"] (defScope s_Rule_returned) := ⟨rfl, rfl, rfl, by decide +kernel, rfl, by decide +kernel, by decide +kernel⟩
theorem sc_Rule_laid : FnScope n_Rule_laid ["self", "layers", "parts", "lots"] (defScope s_Rule_laid) := ⟨rfl, rfl, rfl, by decide +kernel, rfl, by decide +kernel, by decide +kernel⟩
theorem sc_Rule_put : FnScope n_Rule_put ["self", "layers", "part", "lots"] (defScope s_Rule_put) := ⟨rfl, rfl, rfl, by decide +kernel, rfl, by decide +kernel, by decide +kernel⟩
theorem sc_Rule_worked : FnScope n_Rule_worked ["self", "book"] (defScope s_Rule_worked) := ⟨rfl, rfl, rfl, by decide +kernel, rfl, by decide +kernel, by decide +kernel⟩
theorem sc_Costing_init : FnScope n_Costing_init ["self", "book", "rule"] (defScope s_Costing_init) := ⟨rfl, rfl, rfl, by decide +kernel, rfl, by decide +kernel, by decide +kernel⟩
theorem sc_Costing_check_free : FnScope n_Costing_check_free ["self", "name"] (defScope s_Costing_check_free) := ⟨rfl, rfl, rfl, by decide +kernel, rfl, by decide +kernel, by decide +kernel⟩
theorem sc_Costing_work_buy : FnScope n_Costing_work_buy ["self", "lot", "units"] (defScope s_Costing_work_buy) := ⟨rfl, rfl, rfl, by decide +kernel, rfl, by decide +kernel, by decide +kernel⟩
theorem sc_Costing_work_sell : FnScope n_Costing_work_sell ["self", "day", "number", "sale", "units"] (defScope s_Costing_work_sell) := ⟨rfl, rfl, rfl, by decide +kernel, rfl, by decide +kernel, by decide +kernel⟩
theorem sc_Costing_work_back : FnScope n_Costing_work_back ["self", "day", "number", "sale", "units"] (defScope s_Costing_work_back) := ⟨rfl, rfl, rfl, by decide +kernel, rfl, by decide +kernel, by decide +kernel⟩
theorem sc_Costing_work_late : FnScope n_Costing_work_late ["self", "cost", "lot"] (defScope s_Costing_work_late) := ⟨rfl, rfl, rfl, by decide +kernel, rfl, by decide +kernel, by decide +kernel⟩
theorem sc_Costing_unit_cost : FnScope n_Costing_unit_cost ["self", "lot"] (defScope s_Costing_unit_cost) := ⟨rfl, rfl, rfl, by decide +kernel, rfl, by decide +kernel, by decide +kernel⟩
theorem sc_Costing_cost_of : FnScope n_Costing_cost_of ["self", "parts"] (defScope s_Costing_cost_of) := ⟨rfl, rfl, rfl, by decide +kernel, rfl, by decide +kernel, by decide +kernel⟩
theorem sc_Costing_parts : FnScope n_Costing_parts ["self", "sale"] (defScope s_Costing_parts) := ⟨rfl, rfl, rfl, by decide +kernel, rfl, by decide +kernel, by decide +kernel⟩
theorem sc_Costing_cost : FnScope n_Costing_cost ["self", "sale"] (defScope s_Costing_cost) := ⟨rfl, rfl, rfl, by decide +kernel, rfl, by decide +kernel, by decide +kernel⟩
theorem sc_Costing_booked : FnScope n_Costing_booked ["self", "day", "number"] (defScope s_Costing_booked) := ⟨rfl, rfl, rfl, by decide +kernel, rfl, by decide +kernel, by decide +kernel⟩
theorem sc_Costing_until : FnScope n_Costing_until ["self", "day"] (defScope s_Costing_until) := ⟨rfl, rfl, rfl, by decide +kernel, rfl, by decide +kernel, by decide +kernel⟩
theorem sc_Costing_layers : FnScope n_Costing_layers ["self"] (defScope s_Costing_layers) := ⟨rfl, rfl, rfl, by decide +kernel, rfl, by decide +kernel, by decide +kernel⟩
theorem sc_Costing_stock : FnScope n_Costing_stock ["self"] (defScope s_Costing_stock) := ⟨rfl, rfl, rfl, by decide +kernel, rfl, by decide +kernel, by decide +kernel⟩
theorem sc_Costing_paid : FnScope n_Costing_paid ["self"] (defScope s_Costing_paid) := ⟨rfl, rfl, rfl, by decide +kernel, rfl, by decide +kernel, by decide +kernel⟩
theorem sc_law_bag : FnScope n_law_bag ["_law_script"] (defScope s_law_bag) := ⟨rfl, rfl, rfl, by decide +kernel, rfl, by decide +kernel, by decide +kernel⟩
theorem sc_law_draw : FnScope n_law_draw ["_law_bag_here", "_law_size"] (defScope s_law_draw) := ⟨rfl, rfl, rfl, by decide +kernel, rfl, by decide +kernel, by decide +kernel⟩
theorem sc_law_names : FnScope n_law_names ["_law_bag_here", "_law_count", "_law_words"] (defScope s_law_names) := ⟨rfl, rfl, rfl, by decide +kernel, rfl, by decide +kernel, by decide +kernel⟩
theorem sc_law_pick : FnScope n_law_pick ["_law_bag_here", "_law_items"] (defScope s_law_pick) := ⟨rfl, rfl, rfl, by decide +kernel, rfl, by decide +kernel, by decide +kernel⟩
theorem sc_law_mixed : FnScope n_law_mixed ["_law_bag_here", "_law_items"] (defScope s_law_mixed) := ⟨rfl, rfl, rfl, by decide +kernel, rfl, by decide +kernel, by decide +kernel⟩
theorem sc_law_rule : FnScope n_law_rule ["_law_bag_here"] (defScope s_law_rule) := ⟨rfl, rfl, rfl, by decide +kernel, rfl, by decide +kernel, by decide +kernel⟩
theorem sc_law_made : FnScope n_law_made ["_law_rule_here"] (defScope s_law_made) := ⟨rfl, rfl, rfl, by decide +kernel, rfl, by decide +kernel, by decide +kernel⟩
theorem sc_law_next : FnScope n_law_next ["_law_bag_here", "_law_entries_here"] (defScope s_law_next) := ⟨rfl, rfl, rfl, by decide +kernel, rfl, by decide +kernel, by decide +kernel⟩
theorem sc_law_entries : FnScope n_law_entries ["_law_bag_here", "_law_most"] (defScope s_law_entries) := ⟨rfl, rfl, rfl, by decide +kernel, rfl, by decide +kernel, by decide +kernel⟩
theorem sc_law_book : FnScope n_law_book ["_law_entries_here"] (defScope s_law_book) := ⟨rfl, rfl, rfl, by decide +kernel, rfl, by decide +kernel, by decide +kernel⟩
theorem sc_law_added : FnScope n_law_added ["_law_forms", "_law_weights"] (defScope s_law_added) := ⟨rfl, rfl, rfl, by decide +kernel, rfl, by decide +kernel, by decide +kernel⟩
theorem sc_law_hidden_right : FnScope n_law_hidden_right ["_law_bag_here", "_law_forms", "_law_paid_here", "_law_spot"] (defScope s_law_hidden_right) := ⟨rfl, rfl, rfl, by decide +kernel, rfl, by decide +kernel, by decide +kernel⟩
theorem sc_law_paid : FnScope n_law_paid ["_law_entries_here"] (defScope s_law_paid) := ⟨rfl, rfl, rfl, by decide +kernel, rfl, by decide +kernel, by decide +kernel⟩
theorem sc_law : FnScope n_law ["_law_script"] (defScope s_law) := ⟨rfl, rfl, rfl, by decide +kernel, rfl, by decide +kernel, by decide +kernel⟩
end LC
end LcTxt
section LcHead
set_option maxHeartbeats 0
/-! The head: what the top leaves is told by facts. -/
namespace LC
open PySem PySem.W PySem.Calls PyProof.Rows
open He5 (SaysA obsA valA)
abbrev RR : PySem.W.OpenRow := PySem.W.OpenLaw.row PySem.Challenge.rw_lotcosts_k79_whole_what_shown_costs_tell
/-- the names of the top but the law -/
def looseN : List PySem.Str := (RR.prog.main.scope.names.map (·.1)).filter fun x => decide (x ≠ "law") && decide (x ≠ "__name__")
/-! lists, made out ahead of their use -/
def frL {α : Type} : List Nat → (List Nat → α) → α
  | [], k => k []
  | a :: r, k => HandSHeadRun.frNat a fun a => frL r fun r => k (a :: r)
theorem frL_eq {α : Type} : ∀ (l : List Nat) (k : List Nat → α), frL l k = k l
  | [], k => rfl
  | a :: r, k => by
    show HandSHeadRun.frNat a (fun a => frL r fun r => k (a :: r)) = _
    rw [HandSHeadRun.frNat_eq, frL_eq r]
/-- what an object names, but a class's own row of classes -/
def refsB (o : Obj) : List Addr := match o.data with
  | .cls cd => [cd.ns]
  | _ => He.refsD o
/-- so many steps on -/
def levB (g : Addr → Option Obj) : Nat → List Addr → List Addr → List Addr
  | 0, all, _ => all
  | n + 1, all, front => frL (front.flatMap fun a => match g a with
    | some o => refsB o
    | none => []) fun new => levB g n (all ++ new) new
def asB (g : Addr → Option Obj) : List Addr := levB g 5 [mainGlobals] [mainGlobals] ++ [cStatics]
def frK {α : Type} : PySem.W.Frag → (PySem.W.Frag → α) → α
  | [], k => k []
  | (a, ⟨c, d, dt, sl⟩) :: r, k => HandSHeadRun.frNat a fun a => frK r fun r => k ((a, ⟨c, d, dt, sl⟩) :: r)
theorem frK_eq {α : Type} : ∀ (l : PySem.W.Frag) (k : PySem.W.Frag → α), frK l k = k l
  | [], k => rfl
  | (a, ⟨c, d, dt, sl⟩) :: r, k => by
    show HandSHeadRun.frNat a (fun a => frK r fun r => k ((a, ⟨c, d, dt, sl⟩) :: r)) = _
    rw [HandSHeadRun.frNat_eq, frK_eq r]
/-- what is asked of the part, made out -/
def obK {β : Type} (f : Frag → β) (g : Addr → Option Obj) : β := frL (asB g) fun as => frK (He.frG g as) f
theorem obK_eq {β : Type} (f : Frag → β) (g : Addr → Option Obj) : obK f g = f (He.frG g (asB g)) := by
  unfold obK
  rw [frL_eq, frK_eq]
def obF (K : Frag) : Bool × Bool := (factsL.all fun f => f.ok K, (exL K).all id)
def obD (K : Frag) : He.AlD := (defsL.all fun d => d.ok K, defsL.map fun d => He5.fnA K (d.at_ K))
def hk : PySem.W.Hook where
  α := (Bool × Bool) × He.AlD
  obs := fun s => (obK obF s.heap.get?, obK obD s.heap.get?)
  val := fun _ => ((true, true), valA defsL)
  says := fun _ h => ∃ K : Frag, K.In h ∧ SaysA factsL defsL K ∧ (exL K).all id = true
  of := fun _ s e => by
    have e1 : obF (He.frG s.heap.get? (asB s.heap.get?)) = (true, true) := (obK_eq _ _).symm.trans (congrArg Prod.fst e)
    have e2 : obD (He.frG s.heap.get? (asB s.heap.get?)) = valA defsL := (obK_eq _ _).symm.trans (congrArg Prod.snd e)
    refine ⟨_, He.frG_in, ?_, congrArg Prod.snd e1⟩
    have f1 := congrArg Prod.fst e1
    have f2 := congrArg Prod.fst e2
    have f3 := congrArg Prod.snd e2
    exact Prod.ext (Bool.and_eq_true_iff.mpr ⟨f1, f2⟩) f3
  keeps := fun _ _ _ ⟨K, hK, c⟩ k => ⟨K, Frag.In.keeps hK k, c⟩
def obh (s : PySem.W.SharedT) : (Bool × Bool) × He.AlD := (obK obF (HandSHeadRun.getT s), obK obD (HandSHeadRun.getT s))
theorem obh_eq (s : PySem.W.SharedT) : obh s = hk.obs s.abs := by
  have e : HandSHeadRun.getT s = s.abs.heap.get? := funext fun a => HandSHeadRun.getT_eq s a
  show (obK obF (HandSHeadRun.getT s), obK obD (HandSHeadRun.getT s)) = (obK obF s.abs.heap.get?, obK obD s.abs.heap.get?)
  rw [e]
/-- the state behind the top -/
noncomputable abbrev endL (w : World) (os : OsState) : Option SharedT := HandSHeadRun.endF (HandSHeadRun.stepQ (HandSHeadRun.denQ HandSHeadRun.tabQ) RR.prog w) 20000 RR.prog w os
theorem head_r1 (w : World) (os : OsState) : (endL w os).map (fun s => (HandSHeadRun.looksF RR.prog (boot_heap w.params) s.abs, HandSHeadRun.seenQ (PySem.W.view RR.prog [63]) looseN (importedModules RR.prog.main.body) (fun s => xlAt (PySem.W.view RR.prog [63]) [] s && recOk RR.toRowW.records s) s.abs)) = some (true, openGood (PySem.W.view RR.prog [63]) looseN) := by
  kernel_rfl
theorem head_r2 (w : World) (os : OsState) : (endL w os).map (fun s => obK obF (HandSHeadRun.getT s)) = some (true, true) := by
  kernel_rfl
theorem head_r3 (w : World) (os : OsState) : (endL w os).map (fun s => obK obD (HandSHeadRun.getT s)) = some (valA defsL) := by
  kernel_rfl
theorem head_run (w : World) : HandSHeadRun.RunEq RR (PySem.W.view RR.prog [63]) hk obh 20000 looseN w := by
  intro os
  have h1 := head_r1 w os
  have h2 := head_r2 w os
  have h3 := head_r3 w os
  show (endL w os).map (fun s => (HandSHeadRun.looksF RR.prog (boot_heap w.params) s.abs, HandSHeadRun.seenQ (PySem.W.view RR.prog [63]) looseN (importedModules RR.prog.main.body) (fun s => xlAt (PySem.W.view RR.prog [63]) [] s && recOk RR.toRowW.records s) s.abs, (obK obF (HandSHeadRun.getT s), obK obD (HandSHeadRun.getT s)))) = some (true, openGood (PySem.W.view RR.prog [63]) looseN, ((true, true), valA defsL))
  generalize endL w os = z at h1 h2 h3
  cases z with
  | none => cases h1
  | some s =>
    have g1 := congrArg Prod.fst (Option.some.inj h1)
    have g2 := congrArg Prod.snd (Option.some.inj h1)
    have g3 := Option.some.inj h2
    have g4 := Option.some.inj h3
    exact congrArg some (Prod.ext g1 (Prod.ext g2 (Prod.ext g3 g4)))
/-- the statement, from the walk -/
theorem head_ok (call : PySem.W.WalkO (PySem.W.view RR.prog [63]) looseN (XL (PySem.W.view RR.prog [63]) []) hk.says RR.toRowW (HandSHeadRun.topDef RR.prog 63) [] fun f vs => PySem.call f vs) : PySem.Challenge.rw_lotcosts_k79_whole_what_shown_costs_tell.Holds := by
  w_on; o_law
  refine HandSHeadRun.head_any (r := RR) (q := view RR.prog [63]) (H := hk) (ob := obh) (M := 20000) (loose := looseN) (d := HandSHeadRun.topDef RR.prog 63) (kwd := []) obh_eq (by kernel_rfl) (fun s => by kernel_rfl) head_run (by kernel_rfl) (by kernel_rfl) (by kernel_rfl) (by rfl) (by first | assumption | decide +kernel) (by decide +kernel)
    ⟨rfl, rfl, rfl, rfl, rfl, by decide +kernel⟩ ?hw ?hc
  case hw => w_witness2
  case hc => exact call
end LC
end LcHead
section LcRat
set_option maxHeartbeats 4000000
/-! Fractions: what common_divisor, halves and Ratio's methods do. -/
namespace LC
open PySem L2
open He (ga ma)
open He5 (wf)

/-- the value of a name -/
def gv : St → Nat → V
  | [], _ => .non
  | x :: _, 0 => x.getD .non
  | _ :: xs, n + 1 => gv xs n
section
variable {X : Cx} {e a : Expr} {σ : St} {B M : Hp} {P : V → Hp → Hp → Prop} {pos p p2 : Pos} {x : Str} {v : V} {T : String}
theorem em_nm (i : Nat) (h : P (gv σ i) B M) (hN : X.N[i]? = some x := by rfl) (hv : Vis X.env.scope x := by first | exact Or.inl rfl | exact Or.inr (Or.inl rfl) | exact Or.inr (Or.inr rfl)) (hs : σ[i]? = some (some (gv σ i)) := by rfl)
    (hd : (x == ("__debug__" : Str)) = false := by decide) (hcd : (x == ("__classdict__" : Str)) = false := by decide) : EM X (.Name x pos) σ B M P := em_name i hN hv hs h hd hcd
theorem em_glob {u : Value} (hm : X.mg x = some u) (r : RelV v u) (h : P v B M) (hg : Gl X x := by rfl) (hd : (x == ("__debug__" : Str)) = false := by decide) : EM X (.Name x pos) σ B M P := em_of (pe_glob hg hm r hd) (Emt.ret h)
theorem em_bty (hm : X.mg x = none) (hv : bootBuiltins x = some (.type T)) (h : P (.ty T) B M) (hg : Gl X x := by rfl) (hn : x ≠ "__name__" := by decide) (hd : (x == ("__debug__" : Str)) = false := by decide) : EM X (.Name x pos) σ B M P :=
  em_of (pe_bltn (v := .ty T) hg hm hv rfl hn hd) (Emt.ret h)
theorem em_isi (hm : X.mg "isinstance" = none) (h : AM X (e :: a :: []) σ B M fun vs B1 M1 => ∃ x c t u b, vs = [x, c] ∧ ClsV c u ∧ TyX X.K (jn B1 M1) x t ∧ PySem.W.kitOne X.K t u = some b ∧ P (.bl b) B1 M1) (hx : ∀ {K : PySem.W.Frag} {H H' : Hp} {x : V} {t : Value}, Ex H H' → TyX K H x t → TyX K H' x t)
    (hg : Gl X "isinstance" := by rfl) (he : starEach (e :: a :: []) X.env = (false, eval e X.env) :: starEach [a] X.env := by rfl) (hpl : (backTo pos (starEach [a] X.env)).any (·.1) = false := by rfl) : EM X (.Call (.Name "isinstance" p) [e, a] [] pos) σ B M P :=
  em_cb call_isi hm PyProof.Rows.boot_isinstance (h.imp fun vs B1 M1 _ ⟨x, c, t, u, b, hv, k, ty, e, q⟩ => fun H w Q kq => ⟨x, c, t, u, b, hv, k, hx w.jn ty, e, kq _ _ _ _ (Gs.id' w) q⟩) hg (he := he) (hpl := hpl)
end
/-- a, b = x, y -/
theorem s1_par (i j : Nat) {x y : Str} {a b : Expr} {σ : St} {px py pt pos : Pos} {kt k2 pt2} {E : EndsM} {X : Cx} {B M : Hp} (hc : X.calm = true) (hN : X.N.Nodup) (hij : i ≠ j)
    (h : AM X [a, b] σ B M fun vs B1 M1 => ∃ v w, vs = [v, w] ∧ E.nx ((σ.set i (some v)).set j (some w)) B1 M1) (hi : X.N[i]? = some x := by rfl) (hj : X.N[j]? = some y := by rfl)
    (hx : X.env.scope.names.lookup x = some .local := by rfl) (hy : X.env.scope.names.lookup y = some .local := by rfl)
    (hw : swappedStores [.Tuple [.Name x px, .Name y py] kt pt] (.Tuple [a, b] k2 pt2) X.env = pure (some [x, y]) := by rfl)
    (hs : swapsWithSole [.Tuple [.Name x px, .Name y py] kt pt] (.Tuple [a, b] k2 pt2) pos.line X.env = pure false := by rfl) :
    S1 X (.Assign [.Tuple [.Name x px, .Name y py] kt pt] (.Tuple [a, b] k2 pt2) pos) σ B M E :=
  s1_of (ps_par hc hN hi hj hij hx hy pa_w hw hs) fun H w D k1 _ _ _ => h H w _ fun vs B1 M1 H1 g ⟨v, w', hv, q⟩ => ⟨v, w', hv, k1 _ _ _ _ g q⟩
theorem tyx_up {K : PySem.W.Frag} {H H' : Hp} {x : V} {t : Value} (e : Ex H H') (h : TyX K H x t) : TyX K H' x t := by
  cases h with
  | base b =>
    cases b with
    | non => exact .base .non
    | bl y => exact .base (.bl y)
    | int i => exact .base (.int i)
    | str y => exact .base (.str y)
    | flt y => exact .base (.flt y)
    | lst h => exact .base (.lst (e _ _ h))
    | frz h => exact .base (.frz (e _ _ h))
    | tup h => exact .base (.tup (e _ _ h))
    | dK h => exact .base (.dK (e _ _ h))
    | dT h => exact .base (.dT (e _ _ h))
    | ins h c1 c2 c3 c4 c5 => exact .base (.ins (e _ _ h) c1 c2 c3 c4 c5)
  | byt b => exact .byt b
  | set h => exact .set (e _ _ h)
  | kList h c => exact .kList h c
  | kTuple h c => exact .kTuple h c
  | kDict h c => exact .kDict h c
  | fTuple h => exact .fTuple (e _ _ h)
  | fDict h => exact .fDict (e _ _ h)

/-! ### promises of defs without defaults -/
section
variable {P : Program} {w : World} {K : PySem.W.Frag} {mg : Str → Option Value} {base : Heap}
theorem pr_def {x qual : Str} {params : Arguments} {body : List Stmt} {scope : Scope} {kws : List (Str × V)} {f : Addr} {N ps : List Str} {k : Nat} {S : Spc} (hF : ∃ fd, FunD K x qual params body scope [] kws f fd) (Sc : FnScope N ps scope)
    (hb : ∀ (kV doc pm : Value) (an : Option Addr) (cdv ct : Value) (us : List Value), us.length = ps.length → bindArgs (PySem.W.fnOf x qual params body scope .none kV doc pm an cdv ct) ⟨us, []⟩ = pure (ps.zip us))
    (len : ∀ vs B M Q, S vs B M Q → vs.length = ps.length)
    (h : ∀ (cdv : Value) (A : Around) (outer : List Env) (s : Shared) (H : Hp) (E : XK) (vs : List V) (B M : Hp) (Q : V → Hp → Hp → Prop), Room k (A.deeper (PyProof.Rows.envOfC qual scope s.heap.objs.size f cdv)) → S vs B M Q →
      SM (cxOf CX0 P w K mg base N qual scope f cdv A outer s H E).nox body (start N vs) B M { nx := fun _ B' M' => Q .non B' M', rt := Q }) : Pr P w K mg base (k + 1) f [] S := by
  obtain ⟨fd, F⟩ := hF
  exact ⟨⟨fd, ps, [], body_ok F Sc len h, F.bindsN hb, .nil⟩, F.kp⟩
/-- with defaults behind n written arguments -/
theorem pr_dfl {x qual : Str} {params : Arguments} {body : List Stmt} {scope : Scope} {dvs : List V} {kws : List (Str × V)} {f : Addr} {N ps : List Str} {k : Nat} {S : Spc} (hF : ∃ fd, FunD K x qual params body scope dvs kws f fd) (Sc : FnScope N ps scope)
    (n j : Nat) (hd : dvs ≠ []) (hn : n + (dvs.length - j) = ps.length)
    (hb : ∀ (T : Addr) (kV doc pm : Value) (an : Option Addr) (cdv ct : Value) (us its : List Value), us.length = n → its.length = dvs.length →
      ∃ k, bindArgs (PySem.W.fnOf x qual params body scope (.ref T) kV doc pm an cdv ct) ⟨us, []⟩ = seqItems? (.ref T) >>= k ∧ k (some its.toArray) = pure (ps.zip (us ++ its.drop j)))
    (len : ∀ vs B M Q, S vs B M Q → vs.length = ps.length)
    (h : ∀ (cdv : Value) (A : Around) (outer : List Env) (s : Shared) (H : Hp) (E : XK) (vs : List V) (B M : Hp) (Q : V → Hp → Hp → Prop), Room k (A.deeper (PyProof.Rows.envOfC qual scope s.heap.objs.size f cdv)) → S vs B M Q →
      SM (cxOf CX0 P w K mg base N qual scope f cdv A outer s H E).nox body (start N vs) B M { nx := fun _ B' M' => Q .non B' M', rt := Q }) : Pr P w K mg base (k + 1) f (dvs.drop j) S := by
  obtain ⟨fd, F⟩ := hF
  obtain ⟨ds, hv, hb⟩ := F.binds1 n j hd hn hb
  exact ⟨⟨fd, ps, ds, body_ok F Sc len h, hb, hv⟩, F.kp⟩
/-- the same, all arguments written -/
theorem pr_dfl0 {x qual : Str} {params : Arguments} {body : List Stmt} {scope : Scope} {dvs : List V} {kws : List (Str × V)} {f : Addr} {N ps : List Str} {k : Nat} {S : Spc} (hF : ∃ fd, FunD K x qual params body scope dvs kws f fd) (Sc : FnScope N ps scope)
    (hd : dvs ≠ [])
    (hb : ∀ (T : Addr) (kV doc pm : Value) (an : Option Addr) (cdv ct : Value) (us its : List Value), us.length = ps.length → its.length = dvs.length →
      ∃ k, bindArgs (PySem.W.fnOf x qual params body scope (.ref T) kV doc pm an cdv ct) ⟨us, []⟩ = seqItems? (.ref T) >>= k ∧ k (some its.toArray) = pure (ps.zip us))
    (len : ∀ vs B M Q, S vs B M Q → vs.length = ps.length)
    (h : ∀ (cdv : Value) (A : Around) (outer : List Env) (s : Shared) (H : Hp) (E : XK) (vs : List V) (B M : Hp) (Q : V → Hp → Hp → Prop), Room k (A.deeper (PyProof.Rows.envOfC qual scope s.heap.objs.size f cdv)) → S vs B M Q →
      SM (cxOf CX0 P w K mg base N qual scope f cdv A outer s H E).nox body (start N vs) B M { nx := fun _ B' M' => Q .non B' M', rt := Q }) : Pr P w K mg base (k + 1) f [] S := by
  have := pr_dfl (j := dvs.length) (S := S) hF Sc ps.length hd (by omega) (fun T kV doc pm an cdv ct us its h1 h2 => by
    obtain ⟨k, e1, e2⟩ := hb T kV doc pm an cdv ct us its h1 h2
    refine ⟨k, e1, ?_⟩
    rw [← h2, List.drop_length, List.append_nil]; exact e2) len h
  rwa [List.drop_length] at this
end

/-- the world of the walk -/
structure Wd (P : Program) (K : PySem.W.Frag) (mg : Str → Option Value) (base : Heap) : Prop where
  t : Tx K mg
  seer : base.NoSeer
  tree : P.given.tree = none

/-! ### values that are fractions -/
def ratO (K : PySem.W.Frag) (dx : Addr) (q : Rat) : HO := .ins (ga K "Ratio") dx [("top", .int q.num), ("bottom", .int q.den)]
def RatAt (K : PySem.W.Frag) (B : Hp) (v : V) (q : Rat) : Prop := ∃ a dx, v = .ref a ∧ B a = some (ratO K dx q)
def NumAt (K : PySem.W.Frag) (B : Hp) (v : V) (q : Rat) : Prop := (∃ i : Int, v = .int i ∧ q = i) ∨ RatAt K B v q
theorem RatAt.up {K : PySem.W.Frag} {B B' : Hp} {v : V} {q : Rat} (h : RatAt K B v q) (e : Ex B B') : RatAt K B' v q := by
  obtain ⟨a, dx, hv, hb⟩ := h
  exact ⟨a, dx, hv, e _ _ hb⟩
theorem NumAt.up {K : PySem.W.Frag} {B B' : Hp} {v : V} {q : Rat} (h : NumAt K B v q) (e : Ex B B') : NumAt K B' v q := by
  rcases h with h | h
  · exact .inl h
  · exact .inr (h.up e)
theorem RatAt.num {K : PySem.W.Frag} {B : Hp} {v : V} {q : Rat} (h : RatAt K B v q) : NumAt K B v q := .inr h
/-- the size for which the operators are sure to work -/
def Sz (q : Rat) : Prop := q.num.natAbs.log2 ≤ 33554432 ∧ q.den.log2 ≤ 33554432
theorem mulok_of {i j : Int} {n m : Nat} (h1 : i.natAbs.log2 ≤ n) (h2 : j.natAbs.log2 ≤ m) (h : n + m ≤ 134217726) : CMulX i j := by
  unfold CMulX
  omega

/-! ### the fraction of two ints -/
theorem rat_parts (t b : Int) (hb : b ≠ 0) : ((Rat.divInt t b).num = t.fdiv (if b < 0 then -((Nat.gcd t.natAbs b.natAbs : Nat) : Int) else ((Nat.gcd t.natAbs b.natAbs : Nat) : Int))) ∧
    (((Rat.divInt t b).den : Int) = b.fdiv (if b < 0 then -((Nat.gcd t.natAbs b.natAbs : Nat) : Int) else ((Nat.gcd t.natAbs b.natAbs : Nat) : Int))) := by
  have hg : b.gcd t = Nat.gcd t.natAbs b.natAbs := by rw [Int.gcd_comm]; rfl
  have hgp : 0 < Nat.gcd t.natAbs b.natAbs := Nat.gcd_pos_of_pos_right _ (by omega)
  generalize hgg : Nat.gcd t.natAbs b.natAbs = g at *
  have d1 : (g : Int) ∣ t := by rw [← hgg]; exact Int.ofNat_dvd_left.mpr (Nat.gcd_dvd_left _ _)
  have d2 : (g : Int) ∣ b := by rw [← hgg]; exact Int.ofNat_dvd_left.mpr (Nat.gcd_dvd_right _ _)
  obtain ⟨u, hu⟩ := d1
  obtain ⟨v, hv⟩ := d2
  have hg0 : (g : Int) ≠ 0 := by omega
  have hgpos : (0 : Int) < g := by omega
  rw [Rat.num_divInt, Rat.den_divInt, hg, if_neg hb]
  by_cases hneg : b < 0
  · rw [if_pos hneg, Int.sign_eq_neg_one_of_neg hneg]
    have hvn : v < 0 := by
      rcases Int.lt_or_le v 0 with h | h
      · exact h
      · have := Int.mul_nonneg (Int.le_of_lt hgpos) h
        omega
    refine ⟨?_, ?_⟩
    · rw [hu, show (-1 : Int) * ((g : Int) * u) = (g : Int) * (-u) from by grind, Int.mul_ediv_cancel_left _ hg0, show (g : Int) * u = (-(g : Int)) * (-u) from by grind]
      rw [Int.mul_fdiv_cancel_left _ (by omega)]
    · have e : b.natAbs = g * v.natAbs := by rw [hv, Int.natAbs_mul, Int.natAbs_natCast]
      rw [e, Nat.mul_div_cancel_left _ hgp, hv, show (g : Int) * v = (-(g : Int)) * (-v) from by grind, Int.mul_fdiv_cancel_left _ (by omega)]
      omega
  · rw [if_neg hneg, Int.sign_eq_one_of_pos (by omega)]
    have hvn : 0 < v := by
      rcases Int.lt_or_le 0 v with h | h
      · exact h
      · have := Int.mul_nonneg (Int.le_of_lt hgpos) (show 0 ≤ -v from by omega)
        have : (g : Int) * (-v) = -b := by rw [hv]; grind
        omega
    refine ⟨?_, ?_⟩
    · rw [hu, Int.one_mul, Int.mul_ediv_cancel_left _ hg0, Int.mul_fdiv_cancel_left _ hg0]
    · have e : b.natAbs = g * v.natAbs := by rw [hv, Int.natAbs_mul, Int.natAbs_natCast]
      rw [e, Nat.mul_div_cancel_left _ hgp, hv, Int.mul_fdiv_cancel_left _ hg0]
      omega
end LC
end LcRat
section LcRat2
set_option maxHeartbeats 4000000
namespace LC
open PySem L2
open He (ga ma)
open He5 (wf)
section
variable {P : Program} {w : World} {K : PySem.W.Frag} {mg : Str → Option Value} {base : Heap}
def spCd : Spc := fun vs B M Q => ∃ a b : Nat, vs = [.int a, .int b] ∧ ∀ B', Ex B B' → Q (.int (Nat.gcd a b : Nat)) B' M
theorem pr_cd (t : Tx K mg) {k : Nat} : Pr P w K mg base (k + 1) (ga K "common_divisor") [] spCd := by
  refine pr_def t.f_common_divisor sc_common_divisor (fun _ _ _ _ _ _ us hl => match us, hl with | [_, _], _ => rfl) ?_ ?_
  · rintro vs B M Q ⟨a, b, rfl, _⟩; rfl
  · rintro cdv A outer s H E vs B M Q hr ⟨a, b, rfl, hq⟩
    refine sm_cons (s1_while PassesOwn.never (fun m σ B' M' => ∃ a' b' : Nat, σ = [some (.int a'), some (.int b')] ∧ Nat.gcd a' b' = Nat.gcd a b ∧ m = b' ∧ Ex B B' ∧ M' = M) b ⟨a, b, rfl, rfl, rfl, Ex.id', rfl⟩ ?_)
    rintro m σ' B1 M1 ⟨a', b', rfl, hg, rfl, hB, rfl⟩
    refine tm_cmp op_ne (em_nm 1 (em_int (om_ne rfl ⟨_, rfl, ?_⟩)))
    by_cases h0 : m = 0
    · subst h0
      rw [if_neg (by simp [gv])]
      refine sm_one (s1_ret (em_nm 0 ?_))
      rw [← hg, Nat.gcd_zero_right] at hq
      exact hq B1 hB
    · rw [if_pos (by simpa [gv] using h0)]
      refine sm_one (s1_par 0 1 rfl sc_common_divisor.nd (by decide) (am_cons (em_nm 1 (am_cons (em_op op_modN (em_nm 0 (em_nm 1 (om_I ?_ (am_nil ⟨_, _, rfl, ?_⟩)))))))))
      · show (m : Int) ≠ 0
        omega
      refine ⟨a' % m, Nat.mod_lt _ (by omega), m, a' % m, ?_, ?_, rfl, hB, rfl⟩
      · show [some (V.int m), some (V.int ((a' : Int).fmod m))] = _
        rw [Int.fmod_eq_emod_of_nonneg _ (by omega)]
        rfl
      · rw [← hg, Nat.gcd_comm m, ← Nat.gcd_rec, Nat.gcd_comm]

theorem ift {c : Bool} {a b : Prop} (h : c = true) (x : a) : if c = true then a else b := by rw [if_pos h]; exact x
theorem iff' {c : Bool} {a b : Prop} (h : c = false) (x : b) : if c = true then a else b := by rw [if_neg (by rw [h]; decide)]; exact x
theorem dt {p : Prop} [Decidable p] (h : p) : decide p = true := decide_eq_true h
theorem df {p : Prop} [Decidable p] (h : ¬p) : decide p = false := decide_eq_false h
theorem vint_ne {a b : Int} (h : a ≠ b) : ¬ (V.int a = V.int b) := fun e => h (by injection e)
theorem sl0 : ([] : List V).length ≤ sizeLine := by show 0 ≤ sizeLine; decide
theorem sl1 {a : V} : [a].length ≤ sizeLine := by show 1 ≤ sizeLine; decide
theorem sl2 {a b : V} : [a, b].length ≤ sizeLine := by show 2 ≤ sizeLine; decide
theorem sl3 {a b c : V} : [a, b, c].length ≤ sizeLine := by show 3 ≤ sizeLine; decide
/-! ### plain facts -/
theorem rat_eq (a : Rat) : a = (a.num : Rat) / (a.den : Rat) := by
  have h := Rat.num_divInt_den a
  rw [Rat.divInt_eq_div] at h
  rw [Rat.intCast_natCast] at h
  exact h.symm
theorem den_ne (a : Rat) : (a.den : Rat) ≠ 0 := fun h => a.den_nz (Rat.natCast_eq_zero_iff.mp h)
theorem den_ne' (a : Rat) : (a.den : Int) ≠ 0 := by have := a.den_nz; omega
theorem r_add (a b : Rat) : Rat.divInt (a.num * b.den + b.num * a.den) (a.den * b.den) = a + b := by
  rw [Rat.divInt_eq_div]
  push_cast
  have h1 := rat_eq a
  have h2 := rat_eq b
  have h3 := den_ne a
  have h4 := den_ne b
  grind
theorem r_sub (a b : Rat) : Rat.divInt (a.num * b.den - b.num * a.den) (a.den * b.den) = a - b := by
  rw [Rat.divInt_eq_div]
  push_cast
  have h1 := rat_eq a
  have h2 := rat_eq b
  have h3 := den_ne a
  have h4 := den_ne b
  grind
theorem r_mul (a b : Rat) : Rat.divInt (a.num * b.num) (a.den * b.den) = a * b := by
  rw [Rat.divInt_eq_div]
  push_cast
  have h1 := rat_eq a
  have h2 := rat_eq b
  have h3 := den_ne a
  have h4 := den_ne b
  grind
theorem r_neg (a : Rat) : Rat.divInt (-a.num) a.den = -a := by
  rw [Rat.divInt_eq_div]
  push_cast
  have h1 := rat_eq a
  have h3 := den_ne a
  grind
theorem num_ne {b : Rat} (h : b ≠ 0) : (b.num : Rat) ≠ 0 := fun z => h (by rw [rat_eq b, z]; grind)
theorem num_ne' {b : Rat} (h : b ≠ 0) : b.num ≠ 0 := fun z => num_ne h (by rw [z]; rfl)
theorem r_over (a b : Rat) (hb : b ≠ 0) : Rat.divInt (a.num * b.den) (a.den * b.num) = a / b := by
  rw [Rat.divInt_eq_div]
  push_cast
  have h1 := rat_eq a
  have h2 := rat_eq b
  have h3 := den_ne a
  have h4 := den_ne b
  have h5 := num_ne hb
  grind
theorem r_int (i : Int) : Rat.divInt i 1 = (i : Rat) := by
  rw [Rat.divInt_eq_div]
  push_cast
  grind
/-! ### halves -/
def spH (K : PySem.W.Frag) : Spc := fun vs B M Q => ∃ v q, vs = [v] ∧ NumAt K B v q ∧ ∀ B' r, Ex B B' → B' r = some (.tup [.int q.num, .int q.den]) → Q (.ref r) B' M
theorem pr_halves (W : Wd P K mg base) {k : Nat} : Pr P w K mg base (k + 1) (ga K "halves") [] (spH K) := by
  refine pr_def W.t.f_halves sc_halves (fun _ _ _ _ _ _ us hl => match us, hl with | [_], _ => rfl) ?_ ?_
  · rintro vs B M Q ⟨v, q, rfl, _⟩; rfl
  · rintro cdv A outer s H E vs B M Q hr ⟨v, q, rfl, hv, hq⟩
    rcases hv with ⟨i, rfl, rfl⟩ | ⟨a, dx, rfl, ha⟩
    · refine sm_cons (s1_if (tm_val (em_isi W.t.u_isinstance (am_cons (em_nm 0 (am_cons (em_bty W.t.u_int PyProof.Rows.boot_int (am_nil ⟨_, _, _, _, true, rfl, .ty "int", .base (.int i), kit_ty (by decide +kernel), ?_⟩))))) tyx_up)))
      refine ⟨true, rfl, ?_⟩
      rw [if_pos rfl]
      refine sm_one (s1_ret (em_tup (am_cons (em_nm 0 (am_cons (em_int (am_nil ⟨sl2, fun p hp hm => ?_⟩)))))))
      refine hq _ p (Ex.up hp) ?_
      rw [Rat.num_intCast, Rat.den_intCast]
      exact upd_same
    · have kr := W.t.kit_Ratio
      refine sm_cons (s1_if (tm_val (em_isi W.t.u_isinstance (am_cons (em_nm 0 (am_cons (em_bty W.t.u_int PyProof.Rows.boot_int (am_nil ⟨_, _, _, _, false, rfl, .ty "int", .base (.ins (jn_b ha) W.t.cl_Ratio kr.ha kr.hn kr.htk kr.hm), kr.ki, ?_⟩))))) tyx_up)))
      refine ⟨false, rfl, ?_⟩
      rw [if_neg (by decide)]
      refine sm_nil ?_
      refine sm_one (s1_ret (em_tup (am_cons (em_fld (em_nm 0 ⟨a, _, dx, _, _, rfl, jn_b ha, W.t.cl_Ratio, W.t.no_Ratio_top, rfl, am_cons (em_fld (em_nm 0 ⟨a, _, dx, _, _, rfl, jn_b ha, W.t.cl_Ratio, W.t.no_Ratio_bottom, rfl, ?_⟩))⟩)))))
      refine am_nil ⟨sl2, fun p hp hm => ?_⟩
      exact hq _ p (Ex.up hp) upd_same
/-! ### Ratio(top, bottom) -/
def spI (K : PySem.W.Frag) : Spc := fun vs B M Q => ∃ a dx t b, vs = [.ref a, .int t, .int b] ∧ b ≠ 0 ∧ M a = some (.ins (ga K "Ratio") dx []) ∧ ∀ B', Ex B B' → Q .non B' (upd M a (ratO K dx (Rat.divInt t b)))
theorem divok {N : List Str} {qual : Str} {scope : Scope} {f : Addr} {cdv : Value} {A : Around} {outer : List Env} {s : Shared} {H : Hp} {E : XK} (W : Wd P K mg base) (hr : Room 40 (A.deeper (PyProof.Rows.envOfC qual scope s.heap.objs.size f cdv))) (hg : scope.isGenerator = false) (hc : scope.isCoroutine = false) :
    DivOk (cxOf CX0 P w K mg base N qual scope f cdv A outer s H E).nox := by
  refine ⟨W.seer, W.tree, rfl, hg, hc, ?_⟩
  have h1 := hr.dp
  have e1 : recursionLimit = 1000 := rfl
  have e2 : Builtin.pylongFrames = 100 := rfl
  show (A.deeper (PyProof.Rows.envOfC qual scope s.heap.objs.size f cdv)).depth + Builtin.pylongFrames < recursionLimit
  omega
theorem bd_init (W : Wd P K mg base) : ∀ (cdv : Value) (A : Around) (outer : List Env) (s : Shared) (H : Hp) (E : XK) (vs : List V) (B M : Hp) (Q : V → Hp → Hp → Prop), Room 40 (A.deeper (PyProof.Rows.envOfC "Ratio.__init__" (defScope s_Ratio_init) s.heap.objs.size (ma K (ga K "Ratio") "__init__") cdv)) → spI K vs B M Q →
      SM (cxOf CX0 P w K mg base n_Ratio_init "Ratio.__init__" (defScope s_Ratio_init) (ma K (ga K "Ratio") "__init__") cdv A outer s H E).nox (defBody s_Ratio_init) (start n_Ratio_init vs) B M { nx := fun _ B' M' => Q .non B' M', rt := Q } := by
    rintro cdv A outer s H E vs B M Q hr ⟨a, dx, t, b, rfl, hb, ha, hq⟩
    have dk : DivOk (cxOf CX0 P w K mg base n_Ratio_init "Ratio.__init__" (defScope s_Ratio_init) (ma K (ga K "Ratio") "__init__") cdv A outer s H E).nox := divok W hr rfl rfl
    refine sm_cons (s1_if (tm_cmp op_eq (em_nm 2 (em_int (om_eq rfl ⟨_, rfl, ?_⟩)))))
    refine iff' (df (vint_ne hb)) (sm_nil ?_)
    refine sm_cons (s1_set 3 sc_Ratio_init.nd (em_call (pr_cd W.t (k := 0)) (hr.mono (by decide)) W.t.g_common_divisor (am_cons (em_abs W.t.u_abs (em_nm 1 ⟨t, rfl, am_cons (em_abs W.t.u_abs (em_nm 2 ⟨b, rfl, am_nil ?_⟩))⟩)))))
    refine ⟨t.natAbs, b.natAbs, rfl, fun B1 hB => ?_⟩
    obtain ⟨e1, e2⟩ := rat_parts t b hb
    have fin : ∀ d : Int, d ≠ 0 → (Rat.divInt t b).num = t.fdiv d → ((Rat.divInt t b).den : Int) = b.fdiv d →
        SM (cxOf CX0 P w K mg base n_Ratio_init "Ratio.__init__" (defScope s_Ratio_init) (ma K (ga K "Ratio") "__init__") cdv A outer s H E).nox ((defBody s_Ratio_init).drop 3) [some (.ref a), some (.int t), some (.int b), some (.int d)] B1 M { nx := fun _ B' M' => Q .non B' M', rt := Q } := by
      intro d hd h1 h2
      refine sm_cons (s1_fld (em_op (op_fdivX dk) (em_nm 1 (em_nm 3 (om_I hd (em_nm 0 ⟨a, _, dx, _, rfl, ha, W.t.cl_Ratio, W.t.no_Ratio_top, by decide, ?_⟩))))))
      refine sm_one (s1_fld (em_op (op_fdivX dk) (em_nm 2 (em_nm 3 (om_I hd (em_nm 0 ⟨a, _, dx, _, rfl, upd_same, W.t.cl_Ratio, W.t.no_Ratio_bottom, by simp [putF], ?_⟩))))))
      rw [upd_twice, ← h1, ← h2]
      exact hq B1 hB
    have hgp : 0 < Nat.gcd t.natAbs b.natAbs := Nat.gcd_pos_of_pos_right _ (by omega)
    refine sm_cons (s1_if (tm_cmp op_lt (em_nm 2 (em_int (om_I0 ⟨_, rfl, ?_⟩)))))
    by_cases hn : b < 0
    · rw [if_pos hn] at e1 e2
      refine ift (dt hn) ?_
      refine sm_one (s1_set 3 sc_Ratio_init.nd (em_un un_neg (em_nm 3 (om_U ?_))))
      exact fin _ (by omega) e1 e2
    · rw [if_neg hn] at e1 e2
      refine iff' (df hn) (sm_nil ?_)
      exact fin _ (by omega) e1 e2
theorem pr_init (W : Wd P K mg base) : Pr P w K mg base 41 (ma K (ga K "Ratio") "__init__") [] (spI K) := by
  refine pr_dfl0 W.t.f_Ratio_init (by exact sc_Ratio_init) (by simp) (fun T _ _ _ _ _ _ us its h1 h2 => ?_) ?_ (bd_init W)
  · match us, its, h1, h2 with
    | [_, _, _], [_], _, _ => exact ⟨_, rfl, rfl⟩
  · rintro vs B M Q ⟨a, dx, t, b, rfl, _⟩; rfl
theorem pr_init1 (W : Wd P K mg base) : Pr P w K mg base 41 (ma K (ga K "Ratio") "__init__") [.int 1] (spI K) := by
  refine pr_dfl (j := 0) W.t.f_Ratio_init (by exact sc_Ratio_init) 2 (by simp) (by rfl) (fun T _ _ _ _ _ _ us its h1 h2 => ?_) ?_ (bd_init W)
  · match us, its, h1, h2 with
    | [_, _], [_], _, _ => exact ⟨_, rfl, rfl⟩
  · rintro vs B M Q ⟨a, dx, t, b, rfl, _⟩; rfl
end
section
variable {X : Cx} {e1 e2 : Expr} {σ : St} {B M : Hp} {P : V → Hp → Hp → Prop} {pos p : Pos}
theorem ratio_in {K : PySem.W.Frag} {t b : Int} {B2 M2 : Hp} {P : V → Hp → Hp → Prop} (hb : b ≠ 0) (h : ∀ v B', Ex B2 B' → RatAt K B' v (Rat.divInt t b) → P v B' M2) (x dx : Addr) (b1 : B2 x = none) (m1 : M2 x = none) (b2 : B2 dx = none) :
    spI K [.ref x, .int t, .int b] (upd B2 dx (.own x)) (upd M2 x (.ins (ga K "Ratio") dx [])) fun v B' M' => v = .non ∧ ∃ p o, M' p = some o ∧ P (.ref x) (upd B' p o) (del M' p) :=
  ⟨x, dx, t, b, rfl, hb, upd_same, fun B' hB => ⟨rfl, x, _, upd_same, by
    rw [upd_twice, del_upd m1]
    exact h _ _ (((Ex.up b2).tr hB).up' b1) ⟨x, dx, rfl, upd_same⟩⟩⟩
theorem em_ratio2 (F : Pr X.prog X.w X.K X.mg X.base 41 (ma X.K (ga X.K "Ratio") "__init__") [] (spI X.K)) (T : Tx X.K X.mg) (hr : Room 42 X.A)
    (h : EM X e1 σ B M fun x B1 M1 => EM X e2 σ B1 M1 fun y B2 M2 => ∃ t b, x = .int t ∧ y = .int b ∧ b ≠ 0 ∧ ∀ v B', Ex B2 B' → RatAt X.K B' v (Rat.divInt t b) → P v B' M2) (hg : Gl X "Ratio" := by rfl)
    (he : starEach [e1, e2] X.env = (false, eval e1 X.env) :: starEach [e2] X.env := by rfl) (he2 : starEach [e2] X.env = (false, eval e2 X.env) :: starEach [] X.env := by rfl) (hpl : (backTo pos (starEach [e2] X.env)).any (·.1) = false := by rfl) : EM X (.Call (.Name "Ratio" p) [e1, e2] [] pos) σ B M P :=
  Emt.fz (em_make F hr T.mk_Ratio T.g_Ratio (am_cons (h.imp fun x B1 M1 _ q => am_cons (q.imp fun y B2 M2 _ ⟨t, b, hx, hy, hb, q2⟩ => am_nil fun z dz b1 m1 b2 m2 ne => by
    subst hx hy
    exact ratio_in hb q2 z dz b1 m1 b2) he2) he) hg (by decide) he hpl)
theorem em_ratio1 (F : Pr X.prog X.w X.K X.mg X.base 41 (ma X.K (ga X.K "Ratio") "__init__") [.int 1] (spI X.K)) (T : Tx X.K X.mg) (hr : Room 42 X.A)
    (h : EM X e1 σ B M fun x B1 M1 => ∃ t : Int, x = .int t ∧ ∀ v B', Ex B1 B' → RatAt X.K B' v (t : Rat) → P v B' M1) (hg : Gl X "Ratio" := by rfl)
    (he : starEach [e1] X.env = (false, eval e1 X.env) :: starEach [] X.env := by rfl) : EM X (.Call (.Name "Ratio" p) [e1] [] pos) σ B M P :=
  Emt.fz (em_make F hr T.mk_Ratio T.g_Ratio (am_cons (h.imp fun x B1 M1 _ ⟨t, hx, q2⟩ => am_nil fun z dz b1 m1 b2 m2 ne => by
    subst hx
    refine ratio_in (by decide) (fun v B' hB hv => q2 v B' hB ?_) z dz b1 m1 b2
    rwa [r_int] at hv) he) hg (by decide) he)
end
section
variable {P : Program} {w : World} {K : PySem.W.Frag} {mg : Str → Option Value} {base : Heap}
/-- two fractions in -/
def spBin (K : PySem.W.Frag) (ok : Rat → Rat → Prop) (R : Rat → Rat → V → Hp → Prop) : Spc := fun vs B M Q => ∃ x y a b, vs = [x, y] ∧ RatAt K B x a ∧ NumAt K B y b ∧ Sz a ∧ Sz b ∧ ok a b ∧ ∀ v B', Ex B B' → R a b v B' → Q v B' M
abbrev spRat (K : PySem.W.Frag) (f : Rat → Rat → Rat) : Spc := spBin K (fun _ _ => True) fun a b v B' => RatAt K B' v (f a b)
theorem spBin_len {ok : Rat → Rat → Prop} {R : Rat → Rat → V → Hp → Prop} (n : Nat) (hn : n = 2) : ∀ vs B M Q, spBin K ok R vs B M Q → vs.length = n := by
  rintro vs B M Q ⟨x, y, a, b, rfl, _⟩; rw [hn]; rfl
/-- top, bottom = halves(other) -/
theorem s1_halves {X : Cx} {σ : St} {B M : Hp} {E : EndsM} {b : Rat} {pos pt p1 p2 p3 cp ap : Pos} {kt : Nat} (hc : X.calm = true) (hN : X.N.Nodup) (F : Pr X.prog X.w X.K X.mg X.base 1 (ga X.K "halves") [] (spH X.K)) (hr : Room 1 X.A) (hm : X.mg "halves" = some (.ref (ga X.K "halves"))) (hy : NumAt X.K B (gv σ 1) b)
    (h : ∀ B', Ex B B' → E.nx ((σ.set 2 (some (.int b.num))).set 3 (some (.int b.den))) B' M) (hs : σ[1]? = some (some (gv σ 1)) := by rfl) (hg : Gl X "halves" := by rfl) (n1 : X.N[1]? = some ("other" : Str) := by rfl) (n2 : X.N[2]? = some ("top" : Str) := by rfl) (n3 : X.N[3]? = some ("bottom" : Str) := by rfl)
    (v1 : Vis X.env.scope ("other" : Str) := by first | exact Or.inl rfl | exact Or.inr (Or.inl rfl) | exact Or.inr (Or.inr rfl)) (l2 : X.env.scope.names.lookup ("top" : Str) = some .local := by rfl) (l3 : X.env.scope.names.lookup ("bottom" : Str) = some .local := by rfl)
    (he : starEach [.Name ("other" : Str) p3] X.env = (false, eval (.Name ("other" : Str) p3) X.env) :: starEach [] X.env := by rfl)
    (h1 : swapsWithSole [.Tuple [.Name ("top" : Str) p1, .Name ("bottom" : Str) p2] kt pt] (.Call (.Name ("halves" : Str) pos) [.Name ("other" : Str) p3] [] cp) ap.line X.env = pure false := by rfl)
    (h2 : swappedStores [.Tuple [.Name ("top" : Str) p1, .Name ("bottom" : Str) p2] kt pt] (.Call (.Name ("halves" : Str) pos) [.Name ("other" : Str) p3] [] cp) X.env = pure none := by rfl)
    (h3 : (assignEach [.Tuple [.Name ("top" : Str) p1, .Name ("bottom" : Str) p2] kt pt] X.env).map (·.2) = [assign (.Tuple [.Name ("top" : Str) p1, .Name ("bottom" : Str) p2] kt pt) X.env] := by rfl)
    (h4 : (assignEach [.Name ("top" : Str) p1, .Name ("bottom" : Str) p2] X.env).map (·.2) = assign (.Name ("top" : Str) p1) X.env :: (assignEach [.Name ("bottom" : Str) p2] X.env).map (·.2) := by rfl)
    (h5 : (assignEach [.Name ("bottom" : Str) p2] X.env).map (·.2) = assign (.Name ("bottom" : Str) p2) X.env :: (assignEach [] X.env).map (·.2) := by rfl)
    (h6 : (assignEach [.Name ("top" : Str) p1, .Name ("bottom" : Str) p2] X.env).length = 2 := by rfl) (h7 : (assignEach [.Name ("top" : Str) p1, .Name ("bottom" : Str) p2] X.env).findIdx? (·.1) = none := by rfl) :
    S1 X (.Assign [.Tuple [.Name ("top" : Str) p1, .Name ("bottom" : Str) p2] kt pt] (.Call (.Name ("halves" : Str) pos) [.Name ("other" : Str) p3] [] cp) ap) σ B M E :=
  s1_asg (em_call F hr hm (am_cons (em_name 1 n1 v1 hs (am_nil ⟨_, b, rfl, hy, fun B' r hB hr => gm_tup hc (SqT.of (jn_b hr)) (gms_cons (gm_name 2 hN (gms_cons (gm_name 3 hN (gms_nil (h B' hB)) n3 (.inl l3) (.inr l3)) h5) n2 (.inl l2) (.inr l2)) h4) h6 h7⟩)) he) hg (by decide) he) h1 h2 h3
/-- x.top, x.bottom -/
theorem em_rtop {X : Cx} {e : Expr} {σ : St} {B M : Hp} {P : V → Hp → Hp → Prop} {pos : Pos} (T : Tx X.K X.mg) (h : EM X e σ B M fun x B1 M1 => ∃ q, RatAt X.K B1 x q ∧ P (.int q.num) B1 M1) (hb : attributeBase e ("top" : Str) X.env (eval e X.env) = eval e X.env := by rfl) : EM X (.Attribute e ("top" : Str) pos) σ B M P :=
  em_fld (h.imp fun x B1 M1 _ ⟨q, ⟨a, dx, hx, hb⟩, hp⟩ => ⟨a, _, dx, _, _, hx, jn_b hb, T.cl_Ratio, T.no_Ratio_top, rfl, hp⟩) hb
theorem em_rbot {X : Cx} {e : Expr} {σ : St} {B M : Hp} {P : V → Hp → Hp → Prop} {pos : Pos} (T : Tx X.K X.mg) (h : EM X e σ B M fun x B1 M1 => ∃ q, RatAt X.K B1 x q ∧ P (.int q.den) B1 M1) (hb : attributeBase e ("bottom" : Str) X.env (eval e X.env) = eval e X.env := by rfl) : EM X (.Attribute e ("bottom" : Str) pos) σ B M P :=
  em_fld (h.imp fun x B1 M1 _ ⟨q, ⟨a, dx, hx, hb⟩, hp⟩ => ⟨a, _, dx, _, _, hx, jn_b hb, T.cl_Ratio, T.no_Ratio_bottom, rfl, hp⟩) hb
theorem mk1 {a b : Rat} (sa : Sz a) (sb : Sz b) : CMulX a.num b.den := mulok_of sa.1 sb.2 (by decide)
theorem mk2 {a b : Rat} (sa : Sz a) (sb : Sz b) : CMulX a.num b.num := mulok_of sa.1 sb.1 (by decide)
theorem mk3 {a b : Rat} (sa : Sz a) (sb : Sz b) : CMulX a.den b.den := mulok_of sa.2 sb.2 (by decide)
theorem mk4 {a b : Rat} (sa : Sz a) (sb : Sz b) : CMulX a.den b.num := mulok_of sa.2 sb.1 (by decide)
theorem den_mul_ne (a b : Rat) : (a.den : Int) * b.den ≠ 0 := Int.mul_ne_zero (den_ne' a) (den_ne' b)
theorem pr_add (W : Wd P K mg base) : Pr P w K mg base 43 (ma K (ga K "Ratio") "__add__") [] (spRat K fun a b => a + b) := by
  refine pr_def W.t.f_Ratio_add sc_Ratio_add (fun _ _ _ _ _ _ us hl => match us, hl with | [_, _], _ => rfl) (spBin_len _ rfl) ?_
  rintro cdv A outer s H E vs B M Q hr ⟨x, y, a, b, rfl, hx, hy, sa, sb, ok, hq⟩
  refine sm_cons (s1_halves rfl sc_Ratio_add.nd (pr_halves W) (hr.mono (by decide)) W.t.g_halves hy fun B1 hB => ?_)
  have hx1 := hx.up hB
  refine sm_one (s1_ret (em_ratio2 (pr_init W) W.t hr ?_))
  refine em_op op_add (em_op op_mulX (em_rtop W.t (em_nm 0 ⟨a, hx1, em_nm 3 (om_I (mk1 sa sb) ?_)⟩)))
  refine em_op op_mulX (em_nm 2 (em_rbot W.t (em_nm 0 ⟨a, hx1, om_I (mk1 sb sa) (om_I0 ?_)⟩)))
  refine em_op op_mulX (em_rbot W.t (em_nm 0 ⟨a, hx1, em_nm 3 (om_I (mk3 sa sb) ?_)⟩))
  refine ⟨_, _, rfl, rfl, den_mul_ne a b, fun v B2 hB2 hv => hq v B2 (hB.tr hB2) ?_⟩
  rwa [r_add] at hv
theorem pr_sub (W : Wd P K mg base) : Pr P w K mg base 43 (ma K (ga K "Ratio") "__sub__") [] (spRat K fun a b => a - b) := by
  refine pr_def W.t.f_Ratio_sub sc_Ratio_sub (fun _ _ _ _ _ _ us hl => match us, hl with | [_, _], _ => rfl) (spBin_len _ rfl) ?_
  rintro cdv A outer s H E vs B M Q hr ⟨x, y, a, b, rfl, hx, hy, sa, sb, ok, hq⟩
  refine sm_cons (s1_halves rfl sc_Ratio_sub.nd (pr_halves W) (hr.mono (by decide)) W.t.g_halves hy fun B1 hB => ?_)
  have hx1 := hx.up hB
  refine sm_one (s1_ret (em_ratio2 (pr_init W) W.t hr ?_))
  refine em_op op_sub (em_op op_mulX (em_rtop W.t (em_nm 0 ⟨a, hx1, em_nm 3 (om_I (mk1 sa sb) ?_)⟩)))
  refine em_op op_mulX (em_nm 2 (em_rbot W.t (em_nm 0 ⟨a, hx1, om_I (mk1 sb sa) (om_I0 ?_)⟩)))
  refine em_op op_mulX (em_rbot W.t (em_nm 0 ⟨a, hx1, em_nm 3 (om_I (mk3 sa sb) ?_)⟩))
  refine ⟨_, _, rfl, rfl, den_mul_ne a b, fun v B2 hB2 hv => hq v B2 (hB.tr hB2) ?_⟩
  rwa [r_sub] at hv
theorem pr_mul (W : Wd P K mg base) : Pr P w K mg base 43 (ma K (ga K "Ratio") "__mul__") [] (spRat K fun a b => a * b) := by
  refine pr_def W.t.f_Ratio_mul sc_Ratio_mul (fun _ _ _ _ _ _ us hl => match us, hl with | [_, _], _ => rfl) (spBin_len _ rfl) ?_
  rintro cdv A outer s H E vs B M Q hr ⟨x, y, a, b, rfl, hx, hy, sa, sb, ok, hq⟩
  refine sm_cons (s1_halves rfl sc_Ratio_mul.nd (pr_halves W) (hr.mono (by decide)) W.t.g_halves hy fun B1 hB => ?_)
  have hx1 := hx.up hB
  refine sm_one (s1_ret (em_ratio2 (pr_init W) W.t hr (em_op op_mulX (em_rtop W.t (em_nm 0 ⟨a, hx1, em_nm 2 (om_I (mk2 sa sb) (em_op op_mulX (em_rbot W.t (em_nm 0 ⟨a, hx1, em_nm 3 (om_I (mk3 sa sb) ?_)⟩))))⟩)))))
  refine ⟨_, _, rfl, rfl, den_mul_ne a b, fun v B2 hB2 hv => hq v B2 (hB.tr hB2) ?_⟩
  rwa [r_mul] at hv
theorem pr_over (W : Wd P K mg base) : Pr P w K mg base 43 (ma K (ga K "Ratio") "over") [] (spBin K (fun _ b => b ≠ 0) fun a b v B' => RatAt K B' v (a / b)) := by
  refine pr_def W.t.f_Ratio_over sc_Ratio_over (fun _ _ _ _ _ _ us hl => match us, hl with | [_, _], _ => rfl) (spBin_len _ rfl) ?_
  rintro cdv A outer s H E vs B M Q hr ⟨x, y, a, b, rfl, hx, hy, sa, sb, ok, hq⟩
  refine sm_cons (s1_halves rfl sc_Ratio_over.nd (pr_halves W) (hr.mono (by decide)) W.t.g_halves hy fun B1 hB => ?_)
  have hx1 := hx.up hB
  refine sm_one (s1_ret (em_ratio2 (pr_init W) W.t hr (em_op op_mulX (em_rtop W.t (em_nm 0 ⟨a, hx1, em_nm 3 (om_I (mk1 sa sb) (em_op op_mulX (em_rbot W.t (em_nm 0 ⟨a, hx1, em_nm 2 (om_I (mk4 sa sb) ?_)⟩))))⟩)))))
  refine ⟨_, _, rfl, rfl, Int.mul_ne_zero (den_ne' a) (num_ne' ok), fun v B2 hB2 hv => hq v B2 (hB.tr hB2) ?_⟩
  rwa [r_over _ _ ok] at hv
theorem pr_less (W : Wd P K mg base) : Pr P w K mg base 43 (ma K (ga K "Ratio") "less") [] (spBin K (fun _ _ => True) fun a b v _ => v = .bl (decide (a < b))) := by
  refine pr_def W.t.f_Ratio_less sc_Ratio_less (fun _ _ _ _ _ _ us hl => match us, hl with | [_, _], _ => rfl) (spBin_len _ rfl) ?_
  rintro cdv A outer s H E vs B M Q hr ⟨x, y, a, b, rfl, hx, hy, sa, sb, ok, hq⟩
  refine sm_cons (s1_halves rfl sc_Ratio_less.nd (pr_halves W) (hr.mono (by decide)) W.t.g_halves hy fun B1 hB => ?_)
  have hx1 := hx.up hB
  refine sm_one (s1_ret (em_cmp op_lt (em_op op_mulX (em_rtop W.t (em_nm 0 ⟨a, hx1, em_nm 3 (om_I (mk1 sa sb) (em_op op_mulX (em_nm 2 (em_rbot W.t (em_nm 0 ⟨a, hx1, om_I (mk1 sb sa) (om_I0 ?_)⟩)))))⟩)))))
  refine hq _ B1 hB ?_
  simp only [Rat.lt_iff]
theorem pr_at_most (W : Wd P K mg base) : Pr P w K mg base 43 (ma K (ga K "Ratio") "at_most") [] (spBin K (fun _ _ => True) fun a b v _ => v = .bl (decide (a ≤ b))) := by
  refine pr_def W.t.f_Ratio_at_most sc_Ratio_at_most (fun _ _ _ _ _ _ us hl => match us, hl with | [_, _], _ => rfl) (spBin_len _ rfl) ?_
  rintro cdv A outer s H E vs B M Q hr ⟨x, y, a, b, rfl, hx, hy, sa, sb, ok, hq⟩
  refine sm_cons (s1_halves rfl sc_Ratio_at_most.nd (pr_halves W) (hr.mono (by decide)) W.t.g_halves hy fun B1 hB => ?_)
  have hx1 := hx.up hB
  refine sm_one (s1_ret (em_cmp op_le (em_op op_mulX (em_rtop W.t (em_nm 0 ⟨a, hx1, em_nm 3 (om_I (mk1 sa sb) (em_op op_mulX (em_nm 2 (em_rbot W.t (em_nm 0 ⟨a, hx1, om_I (mk1 sb sa) (om_I0 ?_)⟩)))))⟩)))))
  refine hq _ B1 hB ?_
  simp only [Rat.le_iff]
end
end LC
end LcRat2
section LcRat3
set_option maxHeartbeats 4000000
namespace LC
open PySem L2
open He (ga ma)
open He5 (wf)
theorem opr_or {X : Cx} {f : Value → Value → Sem Value} {r r' : R2} (h : OpR X f r) (h' : OpR X f r') : OpR X f (fun x y H Q => r x y H Q ∨ r' x y H Q) := by
  intro pins s σ H x y u v Q I rx ry q
  rcases q with q | q
  · exact h pins s σ H x y u v Q I rx ry q
  · exact h' pins s σ H x y u v Q I rx ry q
theorem RatAt.obj {K : PySem.W.Frag} {B M : Hp} {v : V} {q : Rat} (h : RatAt K B v q) : ∃ a dx fs, v = .ref a ∧ jn B M a = some (.ins (ga K "Ratio") dx fs) := by
  obtain ⟨a, dx, hv, hb⟩ := h
  exact ⟨a, dx, _, hv, jn_b hb⟩
section
variable {X : Cx} {B M : Hp} {P : V → Hp → Hp → Prop} {x y : V} {p q : Rat} {k : Nat} {S S' : Spc}
/-- the plain three: own op own, own op int -/
abbrev rRat (K : PySem.W.Frag) (S : Spc) : R2 := fun x y H Q => rOwn (ga K "Ratio") S x y H Q ∨ rOwnI (ga K "Ratio") S x y H Q
abbrev rRat3 (K : PySem.W.Frag) (S S' : Spc) : R2 := fun x y H Q => rRat K S x y H Q ∨ rRef (ga K "Ratio") S' x y H Q
theorem op_rat {op : Operator} {f : Addr} (F : Pr X.prog X.w X.K X.mg X.base k f [] S) (hr : Room k X.A) (c : OpC X.K (ga X.K "Ratio") op.info.2 f) (ci : OpI X.K (ga X.K "Ratio") op.info.2) : OpR X (binaryOp op) (rRat X.K S) :=
  opr_or (op_own F hr c) (op_ownI F hr c ci)
theorem om_rat {K : PySem.W.Frag} {g : Rat → Rat → Rat} (hx : RatAt K B x p) (hy : NumAt K B y q) (sp : Sz p) (sq : Sz q) (h : ∀ v B', Ex B B' → RatAt K B' v (g p q) → P v B' M) : OM (rRat K (spRat K g)) x y B M P := by
  rcases id hy with ⟨i, rfl, _⟩ | hy'
  · exact OM.inr (om_ownI hx.obj ⟨_, _, p, q, rfl, hx, hy, sp, sq, trivial, h⟩)
  · exact OM.inl (om_own hx.obj hy'.obj ⟨_, _, p, q, rfl, hx, hy, sp, sq, trivial, h⟩)
theorem om_rat3 {K : PySem.W.Frag} {g g' : Rat → Rat → Rat} (hc : ∀ a b, g' a b = g b a) (hxy : (NumAt K B x p ∧ RatAt K B y q) ∨ (RatAt K B x p ∧ NumAt K B y q)) (sp : Sz p) (sq : Sz q) (h : ∀ v B', Ex B B' → RatAt K B' v (g p q) → P v B' M) : OM (rRat3 K (spRat K g) (spRat K g')) x y B M P := by
  have key : RatAt K B x p → NumAt K B y q → OM (rRat3 K (spRat K g) (spRat K g')) x y B M P := fun hx hy => OM.inl (om_rat hx hy sp sq h)
  rcases hxy with ⟨hx, hy⟩ | ⟨hx, hy⟩
  · rcases id hx with ⟨i, rfl, hi⟩ | hx'
    · refine OM.inr (om_ref hy.obj ⟨_, _, q, p, rfl, hy, hx, sq, sp, trivial, fun v B' hB hv => h v B' hB ?_⟩)
      have hv2 : RatAt K B' v (g' q p) := hv
      rwa [hc] at hv2
    · exact key hx' hy.num
  · exact key hx hy
end
section
variable {P : Program} {w : World} {K : PySem.W.Frag} {mg : Str → Option Value} {base : Heap}
/-- -x -/
def spNeg (K : PySem.W.Frag) : Spc := fun vs B M Q => ∃ x a, vs = [x] ∧ RatAt K B x a ∧ ∀ v B', Ex B B' → RatAt K B' v (-a) → Q v B' M
theorem pr_neg (W : Wd P K mg base) : Pr P w K mg base 43 (ma K (ga K "Ratio") "__neg__") [] (spNeg K) := by
  refine pr_def W.t.f_Ratio_neg sc_Ratio_neg (fun _ _ _ _ _ _ us hl => match us, hl with | [_], _ => rfl) (by rintro _ _ _ _ ⟨x, a, rfl, _⟩; rfl) ?_
  rintro cdv A outer s H E vs B M Q hr ⟨x, a, rfl, hx, hq⟩
  refine sm_one (s1_ret (em_ratio2 (pr_init W) W.t hr ?_))
  refine em_un un_neg (em_rtop W.t (em_nm 0 ⟨a, hx, om_U (em_rbot W.t (em_nm 0 ⟨a, hx, ?_⟩))⟩))
  refine ⟨_, _, rfl, rfl, den_ne' a, fun v B2 hB2 hv => hq v B2 hB2 ?_⟩
  rwa [r_neg] at hv
theorem om_rneg {B M : Hp} {P : V → Hp → Hp → Prop} {x : V} {a : Rat} (hx : RatAt K B x a) (h : ∀ v B', Ex B B' → RatAt K B' v (-a) → P v B' M) : Emt (rNeg (ga K "Ratio") (spNeg K) x) B M P := om_neg hx.obj ⟨_, a, rfl, hx, h⟩
theorem Sz.neg {a : Rat} (h : Sz a) : Sz (-a) := by
  refine ⟨?_, ?_⟩
  · rw [Rat.neg_num, Int.natAbs_neg]; exact h.1
  · rw [Rat.neg_den]; exact h.2
theorem pr_radd (W : Wd P K mg base) : Pr P w K mg base 44 (ma K (ga K "Ratio") "__radd__") [] (spRat K fun a b => a + b) := by
  refine pr_def W.t.f_Ratio_radd sc_Ratio_radd (fun _ _ _ _ _ _ us hl => match us, hl with | [_, _], _ => rfl) (spBin_len _ rfl) ?_
  rintro cdv A outer s H E vs B M Q hr ⟨x, y, a, b, rfl, hx, hy, sa, sb, ok, hq⟩
  refine sm_one (s1_ret (em_op (op_rat (op := .Add) (pr_add W) hr W.t.opc_Ratio_add W.t.opi_Ratio_add) ?_))
  exact em_nm 0 (em_nm 1 (om_rat hx hy sa sb hq))
theorem pr_rsub (W : Wd P K mg base) : Pr P w K mg base 44 (ma K (ga K "Ratio") "__rsub__") [] (spRat K fun a b => b - a) := by
  refine pr_def W.t.f_Ratio_rsub sc_Ratio_rsub (fun _ _ _ _ _ _ us hl => match us, hl with | [_, _], _ => rfl) (spBin_len _ rfl) ?_
  rintro cdv A outer s H E vs B M Q hr ⟨x, y, a, b, rfl, hx, hy, sa, sb, ok, hq⟩
  refine sm_one (s1_ret (em_op (op_rat (op := .Add) (pr_add W) hr W.t.opc_Ratio_add W.t.opi_Ratio_add) ?_))
  refine em_un (un_own (pr_neg W) hr W.t.fi_Ratio_neg W.t.fn_Ratio_neg) (em_nm 0 (om_rneg hx fun v B1 hB1 hv => ?_))
  refine em_nm 1 (om_rat hv (hy.up hB1) sa.neg sb fun v' B2 hB2 hv' => hq v' B2 (hB1.tr hB2) ?_)
  have e : -a + b = b - a := by grind
  rwa [e] at hv'
theorem u64 {k : Nat} {A : Around} (h : Room k A) : A.units + 64 < cLine := by
  have := h.un
  omega
theorem u1 {k : Nat} {A : Around} (h : Room k A) : A.units + 1 < cLine := by
  have := h.un
  omega
/-- x.same(y) -/
def spSame (K : PySem.W.Frag) : Spc := fun vs B M Q => ∃ x y a b, vs = [x, y] ∧ RatAt K B x a ∧ NumAt K B y b ∧ ∀ B', Ex B B' → Q (.bl (decide (a = b))) B' M
end
mutual
theorem dp_up {K : PySem.W.Frag} {H H' : Hp} (e : Ex H H') : ∀ {v : V} {d : PyData}, Dp K H v d → Dp K H' v d
  | _, _, .non => .non
  | _, _, .bl b => .bl b
  | _, _, .int i => .int i
  | _, _, .str x => .str x
  | _, _, .lst h a => .lst (sql_up e h) (dpa_up e a)
  | _, _, .tup h a => .tup (sqt_up e h) (dpa_up e a)
theorem dpa_up {K : PySem.W.Frag} {H H' : Hp} (e : Ex H H') : ∀ {vs : List V} {ds : List PyData}, DpAll K H vs ds → DpAll K H' vs ds
  | _, _, .nil => .nil
  | _, _, .cons h a => .cons (dp_up e h) (dpa_up e a)
end
section
variable {K : PySem.W.Frag} {B M : Hp} {P : V → Hp → Hp → Prop} {x y : V}
theorem om_eqD {d e : PyData} (h1 : Dp K (jn B M) x d) (h2 : Dp K (jn B M) y e) (s1 : SeqAt.shaped d = true) (s2 : SeqAt.shaped e = true) (h : P (.bl (PyData.eqv d e)) B M) : OM (rEqD K) x y B M P := fun H w Q k =>
  ⟨d, e, dp_up w.jn h1, dp_up w.jn h2, s1, s2, k _ _ _ _ (Gs.id' w) h⟩
theorem om_neD {d e : PyData} (h1 : Dp K (jn B M) x d) (h2 : Dp K (jn B M) y e) (s1 : SeqAt.shaped d = true) (s2 : SeqAt.shaped e = true) (h : P (.bl (!PyData.eqv d e)) B M) : OM (rNeD K) x y B M P := fun H w Q k =>
  ⟨d, e, dp_up w.jn h1, dp_up w.jn h2, s1, s2, k _ _ _ _ (Gs.id' w) h⟩
end
section
variable {P : Program} {w : World} {K : PySem.W.Frag} {mg : Str → Option Value} {base : Heap}
theorem pr_same (W : Wd P K mg base) : Pr P w K mg base 43 (ma K (ga K "Ratio") "same") [] (spSame K) := by
  refine pr_def W.t.f_Ratio_same sc_Ratio_same (fun _ _ _ _ _ _ us hl => match us, hl with | [_, _], _ => rfl) (by rintro _ _ _ _ ⟨x, y, a, b, rfl, _⟩; rfl) ?_
  rintro cdv A outer s H E vs B M Q hr ⟨x, y, a, b, rfl, hx, hy, hq⟩
  refine sm_one (s1_ret (em_cmp (op_eqD (u64 hr)) ?_))
  refine em_call (pr_halves W (k := 0)) (hr.mono (by decide)) W.t.g_halves (am_cons (em_nm 1 (am_nil ⟨_, b, rfl, hy, fun B1 r hB1 hr1 => ?_⟩)))
  have hx1 := hx.up hB1
  refine em_tup (am_cons (em_rtop W.t (em_nm 0 ⟨a, hx1, am_cons (em_rbot W.t (em_nm 0 ⟨a, hx1, am_nil ⟨sl2, fun p hp hm => ?_⟩⟩))⟩)))
  refine om_eqD (d := .tuple [.int b.num, .int b.den]) (e := .tuple [.int a.num, .int a.den]) (.tup (SqT.of (jn_b (Ex.up hp _ _ hr1))) (.cons (.int _) (.cons (.int _) .nil))) (.tup (SqT.of (jn_b upd_same)) (.cons (.int _) (.cons (.int _) .nil))) (by rfl) (by rfl) ?_
  have e : PyData.eqv (.tuple [.int b.num, .int b.den]) (.tuple [.int a.num, .int a.den]) = decide (a = b) := by
    simp only [PyData.eqv, PyData.eqvAll, Bool.and_true]
    by_cases h : a = b
    · subst h; simp
    · rw [decide_eq_false h]
      cases q : (b.num == a.num && (b.den : Int) == (a.den : Int)) with
      | false => rfl
      | true =>
        exfalso
        obtain ⟨h1, h2⟩ := Bool.and_eq_true_iff.mp q
        have h3 := eq_of_beq h1
        have h4 := eq_of_beq h2
        exact h (Rat.ext h3.symm (by omega))
  rw [e]
  exact hq _ (hB1.tr (Ex.up hp))
end
end LC
end LcRat3
section LcSum
set_option maxHeartbeats 4000000
namespace LC
open PySem L2
open He (ga ma)
open He5 (wf)
/-- C.m(e, ..), m a staticmethod -/
theorem em_sm {X : Cx} {k : Nat} {C : Addr} {S : Spc} {x m : Str} {np pos apos : Pos} {e : Expr} {es : List Expr} {σ : St} {B M : Hp} {P : V → Hp → Hp → Prop} {pl : Sem Bool} (F : Pr X.prog X.w X.K X.mg X.base k (wf X.K C "staticmethod" m) [] S) (hr : Room k X.A)
    (c : SMet X.K C "staticmethod" "staticmethod.__get__" m) (hm : X.mg x = some (.ref C)) (h : AM X (e :: es) σ B M fun vs B1 M1 => S vs B1 M1 P) (hg : Gl X x := by rfl) (hdb : (x == ("__debug__" : Str)) = false := by decide)
    (hst : starEach (e :: es) X.env = (false, eval e X.env) :: starEach es X.env := by rfl) (hpl : (backTo pos (starEach es X.env)).any (·.1) = false := by rfl)
    (ht : eval (.Call (.Attribute (.Name x np) m apos) (e :: es) [] pos) X.env = (do
      let ov ← eval (.Name x np) X.env
      standAt apos.atName
      let (f, first) ← holding [ov] (getMethod ov m pl)
      callWith pos f first (backTo pos (starEach (e :: es) X.env)) (backToKw pos (keywordEach [] X.env))) := by rfl) : EM X (.Call (.Attribute (.Name x np) m apos) (e :: es) [] pos) σ B M P := by
  obtain ⟨fd, ps, ds, G, hb, hd⟩ := F.ex
  have pe : PE X (.Call (.Attribute (.Name x np) m apos) (e :: es) [] pos) (fun σ H Q => wA X (e :: es) σ H fun vs H2 => MSp S (vs ++ []) H2 Q E0) := by
    refine ⟨fun pins s σ H Q I h => ?_⟩
    refine PySem.W.methodCall_KW (pl := pl) (ld_glob I hg hm ?_ hdb) ht
    obtain ⟨rest, hp⟩ := c.rc
    refine PySem.W.method_cls I.kIn c.cread.ga (PySem.W.cls_bind I.kIn c.rd c.at_ (wpAny_call (PySem.W.sm_get (s := { s with toks := s.toks + 1 }) I.kIn hp (PySem.W.handed_on rfl ?_))))
    have I2 : Inv X pins σ H { s with toks := s.toks + 1 } := I.tok _
    refine PySem.W.callWith_K (first := []) (h₀ := X.base) I2.ok.mod.kin F.kp (thn (pa_w.run pos pins _ σ H _ I2 h) fun us s2 ⟨vs, H2, I3, r, q2⟩ => ⟨I3.kIn, ?_⟩) hst hpl
    exact run_fn (us := us) (vs := vs) G hr hb hd pass0 I3 r q2
  exact em_of pe fun H w Q kq => h H w _ fun vs B1 M1 H1 g q => by
    rw [List.append_nil]
    exact ⟨B1, M1, P, g.own, q, fun v B2 M2 H2 g2 q2 => kq v B2 M2 H2 (g.tr g2) q2⟩

/-! ### sums of lists of fractions -/
def rsum : List Rat → Rat
  | [] => 0
  | q :: qs => q + rsum qs
theorem rsum_append : ∀ (a b : List Rat), rsum (a ++ b) = rsum a + rsum b
  | [], b => by show rsum b = 0 + rsum b; grind
  | q :: qs, b => by
    show q + rsum (qs ++ b) = q + rsum qs + rsum b
    rw [rsum_append qs b]
    grind
theorem rsum_take {qs : List Rat} {i : Nat} {q : Rat} (h : qs[i]? = some q) : rsum (qs.take (i + 1)) = rsum (qs.take i) + q := by
  rw [List.take_add_one, h, rsum_append]
  show _ + (q + 0) = _
  grind
/-- values one by one -/
theorem paired_at {α β : Type} {R : α → β → Prop} : ∀ {xs : List α} {ys : List β}, Paired R xs ys → ∀ {i : Nat} {x : α}, xs[i]? = some x → ∃ y, ys[i]? = some y ∧ R x y
  | _, _, .nil, i, x, h => by cases i <;> cases h
  | _, _, .cons r t, 0, x, h => ⟨_, rfl, by cases h; exact r⟩
  | _, _, .cons r t, i + 1, x, h => paired_at t (i := i) h
theorem paired_len {α β : Type} {R : α → β → Prop} : ∀ {xs : List α} {ys : List β}, Paired R xs ys → xs.length = ys.length
  | _, _, .nil => rfl
  | _, _, .cons r t => congrArg Nat.succ (paired_len t)
theorem paired_imp {α β : Type} {R R' : α → β → Prop} (f : ∀ x y, R x y → R' x y) : ∀ {xs : List α} {ys : List β}, Paired R xs ys → Paired R' xs ys
  | _, _, .nil => .nil
  | _, _, .cons r t => .cons (f _ _ r) (paired_imp f t)
theorem paired_append {α β : Type} {R : α → β → Prop} : ∀ {xs xs' : List α} {ys ys' : List β}, Paired R xs ys → Paired R xs' ys' → Paired R (xs ++ xs') (ys ++ ys')
  | _, _, _, _, .nil, h => h
  | _, _, _, _, .cons r t, h => .cons r (paired_append t h)
section
variable {P : Program} {w : World} {K : PySem.W.Frag} {mg : Str → Option Value} {base : Heap}
def spSum (K : PySem.W.Frag) : Spc := fun vs B M Q => ∃ a xs qs, vs = [.ref a] ∧ B a = some (.lst xs) ∧ Paired (NumAt K B) xs qs ∧ (∀ q ∈ qs, Sz q) ∧ (∀ i, i < qs.length → Sz (rsum (qs.take i))) ∧ ∀ v B', Ex B B' → RatAt K B' v (rsum qs) → Q v B' M
theorem pr_sum (W : Wd P K mg base) : Pr P w K mg base 44 (wf K (ga K "Ratio") "staticmethod" "sum_of") [] (spSum K) := by
  refine pr_def W.t.f_Ratio_sum_of sc_Ratio_sum_of (fun _ _ _ _ _ _ us hl => match us, hl with | [_], _ => rfl) (by rintro _ _ _ _ ⟨a, xs, qs, rfl, _⟩; rfl) ?_
  rintro cdv A outer s H E vs B M Q hr ⟨a, xs, qs, rfl, ha, hx, hs, hp, hq⟩
  refine sm_cons (s1_set 1 sc_Ratio_sum_of.nd (em_ratio1 (pr_init1 W) W.t (hr.mono (by decide)) (em_int ⟨0, rfl, fun v0 B0 hB0 hv0 => ?_⟩)))
  refine sm_cons (s1_for PassesOwn.never rfl (em_nm 0 ⟨a, xs, rfl, SqL.of (jn_b (hB0 _ _ ha)), fun i σ B' M' => ∃ v o, σ = [some (.ref a), some v, o] ∧ M' = M ∧ Ex B B' ∧ RatAt K B' v (rsum (qs.take i)), ⟨v0, _, rfl, rfl, hB0, hv0⟩, ?_, ?_, ?_⟩))
  · rintro i σ B' M' _ ⟨v, o, rfl, rfl, hB, _⟩
    exact SqL.of (jn_b (hB _ _ ha))
  · rintro i x σ B' M' hi _ ⟨v, o, rfl, rfl, hB, hv⟩
    obtain ⟨q, hqi, hxq⟩ := paired_at hx hi
    refine gm_name 2 sc_Ratio_sum_of.nd (sm_one (s1_set 1 sc_Ratio_sum_of.nd (em_op (op_rat (op := .Add) (pr_add W) hr W.t.opc_Ratio_add W.t.opi_Ratio_add) (em_nm 1 (em_nm 2 ?_)))))
    refine om_rat hv (hxq.up hB) (hp i (List.getElem?_eq_some_iff.mp hqi).1) (hs q (List.mem_of_getElem? hqi)) fun v' B2 hB2 hv' => ?_
    exact ⟨v', _, rfl, rfl, hB.tr hB2, by rwa [rsum_take hqi]⟩
  · rintro σ B' M' _ ⟨v, o, rfl, rfl, hB, hv⟩
    refine sm_one (s1_ret (em_nm 1 (hq v B' hB ?_)))
    rwa [paired_len hx, List.take_length] at hv
/-- everything of the fractions -/
structure RP (P : Program) (w : World) (K : PySem.W.Frag) (mg : Str → Option Value) (base : Heap) : Prop where
  t : Tx K mg
  init : Pr P w K mg base 41 (ma K (ga K "Ratio") "__init__") [] (spI K)
  init1 : Pr P w K mg base 41 (ma K (ga K "Ratio") "__init__") [.int 1] (spI K)
  add : Pr P w K mg base 43 (ma K (ga K "Ratio") "__add__") [] (spRat K fun a b => a + b)
  sub : Pr P w K mg base 43 (ma K (ga K "Ratio") "__sub__") [] (spRat K fun a b => a - b)
  mul : Pr P w K mg base 43 (ma K (ga K "Ratio") "__mul__") [] (spRat K fun a b => a * b)
  neg : Pr P w K mg base 43 (ma K (ga K "Ratio") "__neg__") [] (spNeg K)
  radd : Pr P w K mg base 44 (ma K (ga K "Ratio") "__radd__") [] (spRat K fun a b => a + b)
  rsub : Pr P w K mg base 44 (ma K (ga K "Ratio") "__rsub__") [] (spRat K fun a b => b - a)
  over : Pr P w K mg base 43 (ma K (ga K "Ratio") "over") [] (spBin K (fun _ b => b ≠ 0) fun a b v B' => RatAt K B' v (a / b))
  less : Pr P w K mg base 43 (ma K (ga K "Ratio") "less") [] (spBin K (fun _ _ => True) fun a b v _ => v = .bl (decide (a < b)))
  most : Pr P w K mg base 43 (ma K (ga K "Ratio") "at_most") [] (spBin K (fun _ _ => True) fun a b v _ => v = .bl (decide (a ≤ b)))
  same : Pr P w K mg base 43 (ma K (ga K "Ratio") "same") [] (spSame K)
  sum : Pr P w K mg base 44 (wf K (ga K "Ratio") "staticmethod" "sum_of") [] (spSum K)
theorem rp_of (W : Wd P K mg base) : RP P w K mg base := ⟨W.t, pr_init W, pr_init1 W, pr_add W, pr_sub W, pr_mul W, pr_neg W, pr_radd W, pr_rsub W, pr_over W, pr_less W, pr_at_most W, pr_same W, pr_sum W⟩
end
section
variable {X : Cx} {a b e : Expr} {es : List Expr} {σ : St} {B M : Hp} {P : V → Hp → Hp → Prop} {pos apos np : Pos} (R : RP X.prog X.w X.K X.mg X.base)
include R
theorem em_R1 (hr : Room 44 X.A) {p : Pos} (h : EM X e σ B M fun x B1 M1 => ∃ t : Int, x = .int t ∧ ∀ v B', Ex B1 B' → RatAt X.K B' v (t : Rat) → P v B' M1) (hg : Gl X "Ratio" := by rfl)
    (he : starEach [e] X.env = (false, eval e X.env) :: starEach [] X.env := by rfl) : EM X (.Call (.Name "Ratio" p) [e] [] pos) σ B M P := em_ratio1 R.init1 R.t (hr.mono (by decide)) h hg he
theorem em_R2 (hr : Room 44 X.A) {p : Pos} {e1 e2 : Expr} (h : EM X e1 σ B M fun x B1 M1 => EM X e2 σ B1 M1 fun y B2 M2 => ∃ t b, x = .int t ∧ y = .int b ∧ b ≠ 0 ∧ ∀ v B', Ex B2 B' → RatAt X.K B' v (Rat.divInt t b) → P v B' M2) (hg : Gl X "Ratio" := by rfl)
    (he : starEach [e1, e2] X.env = (false, eval e1 X.env) :: starEach [e2] X.env := by rfl) (he2 : starEach [e2] X.env = (false, eval e2 X.env) :: starEach [] X.env := by rfl) (hpl : (backTo pos (starEach [e2] X.env)).any (·.1) = false := by rfl) : EM X (.Call (.Name "Ratio" p) [e1, e2] [] pos) σ B M P := em_ratio2 R.init R.t (hr.mono (by decide)) h hg he he2 hpl
theorem em_Radd (hr : Room 44 X.A) (h : EM X a σ B M fun x B1 M1 => EM X b σ B1 M1 fun y B2 M2 => ∃ p q, ((NumAt X.K B2 x p ∧ RatAt X.K B2 y q) ∨ (RatAt X.K B2 x p ∧ NumAt X.K B2 y q)) ∧ Sz p ∧ Sz q ∧ ∀ v B', Ex B2 B' → RatAt X.K B' v (p + q) → P v B' M2) : EM X (.BinOp a .Add b pos) σ B M P := by
  refine em_op (r := rRat3 X.K (spRat X.K fun a b => a + b) (spRat X.K fun a b => a + b)) (opr_or (op_rat (op := .Add) R.add (hr.mono (by decide)) R.t.opc_Ratio_add R.t.opi_Ratio_add) (op_radd R.radd hr R.t.opc_Ratio_add R.t.fi_Ratio_radd R.t.fn_Ratio_radd R.t.sub_Ratio_int)) (h.imp fun x B1 M1 _ h2 => h2.imp fun y B2 M2 _ ⟨p, q, hxy, sp, sq, hv⟩ => ?_)
  exact om_rat3 (g := fun a b => a + b) (fun a b => by grind) hxy sp sq hv
theorem em_Rsub (hr : Room 44 X.A) (h : EM X a σ B M fun x B1 M1 => EM X b σ B1 M1 fun y B2 M2 => ∃ p q, ((NumAt X.K B2 x p ∧ RatAt X.K B2 y q) ∨ (RatAt X.K B2 x p ∧ NumAt X.K B2 y q)) ∧ Sz p ∧ Sz q ∧ ∀ v B', Ex B2 B' → RatAt X.K B' v (p - q) → P v B' M2) : EM X (.BinOp a .Sub b pos) σ B M P := by
  refine em_op (r := rRat3 X.K (spRat X.K fun a b => a - b) (spRat X.K fun a b => b - a)) (opr_or (op_rat (op := .Sub) R.sub (hr.mono (by decide)) R.t.opc_Ratio_sub R.t.opi_Ratio_sub) (op_rsub R.rsub hr R.t.opc_Ratio_sub R.t.fi_Ratio_rsub R.t.fn_Ratio_rsub R.t.sub_Ratio_int)) (h.imp fun x B1 M1 _ h2 => h2.imp fun y B2 M2 _ ⟨p, q, hxy, sp, sq, hv⟩ => ?_)
  exact om_rat3 (g := fun a b => a - b) (fun a b => rfl) hxy sp sq hv
theorem em_Rmul (hr : Room 44 X.A) (h : EM X a σ B M fun x B1 M1 => EM X b σ B1 M1 fun y B2 M2 => ∃ p q, RatAt X.K B2 x p ∧ NumAt X.K B2 y q ∧ Sz p ∧ Sz q ∧ ∀ v B', Ex B2 B' → RatAt X.K B' v (p * q) → P v B' M2) : EM X (.BinOp a .Mult b pos) σ B M P :=
  em_op (r := rRat X.K (spRat X.K fun a b => a * b)) (op_rat (op := .Mult) R.mul (hr.mono (by decide)) R.t.opc_Ratio_mul R.t.opi_Ratio_mul) (h.imp fun x B1 M1 _ h2 => h2.imp fun y B2 M2 _ ⟨p, q, hx, hy, sp, sq, hv⟩ => om_rat (g := fun a b => a * b) hx hy sp sq hv)
theorem em_Rneg (hr : Room 44 X.A) (h : EM X a σ B M fun x B1 M1 => ∃ p, RatAt X.K B1 x p ∧ ∀ v B', Ex B1 B' → RatAt X.K B' v (-p) → P v B' M1) : EM X (.UnaryOp .USub a pos) σ B M P :=
  em_un (un_own R.neg (hr.mono (by decide)) R.t.fi_Ratio_neg R.t.fn_Ratio_neg) (h.imp fun x B1 M1 _ ⟨p, hx, hv⟩ => om_rneg hx hv)
end
end LC
end LcSum
section LcComp2
set_option maxHeartbeats 4000000
/-! Comprehensions whose answer is known for good from then on. -/
namespace LC
open PySem L2
theorem Emt.fzN {α : Type} {t : Tm α} {B M : Hp} {P : α → Hp → Hp → Prop} (h : Emt t B M fun a B1 M1 => ∃ p o, M1 p = some o ∧ (B1 p = none → P a (upd B1 p o) (del M1 p))) : Emt t B M P := fun H w Q k =>
  h H w Q fun a B1 M1 H1 g ⟨p, o, hp, q⟩ => k a _ _ H1 (g.tr (Gs.frz g.own hp)) (q (g.own.m p o hp).2)
/-- nothing of M is lost -/
def Sub (M M' : Hp) : Prop := ∀ p o, M p = some o → M' p = some o
theorem Sub.upd {M : Hp} {D : Addr} {o : HO} (h : M D = none) : Sub M (upd M D o) := fun p u e => by
  rw [upd_ne (ne_of_none e h)]; exact e
section
variable {X : Cx} {scope : Scope} {tg e src kx vx : Expr} {ifs : List Expr} {σ : St} {B M : Hp} {P : V → Hp → Hp → Prop} {vs : List Nat}
/-- a turn -/
def TurnB (X : Cx) (scope : Scope) (tg : Expr) (ifs : List Expr) (e : Expr) (vs : List Nat) (x : V) (σ : St) (B M : Hp) (J : List V → Hp → Prop) (acc : List V) : Prop :=
  Emt (fun H Q => bG X scope tg x (wipe σ vs) H Q) B M fun σ2 B2 M2 => wipe σ2 vs = wipe σ vs ∧ M2 = M ∧ Emt (bT X scope ifs σ2) B2 M fun k B3 M3 => M3 = M ∧ if k = true then Emt (bE X scope e σ2) B3 M fun y B4 M4 => M4 = M ∧ J (acc ++ [y]) B4 else J acc B3
theorem turnB_c {D : Addr} {M1 B1 B' : Hp} {x : V} {Jn : Nat → List V → Hp → Prop} {acc : List V} {i : Nat} (hn : i < 1000) (hl : acc.length ≤ i) (hB : Ex B1 B') (h : TurnB X scope tg ifs e vs x σ B' (upd M1 D (.lst acc)) (Jn (i + 1)) acc) :
    TurnC X scope tg ifs e D vs x σ B' (upd M1 D (.lst acc)) (fun acc B' M' => M' = upd M1 D (.lst acc) ∧ Ex B1 B' ∧ acc.length ≤ i + 1 ∧ Jn (i + 1) acc B') acc := by
  refine Emt.imp h fun σ2 B2 M2 e2 ⟨hw, hM, q⟩ => ⟨hw, ?_⟩
  subst hM
  refine Emt.imp q fun k B3 M3 e3 ⟨hM, q3⟩ => ?_
  subst hM
  cases k with
  | false => exact ⟨rfl, (hB.tr e2).tr e3, by omega, q3⟩
  | true =>
    refine Emt.imp q3 fun y B4 M4 e4 ⟨hM, q4⟩ => ?_
    subst hM
    refine ⟨upd_same, ?_, upd_twice, ((hB.tr e2).tr e3).tr e4, ?_, q4⟩
    · have : (1000 : Nat) ≤ sizeLine := by decide
      omega
    · rw [List.length_append]; simp; omega
/-- what a list comprehension over n turns asks -/
def LcB (X : Cx) (scope : Scope) (tg : Expr) (ifs : List Expr) (e : Expr) (vs : List Nat) (σ : St) (n : Nat) (it : Nat → Option V) (B1 M1 : Hp) (P : V → Hp → Hp → Prop) : Prop := n ≤ 1000 ∧
  ∃ Jn : Nat → List V → Hp → Prop, (∀ i acc B B', Ex B B' → Jn i acc B → Jn i acc B') ∧ Jn 0 [] B1 ∧ (∀ i x acc B' M', it i = some x → i < n → Ex B1 B' → Sub M1 M' → Jn i acc B' → TurnB X scope tg ifs e vs x σ B' M' (Jn (i + 1)) acc) ∧
    ∀ d ys B', Ex B1 B' → B' d = some (.lst ys) → Jn n ys B' → P (.ref d) B' M1
theorem lcb_end {D : Addr} {B1 M1 B' M' : Hp} {acc : List V} {Jn : Nat → List V → Hp → Prop} {n : Nat} (b0 : B1 D = none) (m0 : M1 D = none) (mono : ∀ i acc B B', Ex B B' → Jn i acc B → Jn i acc B') (je : ∀ d ys B', Ex B1 B' → B' d = some (.lst ys) → Jn n ys B' → P (.ref d) B' M1)
    (hB : Ex B1 B') (h : M' = upd M1 D (.lst acc) ∧ Ex B1 B' ∧ acc.length ≤ n ∧ Jn n acc B') : ∃ p o, M' p = some o ∧ (B' p = none → P (.ref D) (upd B' p o) (del M' p)) := by
  obtain ⟨rfl, _, _, hj⟩ := h
  refine ⟨D, _, upd_same, fun hn => ?_⟩
  rw [del_upd m0]
  exact je D acc _ (hB.up' b0) upd_same (mono _ _ _ _ (Ex.up hn) hj)
theorem lclB_read (h : EM X src σ B M fun v B1 M1 => ∃ a xs, v = .ref a ∧ B1 a = some (.lst xs) ∧ LcB X scope tg ifs e vs σ xs.length (fun i => xs[i]?) B1 M1 P) : Emt (tLc (iList X.K (wE X src)) (bG X scope tg) (bT X scope ifs) (bE X scope e) vs σ) B M P :=
  Emt.fzN (lcl_read (h.imp fun v B1 M1 _ ⟨a, xs, hv, ha, hn, Jn, mono, j0, jt, je⟩ => ⟨a, xs, hv, SqL.of (jn_b ha), fun D b0 m0 => ⟨fun i acc B' M' => M' = upd M1 D (.lst acc) ∧ Ex B1 B' ∧ acc.length ≤ i ∧ Jn i acc B', ⟨rfl, Ex.id', Nat.le_refl _, j0⟩,
    fun i acc B' M' _ ⟨_, hB, _⟩ => SqL.of (jn_b (hB _ _ ha)), fun i x acc B' M' hi hB ⟨hM, _, hl, hj⟩ => by
      subst hM
      have hlt := (List.getElem?_eq_some_iff.mp hi).1
      exact turnB_c (by omega) hl hB (jt i x acc B' _ hi hlt hB (Sub.upd m0) hj),
    fun acc B' M' hB hj => lcb_end b0 m0 mono je hB hj⟩⟩))
theorem lcrB_read {ex : Expr} (h : EM X ex σ B M fun v B1 M1 => ∃ n : Nat, v = .int n ∧ LcB X scope tg ifs e vs σ n (fun i => some (.int i)) B1 M1 P) : Emt (tLc (iRng1 (tCons (wE X ex) tNil)) (bG X scope tg) (bT X scope ifs) (bE X scope e) vs σ) B M P :=
  Emt.fzN (lcr_read (h.imp fun v B1 M1 _ ⟨n, hv, hn, Jn, mono, j0, jt, je⟩ => ⟨n, hv, by omega, fun D b0 m0 => ⟨fun i acc B' M' => M' = upd M1 D (.lst acc) ∧ Ex B1 B' ∧ acc.length ≤ i ∧ Jn i acc B', ⟨rfl, Ex.id', Nat.le_refl _, j0⟩,
    fun i acc B' M' hi hB ⟨hM, _, hl, hj⟩ => by
      subst hM
      exact turnB_c (by omega) hl hB (jt i _ acc B' _ rfl hi hB (Sub.upd m0) hj),
    fun acc B' M' hB hj => lcb_end b0 m0 mono je hB hj⟩⟩))
/-- over the letters of a text -/
theorem lcsB_read (h : EM X src σ B M fun v B1 M1 => ∃ z : Str, v = .str z ∧ LcB X scope tg ifs e vs σ z.cps.size (fun i => (z.cps[i]?).map fun c => .str ⟨#[c]⟩) B1 M1 P) : Emt (tLc (iStr (wE X src)) (bG X scope tg) (bT X scope ifs) (bE X scope e) vs σ) B M P :=
  Emt.fzN fun H w Q k => h H w _ fun v B1 M1 H1 g ⟨z, hv, hn, Jn, mono, j0, jt, je⟩ => ⟨z, hv, fun D hD => by
    obtain ⟨b0, m0⟩ := g.own.fresh hD
    refine ⟨fun i m H' => i + m = z.cps.size ∧ ∃ acc B' M', Gs B1 M1 H1 B' M' H' ∧ M' = upd M1 D (.lst acc) ∧ acc.length ≤ i ∧ Jn i acc B', ⟨z.cps.size, Nat.zero_add _, [], _, _, Gs.newM g.own hD, rfl, Nat.le_refl _, j0⟩, fun i m H' ⟨hm, acc, B', M', g', hM, hl, hj⟩ => ?_⟩
    cases m with
    | zero =>
      have e : i = z.cps.size := by omega
      subst e
      exact .inl ⟨Nat.le_refl _, k _ _ _ _ (g.tr g') (lcb_end b0 m0 mono je g'.b ⟨hM, g'.b, hl, hj⟩)⟩
    | succ m =>
      refine .inr ⟨by show i < z.cps.size; omega, fun H2 => ∃ acc B' M', Gs B1 M1 H1 B' M' H2 ∧ M' = upd M1 D (.lst acc) ∧ acc.length ≤ i + 1 ∧ Jn (i + 1) acc B', fun H2 q => ⟨m, Nat.lt_succ_self m, by omega, q⟩, fun x H2 ⟨e, c, hc, hx⟩ => ?_⟩
      subst e hx hM
      have t := jt i (.str ⟨#[c]⟩) acc B' (upd M1 D (.lst acc)) (by show (z.cps[i]?).map _ = _; rw [hc]; rfl) (by omega) g'.b (Sub.upd m0) hj
      exact turnC_go g' (turnB_c (B1 := B1) (by omega) hl g'.b t) fun acc' B2 M2 H2 g2 ⟨hM2, _, hl2, hj2⟩ => ⟨acc', B2, M2, g2, hM2, hl2, hj2⟩⟩
variable {own : List (Str × Nat)} {pos spos py p rp : Pos} {y : Str} {E : EndsM}
theorem em_lcB (hc : X.calm = true) (hN : X.N.Nodup) (ok : BlkOk X.N X.env.scope scope own) (h : EM X src σ B M fun v B1 M1 => ∃ a xs, v = .ref a ∧ B1 a = some (.lst xs) ∧ LcB X scope tg ifs e (own.map (·.2)) σ xs.length (fun i => xs[i]?) B1 M1 P)
    (hs : ∀ x, foldedSetIterable src X.env x = pure x := by intro _; rfl) : EM X (.ListComp e [⟨tg, src, ifs, 0⟩] scope pos) σ B M P := em_of (pe_lc hc hN (pi_list pe_w) ok bG_pg bT_pt bE_pe hs) (lclB_read h)
theorem em_lcsB (hc : X.calm = true) (hN : X.N.Nodup) (ok : BlkOk X.N X.env.scope scope own) (h : EM X src σ B M fun v B1 M1 => ∃ z : Str, v = .str z ∧ LcB X scope tg ifs e (own.map (·.2)) σ z.cps.size (fun i => (z.cps[i]?).map fun c => .str ⟨#[c]⟩) B1 M1 P)
    (hs : ∀ x, foldedSetIterable src X.env x = pure x := by intro _; rfl) : EM X (.ListComp e [⟨tg, src, ifs, 0⟩] scope pos) σ B M P := em_of (pe_lc hc hN (pi_str pe_w) ok bG_pg bT_pt bE_pe hs) (lcsB_read h)
theorem s1_lcB (j : Nat) (hc : X.calm = true) (hN : X.N.Nodup) (ok : BlkOk X.N X.env.scope scope own) (h : EM X src σ B M fun v B1 M1 => ∃ a xs, v = .ref a ∧ B1 a = some (.lst xs) ∧ LcB X scope tg ifs e (own.map (·.2)) σ xs.length (fun i => xs[i]?) B1 M1 fun v B' M' => E.nx (σ.set j (some v)) B' M')
    (hy : X.N[j]? = some y := by rfl) (hyl : X.env.scope.names.lookup y = some .local := by rfl) (hsw : swapsWith (.ListComp e [⟨tg, src, ifs, 0⟩] scope pos) (some (.Name y py)) spos.line X.env = pure true := by exact sw_true rfl rfl rfl (by decide +kernel))
    (hs : ∀ x, foldedSetIterable src X.env x = pure x := by intro _; rfl) : S1 X (.Assign [.Name y py] (.ListComp e [⟨tg, src, ifs, 0⟩] scope pos) spos) σ B M E :=
  s1_of (ps_setLc hc hN hy hyl hsw (pi_list pe_w) ok bG_pg bT_pt bE_pe hs) fun H w D k1 _ _ _ => lclB_read h H w _ fun v B1 M1 H1 g q => k1 _ _ _ _ g q
theorem em_lcrB {ex : Expr} (hc : X.calm = true) (hN : X.N.Nodup) (ok : BlkOk X.N X.env.scope scope own) (hm : X.mg "range" = none) (h : EM X ex σ B M fun v B1 M1 => ∃ n : Nat, v = .int n ∧ LcB X scope tg ifs e (own.map (·.2)) σ n (fun i => some (.int i)) B1 M1 P)
    (hg : Gl X "range" := by rfl) (ha : starEach [ex] X.env = [(false, eval ex X.env)] := by rfl) (ha2 : starEach [ex] X.env = (false, eval ex X.env) :: starEach [] X.env := by rfl)
    (hs : ∀ x, foldedSetIterable (.Call (.Name "range" p) [ex] [] rp) X.env x = pure x := by intro _; rfl) : EM X (.ListComp e [⟨tg, .Call (.Name "range" p) [ex] [] rp, ifs, 0⟩] scope pos) σ B M P :=
  em_of (pe_lc hc hN (pi_range1 hg hm (pa_cons pe_w pa_nil ha2) ha) ok bG_pg bT_pt bE_pe hs) (lcrB_read h)
theorem s1_lcrB (j : Nat) {ex : Expr} (hc : X.calm = true) (hN : X.N.Nodup) (ok : BlkOk X.N X.env.scope scope own) (hm : X.mg "range" = none) (h : EM X ex σ B M fun v B1 M1 => ∃ n : Nat, v = .int n ∧ LcB X scope tg ifs e (own.map (·.2)) σ n (fun i => some (.int i)) B1 M1 fun v B' M' => E.nx (σ.set j (some v)) B' M')
    (hg : Gl X "range" := by rfl) (ha : starEach [ex] X.env = [(false, eval ex X.env)] := by rfl) (ha2 : starEach [ex] X.env = (false, eval ex X.env) :: starEach [] X.env := by rfl)
    (hy : X.N[j]? = some y := by rfl) (hyl : X.env.scope.names.lookup y = some .local := by rfl) (hsw : swapsWith (.ListComp e [⟨tg, .Call (.Name "range" p) [ex] [] rp, ifs, 0⟩] scope pos) (some (.Name y py)) spos.line X.env = pure true := by exact sw_true rfl rfl rfl (by decide +kernel))
    (hs : ∀ x, foldedSetIterable (.Call (.Name "range" p) [ex] [] rp) X.env x = pure x := by intro _; rfl) : S1 X (.Assign [.Name y py] (.ListComp e [⟨tg, .Call (.Name "range" p) [ex] [] rp, ifs, 0⟩] scope pos) spos) σ B M E :=
  s1_of (ps_setLc hc hN hy hyl hsw (pi_range1 hg hm (pa_cons pe_w pa_nil ha2) ha) ok bG_pg bT_pt bE_pe hs) fun H w D k1 _ _ _ => lcrB_read h H w _ fun v B1 M1 H1 g q => k1 _ _ _ _ g q
/-- the plain case: each item gives one -/
theorem lcb_map {n : Nat} {it : Nat → Option V} {B1 M1 : Hp} (j : Nat) {x : Str} {tp : Pos} (hN : X.N.Nodup) (hn : n ≤ 1000) (R : Nat → V → Hp → Prop) (mono : ∀ i y B B', Ex B B' → R i y B → R i y B')
    (turn : ∀ i x B' M', it i = some x → i < n → Ex B1 B' → Sub M1 M' → ∀ s H0 C cl fp, EM (Blk X scope s H0 C cl fp) e ((wipe σ vs).set j (some x)) B' M' fun y B4 M4 => M4 = M' ∧ R i y B4)
    (fin : ∀ d ys B', Ex B1 B' → B' d = some (.lst ys) → ys.length = n → (∀ i y, ys[i]? = some y → R i y B') → P (.ref d) B' M1)
    (hw : ∀ x, wipe ((wipe σ vs).set j (some x)) vs = wipe σ vs := by intro _; rfl) (hi : X.N[j]? = some x := by rfl) (hx : Loc (relabel scope X.env) x := by first | exact Or.inl rfl | exact Or.inr rfl)
    (hf : (List.lookup x scope.names == some NameKind.cell) = true ∨ (relabel scope X.env).names.lookup x = some .local := by first | exact Or.inl rfl | exact Or.inr rfl) : LcB X scope (.Name x tp) [] e vs σ n it B1 M1 P := by
  refine ⟨hn, fun i acc B => acc.length = i ∧ ∀ k y, acc[k]? = some y → R k y B, fun i acc B B' hB ⟨h1, h2⟩ => ⟨h1, fun k y hk => mono _ _ _ _ hB (h2 k y hk)⟩, ⟨rfl, fun k y hk => by simp at hk⟩, ?_, ?_⟩
  · rintro i x acc B' M' hx' hin hB hM ⟨hl, hj⟩
    refine bg_of fun s H0 C cl fp => gm_name j hN ⟨hw _, rfl, bt_nil ⟨rfl, ?_⟩⟩ hi hx hf
    rw [if_pos rfl]
    refine be_of fun s2 H2 C2 cl2 fp2 => Emt.imp (turn i x B' M' hx' hin hB hM s2 H2 C2 cl2 fp2) fun y B4 M4 e4 ⟨hM4, hR⟩ => ⟨hM4, ?_, ?_⟩
    · rw [List.length_append]; simp [hl]
    · intro k z hk
      by_cases h : k < acc.length
      · rw [List.getElem?_append_left h] at hk
        exact mono _ _ _ _ e4 (hj k z hk)
      · rw [List.getElem?_append_right (by omega)] at hk
        have hk0 : k - acc.length = 0 := by
          cases q : k - acc.length with
          | zero => rfl
          | succ m => rw [q] at hk; simp at hk
        rw [hk0] at hk
        simp at hk
        have : k = i := by omega
        subst this hk
        exact hR
  · rintro d ys B' hB hd ⟨hl, hj⟩
    exact fin d ys B' hB hd hl hj

/-! ### dicts -/
def TurnDB (X : Cx) (scope : Scope) (tg : Expr) (ifs : List Expr) (kx vx : Expr) (vs : List Nat) (x : V) (σ : St) (B M : Hp) (J : List (Key × V) → Hp → Prop) (acc : List (Key × V)) : Prop :=
  Emt (fun H Q => bG X scope tg x (wipe σ vs) H Q) B M fun σ2 B2 M2 => wipe σ2 vs = wipe σ vs ∧ M2 = M ∧ Emt (bT X scope ifs σ2) B2 M fun k B3 M3 => M3 = M ∧ if k = true then Emt (bE X scope kx σ2) B3 M fun y B4 M4 => M4 = M ∧ Emt (bE X scope vx σ2) B4 M fun z B5 M5 => M5 = M ∧
    ∃ k, y = kV k ∧ J (putK acc k z) B5 else J acc B3
theorem turnDB_d {D : Addr} {M1 B1 B' : Hp} {x : V} {Jn : Nat → List (Key × V) → Hp → Prop} {acc : List (Key × V)} {i : Nat} (hn : i < 1000) (hl : acc.length ≤ i) (hB : Ex B1 B') (h : TurnDB X scope tg ifs kx vx vs x σ B' (upd M1 D (.dK acc)) (Jn (i + 1)) acc) :
    TurnD X scope tg ifs kx vx D vs x σ B' (upd M1 D (.dK acc)) (fun acc B' M' => M' = upd M1 D (.dK acc) ∧ Ex B1 B' ∧ acc.length ≤ i + 1 ∧ Jn (i + 1) acc B') acc := by
  refine Emt.imp h fun σ2 B2 M2 e2 ⟨hw, hM, q⟩ => ⟨hw, ?_⟩
  subst hM
  refine Emt.imp q fun k B3 M3 e3 ⟨hM, q3⟩ => ?_
  subst hM
  cases k with
  | false => exact ⟨rfl, (hB.tr e2).tr e3, by omega, q3⟩
  | true =>
    refine Emt.imp q3 fun y B4 M4 e4 ⟨hM, q4⟩ => ?_
    subst hM
    refine Emt.imp q4 fun z B5 M5 e5 ⟨hM, k, hk, q5⟩ => ?_
    subst hM
    refine ⟨upd_same, ?_, k, hk, upd_twice, (((hB.tr e2).tr e3).tr e4).tr e5, ?_, q5⟩
    · have : (1000 : Nat) ≤ sizeLine := by decide
      omega
    · have := length_putK acc k z
      omega
def DcB (X : Cx) (scope : Scope) (tg : Expr) (ifs : List Expr) (kx vx : Expr) (vs : List Nat) (σ : St) (n : Nat) (it : Nat → Option V) (B1 M1 : Hp) (P : V → Hp → Hp → Prop) : Prop := n ≤ 1000 ∧
  ∃ Jn : Nat → List (Key × V) → Hp → Prop, (∀ i acc B B', Ex B B' → Jn i acc B → Jn i acc B') ∧ Jn 0 [] B1 ∧ (∀ i x acc B' M', it i = some x → i < n → Ex B1 B' → Sub M1 M' → Jn i acc B' → TurnDB X scope tg ifs kx vx vs x σ B' M' (Jn (i + 1)) acc) ∧
    ∀ d ys B' M', Ex B1 B' → M1 d = none → B1 d = none → B' d = none → M' = upd M1 d (.dK ys) → Jn n ys B' → P (.ref d) B' M'
/-- over a list: the dict is owned -/
theorem dcl_read (h : EM X src σ B M fun v B1 M1 => ∃ a xs, v = .ref a ∧ B1 a = some (.lst xs) ∧ DcB X scope tg ifs kx vx vs σ xs.length (fun i => xs[i]?) B1 M1 P) : Emt (tDc (iList X.K (wE X src)) (bG X scope tg) (bT X scope ifs) (bE X scope kx) (bE X scope vx) vs σ) B M P := fun H w Q k =>
  h H w _ fun v B1 M1 H1 g ⟨a, xs, hv, ha, hn, Jn, mono, j0, jt, je⟩ => ⟨a, hv, ⟨xs, sql_up g.own.jn (SqL.of (jn_b ha))⟩, fun D hD => by
    obtain ⟨b0, m0⟩ := g.own.fresh hD
    exact dc_lst (xs := xs) (fun i H' => ∃ acc B' M', Gs B1 M1 H1 B' M' H' ∧ M' = upd M1 D (.dK acc) ∧ acc.length ≤ i ∧ Jn i acc B') ⟨[], _, _, Gs.newM g.own hD, rfl, Nat.le_refl _, j0⟩ (fun i H' hi ⟨acc, B', M', g', q'⟩ => SqL.of (g'.own.b _ _ (g'.b _ _ ha)))
      (fun i x H' hi ⟨acc, B', M', g', hM, hl, hj⟩ => by
        subst hM
        have hlt := (List.getElem?_eq_some_iff.mp hi).1
        exact turnD_go g' (turnDB_d (B1 := B1) (by omega) hl g'.b (jt i x acc B' _ hi hlt g'.b (Sub.upd m0) hj)) fun acc' B2 M2 H2 g2 ⟨hM2, _, hl2, hj2⟩ => ⟨acc', B2, M2, g2, hM2, hl2, hj2⟩)
      (fun H' ⟨acc, B', M', g', hM, hl, hj⟩ => k _ _ _ _ (g.tr g') (je D acc B' M' g'.b m0 b0 (g'.own.m D (.dK acc) (by rw [hM]; exact upd_same)).2 hM hj))⟩
theorem em_dcB (hc : X.calm = true) (hN : X.N.Nodup) (ok : BlkOk X.N X.env.scope scope own) (h : EM X src σ B M fun v B1 M1 => ∃ a xs, v = .ref a ∧ B1 a = some (.lst xs) ∧ DcB X scope tg ifs kx vx (own.map (·.2)) σ xs.length (fun i => xs[i]?) B1 M1 P)
    (hs : ∀ x, foldedSetIterable src X.env x = pure x := by intro _; rfl) : EM X (.DictComp kx vx [⟨tg, src, ifs, 0⟩] scope pos) σ B M P := em_of (pe_dc hc hN (pi_list pe_w) ok bG_pg bT_pt bE_pe bE_pe hs) (dcl_read h)
/-- name = {..} on one line -/
theorem sw_trueD {gs : List Comprehension} {scope : Scope} {pos py : Pos} {y : Str} {l : Nat} {env : Env} (hk : env.scope.kind = .function) (hy : env.scope.names.lookup y = some .local) (hl : (py.line == pos.line) = true)
    (ha : (scope.names.any fun (n, k) => n == y && (k == .local || k == .cell)) = false) : swapsWith (.DictComp kx vx gs scope pos) (some (.Name y py)) l env = pure true := by
  have ky : env.kindOf y = some .local := hy
  have hb : env.blockKind = .function := by unfold Env.blockKind; rw [hk]; rfl
  unfold swapsWith
  simp only [hb, ky, ha, Expr.pos, hl]
  rfl
theorem ps_dcl {i : Nat} {wi : TI} {g : TG} {tt : TT} {tk tv : TE} (hc : X.calm = true) (hN : X.N.Nodup) (hy : X.N[i]? = some y) (hyl : X.env.scope.names.lookup y = some .local)
    (hsw : swapsWith (.DictComp kx vx [⟨tg, src, ifs, 0⟩] scope pos) (some (.Name y py)) spos.line X.env = pure true) (hi : PI X tg src wi) (ok : BlkOk X.N X.env.scope scope own)
    (hg : ∀ (s : Shared) (H : Hp) (C : Addr) (cl : List (Str × Addr)) (fp : List Addr), PG (X.blk s H scope (compEnvC scope cl C X.env) fp) tg g) (ht : ∀ (s : Shared) (H : Hp) (C : Addr) (cl : List (Str × Addr)) (fp : List Addr), PTs (X.blk s H scope (compEnvC scope cl C X.env) fp) ifs tt)
    (hk : ∀ (s : Shared) (H : Hp) (C : Addr) (cl : List (Str × Addr)) (fp : List Addr), PE (X.blk s H scope (compEnvC scope cl C X.env) fp) kx tk)
    (he : ∀ (s : Shared) (H : Hp) (C : Addr) (cl : List (Str × Addr)) (fp : List Addr), PE (X.blk s H scope (compEnvC scope cl C X.env) fp) vx tv) (hs : ∀ x, foldedSetIterable src X.env x = pure x) :
    PS X (.Assign [.Name y py] (.DictComp kx vx [⟨tg, src, ifs, 0⟩] scope pos) spos) (tAsg (tDc wi g tt tk tv (own.map (·.2))) (gName i)) := by
  constructor
  intro pins s σ H D I h
  rw [exec_Assign_Name_used _ _ _ _ hsw]
  refine wpAny_bind (wpAny_standAt (wpAny_bind ?_))
  show wpAny _ X.A (comprehension (.DictComp kx vx [⟨tg, src, ifs, 0⟩] scope pos) scope X.env (firstIterPos [⟨tg, src, ifs, 0⟩] pos) newDict false (eval src X.env) (some (assign (.Name y py) X.env)) >>= fun _ => pure ()) _ _ s
  have h2 : tDc wi g tt tk tv (own.map (·.2)) σ H (fun x H1 => gName i x σ H1 D.nx) := h
  have core := dc_core (pos := pos) (use := some (assign (.Name y py) X.env)) (Qf := fun _ s' => SP X pins D .next s') (pos' := firstIterPos [⟨tg, src, ifs, 0⟩] pos) hc hN I hi ok hg ht hk he hs h2 fun L C s' m H' I' q hn f => by
    show wpAny _ _ (assign (.Name y py) X.env (.ref L)) _ _ _
    refine wpAny_assign_Name (store_ok2 (v := V.ref L) I' hN hy (.inl hyl) rfl (fun s2 I2 ⟨a, sb, ha⟩ => ?_) (.inr hyl))
    obtain ⟨f0, f1, f2, f3, f4, f5⟩ := f
    have haC : C ≠ a := by
      rcases ha with z | z
      · rw [z]; exact f1
      · intro e; exact f4 y a z e.symm
    refine ⟨m, hn.sameBut sb haC, fun h3 sb3 => ?_⟩
    exact ⟨_, H', I2.turned (t' := s2.toks) (fun b o hb e => (sb3.2 b hb).trans e) f0 f1 f3 f4 f5, q⟩
  exact wpAny_bind (thn core fun _ s' hq => wpAny_pure (wpAny_pure hq))
theorem s1_dcB (j : Nat) (hc : X.calm = true) (hN : X.N.Nodup) (ok : BlkOk X.N X.env.scope scope own) (h : EM X src σ B M fun v B1 M1 => ∃ a xs, v = .ref a ∧ B1 a = some (.lst xs) ∧ DcB X scope tg ifs kx vx (own.map (·.2)) σ xs.length (fun i => xs[i]?) B1 M1 fun v B' M' => E.nx (σ.set j (some v)) B' M')
    (hy : X.N[j]? = some y := by rfl) (hyl : X.env.scope.names.lookup y = some .local := by rfl) (hsw : swapsWith (.DictComp kx vx [⟨tg, src, ifs, 0⟩] scope pos) (some (.Name y py)) spos.line X.env = pure true := by exact sw_trueD rfl rfl rfl (by decide +kernel))
    (hs : ∀ x, foldedSetIterable src X.env x = pure x := by intro _; rfl) : S1 X (.Assign [.Name y py] (.DictComp kx vx [⟨tg, src, ifs, 0⟩] scope pos) spos) σ B M E :=
  s1_of (ps_dcl hc hN hy hyl hsw (pi_list pe_w) ok bG_pg bT_pt bE_pe bE_pe hs) fun H w D k1 _ _ _ => dcl_read h H w _ fun v B1 M1 H1 g q => k1 _ _ _ _ g q
/-- what is owned is nowhere else -/
theorem em_own {e : Expr} (h : (∀ p o, M p = some o → B p = none) → EM X e σ B M P) : EM X e σ B M P := fun H w => h (fun p o hp => (w.m p o hp).2) H w
theorem sm_own {sts : List Stmt} {E : EndsM} (h : (∀ p o, M p = some o → B p = none) → SM X sts σ B M E) : SM X sts σ B M E := fun H w => h (fun p o hp => (w.m p o hp).2) H w
/-- {k: v for k in d if ..}, d owned: the new dict is known for good -/
theorem em_dckB {d : Addr} {kvs : List (Key × V)} (hc : X.calm = true) (hN : X.N.Nodup) (ok : BlkOk X.N X.env.scope scope own) (hM : M d = some (.dK kvs)) (hn : kvs.length ≤ 1000)
    (h : ∀ M0 od, M0 = upd M d (.frz od (.dK kvs)) → EM X src σ B M0 fun v B1 M1 => v = .ref d ∧ M1 = M0 ∧ B1 d = none ∧ ∃ Jn : Nat → List (Key × V) → Hp → Prop, (∀ i acc B B', Ex B B' → Jn i acc B → Jn i acc B') ∧ Jn 0 [] B1 ∧
      (∀ i k v acc B' M', kvs[i]? = some (k, v) → Ex B1 B' → Sub M0 M' → B' d = none → Jn i acc B' → TurnDB X scope tg ifs kx vx (own.map (·.2)) (kV k) σ B' M' (Jn (i + 1)) acc) ∧ ∀ D ys B', Ex B1 B' → B' D = some (.dK ys) → Jn kvs.length ys B' → P (.ref D) B' M)
    (hs : ∀ x, foldedSetIterable src X.env x = pure x := by intro _; rfl) : EM X (.DictComp kx vx [⟨tg, src, ifs, 0⟩] scope pos) σ B M P := by
  refine em_lock hM True.intro fun od => Emt.fzN ?_
  have fr : upd M d (.frz od (.dK kvs)) d = some (.frz od (.dK kvs)) := upd_same
  refine em_dck hc hN ok ((h _ od rfl).imp fun v B1 M1 _ ⟨hv, hM1, hb, Jn, mono, j0, jt, je⟩ => ?_) hs
  subst hv hM1
  refine ⟨d, od, kvs, rfl, jn_m fr hb, fun D b0 m0 => ⟨fun i acc B' M' => M' = upd (upd M d (.frz od (.dK kvs))) D (.dK acc) ∧ Ex B1 B' ∧ acc.length ≤ i ∧ B' d = none ∧ Jn i acc B', ⟨rfl, Ex.id', Nat.le_refl _, hb, j0⟩, ?_, ?_, ?_⟩⟩
  · rintro i acc B' M' _ ⟨rfl, _, _, hb', _⟩
    have ne : d ≠ D := fun e => by rw [← e, fr] at m0; cases m0
    exact jn_m (by rw [upd_ne ne]; exact fr) hb'
  · rintro i k v acc B' M' hi hB ⟨rfl, _, hl, hb', hj⟩
    have hlt := (List.getElem?_eq_some_iff.mp hi).1
    have t := turnDB_d (B1 := B1) (by omega) hl hB (jt i k v acc B' (upd (upd M d (.frz od (.dK kvs))) D (.dK acc)) hi hB (Sub.upd m0) hb' hj)
    have ne : d ≠ D := fun e => by rw [← e, fr] at m0; cases m0
    intro H w Q kq
    refine t H w _ fun σ2 B2 M2 H2 g2 ⟨hw, q⟩ => kq σ2 B2 M2 H2 g2 ⟨hw, fun H w Q kq => q H w _ fun k3 B3 M3 H3 g3 q3 => kq k3 B3 M3 H3 g3 ?_⟩
    cases k3 with
    | false =>
      obtain ⟨h1, h2, h3, h4⟩ := q3
      exact ⟨h1, h2, h3, (g3.own.m d (.frz od (.dK kvs)) (by rw [h1, upd_ne ne]; exact fr)).2, h4⟩
    | true =>
      intro H w Q kq
      refine q3 H w _ fun y B4 M4 H4 g4 q4 => kq y B4 M4 H4 g4 fun H w Q kq => q4 H w _ fun z B5 M5 H5 g5 ⟨hD, hl5, k5, hk5, e5, h2, h3, h4⟩ => kq z B5 M5 H5 g5 ⟨hD, hl5, k5, hk5, e5, h2, h3, ?_, h4⟩
      have e6 : M5 d = some (.frz od (.dK kvs)) := by
        have := congrFun e5 d
        rw [upd_ne ne, upd_ne ne] at this
        rw [this]; exact fr
      exact (g5.own.m d _ e6).2
  · rintro acc B' M' hB ⟨rfl, _, _, hb', hj⟩
    refine ⟨D, _, upd_same, fun hn => ?_⟩
    rw [del_upd m0]
    refine ⟨fr, ?_⟩
    rw [upd_twice, upd_self hM]
    exact je D acc _ (hB.up' b0) upd_same (mono _ _ _ _ (Ex.up hn) hj)
end
end LC
end LcComp2
section LcKv
set_option maxHeartbeats 4000000
/-! Dicts whose keys are texts. -/
namespace LC
open PySem L2
theorem nodup_len {α : Type} [BEq α] [LawfulBEq α] : ∀ {a b : List α}, a.Nodup → (∀ x ∈ a, x ∈ b) → a.length ≤ b.length
  | [], b, _, _ => Nat.zero_le _
  | x :: a, b, hn, hs => by
    obtain ⟨h1, h2⟩ := List.nodup_cons.mp hn
    have hx := hs x (List.mem_cons_self ..)
    have := nodup_len (b := b.erase x) h2 fun y hy => (List.mem_erase_of_ne (fun e => h1 (by rw [← e]; exact hy))).mpr (hs y (List.mem_cons_of_mem _ hy))
    rw [List.length_erase_of_mem hx] at this
    have : 0 < b.length := List.length_pos_of_mem hx
    simp only [List.length_cons]
    omega
structure KvR (R : Str → V → Hp → Prop) (kvs : List (Key × V)) (ks : List Str) (B : Hp) : Prop where
  keys : kvs.map (·.1) = ks.map Sum.inr
  nd : ks.Nodup
  at_ : ∀ k v, valV kvs (.inr k) = some v → R k v B
section
variable {R R' : Str → V → Hp → Prop} {kvs : List (Key × V)} {ks : List Str} {B B' : Hp}
theorem KvR.up (h : KvR R kvs ks B) (f : ∀ k v, R k v B → R' k v B') : KvR R' kvs ks B' := ⟨h.keys, h.nd, fun k v e => f k v (h.at_ k v e)⟩
theorem keys_val : ∀ {kvs : List (Key × V)} {ks : List Str}, kvs.map (·.1) = ks.map Sum.inr → ∀ k, k ∈ ks ↔ (valV kvs (.inr k)).isSome = true
  | [], [], _, k => by simp [valV]
  | [], _ :: _, h, k => by cases h
  | _ :: _, [], h, k => by cases h
  | (q, v) :: r, x :: ks, h, k => by
    rw [List.map_cons, List.map_cons] at h
    injection h with h1 h2
    have ih := keys_val h2 k
    by_cases e : k = x
    · subst e
      rw [valV_pos (p := (q, v)) h1]
      simp
    · rw [valV_neg (p := (q, v)) (fun z => e (by rw [h1] at z; injection z with z; exact z.symm)), ← ih]
      simp [e]
theorem KvR.some (h : KvR R kvs ks B) {k : Str} (hk : k ∈ ks) : ∃ v, valV kvs (.inr k) = Option.some v ∧ R k v B := by
  obtain ⟨v, hv⟩ := Option.isSome_iff_exists.mp ((keys_val h.keys k).mp hk)
  exact ⟨v, hv, h.at_ k v hv⟩
theorem KvR.none (h : KvR R kvs ks B) {k : Str} (hk : k ∉ ks) : valV kvs (.inr k) = Option.none := by
  cases e : valV kvs (.inr k) with
  | none => exact rfl
  | some v => exact absurd ((keys_val h.keys k).mpr (by rw [e]; exact rfl)) hk
theorem KvR.nil : KvR R [] [] B := ⟨rfl, List.nodup_nil, fun k v e => by cases e⟩
theorem KvR.len (h : KvR R kvs ks B) : kvs.length = ks.length := by
  have := congrArg List.length h.keys
  simpa using this
def addk (ks : List Str) (k : Str) : List Str := if k ∈ ks then ks else ks ++ [k]
theorem mem_addk {ks : List Str} {k x : Str} : x ∈ addk ks k ↔ x ∈ ks ∨ x = k := by
  unfold addk
  split
  · rename_i h
    constructor
    · exact Or.inl
    · rintro (h' | rfl)
      · exact h'
      · exact h
  · simp
theorem keys_put (kvs : List (Key × V)) (k : Key) (v : V) : (putK kvs k v).map (·.1) = if (valV kvs k).isSome = true then kvs.map (·.1) else kvs.map (·.1) ++ [k] := by
  unfold putK
  rw [valV_any]
  split
  · rw [List.map_map]
    apply List.map_congr_left
    intro kv _
    show (if kv.1 = k then (kv.1, v) else kv).1 = kv.1
    split <;> rfl
  · rw [List.map_append]; rfl
theorem KvR.put (h : KvR R kvs ks B) {k : Str} {v : V} (r : R k v B) : KvR R (putK kvs (.inr k) v) (addk ks k) B := by
  refine ⟨?_, ?_, ?_⟩
  · rw [keys_put, h.keys]
    unfold addk
    by_cases hk : k ∈ ks
    · rw [if_pos ((keys_val h.keys k).mp hk), if_pos hk]
    · rw [if_neg (fun z => hk ((keys_val h.keys k).mpr z)), if_neg hk, List.map_append]; exact rfl
  · unfold addk
    split
    · exact h.nd
    · rename_i hk
      refine List.nodup_append.mpr ⟨h.nd, by simp, ?_⟩
      intro a ha b hb
      simp at hb
      subst hb
      exact fun e => hk (by rw [← e]; exact ha)
  · intro j u e
    rw [valV_put] at e
    by_cases q : (Sum.inr j : Key) = .inr k
    · rw [if_pos q] at e
      injection q with q
      injection e with e
      subst q e
      exact r
    · rw [if_neg q] at e
      exact h.at_ j u e
theorem val_ix : ∀ {kvs : List (Key × V)}, (kvs.map (·.1)).Nodup → ∀ {i : Nat} {k : Key} {v : V}, kvs[i]? = Option.some (k, v) → valV kvs k = Option.some v
  | [], _, i, k, v, h => by simp at h
  | p :: r, hn, 0, k, v, h => by
    simp at h
    subst h
    exact valV_pos rfl
  | p :: r, hn, i + 1, k, v, h => by
    obtain ⟨h1, h2⟩ := List.nodup_cons.mp hn
    have h' : r[i]? = Option.some (k, v) := by simpa using h
    rw [valV_neg (fun e => h1 (by
      show p.1 ∈ _
      rw [e]
      exact List.mem_map.mpr ⟨(k, v), List.mem_of_getElem? h', rfl⟩))]
    exact val_ix h2 h'
theorem nodup_inr : ∀ {ks : List Str}, ks.Nodup → (ks.map (Sum.inr : Str → Key)).Nodup
  | [], _ => List.nodup_nil
  | k :: ks, h => by
    obtain ⟨h1, h2⟩ := List.nodup_cons.mp h
    refine List.nodup_cons.mpr ⟨fun q => ?_, nodup_inr h2⟩
    obtain ⟨x, hx, e⟩ := List.mem_map.mp q
    injection e with e
    exact h1 (by rw [← e]; exact hx)
theorem KvR.ix (h : KvR R kvs ks B) {i : Nat} {q : Key} {v : V} (e : kvs[i]? = Option.some (q, v)) : ∃ k, q = .inr k ∧ ks[i]? = Option.some k ∧ valV kvs (.inr k) = Option.some v ∧ R k v B := by
  have e1 : (kvs.map (·.1))[i]? = Option.some q := by rw [List.getElem?_map, e]; exact rfl
  rw [h.keys, List.getElem?_map] at e1
  cases e2 : ks[i]? with
  | none => rw [e2] at e1; cases e1
  | some k =>
    rw [e2] at e1
    have e3 : (Sum.inr k : Key) = q := by injection e1
    subst e3
    have hv := val_ix (by rw [h.keys]; exact nodup_inr h.nd) e
    exact ⟨k, rfl, rfl, hv, h.at_ k v hv⟩
end
/-- a comprehension's scope -/
theorem blk_ok {N : List Str} {sc scope : Scope} (own : List (Str × Nat)) (h : decide (scope.kind = .function ∧ (∀ y ∈ scope.names, scope.names.lookup y.1 = some y.2) ∧ (∀ p ∈ own, N[p.2]? = some p.1) ∧ (∀ y ∈ scope.names, y.2 = .free → sc.names.lookup y.1 = some .cell ∨ sc.names.lookup y.1 = some .free) ∧
    ∀ y ∈ scope.names, y.2 = .local ∨ y.2 = .cell → y.1 ∈ own.map (·.1) ∨ y.1 ∉ N) = true) : BlkOk N sc scope own := by
  obtain ⟨h1, h2, h3, h4, h5⟩ := of_decide_eq_true h
  exact ⟨h1, h2, h3, h4, h5⟩
section
variable {X : Cx} {scope : Scope} {tg e src kx vx : Expr} {σ : St} {B M : Hp} {P : V → Hp → Hp → Prop} {vs : List Nat}
/-- {name: e for name in names} -/
theorem dcb_names {ns : List Str} {B1 M1 : Hp} (j : Nat) {x : Str} {tp kp : Pos} (hN : X.N.Nodup) (hn : ns.length ≤ 1000) (R : Str → V → Hp → Prop) (mono : ∀ k v B B', Ex B B' → R k v B → R k v B')
    (turn : ∀ name ∈ ns, ∀ B' M', Ex B1 B' → Sub M1 M' → ∀ s H0 C cl fp, EM (Blk X scope s H0 C cl fp) vx ((wipe σ vs).set j (some (.str name))) B' M' fun z B5 M5 => M5 = M' ∧ R name z B5)
    (fin : ∀ d kvs ks B' M', Ex B1 B' → B' d = none → M1 d = none → M' = upd M1 d (.dK kvs) → KvR R kvs ks B' → (∀ k, k ∈ ks ↔ k ∈ ns) → P (.ref d) B' M')
    (hw : ∀ x, wipe ((wipe σ vs).set j (some x)) vs = wipe σ vs := by intro _; rfl) (hi : X.N[j]? = some x := by rfl) (hx : Loc (relabel scope X.env) x := by first | exact Or.inl rfl | exact Or.inr rfl)
    (hf : (List.lookup x scope.names == some NameKind.cell) = true ∨ (relabel scope X.env).names.lookup x = some .local := by first | exact Or.inl rfl | exact Or.inr rfl)
    (hs : ∀ x : V, ((wipe σ vs).set j (some x))[j]? = some (some x) := by intro _; rfl) (hd : (x == ("__debug__" : Str)) = false := by decide) (hcd : (x == ("__classdict__" : Str)) = false := by decide) :
    DcB X scope (.Name x tp) [] (.Name x kp) vx vs σ (ns.map V.str).length (fun i => (ns.map V.str)[i]?) B1 M1 P := by
  refine ⟨by rw [List.length_map]; exact hn, fun i acc B => ∃ ks, KvR R acc ks B ∧ ∀ k, k ∈ ks ↔ k ∈ ns.take i, ?_, ⟨[], KvR.nil, fun k => by simp⟩, ?_, ?_⟩
  · rintro i acc B B' hB ⟨ks, h1, h2⟩
    exact ⟨ks, h1.up fun k v r => mono _ _ _ _ hB r, h2⟩
  · rintro i y acc B' M' hy hin hB hM ⟨ks, h1, h2⟩
    dsimp only at hy
    rw [List.getElem?_map] at hy
    cases e : ns[i]? with
    | none => rw [e] at hy; cases hy
    | some name =>
      rw [e] at hy
      have ey : y = .str name := by injection hy with hy; exact hy.symm
      subst ey
      refine bg_of fun s H0 C cl fp => gm_name j hN ⟨hw _, rfl, bt_nil ⟨rfl, ?_⟩⟩ hi hx hf
      rw [if_pos rfl]
      refine be_of fun s2 H2 C2 cl2 fp2 => em_name j hi (by rcases hx with h | h; exact .inl h; exact .inr (.inl h)) (hs _) ⟨rfl, be_of fun s3 H3 C3 cl3 fp3 => ?_⟩ hd hcd
      refine Emt.imp (turn name (List.mem_of_getElem? e) B' M' hB hM s3 H3 C3 cl3 fp3) fun z B5 M5 e5 ⟨hM5, hR⟩ => ⟨hM5, .inr name, rfl, addk ks name, (h1.up fun k v r => mono _ _ _ _ e5 r).put hR, fun k => ?_⟩
      rw [mem_addk, h2, List.take_add_one, e]
      simp
  · rintro d kvs B' M' hB h1 h2 h3 h4 ⟨ks, h5, h6⟩
    refine fin d kvs ks B' M' hB h3 h1 h4 h5 fun k => ?_
    rw [h6, List.length_map, List.take_length]
end
end LC
end LcKv
section LcForm
set_option maxHeartbeats 4000000
namespace LC
open PySem L2
open He (ga ma)
open He5 (wf)
/-- a valid name -/
structure VName (z : Str) : Prop where
  lo : 1 ≤ z.cps.size
  hi : z.cps.size ≤ 12
  ok : ∀ (i : Nat) (c : Nat), z.cps[i]? = some c → 97 ≤ c ∧ c ≤ 122
section
variable {P : Program} {w : World} {K : PySem.W.Frag} {mg : Str → Option Value} {base : Heap}
def spVal : Spc := fun vs B M Q => ∃ z : Str, vs = [.str z] ∧ VName z ∧ ∀ B', Ex B B' → Q (.bl true) B' M
theorem az (c : Nat) (h : 97 ≤ c ∧ c ≤ 122) : decide (c ∈ ("abcdefghijklmnopqrstuvwxyz" : Str).cps.toList) = true := by
  have e : ("abcdefghijklmnopqrstuvwxyz" : Str).cps.toList = [97, 98, 99, 100, 101, 102, 103, 104, 105, 106, 107, 108, 109, 110, 111, 112, 113, 114, 115, 116, 117, 118, 119, 120, 121, 122] := by decide +kernel
  rw [e]
  apply decide_eq_true
  simp only [List.mem_cons, List.not_mem_nil, or_false]
  omega
theorem all_true {ys : List V} {bs : List Bool} (h : ys = bs.map V.bl) (hb : ∀ b ∈ bs, b = true) : bs.all id = true := List.all_eq_true.mpr fun b hb' => hb b hb'
theorem bools_of {ys : List V} (h : ∀ (i : Nat) (y : V), ys[i]? = some y → y = .bl true) : ys = (List.replicate ys.length true).map V.bl := by
  apply List.ext_getElem?
  intro i
  rw [List.getElem?_map, List.getElem?_replicate]
  cases e : ys[i]? with
  | none =>
    have := List.getElem?_eq_none_iff.mp e
    rw [if_neg (by omega)]; rfl
  | some y =>
    have := (List.getElem?_eq_some_iff.mp e).1
    rw [if_pos this, h i y e]; rfl
theorem pr_valid (t : Tx K mg) {k : Nat} : Pr P w K mg base (k + 1) (ga K "valid_name") [] spVal := by
  refine pr_def t.f_valid_name sc_valid_name (fun _ _ _ _ _ _ us hl => match us, hl with | [_], _ => rfl) (by rintro _ _ _ _ ⟨z, rfl, _⟩; rfl) ?_
  rintro cdv A outer s H E vs B M Q hr ⟨z, rfl, hz, hq⟩
  refine sm_one (s1_ret (em_and ?_))
  refine em_isi t.u_isinstance (am_cons (em_nm 0 (am_cons (em_bty t.u_str PyProof.Rows.boot_str (am_nil ⟨_, _, _, _, true, rfl, .ty "str", .base (.str z), kit_ty (by decide +kernel), ?_⟩))))) tyx_up
  refine ⟨true, rfl, ift rfl (em_and ?_)⟩
  have e1 : decide ((1 : Int) ≤ (z.length : Nat)) = true := decide_eq_true (by have := hz.lo; show (1 : Int) ≤ (z.cps.size : Nat); omega)
  have e2 : decide (((z.length : Nat) : Int) ≤ 12) = true := decide_eq_true (by have := hz.hi; show ((z.cps.size : Nat) : Int) ≤ 12; omega)
  have hsz : z.length ≤ sizeLine := by have h1 := hz.hi; have h2 : (12 : Nat) ≤ sizeLine := by decide
                                       show z.cps.size ≤ sizeLine; omega
  refine em_chain op_le op_le (em_int (em_lenS t.u_len (em_nm 0 ⟨z, rfl, hsz, om_I0 ⟨_, rfl, ?_⟩⟩)))
  refine ift e1 (em_int (om_I0 ⟨_, rfl, ift e2 (em_one ?_)⟩))
  obtain ⟨u, hu⟩ := t.c_LETTERS_forms
  refine em_all rfl t.u_all (em_lcsB rfl sc_valid_name.nd (blk_ok (N := n_valid_name) (sc := defScope s_valid_name) [("letter", 1)] (by decide +kernel)) (em_nm 0 ⟨z, rfl, ?_⟩))
  refine lcb_map 1 sc_valid_name.nd (by have := hz.hi; omega) (fun _ y _ => y = .bl true) (fun _ _ _ _ _ h => h) ?_ ?_
  · rintro i x B' M' hx _ _ _ s H0 C cl fp
    cases e : z.cps[i]? with
    | none => rw [e] at hx; cases hx
    | some c =>
      rw [e] at hx
      have ex : x = .str ⟨#[c]⟩ := by injection hx with hx; exact hx.symm
      subst ex
      refine em_cmp op_in_sign (em_nm 1 (em_glob (v := .str "abcdefghijklmnopqrstuvwxyz") hu ⟨u, rfl⟩ (om_inS ⟨c, _, rfl, rfl, ?_⟩)))
      exact ⟨rfl, by rw [az c (hz.ok i c e)]⟩
  · rintro d ys B' hB hd hl hy
    refine ⟨d, List.replicate ys.length true, rfl, ?_, ?_⟩
    · have hd2 := bools_of hy ▸ hd
      exact SqL.of (jn_b (by rw [← bools_of hy]; exact hd))
    · have e : (List.replicate ys.length true).all id = true := List.all_eq_true.mpr fun b hb => (List.mem_replicate.mp hb).2
      rw [e]
      exact hq B' hB
end
end LC
end LcForm
section LcForm2
set_option maxHeartbeats 4000000
namespace LC
open PySem L2
open He (ga ma)
open He5 (wf)
/-- the names that may occur -/
structure UOk (U : List Str) : Prop where
  nd : U.Nodup
  len : U.length < 30
  ok : ∀ z ∈ U, VName z
/-- a dict of a form's shares -/
structure ShAt (K : PySem.W.Frag) (U : List Str) (B : Hp) (d : Addr) (φ : Str → Rat) (ks : List Str) : Prop where
  at_ : ∃ kvs, B d = some (.dK kvs) ∧ KvR (fun k v B => RatAt K B v (φ k)) kvs ks B
  sub : ∀ k ∈ ks, k ∈ U
  nz : ∀ k, k ∈ ks ↔ φ k ≠ 0
def forO (K : PySem.W.Frag) (dx d : Addr) : HO := .ins (ga K "Form") dx [("shares", .ref d)]
def FormAt (K : PySem.W.Frag) (U : List Str) (B : Hp) (v : V) (φ : Str → Rat) : Prop := ∃ a dx d ks, v = .ref a ∧ B a = some (forO K dx d) ∧ ShAt K U B d φ ks
theorem ShAt.up {K : PySem.W.Frag} {U : List Str} {B B' : Hp} {d : Addr} {φ : Str → Rat} {ks : List Str} (h : ShAt K U B d φ ks) (e : Ex B B') : ShAt K U B' d φ ks := by
  obtain ⟨⟨kvs, h1, h2⟩, h3, h4⟩ := h
  exact ⟨⟨kvs, e _ _ h1, h2.up fun k v r => r.up e⟩, h3, h4⟩
theorem FormAt.up {K : PySem.W.Frag} {U : List Str} {B B' : Hp} {v : V} {φ : Str → Rat} (h : FormAt K U B v φ) (e : Ex B B') : FormAt K U B' v φ := by
  obtain ⟨a, dx, d, ks, h1, h2, h3⟩ := h
  exact ⟨a, dx, d, ks, h1, e _ _ h2, h3.up e⟩
theorem ShAt.len {K : PySem.W.Frag} {U : List Str} {B : Hp} {d : Addr} {φ : Str → Rat} {ks : List Str} (h : ShAt K U B d φ ks) (u : UOk U) : ks.length < 30 := by
  obtain ⟨⟨kvs, h1, h2⟩, h3, h4⟩ := h
  have := nodup_len h2.nd h3
  have := u.len
  omega
/-- a dict handed to Form -/
def GivAt (K : PySem.W.Frag) (U : List Str) (B : Hp) (v : V) (φ : Str → Rat) : Prop := (v = .non ∧ ∀ k, φ k = 0) ∨
  ∃ d kvs ks, v = .ref d ∧ B d = some (.dK kvs) ∧ KvR (fun k v B => NumAt K B v (φ k)) kvs ks B ∧ (∀ k ∈ ks, k ∈ U) ∧ (∀ k, k ∉ ks → φ k = 0) ∧ ∀ k ∈ ks, Sz (φ k)
def spF (K : PySem.W.Frag) (U : List Str) : Spc := fun vs B M Q => ∃ a dx v φ, vs = [.ref a, v] ∧ M a = some (.ins (ga K "Form") dx []) ∧ GivAt K U B v φ ∧ ∀ B' d ks, Ex B B' → ShAt K U B' d φ ks → Q .non B' (upd M a (forO K dx d))
section
variable {P : Program} {w : World} {K : PySem.W.Frag} {mg : Str → Option Value} {base : Heap} {U : List Str}
theorem sz0 : Sz 0 := ⟨by decide, by decide⟩
/-- is None, as a test -/
theorem tm_isN {X : Cx} {a : Expr} {σ : St} {B M : Hp} {P : Bool → Hp → Hp → Prop} {j : Nat} {p2 pos : Pos} (h : EM X a σ B M fun x B1 M1 => P (decide (x = .non)) B1 M1) : TM X (.Compare a [.Is] [.Constant .none j p2] pos) σ B M P :=
  tm_of (pt_cmp (pc_isN pe_w) (by rfl)) fun H w Q k => h H w _ fun x B1 M1 H1 g q => ⟨_, rfl, k _ _ _ _ g q⟩
theorem tm_notN {X : Cx} {a : Expr} {σ : St} {B M : Hp} {P : Bool → Hp → Hp → Prop} {j : Nat} {p2 pos : Pos} (h : EM X a σ B M fun x B1 M1 => P (!decide (x = .non)) B1 M1) : TM X (.Compare a [.IsNot] [.Constant .none j p2] pos) σ B M P :=
  tm_of (pt_cmp (pc_notN pe_w) (by rfl)) fun H w Q k => h H w _ fun x B1 M1 H1 g q => ⟨_, rfl, k _ _ _ _ g q⟩
/-- {} known for good -/
theorem em_dnewB {X : Cx} {σ : St} {B M : Hp} {P : V → Hp → Hp → Prop} {pos : Pos} (h : ∀ d, B d = none → P (.ref d) (upd B d (.dK [])) M) : EM X (.Dict [] [] pos) σ B M P :=
  Emt.fzN (em_dnewK fun d b m => ⟨d, _, upd_same, fun hb => by rw [del_upd m]; exact h d hb⟩)
theorem bd_finit (R : RP P w K mg base) (u : UOk U) : ∀ (cdv : Value) (A : Around) (outer : List Env) (s : Shared) (H : Hp) (E : XK) (vs : List V) (B M : Hp) (Q : V → Hp → Hp → Prop), Room 45 (A.deeper (PyProof.Rows.envOfC "Form.__init__" (defScope s_Form_init) s.heap.objs.size (ma K (ga K "Form") "__init__") cdv)) → spF K U vs B M Q →
      SM (cxOf CX0 P w K mg base n_Form_init "Form.__init__" (defScope s_Form_init) (ma K (ga K "Form") "__init__") cdv A outer s H E).nox (defBody s_Form_init) (start n_Form_init vs) B M { nx := fun _ B' M' => Q .non B' M', rt := Q } := by
  rintro cdv A outer s H E vs B M Q hr ⟨a, dx, v, φ, rfl, ha, hg, hq⟩
  have t := R.t
  have main : ∀ (B0 : Hp) d kvs ks, Ex B B0 → B0 d = some (.dK kvs) → KvR (fun k v B => NumAt K B v (φ k)) kvs ks B0 → (∀ k ∈ ks, k ∈ U) → (∀ k, k ∉ ks → φ k = 0) → (∀ k ∈ ks, Sz (φ k)) →
      SM (cxOf CX0 P w K mg base n_Form_init "Form.__init__" (defScope s_Form_init) (ma K (ga K "Form") "__init__") cdv A outer s H E).nox ((defBody s_Form_init).drop 1) [some (.ref a), some v, some (.ref d), none, none] B0 M { nx := fun _ B' M' => Q .non B' M', rt := Q } := by
    intro B0 d kvs ks hB0 hd hk hu hz hs
    have hkl : ks.length < 30 := by have := nodup_len hk.nd hu; have := u.len; omega
    -- the names are checked
    refine sm_cons (s1_for PassesOwn.never rfl (em_sortD rfl t.u_sorted (em_nm 2 ⟨d, kvs, ks, rfl, .inl (jn_b hd), hk.keys, by omega, fun ys l hp _ hl _ => ?_⟩)))
    have hd1 : (upd B0 l (.lst (ys.map V.str))) d = some (.dK kvs) := Ex.up hl _ _ hd
    refine ⟨l, ys.map V.str, rfl, SqL.of (jn_b upd_same), fun i σ B' M' => ∃ o, σ = [some (.ref a), some v, some (.ref d), o, none] ∧ M' = M ∧ Ex (upd B0 l (.lst (ys.map V.str))) B', ⟨_, rfl, rfl, Ex.id'⟩, ?_, ?_, ?_⟩
    · rintro i σ B' M' _ ⟨o, rfl, rfl, hB⟩
      exact SqL.of (jn_b (hB _ _ upd_same))
    · rintro i x σ B' M' hi _ ⟨o, rfl, rfl, hB⟩
      rw [List.getElem?_map] at hi
      cases e : ys[i]? with
      | none => rw [e] at hi; cases hi
      | some y =>
        rw [e] at hi
        have ex : x = .str y := by injection hi with hi; exact hi.symm
        subst ex
        refine gm_name 3 sc_Form_init.nd (sm_one (s1_if (tm_not (tm_val (em_call (pr_valid t (k := 0)) (hr.mono (by decide)) t.g_valid_name (am_cons (em_nm 3 (am_nil ⟨y, rfl, u.ok y (hu y (hp.mem_iff.mp (List.mem_of_getElem? e))), fun B2 hB2 => ?_⟩))))))))
        exact ⟨true, rfl, sm_nil ⟨_, rfl, rfl, hB.tr hB2⟩⟩
    rintro σ B1 M' _ ⟨o, rfl, rfl, hB1⟩
    have hB01 : Ex B0 B1 := (Ex.up hl).tr hB1
    -- exact
    refine sm_cons (s1_set 4 sc_Form_init.nd (em_dcB rfl sc_Form_init.nd (blk_ok (N := n_Form_init) (sc := defScope s_Form_init) [("name", 3)] (by decide +kernel)) (em_sortD rfl t.u_sorted (em_nm 2 ⟨d, kvs, ks, rfl, .inl (jn_b (hB01 _ _ hd)), hk.keys, by omega, fun ys2 l2 hp2 _ hl2 _ => ?_⟩))))
    refine ⟨l2, ys2.map V.str, rfl, upd_same, dcb_names 3 sc_Form_init.nd (by have := hp2.length_eq; omega) (fun k v B => RatAt K B v (φ k)) (fun _ _ _ _ e r => r.up e) ?_ ?_⟩
    · rintro name hn B2 M2 hB2 hM2 s2 H2 C2 cl2 fp2
      have hB02 : Ex B0 B2 := (hB01.tr (Ex.up hl2)).tr hB2
      have hmem : name ∈ ks := hp2.mem_iff.mp hn
      obtain ⟨u2, hv1, hv2⟩ := hk.some hmem
      refine em_Radd R (hr.mono (by decide)) (em_dget (u1 hr) (em_nm 2 (em_nm 3 ⟨d, u2, rfl, .inl ⟨kvs, .inr name, .inl (jn_b (hB02 _ _ hd)), rfl, hv1.symm⟩, ?_⟩)))
      refine em_R1 R (hr.mono (by decide)) (em_int ⟨0, rfl, fun v0 B3 hB3 hv0 => ⟨φ name, 0, .inl ⟨(hv2.up (hB02.tr hB3)), hv0⟩, hs name hmem, sz0, fun v4 B4 hB4 hv4 => ⟨rfl, ?_⟩⟩⟩)
      have e : φ name + 0 = φ name := by grind
      rwa [e] at hv4
    intro d2 kvs2 ks2 B2 M2 hB2 hnb hnm hM2 hk2 hks2
    subst hM2
    have hB02 : Ex B0 B2 := (hB01.tr (Ex.up hl2)).tr hB2
    have ne : a ≠ d2 := fun e => by rw [← e, ha] at hnm; cases hnm
    have hk2l : kvs2.length ≤ 1000 := by
      rw [hk2.len]
      have := nodup_len hk2.nd fun k hk => hp2.mem_iff.mp ((hks2 k).mp hk)
      omega
    refine sm_one (s1_fld (Emt.fzN (em_dckB rfl sc_Form_init.nd (blk_ok (N := n_Form_init) (sc := defScope s_Form_init) [("name", 3)] (by decide +kernel)) upd_same hk2l fun M0 od hM0 => em_nm 4 ⟨rfl, rfl, hnb, ?_⟩)))
    refine ⟨fun i acc B => ∃ ks', KvR (fun k v B => RatAt K B v (φ k)) acc ks' B ∧ ∀ k, k ∈ ks' ↔ k ∈ ks2.take i ∧ φ k ≠ 0, ?_, ⟨[], KvR.nil, fun k => by simp⟩, ?_, ?_⟩
    · rintro i acc B B' hB ⟨ks', h1, h2⟩
      exact ⟨ks', h1.up fun k v r => r.up hB, h2⟩
    · rintro i q v' acc B3 M3 hi hB3 hM3 hb3 ⟨ks', h1, h2⟩
      obtain ⟨name, rfl, hki, hv1, hv2⟩ := hk2.ix hi
      have fr : jn B3 M3 d2 = some (.frz od (.dK kvs2)) := jn_m (hM3 _ _ (by rw [hM0]; exact upd_same)) hb3
      refine bg_of fun s2 H2 C2 cl2 fp2 => gm_name 3 sc_Form_init.nd ⟨rfl, rfl, bt_one fun s3 H3 C3 cl3 fp3 => tm_cmp op_ne (em_rtop t (em_dget (u1 hr) (em_nm 4 (em_nm 3 ⟨d2, v', rfl, .inl ⟨kvs2, .inr name, .inr ⟨od, fr⟩, rfl, hv1.symm⟩, ?_⟩))))⟩
      refine ⟨φ name, hv2.up hB3, em_int (om_ne rfl ⟨_, rfl, rfl, ?_⟩)⟩
      by_cases h0 : φ name = 0
      · refine iff' ?_ ⟨ks', h1, fun k => ?_⟩
        · show (!decide (V.int (φ name).num = V.int 0)) = false
          rw [h0]; rfl
        · rw [h2, List.take_add_one, hki]
          constructor
          · rintro ⟨h3, h4⟩
            exact ⟨List.mem_append_left _ h3, h4⟩
          · rintro ⟨h3, h4⟩
            rcases List.mem_append.mp h3 with h3 | h3
            · exact ⟨h3, h4⟩
            · simp at h3
              subst h3
              exact absurd h0 h4
      · refine ift ?_ (be_of fun s4 H4 C4 cl4 fp4 => em_nm 3 ⟨rfl, be_of fun s5 H5 C5 cl5 fp5 => em_dget (u1 hr) (em_nm 4 (em_nm 3 ⟨d2, v', rfl, .inl ⟨kvs2, .inr name, .inr ⟨od, fr⟩, rfl, hv1.symm⟩, rfl, .inr name, rfl, addk ks' name, h1.put (hv2.up hB3), fun k => ?_⟩))⟩)
        · show (!decide (V.int (φ name).num = V.int 0)) = true
          rw [decide_eq_false]
          · rfl
          · intro e
            injection e with e
            exact num_ne' h0 e
        · rw [mem_addk, h2, List.take_add_one, hki]
          constructor
          · rintro (⟨h3, h4⟩ | rfl)
            · exact ⟨List.mem_append_left _ h3, h4⟩
            · exact ⟨by simp, h0⟩
          · rintro ⟨h3, h4⟩
            rcases List.mem_append.mp h3 with h3 | h3
            · exact .inl ⟨h3, h4⟩
            · simp at h3
              exact .inr h3
    · rintro D ys3 B3 hB3 hD ⟨ks', h1, h2⟩
      refine ⟨d2, _, upd_same, fun hb3 => ?_⟩
      rw [del_upd hnm]
      refine em_nm 0 ⟨a, _, dx, _, rfl, ha, t.cl_Form, t.no_Form_shares, by decide, ?_⟩
      refine hq _ D ks' (((hB0.tr hB02).tr hB3).tr (Ex.up hb3)) ⟨⟨ys3, Ex.up hb3 _ _ hD, h1.up fun k v r => r.up (Ex.up hb3)⟩, ?_, ?_⟩
      · intro k hk'
        obtain ⟨h3, _⟩ := (h2 k).mp hk'
        exact hu k (hp2.mem_iff.mp ((hks2 k).mp (List.mem_of_mem_take h3)))
      · intro k
        rw [h2]
        have hl3 : kvs2.length = ks2.length := hk2.len
        rw [hl3, List.take_length, hks2, hp2.mem_iff]
        constructor
        · exact fun h => h.2
        · exact fun h => ⟨Classical.byContradiction fun hn => h (hz k hn), h⟩
  rcases hg with ⟨rfl, h0⟩ | ⟨d, kvs, ks, rfl, hd, hk, hu, hz, hs⟩
  · refine sm_cons (s1_set 2 sc_Form_init.nd (em_if (tm_isN (em_nm 1 (ift rfl (em_dnewB fun d hd => ?_))))))
    exact main _ d [] [] (Ex.up hd) upd_same KvR.nil (fun k h => by simp at h) (fun k _ => h0 k) (fun k h => by simp at h)
  · refine sm_cons (s1_set 2 sc_Form_init.nd (em_if (tm_isN (em_nm 1 (iff' rfl (em_nm 1 ?_))))))
    exact main B d kvs ks Ex.id' hd hk hu hz hs
end
end LC
end LcForm2
section LcForm3
set_option maxHeartbeats 4000000
namespace LC
open PySem L2
open He (ga ma)
open He5 (wf)
section
variable {P : Program} {w : World} {K : PySem.W.Frag} {mg : Str → Option Value} {base : Heap} {U : List Str}
theorem pr_finit (R : RP P w K mg base) (u : UOk U) : Pr P w K mg base 46 (ma K (ga K "Form") "__init__") [] (spF K U) := by
  refine pr_dfl0 R.t.f_Form_init (by exact sc_Form_init) (by simp) (fun T _ _ _ _ _ _ us its h1 h2 => ?_) ?_ (bd_finit R u)
  · match us, its, h1, h2 with
    | [_, _], [_], _, _ => exact ⟨_, rfl, rfl⟩
  · rintro vs B M Q ⟨a, dx, v, φ, rfl, _⟩; rfl
theorem pr_finit0 (R : RP P w K mg base) (u : UOk U) : Pr P w K mg base 46 (ma K (ga K "Form") "__init__") [.non] (spF K U) := by
  refine pr_dfl (j := 0) R.t.f_Form_init (by exact sc_Form_init) 1 (by simp) (by rfl) (fun T _ _ _ _ _ _ us its h1 h2 => ?_) ?_ (bd_finit R u)
  · match us, its, h1, h2 with
    | [_], [_], _, _ => exact ⟨_, rfl, rfl⟩
  · rintro vs B M Q ⟨a, dx, v, φ, rfl, _⟩; rfl
/-- x.share(name), x.names() -/
def spShare (K : PySem.W.Frag) (U : List Str) : Spc := fun vs B M Q => ∃ x name φ, vs = [x, .str name] ∧ FormAt K U B x φ ∧ ∀ v B', Ex B B' → RatAt K B' v (φ name) → Q v B' M
def spNames (K : PySem.W.Frag) (U : List Str) : Spc := fun vs B M Q => ∃ x φ, vs = [x] ∧ FormAt K U B x φ ∧ ∀ B' l (ks : List Str), Ex B B' → B' l = some (.lst (ks.map V.str)) → ks.Nodup → (∀ k ∈ ks, k ∈ U) → (∀ k, k ∈ ks ↔ φ k ≠ 0) → Q (.ref l) B' M
theorem pr_share (R : RP P w K mg base) : Pr P w K mg base 46 (ma K (ga K "Form") "share") [] (spShare K U) := by
  refine pr_def R.t.f_Form_share sc_Form_share (fun _ _ _ _ _ _ us hl => match us, hl with | [_, _], _ => rfl) (by rintro _ _ _ _ ⟨x, n, φ, rfl, _⟩; rfl) ?_
  rintro cdv A outer s H E vs B M Q hr ⟨x, name, φ, rfl, ⟨a, dx, d, ks, rfl, ha, hsh⟩, hq⟩
  obtain ⟨⟨kvs, hd, hk⟩, hsub, hnz⟩ := hsh
  refine sm_one (s1_ret (em_dget2 (u1 hr) (em_fld (em_nm 0 ⟨a, _, dx, _, _, rfl, jn_b ha, R.t.cl_Form, R.t.no_Form_shares, rfl, d, rfl, ⟨kvs, .inl (jn_b hd)⟩, ?_⟩))))
  refine em_nm 1 (em_R1 R (hr.mono (by decide)) (em_int ⟨0, rfl, fun v0 B1 hB1 hv0 => ?_⟩))
  refine ⟨_, .inl ⟨kvs, .inr name, .inl (jn_b (hB1 _ _ hd)), rfl, rfl⟩, ?_⟩
  by_cases hn : name ∈ ks
  · obtain ⟨u, hu, hr2⟩ := hk.some hn
    rw [hu]
    exact hq u B1 hB1 (hr2.up hB1)
  · rw [hk.none hn]
    refine hq v0 B1 hB1 ?_
    have : φ name = 0 := Classical.byContradiction fun h => hn ((hnz name).mpr h)
    rw [this]
    exact hv0
theorem kvs_strs {R : Str → V → Hp → Prop} {kvs : List (Key × V)} {ks : List Str} {B : Hp} (h : KvR R kvs ks B) : (kvs.map fun kv => kV kv.1) = ks.map V.str := by
  have e : (kvs.map fun kv => kV kv.1) = (kvs.map (·.1)).map kV := by rw [List.map_map]; rfl
  rw [e, h.keys, List.map_map]; rfl
theorem pr_names (R : RP P w K mg base) {k : Nat} : Pr P w K mg base (k + 1) (ma K (ga K "Form") "names") [] (spNames K U) := by
  refine pr_def R.t.f_Form_names sc_Form_names (fun _ _ _ _ _ _ us hl => match us, hl with | [_], _ => rfl) (by rintro _ _ _ _ ⟨x, φ, rfl, _⟩; rfl) ?_
  rintro cdv A outer s H E vs B M Q hr ⟨x, φ, rfl, ⟨a, dx, d, ks, rfl, ha, hsh⟩, hq⟩
  obtain ⟨⟨kvs, hd, hk⟩, hsub, hnz⟩ := hsh
  refine sm_one (s1_ret (em_listD rfl R.t.u_list (em_fld (em_nm 0 ⟨a, _, dx, _, _, rfl, jn_b ha, R.t.cl_Form, R.t.no_Form_shares, rfl, d, kvs, rfl, jn_b hd, fun l hl hm => ?_⟩))))
  rw [kvs_strs hk]
  exact hq _ l ks (Ex.up hl) upd_same hk.nd hsub hnz
/-- what of the forms the methods of Form use -/
structure FB (P : Program) (w : World) (K : PySem.W.Frag) (mg : Str → Option Value) (base : Heap) (U : List Str) : Prop where
  r : RP P w K mg base
  u : UOk U
  init : Pr P w K mg base 46 (ma K (ga K "Form") "__init__") [] (spF K U)
  init0 : Pr P w K mg base 46 (ma K (ga K "Form") "__init__") [.non] (spF K U)
  share : Pr P w K mg base 46 (ma K (ga K "Form") "share") [] (spShare K U)
  names : Pr P w K mg base 46 (ma K (ga K "Form") "names") [] (spNames K U)
theorem fb_of (R : RP P w K mg base) (u : UOk U) : FB P w K mg base U := ⟨R, u, pr_finit R u, pr_finit0 R u, pr_share R, pr_names R⟩
end
theorem FormAt.obj {K : PySem.W.Frag} {U : List Str} {B M : Hp} {v : V} {φ : Str → Rat} (h : FormAt K U B v φ) {m : Str} (hm : ∀ x : V, [(("shares" : Str), x)].lookup m = none) : ∃ a dx fs, v = .ref a ∧ jn B M a = some (.ins (ga K "Form") dx fs) ∧ fs.lookup m = none := by
  obtain ⟨a, dx, d, ks, hv, hb, _⟩ := h
  exact ⟨a, dx, _, hv, jn_b hb, hm _⟩
theorem FormAt.obj' {K : PySem.W.Frag} {U : List Str} {B M : Hp} {v : V} {φ : Str → Rat} (h : FormAt K U B v φ) : ∃ a dx fs, v = .ref a ∧ jn B M a = some (.ins (ga K "Form") dx fs) := by
  obtain ⟨a, dx, d, ks, hv, hb, _⟩ := h
  exact ⟨a, dx, _, hv, jn_b hb⟩
theorem fin_in {K : PySem.W.Frag} {U : List Str} {P : V → Hp → Hp → Prop} {φ : Str → Rat} {v : V} {B2 M2 : Hp} (hg : GivAt K U B2 v φ) (h : ∀ v' B', Ex B2 B' → FormAt K U B' v' φ → P v' B' M2) (x dx : Addr) (b1 : B2 x = none) (m1 : M2 x = none) (b2 : B2 dx = none) :
    spF K U [.ref x, v] (upd B2 dx (.own x)) (upd M2 x (.ins (ga K "Form") dx [])) fun v' B' M' => v' = .non ∧ ∃ p o, M' p = some o ∧ (B' p = none → P (.ref x) (upd B' p o) (del M' p)) := by
  refine ⟨x, dx, v, φ, rfl, upd_same, ?_, fun B' d ks hB hsh => ⟨rfl, x, _, upd_same, fun hn => ?_⟩⟩
  · rcases hg with h0 | ⟨d, kvs, ks, hv, hd, hk, h1, h2, h3⟩
    · exact .inl h0
    · exact .inr ⟨d, kvs, ks, hv, Ex.up b2 _ _ hd, hk.up fun k v r => r.up (Ex.up b2), h1, h2, h3⟩
  · rw [upd_twice, del_upd m1]
    exact h _ _ (((Ex.up b2).tr hB).up' b1) ⟨x, dx, d, ks, rfl, upd_same, hsh.up (Ex.up hn)⟩
section
variable {X : Cx} {a b e o : Expr} {es : List Expr} {σ : St} {B M : Hp} {P : V → Hp → Hp → Prop} {pos apos np : Pos} {U : List Str} (F : FB X.prog X.w X.K X.mg X.base U)
include F
/-- Form(e), Form() -/
theorem em_F1 (hr : Room 47 X.A) (h : EM X e σ B M fun v B1 M1 => ∃ φ, GivAt X.K U B1 v φ ∧ ∀ v' B', Ex B1 B' → FormAt X.K U B' v' φ → P v' B' M1) {p : Pos} (hg : Gl X "Form" := by rfl)
    (he : starEach [e] X.env = (false, eval e X.env) :: starEach [] X.env := by rfl) : EM X (.Call (.Name "Form" p) [e] [] pos) σ B M P :=
  Emt.fzN (em_make F.init hr F.r.t.mk_Form F.r.t.g_Form (am_cons (h.imp fun v B1 M1 _ ⟨φ, hg, hv⟩ => am_nil fun z dz b1 m1 b2 m2 ne => fin_in hg hv z dz b1 m1 b2) he) hg (by decide) he)
theorem em_F0 (hr : Room 47 X.A) (h : ∀ v' B', Ex B B' → FormAt X.K U B' v' (fun _ => 0) → P v' B' M) {p : Pos} (hg : Gl X "Form" := by rfl) : EM X (.Call (.Name "Form" p) [] [] pos) σ B M P :=
  Emt.fzN (em_make0 F.init0 hr F.r.t.mk_Form F.r.t.g_Form (fun z dz b1 m1 b2 m2 ne => fin_in (.inl ⟨rfl, fun _ => rfl⟩) h z dz b1 m1 b2) hg (by decide))
theorem em_share (hr : Room 47 X.A) {pl : Sem Bool} (h : EM X o σ B M fun x B1 M1 => ∃ φ, FormAt X.K U B1 x φ ∧ EM X e σ B1 M1 fun y B2 M2 => ∃ name, y = .str name ∧ ∀ v B', Ex B2 B' → RatAt X.K B' v (φ name) → P v B' M2)
    (hst : starEach [e] X.env = (false, eval e X.env) :: starEach [] X.env := by rfl)
    (ht : eval (.Call (.Attribute o ("share" : Str) apos) [e] [] pos) X.env = (do
      let ov ← eval o X.env
      standAt apos.atName
      let (f, first) ← holding [ov] (getMethod ov ("share" : Str) pl)
      callWith pos f first (backTo pos (starEach [e] X.env)) (backToKw pos (keywordEach [] X.env))) := by rfl) : EM X (.Call (.Attribute o ("share" : Str) apos) [e] [] pos) σ B M P :=
  em_meth F.share (hr.mono (by decide)) F.r.t.cl_Form F.r.t.m_Form_share (h.imp fun x B1 M1 _ ⟨φ, hx, q⟩ => by
    obtain ⟨a, dx, fs, h1, h2, h3⟩ := hx.obj (M := M1) (m := "share") (fun _ => rfl)
    exact ⟨a, dx, fs, h1, h2, h3, am_cons (q.imp fun y B2 M2 hB2 ⟨name, hy, hv⟩ => am_nil (by subst hy; exact ⟨x, name, φ, rfl, hx.up hB2, hv⟩)) hst⟩) hst (by rfl) ht
theorem em_names (hr : Room 46 X.A) {pl : Sem Bool} (h : EM X o σ B M fun x B1 M1 => ∃ φ, FormAt X.K U B1 x φ ∧ ∀ B' l (ks : List Str), Ex B1 B' → B' l = some (.lst (ks.map V.str)) → ks.Nodup → (∀ k ∈ ks, k ∈ U) → (∀ k, k ∈ ks ↔ φ k ≠ 0) → P (.ref l) B' M1)
    (ht : eval (.Call (.Attribute o ("names" : Str) apos) [] [] pos) X.env = (do
      let ov ← eval o X.env
      standAt apos.atName
      let (f, first) ← holding [ov] (getMethod ov ("names" : Str) pl)
      callWith pos f first (backTo pos (starEach [] X.env)) (backToKw pos (keywordEach [] X.env))) := by rfl) : EM X (.Call (.Attribute o ("names" : Str) apos) [] [] pos) σ B M P :=
  em_meth0 F.names hr F.r.t.cl_Form F.r.t.m_Form_names (h.imp fun x B1 M1 _ ⟨φ, hx, q⟩ => by
    obtain ⟨a, dx, fs, h1, h2, h3⟩ := hx.obj (M := M1) (m := "names") (fun _ => rfl)
    exact ⟨a, dx, fs, h1, h2, h3, x, φ, rfl, hx, q⟩) ht
/-- {name: e for name in list of names}: known for good, as Form takes it -/
theorem em_giv {scope : Scope} {own : List (Str × Nat)} {x : Str} {src vx : Expr} {tp kp : Pos} (j : Nat) (hc : X.calm = true) (hN : X.N.Nodup) (ok : BlkOk X.N X.env.scope scope own)
    (h : EM X src σ B M fun v B1 M1 => ∃ a, ∃ ns : List Str, ∃ φ : Str → Rat, v = .ref a ∧ B1 a = some (.lst (ns.map V.str)) ∧ ns.length ≤ 1000 ∧ (∀ k ∈ ns, k ∈ U) ∧ (∀ k, k ∉ ns → φ k = 0) ∧ (∀ k ∈ ns, Sz (φ k)) ∧
      (∀ name ∈ ns, ∀ B' M', Ex B1 B' → Sub M1 M' → ∀ s H0 C cl fp, EM (Blk X scope s H0 C cl fp) vx ((wipe σ (own.map (·.2))).set j (some (.str name))) B' M' fun z B5 M5 => M5 = M' ∧ NumAt X.K B5 z (φ name)) ∧
      ∀ v' B', Ex B1 B' → GivAt X.K U B' v' φ → P v' B' M1)
    (hs : ∀ x, foldedSetIterable src X.env x = pure x := by intro _; rfl)
    (hw : ∀ x, wipe ((wipe σ (own.map (·.2))).set j (some x)) (own.map (·.2)) = wipe σ (own.map (·.2)) := by intro _; rfl) (hi : X.N[j]? = some x := by rfl) (hx : Loc (relabel scope X.env) x := by first | exact Or.inl rfl | exact Or.inr rfl)
    (hf : (List.lookup x scope.names == some NameKind.cell) = true ∨ (relabel scope X.env).names.lookup x = some .local := by first | exact Or.inl rfl | exact Or.inr rfl)
    (hsj : ∀ x : V, ((wipe σ (own.map (·.2))).set j (some x))[j]? = some (some x) := by intro _; rfl) (hd : (x == ("__debug__" : Str)) = false := by decide) (hcd : (x == ("__classdict__" : Str)) = false := by decide) :
    EM X (.DictComp (.Name x kp) vx [⟨.Name x tp, src, [], 0⟩] scope pos) σ B M P :=
  Emt.fzN (em_dcB hc hN ok (h.imp fun v B1 M1 _ ⟨a, ns, φ, hv, ha, hl, hu, hz, hsz, hturn, hq⟩ => ⟨a, ns.map V.str, hv, ha, dcb_names j hN hl (fun k v B => NumAt X.K B v (φ k)) (fun _ _ _ _ e r => r.up e) hturn (fun d kvs ks B' M' hB hb hm hM hk hks => by
    subst hM
    refine ⟨d, _, upd_same, fun _ => ?_⟩
    rw [del_upd hm]
    refine hq _ _ (hB.tr (Ex.up hb)) (.inr ⟨d, kvs, ks, rfl, upd_same, hk.up fun k v r => r.up (Ex.up hb), fun k hk' => hu k ((hks k).mp hk'), fun k hk' => hz k fun z => hk' ((hks k).mpr z), fun k hk' => hsz k ((hks k).mp hk')⟩)) hw hi hx hf hsj hd hcd⟩) hs)
end
end LC
end LcForm3
section LcForm4
set_option maxHeartbeats 4000000
namespace LC
open PySem L2
open He (ga ma)
open He5 (wf)
abbrev SzF (φ : Str → Rat) : Prop := ∀ k, Sz (φ k)
section
variable {P : Program} {w : World} {K : PySem.W.Frag} {mg : Str → Option Value} {base : Heap} {U : List Str}
theorem str_len (ks : List Str) : (ks.map V.str).length = ks.length := List.length_map ..
/-- two forms in, a form out -/
def spFF (K : PySem.W.Frag) (U : List Str) (g : Rat → Rat → Rat) : Spc := fun vs B M Q => ∃ x y φ ψ, vs = [x, y] ∧ FormAt K U B x φ ∧ FormAt K U B y ψ ∧ SzF φ ∧ SzF ψ ∧ SzF (fun k => g (φ k) (ψ k)) ∧ ∀ v B', Ex B B' → FormAt K U B' v (fun k => g (φ k) (ψ k)) → Q v B' M
/-- a form and a number in -/
def spFN (K : PySem.W.Frag) (U : List Str) (ok : Rat → Prop) (g : Rat → Rat → Rat) : Spc := fun vs B M Q => ∃ x y φ q, vs = [x, y] ∧ FormAt K U B x φ ∧ NumAt K B y q ∧ SzF φ ∧ Sz q ∧ ok q ∧ SzF (fun k => g (φ k) q) ∧ ∀ v B', Ex B B' → FormAt K U B' v (fun k => g (φ k) q) → Q v B' M
def spFneg (K : PySem.W.Frag) (U : List Str) : Spc := fun vs B M Q => ∃ x φ, vs = [x] ∧ FormAt K U B x φ ∧ SzF φ ∧ ∀ v B', Ex B B' → FormAt K U B' v (fun k => -φ k) → Q v B' M
theorem all_len {U ks1 ks2 : List Str} (u : UOk U) (n1 : ks1.Nodup) (n2 : ks2.Nodup) (h1 : ∀ k ∈ ks1, k ∈ U) (h2 : ∀ k ∈ ks2, k ∈ U) : ks1.length + ks2.length < 60 := by
  have := nodup_len n1 h1
  have := nodup_len n2 h2
  have := u.len
  omega
theorem le_size {n : Nat} (h : n < 1000) : n ≤ sizeLine := by
  have : (1000 : Nat) ≤ sizeLine := by decide
  omega
theorem pr_fadd (F : FB P w K mg base U) : Pr P w K mg base 51 (ma K (ga K "Form") "__add__") [] (spFF K U fun a b => a + b) := by
  refine pr_def F.r.t.f_Form_add sc_Form_add (fun _ _ _ _ _ _ us hl => match us, hl with | [_, _], _ => rfl) (by rintro _ _ _ _ ⟨x, y, φ, ψ, rfl, _⟩; rfl) ?_
  rintro cdv A outer s H E vs B M Q hr ⟨x, y, φ, ψ, rfl, hx, hy, sx, sy, sxy, hq⟩
  refine sm_one (s1_ret (em_F1 F (hr.mono (by decide)) (em_giv F 2 rfl sc_Form_add.nd (blk_ok (N := n_Form_add) (sc := defScope s_Form_add) [("name", 2)] (by decide +kernel)) (em_op op_cat ?_))))
  refine em_names F (hr.mono (by decide)) (em_nm 0 ⟨φ, hx, fun B1 l1 ks1 hB1 hl1 nd1 hu1 hz1 => ?_⟩)
  refine em_names F (hr.mono (by decide)) (em_nm 1 ⟨ψ, hy.up hB1, fun B2 l2 ks2 hB2 hl2 nd2 hu2 hz2 => ?_⟩)
  have hlen := all_len F.u nd1 nd2 hu1 hu2
  refine om_cat ⟨l1, l2, _, _, rfl, rfl, jn_b (hB2 _ _ hl1), jn_b hl2, by rw [str_len, str_len]; exact le_size (by omega), fun r hr0 hm0 => ?_⟩
  refine ⟨r, ks1 ++ ks2, fun k => φ k + ψ k, rfl, by rw [List.map_append]; exact upd_same, by rw [List.length_append]; omega, fun k hk => ?_, fun k hk => ?_, fun k _ => sxy k, ?_, fun v' B3 hB3 hg => ⟨_, hg, fun v4 B4 hB4 hv4 => hq v4 B4 ((((hB1.tr hB2).tr (Ex.up hr0)).tr hB3).tr hB4) hv4⟩⟩
  · rcases List.mem_append.mp hk with h | h
    · exact hu1 k h
    · exact hu2 k h
  · have e1 : φ k = 0 := Classical.byContradiction fun h => hk (List.mem_append_left _ ((hz1 k).mpr h))
    have e2 : ψ k = 0 := Classical.byContradiction fun h => hk (List.mem_append_right _ ((hz2 k).mpr h))
    show φ k + ψ k = 0
    rw [e1, e2]; grind
  · rintro name hn B3 M3 hB3 hM3 s3 H3 C3 cl3 fp3
    have hB03 : Ex B B3 := ((hB1.tr hB2).tr (Ex.up hr0)).tr hB3
    refine em_Radd F.r (hr.mono (by decide)) (em_share F (hr.mono (by decide)) (em_nm 0 ⟨φ, hx.up hB03, em_nm 2 ⟨name, rfl, fun v1 B4 hB4 hv1 => ?_⟩⟩))
    refine em_share F (hr.mono (by decide)) (em_nm 1 ⟨ψ, hy.up (hB03.tr hB4), em_nm 2 ⟨name, rfl, fun v2 B5 hB5 hv2 => ?_⟩⟩)
    exact ⟨φ name, ψ name, .inr ⟨hv1.up hB5, hv2.num⟩, sx name, sy name, fun v3 B6 hB6 hv3 => ⟨rfl, hv3.num⟩⟩
theorem pr_fsub (F : FB P w K mg base U) : Pr P w K mg base 51 (ma K (ga K "Form") "__sub__") [] (spFF K U fun a b => a - b) := by
  refine pr_def F.r.t.f_Form_sub sc_Form_sub (fun _ _ _ _ _ _ us hl => match us, hl with | [_, _], _ => rfl) (by rintro _ _ _ _ ⟨x, y, φ, ψ, rfl, _⟩; rfl) ?_
  rintro cdv A outer s H E vs B M Q hr ⟨x, y, φ, ψ, rfl, hx, hy, sx, sy, sxy, hq⟩
  refine sm_one (s1_ret (em_F1 F (hr.mono (by decide)) (em_giv F 2 rfl sc_Form_sub.nd (blk_ok (N := n_Form_sub) (sc := defScope s_Form_sub) [("name", 2)] (by decide +kernel)) (em_op op_cat ?_))))
  refine em_names F (hr.mono (by decide)) (em_nm 0 ⟨φ, hx, fun B1 l1 ks1 hB1 hl1 nd1 hu1 hz1 => ?_⟩)
  refine em_names F (hr.mono (by decide)) (em_nm 1 ⟨ψ, hy.up hB1, fun B2 l2 ks2 hB2 hl2 nd2 hu2 hz2 => ?_⟩)
  have hlen := all_len F.u nd1 nd2 hu1 hu2
  refine om_cat ⟨l1, l2, _, _, rfl, rfl, jn_b (hB2 _ _ hl1), jn_b hl2, by rw [str_len, str_len]; exact le_size (by omega), fun r hr0 hm0 => ?_⟩
  refine ⟨r, ks1 ++ ks2, fun k => φ k - ψ k, rfl, by rw [List.map_append]; exact upd_same, by rw [List.length_append]; omega, fun k hk => ?_, fun k hk => ?_, fun k _ => sxy k, ?_, fun v' B3 hB3 hg => ⟨_, hg, fun v4 B4 hB4 hv4 => hq v4 B4 ((((hB1.tr hB2).tr (Ex.up hr0)).tr hB3).tr hB4) hv4⟩⟩
  · rcases List.mem_append.mp hk with h | h
    · exact hu1 k h
    · exact hu2 k h
  · have e1 : φ k = 0 := Classical.byContradiction fun h => hk (List.mem_append_left _ ((hz1 k).mpr h))
    have e2 : ψ k = 0 := Classical.byContradiction fun h => hk (List.mem_append_right _ ((hz2 k).mpr h))
    show φ k - ψ k = 0
    rw [e1, e2]; grind
  · rintro name hn B3 M3 hB3 hM3 s3 H3 C3 cl3 fp3
    have hB03 : Ex B B3 := ((hB1.tr hB2).tr (Ex.up hr0)).tr hB3
    refine em_Rsub F.r (hr.mono (by decide)) (em_share F (hr.mono (by decide)) (em_nm 0 ⟨φ, hx.up hB03, em_nm 2 ⟨name, rfl, fun v1 B4 hB4 hv1 => ?_⟩⟩))
    refine em_share F (hr.mono (by decide)) (em_nm 1 ⟨ψ, hy.up (hB03.tr hB4), em_nm 2 ⟨name, rfl, fun v2 B5 hB5 hv2 => ?_⟩⟩)
    exact ⟨φ name, ψ name, .inr ⟨hv1.up hB5, hv2.num⟩, sx name, sy name, fun v3 B6 hB6 hv3 => ⟨rfl, hv3.num⟩⟩
theorem pr_fneg (F : FB P w K mg base U) : Pr P w K mg base 51 (ma K (ga K "Form") "__neg__") [] (spFneg K U) := by
  refine pr_def F.r.t.f_Form_neg sc_Form_neg (fun _ _ _ _ _ _ us hl => match us, hl with | [_], _ => rfl) (by rintro _ _ _ _ ⟨x, φ, rfl, _⟩; rfl) ?_
  rintro cdv A outer s H E vs B M Q hr ⟨x, φ, rfl, hx, sx, hq⟩
  refine sm_one (s1_ret (em_F1 F (hr.mono (by decide)) (em_giv F 1 rfl sc_Form_neg.nd (blk_ok (N := n_Form_neg) (sc := defScope s_Form_neg) [("name", 1)] (by decide +kernel)) ?_)))
  refine em_names F (hr.mono (by decide)) (em_nm 0 ⟨φ, hx, fun B1 l1 ks1 hB1 hl1 nd1 hu1 hz1 => ?_⟩)
  have hlen := all_len F.u nd1 nd1 hu1 hu1
  refine ⟨l1, ks1, fun k => -φ k, rfl, hl1, by omega, hu1, fun k hk => ?_, fun k _ => (sx k).neg, ?_, fun v' B3 hB3 hg => ⟨_, hg, fun v4 B4 hB4 hv4 => hq v4 B4 ((hB1.tr hB3).tr hB4) hv4⟩⟩
  · have e1 : φ k = 0 := Classical.byContradiction fun h => hk ((hz1 k).mpr h)
    show -φ k = 0
    rw [e1]; grind
  · rintro name hn B3 M3 hB3 hM3 s3 H3 C3 cl3 fp3
    refine em_Rneg F.r (hr.mono (by decide)) (em_share F (hr.mono (by decide)) (em_nm 0 ⟨φ, hx.up (hB1.tr hB3), em_nm 1 ⟨name, rfl, fun v1 B4 hB4 hv1 => ?_⟩⟩))
    exact ⟨φ name, hv1, fun v3 B6 hB6 hv3 => ⟨rfl, hv3.num⟩⟩
theorem pr_fmul (F : FB P w K mg base U) : Pr P w K mg base 51 (ma K (ga K "Form") "__mul__") [] (spFN K U (fun _ => True) fun a b => a * b) := by
  refine pr_def F.r.t.f_Form_mul sc_Form_mul (fun _ _ _ _ _ _ us hl => match us, hl with | [_, _], _ => rfl) (by rintro _ _ _ _ ⟨x, y, φ, q, rfl, _⟩; rfl) ?_
  rintro cdv A outer s H E vs B M Q hr ⟨x, y, φ, q, rfl, hx, hy, sx, sy, _, sxy, hq⟩
  refine sm_one (s1_ret (em_F1 F (hr.mono (by decide)) (em_giv F 2 rfl sc_Form_mul.nd (blk_ok (N := n_Form_mul) (sc := defScope s_Form_mul) [("name", 2)] (by decide +kernel)) ?_)))
  refine em_names F (hr.mono (by decide)) (em_nm 0 ⟨φ, hx, fun B1 l1 ks1 hB1 hl1 nd1 hu1 hz1 => ?_⟩)
  have hlen := all_len F.u nd1 nd1 hu1 hu1
  refine ⟨l1, ks1, fun k => φ k * q, rfl, hl1, by omega, hu1, fun k hk => ?_, fun k _ => sxy k, ?_, fun v' B3 hB3 hg => ⟨_, hg, fun v4 B4 hB4 hv4 => hq v4 B4 ((hB1.tr hB3).tr hB4) hv4⟩⟩
  · have e1 : φ k = 0 := Classical.byContradiction fun h => hk ((hz1 k).mpr h)
    show φ k * q = 0
    rw [e1]; grind
  · rintro name hn B3 M3 hB3 hM3 s3 H3 C3 cl3 fp3
    refine em_Rmul F.r (hr.mono (by decide)) (em_share F (hr.mono (by decide)) (em_nm 0 ⟨φ, hx.up (hB1.tr hB3), em_nm 2 ⟨name, rfl, fun v1 B4 hB4 hv1 => ?_⟩⟩))
    exact em_nm 1 ⟨φ name, q, hv1, hy.up ((hB1.tr hB3).tr hB4), sx name, sy, fun v3 B6 hB6 hv3 => ⟨rfl, hv3.num⟩⟩
end
end LC
end LcForm4
section LcSize
set_option maxHeartbeats 4000000
/-! Sizes of fractions. -/
namespace LC
theorem log2_mono {m n : Nat} (h : m ≤ n) : m.log2 ≤ n.log2 := by
  by_cases hm : m = 0
  · subst hm
    show Nat.log2 0 ≤ _
    have : Nat.log2 0 = 0 := by decide
    omega
  · have h1 := Nat.log2_self_le hm
    exact (Nat.le_log2 (by omega)).mpr (Nat.le_trans h1 h)
theorem rat_bd (n d : Int) (hd : d ≠ 0) : (Rat.divInt n d).num.natAbs ≤ n.natAbs ∧ (Rat.divInt n d).den ≤ d.natAbs := by
  obtain ⟨h1, h2⟩ := rat_parts n d hd
  refine ⟨?_, ?_⟩
  · rw [Rat.num_divInt]
    rcases Int.lt_or_gt_of_ne hd with h | h
    · rw [Int.sign_eq_neg_one_of_neg h]
      have := Int.natAbs_ediv_le_natAbs (-1 * n) (d.gcd n)
      rw [show (-1 * n).natAbs = n.natAbs from by rw [show -1 * n = -n from by omega, Int.natAbs_neg]] at this
      exact this
    · rw [Int.sign_eq_one_of_pos h]
      have := Int.natAbs_ediv_le_natAbs (1 * n) (d.gcd n)
      rw [Int.one_mul] at this ⊢
      exact this
  · rw [Rat.den_divInt, if_neg hd]
    exact Nat.div_le_self _ _
/-- at most N bits -/
def Sb (N : Nat) (q : Rat) : Prop := q.num.natAbs < 2 ^ N ∧ q.den < 2 ^ N
theorem Sb.mono {N M : Nat} {q : Rat} (h : Sb N q) (l : N ≤ M) : Sb M q := ⟨Nat.lt_of_lt_of_le h.1 (Nat.pow_le_pow_right (by decide) l), Nat.lt_of_lt_of_le h.2 (Nat.pow_le_pow_right (by decide) l)⟩
theorem log_of {n N : Nat} (h : n < 2 ^ N) : n.log2 ≤ N := by
  by_cases hn : n = 0
  · subst hn
    have : Nat.log2 0 = 0 := by decide
    omega
  · exact Nat.le_of_lt ((Nat.log2_lt hn).mpr h)
theorem Sb.sz {N : Nat} {q : Rat} (h : Sb N q) (l : N ≤ 33554432) : Sz q := ⟨Nat.le_trans (log_of h.1) l, Nat.le_trans (log_of h.2) l⟩
theorem Sb.of {N : Nat} {n d : Int} (hd : d ≠ 0) (h1 : n.natAbs < 2 ^ N) (h2 : d.natAbs < 2 ^ N) : Sb N (Rat.divInt n d) := by
  obtain ⟨h3, h4⟩ := rat_bd n d hd
  exact ⟨Nat.lt_of_le_of_lt h3 h1, Nat.lt_of_le_of_lt h4 h2⟩
theorem pow_mul_lt {a b N M : Nat} (h1 : a < 2 ^ N) (h2 : b < 2 ^ M) : a * b < 2 ^ (N + M) := by
  rw [Nat.pow_add]
  exact Nat.mul_lt_mul'' h1 h2
theorem Sb.mul {N M : Nat} {a b : Rat} (h1 : Sb N a) (h2 : Sb M b) : Sb (N + M) (a * b) := by
  rw [← r_mul]
  refine Sb.of (den_mul_ne a b) ?_ ?_
  · rw [Int.natAbs_mul]; exact pow_mul_lt h1.1 h2.1
  · rw [Int.natAbs_mul]; exact pow_mul_lt h1.2 h2.2
theorem Sb.add {N M : Nat} {a b : Rat} (h1 : Sb N a) (h2 : Sb M b) : Sb (N + M + 1) (a + b) := by
  rw [← r_add]
  refine Sb.of (den_mul_ne a b) ?_ ?_
  · have e1 := pow_mul_lt h1.1 h2.2
    have e2 := pow_mul_lt h2.1 h1.2
    have e3 := Int.natAbs_add_le (a.num * b.den) (b.num * a.den)
    rw [Int.natAbs_mul, Int.natAbs_mul, Int.natAbs_natCast, Int.natAbs_natCast] at e3
    rw [show M + N = N + M from Nat.add_comm _ _] at e2
    rw [Nat.pow_succ]
    omega
  · rw [Int.natAbs_mul]
    exact Nat.lt_of_lt_of_le (pow_mul_lt h1.2 h2.2) (Nat.pow_le_pow_right (by decide) (Nat.le_succ _))
theorem Sb.neg {N : Nat} {a : Rat} (h : Sb N a) : Sb N (-a) := by
  refine ⟨?_, ?_⟩
  · rw [Rat.neg_num, Int.natAbs_neg]; exact h.1
  · rw [Rat.neg_den]; exact h.2
theorem Sb.sub {N M : Nat} {a b : Rat} (h1 : Sb N a) (h2 : Sb M b) : Sb (N + M + 1) (a - b) := by
  rw [Rat.sub_eq_add_neg]; exact h1.add h2.neg
theorem Sb.div {N M : Nat} {a b : Rat} (h1 : Sb N a) (h2 : Sb M b) (hb : b ≠ 0) : Sb (N + M) (a / b) := by
  rw [← r_over _ _ hb]
  refine Sb.of (Int.mul_ne_zero (den_ne' a) (num_ne' hb)) ?_ ?_
  · rw [Int.natAbs_mul]; exact pow_mul_lt h1.1 h2.2
  · rw [Int.natAbs_mul]; exact pow_mul_lt h1.2 h2.1
theorem Sb.int {N : Nat} {i : Int} (h : i.natAbs < 2 ^ N) (hN : 0 < N) : Sb N (i : Rat) := by
  refine ⟨by rw [Rat.num_intCast]; exact h, ?_⟩
  rw [Rat.den_intCast]
  calc 1 < 2 ^ 1 := by decide
    _ ≤ 2 ^ N := Nat.pow_le_pow_right (by decide) hN
theorem Sb.zero : Sb 1 0 := ⟨by decide, by decide⟩
theorem Sb.one : Sb 1 1 := ⟨by decide, by decide⟩
theorem Sz.inv {q : Rat} (h : Sz q) (hq : q ≠ 0) : Sz (1 / q) := by
  have e := r_over 1 q hq
  rw [← e]
  obtain ⟨h3, h4⟩ := rat_bd ((1 : Rat).num * q.den) ((1 : Rat).den * q.num) (Int.mul_ne_zero (den_ne' 1) (num_ne' hq))
  have e1 : ((1 : Rat).num * (q.den : Int)).natAbs = q.den := by
    show ((1 : Int) * (q.den : Int)).natAbs = q.den
    rw [Int.one_mul, Int.natAbs_natCast]
  have e2 : (((1 : Rat).den : Int) * q.num).natAbs = q.num.natAbs := by
    show (((1 : Nat) : Int) * q.num).natAbs = q.num.natAbs
    rw [Int.natCast_one, Int.one_mul]
  rw [e1] at h3
  rw [e2] at h4
  exact ⟨Nat.le_trans (log2_mono h3) h.2, Nat.le_trans (log2_mono h4) h.1⟩
end LC
end LcSize
section LcForm5
set_option maxHeartbeats 4000000
namespace LC
open PySem L2
open He (ga ma)
open He5 (wf)
/-! ### a local that holds a class, called; a classmethod called -/
section
variable {X : Cx} {k : Nat} {f C : Addr} {S : Spc} {dvs : List V} {x m : Str} {p np pos apos : Pos} {e : Expr} {es : List Expr} {σ : St} {B M : Hp} {P : V → Hp → Hp → Prop}
theorem em_makeL (i : Nat) (F : Pr X.prog X.w X.K X.mg X.base k f dvs S) (hr : Room (k + 1) X.A) (Mk' : Mk X.K C f) (hs : σ[i]? = some (some (.ref C)))
    (h : AM X (e :: es) σ B M fun vs B1 M1 => ∀ x dx, B1 x = none → M1 x = none → B1 dx = none → M1 dx = none → dx ≠ x → S (.ref x :: (vs ++ dvs)) (upd B1 dx (.own x)) (upd M1 x (.ins C dx [])) fun v B' M' => v = .non ∧ P (.ref x) B' M') (hN : X.N[i]? = some x := by rfl)
    (hv : Vis X.env.scope x := by first | exact Or.inl rfl | exact Or.inr (Or.inl rfl) | exact Or.inr (Or.inr rfl)) (hdb : (x == ("__debug__" : Str)) = false := by decide) (hcd : (x == ("__classdict__" : Str)) = false := by decide)
    (he : starEach (e :: es) X.env = (false, eval e X.env) :: starEach es X.env := by rfl) (hpl : (backTo pos (starEach es X.env)).any (·.1) = false := by rfl) : EM X (.Call (.Name x p) (e :: es) [] pos) σ B M P := by
  obtain ⟨fd, ps, ds, G, hb, hd⟩ := F.ex
  have pe : PE X (.Call (.Name x p) (e :: es) [] pos) (fun σ H Q => σ[i]? = some (some (.ref C)) ∧ wA X (e :: es) σ H fun vs H1 => ∀ x dx, H1 x = none → H1 dx = none → dx ≠ x → MSp S (.ref x :: (vs ++ dvs)) (upd (upd H1 dx (.own x)) x (.ins C dx [])) (fun v H2 => v = .non ∧ Q (.ref x) H2) E0) := by
    constructor
    intro pins s σ H Q I h
    obtain ⟨hs, ht⟩ := h
    refine wpAny_Call_Name_kw (thn ((pe_var (pos := p) hN hv hdb hcd).run pins s σ H (fun v H1 => v = .ref C ∧ H1 = H) I ⟨.ref C, hs, rfl, rfl⟩) fun u s1 ⟨v, H1, I1, r1, q1⟩ => ?_)
    obtain ⟨rfl, rfl⟩ := q1
    cases r1
    refine PySem.W.callWith_K (h₀ := X.base) I.ok.mod.kin Mk'.kp (thn (pa_w.run pos pins s1 σ _ _ I1 ht) fun us s2 ⟨vs, H2, I2, r, q⟩ => ⟨I2.kIn, ?_⟩) he hpl
    exact run_make Mk' G hr hb hd pass0 I2 r q
  exact em_of pe fun H w Q kq => ⟨hs, h H w _ fun vs B1 M1 H1 g q => make_go g.own (fun v B' M' H' g2 => kq v B' M' H' (g.tr g2)) q⟩
theorem em_cm {pl : Sem Bool} (F : Pr X.prog X.w X.K X.mg X.base k (wf X.K C "classmethod" m) [] S) (hr : Room k X.A) (c : SMet X.K C "classmethod" "classmethod.__get__" m) (hm : X.mg x = some (.ref C))
    (h : AM X (e :: es) σ B M fun vs B1 M1 => S (.ref C :: vs) B1 M1 P) (hg : Gl X x := by rfl) (hdb : (x == ("__debug__" : Str)) = false := by decide)
    (hst : starEach (e :: es) X.env = (false, eval e X.env) :: starEach es X.env := by rfl) (hpl : (backTo pos (starEach es X.env)).any (·.1) = false := by rfl)
    (ht : eval (.Call (.Attribute (.Name x np) m apos) (e :: es) [] pos) X.env = (do
      let ov ← eval (.Name x np) X.env
      standAt apos.atName
      let (f, first) ← holding [ov] (getMethod ov m pl)
      callWith pos f first (backTo pos (starEach (e :: es) X.env)) (backToKw pos (keywordEach [] X.env))) := by rfl) : EM X (.Call (.Attribute (.Name x np) m apos) (e :: es) [] pos) σ B M P := by
  obtain ⟨fd, ps, ds, G, hb, hd⟩ := F.ex
  have fr : FnR X.prog X.w X.K X.mg X.base CX0 k (wf X.K C "classmethod" m) (fun vs H Q E => MSp S (vs ++ []) H Q E) := G.raw hb hd
  exact em_of (ClX.pe_cmeth (pe_glob (v := .ref C) hg hm rfl hdb) c.cread ⟨c.at_, c.rc, c.fi⟩ fr hr pass0 pa_w hst hpl ht) fun H w Q kq => ⟨rfl, h H w _ fun vs B1 M1 H1 g q => by
    show MSp S ((V.ref C :: vs) ++ []) H1 Q E0
    rw [List.append_nil]
    exact ⟨B1, M1, P, g.own, q, fun v B2 M2 H2 g2 q2 => kq v B2 M2 H2 (g.tr g2) q2⟩⟩
end
end LC
end LcForm5
section LcForm6
set_option maxHeartbeats 4000000
namespace LC
open PySem L2
open He (ga ma)
open He5 (wf)
/-! ### sums over the names -/
theorem rsum_perm {a b : List Rat} (h : a.Perm b) : rsum a = rsum b := by
  induction h with
  | nil => rfl
  | cons x _ ih => show x + _ = x + _; rw [ih]
  | swap x y l => show y + (x + rsum l) = x + (y + rsum l); grind
  | trans _ _ h1 h2 => rw [h1, h2]
theorem sum_sub {α : Type} [BEq α] [LawfulBEq α] {f : α → Rat} : ∀ {a b : List α}, a.Nodup → b.Nodup → (∀ x ∈ a, x ∈ b) → (∀ x ∈ b, x ∉ a → f x = 0) → rsum (a.map f) = rsum (b.map f)
  | [], b, _, _, _, hz => by
    have : ∀ (l : List α), (∀ x ∈ l, f x = 0) → rsum (l.map f) = 0 := by
      intro l
      induction l with
      | nil => intro _; rfl
      | cons x l ih =>
        intro h
        show f x + rsum (l.map f) = 0
        rw [h x (List.mem_cons_self ..), ih fun y hy => h y (List.mem_cons_of_mem _ hy)]
        grind
    exact (this b fun x hx => hz x hx (List.not_mem_nil)).symm
  | x :: a, b, ha, hb, hs, hz => by
    obtain ⟨h1, h2⟩ := List.nodup_cons.mp ha
    have hx := hs x (List.mem_cons_self ..)
    have hp : b.Perm (x :: b.erase x) := List.perm_cons_erase hx
    have ne : ∀ y ∈ b.erase x, y ≠ x := fun y hy e => by
      have := (hp.nodup_iff.mp hb)
      subst e
      exact (List.nodup_cons.mp this).1 hy
    have ih := sum_sub (a := a) (b := b.erase x) h2 (hb.sublist List.erase_sublist) (fun y hy => (List.mem_erase_of_ne (fun e => h1 (by rw [← e]; exact hy))).mpr (hs y (List.mem_cons_of_mem _ hy)))
      (fun y hy hn => hz y (List.mem_of_mem_erase hy) fun h => by
        rcases List.mem_cons.mp h with e | h
        · exact ne y hy e
        · exact hn h)
    rw [rsum_perm (hp.map f)]
    show f x + rsum (a.map f) = f x + rsum ((b.erase x).map f)
    rw [ih]
/-- the value of a form at prices -/
def dot (U : List Str) (φ p : Str → Rat) : Rat := rsum (U.map fun k => φ k * p k)
theorem dot_ks {U ks : List Str} {φ p : Str → Rat} (u : U.Nodup) (n : ks.Nodup) (hs : ∀ k ∈ ks, k ∈ U) (hz : ∀ k, k ∈ ks ↔ φ k ≠ 0) : rsum (ks.map fun k => φ k * p k) = dot U φ p := by
  refine sum_sub n u hs fun k _ hk => ?_
  have e1 : φ k = 0 := Classical.byContradiction fun h => hk ((hz k).mpr h)
  rw [e1]; grind
def oneF (name : Str) : Str → Rat := fun k => if k = name then 1 else 0
section
variable {P : Program} {w : World} {K : PySem.W.Frag} {mg : Str → Option Value} {base : Heap} {U : List Str}
/-- form * number -/
abbrev rFN (K : PySem.W.Frag) (S : Spc) : R2 := fun x y H Q => rOwnI (ga K "Form") S x y H Q ∨ rOwnT (ga K "Form") (ga K "Ratio") S x y H Q
theorem em_fmul {X : Cx} {a b : Expr} {σ : St} {B M : Hp} {P : V → Hp → Hp → Prop} {pos : Pos} (t : Tx X.K X.mg) (F : Pr X.prog X.w X.K X.mg X.base 51 (ma X.K (ga X.K "Form") "__mul__") [] (spFN X.K U (fun _ => True) fun a b => a * b)) (hr : Room 51 X.A)
    (h : EM X a σ B M fun x B1 M1 => EM X b σ B1 M1 fun y B2 M2 => ∃ φ q, FormAt X.K U B2 x φ ∧ NumAt X.K B2 y q ∧ SzF φ ∧ Sz q ∧ SzF (fun k => φ k * q) ∧ ∀ v B', Ex B2 B' → FormAt X.K U B' v (fun k => φ k * q) → P v B' M2) : EM X (.BinOp a .Mult b pos) σ B M P := by
  refine em_op (r := rFN X.K (spFN X.K U (fun _ => True) fun a b => a * b)) (opr_or (op_ownI (op := .Mult) F hr t.opc_Form_mul t.opi_Form_mul) (op_ownT (op := .Mult) F hr t.opc_Form_mul t.opc_Ratio_mul t.ne_Ratio_Form t.sub_Ratio_Form)) (h.imp fun x B1 M1 _ h2 => h2.imp fun y B2 M2 _ ⟨φ, q, hx, hy, s1, s2, s3, hv⟩ => ?_)
  rcases id hy with ⟨i, rfl, _⟩ | hy'
  · exact OM.inl (om_ownI hx.obj' ⟨x, _, φ, q, rfl, hx, hy, s1, s2, trivial, s3, hv⟩)
  · exact OM.inr (om_ownT hx.obj' hy'.obj ⟨x, y, φ, q, rfl, hx, hy, s1, s2, trivial, s3, hv⟩)
theorem pr_fover (F : FB P w K mg base U) : Pr P w K mg base 53 (ma K (ga K "Form") "over") [] (spFN K U (fun q => q ≠ 0) fun a b => a / b) := by
  refine pr_def F.r.t.f_Form_over sc_Form_over (fun _ _ _ _ _ _ us hl => match us, hl with | [_, _], _ => rfl) (by rintro _ _ _ _ ⟨x, y, φ, q, rfl, _⟩; rfl) ?_
  rintro cdv A outer s H E vs B M Q hr ⟨x, y, φ, q, rfl, hx, hy, sx, sy, ok, sxy, hq⟩
  have e : (fun k => φ k * (1 / q)) = fun k => φ k / q := by funext k; grind
  refine sm_one (s1_ret (em_fmul F.r.t (pr_fmul F) (hr.mono (by decide)) (em_nm 0 (em_meth F.r.over (hr.mono (by decide)) F.r.t.cl_Ratio F.r.t.m_Ratio_over (em_R1 F.r (hr.mono (by decide)) (em_int ⟨1, rfl, fun v0 B1 hB1 hv0 => ?_⟩))))))
  obtain ⟨a1, dx1, hv1, hb1⟩ := id hv0
  refine ⟨a1, dx1, _, hv1, jn_b hb1, rfl, am_cons (em_nm 1 (am_nil ⟨v0, y, 1, q, rfl, hv0, hy.up hB1, by exact ⟨by decide, by decide⟩, sy, ok, fun v2 B2 hB2 hv2 => ?_⟩))⟩
  refine ⟨φ, 1 / q, hx.up (hB1.tr hB2), hv2.num, sx, sy.inv ok, by rw [e]; exact sxy, fun v3 B3 hB3 hv3 => hq v3 B3 ((hB1.tr hB2).tr hB3) ?_⟩
  rw [e] at hv3
  exact hv3
/-- x.at_most(y) -/
def spFle (K : PySem.W.Frag) (U : List Str) : Spc := fun vs B M Q => ∃ x y φ ψ, vs = [x, y] ∧ FormAt K U B x φ ∧ FormAt K U B y ψ ∧ SzF φ ∧ SzF ψ ∧ ∀ B' (r : Bool), Ex B B' → (r = true ↔ ∀ k, φ k ≤ ψ k) → Q (.bl r) B' M
theorem bools_at : ∀ {ys : List V}, (∀ (i : Nat) (y : V), ys[i]? = some y → ∃ b, y = .bl b) → ∃ bs : List Bool, ys = bs.map V.bl
  | [], _ => ⟨[], rfl⟩
  | y :: ys, h => by
    obtain ⟨b, hb⟩ := h 0 y rfl
    obtain ⟨bs, hbs⟩ := bools_at (ys := ys) fun i z hz => h (i + 1) z (by simpa using hz)
    exact ⟨b :: bs, by rw [hb, hbs]; rfl⟩
theorem pr_fle (F : FB P w K mg base U) : Pr P w K mg base 51 (ma K (ga K "Form") "at_most") [] (spFle K U) := by
  refine pr_def F.r.t.f_Form_at_most sc_Form_at_most (fun _ _ _ _ _ _ us hl => match us, hl with | [_, _], _ => rfl) (by rintro _ _ _ _ ⟨x, y, φ, ψ, rfl, _⟩; rfl) ?_
  rintro cdv A outer s H E vs B M Q hr ⟨x, y, φ, ψ, rfl, hx, hy, sx, sy, hq⟩
  refine sm_one (s1_ret (em_all rfl F.r.t.u_all (em_lcB rfl sc_Form_at_most.nd (blk_ok (N := n_Form_at_most) (sc := defScope s_Form_at_most) [("name", 2)] (by decide +kernel)) (em_op op_cat ?_))))
  refine em_names F (hr.mono (by decide)) (em_nm 0 ⟨φ, hx, fun B1 l1 ks1 hB1 hl1 nd1 hu1 hz1 => ?_⟩)
  refine em_names F (hr.mono (by decide)) (em_nm 1 ⟨ψ, hy.up hB1, fun B2 l2 ks2 hB2 hl2 nd2 hu2 hz2 => ?_⟩)
  have hlen := all_len F.u nd1 nd2 hu1 hu2
  refine om_cat ⟨l1, l2, _, _, rfl, rfl, jn_b (hB2 _ _ hl1), jn_b hl2, by rw [str_len, str_len]; exact le_size (by omega), fun r hr0 hm0 => ?_⟩
  refine ⟨r, _, rfl, upd_same, ?_⟩
  have it : ∀ (i : Nat) (v : V), ((ks1.map V.str) ++ (ks2.map V.str))[i]? = some v → ∃ name : Str, v = V.str name ∧ (ks1 ++ ks2)[i]? = some name := by
    intro i v hv
    rw [← List.map_append, List.getElem?_map] at hv
    cases e : (ks1 ++ ks2)[i]? with
    | none => rw [e] at hv; cases hv
    | some name => rw [e] at hv; exact ⟨name, by injection hv with hv; exact hv.symm, rfl⟩
  refine lcb_map 2 sc_Form_at_most.nd (by rw [List.length_append, str_len, str_len]; omega) (fun i v _ => ∃ name, (ks1 ++ ks2)[i]? = some name ∧ v = .bl (decide (φ name ≤ ψ name))) (fun _ _ _ _ _ h => h) ?_ ?_
  · rintro i v B3 M3 hv _ hB3 hM3 s3 H3 C3 cl3 fp3
    obtain ⟨name, rfl, hnm⟩ := it i v hv
    have hB03 : Ex B B3 := ((hB1.tr hB2).tr (Ex.up hr0)).tr hB3
    refine em_meth F.r.most (hr.mono (by decide)) F.r.t.cl_Ratio F.r.t.m_Ratio_at_most (em_share F (hr.mono (by decide)) (em_nm 0 ⟨φ, hx.up hB03, em_nm 2 ⟨name, rfl, fun v1 B4 hB4 hv1 => ?_⟩⟩))
    obtain ⟨a1, dx1, hv1', hb1⟩ := id hv1
    refine ⟨a1, dx1, _, hv1', jn_b hb1, rfl, am_cons (em_share F (hr.mono (by decide)) (em_nm 1 ⟨ψ, hy.up (hB03.tr hB4), em_nm 2 ⟨name, rfl, fun v2 B5 hB5 hv2 => ?_⟩⟩))⟩
    exact am_nil ⟨v1, v2, φ name, ψ name, rfl, hv1.up hB5, hv2.num, sx name, sy name, trivial, fun v3 B6 hB6 hv3 => ⟨rfl, name, hnm, hv3⟩⟩
  · rintro d ys B3 hB3 hd hl hy3
    obtain ⟨bs, hbs⟩ := bools_at (ys := ys) fun i y h => by
      obtain ⟨name, _, h2⟩ := hy3 i y h
      exact ⟨_, h2⟩
    refine ⟨d, bs, rfl, by rw [← hbs]; exact SqL.of (jn_b hd), hq B3 _ (((hB1.tr hB2).tr (Ex.up hr0)).tr hB3) ?_⟩
    rw [List.length_append, str_len, str_len, ← List.length_append] at hl
    have at_ : ∀ (i : Nat) (name : Str), (ks1 ++ ks2)[i]? = some name → bs[i]? = some (decide (φ name ≤ ψ name)) := by
      intro i name hi
      have hlt := (List.getElem?_eq_some_iff.mp hi).1
      have hbl : bs.length = ys.length := by rw [hbs, List.length_map]
      have h0 : bs[i]? = some (bs[i]'(by omega)) := List.getElem?_eq_getElem (by omega)
      have h1 : ys[i]? = some (V.bl (bs[i]'(by omega))) := by
        have h9 : (bs.map V.bl)[i]? = some (V.bl (bs[i]'(by omega))) := by rw [List.getElem?_map, h0]; rfl
        exact (congrArg (fun l : List V => l[i]?) hbs).trans h9
      obtain ⟨nm2, h2, h3⟩ := hy3 i _ h1
      rw [hi] at h2
      injection h2 with h2
      subst h2
      injection h3 with h3
      rw [h0, h3]
    constructor
    · intro hall k
      by_cases hk : k ∈ ks1 ++ ks2
      · obtain ⟨i, hi, e⟩ := List.mem_iff_getElem.mp hk
        have := at_ i k (by rw [List.getElem?_eq_getElem hi, e])
        have := List.all_eq_true.mp hall _ (List.mem_of_getElem? this)
        exact of_decide_eq_true this
      · have e1 : φ k = 0 := Classical.byContradiction fun h => hk (List.mem_append_left _ ((hz1 k).mpr h))
        have e2 : ψ k = 0 := Classical.byContradiction fun h => hk (List.mem_append_right _ ((hz2 k).mpr h))
        rw [e1, e2]
        exact Rat.le_refl
    · intro hall
      refine List.all_eq_true.mpr fun b hb => ?_
      obtain ⟨i, hi, e⟩ := List.mem_iff_getElem.mp hb
      have hi2 : i < (ks1 ++ ks2).length := by
        have := congrArg List.length hbs
        rw [List.length_map] at this
        omega
      have := at_ i _ (List.getElem?_eq_getElem hi2)
      rw [List.getElem?_eq_getElem hi, e] at this
      injection this with this
      rw [this]
      exact decide_eq_true (hall _)
def spFsame (K : PySem.W.Frag) (U : List Str) : Spc := fun vs B M Q => ∃ x y φ ψ, vs = [x, y] ∧ FormAt K U B x φ ∧ FormAt K U B y ψ ∧ SzF φ ∧ SzF ψ ∧ ∀ B' (r : Bool), Ex B B' → (r = true ↔ ∀ k, φ k = ψ k) → Q (.bl r) B' M
theorem em_fle {X : Cx} {o e : Expr} {σ : St} {B M : Hp} {P : V → Hp → Hp → Prop} {pos apos : Pos} {pl : Sem Bool} (F : FB X.prog X.w X.K X.mg X.base U) (hr : Room 51 X.A)
    (h : EM X o σ B M fun x B1 M1 => ∃ φ, FormAt X.K U B1 x φ ∧ EM X e σ B1 M1 fun y B2 M2 => ∃ ψ, FormAt X.K U B2 y ψ ∧ SzF φ ∧ SzF ψ ∧ ∀ B' (r : Bool), Ex B2 B' → (r = true ↔ ∀ k, φ k ≤ ψ k) → P (.bl r) B' M2)
    (hst : starEach [e] X.env = (false, eval e X.env) :: starEach [] X.env := by rfl)
    (ht : eval (.Call (.Attribute o ("at_most" : Str) apos) [e] [] pos) X.env = (do
      let ov ← eval o X.env
      standAt apos.atName
      let (f, first) ← holding [ov] (getMethod ov ("at_most" : Str) pl)
      callWith pos f first (backTo pos (starEach [e] X.env)) (backToKw pos (keywordEach [] X.env))) := by rfl) : EM X (.Call (.Attribute o ("at_most" : Str) apos) [e] [] pos) σ B M P :=
  em_meth (pr_fle F) hr F.r.t.cl_Form F.r.t.m_Form_at_most (h.imp fun x B1 M1 _ ⟨φ, hx, q⟩ => by
    obtain ⟨a, dx, fs, h1, h2, h3⟩ := hx.obj (M := M1) (m := "at_most") (fun _ => rfl)
    exact ⟨a, dx, fs, h1, h2, h3, am_cons (q.imp fun y B2 M2 hB2 ⟨ψ, hy, sx, sy, hv⟩ => am_nil ⟨x, y, φ, ψ, rfl, hx.up hB2, hy, sx, sy, hv⟩) hst⟩) hst (by rfl) ht
theorem pr_fsame (F : FB P w K mg base U) : Pr P w K mg base 53 (ma K (ga K "Form") "same") [] (spFsame K U) := by
  refine pr_def F.r.t.f_Form_same sc_Form_same (fun _ _ _ _ _ _ us hl => match us, hl with | [_, _], _ => rfl) (by rintro _ _ _ _ ⟨x, y, φ, ψ, rfl, _⟩; rfl) ?_
  rintro cdv A outer s H E vs B M Q hr ⟨x, y, φ, ψ, rfl, hx, hy, sx, sy, hq⟩
  refine sm_one (s1_ret (em_and ?_))
  refine em_fle F (hr.mono (by decide)) (em_nm 0 ⟨φ, hx, em_nm 1 ⟨ψ, hy, sx, sy, fun B1 r hB1 h1 => ⟨r, rfl, ?_⟩⟩⟩)
  by_cases hr1 : r = true
  · refine ift hr1 (em_one (em_fle F (hr.mono (by decide)) (em_nm 1 ⟨ψ, hy.up hB1, em_nm 0 ⟨φ, hx.up hB1, sy, sx, fun B2 r2 hB2 h2 => hq B2 r2 (hB1.tr hB2) ?_⟩⟩)))
    rw [h2]
    have h3 := h1.mp hr1
    exact ⟨fun h k => Rat.le_antisymm (h3 k) (h k), fun h k => by rw [h k]; exact Rat.le_refl⟩
  · refine iff' (by simpa using hr1) (hq B1 false hB1 ⟨fun h => (by cases h), fun h => absurd (h1.mpr fun k => by rw [h k]; exact Rat.le_refl) hr1⟩)
/-- Form.of(name) -/
def spOf (K : PySem.W.Frag) (U : List Str) : Spc := fun vs B M Q => ∃ name, vs = [.ref (ga K "Form"), .str name] ∧ name ∈ U ∧ ∀ v B', Ex B B' → FormAt K U B' v (oneF name) → Q v B' M
theorem pr_of (F : FB P w K mg base U) : Pr P w K mg base 48 (wf K (ga K "Form") "classmethod" "of") [] (spOf K U) := by
  refine pr_def F.r.t.f_Form_of sc_Form_of (fun _ _ _ _ _ _ us hl => match us, hl with | [_, _], _ => rfl) (by rintro _ _ _ _ ⟨name, rfl, _⟩; rfl) ?_
  rintro cdv A outer s H E vs B M Q hr ⟨name, rfl, hn, hq⟩
  refine sm_one (s1_ret (Emt.fzN (em_makeL 0 F.init hr F.r.t.mk_Form rfl (am_cons (Emt.fzN (em_d1 fun d hb hm => em_nm 1 (em_int ⟨upd_same, .inr name, rfl, d, _, upd_same, fun _ => ?_⟩)))))))
  rw [upd_twice, del_upd hm]
  refine am_nil fun z dz b1 m1 b2 m2 ne => fin_in (φ := oneF name) (.inr ⟨d, [(.inr name, .int 1)], [name], rfl, upd_same, ⟨rfl, by simp, ?_⟩, ?_, ?_, ?_⟩) (fun v' B' hB hv => hq v' B' ((Ex.up hb).tr hB) hv) z dz b1 m1 b2
  · intro k v hk
    by_cases e : k = name
    · subst e
      rw [valV_pos rfl] at hk
      injection hk with hk
      exact .inl ⟨1, hk.symm, by show (if k = k then (1 : Rat) else 0) = _; rw [if_pos rfl]; rfl⟩
    · rw [valV_neg (fun z => e (by injection z with z; exact z.symm))] at hk
      cases hk
  · intro k hk; simp at hk; rw [hk]; exact hn
  · intro k hk; simp at hk; exact if_neg hk
  · intro k hk; simp at hk; show Sz (if k = name then 1 else 0); rw [if_pos hk]; exact ⟨by decide, by decide⟩
end
end LC
end LcForm6
section LcForm7
set_option maxHeartbeats 4000000
namespace LC
open PySem L2
open He (ga ma)
open He5 (wf)
section
variable {P : Program} {w : World} {K : PySem.W.Frag} {mg : Str → Option Value} {base : Heap} {U : List Str}
/-- the prices at which a form is valued -/
structure PrAt (K : PySem.W.Frag) (B : Hp) (d : Addr) (p : Str → Rat) (pks : List Str) : Prop where
  at_ : ∃ kvs, B d = some (.dK kvs) ∧ KvR (fun k v B => RatAt K B v (p k)) kvs pks B
  pos : ∀ k ∈ pks, 0 ≤ p k
  sz : ∀ k ∈ pks, Sz (p k)
theorem PrAt.up {B B' : Hp} {d : Addr} {p : Str → Rat} {pks : List Str} (h : PrAt K B d p pks) (e : Ex B B') : PrAt K B' d p pks := by
  obtain ⟨⟨kvs, h1, h2⟩, h3, h4⟩ := h
  exact ⟨⟨kvs, e _ _ h1, h2.up fun k v r => r.up e⟩, h3, h4⟩
def spAt (K : PySem.W.Frag) (U : List Str) : Spc := fun vs B M Q => ∃ x d φ p pks, vs = [x, .ref d] ∧ FormAt K U B x φ ∧ PrAt K B d p pks ∧ (∀ k, φ k ≠ 0 → k ∈ pks) ∧ SzF φ ∧ (∀ k ∈ U, Sz (φ k * p k)) ∧ (∀ l : List Str, l.Nodup → (∀ k ∈ l, k ∈ U) → Sz (rsum (l.map fun k => φ k * p k))) ∧
  ∀ v B', Ex B B' → RatAt K B' v (dot U φ p) → Q v B' M
theorem strs_at {ks : List Str} {i : Nat} {x : V} (h : (ks.map V.str)[i]? = some x) : ∃ name : Str, x = V.str name ∧ ks[i]? = some name := by
  rw [List.getElem?_map] at h
  cases e : ks[i]? with
  | none => rw [e] at h; cases h
  | some name => rw [e] at h; exact ⟨name, by injection h with h; exact h.symm, rfl⟩
theorem paired_of {R : V → Rat → Prop} : ∀ {ys : List V} {qs : List Rat}, ys.length = qs.length → (∀ (i : Nat) (y : V) (q : Rat), ys[i]? = some y → qs[i]? = some q → R y q) → Paired R ys qs
  | [], [], _, _ => .nil
  | [], _ :: _, h, _ => by cases h
  | _ :: _, [], h, _ => by cases h
  | y :: ys, q :: qs, h, f => .cons (f 0 y q rfl rfl) (paired_of (by simpa using h) fun i y' q' h1 h2 => f (i + 1) y' q' (by simpa using h1) (by simpa using h2))
theorem pr_fat (F : FB P w K mg base U) : Pr P w K mg base 51 (ma K (ga K "Form") "at") [] (spAt K U) := by
  refine pr_def F.r.t.f_Form_at sc_Form_at (fun _ _ _ _ _ _ us hl => match us, hl with | [_, _], _ => rfl) (by rintro _ _ _ _ ⟨x, d, φ, p, pks, rfl, _⟩; rfl) ?_
  rintro cdv A outer s H E vs B M Q hr ⟨x, d, φ, p, pks, rfl, hx, hp, hsup, sx, sxp, sdot, hq⟩
  have t := F.r.t
  obtain ⟨⟨kvs, hd, hk⟩, hpos, hsz⟩ := id hp
  -- every name has a price
  refine sm_cons (s1_for PassesOwn.never rfl (em_names F (hr.mono (by decide)) (em_nm 0 ⟨φ, hx, fun B1 l1 ks1 hB1 hl1 nd1 hu1 hz1 => ?_⟩)))
  refine ⟨l1, _, rfl, SqL.of (jn_b hl1), fun i σ B' M' => ∃ o, σ = [some x, some (.ref d), o] ∧ M' = M ∧ Ex B1 B', ⟨_, rfl, rfl, Ex.id'⟩, ?_, ?_, ?_⟩
  · rintro i σ B' M' _ ⟨o, rfl, rfl, hB⟩
    exact SqL.of (jn_b (hB _ _ hl1))
  · rintro i y σ B' M' hi _ ⟨o, rfl, rfl, hB⟩
    obtain ⟨name, rfl, hni⟩ := strs_at hi
    obtain ⟨u, hu, _⟩ := hk.some (hsup name ((hz1 name).mp (List.mem_of_getElem? hni)))
    refine gm_name 2 sc_Form_at.nd (sm_one (s1_if (tm_dnin (u1 hr) (em_nm 2 (em_nm 1 ⟨d, _, rfl, .inl ⟨kvs, .inr name, .inl (jn_b ((hB1.tr hB) _ _ hd)), rfl, rfl⟩, ?_⟩)))))
    rw [hu]
    exact sm_nil ⟨_, rfl, rfl, hB⟩
  rintro σ B2 M' _ ⟨o, rfl, rfl, hB2⟩
  -- and none is less than 0
  refine sm_cons (s1_for PassesOwn.never rfl (em_names F (hr.mono (by decide)) (em_nm 0 ⟨φ, hx.up (hB1.tr hB2), fun B3 l3 ks3 hB3 hl3 nd3 hu3 hz3 => ?_⟩)))
  refine ⟨l3, _, rfl, SqL.of (jn_b hl3), fun i σ B' M0 => ∃ o, σ = [some x, some (.ref d), o] ∧ M0 = M' ∧ Ex B3 B', ⟨_, rfl, rfl, Ex.id'⟩, ?_, ?_, ?_⟩
  · rintro i σ B' M' _ ⟨o, rfl, rfl, hB⟩
    exact SqL.of (jn_b (hB _ _ hl3))
  · rintro i y σ B' M' hi _ ⟨o, rfl, rfl, hB⟩
    obtain ⟨name, rfl, hni⟩ := strs_at hi
    have hpk := hsup name ((hz3 name).mp (List.mem_of_getElem? hni))
    obtain ⟨u, hu, hur⟩ := hk.some hpk
    have hBB : Ex B B' := ((hB1.tr hB2).tr hB3).tr hB
    refine gm_name 2 sc_Form_at.nd (sm_one (s1_if (tm_cmp op_lt (em_rtop t (em_Radd F.r (hr.mono (by decide)) (em_dget (u1 hr) (em_nm 1 (em_nm 2 ⟨d, u, rfl, .inl ⟨kvs, .inr name, .inl (jn_b (hBB _ _ hd)), rfl, hu.symm⟩, ?_⟩))))))))
    refine em_R1 F.r (hr.mono (by decide)) (em_int ⟨0, rfl, fun v0 B4 hB4 hv0 => ⟨p name, 0, .inr ⟨hur.up (hBB.tr hB4), hv0.num⟩, hsz name hpk, sz0, fun v5 B5 hB5 hv5 => ⟨p name + 0, hv5, em_int (om_I0 ⟨_, rfl, iff' ?_ (sm_nil ⟨_, rfl, rfl, (hB.tr hB4).tr hB5⟩)⟩)⟩⟩⟩)
    have e0 : p name + 0 = p name := by grind
    rw [e0]
    have := Rat.num_nonneg.mpr (hpos name hpk)
    exact decide_eq_false (by omega)
  rintro σ B4 M0 _ ⟨o4, rfl, rfl, hB4⟩
  -- the sum
  have hB04 : Ex B B4 := ((hB1.tr hB2).tr hB3).tr hB4
  refine sm_one (s1_ret (em_sm F.r.sum (hr.mono (by decide)) t.sm_Ratio_sum_of t.g_Ratio (am_cons (em_lcB rfl sc_Form_at.nd (blk_ok (N := n_Form_at) (sc := defScope s_Form_at) [("name", 2)] (by decide +kernel)) (em_names F (hr.mono (by decide)) (em_nm 0 ⟨φ, hx.up hB04, fun B5 l5 ks5 hB5 hl5 nd5 hu5 hz5 => ?_⟩))))))
  refine ⟨l5, _, rfl, hl5, lcb_map 2 sc_Form_at.nd (by rw [str_len]; have := nodup_len nd5 hu5; have := F.u.len; omega) (fun i v B => ∃ name, ks5[i]? = some name ∧ RatAt K B v (φ name * p name)) (fun i y B B' e ⟨n, h1, h2⟩ => ⟨n, h1, h2.up e⟩) ?_ ?_⟩
  · rintro i v B6 M6 hv _ hB6 hM6 s3 H3 C3 cl3 fp3
    obtain ⟨name, rfl, hni⟩ := strs_at hv
    have hBB : Ex B B6 := (hB04.tr hB5).tr hB6
    have hnz := (hz5 name).mp (List.mem_of_getElem? hni)
    have hpk := hsup name hnz
    obtain ⟨u, hu, hur⟩ := hk.some hpk
    refine em_Rmul F.r (hr.mono (by decide)) (em_share F (hr.mono (by decide)) (em_nm 0 ⟨φ, hx.up hBB, em_nm 2 ⟨name, rfl, fun v1 B7 hB7 hv1 => ?_⟩⟩))
    refine em_dget (u1 hr) (em_nm 1 (em_nm 2 ⟨d, u, rfl, .inl ⟨kvs, .inr name, .inl (jn_b ((hBB.tr hB7) _ _ hd)), rfl, hu.symm⟩, ?_⟩))
    exact ⟨φ name, p name, hv1, (hur.up (hBB.tr hB7)).num, sx name, hsz name hpk, fun v3 B8 hB8 hv3 => ⟨rfl, name, hni, hv3⟩⟩
  · rintro d6 ys B6 hB6 hd6 hl6 hy6
    rw [str_len] at hl6
    refine am_nil ⟨d6, ys, ks5.map fun k => φ k * p k, rfl, hd6, paired_of (by rw [List.length_map, hl6]) ?_, ?_, ?_, fun v B7 hB7 hv => hq v B7 ((((hB04.tr hB5).tr hB6).tr hB7)) ?_⟩
    · intro i y q h1 h2
      obtain ⟨name, h3, h4⟩ := hy6 i y h1
      rw [List.getElem?_map, h3] at h2
      injection h2 with h2
      rw [← h2]
      exact h4.num
    · intro q hq'
      obtain ⟨k, hk', rfl⟩ := List.mem_map.mp hq'
      exact sxp k (hu5 k hk')
    · intro i _
      rw [← List.map_take]
      exact sdot _ (nd5.sublist (List.take_sublist _ _)) fun k hk' => hu5 k (List.mem_of_mem_take hk')
    · rwa [dot_ks F.u.nd nd5 hu5 hz5] at hv
/-- everything of the forms -/
structure FP (P : Program) (w : World) (K : PySem.W.Frag) (mg : Str → Option Value) (base : Heap) (U : List Str) : Prop where
  b : FB P w K mg base U
  add : Pr P w K mg base 51 (ma K (ga K "Form") "__add__") [] (spFF K U fun a b => a + b)
  sub : Pr P w K mg base 51 (ma K (ga K "Form") "__sub__") [] (spFF K U fun a b => a - b)
  neg : Pr P w K mg base 51 (ma K (ga K "Form") "__neg__") [] (spFneg K U)
  mul : Pr P w K mg base 51 (ma K (ga K "Form") "__mul__") [] (spFN K U (fun _ => True) fun a b => a * b)
  over : Pr P w K mg base 53 (ma K (ga K "Form") "over") [] (spFN K U (fun q => q ≠ 0) fun a b => a / b)
  same : Pr P w K mg base 53 (ma K (ga K "Form") "same") [] (spFsame K U)
  of : Pr P w K mg base 48 (wf K (ga K "Form") "classmethod" "of") [] (spOf K U)
  at_ : Pr P w K mg base 51 (ma K (ga K "Form") "at") [] (spAt K U)
theorem fp_of (F : FB P w K mg base U) : FP P w K mg base U := ⟨F, pr_fadd F, pr_fsub F, pr_fneg F, pr_fmul F, pr_fover F, pr_fsame F, pr_of F, pr_fat F⟩
end
section
variable {X : Cx} {a b e o : Expr} {σ : St} {B M : Hp} {P : V → Hp → Hp → Prop} {pos apos np : Pos} {U : List Str} {pl : Sem Bool} (F : FP X.prog X.w X.K X.mg X.base U)
include F
theorem em_Fadd (hr : Room 53 X.A) (h : EM X a σ B M fun x B1 M1 => EM X b σ B1 M1 fun y B2 M2 => ∃ φ ψ, FormAt X.K U B2 x φ ∧ FormAt X.K U B2 y ψ ∧ SzF φ ∧ SzF ψ ∧ SzF (fun k => φ k + ψ k) ∧ ∀ v B', Ex B2 B' → FormAt X.K U B' v (fun k => φ k + ψ k) → P v B' M2) : EM X (.BinOp a .Add b pos) σ B M P :=
  em_op (op_own (op := .Add) F.add (hr.mono (by decide)) F.b.r.t.opc_Form_add) (h.imp fun x B1 M1 _ h2 => h2.imp fun y B2 M2 _ ⟨φ, ψ, hx, hy, h1, h2, h3, hv⟩ => om_own hx.obj' hy.obj' ⟨x, y, φ, ψ, rfl, hx, hy, h1, h2, h3, hv⟩)
theorem em_Fsub (hr : Room 53 X.A) (h : EM X a σ B M fun x B1 M1 => EM X b σ B1 M1 fun y B2 M2 => ∃ φ ψ, FormAt X.K U B2 x φ ∧ FormAt X.K U B2 y ψ ∧ SzF φ ∧ SzF ψ ∧ SzF (fun k => φ k - ψ k) ∧ ∀ v B', Ex B2 B' → FormAt X.K U B' v (fun k => φ k - ψ k) → P v B' M2) : EM X (.BinOp a .Sub b pos) σ B M P :=
  em_op (op_own (op := .Sub) F.sub (hr.mono (by decide)) F.b.r.t.opc_Form_sub) (h.imp fun x B1 M1 _ h2 => h2.imp fun y B2 M2 _ ⟨φ, ψ, hx, hy, h1, h2, h3, hv⟩ => om_own hx.obj' hy.obj' ⟨x, y, φ, ψ, rfl, hx, hy, h1, h2, h3, hv⟩)
theorem em_Fneg (hr : Room 53 X.A) (h : EM X a σ B M fun x B1 M1 => ∃ φ, FormAt X.K U B1 x φ ∧ SzF φ ∧ ∀ v B', Ex B1 B' → FormAt X.K U B' v (fun k => -φ k) → P v B' M1) : EM X (.UnaryOp .USub a pos) σ B M P :=
  em_un (un_own F.neg (hr.mono (by decide)) F.b.r.t.fi_Form_neg F.b.r.t.fn_Form_neg) (h.imp fun x B1 M1 _ ⟨φ, hx, h1, hv⟩ => om_neg hx.obj' ⟨x, φ, rfl, hx, h1, hv⟩)
theorem em_Fmul (hr : Room 53 X.A) (h : EM X a σ B M fun x B1 M1 => EM X b σ B1 M1 fun y B2 M2 => ∃ φ q, FormAt X.K U B2 x φ ∧ NumAt X.K B2 y q ∧ SzF φ ∧ Sz q ∧ SzF (fun k => φ k * q) ∧ ∀ v B', Ex B2 B' → FormAt X.K U B' v (fun k => φ k * q) → P v B' M2) : EM X (.BinOp a .Mult b pos) σ B M P :=
  em_fmul F.b.r.t F.mul (hr.mono (by decide)) h
theorem em_Fover (hr : Room 53 X.A) (h : EM X o σ B M fun x B1 M1 => ∃ φ, FormAt X.K U B1 x φ ∧ EM X e σ B1 M1 fun y B2 M2 => ∃ q, NumAt X.K B2 y q ∧ SzF φ ∧ Sz q ∧ q ≠ 0 ∧ SzF (fun k => φ k / q) ∧ ∀ v B', Ex B2 B' → FormAt X.K U B' v (fun k => φ k / q) → P v B' M2)
    (hst : starEach [e] X.env = (false, eval e X.env) :: starEach [] X.env := by rfl)
    (ht : eval (.Call (.Attribute o ("over" : Str) apos) [e] [] pos) X.env = (do
      let ov ← eval o X.env
      standAt apos.atName
      let (f, first) ← holding [ov] (getMethod ov ("over" : Str) pl)
      callWith pos f first (backTo pos (starEach [e] X.env)) (backToKw pos (keywordEach [] X.env))) := by rfl) : EM X (.Call (.Attribute o ("over" : Str) apos) [e] [] pos) σ B M P :=
  em_meth F.over hr F.b.r.t.cl_Form F.b.r.t.m_Form_over (h.imp fun x B1 M1 _ ⟨φ, hx, q⟩ => by
    obtain ⟨a, dx, fs, h1, h2, h3⟩ := hx.obj (M := M1) (m := "over") (fun _ => rfl)
    exact ⟨a, dx, fs, h1, h2, h3, am_cons (q.imp fun y B2 M2 hB2 ⟨q, hy, sx, sy, hq, sxy, hv⟩ => am_nil ⟨x, y, φ, q, rfl, hx.up hB2, hy, sx, sy, hq, sxy, hv⟩) hst⟩) hst (by rfl) ht
theorem em_Fsame (hr : Room 53 X.A) (h : EM X o σ B M fun x B1 M1 => ∃ φ, FormAt X.K U B1 x φ ∧ EM X e σ B1 M1 fun y B2 M2 => ∃ ψ, FormAt X.K U B2 y ψ ∧ SzF φ ∧ SzF ψ ∧ ∀ B' (r : Bool), Ex B2 B' → (r = true ↔ ∀ k, φ k = ψ k) → P (.bl r) B' M2)
    (hst : starEach [e] X.env = (false, eval e X.env) :: starEach [] X.env := by rfl)
    (ht : eval (.Call (.Attribute o ("same" : Str) apos) [e] [] pos) X.env = (do
      let ov ← eval o X.env
      standAt apos.atName
      let (f, first) ← holding [ov] (getMethod ov ("same" : Str) pl)
      callWith pos f first (backTo pos (starEach [e] X.env)) (backToKw pos (keywordEach [] X.env))) := by rfl) : EM X (.Call (.Attribute o ("same" : Str) apos) [e] [] pos) σ B M P :=
  em_meth F.same hr F.b.r.t.cl_Form F.b.r.t.m_Form_same (h.imp fun x B1 M1 _ ⟨φ, hx, q⟩ => by
    obtain ⟨a, dx, fs, h1, h2, h3⟩ := hx.obj (M := M1) (m := "same") (fun _ => rfl)
    exact ⟨a, dx, fs, h1, h2, h3, am_cons (q.imp fun y B2 M2 hB2 ⟨ψ, hy, sx, sy, hv⟩ => am_nil ⟨x, y, φ, ψ, rfl, hx.up hB2, hy, sx, sy, hv⟩) hst⟩) hst (by rfl) ht
theorem em_Fof (hr : Room 53 X.A) (h : EM X e σ B M fun y B2 M2 => ∃ name, y = .str name ∧ name ∈ U ∧ ∀ v B', Ex B2 B' → FormAt X.K U B' v (oneF name) → P v B' M2) (hg : Gl X "Form" := by rfl)
    (hst : starEach [e] X.env = (false, eval e X.env) :: starEach [] X.env := by rfl)
    (ht : eval (.Call (.Attribute (.Name ("Form" : Str) np) ("of" : Str) apos) [e] [] pos) X.env = (do
      let ov ← eval (.Name ("Form" : Str) np) X.env
      standAt apos.atName
      let (f, first) ← holding [ov] (getMethod ov ("of" : Str) pl)
      callWith pos f first (backTo pos (starEach [e] X.env)) (backToKw pos (keywordEach [] X.env))) := by rfl) : EM X (.Call (.Attribute (.Name ("Form" : Str) np) ("of" : Str) apos) [e] [] pos) σ B M P :=
  em_cm F.of (hr.mono (by decide)) F.b.r.t.sm_Form_of F.b.r.t.g_Form (am_cons (h.imp fun y B2 M2 _ ⟨name, hy, hn, hv⟩ => am_nil ⟨name, (by rw [hy]), hn, hv⟩) hst) hg (by decide) hst (by rfl) ht
theorem em_Fat (hr : Room 53 X.A) (h : EM X o σ B M fun x B1 M1 => ∃ φ, FormAt X.K U B1 x φ ∧ EM X e σ B1 M1 fun y B2 M2 => ∃ d p pks, y = .ref d ∧ PrAt X.K B2 d p pks ∧ (∀ k, φ k ≠ 0 → k ∈ pks) ∧ SzF φ ∧ (∀ k ∈ U, Sz (φ k * p k)) ∧ (∀ l : List Str, l.Nodup → (∀ k ∈ l, k ∈ U) → Sz (rsum (l.map fun k => φ k * p k))) ∧
      ∀ v B', Ex B2 B' → RatAt X.K B' v (dot U φ p) → P v B' M2)
    (hst : starEach [e] X.env = (false, eval e X.env) :: starEach [] X.env := by rfl)
    (ht : eval (.Call (.Attribute o ("at" : Str) apos) [e] [] pos) X.env = (do
      let ov ← eval o X.env
      standAt apos.atName
      let (f, first) ← holding [ov] (getMethod ov ("at" : Str) pl)
      callWith pos f first (backTo pos (starEach [e] X.env)) (backToKw pos (keywordEach [] X.env))) := by rfl) : EM X (.Call (.Attribute o ("at" : Str) apos) [e] [] pos) σ B M P :=
  em_meth F.at_ (hr.mono (by decide)) F.b.r.t.cl_Form F.b.r.t.m_Form_at (h.imp fun x B1 M1 _ ⟨φ, hx, q⟩ => by
    obtain ⟨a, dx, fs, h1, h2, h3⟩ := hx.obj (M := M1) (m := "at") (fun _ => rfl)
    exact ⟨a, dx, fs, h1, h2, h3, am_cons (q.imp fun y B2 M2 hB2 ⟨d, p, pks, hy, hp, hs, h4, h5, h6, hv⟩ => am_nil (by subst hy; exact ⟨x, d, φ, p, pks, rfl, hx.up hB2, hp, hs, h4, h5, h6, hv⟩)) hst⟩) hst (by rfl) ht
end
end LC
end LcForm7
section LcGJ
set_option maxHeartbeats 4000000
/-! The plain law of Shown: steps cleared of one another. -/
namespace LC
open PySem
/-! ### sums -/
def sumN : Nat → (Nat → Rat) → Rat
  | 0, _ => 0
  | n + 1, g => sumN n g + g n
theorem sumN_congr {n : Nat} {f g : Nat → Rat} (h : ∀ i, i < n → f i = g i) : sumN n f = sumN n g := by
  induction n with
  | zero => rfl
  | succ n ih =>
    show sumN n f + f n = sumN n g + g n
    rw [ih fun i hi => h i (by omega), h n (by omega)]
theorem sumN_add (n : Nat) (f g : Nat → Rat) : sumN n (fun i => f i + g i) = sumN n f + sumN n g := by
  induction n with
  | zero => show (0 : Rat) = 0 + 0; grind
  | succ n ih => show sumN n _ + _ = (sumN n f + f n) + (sumN n g + g n); rw [ih]; grind
theorem sumN_mul (n : Nat) (c : Rat) (f : Nat → Rat) : sumN n (fun i => c * f i) = c * sumN n f := by
  induction n with
  | zero => show (0 : Rat) = c * 0; grind
  | succ n ih => show sumN n _ + _ = c * (sumN n f + f n); rw [ih]; grind
theorem sumN_sub (n : Nat) (f g : Nat → Rat) : sumN n (fun i => f i - g i) = sumN n f - sumN n g := by
  induction n with
  | zero => show (0 : Rat) = 0 - 0; grind
  | succ n ih => show sumN n _ + _ = (sumN n f + f n) - (sumN n g + g n); rw [ih]; grind
theorem sumN_zero {n : Nat} {f : Nat → Rat} (h : ∀ i, i < n → f i = 0) : sumN n f = 0 := by
  rw [sumN_congr (g := fun _ => 0) h]
  induction n with
  | zero => rfl
  | succ n ih => show sumN n _ + 0 = (0 : Rat); rw [ih fun i hi => h i (by omega)]; grind
theorem sumN_one {n j : Nat} (hj : j < n) {f : Nat → Rat} (h : ∀ i, i ≠ j → f i = 0) : sumN n f = f j := by
  induction n with
  | zero => omega
  | succ n ih =>
    show sumN n f + f n = f j
    by_cases e : j = n
    · subst e
      rw [sumN_zero fun i hi => h i (by omega)]; grind
    · rw [ih (by omega), h n fun q => e q.symm]; grind
section
variable {α : Type}
def lsum (l : List α) (f : α → Rat) : Rat := rsum (l.map f)
theorem lsum_nil (f : α → Rat) : lsum [] f = 0 := rfl
theorem lsum_cons (a : α) (l : List α) (f : α → Rat) : lsum (a :: l) f = f a + lsum l f := rfl
theorem lsum_append (a b : List α) (f : α → Rat) : lsum (a ++ b) f = lsum a f + lsum b f := by unfold lsum; rw [List.map_append, rsum_append]
theorem lsum_map {β : Type} (l : List β) (g : β → α) (f : α → Rat) : lsum (l.map g) f = lsum l fun x => f (g x) := by unfold lsum; rw [List.map_map]; rfl
theorem lsum_congr {l : List α} {f g : α → Rat} (h : ∀ x ∈ l, f x = g x) : lsum l f = lsum l g := by
  induction l with
  | nil => rfl
  | cons a l ih => rw [lsum_cons, lsum_cons, h a (List.mem_cons_self ..), ih fun x hx => h x (List.mem_cons_of_mem _ hx)]
theorem lsum_zero {l : List α} {f : α → Rat} (h : ∀ x ∈ l, f x = 0) : lsum l f = 0 := by
  induction l with
  | nil => rfl
  | cons a l ih => rw [lsum_cons, h a (List.mem_cons_self ..), ih fun x hx => h x (List.mem_cons_of_mem _ hx)]; grind
theorem lsum_add (l : List α) (f g : α → Rat) : lsum l (fun x => f x + g x) = lsum l f + lsum l g := by
  induction l with
  | nil => show (0 : Rat) = 0 + 0; grind
  | cons a l ih => rw [lsum_cons, lsum_cons, lsum_cons, ih]; grind
theorem lsum_sub (l : List α) (f g : α → Rat) : lsum l (fun x => f x - g x) = lsum l f - lsum l g := by
  induction l with
  | nil => show (0 : Rat) = 0 - 0; grind
  | cons a l ih => rw [lsum_cons, lsum_cons, lsum_cons, ih]; grind
theorem lsum_mul (l : List α) (c : Rat) (f : α → Rat) : lsum l (fun x => c * f x) = c * lsum l f := by
  induction l with
  | nil => show (0 : Rat) = c * 0; grind
  | cons a l ih => rw [lsum_cons, lsum_cons, ih]; grind
theorem lsum_sumN (l : List α) (n : Nat) (f : α → Nat → Rat) : lsum l (fun x => sumN n (f x)) = sumN n fun i => lsum l fun x => f x i := by
  induction l with
  | nil => rw [lsum_nil, sumN_zero]; intro i _; rfl
  | cons a l ih => rw [lsum_cons, ih, ← sumN_add]; rfl
theorem lsum_lsum {β : Type} (l : List α) (m : List β) (f : α → β → Rat) : lsum l (fun x => lsum m (f x)) = lsum m fun y => lsum l fun x => f x y := by
  induction l with
  | nil => rw [lsum_nil, lsum_zero]; intro i _; rfl
  | cons a l ih => rw [lsum_cons, ih, ← lsum_add]; rfl
end
/-! ### combinations -/
/-- Σ c i · F i -/
def comb (n : Nat) (F : Nat → Str → Rat) (c : Nat → Rat) (k : Str) : Rat := sumN n fun i => c i * F i k
structure Stp where
  p : Str
  φ : Str → Rat
  c : Nat → Rat
def redF (l : List Stp) (φ : Str → Rat) (k : Str) : Rat := φ k - lsum l fun s => φ s.p * s.φ k
def redC (l : List Stp) (φ : Str → Rat) (c : Nat → Rat) (i : Nat) : Rat := c i - lsum l fun s => φ s.p * s.c i
/-- each step has share 1 at its own pivot, the others none there -/
structure Clr (l : List Stp) : Prop where
  one : ∀ s ∈ l, s.φ s.p = 1
  off : l.Pairwise fun s t => s.φ t.p = 0 ∧ t.φ s.p = 0
theorem Clr.delta : ∀ {l : List Stp}, Clr l → ∀ {t : Stp}, t ∈ l → ∀ a : Stp → Rat, lsum l (fun s => a s * s.φ t.p) = a t
  | [], _, _, h, _ => by cases h
  | s :: l, ⟨h1, h2⟩, t, ht, a => by
    obtain ⟨h3, h4⟩ := List.pairwise_cons.mp h2
    rw [lsum_cons]
    rcases List.mem_cons.mp ht with rfl | ht
    · rw [h1 t (List.mem_cons_self ..), lsum_zero]
      · grind
      · intro x hx
        rw [(h3 x hx).2]; grind
    · have ih := Clr.delta (l := l) ⟨fun s hs => h1 s (List.mem_cons_of_mem _ hs), h4⟩ ht a
      rw [ih, (h3 t ht).1]; grind
theorem Clr.take {l : List Stp} (h : Clr l) (i : Nat) : Clr (l.take i) := ⟨fun s hs => h.one s (List.mem_of_mem_take hs), h.off.sublist (List.take_sublist _ _)⟩
theorem Clr.piv {l : List Stp} (h : Clr l) {t : Stp} (ht : t ∈ l) (φ : Str → Rat) : redF l φ t.p = 0 := by
  unfold redF
  rw [h.delta ht fun s => φ s.p]; grind
/-- a turn of reduced: the share there is the first form's -/
theorem Clr.turn {l : List Stp} (h : Clr l) {i : Nat} {t : Stp} (ht : l[i]? = some t) (φ : Str → Rat) : redF (l.take i) φ t.p = φ t.p := by
  unfold redF
  rw [lsum_zero]
  · grind
  · intro s hs
    have h2 := h.off
    have hlt := (List.getElem?_eq_some_iff.mp ht).1
    have e : l = l.take i ++ l.drop i := (List.take_append_drop i l).symm
    rw [e] at h2
    have h3 := (List.pairwise_append.mp h2).2.2 s hs t (by
      rw [List.mem_iff_getElem?]
      exact ⟨0, by rw [List.getElem?_drop]; simpa using ht⟩)
    rw [h3.1]; grind
theorem red_take {l : List Stp} {i : Nat} {t : Stp} (ht : l[i]? = some t) (φ : Str → Rat) (k : Str) : redF (l.take (i + 1)) φ k = redF (l.take i) φ k - t.φ k * φ t.p := by
  unfold redF
  rw [List.take_add_one, ht, lsum_append]
  show _ - (_ + (φ t.p * t.φ k + 0)) = _
  grind
theorem redC_take {l : List Stp} {i : Nat} {t : Stp} (ht : l[i]? = some t) (φ : Str → Rat) (c : Nat → Rat) (j : Nat) : redC (l.take (i + 1)) φ c j = redC (l.take i) φ c j - t.c j * φ t.p := by
  unfold redC
  rw [List.take_add_one, ht, lsum_append]
  show _ - (_ + (φ t.p * t.c j + 0)) = _
  grind
/-- the state of Shown -/
structure GJ (n : Nat) (F : Nat → Str → Rat) (l : List Stp) (m : Nat) : Prop where
  clr : Clr l
  rep : ∀ s ∈ l, ∀ k, s.φ k = comb n F s.c k
  spn : ∀ i, i < m → ∀ k, F i k = lsum l fun s => F i s.p * s.φ k
def clear (t : Stp) (s : Stp) : Stp := ⟨s.p, fun k => s.φ k - t.φ k * s.φ t.p, fun i => s.c i - t.c i * s.φ t.p⟩
def newStp (l : List Stp) (φ : Str → Rat) (c : Nat → Rat) (p : Str) : Stp := ⟨p, fun k => redF l φ k / redF l φ p, fun i => redC l φ c i / redF l φ p⟩
def own (j i : Nat) : Rat := if i = j then 1 else 0
theorem comb_own {n j : Nat} (hj : j < n) (F : Nat → Str → Rat) (k : Str) : comb n F (own j) k = F j k := by
  unfold comb
  rw [sumN_one (j := j) hj]
  · unfold own; rw [if_pos rfl]; grind
  · intro i hi
    unfold own; rw [if_neg hi]; grind
theorem comb_sub (n : Nat) (F : Nat → Str → Rat) (c d : Nat → Rat) (k : Str) : comb n F (fun i => c i - d i) k = comb n F c k - comb n F d k := by
  unfold comb
  rw [← sumN_sub]
  exact sumN_congr fun i _ => by grind
theorem comb_mul (n : Nat) (F : Nat → Str → Rat) (a : Rat) (c : Nat → Rat) (k : Str) : comb n F (fun i => a * c i) k = a * comb n F c k := by
  unfold comb
  rw [← sumN_mul]
  exact sumN_congr fun i _ => by grind
theorem comb_lsum {α : Type} (n : Nat) (F : Nat → Str → Rat) (l : List α) (a : α → Rat) (c : α → Nat → Rat) (k : Str) : comb n F (fun i => lsum l fun s => a s * c s i) k = lsum l fun s => a s * comb n F (c s) k := by
  unfold comb
  have e : (fun s => a s * sumN n fun i => c s i * F i k) = fun s => sumN n fun i => a s * c s i * F i k := by
    funext s
    rw [← sumN_mul]
    exact sumN_congr fun i _ => by grind
  rw [e, lsum_sumN]
  refine sumN_congr fun i _ => ?_
  rw [show (fun s => a s * c s i * F i k) = fun s => F i k * (a s * c s i) from by funext s; grind, lsum_mul]; grind
section
variable {n : Nat} {F : Nat → Str → Rat} {l : List Stp} {m : Nat} (g : GJ n F l m)
include g
/-- what reduced keeps: rest = form + Σ (factors - first factors) · forms -/
theorem GJ.red (φ : Str → Rat) (c : Nat → Rat) (k : Str) : redF l φ k = φ k - comb n F c k + comb n F (redC l φ c) k := by
  have e : redC l φ c = fun i => c i - lsum l fun s => φ s.p * s.c i := by funext i; rfl
  rw [e, comb_sub, comb_lsum n F l (fun s => φ s.p) (fun s => s.c)]
  unfold redF
  rw [lsum_congr (g := fun s => φ s.p * comb n F s.c k) fun s hs => by rw [g.rep s hs k]]
  grind
theorem GJ.self {j : Nat} (hj : j < n) (k : Str) : redF l (F j) k = comb n F (redC l (F j) (own j)) k := by
  rw [g.red (F j) (own j) k, comb_own hj]; grind
/-- nothing remains: a relation -/
theorem GJ.rel {j : Nat} (hj : j < n) (h : ∀ k, redF l (F j) k = 0) (k : Str) : comb n F (redC l (F j) (own j)) k = 0 := by rw [← g.self hj k]; exact h k
theorem GJ.skip (h : ∀ k, redF l (F m) k = 0) : GJ n F l (m + 1) := by
  refine ⟨g.clr, g.rep, fun i hi k => ?_⟩
  by_cases e : i = m
  · subst e
    have := h k
    unfold redF at this
    grind
  · exact g.spn i (by omega) k
/-- a new step -/
theorem GJ.step (hm : m < n) {p : Str} (hp : redF l (F m) p ≠ 0) : GJ n F (l.map (clear (newStp l (F m) (own m) p)) ++ [newStp l (F m) (own m) p]) (m + 1) := by
  have ht1 : (newStp l (F m) (own m) p).φ p = 1 := by show redF l (F m) p / redF l (F m) p = 1; grind
  have htp : ∀ s ∈ l, (newStp l (F m) (own m) p).φ s.p = 0 := fun s hs => by
    show redF l (F m) s.p / redF l (F m) p = 0
    rw [g.clr.piv hs]; grind
  have hpp : (newStp l (F m) (own m) p).p = p := rfl
  have hφ : ∀ k, redF l (F m) p * (newStp l (F m) (own m) p).φ k = redF l (F m) k := fun k => by
    show redF l (F m) p * (redF l (F m) k / redF l (F m) p) = _
    grind
  have hc : ∀ k, (newStp l (F m) (own m) p).φ k = comb n F (newStp l (F m) (own m) p).c k := fun k => by
    show redF l (F m) k / redF l (F m) p = comb n F (fun i => redC l (F m) (own m) i / redF l (F m) p) k
    rw [g.self hm k, show (fun i => redC l (F m) (own m) i / redF l (F m) p) = fun i => (1 / redF l (F m) p) * redC l (F m) (own m) i from by funext i; grind, comb_mul]
    grind
  generalize newStp l (F m) (own m) p = t at *
  refine ⟨⟨fun s hs => ?_, List.pairwise_append.mpr ⟨?_, List.pairwise_singleton _ _, ?_⟩⟩, fun s hs k => ?_, fun i hi k => ?_⟩
  · rcases List.mem_append.mp hs with hs | hs
    · obtain ⟨s0, h0, rfl⟩ := List.mem_map.mp hs
      show s0.φ s0.p - t.φ s0.p * s0.φ t.p = 1
      rw [htp s0 h0, g.clr.one s0 h0]; grind
    · simp at hs
      subst hs
      rw [hpp]; exact ht1
  · rw [List.pairwise_map]
    refine List.Pairwise.imp_of_mem ?_ g.clr.off
    intro s u hs hu ⟨h1, h2⟩
    refine ⟨?_, ?_⟩
    · show s.φ u.p - t.φ u.p * s.φ t.p = 0
      rw [h1, htp u hu]; grind
    · show u.φ s.p - t.φ s.p * u.φ t.p = 0
      rw [h2, htp s hs]; grind
  · intro s hs u hu
    obtain ⟨s0, h0, rfl⟩ := List.mem_map.mp hs
    simp at hu
    subst hu
    refine ⟨?_, htp s0 h0⟩
    show s0.φ u.p - u.φ u.p * s0.φ u.p = 0
    rw [hpp, ht1]; grind
  · rcases List.mem_append.mp hs with hs | hs
    · obtain ⟨s0, h0, rfl⟩ := List.mem_map.mp hs
      show s0.φ k - t.φ k * s0.φ t.p = comb n F (fun i => s0.c i - t.c i * s0.φ t.p) k
      rw [comb_sub, ← g.rep s0 h0 k, show (fun i => t.c i * s0.φ t.p) = fun i => s0.φ t.p * t.c i from by funext i; grind, comb_mul, ← hc k]
      grind
    · simp at hs
      subst hs
      exact hc k
  · rw [lsum_append, lsum_map]
    have e1 : lsum [t] (fun s => F i s.p * s.φ k) = F i p * t.φ k := by rw [lsum_cons, lsum_nil, hpp]; grind
    have e2 : lsum l (fun x => F i (clear t x).p * (clear t x).φ k) = (lsum l fun s => F i s.p * s.φ k) - t.φ k * lsum l fun s => F i s.p * s.φ p := by
      rw [← lsum_mul, ← lsum_sub]
      refine lsum_congr fun s _ => ?_
      show F i s.p * (s.φ k - t.φ k * s.φ t.p) = _
      rw [hpp]; grind
    rw [e1, e2]
    by_cases e : i = m
    · subst e
      have h1 := hφ k
      unfold redF at h1
      grind
    · rw [← g.spn i (by omega) k, ← g.spn i (by omega) p]; grind
end
/-- reached by all forms -/
theorem GJ.mem {n : Nat} {F : Nat → Str → Rat} {l : List Stp} (g : GJ n F l n) {φ : Str → Rat} {w : Nat → Rat} (h : ∀ k, φ k = comb n F w k) (k : Str) : redF l φ k = 0 := by
  unfold redF
  have e : (fun s : Stp => φ s.p * s.φ k) = fun s => sumN n fun i => w i * (F i s.p * s.φ k) := by
    funext s
    rw [h s.p]
    unfold comb
    rw [show sumN n (fun i => w i * F i s.p) * s.φ k = s.φ k * sumN n (fun i => w i * F i s.p) from by grind, ← sumN_mul]
    exact sumN_congr fun i _ => by grind
  rw [e, lsum_sumN, h k]
  unfold comb
  have e2 : sumN n (fun i => lsum l fun s => w i * (F i s.p * s.φ k)) = sumN n fun i => w i * F i k := by
    refine sumN_congr fun i hi => ?_
    rw [lsum_mul, ← g.spn i hi k]
  rw [e2]; grind
theorem GJ.out {n : Nat} {F : Nat → Str → Rat} {l : List Stp} {m : Nat} (g : GJ n F l m) {φ : Str → Rat} (h : ∀ k, redF l φ k = 0) (k : Str) : φ k = comb n F (fun i => -redC l φ (fun _ => 0) i) k := by
  have h1 := g.red φ (fun _ => 0) k
  have e0 : comb n F (fun _ => 0) k = 0 := sumN_zero fun i _ => by grind
  have e1 : comb n F (fun i => -redC l φ (fun _ => 0) i) k = -comb n F (redC l φ fun _ => 0) k := by
    rw [show (fun i => -redC l φ (fun _ => 0) i) = fun i => (-1 : Rat) * redC l φ (fun _ => 0) i from by funext i; grind, comb_mul]
    grind
  rw [h k, e0] at h1
  rw [e1]; grind
end LC
end LcGJ
section LcGJ2
set_option maxHeartbeats 4000000
/-! Shown: the hidden ones, sizes. -/
namespace LC
open PySem
theorem Clr.delta2 : ∀ {l : List Stp}, Clr l → ∀ {s : Stp}, s ∈ l → ∀ a : Stp → Rat, lsum l (fun t => s.φ t.p * a t) = a s
  | [], _, _, h, _ => by cases h
  | u :: l, ⟨h1, h2⟩, s, hs, a => by
    obtain ⟨h3, h4⟩ := List.pairwise_cons.mp h2
    rw [lsum_cons]
    rcases List.mem_cons.mp hs with rfl | hs
    · rw [h1 s (List.mem_cons_self ..), lsum_zero]
      · grind
      · intro x hx
        rw [(h3 x hx).1]; grind
    · have ih := Clr.delta2 (l := l) ⟨fun s hs => h1 s (List.mem_cons_of_mem _ hs), h4⟩ hs a
      rw [ih, (h3 s hs).2]; grind
theorem Clr.nd : ∀ {l : List Stp}, Clr l → (l.map (·.p)).Nodup
  | [], _ => List.nodup_nil
  | s :: l, ⟨h1, h2⟩ => by
    obtain ⟨h3, h4⟩ := List.pairwise_cons.mp h2
    refine List.nodup_cons.mpr ⟨fun q => ?_, Clr.nd (l := l) ⟨fun s hs => h1 s (List.mem_cons_of_mem _ hs), h4⟩⟩
    obtain ⟨t, ht, e⟩ := List.mem_map.mp q
    have h5 := (h3 t ht).1
    have e' : t.p = s.p := e
    rw [e', h1 s (List.mem_cons_self ..)] at h5
    exact absurd h5 (by decide)
/-- the change of the prices that the told values do not see -/
structure Chg (l : List Stp) (free : Str) (c : Str → Rat) : Prop where
  f : c free = 1
  p : ∀ s ∈ l, c s.p = -s.φ free
  o : ∀ k, k ≠ free → (∀ s ∈ l, s.p ≠ k) → c k = 0
theorem dot_lsum (U : List Str) (a c : Str → Rat) : dot U a c = lsum U fun k => a k * c k := rfl
theorem dot_comb {α : Type} (U : List Str) (l : List α) (a : α → Rat) (b : α → Str → Rat) (c : Str → Rat) : dot U (fun k => lsum l fun s => a s * b s k) c = lsum l fun s => a s * dot U (b s) c := by
  rw [dot_lsum]
  have e : (fun s => a s * dot U (b s) c) = fun s => lsum U fun k => a s * (b s k * c k) := by funext s; rw [lsum_mul]; rfl
  rw [e, lsum_lsum]
  refine lsum_congr fun k _ => ?_
  rw [show (fun x => a x * (b x k * c k)) = fun x => c k * (a x * b x k) from by funext x; grind, lsum_mul]; grind
theorem dot_sub (U : List Str) (a b c : Str → Rat) : dot U (fun k => a k - b k) c = dot U a c - dot U b c := by
  rw [dot_lsum, dot_lsum, dot_lsum, ← lsum_sub]
  exact lsum_congr fun k _ => by grind
theorem dot_add (U : List Str) (a b c : Str → Rat) : dot U (fun k => a k + b k) c = dot U a c + dot U b c := by
  rw [dot_lsum, dot_lsum, dot_lsum, ← lsum_add]
  exact lsum_congr fun k _ => by grind
theorem dot_mul (U : List Str) (x : Rat) (a c : Str → Rat) : dot U (fun k => x * a k) c = x * dot U a c := by
  rw [dot_lsum, dot_lsum, ← lsum_mul]
  exact lsum_congr fun k _ => by grind
theorem dot_N (U : List Str) (n : Nat) (w : Nat → Rat) (F : Nat → Str → Rat) (c : Str → Rat) : dot U (comb n F w) c = sumN n fun i => w i * dot U (F i) c := by
  rw [dot_lsum]
  unfold comb
  have e : (fun k => sumN n (fun i => w i * F i k) * c k) = fun k => sumN n fun i => w i * (F i k * c k) := by
    funext k
    rw [show sumN n (fun i => w i * F i k) * c k = c k * sumN n (fun i => w i * F i k) from by grind, ← sumN_mul]
    exact sumN_congr fun i _ => by grind
  rw [e, lsum_sumN]
  refine sumN_congr fun i _ => ?_
  rw [lsum_mul]; rfl
section
variable {n : Nat} {F : Nat → Str → Rat} {l : List Stp} {m : Nat} (g : GJ n F l m) {U : List Str} (u : U.Nodup) (hp : ∀ s ∈ l, s.p ∈ U) {free : Str} (hf : free ∈ U) (nf : ∀ s ∈ l, s.p ≠ free) {c : Str → Rat} (hc : Chg l free c)
include g u hp hf nf hc
theorem dot_few (a : Str → Rat) : dot U a c = a free - lsum l fun t => a t.p * t.φ free := by
  have hn : (free :: l.map (·.p)).Nodup := List.nodup_cons.mpr ⟨fun q => by
    obtain ⟨t, ht, e⟩ := List.mem_map.mp q
    exact nf t ht e, g.clr.nd⟩
  have := sum_sub (f := fun k => a k * c k) hn u (fun x hx => by
    rcases List.mem_cons.mp hx with rfl | hx
    · exact hf
    · obtain ⟨t, ht, rfl⟩ := List.mem_map.mp hx
      exact hp t ht) (fun x _ hx => by
    rw [hc.o x (fun e => hx (by rw [e]; exact List.mem_cons_self ..)) fun s hs e => hx (List.mem_cons_of_mem _ (List.mem_map.mpr ⟨s, hs, e⟩))]
    grind)
  have e : rsum (U.map fun k => a k * c k) = dot U a c := rfl
  rw [← e, ← this]
  show a free * c free + lsum (l.map (·.p)) (fun k => a k * c k) = _
  rw [lsum_map, hc.f, show (lsum l fun x => a x.p * c x.p) = lsum l fun t => (-1 : Rat) * (a t.p * t.φ free) from lsum_congr fun s hs => by rw [hc.p s hs]; grind, lsum_mul]
  grind
theorem dot_step {s : Stp} (hs : s ∈ l) : dot U s.φ c = 0 := by
  rw [dot_few g u hp hf nf hc, g.clr.delta2 hs fun t => t.φ free]; grind
theorem dot_seen {i : Nat} (hi : i < m) : dot U (F i) c = 0 := by
  have e : F i = fun k => lsum l fun s => F i s.p * s.φ k := funext (g.spn i hi)
  rw [e, dot_comb, lsum_zero]
  intro s hs
  rw [dot_step g u hp hf nf hc hs]; grind
theorem dot_asked (φ : Str → Rat) : dot U φ c = redF l φ free := dot_few g u hp hf nf hc φ
end
/-! ### sizes by common denominators -/
def Cn (D N : Nat) (q : Rat) : Prop := ∃ z : Int, q * (D : Rat) = (z : Rat) ∧ z.natAbs ≤ N
section
variable {D E N M b : Nat} {q r : Rat}
theorem Cn.mono (h : Cn D N q) (l : N ≤ M) : Cn D M q := let ⟨z, h1, h2⟩ := h; ⟨z, h1, Nat.le_trans h2 l⟩
theorem Cn.mul (h : Cn D N q) (h' : Cn E M r) : Cn (D * E) (N * M) (q * r) := by
  obtain ⟨z, h1, h2⟩ := h
  obtain ⟨y, h3, h4⟩ := h'
  refine ⟨z * y, ?_, by rw [Int.natAbs_mul]; exact Nat.mul_le_mul h2 h4⟩
  push_cast
  rw [← h1, ← h3]; grind
theorem Cn.sub (h : Cn D N q) (h' : Cn D M r) : Cn D (N + M) (q - r) := by
  obtain ⟨z, h1, h2⟩ := h
  obtain ⟨y, h3, h4⟩ := h'
  refine ⟨z - y, ?_, by omega⟩
  push_cast
  rw [← h1, ← h3]; grind
theorem Cn.add (h : Cn D N q) (h' : Cn D M r) : Cn D (N + M) (q + r) := by
  obtain ⟨z, h1, h2⟩ := h
  obtain ⟨y, h3, h4⟩ := h'
  refine ⟨z + y, ?_, by omega⟩
  push_cast
  rw [← h1, ← h3]; grind
theorem Cn.lift (h : Cn D N q) : Cn (D * E) (N * E) q := by
  obtain ⟨z, h1, h2⟩ := h
  refine ⟨z * E, ?_, by rw [Int.natAbs_mul, Int.natAbs_natCast]; exact Nat.mul_le_mul_right _ h2⟩
  push_cast
  rw [← h1]; grind
theorem Cn.comm (h : Cn (D * E) N q) : Cn (E * D) N q := by rw [Nat.mul_comm]; exact h
theorem Cn.zero : Cn D 0 0 := ⟨0, by simp, by simp⟩
theorem Cn.int (i : Int) : Cn 1 i.natAbs (i : Rat) := ⟨i, by simp, Nat.le_refl _⟩
theorem Cn.neg (h : Cn D N q) : Cn D N (-q) := by
  obtain ⟨z, h1, h2⟩ := h
  refine ⟨-z, ?_, by omega⟩
  push_cast
  rw [← h1]; grind
theorem Cn.lsum {α : Type} {l : List α} {f : α → Rat} (h : ∀ x ∈ l, Cn D N (f x)) : Cn D (l.length * N) (LC.lsum l f) := by
  induction l with
  | nil =>
    have := Cn.zero (D := D)
    simpa [lsum_nil] using this
  | cons a l ih =>
    rw [lsum_cons]
    refine ((h a (List.mem_cons_self ..)).add (ih fun x hx => h x (List.mem_cons_of_mem _ hx))).mono ?_
    rw [List.length_cons, Nat.add_mul]; omega
theorem Cn.eq (hD : 0 < D) (h : Cn D N q) : ∃ z : Int, q = Rat.divInt z D ∧ z.natAbs ≤ N := by
  obtain ⟨z, h1, h2⟩ := h
  refine ⟨z, ?_, h2⟩
  rw [Rat.divInt_eq_div, ← h1]
  have : (D : Rat) ≠ 0 := fun e => by have := Rat.natCast_eq_zero_iff.mp e; omega
  rw [Rat.intCast_natCast]
  grind
theorem Cn.sb (hD : 0 < D) (hb : D < 2 ^ b) (hN : N < 2 ^ b) (h : Cn D N q) : Sb b q := by
  obtain ⟨z, rfl, h2⟩ := h.eq hD
  exact Sb.of (by omega) (by omega) (by rw [Int.natAbs_natCast]; exact hb)
/-- a quotient of two with one denominator -/
theorem Cn.div (h : Cn D N q) (h' : Cn D M r) (hr : r ≠ 0) (hD : 0 < D) : ∃ z : Int, r * (D : Rat) = z ∧ z ≠ 0 ∧ z.natAbs ≤ M ∧ Cn z.natAbs N (q / r) := by
  obtain ⟨x, h1, h2⟩ := h
  obtain ⟨z, h3, h4⟩ := h'
  have hD0 : (D : Rat) ≠ 0 := fun e => by have := Rat.natCast_eq_zero_iff.mp e; omega
  have hz : (z : Rat) ≠ 0 := by rw [← h3]; grind
  have hz' : z ≠ 0 := fun e => hz (by rw [e]; rfl)
  refine ⟨z, h3, hz', h4, ?_⟩
  rcases Int.lt_or_gt_of_ne hz' with h | h
  · refine ⟨-x, ?_, by omega⟩
    have e : ((z.natAbs : Nat) : Rat) = -(z : Rat) := by
      rw [← Rat.intCast_natCast, Int.ofNat_natAbs_of_nonpos (by omega)]
      push_cast; rfl
    rw [e]
    push_cast
    rw [← h1, ← h3]; grind
  · refine ⟨x, ?_, h2⟩
    have e : ((z.natAbs : Nat) : Rat) = (z : Rat) := by
      rw [← Rat.intCast_natCast, Int.natAbs_of_nonneg (by omega)]
    rw [e, ← h1, ← h3]; grind
end
/-- a form's size -/
def SzO (b : Nat) (φ : Str → Rat) : Prop := ∃ d, 0 < d ∧ d < 2 ^ b ∧ ∀ k, Cn d (2 ^ b) (φ k)
/-- the steps' size -/
def SzG (b : Nat) (l : List Stp) : Prop := ∃ D, 0 < D ∧ D < 2 ^ b ∧ ∀ s ∈ l, (∀ k, Cn D (2 ^ b) (s.φ k)) ∧ ∀ i, Cn D (2 ^ b) (s.c i)
theorem SzO.sb {b : Nat} {φ : Str → Rat} (h : SzO b φ) (k : Str) : Sb (b + 1) (φ k) := by
  obtain ⟨d, h1, h2, h3⟩ := h
  refine (h3 k).sb h1 (Nat.lt_of_lt_of_le h2 (Nat.pow_le_pow_right (by decide) (Nat.le_succ _))) ?_
  exact Nat.pow_lt_pow_right (by decide) (Nat.lt_succ_self _)
theorem SzG.sb {b : Nat} {l : List Stp} (h : SzG b l) {s : Stp} (hs : s ∈ l) : (∀ k, Sb (b + 1) (s.φ k)) ∧ ∀ i, Sb (b + 1) (s.c i) := by
  obtain ⟨d, h1, h2, h3⟩ := h
  have e1 : d < 2 ^ (b + 1) := Nat.lt_of_lt_of_le h2 (Nat.pow_le_pow_right (by decide) (Nat.le_succ _))
  have e2 : 2 ^ b < 2 ^ (b + 1) := Nat.pow_lt_pow_right (by decide) (Nat.lt_succ_self _)
  exact ⟨fun k => ((h3 s hs).1 k).sb h1 e1 e2, fun i => ((h3 s hs).2 i).sb h1 e1 e2⟩
theorem pw_le {a b : Nat} {x y : Nat} (h1 : x ≤ 2 ^ a) (h2 : y ≤ 2 ^ b) : x * y ≤ 2 ^ (a + b) := by rw [Nat.pow_add]; exact Nat.mul_le_mul h1 h2
theorem pw_lt {a b : Nat} {x y : Nat} (h1 : x < 2 ^ a) (h2 : y < 2 ^ b) : x * y < 2 ^ (a + b) := pow_mul_lt h1 h2
section
variable {a b : Nat} {φ : Str → Rat} {l : List Stp} (hφ : SzO a φ) (hl : SzG b l) (hn : l.length ≤ 15)
include hφ hl hn
/-- everything of a reduced form has one denominator -/
theorem red_cn : ∃ d, 0 < d ∧ d < 2 ^ (a + b) ∧ (∀ i k, Cn d (2 ^ (a + b + 4)) (redF (l.take i) φ k)) ∧ ∀ i (c : Nat → Rat) j, (Cn 1 1 (c j)) → Cn d (2 ^ (a + b + 4)) (redC (l.take i) φ c j) := by
  obtain ⟨d, h1, h2, h3⟩ := hφ
  obtain ⟨D, h4, h5, h6⟩ := hl
  have hp : 0 < d * D := Nat.mul_pos h1 h4
  have e16 : 2 ^ (a + b) + 15 * 2 ^ (a + b) ≤ 2 ^ (a + b + 4) := by rw [Nat.pow_add (n := 4)]; omega
  have hlen : ∀ i, (l.take i).length * 2 ^ (a + b) ≤ 15 * 2 ^ (a + b) := fun i => Nat.mul_le_mul_right _ (by rw [List.length_take]; omega)
  refine ⟨d * D, hp, pw_lt h2 h5, fun i k => ?_, fun i c j hc => ?_⟩
  · unfold redF
    refine Cn.mono (Cn.sub ((h3 k).lift.mono (pw_le (Nat.le_refl _) (Nat.le_of_lt h5))) (Cn.lsum (N := 2 ^ (a + b)) fun s hs => ((h3 s.p).mul ((h6 s (List.mem_of_mem_take hs)).1 k)).mono (pw_le (Nat.le_refl _) (Nat.le_refl _)))) ?_
    have := hlen i
    omega
  · unfold redC
    have h7 : Cn (1 * (d * D)) (1 * (d * D)) (c j) := hc.lift
    rw [Nat.one_mul] at h7
    refine Cn.mono (Cn.sub (h7.mono (Nat.le_of_lt (pw_lt h2 h5))) (Cn.lsum (N := 2 ^ (a + b)) fun s hs => ((h3 s.p).mul ((h6 s (List.mem_of_mem_take hs)).2 j)).mono (pw_le (Nat.le_refl _) (Nat.le_refl _)))) ?_
    have := hlen i
    omega
theorem red_sb : (∀ i k, Sb (a + b + 5) (redF (l.take i) φ k)) ∧ ∀ i (c : Nat → Rat) j, (Cn 1 1 (c j)) → Sb (a + b + 5) (redC (l.take i) φ c j) := by
  obtain ⟨d, h1, h2, h3, h4⟩ := red_cn hφ hl hn
  have e1 : d < 2 ^ (a + b + 5) := Nat.lt_of_lt_of_le h2 (Nat.pow_le_pow_right (by decide) (by omega))
  have e2 : 2 ^ (a + b + 4) < 2 ^ (a + b + 5) := Nat.pow_lt_pow_right (by decide) (by omega)
  exact ⟨fun i k => (h3 i k).sb h1 e1 e2, fun i c j hc => (h4 i c j hc).sb h1 e1 e2⟩
/-- a new step -/
theorem step_sz {p : Str} {c : Nat → Rat} (hp : redF l φ p ≠ 0) (hc : ∀ j, Cn 1 1 (c j)) : (∃ E, 0 < E ∧ E < 2 ^ (a + b + 5) ∧ (∀ k, Cn E (2 ^ (a + b + 5)) ((newStp l φ c p).φ k)) ∧ ∀ i, Cn E (2 ^ (a + b + 5)) ((newStp l φ c p).c i)) ∧
    SzG (a + b + b + 6) (l.map (clear (newStp l φ c p)) ++ [newStp l φ c p]) := by
  obtain ⟨d, h1, h2, h3, h4⟩ := red_cn hφ hl hn
  have h3' : ∀ k, Cn d (2 ^ (a + b + 4)) (redF l φ k) := fun k => by have := h3 l.length k; rwa [List.take_length] at this
  have h4' : ∀ j, Cn d (2 ^ (a + b + 4)) (redC l φ c j) := fun j => by have := h4 l.length c j (hc j); rwa [List.take_length] at this
  have e45 : 2 ^ (a + b + 4) < 2 ^ (a + b + 5) := Nat.pow_lt_pow_right (by decide) (by omega)
  obtain ⟨z, hz, hz0, hzb, _⟩ := Cn.div (h3' p) (h3' p) hp h1
  have zz : ∀ {q : Rat}, Cn d (2 ^ (a + b + 4)) q → Cn z.natAbs (2 ^ (a + b + 5)) (q / redF l φ p) := fun {q} hq => by
    obtain ⟨z', h5, _, _, h6⟩ := Cn.div hq (h3' p) hp h1
    have : z' = z := by
      have := h5.symm.trans hz
      exact Rat.intCast_inj.mp this
    rw [this] at h6
    exact h6.mono (Nat.le_of_lt e45)
  have hE : 0 < z.natAbs := by omega
  have hE2 : z.natAbs < 2 ^ (a + b + 5) := by omega
  have hφ' : ∀ k, Cn z.natAbs (2 ^ (a + b + 5)) ((newStp l φ c p).φ k) := fun k => zz (h3' k)
  have hc' : ∀ i, Cn z.natAbs (2 ^ (a + b + 5)) ((newStp l φ c p).c i) := fun i => zz (h4' i)
  have hpp : (newStp l φ c p).p = p := rfl
  generalize newStp l φ c p = t at *
  refine ⟨⟨z.natAbs, hE, hE2, hφ', hc'⟩, ?_⟩
  obtain ⟨D, h5, h6, h7⟩ := hl
  have eN : 2 ^ b * 2 ^ (a + b + 5) + 2 ^ (a + b + 5) * 2 ^ b ≤ 2 ^ (a + b + b + 6) := by
    have : 2 ^ (a + b + b + 6) = 2 * (2 ^ b * 2 ^ (a + b + 5)) := by rw [← Nat.pow_add, ← Nat.pow_succ']; congr 1; omega
    rw [this, Nat.mul_comm (2 ^ (a + b + 5))]; omega
  have eD : D * z.natAbs < 2 ^ (a + b + b + 6) := Nat.lt_of_lt_of_le (pw_lt h6 hE2) (Nat.pow_le_pow_right (by decide) (by omega))
  refine ⟨D * z.natAbs, Nat.mul_pos h5 hE, eD, fun s hs => ?_⟩
  have cl : ∀ {x y w : Rat}, Cn D (2 ^ b) x → Cn z.natAbs (2 ^ (a + b + 5)) y → Cn D (2 ^ b) w → Cn (D * z.natAbs) (2 ^ (a + b + b + 6)) (x - y * w) := fun {x y w} hx hy hw => by
    have e1 : Cn (D * z.natAbs) (2 ^ b * z.natAbs) x := hx.lift
    have e2 : Cn (D * z.natAbs) (2 ^ (a + b + 5) * 2 ^ b) (y * w) := (hy.mul hw).comm
    refine (e1.sub e2).mono (Nat.le_trans (Nat.add_le_add_right (Nat.mul_le_mul_left _ (Nat.le_of_lt hE2)) _) eN)
  rcases List.mem_append.mp hs with hs | hs
  · obtain ⟨s0, h0, rfl⟩ := List.mem_map.mp hs
    exact ⟨fun k => cl ((h7 s0 h0).1 k) (hφ' k) ((h7 s0 h0).1 _), fun i => cl ((h7 s0 h0).2 i) (hc' i) ((h7 s0 h0).1 _)⟩
  · simp at hs
    subst hs
    have up : ∀ {x : Rat}, Cn z.natAbs (2 ^ (a + b + 5)) x → Cn (D * z.natAbs) (2 ^ (a + b + b + 6)) x := fun {x} hx => by
      have := (hx.lift (E := D)).comm
      refine this.mono (Nat.le_trans (pw_le (Nat.le_refl _) (Nat.le_of_lt h6)) (Nat.pow_le_pow_right (by decide) (by omega)))
    exact ⟨fun k => up (hφ' k), fun i => up (hc' i)⟩
end
end LC
end LcGJ2
section LcShown
set_option maxHeartbeats 4000000
namespace LC
open PySem L2
open He (ga ma)
open He5 (wf)
def stpO (K : PySem.W.Frag) (dx : Addr) (p : Str) (vf vl : V) : HO := .ins (ga K "Step") dx [("pivot", .str p), ("form", vf), ("factors", vl)]
def RatsAt (K : PySem.W.Frag) (B : Hp) (v : V) (n : Nat) (c : Nat → Rat) : Prop := ∃ a xs, v = .ref a ∧ B a = some (.lst xs) ∧ xs.length = n ∧ ∀ (i : Nat) (x : V), xs[i]? = some x → RatAt K B x (c i)
theorem RatsAt.up {K : PySem.W.Frag} {B B' : Hp} {v : V} {n : Nat} {c : Nat → Rat} (h : RatsAt K B v n c) (e : Ex B B') : RatsAt K B' v n c := by
  obtain ⟨a, xs, h1, h2, h3, h4⟩ := h
  exact ⟨a, xs, h1, e _ _ h2, h3, fun i x hx => (h4 i x hx).up e⟩
def StepAt (K : PySem.W.Frag) (U : List Str) (n : Nat) (B : Hp) (v : V) (s : Stp) : Prop := ∃ a dx vf vl, v = .ref a ∧ B a = some (stpO K dx s.p vf vl) ∧ FormAt K U B vf s.φ ∧ RatsAt K B vl n s.c
theorem StepAt.up {K : PySem.W.Frag} {U : List Str} {n : Nat} {B B' : Hp} {v : V} {s : Stp} (h : StepAt K U n B v s) (e : Ex B B') : StepAt K U n B' v s := by
  obtain ⟨a, dx, vf, vl, h1, h2, h3, h4⟩ := h
  exact ⟨a, dx, vf, vl, h1, e _ _ h2, h3.up e, h4.up e⟩
/-- list(xs), known for good -/
theorem em_listB {X : Cx} {e : Expr} {σ : St} {B M : Hp} {P : V → Hp → Hp → Prop} {pos p : Pos} (hm : X.mg "list" = none) (h : EM X e σ B M fun v B1 M1 => ∃ q xs, v = .ref q ∧ (SqL X.K (jn B1 M1) q xs ∨ SqT X.K (jn B1 M1) q xs) ∧ ∀ l, B1 l = none → P (.ref l) (upd B1 l (.lst xs)) M1) (hg : Gl X "list" := by rfl)
    (he : starEach [e] X.env = (false, eval e X.env) :: starEach [] X.env := by rfl) : EM X (.Call (.Name "list" p) [e] [] pos) σ B M P :=
  Emt.fzN (em_list hm (h.imp fun v B1 M1 _ ⟨q, xs, hv, hx, hp⟩ => ⟨q, xs, hv, hx, fun l hb hm' => ⟨l, _, upd_same, fun _ => by rw [del_upd hm']; exact hp l hb⟩⟩) hg he)
section
variable {P : Program} {w : World} {K : PySem.W.Frag} {mg : Str → Option Value} {base : Heap} {U : List Str}
def spSt (K : PySem.W.Frag) (U : List Str) : Spc := fun vs B M Q => ∃ a dx p vf vl n φ c, vs = [.ref a, .str p, vf, vl] ∧ M a = some (.ins (ga K "Step") dx []) ∧ FormAt K U B vf φ ∧ RatsAt K B vl n c ∧ ∀ B' vl', Ex B B' → RatsAt K B' vl' n c → Q .non B' (upd M a (stpO K dx p vf vl'))
theorem pr_stinit (t : Tx K mg) {k : Nat} : Pr P w K mg base (k + 1) (ma K (ga K "Step") "__init__") [] (spSt K U) := by
  refine pr_def t.f_Step_init sc_Step_init (fun _ _ _ _ _ _ us hl => match us, hl with | [_, _, _, _], _ => rfl) (by rintro _ _ _ _ ⟨a, dx, p, vf, vl, n, φ, c, rfl, _⟩; rfl) ?_
  rintro cdv A outer s H E vs B M Q hr ⟨a, dx, p, vf, vl, n, φ, c, rfl, ha, hf, ⟨al, xs, rfl, hl, hn, hx⟩, hq⟩
  refine sm_cons (s1_fld (em_nm 1 (em_nm 0 ⟨a, _, dx, _, rfl, ha, t.cl_Step, t.no_Step_pivot, by decide, ?_⟩)))
  refine sm_cons (s1_fld (em_nm 2 (em_nm 0 ⟨a, _, dx, _, rfl, upd_same, t.cl_Step, t.no_Step_form, (by show (1 : Nat) < 1000; decide), ?_⟩)))
  refine sm_one (s1_fld (em_listB t.u_list (em_nm 3 ⟨al, xs, rfl, .inl (SqL.of (jn_b hl)), fun l hb => em_nm 0 ⟨a, _, dx, _, rfl, upd_same, t.cl_Step, t.no_Step_factors, (by show (2 : Nat) < 1000; decide), ?_⟩⟩)))
  rw [upd_twice, upd_twice]
  exact hq _ (.ref l) (Ex.up hb) ⟨l, xs, rfl, upd_same, hn, fun i x hi => (hx i x hi).up (Ex.up hb)⟩
/-- one by one: one - other * share -/
def spLess (K : PySem.W.Frag) : Spc := fun vs B M Q => ∃ x y z n c d q, vs = [x, y, z] ∧ RatsAt K B x n c ∧ RatsAt K B y n d ∧ RatAt K B z q ∧ n ≤ 1000 ∧ (∀ i, i < n → Sz (c i) ∧ Sz (d i) ∧ Sz (d i * q)) ∧ Sz q ∧ ∀ v B', Ex B B' → RatsAt K B' v n (fun i => c i - d i * q) → Q v B' M
theorem ix_nat {n i : Nat} (h : i < n) : ixN n (i : Int) = some i := by
  unfold ixN
  rw [if_pos (by omega), if_pos (by omega)]
  rfl
theorem at_nat {α : Type} {xs : List α} {i : Nat} {v : α} (h : xs[i]? = some v) : atI xs (i : Int) = some v := by
  have hlt := (List.getElem?_eq_some_iff.mp h).1
  unfold atI
  rw [ix_nat hlt]
  exact h
theorem pr_less_times (R : RP P w K mg base) : Pr P w K mg base 51 (ga K "less_times") [] (spLess K) := by
  refine pr_def R.t.f_less_times sc_less_times (fun _ _ _ _ _ _ us hl => match us, hl with | [_, _, _], _ => rfl) (by rintro _ _ _ _ ⟨x, y, z, n, c, d, q, rfl, _⟩; rfl) ?_
  rintro cdv A outer s H E vs B M Q hr ⟨x, y, z, n, c, d, q, rfl, ⟨a1, xs, rfl, h1, hn1, hx⟩, ⟨a2, ys, rfl, h2, hn2, hy⟩, hz, hn, hsz, sq, hq⟩
  refine sm_one (s1_ret (em_lcrB rfl sc_less_times.nd (blk_ok (N := n_less_times) (sc := defScope s_less_times) [("index", 3)] (by decide +kernel)) R.t.u_range (em_len R.t.u_len (em_nm 0 ⟨a1, xs, rfl, .inl (SqL.of (jn_b h1)), n, by rw [hn1], ?_⟩))))
  refine lcb_map 3 sc_less_times.nd hn (fun i v B => RatAt K B v (c i - d i * q)) (fun _ _ _ _ e h => h.up e) ?_ ?_
  · rintro i v B1 M1 hv hi hB1 hM1 s3 H3 C3 cl3 fp3
    have ev : v = .int i := by injection hv with hv; exact hv.symm
    subst ev
    obtain ⟨xv, hxv⟩ : ∃ v, xs[i]? = some v := ⟨_, List.getElem?_eq_getElem (by omega)⟩
    obtain ⟨yv, hyv⟩ : ∃ v, ys[i]? = some v := ⟨_, List.getElem?_eq_getElem (by omega)⟩
    obtain ⟨s1, s2, s3'⟩ := hsz i hi
    refine em_Rsub R (hr.mono (by decide)) (em_ixL (em_nm 0 (em_nm 3 ⟨a1, xs, i, xv, rfl, rfl, SqL.of (jn_b (hB1 _ _ h1)), at_nat hxv, ?_⟩)))
    refine em_Rmul R (hr.mono (by decide)) (em_ixL (em_nm 1 (em_nm 3 ⟨a2, ys, i, yv, rfl, rfl, SqL.of (jn_b (hB1 _ _ h2)), at_nat hyv, ?_⟩)))
    refine em_nm 2 ⟨d i, q, (hy i yv hyv).up hB1, (hz.up hB1).num, s2, sq, fun v4 B4 hB4 hv4 => ⟨c i, d i * q, .inr ⟨(hx i xv hxv).up (hB1.tr hB4), hv4.num⟩, s1, s3', fun v5 B5 hB5 hv5 => ⟨rfl, hv5⟩⟩⟩
  · rintro l ys' B1 hB1 hl hlen hys
    exact hq _ B1 hB1 ⟨l, ys', rfl, hl, hlen, hys⟩
/-- what the steps use -/
structure SB (P : Program) (w : World) (K : PySem.W.Frag) (mg : Str → Option Value) (base : Heap) (U : List Str) : Prop where
  f : FP P w K mg base U
  init : Pr P w K mg base 54 (ma K (ga K "Step") "__init__") [] (spSt K U)
  less : Pr P w K mg base 51 (ga K "less_times") [] (spLess K)
theorem sb_of (F : FP P w K mg base U) : SB P w K mg base U := ⟨F, pr_stinit F.b.r.t, pr_less_times F.b.r⟩
end
section
variable {X : Cx} {e1 e2 e3 : Expr} {σ : St} {B M : Hp} {P : V → Hp → Hp → Prop} {pos apos np p : Pos} {U : List Str} {pl : Sem Bool} (S : SB X.prog X.w X.K X.mg X.base U)
include S
theorem em_Step (hr : Room 55 X.A) (h : EM X e1 σ B M fun x B1 M1 => EM X e2 σ B1 M1 fun y B2 M2 => EM X e3 σ B2 M2 fun z B3 M3 => ∃ n, ∃ st : Stp, x = .str st.p ∧ FormAt X.K U B3 y st.φ ∧ RatsAt X.K B3 z n st.c ∧ ∀ v B', Ex B3 B' → StepAt X.K U n B' v st → P v B' M3) (hg : Gl X "Step" := by rfl)
    (h1 : starEach [e1, e2, e3] X.env = (false, eval e1 X.env) :: starEach [e2, e3] X.env := by rfl) (h2 : starEach [e2, e3] X.env = (false, eval e2 X.env) :: starEach [e3] X.env := by rfl) (h3 : starEach [e3] X.env = (false, eval e3 X.env) :: starEach [] X.env := by rfl)
    (hpl : (backTo pos (starEach [e2, e3] X.env)).any (·.1) = false := by rfl) : EM X (.Call (.Name "Step" p) [e1, e2, e3] [] pos) σ B M P := by
  refine Emt.fzN (em_make S.init hr S.f.b.r.t.mk_Step S.f.b.r.t.g_Step (am_cons (h.imp fun x B1 M1 _ q1 => am_cons (q1.imp fun y B2 M2 _ q2 => am_cons (q2.imp fun z B3 M3 _ ⟨n, st, hx, hy, hz, hv⟩ => am_nil fun a dx b1 m1 b2 m2 ne => ?_) h3) h2) h1) hg (by decide) h1 hpl)
  subst hx
  refine ⟨a, dx, st.p, y, z, n, st.φ, st.c, rfl, upd_same, hy.up (Ex.up b2), hz.up (Ex.up b2), fun B' vl' hB hl => ⟨rfl, a, _, upd_same, fun hn => ?_⟩⟩
  rw [upd_twice, del_upd m1]
  exact hv _ _ (((Ex.up b2).tr hB).up' b1) ⟨a, dx, y, vl', rfl, upd_same, hy.up (((Ex.up b2).tr hB).up' b1), hl.up (Ex.up hn)⟩
theorem em_less (hr : Room 51 X.A) (h : EM X e1 σ B M fun x B1 M1 => EM X e2 σ B1 M1 fun y B2 M2 => EM X e3 σ B2 M2 fun z B3 M3 => ∃ n c d q, RatsAt X.K B3 x n c ∧ RatsAt X.K B3 y n d ∧ RatAt X.K B3 z q ∧ n ≤ 1000 ∧ (∀ i, i < n → Sz (c i) ∧ Sz (d i) ∧ Sz (d i * q)) ∧ Sz q ∧ ∀ v B', Ex B3 B' → RatsAt X.K B' v n (fun i => c i - d i * q) → P v B' M3) (hg : Gl X "less_times" := by rfl)
    (h1 : starEach [e1, e2, e3] X.env = (false, eval e1 X.env) :: starEach [e2, e3] X.env := by rfl) (h2 : starEach [e2, e3] X.env = (false, eval e2 X.env) :: starEach [e3] X.env := by rfl) (h3 : starEach [e3] X.env = (false, eval e3 X.env) :: starEach [] X.env := by rfl)
    (hpl : (backTo pos (starEach [e2, e3] X.env)).any (·.1) = false := by rfl) : EM X (.Call (.Name "less_times" p) [e1, e2, e3] [] pos) σ B M P :=
  em_call S.less hr S.f.b.r.t.g_less_times (am_cons (h.imp fun x B1 M1 _ q1 => am_cons (q1.imp fun y B2 M2 _ q2 => am_cons (q2.imp fun z B3 M3 _ ⟨n, c, d, q, hx, hy, hz, hn, hs, sq, hv⟩ => am_nil ⟨x, y, z, n, c, d, q, rfl, hx, hy, hz, hn, hs, sq, hv⟩) h3) h2) h1) hg (by decide) h1 hpl
end
end LC
end LcShown
section LcShown2
set_option maxHeartbeats 4000000
namespace LC
open PySem L2
open He (ga ma)
open He5 (wf)
structure RedSz (l : List Stp) (φ : Str → Rat) (c : Nat → Rat) : Prop where
  f : ∀ i, SzF (redF (l.take i) φ)
  c : ∀ i j, Sz (redC (l.take i) φ c j)
  s : ∀ s ∈ l, SzF s.φ ∧ ∀ j, Sz (s.c j)
  p : SzF φ
  sp : ∀ s ∈ l, (∀ k, Sz (s.φ k * φ s.p)) ∧ ∀ j, Sz (s.c j * φ s.p)
theorem redSz_of {a b : Nat} {φ : Str → Rat} {l : List Stp} {c : Nat → Rat} (hφ : SzO a φ) (hl : SzG b l) (hn : l.length ≤ 15) (hc : ∀ j, Cn 1 1 (c j)) (hab : a + b + 5 ≤ 33554432) : RedSz l φ c := by
  obtain ⟨h1, h2⟩ := red_sb hφ hl hn
  refine ⟨fun i k => (h1 i k).sz hab, fun i j => (h2 i c j (hc j)).sz hab, fun s hs => ⟨fun k => ((hl.sb hs).1 k).sz (by omega), fun j => ((hl.sb hs).2 j).sz (by omega)⟩, fun k => (hφ.sb k).sz (by omega), fun s hs => ⟨fun k => (((hl.sb hs).1 k).mul (hφ.sb s.p)).sz (by omega), fun j => (((hl.sb hs).2 j).mul (hφ.sb s.p)).sz (by omega)⟩⟩
def StepsIn (K : PySem.W.Frag) (U : List Str) (n : Nat) (B : Hp) (ls : Addr) (l : List Stp) : Prop := ∃ sx, B ls = some (.lst sx) ∧ sx.length = l.length ∧ ∀ (i : Nat) (s : Stp) (v : V), l[i]? = some s → sx[i]? = some v → StepAt K U n B v s
theorem StepsIn.up {K : PySem.W.Frag} {U : List Str} {n : Nat} {B B' : Hp} {ls : Addr} {l : List Stp} (h : StepsIn K U n B ls l) (e : Ex B B') : StepsIn K U n B' ls l := by
  obtain ⟨sx, h1, h2, h3⟩ := h
  exact ⟨sx, e _ _ h1, h2, fun i s v hs hv => (h3 i s v hs hv).up e⟩
section
variable {P : Program} {w : World} {K : PySem.W.Frag} {mg : Str → Option Value} {base : Heap} {U : List Str}
/-- self.steps_found -/
def ShIn (K : PySem.W.Frag) (U : List Str) (n : Nat) (B M : Hp) (x : V) (l : List Stp) : Prop := ∃ a dx fs ls, x = .ref a ∧ jn B M a = some (.ins (ga K "Shown") dx fs) ∧ fs.lookup ("steps_found" : Str) = some (.ref ls) ∧ fs.lookup ("reduced" : Str) = none ∧ StepsIn K U n B ls l
def spRed (K : PySem.W.Frag) (U : List Str) : Spc := fun vs B M Q => ∃ x y z n l φ c, vs = [x, y, z] ∧ ShIn K U n B M x l ∧ Clr l ∧ FormAt K U B y φ ∧ RatsAt K B z n c ∧ n ≤ 1000 ∧ RedSz l φ c ∧
  ∀ B' r v1 v2, Ex B B' → B' r = some (.tup [v1, v2]) → FormAt K U B' v1 (redF l φ) → RatsAt K B' v2 n (redC l φ c) → Q (.ref r) B' M
theorem StepAt.obj {n : Nat} {B M : Hp} {v : V} {s : Stp} (h : StepAt K U n B v s) : ∃ a dx vf vl, v = .ref a ∧ jn B M a = some (stpO K dx s.p vf vl) ∧ FormAt K U B vf s.φ ∧ RatsAt K B vl n s.c := by
  obtain ⟨a, dx, vf, vl, h1, h2, h3, h4⟩ := h
  exact ⟨a, dx, vf, vl, h1, jn_b h2, h3, h4⟩
theorem pr_reduced (S : SB P w K mg base U) : Pr P w K mg base 56 (ma K (ga K "Shown") "reduced") [] (spRed K U) := by
  refine pr_def S.f.b.r.t.f_Shown_reduced sc_Shown_reduced (fun _ _ _ _ _ _ us hl => match us, hl with | [_, _, _], _ => rfl) (by rintro _ _ _ _ ⟨x, y, z, n, l, φ, c, rfl, _⟩; rfl) ?_
  rintro cdv A outer s H E vs B M Q hr ⟨x, y, z, n, l, φ, c, rfl, ⟨a, dx, fs, ls, rfl, ha, hfs, _, hst⟩, hcl, hy, hz, hn, hsz, hq⟩
  have t := S.f.b.r.t
  obtain ⟨sx, h1, h2, h3⟩ := hst
  refine sm_cons (s1_for PassesOwn.never rfl (em_fld (em_nm 0 ⟨a, _, dx, fs, _, rfl, ha, t.cl_Shown, t.no_Shown_steps_found, hfs, ls, sx, rfl, SqL.of (jn_b h1), fun i σ B' M' => ∃ v1 v2 o1 o2, σ = [some (.ref a), some v1, some v2, o1, o2] ∧ M' = M ∧ Ex B B' ∧ FormAt K U B' v1 (redF (l.take i) φ) ∧ RatsAt K B' v2 n (redC (l.take i) φ c), ?_, ?_, ?_, ?_⟩)))
  · refine ⟨y, z, _, _, rfl, rfl, Ex.id', ?_, ?_⟩
    · have e : redF (l.take 0) φ = φ := by funext k; show φ k - 0 = φ k; grind
      rw [e]; exact hy
    · have e : redC (l.take 0) φ c = c := by funext k; show c k - 0 = c k; grind
      rw [e]; exact hz
  · rintro i σ B' M' _ ⟨v1, v2, o1, o2, rfl, rfl, hB, _, _⟩
    exact SqL.of (jn_b (hB _ _ h1))
  · rintro i v σ B' M' hi _ ⟨v1, v2, o1, o2, rfl, rfl, hB, hv1, hv2⟩
    have hlt := (List.getElem?_eq_some_iff.mp hi).1
    obtain ⟨st, hst⟩ : ∃ st, l[i]? = some st := ⟨_, List.getElem?_eq_getElem (by omega)⟩
    have hmem := List.mem_of_getElem? hst
    have hs := (h3 i st v hst hi).up hB
    obtain ⟨b, db, vf, vl, rfl, hb, hvf, hvl⟩ := hs.obj (M := M')
    refine gm_name 3 sc_Shown_reduced.nd (sm_cons (s1_set 4 sc_Shown_reduced.nd (em_share S.f.b (hr.mono (by decide)) (em_nm 1 ⟨_, hv1, em_fld (em_nm 3 ⟨b, _, db, _, _, rfl, hb, t.cl_Step, t.no_Step_pivot, rfl, st.p, rfl, fun v3 B3 hB3 hv3 => ?_⟩)⟩))))
    rw [hcl.turn hst φ] at hv3
    obtain ⟨sp1, sp2⟩ := hsz.sp st hmem
    obtain ⟨ss1, ss2⟩ := hsz.s st hmem
    have hb3 : jn B3 M' b = some (stpO K db st.p vf vl) := by
      obtain ⟨a1, d1, f1, l1, e1, e2, _⟩ := hs
      injection e1 with e1
      subst e1
      have e3 := jn_b (M := M') e2
      rw [hb] at e3
      injection e3 with e3
      rw [e3]
      exact jn_b (hB3 _ _ e2)
    refine sm_cons (s1_set 1 sc_Shown_reduced.nd (em_Fsub S.f (hr.mono (by decide)) (em_nm 1 (em_Fmul S.f (hr.mono (by decide)) (em_fld (em_nm 3 ⟨b, _, db, _, _, rfl, hb3, t.cl_Step, t.no_Step_form, rfl, em_nm 4 ?_⟩))))))
    refine ⟨st.φ, φ st.p, hvf.up hB3, hv3.num, ss1, hsz.p st.p, sp1, fun v4 B4 hB4 hv4 => ?_⟩
    refine ⟨_, _, hv1.up (hB3.tr hB4), hv4, hsz.f i, sp1, ?_, fun v5 B5 hB5 hv5 => ?_⟩
    · have := hsz.f (i + 1)
      have e : redF (l.take (i + 1)) φ = fun k => redF (l.take i) φ k - st.φ k * φ st.p := funext fun k => red_take hst φ k
      rw [e] at this
      exact this
    have hB35 : Ex B3 B5 := hB4.tr hB5
    have hb5 : jn B5 M' b = some (stpO K db st.p vf vl) := by
      obtain ⟨a1, d1, f1, l1, e1, e2, _⟩ := hs
      injection e1 with e1
      subst e1
      have e3 := jn_b (M := M') e2
      rw [hb] at e3
      injection e3 with e3
      rw [e3]
      exact jn_b ((hB3.tr hB35) _ _ e2)
    refine sm_one (s1_set 2 sc_Shown_reduced.nd (em_less S (hr.mono (by decide)) (em_nm 2 (em_fld (em_nm 3 ⟨b, _, db, _, _, rfl, hb5, t.cl_Step, t.no_Step_factors, rfl, em_nm 4 ?_⟩)))))
    refine ⟨n, _, st.c, φ st.p, hv2.up (hB3.tr hB35), hvl.up (hB3.tr hB35), hv3.up hB35, hn, fun j _ => ⟨hsz.c i j, ss2 j, sp2 j⟩, hsz.p st.p, fun v6 B6 hB6 hv6 => ?_⟩
    refine ⟨v5, v6, _, _, rfl, rfl, ((hB.tr hB3).tr hB35).tr hB6, ?_, ?_⟩
    · have e : redF (l.take (i + 1)) φ = fun k => redF (l.take i) φ k - st.φ k * φ st.p := funext fun k => red_take hst φ k
      rw [e]
      exact hv5.up hB6
    · have e : redC (l.take (i + 1)) φ c = fun j => redC (l.take i) φ c j - st.c j * φ st.p := funext fun j => redC_take hst φ c j
      rw [e]
      exact hv6
  · rintro σ B' M' _ ⟨v1, v2, o1, o2, rfl, rfl, hB, hv1, hv2⟩
    rw [h2, List.take_length] at hv1 hv2
    refine sm_one (s1_ret (em_tup (am_cons (em_nm 1 (am_cons (em_nm 2 (am_nil ⟨sl2, fun p hp hm => ?_⟩)))))))
    exact hq _ p v1 v2 (hB.tr (Ex.up hp)) upd_same (hv1.up (Ex.up hp)) (hv2.up (Ex.up hp))
/-- old.cleared(step) -/
def spClr (K : PySem.W.Frag) (U : List Str) : Spc := fun vs B M Q => ∃ x y n s t, vs = [x, y] ∧ StepAt K U n B x s ∧ StepAt K U n B y t ∧ n ≤ 1000 ∧ SzF s.φ ∧ SzF t.φ ∧ (∀ j, Sz (s.c j) ∧ Sz (t.c j) ∧ Sz (t.c j * s.φ t.p)) ∧ (∀ k, Sz (t.φ k * s.φ t.p) ∧ Sz (s.φ k - t.φ k * s.φ t.p)) ∧
  ∀ v B', Ex B B' → StepAt K U n B' v (clear t s) → Q v B' M
theorem pr_cleared (S : SB P w K mg base U) : Pr P w K mg base 56 (ma K (ga K "Step") "cleared") [] (spClr K U) := by
  refine pr_def S.f.b.r.t.f_Step_cleared sc_Step_cleared (fun _ _ _ _ _ _ us hl => match us, hl with | [_, _], _ => rfl) (by rintro _ _ _ _ ⟨x, y, n, s, t, rfl, _⟩; rfl) ?_
  rintro cdv A outer s0 H E vs B M Q hr ⟨x, y, n, s, t, rfl, hx, hy, hn, ss, st, sc, sk, hq⟩
  have T := S.f.b.r.t
  obtain ⟨a, da, vf, vl, rfl, ha, hvf, hvl⟩ := hx
  obtain ⟨b, db, uf, ul, rfl, hb, huf, hul⟩ := hy
  refine sm_cons (s1_set 2 sc_Step_cleared.nd (em_share S.f.b (hr.mono (by decide)) (em_fld (em_nm 0 ⟨a, _, da, _, _, rfl, jn_b ha, T.cl_Step, T.no_Step_form, rfl, _, hvf, em_fld (em_nm 1 ⟨b, _, db, _, _, rfl, jn_b hb, T.cl_Step, T.no_Step_pivot, rfl, t.p, rfl, fun v1 B1 hB1 hv1 => ?_⟩)⟩))))
  refine sm_one (s1_ret (em_Step S hr (em_fld (em_nm 0 ⟨a, _, da, _, _, rfl, jn_b (hB1 _ _ ha), T.cl_Step, T.no_Step_pivot, rfl, ?_⟩))))
  refine em_Fsub S.f (hr.mono (by decide)) (em_fld (em_nm 0 ⟨a, _, da, _, _, rfl, jn_b (hB1 _ _ ha), T.cl_Step, T.no_Step_form, rfl, ?_⟩))
  refine em_Fmul S.f (hr.mono (by decide)) (em_fld (em_nm 1 ⟨b, _, db, _, _, rfl, jn_b (hB1 _ _ hb), T.cl_Step, T.no_Step_form, rfl, em_nm 2 ⟨t.φ, s.φ t.p, huf.up hB1, hv1.num, st, ss t.p, fun k => (sk k).1, fun v2 B2 hB2 hv2 => ?_⟩⟩))
  refine ⟨s.φ, _, hvf.up (hB1.tr hB2), hv2, ss, fun k => (sk k).1, fun k => (sk k).2, fun v3 B3 hB3 hv3 => ?_⟩
  have hB13 : Ex B B3 := (hB1.tr hB2).tr hB3
  refine em_less S (hr.mono (by decide)) (em_fld (em_nm 0 ⟨a, _, da, _, _, rfl, jn_b (hB13 _ _ ha), T.cl_Step, T.no_Step_factors, rfl, em_fld (em_nm 1 ⟨b, _, db, _, _, rfl, jn_b (hB13 _ _ hb), T.cl_Step, T.no_Step_factors, rfl, em_nm 2 ?_⟩)⟩))
  refine ⟨n, s.c, t.c, s.φ t.p, hvl.up hB13, hul.up hB13, hv1.up (hB2.tr hB3), hn, fun j _ => sc j, ss t.p, fun v4 B4 hB4 hv4 => ?_⟩
  exact ⟨n, clear t s, rfl, hv3.up hB4, hv4, fun v5 B5 hB5 hv5 => hq v5 B5 ((hB13.tr hB4).tr hB5) hv5⟩
end
end LC
end LcShown2
section LcShown3
set_option maxHeartbeats 4000000
namespace LC
open PySem L2
open He (ga ma)
open He5 (wf)
theorem Emt.own {α : Type} {t : Tm α} {B M : Hp} {P : α → Hp → Hp → Prop} (h : (∀ p o, M p = some o → B p = none) → Emt t B M P) : Emt t B M P := fun H w => h (fun p o hp => (w.m p o hp).2) H w
/-! ### texts compared with no texts -/
theorem VName.sok {z : Str} (h : VName z) : PyData.strOk z = true := by
  unfold PyData.strOk
  rw [Array.all_eq_true]
  intro i hi
  have := (h.ok i z.cps[i] (by simp [hi])).2
  exact decide_eq_true (by omega)
theorem strs_lay {ks : List Str} (h : ∀ k ∈ ks, VName k) : PyData.canLayAll0 (ks.map PyData.str) = true ∧ PyData.depthAll (ks.map PyData.str) = 0 := by
  induction ks with
  | nil => exact ⟨rfl, rfl⟩
  | cons k ks ih =>
    obtain ⟨h1, h2⟩ := ih fun x hx => h x (List.mem_cons_of_mem _ hx)
    have h3 := (h k (List.mem_cons_self ..)).sok
    refine ⟨?_, ?_⟩
    · show (PyData.canLay0 (.str k) && PyData.canLayAll0 (ks.map PyData.str)) = true
      rw [h1]
      simp only [PyData.canLay0, h3, Bool.and_self]
    · show max (PyData.depth (.str k)) (PyData.depthAll (ks.map PyData.str)) = 0
      rw [h2]
      simp [PyData.depth]
theorem strs_shaped {ks : List Str} (h : ∀ k ∈ ks, VName k) : SeqAt.shaped (.list (ks.map PyData.str)) = true := by
  obtain ⟨h1, h2⟩ := strs_lay h
  unfold SeqAt.shaped
  have e1 : PyData.canLay0 (.list (ks.map PyData.str)) = true := by simp only [PyData.canLay0]; exact h1
  have e2 : PyData.depth (.list (ks.map PyData.str)) = 1 := by simp only [PyData.depth]; rw [h2]
  rw [e1, e2]; rfl
theorem strs_dp {K : PySem.W.Frag} {H : Hp} : ∀ ks : List Str, DpAll K H (ks.map V.str) (ks.map PyData.str)
  | [] => .nil
  | k :: ks => .cons (.str k) (strs_dp ks)
theorem eqv_nil (ks : List Str) : PyData.eqv (.list (ks.map PyData.str)) (.list []) = decide (ks = []) := by
  cases ks with
  | nil => rfl
  | cons k ks => rfl
section
variable {X : Cx} {a : Expr} {σ : St} {B M : Hp} {P : V → Hp → Hp → Prop} {pos p : Pos} {PT' : Bool → Hp → Hp → Prop}
/-- names == [], names != [], as tests -/
theorem tm_noneS (hu : X.A.units + 64 < cLine) (h : EM X a σ B M fun x B1 M1 => ∃ l, ∃ ks : List Str, x = .ref l ∧ B1 l = some (.lst (ks.map V.str)) ∧ (∀ k ∈ ks, VName k) ∧ ∀ B', Ex B1 B' → PT' (decide (ks = [])) B' M1) : TM X (.Compare a [.Eq] [.List [] p] pos) σ B M PT' :=
  tm_cmp (op_eqD hu) (h.imp fun x B1 M1 _ ⟨l, ks, hx, hl, hv, q⟩ => em_lstB (am_nil ⟨sl0, fun r hr hm => om_eqD (d := .list (ks.map PyData.str)) (e := .list []) (by subst hx; exact .lst (SqL.of (jn_b (Ex.up hr _ _ hl))) (strs_dp ks)) (.lst (SqL.of (jn_b upd_same)) .nil) (strs_shaped hv) (by rfl) ⟨_, rfl, by rw [eqv_nil]; exact q _ (Ex.up hr)⟩⟩))
theorem tm_someS (hu : X.A.units + 64 < cLine) (h : EM X a σ B M fun x B1 M1 => ∃ l, ∃ ks : List Str, x = .ref l ∧ B1 l = some (.lst (ks.map V.str)) ∧ (∀ k ∈ ks, VName k) ∧ ∀ B', Ex B1 B' → PT' (!decide (ks = [])) B' M1) : TM X (.Compare a [.NotEq] [.List [] p] pos) σ B M PT' :=
  tm_cmp (op_neD hu) (h.imp fun x B1 M1 _ ⟨l, ks, hx, hl, hv, q⟩ => em_lstB (am_nil ⟨sl0, fun r hr hm => om_neD (d := .list (ks.map PyData.str)) (e := .list []) (by subst hx; exact .lst (SqL.of (jn_b (Ex.up hr _ _ hl))) (strs_dp ks)) (.lst (SqL.of (jn_b upd_same)) .nil) (strs_shaped hv) (by rfl) ⟨_, rfl, by rw [eqv_nil]; exact q _ (Ex.up hr)⟩⟩))
end
theorem rsum_range (n : Nat) (g : Nat → Rat) : rsum ((List.range n).map g) = sumN n g := by
  induction n with
  | zero => rfl
  | succ n ih =>
    rw [List.range_succ, List.map_append, rsum_append, ih]
    show sumN n g + (g n + 0) = sumN n g + g n
    grind
section
variable {P : Program} {w : World} {K : PySem.W.Frag} {mg : Str → Option Value} {base : Heap} {U : List Str}
def spProd (K : PySem.W.Frag) : Spc := fun vs B M Q => ∃ x y n m c d, vs = [x, y] ∧ RatsAt K B x n c ∧ RatsAt K B y m d ∧ n ≤ m ∧ n ≤ 1000 ∧ (∀ i, i < n → Sz (c i) ∧ Sz (d i) ∧ Sz (c i * d i)) ∧ (∀ i, i < n → Sz (sumN i fun j => c j * d j)) ∧ ∀ v B', Ex B B' → RatAt K B' v (sumN n fun j => c j * d j) → Q v B' M
theorem pr_prod (R : RP P w K mg base) : Pr P w K mg base 51 (ga K "sum_of_products") [] (spProd K) := by
  refine pr_def R.t.f_sum_of_products sc_sum_of_products (fun _ _ _ _ _ _ us hl => match us, hl with | [_, _], _ => rfl) (by rintro _ _ _ _ ⟨x, y, n, m, c, d, rfl, _⟩; rfl) ?_
  rintro cdv A outer s H E vs B M Q hr ⟨x, y, n, m, c, d, rfl, ⟨a1, xs, rfl, h1, hn1, hx⟩, ⟨a2, ys, rfl, h2, hn2, hy⟩, hnm, hn, hsz, hps, hq⟩
  refine sm_one (s1_ret (em_sm R.sum (hr.mono (by decide)) R.t.sm_Ratio_sum_of R.t.g_Ratio (am_cons (em_lcrB rfl sc_sum_of_products.nd (blk_ok (N := n_sum_of_products) (sc := defScope s_sum_of_products) [("index", 2)] (by decide +kernel)) R.t.u_range (em_len R.t.u_len (em_nm 0 ⟨a1, xs, rfl, .inl (SqL.of (jn_b h1)), n, by rw [hn1], ?_⟩))))))
  refine lcb_map 2 sc_sum_of_products.nd hn (fun i v B => RatAt K B v (c i * d i)) (fun _ _ _ _ e h => h.up e) ?_ ?_
  · rintro i v B1 M1 hv hi hB1 hM1 s3 H3 C3 cl3 fp3
    have ev : v = .int i := by injection hv with hv; exact hv.symm
    subst ev
    obtain ⟨xv, hxv⟩ : ∃ v, xs[i]? = some v := ⟨_, List.getElem?_eq_getElem (by omega)⟩
    obtain ⟨yv, hyv⟩ : ∃ v, ys[i]? = some v := ⟨_, List.getElem?_eq_getElem (by omega)⟩
    obtain ⟨s1, s2, s3'⟩ := hsz i hi
    refine em_Rmul R (hr.mono (by decide)) (em_ixL (em_nm 0 (em_nm 2 ⟨a1, xs, i, xv, rfl, rfl, SqL.of (jn_b (hB1 _ _ h1)), at_nat hxv, ?_⟩)))
    refine em_ixL (em_nm 1 (em_nm 2 ⟨a2, ys, i, yv, rfl, rfl, SqL.of (jn_b (hB1 _ _ h2)), at_nat hyv, ?_⟩))
    exact ⟨c i, d i, (hx i xv hxv).up hB1, ((hy i yv hyv).up hB1).num, s1, s2, fun v5 B5 hB5 hv5 => ⟨rfl, hv5⟩⟩
  · rintro l ys' B1 hB1 hl hlen hys
    refine am_nil ⟨l, ys', (List.range n).map fun i => c i * d i, rfl, hl, paired_of (by rw [List.length_map, List.length_range]; exact hlen) ?_, ?_, ?_, fun v B2 hB2 hv => hq v B2 (hB1.tr hB2) ?_⟩
    · intro i y q h3 h4
      rw [List.getElem?_map] at h4
      have hlt := (List.getElem?_eq_some_iff.mp h3).1
      rw [List.getElem?_range (by omega)] at h4
      injection h4 with h4
      rw [← h4]
      exact (hys i y h3).num
    · intro q hq'
      obtain ⟨i, hi, rfl⟩ := List.mem_map.mp hq'
      exact (hsz i (List.mem_range.mp hi)).2.2
    · intro i hi
      rw [List.length_map, List.length_range] at hi
      rw [← List.map_take, List.take_range, show min i n = i from by omega, rsum_range]
      exact hps i hi
    · rwa [rsum_range] at hv
/-! ### Shown -/
def shO (K : PySem.W.Frag) (dx lf ls lr : Addr) : HO := .ins (ga K "Shown") dx [("forms", .ref lf), ("steps_found", .ref ls), ("relations", .ref lr)]
def FormsAt (K : PySem.W.Frag) (U : List Str) (B : Hp) (lf : Addr) (n : Nat) (F : Nat → Str → Rat) : Prop := ∃ fx, B lf = some (.lst fx) ∧ fx.length = n ∧ ∀ (i : Nat) (v : V), fx[i]? = some v → FormAt K U B v (F i)
theorem FormsAt.up {B B' : Hp} {lf : Addr} {n : Nat} {F : Nat → Str → Rat} (h : FormsAt K U B lf n F) (e : Ex B B') : FormsAt K U B' lf n F := by
  obtain ⟨fx, h1, h2, h3⟩ := h
  exact ⟨fx, e _ _ h1, h2, fun i v hv => (h3 i v hv).up e⟩
def bq (a : Nat) : Nat → Nat
  | 0 => 1
  | k + 1 => a + bq a k + bq a k + 6
theorem bq_mono {a : Nat} : ∀ {i j : Nat}, i ≤ j → bq a i ≤ bq a j
  | i, 0, h => by rw [Nat.le_zero.mp h]; exact Nat.le_refl _
  | i, j + 1, h => by
    by_cases e : i = j + 1
    · rw [e]; exact Nat.le_refl _
    · have := bq_mono (a := a) (i := i) (j := j) (by omega)
      show bq a i ≤ a + bq a j + bq a j + 6
      omega
theorem bq_a {a b : Nat} (h : a ≤ b) : ∀ k, bq a k ≤ bq b k
  | 0 => Nat.le_refl _
  | k + 1 => by
    have := bq_a h k
    show a + bq a k + bq a k + 6 ≤ b + bq b k + bq b k + 6
    omega
theorem bq_le {a k : Nat} (h : a ≤ 1000) (hk : k ≤ 10) : bq a k ≤ 1031000 := by
  have h1 := bq_a h k
  have h2 := bq_mono (a := 1000) hk
  have h3 : bq 1000 10 ≤ 1031000 := by decide
  omega
/-- the state of Shown on the heap -/
structure ShS (K : PySem.W.Frag) (U : List Str) (n : Nat) (F : Nat → Str → Rat) (a : Nat) (B : Hp) (ls : Addr) (rx : List V) (l : List Stp) (m : Nat) : Prop where
  st : StepsIn K U n B ls l
  gj : GJ n F l m
  sz : SzG (bq a m) l
  len : l.length ≤ m
  pu : ∀ s ∈ l, s.p ∈ U
  rel : ∀ v ∈ rx, ∃ c, RatsAt K B v n c ∧ (∀ k, comb n F c k = 0) ∧ ∀ j, Sb 1100000 (c j)
  rlen : rx.length ≤ m
theorem ShS.up {n : Nat} {F : Nat → Str → Rat} {a : Nat} {B B' : Hp} {ls : Addr} {rx : List V} {l : List Stp} {m : Nat} (h : ShS K U n F a B ls rx l m) (e : Ex B B') : ShS K U n F a B' ls rx l m :=
  ⟨h.st.up e, h.gj, h.sz, h.len, h.pu, fun v hv => let ⟨c, h1, h2, h3⟩ := h.rel v hv; ⟨c, h1.up e, h2, h3⟩, h.rlen⟩
/-- what is known of the forms -/
structure FsOk (U : List Str) (n : Nat) (F : Nat → Str → Rat) (a : Nat) : Prop where
  n10 : n ≤ 10
  a1k : a ≤ 1000
  sz : ∀ i, i < n → SzO a (F i)
  u : ∀ i, i < n → ∀ k, F i k ≠ 0 → k ∈ U
theorem own_cn (j i : Nat) : Cn 1 1 (own j i) := by
  unfold LC.own
  split
  · exact Cn.int 1
  · exact (Cn.zero).mono (by decide)
theorem red_u {n : Nat} {F : Nat → Str → Rat} {l : List Stp} {m : Nat} (g : GJ n F l m) (hu : ∀ i, i < n → ∀ k, F i k ≠ 0 → k ∈ U) {φ : Str → Rat} (hφ : ∀ k, φ k ≠ 0 → k ∈ U) (k : Str) (h : redF l φ k ≠ 0) : k ∈ U := by
  refine Classical.byContradiction fun hk => h ?_
  unfold redF
  have e1 : φ k = 0 := Classical.byContradiction fun z => hk (hφ k z)
  rw [e1, lsum_zero]
  · grind
  · intro s hs
    have : s.φ k = 0 := by
      rw [g.rep s hs k]
      refine sumN_zero fun i hi => ?_
      have : F i k = 0 := Classical.byContradiction fun z => hk (hu i hi k z)
      rw [this]; grind
    rw [this]; grind
end
end LC
end LcShown3
section LcShown4
set_option maxHeartbeats 4000000
namespace LC
open PySem L2
open He (ga ma)
open He5 (wf)
section
variable {P : Program} {w : World} {K : PySem.W.Frag} {mg : Str → Option Value} {base : Heap} {U : List Str}
/-- the object while it is made -/
def shM (K : PySem.W.Frag) (M0 : Hp) (a dx lf ls lr : Addr) (rx : List V) : Hp := upd (upd M0 a (shO K dx lf ls lr)) lr (.lst rx)
theorem shM_a {M0 : Hp} {a dx lf ls lr : Addr} {rx : List V} (ne : a ≠ lr) : shM K M0 a dx lf ls lr rx a = some (shO K dx lf ls lr) := by unfold shM; rw [upd_ne ne, upd_same]
theorem shM_r {M0 : Hp} {a dx lf ls lr : Addr} {rx : List V} : shM K M0 a dx lf ls lr rx lr = some (.lst rx) := upd_same
theorem shM_app {M0 : Hp} {a dx lf ls lr : Addr} {rx rx' : List V} : upd (shM K M0 a dx lf ls lr rx) lr (.lst rx') = shM K M0 a dx lf ls lr rx' := upd_twice
theorem shM_set {M0 : Hp} {a dx lf ls ls' lr : Addr} {rx : List V} (ne : a ≠ lr) : upd (shM K M0 a dx lf ls lr rx) a (shO K dx lf ls' lr) = shM K M0 a dx lf ls' lr rx := by
  unfold shM
  rw [upd_comm (fun e => ne e.symm), upd_twice]
def spTake (K : PySem.W.Frag) (U : List Str) : Spc := fun vs B M Q => ∃ a m M0 dx lf ls lr rx l n F sa, vs = [.ref a, .int (m : Nat)] ∧ M = shM K M0 a dx lf ls lr rx ∧ a ≠ lr ∧ m < n ∧ FsOk U n F sa ∧ FormsAt K U B lf n F ∧ ShS K U n F sa B ls rx l m ∧
  ∀ B' ls' rx' l', Ex B B' → ShS K U n F sa B' ls' rx' l' (m + 1) → Q .non B' (shM K M0 a dx lf ls' lr rx')
structure SR (P : Program) (w : World) (K : PySem.W.Frag) (mg : Str → Option Value) (base : Heap) (U : List Str) : Prop where
  b : SB P w K mg base U
  red : Pr P w K mg base 56 (ma K (ga K "Shown") "reduced") [] (spRed K U)
  clr : Pr P w K mg base 56 (ma K (ga K "Step") "cleared") [] (spClr K U)
  prod : Pr P w K mg base 51 (ga K "sum_of_products") [] (spProd K)
theorem sr_of (S : SB P w K mg base U) : SR P w K mg base U := ⟨S, pr_reduced S, pr_cleared S, pr_prod S.f.b.r⟩
theorem shIn_of {n : Nat} {F : Nat → Str → Rat} {sa : Nat} {B M : Hp} {a dx lf ls lr : Addr} {rx : List V} {l : List Stp} {m : Nat} (h : jn B M a = some (shO K dx lf ls lr)) (s : ShS K U n F sa B ls rx l m) : ShIn K U n B M (.ref a) l := ⟨a, dx, _, ls, rfl, h, rfl, rfl, s.st⟩
theorem clear_sz {a b : Nat} {φ : Str → Rat} {l : List Stp} {c : Nat → Rat} {p : Str} (hφ : SzO a φ) (hl : SzG b l) (hn : l.length ≤ 15) (hp : redF l φ p ≠ 0) (hc : ∀ j, Cn 1 1 (c j)) (hab : a + b + b + b + 30 ≤ 33554432) {s : Stp} (hs : s ∈ l) :
    SzF s.φ ∧ SzF (newStp l φ c p).φ ∧ (∀ j, Sz (s.c j) ∧ Sz ((newStp l φ c p).c j) ∧ Sz ((newStp l φ c p).c j * s.φ p)) ∧ ∀ k, Sz ((newStp l φ c p).φ k * s.φ p) ∧ Sz (s.φ k - (newStp l φ c p).φ k * s.φ p) := by
  obtain ⟨⟨E, e1, e2, e3, e4⟩, hz⟩ := step_sz hφ hl hn hp hc
  have e5 : E < 2 ^ (a + b + 6) := Nat.lt_of_lt_of_le e2 (Nat.pow_le_pow_right (by decide) (by omega))
  have e6 : 2 ^ (a + b + 5) < 2 ^ (a + b + 6) := Nat.pow_lt_pow_right (by decide) (by omega)
  have h1 : ∀ k, Sb (a + b + 6) ((newStp l φ c p).φ k) := fun k => (e3 k).sb e1 e5 e6
  have h2 : ∀ j, Sb (a + b + 6) ((newStp l φ c p).c j) := fun j => (e4 j).sb e1 e5 e6
  obtain ⟨h3, h4⟩ := hl.sb hs
  exact ⟨fun k => (h3 k).sz (by omega), fun k => (h1 k).sz (by omega), fun j => ⟨(h4 j).sz (by omega), (h2 j).sz (by omega), ((h2 j).mul (h3 p)).sz (by omega)⟩, fun k => ⟨((h1 k).mul (h3 p)).sz (by omega), ((h3 k).sub ((h1 k).mul (h3 p))).sz (by omega)⟩⟩
theorem pr_take (S : SR P w K mg base U) : Pr P w K mg base 58 (ma K (ga K "Shown") "take_in") [] (spTake K U) := by
  refine pr_def S.b.f.b.r.t.f_Shown_take_in sc_Shown_take_in (fun _ _ _ _ _ _ us hl => match us, hl with | [_, _], _ => rfl) (by rintro _ _ _ _ ⟨a, m, M0, dx, lf, ls, lr, rx, l, n, F, sa, rfl, _⟩; rfl) ?_
  rintro cdv A outer s0 H E vs B M Q hr ⟨a, m, M0, dx, lf, ls, lr, rx, l, n, F, sa, rfl, rfl, ne, hm, ok, hF, hs, hq⟩
  have T := S.b.f.b.r.t
  have R := S.b.f.b.r
  have n1k : n ≤ 1000 := by have := ok.n10; omega
  have hll : l.length ≤ 15 := by have := hs.len; have := ok.n10; omega
  have hbq : bq sa m ≤ 1031000 := bq_le ok.a1k (by have := ok.n10; omega)
  have ha1k := ok.a1k
  refine sm_own fun ow => ?_
  have hB0 : B a = none := ow _ _ (shM_a ne)
  obtain ⟨fx, hf1, hf2, hf3⟩ := id hF
  have rsz : RedSz l (F m) (own m) := redSz_of (ok.sz m hm) hs.sz hll (own_cn m) (by omega)
  -- own
  refine sm_cons (s1_lcrB 2 rfl sc_Shown_take_in.nd (blk_ok (N := n_Shown_take_in) (sc := defScope s_Shown_take_in) [("index", 8)] (by decide +kernel)) T.u_range (em_len T.u_len (em_fld (em_nm 0 ⟨a, _, dx, _, _, rfl, jn_m (shM_a ne) hB0, T.cl_Shown, T.no_Shown_forms, rfl, lf, fx, rfl, .inl (SqL.of (jn_b hf1)), n, by rw [hf2], ?_⟩))))
  refine lcb_map 8 sc_Shown_take_in.nd n1k (fun i v B => RatAt K B v (own m i)) (fun _ _ _ _ e h => h.up e) ?_ ?_
  · rintro i v B1 M1 hv hi hB1 hM1 s3 H3 C3 cl3 fp3
    have ev : v = .int i := by injection hv with hv; exact hv.symm
    subst ev
    refine em_R1 R (hr.mono (by decide)) (em_intB T.u_int (em_cmp op_eq (em_nm 8 (em_nm 1 (om_eq rfl ⟨_, rfl, ?_⟩)))))
    refine ⟨_, rfl, fun v5 B5 hB5 hv5 => ⟨rfl, ?_⟩⟩
    have e : (((if decide (V.int (i : Int) = V.int (m : Int)) = true then (1 : Int) else 0) : Int) : Rat) = own m i := by
      unfold LC.own
      by_cases h : i = m
      · subst h; simp
      · rw [if_neg h, if_neg]
        · rfl
        · simp only [decide_eq_true_eq]
          intro z; injection z with z; omega
    rw [← e]
    exact hv5
  rintro lo oy B1 hB1 hlo hlo2 hlo3
  have hown : RatsAt K B1 (.ref lo) n (own m) := ⟨lo, oy, rfl, hlo, hlo2, hlo3⟩
  -- rest, factors
  obtain ⟨fv, hfv⟩ : ∃ v, fx[m]? = some v := ⟨_, List.getElem?_eq_getElem (by omega)⟩
  refine sm_own fun ow1 => ?_
  have hB1a : B1 a = none := ow1 _ _ (shM_a ne)
  refine sm_cons (s1_asg (em_meth S.red (hr.mono (by decide)) T.cl_Shown T.m_Shown_reduced (em_nm 0 ⟨a, dx, _, rfl, jn_m (shM_a ne) hB1a, rfl, ?_⟩)))
  refine am_cons (em_ixL (em_fld (em_nm 0 ⟨a, _, dx, _, _, rfl, jn_m (shM_a ne) hB1a, T.cl_Shown, T.no_Shown_forms, rfl, em_nm 1 ⟨lf, fx, m, fv, rfl, rfl, SqL.of (jn_b (hB1 _ _ hf1)), at_nat hfv, ?_⟩⟩)))
  refine am_cons (em_nm 2 (am_nil ⟨.ref a, fv, .ref lo, n, l, F m, own m, rfl, shIn_of (jn_m (shM_a ne) hB1a) (hs.up hB1), hs.gj.clr, (hf3 m fv hfv).up hB1, hown, n1k, rsz, fun B2 r v1 v2 hB2 hr2 hv1 hv2 => ?_⟩))
  refine gm_tup rfl (SqT.of (jn_b hr2)) (gms_cons (gm_name 3 sc_Shown_take_in.nd (gms_cons (gm_name 4 sc_Shown_take_in.nd (gms_nil ?_)))))
  have hB02 : Ex B B2 := hB1.tr hB2
  -- nothing remains: a relation
  refine sm_cons (s1_if (tm_noneS (u64 hr) (em_names S.b.f.b (hr.mono (by decide)) (em_nm 3 ⟨_, hv1, fun B3 l3 ks hB3 hl3 nd3 hu3 hz3 => ⟨l3, ks, rfl, hl3, fun k hk => S.b.f.b.u.ok k (hu3 k hk), fun B4 hB4 => ?_⟩⟩))))
  have hB24 : Ex B2 B4 := hB3.tr hB4
  by_cases hks : ks = []
  · refine ift (decide_eq_true hks) ?_
    have h0 : ∀ k, redF l (F m) k = 0 := fun k => Classical.byContradiction fun z => by
      have := (hz3 k).mpr z
      rw [hks] at this
      cases this
    refine sm_own fun ow4 => ?_
    have hB4r : B4 lr = none := ow4 _ _ shM_r
    have hB4a : B4 a = none := ow4 _ _ (shM_a ne)
    refine sm_cons (s1_expr (em_append (em_fld (em_nm 0 ⟨a, _, dx, _, _, rfl, jn_m (shM_a ne) hB4a, T.cl_Shown, T.no_Shown_relations, rfl, lr, rx, rfl, shM_r, hB4r, em_nm 4 ⟨rx, shM_r, ?_, ?_⟩⟩))))
    · have h1 := hs.rlen
      have h2 : (1000 : Nat) ≤ sizeLine := by decide
      omega
    refine sm_one (s1_retN ?_)
    rw [shM_app]
    refine hq B4 ls (rx ++ [v2]) l (hB02.tr hB24) ⟨hs.st.up (hB02.tr hB24), hs.gj.skip h0, ?_, ?_, hs.pu, ?_, ?_⟩
    · obtain ⟨D, d1, d2, d3⟩ := hs.sz
      have hmo : bq sa m ≤ bq sa (m + 1) := bq_mono (Nat.le_succ m)
      exact ⟨D, d1, Nat.lt_of_lt_of_le d2 (Nat.pow_le_pow_right (by decide) hmo), fun s h => ⟨fun k => ((d3 s h).1 k).mono (Nat.pow_le_pow_right (by decide) hmo), fun i => ((d3 s h).2 i).mono (Nat.pow_le_pow_right (by decide) hmo)⟩⟩
    · have := hs.len; omega
    · intro v hv
      rcases List.mem_append.mp hv with hv | hv
      · obtain ⟨c, h1, h2, h3⟩ := hs.rel v hv
        exact ⟨c, h1.up (hB02.tr hB24), h2, h3⟩
      · simp at hv
        subst hv
        refine ⟨_, hv2.up hB24, hs.gj.rel hm h0, fun j => ?_⟩
        have := (red_sb (ok.sz m hm) hs.sz hll).2 l.length (own m) j (own_cn m j)
        rw [List.take_length] at this
        exact this.mono (by omega)
    · rw [List.length_append]
      have := hs.rlen
      simp; omega
  · refine iff' (decide_eq_false hks) (sm_nil ?_)
    obtain ⟨p, ks', rfl⟩ : ∃ p ks', ks = p :: ks' := by
      cases ks with
      | nil => exact absurd rfl hks
      | cons p ks' => exact ⟨p, ks', rfl⟩
    refine sm_cons (s1_set 5 sc_Shown_take_in.nd (em_ixL (em_names S.b.f.b (hr.mono (by decide)) (em_nm 3 ⟨_, hv1.up hB24, fun B5 l5 ks5 hB5 hl5 nd5 hu5 hz5 => em_int ?_⟩))))
    obtain ⟨p, ks', rfl⟩ : ∃ p ks', ks5 = p :: ks' := by
      cases ks5 with
      | nil =>
        have := (hz5 p).mpr ((hz3 p).mp (List.mem_cons_self ..))
        cases this
      | cons p ks' => exact ⟨p, ks', rfl⟩
    refine ⟨l5, _, 0, .str p, rfl, rfl, SqL.of (jn_b hl5), (by exact at_nat (i := 0) rfl), ?_⟩
    have hp0 : redF l (F m) p ≠ 0 := (hz5 p).mp (List.mem_cons_self ..)
    have hpU : p ∈ U := hu5 p (List.mem_cons_self ..)
    have hB25 : Ex B2 B5 := hB24.tr hB5
    obtain ⟨⟨Es, es1, es2, es3, es4⟩, ssz⟩ := step_sz (p := p) (ok.sz m hm) hs.sz hll hp0 (own_cn m)
    -- share, step
    refine sm_cons (s1_set 6 sc_Shown_take_in.nd (em_share S.b.f.b (hr.mono (by decide)) (em_nm 3 ⟨_, hv1.up hB25, em_nm 5 ⟨p, rfl, fun v6 B6 hB6 hv6 => ?_⟩⟩)))
    have hB26 : Ex B2 B6 := hB25.tr hB6
    have est : newStp l (F m) (own m) p = ⟨p, fun k => redF l (F m) k / redF l (F m) p, fun i => redC l (F m) (own m) i / redF l (F m) p⟩ := rfl
    have hn1 : ∀ k, Sz ((newStp l (F m) (own m) p).φ k) := fun k => by
      have e5 : Es < 2 ^ (sa + bq sa m + 6) := Nat.lt_of_lt_of_le es2 (Nat.pow_le_pow_right (by decide) (by omega))
      have e6 : 2 ^ (sa + bq sa m + 5) < 2 ^ (sa + bq sa m + 6) := Nat.pow_lt_pow_right (by decide) (by omega)
      exact ((es3 k).sb es1 e5 e6).sz (by omega)
    have rszT : ∀ k, Sz (redF l (F m) k) := fun k => by have := rsz.f l.length k; rwa [List.take_length] at this
    have rszC : ∀ j, Sz (redC l (F m) (own m) j) := fun j => by have := rsz.c l.length j; rwa [List.take_length] at this
    refine sm_cons (s1_set 7 sc_Shown_take_in.nd (em_Step S.b (hr.mono (by decide)) (em_nm 5 (em_Fover S.b.f (hr.mono (by decide)) (em_nm 3 ⟨_, hv1.up hB26, em_nm 6 ⟨_, hv6.num, rszT, rszT p, hp0, hn1, fun v7 B7 hB7 hv7 => ?_⟩⟩)))))
    obtain ⟨fa, fy, rfl, hfy1, hfy2, hfy3⟩ := id (hv2.up (hB26.tr hB7))
    refine em_lcB rfl sc_Shown_take_in.nd (blk_ok (N := n_Shown_take_in) (sc := defScope s_Shown_take_in) [("factor", 9)] (by decide +kernel)) (em_nm 4 ⟨fa, fy, rfl, hfy1, ?_⟩)
    refine lcb_map 9 sc_Shown_take_in.nd (by omega) (fun i v B => RatAt K B v ((newStp l (F m) (own m) p).c i)) (fun _ _ _ _ e h => h.up e) ?_ ?_
    · rintro i v B8 M8 hv hi hB8 hM8 s3 H3 C3 cl3 fp3
      have hvr := (hfy3 i v hv).up hB8
      obtain ⟨b1, db1, hb1, hb2⟩ := id hvr
      refine em_meth R.over (hr.mono (by decide)) T.cl_Ratio T.m_Ratio_over (em_nm 9 ⟨b1, db1, _, hb1, jn_b hb2, rfl, am_cons (em_nm 6 (am_nil ⟨v, v6, _, _, rfl, hvr, (hv6.up (hB7.tr hB8)).num, rszC i, rszT p, hp0, fun v9 B9 hB9 hv9 => ⟨rfl, hv9⟩⟩))⟩)
    rintro l8 y8 B8 hB8 hl8 hl82 hl83
    refine ⟨n, newStp l (F m) (own m) p, rfl, hv7.up hB8, ⟨l8, y8, rfl, hl8, by rw [hl82]; exact hfy2, hl83⟩, fun v9 B9 hB9 hv9 => ?_⟩
    have hB09 : Ex B B9 := ((hB02.tr (hB26.tr hB7)).tr hB8).tr hB9
    -- the others are cleared
    refine sm_own fun ow9 => ?_
    have hB9a : B9 a = none := ow9 _ _ (shM_a ne)
    obtain ⟨sx, hsx1, hsx2, hsx3⟩ := hs.st.up hB09
    refine sm_one (s1_fld (em_op op_cat (em_lcB rfl sc_Shown_take_in.nd (blk_ok (N := n_Shown_take_in) (sc := defScope s_Shown_take_in) [("old", 10)] (by decide +kernel)) (em_fld (em_nm 0 ⟨a, _, dx, _, _, rfl, jn_m (shM_a ne) hB9a, T.cl_Shown, T.no_Shown_steps_found, rfl, ls, sx, rfl, hsx1, ?_⟩)))))
    refine lcb_map 10 sc_Shown_take_in.nd (by omega) (fun i v B => ∀ s, l[i]? = some s → StepAt K U n B v (clear (newStp l (F m) (own m) p) s)) (fun _ _ _ _ e h s hs => (h s hs).up e) ?_ ?_
    · rintro i v B10 M10 hv hi hB10 hM10 s3 H3 C3 cl3 fp3
      obtain ⟨st, hst⟩ : ∃ st, l[i]? = some st := ⟨_, List.getElem?_eq_getElem (by omega)⟩
      have hold := (hsx3 i st v hst hv).up hB10
      obtain ⟨b1, db1, vf, vl, hb1, hb2, hb3, hb4⟩ := id hold
      obtain ⟨c1, c2, c3, c4⟩ := clear_sz (ok.sz m hm) hs.sz hll hp0 (own_cn m) (by omega) (List.mem_of_getElem? hst)
      refine em_meth S.clr (hr.mono (by decide)) T.cl_Step T.m_Step_cleared (em_nm 10 ⟨b1, db1, _, hb1, jn_b hb2, rfl, am_cons (em_nm 7 (am_nil ⟨v, v9, n, st, _, rfl, hold, hv9.up hB10, n1k, c1, c2, c3, c4, fun v11 B11 hB11 hv11 => ⟨rfl, fun s hs' => ?_⟩⟩))⟩)
      rw [hst] at hs'
      injection hs' with hs'
      subst hs'
      exact hv11
    rintro l10 y10 B10 hB10 hl10 hl102 hl103
    refine em_lstB (am_cons (em_nm 7 (am_nil ⟨sl1, fun r11 hr11 hm11 => om_cat ⟨l10, r11, y10, [v9], rfl, rfl, jn_b (Ex.up hr11 _ _ hl10), jn_b upd_same, by rw [hl102]; exact le_size (by simp; omega), fun r12 hr12 hm12 => ?_⟩⟩)))
    have hB912 : Ex B9 (upd (upd B10 r11 (.lst [v9])) r12 (.lst (y10 ++ [v9]))) := (hB10.tr (Ex.up hr11)).tr (Ex.up hr12)
    refine em_nm 0 ⟨a, _, dx, _, rfl, shM_a ne, T.cl_Shown, T.no_Shown_steps_found, by show (3 : Nat) < 1000; decide, ?_⟩
    have efin : upd (shM K M0 a dx lf ls lr rx) a (.ins (ga K "Shown") dx (putF ("steps_found" : Str) (.ref r12) [("forms", .ref lf), ("steps_found", .ref ls), ("relations", .ref lr)])) = shM K M0 a dx lf r12 lr rx := shM_set ne
    show Q .non _ (upd (shM K M0 a dx lf ls lr rx) a (.ins (ga K "Shown") dx (putF ("steps_found" : Str) (.ref r12) [("forms", .ref lf), ("steps_found", .ref ls), ("relations", .ref lr)])))
    rw [efin]
    refine hq _ r12 rx (l.map (clear (newStp l (F m) (own m) p)) ++ [newStp l (F m) (own m) p]) (hB09.tr hB912) ⟨⟨y10 ++ [v9], upd_same, ?_, ?_⟩, hs.gj.step hm hp0, ?_, ?_, ?_, ?_, ?_⟩
    · rw [List.length_append, List.length_append, List.length_map, hl102, hsx2]; rfl
    · intro i s v hsi hvi
      by_cases h : i < y10.length
      · rw [List.getElem?_append_left h] at hvi
        rw [List.getElem?_append_left (by rw [List.length_map]; omega), List.getElem?_map] at hsi
        cases e : l[i]? with
        | none => rw [e] at hsi; cases hsi
        | some s0 =>
          rw [e] at hsi
          injection hsi with hsi
          subst hsi
          exact (hl103 i v hvi s0 e).up ((Ex.up hr11).tr (Ex.up hr12))
      · have hlt := (List.getElem?_eq_some_iff.mp hvi).1
        rw [List.length_append] at hlt
        simp at hlt
        have hi : i = y10.length := by omega
        subst hi
        rw [List.getElem?_append_right (Nat.le_refl _)] at hvi
        rw [List.getElem?_append_right (by rw [List.length_map]; omega)] at hsi
        rw [List.length_map, show y10.length - l.length = 0 from by omega] at hsi
        simp at hvi hsi
        subst hvi hsi
        exact hv9.up hB912
    · have e : bq sa (m + 1) = sa + bq sa m + bq sa m + 6 := rfl
      rw [e]; exact ssz
    · rw [List.length_append, List.length_map]
      have := hs.len
      simp; omega
    · intro s hs'
      rcases List.mem_append.mp hs' with h | h
      · obtain ⟨s0, h0, rfl⟩ := List.mem_map.mp h
        exact hs.pu s0 h0
      · simp at h
        subst h
        exact hpU
    · intro v hv
      obtain ⟨c, h1, h2, h3⟩ := hs.rel v hv
      exact ⟨c, h1.up (hB09.tr hB912), h2, h3⟩
    · have := hs.rlen; omega
end
end LC
end LcShown4
section LcShown5
set_option maxHeartbeats 4000000
namespace LC
open PySem L2
open He (ga ma)
open He5 (wf)
def Span (n : Nat) (F : Nat → Str → Rat) (φ : Str → Rat) : Prop := ∃ w, ∀ k, φ k = comb n F w k
theorem GJ.span {n : Nat} {F : Nat → Str → Rat} {l : List Stp} (g : GJ n F l n) (φ : Str → Rat) : Span n F φ ↔ ∀ k, redF l φ k = 0 :=
  ⟨fun ⟨w, h⟩ => g.mem h, fun h => ⟨_, g.out h⟩⟩
section
variable {P : Program} {w : World} {K : PySem.W.Frag} {mg : Str → Option Value} {base : Heap} {U : List Str}
/-- a Shown that is made -/
def ShownAt (K : PySem.W.Frag) (U : List Str) (n : Nat) (F : Nat → Str → Rat) (sa : Nat) (B : Hp) (v : V) (l : List Stp) : Prop := ∃ a dx lf ls lr rx, v = .ref a ∧ B a = some (shO K dx lf ls lr) ∧ B lr = some (.lst rx) ∧ FormsAt K U B lf n F ∧ ShS K U n F sa B ls rx l n
theorem ShownAt.up {n : Nat} {F : Nat → Str → Rat} {sa : Nat} {B B' : Hp} {v : V} {l : List Stp} (h : ShownAt K U n F sa B v l) (e : Ex B B') : ShownAt K U n F sa B' v l := by
  obtain ⟨a, dx, lf, ls, lr, rx, h1, h2, h3, h4, h5⟩ := h
  exact ⟨a, dx, lf, ls, lr, rx, h1, e _ _ h2, e _ _ h3, h4.up e, h5.up e⟩
def spShown (K : PySem.W.Frag) (U : List Str) : Spc := fun vs B M Q => ∃ a dx lv n F sa, vs = [.ref a, .ref lv] ∧ M a = some (.ins (ga K "Shown") dx []) ∧ FsOk U n F sa ∧ FormsAt K U B lv n F ∧
  ∀ B' lf ls lr rx l, Ex B B' → a ≠ lr → M lr = none → FormsAt K U B' lf n F → ShS K U n F sa B' ls rx l n → Q .non B' (shM K M a dx lf ls lr rx)
theorem pr_shinit (S : SR P w K mg base U) (TK : Pr P w K mg base 58 (ma K (ga K "Shown") "take_in") [] (spTake K U)) : Pr P w K mg base 60 (ma K (ga K "Shown") "__init__") [] (spShown K U) := by
  refine pr_def S.b.f.b.r.t.f_Shown_init sc_Shown_init (fun _ _ _ _ _ _ us hl => match us, hl with | [_, _], _ => rfl) (by rintro _ _ _ _ ⟨a, dx, lv, n, F, sa, rfl, _⟩; rfl) ?_
  rintro cdv A outer s0 H E vs B M Q hr ⟨a, dx, lv, n, F, sa, rfl, ha, ok, hF, hq⟩
  have T := S.b.f.b.r.t
  obtain ⟨fx, hf1, hf2, hf3⟩ := id hF
  have n10 := ok.n10
  refine sm_cons (s1_fld (em_listB T.u_list (em_nm 1 ⟨lv, fx, rfl, .inl (SqL.of (jn_b hf1)), fun lf hlf => em_nm 0 ⟨a, _, dx, _, rfl, ha, T.cl_Shown, T.no_Shown_forms, by decide, ?_⟩⟩)))
  have hF1 : FormsAt K U (upd B lf (.lst fx)) lf n F := ⟨fx, upd_same, hf2, fun i v hv => (hf3 i v hv).up (Ex.up hlf)⟩
  generalize hB1 : upd B lf (.lst fx) = B1 at *
  have hB01 : Ex B B1 := by rw [← hB1]; exact Ex.up hlf
  refine sm_cons (s1_fld (em_lstB (am_nil ⟨sl0, fun ls hls _ => em_nm 0 ⟨a, _, dx, _, rfl, upd_same, T.cl_Shown, T.no_Shown_steps_found, (by show (1 : Nat) < 1000; decide), ?_⟩⟩)))
  rw [upd_twice]
  refine sm_cons (s1_fld (em_lst (am_nil ⟨sl0, fun lr hlrb hlrm => ?_⟩)))
  have hMr : M lr = none := by
    by_cases e : lr = a
    · subst e; rw [upd_same] at hlrm; cases hlrm
    · rw [upd_ne e] at hlrm; exact hlrm
  have ne : a ≠ lr := fun e => by subst e; rw [ha] at hMr; cases hMr
  refine em_nm 0 ⟨a, _, dx, _, rfl, by rw [upd_ne ne]; exact upd_same, T.cl_Shown, T.no_Shown_relations, (by show (2 : Nat) < 1000; decide), ?_⟩
  have e0 : upd (upd (upd M a (.ins (ga K "Shown") dx (putF ("steps_found" : Str) (.ref ls) (putF ("forms" : Str) (.ref lf) [])))) lr (.lst [])) a (.ins (ga K "Shown") dx (putF ("relations" : Str) (.ref lr) (putF ("steps_found" : Str) (.ref ls) (putF ("forms" : Str) (.ref lf) [])))) = shM K M a dx lf ls lr [] := by
    unfold shM
    rw [upd_comm (fun e => ne e.symm), upd_twice]
    rfl
  rw [e0]
  have hF2 := hF1.up (Ex.up hls (o := .lst []))
  generalize hB2 : upd B1 ls (.lst []) = B2 at *
  have hB12 : Ex B1 B2 := by rw [← hB2]; exact Ex.up hls
  have hls2 : B2 ls = some (.lst []) := by rw [← hB2]; exact upd_same
  refine sm_own fun ow => ?_
  have hBa : B2 a = none := ow _ _ (shM_a ne)
  obtain ⟨gx, hg1, hg2, hg3⟩ := id hF2
  refine sm_one (s1_forR PassesOwn.never rfl T.u_range (em_len T.u_len (em_fld (em_nm 0 ⟨a, _, dx, _, _, rfl, jn_m (shM_a ne) hBa, T.cl_Shown, T.no_Shown_forms, rfl, lf, gx, rfl, .inl (SqL.of (jn_b hg1)), n, by rw [hg2], by omega, ?_⟩))))
  refine ⟨fun i σ B' M' => ∃ ls' rx l o, σ = [some (.ref a), some (.ref lv), o] ∧ M' = shM K M a dx lf ls' lr rx ∧ Ex B2 B' ∧ ShS K U n F sa B' ls' rx l i, ⟨ls, [], [], _, rfl, rfl, Ex.id', ?_⟩, ?_, ?_⟩
  · refine ⟨⟨[], hls2, rfl, fun i s v h => by simp at h⟩, ⟨⟨fun s h => by (cases h), List.Pairwise.nil⟩, fun s h => by (cases h), fun i h => by omega⟩, ⟨1, by decide, by show 1 < 2 ^ 1; decide, fun s h => by (cases h)⟩, Nat.le_refl _, fun s h => by (cases h), fun v h => by (cases h), Nat.le_refl _⟩
  · rintro i σ B' M' hi _ ⟨ls', rx, l, o, rfl, rfl, hB', hs⟩
    refine Emt.own fun ow' => ?_
    have hBa' : B' a = none := ow' _ _ (shM_a ne)
    refine gm_name 2 sc_Shown_init.nd (sm_one (s1_expr (em_meth TK (hr.mono (by decide)) T.cl_Shown T.m_Shown_take_in (em_nm 0 ⟨a, dx, _, rfl, jn_m (shM_a ne) hBa', rfl, am_cons (em_nm 2 (am_nil ⟨a, i, M, dx, lf, ls', lr, rx, l, n, F, sa, rfl, rfl, ne, hi, ok, hF2.up hB', hs, fun B3 ls3 rx3 l3 hB3 hs3 => ?_⟩))⟩))))
    exact ⟨ls3, rx3, l3, _, rfl, rfl, hB'.tr hB3, hs3⟩
  · rintro σ B' M' _ ⟨ls', rx, l, o, rfl, rfl, hB', hs⟩
    exact hq B' lf ls' lr rx l ((hB01.tr hB12).tr hB') ne hMr (hF2.up hB') hs
end
end LC
end LcShown5
section LcShown6
set_option maxHeartbeats 4000000
namespace LC
open PySem L2
open He (ga ma)
open He5 (wf)
section
variable {P : Program} {w : World} {K : PySem.W.Frag} {mg : Str → Option Value} {base : Heap} {U : List Str}
theorem zero_cn (j : Nat) : Cn 1 1 ((fun _ => (0 : Rat)) j) := (Cn.zero).mono (by decide)
/-- what is asked -/
structure AskOk (U : List Str) (φ : Str → Rat) (sa : Nat) : Prop where
  sz : SzO sa φ
  u : ∀ k, φ k ≠ 0 → k ∈ U
def spW (K : PySem.W.Frag) (U : List Str) : Spc := fun vs B M Q => ∃ x y n F sa l φ, vs = [x, y] ∧ ShownAt K U n F sa B x l ∧ FsOk U n F sa ∧ FormAt K U B y φ ∧ AskOk U φ sa ∧
  (∀ B', Ex B B' → ¬ Span n F φ → Q .non B' M) ∧ ∀ B' v c, Ex B B' → RatsAt K B' v n c → (∀ k, φ k = comb n F c k) → (∀ j, Sb 1100000 (c j)) → Q v B' M
theorem ask_sz {n : Nat} {F : Nat → Str → Rat} {sa : Nat} {B : Hp} {ls : Addr} {rx : List V} {l : List Stp} {φ : Str → Rat} {c : Nat → Rat} (hs : ShS K U n F sa B ls rx l n) (ok : FsOk U n F sa) (ao : AskOk U φ sa) (hc : ∀ j, Cn 1 1 (c j)) : RedSz l φ c ∧ (∀ j, Sb 1100000 (redC l φ c j)) ∧ ∀ k, Sb 1100000 (redF l φ k) := by
  have hll : l.length ≤ 15 := by have := hs.len; have := ok.n10; omega
  have hbq : bq sa n ≤ 1031000 := bq_le ok.a1k ok.n10
  have ha1k := ok.a1k
  obtain ⟨h1, h2⟩ := red_sb ao.sz hs.sz hll
  refine ⟨redSz_of ao.sz hs.sz hll hc (by omega), fun j => ?_, fun k => ?_⟩
  · have := h2 l.length c j (hc j)
    rw [List.take_length] at this
    exact this.mono (by omega)
  · have := h1 l.length k
    rw [List.take_length] at this
    exact this.mono (by omega)
/-- self.reduced(asked, [Ratio(0) for form in self.forms]) into rest, factors -/
theorem pr_weights (S : SR P w K mg base U) : Pr P w K mg base 60 (ma K (ga K "Shown") "weights") [] (spW K U) := by
  refine pr_def S.b.f.b.r.t.f_Shown_weights sc_Shown_weights (fun _ _ _ _ _ _ us hl => match us, hl with | [_, _], _ => rfl) (by rintro _ _ _ _ ⟨x, y, n, F, sa, l, φ, rfl, _⟩; rfl) ?_
  rintro cdv A outer s0 H E vs B M Q hr ⟨x, y, n, F, sa, l, φ, rfl, ⟨a, dx, lf, ls, lr, rx, rfl, ha, hlr, hF, hs⟩, ok, hy, ao, hq1, hq2⟩
  have T := S.b.f.b.r.t
  have R := S.b.f.b.r
  have n10 := ok.n10
  obtain ⟨rsz, rc, rf⟩ := ask_sz hs ok ao zero_cn
  obtain ⟨fx, hf1, hf2, hf3⟩ := id hF
  refine sm_cons (s1_asg (em_meth S.red (hr.mono (by decide)) T.cl_Shown T.m_Shown_reduced (em_nm 0 ⟨a, dx, _, rfl, jn_b ha, rfl, am_cons (em_nm 1 (am_cons ?_))⟩)))
  refine em_lcB rfl sc_Shown_weights.nd (blk_ok (N := n_Shown_weights) (sc := defScope s_Shown_weights) [("form", 4)] (by decide +kernel)) (em_fld (em_nm 0 ⟨a, _, dx, _, _, rfl, jn_b ha, T.cl_Shown, T.no_Shown_forms, rfl, lf, fx, rfl, hf1, ?_⟩))
  refine lcb_map 4 sc_Shown_weights.nd (by omega) (fun i v B => RatAt K B v 0) (fun _ _ _ _ e h => h.up e) ?_ ?_
  · rintro i v B1 M1 hv hi hB1 hM1 s3 H3 C3 cl3 fp3
    exact em_R1 R (hr.mono (by decide)) (em_int ⟨0, rfl, fun v5 B5 hB5 hv5 => ⟨rfl, hv5⟩⟩)
  rintro lo oy B1 hB1 hlo hlo2 hlo3
  refine am_nil ⟨.ref a, y, .ref lo, n, l, φ, fun _ => 0, rfl, shIn_of (jn_b (hB1 _ _ ha)) (hs.up hB1), hs.gj.clr, hy.up hB1, ⟨lo, oy, rfl, hlo, by rw [hlo2]; exact hf2, hlo3⟩, by omega, rsz, fun B2 r v1 v2 hB2 hr2 hv1 hv2 => ?_⟩
  refine gm_tup rfl (SqT.of (jn_b hr2)) (gms_cons (gm_name 2 sc_Shown_weights.nd (gms_cons (gm_name 3 sc_Shown_weights.nd (gms_nil ?_)))))
  have hB02 : Ex B B2 := hB1.tr hB2
  refine sm_cons (s1_if (tm_someS (u64 hr) (em_names S.b.f.b (hr.mono (by decide)) (em_nm 2 ⟨_, hv1, fun B3 l3 ks hB3 hl3 nd3 hu3 hz3 => ⟨l3, ks, rfl, hl3, fun k hk => S.b.f.b.u.ok k (hu3 k hk), fun B4 hB4 => ?_⟩⟩))))
  have hB04 : Ex B B4 := hB02.tr (hB3.tr hB4)
  by_cases hks : ks = []
  · refine iff' (by rw [decide_eq_true hks]; rfl) (sm_nil ?_)
    have h0 : ∀ k, redF l φ k = 0 := fun k => Classical.byContradiction fun z => by
      have := (hz3 k).mpr z
      rw [hks] at this
      cases this
    obtain ⟨fa, fy, rfl, hfy1, hfy2, hfy3⟩ := id (hv2.up (hB3.tr hB4))
    refine sm_one (s1_ret (em_lcB rfl sc_Shown_weights.nd (blk_ok (N := n_Shown_weights) (sc := defScope s_Shown_weights) [("factor", 5)] (by decide +kernel)) (em_nm 3 ⟨fa, fy, rfl, hfy1, ?_⟩)))
    refine lcb_map 5 sc_Shown_weights.nd (by omega) (fun i v B => RatAt K B v (-redC l φ (fun _ => 0) i)) (fun _ _ _ _ e h => h.up e) ?_ ?_
    · rintro i v B5 M5 hv hi hB5 hM5 s3 H3 C3 cl3 fp3
      exact em_Rneg R (hr.mono (by decide)) (em_nm 5 ⟨_, (hfy3 i v hv).up hB5, fun v6 B6 hB6 hv6 => ⟨rfl, hv6⟩⟩)
    rintro l8 y8 B8 hB8 hl8 hl82 hl83
    exact hq2 B8 (.ref l8) _ (hB04.tr hB8) ⟨l8, y8, rfl, hl8, by rw [hl82]; exact hfy2, hl83⟩ (hs.gj.out h0) fun j => (rc j).neg
  · refine ift (by rw [decide_eq_false hks]; rfl) (sm_one (s1_ret (em_non (hq1 B4 hB04 ?_))))
    rw [hs.gj.span]
    intro h0
    cases ks with
    | nil => exact hks rfl
    | cons k ks => exact (hz3 k).mp (List.mem_cons_self ..) (h0 k)
/-- value -/
def spV (K : PySem.W.Frag) (U : List Str) : Spc := fun vs B M Q => ∃ x y z n F sa l φ d, vs = [x, y, z] ∧ ShownAt K U n F sa B x l ∧ FsOk U n F sa ∧ FormAt K U B y φ ∧ AskOk U φ sa ∧ RatsAt K B z n d ∧ (∀ j, j < n → Sb 100000 (d j)) ∧
  (∀ c, (∀ k, comb n F c k = 0) → sumN n (fun j => c j * d j) = 0) ∧ Span n F φ ∧ ∀ B' v c, Ex B B' → (∀ k, φ k = comb n F c k) → RatAt K B' v (sumN n fun j => c j * d j) → Q v B' M
theorem sum_sb {n : Nat} {c d : Nat → Rat} {a b : Nat} (hc : ∀ j, j < n → Sb a (c j)) (hd : ∀ j, j < n → Sb b (d j)) : ∀ i, i ≤ n → Sb (i * (a + b + 1) + 1) (sumN i fun j => c j * d j)
  | 0, _ => by
    show Sb (0 * _ + 1) 0
    exact Sb.zero.mono (by omega)
  | i + 1, h => by
    have h1 := sum_sb hc hd i (by omega)
    have h2 := (hc i (by omega)).mul (hd i (by omega))
    show Sb _ (sumN i _ + c i * d i)
    refine (h1.add h2).mono ?_
    rw [Nat.add_mul]; omega
theorem prod_sz {n a b : Nat} {c d : Nat → Rat} (hn : n ≤ 10) (hc : ∀ j, j < n → Sb a (c j)) (hd : ∀ j, j < n → Sb b (d j)) (hab : 10 * (a + b + 1) + 1 ≤ 33554432) : (∀ i, i < n → Sz (c i) ∧ Sz (d i) ∧ Sz (c i * d i)) ∧ ∀ i, i < n → Sz (sumN i fun j => c j * d j) := by
  refine ⟨fun i hi => ⟨(hc i hi).sz (by omega), (hd i hi).sz (by omega), ((hc i hi).mul (hd i hi)).sz (by omega)⟩, fun i hi => ?_⟩
  have h1 := sum_sb hc hd i (by omega)
  have h2 : i * (a + b + 1) ≤ 10 * (a + b + 1) := Nat.mul_le_mul_right _ (by omega)
  exact h1.sz (by omega)
theorem pr_value (S : SR P w K mg base U) (WT : Pr P w K mg base 60 (ma K (ga K "Shown") "weights") [] (spW K U)) : Pr P w K mg base 62 (ma K (ga K "Shown") "value") [] (spV K U) := by
  refine pr_def S.b.f.b.r.t.f_Shown_value sc_Shown_value (fun _ _ _ _ _ _ us hl => match us, hl with | [_, _, _], _ => rfl) (by rintro _ _ _ _ ⟨x, y, z, n, F, sa, l, φ, d, rfl, _⟩; rfl) ?_
  rintro cdv A outer s0 H E vs B M Q hr ⟨x, y, z, n, F, sa, l, φ, d, rfl, hx, ok, hy, ao, hz, hd, hfit, hsp, hq⟩
  have T := S.b.f.b.r.t
  have R := S.b.f.b.r
  have n10 := ok.n10
  obtain ⟨a, dx, lf, ls, lr, rx, rfl, ha, hlr, hF, hs⟩ := id hx
  refine sm_cons (s1_for PassesOwn.never rfl (em_fld (em_nm 0 ⟨a, _, dx, _, _, rfl, jn_b ha, T.cl_Shown, T.no_Shown_relations, rfl, lr, rx, rfl, SqL.of (jn_b hlr), fun i σ B' M' => ∃ o, σ = [some (.ref a), some y, some z, o, none] ∧ M' = M ∧ Ex B B', ⟨_, rfl, rfl, Ex.id'⟩, ?_, ?_, ?_⟩)))
  · rintro i σ B' M' _ ⟨o, rfl, rfl, hB⟩
    exact SqL.of (jn_b (hB _ _ hlr))
  · rintro i v σ B' M' hi _ ⟨o, rfl, rfl, hB⟩
    obtain ⟨c, hc1, hc2, hc3⟩ := hs.rel v (List.mem_of_getElem? hi)
    obtain ⟨p1, p2⟩ := prod_sz n10 (fun j _ => hc3 j) hd (by omega)
    refine gm_name 3 sc_Shown_value.nd (sm_one (s1_if (tm_cmp op_ne (em_rtop T (em_call S.prod (hr.mono (by decide)) T.g_sum_of_products (am_cons (em_nm 3 (am_cons (em_nm 2 (am_nil ⟨v, z, n, n, c, d, rfl, hc1.up hB, hz.up hB, Nat.le_refl _, by omega, p1, p2, fun v2 B2 hB2 hv2 => ?_⟩))))))))))
    rw [hfit c hc2] at hv2
    exact ⟨0, hv2, em_int (om_ne rfl ⟨_, rfl, iff' rfl (sm_nil ⟨_, rfl, rfl, hB.tr hB2⟩)⟩)⟩
  rintro σ B1 M' _ ⟨o, rfl, rfl, hB1⟩
  refine sm_cons (s1_set 4 sc_Shown_value.nd (em_meth WT (hr.mono (by decide)) T.cl_Shown T.m_Shown_weights (em_nm 0 ⟨a, dx, _, rfl, jn_b (hB1 _ _ ha), rfl, am_cons (em_nm 1 (am_nil ⟨.ref a, y, n, F, sa, l, φ, rfl, hx.up hB1, ok, hy.up hB1, ao, fun B2 _ hns => absurd hsp hns, fun B2 v c hB2 hv hφ hc => ?_⟩))⟩)))
  obtain ⟨ca, cx, hcv, hca⟩ := id hv
  refine sm_cons (s1_if (tm_isN (em_nm 4 (iff' (by rw [hcv]; rfl) (sm_nil ?_)))))
  obtain ⟨p1, p2⟩ := prod_sz n10 (fun j _ => hc j) hd (by omega)
  refine sm_one (s1_ret (em_call S.prod (hr.mono (by decide)) T.g_sum_of_products (am_cons (em_nm 4 (am_cons (em_nm 2 (am_nil ⟨v, z, n, n, c, d, rfl, hv, hz.up (hB1.tr hB2), Nat.le_refl _, by omega, p1, p2, fun v3 B3 hB3 hv3 => ?_⟩)))))))
  exact hq B3 v3 c ((hB1.tr hB2).tr hB3) hφ hv3
end
end LC
end LcShown6
section LcSet
set_option maxHeartbeats 4000000
/-! Sets of texts: set(names), sorted(set(names)). -/
namespace LC
open PySem PySem.Spec PyProof.Rows
open PySem.Froz (SD sObj TxOk addTx tailTx)
open L2 (Hp HO V VK Cx RelV Vals Inv CallR Ris SqL SqT)
/-- the set at a holds the texts l -/
def TxS (P : Program) (w : World) (h : Heap) (a : Addr) (l : List Str) : Prop :=
  ∃ D : SD, h.get? a = some (sObj "set" D) ∧ TxOk P w D l ∧ l.Nodup ∧ Ris D.2.2.place.toList ∧ (w.params.followText "set-order" = true ∨ D.2.2.led = true)
def SetT (P : Program) (w : World) (a : Addr) (l : List Str) : HO := .ext fun h => TxS P w h a l
section
variable {P : Program} {w : World} {A : Around} {E : Value → Shared → Prop} {s : Shared} {h h' : Heap} {a : Addr} {l : List Str}
theorem TxS.keep (R : TxS P w h a l) (k : ∀ o, h.get? a = some o → h'.get? a = some o) : TxS P w h' a l := let ⟨D, hD, rest⟩ := R; ⟨D, k _ hD, rest⟩
theorem setT_obj {H : Hp} (R : TxS P w h a l) : L2.ObjOk P w H h a (SetT P w a l) := ⟨R, ⟨_, R.choose_spec.1⟩, fun h1 h2 p k => TxS.keep p k⟩
theorem tail_walk (ep : Nat) (es : Array (Int × Value)) (t : SetTable) (wd : Bool) (r : Ris t.place.toList) : Ris (tailTx ep es t wd).2.2.place.toList ∧ (tailTx ep es t wd).2.2.led = t.led := by
  unfold tailTx
  by_cases c : (!wd && t.tooFull) = true
  · rw [if_pos c]; exact ⟨L2.relayAll_ris t es _, L2.relayAll_led t es _⟩
  · rw [if_neg c]; exact ⟨r, rfl⟩
theorem add_walk (hh : Int) (v : Value) (D : SD) (r : Ris D.2.2.place.toList) : Ris (addTx hh v D).2.2.place.toList ∧ (addTx hh v D).2.2.led = D.2.2.led := by
  have r1 := L2.layNew_ris D.2.2 D.1 hh v r
  have d1 := L2.layNew_led D.2.2 D.1 hh v
  unfold addTx
  by_cases c : (layNew D.2.2 D.1 hh v).2.1.plain = true
  · rw [if_pos c]
    obtain ⟨x, y⟩ := tail_walk D.2.1 (layNew D.2.2 D.1 hh v).1 { (layNew D.2.2 D.1 hh v).2.1 with plain := false } (layNew D.2.2 D.1 hh v).2.2.1 r1
    exact ⟨x, y.trans d1⟩
  · rw [if_neg c]
    obtain ⟨x, y⟩ := tail_walk D.2.1 (layNew D.2.2 D.1 hh v).1 (layNew D.2.2 D.1 hh v).2.1 (layNew D.2.2 D.1 hh v).2.2.1 r1
    exact ⟨x, y.trans d1⟩
/-- a text more -/
theorem txs_add {k : Str} {u : Tok} {Q : Bool → Shared → Prop} (R : TxS P w s.heap a l) (room : l.length + 1 < scanBound)
    (hQ : ∀ b h' l', Heap.SameBut a s.heap h' → TxS P w h' a l' → (∀ x, x ∈ l' ↔ x ∈ l ∨ x = k) → l'.length ≤ l.length + 1 → Q b { s with heap := h' }) :
    wpAny (model P w) A (setAddHashed a (.str k u) (hashStr w k)) Q E s := by
  obtain ⟨D, hD, F, nd, ri, le⟩ := R
  by_cases hk : k ∈ l
  · obtain ⟨es, ep, t⟩ := D
    have hf : t.fits es.size = true := F.fit
    have hel : ElemsOf (strKind P w) es.toList := F.el
    have hsz : es.size = l.length := F.sz
    have hd : (sObj "set" (es, ep, t)).data = .set es ep t := rfl
    have hkey : (strKind P w).is k (.str k u) = true := PySem.Froz.is_str k u
    obtain ⟨e, he, hke⟩ := (F.mem k).mp hk
    unfold setAddHashed setAddHashedIn
    refine wpAny_holding (wpAny_bind (wpAny_setState_of hD hd hf ?_))
    dsimp only
    rw [byScan_of rfl (by omega) hel]
    simp only [if_true]
    unfold setAddByScan
    refine wpAny_bind (wpAny_bind (wpAny_rule (wpAny_bind (wpAny_setScan_of (knd := strKind P w) (k := k) hkey hD hd hf hel ?_))))
    cases q : List.findIdx? (fun e => (strKind P w).is k e.2) es.toList with
    | none =>
      have := List.findIdx?_eq_none_iff.mp q e he
      rw [hke] at this
      cases this
    | some j =>
      dsimp only
      exact wpAny_pure (wpAny_pure (hQ _ s.heap l (Heap.SameBut.refl a s.heap) ⟨(es, ep, t), hD, F, nd, ri, le⟩ (fun x => ⟨Or.inl, fun z => z.elim id fun e => by rw [e]; exact hk⟩) (Nat.le_succ _)))
  · refine PySem.Froz.add_x hD F hk room ?_
    obtain ⟨x, y⟩ := add_walk (hashStr w k) (.str k u) D ri
    exact hQ _ _ (k :: l) (Heap.SameBut.update s.heap a _) ⟨_, PySem.Froz.get_upd _ hD rfl, PySem.Froz.add_ok u F, List.nodup_cons.mpr ⟨hk, nd⟩, x, le.imp id fun z => y.trans z⟩ (fun x => by rw [List.mem_cons]; exact Or.comm) (Nat.le_refl _)
/-- the loop of set(names) -/
theorem txs_loop {I : Addr} {fp wr : List Addr} {G : Array GenState → Array GenState → Prop} {n : Nat} {Pv : Nat → Value → Prop} {St : Nat → Shared → Prop} {R : Result → Shared → Prop}
    (W : WalksS P w A.in1 I fp wr G n Pv St) (S : Addr) (hSf : S ∉ fp) (ks : List Str) (hn : n = ks.length) (hb : ks.length + 1 < scanBound) (hval : ∀ i v, Pv i v → ∃ k t, ks[i]? = some k ∧ v = .str k t) :
    ∀ (m i : Nat) (s : Shared), n - i = m → i ≤ n → St i s → (∃ l, l.length ≤ i ∧ TxS P w s.heap S l ∧ ∀ x, x ∈ l ↔ x ∈ ks.take i) →
      (∀ s' l, Moved (S :: wr) G s s' → l.length ≤ n → TxS P w s'.heap S l → (∀ x, x ∈ l ↔ x ∈ ks) → R (.ok (.ret .none)) s') →
      codeAny (model P w) A (.builtin "set.update.loop" ⟨[.ref S, .ref I], []⟩) R s := by
  have out : S ∉ wr := fun z => hSf (W.sub _ z)
  have wide : ∀ b ∈ wr, b ∈ S :: wr := fun b z => List.mem_cons_of_mem _ z
  intro m
  induction m with
  | zero =>
    rintro i s hm hi st ⟨l, hl, hS, hx⟩ hR
    obtain rfl : i = n := by omega
    refine codeAny_builtin F.entry_set_update_loop ?_
    rw [Around.under_plainId F.plain_set_update_loop _]
    show wpAny _ A.in1 (pyNext (.ref I) >>= _) _ _ s
    refine wpAny_bind (W.done s _ _ st fun s' mv => ?_)
    show wpAny _ A.in1 (ret Value.none) _ _ s'
    rw [List.take_of_length_le (Nat.le_of_eq hn.symm)] at hx
    exact wpAny_pure (hR s' l (mv.mono wide) hl (hS.keep fun o e => mv.heap S o out e) hx)
  | succ m ih =>
    rintro i s hm hi st ⟨l, hl, hS, hx⟩ hR
    have lt : i < n := by omega
    refine codeAny_builtin F.entry_set_update_loop ?_
    rw [Around.under_plainId F.plain_set_update_loop _]
    show wpAny _ A.in1 (pyNext (.ref I) >>= _) _ _ s
    refine wpAny_bind (W.item i s _ _ lt st fun v s' pv st' mv => ?_)
    obtain ⟨z, t, hz, rfl⟩ := hval i v pv
    show wpAny _ A.in1 (holding [Value.str z t] (setAdd S (.str z t)) >>= _) _ _ s'
    refine wpAny_bind (wpAny_holding ?_)
    unfold setAdd
    refine wpAny_holding (wpAny_bind ((strKind P w).pyHash (k := z) (strKind_is _ _ _ _) ?_))
    refine txs_add (s := { s' with toks := s'.toks + 1 }) (hS.keep fun o e => mv.heap S o out e) (by omega) fun b h2 l2 sb S2 x2 n2 => ?_
    have hx2 : ∀ x, x ∈ l2 ↔ x ∈ ks.take (i + 1) := fun x => by
      rw [x2, hx, List.take_add_one, hz]; simp
    refine wpAny_pure ⟨plainId_quiet F.plain_set_update_loop _, ih (i + 1) _ (by omega) lt (W.frame _ s' _ _ st' (Nat.le_succ _) fun c hc o e => ?_) ⟨l2, by omega, S2, hx2⟩ fun s3 l3 mv3 n3 S3 x3 => ?_⟩
    · have ne : c ≠ S := fun z => hSf (by rw [← z]; exact hc)
      rw [sb.2 c ne]; exact e
    · refine hR s3 l3 (Moved.trans W.gtrans ((mv.mono wide).then_heap (Nat.le_succ _) fun c o hc e => ?_) mv3) n3 S3 x3
      have ne : c ≠ S := fun z => hc (by rw [z]; exact List.mem_cons_self)
      rw [sb.2 c ne]; exact e
theorem txs_fresh {h : Heap} {a : Addr} (ho : h.get? a = some { cls := .type "set", dict := none, data := .set #[] 0 (.fresh 0 0 (!w.params.followText "set-order")) }) : TxS P w h a [] := by
  refine ⟨(#[], 0, .fresh 0 0 (!w.params.followText "set-order")), ho, PySem.Froz.TxOk.nil (by rfl), List.nodup_nil, List.Pairwise.nil, ?_⟩
  cases q : w.params.followText "set-order" with
  | true => exact .inl rfl
  | false => exact .inr rfl
/-- the new set's object -/
abbrev set0 (w : World) : Obj := { cls := .type "set", dict := none, data := .set #[] 0 (.fresh 0 0 (!w.params.followText "set-order")) }
theorem str_at : ∀ {us : List Value} {xs : List Str}, StrsAre us xs → ∀ (i : Nat) (v : Value), us[i]? = some v → ∃ k t, xs[i]? = some k ∧ v = .str k t
  | _, _, .nil, i, v, h => by simp at h
  | _, _, .cons n t hr, 0, v, h => by simp at h; exact ⟨n, t, rfl, h.symm⟩
  | _, _, .cons n t hr, i + 1, v, h => by
    obtain ⟨k, u, e1, e2⟩ := str_at hr i v (by simpa using h)
    exact ⟨k, u, by simpa using e1, e2⟩
/-- set(names), names a list of texts -/
theorem txs_call {q : Addr} {items : Array Value} (ks : List Str) {Q : Value → Shared → Prop} (hh : A.handled = none) (hl : s.heap.IsList q items) (hk : StrsAre items.toList ks) (hb : ks.length + 1 < scanBound)
    (h : ∀ (h' : Heap) (tk : Nat) (l : List Str), TxS P w h' s.heap.objs.size l → (∀ x, x ∈ l ↔ x ∈ ks) → l.length ≤ ks.length → (∀ b o, s.heap.get? b = some o → h'.get? b = some o) → Q (.ref s.heap.objs.size) { s with heap := h', toks := tk }) :
    wpAny (model P w) A (call (.type "set") [.ref q]) Q E s := by
  have nI : items.size = ks.length := by
    have := StrsAre.length hk
    rwa [Array.length_toList] at this
  obtain ⟨c, tl, hmro⟩ := F.called_set.mro
  have m1 := F.called_set.made
  have m2 := F.called_set.sub
  refine wpAny_call (codeAny_of_tree ?_)
  show wpAny _ _ (callAny (.type "set") _) _ _ _
  refine wpAny_pure ⟨Code.quiet_builtin _ (by decide +kernel), codeAny_builtin F.entry_type_call ?_⟩
  rw [Around.under_plain (weight_type_call_type "set" [.ref q] []) rfl]
  have m3 := F.called_set.notType
  have m4 := F.called_set.canCreate
  have m5 := F.typeCall_set_1 (.ref q)
  repeat (any_goals (first | assumption | wp_step))
  refine codeAny_mono (L2.code_set_led1 (.ref q) (E := E) (Q₁ := fun obj s₁ => obj = .ref s.heap.objs.size ∧ s₁ = { s with heap := s.heap.push (set0 w) }) ⟨rfl, rfl⟩) fun r s₁ hr => ?_
  cases r with
  | error e => exact hr
  | ok fl =>
    cases fl with
    | ret obj =>
      obtain ⟨rfl, rfl⟩ := hr
      have g0 : (s.heap.push (set0 w)).get? s.heap.objs.size = some (set0 w) := Heap.get?_push_size _ rfl
      have hT : Shared.TypeIs { s with heap := s.heap.push (set0 w) } (.ref s.heap.objs.size) "set" := ⟨_, g0, rfl⟩
      have m6 := F.called_set.init.lookup
      have m7 := F.called_set.init.bind (.ref s.heap.objs.size)
      repeat (any_goals (first | assumption | wp_step))
      refine codeAny_mono (codeAny_call_builtin (R := wants (fun r s₂ => r = .none ∧ ∃ h' tk l, s₂ = { s with heap := h', toks := tk } ∧ TxS P w h' s.heap.objs.size l ∧ (∀ x, x ∈ l ↔ x ∈ ks) ∧ l.length ≤ ks.length ∧ ∀ b o, s.heap.get? b = some o → h'.get? b = some o) E) F.called_set.init.plain F.entry_set_init (check_set_init_1 hT ?_)) fun r₂ s₂ hr₂ => ?_
      · obtain ⟨ol, hol, hcl, nl, hdl⟩ := hl
        obtain ⟨ocls, odict, odata, oslots⟩ := ol
        simp only at hcl hdl
        subst hcl; subst hdl
        have hol2 : (s.heap.push (set0 w)).get? q = some { cls := .type "list", dict := odict, data := .seq items nl, slots := oslots } := Heap.get?_push_of_some _ hol
        have e1 := F.sub_list_set
        have e2 := F.sub_list_frozenset
        have e3 : (Value.type "list" == Value.type "dict") = false := by decide
        have isl : (s.heap.push (set0 w)).IsList q items := ⟨_, hol2, rfl, nl, rfl⟩
        unfold Builtin.«set.__init__» noKeywords Builtin.Frozenset.updateFrom
        generalize hPI : pyIter = PI
        wp_walk
        subst hPI
        refine wpAny_pyIter_list isl (wpAny_bind (wpAny_runValue ?_))
        have lq : q < s.heap.objs.size := Heap.lt_size hol
        have h3 : A.in1.in1.in1.handled = none := by simp [hh]
        have sz : (s.heap.push (set0 w)).objs.size = s.heap.objs.size + 1 := Heap.size_push ..
        refine txs_loop ((Walks.list h3 _ q (Nat.ne_of_lt (by rw [sz]; exact Nat.lt_succ_of_lt lq)) items).toS) s.heap.objs.size
          (by rw [sz]; simp only [List.mem_cons, List.not_mem_nil, or_false, not_or]; exact ⟨Nat.ne_of_lt (Nat.lt_succ_self _), Nat.ne_of_gt lq⟩) ks nI hb (fun i v hv => str_at hk i v (by rw [Array.getElem?_toList]; exact hv)) (items.size - 0) 0 _ (by omega) (Nat.zero_le _)
          ⟨⟨_, Heap.get?_push_size _ rfl, rfl, rfl⟩, (isl.push _)⟩ ⟨[], Nat.le_refl _, txs_fresh (Heap.get?_push_of_some _ g0), fun x => by simp⟩ ?_
        intro s' l mv hn hS hx
        obtain ⟨h', g2, d', tk', os'⟩ := s'
        obtain rfl : g2 = s.gens := mv.gens
        obtain rfl : d' = s.drawn := mv.drawn
        obtain rfl : os' = s.os := mv.os
        show wpAny _ _ _ _ _ _
        refine wpAny_pure ?_
        show wpAny _ _ (ret Value.none) _ _ _
        refine wpAny_pure ⟨rfl, h', tk', l, rfl, hS, hx, by omega, fun b o e => ?_⟩
        have lb : b < s.heap.objs.size := Heap.lt_size e
        exact mv.heap b o (by rw [sz]; simp only [List.mem_cons, List.not_mem_nil, or_false, not_or]; exact ⟨Nat.ne_of_lt lb, Nat.ne_of_lt (Nat.lt_succ_of_lt lb)⟩) (Heap.get?_push_of_some _ (Heap.get?_push_of_some _ e))
      · cases r₂ with
        | error e => exact hr₂
        | ok f2 =>
          cases f2 with
          | ret r =>
            obtain ⟨rfl, h', tk, l, rfl, hS, hx, hn, hk'⟩ := hr₂
            repeat (any_goals (first | assumption | wp_step))
            exact h _ _ _ hS hx hn hk'
          | _ => exact hr₂.elim
    | _ => exact hr.elim
end
end LC
end LcSet
section LcSet2
set_option maxHeartbeats 4000000
namespace LC
open PySem PySem.Spec PyProof.Rows
open PySem.Froz (SD sObj TxOk addTx tailTx)
open L2 (Hp HO V VK Cx RelV Vals Inv CallR Ris SqL SqT upd upd_same)
theorem strs_of : ∀ {vs : List Value} {l : List Str}, (∀ v ∈ vs, ∃ k u, v = Value.str k u) → ∃ ks, StrsAre vs ks
  | [], _, _ => ⟨[], .nil⟩
  | v :: vs, l, h => by
    obtain ⟨k, u, rfl⟩ := h v (List.mem_cons_self ..)
    obtain ⟨ks, hk⟩ := strs_of (l := l) fun x hx => h x (List.mem_cons_of_mem _ hx)
    exact ⟨k :: ks, .cons k u hk⟩
theorem strs_mem : ∀ {vs : List Value} {ks : List Str}, StrsAre vs ks → ∀ k, k ∈ ks ↔ ∃ u, Value.str k u ∈ vs
  | _, _, .nil, k => by simp
  | _, _, .cons n t hr, k => by
    have ih := strs_mem hr k
    constructor
    · intro h
      rcases List.mem_cons.mp h with rfl | h
      · exact ⟨t, List.mem_cons_self ..⟩
      · obtain ⟨u, hu⟩ := ih.mp h
        exact ⟨u, List.mem_cons_of_mem _ hu⟩
    · rintro ⟨u, hu⟩
      rcases List.mem_cons.mp hu with e | hu
      · injection e with e1 _
        rw [e1]; exact List.mem_cons_self ..
      · exact List.mem_cons_of_mem _ (ih.mpr ⟨u, hu⟩)
section
variable {P : Program} {w : World} {A : Around} {E : Value → Shared → Prop} {s : Shared} {a : Addr} {l : List Str}
theorem txs_sorted {Q : Value → Shared → Prop} (R : TxS P w s.heap a l) (hh : A.handled = none) (h64 : l.length < 64)
    (hQ : ∀ s' p (out : Array Value) (c : Nat) (ns : List Str), (∀ b o, s.heap.get? b = some o → s'.heap.get? b = some o) → s'.gens = s.gens → s'.os = s.os → s.heap.objs.size ≤ p →
      s'.heap.get? p = some (seqObj "list" out c) → StrsAre out.toList ns → (∀ k, k ∈ ns ↔ k ∈ l) → ns.length = l.length → Q (.ref p) s') :
    wpAny (model P w) A (call (.builtin "sorted") [.ref a]) Q E s := by
  obtain ⟨⟨es, ep, t⟩, hD, F, nd, ri, le⟩ := R
  have hsz : es.size = l.length := F.sz
  have hsb : es.size < scanBound := by
    have : (64 : Nat) ≤ scanBound := by decide
    omega
  refine Calls.call_function_entry kind_sorted plain_sorted entry_sorted (args_sorted1 _) ?_
  unfold Builtin.«sorted»
  refine wpAny_bind (m := checkCount "sorted" 1 1 _) (wpAny_pure ?_)
  refine wpAny_bind (L2.collect_set (A := A.in1) hh ⟨_, hD, rfl, rfl⟩ F.fit hsb ri le fun s1 vs k1 hz g1 o1 pm => ?_)
  have hvl : vs.length = l.length := by rw [pm.length_eq, List.length_map, Array.length_toList]; exact hsz
  have hstr : ∀ v ∈ vs, ∃ k u, v = Value.str k u := fun v hv => by
    obtain ⟨e, he, q⟩ := List.mem_map.mp (pm.mem_iff.mp hv)
    obtain ⟨⟨k, hk, _⟩, _⟩ := F.el e he
    rw [← q]
    have hk2 : Value.isStrOf k e.2 = true := hk
    cases e2 : e.2 with
    | str y u => exact ⟨y, u, rfl⟩
    | _ => rw [e2] at hk2; cases hk2
  obtain ⟨ks, hS⟩ := strs_of (l := l) hstr
  have hks : ∀ k, k ∈ ks ↔ k ∈ l := fun k => by
    rw [strs_mem hS, F.mem k]
    constructor
    · rintro ⟨u, hu⟩
      obtain ⟨e, he, q⟩ := List.mem_map.mp (pm.mem_iff.mp hu)
      exact ⟨e, he, by rw [q]; exact PySem.Froz.is_str k u⟩
    · rintro ⟨e, he, q⟩
      have hv : e.2 ∈ vs := pm.mem_iff.mpr (List.mem_map.mpr ⟨e, he, rfl⟩)
      obtain ⟨y, u, hy⟩ := hstr _ hv
      have : k = y := (strKind P w).inj e.2 k y q (by rw [hy]; exact PySem.Froz.is_str y u)
      subst this
      exact ⟨u, by rw [← hy]; exact hv⟩
  refine wpAny_bind (wpAny_newList ?_ (by rw [hvl, sizeLine_eq]; omega))
  have hoL : (s1.heap.push (seqObj "list" vs.toArray 0)).get? s1.heap.objs.size = some (seqObj "list" vs.toArray 0) := Heap.get?_push_size _ rfl
  refine wpAny_bind (wpAny_holding (wpAny_call_entry slot_list_sort ⟨_, hoL, rfl⟩ entry_list_sort (list_sort_treeK strKind_oneLt hoL hS.keysOf (fun v₁ v₂ rest e => keyKind_strs (by rw [← e]; exact hS)) (by rw [hvl]; exact h64) fun st' hp hs => ⟨_, rfl, ?_⟩) (args_list_sort _)))
  obtain ⟨ss', b1, b2, b3⟩ := sorted_out_str hS hp hs
  obtain ⟨c, hc⟩ := sortedHeap_at (vs := vs) (out := (arrOf st').map (·.2)) hoL
  refine wpAny_pure ⟨_, rfl, hQ _ s1.heap.objs.size _ c ss' (fun b u e => ?_) g1 o1 hz hc b1 (fun k => by rw [b2.mem_iff, hks]) ?_⟩
  · have q := k1 b u e
    have lt := Heap.lt_size q
    show (sortedHeap (s1.heap.push (seqObj "list" vs.toArray 0)) s1.heap.objs.size vs ((arrOf st').map (·.2))).get? b = some u
    rw [sortedHeap_old (Nat.ne_of_lt lt) (by rw [size_push']; exact Nat.lt_succ_of_lt lt)]
    exact Heap.get?_push_of_some _ q
  · have := StrsAre.length hS
    rw [b2.length_eq]; omega
end
theorem strs_vals : ∀ {us : List Value} {ks : List Str}, StrsAre us ks → Vals (ks.map V.str) us
  | _, _, .nil => .nil
  | _, _, .cons n t hr => .cons ⟨t, rfl⟩ (strs_vals hr)
section
variable {X : Cx}
def rSetL (P : Program) (w : World) (K : PySem.W.Frag) : List V → Hp → VK → Prop := fun xs H Q => ∃ q, ∃ ks : List Str, xs = [.ref q] ∧ SqL K H q (ks.map V.str) ∧ ks.length < 1000 ∧ ∀ a l, H a = none → (∀ x, x ∈ l ↔ x ∈ ks) → l.Nodup → Q (.ref a) (upd H a (SetT P w a l))
theorem cr_setL (hc : X.calm = true) : CallR X (.type "set") (rSetL X.prog X.w X.K) := by
  intro pins s σ H xs us Q I r h
  obtain ⟨q, ks, rfl, hq, hn, kq⟩ := h
  rw [L2.Vals.ref1 r]
  obtain ⟨its, rv, pl, hz⟩ := I.list hq
  have hk : StrsAre its ks := L2.strsAre_of rv
  refine txs_call ks (I.ok.hd hc) pl.isList (by simpa using hk) (by have : (1002 : Nat) ≤ scanBound := by decide
                                                                    omega) fun h' tk l hS hx _ hkp => ?_
  refine ⟨.ref s.heap.objs.size, upd H s.heap.objs.size (SetT X.prog X.w s.heap.objs.size l), I.laid (t' := tk) hkp (Nat.le_refl _) (setT_obj hS), rfl, kq _ l (I.hok.fresh (Nat.le_refl _)) hx ?_⟩
  obtain ⟨D, _, _, nd, _⟩ := hS
  exact nd
def rSortT (P : Program) (w : World) : List V → Hp → VK → Prop := fun xs H Q => ∃ a l, xs = [.ref a] ∧ H a = some (SetT P w a l) ∧ l.length < 64 ∧ ∀ (ns : List Str) (p : Addr), (∀ k, k ∈ ns ↔ k ∈ l) → ns.length = l.length → H p = none → Q (.ref p) (upd H p (.lst (ns.map V.str)))
theorem cr_sortT (hc : X.calm = true) : CallR X (.builtin "sorted") (rSortT X.prog X.w) := by
  intro pins s σ H vs us Q I r h
  obtain ⟨a, l, rfl, ha, h64, kq⟩ := h
  have R : TxS X.prog X.w s.heap a l := (I.hok a _ ha).1
  rw [L2.Vals.ref1 r]
  refine txs_sorted R (I.ok.hd hc) h64 fun s' p out c ns k g o hp hg hS hm hl => ?_
  have hlen : (ns.map V.str).length ≤ sizeLine := by rw [List.length_map, hl, sizeLine_eq]; omega
  have hn : H p = none := I.hok.fresh hp
  have J : Inv X pins σ (upd H p (.lst (ns.map V.str))) { s with heap := s'.heap, gens := s'.gens, drawn := s'.drawn, toks := s'.toks } :=
    I.call (ch := []) (L2.Un.laid k hp hn) (I.hok.laid k hp ⟨hlen, out.toList, c, strs_vals hS, hg⟩) (by rw [g]; exact I.bare) (fun _ z => nomatch z)
  have e : s' = { s with heap := s'.heap, gens := s'.gens, drawn := s'.drawn, toks := s'.toks } := by
    obtain ⟨_, _, _, _, _⟩ := s'
    cases o; rfl
  rw [e]
  exact ⟨.ref p, _, J, rfl, kq ns p hm hl hn⟩
end
end LC
end LcSet2
section LcShown7
set_option maxHeartbeats 4000000
namespace LC
open PySem L2
open He (ga ma)
open He5 (wf)
theorem KvR.put' {R R' : Str → V → Hp → Prop} {kvs : List (Key × V)} {ks : List Str} {B : Hp} (h : KvR R kvs ks B) {k : Str} {v : V} (f : ∀ j u, j ≠ k → R j u B → R' j u B) (r : R' k v B) : KvR R' (putK kvs (.inr k) v) (addk ks k) B := by
  have h2 : KvR (fun j u B => if j = k then R' k v B else R' j u B) kvs ks B := h.up fun j u e => by
    by_cases q : j = k
    · rw [if_pos q]; exact r
    · rw [if_neg q]; exact f j u q e
  have h3 := h2.put (k := k) (v := v) (by rw [if_pos rfl]; exact r)
  refine ⟨h3.keys, h3.nd, fun j u e => ?_⟩
  rw [valV_put] at e
  by_cases q : (Sum.inr j : Key) = .inr k
  · rw [if_pos q] at e
    injection q with q
    injection e with e
    subst q e
    exact r
  · rw [if_neg q] at e
    exact f j u (fun z => q (by rw [z])) (h.at_ j u e)
section
variable {X : Cx} {e : Expr} {σ : St} {B M : Hp} {P : V → Hp → Hp → Prop} {pos p pos2 p2 : Pos}
/-- sorted(set(names)) -/
theorem em_sortSet (hc : X.calm = true) (hm1 : X.mg "sorted" = none) (hm2 : X.mg "set" = none)
    (h : EM X e σ B M fun v B1 M1 => ∃ q, ∃ ks : List Str, v = .ref q ∧ B1 q = some (.lst (ks.map V.str)) ∧ ks.length < 1000 ∧ (∀ l : List Str, l.Nodup → (∀ k, k ∈ l ↔ k ∈ ks) → l.length < 64) ∧ ∀ B' r (ns : List Str), Ex B1 B' → B' r = some (.lst (ns.map V.str)) → (∀ k, k ∈ ns ↔ k ∈ ks) → ns.length < 64 → P (.ref r) B' M1)
    (hg1 : Gl X "sorted" := by rfl) (hg2 : Gl X "set" := by rfl) (he : starEach [e] X.env = (false, eval e X.env) :: starEach [] X.env := by rfl)
    (he2 : starEach [.Call (.Name "set" p2) [e] [] pos2] X.env = (false, eval (.Call (.Name "set" p2) [e] [] pos2) X.env) :: starEach [] X.env := by rfl) :
    EM X (.Call (.Name "sorted" p) [.Call (.Name "set" p2) [e] [] pos2] [] pos) σ B M P := by
  refine em_cb (cr_sortT hc) hm1 PyProof.Rows.boot_sorted (am_cons (em_cty (cr_setL hc) hm2 PyProof.Rows.boot_set (am_cons (h.imp fun v B1 M1 _ ⟨q, ks, hv, hq, hn, hl, hp⟩ => am_nil ?_) he) hg2 (he := he)) he2) hg1 (he := he2)
  intro H w Q k
  refine ⟨q, ks, by rw [hv], SqL.of (w.b _ _ hq), hn, fun a l ha hx nd => ?_⟩
  obtain ⟨ba, mA⟩ := w.fresh ha
  refine k (.ref a) (upd B1 a (SetT X.prog X.w a l)) M1 (upd H a (SetT X.prog X.w a l)) (Gs.newB w ha) (am_nil fun H2 w2 Q2 k2 => ?_)
  refine ⟨a, l, rfl, w2.b _ _ upd_same, hl l nd hx, fun ns r hns hnl hr => ?_⟩
  obtain ⟨br, mr⟩ := w2.fresh hr
  exact k2 _ _ _ _ (Gs.newB w2 hr) (hp _ r ns ((Ex.up ba).tr (Ex.up br)) upd_same (fun k => (hns k).trans (hx k)) (by rw [hnl]; exact hl l nd hx))
end
section
variable {P : Program} {w : World} {K : PySem.W.Frag} {mg : Str → Option Value} {base : Heap} {U : List Str}
def spU (K : PySem.W.Frag) (U : List Str) : Spc := fun vs B M Q => ∃ x y n F sa l φ, vs = [x, y] ∧ ShownAt K U n F sa B x l ∧ FsOk U n F sa ∧ FormAt K U B y φ ∧ AskOk U φ sa ∧
  (∀ B', Ex B B' → Span n F φ → Q .non B' M) ∧ ∀ B' d kvs ks c, Ex B B' → ¬ Span n F φ → B' d = some (.dK kvs) → KvR (fun k v B => RatAt K B v (c k)) kvs ks B' → (∀ k, φ k ≠ 0 → k ∈ ks) → (∀ i, i < n → ∀ k, F i k ≠ 0 → k ∈ ks) →
    (∀ i, i < n → dot U (F i) c = 0) → dot U φ c ≠ 0 → (∀ k, Sb 1100000 (c k)) → Q (.ref d) B' M
theorem pr_unseen (S : SR P w K mg base U) : Pr P w K mg base 60 (ma K (ga K "Shown") "unseen") [] (spU K U) := by
  refine pr_def S.b.f.b.r.t.f_Shown_unseen sc_Shown_unseen (fun _ _ _ _ _ _ us hl => match us, hl with | [_, _], _ => rfl) (by rintro _ _ _ _ ⟨x, y, n, F, sa, l, φ, rfl, _⟩; rfl) ?_
  rintro cdv A outer s0 H E vs B M Q hr ⟨x, y, n, F, sa, l, φ, rfl, ⟨a, dx, lf, ls, lr, rx, rfl, ha, hlr, hF, hs⟩, ok, hy, ao, hq1, hq2⟩
  have T := S.b.f.b.r.t
  have R := S.b.f.b.r
  have n10 := ok.n10
  obtain ⟨rsz, rc, rf⟩ := ask_sz hs ok ao zero_cn
  obtain ⟨fx, hf1, hf2, hf3⟩ := id hF
  refine sm_cons (s1_asg (em_meth S.red (hr.mono (by decide)) T.cl_Shown T.m_Shown_reduced (em_nm 0 ⟨a, dx, _, rfl, jn_b ha, rfl, am_cons (em_nm 1 (am_cons ?_))⟩)))
  refine em_lcB rfl sc_Shown_unseen.nd (blk_ok (N := n_Shown_unseen) (sc := defScope s_Shown_unseen) [("form", 5)] (by decide +kernel)) (em_fld (em_nm 0 ⟨a, _, dx, _, _, rfl, jn_b ha, T.cl_Shown, T.no_Shown_forms, rfl, lf, fx, rfl, hf1, ?_⟩))
  refine lcb_map 5 sc_Shown_unseen.nd (by omega) (fun i v B => RatAt K B v 0) (fun _ _ _ _ e h => h.up e) ?_ ?_
  · rintro i v B1 M1 hv hi hB1 hM1 s3 H3 C3 cl3 fp3
    exact em_R1 R (hr.mono (by decide)) (em_int ⟨0, rfl, fun v5 B5 hB5 hv5 => ⟨rfl, hv5⟩⟩)
  rintro lo oy B1 hB1 hlo hlo2 hlo3
  refine am_nil ⟨.ref a, y, .ref lo, n, l, φ, fun _ => 0, rfl, shIn_of (jn_b (hB1 _ _ ha)) (hs.up hB1), hs.gj.clr, hy.up hB1, ⟨lo, oy, rfl, hlo, by rw [hlo2]; exact hf2, hlo3⟩, by omega, rsz, fun B2 r v1 v2 hB2 hr2 hv1 hv2 => ?_⟩
  refine gm_tup rfl (SqT.of (jn_b hr2)) (gms_cons (gm_name 2 sc_Shown_unseen.nd (gms_cons (gm_name 3 sc_Shown_unseen.nd (gms_nil ?_)))))
  have hB02 : Ex B B2 := hB1.tr hB2
  refine sm_cons (s1_if (tm_noneS (u64 hr) (em_names S.b.f.b (hr.mono (by decide)) (em_nm 2 ⟨_, hv1, fun B3 l3 ks hB3 hl3 nd3 hu3 hz3 => ⟨l3, ks, rfl, hl3, fun k hk => S.b.f.b.u.ok k (hu3 k hk), fun B4 hB4 => ?_⟩⟩))))
  have hB04 : Ex B B4 := hB02.tr (hB3.tr hB4)
  by_cases hks : ks = []
  · refine ift (decide_eq_true hks) (sm_one (s1_ret (em_non (hq1 B4 hB04 ?_))))
    rw [hs.gj.span]
    intro k
    refine Classical.byContradiction fun z => ?_
    have := (hz3 k).mpr z
    rw [hks] at this
    cases this
  refine iff' (decide_eq_false hks) (sm_nil ?_)
  have hns : ¬ Span n F φ := by
    rw [hs.gj.span]
    intro h0
    cases ks with
    | nil => exact hks rfl
    | cons k ks => exact (hz3 k).mp (List.mem_cons_self ..) (h0 k)
  -- names
  refine sm_cons (s1_set 4 sc_Shown_unseen.nd (em_names S.b.f.b (hr.mono (by decide)) (em_nm 1 ⟨φ, hy.up hB04, fun B5 l5 ks5 hB5 hl5 nd5 hu5 hz5 => ?_⟩)))
  have hB05 : Ex B B5 := hB04.tr hB5
  have len30 : ∀ {q : List Str}, q.Nodup → (∀ k ∈ q, k ∈ U) → q.length < 30 := fun {q} nd hu => by
    have := nodup_len nd hu
    have := S.b.f.b.u.len
    omega
  refine sm_cons (s1_for PassesOwn.never rfl (em_fld (em_nm 0 ⟨a, _, dx, _, _, rfl, jn_b (hB05 _ _ ha), T.cl_Shown, T.no_Shown_forms, rfl, lf, fx, rfl, SqL.of (jn_b (hB05 _ _ hf1)), fun i σ B' M' => ∃ ln, ∃ ns : List Str, ∃ o, σ = [some (.ref a), some y, some v1, some v2, some (.ref ln), o, none, none, none, none] ∧ M' = M ∧ Ex B5 B' ∧ B' ln = some (.lst (ns.map V.str)) ∧ (∀ k ∈ ns, k ∈ U) ∧ (∀ k, φ k ≠ 0 → k ∈ ns) ∧ (∀ j, j < i → ∀ k, F j k ≠ 0 → k ∈ ns) ∧ ns.length ≤ 30 * (i + 1), ?_, ?_, ?_, ?_⟩)))
  · exact ⟨l5, ks5, _, rfl, rfl, Ex.id', hl5, hu5, fun k hk => (hz5 k).mpr hk, fun j hj => by omega, by have := len30 nd5 hu5; omega⟩
  · rintro i σ B' M' _ ⟨ln, ns, o, rfl, rfl, hB', _⟩
    exact SqL.of (jn_b ((hB05.tr hB') _ _ hf1))
  · rintro i v σ B' M' hi _ ⟨ln, ns, o, rfl, rfl, hB', hln, hnu, hnφ, hnF, hnl⟩
    have hilt := (List.getElem?_eq_some_iff.mp hi).1
    refine gm_name 5 sc_Shown_unseen.nd (sm_one (s1_set 4 sc_Shown_unseen.nd (em_op op_cat (em_nm 4 (em_names S.b.f.b (hr.mono (by decide)) (em_nm 5 ⟨F i, (hf3 i v hi).up (hB05.tr hB'), fun B6 l6 ks6 hB6 hl6 nd6 hu6 hz6 => ?_⟩))))))
    have h6 := len30 nd6 hu6
    refine om_cat ⟨ln, l6, _, _, rfl, rfl, jn_b (hB6 _ _ hln), jn_b hl6, by rw [str_len, str_len]; exact le_size (by omega), fun r7 hr7 hm7 => ?_⟩
    refine ⟨r7, ns ++ ks6, _, rfl, rfl, (hB'.tr hB6).tr (Ex.up hr7), by rw [List.map_append]; exact upd_same, fun k hk => ?_, fun k hk => List.mem_append_left _ (hnφ k hk), fun j hj k hk => ?_, by rw [List.length_append]; omega⟩
    · rcases List.mem_append.mp hk with h | h
      · exact hnu k h
      · exact hu6 k h
    · by_cases e : j = i
      · subst e
        exact List.mem_append_right _ ((hz6 k).mpr hk)
      · exact List.mem_append_left _ (hnF j (by omega) k hk)
  rintro σ B6 M' _ ⟨ln, ns, o, rfl, rfl, hB6, hln, hnu, hnφ, hnF, hnl⟩
  have hB06 : Ex B B6 := hB05.tr hB6
  rw [hf2] at hnF hnl
  -- change
  refine sm_cons (s1_dcB 6 rfl sc_Shown_unseen.nd (blk_ok (N := n_Shown_unseen) (sc := defScope s_Shown_unseen) [("name", 9)] (by decide +kernel)) (em_sortSet rfl T.u_sorted T.u_set (em_nm 4 ⟨ln, ns, rfl, hln, by omega, fun l nd hx => ?_, fun B7 l7 ns7 hB7 hl7 hx7 hn7 => ?_⟩)))
  · have := len30 nd fun k hk => hnu k ((hx k).mp hk)
    omega
  refine ⟨l7, _, rfl, hl7, dcb_names 9 sc_Shown_unseen.nd (by omega) (fun k v B => RatAt K B v 0) (fun _ _ _ _ e r => r.up e) ?_ ?_⟩
  · rintro name hn B8 M8 hB8 hM8 s3 H3 C3 cl3 fp3
    exact em_R1 R (hr.mono (by decide)) (em_int ⟨0, rfl, fun v5 B5 hB5 hv5 => ⟨rfl, hv5⟩⟩)
  rintro d kvs kks B8 M8 hB8 hnb hnm hM8 hk8 hks8
  subst hM8
  have hB08 : Ex B B8 := (hB06.tr hB7).tr hB8
  -- free
  refine sm_cons (s1_set 7 sc_Shown_unseen.nd (em_ixL (em_names S.b.f.b (hr.mono (by decide)) (em_nm 2 ⟨_, hv1.up (((((hB3.tr hB4).tr hB5).tr hB6).tr hB7).tr hB8), fun B9 l9 ks9 hB9 hl9 nd9 hu9 hz9 => em_int ?_⟩))))
  obtain ⟨free, kt, rfl⟩ : ∃ p ks', ks9 = p :: ks' := by
    cases ks9 with
    | nil =>
      exfalso
      cases ks with
      | nil => exact hks rfl
      | cons p _ =>
        have := (hz9 p).mpr ((hz3 p).mp (List.mem_cons_self ..))
        cases this
    | cons p ks' => exact ⟨p, ks', rfl⟩
  refine ⟨l9, _, 0, .str free, rfl, rfl, SqL.of (jn_b hl9), (by exact at_nat (i := 0) rfl), ?_⟩
  have hfree : redF l φ free ≠ 0 := (hz9 free).mp (List.mem_cons_self ..)
  have hfU : free ∈ U := hu9 free (List.mem_cons_self ..)
  have nf : ∀ s ∈ l, s.p ≠ free := fun s hs' e => hfree (by rw [← e]; exact hs.gj.clr.piv hs' φ)
  have kl : ∀ {q : List (Key × V)} {z : List Str} {R : Str → V → Hp → Prop} {B : Hp}, KvR R q z B → (∀ k ∈ z, k ∈ U) → q.length < sizeLine := fun {q z R B} h hu => by
    have h1 := h.len
    have h2 := len30 h.nd hu
    have h3 : (1000 : Nat) ≤ sizeLine := by decide
    omega
  have hkU : ∀ k ∈ kks, k ∈ U := fun k hk => hnu k ((hx7 k).mp ((hks8 k).mp hk))
  refine sm_cons (s1_dput (u1 hr) (em_R1 R (hr.mono (by decide)) (em_int ⟨1, rfl, fun v10 B10 hB10 hv10 => em_nm 6 (em_nm 7 ⟨d, rfl, .inl ⟨kvs, .inr free, upd_same, rfl, kl hk8 hkU, ?_⟩⟩)⟩)))
  rw [upd_twice]
  have hk10 : KvR (fun k v B => RatAt K B v (if k = free then 1 else 0)) (putK kvs (.inr free) v10) (addk kks free) B10 := by
    refine (hk8.up (R' := fun k v B => RatAt K B v 0) fun k v r => r.up (hB9.tr hB10)).put' (fun j u hj r => ?_) ?_
    · show RatAt K B10 u (if j = free then 1 else 0)
      rw [if_neg hj]; exact r
    · show RatAt K B10 v10 (if free = free then 1 else 0)
      rw [if_pos rfl]; exact hv10
  have hB010 : Ex B B10 := (hB08.tr hB9).tr hB10
  obtain ⟨sx, hsx1, hsx2, hsx3⟩ := hs.st.up hB010
  refine sm_cons (s1_for PassesOwn.never rfl (em_fld (em_nm 0 ⟨a, _, dx, _, _, rfl, jn_b (hB010 _ _ ha), T.cl_Shown, T.no_Shown_steps_found, rfl, ls, sx, rfl, SqL.of (jn_b hsx1), fun i σ B' M1 => ∃ kv2 kk2 c o2, σ = [some (.ref a), some y, some v1, some v2, some (.ref ln), o, some (.ref d), some (.str free), o2, none] ∧ M1 = upd M' d (.dK kv2) ∧ Ex B10 B' ∧ KvR (fun k v B => RatAt K B v (c k)) kv2 kk2 B' ∧ (∀ k ∈ kk2, k ∈ U) ∧ (∀ k ∈ kks, k ∈ kk2) ∧ Chg (l.take i) free c ∧ ∀ k, Sb 1100000 (c k), ?_, ?_, ?_, ?_⟩)))
  · refine ⟨_, _, _, _, rfl, rfl, Ex.id', hk10, fun k hk => ?_, fun k hk => mem_addk.mpr (.inl hk), ⟨if_pos rfl, fun s h => by simp at h, fun k hk _ => if_neg hk⟩, fun k => ?_⟩
    · rcases mem_addk.mp hk with h | rfl
      · exact hkU k h
      · exact hfU
    · by_cases e : k = free
      · rw [if_pos e]; exact Sb.one.mono (by omega)
      · rw [if_neg e]; exact Sb.zero.mono (by omega)
  · rintro i σ B' M1 _ ⟨kv2, kk2, c, o2, rfl, rfl, hB', _⟩
    exact SqL.of (jn_b (hB' _ _ hsx1))
  · rintro i v σ B' M1 hi _ ⟨kv2, kk2, c, o2, rfl, rfl, hB', hkv, hku, hkk, hch, hcs⟩
    have hilt := (List.getElem?_eq_some_iff.mp hi).1
    obtain ⟨st, hst⟩ : ∃ st, l[i]? = some st := ⟨_, List.getElem?_eq_getElem (by omega)⟩
    have hmem := List.mem_of_getElem? hst
    have hsv := (hsx3 i st v hst hi).up hB'
    obtain ⟨b1, db1, vf, vl, rfl, hb2, hb3, hb4⟩ := id hsv
    obtain ⟨ss1, _⟩ := rsz.s st hmem
    refine gm_name 8 sc_Shown_unseen.nd (sm_one (s1_dput (u1 hr) (em_Rneg R (hr.mono (by decide)) (em_share S.b.f.b (hr.mono (by decide)) (em_fld (em_nm 8 ⟨b1, _, db1, _, _, rfl, jn_b hb2, T.cl_Step, T.no_Step_form, rfl, st.φ, hb3, em_nm 7 ⟨free, rfl, fun v11 B11 hB11 hv11 => ⟨_, hv11, fun v12 B12 hB12 hv12 => ?_⟩⟩⟩))))))
    refine em_nm 6 (em_fld (em_nm 8 ⟨b1, _, db1, _, _, rfl, jn_b ((hB11.tr hB12) _ _ hb2), T.cl_Step, T.no_Step_pivot, rfl, d, rfl, .inl ⟨kv2, .inr st.p, upd_same, rfl, kl hkv hku, ?_⟩⟩))
    rw [upd_twice]
    have hpd : ∀ s ∈ l.take i, s.p ≠ st.p := fun s hs' e => by
      have hnd := hs.gj.clr.nd
      rw [← List.take_append_drop i l, List.map_append] at hnd
      have hin : st ∈ l.drop i := List.mem_iff_getElem?.mpr ⟨0, by rw [List.getElem?_drop]; simpa using hst⟩
      exact (List.nodup_append.mp hnd).2.2 _ (List.mem_map.mpr ⟨s, hs', rfl⟩) _ (List.mem_map.mpr ⟨st, hin, rfl⟩) e
    refine ⟨_, addk kk2 st.p, fun k => if k = st.p then -st.φ free else c k, _, rfl, rfl, (hB'.tr hB11).tr hB12, ?_, fun k hk => ?_, fun k hk => mem_addk.mpr (.inl (hkk k hk)), ⟨?_, fun s hs' => ?_, fun k hk1 hk2 => ?_⟩, fun k => ?_⟩
    · refine (hkv.up (R' := fun k v B => RatAt K B v (c k)) fun k v r => r.up (hB11.tr hB12)).put' (fun j u hj r => ?_) ?_
      · show RatAt K B12 u (if j = st.p then -st.φ free else c j)
        rw [if_neg hj]; exact r
      · show RatAt K B12 v12 (if st.p = st.p then -st.φ free else c st.p)
        rw [if_pos rfl]; exact hv12
    · rcases mem_addk.mp hk with h | rfl
      · exact hku k h
      · exact hs.pu st hmem
    · show (if free = st.p then -st.φ free else c free) = 1
      rw [if_neg (fun e => nf st hmem e.symm)]; exact hch.f
    · rw [List.take_add_one, hst] at hs'
      rcases List.mem_append.mp hs' with h | h
      · show (if s.p = st.p then -st.φ free else c s.p) = -s.φ free
        rw [if_neg (hpd s h)]; exact hch.p s h
      · simp at h
        subst h
        show (if s.p = s.p then -s.φ free else c s.p) = -s.φ free
        rw [if_pos rfl]
    · show (if k = st.p then -st.φ free else c k) = 0
      rw [if_neg (fun e => hk2 st (by rw [List.take_add_one, hst]; simp) e.symm)]
      exact hch.o k hk1 fun s hs' => hk2 s (by rw [List.take_add_one]; exact List.mem_append_left _ hs')
    · show Sb 1100000 (if k = st.p then -st.φ free else c k)
      by_cases e : k = st.p
      · rw [if_pos e]
        have hbq : bq sa n ≤ 1031000 := bq_le ok.a1k n10
        exact (((hs.sz.sb hmem).1 free).mono (by omega)).neg
      · rw [if_neg e]; exact hcs k
  · rintro σ B' M1 _ ⟨kv2, kk2, c, o2, rfl, rfl, hB', hkv, hku, hkk, hch, hcs⟩
    rw [hsx2, List.take_length] at hch
    refine sm_one (s1_ret (Emt.fzN (em_nm 6 ⟨d, _, upd_same, fun hnb' => ?_⟩)))
    rw [del_upd hnm]
    refine hq2 _ d kv2 kk2 c ((hB010.tr hB').tr (Ex.up hnb')) hns upd_same (hkv.up fun k v r => r.up (Ex.up hnb')) (fun k hk => hkk k ((hks8 k).mpr ((hx7 k).mpr (hnφ k hk)))) (fun i hi k hk => hkk k ((hks8 k).mpr ((hx7 k).mpr (hnF i hi k hk)))) (fun i hi => dot_seen hs.gj S.b.f.b.u.nd hs.pu hfU nf hch hi) ?_ hcs
    rw [dot_asked hs.gj S.b.f.b.u.nd hs.pu hfU nf hch]
    exact hfree
end
end LC
end LcShown7
section LcMatch
set_option maxHeartbeats 4000000
/-! match of a triple: a text's kind, anything, a name. -/
namespace LC
open PySem L2
section
variable {X : Cx} {pins : List (Addr × Obj)} {σ : St} {H : Hp} {s : Shared}
theorem pat_val {k z : Str} {t : Tok} {j : Nat} {p1 p2 : Pos} {Q : Option (List (Str × Value)) → Shared → Prop} (I : Inv X pins σ H s) (h : ∀ s', Inv X pins σ H s' → Q (if k = z then some [] else none) s') :
    wpAny (model X.prog X.w) X.A (matchPattern (.MatchValue (.Constant (.str z) j p1) p2) X.env (.str k t)) Q X.xe s := by
  refine wpAny_matchPattern_Value (thn ((pe_str (X := X) (x := z) (j := j) (pos := p1)).run pins s σ H (fun v H1 => v = .str z ∧ H1 = H) I ⟨rfl, rfl⟩) fun u s1 ⟨v, H1, I1, r1, e1, e2⟩ => ?_)
  subst e1 e2
  refine thn (op_eq pins s1 σ H1 (.str k) (.str z) (.str k t) u (fun v H2 => v = .bl (decide (k = z)) ∧ H2 = H1) I1 ⟨t, rfl⟩ r1 ⟨rfl, ?_, rfl⟩) fun c s2 ⟨v, H2, I2, r2, e3, e4⟩ => ?_
  · congr 1
    by_cases e : k = z
    · rw [decide_eq_true e, decide_eq_true (by rw [e])]
    · rw [decide_eq_false e, decide_eq_false (fun q => e (by injection q))]
  subst e3 e4
  cases (show c = Value.bool _ from r2)
  refine wpAny_truthy_bool ?_
  by_cases e : k = z
  · rw [decide_eq_true e]
    have := h s2 I2
    rw [if_pos e] at this
    exact this
  · rw [decide_eq_false e]
    have := h s2 I2
    rw [if_neg e] at this
    exact this
/-- one of several texts -/
theorem pat_or {k : Str} {t : Tok} {Q : Option (List (Str × Value)) → Shared → Prop} : ∀ {zs : List (Str × Nat × Pos × Pos)} {s : Shared}, Inv X pins σ H s → (∀ s', Inv X pins σ H s' → Q (if k ∈ zs.map (·.1) then some [] else none) s') →
    wpAny (model X.prog X.w) X.A (matchFirst (zs.map fun z => .MatchValue (.Constant (.str z.1) z.2.1 z.2.2.1) z.2.2.2) X.env (.str k t)) Q X.xe s
  | [], s, I, h => wpAny_matchFirst_nil (by have := h s I; simpa using this)
  | z :: zs, s, I, h => by
    refine wpAny_matchFirst_cons (pat_val I fun s' I' => ?_)
    by_cases e : k = z.1
    · rw [if_pos e]
      have := h s' I'
      rw [if_pos (by rw [List.map_cons, e]; exact List.mem_cons_self ..)] at this
      exact this
    · rw [if_neg e]
      refine pat_or I' fun s2 I2 => ?_
      have := h s2 I2
      rw [List.map_cons] at this
      have e2 : (k ∈ z.1 :: zs.map (·.1)) ↔ k ∈ zs.map (·.1) := by simp [e]
      simp only [e2] at this
      exact this
end
theorem vals_three {a b c : V} {us : List Value} (r : Vals [a, b, c] us) : ∃ u1 u2 u3, us = [u1, u2, u3] ∧ RelV a u1 ∧ RelV b u2 ∧ RelV c u3 := by
  cases r with
  | cons h1 r =>
    cases r with
    | cons h2 r =>
      cases r with
      | cons h3 r =>
        cases r
        exact ⟨_, _, _, rfl, h1, h2, h3⟩
section
variable {X : Cx} {pins : List (Addr × Obj)} {σ : St} {H : Hp} {s : Shared}
/-- a triple's pattern: the first, anything, a name -/
theorem pat_three {p : Pattern} {n : Str} {Q : Option (List (Str × Value)) → Shared → Prop} {pa pb pc : Pos} {q : Addr} {a b ut : Value} (hc : X.calm = true) (hst : p.isStar = false) (hwl : p.isWildcard = false) (I : Inv X pins σ H s)
    (tp : PyProof.Rows.IsTup s.heap q #[a, b, ut])
    (hp : ∀ s3, Inv X pins σ H s3 → (∀ b o, s.heap.get? b = some o → s3.heap.get? b = some o) → wpAny (model X.prog X.w) X.A (matchPattern p X.env a) (fun r s4 => match r with
          | none => Q none s4
          | some bs => bs = [] ∧ Q (some [(n, ut)]) s4) X.xe s3) :
    wpAny (model X.prog X.w) X.A (matchPattern (.MatchSequence [p, .MatchAs none none pa, .MatchAs none (some n) pb] pc) X.env (.ref q)) Q X.xe s := by
  have f1 : ([p, .MatchAs none none pa, .MatchAs none (some n) pb] : List Pattern).findIdx? (·.isStar) = none := by
    rw [List.findIdx?_cons, hst]; rfl
  have f2 : (([p, .MatchAs none none pa, .MatchAs none (some n) pb] : List Pattern).all fun p => p.isWildcard || (p.isStar && p.names.isEmpty)) = false := by
    rw [List.all_cons, hst, hwl]; rfl
  refine PyProof.Rows.matchSeq_tuple_hit tp (by show ((3 : Nat) : Int) < 2 ^ 63; decide) (by rfl) ?_ f1 f2
  refine PyProof.Rows.unpackItems_tuple (items := #[a, b, ut]) (I.ok.hd hc) tp fun h' hx => ?_
  have kp : ∀ b o, s.heap.get? b = some o → h'.get? b = some o := fun b o e => hx b o (Nat.ne_of_lt (Heap.lt_size e)) e
  have I3 : Inv X pins σ H { s with heap := h', toks := s.toks + 1 + 1 } := I.kept (h' := h') (t' := s.toks + 1 + 1) kp
  show wpAny _ _ (matchEach [p, .MatchAs none none pa, .MatchAs none (some n) pb] X.env [a, b, ut]) _ _ _
  refine wpAny_matchEach_cons (thn (hp _ I3 kp) fun r s4 hr => ?_) hst
  cases r with
  | none => exact hr
  | some bs =>
    obtain ⟨e, hr⟩ := hr
    subst e
    refine wpAny_matchEach_cons (hp := by rfl) (wpAny_matchPattern_Capture ?_)
    refine wpAny_matchEach_cons (hp := by rfl) (wpAny_matchPattern_Capture (wpAny_matchEach_nil hr))
end
section
variable {X : Cx} {σ : St} {B M : Hp} {E : EndsM} {subj : Expr} {body1 body2 : List Stmt} {pos p1 p2 p3 p4 p5 p6 p7 p8 p9 p10 : Pos} {n1 n2 : Str}
def tMatch3 (X : Cx) (subj : Expr) (body1 body2 : List Stmt) (j1 j2 : Nat) (zs : List Str) (z : Str) : TS := fun D σ H => wE X subj σ H fun v H1 => ∃ q k nm th, v = .ref q ∧ H1 q = some (.tup [.str k, nm, th]) ∧
  ((k ∈ zs ∧ wB X body1 D (σ.set j1 (some th)) H1) ∨ (k ∉ zs ∧ k = z ∧ wB X body2 D (σ.set j2 (some th)) H1) ∨ (k ∉ zs ∧ k ≠ z ∧ D.nx σ H1))
theorem names_vals : ∀ zs : List (Str × Nat × Pos × Pos), namesOfAll ((zs.map fun z => Pattern.MatchValue (.Constant (.str z.1) z.2.1 z.2.2.1) z.2.2.2).take 1) = []
  | [] => rfl
  | z :: zs => rfl
theorem put_name {pins : List (Addr × Obj)} {H : Hp} {s : Shared} {D : Ends} {th : V} {ut : Value} {n : Str} {j : Nat} {body : List Stmt} (hN : X.N.Nodup) (hi : X.N[j]? = some n) (hl : Loc X.env.scope n) (hf : X.fn n = true ∨ X.env.scope.names.lookup n = some .local) (ht : RelV th ut) (I : Inv X pins σ H s)
    (h : wB X body D (σ.set j (some th)) H) : wpAny (model X.prog X.w) X.A (assignInOrder ([(n, ut)].map fun (n, _) => bindName X.env n) ([(n, ut)].map (·.2))) (fun _ s₂ => wpAny (model X.prog X.w) X.A (execs body X.env) (SP X pins D) X.xe s₂) X.xe s :=
  wpAny_assignInOrder_more (wpAny_bindName (store_ok I hN hi hl ht (fun s3 I3 => wpAny_assignInOrder_none (h pins s3 I3)) hf))
theorem ps_match3 (j1 j2 : Nat) (zs : List (Str × Nat × Pos × Pos)) {z : Str} {iz : Nat} (hc : X.calm = true) (hN : X.N.Nodup) (i1 : X.N[j1]? = some n1) (i2 : X.N[j2]? = some n2) (l1 : Loc X.env.scope n1) (l2 : Loc X.env.scope n2)
    (f1 : X.fn n1 = true ∨ X.env.scope.names.lookup n1 = some .local) (f2 : X.fn n2 = true ∨ X.env.scope.names.lookup n2 = some .local) :
    PS X (.Match subj [⟨.MatchSequence [.MatchOr (zs.map fun z => .MatchValue (.Constant (.str z.1) z.2.1 z.2.2.1) z.2.2.2) p1, .MatchAs none none p2, .MatchAs none (some n1) p3] p4, none, body1⟩,
      ⟨.MatchSequence [.MatchValue (.Constant (.str z) iz p5) p6, .MatchAs none none p7, .MatchAs none (some n2) p8] p9, none, body2⟩] pos) (tMatch3 X subj body1 body2 j1 j2 (zs.map (·.1)) z) := by
  constructor
  intro pins s σ H D I hw
  refine wpAny_Match (thn (hw pins s I) fun u s1 ⟨v, H1, I1, r1, q, k, nm, th, hv, hq, hk⟩ => ?_)
  subst hv
  cases (show u = Value.ref q from r1)
  obtain ⟨its, rv, tp, _⟩ := I1.tuple (SqT.of hq)
  obtain ⟨u1, u2, u3, e, ⟨t, hu1⟩, _, ht⟩ := vals_three rv
  subst e hu1
  refine wpAny_matchCases_cons (pat_three hc rfl rfl I1 tp fun s3 I3 _ => ?_)
  refine wpAny_matchPattern_Or (pat_or I3 fun s4 I4 => ?_)
  by_cases hz : k ∈ zs.map (·.1)
  · rw [if_pos hz]
    dsimp only
    refine ⟨by rw [names_vals]; rfl, ?_⟩
    rcases hk with ⟨_, hb⟩ | ⟨h1, _⟩ | ⟨h1, _⟩
    · exact put_name hN i1 l1 f1 ht I4 hb
    · exact absurd hz h1
    · exact absurd hz h1
  · rw [if_neg hz]
    dsimp only
    obtain ⟨its, rv, tp, _⟩ := I4.tuple (SqT.of hq)
    obtain ⟨u1, u2, u3, e, ⟨t, hu1⟩, _, ht⟩ := vals_three rv
    subst e hu1
    refine wpAny_matchCases_cons (pat_three hc rfl rfl I4 tp fun s5 I5 _ => ?_)
    refine pat_val I5 fun s6 I6 => ?_
    by_cases hz2 : k = z
    · rw [if_pos hz2]
      dsimp only
      refine ⟨rfl, ?_⟩
      rcases hk with ⟨h1, _⟩ | ⟨_, _, hb⟩ | ⟨_, h1, _⟩
      · exact absurd h1 hz
      · exact put_name hN i2 l2 f2 ht I6 hb
      · exact absurd hz2 h1
    · rw [if_neg hz2]
      dsimp only
      refine wpAny_matchCases_nil ?_
      rcases hk with ⟨h1, _⟩ | ⟨_, h1, _⟩ | ⟨_, _, hn⟩
      · exact absurd h1 hz
      · exact absurd h1 hz2
      · exact ⟨σ, H1, I6, hn⟩
theorem s1_match3 (j1 j2 : Nat) (zs : List (Str × Nat × Pos × Pos)) {z : Str} {iz : Nat} (hc : X.calm = true) (hN : X.N.Nodup)
    (h : EM X subj σ B M fun v B1 M1 => ∃ q k nm th, v = .ref q ∧ B1 q = some (.tup [.str k, nm, th]) ∧ ((k ∈ zs.map (·.1) ∧ SM X body1 (σ.set j1 (some th)) B1 M1 E) ∨ (k ∉ zs.map (·.1) ∧ k = z ∧ SM X body2 (σ.set j2 (some th)) B1 M1 E)))
    (i1 : X.N[j1]? = some n1 := by rfl) (i2 : X.N[j2]? = some n2 := by rfl) (l1 : Loc X.env.scope n1 := by first | exact Or.inl rfl | exact Or.inr rfl) (l2 : Loc X.env.scope n2 := by first | exact Or.inl rfl | exact Or.inr rfl)
    (f1 : X.fn n1 = true ∨ X.env.scope.names.lookup n1 = some .local := by first | exact Or.inl rfl | exact Or.inr rfl) (f2 : X.fn n2 = true ∨ X.env.scope.names.lookup n2 = some .local := by first | exact Or.inl rfl | exact Or.inr rfl) :
    S1 X (.Match subj [⟨.MatchSequence [.MatchOr (zs.map fun z => .MatchValue (.Constant (.str z.1) z.2.1 z.2.2.1) z.2.2.2) p1, .MatchAs none none p2, .MatchAs none (some n1) p3] p4, none, body1⟩,
      ⟨.MatchSequence [.MatchValue (.Constant (.str z) iz p5) p6, .MatchAs none none p7, .MatchAs none (some n2) p8] p9, none, body2⟩] pos) σ B M E := by
  refine s1_of (ps_match3 j1 j2 zs hc hN i1 i2 l1 l2 f1 f2) fun H w D k1 k2 k3 k4 => h H w _ fun v B1 M1 H1 g ⟨q, k, nm, th, hv, hq, hk⟩ => ⟨q, k, nm, th, hv, g.own.b _ _ hq, ?_⟩
  rcases hk with ⟨h1, hb⟩ | ⟨h1, h2, hb⟩
  · exact .inl ⟨h1, hb H1 g.own D (fun a b c d g2 => k1 a b c d (g.tr g2)) (fun a b c d g2 => k2 a b c d (g.tr g2)) (fun a b c d g2 => k3 a b c d (g.tr g2)) (fun a b c d g2 => k4 a b c d (g.tr g2))⟩
  · exact .inr (.inl ⟨h1, h2, hb H1 g.own D (fun a b c d g2 => k1 a b c d (g.tr g2)) (fun a b c d g2 => k2 a b c d (g.tr g2)) (fun a b c d g2 => k3 a b c d (g.tr g2)) (fun a b c d g2 => k4 a b c d (g.tr g2))⟩)
end
end LC
end LcMatch
section LcSort
set_option maxHeartbeats 4000000
/-! sorted(d), d's keys pairs of ints. -/
namespace LC
open PySem PySem.Spec PyProof.Rows L2
def pk (p : Int × Int) : List Key := [.inl p.1, .inl p.2]
/-- sorted of a dict with pairs as keys -/
def rSortDT : List V → Hp → VK → Prop := fun xs H Q => ∃ (d : Addr) (kvs : List (List Key × V)) (ks : List (Int × Int)), xs = [.ref d] ∧ Rd H d (.dT kvs) ∧ kvs.map (·.1) = ks.map pk ∧ kvs.length ≤ 1000 ∧
  ∀ (ys : List V) (ks' : List (Int × Int)) (p : Addr), Paired (fun y k => ∃ q, y = V.ref q ∧ H q = some (.tup [.int k.1, .int k.2])) ys ks' → ks'.Perm ks → ks'.Pairwise (fun a b => SrtO.lexB b a = false) → H p = none → Q (.ref p) (upd H p (.lst ys))
section
variable {X : Cx}
theorem kt_keys {H : Hp} : ∀ {kvs : List (List Key × V)} {xs : List (List Key × Addr × Value)} {ks : List (Int × Int)}, KT H kvs xs → kvs.map (·.1) = ks.map pk → Paired (fun (x : List Key × Addr × Value) k => H x.2.1 = some (.tup [.int k.1, .int k.2])) xs ks
  | [], _, [], .nil, _ => .nil
  | [], _, _ :: _, _, e => by cases e
  | _ :: _, _, [], _, e => by cases e
  | kv :: kvs, _, k :: ks, .cons h t, e => by
    rw [List.map_cons, List.map_cons] at e
    injection e with e1 e2
    refine .cons ?_ (kt_keys t e2)
    have := h.2.1
    rw [e1] at this
    exact this
theorem cr_sortDT (hc : X.calm = true) : CallR X (.builtin "sorted") rSortDT := by
  intro pins s σ H vs us Q I r h
  obtain ⟨d, kvs, ks, rfl, hd, hks, hlen, kq⟩ := h
  rw [L2.Vals.ref1 r]
  obtain ⟨hz, lo, xs, kt, o, es, ep, ho, hex, hdat, hes, hki, hnd⟩ := dt_rd I.hok hd
  have hpk := kt_keys kt hks
  have hesz : es.size = xs.length := size_of_entries hes
  have hxk : xs.length = ks.length := paired_len hpk
  have hraw : s.heap.DictRaw d es ep := ⟨o, ho, hex, hdat⟩
  have hkl : ks.length ≤ 1000 := by
    have := congrArg List.length hks
    rw [List.length_map, List.length_map] at this
    omega
  have h1k : (1000 : Nat) ≤ sizeLine := by decide
  refine Calls.call_function_entry PyProof.Rows.kind_sorted PyProof.Rows.plain_sorted PyProof.Rows.entry_sorted (PyProof.Rows.args_sorted1 _) ?_
  unfold Builtin.«sorted»
  refine wpAny_bind (m := checkCount "sorted" 1 1 _) (wpAny_pure ?_)
  refine wpAny_bind (PySem.W.kdu_collect (A := X.A.in1) (PySem.KdlSrc.rawDict (ep := ep) lo) (I.ok.hd hc) hraw (by omega) fun h' tk acc hk hacc => ?_)
  have hal : acc.toList.length = xs.length := by rw [Array.length_toList, hacc.1, hesz]
  -- each value is a key's tuple
  have hkey : ∀ (i : Nat) (v : Value), acc.toList[i]? = some v → ∃ x k, xs[i]? = some x ∧ ks[i]? = some k ∧ v = .ref x.2.1 ∧ H x.2.1 = some (.tup [.int k.1, .int k.2]) := fun i v hv => by
    obtain ⟨hi, e⟩ := hacc.2 i v (by rw [← Array.getElem?_toList]; exact hv)
    have e2 := entry_at hes i
    rw [Array.getElem?_eq_getElem hi] at e2
    cases e3 : xs[i]? with
    | none => rw [e3] at e2; cases e2
    | some x =>
      rw [e3] at e2
      injection e2 with e2
      obtain ⟨k, hk1, hk2⟩ := paired_at hpk e3
      exact ⟨x, k, rfl, hk1, by rw [e, e2]; rfl, hk2⟩
  have I1 : Inv X pins σ H { s with heap := h', toks := tk } := I.kept hk
  refine wpAny_bind (wpAny_newList ?_ (by omega))
  have hoL : (h'.push (seqObj "list" acc.toList.toArray 0)).get? h'.objs.size = some (seqObj "list" acc.toList.toArray 0) := Heap.get?_push_size _ rfl
  show wpAny _ _ _ _ _ { s with heap := h'.push (seqObj "list" acc.toList.toArray 0), toks := tk }
  have I2 : Inv X pins σ H { s with heap := h'.push (seqObj "list" acc.toList.toArray 0), toks := tk } := I1.kept (t' := tk) fun b o e => Heap.get?_push_of_some _ e
  -- the key of a value
  let kf : Value → Int × Int := fun v => match v with
    | .ref q => (match H q with
      | some (.tup [.int i, .int j]) => (i, j)
      | _ => (0, 0))
    | _ => (0, 0)
  have kf_at : ∀ {q : Addr} {k : Int × Int}, H q = some (.tup [.int k.1, .int k.2]) → kf (.ref q) = k := fun {q k} e => by
    show (match H q with
      | some (.tup [.int i, .int j]) => (i, j)
      | _ => (0, 0)) = k
    rw [e]
  have hp : ∀ v ∈ acc.toList, Srt.IsPair (h'.push (seqObj "list" acc.toList.toArray 0)) v (kf v).1 (kf v).2 := fun v hv => by
    obtain ⟨i, hi⟩ := List.mem_iff_getElem?.mp hv
    obtain ⟨x, k, _, _, rfl, ht⟩ := hkey i v hi
    rw [kf_at ht]
    obtain ⟨_, its2, r2, o, ho, hc, n, hd⟩ := I2.hok _ _ ht
    obtain ⟨u1, u2, rfl, ri, rj⟩ := vals2 r2
    obtain ⟨t1, rfl⟩ := ri
    obtain ⟨t2, rfl⟩ := rj
    exact ⟨_, o, t1, t2, n, rfl, ho, hc, hd⟩
  refine wpAny_bind (wpAny_holding (wpAny_call_entry PyProof.Rows.slot_list_sort ⟨_, hoL, rfl⟩ PyProof.Rows.entry_list_sort
    (SrtO.list_sort_ord (s := { s with heap := h'.push (seqObj "list" acc.toList.toArray 0), toks := tk }) (SrtO.swo_lex kf) hoL (by omega) (fun h2 => SrtO.pairs_sortableO (by omega) hp fun o e => ?_) fun out h1 h2 => ⟨.none, rfl, ?_⟩) (PyProof.Rows.args_list_sort _)))
  · have e' : some o = some (seqObj "list" acc.toList.toArray 0) := e.symm.trans hoL
    cases e'
    intro c
    exact absurd (Value.type.inj c) (by decide)
  · obtain ⟨ep', he'⟩ := PyProof.Rows.sortedHeap_at (vs := acc.toList) (out := out.toArray) hoL
    have hout : ∀ v ∈ out, ∃ q k, v = Value.ref q ∧ H q = some (.tup [.int k.1, .int k.2]) ∧ kf v = k := fun v hv => by
      obtain ⟨i, hi⟩ := List.mem_iff_getElem?.mp (h2.perm.mem_iff.mp hv)
      obtain ⟨x, k, _, _, rfl, ht⟩ := hkey i v hi
      exact ⟨_, k, rfl, ht, kf_at ht⟩
    have hacck : acc.toList.map kf = ks := by
      apply List.ext_getElem?
      intro i
      rw [List.getElem?_map]
      cases e : acc.toList[i]? with
      | none =>
        have := List.getElem?_eq_none_iff.mp e
        rw [List.getElem?_eq_none_iff.mpr (by omega)]; rfl
      | some v =>
        obtain ⟨x, k, _, hk1, rfl, ht⟩ := hkey i v e
        rw [hk1]
        show some (kf (.ref x.2.1)) = some k
        rw [kf_at ht]
    have hpair : ∀ {l : List Value}, (∀ v ∈ l, ∃ q k, v = Value.ref q ∧ H q = some (.tup [.int k.1, .int k.2]) ∧ kf v = k) → Paired (fun y k => ∃ q, y = V.ref q ∧ H q = some (.tup [.int k.1, .int k.2])) (l.map backV) (l.map kf) := by
      intro l
      induction l with
      | nil => intro _; exact .nil
      | cons v l ih =>
        intro hl
        obtain ⟨q, k, rfl, ht, ek⟩ := hl v (List.mem_cons_self ..)
        refine .cons ⟨q, rfl, by rw [ek]; exact ht⟩ (ih fun u hu => hl u (List.mem_cons_of_mem _ hu))
    have hol : out.length = xs.length := by rw [h2.perm.length_eq]; exact hal
    refine wpAny_pure ⟨_, rfl, .ref h'.objs.size, upd H h'.objs.size (.lst (out.map backV)), I1.laid (t' := tk) (fun b u e => ?_) (Nat.le_refl _) ⟨by rw [List.length_map]; omega, out, ep', vals_back fun v hv => ?_, he'⟩, rfl,
      kq (out.map backV) (out.map kf) _ (hpair hout) (by rw [← hacck]; exact h2.perm.map kf) (List.pairwise_map.mpr h1) (I1.hok.fresh (Nat.le_refl _))⟩
    · have hb : b < h'.objs.size := Heap.lt_size e
      rw [PyProof.Rows.sortedHeap_old (Nat.ne_of_lt hb) (by rw [size_push']; exact Nat.lt_succ_of_lt hb)]
      exact Heap.get?_push_of_some _ e
    · obtain ⟨q, k, e, _⟩ := hout v hv
      exact ⟨q, e⟩
end
end LC
end LcSort
section LcSetC
set_option maxHeartbeats 4000000
/-! {e for target in list}, e an int; sorted of it. -/
namespace LC
open PySem PySem.Spec PyProof.Rows L2
section
variable {X : Cx}
/-- what a set comprehension asks; G the new set -/
def tSci (w : World) (wi : TI) (g : TG) (tt : TT) (te : TE) (vs : List Nat) : TE := fun σ H Q => wi σ H fun J H1 => ∀ G, H1 G = none → ∃ W : Nat → Nat → Hp → Prop, (∃ m, W 0 m (upd H1 G (SetO w G (fun _ => false) 0))) ∧ ∀ i m H2, W i m H2 →
  (J.stop i H2 ∧ Q (.ref G) H2) ∨ (J.go i H2 ∧ ∃ Nx : Hp → Prop, (∀ H3, Nx H3 → ∃ m', m' < m ∧ W (i + 1) m' H3) ∧ ∀ x H3, J.yld i H2 x H3 → g x (wipe σ vs) H3 fun τ H4 => wipe τ vs = wipe σ vs ∧ tt τ H4 fun b H5 =>
    if b = true then te τ H5 fun y H6 => ∃ (c : Int) (S : Int → Bool) (n : Nat), y = .int c ∧ H6 G = some (SetO w G S n) ∧ n + 1 < scanBound ∧ Nx (upd H6 G (SetO w G (fun j => S j || decide (j = c)) (if S c = true then n else n + 1))) else Nx H5)
theorem pe_sci {elt tg iter : Expr} {ifs : List Expr} {scope : Scope} {own : List (Str × Nat)} {pos : Pos} {wi : TI} {g : TG} {tt : TT} {te : TE} (hc : X.calm = true) (hN : X.N.Nodup) (hi : PI X tg iter wi) (ok : BlkOk X.N X.env.scope scope own)
    (pg : ∀ (s : Shared) (H : Hp) (C : Addr) (cl : List (Str × Addr)) (fp : List Addr), PG (X.blk s H scope (compEnvC scope cl C X.env) fp) tg g) (pt : ∀ (s : Shared) (H : Hp) (C : Addr) (cl : List (Str × Addr)) (fp : List Addr), PTs (X.blk s H scope (compEnvC scope cl C X.env) fp) ifs tt)
    (pe : ∀ (s : Shared) (H : Hp) (C : Addr) (cl : List (Str × Addr)) (fp : List Addr), PE (X.blk s H scope (compEnvC scope cl C X.env) fp) elt te) (hs : ∀ x, foldedSetIterable iter X.env x = pure x) :
    PE X (.SetComp elt [⟨tg, iter, ifs, 0⟩] scope pos) (tSci X.w wi g tt te (own.map (·.2))) := by
  constructor
  intro pins s σ H Q I h
  rw [PpSet.eval_SetComp]
  have closed : ∀ y ∈ scope.names, y.2 = .free → ∃ c, X.env.cells.lookup y.1 = some c := by
    intro y hy e
    exact (ok.free y hy e).elim (fun k => I.ok.has _ (.inl k)) fun k => I.ok.has _ (.inr k)
  refine wpAny_comprehension_free (use := none) rfl hs (closure_ok closed) ok.kind (fun y hy e => by rw [ok.uniq y hy, e]) (thn (hi.run pins s σ H _ I h) fun xv t1 hx => thn hx fun itv t2 h2 => ?_)
  obtain ⟨it, fp, tn, J, Hi, e, Ia, T, sa, fa, q⟩ := h2
  subst e
  refine PpSet.newSet_ok (newEnv_comp ?_)
  obtain ⟨G, hG⟩ : ∃ G, t2.heap.objs.size = G := ⟨_, rfl⟩
  obtain ⟨W, ⟨m0, w0⟩, turn⟩ := q G (Ia.hok.fresh (Nat.le_of_eq hG))
  let os : Obj := { cls := .type "set", dict := none, data := .set #[] 0 (.fresh 0 0 (!X.w.params.followText "set-order")) }
  obtain ⟨t3, e3⟩ : ∃ t3 : Shared, t3 = { t2 with heap := t2.heap.push os } := ⟨_, rfl⟩
  have eh : t3.heap = t2.heap.push os := by rw [e3]
  have Ib : Inv X pins σ (upd Hi G (SetO X.w G (fun _ => false) 0)) t3 := by
    rw [e3, ← hG]
    exact Ia.laid (t' := t2.toks) (fun b o e => Heap.get?_push_of_some _ e) (Nat.le_refl _) (setO_new (setR_fresh X.w))
  have low : ∀ b ∈ fp, b < t2.heap.objs.size := fun b hb => (T.obj _ _ sa b hb).elim fun o e => Heap.lt_size e.1
  have fb : ∀ b ∈ fp, FpOk X pins (upd Hi G (SetO X.w G (fun _ => false) 0)) b ∧ b < t3.heap.objs.size := by
    intro b hb
    have lt := low b hb
    have ne : b ≠ G := by rw [← hG]; exact Nat.ne_of_lt lt
    refine ⟨⟨?_, (fa b hb).2⟩, by rw [eh, Heap.size_push]; exact Nat.lt_succ_of_lt lt⟩
    rw [upd_ne ne]; exact (fa b hb).1
  have sb : tn 0 t3.heap := T.keep _ _ _ sa fun b _ o e => by rw [eh]; exact Heap.get?_push_of_some _ e
  have Ic := block_start Ib ok hN fb
  obtain ⟨cl, ecl⟩ : ∃ cl, cl = cellsFrom (t3.heap.objs.size + 1) scope.names (cloFrom X.env.cells scope.names []) := ⟨_, rfl⟩
  obtain ⟨Hb, eHb⟩ : ∃ Hb, Hb = upd Hi G (SetO X.w G (fun _ => false) 0) := ⟨_, rfl⟩
  rw [← eHb] at Ib fb w0
  have hs3 : ({ t2 with heap := t2.heap.push os } : Shared) = t3 := e3.symm
  show codeAny _ _ (.compStart (.SetComp elt [⟨tg, iter, ifs, 0⟩] scope pos) 0 (.ref it) (.ref t2.heap.objs.size) (compEnvC scope (cellsFrom ((t2.heap.push os).objs.size + 1) scope.names (cloFrom X.env.cells scope.names [])) (t2.heap.push os).objs.size X.env)) (compPost (model X.prog X.w) X.A X.xe none (EP X pins σ Q) (.ref t2.heap.objs.size) (t2.heap.push os).objs.size) { t2 with heap := pushCells ((t2.heap.push os).push { cls := .type "dict", data := .dict #[] }) scope.names }
  rw [hG, ← eh, ← ecl]
  rw [← ecl, ← eHb] at Ic
  have pg' := pg t3 Hb t3.heap.objs.size cl fp
  have pt' := pt t3 Hb t3.heap.objs.size cl fp
  have pe' := pe t3 Hb t3.heap.objs.size cl fp
  have eC : (compEnvC scope cl t3.heap.objs.size X.env).locals = t3.heap.objs.size := rfl
  generalize compEnvC scope cl t3.heap.objs.size X.env = ce at Ic pg' pt' pe' eC ⊢
  obtain ⟨t4, e4⟩ : ∃ t4 : Shared, t4 = { t3 with heap := pushCells (t3.heap.push { cls := .type "dict", data := .dict #[] }) scope.names } := ⟨_, rfl⟩
  have e4' : ({ t2 with heap := pushCells (t3.heap.push { cls := .type "dict", data := .dict #[] }) scope.names } : Shared) = t4 := by rw [e4, e3]
  rw [e4']
  rw [← e4] at Ic
  have sc : tn 0 t4.heap := T.keep _ _ _ sb fun b _ o e => by rw [e4]; exact pushCells_keeps _ _ _ _ (Heap.get?_push_of_some _ e)
  have still : ∀ {τ : L2.St} {H' : Hp} {t : Shared}, Inv (X.blk t3 Hb scope ce fp) [] τ H' t → (∀ b ∈ fp, H' b = none) → ∀ b ∈ fp, FpOk (X.blk t3 Hb scope ce fp) [] H' b := by
    intro τ H' t I' hn b hb
    exact ⟨hn b hb, (I'.ok.exf b hb).1, I'.ok.exfs b hb, .inl hb, fun x c e => (I'.ok.exf b hb).2 x c e, fun p hp => by cases hp⟩
  have loop : codeAny (model X.prog X.w) X.A (.compLoop (.SetComp elt [⟨tg, iter, ifs, 0⟩] scope pos) 0 (.ref it) (.ref G) ce) (compPost (model X.prog X.w) X.A X.xe none (EP X pins σ Q) (.ref G) t3.heap.objs.size) t4 := by
    refine PpSet.compLoopS_any (fun n t => ∃ i H', Inv (X.blk t3 Hb scope ce fp) [] (wipe σ (own.map (·.2))) H' t ∧ tn i t.heap ∧ (∀ b ∈ fp, H' b = none) ∧ W i n H') ?_ m0 ⟨0, Hb, Ic, sc, fun b hb => (fb b hb).1.1, w0⟩
    rintro n t5 ⟨i, H5, I5, st5, n5, w5⟩
    rcases turn i n H5 w5 with ⟨stop, fin⟩ | ⟨go, Nx, hNx, step⟩
    · refine thnF (T.done (X.blk t3 Hb scope ce fp) rfl rfl rfl hc i [] t5 _ H5 (fun _ _ => False) I5 (still I5 n5) st5 stop) fun r t6 ⟨hr, I6⟩ => ?_
      subst hr
      have back : Inv X pins σ H5 t6 := Ib.call' (ch := fp) I6.os I6.base I6.hok I6.bare fun b hb => by
        obtain ⟨_, z1, z2, z3, z4⟩ := (fb b hb).1
        exact ⟨z3, z1, z4.1, z4.2⟩
      obtain ⟨m, hn, _⟩ := I6.loc
      have hn' : t6.heap.Ns t3.heap.objs.size m := by rw [← eC]; exact hn
      have out : FpOk X pins H5 t3.heap.objs.size := Ib.fpOk (Nat.le_refl _) (by have z : H5 ce.locals = none := I6.free; rwa [eC] at z)
      obtain ⟨f0, f1, f2, f3, f4, f5⟩ := out
      exact ⟨m, hn', fun h'' sb2 => ⟨.ref G, H5, back.turned (t' := t6.toks) (fun b o hb e => (sb2.2 b hb).trans e) f0 f1 f3 f4 f5, rfl, fin⟩⟩
    · refine thnF (T.item (X.blk t3 Hb scope ce fp) rfl rfl rfl hc i [] t5 _ H5 (fun _ _ => False) I5 (still I5 n5) st5 go) fun r t6 ⟨u, hr, h6⟩ => ?_
      subst hr
      refine thnF h6 fun _ t7 ⟨x, H7, I7, r7, y7, st7, n7⟩ => ?_
      have I7' := I7.pinned (still I7 n7) (T.obj _ _ st7)
      refine thnF (pg'.run _ t7 _ H7 x u _ I7' r7 (step x H7 y7)) fun _ t8 ⟨τ, H8, I8, hw, q8⟩ => thnF (pt'.run _ t8 τ H8 _ I8 q8) fun b t9 ⟨H9, I9, q9⟩ => ?_
      have turned : ∀ {t : Shared} {H' : Hp}, Inv (X.blk t3 Hb scope ce fp) ([] ++ pinsAt fp t7.heap) τ H' t → Nx H' → ∃ m, m < n ∧ ∃ i H', Inv (X.blk t3 Hb scope ce fp) [] (wipe σ (own.map (·.2))) H' t ∧ tn i t.heap ∧ (∀ b ∈ fp, H' b = none) ∧ W i m H' := by
        intro t H' I' nx
        obtain ⟨m', hm, w'⟩ := hNx H' nx
        have held : ∀ b ∈ fp, ∀ o, t7.heap.get? b = some o → t.heap.get? b = some o ∧ H' b = none := by
          intro b hb o e
          have z := I'.pin (b, o) (List.mem_append_right _ (List.mem_append_right _ (mem_pinsAt hb e)))
          exact ⟨z.1, z.2.1⟩
        have len : (wipe σ (own.map (·.2))).length = τ.length := by rw [← hw, wipe_length]
        refine ⟨m', hm, i + 1, H', (I'.unpinned (pins := [])).weak len (fun j v e => (wipe_some (by rw [hw]; exact e)).1), T.keep _ _ _ st7 fun b hb o e => (held b hb o e).1, fun b hb => ?_, w'⟩
        exact (T.obj _ _ st7 b hb).elim fun o e => (held b hb o e.1).2
      cases b with
      | false => exact turned I9 (by simpa using q9)
      | true =>
        rw [if_pos rfl] at q9
        rw [if_pos rfl]
        refine thnF (pe'.run _ t9 τ H9 _ I9 q9) fun z ta ⟨yv, Ha, Ii, ra, c, S, k, ey, hGa, hk, nx⟩ => ?_
        subst ey
        obtain ⟨tk, rfl⟩ := (show ∃ tk, z = Value.int c tk from ra)
        have R := setO_get (X := X.blk t3 Hb scope ce fp) Ii hGa
        refine setR_add R hk fun h' sb2 new => ?_
        have there : ∃ u, h'.get? G = some u := new.elim fun o r => r.elim fun _ r => r.elim fun _ r => r.elim fun _ r => ⟨o, r.1⟩
        exact turned (Ii.write (e := G) (t' := ta.toks + 1) (by rw [hGa]; trivial) (.inl rfl) (fun b u hb hu => (sb2.2 b hb).trans hu) there (setO_new new)) nx
  exact PpSet.codeAny_compStart_set loop (T.self X.A 0 _ _ _ sc loop)
end
end LC
end LcSetC
section LcSetC2
set_option maxHeartbeats 4000000
namespace LC
open PySem L2
theorem sci_lst {w : World} {K : PySem.W.Frag} {a : Addr} {xs : List V} {g : TG} {tt : TT} {te : TE} {vs : List Nat} {σ : St} {H1 : Hp} {G : Addr} {Qd : Hp → Prop} (Pv : Nat → Hp → Prop) (h0 : Pv 0 (upd H1 G (SetO w G (fun _ => false) 0))) (hl : ∀ i H, i ≤ xs.length → Pv i H → SqL K H a xs)
    (ht : ∀ i x H, xs[i]? = some x → Pv i H → g x (wipe σ vs) H fun τ H4 => wipe τ vs = wipe σ vs ∧ tt τ H4 fun b H5 => if b = true then te τ H5 fun y H6 => ∃ (c : Int) (S : Int → Bool) (n : Nat), y = .int c ∧ H6 G = some (SetO w G S n) ∧ n + 1 < scanBound ∧ Pv (i + 1) (upd H6 G (SetO w G (fun j => S j || decide (j = c)) (if S c = true then n else n + 1))) else Pv (i + 1) H5)
    (he : ∀ H, Pv xs.length H → Qd H) :
    ∃ W : Nat → Nat → Hp → Prop, (∃ m, W 0 m (upd H1 G (SetO w G (fun _ => false) 0))) ∧ ∀ i m H2, W i m H2 → ((Itl K a).stop i H2 ∧ Qd H2) ∨ ((Itl K a).go i H2 ∧ ∃ Nx : Hp → Prop, (∀ H3, Nx H3 → ∃ m', m' < m ∧ W (i + 1) m' H3) ∧ ∀ x H3, (Itl K a).yld i H2 x H3 → g x (wipe σ vs) H3 fun τ H4 => wipe τ vs = wipe σ vs ∧ tt τ H4 fun b H5 =>
      if b = true then te τ H5 fun y H6 => ∃ (c : Int) (S : Int → Bool) (n : Nat), y = .int c ∧ H6 G = some (SetO w G S n) ∧ n + 1 < scanBound ∧ Nx (upd H6 G (SetO w G (fun j => S j || decide (j = c)) (if S c = true then n else n + 1))) else Nx H5) := by
  refine ⟨fun i m H => i + m = xs.length ∧ Pv i H, ⟨xs.length, Nat.zero_add _, h0⟩, fun i m H ⟨hm, p⟩ => ?_⟩
  have q := hl i H (by omega) p
  cases m with
  | zero =>
    have e : i = xs.length := by omega
    rw [e] at p
    exact .inl ⟨⟨xs, q, by omega⟩, he H p⟩
  | succ m =>
    have hlt : i < xs.length := by omega
    exact .inr ⟨⟨xs, xs[i], q, List.getElem?_eq_getElem hlt⟩, Pv (i + 1), fun H' p' => ⟨m, Nat.lt_succ_self m, by omega, p'⟩, fun x H' ⟨e, y⟩ => by rw [e]; exact ht i x H (y xs q) p⟩
section
variable {X : Cx} {scope : Scope} {tg e src : Expr} {σ : St} {B M : Hp} {P : V → Hp → Hp → Prop} {own : List (Str × Nat)} {pos p sp : Pos}
/-- sorted({e for tg in src}) -/
theorem em_sortSetC (hc : X.calm = true) (hN : X.N.Nodup) (ok : BlkOk X.N X.env.scope scope own) (hm : X.mg "sorted" = none)
    (h : EM X src σ B M fun v B1 M1 => ∃ a xs, ∃ vals : List Int, v = .ref a ∧ B1 a = some (.lst xs) ∧ xs.length < 64 ∧ vals.length = xs.length ∧
      (∀ (i : Nat) x B' M', xs[i]? = some x → Ex B1 B' → Sub M1 M' → Emt (fun H Q => bG X scope tg x (wipe σ (own.map (·.2))) H Q) B' M' fun σ2 B2 M2 => wipe σ2 (own.map (·.2)) = wipe σ (own.map (·.2)) ∧ M2 = M' ∧ Emt (bE X scope e σ2) B2 M' fun y B3 M3 => M3 = M' ∧ ∃ c, vals[i]? = some c ∧ y = .int c) ∧
      ∀ B' r (ns : List Int), Ex B1 B' → B' r = some (.lst (ns.map V.int)) → ns.Pairwise (· < ·) → (∀ k, k ∈ ns ↔ k ∈ vals) → P (.ref r) B' M1)
    (hg : Gl X "sorted" := by rfl) (hs : ∀ x, foldedSetIterable src X.env x = pure x := by intro _; rfl)
    (he : starEach [.SetComp e [⟨tg, src, [], 0⟩] scope sp] X.env = (false, eval (.SetComp e [⟨tg, src, [], 0⟩] scope sp) X.env) :: starEach [] X.env := by rfl) : EM X (.Call (.Name "sorted" p) [.SetComp e [⟨tg, src, [], 0⟩] scope sp] [] pos) σ B M P := by
  refine em_cb (cr_sortedSet hc) hm PyProof.Rows.boot_sorted (am_cons (Emt.fzN (em_of (pe_sci hc hN (pi_list pe_w) ok bG_pg bT_pt bE_pe hs) ?_)) he) hg (he := he)
  intro H w Q k
  refine h H w _ fun v B1 M1 H1 g ⟨a, xs, vals, hv, ha, hx64, hvl, ht, hp⟩ => ⟨a, hv, ⟨xs, SqL.of (g.own.b _ _ ha)⟩, fun G hG => ?_⟩
  obtain ⟨b0, m0⟩ := g.own.fresh hG
  have s64 : (65 : Nat) ≤ scanBound := by decide
  refine sci_lst (xs := xs) (fun i H' => ∃ B' M' S n, Gs B1 M1 H1 B' M' H' ∧ M' = upd M1 G (SetO X.w G S n) ∧ n ≤ i ∧ ∀ z, S z = true ↔ z ∈ vals.take i) ⟨_, _, _, _, Gs.newM g.own hG, rfl, Nat.le_refl _, fun z => by simp⟩ (fun i H' _ ⟨B', M', S, n, g', _⟩ => SqL.of (g'.own.b _ _ (g'.b _ _ ha))) ?_ ?_
  · rintro i x H' hi ⟨B', M', S, n, g', rfl, hn, hS⟩
    have hlt := (List.getElem?_eq_some_iff.mp hi).1
    refine ht i x B' _ hi g'.b (Sub.upd m0) H' g'.own _ fun σ2 B2 M2 H2 g2 ⟨hw, hM2, q2⟩ => ⟨hw, ?_⟩
    subst hM2
    refine bt_nil (P := fun k B3 M3 => k = true ∧ B3 = B2 ∧ M3 = upd M1 G (SetO X.w G S n)) ⟨rfl, rfl, rfl⟩ H2 g2.own _ fun k3 B3 M3 H3 g3 ⟨hk3, hB3, hM3⟩ => ?_
    subst hk3 hB3 hM3
    rw [if_pos rfl]
    refine q2 H3 g3.own _ fun y B4 M4 H4 g4 ⟨hM4, c, hc4, hy⟩ => ?_
    subst hM4
    have hD4 : H4 G = some (SetO X.w G S n) := (g4.own.m G _ upd_same).1
    have g5 := Gs.setM (o := SetO X.w G (fun j => S j || decide (j = c)) (if S c = true then n else n + 1)) g4.own (upd_same (o := SetO X.w G S n) (H := M1))
    refine ⟨c, S, n, hy, hD4, by omega, B4, _, _, _, ((g'.tr g2).tr g3).tr (g4.tr g5), upd_twice, by split <;> omega, fun z => ?_⟩
    rw [Bool.or_eq_true, decide_eq_true_eq, hS, List.take_add_one, hc4]
    simp
  · rintro H' ⟨B', M', S, n, g', rfl, hn, hS⟩
    rw [← hvl, List.take_length] at hS
    refine k _ _ _ H' (g.tr g') ⟨G, _, upd_same, fun hnb => ?_⟩
    rw [del_upd m0]
    refine am_nil fun H2 w2 Q2 k2 => ⟨G, S, n, rfl, w2.b _ _ upd_same, by omega, fun ns r hsrt hns _ hr => ?_⟩
    obtain ⟨br, mr⟩ := w2.fresh hr
    exact k2 _ _ _ _ (Gs.newB w2 hr) (hp _ r ns (((g'.b.up' b0)).tr (Ex.up br)) upd_same hsrt fun z => (hns z).trans (hS z))
end
end LC
end LcSetC2
section LcOwnIx
set_option maxHeartbeats 4000000
/-! o[i] and o[i] = v of an own class. -/
namespace LC
open PySem L2
section
variable {X : Cx} {k : Nat} {f C : Addr} {S : Spc} {o i : Expr} {σ : St} {B M : Hp} {P : V → Hp → Hp → Prop} {pos pos' : Pos}
theorem run_in1 {pins : List (Addr × Obj)} {H : Hp} {s : Shared} {Q : VK} {us : List Value} {vs : List V} (F : Pr X.prog X.w X.K X.mg X.base k f [] S) (hr : Room (k + 1) X.A) (I : Inv X pins σ H s) (r : Vals vs us) (h : MSp S vs H Q E0) :
    wpAny (model X.prog X.w) X.A.in1 (call (.ref f) us) (EP X pins σ Q) X.xe s := by
  obtain ⟨fd, ps, ds, G, hb, hd⟩ := F.ex
  cases hd
  have hl : us.length = ps.length := by rw [← r.length]; exact G.len _ _ _ _ h
  refine wpAny_call (codeAny_mono (G.run X.A.in1 X.stack s H ⟨us, []⟩ us vs Q E0 hr.in1 I.env0.in1 (by have := hb s us I.kIn (by rw [List.append_nil]; exact hl); rwa [List.append_nil] at this) r h) fun q s' hq => ?_)
  cases q with
  | error e => exact pass0 pins σ H s e s' I hq
  | ok fl =>
    cases fl with
    | ret u => exact I.after hq
    | next => exact hq.elim
    | brk => exact hq.elim
    | cont => exact hq.elim
/-- o[i] -/
theorem em_item (F : Pr X.prog X.w X.K X.mg X.base k f [] S) (hr : Room (k + 1) X.A) (c : OwnGet X.K C "__getitem__" f)
    (h : EM X o σ B M fun x B1 M1 => EM X i σ B1 M1 fun y B2 M2 => (∃ a dx fs, x = .ref a ∧ jn B2 M2 a = some (.ins C dx fs)) ∧ S [x, y] B2 M2 P)
    (hsl : ∀ x u, subscripted i true (.ref x) u = runValue (.builtin "lifetime.subscript" ⟨[.ref x, u], []⟩) := by intro _ _; with_unfolding_all rfl) : EM X (.Subscript o i pos) σ B M P := by
  have pe : PE X (.Subscript o i pos) (fun σ H Q => wE X o σ H fun x H1 => wE X i σ H1 fun y H2 => (∃ a dx fs, x = .ref a ∧ H2 a = some (.ins C dx fs)) ∧ MSp S [x, y] H2 Q E0) := by
    constructor
    intro pins s σ H Q I h
    refine PyProof.Rows.Subscript_ (binT pe_w pe_w I h fun v u s2 x y H2 I2 rx ry ⟨⟨a, dx, fs, ex, ha⟩, q⟩ => ?_)
    subst ex
    cases rx
    obtain ⟨od, J⟩ := inst_of I2 ha
    obtain ⟨m, Fr⟩ := I2.fr
    exact PySem.W.sub_K Fr I2.ok.mod.kin J c.at_ c.fi c.fn (run_in1 (us := [.ref a, u]) (vs := [.ref a, y]) F hr I2 (.cons rfl (.cons ry .nil)) q) (hsl a u)
  exact em_of pe fun H w Q kq => h H w _ fun x B1 M1 H1 g q => q H1 g.own _ fun y B2 M2 H2 g2 ⟨⟨a, dx, fs, ex, ha⟩, hs⟩ => ⟨⟨a, dx, fs, ex, g2.own.jn _ _ ha⟩, B2, M2, P, g2.own, hs, fun v B3 M3 H3 g3 q3 => kq v B3 M3 H3 ((g.tr g2).tr g3) q3⟩
/-- o[i] = v -/
def rOwnSet (C : Addr) (S : Spc) : TSet := fun x y z H Q => (∃ a dx fs, x = .ref a ∧ H a = some (.ins C dx fs)) ∧ MSp S [x, y, z] H (fun _ H' => Q H') E0
theorem set_own (F : Pr X.prog X.w X.K X.mg X.base k f [] S) (hr : Room k X.A) (c : OwnGet X.K C "__setitem__" f) : PSet X (rOwnSet C S) := by
  rintro pins s σ H x y z ov iv u Q I rx ry rz ⟨⟨a, dx, fs, rfl, ha⟩, q⟩
  cases rx
  obtain ⟨od, J⟩ := inst_of I ha
  obtain ⟨m, Fr⟩ := I.fr
  obtain ⟨fd, ps, ds, G, hb, hd⟩ := F.ex
  cases hd
  refine PySem.W.ksp_setItem Fr I.ok.mod.kin J c.nq c.at_ c.fn (thn (run_fn (us := [.ref a, iv, u]) (vs := [.ref a, y, z]) G hr hb .nil pass0 I (.cons rfl (.cons ry (.cons rz .nil))) q) fun v s' ⟨w, H', I', _, q'⟩ => ⟨H', I', q'⟩)
theorem s1_oput {value : Expr} {E : EndsM} (F : Pr X.prog X.w X.K X.mg X.base k f [] S) (hr : Room k X.A) (c : OwnGet X.K C "__setitem__" f)
    (h : EM X value σ B M fun z B1 M1 => EM X o σ B1 M1 fun x B2 M2 => EM X i σ B2 M2 fun y B3 M3 => (∃ a dx fs, x = .ref a ∧ jn B3 M3 a = some (.ins C dx fs)) ∧ S [x, y, z] B3 M3 fun _ B4 M4 => E.nx σ B4 M4)
    (hs : swapsWithSole [.Subscript o i pos'] value pos.line X.env = pure false := by rfl) (hw : swappedStores [.Subscript o i pos'] value X.env = pure none := by rfl) (h1 : (assignEach [.Subscript o i pos'] X.env).map (·.2) = [assign (.Subscript o i pos') X.env] := by rfl)
    (ha : ∀ v, assign (.Subscript o i pos') X.env v = (do
      let ov ← holding [v] (eval o X.env)
      let iv ← holding [v, ov] (eval i X.env)
      standAt pos'
      holding [v, ov, iv] (setItem ov iv v)
      release [v, ov, iv] []) := by intro _; rfl) : S1 X (.Assign [.Subscript o i pos'] value pos) σ B M E :=
  s1_of (ps_asg pe_w (pg_sub pe_w pe_w (set_own F hr c) ha) hs hw h1) fun H w D k1 _ _ _ => h H w _ fun z B1 M1 H1 g1 q1 => q1 H1 g1.own _ fun x B2 M2 H2 g2 q2 => q2 H2 g2.own _ fun y B3 M3 H3 g3 ⟨⟨a, dx, fs, ex, hx⟩, hS⟩ =>
    ⟨⟨a, dx, fs, ex, g3.own.jn _ _ hx⟩, B3, M3, _, g3.own, hS, fun v B4 M4 H4 g4 q => k1 σ B4 M4 H4 (((g1.tr g2).tr g3).tr g4) q⟩
end
end LC
end LcOwnIx
section LcBook
set_option maxHeartbeats 4000000
namespace LC
open PySem L2
open He (ga ma)
open He5 (wf)
inductive Ent where
  | buy (n : Str) (u : Nat)
  | sell (n : Str) (u : Nat)
  | back (n : Str) (u : Nat)
  | late (n lot : Str)
def Ent.kind : Ent → Str
  | .buy .. => "buy"
  | .sell .. => "sell"
  | .back .. => "back"
  | .late .. => "late"
def Ent.name : Ent → Str
  | .buy n _ => n
  | .sell n _ => n
  | .back n _ => n
  | .late n _ => n
def Ent.thing : Ent → V
  | .buy _ u => .int u
  | .sell _ u => .int u
  | .back _ u => .int u
  | .late _ l => .str l
def Ent.ok : Ent → Prop
  | .buy n u => VName n ∧ 1 ≤ u ∧ u ≤ 1000000
  | .sell n u => VName n ∧ 1 ≤ u ∧ u ≤ 1000000
  | .back n u => VName n ∧ 1 ≤ u ∧ u ≤ 1000000
  | .late n l => VName n ∧ VName l
theorem Ent.ok_name {e : Ent} (h : e.ok) : VName e.name := by
  cases e <;> exact h.1
def EntAt (B : Hp) (v : V) (e : Ent) : Prop := ∃ q, v = .ref q ∧ B q = some (.tup [.str e.kind, .str e.name, e.thing])
theorem EntAt.up {B B' : Hp} {v : V} {e : Ent} (h : EntAt B v e) (x : Ex B B') : EntAt B' v e := let ⟨q, h1, h2⟩ := h; ⟨q, h1, x _ _ h2⟩
section
variable {P : Program} {w : World} {K : PySem.W.Frag} {mg : Str → Option Value} {base : Heap}
theorem pr_is_name (t : Tx K mg) {k : Nat} : Pr P w K mg base (k + 1) (ga K "is_name") [] spVal := by
  refine pr_def t.f_is_name sc_is_name (fun _ _ _ _ _ _ us hl => match us, hl with | [_], _ => rfl) (by rintro _ _ _ _ ⟨z, rfl, _⟩; rfl) ?_
  rintro cdv A outer s H E vs B M Q hr ⟨z, rfl, hz, hq⟩
  refine sm_one (s1_ret (em_and ?_))
  refine em_isi t.u_isinstance (am_cons (em_nm 0 (am_cons (em_bty t.u_str PyProof.Rows.boot_str (am_nil ⟨_, _, _, _, true, rfl, .ty "str", .base (.str z), kit_ty (by decide +kernel), ?_⟩))))) tyx_up
  refine ⟨true, rfl, ift rfl (em_and ?_)⟩
  have e1 : decide ((1 : Int) ≤ (z.length : Nat)) = true := decide_eq_true (by have := hz.lo; show (1 : Int) ≤ (z.cps.size : Nat); omega)
  have e2 : decide (((z.length : Nat) : Int) ≤ 12) = true := decide_eq_true (by have := hz.hi; show ((z.cps.size : Nat) : Int) ≤ 12; omega)
  have hsz : z.length ≤ sizeLine := by
    have h1 := hz.hi
    have h2 : (12 : Nat) ≤ sizeLine := by decide
    show z.cps.size ≤ sizeLine
    omega
  obtain ⟨uL, huL⟩ := t.c_LONGEST
  refine em_chain op_le op_le (em_int (em_lenS t.u_len (em_nm 0 ⟨z, rfl, hsz, om_I0 ⟨_, rfl, ?_⟩⟩)))
  refine ift e1 (em_glob (v := .int 12) huL ⟨uL, rfl⟩ (om_I0 ⟨_, rfl, ift e2 (em_one ?_)⟩))
  obtain ⟨u, hu⟩ := t.c_LETTERS_books
  refine em_all rfl t.u_all (em_lcsB rfl sc_is_name.nd (blk_ok (N := n_is_name) (sc := defScope s_is_name) [("letter", 1)] (by decide +kernel)) (em_nm 0 ⟨z, rfl, ?_⟩))
  refine lcb_map 1 sc_is_name.nd (by have := hz.hi; omega) (fun _ y _ => y = .bl true) (fun _ _ _ _ _ h => h) ?_ ?_
  · rintro i x B' M' hx _ _ _ s H0 C cl fp
    cases e : z.cps[i]? with
    | none => rw [e] at hx; cases hx
    | some c =>
      rw [e] at hx
      have ex : x = .str ⟨#[c]⟩ := by injection hx with hx; exact hx.symm
      subst ex
      refine em_cmp op_in_sign (em_nm 1 (em_glob (v := .str "abcdefghijklmnopqrstuvwxyz") hu ⟨u, rfl⟩ (om_inS ⟨c, _, rfl, rfl, ?_⟩)))
      exact ⟨rfl, by rw [az c (hz.ok i c e)]⟩
  · rintro d ys B' hB hd hl hy
    refine ⟨d, List.replicate ys.length true, rfl, ?_, ?_⟩
    · exact SqL.of (jn_b (by rw [← bools_of hy]; exact hd))
    · have e : (List.replicate ys.length true).all id = true := List.all_eq_true.mpr fun b hb => (List.mem_replicate.mp hb).2
      rw [e]
      exact hq B' hB
/-- is_number, where it holds -/
def spNum : Spc := fun vs B M Q => ∃ i l : Int, vs = [.int i, .int l] ∧ l ≤ i ∧ i ≤ 1000000 ∧ ∀ B', Ex B B' → Q (.bl true) B' M
theorem pr_is_number (t : Tx K mg) {k : Nat} : Pr P w K mg base (k + 1) (ga K "is_number") [] spNum := by
  refine pr_def t.f_is_number sc_is_number (fun _ _ _ _ _ _ us hl => match us, hl with | [_, _], _ => rfl) (by rintro _ _ _ _ ⟨i, l, rfl, _⟩; rfl) ?_
  rintro cdv A outer s H E vs B M Q hr ⟨i, l, rfl, h1, h2, hq⟩
  refine sm_one (s1_ret (em_and ?_))
  refine em_isi t.u_isinstance (am_cons (em_nm 0 (am_cons (em_bty t.u_int PyProof.Rows.boot_int (am_nil ⟨_, _, _, _, true, rfl, .ty "int", .base (.int i), kit_ty (by decide +kernel), ?_⟩))))) tyx_up
  refine ⟨true, rfl, ift rfl (em_and (em_not ?_))⟩
  refine em_isi t.u_isinstance (am_cons (em_nm 0 (am_cons (em_bty t.u_bool PyProof.Rows.boot_bool (am_nil ⟨_, _, _, _, false, rfl, .ty "bool", .base (.int i), kit_ty (by decide +kernel), ?_⟩))))) tyx_up
  obtain ⟨uM, huM⟩ := t.c_MOST
  refine ⟨false, rfl, true, rfl, ift rfl (em_one (em_chain op_le op_le (em_nm 1 (em_nm 0 (om_I0 ⟨_, rfl, ift (decide_eq_true h1) (em_glob (v := .int 1000000) huM ⟨uM, rfl⟩ (om_I0 ?_))⟩)))))⟩
  have e : (V.bl (decide (i ≤ 1000000))) = .bl true := by rw [decide_eq_true h2]
  show Q (V.bl (decide (i ≤ 1000000))) B M
  rw [e]
  exact hq B Ex.id'
def spEnt : Spc := fun vs B M Q => ∃ v e, vs = [v] ∧ EntAt B v e ∧ e.ok ∧ ∀ B', Ex B B' → Q (.bl true) B' M
theorem pr_is_entry (t : Tx K mg) {k : Nat} : Pr P w K mg base (k + 3) (ga K "is_entry") [] spEnt := by
  refine pr_def t.f_is_entry sc_is_entry (fun _ _ _ _ _ _ us hl => match us, hl with | [_], _ => rfl) (by rintro _ _ _ _ ⟨v, e, rfl, _⟩; rfl) ?_
  rintro cdv A outer s H E vs B M Q hr ⟨v, e, rfl, ⟨q, rfl, hq0⟩, hok, hq⟩
  refine sm_cons (s1_if (tm_w (wm_or (tm_not (tm_val (em_isi t.u_isinstance (am_cons (em_nm 0 (am_cons (em_bty t.u_tuple PyProof.Rows.boot_tuple (am_nil ⟨_, _, _, _, true, rfl, .ty "tuple", .base (.tup (jn_b hq0)), kit_ty (by decide +kernel), true, rfl, ?_⟩))))) tyx_up))))))
  refine iff' rfl (wm_or (tm_cmp op_ne (em_len t.u_len (em_nm 0 ⟨q, _, rfl, .inr (SqT.of (jn_b hq0)), em_int (om_ne rfl ⟨_, rfl, iff' rfl (wm_or1 (tm_not (tm_val (em_call (pr_is_name t (k := k + 1)) (hr.mono (by omega)) t.g_is_name (am_cons (em_ixT (em_nm 0 (em_int ⟨q, _, 1, .str e.name, rfl, rfl, SqT.of (jn_b hq0), rfl, am_nil ⟨e.name, rfl, Ent.ok_name hok, fun B1 hB1 => ⟨true, rfl, iff' rfl (sm_nil ?_)⟩⟩⟩))))))))⟩)⟩))))
  refine sm_cons (s1_match3 1 2 [("buy", _, _, _), ("sell", _, _, _), ("back", _, _, _)] rfl sc_is_entry.nd (em_nm 0 ⟨q, e.kind, .str e.name, e.thing, rfl, hB1 _ _ hq0, ?_⟩))
  cases e with
  | buy n u => exact .inl ⟨by simp [Ent.kind], sm_one (s1_ret (em_call (pr_is_number t (k := k + 1)) (hr.mono (by omega)) t.g_is_number (am_cons (em_nm 1 (am_cons (em_int (am_nil ⟨(u : Int), 1, rfl, by have := hok.2.1; omega, by have := hok.2.2; omega, fun B2 hB2 => hq B2 (hB1.tr hB2)⟩)))))))⟩
  | sell n u => exact .inl ⟨by simp [Ent.kind], sm_one (s1_ret (em_call (pr_is_number t (k := k + 1)) (hr.mono (by omega)) t.g_is_number (am_cons (em_nm 1 (am_cons (em_int (am_nil ⟨(u : Int), 1, rfl, by have := hok.2.1; omega, by have := hok.2.2; omega, fun B2 hB2 => hq B2 (hB1.tr hB2)⟩)))))))⟩
  | back n u => exact .inl ⟨by simp [Ent.kind], sm_one (s1_ret (em_call (pr_is_number t (k := k + 1)) (hr.mono (by omega)) t.g_is_number (am_cons (em_nm 1 (am_cons (em_int (am_nil ⟨(u : Int), 1, rfl, by have := hok.2.1; omega, by have := hok.2.2; omega, fun B2 hB2 => hq B2 (hB1.tr hB2)⟩)))))))⟩
  | late n l => exact .inr ⟨(by show ¬ (("late":Str) ∈ [("buy":Str),"sell","back"]); decide), rfl, sm_one (s1_ret (em_call (pr_is_name t (k := k + 1)) (hr.mono (by omega)) t.g_is_name (am_cons (em_nm 2 (am_nil ⟨l, rfl, hok.2, fun B2 hB2 => hq B2 (hB1.tr hB2)⟩)))))⟩
end
end LC
end LcBook
section LcBook2
set_option maxHeartbeats 4000000
/-! Dicts with pairs as keys; the book. -/
namespace LC
open PySem L2
open He (ga ma)
open He5 (wf)
section
variable {κ : Type} [DecidableEq κ]
theorem keys_putG (kvs : List (κ × V)) (k : κ) (v : V) : (putK kvs k v).map (·.1) = if (valV kvs k).isSome = true then kvs.map (·.1) else kvs.map (·.1) ++ [k] := by
  unfold putK
  rw [valV_any]
  split
  · rw [List.map_map]
    apply List.map_congr_left
    intro kv _
    show (if kv.1 = k then (kv.1, v) else kv).1 = kv.1
    split <;> rfl
  · rw [List.map_append]; rfl
theorem val_ixG : ∀ {kvs : List (κ × V)}, (kvs.map (·.1)).Nodup → ∀ {i : Nat} {k : κ} {v : V}, kvs[i]? = some (k, v) → valV kvs k = some v
  | [], _, i, k, v, h => by simp at h
  | p :: r, hn, 0, k, v, h => by
    simp at h
    subst h
    exact valV_pos rfl
  | p :: r, hn, i + 1, k, v, h => by
    obtain ⟨h1, h2⟩ := List.nodup_cons.mp hn
    have h' : r[i]? = some (k, v) := by simpa using h
    rw [valV_neg (fun e => h1 (by
      show p.1 ∈ _
      rw [e]
      exact List.mem_map.mpr ⟨(k, v), List.mem_of_getElem? h', rfl⟩))]
    exact val_ixG h2 h'
theorem keys_memG : ∀ {kvs : List (κ × V)} {k : κ}, k ∈ kvs.map (·.1) ↔ (valV kvs k).isSome = true
  | [], k => by simp [valV]
  | p :: r, k => by
    by_cases e : p.1 = k
    · rw [valV_pos e]; simp [e]
    · rw [valV_neg e, ← keys_memG (kvs := r), List.map_cons, List.mem_cons]
      exact ⟨fun h => h.elim (fun h => absurd h.symm e) id, .inr⟩
end
abbrev Pl := Int × Int
theorem pk_inj {p q : Pl} (h : pk p = pk q) : p = q := by
  unfold pk at h
  injection h with h1 h2
  injection h2 with h2 _
  injection h1 with h1
  injection h2 with h2
  exact Prod.ext h1 h2
structure DtR (R : Pl → V → Hp → Prop) (kvs : List (List Key × V)) (ps : List Pl) (B : Hp) : Prop where
  keys : kvs.map (·.1) = ps.map pk
  nd : ps.Nodup
  at_ : ∀ p v, valV kvs (pk p) = some v → R p v B
section
variable {R R' : Pl → V → Hp → Prop} {kvs : List (List Key × V)} {ps : List Pl} {B B' : Hp}
theorem DtR.up (h : DtR R kvs ps B) (f : ∀ k v, R k v B → R' k v B') : DtR R' kvs ps B' := ⟨h.keys, h.nd, fun k v e => f k v (h.at_ k v e)⟩
theorem DtR.mem (h : DtR R kvs ps B) {p : Pl} : p ∈ ps ↔ (valV kvs (pk p)).isSome = true := by
  rw [← keys_memG, h.keys]
  constructor
  · exact fun m => List.mem_map.mpr ⟨p, m, rfl⟩
  · intro m
    obtain ⟨q, hq, e⟩ := List.mem_map.mp m
    rwa [← pk_inj e]
theorem DtR.some (h : DtR R kvs ps B) {p : Pl} (hk : p ∈ ps) : ∃ v, valV kvs (pk p) = Option.some v ∧ R p v B := by
  obtain ⟨v, hv⟩ := Option.isSome_iff_exists.mp (h.mem.mp hk)
  exact ⟨v, hv, h.at_ p v hv⟩
theorem DtR.none (h : DtR R kvs ps B) {p : Pl} (hk : p ∉ ps) : valV kvs (pk p) = Option.none := by
  cases e : valV kvs (pk p) with
  | none => exact rfl
  | some v => exact absurd (h.mem.mpr (by rw [e]; exact rfl)) hk
theorem DtR.nil : DtR R [] [] B := ⟨rfl, List.nodup_nil, fun k v e => by cases e⟩
theorem DtR.len (h : DtR R kvs ps B) : kvs.length = ps.length := by
  have := congrArg List.length h.keys
  simpa using this
theorem nodup_pk : ∀ {ps : List Pl}, ps.Nodup → (ps.map pk).Nodup
  | [], _ => List.nodup_nil
  | k :: ks, h => by
    obtain ⟨h1, h2⟩ := List.nodup_cons.mp h
    refine List.nodup_cons.mpr ⟨fun q => ?_, nodup_pk h2⟩
    obtain ⟨x, hx, e⟩ := List.mem_map.mp q
    exact h1 (by rw [← pk_inj e]; exact hx)
/-- a new place -/
theorem DtR.add (h : DtR R kvs ps B) {p : Pl} {v : V} (hp : p ∉ ps) (r : R p v B) : DtR R (putK kvs (pk p) v) (ps ++ [p]) B := by
  refine ⟨?_, ?_, ?_⟩
  · rw [keys_putG, h.none hp, if_neg (by simp), h.keys, List.map_append]; rfl
  · refine List.nodup_append.mpr ⟨h.nd, by simp, ?_⟩
    intro a ha b hb
    simp at hb
    subst hb
    exact fun e => hp (by rw [← e]; exact ha)
  · intro j u e
    rw [valV_put] at e
    by_cases q : pk j = pk p
    · rw [if_pos q] at e
      injection e with e
      have q := pk_inj q
      subst q e
      exact r
    · rw [if_neg q] at e
      exact h.at_ j u e
theorem DtR.ix (h : DtR R kvs ps B) {i : Nat} {q : List Key} {v : V} (e : kvs[i]? = Option.some (q, v)) : ∃ p, q = pk p ∧ ps[i]? = Option.some p ∧ valV kvs (pk p) = Option.some v ∧ R p v B := by
  have e1 : (kvs.map (·.1))[i]? = Option.some q := by rw [List.getElem?_map, e]; exact rfl
  rw [h.keys, List.getElem?_map] at e1
  cases e2 : ps[i]? with
  | none => rw [e2] at e1; cases e1
  | some k =>
    rw [e2] at e1
    have e3 : pk k = q := by injection e1
    subst e3
    have hv := val_ixG (by rw [h.keys]; exact nodup_pk h.nd) e
    exact ⟨k, rfl, rfl, hv, h.at_ k v hv⟩
end
/-- a place -/
def PlAt (B : Hp) (v : V) (p : Pl) : Prop := ∃ q, v = .ref q ∧ B q = some (.tup [.int p.1, .int p.2])
theorem PlAt.up {B B' : Hp} {v : V} {p : Pl} (h : PlAt B v p) (x : Ex B B') : PlAt B' v p := let ⟨q, h1, h2⟩ := h; ⟨q, h1, x _ _ h2⟩
/-- no tuple is owned -/
def NoTup (M : Hp) : Prop := ∀ p xs, M p ≠ some (.tup xs)
theorem NoTup.upd {M : Hp} {p : Addr} {o : HO} (h : NoTup M) (ho : ∀ xs, o ≠ .tup xs) : NoTup (upd M p o) := fun q xs e => by
  by_cases z : q = p
  · rw [z, upd_same] at e
    injection e with e
    exact ho xs e
  · rw [upd_ne z] at e
    exact h q xs e
theorem NoTup.del {M : Hp} {p : Addr} (h : NoTup M) : NoTup (del M p) := fun q xs e => by
  by_cases z : q = p
  · rw [z, del_same] at e; cases e
  · rw [del_ne z] at e; exact h q xs e
theorem meets {M H : Hp} (nt : NoTup M) : ∀ {ys : List V} {ks : List Pl} {B : Hp}, Own B M H → Paired (fun y k => ∃ q, y = V.ref q ∧ H q = some (.tup [.int k.1, .int k.2])) ys ks → ∃ B', Gs B M H B' M H ∧ Paired (PlAt B') ys ks
  | _, _, B, w, .nil => ⟨B, Gs.id' w, .nil⟩
  | _, _, B, w, .cons h1 h2 => by
    obtain ⟨q, rfl, hq⟩ := h1
    obtain ⟨B1, g1, j1⟩ := w.meet hq
    obtain ⟨B2, g2, p2⟩ := meets nt g1.own h2
    refine ⟨B2, g1.tr g2, .cons ⟨q, rfl, g2.b _ _ ?_⟩ p2⟩
    rcases jn_inv j1 with z | ⟨_, z⟩
    · exact z
    · exact absurd z (nt q _)
/-- sorted(d), d with pairs as keys -/
theorem em_sortDT {X : Cx} {e : Expr} {σ : St} {B M : Hp} {P : V → Hp → Hp → Prop} {pos p : Pos} (hc : X.calm = true) (hm : X.mg "sorted" = none)
    (h : EM X e σ B M fun v B1 M1 => ∃ (d : Addr) (kvs : List (List Key × V)) (ks : List Pl), v = .ref d ∧ jn B1 M1 d = some (.dT kvs) ∧ kvs.map (·.1) = ks.map pk ∧ kvs.length ≤ 1000 ∧ NoTup M1 ∧
      ∀ B' ys ks' l, Ex B1 B' → ks'.Perm ks → ks'.Pairwise (fun a b => SrtO.lexB b a = false) → Paired (PlAt B') ys ks' → B' l = some (.lst ys) → P (.ref l) B' M1) (hg : Gl X "sorted" := by rfl)
    (he : starEach [e] X.env = (false, eval e X.env) :: starEach [] X.env := by rfl) : EM X (.Call (.Name "sorted" p) [e] [] pos) σ B M P :=
  em_cb (cr_sortDT hc) hm PyProof.Rows.boot_sorted (am_cons (h.imp fun v B1 M1 _ ⟨d, kvs, ks, hv, hd, hk, hl, nt, hp⟩ => am_nil fun H w Q kq => ⟨d, kvs, ks, by rw [hv], .inl (w.jn _ _ hd), hk, hl, fun ys ks' l hy hperm hsort hfl => by
    obtain ⟨B2, g2, p2⟩ := meets nt w hy
    obtain ⟨bl, _⟩ := g2.own.fresh hfl
    exact kq _ _ _ _ (g2.tr (Gs.newB g2.own hfl)) (hp (upd B2 l (.lst ys)) ys ks' l (g2.b.tr (Ex.up bl)) hperm hsort (paired_imp (fun _ _ z => z.up (Ex.up bl)) p2) upd_same)⟩) he) hg (he := he)

/-! ### the book -/
abbrev Ens := List (Pl × Ent)
def bookO (K : PySem.W.Frag) (dx d : Addr) : HO := .ins (ga K "Book") dx [("entries", .ref d)]
def EntR (es : Ens) (p : Pl) (v : V) (B : Hp) : Prop := ∃ e, (p, e) ∈ es ∧ EntAt B v e
theorem EntR.up {es : Ens} {p : Pl} {v : V} {B B' : Hp} (h : EntR es p v B) (x : Ex B B') : EntR es p v B' := let ⟨e, h1, h2⟩ := h; ⟨e, h1, h2.up x⟩
/-- places strictly rising -/
def Rise (es : Ens) : Prop := (es.map (·.1)).Pairwise fun a b => SrtO.lexB a b = true
theorem lexB_irr (a : Pl) : SrtO.lexB a a = false := SrtO.lexB_no.mpr (by omega)
theorem lexB_asy {a b : Pl} (h : SrtO.lexB a b = true) : SrtO.lexB b a = false := SrtO.lexB_no.mpr (by have := SrtO.lexB_iff.mp h; omega)
theorem Rise.nd {es : Ens} (h : Rise es) : (es.map (·.1)).Nodup := List.Pairwise.imp (fun {a b} z e => by rw [e, lexB_irr] at z; cases z) h
theorem Rise.one {es : Ens} (h : Rise es) {p : Pl} {e e' : Ent} (h1 : (p, e) ∈ es) (h2 : (p, e') ∈ es) : e = e' := by
  obtain ⟨i, hi⟩ := List.mem_iff_getElem?.mp h1
  obtain ⟨j, hj⟩ := List.mem_iff_getElem?.mp h2
  have hi' : (es.map (·.1))[i]? = some p := by rw [List.getElem?_map, hi]; rfl
  have hj' : (es.map (·.1))[j]? = some p := by rw [List.getElem?_map, hj]; rfl
  have hlt := (List.getElem?_eq_some_iff.mp hi').1
  have := (List.getElem?_inj hlt h.nd).mp (hi'.trans hj'.symm)
  rw [this, hj] at hi
  injection hi with hi
  injection hi with _ hi
  exact hi.symm
theorem Rise.sorted {es : Ens} (h : Rise es) {ks : List Pl} (hp : ks.Perm (es.map (·.1))) (hs : ks.Pairwise (fun a b => SrtO.lexB b a = false)) : ks = es.map (·.1) := by
  refine List.Perm.eq_of_pairwise (le := fun a b => SrtO.lexB b a = false) (fun a b _ _ h1 h2 => ?_) hs (List.Pairwise.imp (fun {a b} z => lexB_asy z) h) hp
  have h1 := SrtO.lexB_no.mp h1
  have h2 := SrtO.lexB_no.mp h2
  exact Prod.ext (by omega) (by omega)
def BookAt (K : PySem.W.Frag) (B : Hp) (v : V) (es : Ens) : Prop := ∃ a dx d kvs ps, v = .ref a ∧ B a = some (bookO K dx d) ∧ B d = some (.dT kvs) ∧ DtR (EntR es) kvs ps B ∧ ps.Perm (es.map (·.1)) ∧ Rise es ∧ es.length ≤ 100
theorem BookAt.up {K : PySem.W.Frag} {B B' : Hp} {v : V} {es : Ens} (h : BookAt K B v es) (x : Ex B B') : BookAt K B' v es := by
  obtain ⟨a, dx, d, kvs, ps, h1, h2, h3, h4, h5⟩ := h
  exact ⟨a, dx, d, kvs, ps, h1, x _ _ h2, x _ _ h3, h4.up fun _ _ z => z.up x, h5⟩
section
variable {P : Program} {w : World} {K : PySem.W.Frag} {mg : Str → Option Value} {base : Heap}
def spBk0 (K : PySem.W.Frag) : Spc := fun vs B M Q => ∃ a dx, vs = [.ref a] ∧ M a = some (.ins (ga K "Book") dx []) ∧ ∀ d, d ≠ a → B d = none → M d = none → Q .non B (upd (upd M d (.dT [])) a (bookO K dx d))
theorem pr_bkinit (t : Tx K mg) {k : Nat} : Pr P w K mg base (k + 1) (ma K (ga K "Book") "__init__") [] (spBk0 K) := by
  refine pr_def t.f_Book_init sc_Book_init (fun _ _ _ _ _ _ us hl => match us, hl with | [_], _ => rfl) (by rintro _ _ _ _ ⟨a, dx, rfl, _⟩; rfl) ?_
  rintro cdv A outer s H E vs B M Q hr ⟨a, dx, rfl, ha, hq⟩
  refine sm_one (s1_fld (em_dnewT fun d b m => em_nm 0 ?_))
  have ne : a ≠ d := fun e => by rw [e, m] at ha; cases ha
  exact ⟨a, _, dx, [], rfl, by rw [upd_ne ne]; exact ha, t.cl_Book, t.no_Book_entries, by decide, hq d ne.symm b m⟩
def spBkSet (K : PySem.W.Frag) : Spc := fun vs B M Q => ∃ a dx d q z p e kvs, vs = [.ref a, .ref q, z] ∧ B a = some (bookO K dx d) ∧ B q = some (.tup [.int p.1, .int p.2]) ∧ 0 ≤ p.1 ∧ p.1 ≤ 1000000 ∧ 0 ≤ p.2 ∧ p.2 ≤ 1000000 ∧ EntAt B z e ∧ e.ok ∧ M d = some (.dT kvs) ∧ kvs.length < 1000 ∧
  ∀ B', Ex B B' → Q .non B' (upd M d (.dT (putK kvs (pk p) z)))
theorem pr_bkset (t : Tx K mg) {k : Nat} : Pr P w K mg base (k + 4) (ma K (ga K "Book") "__setitem__") [] (spBkSet K) := by
  refine pr_def t.f_Book_setitem sc_Book_setitem (fun _ _ _ _ _ _ us hl => match us, hl with | [_, _, _], _ => rfl) (by rintro _ _ _ _ ⟨a, dx, d, q, z, p, e, kvs, rfl, _⟩; rfl) ?_
  rintro cdv A outer s H E vs B M Q hr ⟨a, dx, d, q, z, p, e, kvs, rfl, ha, hp, h1, h2, h3, h4, he, hok, hd, hl, hq⟩
  have h1k : (1000 : Nat) ≤ sizeLine := by decide
  refine sm_cons (s1_asg (em_nm 1 (gm_tup rfl (SqT.of (jn_b hp)) (gms_cons (gm_name 3 sc_Book_setitem.nd (gms_cons (gm_name 4 sc_Book_setitem.nd (gms_nil ?_))))))))
  refine sm_cons (s1_if (tm_w (wm_or (tm_not (tm_val (em_call (pr_is_number t (k := k)) (hr.mono (by omega)) t.g_is_number (am_cons (em_nm 3 (am_cons (em_int (am_nil ⟨p.1, 0, rfl, h1, h2, fun B1 hB1 => ⟨true, rfl, iff' rfl ?_⟩⟩)))))))))))
  refine wm_or (tm_not (tm_val (em_call (pr_is_number t (k := k)) (hr.mono (by omega)) t.g_is_number (am_cons (em_nm 4 (am_cons (em_int (am_nil ⟨p.2, 0, rfl, h3, h4, fun B2 hB2 => ⟨true, rfl, iff' rfl ?_⟩⟩))))))))
  refine wm_or1 (tm_not (tm_val (em_call (pr_is_entry t (k := k)) (hr.mono (by omega)) t.g_is_entry (am_cons (em_nm 2 (am_nil ⟨z, e, rfl, he.up (hB1.tr hB2), hok, fun B3 hB3 => ⟨true, rfl, iff' rfl (sm_nil ?_)⟩⟩))))))
  have hB : Ex B B3 := (hB1.tr hB2).tr hB3
  refine sm_one (s1_dput (u1 hr) (em_nm 2 (em_fld (em_nm 0 ⟨a, _, dx, _, _, rfl, jn_b (hB _ _ ha), t.cl_Book, t.no_Book_entries, rfl, em_nm 1 ⟨d, rfl, .inr ⟨kvs, pk p, q, hd, rfl, jn_b (hB _ _ hp), by omega, hq B3 hB⟩⟩⟩))))
def spBkGet (K : PySem.W.Frag) : Spc := fun vs B M Q => ∃ x y es p e, vs = [x, y] ∧ BookAt K B x es ∧ PlAt B y p ∧ (p, e) ∈ es ∧ ∀ v B', Ex B B' → EntAt B' v e → Q v B' M
theorem pr_bkget (t : Tx K mg) {k : Nat} : Pr P w K mg base (k + 1) (ma K (ga K "Book") "__getitem__") [] (spBkGet K) := by
  refine pr_def t.f_Book_getitem sc_Book_getitem (fun _ _ _ _ _ _ us hl => match us, hl with | [_, _], _ => rfl) (by rintro _ _ _ _ ⟨x, y, es, p, e, rfl, _⟩; rfl) ?_
  rintro cdv A outer s H E vs B M Q hr ⟨x, y, es, p, e, rfl, ⟨a, dx, d, kvs, ps, rfl, ha, hd, hk, hpm, rise, _⟩, ⟨q, rfl, hp⟩, hm, hq⟩
  obtain ⟨v, hv, e', he', hve⟩ := hk.some (hpm.mem_iff.mpr (List.mem_map.mpr ⟨(p, e), hm, rfl⟩))
  rw [← rise.one hm he'] at hve
  have hgd : DGet (jn B M) d (.ref q) (some v) := by
    rw [← hv]; exact DGet.t (k := pk p) (jn_b hd) (jn_b hp)
  refine sm_cons (s1_asg (em_nm 1 (gm_tup rfl (SqT.of (jn_b hp)) (gms_cons (gm_name 2 sc_Book_getitem.nd (gms_cons (gm_name 3 sc_Book_getitem.nd (gms_nil ?_))))))))
  refine sm_cons (s1_if (tm_dnin (u1 hr) (em_nm 1 (em_fld (em_nm 0 ⟨a, _, dx, _, _, rfl, jn_b ha, t.cl_Book, t.no_Book_entries, rfl, d, some v, rfl, hgd, iff' rfl (sm_nil ?_)⟩)))))
  exact sm_one (s1_ret (em_dget (u1 hr) (em_fld (em_nm 0 ⟨a, _, dx, _, _, rfl, jn_b ha, t.cl_Book, t.no_Book_entries, rfl, em_nm 1 ⟨d, v, rfl, hgd, hq v B Ex.id' hve⟩⟩))))
/-- a list of places -/
def PlsAt (B : Hp) (v : V) (ps : List Pl) : Prop := ∃ l ys, v = .ref l ∧ B l = some (.lst ys) ∧ Paired (PlAt B) ys ps
theorem PlsAt.up {B B' : Hp} {v : V} {ps : List Pl} (h : PlsAt B v ps) (x : Ex B B') : PlsAt B' v ps := let ⟨l, ys, h1, h2, h3⟩ := h; ⟨l, ys, h1, x _ _ h2, paired_imp (fun _ _ z => z.up x) h3⟩
def spBkPl (K : PySem.W.Frag) : Spc := fun vs B M Q => ∃ x es, vs = [x] ∧ BookAt K B x es ∧ NoTup M ∧ ∀ v B', Ex B B' → PlsAt B' v (es.map (·.1)) → Q v B' M
theorem pr_places (t : Tx K mg) {k : Nat} : Pr P w K mg base (k + 1) (ma K (ga K "Book") "places") [] (spBkPl K) := by
  refine pr_def t.f_Book_places sc_Book_places (fun _ _ _ _ _ _ us hl => match us, hl with | [_], _ => rfl) (by rintro _ _ _ _ ⟨x, es, rfl, _⟩; rfl) ?_
  rintro cdv A outer s H E vs B M Q hr ⟨x, es, rfl, ⟨a, dx, d, kvs, ps, rfl, ha, hd, hk, hpm, rise, hl⟩, nt, hq⟩
  have hlen : kvs.length ≤ 1000 := by
    have h1 := hk.len
    have h2 := hpm.length_eq
    rw [List.length_map] at h2
    omega
  refine sm_one (s1_ret (em_sortDT rfl t.u_sorted (em_fld (em_nm 0 ⟨a, _, dx, _, _, rfl, jn_b ha, t.cl_Book, t.no_Book_entries, rfl, d, kvs, ps, rfl, jn_b hd, hk.keys, hlen, nt, fun B' ys ks' l hB hperm hsort hpl hl' => hq _ B' hB ⟨l, ys, rfl, hl', ?_⟩⟩))))
  rwa [← rise.sorted (hperm.trans hpm) hsort]
end
end LC
end LcBook2
section LcBook3
set_option maxHeartbeats 4000000
/-! The book: the sales' names. -/
namespace LC
open PySem L2
open He (ga ma)
open He5 (wf)
theorem inV_str (a : Str) : ∀ ks : List Str, inV (.str a) (ks.map V.str) = decide (a ∈ ks)
  | [] => by simp [inV]
  | k :: ks => by
    have ih := inV_str a ks
    unfold inV at ih ⊢
    rw [List.map_cons, List.any_cons, ih]
    have e : eqV (.str k) (.str a) = decide (a = k) := by
      show (k == a) = _
      by_cases h : a = k
      · subst h; simp
      · rw [beq_eq_false_iff_ne.mpr (fun z => h z.symm), df h]
    rw [e]
    by_cases h : a = k
    · rw [dt h, dt (List.mem_cons.mpr (.inl h)), Bool.true_or]
    · rw [df h, Bool.false_or]
      by_cases h2 : a ∈ ks
      · rw [dt h2, dt (List.mem_cons_of_mem _ h2)]
      · rw [df h2, df (fun z => (List.mem_cons.mp z).elim h h2)]
theorem flat_strs : ∀ ks : List Str, (ks.map V.str).all flatV = true
  | [] => rfl
  | _ :: ks => by rw [List.map_cons, List.all_cons, flat_strs ks]; rfl
def nmStep (kind : Str) (f : List Str) (e : Pl × Ent) : List Str := if e.2.kind = kind ∧ e.2.name ∉ f then f ++ [e.2.name] else f
def namesOf (kind : Str) (es : Ens) : List Str := es.foldl (nmStep kind) []
theorem names_len (kind : Str) : ∀ (es : Ens) (f : List Str), (es.foldl (nmStep kind) f).length ≤ f.length + es.length
  | [], f => Nat.le_refl _
  | e :: es, f => by
    have := names_len kind es (nmStep kind f e)
    have h : (nmStep kind f e).length ≤ f.length + 1 := by
      unfold nmStep
      split
      · rw [List.length_append]; simp
      · omega
    rw [List.foldl_cons, List.length_cons]; omega
theorem foldl_take {α β : Type} (f : β → α → β) (b : β) {xs : List α} {i : Nat} {x : α} (h : xs[i]? = some x) : (xs.take (i + 1)).foldl f b = f ((xs.take i).foldl f b) x := by
  rw [List.take_add_one, h, List.foldl_append]; rfl
def StrsAt (B : Hp) (v : V) (ks : List Str) : Prop := ∃ l, v = .ref l ∧ B l = some (.lst (ks.map V.str))
theorem StrsAt.up {B B' : Hp} {v : V} {ks : List Str} (h : StrsAt B v ks) (x : Ex B B') : StrsAt B' v ks := let ⟨l, h1, h2⟩ := h; ⟨l, h1, x _ _ h2⟩
section
variable {P : Program} {w : World} {K : PySem.W.Frag} {mg : Str → Option Value} {base : Heap}
def spNamed (K : PySem.W.Frag) : Spc := fun vs B M Q => ∃ x kind es, vs = [x, .str kind] ∧ BookAt K B x es ∧ NoTup M ∧ ∀ v B', Ex B B' → StrsAt B' v (namesOf kind es) → Q v B' M
theorem pr_named (t : Tx K mg) {k : Nat} : Pr P w K mg base (k + 2) (ma K (ga K "Book") "named") [] (spNamed K) := by
  refine pr_def t.f_Book_named sc_Book_named (fun _ _ _ _ _ _ us hl => match us, hl with | [_, _], _ => rfl) (by rintro _ _ _ _ ⟨x, kind, es, rfl, _⟩; rfl) ?_
  rintro cdv A outer s H E vs B M Q hr ⟨x, kind, es, rfl, hbk, nt, hq⟩
  obtain ⟨a, dx, d, kvs, ps, rfl, ha, hd, hk, hpm, rise, hlen⟩ := id hbk
  refine sm_cons (s1_set 2 sc_Book_named.nd (em_lst (am_nil ⟨sl0, fun f bf mf => ?_⟩)))
  have nt2 : ∀ {xs : List V}, NoTup (upd M f (.lst xs)) := nt.upd fun _ e => by cases e
  refine sm_cons (s1_for PassesOwn.never rfl (em_meth0 (pr_places t (k := k)) (hr.mono (by omega)) t.cl_Book t.m_Book_places (em_nm 0 ⟨a, dx, _, rfl, jn_b ha, rfl, _, es, rfl, hbk, nt2, fun v B1 hB1 ⟨l, ys, hv, hl, hys⟩ => ?_⟩)))
  refine ⟨l, ys, hv, SqL.of (jn_b hl), fun i σ B' M' => ∃ o1 o2, σ = [some (.ref a), some (.str kind), some (.ref f), o1, o2] ∧ M' = upd M f (.lst ((namesOf kind (es.take i)).map V.str)) ∧ Ex B1 B', ⟨_, _, rfl, rfl, Ex.id'⟩, ?_, ?_, ?_⟩
  · rintro i σ B' M' _ ⟨o1, o2, rfl, rfl, hB⟩
    exact SqL.of (jn_b (hB _ _ hl))
  · rintro i y σ B' M' hi _ ⟨o1, o2, rfl, rfl, hB⟩
    obtain ⟨p, hp, hyp⟩ := paired_at hys hi
    rw [List.getElem?_map] at hp
    obtain ⟨pe, hpe⟩ : ∃ pe, es[i]? = some pe := by
      cases q : es[i]? with
      | none => rw [q] at hp; cases hp
      | some pe => exact ⟨pe, rfl⟩
    rw [hpe] at hp
    injection hp with hp
    subst hp
    obtain ⟨q, rfl, hq2⟩ := hyp
    have hm := List.mem_of_getElem? hpe
    have hBB : Ex B B' := hB1.tr hB
    obtain ⟨v, hv2, e', he', hve⟩ := hk.some (hpm.mem_iff.mpr (List.mem_map.mpr ⟨pe, hm, rfl⟩))
    rw [← rise.one (show (pe.1, pe.2) ∈ es from hm) he'] at hve
    obtain ⟨r, rfl, hr2⟩ := hve
    have hstep : namesOf kind (es.take (i + 1)) = nmStep kind (namesOf kind (es.take i)) pe := foldl_take _ _ hpe
    have hnl : (namesOf kind (es.take i)).length ≤ 100 := by
      have h1 := names_len kind (es.take i) []
      rw [List.length_take] at h1
      simp only [List.length_nil, Nat.zero_add] at h1
      show (List.foldl (nmStep kind) [] (es.take i)).length ≤ 100
      omega
    refine gm_name 3 sc_Book_named.nd (sm_cons (s1_set 4 sc_Book_named.nd (em_dget (u1 hr) (em_fld (em_nm 0 ⟨a, _, dx, _, _, rfl, jn_b (hBB _ _ ha), t.cl_Book, t.no_Book_entries, rfl, em_nm 3 ⟨d, .ref r, rfl, ?_, ?_⟩⟩)))))
    · rw [← hv2]; exact DGet.t (k := pk pe.1) (jn_b (hBB _ _ hd)) (jn_b (hB _ _ hq2))
    refine sm_own fun own => ?_
    have bf' : B' f = none := own f _ upd_same
    have hr3 := hBB _ _ hr2
    refine sm_one (s1_if (tm_w (wm_and (tm_cmp op_eq (em_ixT (em_nm 4 (em_int ⟨r, _, 0, .str pe.2.kind, rfl, rfl, SqT.of (jn_b hr3), rfl, em_nm 1 (om_eq rfl ⟨_, rfl, ?_⟩)⟩)))))))
    by_cases hkd : pe.2.kind = kind
    · refine ift (dt (by rw [hkd]; rfl)) (wm_and1 (tm_cmp op_notIn_seq (em_ixT (em_nm 4 (em_int ⟨r, _, 1, .str pe.2.name, rfl, rfl, SqT.of (jn_b hr3), rfl, em_nm 2 (om_in ⟨f, (namesOf kind (es.take i)).map V.str, rfl, .inl (SqL.of (jn_m upd_same bf')), rfl, flat_strs _, _, rfl, ?_⟩)⟩)))))
      rw [inV_str, if_pos rfl]
      by_cases hin : pe.2.name ∈ namesOf kind (es.take i)
      · rw [dt hin]
        refine iff' rfl (sm_nil ⟨_, _, rfl, ?_, hB⟩)
        rw [hstep, nmStep, if_neg (fun z => z.2 hin)]
      · rw [df hin]
        refine ift rfl (sm_one (s1_expr (em_append (em_nm 2 ⟨f, _, rfl, upd_same, bf', em_ixT (em_nm 4 (em_int ⟨r, _, 1, .str pe.2.name, rfl, rfl, SqT.of (jn_b hr3), rfl, _, upd_same, by rw [str_len]; exact Nat.lt_of_lt_of_le (show _ < 1000 by omega) (by decide), ⟨_, _, rfl, ?_, hB⟩⟩))⟩))))
        rw [upd_twice, hstep, nmStep, if_pos ⟨hkd, hin⟩, List.map_append]; rfl
    · refine iff' (df (fun z => hkd (by injection z))) (iff' rfl (sm_nil ⟨_, _, rfl, ?_, hB⟩))
      rw [hstep, nmStep, if_neg (fun z => hkd z.1)]
  · rintro σ B' M' _ ⟨o1, o2, rfl, rfl, hB⟩
    refine sm_one (s1_ret (Emt.fzN (em_nm 2 ⟨f, _, upd_same, fun hn => ?_⟩)))
    rw [del_upd mf]
    refine hq _ _ ((hB1.tr hB).tr (Ex.up hn)) ⟨f, rfl, ?_⟩
    rw [upd_same]
    have hyl : ys.length = es.length := by have := paired_len hys; rwa [List.length_map] at this
    rw [hyl, List.take_length]
def spSales (K : PySem.W.Frag) : Spc := fun vs B M Q => ∃ x es, vs = [x] ∧ BookAt K B x es ∧ NoTup M ∧ ∀ v B', Ex B B' → StrsAt B' v (namesOf "sell" es) → Q v B' M
theorem pr_sales (t : Tx K mg) {k : Nat} : Pr P w K mg base (k + 3) (ma K (ga K "Book") "sales") [] (spSales K) := by
  refine pr_def t.f_Book_sales sc_Book_sales (fun _ _ _ _ _ _ us hl => match us, hl with | [_], _ => rfl) (by rintro _ _ _ _ ⟨x, es, rfl, _⟩; rfl) ?_
  rintro cdv A outer s H E vs B M Q hr ⟨x, es, rfl, hbk, nt, hq⟩
  obtain ⟨a, dx, d, kvs, ps, rfl, ha, hd, hk, hpm, rise, hlen⟩ := id hbk
  exact sm_one (s1_ret (em_meth (pr_named t (k := k)) (hr.mono (by omega)) t.cl_Book t.m_Book_named (em_nm 0 ⟨a, dx, _, rfl, jn_b ha, rfl, am_cons (em_str (am_nil ⟨_, _, es, rfl, hbk, nt, hq⟩))⟩)))
end
end LC
end LcBook3
section LcLay
set_option maxHeartbeats 4000000
/-! Lists of parts: lots and amounts. -/
namespace LC
open PySem L2
open He (ga ma)
open He5 (wf)
abbrev Part := Str × Rat
/-- the weight of parts -/
def W (f : Str → Rat) (xs : List Part) : Rat := lsum xs fun p => f p.1 * p.2
theorem W_nil (f : Str → Rat) : W f [] = 0 := rfl
theorem W_cons (f : Str → Rat) (p : Part) (xs : List Part) : W f (p :: xs) = f p.1 * p.2 + W f xs := rfl
theorem W_append (f : Str → Rat) (a b : List Part) : W f (a ++ b) = W f a + W f b := lsum_append a b _
theorem W_take (f : Str → Rat) {xs : List Part} {i : Nat} {p : Part} (h : xs[i]? = some p) : W f (xs.take (i + 1)) = W f (xs.take i) + f p.1 * p.2 := by
  rw [List.take_add_one, h, W_append]
  show _ + W f [p] = _
  rw [W_cons, W_nil]; grind
theorem W_perm (f : Str → Rat) {xs ys : List Part} (h : xs.Perm ys) : W f xs = W f ys := rsum_perm (h.map _)
theorem W_rev (f : Str → Rat) (xs : List Part) : W f xs.reverse = W f xs := W_perm f (List.reverse_perm xs)
theorem W_nn {f : Str → Rat} : ∀ {xs : List Part}, (∀ p ∈ xs, 0 ≤ f p.1) → (∀ p ∈ xs, 0 < p.2) → 0 ≤ W f xs
  | [], _, _ => by rw [W_nil]; grind
  | p :: xs, hf, hp => by
    rw [W_cons]
    have h1 := Rat.mul_nonneg (hf p (List.mem_cons_self ..)) (Rat.le_of_lt (hp p (List.mem_cons_self ..)))
    have h2 := W_nn (xs := xs) (fun q hq => hf q (List.mem_cons_of_mem _ hq)) (fun q hq => hp q (List.mem_cons_of_mem _ hq))
    grind
abbrev one' : Str → Rat := fun _ => 1
abbrev tot (xs : List Part) : Rat := W one' xs
theorem tot_nn {xs : List Part} (hp : ∀ p ∈ xs, 0 < p.2) : 0 ≤ tot xs := W_nn (fun _ _ => by show (0 : Rat) ≤ 1; decide) hp
theorem tot_take {xs : List Part} (hp : ∀ p ∈ xs, 0 < p.2) (i : Nat) : tot (xs.take i) ≤ tot xs := by
  have h1 : tot xs = tot (xs.take i) + tot (xs.drop i) := by rw [← W_append, List.take_append_drop]
  have h2 := tot_nn (xs := xs.drop i) fun p h => hp p (List.mem_of_mem_drop h)
  grind
theorem tot_mem {xs : List Part} (hp : ∀ p ∈ xs, 0 < p.2) {p : Part} (h : p ∈ xs) : p.2 ≤ tot xs := by
  obtain ⟨i, hi⟩ := List.mem_iff_getElem?.mp h
  have h1 := W_take one' hi
  have h2 := tot_take hp (i + 1)
  have h3 := tot_nn (xs := xs.take i) fun p h => hp p (List.mem_of_mem_take h)
  grind
/-- D times q is an int -/
def IntD (D : Nat) (q : Rat) : Prop := ∃ z : Int, q * (D : Rat) = (z : Rat)
section
variable {D E : Nat} {q r : Rat}
theorem IntD.add (h : IntD D q) (h' : IntD D r) : IntD D (q + r) := by
  obtain ⟨z, hz⟩ := h
  obtain ⟨y, hy⟩ := h'
  exact ⟨z + y, by push_cast; rw [← hz, ← hy]; grind⟩
theorem IntD.sub (h : IntD D q) (h' : IntD D r) : IntD D (q - r) := by
  obtain ⟨z, hz⟩ := h
  obtain ⟨y, hy⟩ := h'
  exact ⟨z - y, by push_cast; rw [← hz, ← hy]; grind⟩
theorem IntD.lift (h : IntD D q) : IntD (D * E) q := by
  obtain ⟨z, hz⟩ := h
  exact ⟨z * E, by push_cast; rw [← hz]; grind⟩
theorem IntD.mul (h : IntD D q) (h' : IntD E r) : IntD (D * E) (q * r) := by
  obtain ⟨z, hz⟩ := h
  obtain ⟨y, hy⟩ := h'
  exact ⟨z * y, by push_cast; rw [← hz, ← hy]; grind⟩
theorem IntD.int (i : Int) : IntD D i := ⟨i * D, by push_cast; rfl⟩
theorem IntD.nat (i : Nat) : IntD D i := by
  have := IntD.int (D := D) (i : Int)
  rwa [Rat.intCast_natCast] at this
theorem IntD.zero : IntD D 0 := ⟨0, by simp⟩
theorem IntD.lsum {α : Type} {l : List α} {f : α → Rat} (h : ∀ x ∈ l, IntD D (f x)) : IntD D (LC.lsum l f) := by
  induction l with
  | nil => exact IntD.zero
  | cons a l ih => rw [lsum_cons]; exact (h a (List.mem_cons_self ..)).add (ih fun x hx => h x (List.mem_cons_of_mem _ hx))
theorem IntD.cn {N : Nat} (h : IntD D q) (h1 : -(N : Rat) ≤ q) (h2 : q ≤ (N : Rat)) : Cn D (N * D) q := by
  obtain ⟨z, hz⟩ := h
  refine ⟨z, hz, ?_⟩
  have hD : (0 : Rat) ≤ (D : Rat) := by exact_mod_cast Nat.zero_le D
  have e1 := Rat.mul_le_mul_of_nonneg_right h1 hD
  have e2 := Rat.mul_le_mul_of_nonneg_right h2 hD
  rw [hz] at e1 e2
  have e3 : z ≤ ((N * D : Nat) : Int) := by
    have : (z : Rat) ≤ ((N * D : Nat) : Rat) := by push_cast; exact e2
    exact_mod_cast this
  have e4 : -z ≤ ((N * D : Nat) : Int) := by
    have : ((-z : Int) : Rat) ≤ ((N * D : Nat) : Rat) := by push_cast; grind
    exact_mod_cast this
  omega
end
/-- a good denominator -/
structure DOk (D : Nat) : Prop where
  pos : 0 < D
  hi : D < 2 ^ 220
theorem DOk.sb {D : Nat} (d : DOk D) {q : Rat} (h : IntD D q) (h1 : -(100000000 : Nat) ≤ q) (h2 : q ≤ (100000000 : Nat)) : Sb 250 q := by
  refine Cn.sb d.pos (Nat.lt_of_lt_of_le d.hi (Nat.pow_le_pow_right (by decide) (by decide))) ?_ (h.cn h1 h2)
  have : 100000000 * D < 2 ^ 27 * 2 ^ 220 := Nat.mul_lt_mul_of_le_of_lt (by decide) d.hi (by decide)
  rw [← Nat.pow_add] at this
  exact Nat.lt_of_lt_of_le this (Nat.pow_le_pow_right (by decide) (by decide))
theorem DOk.sz {D : Nat} (d : DOk D) {q : Rat} (h : IntD D q) (h1 : -(100000000 : Nat) ≤ q) (h2 : q ≤ (100000000 : Nat)) : Sz q := (d.sb h h1 h2).sz (by decide)
/-- good parts -/
structure Ly (L : List Str) (D n : Nat) (xs : List Part) : Prop where
  len : xs.length ≤ n
  pos : ∀ p ∈ xs, 0 < p.2
  int : ∀ p ∈ xs, IntD D p.2
  lot : ∀ p ∈ xs, p.1 ∈ L
  hi : tot xs ≤ (10000000 : Nat)
section
variable {L : List Str} {D E n m : Nat} {xs ys : List Part}
theorem Ly.nil : Ly L D n [] := ⟨Nat.zero_le _, fun _ h => absurd h List.not_mem_nil, fun _ h => absurd h List.not_mem_nil, fun _ h => absurd h List.not_mem_nil, by show W one' [] ≤ _; rw [W_nil]; decide⟩
theorem Ly.mono (h : Ly L D n xs) (l : n ≤ m) : Ly L D m xs := ⟨Nat.le_trans h.len l, h.pos, h.int, h.lot, h.hi⟩
theorem Ly.lots {L' : List Str} (h : Ly L D n xs) (l : ∀ x ∈ L, x ∈ L') : Ly L' D n xs := ⟨h.len, h.pos, h.int, fun p hp => l _ (h.lot p hp), h.hi⟩
theorem Ly.lift (h : Ly L D n xs) : Ly L (D * E) n xs := ⟨h.len, h.pos, fun p hp => (h.int p hp).lift, h.lot, h.hi⟩
theorem Ly.rev (h : Ly L D n xs) : Ly L D n xs.reverse := ⟨by rw [List.length_reverse]; exact h.len, fun p hp => h.pos p (List.mem_reverse.mp hp), fun p hp => h.int p (List.mem_reverse.mp hp), fun p hp => h.lot p (List.mem_reverse.mp hp), by rw [tot, W_rev]; exact h.hi⟩
theorem Ly.nn (h : Ly L D n xs) : 0 ≤ tot xs := tot_nn h.pos
theorem Ly.totInt (h : Ly L D n xs) : IntD D (tot xs) := IntD.lsum fun p hp => by
  have := h.int p hp
  rwa [show one' p.1 * p.2 = p.2 from Rat.one_mul _]
theorem Ly.take (h : Ly L D n xs) (i : Nat) : Ly L D n (xs.take i) := ⟨by rw [List.length_take]; have := h.len; omega, fun p hp => h.pos p (List.mem_of_mem_take hp), fun p hp => h.int p (List.mem_of_mem_take hp), fun p hp => h.lot p (List.mem_of_mem_take hp), Rat.le_trans (tot_take h.pos i) h.hi⟩
theorem b8 {q : Rat} (h1 : 0 ≤ q) (h2 : q ≤ (10000000 : Nat)) : -(100000000 : Nat) ≤ q ∧ q ≤ (100000000 : Nat) := by
  have e1 : ((10000000 : Nat) : Rat) = 10000000 := rfl
  have e2 : ((100000000 : Nat) : Rat) = 100000000 := rfl
  rw [e1] at h2
  rw [e2]
  constructor <;> grind
theorem Ly.sz (h : Ly L D n xs) (d : DOk D) {p : Part} (hp : p ∈ xs) : Sz p.2 := by
  obtain ⟨h1, h2⟩ := b8 (Rat.le_of_lt (h.pos p hp)) (Rat.le_trans (tot_mem h.pos hp) h.hi)
  exact d.sz (h.int p hp) h1 h2
theorem Ly.szT (h : Ly L D n xs) (d : DOk D) : Sz (tot xs) := by
  obtain ⟨h1, h2⟩ := b8 h.nn h.hi
  exact d.sz h.totInt h1 h2
theorem tot_snd (xs : List Part) : rsum (xs.map (·.2)) = tot xs := by
  show rsum (xs.map fun p => p.2) = rsum (xs.map fun p => 1 * p.2)
  congr 1
  exact List.map_congr_left fun p _ => (Rat.one_mul _).symm
end
def PtAt (K : PySem.W.Frag) (B : Hp) (y : V) (p : Part) : Prop := ∃ q r, y = .ref q ∧ B q = some (.tup [.str p.1, r]) ∧ RatAt K B r p.2
def LyAt (K : PySem.W.Frag) (B : Hp) (v : V) (xs : List Part) : Prop := ∃ l ys, v = .ref l ∧ B l = some (.lst ys) ∧ Paired (PtAt K B) ys xs
theorem PtAt.up {K : PySem.W.Frag} {B B' : Hp} {y : V} {p : Part} (h : PtAt K B y p) (x : Ex B B') : PtAt K B' y p := let ⟨q, r, h1, h2, h3⟩ := h; ⟨q, r, h1, x _ _ h2, h3.up x⟩
theorem paired_up {K : PySem.W.Frag} {B B' : Hp} {ys : List V} {xs : List Part} (h : Paired (PtAt K B) ys xs) (x : Ex B B') : Paired (PtAt K B') ys xs := paired_imp (fun _ _ z => z.up x) h
theorem LyAt.up {K : PySem.W.Frag} {B B' : Hp} {v : V} {xs : List Part} (h : LyAt K B v xs) (x : Ex B B') : LyAt K B' v xs := let ⟨l, ys, h1, h2, h3⟩ := h; ⟨l, ys, h1, x _ _ h2, paired_up h3 x⟩
theorem paired_rev {α β : Type} {R : α → β → Prop} : ∀ {xs : List α} {ys : List β}, Paired R xs ys → Paired R xs.reverse ys.reverse
  | _, _, .nil => .nil
  | _, _, .cons h t => by
    rw [List.reverse_cons, List.reverse_cons]
    exact paired_append (paired_rev t) (.cons h .nil)
/-- the last one of two lists -/
theorem paired_last {α β : Type} {R : α → β → Prop} : ∀ {xs : List α} {ys : List β} {b : β}, Paired R xs (ys ++ [b]) → ∃ zs a, xs = zs ++ [a] ∧ Paired R zs ys ∧ R a b
  | _, [], b, h => by
    cases h with
    | cons h1 h2 => cases h2; exact ⟨[], _, rfl, .nil, h1⟩
  | _, y :: ys, b, h => by
    cases h with
    | cons h1 h2 =>
      obtain ⟨zs, a, rfl, h3, h4⟩ := paired_last (ys := ys) h2
      exact ⟨_ :: zs, a, rfl, .cons h1 h3, h4⟩
theorem last_of {α : Type} : ∀ {xs : List α}, xs ≠ [] → ∃ ys a, xs = ys ++ [a] := fun {xs} h => ⟨xs.dropLast, xs.getLast h, (List.dropLast_concat_getLast h).symm⟩
theorem ix_last (n : Nat) : ixN (n + 1) (-1) = some n := by
  unfold ixN
  rw [if_neg (by omega), if_pos (by omega)]
  congr 1; omega
theorem at_last {α : Type} (xs : List α) (a : α) : atI (xs ++ [a]) (-1) = some a := by
  unfold atI
  rw [List.length_append, List.length_singleton, ix_last]
  simp
theorem set_last {α : Type} (xs : List α) (a b : α) : (xs ++ [a]).set xs.length b = xs ++ [b] := by simp
end LC
end LcLay
section LcLay2
set_option maxHeartbeats 4000000
/-! The walk of the functions over parts. -/
namespace LC
open PySem L2
open He (ga ma)
open He5 (wf)
theorem RatAt.obj3 {K : PySem.W.Frag} {B M : Hp} {v : V} {q : Rat} (h : RatAt K B v q) {m : Str} (hm : ∀ x y : V, [(("top" : Str), x), ("bottom", y)].lookup m = none) : ∃ a dx fs, v = .ref a ∧ jn B M a = some (.ins (ga K "Ratio") dx fs) ∧ fs.lookup m = none := by
  obtain ⟨a, dx, rfl, h⟩ := h
  exact ⟨a, dx, _, rfl, jn_b h, hm _ _⟩
theorem num_pos' {q : Rat} (h : 0 < q) : 0 < q.num := by
  have h1 := Rat.num_nonneg.mpr (Rat.le_of_lt h)
  have h2 := num_ne' (b := q) (fun e => by rw [e] at h; exact Rat.lt_irrefl h)
  omega
theorem num_pos_iff {q : Rat} : 0 < q.num ↔ 0 < q := ⟨fun h => by
  have h1 := Rat.num_nonneg.mp (Int.le_of_lt h)
  refine Classical.byContradiction fun z => ?_
  have : q = 0 := by grind
  rw [this] at h
  exact absurd h (by decide), num_pos'⟩
section
variable {X : Cx} {o e : Expr} {σ : St} {B M : Hp} {P : V → Hp → Hp → Prop} {pos apos np : Pos} {pl : Sem Bool} (R : RP X.prog X.w X.K X.mg X.base)
include R
theorem em_Rless (hr : Room 43 X.A) (h : EM X o σ B M fun x B1 M1 => ∃ p, RatAt X.K B1 x p ∧ EM X e σ B1 M1 fun y B2 M2 => ∃ q, NumAt X.K B2 y q ∧ Sz p ∧ Sz q ∧ ∀ B', Ex B2 B' → P (.bl (decide (p < q))) B' M2)
    (hst : starEach [e] X.env = (false, eval e X.env) :: starEach [] X.env := by rfl)
    (ht : eval (.Call (.Attribute o ("less" : Str) apos) [e] [] pos) X.env = (do
      let ov ← eval o X.env
      standAt apos.atName
      let (f, first) ← holding [ov] (getMethod ov ("less" : Str) pl)
      callWith pos f first (backTo pos (starEach [e] X.env)) (backToKw pos (keywordEach [] X.env))) := by rfl) : EM X (.Call (.Attribute o ("less" : Str) apos) [e] [] pos) σ B M P :=
  em_meth R.less hr R.t.cl_Ratio R.t.m_Ratio_less (h.imp fun x B1 M1 _ ⟨p, hx, q⟩ => by
    obtain ⟨a, dx, fs, h1, h2, h3⟩ := hx.obj3 (M := M1) (m := "less") (fun _ _ => rfl)
    exact ⟨a, dx, fs, h1, h2, h3, am_cons (q.imp fun y B2 M2 hB2 ⟨q, hy, sx, sy, hv⟩ => am_nil ⟨x, y, p, q, rfl, hx.up hB2, hy, sx, sy, True.intro, fun v B' hB' e => by rw [e]; exact hv B' hB'⟩) hst⟩) hst (by rfl) ht
theorem em_Rmost (hr : Room 43 X.A) (h : EM X o σ B M fun x B1 M1 => ∃ p, RatAt X.K B1 x p ∧ EM X e σ B1 M1 fun y B2 M2 => ∃ q, NumAt X.K B2 y q ∧ Sz p ∧ Sz q ∧ ∀ B', Ex B2 B' → P (.bl (decide (p ≤ q))) B' M2)
    (hst : starEach [e] X.env = (false, eval e X.env) :: starEach [] X.env := by rfl)
    (ht : eval (.Call (.Attribute o ("at_most" : Str) apos) [e] [] pos) X.env = (do
      let ov ← eval o X.env
      standAt apos.atName
      let (f, first) ← holding [ov] (getMethod ov ("at_most" : Str) pl)
      callWith pos f first (backTo pos (starEach [e] X.env)) (backToKw pos (keywordEach [] X.env))) := by rfl) : EM X (.Call (.Attribute o ("at_most" : Str) apos) [e] [] pos) σ B M P :=
  em_meth R.most hr R.t.cl_Ratio R.t.m_Ratio_at_most (h.imp fun x B1 M1 _ ⟨p, hx, q⟩ => by
    obtain ⟨a, dx, fs, h1, h2, h3⟩ := hx.obj3 (M := M1) (m := "at_most") (fun _ _ => rfl)
    exact ⟨a, dx, fs, h1, h2, h3, am_cons (q.imp fun y B2 M2 hB2 ⟨q, hy, sx, sy, hv⟩ => am_nil ⟨x, y, p, q, rfl, hx.up hB2, hy, sx, sy, True.intro, fun v B' hB' e => by rw [e]; exact hv B' hB'⟩) hst⟩) hst (by rfl) ht
theorem em_Rover (hr : Room 43 X.A) (h : EM X o σ B M fun x B1 M1 => ∃ p, RatAt X.K B1 x p ∧ EM X e σ B1 M1 fun y B2 M2 => ∃ q, NumAt X.K B2 y q ∧ Sz p ∧ Sz q ∧ q ≠ 0 ∧ ∀ v B', Ex B2 B' → RatAt X.K B' v (p / q) → P v B' M2)
    (hst : starEach [e] X.env = (false, eval e X.env) :: starEach [] X.env := by rfl)
    (ht : eval (.Call (.Attribute o ("over" : Str) apos) [e] [] pos) X.env = (do
      let ov ← eval o X.env
      standAt apos.atName
      let (f, first) ← holding [ov] (getMethod ov ("over" : Str) pl)
      callWith pos f first (backTo pos (starEach [e] X.env)) (backToKw pos (keywordEach [] X.env))) := by rfl) : EM X (.Call (.Attribute o ("over" : Str) apos) [e] [] pos) σ B M P :=
  em_meth R.over hr R.t.cl_Ratio R.t.m_Ratio_over (h.imp fun x B1 M1 _ ⟨p, hx, q⟩ => by
    obtain ⟨a, dx, fs, h1, h2, h3⟩ := hx.obj3 (M := M1) (m := "over") (fun _ _ => rfl)
    exact ⟨a, dx, fs, h1, h2, h3, am_cons (q.imp fun y B2 M2 hB2 ⟨q, hy, sx, sy, hq, hv⟩ => am_nil ⟨x, y, p, q, rfl, hx.up hB2, hy, sx, sy, hq, hv⟩) hst⟩) hst (by rfl) ht
/-- Ratio.sum_of([e]) -/
theorem em_Rone (hr : Room 44 X.A) {lp : Pos} (h : EM X e σ B M fun x B1 M1 => ∃ q, NumAt X.K B1 x q ∧ Sz q ∧ ∀ v B', Ex B1 B' → RatAt X.K B' v q → P v B' M1) (hg : Gl X "Ratio" := by rfl)
    (he : starEach [e] X.env = (false, eval e X.env) :: starEach [] X.env := by rfl) (hst : starEach [.List [e] lp] X.env = (false, eval (.List [e] lp) X.env) :: starEach [] X.env := by rfl)
    (ht : eval (.Call (.Attribute (.Name ("Ratio" : Str) np) ("sum_of" : Str) apos) [.List [e] lp] [] pos) X.env = (do
      let ov ← eval (.Name ("Ratio" : Str) np) X.env
      standAt apos.atName
      let (f, first) ← holding [ov] (getMethod ov ("sum_of" : Str) pl)
      callWith pos f first (backTo pos (starEach [.List [e] lp] X.env)) (backToKw pos (keywordEach [] X.env))) := by rfl) : EM X (.Call (.Attribute (.Name ("Ratio" : Str) np) ("sum_of" : Str) apos) [.List [e] lp] [] pos) σ B M P :=
  em_sm R.sum hr R.t.sm_Ratio_sum_of R.t.g_Ratio (am_cons (em_lstB (am_cons (h.imp fun x B1 M1 hB1 ⟨q, hx, sq, hv⟩ => am_nil ⟨sl1, fun l hl ml => am_nil ⟨l, [x], [q], rfl, upd_same, .cons (hx.up (Ex.up hl)) .nil, fun r hr => by
      simp at hr; rw [hr]; exact sq, fun i hi => by
      have e0 : i = 0 := by
        have : i < 1 := hi
        omega
      subst e0
      exact sz0, fun v B' hB' hv' => hv v B' ((Ex.up hl).tr hB') (by
      have e1 : rsum [q] = q := by show q + 0 = q; grind
      rwa [e1] at hv')⟩⟩) he)) hst) hg (by decide) hst (by rfl) ht
end
section
variable {P : Program} {w : World} {K : PySem.W.Frag} {mg : Str → Option Value} {base : Heap}
def spUn (K : PySem.W.Frag) : Spc := fun vs B M Q => ∃ v L D n xs, vs = [v] ∧ LyAt K B v xs ∧ Ly L D n xs ∧ DOk D ∧ n ≤ 1000 ∧ ∀ r B', Ex B B' → RatAt K B' r (tot xs) → Q r B' M
theorem pr_units (R : RP P w K mg base) : Pr P w K mg base 46 (ga K "units_in") [] (spUn K) := by
  refine pr_def R.t.f_units_in sc_units_in (fun _ _ _ _ _ _ us hl => match us, hl with | [_], _ => rfl) (by rintro _ _ _ _ ⟨v, L, D, n, xs, rfl, _⟩; rfl) ?_
  rintro cdv A outer s H E vs B M Q hr ⟨v, L, D, n, xs, rfl, ⟨l, ys, rfl, hl, hys⟩, ly, dk, hn, hq⟩
  have hyl := paired_len hys
  have hxl := ly.len
  refine sm_one (s1_ret (em_sm R.sum (hr.mono (by decide)) R.t.sm_Ratio_sum_of R.t.g_Ratio (am_cons (em_lcB rfl sc_units_in.nd (blk_ok (N := n_units_in) (sc := defScope s_units_in) [("lot", 1), ("amount", 2)] (by decide +kernel)) (em_nm 0 ⟨l, ys, rfl, hl, ?_⟩)))))
  refine ⟨by omega, fun i acc B' => Paired (NumAt K B') acc ((xs.take i).map (·.2)), fun i acc B1 B2 hB h => paired_imp (fun _ _ z => z.up hB) h, .nil, ?_, ?_⟩
  · rintro i y acc B1 M1 hy hi hB1 _ hacc
    dsimp only at hy
    obtain ⟨p, hp, q, r, rfl, hq1, hq2⟩ := paired_at hys hy
    refine bg_of fun s0 H0 C cl fp => gm_tup rfl (SqT.of (jn_b (hB1 _ _ hq1))) (gms_cons (gm_name 1 sc_units_in.nd (gms_cons (gm_name 2 sc_units_in.nd (gms_nil ⟨rfl, rfl, bt_nil ⟨rfl, ?_⟩⟩)))))
    rw [if_pos rfl]
    refine be_of fun s1 H1 C1 cl1 fp1 => em_nm 2 ⟨rfl, ?_⟩
    show Paired (NumAt K B1) (acc ++ [r]) ((xs.take (i + 1)).map (·.2))
    rw [List.take_add_one, hp, List.map_append]
    exact paired_append hacc (.cons (hq2.up hB1).num .nil)
  · rintro d zs B1 hB1 hd hz
    rw [hyl, List.take_length] at hz
    refine am_nil ⟨d, zs, xs.map (·.2), rfl, hd, hz, fun q hq => ?_, fun i hi => ?_, fun r B2 hB2 hr2 => hq r B2 (hB1.tr hB2) (by rwa [tot_snd] at hr2)⟩
    · obtain ⟨p, hp, rfl⟩ := List.mem_map.mp hq
      exact ly.sz dk hp
    · rw [← List.map_take, tot_snd]
      exact (ly.take i).szT dk
def spChk (K : PySem.W.Frag) : Spc := fun vs B M Q => ∃ v vu L D n xs, ∃ u : Rat, vs = [v, vu] ∧ LyAt K B v xs ∧ Ly L D n xs ∧ DOk D ∧ n ≤ 1000 ∧ NumAt K B vu u ∧ Sz u ∧ u ≤ tot xs ∧ ∀ B', Ex B B' → Q .non B' M
theorem pr_check (R : RP P w K mg base) : Pr P w K mg base 48 (ga K "check_units") [] (spChk K) := by
  refine pr_def R.t.f_check_units sc_check_units (fun _ _ _ _ _ _ us hl => match us, hl with | [_, _], _ => rfl) (by rintro _ _ _ _ ⟨v, vu, L, D, n, xs, u, rfl, _⟩; rfl) ?_
  rintro cdv A outer s H E vs B M Q hr ⟨v, vu, L, D, n, xs, u, rfl, hv, ly, dk, hn, hu, su, hle, hq⟩
  refine sm_cons (s1_set 2 sc_check_units.nd (em_call (pr_units R) (hr.mono (by decide)) R.t.g_units_in (am_cons (em_nm 0 (am_nil ⟨v, L, D, n, xs, rfl, hv, ly, dk, hn, fun r B1 hB1 hr1 => ?_⟩)))))
  refine sm_one (s1_if (tm_val (em_Rless R (hr.mono (by decide)) (em_nm 2 ⟨_, hr1, em_nm 1 ⟨u, hu.up hB1, ly.szT dk, su, fun B2 hB2 => ⟨_, rfl, iff' (df (by grind)) (sm_nil (hq B2 (hB1.tr hB2)))⟩⟩⟩))))
end
end LC
end LcLay2
section LcLay3
set_option maxHeartbeats 4000000
/-! stacked, cut, shared. -/
namespace LC
open PySem L2
open He (ga ma)
open He5 (wf)
section
variable {L : List Str} {D E n m i : Nat} {xs fs gs : List Part} {p : Part}
theorem Ly.mem (h : Ly L D n xs) (hp : p ∈ xs) : 0 < p.2 ∧ IntD D p.2 ∧ p.1 ∈ L := ⟨h.pos p hp, h.int p hp, h.lot p hp⟩
theorem Ly.app (h : Ly L D n fs) (h1 : 0 < p.2 ∧ IntD D p.2 ∧ p.1 ∈ L) (h2 : tot fs + p.2 ≤ (10000000 : Nat)) : Ly L D (n + 1) (fs ++ [p]) := by
  have all : ∀ q ∈ fs ++ [p], 0 < q.2 ∧ IntD D q.2 ∧ q.1 ∈ L := fun q hq => by
    rcases List.mem_append.mp hq with hq | hq
    · exact h.mem hq
    · rw [List.mem_singleton.mp hq]; exact h1
  refine ⟨?_, fun q hq => (all q hq).1, fun q hq => (all q hq).2.1, fun q hq => (all q hq).2.2, ?_⟩
  · rw [List.length_append]; have := h.len; simp; omega
  · show W one' _ ≤ _
    rw [W_append]
    have e : W one' [p] = p.2 := by rw [W_cons, W_nil]; show 1 * p.2 + 0 = _; grind
    rw [e]; exact h2
theorem Ly.init (h : Ly L D n (gs ++ [p])) : Ly L D n gs := by
  have hl := h.len
  rw [List.length_append] at hl
  simp at hl
  refine ⟨by omega, fun q hq => h.pos q (List.mem_append_left _ hq), fun q hq => h.int q (List.mem_append_left _ hq), fun q hq => h.lot q (List.mem_append_left _ hq), ?_⟩
  have h1 : tot (gs ++ [p]) = tot gs + tot [p] := W_append ..
  have h2 := h.hi
  have h3 : 0 ≤ tot [p] := tot_nn fun q hq => h.pos q (List.mem_append_right _ hq)
  grind
/-- what stacked has found -/
structure StkI (L : List Str) (D i : Nat) (xs fs : List Part) : Prop where
  ly : Ly L D i fs
  w : ∀ f, W f fs = W f (xs.take i)
theorem W_one (f : Str → Rat) (p : Part) : W f [p] = f p.1 * p.2 := by rw [W_cons, W_nil]; grind
theorem StkI.app (h : StkI L D i xs fs) (hx : Ly L D n xs) (hp : xs[i]? = some p) : StkI L D (i + 1) xs (fs ++ [p]) := by
  have hm := List.mem_of_getElem? hp
  have hw : ∀ f, W f (fs ++ [p]) = W f (xs.take (i + 1)) := fun f => by rw [W_append, h.w, W_take f hp, W_one]
  refine ⟨h.ly.app (hx.mem hm) ?_, hw⟩
  have h1 := hw one'
  rw [W_append, W_one] at h1
  have h2 := tot_take hx.pos (i + 1)
  have h3 := hx.hi
  have h4 : tot fs + p.2 = tot (xs.take (i + 1)) := by show W one' fs + p.2 = W one' (xs.take (i + 1)); rw [← h1]; show W one' fs + p.2 = W one' fs + 1 * p.2; grind
  rw [h4]; exact Rat.le_trans h2 h3
theorem StkI.mrg {a : Rat} (h : StkI L D i xs (gs ++ [(p.1, a)])) (hx : Ly L D n xs) (hp : xs[i]? = some p) : StkI L D (i + 1) xs (gs ++ [(p.1, a + p.2)]) := by
  have hm := List.mem_of_getElem? hp
  have h0 := h.ly.mem (List.mem_append_right gs (List.mem_singleton.mpr rfl))
  have hw : ∀ f, W f (gs ++ [(p.1, a + p.2)]) = W f (xs.take (i + 1)) := fun f => by
    have := h.w f
    rw [W_append, W_one] at this
    rw [W_append, W_one, W_take f hp, ← this]
    show W f gs + f p.1 * (a + p.2) = W f gs + f p.1 * a + f p.1 * p.2
    grind
  have hxp := hx.mem hm
  have hl := h.ly.len
  rw [List.length_append] at hl
  simp at hl
  have hi' : tot gs + (a + p.2) ≤ (10000000 : Nat) := by
    have h1 := hw one'
    rw [W_append, W_one] at h1
    have h2 := tot_take hx.pos (i + 1)
    have h3 := hx.hi
    have h4 : tot gs + (a + p.2) = tot (xs.take (i + 1)) := by show W one' gs + (a + p.2) = W one' (xs.take (i + 1)); rw [← h1]; show W one' gs + (a + p.2) = W one' gs + 1 * (a + p.2); grind
    rw [h4]; exact Rat.le_trans h2 h3
  have h5 := h.ly.init.app (p := (p.1, a + p.2)) ⟨by have e1 : 0 < a := h0.1; have e2 := hxp.1; show 0 < a + p.2; grind, h0.2.1.add hxp.2.1, hxp.2.2⟩ hi'
  exact ⟨h5, hw⟩
end
theorem szI : Sz 1 := ⟨by decide, by decide⟩
section
variable {P : Program} {w : World} {K : PySem.W.Frag} {mg : Str → Option Value} {base : Heap}
def spStk (K : PySem.W.Frag) : Spc := fun vs B M Q => ∃ v L D n xs, vs = [v] ∧ LyAt K B v xs ∧ Ly L D n xs ∧ DOk D ∧ n ≤ 1000 ∧ ∀ r B' ys, Ex B B' → LyAt K B' r ys → Ly L D n ys → (∀ f, W f ys = W f xs) → Q r B' M
theorem pr_stacked (R : RP P w K mg base) : Pr P w K mg base 46 (ga K "stacked") [] (spStk K) := by
  refine pr_def R.t.f_stacked sc_stacked (fun _ _ _ _ _ _ us hl => match us, hl with | [_], _ => rfl) (by rintro _ _ _ _ ⟨v, L, D, n, xs, rfl, _⟩; rfl) ?_
  rintro cdv A outer s H E vs B M Q hr ⟨v, L, D, n, xs, rfl, ⟨l, ys, rfl, hl, hys⟩, ly, dk, hn, hq⟩
  have hyl := paired_len hys
  have hxl := ly.len
  refine sm_cons (s1_set 1 sc_stacked.nd (em_lst (am_nil ⟨sl0, fun f bf mf => ?_⟩)))
  refine sm_cons (s1_for PassesOwn.never rfl (em_nm 0 ⟨l, ys, rfl, SqL.of (jn_b hl), fun i σ B' M' => ∃ o1 o2 fy fs, σ = [some (.ref l), some (.ref f), o1, o2] ∧ M' = upd M f (.lst fy) ∧ Ex B B' ∧ Paired (PtAt K B') fy fs ∧ StkI L D i xs fs, ⟨_, _, [], [], rfl, rfl, Ex.id', .nil, Ly.nil, fun _ => rfl⟩, ?_, ?_, ?_⟩))
  · rintro i σ B' M' _ ⟨o1, o2, fy, fs, rfl, rfl, hB, _⟩
    exact SqL.of (jn_b (hB _ _ hl))
  · rintro i y σ B' M' hi _ ⟨o1, o2, fy, fs, rfl, rfl, hB, hfy, hst⟩
    obtain ⟨p, hp, q, r, rfl, hq1, hq2⟩ := paired_at hys hi
    refine gm_tup rfl (SqT.of (jn_b (hB _ _ hq1))) (gms_cons (gm_name 2 sc_stacked.nd (gms_cons (gm_name 3 sc_stacked.nd (gms_nil ?_)))))
    refine sm_own fun own => ?_
    have bf' : B' f = none := own f _ upd_same
    have hfl := paired_len hfy
    have hsl := hst.ly.len
    have hin : i < xs.length := (List.getElem?_eq_some_iff.mp hp).1
    have hf0 : (upd M f (.lst fy)) f = some (.lst fy) := upd_same
    by_cases hfs : fs = []
    · subst hfs
      cases hfy
      refine sm_one (s1_if (tm_w (wm_and (tm_tru (em_nm 1 ⟨false, .inl ⟨[], SqL.of (jn_m hf0 bf'), rfl⟩, iff' rfl (iff' rfl ?_)⟩)))))
      refine sm_one (s1_if (tm_cmp op_gt (em_rtop R.t (em_nm 3 ⟨p.2, hq2.up hB, em_int (om_I0 ⟨_, rfl, ift (dt (num_pos' (ly.mem (List.mem_of_getElem? hp)).1)) ?_⟩)⟩))))
      refine sm_one (s1_expr (em_append (em_nm 1 ⟨f, _, rfl, hf0, bf', em_tup (am_cons (em_nm 2 (am_cons (em_nm 3 (am_nil ⟨sl2, fun t ht mt => ⟨_, hf0, by show 0 < sizeLine; decide, ?_⟩⟩)))))⟩)))
      rw [upd_twice]
      exact ⟨_, _, _, _, rfl, rfl, hB.tr (Ex.up ht), .cons ⟨t, r, rfl, upd_same, hq2.up (hB.tr (Ex.up ht))⟩ .nil, hst.app ly hp⟩
    · obtain ⟨gs, ⟨l', a'⟩, rfl⟩ := last_of hfs
      obtain ⟨gy, y', rfl, hgy, q', r', rfl, hq1', hq2'⟩ := paired_last hfy
      refine sm_one (s1_if (tm_w (wm_and (tm_tru (em_nm 1 ⟨true, .inl ⟨_, SqL.of (jn_m hf0 bf'), by simp⟩, ift rfl ?_⟩)))))
      refine wm_and1 (tm_cmp op_eq (em_ixT (em_ixL (em_nm 1 (em_un un_neg (em_int (om_U ⟨f, _, -1, .ref q', rfl, rfl, SqL.of (jn_m hf0 bf'), at_last _ _, em_int ⟨q', _, 0, .str l', rfl, rfl, SqT.of (jn_b hq1'), rfl, em_nm 2 (om_eq rfl ⟨_, rfl, ?_⟩)⟩⟩)))))))
      by_cases he : l' = p.1
      · subst he
        refine ift (dt rfl) ?_
        have ha' := hst.ly.sz dk (List.mem_append_right gs (List.mem_singleton.mpr rfl))
        refine sm_one (s1_lput (em_tup (am_cons (em_nm 2 (am_cons (em_Radd R (hr.mono (by decide)) (em_ixT (em_ixL (em_nm 1 (em_un un_neg (em_int (om_U ⟨f, _, -1, .ref q', rfl, rfl, SqL.of (jn_m hf0 bf'), at_last _ _, em_int ⟨q', _, 1, r', rfl, rfl, SqT.of (jn_b hq1'), rfl, em_nm 3 ⟨a', p.2, .inr ⟨hq2', (hq2.up hB).num⟩, ha', ly.sz dk (List.mem_of_getElem? hp), fun r2 B2 hB2 hr2 => am_nil ⟨sl2, fun t ht mt => ?_⟩⟩⟩⟩))))))))))))
        refine em_nm 1 (em_un un_neg (em_int (om_U ⟨f, _, _, gy.length, rfl, rfl, hf0, by rw [List.length_append, List.length_singleton]; exact ix_last _, ?_⟩)))
        rw [upd_twice, set_last]
        have hBt := hB2.tr (Ex.up (o := .tup [.str p.1, r2]) ht)
        exact ⟨_, _, _, gs ++ [(p.1, a' + p.2)], rfl, rfl, hB.tr hBt, paired_append (paired_up hgy hBt) (.cons ⟨t, r2, rfl, upd_same, hr2.up (Ex.up ht)⟩ .nil), hst.mrg ly hp⟩
      · refine iff' (df (fun z => he (by injection z))) ?_
        refine sm_one (s1_if (tm_cmp op_gt (em_rtop R.t (em_nm 3 ⟨p.2, hq2.up hB, em_int (om_I0 ⟨_, rfl, ift (dt (num_pos' (ly.mem (List.mem_of_getElem? hp)).1)) ?_⟩)⟩))))
        refine sm_one (s1_expr (em_append (em_nm 1 ⟨f, _, rfl, hf0, bf', em_tup (am_cons (em_nm 2 (am_cons (em_nm 3 (am_nil ⟨sl2, fun t ht mt => ⟨_, hf0, ?_, ?_⟩⟩)))))⟩)))
        · exact Nat.lt_of_le_of_lt (show _ ≤ 1000 by omega) (by decide)
        rw [upd_twice]
        exact ⟨_, _, _, _, rfl, rfl, hB.tr (Ex.up ht), paired_append (paired_up hfy (Ex.up ht)) (.cons ⟨t, r, rfl, upd_same, hq2.up (hB.tr (Ex.up ht))⟩ .nil), hst.app ly hp⟩
  · rintro σ B' M' _ ⟨o1, o2, fy, fs, rfl, rfl, hB, hfy, hst⟩
    refine sm_one (s1_ret (Emt.fzN (em_nm 1 ⟨f, _, upd_same, fun hn' => ?_⟩)))
    rw [del_upd mf]
    rw [hyl] at hst
    refine hq _ _ fs (hB.tr (Ex.up hn')) ⟨f, fy, rfl, upd_same, paired_up hfy (Ex.up hn')⟩ (hst.ly.mono hxl) fun f => ?_
    rw [hst.w, List.take_length]
end
end LC
end LcLay3
section LcLay4
set_option maxHeartbeats 4000000
/-! cut. -/
namespace LC
open PySem L2
open He (ga ma)
open He5 (wf)
theorem EmS.imp {t : TS} {σ : St} {B M : Hp} {E : EndsM} (J : St → Hp → Hp → Prop) (h : EmS t σ B M { E with nx := J }) (f : ∀ σ' B' M', Ex B B' → J σ' B' M' → E.nx σ' B' M') : EmS t σ B M E := fun H w D k1 k2 k3 k4 =>
  h H w D (fun σ' B' M' H' g q => k1 σ' B' M' H' g (f σ' B' M' g.b q)) k2 k3 k4
theorem upd2 {M : Hp} {p q : Addr} {a b c : HO} (h : p ≠ q) : upd (upd (upd M p a) q b) p c = upd (upd M p c) q b := by
  rw [upd_comm (M := upd M p a) (fun e => h e.symm), upd_twice]
structure CutI (L : List Str) (D i u : Nat) (xs tk lf : List Part) (rest : Rat) : Prop where
  ht : Ly L D i tk
  hl : Ly L D i lf
  w : ∀ f, W f tk + W f lf = W f (xs.take i)
  r : rest = (u : Rat) - tot tk
  nn : 0 ≤ rest
  em : 0 < rest → lf = []
section
variable {L : List Str} {D n i u : Nat} {xs tk lf : List Part} {p : Part} {rest : Rat}
theorem Ly.of_all (len : xs.length ≤ n) (all : ∀ p ∈ xs, 0 < p.2 ∧ IntD D p.2 ∧ p.1 ∈ L) (hi : tot xs ≤ (10000000 : Nat)) : Ly L D n xs := ⟨len, fun p hp => (all p hp).1, fun p hp => (all p hp).2.1, fun p hp => (all p hp).2.2, hi⟩
abbrev cutP (p : Part) (rest : Rat) : Rat := if p.2 ≤ rest then p.2 else rest
abbrev cutT (p : Part) (rest : Rat) (tk : List Part) : List Part := if 0 < cutP p rest then tk ++ [(p.1, cutP p rest)] else tk
abbrev cutL (p : Part) (rest : Rat) (lf : List Part) : List Part := if cutP p rest < p.2 then lf ++ [(p.1, p.2 - cutP p rest)] else lf
theorem all_app {C : Part → Prop} {xs : List Part} {q : Part} (h : ∀ p ∈ xs, C p) (hq : C q) : ∀ p ∈ xs ++ [q], C p := fun p hp => by
  rcases List.mem_append.mp hp with hp | hp
  · exact h p hp
  · rw [List.mem_singleton.mp hp]; exact hq
theorem CutI.restInt (h : CutI L D i u xs tk lf rest) : IntD D rest := by rw [h.r]; exact (IntD.nat u).sub h.ht.totInt
theorem CutI.step (h : CutI L D i u xs tk lf rest) (hx : Ly L D n xs) (hp : xs[i]? = some p) : CutI L D (i + 1) u xs (cutT p rest tk) (cutL p rest lf) (rest - cutP p rest) := by
  have hm := hx.mem (List.mem_of_getElem? hp)
  have hnn := h.nn
  have hP : 0 ≤ cutP p rest ∧ cutP p rest ≤ rest ∧ cutP p rest ≤ p.2 := by
    unfold cutP
    have := hm.1
    split <;> refine ⟨?_, ?_, ?_⟩ <;> grind
  have hPi : IntD D (cutP p rest) := by
    unfold cutP
    split
    · exact hm.2.1
    · exact h.restInt
  have wt : ∀ f, W f (cutT p rest tk) = W f tk + f p.1 * cutP p rest := fun f => by
    unfold cutT
    split
    · rw [W_append, W_one]
    · have : cutP p rest = 0 := by grind
      rw [this]; grind
  have wl : ∀ f, W f (cutL p rest lf) = W f lf + f p.1 * (p.2 - cutP p rest) := fun f => by
    unfold cutL
    split
    · rw [W_append, W_one]
    · have : p.2 - cutP p rest = 0 := by grind
      rw [this]; grind
  have hw : ∀ f, W f (cutT p rest tk) + W f (cutL p rest lf) = W f (xs.take (i + 1)) := fun f => by
    rw [wt, wl, W_take f hp, ← h.w]; grind
  have at_ : ∀ q ∈ cutT p rest tk, 0 < q.2 ∧ IntD D q.2 ∧ q.1 ∈ L := by
    unfold cutT
    split
    · rename_i h0
      exact all_app (fun q hq => h.ht.mem hq) ⟨h0, hPi, hm.2.2⟩
    · exact fun q hq => h.ht.mem hq
  have al : ∀ q ∈ cutL p rest lf, 0 < q.2 ∧ IntD D q.2 ∧ q.1 ∈ L := by
    unfold cutL
    split
    · rename_i h0
      exact all_app (fun q hq => h.hl.mem hq) ⟨by show 0 < p.2 - cutP p rest; grind, hm.2.1.sub hPi, hm.2.2⟩
    · exact fun q hq => h.hl.mem hq
  have ht0 : 0 ≤ tot (cutT p rest tk) := tot_nn fun q hq => (at_ q hq).1
  have hl0 : 0 ≤ tot (cutL p rest lf) := tot_nn fun q hq => (al q hq).1
  have hs : tot (cutT p rest tk) + tot (cutL p rest lf) ≤ (10000000 : Nat) := by
    have : tot (cutT p rest tk) + tot (cutL p rest lf) = tot (xs.take (i + 1)) := hw one'
    rw [this]; exact Rat.le_trans (tot_take hx.pos _) hx.hi
  have lt : (cutT p rest tk).length ≤ i + 1 := by
    unfold cutT
    have := h.ht.len
    split
    · rw [List.length_append]; simp; omega
    · omega
  have ll : (cutL p rest lf).length ≤ i + 1 := by
    unfold cutL
    have := h.hl.len
    split
    · rw [List.length_append]; simp; omega
    · omega
  refine ⟨Ly.of_all lt at_ (by grind), Ly.of_all ll al (by grind), hw, ?_, by grind, fun h0 => ?_⟩
  · have e1 : tot (cutT p rest tk) = tot tk + cutP p rest := by
      have := wt one'
      show W one' _ = _
      rw [this]; show W one' tk + 1 * _ = W one' tk + _; grind
    rw [e1, h.r]; grind
  · have h1 : p.2 ≤ rest := by
      refine Classical.byContradiction fun z => ?_
      have : cutP p rest = rest := if_neg z
      rw [this] at h0; grind
    have h2 : cutP p rest = p.2 := if_pos h1
    unfold cutL
    rw [h2, if_neg (by grind)]
    rw [h2] at h0
    exact h.em (by have := hm.1; grind)
theorem CutI.done (h : CutI L D i u xs tk lf rest) (hi : xs.length ≤ i) (hu : (u : Rat) ≤ tot xs) : tot tk = u := by
  have h1 := h.w one'
  rw [List.take_of_length_le hi] at h1
  have h1' : tot tk + tot lf = tot xs := h1
  have h2 := h.r
  have h3 := h.nn
  by_cases h0 : 0 < rest
  · have := h.em h0
    rw [this] at h1'
    have e : tot ([] : List Part) = 0 := rfl
    rw [e] at h1'
    grind
  · grind
end
section
variable {P : Program} {w : World} {K : PySem.W.Frag} {mg : Str → Option Value} {base : Heap}
def spCut (K : PySem.W.Frag) : Spc := fun vs B M Q => ∃ v vu L D n xs u, vs = [v, vu] ∧ LyAt K B v xs ∧ Ly L D n xs ∧ DOk D ∧ n ≤ 1000 ∧ NumAt K B vu ((u : Nat) : Rat) ∧ (u : Rat) ≤ tot xs ∧
  ∀ B' r v1 v2 tk lf, Ex B B' → B' r = some (.tup [v1, v2]) → LyAt K B' v1 tk → LyAt K B' v2 lf → Ly L D n tk → Ly L D n lf → (∀ f, W f tk + W f lf = W f xs) → tot tk = u → Q (.ref r) B' M
theorem pr_cut (R : RP P w K mg base) : Pr P w K mg base 46 (ga K "cut") [] (spCut K) := by
  refine pr_def R.t.f_cut sc_cut (fun _ _ _ _ _ _ us hl => match us, hl with | [_, _], _ => rfl) (by rintro _ _ _ _ ⟨v, vu, L, D, n, xs, u, rfl, _⟩; rfl) ?_
  rintro cdv A outer s H E vs B M Q hr ⟨v, vu, L, D, n, xs, u, rfl, ⟨l, ys, rfl, hl, hys⟩, ly, dk, hn, hvu, hu, hq⟩
  have hyl := paired_len hys
  have hxl := ly.len
  refine sm_cons (s1_set 2 sc_cut.nd (em_lst (am_nil ⟨sl0, fun ta bta mta => ?_⟩)))
  refine sm_cons (s1_set 3 sc_cut.nd (em_lst (am_nil ⟨sl0, fun le ble mle => ?_⟩)))
  have ne : ta ≠ le := fun e => by rw [← e, upd_same] at mle; cases mle
  refine sm_cons (s1_set 4 sc_cut.nd (em_nm 1 ?_))
  refine sm_cons (s1_for PassesOwn.never rfl (em_nm 0 ⟨l, ys, rfl, SqL.of (jn_b hl), fun i σ B' M' => ∃ vr o5 o6 o7 ty ly' tk lf rest, σ = [some (.ref l), some vu, some (.ref ta), some (.ref le), some vr, o5, o6, o7] ∧ M' = upd (upd M ta (.lst ty)) le (.lst ly') ∧ Ex B B' ∧ Paired (PtAt K B') ty tk ∧ Paired (PtAt K B') ly' lf ∧ NumAt K B' vr rest ∧ CutI L D i u xs tk lf rest, ?_, ?_, ?_, ?_⟩))
  · refine ⟨vu, _, _, _, [], [], [], [], (u : Rat), rfl, rfl, Ex.id', .nil, .nil, hvu, Ly.nil, Ly.nil, fun f => by rw [W_nil, List.take_zero, W_nil]; grind, ?_, by exact_mod_cast Nat.zero_le u, fun _ => rfl⟩
    have e : tot ([] : List Part) = 0 := rfl
    rw [e]; grind
  · rintro i σ B' M' _ ⟨vr, o5, o6, o7, ty, ly', tk, lf, rest, rfl, rfl, hB, _⟩
    exact SqL.of (jn_b (hB _ _ hl))
  · rintro i y σ B' M' hi _ ⟨vr, o5, o6, o7, ty, ly', tk, lf, rest, rfl, rfl, hB, hty, hly, hvr, hI⟩
    obtain ⟨p, hp, q, r, rfl, hq1, hq2⟩ := paired_at hys hi
    have hpm := List.mem_of_getElem? hp
    have hin : i < xs.length := (List.getElem?_eq_some_iff.mp hp).1
    have hS := hI.step ly hp
    have szp := ly.sz dk hpm
    have restLe : rest ≤ (10000000 : Nat) := by
      have h1 := hI.r
      have h2 := hI.ht.nn
      have h3 := ly.hi
      grind
    have szr : Sz rest := by
      obtain ⟨h1, h2⟩ := b8 hI.nn restLe
      exact dk.sz hI.restInt h1 h2
    have szP : Sz (cutP p rest) := by
      show Sz (if p.2 ≤ rest then p.2 else rest)
      split
      · exact szp
      · exact szr
    refine gm_tup rfl (SqT.of (jn_b (hB _ _ hq1))) (gms_cons (gm_name 5 sc_cut.nd (gms_cons (gm_name 6 sc_cut.nd (gms_nil ?_)))))
    refine sm_cons (s1_set 7 sc_cut.nd (Emt.imp (P := fun v B2 M2 => M2 = upd (upd M ta (.lst ty)) le (.lst ly') ∧ RatAt K B2 v (cutP p rest)) ?_ fun vp B2 M2 hB2 ⟨e, hvp⟩ => ?_))
    · refine em_if (tm_val (em_Rmost R (hr.mono (by decide)) (em_nm 6 ⟨p.2, hq2.up hB, em_nm 4 ⟨rest, hvr, szp, szr, fun B1 hB1 => ⟨_, rfl, ?_⟩⟩⟩)))
      by_cases hc : p.2 ≤ rest
      · exact ift (dt hc) (em_nm 6 ⟨rfl, by rw [cutP, if_pos hc]; exact hq2.up (hB.tr hB1)⟩)
      · exact iff' (df hc) (em_Rone R (hr.mono (by decide)) (em_nm 4 ⟨rest, hvr.up hB1, szr, fun v5 B5 hB5 hv5 => ⟨rfl, by rw [cutP, if_neg hc]; exact hv5⟩⟩))
    subst e
    have hBB : Ex B B2 := hB.tr hB2
    -- taken
    refine sm_cons (EmS.imp (fun σ' B3 M3 => σ' = [some (.ref l), some vu, some (.ref ta), some (.ref le), some vr, some (.str p.1), some r, some vp] ∧ ∃ ty2, M3 = upd (upd M ta (.lst ty2)) le (.lst ly') ∧ Paired (PtAt K B3) ty2 (cutT p rest tk)) ?_ fun σ' B3 M3 hB3 ⟨eσ, ty2, eM, hty2⟩ => ?_)
    · refine s1_if (tm_cmp op_gt (em_rtop R.t (em_nm 7 ⟨cutP p rest, hvp, em_int (om_I0 ⟨_, rfl, ?_⟩)⟩)))
      by_cases hc : 0 < cutP p rest
      · refine ift (dt (num_pos' hc)) (sm_own fun own => ?_)
        have hta : (upd (upd M ta (.lst ty)) le (.lst ly')) ta = some (.lst ty) := by rw [upd_ne ne, upd_same]
        refine sm_one (s1_expr (em_append (em_nm 2 ⟨ta, _, rfl, hta, own ta _ hta, em_tup (am_cons (em_nm 5 (am_cons (em_nm 7 (am_nil ⟨sl2, fun t ht mt => ⟨_, hta, ?_, rfl, ty ++ [.ref t], upd2 ne, ?_⟩⟩)))))⟩)))
        · have h1 := paired_len hty
          have h2 := hI.ht.len
          exact Nat.lt_of_le_of_lt (show _ ≤ 1000 by omega) (by decide)
        · rw [cutT, if_pos hc]
          exact paired_append (paired_up hty (hB2.tr (Ex.up ht))) (.cons ⟨t, vp, rfl, upd_same, hvp.up (Ex.up ht)⟩ .nil)
      · refine iff' (df (fun z => hc (num_pos_iff.mp z))) (sm_nil ⟨rfl, ty, rfl, ?_⟩)
        rw [cutT, if_neg hc]
        exact paired_up hty hB2
    subst eσ eM
    -- left
    refine sm_cons (EmS.imp (fun σ' B4 M4 => σ' = [some (.ref l), some vu, some (.ref ta), some (.ref le), some vr, some (.str p.1), some r, some vp] ∧ ∃ ly2, M4 = upd (upd M ta (.lst ty2)) le (.lst ly2) ∧ Paired (PtAt K B4) ly2 (cutL p rest lf)) ?_ fun σ' B4 M4 hB4 ⟨eσ, ly2, eM, hly2⟩ => ?_)
    · refine s1_if (tm_val (em_Rless R (hr.mono (by decide)) (em_nm 7 ⟨cutP p rest, hvp.up hB3, em_nm 6 ⟨p.2, (hq2.up (hBB.tr hB3)).num, szP, szp, fun B5 hB5 => ⟨_, rfl, ?_⟩⟩⟩)))
      by_cases hc : cutP p rest < p.2
      · refine ift (dt hc) (sm_own fun own => ?_)
        have hle : (upd (upd M ta (.lst ty2)) le (.lst ly')) le = some (.lst ly') := upd_same
        refine sm_one (s1_expr (em_append (em_nm 3 ⟨le, _, rfl, hle, own le _ hle, em_tup (am_cons (em_nm 5 (am_cons (em_Rsub R (hr.mono (by decide)) (em_nm 6 (em_nm 7 ⟨p.2, cutP p rest, .inr ⟨hq2.up ((hBB.tr hB3).tr hB5), ((hvp.up hB3).up hB5).num⟩, szp, szP, fun v6 B6 hB6 hv6 => am_nil ⟨sl2, fun t ht mt => ⟨_, hle, ?_, rfl, ly' ++ [.ref t], upd_twice, ?_⟩⟩⟩))))))⟩)))
        · have h1 := paired_len hly
          have h2 := hI.hl.len
          exact Nat.lt_of_le_of_lt (show _ ≤ 1000 by omega) (by decide)
        · rw [cutL, if_pos hc]
          exact paired_append (paired_up hly ((((hB2.tr hB3).tr hB5).tr hB6).tr (Ex.up ht))) (.cons ⟨t, v6, rfl, upd_same, hv6.up (Ex.up ht)⟩ .nil)
      · refine iff' (df hc) (sm_nil ⟨rfl, ly', rfl, ?_⟩)
        rw [cutL, if_neg hc]
        exact paired_up hly ((hB2.tr hB3).tr hB5)
    subst eσ eM
    refine sm_one (s1_set 4 sc_cut.nd (em_Rsub R (hr.mono (by decide)) (em_nm 4 (em_nm 7 ⟨rest, cutP p rest, .inl ⟨hvr.up ((hB2.tr hB3).tr hB4), hvp.up (hB3.tr hB4)⟩, szr, szP, fun v7 B7 hB7 hv7 => ?_⟩))))
    exact ⟨v7, _, _, _, ty2, ly2, _, _, _, rfl, rfl, ((hBB.tr hB3).tr hB4).tr hB7, paired_up hty2 (hB4.tr hB7), paired_up hly2 hB7, hv7.num, hS⟩
  · rintro σ B' M' _ ⟨vr, o5, o6, o7, ty, ly', tk, lf, rest, rfl, rfl, hB, hty, hly, hvr, hI⟩
    rw [hyl] at hI
    refine sm_own fun own => ?_
    have ble' : B' le = none := own le _ upd_same
    have bta' : B' ta = none := own ta (.lst ty) (by rw [upd_ne ne, upd_same])
    refine EmS.frz (p := le) upd_same ?_
    rw [del_upd (by rw [upd_ne ne.symm]; rw [upd_ne ne.symm] at mle; exact mle)]
    refine EmS.frz (p := ta) upd_same ?_
    rw [del_upd mta]
    have x1 : Ex B' (upd B' le (.lst ly')) := Ex.up ble'
    have x2 : Ex (upd B' le (.lst ly')) (upd (upd B' le (.lst ly')) ta (.lst ty)) := Ex.up (by rw [upd_ne ne]; exact bta')
    refine sm_one (s1_ret (em_tup (am_cons (em_nm 2 (am_cons (em_nm 3 (am_nil ⟨sl2, fun t ht mt => ?_⟩)))))))
    have xx := (x1.tr x2).tr (Ex.up (o := .tup [.ref ta, .ref le]) ht)
    refine hq _ t (.ref ta) (.ref le) tk lf (hB.tr xx) upd_same ⟨ta, ty, rfl, Ex.up ht _ _ upd_same, paired_up hty xx⟩ ⟨le, ly', rfl, (x2.tr (Ex.up ht)) _ _ upd_same, paired_up hly xx⟩ (hI.ht.mono hxl) (hI.hl.mono hxl) (fun f => ?_) (hI.done (Nat.le_refl _) hu)
    rw [hI.w, List.take_length]
end
end LC
end LcLay4
section LcLay5
set_option maxHeartbeats 4000000
/-! shared. -/
namespace LC
open PySem L2
open He (ga ma)
open He5 (wf)
def shS (q : Rat) (xs : List Part) : List Part := if 0 < q then xs.map fun p => (p.1, p.2 * q) else []
theorem shS_w {q : Rat} (h : 0 ≤ q) (f : Str → Rat) : ∀ xs : List Part, W f (shS q xs) = q * W f xs := fun xs => by
  unfold shS
  split
  · induction xs with
    | nil => rw [List.map_nil, W_nil]; grind
    | cons p xs ih => rw [List.map_cons, W_cons, W_cons, ih]; grind
  · have : q = 0 := by grind
    rw [this, W_nil]; grind
theorem shS_take {q : Rat} {xs : List Part} {i : Nat} {p : Part} (h : xs[i]? = some p) : shS q (xs.take (i + 1)) = if 0 < q then shS q (xs.take i) ++ [(p.1, p.2 * q)] else shS q (xs.take i) := by
  unfold shS
  split
  · rw [List.take_add_one, h, List.map_append]; rfl
  · rfl
theorem shS_ly {L : List Str} {D E n : Nat} {q : Rat} {xs : List Part} (h : Ly L D n xs) (h0 : 0 ≤ q) (h1 : q ≤ 1) (hq : IntD E q) : Ly L (D * E) n (shS q xs) := by
  refine Ly.of_all ?_ ?_ ?_
  · unfold shS
    split
    · rw [List.length_map]; exact h.len
    · exact Nat.zero_le _
  · unfold shS
    split
    · rename_i hp
      intro p hp'
      obtain ⟨r, hr, rfl⟩ := List.mem_map.mp hp'
      have := h.mem hr
      exact ⟨Rat.mul_pos this.1 hp, this.2.1.mul hq, this.2.2⟩
    · intro p hp; cases hp
  · show W one' _ ≤ _
    rw [shS_w h0]
    have h2 : 0 ≤ W one' xs := h.nn
    have h3 : W one' xs ≤ (10000000 : Nat) := h.hi
    have h4 := Rat.mul_le_mul_of_nonneg_right h1 h2
    grind
section
variable {P : Program} {w : World} {K : PySem.W.Frag} {mg : Str → Option Value} {base : Heap}
def spSh (K : PySem.W.Frag) : Spc := fun vs B M Q => ∃ v vq L D E n xs q, vs = [v, vq] ∧ LyAt K B v xs ∧ Ly L D n xs ∧ DOk D ∧ n ≤ 1000 ∧ RatAt K B vq q ∧ 0 ≤ q ∧ q ≤ 1 ∧ IntD E q ∧ Sz q ∧
  ∀ r B', Ex B B' → LyAt K B' r (shS q xs) → Ly L (D * E) n (shS q xs) → Q r B' M
theorem pr_shared (R : RP P w K mg base) : Pr P w K mg base 46 (ga K "shared") [] (spSh K) := by
  refine pr_def R.t.f_shared sc_shared (fun _ _ _ _ _ _ us hl => match us, hl with | [_, _], _ => rfl) (by rintro _ _ _ _ ⟨v, vq, L, D, E, n, xs, q, rfl, _⟩; rfl) ?_
  rintro cdv A outer s H E0 vs B M Q hr ⟨v, vq, L, D, E, n, xs, q, rfl, ⟨l, ys, rfl, hl, hys⟩, ly, dk, hn, hvq, h0, h1, hE, sq, hq⟩
  have hyl := paired_len hys
  have hxl := ly.len
  refine sm_one (s1_ret (em_lcB rfl sc_shared.nd (blk_ok (N := n_shared) (sc := defScope s_shared) [("lot", 2), ("amount", 3)] (by decide +kernel)) (em_nm 0 ⟨l, ys, rfl, hl, ?_⟩)))
  refine ⟨by omega, fun i acc B' => Paired (PtAt K B') acc (shS q (xs.take i)), fun i acc B1 B2 hB h => paired_up h hB, ?_, ?_, ?_⟩
  · have : shS q [] = [] := by unfold shS; split <;> rfl
    show Paired (PtAt K B) [] (shS q [])
    rw [this]; exact .nil
  · rintro i y acc B1 M1 hy hi hB1 _ hacc
    dsimp only at hy
    obtain ⟨p, hp, t, r, rfl, hq1, hq2⟩ := paired_at hys hy
    have hpm := List.mem_of_getElem? hp
    refine bg_of fun s0 H0 C cl fp => gm_tup rfl (SqT.of (jn_b (hB1 _ _ hq1))) (gms_cons (gm_name 2 sc_shared.nd (gms_cons (gm_name 3 sc_shared.nd (gms_nil ⟨rfl, rfl, bt_one fun s2 H2 C2 cl2 fp2 => tm_cmp op_gt (em_rtop R.t (em_nm 1 ⟨q, hvq.up hB1, em_int (om_I0 ⟨_, rfl, rfl, ?_⟩)⟩))⟩)))))
    show if decide (0 < q.num) = true then _ else Paired (PtAt K B1) acc (shS q (xs.take (i + 1)))
    by_cases hc : 0 < q
    · refine ift (dt (num_pos' hc)) (be_of fun s1 H1 C1 cl1 fp1 => em_tup (am_cons (em_nm 2 (am_cons (em_Rmul R (hr.mono (by decide)) (em_nm 3 (em_nm 1 ⟨p.2, q, hq2.up hB1, (hvq.up hB1).num, ly.sz dk hpm, sq, fun v5 B5 hB5 hv5 => am_nil ⟨sl2, fun t5 ht mt => ⟨rfl, ?_⟩⟩⟩)))))))
      show Paired (PtAt K _) (acc ++ [V.ref t5]) (shS q (xs.take (i + 1)))
      rw [shS_take hp, if_pos hc]
      have xx := hB5.tr (Ex.up (o := .tup [.str p.1, v5]) ht)
      exact paired_append (paired_up hacc xx) (.cons ⟨t5, v5, rfl, upd_same, hv5.up (Ex.up ht)⟩ .nil)
    · refine iff' (df (fun z => hc (num_pos_iff.mp z))) ?_
      rw [shS_take hp, if_neg hc]
      exact hacc
  · rintro d zs B1 hB1 hd hz
    rw [hyl, List.take_length] at hz
    exact hq _ B1 hB1 ⟨d, zs, rfl, hd, hz⟩ (shS_ly ly h0 h1 hE)
/-- the functions over parts -/
structure LP (P : Program) (w : World) (K : PySem.W.Frag) (mg : Str → Option Value) (base : Heap) : Prop where
  r : RP P w K mg base
  units : Pr P w K mg base 46 (ga K "units_in") [] (spUn K)
  check : Pr P w K mg base 48 (ga K "check_units") [] (spChk K)
  stk : Pr P w K mg base 46 (ga K "stacked") [] (spStk K)
  cut : Pr P w K mg base 46 (ga K "cut") [] (spCut K)
  sh : Pr P w K mg base 46 (ga K "shared") [] (spSh K)
theorem lp_of (R : RP P w K mg base) : LP P w K mg base := ⟨R, pr_units R, pr_check R, pr_stacked R, pr_cut R, pr_shared R⟩
end
end LC
end LcLay5
section LcRule
set_option maxHeartbeats 4000000
/-! Rule(..), its call. -/
namespace LC
open PySem L2
open He (ga ma)
open He5 (wf)
def takesL : List Str := ["oldest", "newest", "even"]
def spotsL : List Str := ["own", "top", "bottom"]
def ruleO (K : PySem.W.Frag) (dx : Addr) (tk pl : Str) (pd : Int) : HO := .ins (ga K "Rule") dx [("take", .str tk), ("place", .str pl), ("period", .int pd)]
def RuleAt (K : PySem.W.Frag) (B : Hp) (v : V) (tk pl : Str) (pd : Int) : Prop := ∃ a dx, v = .ref a ∧ B a = some (ruleO K dx tk pl pd)
theorem RuleAt.up {K : PySem.W.Frag} {B B' : Hp} {v : V} {tk pl : Str} {pd : Int} (h : RuleAt K B v tk pl pd) (x : Ex B B') : RuleAt K B' v tk pl pd := let ⟨a, dx, h1, h2⟩ := h; ⟨a, dx, h1, x _ _ h2⟩
section
variable {P : Program} {w : World} {K : PySem.W.Frag} {mg : Str → Option Value} {base : Heap}
def spRu (K : PySem.W.Frag) : Spc := fun vs B M Q => ∃ a dx tk pl pd, vs = [.ref a, .str tk, .str pl, .int pd] ∧ M a = some (.ins (ga K "Rule") dx []) ∧ tk ∈ takesL ∧ pl ∈ spotsL ∧ 0 ≤ pd ∧ pd ≤ 1000000 ∧ ∀ B', Ex B B' → Q .non B' (upd M a (ruleO K dx tk pl pd))
theorem bd_ruinit (t : Tx K mg) {k : Nat} : ∀ (cdv : Value) (A : Around) (outer : List Env) (s : Shared) (H : Hp) (E : XK) (vs : List V) (B M : Hp) (Q : V → Hp → Hp → Prop), Room (k + 1) (A.deeper (PyProof.Rows.envOfC "Rule.__init__" (defScope s_Rule_init) s.heap.objs.size (ma K (ga K "Rule") "__init__") cdv)) → spRu K vs B M Q →
      SM (cxOf CX0 P w K mg base n_Rule_init "Rule.__init__" (defScope s_Rule_init) (ma K (ga K "Rule") "__init__") cdv A outer s H E).nox (defBody s_Rule_init) (start n_Rule_init vs) B M { nx := fun _ B' M' => Q .non B' M', rt := Q } := by
  rintro cdv A outer s H E vs B M Q hr ⟨a, dx, tk, pl, pd, rfl, ha, htk, hpl, h0, h1, hq⟩
  have nin : ∀ {x : Str} {l : List Str}, x ∈ l → (!inV (.str x) (l.map V.str)) = false := fun {x l} h => by rw [inV_str, dt h]; rfl
  refine sm_cons (s1_if (tm_cmp op_notIn_seq (em_nm 1 (em_glob (v := .ref (ga K "TAKES")) t.g_TAKES rfl (om_in ⟨_, _, rfl, .inr (t.tup_TAKES _), rfl, flat_strs _, _, rfl, ?_⟩)))))
  refine iff' (nin htk) (sm_nil ?_)
  refine sm_cons (s1_if (tm_cmp op_notIn_seq (em_nm 2 (em_glob (v := .ref (ga K "SPOTS")) t.g_SPOTS rfl (om_in ⟨_, _, rfl, .inr (t.tup_SPOTS _), rfl, flat_strs _, _, rfl, ?_⟩)))))
  refine iff' (nin hpl) (sm_nil ?_)
  refine sm_cons (s1_if (tm_not (tm_val (em_call (pr_is_number t (k := k)) hr t.g_is_number (am_cons (em_nm 3 (am_cons (em_int (am_nil ⟨pd, 0, rfl, h0, h1, fun B1 hB1 => ⟨true, rfl, iff' rfl (sm_nil ?_)⟩⟩)))))))))
  refine sm_cons (s1_fld (em_nm 1 (em_nm 0 ⟨a, _, dx, [], rfl, ha, t.cl_Rule, t.no_Rule_take, by decide, ?_⟩)))
  refine sm_cons (s1_fld (em_nm 2 (em_nm 0 ⟨a, _, dx, _, rfl, upd_same, t.cl_Rule, t.no_Rule_place, (by show (1 : Nat) < 1000; decide), ?_⟩)))
  refine sm_one (s1_fld (em_nm 3 (em_nm 0 ⟨a, _, dx, _, rfl, upd_same, t.cl_Rule, t.no_Rule_period, (by show (2 : Nat) < 1000; decide), ?_⟩)))
  rw [upd_twice, upd_twice]
  exact hq B1 hB1
theorem ok_ruinit (t : Tx K mg) {k : Nat} : ∃ (fd : FuncData) (mv : List Value), FnOk P w K mg base CX0 (k + 2) (ma K (ga K "Rule") "__init__") fd ["self", "take", "place", "period"] (MSp (spRu K)) ∧ KBn K fd ["self", "take", "place", "period"] 2 ["place", "period"] (fun us ws => us ++ ws) (fun vs zs => vs ++ zs) := by
  obtain ⟨fd, F⟩ := t.f_Rule_init
  obtain ⟨mv, hb⟩ := F.kbinds0 (ps := ["self", "take", "place", "period"]) 2 ["place", "period"] [] (fun us _ ws => us ++ ws) (by decide) (fun q hq => by cases hq) (fun r1 _ r2 => r1.append r2) (fun D doc pm an cdv ct us mv ws l1 l2 l3 => by
    match us, mv, ws, l1, l2, l3 with
    | [_, _], [], [_, _], _, _, _ => exact rfl)
  exact ⟨fd, mv, body_ok F sc_Rule_init (by rintro vs B M Q ⟨a, dx, tk, pl, pd, rfl, _⟩; rfl) (bd_ruinit t), hb⟩
end
section
variable {X : Cx} {e1 e2 e3 : Expr} {σ : St} {B M : Hp} {P : V → Hp → Hp → Prop} {p pos k1 k2 : Pos}
theorem em_Rule (t : Tx X.K X.mg) (hr : Room 50 X.A) (h : EM X e1 σ B M fun x B1 M1 => EM X e2 σ B1 M1 fun y B2 M2 => EM X e3 σ B2 M2 fun z B3 M3 => ∃ tk pl pd, x = .str tk ∧ y = .str pl ∧ z = .int pd ∧ tk ∈ takesL ∧ pl ∈ spotsL ∧ 0 ≤ pd ∧ pd ≤ 1000000 ∧ ∀ v B', Ex B3 B' → RuleAt X.K B' v tk pl pd → P v B' M3) (hg : Gl X "Rule" := by rfl)
    (hall : (backToKw pos (keywordEach [⟨some "place", e2, k1⟩, ⟨some "period", e3, k2⟩] X.env)).all (·.1.isSome) = true := by rfl) (hks : (backToKw pos (keywordEach [⟨some "place", e2, k1⟩, ⟨some "period", e3, k2⟩] X.env)).filterMap (·.1) = ([("place" : Str), "period"] : List Str) := by rfl)
    (he : starEach [e1] X.env = (false, eval e1 X.env) :: starEach [] X.env := by rfl) (hpl : ((backTo pos (starEach [e1] X.env)).any (·.1) || (backToKw pos (keywordEach [⟨some "place", e2, k1⟩, ⟨some "period", e3, k2⟩] X.env)).any (·.1.isNone)) = false := by rfl) :
    EM X (.Call (.Name "Rule" p) [e1] [⟨some "place", e2, k1⟩, ⟨some "period", e3, k2⟩] pos) σ B M P := by
  obtain ⟨fd, mv, F, hb⟩ := ok_ruinit (P := X.prog) (w := X.w) (base := X.base) t (k := 40)
  refine Emt.fzN (em_of (pe_makeK (n := 1) t.mk_Rule F (hr.mono (by decide)) hg t.g_Rule hb pass0 (pa_cons pe_w pa_nil he) (pk_cons pe_w (pk_cons pe_w pk_nil)) hall hks (by decide) he hpl) fun H w Q kq => ?_)
  refine h H w _ fun x B1 M1 H1 g1 q1 => ?_
  refine q1 H1 g1.own _ fun y B2 M2 H2 g2 q2 => q2 H2 g2.own _ fun z B3 M3 H3 g3 ⟨tk, pl, pd, ex, ey, ez, h1, h2, h3, h4, hP⟩ => ⟨rfl, rfl, ?_⟩
  subst ex ey ez
  have g := (g1.tr g2).tr g3
  refine make_go (S := spRu X.K) (dvs := [.str pl, .int pd]) (vs := [.str tk]) g3.own (P := fun v B' M' => ∃ p o, M' p = some o ∧ (B' p = none → P v (upd B' p o) (del M' p))) (fun v B' M' H' g4 q => kq v B' M' H' (g.tr g4) q) ?_
  intro xa dx b1 m1 b2 m2 ne
  refine ⟨xa, dx, tk, pl, pd, rfl, upd_same, h1, h2, h3, h4, fun B' hB' => ⟨rfl, xa, _, upd_same, fun hn => ?_⟩⟩
  rw [upd_twice, del_upd m1]
  have x1 : Ex B3 (upd B3 dx (.own xa)) := Ex.up b2
  exact hP _ _ ((x1.tr hB').tr (Ex.up hn)) ⟨xa, dx, rfl, upd_same⟩
end
end LC
end LcRule
section LcRule2
set_option maxHeartbeats 4000000
/-! A rule's call; returned. -/
namespace LC
open PySem L2
open He (ga ma)
open He5 (wf)
theorem nat_le_rat {a b : Nat} (h : a ≤ b) : (a : Rat) ≤ (b : Rat) := by exact_mod_cast h
theorem IntD.abs_sz {D : Nat} {q : Rat} (d : DOk D) (h : IntD D q) (h0 : 0 ≤ q) (h1 : q ≤ (10000000 : Nat)) : Sz q := by
  obtain ⟨h2, h3⟩ := b8 h0 h1
  exact d.sz h h2 h3
theorem dok_small {E : Nat} (h0 : 1 ≤ E) (h1 : E ≤ 10000000) : DOk E := ⟨h0, Nat.lt_of_le_of_lt h1 (by decide)⟩
theorem sz_nat {n : Nat} (h : n ≤ 10000000) : Sz (n : Rat) := IntD.abs_sz (dok_small (E := 1) (by decide) (by decide)) (IntD.nat n) (by exact_mod_cast Nat.zero_le n) (nat_le_rat h)
structure ShareOk (u T : Nat) (q : Rat) : Prop where
  h0 : 0 ≤ q
  h1 : q ≤ 1
  i : IntD T q
  s : Sz q
  g0 : 0 ≤ 1 - q
  g1 : 1 - q ≤ 1
  j : IntD T (1 - q)
  r : Sz (1 - q)
  m : q * (T : Rat) = u
  n : (T : Rat) ≠ 0
theorem share_ok {u T : Nat} (h1 : 1 ≤ u) (h2 : u ≤ T) (h3 : T ≤ 10000000) : ShareOk u T ((u : Rat) / (T : Rat)) := by
  have hT : (0 : Rat) < (T : Rat) := by exact_mod_cast (show 0 < T by omega)
  have hu : (0 : Rat) ≤ (u : Rat) := by exact_mod_cast Nat.zero_le u
  have huT := nat_le_rat h2
  have hn : (T : Rat) ≠ 0 := fun e => by rw [e] at hT; exact Rat.lt_irrefl hT
  have m : (u : Rat) / (T : Rat) * (T : Rat) = u := by grind
  have q0 : 0 ≤ (u : Rat) / (T : Rat) := by
    rw [Rat.div_def]; exact Rat.mul_nonneg hu (Rat.le_of_lt (Rat.inv_pos.mpr hT))
  have q1 : (u : Rat) / (T : Rat) ≤ 1 := by
    refine Classical.byContradiction fun z => ?_
    have z' : 0 < (u : Rat) / (T : Rat) - 1 := by grind
    have := Rat.mul_pos z' hT
    grind
  have i : IntD T ((u : Rat) / (T : Rat)) := ⟨(u : Int), by rw [m, Rat.intCast_natCast]⟩
  have d : DOk T := dok_small (by omega) h3
  have b : ∀ {q : Rat}, q ≤ 1 → q ≤ (10000000 : Nat) := fun {q} h => Rat.le_trans h (by decide)
  have j : IntD T (1 - (u : Rat) / (T : Rat)) := by
    have := (IntD.int (D := T) 1).sub i
    exact this
  have g0 : 0 ≤ 1 - (u : Rat) / (T : Rat) := by grind
  have g1 : 1 - (u : Rat) / (T : Rat) ≤ 1 := by grind
  exact ⟨q0, q1, i, i.abs_sz d q0 (b q1), g0, g1, j, j.abs_sz d g0 (b g1), m, hn⟩
def CutOk (L : List Str) (D n u : Nat) (xs ak lf : List Part) (E : Nat) : Prop := 1 ≤ E ∧ E ≤ 10000000 ∧ Ly L (D * E) n ak ∧ Ly L (D * E) n lf ∧ (∀ f, W f ak + W f lf = W f xs) ∧ tot ak = u
theorem cutOk_one {L : List Str} {D n u : Nat} {xs ak lf : List Part} (h1 : Ly L D n ak) (h2 : Ly L D n lf) (h3 : ∀ f, W f ak + W f lf = W f xs) (h4 : tot ak = u) : CutOk L D n u xs ak lf 1 := ⟨by decide, by decide, h1.lift, h2.lift, h3, h4⟩
theorem cutOk_sh {L : List Str} {D n u T : Nat} {xs : List Part} {q : Rat} (s : ShareOk u T q) (hx : tot xs = T) (h1 : 1 ≤ T) (h3 : T ≤ 10000000) {ys zs : List Part} (hy : Ly L (D * T) n (shS q ys)) (hz : Ly L (D * T) n (shS (1 - q) zs)) (wy : ∀ f, W f ys = W f xs) (wz : ∀ f, W f zs = W f xs) :
    CutOk L D n u xs (shS q ys) (shS (1 - q) zs) T := by
  refine ⟨h1, h3, hy, hz, fun f => ?_, ?_⟩
  · rw [shS_w s.h0, shS_w s.g0, wy, wz]; grind
  · show W one' _ = _
    have e : W one' xs = T := hx
    rw [shS_w s.h0, wy, e]; exact s.m
section
variable {P : Program} {w : World} {K : PySem.W.Frag} {mg : Str → Option Value} {base : Heap}
def spCall (K : PySem.W.Frag) : Spc := fun vs B M Q => ∃ x v vu L D n xs u T tk pl pd, vs = [x, v, vu] ∧ RuleAt K B x tk pl pd ∧ LyAt K B v xs ∧ Ly L D n xs ∧ DOk D ∧ n ≤ 1000 ∧ NumAt K B vu ((u : Nat) : Rat) ∧ 1 ≤ u ∧ u ≤ T ∧ tot xs = (T : Nat) ∧
  ∀ B' r v1 v2 E ak lf, Ex B B' → B' r = some (.tup [v1, v2]) → LyAt K B' v1 ak → LyAt K B' v2 lf → CutOk L D n u xs ak lf E → Q (.ref r) B' M
theorem tot_T {L : List Str} {D n T : Nat} {xs : List Part} (h : Ly L D n xs) (e : tot xs = (T : Nat)) : T ≤ 10000000 := by
  have := h.hi
  rw [e] at this
  exact_mod_cast this
theorem pr_rcall (R : LP P w K mg base) : Pr P w K mg base 50 (ma K (ga K "Rule") "__call__") [] (spCall K) := by
  refine pr_def R.r.t.f_Rule_call sc_Rule_call (fun _ _ _ _ _ _ us hl => match us, hl with | [_, _, _], _ => rfl) (by rintro _ _ _ _ ⟨x, v, vu, L, D, n, xs, u, T, tk, pl, pd, rfl, _⟩; rfl) ?_
  rintro cdv A outer s H E vs B M Q hr ⟨x, v, vu, L, D, n, xs, u, T, tk, pl, pd, rfl, ⟨a, dx, rfl, ha⟩, hv, ly, dk, hn, hvu, h1, h2, hT, hq⟩
  have hT7 := tot_T ly hT
  have sh := share_ok h1 h2 hT7
  have su : Sz (u : Rat) := sz_nat (by omega)
  have hle : (u : Rat) ≤ tot xs := by rw [hT]; exact nat_le_rat h2
  refine sm_cons (s1_expr (em_call R.check (hr.mono (by decide)) R.r.t.g_check_units (am_cons (em_nm 1 (am_cons (em_nm 2 (am_nil ⟨v, vu, L, D, n, xs, u, rfl, hv, ly, dk, hn, hvu, su, hle, fun B1 hB1 => ?_⟩)))))))
  refine sm_cons (s1_if (tm_cmp op_eq (em_fld (em_nm 0 ⟨a, _, dx, _, _, rfl, jn_b (hB1 _ _ ha), R.r.t.cl_Rule, R.r.t.no_Rule_take, rfl, em_str (om_eq rfl ⟨_, rfl, ?_⟩)⟩))))
  by_cases he : tk = "even"
  · refine ift (dt (by rw [he])) ?_
    refine sm_cons (s1_set 3 sc_Rule_call.nd (em_Rover R.r (hr.mono (by decide)) (em_Rone R.r (hr.mono (by decide)) (em_nm 2 ⟨u, hvu.up hB1, su, fun v2 B2 hB2 hv2 => ⟨u, hv2, em_call R.units (hr.mono (by decide)) R.r.t.g_units_in (am_cons (em_nm 1 (am_nil ⟨v, L, D, n, xs, rfl, hv.up (hB1.tr hB2), ly, dk, hn, fun v3 B3 hB3 hv3 => ?_⟩)))⟩⟩))))
    rw [hT] at hv3
    refine ⟨(T : Nat), hv3.num, su, sz_nat hT7, sh.n, fun vq B4 hB4 hvq => ?_⟩
    have hB : Ex B B4 := ((hB1.tr hB2).tr hB3).tr hB4
    refine sm_one (s1_ret (em_tup (am_cons (em_call R.sh (hr.mono (by decide)) R.r.t.g_shared (am_cons (em_nm 1 (am_cons (em_nm 3 (am_nil ⟨v, vq, L, D, T, n, xs, _, rfl, hv.up hB, ly, dk, hn, hvq, sh.h0, sh.h1, sh.i, sh.s, fun r5 B5 hB5 hr5 ly5 => ?_⟩)))))))))
    refine am_cons (em_call R.sh (hr.mono (by decide)) R.r.t.g_shared (am_cons (em_nm 1 (am_cons (em_Rsub R.r (hr.mono (by decide)) (em_int (em_nm 3 ⟨1, _, .inl ⟨.inl ⟨1, rfl, rfl⟩, hvq.up hB5⟩, szI, sh.s, fun v6 B6 hB6 hv6 => am_nil ⟨v, v6, L, D, T, n, xs, _, rfl, hv.up ((hB.tr hB5).tr hB6), ly, dk, hn, hv6, sh.g0, sh.g1, sh.j, sh.r, fun r7 B7 hB7 hr7 ly7 => am_nil ⟨sl2, fun t ht mt => ?_⟩⟩⟩)))))))
    exact hq _ t r5 r7 T _ _ ((((hB.tr hB5).tr hB6).tr hB7).tr (Ex.up ht)) upd_same (hr5.up ((hB6.tr hB7).tr (Ex.up ht))) (hr7.up (Ex.up ht)) (cutOk_sh sh hT (by omega) hT7 ly5 ly7 (fun _ => rfl) (fun _ => rfl))
  refine iff' (df (fun z => he (by injection z))) (sm_nil ?_)
  refine sm_cons (s1_if (tm_cmp op_eq (em_fld (em_nm 0 ⟨a, _, dx, _, _, rfl, jn_b (hB1 _ _ ha), R.r.t.cl_Rule, R.r.t.no_Rule_take, rfl, em_str (om_eq rfl ⟨_, rfl, ?_⟩)⟩))))
  obtain ⟨l, ys, rfl, hl, hys⟩ := id hv
  by_cases he2 : tk = "newest"
  · refine ift (dt (by rw [he2])) ?_
    refine sm_cons (s1_asg (em_call R.cut (hr.mono (by decide)) R.r.t.g_cut (am_cons (em_rev (em_nm 1 ⟨l, ys, rfl, SqL.of (jn_b (hB1 _ _ hl)), fun l2 hl2 ml2 => am_cons (em_nm 2 (am_nil ⟨.ref l2, vu, L, D, n, xs.reverse, u, rfl, ⟨l2, _, rfl, upd_same, paired_up (paired_rev hys) (hB1.tr (Ex.up hl2))⟩, ly.rev, dk, hn, hvu.up (hB1.tr (Ex.up hl2)), ?_, ?_⟩))⟩)))))
    · show (u : Rat) ≤ W one' xs.reverse
      rw [W_rev]; exact hle
    rintro B3 r v1 v2 ak lf hB3 hr3 hv1 hv2 lyk lyf hw htk
    obtain ⟨lf0, fy, rfl, hlf0, hfy⟩ := id hv2
    have hB : Ex B B3 := (hB1.tr (Ex.up hl2)).tr hB3
    refine gm_tup rfl (SqT.of (jn_b hr3)) (gms_cons (gm_name 4 sc_Rule_call.nd (gms_cons (gm_name 5 sc_Rule_call.nd (gms_nil ?_)))))
    refine sm_one (s1_ret (em_tup (am_cons (em_nm 4 (am_cons (em_call R.stk (hr.mono (by decide)) R.r.t.g_stacked (am_cons (em_rev (em_nm 5 ⟨lf0, fy, rfl, SqL.of (jn_b hlf0), fun l4 hl4 ml4 => am_nil ⟨.ref l4, L, D, n, lf.reverse, rfl, ⟨l4, _, rfl, upd_same, paired_up (paired_rev hfy) (Ex.up hl4)⟩, lyf.rev, dk, hn, fun r5 B5 ys5 hB5 hr5 ly5 hw5 => am_nil ⟨sl2, fun t ht mt => ?_⟩⟩⟩)))))))))
    refine hq _ t v1 r5 1 ak ys5 (((hB.tr (Ex.up hl4)).tr hB5).tr (Ex.up ht)) upd_same (hv1.up (((Ex.up hl4).tr hB5).tr (Ex.up ht))) (hr5.up (Ex.up ht)) (cutOk_one lyk ly5 (fun f => ?_) htk)
    rw [hw5, W_rev, hw, W_rev]
  refine iff' (df (fun z => he2 (by injection z))) (sm_nil ?_)
  refine sm_cons (s1_asg (em_call R.cut (hr.mono (by decide)) R.r.t.g_cut (am_cons (em_nm 1 (am_cons (em_nm 2 (am_nil ⟨.ref l, vu, L, D, n, xs, u, rfl, hv.up hB1, ly, dk, hn, hvu.up hB1, hle, ?_⟩)))))))
  rintro B3 r v1 v2 ak lf hB3 hr3 hv1 hv2 lyk lyf hw htk
  have hB : Ex B B3 := hB1.tr hB3
  refine gm_tup rfl (SqT.of (jn_b hr3)) (gms_cons (gm_name 4 sc_Rule_call.nd (gms_cons (gm_name 5 sc_Rule_call.nd (gms_nil ?_)))))
  refine sm_one (s1_ret (em_tup (am_cons (em_nm 4 (am_cons (em_call R.stk (hr.mono (by decide)) R.r.t.g_stacked (am_cons (em_nm 5 (am_nil ⟨v2, L, D, n, lf, rfl, hv2, lyf, dk, hn, fun r5 B5 ys5 hB5 hr5 ly5 hw5 => am_nil ⟨sl2, fun t ht mt => ?_⟩⟩)))))))))
  refine hq _ t v1 r5 1 ak ys5 ((hB.tr hB5).tr (Ex.up ht)) upd_same (hv1.up (hB5.tr (Ex.up ht))) (hr5.up (Ex.up ht)) (cutOk_one lyk ly5 (fun f => ?_) htk)
  rw [hw5, hw]
theorem pr_returned (R : LP P w K mg base) : Pr P w K mg base 50 (ma K (ga K "Rule") "returned") [] (spCall K) := by
  refine pr_def R.r.t.f_Rule_returned sc_Rule_returned (fun _ _ _ _ _ _ us hl => match us, hl with | [_, _, _], _ => rfl) (by rintro _ _ _ _ ⟨x, v, vu, L, D, n, xs, u, T, tk, pl, pd, rfl, _⟩; rfl) ?_
  rintro cdv A outer s H E vs B M Q hr ⟨x, v, vu, L, D, n, xs, u, T, tk, pl, pd, rfl, ⟨a, dx, rfl, ha⟩, hv, ly, dk, hn, hvu, h1, h2, hT, hq⟩
  have hT7 := tot_T ly hT
  have sh := share_ok h1 h2 hT7
  have su : Sz (u : Rat) := sz_nat (by omega)
  have hle : (u : Rat) ≤ tot xs := by rw [hT]; exact nat_le_rat h2
  refine sm_cons (s1_expr (em_call R.check (hr.mono (by decide)) R.r.t.g_check_units (am_cons (em_nm 1 (am_cons (em_nm 2 (am_nil ⟨v, vu, L, D, n, xs, u, rfl, hv, ly, dk, hn, hvu, su, hle, fun B1 hB1 => ?_⟩)))))))
  refine sm_cons (s1_if (tm_cmp op_eq (em_fld (em_nm 0 ⟨a, _, dx, _, _, rfl, jn_b (hB1 _ _ ha), R.r.t.cl_Rule, R.r.t.no_Rule_take, rfl, em_str (om_eq rfl ⟨_, rfl, ?_⟩)⟩))))
  obtain ⟨l, ys, rfl, hl, hys⟩ := id hv
  by_cases he : tk = "even"
  · refine ift (dt (by rw [he])) ?_
    refine sm_cons (s1_set 3 sc_Rule_returned.nd (em_Rover R.r (hr.mono (by decide)) (em_Rone R.r (hr.mono (by decide)) (em_nm 2 ⟨u, hvu.up hB1, su, fun v2 B2 hB2 hv2 => ⟨u, hv2, em_call R.units (hr.mono (by decide)) R.r.t.g_units_in (am_cons (em_nm 1 (am_nil ⟨.ref l, L, D, n, xs, rfl, hv.up (hB1.tr hB2), ly, dk, hn, fun v3 B3 hB3 hv3 => ?_⟩)))⟩⟩))))
    rw [hT] at hv3
    refine ⟨(T : Nat), hv3.num, su, sz_nat hT7, sh.n, fun vq B4 hB4 hvq => ?_⟩
    have hB : Ex B B4 := ((hB1.tr hB2).tr hB3).tr hB4
    refine sm_one (s1_ret (em_tup (am_cons (em_call R.sh (hr.mono (by decide)) R.r.t.g_shared (am_cons (em_rev (em_nm 1 ⟨l, ys, rfl, SqL.of (jn_b (hB _ _ hl)), fun l0 hl0 ml0 => am_cons (em_nm 3 (am_nil ⟨.ref l0, vq, L, D, T, n, xs.reverse, _, rfl, ⟨l0, _, rfl, upd_same, paired_up (paired_rev hys) (hB.tr (Ex.up hl0))⟩, ly.rev, dk, hn, hvq.up (Ex.up hl0), sh.h0, sh.h1, sh.i, sh.s, fun r5 B5 hB5 hr5 ly5 => ?_⟩))⟩)))))))
    have hB0 : Ex B4 B5 := (Ex.up hl0).tr hB5
    refine am_cons (em_call R.sh (hr.mono (by decide)) R.r.t.g_shared (am_cons (em_nm 1 (am_cons (em_Rsub R.r (hr.mono (by decide)) (em_int (em_nm 3 ⟨1, _, .inl ⟨.inl ⟨1, rfl, rfl⟩, hvq.up hB0⟩, szI, sh.s, fun v6 B6 hB6 hv6 => am_nil ⟨.ref l, v6, L, D, T, n, xs, _, rfl, hv.up ((hB.tr hB0).tr hB6), ly, dk, hn, hv6, sh.g0, sh.g1, sh.j, sh.r, fun r7 B7 hB7 hr7 ly7 => am_nil ⟨sl2, fun t ht mt => ?_⟩⟩⟩)))))))
    exact hq _ t r5 r7 T _ _ ((((hB.tr hB0).tr hB6).tr hB7).tr (Ex.up ht)) upd_same (hr5.up ((hB6.tr hB7).tr (Ex.up ht))) (hr7.up (Ex.up ht)) (cutOk_sh sh hT (by omega) hT7 ly5 ly7 (fun f => W_rev f xs) (fun _ => rfl))
  refine iff' (df (fun z => he (by injection z))) (sm_nil ?_)
  refine sm_cons (s1_asg (em_call R.cut (hr.mono (by decide)) R.r.t.g_cut (am_cons (em_rev (em_nm 1 ⟨l, ys, rfl, SqL.of (jn_b (hB1 _ _ hl)), fun l2 hl2 ml2 => am_cons (em_nm 2 (am_nil ⟨.ref l2, vu, L, D, n, xs.reverse, u, rfl, ⟨l2, _, rfl, upd_same, paired_up (paired_rev hys) (hB1.tr (Ex.up hl2))⟩, ly.rev, dk, hn, hvu.up (hB1.tr (Ex.up hl2)), ?_, ?_⟩))⟩)))))
  · show (u : Rat) ≤ W one' xs.reverse
    rw [W_rev]; exact hle
  rintro B3 r v1 v2 ak lf hB3 hr3 hv1 hv2 lyk lyf hw htk
  obtain ⟨lf0, fy, rfl, hlf0, hfy⟩ := id hv2
  have hB : Ex B B3 := (hB1.tr (Ex.up hl2)).tr hB3
  refine gm_tup rfl (SqT.of (jn_b hr3)) (gms_cons (gm_name 4 sc_Rule_returned.nd (gms_cons (gm_name 5 sc_Rule_returned.nd (gms_nil ?_)))))
  refine sm_one (s1_ret (em_tup (am_cons (em_nm 4 (am_cons (em_rev (em_nm 5 ⟨lf0, fy, rfl, SqL.of (jn_b hlf0), fun l4 hl4 ml4 => am_nil ⟨sl2, fun t ht mt => ?_⟩⟩)))))))
  refine hq _ t v1 (.ref l4) 1 ak lf.reverse ((hB.tr (Ex.up hl4)).tr (Ex.up ht)) upd_same (hv1.up ((Ex.up hl4).tr (Ex.up ht))) ⟨l4, _, rfl, Ex.up ht _ _ upd_same, paired_up (paired_rev hfy) ((Ex.up hl4).tr (Ex.up ht))⟩ (cutOk_one lyk lyf.rev (fun f => ?_) htk)
  rw [W_rev, hw, W_rev]
end
end LC
end LcRule2
section LcRule3
set_option maxHeartbeats 4000000
/-! put. -/
namespace LC
open PySem L2
open He (ga ma)
open He5 (wf)
section
variable {X : Cx} {e : Expr} {es : List Expr} {σ : St} {B M : Hp} {PA' : List V → Hp → Hp → Prop} {p : Pos}
/-- *e in a display -/
theorem am_star (h : EM X e σ B M fun x B1 M1 => ∃ q xs, x = .ref q ∧ SqL X.K (jn B1 M1) q xs ∧ AM X es σ B1 M1 fun ys B2 M2 => PA' (xs ++ ys) B2 M2) (hs : starEach (.Starred e p :: es) X.env = (true, eval e X.env) :: starEach es X.env := by rfl) : AM X (.Starred e p :: es) σ B M PA' := fun H w Q k =>
  wA_of (StX.pa_star pe_w pa_w hs) (h H w _ fun x B1 M1 H1 g ⟨q, xs, hx, hq, r⟩ => ⟨q, xs, hx, .inr (sql_up g.own.jn hq), r H1 g.own _ fun ys B2 M2 H2 g2 q2 => k _ B2 M2 H2 (g.tr g2) q2⟩)
end
theorem cutV_take {xs : List V} {i : Nat} : cutV xs none (some (i : Int)) = xs.take i := by
  unfold cutV
  rw [HT.sIx_none, HT.sIx_nat, List.drop_zero, Nat.sub_zero]
  by_cases h : i ≤ xs.length
  · rw [Nat.min_eq_left h]
  · rw [Nat.min_eq_right (by omega), List.take_of_length_le (Nat.le_refl _), List.take_of_length_le (by omega)]
theorem cutV_drop {xs : List V} {i : Nat} : cutV xs (some (i : Int)) none = xs.drop i := by
  unfold cutV
  rw [HT.sIx_none, HT.sIx_nat]
  by_cases h : i ≤ xs.length
  · rw [Nat.min_eq_left h, List.take_of_length_le (by rw [List.length_drop]; omega)]
  · rw [Nat.min_eq_right (by omega), List.drop_of_length_le (Nat.le_refl _), List.drop_of_length_le (by omega), List.take_nil]
section
variable {X : Cx} {scope : Scope} {σ : St} {P : V → Hp → Hp → Prop} {vs : List Nat} {test : Expr}
/-- [i for i in range(n) if test] -/
theorem lcb_spots {n : Nat} {B1 M1 : Hp} (G : Nat → Prop) (j : Nat) {x : Str} {tp kp : Pos} (hN : X.N.Nodup) (hn : n ≤ 1000)
    (turn : ∀ (i : Nat) B' M', i < n → Ex B1 B' → ∀ s H0 C cl fp, TM (Blk X scope s H0 C cl fp) test ((wipe σ vs).set j (some (.int i))) B' M' fun k B3 M3 => M3 = M' ∧ (k = true → G i))
    (fin : ∀ d (is : List Nat) B', Ex B1 B' → B' d = some (.lst (is.map fun i => V.int (i : Nat))) → (∀ i ∈ is, i < n ∧ G i) → is.length ≤ n → P (.ref d) B' M1)
    (hw : ∀ x, wipe ((wipe σ vs).set j (some x)) vs = wipe σ vs := by intro _; rfl) (hi : X.N[j]? = some x := by rfl) (hx : Loc (relabel scope X.env) x := by first | exact Or.inl rfl | exact Or.inr rfl)
    (hf : (List.lookup x scope.names == some NameKind.cell) = true ∨ (relabel scope X.env).names.lookup x = some .local := by first | exact Or.inl rfl | exact Or.inr rfl)
    (hs : ∀ x : V, ((wipe σ vs).set j (some x))[j]? = some (some x) := by intro _; rfl) (hd : (x == ("__debug__" : Str)) = false := by decide) (hcd : (x == ("__classdict__" : Str)) = false := by decide) : LcB X scope (.Name x tp) [test] (.Name x kp) vs σ n (fun i => some (.int (i : Nat))) B1 M1 P := by
  refine ⟨hn, fun i acc B => ∃ is : List Nat, acc = is.map (fun i => V.int (i : Nat)) ∧ is.length ≤ i ∧ ∀ k ∈ is, k < i ∧ G k, fun i acc B B' _ h => h, ⟨[], rfl, Nat.le_refl _, fun k hk => by cases hk⟩, ?_, ?_⟩
  · rintro i y acc B' M' hy hin hB hM ⟨is, rfl, hl, hG⟩
    have ey : y = .int (i : Nat) := by injection hy with hy; exact hy.symm
    subst ey
    refine bg_of fun s H0 C cl fp => gm_name j hN ⟨hw _, rfl, bt_one fun s2 H2 C2 cl2 fp2 => (turn i B' M' hin hB s2 H2 C2 cl2 fp2).imp fun k B3 M3 hB3 ⟨e3, hk'⟩ => ⟨e3, ?_⟩⟩ hi hx hf
    cases k with
    | false => exact ⟨is, rfl, by omega, fun k hk => ⟨by have := (hG k hk).1; omega, (hG k hk).2⟩⟩
    | true =>
      refine be_of fun s3 H3 C3 cl3 fp3 => em_name j hi (by rcases hx with h | h; exact .inl h; exact .inr (.inl h)) (hs _) ⟨rfl, is ++ [i], by rw [List.map_append]; rfl, by rw [List.length_append]; simp; omega, fun k hk => ?_⟩ hd hcd
      rcases List.mem_append.mp hk with hk | hk
      · exact ⟨by have := (hG k hk).1; omega, (hG k hk).2⟩
      · rw [List.mem_singleton.mp hk]; exact ⟨by omega, hk' rfl⟩
  · rintro d ys B' hB hd ⟨is, rfl, hl, hG⟩
    exact fin d is B' hB hd hG hl
end
end LC
end LcRule3
section LcRule4
set_option maxHeartbeats 4000000
/-! put, laid. -/
namespace LC
open PySem L2
open He (ga ma)
open He5 (wf)
theorem first_ix {a : Str} : ∀ {L : List Str}, a ∈ L → ∃ j : Nat, L[j]? = some a ∧ ∀ (i : Nat) z, i < j → L[i]? = some z → z ≠ a
  | [], h => by cases h
  | x :: L, h => by
    by_cases e : x = a
    · exact ⟨0, by rw [e]; rfl, fun i z hi => by omega⟩
    · rcases List.mem_cons.mp h with h | h
      · exact absurd h.symm e
      · obtain ⟨j, h1, h2⟩ := first_ix h
        refine ⟨j + 1, by simpa using h1, fun i z hi hz => ?_⟩
        cases i with
        | zero => simp at hz; rw [← hz]; exact e
        | succ i => exact h2 i z (by omega) (by simpa using hz)
section
variable {L : List Str} {D n : Nat} {xs ys : List Part} {p : Part}
theorem Ly.perm (h : Ly L D n xs) (hp : ys.Perm xs) : Ly L D n ys :=
  Ly.of_all (by rw [hp.length_eq]; exact h.len) (fun p q => h.mem (hp.mem_iff.mp q)) (by show W one' ys ≤ _; rw [W_perm _ hp]; exact h.hi)
/-- one part more -/
def PutOk (L : List Str) (D n : Nat) (xs : List Part) (p : Part) (ys : List Part) : Prop := Ly L D (n + 1) ys ∧ ∀ f, W f ys = W f xs + f p.1 * p.2
theorem put_app (h : Ly L D n xs) (hp : 0 < p.2 ∧ IntD D p.2 ∧ p.1 ∈ L) (ht : tot xs + p.2 ≤ (10000000 : Nat)) (hy : ys.Perm (xs ++ [p])) : PutOk L D n xs p ys :=
  ⟨(h.app hp ht).perm hy, fun f => by rw [W_perm f hy, W_append, W_one]⟩
theorem put_mrg {i : Nat} {a : Rat} (h : Ly L D n xs) (hp : 0 < p.2 ∧ IntD D p.2 ∧ p.1 ∈ L) (ht : tot xs + p.2 ≤ (10000000 : Nat)) (hi : xs[i]? = some (p.1, a)) : PutOk L D n xs p (xs.take i ++ (p.1, a + p.2) :: xs.drop (i + 1)) := by
  obtain ⟨hlt, hget⟩ := List.getElem?_eq_some_iff.mp hi
  have e0 : xs = xs.take i ++ (p.1, a) :: xs.drop (i + 1) := by
    rw [← hget, ← List.drop_eq_getElem_cons hlt, List.take_append_drop]
  have p1 : ((xs.take i ++ xs.drop (i + 1)) ++ [(p.1, a)]).Perm xs := by
    refine List.Perm.trans ?_ (List.Perm.of_eq e0.symm)
    rw [List.append_assoc]
    exact List.Perm.append_left _ (List.perm_append_comm)
  have hg := h.perm p1
  have hm := hg.mem (List.mem_append_right _ (List.mem_singleton.mpr rfl))
  have hw : ∀ f, W f xs = W f (xs.take i ++ xs.drop (i + 1)) + f p.1 * a := fun f => by rw [← W_perm f p1, W_append, W_one]
  have p2 : (xs.take i ++ (p.1, a + p.2) :: xs.drop (i + 1)).Perm ((xs.take i ++ xs.drop (i + 1)) ++ [(p.1, a + p.2)]) := by
    rw [List.append_assoc]
    exact List.Perm.append_left _ (List.perm_append_comm (l₁ := [(p.1, a + p.2)]))
  refine ⟨((hg.init.app (p := (p.1, a + p.2)) ⟨by have h1 : 0 < a := hm.1; have h2 := hp.1; show 0 < a + p.2; grind, hm.2.1.add hp.2.1, hp.2.2⟩ ?_).perm p2), fun f => ?_⟩
  · have h1 := hw one'
    have h2 : tot xs = tot (xs.take i ++ xs.drop (i + 1)) + a := by show W one' xs = _; rw [h1]; show _ + 1 * a = _; grind
    show tot (xs.take i ++ xs.drop (i + 1)) + (a + p.2) ≤ _
    grind
  · rw [W_perm f p2, W_append, W_one, hw]; show _ + f p.1 * (a + p.2) = _; grind
end
theorem paired_take {α β : Type} {R : α → β → Prop} : ∀ {xs : List α} {ys : List β}, Paired R xs ys → ∀ i, Paired R (xs.take i) (ys.take i)
  | _, _, _, 0 => by rw [List.take_zero, List.take_zero]; exact .nil
  | _, _, .nil, i + 1 => .nil
  | _, _, .cons r t, i + 1 => .cons r (paired_take t i)
theorem paired_drop {α β : Type} {R : α → β → Prop} : ∀ {xs : List α} {ys : List β}, Paired R xs ys → ∀ i, Paired R (xs.drop i) (ys.drop i)
  | _, _, h, 0 => h
  | _, _, .nil, i + 1 => .nil
  | _, _, .cons _ t, i + 1 => paired_drop t i
section
variable {P : Program} {w : World} {K : PySem.W.Frag} {mg : Str → Option Value} {base : Heap}
def spPut (K : PySem.W.Frag) : Spc := fun vs B M Q => ∃ x v y z L D n xs p tk pl pd, vs = [x, v, y, z] ∧ RuleAt K B x tk pl pd ∧ LyAt K B v xs ∧ PtAt K B y p ∧ StrsAt B z L ∧ Ly L D n xs ∧ DOk D ∧ n ≤ 900 ∧ (0 < p.2 ∧ IntD D p.2 ∧ p.1 ∈ L) ∧ tot xs + p.2 ≤ (10000000 : Nat) ∧ L.length ≤ 100 ∧
  ∀ r B' ys, Ex B B' → LyAt K B' r ys → PutOk L D n xs p ys → Q r B' M
theorem pr_put (R : LP P w K mg base) : Pr P w K mg base 50 (ma K (ga K "Rule") "put") [] (spPut K) := by
  refine pr_def R.r.t.f_Rule_put sc_Rule_put (fun _ _ _ _ _ _ us hl => match us, hl with | [_, _, _, _], _ => rfl) (by rintro _ _ _ _ ⟨x, v, y, z, L, D, n, xs, p, tk, pl, pd, rfl, _⟩; rfl) ?_
  rintro cdv A outer s H E vs B M Q hr ⟨x, v, y, z, L, D, n, xs, p, tk, pl, pd, rfl, ⟨a, dx, rfl, ha⟩, hv, hy, hz, ly, dk, hn, hp, ht, hL, hq⟩
  obtain ⟨l, ys, rfl, hl, hys⟩ := id hv
  obtain ⟨t, r, rfl, hy1, hy2⟩ := id hy
  obtain ⟨lz, rfl, hlz⟩ := id hz
  have hyl := paired_len hys
  have hxl := ly.len
  have big : ∀ {m : Nat}, m ≤ 1000 → m ≤ sizeLine := fun {m} h => Nat.le_trans h (by decide)
  have fld : ∀ {B' : Hp}, Ex B B' → jn B' M a = some (ruleO K dx tk pl pd) := fun h => jn_b (h _ _ ha)
  -- the rest of the body, where the part takes its own place
  refine sm_cons (EmS.imp (fun σ' B' M' => σ' = start n_Rule_put [.ref a, .ref l, .ref t, .ref lz] ∧ M' = M ∧ Ex B B') ?_ fun σ' B' M' _ ⟨eσ, eM, hB⟩ => ?_)
  · refine s1_if (tm_w (wm_and (tm_cmp op_eq (em_fld (em_nm 0 ⟨a, _, dx, _, _, rfl, jn_b ha, R.r.t.cl_Rule, R.r.t.no_Rule_place, rfl, em_str (om_eq rfl ⟨_, rfl, ?_⟩)⟩)))))
    by_cases h1 : pl = "top"
    · refine ift (dt (by rw [h1])) (wm_and1 (tm_cmp op_ne (em_fld (em_nm 0 ⟨a, _, dx, _, _, rfl, jn_b ha, R.r.t.cl_Rule, R.r.t.no_Rule_take, rfl, em_str (om_ne rfl ⟨_, rfl, ?_⟩)⟩))))
      by_cases h2 : tk = "even"
      · exact iff' (by rw [dt (by rw [h2])]; rfl) (sm_nil ⟨rfl, rfl, Ex.id'⟩)
      · refine ift (by rw [df (fun z => h2 (by injection z))]; rfl) ?_
        refine sm_one (s1_ret (em_call R.stk (hr.mono (by decide)) R.r.t.g_stacked (am_cons (em_lstB (am_star (em_nm 1 ⟨l, ys, rfl, SqL.of (jn_b hl), am_cons (em_nm 2 (am_nil ⟨by rw [List.length_append]; exact big (by simp; omega), fun l2 hl2 ml2 => am_nil ⟨.ref l2, L, D, n + 1, xs ++ [p], rfl, ⟨l2, _, rfl, upd_same, paired_append (paired_up hys (Ex.up hl2)) (.cons (hy.up (Ex.up hl2)) .nil)⟩, ly.app hp ht, dk, by omega, fun r5 B5 ys5 hB5 hr5 ly5 hw5 => ?_⟩⟩))⟩))))))
        exact hq r5 B5 ys5 ((Ex.up hl2).tr hB5) hr5 ⟨ly5, fun f => by rw [hw5, W_append, W_one]⟩
    · exact iff' (df (fun z => h1 (by injection z))) (iff' rfl (sm_nil ⟨rfl, rfl, Ex.id'⟩))
  subst eσ eM
  refine sm_cons (EmS.imp (fun σ2 B2 M2 => σ2 = start n_Rule_put [.ref a, .ref l, .ref t, .ref lz] ∧ M2 = M' ∧ Ex B B2) ?_ fun σ2 B2 M2 _ ⟨eσ, eM, hB2⟩ => ?_)
  · refine s1_if (tm_w (wm_and (tm_cmp op_eq (em_fld (em_nm 0 ⟨a, _, dx, _, _, rfl, jn_b (hB _ _ ha), R.r.t.cl_Rule, R.r.t.no_Rule_place, rfl, em_str (om_eq rfl ⟨_, rfl, ?_⟩)⟩)))))
    by_cases h1 : pl = "bottom"
    · refine ift (dt (by rw [h1])) (wm_and1 (tm_cmp op_ne (em_fld (em_nm 0 ⟨a, _, dx, _, _, rfl, jn_b (hB _ _ ha), R.r.t.cl_Rule, R.r.t.no_Rule_take, rfl, em_str (om_ne rfl ⟨_, rfl, ?_⟩)⟩))))
      by_cases h2 : tk = "even"
      · exact iff' (by rw [dt (by rw [h2])]; rfl) (sm_nil ⟨rfl, rfl, hB⟩)
      · refine ift (by rw [df (fun z => h2 (by injection z))]; rfl) ?_
        have pq : (p :: xs).Perm (xs ++ [p]) := List.perm_append_comm (l₁ := [p])
        refine sm_one (s1_ret (em_call R.stk (hr.mono (by decide)) R.r.t.g_stacked (am_cons (em_lstB (am_cons (em_nm 2 (am_star (em_nm 1 ⟨l, ys, rfl, SqL.of (jn_b (hB _ _ hl)), am_nil ⟨by simp; exact big (by omega), fun l2 hl2 ml2 => am_nil ⟨.ref l2, L, D, n + 1, p :: xs, rfl, ⟨l2, _, rfl, upd_same, ?_⟩, (ly.app hp ht).perm pq, dk, by omega, fun r5 B5 ys5 hB5 hr5 ly5 hw5 => ?_⟩⟩⟩))))))))
        · rw [List.append_nil]
          exact .cons (hy.up (hB.tr (Ex.up hl2))) (paired_up hys (hB.tr (Ex.up hl2)))
        exact hq r5 B5 ys5 ((hB.tr (Ex.up hl2)).tr hB5) hr5 ⟨ly5, fun f => by rw [hw5, W_cons]; grind⟩
    · exact iff' (df (fun z => h1 (by injection z))) (iff' rfl (sm_nil ⟨rfl, rfl, hB⟩))
  subst eσ eM
  refine sm_cons (s1_asg (em_nm 2 (gm_tup rfl (SqT.of (jn_b (hB2 _ _ hy1))) (gms_cons (gm_name 4 sc_Rule_put.nd (gms_cons (gm_name 5 sc_Rule_put.nd (gms_nil ?_))))))))
  have spotAt : ∀ {i : Nat}, i < xs.length → ∃ q q' r', xs[i]? = some q ∧ ys[i]? = some (.ref q') ∧ B q' = some (.tup [.str q.1, r']) ∧ RatAt K B r' q.2 := fun {i} hi => by
    have hi' : i < ys.length := by omega
    obtain ⟨q, hq1, q', r', e, h1, h2⟩ := paired_at hys (List.getElem?_eq_getElem hi')
    exact ⟨q, q', r', hq1, by rw [List.getElem?_eq_getElem hi', e], h1, h2⟩
  -- own
  refine sm_cons (s1_lcrB 6 rfl sc_Rule_put.nd (blk_ok (N := n_Rule_put) (sc := defScope s_Rule_put) [("spot", 10)] (by decide +kernel)) R.r.t.u_range (em_len R.r.t.u_len (em_nm 1 ⟨l, ys, rfl, .inl (SqL.of (jn_b (hB2 _ _ hl))), ys.length, rfl, ?_⟩)))
  refine lcb_spots (fun i => ∃ a', xs[i]? = some (p.1, a')) 10 sc_Rule_put.nd (by omega) ?_ ?_
  · intro i B3 M3 hi hB3 s3 H3 C3 cl3 fp3
    obtain ⟨q, q', r', hq1, hq2, hq3, hq4⟩ := spotAt (i := i) (by omega)
    refine tm_cmp op_eq (em_ixT (em_ixL (em_nm 1 (em_nm 10 ⟨l, ys, i, .ref q', rfl, rfl, SqL.of (jn_b (hB3 _ _ (hB2 _ _ hl))), at_nat hq2, em_int ⟨q', _, 0, .str q.1, rfl, rfl, SqT.of (jn_b (hB3 _ _ (hB2 _ _ hq3))), rfl, em_nm 4 (om_eq rfl ⟨_, rfl, rfl, fun hk => ?_⟩)⟩⟩))))
    have e : q.1 = p.1 := by
      have := of_decide_eq_true hk
      injection this
    exact ⟨q.2, by rw [hq1, ← e]⟩
  intro lo io B3 hB3 hlo hio hiol
  have hB03 : Ex B B3 := hB2.tr hB3
  have hlo' : SqL K (jn B3 M2) lo (io.map fun i => V.int (i : Nat)) := SqL.of (jn_b hlo)
  cases io with
  | cons i io =>
    obtain ⟨hi, a', hia⟩ := hio i (List.mem_cons_self ..)
    obtain ⟨q, q', r', hq1, hq2, hq3, hq4⟩ := spotAt (i := i) (by omega)
    rw [hia] at hq1
    injection hq1 with hq1
    subst hq1
    have at0 : atI ((i :: io).map fun i => V.int (i : Nat)) 0 = some (.int (i : Nat)) := at_nat (i := 0) rfl
    refine sm_cons (s1_if (tm_tru (em_nm 6 ⟨true, .inl ⟨_, hlo', rfl⟩, ift rfl ?_⟩)))
    have sza : Sz a' := ly.sz dk (List.mem_of_getElem? hia)
    have szp : Sz p.2 := IntD.abs_sz dk hp.2.1 (Rat.le_of_lt hp.1) (by have := ly.nn; grind)
    refine sm_cons (s1_set 7 sc_Rule_put.nd (em_tup (am_cons (em_nm 4 (am_cons (em_Radd R.r (hr.mono (by decide)) (em_ixT (em_ixL (em_nm 1 (em_ixL (em_nm 6 (em_int ⟨lo, _, 0, .int (i : Nat), rfl, rfl, hlo', at0, l, ys, i, .ref q', rfl, rfl, SqL.of (jn_b (hB03 _ _ hl)), at_nat hq2, em_int ⟨q', _, 1, r', rfl, rfl, SqT.of (jn_b (hB03 _ _ hq3)), rfl, em_nm 5 ⟨a', p.2, .inr ⟨hq4.up hB03, (hy2.up hB03).num⟩, sza, szp, fun v5 B5 hB5 hv5 => am_nil ⟨sl2, fun j hj mj => ?_⟩⟩⟩⟩))))))))))))
    have hB05 : Ex B (upd B5 j (.tup [.str p.1, v5])) := (hB03.tr hB5).tr (Ex.up hj)
    have hloj : SqL K (jn (upd B5 j (.tup [.str p.1, v5])) M2) lo ((i :: io).map fun i => V.int (i : Nat)) := SqL.of (jn_b (((hB5.tr (Ex.up hj))) _ _ hlo))
    refine sm_one (s1_ret (em_lstB (am_star (em_slU (em_nm 1 (em_ixL (em_nm 6 (em_int ⟨lo, _, 0, .int (i : Nat), rfl, rfl, hloj, at0, l, ys, i, rfl, rfl, SqL.of (jn_b (hB05 _ _ hl)), fun l7 hl7 ml7 => ⟨l7, _, rfl, SqL.of (jn_b upd_same), ?_⟩⟩))))))))
    refine am_cons (em_nm 7 (am_star (em_slL (em_nm 1 (em_op op_add (em_ixL (em_nm 6 (em_int ⟨lo, _, 0, .int (i : Nat), rfl, rfl, SqL.of (jn_b (Ex.up hl7 _ _ ((hB5.tr (Ex.up hj)) _ _ hlo))), at0, em_int (om_I0 ⟨l, ys, ((i + 1 : Nat) : Int), rfl, (by push_cast; rfl), SqL.of (jn_b (Ex.up hl7 _ _ (hB05 _ _ hl))), fun l8 hl8 ml8 => ⟨l8, _, rfl, SqL.of (jn_b upd_same), am_nil ⟨?_, fun l9 hl9 ml9 => ?_⟩⟩⟩)⟩))))))))
    · rw [cutV_take, cutV_drop]
      refine big ?_
      simp only [List.length_append, List.length_cons, List.length_take, List.length_drop, List.length_nil]
      omega
    have hpair : ∀ B9, Ex (upd B5 j (.tup [.str p.1, v5])) B9 → Paired (PtAt K B9) (cutV ys none (some ↑i) ++ V.ref j :: (cutV ys (some ((i + 1 : Nat) : Int)) none ++ [])) (xs.take i ++ (p.1, a' + p.2) :: xs.drop (i + 1)) := fun B9 h9 => by
      rw [cutV_take, cutV_drop, List.append_nil]
      exact paired_append (paired_up (paired_take hys i) (hB05.tr h9)) (.cons ⟨j, v5, rfl, h9 _ _ upd_same, hv5.up ((Ex.up hj).tr h9)⟩ (paired_up (paired_drop hys (i + 1)) (hB05.tr h9)))
    have hB9 := ((Ex.up (o := .lst (cutV ys none (some ↑i))) hl7).tr (Ex.up (o := .lst (cutV ys (some ((i + 1 : Nat) : Int)) none)) hl8)).tr (Ex.up (o := .lst (cutV ys none (some ↑i) ++ V.ref j :: (cutV ys (some ((i + 1 : Nat) : Int)) none ++ []))) hl9)
    exact hq (.ref l9) _ _ (hB05.tr hB9) ⟨l9, _, rfl, upd_same, hpair _ hB9⟩ (put_mrg ly hp ht hia)
  | nil =>
    refine sm_cons (s1_if (tm_tru (em_nm 6 ⟨false, .inl ⟨_, hlo', rfl⟩, iff' rfl (sm_nil ?_)⟩)))
    obtain ⟨jl, hjl, hjm⟩ := first_ix hp.2.2
    have hlz3 := hB03 _ _ hlz
    have jz : (L.map V.str)[jl]? = some (.str p.1) := by rw [List.getElem?_map, hjl]; rfl
    have eqs : ∀ a b : Str, eqV (.str a) (.str b) = (a == b) := fun _ _ => rfl
    refine sm_cons (s1_set 8 sc_Rule_put.nd (em_slL (em_nm 3 (em_op op_add ?_))))
    refine em_index (em_nm 3 ⟨lz, L.map V.str, rfl, SqL.of (jn_b hlz3), em_nm 4 ⟨jl, .str p.1, SqL.of (jn_b hlz3), rfl, flat_strs _, jz, ?_, ?_, em_int (om_I0 ⟨lz, L.map V.str, ((jl + 1 : Nat) : Int), rfl, (by push_cast; rfl), SqL.of (jn_b hlz3), fun l7 hl7 ml7 => ?_⟩)⟩⟩)
    · exact beq_self_eq_true p.1
    · intro i z' hi hz'
      obtain ⟨nm, enm, hnm⟩ := strs_at hz'
      subst enm
      exact beq_eq_false_iff_ne.mpr (hjm i nm hi hnm)
    rw [cutV_drop, ← List.map_drop]
    have hB37 : Ex B3 (upd B3 l7 (.lst ((L.drop (jl + 1)).map V.str))) := Ex.up hl7
    have hB07 := hB03.tr hB37
    refine sm_cons (s1_lcrB 9 rfl sc_Rule_put.nd (blk_ok (N := n_Rule_put) (sc := defScope s_Rule_put) [("spot", 10)] (by decide +kernel)) R.r.t.u_range (em_len R.r.t.u_len (em_nm 1 ⟨l, ys, rfl, .inl (SqL.of (jn_b (hB07 _ _ hl))), ys.length, rfl, ?_⟩)))
    refine lcb_spots (fun i => True) 10 sc_Rule_put.nd (by omega) ?_ ?_
    · intro i B4 M4 hi hB4 s3 H3 C3 cl3 fp3
      obtain ⟨q, q', r', hq1, hq2, hq3, hq4⟩ := spotAt (i := i) (by omega)
      exact tm_cmp op_in_seq (em_ixT (em_ixL (em_nm 1 (em_nm 10 ⟨l, ys, i, .ref q', rfl, rfl, SqL.of (jn_b (hB4 _ _ (hB07 _ _ hl))), at_nat hq2, em_int ⟨q', _, 0, .str q.1, rfl, rfl, SqT.of (jn_b (hB4 _ _ (hB07 _ _ hq3))), rfl, em_nm 8 (om_in ⟨l7, _, rfl, .inl (SqL.of (jn_b (hB4 _ _ upd_same))), rfl, flat_strs _, _, rfl, rfl, fun _ => trivial⟩)⟩⟩))))
    intro la ia B4 hB4 hla hia _
    have hB04 : Ex B B4 := hB07.tr hB4
    have hla' : SqL K (jn B4 M2) la (ia.map fun i => V.int (i : Nat)) := SqL.of (jn_b hla)
    refine sm_cons (s1_set 10 sc_Rule_put.nd (Emt.imp (P := fun v B5 M5 => B5 = B4 ∧ M5 = M2 ∧ ∃ i : Nat, v = .int i ∧ i ≤ xs.length) ?_ fun v5 B5 M5 hB5 ⟨eB, eM, i, ev, hi⟩ => ?_))
    · refine em_if (tm_tru (em_nm 9 ?_))
      cases ia with
      | nil => exact ⟨false, .inl ⟨_, hla', rfl⟩, iff' rfl (em_len R.r.t.u_len (em_nm 1 ⟨l, ys, rfl, .inl (SqL.of (jn_b (hB04 _ _ hl))), rfl, rfl, ys.length, rfl, by omega⟩))⟩
      | cons i ia => exact ⟨true, .inl ⟨_, hla', rfl⟩, ift rfl (em_ixL (em_nm 9 (em_int ⟨la, _, 0, .int (i : Nat), rfl, rfl, hla', at_nat (i := 0) rfl, rfl, rfl, i, rfl, by have := (hia i (List.mem_cons_self ..)).1; omega⟩)))⟩
    subst eB eM ev
    refine sm_one (s1_ret (em_lstB (am_star (em_slU (em_nm 1 (em_nm 10 ⟨l, ys, i, rfl, rfl, SqL.of (jn_b (hB04 _ _ hl)), fun l8 hl8 ml8 => ⟨l8, _, rfl, SqL.of (jn_b upd_same), ?_⟩⟩))))))
    refine am_cons (em_nm 2 (am_star (em_slL (em_nm 1 (em_nm 10 ⟨l, ys, i, rfl, rfl, SqL.of (jn_b (Ex.up hl8 _ _ (hB04 _ _ hl))), fun l9 hl9 ml9 => ⟨l9, _, rfl, SqL.of (jn_b upd_same), am_nil ⟨?_, fun lr hlr mlr => ?_⟩⟩⟩)))))
    · rw [cutV_take, cutV_drop]
      refine big ?_
      simp only [List.length_append, List.length_cons, List.length_take, List.length_drop, List.length_nil]
      omega
    have hpair : ∀ B9, Ex B5 B9 → Paired (PtAt K B9) (cutV ys none (some ↑i) ++ V.ref t :: (cutV ys (some ↑i) none ++ [])) (xs.take i ++ p :: xs.drop i) := fun B9 h9 => by
      rw [cutV_take, cutV_drop, List.append_nil]
      exact paired_append (paired_up (paired_take hys i) (hB04.tr h9)) (.cons (hy.up (hB04.tr h9)) (paired_up (paired_drop hys i) (hB04.tr h9)))
    have hBr := ((Ex.up (o := .lst (cutV ys none (some ↑i))) hl8).tr (Ex.up (o := .lst (cutV ys (some ↑i) none)) hl9)).tr (Ex.up (o := .lst (cutV ys none (some ↑i) ++ V.ref t :: (cutV ys (some ↑i) none ++ []))) hlr)
    refine hq (.ref lr) _ _ (hB04.tr hBr) ⟨lr, _, rfl, upd_same, hpair _ hBr⟩ (put_app (ys := xs.take i ++ p :: xs.drop i) ly hp ht ?_)
    · have h1 : (xs.take i ++ p :: xs.drop i).Perm (xs.take i ++ (xs.drop i ++ [p])) := List.Perm.append_left _ (List.perm_append_comm (l₁ := [p]))
      rwa [← List.append_assoc, List.take_append_drop] at h1
end
end LC
end LcRule4
section LcPlan
set_option maxHeartbeats 4000000
/-! Entries that can be worked through; the order of periods. -/
namespace LC
open PySem L2
@[ext] structure Bk where
  lots : List Str
  lates : List Str
  sales : List Str
  stock : Int
  left : Str → Int
def Bk.step (b : Bk) : Ent → Bk
  | .buy n u => { b with lots := b.lots ++ [n], stock := b.stock + u }
  | .sell s u => { b with sales := b.sales ++ [s], stock := b.stock - u, left := fun x => if x = s then u else b.left x }
  | .back s u => { b with stock := b.stock + u, left := fun x => if x = s then b.left s - u else b.left x }
  | .late c _ => { b with lates := b.lates ++ [c] }
def Bk.can (b : Bk) : Ent → Prop
  | .buy n _ => n ∉ b.lots ∧ n ∉ b.lates
  | .sell s u => s ∉ b.sales ∧ (u : Int) ≤ b.stock
  | .back s u => s ∈ b.sales ∧ (u : Int) ≤ b.left s
  | .late c l => c ∉ b.lots ∧ c ∉ b.lates ∧ l ∈ b.lots
def Vd : Bk → Ens → Prop
  | _, [] => True
  | b, e :: es => b.can e.2 ∧ Vd (b.step e.2) es
def isBuy (e : Pl × Ent) : Bool := match e.2 with
  | .buy .. => true
  | _ => false
theorem isBuy_kind (e : Pl × Ent) : isBuy e = decide (e.2.kind = ("buy" : Str)) := by
  obtain ⟨p, e⟩ := e
  cases e with
  | buy n u => exact (decide_eq_true (rfl : (Ent.buy n u).kind = "buy")).symm
  | sell n u => exact (decide_eq_false (by show ¬ (("sell" : Str) = "buy"); decide)).symm
  | back n u => exact (decide_eq_false (by show ¬ (("back" : Str) = "buy"); decide)).symm
  | late n u => exact (decide_eq_false (by show ¬ (("late" : Str) = "buy"); decide)).symm
/-- a buy moves ahead -/
theorem Vd.mv {b : Bk} {e f : Pl × Ent} {es : Ens} (he : isBuy e = false) (hf : isBuy f = true) (h : Vd b (e :: f :: es)) : Vd b (f :: e :: es) := by
  obtain ⟨p, e⟩ := e
  obtain ⟨q, f⟩ := f
  obtain ⟨h1, h2, h3⟩ := h
  cases f with
  | buy n u =>
    cases e with
    | buy n' u' => cases he
    | sell s v =>
      refine ⟨h2, ⟨h1.1, ?_⟩, ?_⟩
      · have := h1.2; show (v : Int) ≤ b.stock + u; omega
      · have e : (b.step (.buy n u)).step (.sell s v) = (b.step (.sell s v)).step (.buy n u) := by
          apply Bk.ext <;> simp only [Bk.step] <;> omega
        show Vd ((b.step (.buy n u)).step (.sell s v)) es
        rw [e]; exact h3
    | back s v =>
      refine ⟨h2, h1, ?_⟩
      have e : (b.step (.buy n u)).step (.back s v) = (b.step (.back s v)).step (.buy n u) := by
        apply Bk.ext <;> simp only [Bk.step] <;> omega
      show Vd ((b.step (.buy n u)).step (.back s v)) es
      rw [e]; exact h3
    | late c l =>
      refine ⟨⟨h2.1, fun z => h2.2 (List.mem_append_left _ z)⟩, ⟨fun z => ?_, h1.2.1, List.mem_append_left _ h1.2.2⟩, h3⟩
      rcases List.mem_append.mp z with z | z
      · exact h1.1 z
      · exact h2.2 (List.mem_append_right _ (by rw [List.mem_singleton.mp z]; exact List.mem_singleton.mpr rfl))
  | _ => cases hf
theorem Vd.late {b : Bk} {e : Pl × Ent} (he : isBuy e = false) : ∀ {bs es : Ens}, (∀ f ∈ bs, isBuy f = true) → Vd b (e :: (bs ++ es)) → Vd b (bs ++ e :: es)
  | [], _, _, h => h
  | f :: bs, es, hb, h => by
    have h' := Vd.mv he (hb f (List.mem_cons_self ..)) h
    exact ⟨h'.1, Vd.late (b := b.step f.2) he (fun g hg => hb g (List.mem_cons_of_mem _ hg)) h'.2⟩
theorem Vd.part {es : Ens} : ∀ {b : Bk} {bl : Ens}, Vd b (bl ++ es) → Vd b (bl.filter isBuy ++ (bl.filter (fun e => !isBuy e) ++ es))
  | _, [], h => h
  | b, e :: bl, h => by
    have ih := Vd.part (bl := bl) h.2
    by_cases he : isBuy e = true
    · rw [List.filter_cons_of_pos he, List.filter_cons_of_neg (by simp [he])]
      exact ⟨h.1, ih⟩
    · have he' : isBuy e = false := by simpa using he
      rw [List.filter_cons_of_neg he, List.filter_cons_of_pos (by simp [he'])]
      exact Vd.late he' (fun f hf => (List.mem_filter.mp hf).2) (show Vd b (e :: (List.filter isBuy bl ++ _)) from ⟨h.1, ih⟩)
theorem Vd.app : ∀ {xs : Ens} {b : Bk} {ys : Ens}, Vd b (xs ++ ys) ↔ Vd b xs ∧ Vd (xs.foldl (fun b e => b.step e.2) b) ys
  | [], b, ys => ⟨fun h => ⟨trivial, h⟩, fun h => h.2⟩
  | e :: xs, b, ys => by
    have ih := Vd.app (xs := xs) (b := b.step e.2) (ys := ys)
    constructor
    · rintro ⟨h1, h2⟩
      obtain ⟨h3, h4⟩ := ih.mp h2
      exact ⟨⟨h1, h3⟩, h4⟩
    · rintro ⟨⟨h1, h3⟩, h4⟩
      exact ⟨h1, ih.mpr ⟨h3, h4⟩⟩
def blk (key : Pl × Ent → Int) (es : Ens) (κ : Int) : Ens := ((es.filter fun e => key e = κ).filter isBuy) ++ ((es.filter fun e => key e = κ).filter fun e => !isBuy e)
structure Wk (es ws : Ens) : Prop where
  perm : ws.Perm es
  vd : ∀ b, Vd b es → Vd b ws
theorem Wk.refl (es : Ens) : Wk es es := ⟨List.Perm.refl _, fun _ h => h⟩
theorem sorted_split (key : Pl × Ent → Int) (κ : Int) : ∀ {es : Ens}, es.Pairwise (fun a b => key a ≤ key b) → (∀ e ∈ es, κ ≤ key e) → es = (es.filter fun e => key e = κ) ++ es.filter fun e => ¬ key e = κ
  | [], _, _ => rfl
  | e :: es, hp, hm => by
    obtain ⟨h1, h2⟩ := List.pairwise_cons.mp hp
    have ih := sorted_split key κ h2 fun f hf => hm f (List.mem_cons_of_mem _ hf)
    by_cases h : key e = κ
    · rw [List.filter_cons_of_pos (by simpa using h), List.filter_cons_of_neg (by simpa using h), List.cons_append, ← ih]
    · have : (e :: es).filter (fun e => decide (key e = κ)) = [] := by
        refine List.filter_eq_nil_iff.mpr fun f hf => ?_
        have a := hm e (List.mem_cons_self ..)
        rcases List.mem_cons.mp hf with hf | hf
        · subst hf; simpa using h
        · have b := h1 f hf
          simp only [decide_eq_true_eq]
          omega
      rw [this, List.nil_append]
      refine (List.filter_eq_self.mpr fun f hf => ?_).symm
      have := List.filter_eq_nil_iff.mp this f hf
      simpa using this
theorem wk_flat (key : Pl × Ent → Int) : ∀ {ns : List Int} {es : Ens}, ns.Pairwise (· < ·) → es.Pairwise (fun a b => key a ≤ key b) → (∀ e ∈ es, key e ∈ ns) → Wk es (ns.flatMap (blk key es))
  | [], es, _, _, hm => by
    have : es = [] := by
      cases es with
      | nil => rfl
      | cons e es => exact absurd (hm e (List.mem_cons_self ..)) List.not_mem_nil
    subst this
    exact Wk.refl _
  | κ :: ns, es, hn, hp, hm => by
    obtain ⟨h1, h2⟩ := List.pairwise_cons.mp hn
    have hk : ∀ e ∈ es, κ ≤ key e := fun e he => by
      rcases List.mem_cons.mp (hm e he) with h | h
      · omega
      · have := h1 _ h; omega
    have sp := sorted_split key κ hp hk
    have ih := wk_flat key (ns := ns) (es := es.filter fun e => ¬ key e = κ) h2 (hp.sublist List.filter_sublist) fun e he => by
      obtain ⟨h3, h4⟩ := List.mem_filter.mp he
      rcases List.mem_cons.mp (hm e h3) with h | h
      · exact absurd h (by simpa using h4)
      · exact h
    have e2 : ns.flatMap (blk key (es.filter fun e => ¬ key e = κ)) = ns.flatMap (blk key es) := by
      have : ∀ κ' ∈ ns, blk key (es.filter fun e => ¬ key e = κ) κ' = blk key es κ' := fun κ' hκ => by
        have e3 : ((es.filter fun e => ¬ key e = κ).filter fun e => key e = κ') = es.filter fun e => key e = κ' := by
          rw [List.filter_filter]
          apply List.filter_congr
          intro e _
          have := h1 κ' hκ
          by_cases q : key e = κ'
          · simp [q]; omega
          · simp [q]
        unfold blk
        rw [e3]
      rw [List.flatMap_def, List.flatMap_def, List.map_congr_left this]
    rw [e2] at ih
    rw [List.flatMap_cons]
    constructor
    · refine List.Perm.trans ?_ (List.Perm.of_eq sp.symm)
      refine List.Perm.append ?_ ih.perm
      exact List.filter_append_perm isBuy _
    · intro b hv
      rw [sp] at hv
      have h5 := Vd.part hv
      unfold blk
      rw [List.append_assoc, Vd.app, Vd.app]
      rw [Vd.app, Vd.app] at h5
      exact ⟨h5.1, h5.2.1, ih.vd _ h5.2.2⟩
end LC
end LcPlan
section LcRule5
set_option maxHeartbeats 4000000
/-! laid, worked. -/
namespace LC
open PySem L2
open He (ga ma)
open He5 (wf)
section
variable {P : Program} {w : World} {K : PySem.W.Frag} {mg : Str → Option Value} {base : Heap}
def spLaid (K : PySem.W.Frag) : Spc := fun vs B M Q => ∃ x v y z L D n m xs bs tk pl pd, vs = [x, v, y, z] ∧ RuleAt K B x tk pl pd ∧ LyAt K B v xs ∧ LyAt K B y bs ∧ StrsAt B z L ∧ Ly L D n xs ∧ Ly L D m bs ∧ DOk D ∧ n + m ≤ 900 ∧ tot xs + tot bs ≤ (10000000 : Nat) ∧ L.length ≤ 100 ∧
  ∀ r B' ys, Ex B B' → LyAt K B' r ys → Ly L D (n + m) ys → (∀ f, W f ys = W f xs + W f bs) → Q r B' M
theorem pr_laid (R : LP P w K mg base) : Pr P w K mg base 51 (ma K (ga K "Rule") "laid") [] (spLaid K) := by
  refine pr_def R.r.t.f_Rule_laid sc_Rule_laid (fun _ _ _ _ _ _ us hl => match us, hl with | [_, _, _, _], _ => rfl) (by rintro _ _ _ _ ⟨x, v, y, z, L, D, n, m, xs, bs, tk, pl, pd, rfl, _⟩; rfl) ?_
  rintro cdv A outer s H E vs B M Q hr ⟨x, v, y, z, L, D, n, m, xs, bs, tk, pl, pd, rfl, hx, hv, hy, hz, ly, lb, dk, hn, ht, hL, hq⟩
  obtain ⟨l, ys, rfl, hl, hys⟩ := id hv
  obtain ⟨lb', yb, rfl, hlb, hyb⟩ := id hy
  obtain ⟨a, dx, rfl, ha⟩ := id hx
  have hybl := paired_len hyb
  refine sm_cons (s1_set 4 sc_Rule_laid.nd (em_listB R.r.t.u_list (em_nm 1 ⟨l, ys, rfl, .inl (SqL.of (jn_b hl)), fun l0 hl0 => ?_⟩)))
  refine sm_cons (s1_for PassesOwn.never rfl (em_nm 2 ⟨lb', yb, rfl, SqL.of (jn_b (Ex.up hl0 _ _ hlb)), fun i σ B' M' => ∃ vf zs o, σ = [some (.ref a), some (.ref l), some (.ref lb'), some z, some vf, o] ∧ M' = M ∧ Ex B B' ∧ LyAt K B' vf zs ∧ Ly L D (n + i) zs ∧ ∀ f, W f zs = W f xs + W f (bs.take i), ?_, ?_, ?_, ?_⟩))
  · refine ⟨.ref l0, xs, _, rfl, rfl, Ex.up hl0, ⟨l0, ys, rfl, upd_same, paired_up hys (Ex.up hl0)⟩, ly, fun f => by rw [List.take_zero, W_nil]; grind⟩
  · rintro i σ B' M' _ ⟨vf, zs, o, rfl, rfl, hB, _⟩
    exact SqL.of (jn_b (hB _ _ hlb))
  · rintro i q σ B' M' hi _ ⟨vf, zs, o, rfl, rfl, hB, hvf, lz, hw⟩
    obtain ⟨p, hp, hqp⟩ := paired_at hyb hi
    have hil : i < bs.length := (List.getElem?_eq_some_iff.mp hp).1
    have hm := lb.len
    refine gm_name 5 sc_Rule_laid.nd (sm_one (s1_set 4 sc_Rule_laid.nd (em_meth (pr_put R) (hr.mono (by decide)) R.r.t.cl_Rule R.r.t.m_Rule_put (em_nm 0 ⟨a, dx, _, rfl, jn_b (hB _ _ ha), rfl, am_cons (em_nm 4 (am_cons (em_nm 5 (am_cons (em_nm 3 (am_nil ?_))))))⟩))))
    refine ⟨_, _, _, _, L, D, n + i, zs, p, tk, pl, pd, rfl, hx.up hB, hvf, hqp.up hB, hz.up hB, lz, dk, by omega, lb.mem (List.mem_of_getElem? hp), ?_, hL, fun r B2 zs2 hB2 hr2 ⟨l2, w2⟩ => ⟨r, zs2, _, rfl, rfl, hB.tr hB2, hr2, l2, fun f => ?_⟩⟩
    · have h1 := hw one'
      have h2 := W_take one' hp
      have h3 := tot_take lb.pos (i + 1)
      have h4 : tot zs + p.2 = tot xs + tot (bs.take (i + 1)) := by
        show W one' zs + p.2 = W one' xs + W one' (bs.take (i + 1))
        rw [h1, h2]
        show _ = _ + (_ + 1 * p.2)
        grind
      rw [h4]
      exact Rat.le_trans (Rat.add_le_add_left.mpr h3) ht
    · rw [w2, hw, W_take f hp]; grind
  · rintro σ B' M' _ ⟨vf, zs, o, rfl, rfl, hB, hvf, lz, hw⟩
    rw [hybl] at lz hw
    refine sm_one (s1_ret (em_nm 4 (hq vf B' zs hB hvf (lz.mono (by have := lb.len; omega)) fun f => ?_)))
    rw [hw, List.take_length]
end
section
variable {X : Cx} {scope : Scope} {σ : St} {P : V → Hp → Hp → Prop} {vs : List Nat} {test : Expr}
/-- [x for x in xs if test] -/
theorem lcb_filter {α : Type} {n : Nat} {it : Nat → Option V} {B1 M1 : Hp} (R : V → α → Hp → Prop) (qs : List α) (g : α → Bool) (j : Nat) {x : Str} {tp kp : Pos} (hN : X.N.Nodup) (hn : n ≤ 1000) (hq : n = qs.length) (mono : ∀ y q B B', Ex B B' → R y q B → R y q B')
    (hit : ∀ i y, it i = some y → i < n → ∃ q, qs[i]? = some q ∧ R y q B1)
    (turn : ∀ i y q B' M', it i = some y → qs[i]? = some q → i < n → Ex B1 B' → R y q B1 → ∀ s H0 C cl fp, TM (Blk X scope s H0 C cl fp) test ((wipe σ vs).set j (some y)) B' M' fun k B3 M3 => M3 = M' ∧ k = g q)
    (fin : ∀ d ys B', Ex B1 B' → B' d = some (.lst ys) → Paired (fun y q => R y q B') ys (qs.filter g) → P (.ref d) B' M1)
    (hw : ∀ x, wipe ((wipe σ vs).set j (some x)) vs = wipe σ vs := by intro _; rfl) (hi : X.N[j]? = some x := by rfl) (hx : Loc (relabel scope X.env) x := by first | exact Or.inl rfl | exact Or.inr rfl)
    (hf : (List.lookup x scope.names == some NameKind.cell) = true ∨ (relabel scope X.env).names.lookup x = some .local := by first | exact Or.inl rfl | exact Or.inr rfl)
    (hs : ∀ x : V, ((wipe σ vs).set j (some x))[j]? = some (some x) := by intro _; rfl) (hd : (x == ("__debug__" : Str)) = false := by decide) (hcd : (x == ("__classdict__" : Str)) = false := by decide) : LcB X scope (.Name x tp) [test] (.Name x kp) vs σ n it B1 M1 P := by
  refine ⟨hn, fun i acc B => Paired (fun y q => R y q B) acc ((qs.take i).filter g), fun i acc B B' hB h => paired_imp (fun y q z => mono y q B B' hB z) h, .nil, ?_, ?_⟩
  · rintro i y acc B' M' hy hin hB hM hacc
    obtain ⟨q, hq1, hq2⟩ := hit i y hy hin
    refine bg_of fun s H0 C cl fp => gm_name j hN ⟨hw _, rfl, bt_one fun s2 H2 C2 cl2 fp2 => (turn i y q B' M' hy hq1 hin hB hq2 s2 H2 C2 cl2 fp2).imp fun k B3 M3 hB3 ⟨e3, hk'⟩ => ⟨e3, ?_⟩⟩ hi hx hf
    cases k with
    | false =>
      refine iff' rfl ?_
      show Paired (fun y q => R y q B3) acc ((qs.take (i + 1)).filter g)
      rw [List.take_add_one, hq1, List.filter_append]
      have e : (Option.some q).toList.filter g = [] := by
        show List.filter g [q] = []
        rw [List.filter_cons_of_neg (by rw [← hk']; decide)]; rfl
      rw [e, List.append_nil]
      exact paired_imp (fun y q z => mono y q _ _ hB3 z) hacc
    | true =>
      refine ift rfl (be_of fun s3 H3 C3 cl3 fp3 => em_name j hi (by rcases hx with h | h; exact .inl h; exact .inr (.inl h)) (hs _) ⟨rfl, ?_⟩ hd hcd)
      show Paired (fun y q => R y q B3) (acc ++ [y]) ((qs.take (i + 1)).filter g)
      rw [List.take_add_one, hq1, List.filter_append]
      have e : (Option.some q).toList.filter g = [q] := by
        show List.filter g [q] = [q]
        rw [List.filter_cons_of_pos hk'.symm]; rfl
      rw [e]
      exact paired_append (paired_imp (fun y q z => mono y q _ _ hB3 z) hacc) (.cons (mono _ _ _ _ (hB.tr hB3) hq2) .nil)
  · rintro d ys B' hB hd hj
    rw [hq, List.take_length] at hj
    exact fin d ys B' hB hd hj
end
theorem paired_mapR {α β γ : Type} {R : α → γ → Prop} {f : β → γ} : ∀ {xs : List α} {ys : List β}, Paired (fun x y => R x (f y)) xs ys → Paired R xs (ys.map f)
  | _, _, .nil => .nil
  | _, _, .cons r t => .cons r (paired_mapR t)
theorem paired_mapL {α β γ : Type} {R : α → γ → Prop} {f : β → γ} : ∀ {ys : List β} {xs : List α}, Paired R xs (ys.map f) → Paired (fun x y => R x (f y)) xs ys
  | [], _, h => by cases h; exact .nil
  | y :: ys, _, h => by
    cases h with
    | cons r t => exact .cons r (paired_mapL t)
section
variable {P : Program} {w : World} {K : PySem.W.Frag} {mg : Str → Option Value} {base : Heap}
theorem Rise.mono {es : Ens} (h : Rise es) {pd : Int} (hp : 0 < pd) : es.Pairwise fun a b => a.1.1 / pd ≤ b.1.1 / pd := by
  have h' : es.Pairwise fun a b => SrtO.lexB a.1 b.1 = true := List.pairwise_map.mp h
  refine h'.imp fun {a b} z => Int.ediv_le_ediv hp ?_
  have := SrtO.lexB_iff.mp z
  omega
def spWork (K : PySem.W.Frag) : Spc := fun vs B M Q => ∃ x y es tk pl pd, vs = [x, y] ∧ RuleAt K B x tk pl pd ∧ 0 ≤ pd ∧ pd ≤ 1000000 ∧ BookAt K B y es ∧ es.length < 60 ∧ NoTup M ∧ ∀ v B' ws, Ex B B' → PlsAt B' v (ws.map (·.1)) → Wk es ws → Q v B' M
theorem pr_worked (t : Tx K mg) : Pr P w K mg base 10 (ma K (ga K "Rule") "worked") [] (spWork K) := by
  refine pr_def t.f_Rule_worked sc_Rule_worked (fun _ _ _ _ _ _ us hl => match us, hl with | [_, _], _ => rfl) (by rintro _ _ _ _ ⟨x, y, es, tk, pl, pd, rfl, _⟩; rfl) ?_
  rintro cdv A outer s H E vs B M Q hr ⟨x, y, es, tk, pl, pd, rfl, ⟨a, dx, rfl, ha⟩, hp0, hp1, hbk, hel, nt, hq⟩
  obtain ⟨ab, dxb, d, kvs, ps, rfl, hab, hd, hk, hpm, rise, hlen⟩ := id hbk
  refine sm_cons (s1_set 2 sc_Rule_worked.nd (em_meth0 (pr_places t (k := 0)) (hr.mono (by decide)) t.cl_Book t.m_Book_places (em_nm 1 ⟨ab, dxb, _, rfl, jn_b hab, rfl, _, es, rfl, hbk, nt, fun v1 B1 hB1 ⟨l, ys, hv1, hl, hys⟩ => ?_⟩)))
  subst hv1
  have hyl : ys.length = es.length := by have := paired_len hys; rwa [List.length_map] at this
  have hysE := paired_mapL hys
  have fld : ∀ {B' M' : Hp}, Ex B B' → jn B' M' a = some (ruleO K dx tk pl pd) := fun h => jn_b (h _ _ ha)
  refine sm_cons (s1_if (tm_cmp op_eq (em_fld (em_nm 0 ⟨a, _, dx, _, _, rfl, fld hB1, t.cl_Rule, t.no_Rule_period, rfl, em_int (om_eq rfl ⟨_, rfl, ?_⟩)⟩))))
  by_cases hz : pd = 0
  · refine ift (dt (by rw [hz])) (sm_one (s1_ret (em_nm 2 (hq _ B1 es hB1 ⟨l, ys, rfl, hl, hys⟩ (Wk.refl es)))))
  refine iff' (df (fun z => hz (by injection z))) (sm_nil ?_)
  have hpos : 0 < pd := by omega
  have cdiv : ∀ i : Int, CDiv i pd := fun i => ⟨hpos, by omega⟩
  refine sm_cons (s1_set 3 sc_Rule_worked.nd (em_lst (am_nil ⟨sl0, fun fo bfo mfo => ?_⟩)))
  let key : Pl × Ent → Int := fun e => e.1.1 / pd
  refine sm_cons (s1_for PassesOwn.never rfl (em_sortSetC rfl sc_Rule_worked.nd (blk_ok (N := n_Rule_worked) (sc := defScope s_Rule_worked) [("day", 6), ("number", 7)] (by decide +kernel)) t.u_sorted (em_nm 2 ⟨l, ys, es.map key, rfl, hl, by omega, by rw [List.length_map, hyl], ?_, ?_⟩)))
  · rintro i y B2 M2 hi hB2 hM2
    obtain ⟨e, he, q, rfl, hq2⟩ := paired_at hysE hi
    refine bg_of fun s3 H3 C3 cl3 fp3 => gm_tup rfl (SqT.of (jn_b (hB2 _ _ hq2))) (gms_cons (gm_name 6 sc_Rule_worked.nd (gms_cons (gm_name 7 sc_Rule_worked.nd (gms_nil ⟨rfl, rfl, ?_⟩)))))
    refine be_of fun s4 H4 C4 cl4 fp4 => em_op op_fdiv (em_nm 6 (em_fld (em_nm 0 ⟨a, _, dx, _, _, rfl, fld (hB1.tr hB2), t.cl_Rule, t.no_Rule_period, rfl, om_I (cdiv _) ⟨rfl, e.1.1 / pd, ?_, rfl⟩⟩)))
    rw [List.getElem?_map, he]; rfl
  rintro B2 r ns hB2 hr2 hns hmem
  have hB02 := hB1.tr hB2
  refine ⟨r, ns.map V.int, rfl, SqL.of (jn_b hr2), fun i σ B' M' => ∃ o1 o2 fy, σ = [some (.ref a), some (.ref ab), some (.ref l), some (.ref fo), o1, o2, none, none, none] ∧ M' = upd M fo (.lst fy) ∧ Ex B2 B' ∧ Paired (fun y e => PlAt B' y e.1) fy ((ns.take i).flatMap (blk key es)) ∧ fy.length ≤ 200 * i, ?_, ?_, ?_, ?_⟩
  · exact ⟨_, _, [], rfl, rfl, Ex.id', .nil, Nat.le_refl _⟩
  · rintro i σ B' M' _ ⟨o1, o2, fy, rfl, rfl, hB, _⟩
    exact SqL.of (jn_b (hB _ _ hr2))
  · rintro i y σ B' M' hi _ ⟨o1, o2, fy, rfl, rfl, hB, hfy, hfl⟩
    rw [List.getElem?_map] at hi
    obtain ⟨κ, hκ⟩ : ∃ κ, ns[i]? = some κ := by
      cases q : ns[i]? with
      | none => rw [q] at hi; cases hi
      | some κ => exact ⟨κ, rfl⟩
    rw [hκ] at hi
    injection hi with hi
    subst hi
    have hin : i < ns.length := (List.getElem?_eq_some_iff.mp hκ).1
    have hBB : Ex B B' := hB02.tr hB
    have hB1' : Ex B1 B' := hB2.tr hB
    refine gm_name 4 sc_Rule_worked.nd (sm_cons (s1_lcB 5 rfl sc_Rule_worked.nd (blk_ok (N := n_Rule_worked) (sc := defScope s_Rule_worked) [("place", 8)] (by decide +kernel)) (em_nm 2 ⟨l, ys, rfl, hB1' _ _ hl, ?_⟩)))
    refine lcb_filter (fun y (e : Pl × Ent) B => PlAt B y e.1) es (fun e => decide (key e = κ)) 8 sc_Rule_worked.nd (by omega) hyl (fun _ _ _ _ e h => h.up e) (fun i y hy _ => by
      obtain ⟨e, he, h2⟩ := paired_at hysE hy
      exact ⟨e, he, h2.up hB1'⟩) ?_ ?_
    · rintro i y e B3 M3 hy he _ hB3 ⟨q, rfl, hq2⟩ s3 H3 C3 cl3 fp3
      refine tm_cmp op_eq (em_op op_fdiv (em_ixT (em_nm 8 (em_int ⟨q, _, 0, .int e.1.1, rfl, rfl, SqT.of (jn_b (hB3 _ _ hq2)), rfl, em_fld (em_nm 0 ⟨a, _, dx, _, _, rfl, fld (hBB.tr hB3), t.cl_Rule, t.no_Rule_period, rfl, om_I (cdiv _) (em_nm 4 (om_eq rfl ⟨_, rfl, rfl, ?_⟩))⟩)⟩))))
      show decide (V.int (e.1.1 / pd) = V.int κ) = decide (key e = κ)
      by_cases h : e.1.1 / pd = κ
      · rw [dt (show V.int (e.1.1 / pd) = V.int κ by rw [h]), dt (show key e = κ from h)]
      · rw [df (show ¬ V.int (e.1.1 / pd) = V.int κ from vint_ne h), df (show ¬ key e = κ from h)]
    rintro lo oy B3 hB3 hlo hoy
    have hB03 := hBB.tr hB3
    -- the two halves
    have half : ∀ (g : Pl × Ent → Bool) (B4 : Hp), True := fun _ _ => trivial
    have hol : oy.length ≤ 100 := by
      have h1 := paired_len hoy
      have h2 := List.length_filter_le (fun e => decide (key e = κ)) es
      omega
    have item : ∀ {N : Nat} {B4 : Hp} {e : Pl × Ent} {q : Addr}, Ex B3 B4 → e ∈ es.filter (fun e => decide (key e = κ)) → True := fun _ _ => trivial
    refine sm_own fun own => ?_
    have bfo3 : B3 fo = none := own fo _ upd_same
    refine sm_cons (s1_expr (em_extend (em_nm 3 ⟨fo, fy, rfl, upd_same, bfo3, ?_⟩)))
    refine em_lcB rfl sc_Rule_worked.nd (blk_ok (N := n_Rule_worked) (sc := defScope s_Rule_worked) [("place", 8)] (by decide +kernel)) (em_nm 5 ⟨lo, oy, rfl, hlo, ?_⟩)
    refine lcb_filter (fun y (e : Pl × Ent) B => PlAt B y e.1) (es.filter fun e => decide (key e = κ)) isBuy 8 sc_Rule_worked.nd (by omega) (paired_len hoy) (fun _ _ _ _ e h => h.up e) (fun i y hy _ => paired_at hoy hy) ?_ ?_
    · rintro i y e B4 M4 hy he _ hB4 hye s4 H4 C4 cl4 fp4
      have hem : e ∈ es := (List.mem_filter.mp (List.mem_of_getElem? he)).1
      refine tm_cmp op_eq (em_ixT (em_item (pr_bkget t (k := 0)) (hr.mono (by decide)) t.og_Book_get (em_nm 1 (em_nm 8 ⟨⟨ab, dxb, _, rfl, jn_b ((hB03.tr hB4) _ _ hab)⟩, _, _, es, e.1, e.2, rfl, hbk.up (hB03.tr hB4), hye.up hB4, hem, fun v5 B5 hB5 ⟨q5, ev5, hq5⟩ => ?_⟩))))
      subst ev5
      refine em_int ⟨q5, _, 0, .str e.2.kind, rfl, rfl, SqT.of (jn_b hq5), rfl, em_str (om_eq rfl ⟨_, rfl, rfl, ?_⟩)⟩
      rw [isBuy_kind]
      by_cases h : e.2.kind = ("buy" : Str)
      · rw [dt (show V.str e.2.kind = V.str "buy" by rw [h]), dt h]
      · rw [df (show ¬ V.str e.2.kind = V.str "buy" from fun z => h (by injection z)), df h]
    rintro l5 y5 B5 hB5 hl5 hy5
    have hy5l : y5.length ≤ 100 := by
      have h1 := paired_len hy5
      have h2 := List.length_filter_le isBuy (es.filter fun e => decide (key e = κ))
      have h3 := paired_len hoy
      omega
    have nsl : ns.length ≤ 60 := by
      have h1 := nodup_len (a := ns) (b := es.map key) (hns.imp fun {a b} h e => by rw [e] at h; omega) fun k hk => (hmem k).mp hk
      rw [List.length_map] at h1; omega
    have big : ∀ {m : Nat}, m ≤ 100000 → m ≤ sizeLine := fun {m} h => Nat.le_trans h (by decide)
    refine ⟨fy, l5, y5, upd_same, rfl, jn_b hl5, big (by omega), ?_⟩
    rw [upd_twice]
    refine sm_own fun own => ?_
    have bfo5 : B5 fo = none := own fo _ upd_same
    refine sm_one (s1_expr (em_extend (em_nm 3 ⟨fo, _, rfl, upd_same, bfo5, ?_⟩)))
    refine em_lcB rfl sc_Rule_worked.nd (blk_ok (N := n_Rule_worked) (sc := defScope s_Rule_worked) [("place", 8)] (by decide +kernel)) (em_nm 5 ⟨lo, oy, rfl, hB5 _ _ hlo, ?_⟩)
    refine lcb_filter (fun y (e : Pl × Ent) B => PlAt B y e.1) (es.filter fun e => decide (key e = κ)) (fun e => !isBuy e) 8 sc_Rule_worked.nd (by omega) (paired_len hoy) (fun _ _ _ _ e h => h.up e) (fun i y hy _ => by
      obtain ⟨e, he, h2⟩ := paired_at hoy hy
      exact ⟨e, he, h2.up hB5⟩) ?_ ?_
    · rintro i y e B6 M6 hy he _ hB6 hye s6 H6 C6 cl6 fp6
      have hem : e ∈ es := (List.mem_filter.mp (List.mem_of_getElem? he)).1
      have hB06 := (hB03.tr hB5).tr hB6
      refine tm_cmp op_ne (em_ixT (em_item (pr_bkget t (k := 0)) (hr.mono (by decide)) t.og_Book_get (em_nm 1 (em_nm 8 ⟨⟨ab, dxb, _, rfl, jn_b (hB06 _ _ hab)⟩, _, _, es, e.1, e.2, rfl, hbk.up hB06, hye.up hB6, hem, fun v7 B7 hB7 ⟨q7, ev7, hq7⟩ => ?_⟩))))
      subst ev7
      refine em_int ⟨q7, _, 0, .str e.2.kind, rfl, rfl, SqT.of (jn_b hq7), rfl, em_str (om_ne rfl ⟨_, rfl, rfl, ?_⟩)⟩
      rw [isBuy_kind]
      by_cases h : e.2.kind = ("buy" : Str)
      · rw [dt (show V.str e.2.kind = V.str "buy" by rw [h]), dt h]
      · rw [df (show ¬ V.str e.2.kind = V.str "buy" from fun z => h (by injection z)), df h]
    rintro l7 y7 B7 hB7 hl7 hy7
    have hy7l : y7.length ≤ 100 := by
      have h1 := paired_len hy7
      have h2 := List.length_filter_le (fun e => !isBuy e) (es.filter fun e => decide (key e = κ))
      have h3 := paired_len hoy
      omega
    refine ⟨_, l7, y7, upd_same, rfl, jn_b hl7, big (by rw [List.length_append]; omega), ?_⟩
    refine ⟨_, _, fy ++ y5 ++ y7, rfl, upd_twice, ((hB.tr hB3).tr hB5).tr hB7, ?_, by rw [List.length_append, List.length_append]; omega⟩
    rw [List.take_add_one, hκ, List.flatMap_append]
    have e1 : (Option.some κ).toList.flatMap (blk key es) = blk key es κ := by
      show [κ].flatMap (blk key es) = _
      rw [List.flatMap_cons, List.flatMap_nil, List.append_nil]
    rw [e1, List.append_assoc]
    refine paired_append (paired_imp (fun y e z => z.up ((hB3.tr hB5).tr hB7)) hfy) ?_
    exact paired_append (paired_imp (fun y e z => z.up hB7) hy5) hy7
  · rintro σ B' M' _ ⟨o1, o2, fy, rfl, rfl, hB, hfy, hfl⟩
    refine sm_one (s1_ret (Emt.fzN (em_nm 3 ⟨fo, _, upd_same, fun hn => ?_⟩)))
    rw [del_upd mfo]
    rw [List.length_map, List.take_length] at hfy
    refine hq _ _ (ns.flatMap (blk key es)) ((hB02.tr hB).tr (Ex.up hn)) ⟨fo, fy, rfl, upd_same, paired_mapR (paired_imp (fun y e z => z.up (Ex.up hn)) hfy)⟩ (wk_flat key hns (rise.mono hpos) fun e he => (hmem _).mpr (List.mem_map.mpr ⟨e, he, rfl⟩))
end
end LC
end LcRule5
section LcCost
set_option maxHeartbeats 4000000
/-! What sales cost: the plain law. -/
namespace LC
open PySem L2
/-! ### weights -/
theorem W_add (f g : Str → Rat) (xs : List Part) : W (fun x => f x + g x) xs = W f xs + W g xs := by
  unfold W; rw [← lsum_add]; exact lsum_congr fun p _ => by grind
theorem W_mul (c : Rat) (f : Str → Rat) (xs : List Part) : W (fun x => c * f x) xs = c * W f xs := by
  unfold W; rw [← lsum_mul]; exact lsum_congr fun p _ => by grind
theorem W_congr {f g : Str → Rat} {xs : List Part} (h : ∀ p ∈ xs, f p.1 = g p.1) : W f xs = W g xs := lsum_congr fun p hp => by rw [h p hp]
theorem W_le {f g : Str → Rat} : ∀ {xs : List Part}, (∀ p ∈ xs, f p.1 ≤ g p.1) → (∀ p ∈ xs, 0 < p.2) → W f xs ≤ W g xs
  | [], _, _ => Rat.le_refl
  | p :: xs, hf, hp => by
    rw [W_cons, W_cons]
    have h1 := Rat.mul_le_mul_of_nonneg_right (hf p (List.mem_cons_self ..)) (Rat.le_of_lt (hp p (List.mem_cons_self ..)))
    have h2 := W_le (xs := xs) (fun q hq => hf q (List.mem_cons_of_mem _ hq)) (fun q hq => hp q (List.mem_cons_of_mem _ hq))
    grind
theorem W_int {f : Str → Rat} {D E : Nat} {xs : List Part} (h : ∀ p ∈ xs, IntD D (f p.1) ∧ IntD E p.2) : IntD (D * E) (W f xs) := IntD.lsum fun p hp => (h p hp).1.mul (h p hp).2
theorem W_filter (l : Str) : ∀ xs : List Part, tot (xs.filter fun p => p.1 = l) = W (oneF l) xs
  | [] => rfl
  | p :: xs => by
    have ih := W_filter l xs
    rw [W_cons]
    by_cases h : p.1 = l
    · rw [List.filter_cons_of_pos (by simpa using h)]
      show W one' (p :: _) = _
      rw [W_cons]
      have e : oneF l p.1 = 1 := if_pos h
      rw [e, ← ih]
    · rw [List.filter_cons_of_neg (by simpa using h)]
      have e : oneF l p.1 = 0 := if_neg h
      rw [e, ih]; grind
/-! ### sums of one -/
theorem lsum_one (k : Str) (g : Str → Rat) : ∀ {L : List Str}, L.Nodup → lsum L (fun c => oneF c k * g c) = if k ∈ L then g k else 0
  | [], _ => by simp [lsum_nil]
  | c :: L, h => by
    obtain ⟨h1, h2⟩ := List.nodup_cons.mp h
    rw [lsum_cons, lsum_one k g h2]
    by_cases e : k = c
    · subst e
      rw [if_neg h1, if_pos (List.mem_cons_self ..)]
      have : oneF k k = 1 := if_pos rfl
      rw [this]; grind
    · have : oneF c k = 0 := if_neg e
      rw [this]
      by_cases hk : k ∈ L
      · rw [if_pos hk, if_pos (List.mem_cons_of_mem _ hk)]; grind
      · rw [if_neg hk, if_neg (fun z => (List.mem_cons.mp z).elim e hk)]; grind
/-- what a unit of a lot costs -/
def uc (ub : Str → Nat) (lo : Str → Str) (L : List Str) (l k : Str) : Rat := oneF l k + lsum L fun c => oneF c k * (oneF l (lo c) / (ub l : Rat))
def cost (ub : Str → Nat) (lo : Str → Str) (L : List Str) (ps : List Part) (k : Str) : Rat := W (fun l => uc ub lo L l k) ps
def paidF (ub : Str → Nat) (lots lates : List Str) (k : Str) : Rat := lsum lots (fun l => oneF l k * (ub l : Rat)) + lsum lates fun c => oneF c k
section
variable {ub : Str → Nat} {lo : Str → Str} {L : List Str} {l k : Str} {D : Nat}
theorem uc_eq (h : L.Nodup) : uc ub lo L l k = oneF l k + if k ∈ L then oneF l (lo k) / (ub l : Rat) else 0 := by
  unfold uc; rw [lsum_one k _ h]
theorem inv_le {n : Nat} (h : 1 ≤ n) : (0 : Rat) ≤ 1 / (n : Rat) ∧ 1 / (n : Rat) ≤ 1 := by
  have hn : (0 : Rat) < (n : Rat) := by exact_mod_cast h
  have e : (1 : Rat) / (n : Rat) * (n : Rat) = 1 := by
    have : (n : Rat) ≠ 0 := fun z => by rw [z] at hn; exact Rat.lt_irrefl hn
    grind
  have h1 : (1 : Rat) ≤ (n : Rat) := by exact_mod_cast h
  constructor
  · rw [Rat.div_def, Rat.one_mul]; exact Rat.le_of_lt (Rat.inv_pos.mpr hn)
  · refine Classical.byContradiction fun z => ?_
    have z' : 0 < (1 : Rat) / (n : Rat) - 1 := by grind
    have := Rat.mul_pos z' hn
    grind
theorem uc_ok (h : L.Nodup) (hl : l ∉ L) (hu : 1 ≤ ub l) (hD : IntD D (1 / (ub l : Rat))) : 0 ≤ uc ub lo L l k ∧ uc ub lo L l k ≤ 1 ∧ IntD D (uc ub lo L l k) := by
  rw [uc_eq h]
  obtain ⟨i1, i2⟩ := inv_le hu
  by_cases e : k = l
  · subst e
    have : oneF k k = 1 := if_pos rfl
    rw [this, if_neg hl, Rat.add_zero]
    refine ⟨by decide, by decide, ?_⟩
    have := IntD.int (D := D) 1
    exact this
  · have : oneF l k = 0 := if_neg e
    rw [this]
    by_cases hk : k ∈ L
    · rw [if_pos hk]
      by_cases q : lo k = l
      · have : oneF l (lo k) = 1 := if_pos q
        rw [this, Rat.zero_add]
        exact ⟨i1, i2, hD⟩
      · have : oneF l (lo k) = 0 := if_neg q
        rw [this]
        have e : (0 : Rat) + 0 / (ub l : Rat) = 0 := by grind
        rw [e]
        exact ⟨by decide, by decide, IntD.zero⟩
    · rw [if_neg hk, Rat.zero_add]
      exact ⟨by decide, by decide, IntD.zero⟩
theorem uc_nz (h : L.Nodup) (hk : uc ub lo L l k ≠ 0) : k = l ∨ k ∈ L := by
  rw [uc_eq h] at hk
  refine Classical.byContradiction fun z => hk ?_
  have h1 : ¬ k = l := fun e => z (.inl e)
  have h2 : k ∉ L := fun e => z (.inr e)
  have : oneF l k = 0 := if_neg h1
  rw [this, if_neg h2]; grind
/-- the cost of good parts -/
theorem cost_ok {lots : List Str} {n E : Nat} {ps : List Part} (hp : Ly lots E n ps) (h : L.Nodup) (hl : ∀ l ∈ lots, l ∉ L) (hu : ∀ l ∈ lots, 1 ≤ ub l) (hD : ∀ l ∈ lots, IntD D (1 / (ub l : Rat))) :
    0 ≤ cost ub lo L ps k ∧ cost ub lo L ps k ≤ (10000000 : Nat) ∧ IntD (D * E) (cost ub lo L ps k) := by
  have o : ∀ p ∈ ps, 0 ≤ uc ub lo L p.1 k ∧ uc ub lo L p.1 k ≤ 1 ∧ IntD D (uc ub lo L p.1 k) := fun p q => uc_ok h (hl _ (hp.lot p q)) (hu _ (hp.lot p q)) (hD _ (hp.lot p q))
  refine ⟨W_nn (f := fun l => uc ub lo L l k) (fun p q => (o p q).1) hp.pos, ?_, W_int (f := fun l => uc ub lo L l k) fun p q => ⟨(o p q).2.2, hp.int p q⟩⟩
  exact Rat.le_trans (W_le (f := fun l => uc ub lo L l k) (g := one') (fun p q => (o p q).2.1) hp.pos) hp.hi
/-- a late cost more -/
theorem cost_late {c : Str} {ps : List Part} (h : (L ++ [c]).Nodup) : cost ub lo (L ++ [c]) ps k = cost ub lo L ps k + oneF c k / (ub (lo c) : Rat) * W (oneF (lo c)) ps := by
  unfold cost
  have e : ∀ l, uc ub lo (L ++ [c]) l k = uc ub lo L l k + (oneF c k / (ub (lo c) : Rat)) * oneF (lo c) l := fun l => by
    unfold uc
    rw [lsum_append]
    show _ + (_ + (oneF c k * (oneF l (lo c) / (ub l : Rat)) + 0)) = _
    by_cases q : l = lo c
    · subst q
      have : oneF (lo c) (lo c) = 1 := if_pos rfl
      rw [this]; grind
    · have h1 : oneF l (lo c) = 0 := if_neg fun z => q z.symm
      have h2 : oneF (lo c) l = 0 := if_neg q
      rw [h1, h2]; grind
  rw [W_congr (g := fun l => uc ub lo L l k + (oneF c k / (ub (lo c) : Rat)) * oneF (lo c) l) fun p _ => e p.1, W_add, W_mul]
/-- a lot that has no late cost yet -/
theorem uc_new (h : L.Nodup) (hl : ∀ c ∈ L, lo c ≠ l) : uc ub lo L l k = oneF l k := by
  rw [uc_eq h]
  split
  · rename_i hk
    have : oneF l (lo k) = 0 := if_neg (hl k hk)
    rw [this]; grind
  · grind
/-- everything that was paid -/
theorem cost_total {lots S : List Str} {sp : Str → List Part} {stk : List Part} (co : ∀ f : Str → Rat, W f stk + lsum S (fun s => W f (sp s)) = lsum lots fun l => f l * (ub l : Rat))
    (nl : lots.Nodup) (nL : L.Nodup) (hl : ∀ c ∈ L, lo c ∈ lots) (hu : ∀ l ∈ lots, 1 ≤ ub l) (k : Str) : lsum S (fun s => cost ub lo L (sp s) k) + cost ub lo L stk k = paidF ub lots L k := by
  have h := co fun l => uc ub lo L l k
  have e1 : lsum lots (fun l => uc ub lo L l k * (ub l : Rat)) = lsum lots (fun l => oneF l k * (ub l : Rat)) + lsum lots fun l => if k ∈ L then oneF l (lo k) * 1 else 0 := by
    rw [← lsum_add]
    refine lsum_congr fun l hl' => ?_
    have hn : (ub l : Rat) ≠ 0 := fun z => by
      have := hu l hl'
      have := Rat.natCast_eq_zero_iff.mp z
      omega
    rw [uc_eq nL]
    split <;> grind
  have e2 : (lsum lots fun l => if k ∈ L then oneF l (lo k) * 1 else 0) = lsum L fun c => oneF c k := by
    have e3 : (lsum L fun c => oneF c k) = lsum L fun c => oneF c k * (fun _ => (1 : Rat)) c := lsum_congr fun c _ => by grind
    rw [e3, lsum_one k _ nL]
    by_cases hk : k ∈ L
    · rw [if_pos hk]
      rw [lsum_congr (g := fun l => oneF l (lo k) * (fun _ => (1 : Rat)) l) fun l _ => by rw [if_pos hk], lsum_one (lo k) _ nl, if_pos (hl k hk)]
    · rw [if_neg hk, lsum_zero fun l _ => by rw [if_neg hk]]
  show lsum S (fun s => W (fun l => uc ub lo L l k) (sp s)) + W (fun l => uc ub lo L l k) stk = _
  unfold paidF
  rw [← e2, ← e1, ← h]
  grind
end
end LC
end LcCost
section LcCost2
set_option maxHeartbeats 4000000
/-! The plain law of a costing, entry by entry. -/
namespace LC
open PySem L2
theorem lsum_le {α : Type} {c : Rat} {f : α → Rat} : ∀ {L : List α}, (∀ x ∈ L, f x ≤ c) → lsum L f ≤ (L.length : Nat) * c
  | [], _ => by rw [lsum_nil]; simp
  | x :: L, h => by
    rw [lsum_cons]
    have h1 := h x (List.mem_cons_self ..)
    have h2 := lsum_le (L := L) fun y hy => h y (List.mem_cons_of_mem _ hy)
    have e : (((x :: L).length : Nat) : Rat) = (L.length : Nat) + 1 := by rw [List.length_cons]; push_cast; rfl
    rw [e]; grind
theorem lsum_nn {α : Type} {f : α → Rat} : ∀ {L : List α}, (∀ x ∈ L, 0 ≤ f x) → 0 ≤ lsum L f
  | [], _ => by rw [lsum_nil]; exact Rat.le_refl
  | x :: L, h => by
    rw [lsum_cons]
    have h1 := h x (List.mem_cons_self ..)
    have h2 := lsum_nn (L := L) fun y hy => h y (List.mem_cons_of_mem _ hy)
    grind
theorem lsum_upd {α : Type} [DecidableEq α] {s : α} {f g : α → Rat} (hg : ∀ x, x ≠ s → g x = f x) : ∀ {L : List α}, L.Nodup → s ∈ L → lsum L g = lsum L f - f s + g s
  | [], _, h => by cases h
  | x :: L, hn, h => by
    obtain ⟨h1, h2⟩ := List.nodup_cons.mp hn
    rw [lsum_cons, lsum_cons]
    by_cases e : x = s
    · subst e
      rw [lsum_congr (l := L) (f := g) (g := f) fun y hy => hg y fun z => h1 (z ▸ hy)]
      grind
    · rw [lsum_upd hg h2 ((List.mem_cons.mp h).resolve_left fun z => e z.symm), hg x e]
      grind
theorem lsum_mem {α : Type} {f : α → Rat} : ∀ {L : List α}, (∀ x ∈ L, 0 ≤ f x) → ∀ {s : α}, s ∈ L → f s ≤ lsum L f
  | [], _, s, h => by cases h
  | x :: L, hf, s, h => by
    rw [lsum_cons]
    have h1 := hf x (List.mem_cons_self ..)
    have h2 := lsum_nn (L := L) fun y hy => hf y (List.mem_cons_of_mem _ hy)
    rcases List.mem_cons.mp h with h | h
    · subst h; grind
    · have := lsum_mem (L := L) (fun y hy => hf y (List.mem_cons_of_mem _ hy)) h
      grind
def FzOk (D : Nat) (φ : Str → Rat) : Prop := ∀ k, IntD (D * D) (φ k) ∧ -(10000000 : Nat) ≤ φ k ∧ φ k ≤ (10000000 : Nat)
theorem FzOk.lift {D E : Nat} {φ : Str → Rat} (h : FzOk D φ) : FzOk (D * E) φ := fun k => ⟨by
  have e : D * E * (D * E) = D * D * (E * E) := by grind
  rw [e]; exact (h k).1.lift, (h k).2⟩
theorem fz0 {D : Nat} : FzOk D fun _ => 0 := fun k => ⟨IntD.zero, (by decide : -((10000000 : Nat) : Rat) ≤ 0), (by decide : (0 : Rat) ≤ ((10000000 : Nat) : Rat))⟩
structure CoI (ub : Str → Nat) (lo : Str → Str) (i D n : Nat) (b : Bk) (stk : List Part) (sp : Str → List Part) (pls : List Pl) (ff : Pl → Str → Rat) : Prop where
  ndL : b.lots.Nodup
  ndT : b.lates.Nodup
  ndS : b.sales.Nodup
  dis : ∀ c ∈ b.lates, c ∉ b.lots
  u1 : ∀ l ∈ b.lots, 1 ≤ ub l ∧ ub l ≤ 1000000
  uD : ∀ l ∈ b.lots, IntD D (1 / (ub l : Rat))
  lok : ∀ c ∈ b.lates, lo c ∈ b.lots
  D0 : 0 < D
  iD : D ≤ 10000000 ^ i
  n2 : n ≤ 2 ^ i
  ll : b.lots.length + b.lates.length + b.sales.length ≤ i
  lp : pls.length = i
  np : pls.Nodup
  ls : Ly b.lots D n stk
  la : ∀ s ∈ b.sales, Ly b.lots D n (sp s)
  ts : tot stk = (b.stock : Rat)
  tp : ∀ s ∈ b.sales, tot (sp s) = (b.left s : Rat)
  co : ∀ f : Str → Rat, W f stk + lsum b.sales (fun s => W f (sp s)) = lsum b.lots fun l => f l * (ub l : Rat)
  bk : ∀ k, lsum pls (fun p => ff p k) = lsum b.sales fun s => cost ub lo b.lates (sp s) k
  fz : ∀ p ∈ pls, FzOk D (ff p)
def bk0 : Bk := ⟨[], [], [], 0, fun _ => 0⟩
section
variable {ub : Str → Nat} {lo : Str → Str} {i D n : Nat} {b : Bk} {stk : List Part} {sp : Str → List Part} {pls : List Pl} {ff : Pl → Str → Rat}
theorem CoI.start : CoI ub lo 0 1 1 bk0 [] sp [] ff := by
  refine ⟨List.nodup_nil, List.nodup_nil, List.nodup_nil, fun c h => ?_, fun c h => ?_, fun c h => ?_, fun c h => ?_, by decide, by decide, by decide, Nat.le_refl _, rfl, List.nodup_nil, Ly.nil, fun c h => ?_, rfl, fun c h => ?_, fun f => ?_, fun k => rfl, fun c h => ?_⟩
  all_goals first | exact absurd h List.not_mem_nil | skip
  show W f [] + lsum [] _ = lsum [] _
  rw [W_nil, lsum_nil, lsum_nil]; grind
theorem CoI.dok (h : CoI ub lo i D n b stk sp pls ff) (hi : i ≤ 9) : DOk D := by
  refine ⟨h.D0, Nat.lt_of_le_of_lt h.iD ?_⟩
  exact Nat.lt_of_le_of_lt (Nat.pow_le_pow_right (by decide) hi) (by decide)
theorem CoI.nle (h : CoI ub lo i D n b stk sp pls ff) (hi : i ≤ 9) : n ≤ 512 := Nat.le_trans h.n2 (Nat.le_trans (Nat.pow_le_pow_right (by decide) hi) (by decide))
/-- all units -/
theorem units_le {lots : List Str} (h : ∀ l ∈ lots, ub l ≤ 1000000) (hl : lots.length ≤ 9) : (lsum lots fun l => (1 : Rat) * (ub l : Rat)) ≤ (10000000 : Nat) := by
  have h1 : (lsum lots fun l => (1 : Rat) * (ub l : Rat)) ≤ (lots.length : Nat) * ((1000000 : Nat) : Rat) := lsum_le fun l hl => by
    rw [Rat.one_mul]; exact nat_le_rat (h l hl)
  refine Rat.le_trans h1 ?_
  have : ((lots.length * 1000000 : Nat) : Rat) ≤ ((10000000 : Nat) : Rat) := nat_le_rat (by omega)
  push_cast at this ⊢
  exact this
theorem CoI.sum_le (h : CoI ub lo i D n b stk sp pls ff) (hi : i ≤ 9) : tot stk + lsum b.sales (fun s => tot (sp s)) ≤ (10000000 : Nat) := by
  have := h.co one'
  show W one' stk + lsum b.sales (fun s => W one' (sp s)) ≤ _
  rw [this]
  have hl := h.ll
  exact units_le (fun l hl => (h.u1 l hl).2) (by omega)
theorem powstep {i D E : Nat} (h : D ≤ 10000000 ^ i) (hE : E ≤ 10000000) : D * E ≤ 10000000 ^ (i + 1) := by rw [Nat.pow_succ]; exact Nat.mul_le_mul h hE
theorem CoI.buy (h : CoI ub lo i D n b stk sp pls ff) (hi : i + 1 ≤ 9) {a : Str} {u : Nat} (c : b.can (.buy a u)) (hu : ub a = u) (u1 : 1 ≤ u) (u2 : u ≤ 1000000) {p : Pl} (hp : p ∉ pls) :
    CoI ub lo (i + 1) (D * u) (n + 1) (b.step (.buy a u)) (stk ++ [(a, (u : Rat))]) sp (pls ++ [p]) (fun q => if q = p then fun _ => 0 else ff q) := by
  obtain ⟨c1, c2⟩ := c
  have hul : ∀ l ∈ b.lots ++ [a], 1 ≤ ub l ∧ ub l ≤ 1000000 := fun l hl => by
    rcases List.mem_append.mp hl with hl | hl
    · exact h.u1 l hl
    · rw [List.mem_singleton.mp hl, hu]; exact ⟨u1, u2⟩
  have hco : ∀ f : Str → Rat, W f (stk ++ [(a, (u : Rat))]) + lsum b.sales (fun s => W f (sp s)) = lsum (b.lots ++ [a]) fun l => f l * (ub l : Rat) := fun f => by
    rw [W_append, W_one, lsum_append, ← h.co f]
    show _ = _ + (f a * (ub a : Rat) + 0)
    rw [hu]; grind
  have hlen := h.ll
  have hne : ∀ q ∈ pls, q ≠ p := fun q hq e => hp (e ▸ hq)
  have un : 0 < (u : Rat) := by exact_mod_cast u1
  have hsn : 0 ≤ lsum b.sales (fun s => W one' (sp s)) := lsum_nn fun s hs => (h.la s hs).nn
  refine ⟨?_, h.ndT, h.ndS, ?_, hul, ?_, ?_, Nat.mul_pos h.D0 (by omega), powstep h.iD (by omega), ?_, ?_, ?_, ?_, ?_, ?_, ?_, h.tp, hco, ?_, ?_⟩
  · exact List.nodup_append.mpr ⟨h.ndL, by simp, fun x hx y hy e => c1 (by rw [← List.mem_singleton.mp hy, ← e]; exact hx)⟩
  · intro x hx hx'
    rcases List.mem_append.mp hx' with hx' | hx'
    · exact h.dis x hx hx'
    · exact c2 (by rw [← List.mem_singleton.mp hx']; exact hx)
  · intro l hl
    rcases List.mem_append.mp hl with hl | hl
    · exact (h.uD l hl).lift
    · rw [List.mem_singleton.mp hl, hu]
      refine ⟨(D : Int), ?_⟩
      push_cast
      have : (u : Rat) ≠ 0 := fun z => by rw [z] at un; exact Rat.lt_irrefl un
      grind
  · intro x hx
    exact List.mem_append_left _ (h.lok x hx)
  · have := h.n2
    have h1 : 1 ≤ 2 ^ i := Nat.one_le_two_pow
    rw [Nat.pow_succ]; omega
  · show (b.lots ++ [a]).length + b.lates.length + b.sales.length ≤ i + 1
    rw [List.length_append, List.length_singleton]; omega
  · rw [List.length_append, List.length_singleton, h.lp]
  · exact List.nodup_append.mpr ⟨h.np, by simp, fun x hx y hy e => hp (by rw [← List.mem_singleton.mp hy, ← e]; exact hx)⟩
  · refine Ly.of_all ?_ ?_ ?_
    · rw [List.length_append, List.length_singleton]; have := h.ls.len; omega
    · intro q hq
      rcases List.mem_append.mp hq with hq | hq
      · exact ⟨h.ls.pos q hq, (h.ls.int q hq).lift, List.mem_append_left _ (h.ls.lot q hq)⟩
      · rw [List.mem_singleton.mp hq]
        exact ⟨un, IntD.nat u, List.mem_append_right _ (List.mem_singleton.mpr rfl)⟩
    · have h1 := hco one'
      have h2 : (lsum (b.lots ++ [a]) fun l => one' l * (ub l : Rat)) ≤ (10000000 : Nat) := units_le (fun l hl => (hul l hl).2) (by rw [List.length_append, List.length_singleton]; omega)
      rw [← h1] at h2
      show W one' _ ≤ _
      grind
  · exact fun s hs => ((h.la s hs).lift.mono (Nat.le_succ _)).lots fun x hx => List.mem_append_left _ hx
  · show W one' _ = _
    rw [W_append, W_one]
    have e : W one' stk = (b.stock : Rat) := h.ts
    rw [e]
    show (b.stock : Rat) + 1 * (u : Rat) = ((b.stock + (u : Int) : Int) : Rat)
    push_cast; grind
  · intro k
    rw [lsum_append, lsum_congr (g := fun p => ff p k) fun q hq => by rw [if_neg (hne q hq)], h.bk]
    show _ + ((if p = p then fun _ => (0 : Rat) else ff p) k + 0) = _
    rw [if_pos rfl]
    show (lsum b.sales fun s => cost ub lo b.lates (sp s) k) + ((0 : Rat) + 0) = lsum b.sales fun s => cost ub lo b.lates (sp s) k
    rw [Rat.add_zero, Rat.add_zero]
  · intro q hq
    by_cases e : q = p
    · rw [if_pos e]; exact fz0
    · rw [if_neg e]
      rcases List.mem_append.mp hq with hq | hq
      · exact (h.fz q hq).lift
      · exact absurd (List.mem_singleton.mp hq) e
theorem CoI.costOk (h : CoI ub lo i D n b stk sp pls ff) {E m : Nat} {ps : List Part} (hp : Ly b.lots (D * E) m ps) : FzOk (D * E) (cost ub lo b.lates ps) := fun k => by
  obtain ⟨h1, h2, h3⟩ := cost_ok (ub := ub) (lo := lo) (L := b.lates) (D := D * E) (k := k) hp h.ndT (fun l hl hl' => h.dis l hl' hl) (fun l hl => (h.u1 l hl).1) fun l hl => (h.uD l hl).lift
  refine ⟨h3, ?_, h2⟩
  have : -((10000000 : Nat) : Rat) ≤ 0 := by decide
  exact Rat.le_trans this h1
theorem CoI.sell (h : CoI ub lo i D n b stk sp pls ff) {s : Str} {u E : Nat} (c : b.can (.sell s u)) {ak lf : List Part} (hc : CutOk b.lots D n u stk ak lf E) {p : Pl} (hp : p ∉ pls) :
    CoI ub lo (i + 1) (D * E) n (b.step (.sell s u)) lf (fun x => if x = s then ak else sp x) (pls ++ [p]) (fun q => if q = p then cost ub lo b.lates ak else ff q) := by
  obtain ⟨c1, c2⟩ := c
  obtain ⟨e1, e2, lk, lf', hw, ht⟩ := hc
  have hlen := h.ll
  have hne : ∀ q ∈ pls, q ≠ p := fun q hq e => hp (e ▸ hq)
  have other : ∀ x ∈ b.sales, x ≠ s := fun x hx e => c1 (e ▸ hx)
  have sum : ∀ g : List Part → Rat, lsum (b.sales ++ [s]) (fun x => g (if x = s then ak else sp x)) = lsum b.sales (fun x => g (sp x)) + g ak := fun g => by
    rw [lsum_append, lsum_congr (g := fun x => g (sp x)) fun x hx => by rw [if_neg (other x hx)]]
    show _ + (g (if s = s then ak else sp s) + 0) = _
    rw [if_pos rfl]; grind
  refine ⟨h.ndL, h.ndT, ?_, h.dis, h.u1, fun l hl => (h.uD l hl).lift, h.lok, Nat.mul_pos h.D0 (by omega), powstep h.iD e2, ?_, ?_, ?_, ?_, lf', ?_, ?_, ?_, ?_, ?_, ?_⟩
  · exact List.nodup_append.mpr ⟨h.ndS, by simp, fun x hx y hy e => c1 (by rw [← List.mem_singleton.mp hy, ← e]; exact hx)⟩
  · have := h.n2
    rw [Nat.pow_succ]; omega
  · show b.lots.length + b.lates.length + (b.sales ++ [s]).length ≤ i + 1
    rw [List.length_append, List.length_singleton]; omega
  · rw [List.length_append, List.length_singleton, h.lp]
  · exact List.nodup_append.mpr ⟨h.np, by simp, fun x hx y hy e => hp (by rw [← List.mem_singleton.mp hy, ← e]; exact hx)⟩
  · intro x hx
    by_cases e : x = s
    · rw [if_pos e]; exact lk
    · rw [if_neg e]
      rcases List.mem_append.mp hx with hx | hx
      · exact (h.la x hx).lift
      · exact absurd (List.mem_singleton.mp hx) e
  · have h1 : tot ak + tot lf = tot stk := hw one'
    rw [ht, h.ts] at h1
    show tot lf = ((b.stock - (u : Int) : Int) : Rat)
    push_cast; grind
  · intro x hx
    show tot (if x = s then ak else sp x) = (((if x = s then (u : Int) else b.left x) : Int) : Rat)
    by_cases e : x = s
    · rw [if_pos e, if_pos e, ht]; rfl
    · rw [if_neg e, if_neg e]
      rcases List.mem_append.mp hx with hx | hx
      · exact h.tp x hx
      · exact absurd (List.mem_singleton.mp hx) e
  · intro f
    show W f lf + lsum (b.sales ++ [s]) (fun x => W f (if x = s then ak else sp x)) = lsum b.lots _
    rw [sum (W f), ← h.co f, ← hw f]; grind
  · intro k
    show _ = lsum (b.sales ++ [s]) (fun x => cost ub lo b.lates (if x = s then ak else sp x) k)
    rw [sum fun ps => cost ub lo b.lates ps k, ← h.bk k, lsum_append, lsum_congr (g := fun p => ff p k) fun q hq => by rw [if_neg (hne q hq)]]
    show _ + ((if p = p then cost ub lo b.lates ak else ff p) k + 0) = _
    rw [if_pos rfl]; grind
  · intro q hq
    by_cases e : q = p
    · rw [if_pos e]; exact h.costOk lk
    · rw [if_neg e]
      rcases List.mem_append.mp hq with hq | hq
      · exact (h.fz q hq).lift
      · exact absurd (List.mem_singleton.mp hq) e
theorem CoI.back (h : CoI ub lo i D n b stk sp pls ff) {s : Str} {u E : Nat} (c : b.can (.back s u)) {bk kp ys : List Part} (hc : CutOk b.lots D n u (sp s) bk kp E) (hy : Ly b.lots (D * E) (n + n) ys) (hyw : ∀ f, W f ys = W f stk + W f bk) {p : Pl} (hp : p ∉ pls) :
    CoI ub lo (i + 1) (D * E) (n + n) (b.step (.back s u)) ys (fun x => if x = s then kp else sp x) (pls ++ [p]) (fun q => if q = p then fun k => -cost ub lo b.lates bk k else ff q) := by
  obtain ⟨c1, c2⟩ := c
  obtain ⟨e1, e2, lk, lf', hw, ht⟩ := hc
  have hlen := h.ll
  have hne : ∀ q ∈ pls, q ≠ p := fun q hq e => hp (e ▸ hq)
  have sum : ∀ g : List Part → Rat, lsum b.sales (fun x => g (if x = s then kp else sp x)) = lsum b.sales (fun x => g (sp x)) - g (sp s) + g kp := fun g => by
    rw [lsum_upd (s := s) (f := fun x => g (sp x)) (g := fun x => g (if x = s then kp else sp x)) (fun x hx => by rw [if_neg hx]) h.ndS c1, if_pos rfl]
  refine ⟨h.ndL, h.ndT, h.ndS, h.dis, h.u1, fun l hl => (h.uD l hl).lift, h.lok, Nat.mul_pos h.D0 (by omega), powstep h.iD e2, ?_, ?_, ?_, ?_, hy, ?_, ?_, ?_, ?_, ?_, ?_⟩
  · have := h.n2
    rw [Nat.pow_succ]; omega
  · show b.lots.length + b.lates.length + b.sales.length ≤ i + 1
    omega
  · rw [List.length_append, List.length_singleton, h.lp]
  · exact List.nodup_append.mpr ⟨h.np, by simp, fun x hx y hy e => hp (by rw [← List.mem_singleton.mp hy, ← e]; exact hx)⟩
  · intro x hx
    by_cases e : x = s
    · rw [if_pos e]; exact lf'.mono (by omega)
    · rw [if_neg e]; exact (h.la x hx).lift.mono (by omega)
  · have h1 : tot ys = tot stk + tot bk := hyw one'
    rw [ht, h.ts] at h1
    rw [h1]
    show (b.stock : Rat) + (u : Rat) = ((b.stock + (u : Int) : Int) : Rat)
    push_cast; rfl
  · intro x hx
    show tot (if x = s then kp else sp x) = (((if x = s then b.left s - (u : Int) else b.left x) : Int) : Rat)
    by_cases e : x = s
    · rw [if_pos e, if_pos e]
      have h1 : tot bk + tot kp = tot (sp s) := hw one'
      rw [ht, h.tp s c1] at h1
      push_cast; grind
    · rw [if_neg e, if_neg e]; exact h.tp x hx
  · intro f
    show W f ys + lsum b.sales (fun x => W f (if x = s then kp else sp x)) = lsum b.lots _
    rw [sum (W f), ← h.co f, hyw f, ← hw f]; grind
  · intro k
    show _ = lsum b.sales (fun x => cost ub lo b.lates (if x = s then kp else sp x) k)
    rw [sum fun ps => cost ub lo b.lates ps k, ← h.bk k, lsum_append, lsum_congr (g := fun p => ff p k) fun q hq => by rw [if_neg (hne q hq)]]
    have h1 : cost ub lo b.lates bk k + cost ub lo b.lates kp k = cost ub lo b.lates (sp s) k := hw _
    show _ + ((if p = p then fun k => -cost ub lo b.lates bk k else ff p) k + 0) = _
    rw [if_pos rfl, ← h1]; grind
  · intro q hq
    by_cases e : q = p
    · rw [if_pos e]
      intro k
      obtain ⟨h1, h2, h3⟩ := h.costOk lk k
      refine ⟨?_, by grind, by grind⟩
      have := (IntD.zero (D := D * E * (D * E))).sub h1
      have e : 0 - cost ub lo b.lates bk k = -cost ub lo b.lates bk k := by grind
      rwa [e] at this
    · rw [if_neg e]
      rcases List.mem_append.mp hq with hq | hq
      · exact (h.fz q hq).lift
      · exact absurd (List.mem_singleton.mp hq) e
/-- how much of a lot is out -/
theorem CoI.out (h : CoI ub lo i D n b stk sp pls ff) {l : Str} (hl : l ∈ b.lots) : lsum b.sales (fun s => W (oneF l) (sp s)) = (ub l : Rat) - W (oneF l) stk ∧ 0 ≤ (ub l : Rat) - W (oneF l) stk ∧ (ub l : Rat) - W (oneF l) stk ≤ (ub l : Rat) ∧ IntD D ((ub l : Rat) - W (oneF l) stk) := by
  have h1 := h.co (oneF l)
  have e : (lsum b.lots fun x => oneF l x * (ub x : Rat)) = (ub l : Rat) := by
    rw [lsum_congr (g := fun x => oneF x l * (fun y => (ub y : Rat)) l) fun x _ => ?_]
    · rw [lsum_congr (g := fun x => oneF x l * (fun _ => (ub l : Rat)) x) fun x _ => rfl, lsum_one l _ h.ndL, if_pos hl]
    · show oneF l x * (ub x : Rat) = oneF x l * (ub l : Rat)
      by_cases q : x = l
      · subst q; rfl
      · have h1 : oneF l x = 0 := if_neg q
        have h2 : oneF x l = 0 := if_neg fun z => q z.symm
        rw [h1, h2]; grind
  rw [e] at h1
  have o01 : ∀ x, 0 ≤ oneF l x := fun x => by unfold oneF; split <;> decide
  have n1 : 0 ≤ lsum b.sales (fun s => W (oneF l) (sp s)) := lsum_nn fun s hs => W_nn (fun p _ => o01 p.1) (h.la s hs).pos
  have n2 : 0 ≤ W (oneF l) stk := W_nn (fun p _ => o01 p.1) h.ls.pos
  refine ⟨by grind, by grind, by grind, (IntD.nat _).sub ?_⟩
  have := W_int (f := oneF l) (D := 1) (E := D) (xs := stk) fun p hp => ⟨by
    unfold oneF
    split
    · exact IntD.int (D := 1) 1
    · exact IntD.zero, h.ls.int p hp⟩
  rwa [Nat.one_mul] at this
theorem CoI.late (h : CoI ub lo i D n b stk sp pls ff) {c l : Str} (cn : b.can (.late c l)) (hlo : lo c = l) {p : Pl} (hp : p ∉ pls) :
    CoI ub lo (i + 1) D n (b.step (.late c l)) stk sp (pls ++ [p]) (fun q => if q = p then fun k => oneF c k * (((ub l : Rat) - W (oneF l) stk) / (ub l : Rat)) else ff q) := by
  obtain ⟨c1, c2, c3⟩ := cn
  have hlen := h.ll
  have hne : ∀ q ∈ pls, q ≠ p := fun q hq e => hp (e ▸ hq)
  obtain ⟨o1, o2, o3, o4⟩ := h.out c3
  have nd : (b.lates ++ [c]).Nodup := List.nodup_append.mpr ⟨h.ndT, by simp, fun x hx y hy e => c2 (by rw [← List.mem_singleton.mp hy, ← e]; exact hx)⟩
  have hul := h.u1 l c3
  have un : (0 : Rat) < (ub l : Rat) := by exact_mod_cast hul.1
  refine ⟨h.ndL, nd, h.ndS, ?_, h.u1, h.uD, ?_, h.D0, ?_, ?_, ?_, ?_, ?_, h.ls, h.la, h.ts, h.tp, h.co, ?_, ?_⟩
  · intro x hx
    rcases List.mem_append.mp hx with hx | hx
    · exact h.dis x hx
    · rw [List.mem_singleton.mp hx]; exact c1
  · intro x hx
    rcases List.mem_append.mp hx with hx | hx
    · exact h.lok x hx
    · rw [List.mem_singleton.mp hx, hlo]; exact c3
  · exact Nat.le_trans h.iD (Nat.pow_le_pow_right (by decide) (Nat.le_succ i))
  · exact Nat.le_trans h.n2 (Nat.pow_le_pow_right (by decide) (Nat.le_succ i))
  · show b.lots.length + (b.lates ++ [c]).length + b.sales.length ≤ i + 1
    rw [List.length_append, List.length_singleton]; omega
  · rw [List.length_append, List.length_singleton, h.lp]
  · exact List.nodup_append.mpr ⟨h.np, by simp, fun x hx y hy e => hp (by rw [← List.mem_singleton.mp hy, ← e]; exact hx)⟩
  · intro k
    show _ = lsum b.sales (fun s => cost ub lo (b.lates ++ [c]) (sp s) k)
    rw [lsum_congr (l := b.sales) (g := fun s => cost ub lo b.lates (sp s) k + (oneF c k / (ub l : Rat)) * W (oneF l) (sp s)) fun s _ => by rw [cost_late nd, hlo], lsum_add, lsum_mul, o1, ← h.bk k, lsum_append, lsum_congr (g := fun p => ff p k) fun q hq => by rw [if_neg (hne q hq)]]
    show _ + ((if p = p then fun k => oneF c k * (((ub l : Rat) - W (oneF l) stk) / (ub l : Rat)) else ff p) k + 0) = _
    rw [if_pos rfl]; grind
  · intro q hq
    by_cases e : q = p
    · rw [if_pos e]
      intro k
      have h1 : IntD (D * D) (((ub l : Rat) - W (oneF l) stk) / (ub l : Rat)) := by
        have := o4.mul (h.uD l c3)
        have e : ((ub l : Rat) - W (oneF l) stk) * (1 / (ub l : Rat)) = ((ub l : Rat) - W (oneF l) stk) / (ub l : Rat) := by grind
        rwa [e] at this
      have h2 : 0 ≤ ((ub l : Rat) - W (oneF l) stk) / (ub l : Rat) := by
        rw [Rat.div_def]; exact Rat.mul_nonneg o2 (Rat.le_of_lt (Rat.inv_pos.mpr un))
      have h3 : ((ub l : Rat) - W (oneF l) stk) / (ub l : Rat) ≤ 1 := by
        refine Classical.byContradiction fun z => ?_
        have z' : 0 < ((ub l : Rat) - W (oneF l) stk) / (ub l : Rat) - 1 := by grind
        have := Rat.mul_pos z' un
        have e : (((ub l : Rat) - W (oneF l) stk) / (ub l : Rat) - 1) * (ub l : Rat) = ((ub l : Rat) - W (oneF l) stk) - (ub l : Rat) := by
          have : (ub l : Rat) ≠ 0 := fun z => by rw [z] at un; exact Rat.lt_irrefl un
          grind
        rw [e] at this
        grind
      have m1 : (1 : Rat) ≤ (10000000 : Nat) := by decide
      have m2 : -((10000000 : Nat) : Rat) ≤ 0 := by decide
      show IntD (D * D) (oneF c k * _) ∧ _ ≤ oneF c k * _ ∧ oneF c k * _ ≤ _
      unfold oneF
      split
      · rw [Rat.one_mul]; exact ⟨h1, Rat.le_trans m2 h2, Rat.le_trans h3 m1⟩
      · rw [Rat.zero_mul]; exact ⟨IntD.zero, by decide, by decide⟩
    · rw [if_neg e]
      rcases List.mem_append.mp hq with hq | hq
      · exact h.fz q hq
      · exact absurd (List.mem_singleton.mp hq) e
end
end LC
end LcCost2
section LcCst
set_option maxHeartbeats 4000000
/-! A costing that is owned: readings, the cost of parts. -/
namespace LC
open PySem L2
open He (ga ma)
open He5 (wf)
theorem Emt.own' {α : Type} {t : Tm α} {B M : Hp} {P : α → Hp → Hp → Prop} (h : Emt t B M fun a B1 M1 => (∀ p o, M1 p = some o → B1 p = none) → P a B1 M1) : Emt t B M P := fun H w Q k => h H w Q fun a B1 M1 H1 g q => k a B1 M1 H1 g (q fun p o hp => (g.own.m p o hp).2)
/-- a dict with plain keys that is owned, locked or not -/
def DkM (M : Hp) (d : Addr) (kvs : List (Key × V)) : Prop := M d = some (.dK kvs) ∨ ∃ o, M d = some (.frz o (.dK kvs))
theorem DkM.rd {B M : Hp} {d : Addr} {kvs : List (Key × V)} (h : DkM M d kvs) (own : ∀ p o, M p = some o → B p = none) : Rd (jn B M) d (.dK kvs) := by
  rcases h with h | ⟨o, h⟩
  · exact .inl (jn_m h (own _ _ h))
  · exact .inr ⟨o, jn_m h (own _ _ h)⟩
section
variable {X : Cx} {a b c e o i : Expr} {es : List Expr} {σ : St} {B M : Hp} {P : V → Hp → Hp → Prop} {PT' : Bool → Hp → Hp → Prop} {pos apos : Pos} {k : Nat} {f C : Addr} {S : Spc} {dvs : List V}
theorem em_fldM {f : Str} (h : EM X e σ B M fun x B1 M1 => ∃ a C dx fs v, x = .ref a ∧ M1 a = some (.ins C dx fs) ∧ Cls X.K C ∧ NoAttr X.K C f ∧ fs.lookup f = some v ∧ P v B1 M1) (hb : attributeBase e f X.env (eval e X.env) = eval e X.env := by rfl) : EM X (.Attribute e f pos) σ B M P :=
  em_fld (Emt.own' (h.imp fun x B1 M1 _ ⟨a, C, dx, fs, v, h1, h2, h3, h4, h5, h6⟩ own => ⟨a, C, dx, fs, v, h1, jn_m h2 (own _ _ h2), h3, h4, h5, h6⟩)) hb
theorem em_dgetM (hu : X.A.units + 1 < cLine) (h : EM X o σ B M fun x B1 M1 => EM X i σ B1 M1 fun y B2 M2 => ∃ d kvs k v, x = .ref d ∧ DkM M2 d kvs ∧ y = kV k ∧ valV kvs k = some v ∧ P v B2 M2) (hs : NoSl i := by exact fun _ _ => rfl) : EM X (.Subscript o i pos) σ B M P :=
  em_dget hu (h.imp fun x B1 M1 _ h1 => Emt.own' (h1.imp fun y B2 M2 _ ⟨d, kvs, k, v, e1, e2, e3, e4, e5⟩ own => ⟨d, v, e1, .inl ⟨kvs, k, e2.rd own, e3, e4.symm⟩, e5⟩)) hs
theorem tm_dinM (hu : X.A.units + 1 < cLine) (h : EM X i σ B M fun y B1 M1 => EM X o σ B1 M1 fun x B2 M2 => ∃ d kvs k, x = .ref d ∧ DkM M2 d kvs ∧ y = kV k ∧ PT' (valV kvs k).isSome B2 M2) (hb : behindInMarks .In o = false := by rfl) : TM X (.Compare i [.In] [o] pos) σ B M PT' :=
  tm_din hu (h.imp fun y B1 M1 _ h1 => Emt.own' (h1.imp fun x B2 M2 _ ⟨d, kvs, k, e1, e2, e3, e5⟩ own => ⟨d, valV kvs k, e1, .inl ⟨kvs, k, e2.rd own, e3, rfl⟩, e5⟩)) hb
theorem tm_dninM (hu : X.A.units + 1 < cLine) (h : EM X i σ B M fun y B1 M1 => EM X o σ B1 M1 fun x B2 M2 => ∃ d kvs k, x = .ref d ∧ DkM M2 d kvs ∧ y = kV k ∧ PT' (!(valV kvs k).isSome) B2 M2) (hb : behindInMarks .NotIn o = false := by rfl) : TM X (.Compare i [.NotIn] [o] pos) σ B M PT' :=
  tm_dnin hu (h.imp fun y B1 M1 _ h1 => Emt.own' (h1.imp fun x B2 M2 _ ⟨d, kvs, k, e1, e2, e3, e5⟩ own => ⟨d, valV kvs k, e1, .inl ⟨kvs, k, e2.rd own, e3, rfl⟩, e5⟩)) hb
theorem em_methM {m : Str} (F : Pr X.prog X.w X.K X.mg X.base k f dvs S) (hr : Room k X.A) (c : Cls X.K C) (hm : Meth X.K C m f) {pl : Sem Bool}
    (h : EM X o σ B M fun x B1 M1 => ∃ a dx fs, x = .ref a ∧ M1 a = some (.ins C dx fs) ∧ fs.lookup m = none ∧ AM X (e :: es) σ B1 M1 fun vs B2 M2 => S (x :: (vs ++ dvs)) B2 M2 P)
    (hst : starEach (e :: es) X.env = (false, eval e X.env) :: starEach es X.env := by rfl) (hpl : (backTo pos (starEach es X.env)).any (·.1) = false := by rfl)
    (ht : eval (.Call (.Attribute o m apos) (e :: es) [] pos) X.env = (do
      let ov ← eval o X.env
      standAt apos.atName
      let (f, first) ← holding [ov] (getMethod ov m pl)
      callWith pos f first (backTo pos (starEach (e :: es) X.env)) (backToKw pos (keywordEach [] X.env))) := by rfl) : EM X (.Call (.Attribute o m apos) (e :: es) [] pos) σ B M P :=
  em_meth F hr c hm (Emt.own' (h.imp fun x B1 M1 _ ⟨a, dx, fs, h1, h2, h3, h4⟩ own => ⟨a, dx, fs, h1, jn_m h2 (own _ _ h2), h3, h4⟩)) hst hpl ht
theorem em_methM0 {m : Str} (F : Pr X.prog X.w X.K X.mg X.base k f dvs S) (hr : Room k X.A) (c : Cls X.K C) (hm : Meth X.K C m f) {pl : Sem Bool}
    (h : EM X o σ B M fun x B1 M1 => ∃ a dx fs, x = .ref a ∧ M1 a = some (.ins C dx fs) ∧ fs.lookup m = none ∧ S (x :: dvs) B1 M1 P)
    (ht : eval (.Call (.Attribute o m apos) [] [] pos) X.env = (do
      let ov ← eval o X.env
      standAt apos.atName
      let (f, first) ← holding [ov] (getMethod ov m pl)
      callWith pos f first (backTo pos (starEach [] X.env)) (backToKw pos (keywordEach [] X.env))) := by rfl) : EM X (.Call (.Attribute o m apos) [] [] pos) σ B M P :=
  em_meth0 F hr c hm (Emt.own' (h.imp fun x B1 M1 _ ⟨a, dx, fs, h1, h2, h3, h4⟩ own => ⟨a, dx, fs, h1, jn_m h2 (own _ _ h2), h3, h4⟩)) ht
/-- o.f(e, ..), f a field that holds an instance which may be called -/
theorem getfld_ok {pins : List (Addr × Obj)} {H : Hp} {s : Shared} {a dx : Addr} {fs : List (Str × V)} {f : Str} {v : V} {pl : Sem Bool} {Q : Value × List Value → Shared → Prop} (I : Inv X pins σ H s) (e : H a = some (.ins C dx fs)) (c : Cls X.K C) (n : NoAttr X.K C f) (l : fs.lookup f = some v)
    (h : ∀ u s', Inv X pins σ H s' → RelV v u → Q (u, []) s') : wpAny (model X.prog X.w) X.A (getMethod (.ref a) f pl) Q X.xe s := by
  obtain ⟨mA, O, r, _, _, _⟩ := ins_get I.hok e
  obtain ⟨od, J, hl⟩ := O.look
  exact PySem.W.method_usual (r := none) I.kIn J (PySem.W.plainGet_of (c.get f)).1 (PySem.W.plainGet_of (c.get f)).2 n rfl (getattr_ok I e c n l h)
theorem em_callFld {C' g : Addr} {f : Str} {pl : Sem Bool} (F : Pr X.prog X.w X.K X.mg X.base k g [] S) (hr : Room k X.A) (c : StX.CallO X.K C' g)
    (h : EM X o σ B M fun x B1 M1 => ∃ a C dx fs b, x = .ref a ∧ M1 a = some (.ins C dx fs) ∧ Cls X.K C ∧ NoAttr X.K C f ∧ fs.lookup f = some (.ref b) ∧ AM X (e :: es) σ B1 M1 fun vs B2 M2 => (∃ dx' fs', jn B2 M2 b = some (.ins C' dx' fs')) ∧ S (.ref b :: vs) B2 M2 P)
    (hst : starEach (e :: es) X.env = (false, eval e X.env) :: starEach es X.env := by rfl) (hpl : (backTo pos (starEach es X.env)).any (·.1) = false := by rfl)
    (ht : eval (.Call (.Attribute o f apos) (e :: es) [] pos) X.env = (do
      let ov ← eval o X.env
      standAt apos.atName
      let (f, first) ← holding [ov] (getMethod ov f pl)
      callWith pos f first (backTo pos (starEach (e :: es) X.env)) (backToKw pos (keywordEach [] X.env))) := by rfl) : EM X (.Call (.Attribute o f apos) (e :: es) [] pos) σ B M P := by
  obtain ⟨fd, ps, ds, G, hb, hd⟩ := F.ex
  have pe : PE X (.Call (.Attribute o f apos) (e :: es) [] pos) (fun σ H Q => wE X o σ H fun x H1 => ∃ a C dx fs b, x = .ref a ∧ H1 a = some (.ins C dx fs) ∧ Cls X.K C ∧ NoAttr X.K C f ∧ fs.lookup f = some (.ref b) ∧ wA X (e :: es) σ H1 fun vs H2 => (∃ dx' fs', H2 b = some (.ins C' dx' fs')) ∧ MSp S (.ref b :: vs) H2 Q E0) := by
    refine ⟨fun pins s σ H Q I h => ?_⟩
    refine PySem.W.methodCall_KW (pl := pl) (thn (pe_w.run pins s σ H _ I h) fun u s1 ⟨x, H1, I1, rx, a, C, dx, fs, b, ex, ea, cl, n, l, q⟩ => ?_) ht
    subst ex
    obtain rfl : u = Value.ref a := rx
    refine getfld_ok I1 ea cl n l fun u' s2 I2 ru => ?_
    obtain rfl : u' = Value.ref b := ru
    refine StX.callO_with (thn (pa_w.run pos pins s2 σ H1 _ I2 q) fun us s3 ⟨vs, H2, I3, r, ⟨dx', fs', hb'⟩, q2⟩ => ?_) hst hpl
    obtain ⟨ox, od, J, hdp⟩ := StX.insC_at I3 (.inr ⟨dx', fs', hb'⟩)
    exact ⟨⟨C', ox, od, J, hdp⟩, StX.run_callO (sp := MSp S) (E := E0) c ((G.raw hb hd).imp fun vs H Q E hs => by rw [List.append_nil]; exact hs) hr pass0 I3 (.inr ⟨dx', fs', hb'⟩) r q2⟩
  exact em_of pe fun H w Q kq => h H w _ fun x B1 M1 H1 g ⟨a, C, dx, fs, b, ex, ea, cl, n, l, q⟩ => ⟨a, C, dx, fs, b, ex, (g.own.m _ _ ea).1, cl, n, l, q H1 g.own _ fun vs B2 M2 H2 g2 ⟨⟨dx', fs', hb'⟩, q2⟩ => ⟨⟨dx', fs', g2.own.jn _ _ hb'⟩, B2, M2, P, g2.own, q2, fun v B3 M3 H3 g3 q3 => kq v B3 M3 H3 ((g.tr g2).tr g3) q3⟩⟩
end
section
variable {X : Cx} {scope : Scope} {e tg src kx vx : Expr} {st : Stmt} {ifs : List Expr} {body : List Stmt} {σ : St} {B M : Hp} {d : Addr} {u : HO} {pos : Pos} {E : EndsM} {P : V → Hp → Hp → Prop}
/-- for k in d, d locked: keys ints and texts -/
theorem s1_forKM (hp : PassesOwn (model X.prog X.w) X.A X.env X.xe) (hc : X.calm = true)
    (h : EM X src σ B M fun v B1 M1 => ∃ d o kvs, v = .ref d ∧ M1 d = some (.frz o (.dK kvs)) ∧ ∃ I : Nat → St → Hp → Hp → Prop, I 0 σ B1 M1 ∧ (∀ i σ' B' M', i ≤ kvs.length → I i σ' B' M' → M' d = some (.frz o (.dK kvs))) ∧
      (∀ i k v σ' B' M', kvs[i]? = some (k, v) → Ex B1 B' → I i σ' B' M' → TurnM X tg body E (I (i + 1)) (kV k) σ' B' M') ∧ ∀ σ' B' M', Ex B1 B' → I kvs.length σ' B' M' → E.nx σ' B' M')
    (hs : ∀ x, foldedSetIterable src X.env x = pure x := by intro _; rfl) : S1 X (.For tg src body [] pos) σ B M E :=
  s1_of (ps_for hp hc (pi_keys pe_w) pg_w pss_w hs) fun H w D k1 k2 k3 k4 => h H w _ fun v B1 M1 H1 g1 ⟨d, o, kvs, hv, hd, I, i0, il, it, ie⟩ => ⟨d, o, hv, .inl ⟨kvs, (g1.own.m _ _ hd).1,
    fun i m σ' H' => i + m = kvs.length ∧ ∃ B' M', Gs B1 M1 H1 B' M' H' ∧ I i σ' B' M', ⟨kvs.length, Nat.zero_add _, B1, M1, Gs.id' g1.own, i0⟩, fun i m σ' H' ⟨hm, B', M', g, q⟩ => by
      have hf := (g.own.m _ _ (il i σ' B' M' (by omega) q)).1
      cases m with
      | zero =>
        have e : i = kvs.length := by omega
        rw [e] at q
        exact .inl ⟨⟨hf, by omega⟩, k1 _ _ _ _ (g1.tr g) (ie σ' B' M' g.b q)⟩
      | succ m =>
        refine .inr ⟨⟨hf, by omega⟩, fun σ2 H2 => ∃ B' M', Gs B1 M1 H1 B' M' H2 ∧ I (i + 1) σ2 B' M', fun σ2 H2 z => ⟨m, Nat.lt_succ_self m, by omega, z⟩, fun x H2 ⟨e, k, v, hk, hx⟩ => ?_⟩
        subst e hx
        exact turn_go g (it i k v σ' B' M' hk g.b q) (fun a b c d g3 z => ⟨b, c, g3, z⟩) (fun a b c d g3 z => k1 a b c d (g1.tr g3) z) (fun a b c d g3 z => k2 a b c d (g1.tr g3) z)⟩⟩
/-- keys that are tuples -/
theorem s1_forTM (hp : PassesOwn (model X.prog X.w) X.A X.env X.xe) (hc : X.calm = true)
    (h : EM X src σ B M fun v B1 M1 => ∃ d o kvs, v = .ref d ∧ M1 d = some (.frz o (.dT kvs)) ∧ ∃ I : Nat → St → Hp → Hp → Prop, I 0 σ B1 M1 ∧ (∀ i σ' B' M', i ≤ kvs.length → I i σ' B' M' → M' d = some (.frz o (.dT kvs))) ∧
      (∀ i k v q σ' B' M' B2, kvs[i]? = some (k, v) → Ex B1 B' → I i σ' B' M' → Ex B' B2 → jn B2 M' q = some (.tup (k.map kV)) → TurnM X tg body E (I (i + 1)) (.ref q) σ' B2 M') ∧ ∀ σ' B' M', Ex B1 B' → I kvs.length σ' B' M' → E.nx σ' B' M')
    (hs : ∀ x, foldedSetIterable src X.env x = pure x := by intro _; rfl) : S1 X (.For tg src body [] pos) σ B M E :=
  s1_of (ps_for hp hc (pi_keys pe_w) pg_w pss_w hs) fun H w D k1 k2 k3 k4 => h H w _ fun v B1 M1 H1 g1 ⟨d, o, kvs, hv, hd, I, i0, il, it, ie⟩ => ⟨d, o, hv, .inr ⟨kvs, (g1.own.m _ _ hd).1,
    fun i m σ' H' => i + m = kvs.length ∧ ∃ B' M', Gs B1 M1 H1 B' M' H' ∧ I i σ' B' M', ⟨kvs.length, Nat.zero_add _, B1, M1, Gs.id' g1.own, i0⟩, fun i m σ' H' ⟨hm, B', M', g, q⟩ => by
      have hf := (g.own.m _ _ (il i σ' B' M' (by omega) q)).1
      cases m with
      | zero =>
        have e : i = kvs.length := by omega
        rw [e] at q
        exact .inl ⟨⟨hf, by omega⟩, k1 _ _ _ _ (g1.tr g) (ie σ' B' M' g.b q)⟩
      | succ m =>
        refine .inr ⟨⟨hf, by omega⟩, fun σ2 H2 => ∃ B' M', Gs B1 M1 H1 B' M' H2 ∧ I (i + 1) σ2 B' M', fun σ2 H2 z => ⟨m, Nat.lt_succ_self m, by omega, z⟩, fun x H2 ⟨e, k, v, t, hk, hx, ht⟩ => ?_⟩
        subst e hx
        obtain ⟨B2, g2, j2⟩ := g.own.meet ht
        exact turn_go (g.tr g2) (it i k v t σ' B' M' B2 hk g.b q g2.b j2) (fun a b c d g3 z => ⟨b, c, g3, z⟩) (fun a b c d g3 z => k1 a b c d (g1.tr g3) z) (fun a b c d g3 z => k2 a b c d (g1.tr g3) z)⟩⟩
end
end LC
end LcCst
section LcCst2
set_option maxHeartbeats 4000000
set_option exponentiation.threshold 1000
/-! A costing's objects; unit_cost, cost_of. -/
namespace LC
open PySem L2
open He (ga ma)
open He5 (wf)
structure Ad where
  a : Addr
  dx : Addr
  d1 : Addr
  d2 : Addr
  d3 : Addr
  d4 : Addr
def coF (A : Ad) (rv sv : V) : List (Str × V) := [("chosen", rv), ("stack", sv), ("bought", .ref A.d1), ("known_late", .ref A.d2), ("sold", .ref A.d3), ("forms", .ref A.d4)]
def coO (K : PySem.W.Frag) (A : Ad) (rv sv : V) : HO := .ins (ga K "Costing") A.dx (coF A rv sv)
structure CoM (K : PySem.W.Frag) (U : List Str) (ub : Str → Nat) (lo : Str → Str) (B M : Hp) (A : Ad) (rv : V) (b : Bk) (stk : List Part) (sp : Str → List Part) (pls : List Pl) (ff : Pl → Str → Rat) : Prop where
  ob : ∃ sv, M A.a = some (coO K A rv sv) ∧ LyAt K B sv stk
  m1 : ∃ k1, M A.d1 = some (.dK k1) ∧ KvR (fun k v _ => v = .int (ub k : Nat)) k1 b.lots B
  m2 : ∃ k2, M A.d2 = some (.dK k2) ∧ KvR (fun k v _ => v = .str (lo k)) k2 b.lates B
  m3 : ∃ k3, M A.d3 = some (.dK k3) ∧ KvR (fun k v B => LyAt K B v (sp k)) k3 b.sales B
  m4 : ∃ k4, M A.d4 = some (.dT k4) ∧ DtR (fun p v B => FormAt K U B v (ff p)) k4 pls B
  n12 : A.d1 ≠ A.d2
  n13 : A.d1 ≠ A.d3
  n23 : A.d2 ≠ A.d3
theorem hne {M : Hp} {p q : Addr} {o u : HO} (h1 : M p = some o) (h2 : M q = some u) (h : o ≠ u) : p ≠ q := fun e => h (by rw [e, h2] at h1; injection h1 with h1; exact h1.symm)
section
variable {K : PySem.W.Frag} {U : List Str} {ub : Str → Nat} {lo : Str → Str} {B B' M M' : Hp} {A : Ad} {rv : V} {b : Bk} {stk : List Part} {sp : Str → List Part} {pls : List Pl} {ff : Pl → Str → Rat}
theorem CoM.up (h : CoM K U ub lo B M A rv b stk sp pls ff) (x : Ex B B') (s : Sub M M') : CoM K U ub lo B' M' A rv b stk sp pls ff := by
  obtain ⟨⟨sv, h1, h2⟩, ⟨k1, h3, h4⟩, ⟨k2, h5, h6⟩, ⟨k3, h7, h8⟩, ⟨k4, h9, h10⟩, n1, n2, n3⟩ := h
  exact ⟨⟨sv, s _ _ h1, h2.up x⟩, ⟨k1, s _ _ h3, h4.up fun _ _ z => z⟩, ⟨k2, s _ _ h5, h6.up fun _ _ z => z⟩, ⟨k3, s _ _ h7, h8.up fun _ _ z => z.up x⟩, ⟨k4, s _ _ h9, h10.up fun _ _ z => z.up x⟩, n1, n2, n3⟩
theorem Sub.id' : Sub M M := fun _ _ h => h
theorem CoM.upB (h : CoM K U ub lo B M A rv b stk sp pls ff) (x : Ex B B') : CoM K U ub lo B' M A rv b stk sp pls ff := h.up x Sub.id'
end
structure UcI (ub : Str → Nat) (U : List Str) (b : Bk) (D : Nat) : Prop where
  ndT : b.lates.Nodup
  dis : ∀ c ∈ b.lates, c ∉ b.lots
  u1 : ∀ l ∈ b.lots, 1 ≤ ub l ∧ ub l ≤ 1000000
  uD : ∀ l ∈ b.lots, IntD D (1 / (ub l : Rat))
  dok : DOk D
  lU : ∀ l ∈ b.lots, l ∈ U
  tU : ∀ c ∈ b.lates, c ∈ U
theorem sz1 {D : Nat} (d : DOk D) {q : Rat} (h : IntD D q) (h0 : 0 ≤ q) (h1 : q ≤ 1) : Sz q := h.abs_sz d h0 (Rat.le_trans h1 (by decide))
theorem szOne {c k : Str} : Sz (oneF c k) := by
  unfold oneF
  split
  · exact szI
  · exact sz0
theorem szDD {D E : Nat} (d : DOk D) (e : DOk E) {q : Rat} (h : IntD (D * E) q) (h1 : -(100000000 : Nat) ≤ q) (h2 : q ≤ (100000000 : Nat)) : Sb 500 q := by
  have hD : D * E < 2 ^ 440 := by
    have := Nat.mul_lt_mul'' d.hi e.hi
    rwa [← Nat.pow_add] at this
  refine Cn.sb (Nat.mul_pos d.pos e.pos) (Nat.lt_of_lt_of_le hD (Nat.pow_le_pow_right (by decide) (by decide))) ?_ (h.cn h1 h2)
  have : 100000000 * (D * E) < 2 ^ 27 * 2 ^ 440 := Nat.mul_lt_mul_of_le_of_lt (by decide) hD (by decide)
  rw [← Nat.pow_add] at this
  exact Nat.lt_of_lt_of_le this (Nat.pow_le_pow_right (by decide) (by decide))
theorem b87 {q : Rat} (h1 : -(10000000 : Nat) ≤ q) (h2 : q ≤ (10000000 : Nat)) : -(100000000 : Nat) ≤ q ∧ q ≤ (100000000 : Nat) := by
  have e1 : ((10000000 : Nat) : Rat) = 10000000 := rfl
  have e2 : ((100000000 : Nat) : Rat) = 100000000 := rfl
  rw [e1] at h1 h2
  rw [e2]
  constructor <;> grind
section
variable {ub : Str → Nat} {lo : Str → Str} {U : List Str} {b : Bk} {D : Nat} (u : UcI ub U b D)
include u
theorem UcI.ok {l k : Str} (hl : l ∈ b.lots) (i : Nat) : 0 ≤ uc ub lo (b.lates.take i) l k ∧ uc ub lo (b.lates.take i) l k ≤ 1 ∧ IntD D (uc ub lo (b.lates.take i) l k) :=
  uc_ok (u.ndT.sublist (List.take_sublist _ _)) (fun h => u.dis l (List.mem_of_mem_take h) hl) (u.u1 l hl).1 (u.uD l hl)
theorem UcI.sz {l : Str} (hl : l ∈ b.lots) (i : Nat) : SzF (uc ub lo (b.lates.take i) l) := fun k => by
  obtain ⟨h1, h2, h3⟩ := u.ok (lo := lo) (k := k) hl i
  exact sz1 u.dok h3 h1 h2
theorem UcI.un {l : Str} (hl : l ∈ b.lots) : (ub l : Rat) ≠ 0 := fun z => by
  have := (u.u1 l hl).1
  have := Rat.natCast_eq_zero_iff.mp z
  omega
theorem UcI.szu {l : Str} (hl : l ∈ b.lots) : Sz (ub l : Rat) := sz_nat (by have := (u.u1 l hl).2; omega)
theorem UcI.szdiv {l c : Str} (hl : l ∈ b.lots) : SzF (fun k => oneF c k / (ub l : Rat)) := fun k => by
  obtain ⟨i1, i2⟩ := inv_le (u.u1 l hl).1
  show Sz (oneF c k / (ub l : Rat))
  unfold oneF
  split
  · exact sz1 u.dok (u.uD l hl) i1 i2
  · have e : (0 : Rat) / (ub l : Rat) = 0 := by grind
    rw [e]; exact sz0
end
theorem uc_add {ub : Str → Nat} {lo : Str → Str} {L : List Str} {l c k : Str} (h : lo c = l) : uc ub lo (L ++ [c]) l k = uc ub lo L l k + oneF c k / (ub l : Rat) := by
  unfold uc
  rw [lsum_append]
  show _ + (_ + (oneF c k * (oneF l (lo c) / (ub l : Rat)) + 0)) = _
  have : oneF l (lo c) = 1 := if_pos h
  rw [this]; grind
theorem uc_skip {ub : Str → Nat} {lo : Str → Str} {L : List Str} {l c k : Str} (h : lo c ≠ l) : uc ub lo (L ++ [c]) l k = uc ub lo L l k := by
  unfold uc
  rw [lsum_append]
  show _ + (_ + (oneF c k * (oneF l (lo c) / (ub l : Rat)) + 0)) = _
  have : oneF l (lo c) = 0 := if_neg h
  rw [this]; grind
theorem FormAt.eq {K : PySem.W.Frag} {U : List Str} {B : Hp} {v : V} {φ ψ : Str → Rat} (h : FormAt K U B v φ) (e : ∀ k, φ k = ψ k) : FormAt K U B v ψ := by
  have : φ = ψ := funext e
  rwa [this] at h
theorem take1 {α : Type} {xs : List α} {i : Nat} {x : α} (h : xs[i]? = some x) : xs.take (i + 1) = xs.take i ++ [x] := by rw [List.take_add_one, h]; rfl
theorem str_eqd {a b : Str} : decide (V.str a = V.str b) = decide (a = b) := by
  by_cases h : a = b
  · rw [dt h, dt (by rw [h])]
  · rw [df h, df fun z => h (by injection z)]
section
variable {P : Program} {w : World} {K : PySem.W.Frag} {mg : Str → Option Value} {base : Heap} {U : List Str}
def spUc (K : PySem.W.Frag) (U : List Str) : Spc := fun vs B M Q => ∃ A rv ub lo b stk sp pls ff D l, vs = [.ref (Ad.a A), .str l] ∧ CoM K U ub lo B M A rv b stk sp pls ff ∧ UcI ub U b D ∧ l ∈ b.lots ∧
  ∀ v B', Ex B B' → FormAt K U B' v (uc ub lo b.lates l) → Q v B' M
theorem pr_uc (F : FP P w K mg base U) : Pr P w K mg base 54 (ma K (ga K "Costing") "unit_cost") [] (spUc K U) := by
  have t := F.b.r.t
  refine pr_def t.f_Costing_unit_cost sc_Costing_unit_cost (fun _ _ _ _ _ _ us hl => match us, hl with | [_, _], _ => rfl) (by rintro _ _ _ _ ⟨A, rv, ub, lo, b, stk, sp, pls, ff, D, l, rfl, _⟩; rfl) ?_
  rintro cdv Ar outer s H E vs B M Q hr ⟨A, rv, ub, lo, b, stk, sp, pls, ff, D, l, rfl, cm, u, hl, hq⟩
  obtain ⟨sv, ob, _⟩ := cm.ob
  obtain ⟨k1, hk1, kv1⟩ := cm.m1
  obtain ⟨k2, hk2, kv2⟩ := cm.m2
  have na2 : A.a ≠ A.d2 := hne ob hk2 (by intro z; cases z)
  refine sm_cons (s1_set 2 sc_Costing_unit_cost.nd (em_Fof F hr (em_nm 1 ⟨l, rfl, u.lU l hl, fun v1 B1 hB1 hv1 => ?_⟩)))
  have f2 : ∀ od, (upd M A.d2 (.frz od (.dK k2))) A.d2 = some (.frz od (.dK k2)) := fun od => upd_same
  have oa : ∀ od, (upd M A.d2 (.frz od (.dK k2))) A.a = some (coO K A rv sv) := fun od => by rw [upd_ne na2]; exact ob
  have o1 : ∀ od, (upd M A.d2 (.frz od (.dK k2))) A.d1 = some (.dK k1) := fun od => by rw [upd_ne cm.n12]; exact hk1
  obtain ⟨w1, hw1, hw2⟩ := kv1.some hl
  subst hw2
  have all : ∀ i, uc ub lo (b.lates.take i) l = uc ub lo (b.lates.take i) l := fun _ => rfl
  refine sm_cons (s1_lock hk2 True.intro fun od => s1_forKM PassesOwn.never rfl (em_fldM (em_nm 0 ⟨A.a, _, A.dx, _, .ref A.d2, rfl, oa od, t.cl_Costing, t.no_Costing_known_late, rfl, A.d2, od, k2, rfl, f2 od,
    fun i σ B' M' => ∃ vf o, σ = [some (.ref A.a), some (.str l), some vf, o] ∧ M' = upd M A.d2 (.frz od (.dK k2)) ∧ Ex B B' ∧ FormAt K U B' vf (uc ub lo (b.lates.take i) l), ⟨v1, _, rfl, rfl, hB1, hv1.eq fun k => ?_⟩, ?_, ?_, ?_⟩)))
  · rw [List.take_zero]; show _ = oneF l k + 0; grind
  · rintro i σ B' M' _ ⟨vf, o, rfl, rfl, _⟩
    exact f2 od
  · rintro i q v σ B' M' hi _ ⟨vf, o, rfl, rfl, hB, hvf⟩
    obtain ⟨c, rfl, hc, hcv, rfl⟩ := kv2.ix hi
    have hcm := List.mem_of_getElem? hc
    refine gm_name 3 sc_Costing_unit_cost.nd (sm_one (s1_if (tm_cmp op_eq (em_dgetM (u1 hr) (em_fldM (em_nm 0 ⟨A.a, _, A.dx, _, .ref A.d2, rfl, oa od, t.cl_Costing, t.no_Costing_known_late, rfl, em_nm 3 ⟨A.d2, k2, .inr c, _, rfl, .inr ⟨od, f2 od⟩, rfl, hcv, em_nm 1 (om_eq rfl ⟨_, rfl, ?_⟩)⟩⟩))))))
    by_cases h : lo c = l
    · refine ift (dt (by show V.str (lo c) = V.str l; rw [h])) ?_
      refine sm_one (s1_set 2 sc_Costing_unit_cost.nd (em_Fadd F hr (em_nm 2 (em_Fover F hr (em_Fof F hr (em_nm 3 ⟨c, rfl, u.tU c hcm, fun v2 B2 hB2 hv2 => ⟨oneF c, hv2, ?_⟩⟩))))))
      refine em_dgetM (u1 hr) (em_fldM (em_nm 0 ⟨A.a, _, A.dx, _, .ref A.d1, rfl, oa od, t.cl_Costing, t.no_Costing_bought, rfl, em_nm 1 ⟨A.d1, k1, .inr l, _, rfl, .inl (o1 od), rfl, hw1, ?_⟩⟩))
      refine ⟨(ub l : Rat), .inl ⟨_, rfl, by rw [Rat.intCast_natCast]⟩, fun k => szOne, u.szu hl, u.un hl, u.szdiv hl, fun v3 B3 hB3 hv3 => ?_⟩
      have e : ∀ k, uc ub lo (b.lates.take i) l k + oneF c k / (ub l : Rat) = uc ub lo (b.lates.take (i + 1)) l k := fun k => by rw [take1 hc, uc_add h]
      refine ⟨_, _, hvf.up (hB2.tr hB3), hv3, u.sz hl i, u.szdiv hl, fun k => ?_, fun v4 B4 hB4 hv4 => ⟨v4, _, rfl, rfl, ((hB.tr hB2).tr hB3).tr hB4, hv4.eq e⟩⟩
      show Sz (uc ub lo (b.lates.take i) l k + oneF c k / (ub l : Rat))
      rw [e]; exact u.sz hl (i + 1) k
    · refine iff' (df (by show ¬ V.str (lo c) = V.str l; exact fun z => h (by injection z))) (sm_nil ⟨vf, _, rfl, rfl, hB, hvf.eq fun k => ?_⟩)
      rw [take1 hc, uc_skip h]
  · rintro σ B' M' _ ⟨vf, o, rfl, rfl, hB, hvf⟩
    refine ⟨f2 od, ?_⟩
    rw [upd_twice, upd_self hk2]
    refine sm_one (s1_ret (em_nm 2 (hq vf B' hB ?_)))
    rwa [kv2.len, List.take_length] at hvf
theorem UcI.costI {ub : Str → Nat} {lo : Str → Str} {b : Bk} {D m : Nat} {ps : List Part} (u : UcI ub U b D) (h : Ly b.lots D m ps) (k : Str) : 0 ≤ cost ub lo b.lates ps k ∧ cost ub lo b.lates ps k ≤ (10000000 : Nat) ∧ IntD (D * D) (cost ub lo b.lates ps k) :=
  cost_ok h u.ndT (fun l hl hl' => u.dis l hl' hl) (fun l hl => (u.u1 l hl).1) u.uD
theorem UcI.costSz {ub : Str → Nat} {lo : Str → Str} {b : Bk} {D m : Nat} {ps : List Part} (u : UcI ub U b D) (h : Ly b.lots D m ps) : SzF (cost ub lo b.lates ps) := fun k => by
  obtain ⟨h1, h2, h3⟩ := u.costI (lo := lo) h k
  obtain ⟨h4, h5⟩ := b8 h1 h2
  exact (szDD u.dok u.dok h3 h4 h5).sz (by decide)
def spCo (K : PySem.W.Frag) (U : List Str) : Spc := fun vs B M Q => ∃ A rv ub lo b stk sp pls ff D m v ps, vs = [.ref (Ad.a A), v] ∧ CoM K U ub lo B M A rv b stk sp pls ff ∧ UcI ub U b D ∧ LyAt K B v ps ∧ Ly b.lots D m ps ∧ m ≤ 1000 ∧
  ∀ v B', Ex B B' → FormAt K U B' v (cost ub lo b.lates ps) → Q v B' M
theorem pr_co (F : FP P w K mg base U) : Pr P w K mg base 55 (ma K (ga K "Costing") "cost_of") [] (spCo K U) := by
  have t := F.b.r.t
  refine pr_def t.f_Costing_cost_of sc_Costing_cost_of (fun _ _ _ _ _ _ us hl => match us, hl with | [_, _], _ => rfl) (by rintro _ _ _ _ ⟨A, rv, ub, lo, b, stk, sp, pls, ff, D, m, v, ps, rfl, _⟩; rfl) ?_
  rintro cdv Ar outer s H E vs B M Q hr ⟨A, rv, ub, lo, b, stk, sp, pls, ff, D, m, v, ps, rfl, cm, u, ⟨l, ys, rfl, hl, hys⟩, ly, hm, hq⟩
  obtain ⟨sv, ob, _⟩ := cm.ob
  refine sm_cons (s1_set 2 sc_Costing_cost_of.nd (em_F0 F.b (hr.mono (by decide)) fun v1 B1 hB1 hv1 => ?_))
  refine sm_cons (s1_for PassesOwn.never rfl (em_nm 1 ⟨l, ys, rfl, SqL.of (jn_b (hB1 _ _ hl)), fun i σ B' M' => ∃ vf o1 o2, σ = [some (.ref A.a), some (.ref l), some vf, o1, o2] ∧ M' = M ∧ Ex B B' ∧ FormAt K U B' vf (cost ub lo b.lates (ps.take i)), ⟨v1, _, _, rfl, rfl, hB1, hv1.eq fun k => ?_⟩, ?_, ?_, ?_⟩))
  · rw [List.take_zero]; rfl
  · rintro i σ B' M' _ ⟨vf, o1, o2, rfl, rfl, hB, _⟩
    exact SqL.of (jn_b (hB _ _ hl))
  · rintro i y σ B' M' hi _ ⟨vf, o1, o2, rfl, rfl, hB, hvf⟩
    obtain ⟨p, hp, q, r, rfl, hq1, hq2⟩ := paired_at hys hi
    have hpm := List.mem_of_getElem? hp
    have hlot := ly.lot p hpm
    have hr54 := hr.mono (show 53 ≤ 54 by decide)
    refine gm_tup rfl (SqT.of (jn_b (hB _ _ hq1))) (gms_cons (gm_name 3 sc_Costing_cost_of.nd (gms_cons (gm_name 4 sc_Costing_cost_of.nd (gms_nil ?_)))))
    refine sm_one (s1_set 2 sc_Costing_cost_of.nd (em_Fadd F hr54 (em_nm 2 (em_Fmul F hr54 (em_methM (pr_uc F) hr t.cl_Costing t.m_Costing_unit_cost (em_nm 0 ⟨A.a, A.dx, _, rfl, ob, rfl, am_cons (em_nm 3 (am_nil ⟨A, rv, ub, lo, b, stk, sp, pls, ff, D, p.1, rfl, cm.upB hB, u, hlot, fun v2 B2 hB2 hv2 => ?_⟩))⟩))))))
    have szp := ly.sz u.dok hpm
    have eL : b.lates.take b.lates.length = b.lates := List.take_length
    have ucs : SzF (uc ub lo b.lates p.1) := by have := u.sz (lo := lo) hlot b.lates.length; rwa [eL] at this
    have prs : SzF (fun k => uc ub lo b.lates p.1 k * p.2) := fun k => by
      have h1 := u.ok (lo := lo) (k := k) hlot b.lates.length
      rw [eL] at h1
      obtain ⟨h1, h2, h3⟩ := h1
      have p0 := Rat.le_of_lt (ly.pos p hpm)
      have p1 := Rat.le_trans (tot_mem ly.pos hpm) ly.hi
      have m0 := Rat.mul_nonneg h1 p0
      have m1 : uc ub lo b.lates p.1 k * p.2 ≤ (10000000 : Nat) := by
        have := Rat.mul_le_mul_of_nonneg_right h2 p0
        rw [Rat.one_mul] at this
        exact Rat.le_trans this p1
      obtain ⟨h4, h5⟩ := b8 m0 m1
      exact (szDD u.dok u.dok (h3.mul (ly.int p hpm)) h4 h5).sz (by decide)
    refine em_nm 4 ⟨_, p.2, hv2, (hq2.up (hB.tr hB2)).num, ucs, szp, prs, fun v3 B3 hB3 hv3 => ?_⟩
    have e : ∀ k, cost ub lo b.lates (ps.take i) k + uc ub lo b.lates p.1 k * p.2 = cost ub lo b.lates (ps.take (i + 1)) k := fun k => (W_take (fun l => uc ub lo b.lates l k) hp).symm
    refine ⟨_, _, hvf.up (hB2.tr hB3), hv3, u.costSz (ly.take i), prs, fun k => ?_, fun v4 B4 hB4 hv4 => ⟨v4, _, _, rfl, rfl, ((hB.tr hB2).tr hB3).tr hB4, hv4.eq e⟩⟩
    show Sz (cost ub lo b.lates (ps.take i) k + uc ub lo b.lates p.1 k * p.2)
    rw [e]; exact u.costSz (ly.take (i + 1)) k
  · rintro σ B' M' _ ⟨vf, o1, o2, rfl, rfl, hB, hvf⟩
    refine sm_one (s1_ret (em_nm 2 (hq vf B' hB ?_)))
    rwa [paired_len hys, List.take_length] at hvf
end
end LC
end LcCst2
section LcCst3
set_option maxHeartbeats 4000000
/-! A costing's changes; buy, late. -/
namespace LC
open PySem L2
open He (ga ma)
open He5 (wf)
def Frm (A : Ad) (M M' : Hp) : Prop := ∀ q, q ≠ A.a → q ≠ A.d1 → q ≠ A.d2 → q ≠ A.d3 → q ≠ A.d4 → M' q = M q
theorem Frm.id' {A : Ad} {M : Hp} : Frm A M M := fun _ _ _ _ _ _ => rfl
theorem Frm.tr {A : Ad} {M M1 M2 : Hp} (h : Frm A M M1) (h2 : Frm A M1 M2) : Frm A M M2 := fun q a b c d e => (h2 q a b c d e).trans (h q a b c d e)
section
variable {A : Ad} {M : Hp} {o : HO}
theorem Frm.sa : Frm A M (upd M A.a o) := fun q h _ _ _ _ => upd_ne h
theorem Frm.s1 : Frm A M (upd M A.d1 o) := fun q _ h _ _ _ => upd_ne h
theorem Frm.s2 : Frm A M (upd M A.d2 o) := fun q _ _ h _ _ => upd_ne h
theorem Frm.s3 : Frm A M (upd M A.d3 o) := fun q _ _ _ h _ => upd_ne h
theorem Frm.s4 : Frm A M (upd M A.d4 o) := fun q _ _ _ _ h => upd_ne h
end
section
variable {K : PySem.W.Frag} {U : List Str} {ub : Str → Nat} {lo : Str → Str} {B M : Hp} {A : Ad} {rv : V} {b b' : Bk} {stk : List Part} {sp : Str → List Part} {pls : List Pl} {ff : Pl → Str → Rat} (h : CoM K U ub lo B M A rv b stk sp pls ff)
include h
theorem CoM.na : A.a ≠ A.d1 ∧ A.a ≠ A.d2 ∧ A.a ≠ A.d3 ∧ A.a ≠ A.d4 ∧ A.d1 ≠ A.d4 ∧ A.d2 ≠ A.d4 ∧ A.d3 ≠ A.d4 := by
  obtain ⟨sv, h1, _⟩ := h.ob
  obtain ⟨k1, h2, _⟩ := h.m1
  obtain ⟨k2, h3, _⟩ := h.m2
  obtain ⟨k3, h4, _⟩ := h.m3
  obtain ⟨k4, h5, _⟩ := h.m4
  exact ⟨hne h1 h2 (by intro z; cases z), hne h1 h3 (by intro z; cases z), hne h1 h4 (by intro z; cases z), hne h1 h5 (by intro z; cases z), hne h2 h5 (by intro z; cases z), hne h3 h5 (by intro z; cases z), hne h4 h5 (by intro z; cases z)⟩
theorem CoM.setA {sv : V} {stk' : List Part} (hv : LyAt K B sv stk') : CoM K U ub lo B (upd M A.a (coO K A rv sv)) A rv b stk' sp pls ff := by
  obtain ⟨a1, a2, a3, a4, _⟩ := h.na
  obtain ⟨k1, h2, g2⟩ := h.m1
  obtain ⟨k2, h3, g3⟩ := h.m2
  obtain ⟨k3, h4, g4⟩ := h.m3
  obtain ⟨k4, h5, g5⟩ := h.m4
  exact ⟨⟨sv, upd_same, hv⟩, ⟨k1, by rw [upd_ne a1.symm]; exact h2, g2⟩, ⟨k2, by rw [upd_ne a2.symm]; exact h3, g3⟩, ⟨k3, by rw [upd_ne a3.symm]; exact h4, g4⟩, ⟨k4, by rw [upd_ne a4.symm]; exact h5, g5⟩, h.n12, h.n13, h.n23⟩
theorem CoM.set1 {k' : List (Key × V)} (hv : KvR (fun k v _ => v = .int (ub k : Nat)) k' b'.lots B) (e2 : b'.lates = b.lates) (e3 : b'.sales = b.sales) : CoM K U ub lo B (upd M A.d1 (.dK k')) A rv b' stk sp pls ff := by
  obtain ⟨a1, a2, a3, a4, a5, a6, a7⟩ := h.na
  obtain ⟨sv, h1, g1⟩ := h.ob
  obtain ⟨k2, h3, g3⟩ := h.m2
  obtain ⟨k3, h4, g4⟩ := h.m3
  obtain ⟨k4, h5, g5⟩ := h.m4
  exact ⟨⟨sv, by rw [upd_ne a1]; exact h1, g1⟩, ⟨k', upd_same, hv⟩, ⟨k2, by rw [upd_ne h.n12.symm]; exact h3, by rw [e2]; exact g3⟩, ⟨k3, by rw [upd_ne h.n13.symm]; exact h4, by rw [e3]; exact g4⟩, ⟨k4, by rw [upd_ne a5.symm]; exact h5, g5⟩, h.n12, h.n13, h.n23⟩
theorem CoM.set2 {k' : List (Key × V)} (hv : KvR (fun k v _ => v = .str (lo k)) k' b'.lates B) (e1 : b'.lots = b.lots) (e3 : b'.sales = b.sales) : CoM K U ub lo B (upd M A.d2 (.dK k')) A rv b' stk sp pls ff := by
  obtain ⟨a1, a2, a3, a4, a5, a6, a7⟩ := h.na
  obtain ⟨sv, h1, g1⟩ := h.ob
  obtain ⟨k1, h2, g2⟩ := h.m1
  obtain ⟨k3, h4, g4⟩ := h.m3
  obtain ⟨k4, h5, g5⟩ := h.m4
  exact ⟨⟨sv, by rw [upd_ne a2]; exact h1, g1⟩, ⟨k1, by rw [upd_ne h.n12]; exact h2, by rw [e1]; exact g2⟩, ⟨k', upd_same, hv⟩, ⟨k3, by rw [upd_ne h.n23.symm]; exact h4, by rw [e3]; exact g4⟩, ⟨k4, by rw [upd_ne a6.symm]; exact h5, g5⟩, h.n12, h.n13, h.n23⟩
theorem CoM.set3 {k' : List (Key × V)} {sp' : Str → List Part} (hv : KvR (fun k v B => LyAt K B v (sp' k)) k' b'.sales B) (e1 : b'.lots = b.lots) (e2 : b'.lates = b.lates) : CoM K U ub lo B (upd M A.d3 (.dK k')) A rv b' stk sp' pls ff := by
  obtain ⟨a1, a2, a3, a4, a5, a6, a7⟩ := h.na
  obtain ⟨sv, h1, g1⟩ := h.ob
  obtain ⟨k1, h2, g2⟩ := h.m1
  obtain ⟨k2, h3, g3⟩ := h.m2
  obtain ⟨k4, h5, g5⟩ := h.m4
  exact ⟨⟨sv, by rw [upd_ne a3]; exact h1, g1⟩, ⟨k1, by rw [upd_ne h.n13]; exact h2, by rw [e1]; exact g2⟩, ⟨k2, by rw [upd_ne h.n23]; exact h3, by rw [e2]; exact g3⟩, ⟨k', upd_same, hv⟩, ⟨k4, by rw [upd_ne a7.symm]; exact h5, g5⟩, h.n12, h.n13, h.n23⟩
theorem CoM.set4 {k' : List (List Key × V)} {pls' : List Pl} {ff' : Pl → Str → Rat} (hv : DtR (fun p v B => FormAt K U B v (ff' p)) k' pls' B) : CoM K U ub lo B (upd M A.d4 (.dT k')) A rv b stk sp pls' ff' := by
  obtain ⟨a1, a2, a3, a4, a5, a6, a7⟩ := h.na
  obtain ⟨sv, h1, g1⟩ := h.ob
  obtain ⟨k1, h2, g2⟩ := h.m1
  obtain ⟨k2, h3, g3⟩ := h.m2
  obtain ⟨k3, h4, g4⟩ := h.m3
  exact ⟨⟨sv, by rw [upd_ne a4]; exact h1, g1⟩, ⟨k1, by rw [upd_ne a5]; exact h2, g2⟩, ⟨k2, by rw [upd_ne a6]; exact h3, g3⟩, ⟨k3, by rw [upd_ne a7]; exact h4, g4⟩, ⟨k', upd_same, hv⟩, h.n12, h.n13, h.n23⟩
end
theorem KvR.add {R : Str → V → Hp → Prop} {kvs : List (Key × V)} {ks : List Str} {B : Hp} (h : KvR R kvs ks B) {k : Str} {v : V} (hk : k ∉ ks) (r : R k v B) : KvR R (putK kvs (.inr k) v) (ks ++ [k]) B := by
  have := h.put r
  rwa [addk, if_neg hk] at this
theorem Ly.filter {L : List Str} {D n : Nat} {xs : List Part} (h : Ly L D n xs) (l : Str) : Ly L D n (xs.filter fun p => p.1 = l) := by
  refine Ly.of_all (Nat.le_trans (List.length_filter_le _ _) h.len) (fun p hp => h.mem (List.mem_filter.mp hp).1) ?_
  rw [W_filter]
  refine Rat.le_trans (W_le (g := one') (fun p _ => ?_) h.pos) h.hi
  show oneF l p.1 ≤ 1
  unfold oneF
  split <;> decide
section
variable {P : Program} {w : World} {K : PySem.W.Frag} {mg : Str → Option Value} {base : Heap} {U : List Str}
def spCf (K : PySem.W.Frag) (U : List Str) : Spc := fun vs B M Q => ∃ A rv ub lo b stk sp pls ff n, vs = [.ref (Ad.a A), .str n] ∧ CoM K U ub lo B M A rv b stk sp pls ff ∧ n ∉ b.lots ∧ n ∉ b.lates ∧ ∀ B', Ex B B' → Q .non B' M
theorem pr_cf (t : Tx K mg) {k : Nat} : Pr P w K mg base (k + 1) (ma K (ga K "Costing") "check_free") [] (spCf K U) := by
  refine pr_def t.f_Costing_check_free sc_Costing_check_free (fun _ _ _ _ _ _ us hl => match us, hl with | [_, _], _ => rfl) (by rintro _ _ _ _ ⟨A, rv, ub, lo, b, stk, sp, pls, ff, n, rfl, _⟩; rfl) ?_
  rintro cdv Ar outer s H E vs B M Q hr ⟨A, rv, ub, lo, b, stk, sp, pls, ff, n, rfl, cm, h1, h2, hq⟩
  obtain ⟨sv, ob, _⟩ := cm.ob
  obtain ⟨k1, hk1, kv1⟩ := cm.m1
  obtain ⟨k2, hk2, kv2⟩ := cm.m2
  refine sm_one (s1_if (tm_w (wm_or (tm_dinM (u1 hr) (em_nm 1 (em_fldM (em_nm 0 ⟨A.a, _, A.dx, _, .ref A.d1, rfl, ob, t.cl_Costing, t.no_Costing_bought, rfl, A.d1, k1, .inr n, rfl, .inl hk1, rfl, ?_⟩)))))))
  rw [kv1.none h1]
  refine iff' rfl (wm_or1 (tm_dinM (u1 hr) (em_nm 1 (em_fldM (em_nm 0 ⟨A.a, _, A.dx, _, .ref A.d2, rfl, ob, t.cl_Costing, t.no_Costing_known_late, rfl, A.d2, k2, .inr n, rfl, .inl hk2, rfl, ?_⟩)))))
  rw [kv2.none h2]
  exact iff' rfl (sm_nil (hq B Ex.id'))
theorem lt_size {n : Nat} (h : n < 1000) : n < sizeLine := Nat.lt_of_lt_of_le h (by decide)
def spBuy (K : PySem.W.Frag) (U : List Str) : Spc := fun vs B M Q => ∃ A rv ub lo b stk sp pls ff n, ∃ u : Nat, vs = [.ref (Ad.a A), .str n, .int u] ∧ CoM K U ub lo B M A rv b stk sp pls ff ∧ n ∉ b.lots ∧ n ∉ b.lates ∧ ub n = u ∧ b.lots.length < 1000 ∧ stk.length ≤ 900 ∧
  ∀ v B' M', Ex B B' → CoM K U ub lo B' M' A rv (b.step (.buy n u)) (stk ++ [(n, (u : Rat))]) sp pls ff → Frm A M M' → FormAt K U B' v (fun _ => 0) → Q v B' M'
theorem pr_buy (F : FP P w K mg base U) : Pr P w K mg base 54 (ma K (ga K "Costing") "work_buy") [] (spBuy K U) := by
  have t := F.b.r.t
  refine pr_def t.f_Costing_work_buy sc_Costing_work_buy (fun _ _ _ _ _ _ us hl => match us, hl with | [_, _, _], _ => rfl) (by rintro _ _ _ _ ⟨A, rv, ub, lo, b, stk, sp, pls, ff, n, u, rfl, _⟩; rfl) ?_
  rintro cdv Ar outer s H E vs B M Q hr ⟨A, rv, ub, lo, b, stk, sp, pls, ff, n, u, rfl, cm, h1, h2, hu, hll, hsl, hq⟩
  obtain ⟨sv, ob, hsv⟩ := cm.ob
  obtain ⟨k1, hk1, kv1⟩ := cm.m1
  obtain ⟨a1, a2, a3, a4, _⟩ := cm.na
  refine sm_cons (s1_expr (em_methM (pr_cf t (k := 0)) (hr.mono (by decide)) t.cl_Costing t.m_Costing_check_free (em_nm 0 ⟨A.a, A.dx, _, rfl, ob, rfl, am_cons (em_nm 1 (am_nil ⟨A, rv, ub, lo, b, stk, sp, pls, ff, n, rfl, cm, h1, h2, fun B1 hB1 => ?_⟩))⟩)))
  refine sm_cons (s1_dput (u1 hr) (em_nm 2 (em_fldM (em_nm 0 ⟨A.a, _, A.dx, _, .ref A.d1, rfl, ob, t.cl_Costing, t.no_Costing_bought, rfl, em_nm 1 ⟨A.d1, rfl, .inl ⟨k1, .inr n, hk1, rfl, lt_size (by rw [kv1.len]; exact hll), ?_⟩⟩⟩))))
  have cm1 := (cm.upB hB1).set1 (b' := b.step (.buy n u)) (k' := putK k1 (.inr n) (.int u)) ((kv1.up fun _ _ z => z).add h1 (by rw [hu])) rfl rfl
  obtain ⟨l, ys, rfl, hl, hys⟩ := id hsv
  have oa : (upd M A.d1 (.dK (putK k1 (.inr n) (.int u)))) A.a = some (coO K A rv (.ref l)) := by rw [upd_ne a1]; exact ob
  refine sm_cons (s1_fld (em_lstB (am_star (em_fldM (em_nm 0 ⟨A.a, _, A.dx, _, .ref l, rfl, oa, t.cl_Costing, t.no_Costing_stack, rfl, l, ys, rfl, SqL.of (jn_b (hB1 _ _ hl)), am_cons (em_tup (am_cons (em_nm 1 (am_cons (em_R1 F.b.r (hr.mono (by decide)) (em_nm 2 ⟨(u : Int), rfl, fun v2 B2 hB2 hv2 => am_nil ⟨sl2, fun p hp mp => am_nil ⟨?_, fun lr hlr mlr => ?_⟩⟩⟩))))))⟩)))))
  · have := paired_len hys
    rw [List.length_append]
    exact le_size (by show ys.length + 1 < 1000; omega)
  have hB2p : Ex B2 (upd B2 p (.tup [.str n, v2])) := Ex.up hp
  have hBr : Ex (upd B2 p (.tup [.str n, v2])) (upd (upd B2 p (.tup [.str n, v2])) lr (.lst (ys ++ [.ref p]))) := Ex.up hlr
  have hBB : Ex B (upd (upd B2 p (.tup [.str n, v2])) lr (.lst (ys ++ [.ref p]))) := ((hB1.tr hB2).tr hB2p).tr hBr
  rw [Rat.intCast_natCast] at hv2
  have ly' : LyAt K (upd (upd B2 p (.tup [.str n, v2])) lr (.lst (ys ++ [.ref p]))) (.ref lr) (stk ++ [(n, (u : Rat))]) := ⟨lr, _, rfl, upd_same, paired_append (paired_up hys hBB) (.cons ⟨p, v2, rfl, hBr _ _ upd_same, hv2.up (hB2p.tr hBr)⟩ .nil)⟩
  refine em_nm 0 ⟨A.a, _, A.dx, coF A rv (.ref l), rfl, oa, t.cl_Costing, t.no_Costing_stack, (by show (6 : Nat) < 1000; decide), ?_⟩
  refine sm_one (s1_ret (em_F0 F.b (hr.mono (by decide)) fun v5 B5 hB5 hv5 => ?_))
  refine hq v5 B5 _ (hBB.tr hB5) (((cm1.upB ((hB2.tr hB2p).tr hBr)).setA ly').upB hB5) (Frm.s1.tr Frm.sa) hv5
def spLt (K : PySem.W.Frag) (U : List Str) : Spc := fun vs B M Q => ∃ A rv ub lo b stk sp pls ff c l D n, vs = [.ref (Ad.a A), .str c, .str l] ∧ CoM K U ub lo B M A rv b stk sp pls ff ∧ UcI ub U b D ∧ Ly b.lots D n stk ∧ n ≤ 1000 ∧ c ∉ b.lots ∧ c ∉ b.lates ∧ l ∈ b.lots ∧ lo c = l ∧ c ∈ U ∧ b.lates.length < 1000 ∧
  (0 ≤ (ub l : Rat) - W (oneF l) stk ∧ (ub l : Rat) - W (oneF l) stk ≤ (ub l : Rat) ∧ IntD D ((ub l : Rat) - W (oneF l) stk)) ∧
  ∀ v B' M', Ex B B' → CoM K U ub lo B' M' A rv (b.step (.late c l)) stk sp pls ff → Frm A M M' → FormAt K U B' v (fun k => oneF c k * (((ub l : Rat) - W (oneF l) stk) / (ub l : Rat))) → Q v B' M'
theorem pr_late (F : FP P w K mg base U) (R : LP P w K mg base) : Pr P w K mg base 54 (ma K (ga K "Costing") "work_late") [] (spLt K U) := by
  have t := F.b.r.t
  refine pr_def t.f_Costing_work_late sc_Costing_work_late (fun _ _ _ _ _ _ us hl => match us, hl with | [_, _, _], _ => rfl) (by rintro _ _ _ _ ⟨A, rv, ub, lo, b, stk, sp, pls, ff, c, l, D, n, rfl, _⟩; rfl) ?_
  rintro cdv Ar outer s H E vs B M Q hr ⟨A, rv, ub, lo, b, stk, sp, pls, ff, c, l, D, n, rfl, cm, u, ly, hn, h1, h2, hl, hlo, hcU, hll, ⟨o1, o2, o3⟩, hq⟩
  obtain ⟨sv, ob, hsv⟩ := cm.ob
  obtain ⟨k1, hk1, kv1⟩ := cm.m1
  obtain ⟨k2, hk2, kv2⟩ := cm.m2
  obtain ⟨a1, a2, a3, a4, _⟩ := cm.na
  obtain ⟨w1, hw1, hw2⟩ := kv1.some hl
  subst hw2
  refine sm_cons (s1_expr (em_methM (pr_cf t (k := 0)) (hr.mono (by decide)) t.cl_Costing t.m_Costing_check_free (em_nm 0 ⟨A.a, A.dx, _, rfl, ob, rfl, am_cons (em_nm 1 (am_nil ⟨A, rv, ub, lo, b, stk, sp, pls, ff, c, rfl, cm, h1, h2, fun B1 hB1 => ?_⟩))⟩)))
  refine sm_cons (s1_if (tm_dninM (u1 hr) (em_nm 2 (em_fldM (em_nm 0 ⟨A.a, _, A.dx, _, .ref A.d1, rfl, ob, t.cl_Costing, t.no_Costing_bought, rfl, A.d1, k1, .inr l, rfl, .inl hk1, rfl, ?_⟩)))))
  rw [hw1]
  refine iff' rfl (sm_nil ?_)
  refine sm_cons (s1_dput (u1 hr) (em_nm 2 (em_fldM (em_nm 0 ⟨A.a, _, A.dx, _, .ref A.d2, rfl, ob, t.cl_Costing, t.no_Costing_known_late, rfl, em_nm 1 ⟨A.d2, rfl, .inl ⟨k2, .inr c, hk2, rfl, lt_size (by rw [kv2.len]; exact hll), ?_⟩⟩⟩))))
  have cm1 := (cm.upB hB1).set2 (b' := b.step (.late c l)) (k' := putK k2 (.inr c) (.str l)) ((kv2.up fun _ _ z => z).add h2 (by rw [hlo])) rfl rfl
  have oa : (upd M A.d2 (.dK (putK k2 (.inr c) (.str l)))) A.a = some (coO K A rv sv) := by rw [upd_ne a2]; exact ob
  have o1' : (upd M A.d2 (.dK (putK k2 (.inr c) (.str l)))) A.d1 = some (.dK k1) := by rw [upd_ne cm.n12]; exact hk1
  refine sm_cons (s1_set 3 sc_Costing_work_late.nd (em_dgetM (u1 hr) (em_fldM (em_nm 0 ⟨A.a, _, A.dx, _, .ref A.d1, rfl, oa, t.cl_Costing, t.no_Costing_bought, rfl, em_nm 2 ⟨A.d1, k1, .inr l, _, rfl, .inl o1', rfl, hw1, ?_⟩⟩))))
  obtain ⟨ls, ys, rfl, hls, hys⟩ := id hsv
  have hyl := paired_len hys
  have hxl := ly.len
  refine sm_cons (s1_set 4 sc_Costing_work_late.nd (em_Rsub F.b.r (hr.mono (by decide)) (em_nm 3 (em_call R.units (hr.mono (by decide)) t.g_units_in (am_cons (em_lcB rfl sc_Costing_work_late.nd (blk_ok (N := n_Costing_work_late) (sc := defScope s_Costing_work_late) [("part", 5)] (by decide +kernel)) (em_fldM (em_nm 0 ⟨A.a, _, A.dx, _, .ref ls, rfl, oa, t.cl_Costing, t.no_Costing_stack, rfl, ls, ys, rfl, hB1 _ _ hls, ?_⟩))))))))
  refine lcb_filter (fun y (p : Part) B => PtAt K B y p) stk (fun p => decide (p.1 = l)) 5 sc_Costing_work_late.nd (by omega) hyl (fun _ _ _ _ e h => h.up e) (fun i y hy _ => by
    obtain ⟨p, hp, h2⟩ := paired_at hys hy
    exact ⟨p, hp, h2.up hB1⟩) ?_ ?_
  · rintro i y p B3 M3 hy hp _ hB3 ⟨q, r, rfl, hq1, hq2⟩ s3 H3 C3 cl3 fp3
    refine tm_cmp op_eq (em_ixT (em_nm 5 (em_int ⟨q, _, 0, .str p.1, rfl, rfl, SqT.of (jn_b (hB3 _ _ hq1)), rfl, em_nm 2 (om_eq rfl ⟨_, rfl, rfl, ?_⟩)⟩)))
    exact str_eqd
  rintro ld yd B3 hB3 hld hyd
  refine am_nil ⟨.ref ld, b.lots, D, n, stk.filter fun p => decide (p.1 = l), rfl, ⟨ld, yd, rfl, hld, hyd⟩, ly.filter l, u.dok, hn, fun v4 B4 hB4 hv4 => ?_⟩
  rw [W_filter] at hv4
  have bnd : (ub l : Rat) ≤ (10000000 : Nat) := nat_le_rat (by have := (u.u1 l hl).2; omega)
  have szW : Sz (W (oneF l) stk) := by rw [← W_filter]; exact (ly.filter l).szT u.dok
  have szO : Sz ((ub l : Rat) - W (oneF l) stk) := o3.abs_sz u.dok o1 (Rat.le_trans o2 bnd)
  refine ⟨(ub l : Rat), _, .inl ⟨.inl ⟨((ub l : Nat) : Int), rfl, by rw [Rat.intCast_natCast]⟩, hv4⟩, u.szu hl, szW, fun v5 B5 hB5 hv5 => ?_⟩
  have hB15 := (hB3.tr hB4).tr hB5
  have un : (0 : Rat) < (ub l : Rat) := by exact_mod_cast (u.u1 l hl).1
  have q0 : 0 ≤ ((ub l : Rat) - W (oneF l) stk) / (ub l : Rat) := by
    rw [Rat.div_def]; exact Rat.mul_nonneg o1 (Rat.le_of_lt (Rat.inv_pos.mpr un))
  have q1 : ((ub l : Rat) - W (oneF l) stk) / (ub l : Rat) ≤ 1 := by
    refine Classical.byContradiction fun z => ?_
    have z' : 0 < ((ub l : Rat) - W (oneF l) stk) / (ub l : Rat) - 1 := by grind
    have := Rat.mul_pos z' un
    have e : (((ub l : Rat) - W (oneF l) stk) / (ub l : Rat) - 1) * (ub l : Rat) = ((ub l : Rat) - W (oneF l) stk) - (ub l : Rat) := by
      have := u.un hl
      grind
    rw [e] at this
    grind
  have qi : IntD (D * D) (((ub l : Rat) - W (oneF l) stk) / (ub l : Rat)) := by
    have := o3.mul (u.uD l hl)
    have e : ((ub l : Rat) - W (oneF l) stk) * (1 / (ub l : Rat)) = ((ub l : Rat) - W (oneF l) stk) / (ub l : Rat) := by grind
    rwa [e] at this
  have szq : Sz (((ub l : Rat) - W (oneF l) stk) / (ub l : Rat)) := by
    obtain ⟨h4, h5⟩ := b8 q0 (Rat.le_trans q1 (by decide))
    exact (szDD u.dok u.dok qi h4 h5).sz (by decide)
  refine sm_one (s1_ret (em_Fmul F hr (em_Fof F hr (em_nm 1 ⟨c, rfl, hcU, fun v6 B6 hB6 hv6 => em_Rover F.b.r (hr.mono (by decide)) (em_nm 4 ⟨_, hv5.up hB6, em_nm 3 ⟨(ub l : Rat), .inl ⟨((ub l : Nat) : Int), rfl, by rw [Rat.intCast_natCast]⟩, szO, u.szu hl, u.un hl, fun v7 B7 hB7 hv7 => ?_⟩⟩)⟩))))
  refine ⟨oneF c, _, hv6.up hB7, hv7.num, fun k => szOne, szq, fun k => ?_, fun v8 B8 hB8 hv8 => hq v8 B8 _ (((hB1.tr hB15).tr (hB6.tr hB7)).tr hB8) (cm1.upB ((hB15.tr (hB6.tr hB7)).tr hB8)) Frm.s2 hv8⟩
  show Sz (oneF c k * _)
  unfold oneF
  split
  · rw [Rat.one_mul]; exact szq
  · rw [Rat.zero_mul]; exact sz0
end
end LC
end LcCst3
section LcCst4
set_option maxHeartbeats 4000000
/-! A costing's changes; sell, back. -/
namespace LC
open PySem L2
open He (ga ma)
open He5 (wf)
theorem s1_try {X : Cx} {body : List Stmt} {h₀ : ExceptHandler} {σ : St} {B M : Hp} {E : EndsM} {pos : Pos} {hs : List ExceptHandler} (hn : ∀ e s, ¬ X.xe e s) (h : SM X body σ B M E) : S1 X (.Try body (h₀ :: hs) [] [] pos) σ B M E :=
  s1_of (ps_try_never hn pss_w pss_nil) fun H w D k1 k2 k3 k4 => h H w D k1 k2 k3 k4
theorem em_listDM {X : Cx} {e : Expr} {σ : St} {B M : Hp} {P : V → Hp → Hp → Prop} {pos p : Pos} (hc : X.calm = true) (hm : X.mg "list" = none) (h : EM X e σ B M fun v B1 M1 => ∃ (q : Addr) (kvs : List (Key × V)), v = .ref q ∧ M1 q = some (.dK kvs) ∧ ∀ l, B1 l = none → P (.ref l) (upd B1 l (.lst (kvs.map fun kv => kV kv.1))) M1) (hg : Gl X "list" := by rfl)
    (he : starEach [e] X.env = (false, eval e X.env) :: starEach [] X.env := by rfl) : EM X (.Call (.Name "list" p) [e] [] pos) σ B M P :=
  em_listD hc hm (Emt.own' (h.imp fun v B1 M1 _ ⟨q, kvs, e1, e2, e3⟩ own => ⟨q, kvs, e1, jn_m e2 (own _ _ e2), fun l h1 _ => e3 l h1⟩)) hg he
theorem UcI.lift {ub : Str → Nat} {U : List Str} {b b' : Bk} {D E : Nat} (u : UcI ub U b D) (dk : DOk (D * E)) (e1 : b'.lots = b.lots) (e2 : b'.lates = b.lates) : UcI ub U b' (D * E) := by
  refine ⟨by rw [e2]; exact u.ndT, by rw [e1, e2]; exact u.dis, by rw [e1]; exact u.u1, ?_, dk, by rw [e1]; exact u.lU, by rw [e2]; exact u.tU⟩
  rw [e1]; exact fun l hl => (u.uD l hl).lift
section
variable {P : Program} {w : World} {K : PySem.W.Frag} {mg : Str → Option Value} {base : Heap} {U : List Str}
def spSell (K : PySem.W.Frag) (U : List Str) : Spc := fun vs B M Q => ∃ A rv ub lo b stk sp pls ff s D n, ∃ d1 d2 : Int, ∃ u T : Nat, ∃ tk pl pd, vs = [.ref (Ad.a A), .int d1, .int d2, .str s, .int u] ∧ CoM K U ub lo B M A rv b stk sp pls ff ∧ UcI ub U b D ∧ (∀ E, 1 ≤ E → E ≤ 10000000 → DOk (D * E)) ∧ RuleAt K B rv tk pl pd ∧
  Ly b.lots D n stk ∧ n ≤ 900 ∧ s ∉ b.sales ∧ b.sales.length < 1000 ∧ 1 ≤ u ∧ u ≤ T ∧ tot stk = (T : Nat) ∧
  ∀ v B' M' E ak lf, Ex B B' → CutOk b.lots D n u stk ak lf E → CoM K U ub lo B' M' A rv (b.step (.sell s u)) lf (fun x => if x = s then ak else sp x) pls ff → Frm A M M' → FormAt K U B' v (cost ub lo b.lates ak) → Q v B' M'
theorem pr_sell (F : FP P w K mg base U) (R : LP P w K mg base) : Pr P w K mg base 56 (ma K (ga K "Costing") "work_sell") [] (spSell K U) := by
  have t := F.b.r.t
  refine pr_def t.f_Costing_work_sell sc_Costing_work_sell (fun _ _ _ _ _ _ us hl => match us, hl with | [_, _, _, _, _], _ => rfl) (by rintro _ _ _ _ ⟨A, rv, ub, lo, b, stk, sp, pls, ff, s, D, n, d1, d2, u, T, tk, pl, pd, rfl, _⟩; rfl) ?_
  rintro cdv Ar outer s0 H E0 vs B M Q hr ⟨A, rv, ub, lo, b, stk, sp, pls, ff, s, D, n, d1, d2, u, T, tk, pl, pd, rfl, cm, uc, dk, hru, ly, hn, hs, hsl, hu1, hu2, hT, hq⟩
  obtain ⟨sv, ob, hsv⟩ := cm.ob
  obtain ⟨k3, hk3, kv3⟩ := cm.m3
  obtain ⟨a1, a2, a3, a4, _⟩ := cm.na
  obtain ⟨ra, rdx, rfl, hra⟩ := id hru
  refine sm_cons (s1_if (tm_dinM (u1 hr) (em_nm 3 (em_fldM (em_nm 0 ⟨A.a, _, A.dx, _, .ref A.d3, rfl, ob, t.cl_Costing, t.no_Costing_sold, rfl, A.d3, k3, .inr s, rfl, .inl hk3, rfl, ?_⟩)))))
  rw [kv3.none hs]
  refine iff' rfl (sm_nil ?_)
  refine sm_cons (s1_try (fun _ _ h => h) (sm_one (s1_asg (em_callFld (pr_rcall R) (hr.mono (by decide)) t.co_Rule (em_nm 0 ⟨A.a, _, A.dx, _, ra, rfl, ob, t.cl_Costing, t.no_Costing_chosen, rfl, am_cons (em_fldM (em_nm 0 ⟨A.a, _, A.dx, _, sv, rfl, ob, t.cl_Costing, t.no_Costing_stack, rfl, am_cons (em_nm 4 (am_nil ⟨⟨rdx, _, jn_b hra⟩, ?_⟩))⟩))⟩)))))
  refine ⟨.ref ra, sv, .int u, b.lots, D, n, stk, u, T, tk, pl, pd, rfl, hru, hsv, ly, uc.dok, by omega, .inl ⟨(u : Int), rfl, by rw [Rat.intCast_natCast]⟩, hu1, hu2, hT, ?_⟩
  rintro B1 r v1 v2 E ak lf hB1 hr1 hv1 hv2 hc
  refine gm_tup rfl (SqT.of (jn_b hr1)) (gms_cons (gm_name 5 sc_Costing_work_sell.nd (gms_cons (gm_name 6 sc_Costing_work_sell.nd (gms_nil ?_)))))
  refine sm_cons (s1_dput (u1 hr) (em_nm 5 (em_fldM (em_nm 0 ⟨A.a, _, A.dx, _, .ref A.d3, rfl, ob, t.cl_Costing, t.no_Costing_sold, rfl, em_nm 3 ⟨A.d3, rfl, .inl ⟨k3, .inr s, hk3, rfl, lt_size (by rw [kv3.len]; exact hsl), ?_⟩⟩⟩))))
  have kv3' : KvR (fun k v B => LyAt K B v ((fun x => if x = s then ak else sp x) k)) (putK k3 (.inr s) v1) (b.sales ++ [s]) B1 := by
    have := KvR.put' (R := fun k v B => LyAt K B v (sp k)) (kv3.up fun _ _ z => z.up hB1) (k := s) (v := v1) (R' := fun k v B => LyAt K B v ((fun x => if x = s then ak else sp x) k)) (fun j u hj z => by show LyAt K B1 u (if j = s then ak else sp j); rw [if_neg hj]; exact z) (by show LyAt K B1 v1 (if s = s then ak else sp s); rw [if_pos rfl]; exact hv1)
    rwa [addk, if_neg hs] at this
  have cm1 := (cm.upB hB1).set3 (b' := b.step (.sell s u)) kv3' rfl rfl
  have oa : (upd M A.d3 (.dK (putK k3 (.inr s) v1))) A.a = some (coO K A (.ref ra) sv) := by rw [upd_ne a3]; exact ob
  refine sm_cons (s1_fld (em_nm 6 (em_nm 0 ⟨A.a, _, A.dx, coF A (.ref ra) sv, rfl, oa, t.cl_Costing, t.no_Costing_stack, (by show (6 : Nat) < 1000; decide), ?_⟩)))
  have cm2 := cm1.setA (sv := v2) hv2
  obtain ⟨e1, e2, lk, lf', hw, ht⟩ := id hc
  have dkE := dk E e1 e2
  refine sm_one (s1_ret (em_methM (pr_co F) hr t.cl_Costing t.m_Costing_cost_of (em_nm 0 ⟨A.a, A.dx, _, rfl, upd_same, rfl, am_cons (em_nm 5 (am_nil ⟨A, .ref ra, ub, lo, _, lf, _, pls, ff, D * E, n, v1, ak, rfl, cm2, uc.lift dkE rfl rfl, hv1, lk, by omega, fun v B3 hB3 hv3 => ?_⟩))⟩)))
  exact hq v B3 _ E ak lf (hB1.tr hB3) hc (cm2.upB hB3) (Frm.s3.tr Frm.sa) hv3
def spBack (K : PySem.W.Frag) (U : List Str) : Spc := fun vs B M Q => ∃ A rv ub lo b stk sp pls ff s D n, ∃ d1 d2 : Int, ∃ u T : Nat, ∃ tk pl pd, vs = [.ref (Ad.a A), .int d1, .int d2, .str s, .int u] ∧ CoM K U ub lo B M A rv b stk sp pls ff ∧ UcI ub U b D ∧ (∀ E, 1 ≤ E → E ≤ 10000000 → DOk (D * E)) ∧ RuleAt K B rv tk pl pd ∧
  Ly b.lots D n stk ∧ Ly b.lots D n (sp s) ∧ n + n ≤ 900 ∧ s ∈ b.sales ∧ b.sales.length < 1000 ∧ 1 ≤ u ∧ u ≤ T ∧ tot (sp s) = (T : Nat) ∧ tot stk + (T : Rat) ≤ (10000000 : Nat) ∧ b.lots.length ≤ 100 ∧
  ∀ v B' M' E bk kp ys, Ex B B' → CutOk b.lots D n u (sp s) bk kp E → Ly b.lots (D * E) (n + n) ys → (∀ f, W f ys = W f stk + W f bk) → CoM K U ub lo B' M' A rv (b.step (.back s u)) ys (fun x => if x = s then kp else sp x) pls ff → Frm A M M' → FormAt K U B' v (fun k => -cost ub lo b.lates bk k) → Q v B' M'
theorem pr_back (F : FP P w K mg base U) (R : LP P w K mg base) : Pr P w K mg base 56 (ma K (ga K "Costing") "work_back") [] (spBack K U) := by
  have t := F.b.r.t
  refine pr_def t.f_Costing_work_back sc_Costing_work_back (fun _ _ _ _ _ _ us hl => match us, hl with | [_, _, _, _, _], _ => rfl) (by rintro _ _ _ _ ⟨A, rv, ub, lo, b, stk, sp, pls, ff, s, D, n, d1, d2, u, T, tk, pl, pd, rfl, _⟩; rfl) ?_
  rintro cdv Ar outer s0 H E0 vs B M Q hr ⟨A, rv, ub, lo, b, stk, sp, pls, ff, s, D, n, d1, d2, u, T, tk, pl, pd, rfl, cm, uc, dk, hru, ly, lp, hn, hs, hsl, hu1, hu2, hT, htt, hll, hq⟩
  obtain ⟨sv, ob, hsv⟩ := cm.ob
  obtain ⟨k1, hk1, kv1⟩ := cm.m1
  obtain ⟨k3, hk3, kv3⟩ := cm.m3
  obtain ⟨a1, a2, a3, a4, _⟩ := cm.na
  obtain ⟨ra, rdx, rfl, hra⟩ := id hru
  obtain ⟨pv, hpv, hpl⟩ := kv3.some hs
  refine sm_cons (s1_if (tm_dninM (u1 hr) (em_nm 3 (em_fldM (em_nm 0 ⟨A.a, _, A.dx, _, .ref A.d3, rfl, ob, t.cl_Costing, t.no_Costing_sold, rfl, A.d3, k3, .inr s, rfl, .inl hk3, rfl, ?_⟩)))))
  rw [hpv]
  refine iff' rfl (sm_nil ?_)
  refine sm_cons (s1_set 5 sc_Costing_work_back.nd (em_rtop t (em_call R.units (hr.mono (by decide)) t.g_units_in (am_cons (em_dgetM (u1 hr) (em_fldM (em_nm 0 ⟨A.a, _, A.dx, _, .ref A.d3, rfl, ob, t.cl_Costing, t.no_Costing_sold, rfl, em_nm 3 ⟨A.d3, k3, .inr s, _, rfl, .inl hk3, rfl, hpv, am_nil ⟨pv, b.lots, D, n, sp s, rfl, hpl, lp, uc.dok, by omega, fun v1 B1 hB1 hv1 => ⟨_, hv1, ?_⟩⟩⟩⟩)))))))
  have eT : (tot (sp s)).num = (T : Int) := by rw [hT]; exact Rat.num_natCast T
  rw [eT]
  refine sm_cons (s1_if (tm_cmp op_lt (em_nm 5 (em_nm 4 (om_I0 ⟨_, rfl, ?_⟩)))))
  refine iff' (df (by show ¬ ((T : Int) < (u : Int)); omega)) (sm_nil ?_)
  refine sm_cons (s1_asg (em_meth (pr_returned R) (hr.mono (by decide)) t.cl_Rule t.m_Rule_returned (em_fldM (em_nm 0 ⟨A.a, _, A.dx, _, .ref ra, rfl, ob, t.cl_Costing, t.no_Costing_chosen, rfl, ra, rdx, _, rfl, jn_b (hB1 _ _ hra), rfl, am_cons (em_dgetM (u1 hr) (em_fldM (em_nm 0 ⟨A.a, _, A.dx, _, .ref A.d3, rfl, ob, t.cl_Costing, t.no_Costing_sold, rfl, em_nm 3 ⟨A.d3, k3, .inr s, _, rfl, .inl hk3, rfl, hpv, am_cons (em_nm 4 (am_nil ?_))⟩⟩)))⟩))))
  refine ⟨.ref ra, pv, .int u, b.lots, D, n, sp s, u, T, tk, pl, pd, rfl, hru.up hB1, hpl.up hB1, lp, uc.dok, by omega, .inl ⟨(u : Int), rfl, by rw [Rat.intCast_natCast]⟩, hu1, hu2, hT, ?_⟩
  rintro B2 r v1 v2 E bk kp hB2 hr2 hv1 hv2 hc
  have hB02 : Ex B B2 := hB1.tr hB2
  obtain ⟨e1, e2, lk, lf', hw, ht⟩ := id hc
  have dkE := dk E e1 e2
  refine gm_tup rfl (SqT.of (jn_b hr2)) (gms_cons (gm_name 6 sc_Costing_work_back.nd (gms_cons (gm_name 7 sc_Costing_work_back.nd (gms_nil ?_)))))
  refine sm_cons (s1_dput (u1 hr) (em_nm 7 (em_fldM (em_nm 0 ⟨A.a, _, A.dx, _, .ref A.d3, rfl, ob, t.cl_Costing, t.no_Costing_sold, rfl, em_nm 3 ⟨A.d3, rfl, .inl ⟨k3, .inr s, hk3, rfl, lt_size (by rw [kv3.len]; exact hsl), ?_⟩⟩⟩))))
  have kv3' : KvR (fun k v B => LyAt K B v ((fun x => if x = s then kp else sp x) k)) (putK k3 (.inr s) v2) b.sales B2 := by
    have := KvR.put' (R := fun k v B => LyAt K B v (sp k)) (kv3.up fun _ _ z => z.up hB02) (k := s) (v := v2) (R' := fun k v B => LyAt K B v ((fun x => if x = s then kp else sp x) k)) (fun j u hj z => by show LyAt K B2 u (if j = s then kp else sp j); rw [if_neg hj]; exact z) (by show LyAt K B2 v2 (if s = s then kp else sp s); rw [if_pos rfl]; exact hv2)
    rwa [addk, if_pos hs] at this
  have cm1 := (cm.upB hB02).set3 (b' := b.step (.back s u)) kv3' rfl rfl
  have oa : (upd M A.d3 (.dK (putK k3 (.inr s) v2))) A.a = some (coO K A (.ref ra) sv) := by rw [upd_ne a3]; exact ob
  have o1 : (upd M A.d3 (.dK (putK k3 (.inr s) v2))) A.d1 = some (.dK k1) := by rw [upd_ne cm.n13]; exact hk1
  have htb : tot bk ≤ (T : Rat) := by rw [ht]; exact nat_le_rat hu2
  refine sm_cons (s1_fld (em_meth (pr_laid R) (hr.mono (by decide)) t.cl_Rule t.m_Rule_laid (em_fldM (em_nm 0 ⟨A.a, _, A.dx, _, .ref ra, rfl, oa, t.cl_Costing, t.no_Costing_chosen, rfl, ra, rdx, _, rfl, jn_b (hB02 _ _ hra), rfl, am_cons (em_fldM (em_nm 0 ⟨A.a, _, A.dx, _, sv, rfl, oa, t.cl_Costing, t.no_Costing_stack, rfl, am_cons (em_nm 6 (am_cons (em_listDM rfl t.u_list (em_fldM (em_nm 0 ⟨A.a, _, A.dx, _, .ref A.d1, rfl, oa, t.cl_Costing, t.no_Costing_bought, rfl, A.d1, k1, rfl, o1, fun l5 hl5 => ?_⟩)))))⟩))⟩))))
  have hB25 : Ex B2 (upd B2 l5 (.lst (k1.map fun kv => kV kv.1))) := Ex.up hl5
  refine am_nil ⟨.ref ra, sv, v1, .ref l5, b.lots, D * E, n, n, stk, bk, tk, pl, pd, rfl, hru.up (hB02.tr hB25), hsv.up (hB02.tr hB25), hv1.up hB25, ⟨l5, rfl, by rw [← kvs_strs kv1]; exact upd_same⟩, ly.lift, lk, dkE, hn, ?_, hll, ?_⟩
  · refine Rat.le_trans ?_ htt
    exact Rat.add_le_add_left.mpr htb
  rintro rl B6 ys hB6 hrl lys hwy
  refine em_nm 0 ⟨A.a, _, A.dx, coF A (.ref ra) sv, rfl, oa, t.cl_Costing, t.no_Costing_stack, (by show (6 : Nat) < 1000; decide), ?_⟩
  have cm2 := (cm1.upB (hB25.tr hB6)).setA (sv := rl) hrl
  have uc' : UcI ub U (b.step (.back s u)) (D * E) := uc.lift dkE rfl rfl
  refine sm_one (s1_ret (em_Fneg F (hr.mono (by decide)) (em_methM (pr_co F) hr t.cl_Costing t.m_Costing_cost_of (em_nm 0 ⟨A.a, A.dx, _, rfl, upd_same, rfl, am_cons (em_nm 6 (am_nil ⟨A, .ref ra, ub, lo, _, ys, _, pls, ff, D * E, n, v1, bk, rfl, cm2, uc', hv1.up (hB25.tr hB6), lk, by omega, fun v7 B7 hB7 hv7 => ?_⟩))⟩))))
  refine ⟨_, hv7, uc'.costSz lk, fun v8 B8 hB8 hv8 => ?_⟩
  exact hq v8 B8 _ E bk kp ys (((hB02.tr (hB25.tr hB6)).tr hB7).tr hB8) hc lys hwy (cm2.upB (hB7.tr hB8)) (Frm.s3.tr Frm.sa) hv8
end
end LC
end LcCst4
section LcCst5
set_option maxHeartbeats 4000000
/-! Costing(..). -/
namespace LC
open PySem L2
open He (ga ma)
open He5 (wf)
theorem DtR.chg {R R' : Pl → V → Hp → Prop} {kvs : List (List Key × V)} {ps : List Pl} {B : Hp} (h : DtR R kvs ps B) (f : ∀ k v, k ∈ ps → R k v B → R' k v B) : DtR R' kvs ps B := ⟨h.keys, h.nd, fun k v e => f k v (h.mem.mpr (by rw [e]; rfl)) (h.at_ k v e)⟩
theorem fresh_ne {M : Hp} {p q : Addr} {o : HO} (h : upd M p o q = none) : q ≠ p ∧ M q = none := by
  by_cases e : q = p
  · rw [e, upd_same] at h; cases h
  · exact ⟨e, by rwa [upd_ne e] at h⟩
def runB (ws : Ens) : Bk := ws.foldl (fun b e => b.step e.2) bk0
theorem runB_take {ws : Ens} {j : Nat} {e : Pl × Ent} (h : ws[j]? = some e) : runB (ws.take (j + 1)) = (runB (ws.take j)).step e.2 := foldl_take _ _ h
theorem Vd.get {ws : Ens} {b : Bk} (h : Vd b ws) {j : Nat} {e : Pl × Ent} (hj : ws[j]? = some e) : ((ws.take j).foldl (fun b e => b.step e.2) b).can e.2 := by
  obtain ⟨hlt, hget⟩ := List.getElem?_eq_some_iff.mp hj
  have e0 : ws = ws.take j ++ e :: ws.drop (j + 1) := by rw [← hget, ← List.drop_eq_getElem_cons hlt, List.take_append_drop]
  rw [e0] at h
  have := (Vd.app.mp h).2
  exact this.1
def NmOk (U : List Str) (ub : Str → Nat) (lo : Str → Str) : Ent → Prop
  | .buy n u => n ∈ U ∧ ub n = u ∧ 1 ≤ u ∧ u ≤ 1000000
  | .sell _ u => 1 ≤ u
  | .back _ u => 1 ≤ u
  | .late c l => c ∈ U ∧ lo c = l
structure LtU (U : List Str) (b : Bk) : Prop where
  l : ∀ x ∈ b.lots, x ∈ U
  t : ∀ x ∈ b.lates, x ∈ U
theorem LtU.step {U : List Str} {ub : Str → Nat} {lo : Str → Str} {b : Bk} {e : Ent} (h : LtU U b) (n : NmOk U ub lo e) : LtU U (b.step e) := by
  cases e with
  | buy a u => exact ⟨fun x hx => by
      rcases List.mem_append.mp hx with hx | hx
      · exact h.l x hx
      · rw [List.mem_singleton.mp hx]; exact n.1, h.t⟩
  | sell a u => exact ⟨h.l, h.t⟩
  | back a u => exact ⟨h.l, h.t⟩
  | late c l => exact ⟨h.l, fun x hx => by
      rcases List.mem_append.mp hx with hx | hx
      · exact h.t x hx
      · rw [List.mem_singleton.mp hx]; exact n.1⟩
section
variable {ub : Str → Nat} {lo : Str → Str} {i D n : Nat} {b : Bk} {stk : List Part} {sp : Str → List Part} {pls : List Pl} {ff : Pl → Str → Rat} {U : List Str}
theorem CoI.uc (h : CoI ub lo i D n b stk sp pls ff) (hi : i ≤ 9) (lu : LtU U b) : UcI ub U b D := ⟨h.ndT, h.dis, h.u1, h.uD, h.dok hi, lu.l, lu.t⟩
theorem CoI.dkE (h : CoI ub lo i D n b stk sp pls ff) (hi : i + 1 ≤ 9) : ∀ E, 1 ≤ E → E ≤ 10000000 → DOk (D * E) := fun E h1 h2 => ⟨Nat.mul_pos h.D0 h1, Nat.lt_of_le_of_lt (powstep h.iD h2) (Nat.lt_of_le_of_lt (Nat.pow_le_pow_right (by decide) hi) (by decide))⟩
theorem CoI.n8 (h : CoI ub lo i D n b stk sp pls ff) (hi : i + 1 ≤ 9) : n ≤ 256 := Nat.le_trans h.n2 (Nat.le_trans (Nat.pow_le_pow_right (by decide) (show i ≤ 8 by omega)) (by decide))
theorem CoI.stock (h : CoI ub lo i D n b stk sp pls ff) {u : Nat} (hu : 1 ≤ u) (hs : (u : Int) ≤ b.stock) : ∃ T : Nat, u ≤ T ∧ tot stk = (T : Nat) := by
  refine ⟨b.stock.toNat, by omega, ?_⟩
  rw [h.ts]
  have : b.stock = ((b.stock.toNat : Nat) : Int) := by omega
  conv => lhs; rw [this]
  rw [Rat.intCast_natCast]
theorem CoI.left (h : CoI ub lo i D n b stk sp pls ff) {s : Str} (hm : s ∈ b.sales) {u : Nat} (hu : 1 ≤ u) (hs : (u : Int) ≤ b.left s) : ∃ T : Nat, u ≤ T ∧ tot (sp s) = (T : Nat) := by
  refine ⟨(b.left s).toNat, by omega, ?_⟩
  rw [h.tp s hm]
  have : b.left s = (((b.left s).toNat : Nat) : Int) := by omega
  conv => lhs; rw [this]
  rw [Rat.intCast_natCast]
theorem CoI.two (h : CoI ub lo i D n b stk sp pls ff) (hi : i ≤ 9) {s : Str} (hm : s ∈ b.sales) : tot stk + tot (sp s) ≤ (10000000 : Nat) := by
  have h1 := h.sum_le hi
  have h2 := lsum_mem (f := fun s => tot (sp s)) (fun x hx => (h.la x hx).nn) hm
  grind
end
theorem CoM.nt {K : PySem.W.Frag} {U : List Str} {ub : Str → Nat} {lo : Str → Str} {B M M' : Hp} {A : Ad} {rv : V} {b : Bk} {stk : List Part} {sp : Str → List Part} {pls : List Pl} {ff : Pl → Str → Rat} (h : CoM K U ub lo B M' A rv b stk sp pls ff) (f : Frm A M M') (nt : NoTup M) : NoTup M' := by
  intro q xs e
  obtain ⟨sv, h1, _⟩ := h.ob
  obtain ⟨k1, h2, _⟩ := h.m1
  obtain ⟨k2, h3, _⟩ := h.m2
  obtain ⟨k3, h4, _⟩ := h.m3
  obtain ⟨k4, h5, _⟩ := h.m4
  by_cases ea : q = A.a
  · rw [ea, h1] at e; cases e
  by_cases e1 : q = A.d1
  · rw [e1, h2] at e; cases e
  by_cases e2 : q = A.d2
  · rw [e2, h3] at e; cases e
  by_cases e3 : q = A.d3
  · rw [e3, h4] at e; cases e
  by_cases e4 : q = A.d4
  · rw [e4, h5] at e; cases e
  rw [f q ea e1 e2 e3 e4] at e
  exact nt q xs e
section
variable {P : Program} {w : World} {K : PySem.W.Frag} {mg : Str → Option Value} {base : Heap} {U : List Str}
/-- one entry worked through -/
structure CoS (K : PySem.W.Frag) (U : List Str) (ub : Str → Nat) (lo : Str → Str) (B M : Hp) (A : Ad) (rv : V) (ws : Ens) (j D n : Nat) (stk : List Part) (sp : Str → List Part) (ff : Pl → Str → Rat) : Prop where
  m : CoM K U ub lo B M A rv (runB (ws.take j)) stk sp ((ws.take j).map (·.1)) ff
  i : CoI ub lo j D n (runB (ws.take j)) stk sp ((ws.take j).map (·.1)) ff
  u : LtU U (runB (ws.take j))
theorem CoM.put {ub : Str → Nat} {lo : Str → Str} {B M : Hp} {A : Ad} {rv : V} {b : Bk} {stk : List Part} {sp : Str → List Part} {pls : List Pl} {ff : Pl → Str → Rat} {k4 : List (List Key × V)} {p : Pl} {v : V} {φ : Str → Rat} (h : CoM K U ub lo B M A rv b stk sp pls ff) (d : DtR (fun p v B => FormAt K U B v (ff p)) k4 pls B) (hp : p ∉ pls) (hv : FormAt K U B v φ) :
    CoM K U ub lo B (upd M A.d4 (.dT (putK k4 (pk p) v))) A rv b stk sp (pls ++ [p]) (fun q => if q = p then φ else ff q) := by
  refine h.set4 (DtR.add (R := fun q v B => FormAt K U B v ((fun q => if q = p then φ else ff q) q)) (d.chg fun k v hk z => ?_) hp ?_)
  · show FormAt K U B v (if k = p then φ else ff k)
    have hk2 : k ≠ p := fun e => hp (by rw [← e]; exact hk)
    rw [if_neg hk2]; exact z
  · show FormAt K U B v (if p = p then φ else ff p)
    rw [if_pos rfl]; exact hv
end
end LC
end LcCst5
section LcCst6
set_option maxHeartbeats 4000000
/-! Costing(..): the walk. -/
namespace LC
open PySem L2
open He (ga ma)
open He5 (wf)
section
variable {X : Cx} {o : Expr} {σ : St} {B M : Hp} {E : EndsM} {a C dx : Addr} {fs : List (Str × V)} {f : Str} {pos pos' dpos : Pos}
/-- o.f = {} -/
theorem s1_fldK (hM : M a = some (.ins C dx fs)) (c : Cls X.K C) (n : NoAttr X.K C f) (l : fs.length < 1000) (ho : ∀ (B' M' : Hp) (P : V → Hp → Hp → Prop), P (.ref a) B' M' → EM X o σ B' M' P)
    (h : ∀ d, d ≠ a → M d = none → E.nx σ B (upd (upd M d (.dK [])) a (.ins C dx (putF f (.ref d) fs)))) (hs : swapsWith (.Dict [] [] dpos) (some (.Attribute o f pos')) pos.line X.env = pure false := by rfl) : S1 X (.Assign [.Attribute o f pos'] (.Dict [] [] dpos) pos) σ B M E :=
  s1_fld (em_dnewK fun d b m => ho _ _ _ (by
    have ne : d ≠ a := fun e => by rw [e, hM] at m; cases m
    exact ⟨a, C, dx, fs, rfl, by rw [upd_ne ne.symm]; exact hM, c, n, l, h d ne m⟩)) hs
theorem s1_fldT (hM : M a = some (.ins C dx fs)) (c : Cls X.K C) (n : NoAttr X.K C f) (l : fs.length < 1000) (ho : ∀ (B' M' : Hp) (P : V → Hp → Hp → Prop), P (.ref a) B' M' → EM X o σ B' M' P)
    (h : ∀ d, d ≠ a → M d = none → E.nx σ B (upd (upd M d (.dT [])) a (.ins C dx (putF f (.ref d) fs)))) (hs : swapsWith (.Dict [] [] dpos) (some (.Attribute o f pos')) pos.line X.env = pure false := by rfl) : S1 X (.Assign [.Attribute o f pos'] (.Dict [] [] dpos) pos) σ B M E :=
  s1_fld (em_dnewT fun d b m => ho _ _ _ (by
    have ne : d ≠ a := fun e => by rw [e, hM] at m; cases m
    exact ⟨a, C, dx, fs, rfl, by rw [upd_ne ne.symm]; exact hM, c, n, l, h d ne m⟩)) hs
end
section
variable {P : Program} {w : World} {K : PySem.W.Frag} {mg : Str → Option Value} {base : Heap} {U : List Str}
def spCi (K : PySem.W.Frag) (U : List Str) : Spc := fun vs B M Q => ∃ a dx vb rv es tk pl pd ub lo, vs = [.ref a, vb, rv] ∧ M a = some (.ins (ga K "Costing") dx []) ∧ BookAt K B vb es ∧ RuleAt K B rv tk pl pd ∧ 0 ≤ pd ∧ pd ≤ 1000000 ∧ es.length ≤ 9 ∧ NoTup M ∧ Vd bk0 es ∧ (∀ e ∈ es, NmOk U ub lo e.2) ∧
  ∀ B' M' A ws D n stk sp ff, Ex B B' → A.a = a → Wk es ws → CoS K U ub lo B' M' A rv ws ws.length D n stk sp ff → (∀ q, M q ≠ none → q ≠ a → M' q = M q) → NoTup M' → Q .non B' M'
theorem pr_ci (F : FP P w K mg base U) (R : LP P w K mg base) : Pr P w K mg base 58 (ma K (ga K "Costing") "__init__") [] (spCi K U) := by
  have t := F.b.r.t
  refine pr_def t.f_Costing_init sc_Costing_init (fun _ _ _ _ _ _ us hl => match us, hl with | [_, _, _], _ => rfl) (by rintro _ _ _ _ ⟨a, dx, vb, rv, es, tk, pl, pd, ub, lo, rfl, _⟩; rfl) ?_
  rintro cdv Ar outer s0 H E0 vs B M Q hr ⟨a, dx, vb, rv, es, tk, pl, pd, ub, lo, rfl, ha, hbk, hru, hp0, hp1, hel, nt, vd, nm, hq⟩
  obtain ⟨ra, rdx, rfl, hra⟩ := id hru
  obtain ⟨ab, dxb, db, kb, psb, rfl, hab, hdb, hkb, hpmb, rise, _⟩ := id hbk
  refine sm_cons (s1_fld (em_nm 2 (em_nm 0 ⟨a, _, dx, [], rfl, ha, t.cl_Costing, t.no_Costing_chosen, by decide, ?_⟩)))
  refine sm_cons (s1_fld (em_lstB (am_nil ⟨sl0, fun l0 hl0 ml0 => em_nm 0 ⟨a, _, dx, [("chosen", .ref ra)], rfl, upd_same, t.cl_Costing, t.no_Costing_stack, (by show (1 : Nat) < 1000; decide), ?_⟩⟩)))
  rw [upd_twice]
  refine sm_cons (s1_fldK (fs := [("chosen", .ref ra), ("stack", .ref l0)]) upd_same t.cl_Costing t.no_Costing_bought (by show (2 : Nat) < 1000; decide) (fun _ _ _ h => em_nm 0 h) fun d1 na1 m1 => ?_)
  obtain ⟨_, m1⟩ := fresh_ne m1
  refine sm_cons (s1_fldK (fs := [("chosen", .ref ra), ("stack", .ref l0), ("bought", .ref d1)]) upd_same t.cl_Costing t.no_Costing_known_late (by show (3 : Nat) < 1000; decide) (fun _ _ _ h => em_nm 0 h) fun d2 na2 m2 => ?_)
  obtain ⟨_, m2⟩ := fresh_ne m2
  obtain ⟨n21, m2⟩ := fresh_ne m2
  obtain ⟨_, m2⟩ := fresh_ne m2
  refine sm_cons (s1_fldK (fs := [("chosen", .ref ra), ("stack", .ref l0), ("bought", .ref d1), ("known_late", .ref d2)]) upd_same t.cl_Costing t.no_Costing_sold (by show (4 : Nat) < 1000; decide) (fun _ _ _ h => em_nm 0 h) fun d3 na3 m3 => ?_)
  obtain ⟨_, m3⟩ := fresh_ne m3
  obtain ⟨n32, m3⟩ := fresh_ne m3
  obtain ⟨_, m3⟩ := fresh_ne m3
  obtain ⟨n31, m3⟩ := fresh_ne m3
  obtain ⟨_, m3⟩ := fresh_ne m3
  refine sm_cons (s1_fldT (fs := [("chosen", .ref ra), ("stack", .ref l0), ("bought", .ref d1), ("known_late", .ref d2), ("sold", .ref d3)]) upd_same t.cl_Costing t.no_Costing_forms (by show (5 : Nat) < 1000; decide) (fun _ _ _ h => em_nm 0 h) fun d4 na4 m4 => ?_)
  obtain ⟨_, m4⟩ := fresh_ne m4
  obtain ⟨n43, m4⟩ := fresh_ne m4
  obtain ⟨_, m4⟩ := fresh_ne m4
  obtain ⟨n42, m4⟩ := fresh_ne m4
  obtain ⟨_, m4⟩ := fresh_ne m4
  obtain ⟨n41, m4⟩ := fresh_ne m4
  obtain ⟨_, m4⟩ := fresh_ne m4
  -- all is made
  obtain ⟨A, hA⟩ : ∃ A : Ad, A = ⟨a, dx, d1, d2, d3, d4⟩ := ⟨_, rfl⟩
  have xl0 : Ex B (upd B l0 (.lst [])) := Ex.up hl0
  generalize hM6 : upd (upd (upd (upd (upd (upd (upd (upd (upd M a _) d1 _) a _) d2 _) a _) d3 _) a _) d4 _) a _ = M6
  have l6a : M6 a = some (coO K A (.ref ra) (.ref l0)) := by rw [← hM6, upd_same, hA]; rfl
  have l64 : M6 d4 = some (.dT []) := by rw [← hM6, upd_ne na4, upd_same]
  have l63 : M6 d3 = some (.dK []) := by rw [← hM6, upd_ne na3, upd_ne n43.symm, upd_ne na3, upd_same]
  have l62 : M6 d2 = some (.dK []) := by rw [← hM6, upd_ne na2, upd_ne n42.symm, upd_ne na2, upd_ne n32.symm, upd_ne na2, upd_same]
  have l61 : M6 d1 = some (.dK []) := by rw [← hM6, upd_ne na1, upd_ne n41.symm, upd_ne na1, upd_ne n31.symm, upd_ne na1, upd_ne n21.symm, upd_ne na1, upd_same]
  have l6q : ∀ q, q ≠ a → q ≠ d1 → q ≠ d2 → q ≠ d3 → q ≠ d4 → M6 q = M q := fun q ea e1 e2 e3 e4 => by rw [← hM6, upd_ne ea, upd_ne e4, upd_ne ea, upd_ne e3, upd_ne ea, upd_ne e2, upd_ne ea, upd_ne e1, upd_ne ea]
  have nt6 : NoTup M6 := by
    intro q xs e
    by_cases ea : q = a
    · rw [ea, l6a] at e; cases e
    by_cases e1 : q = d1
    · rw [e1, l61] at e; cases e
    by_cases e2 : q = d2
    · rw [e2, l62] at e; cases e
    by_cases e3 : q = d3
    · rw [e3, l63] at e; cases e
    by_cases e4 : q = d4
    · rw [e4, l64] at e; cases e
    rw [l6q q ea e1 e2 e3 e4] at e
    exact nt q xs e
  have Aa : A.a = a := by rw [hA]
  have cm0 : CoM K U ub lo (upd B l0 (.lst [])) M6 A (.ref ra) bk0 [] (fun _ => []) [] (fun _ _ => 0) := by
    subst hA
    exact ⟨⟨.ref l0, l6a, l0, [], rfl, upd_same, .nil⟩, ⟨[], l61, KvR.nil⟩, ⟨[], l62, KvR.nil⟩, ⟨[], l63, KvR.nil⟩, ⟨[], l64, DtR.nil⟩, n21.symm, n31.symm, n32.symm⟩
  have fin : ∀ B' M' ws D n stk sp ff, Ex (upd B l0 (.lst [])) B' → Wk es ws → CoS K U ub lo B' M' A (.ref ra) ws ws.length D n stk sp ff → Frm A M6 M' → Q .non B' M' := fun B' M' ws D n stk sp ff hB hw cs fr => by
    refine hq B' M' A ws D n stk sp ff (xl0.tr hB) Aa hw cs (fun q hmq hqa => ?_) (cs.m.nt fr nt6)
    have e1 : q ≠ d1 := fun e => hmq (by rw [e]; exact m1)
    have e2 : q ≠ d2 := fun e => hmq (by rw [e]; exact m2)
    have e3 : q ≠ d3 := fun e => hmq (by rw [e]; exact m3)
    have e4 : q ≠ d4 := fun e => hmq (by rw [e]; exact m4)
    subst hA
    rw [fr q hqa e1 e2 e3 e4]
    exact l6q q hqa e1 e2 e3 e4
  clear hM6 l61 l62 l63 l64 l6q m1 m2 m3 m4 n21 n32 n31 n43 n42 n41 na1 na2 na3 na4
  refine sm_one (s1_for PassesOwn.never rfl (em_meth (pr_worked t) (hr.mono (by decide)) t.cl_Rule t.m_Rule_worked (em_nm 2 ⟨ra, rdx, _, rfl, jn_b (xl0 _ _ hra), rfl, am_cons (em_nm 1 (am_nil ⟨_, _, es, tk, pl, pd, rfl, hru.up xl0, hp0, hp1, hbk.up xl0, by omega, nt6, fun v1 B1 ws hB1 ⟨l, ys, hv1, hl, hys⟩ hwk => ?_⟩))⟩)))
  have hysE := paired_mapL hys
  have hyl := paired_len hysE
  have hwl : ws.length = es.length := hwk.perm.length_eq
  have hx1 : Ex B B1 := xl0.tr hB1
  refine ⟨l, ys, hv1, SqL.of (jn_b hl), fun j σ B' M' => ∃ o3 o4 o5 o6 o7 o8 D n stk sp ff, σ = [some (.ref a), some (.ref ab), some (.ref ra), o3, o4, o5, o6, o7, o8] ∧ Ex B1 B' ∧ Frm A M6 M' ∧ CoS K U ub lo B' M' A (.ref ra) ws j D n stk sp ff, ?_, ?_, ?_, ?_⟩
  · exact ⟨_, _, _, _, _, _, 1, 1, [], fun _ => [], fun _ _ => 0, rfl, Ex.id', Frm.id', cm0.upB hB1, CoI.start, ⟨fun x hx => absurd hx List.not_mem_nil, fun x hx => absurd hx List.not_mem_nil⟩⟩
  · rintro j σ B' M' _ ⟨o3, o4, o5, o6, o7, o8, D, n, stk, sp, ff, rfl, hB, _⟩
    exact SqL.of (jn_b (hB _ _ hl))
  · rintro j y σ B' M' hj _ ⟨o3, o4, o5, o6, o7, o8, D, n, stk, sp, ff, rfl, hB, fr, cs⟩
    obtain ⟨e, he, q, rfl, hq2⟩ := paired_at hysE hj
    have hem : e ∈ es := hwk.perm.mem_iff.mp (List.mem_of_getElem? he)
    have hjl : j < ws.length := (List.getElem?_eq_some_iff.mp he).1
    have j9 : j + 1 ≤ 9 := by omega
    have cn := (hwk.vd _ vd).get he
    have nme := nm e hem
    have hBB := hx1.tr hB
    have hpn : e.1 ∉ (ws.take j).map (·.1) := fun hin => by
      have nd : (ws.map (·.1)).Nodup := (hwk.perm.map _).nodup_iff.mpr rise.nd
      have e1 : (ws.map (·.1))[j]? = some e.1 := by rw [List.getElem?_map, he]; rfl
      obtain ⟨hlt, hget⟩ := List.getElem?_eq_some_iff.mp e1
      have sp1 : ws.map (·.1) = (ws.take j).map (·.1) ++ e.1 :: (ws.map (·.1)).drop (j + 1) := by
        rw [List.map_take, ← hget, ← List.drop_eq_getElem_cons hlt, List.take_append_drop]
      rw [sp1] at nd
      exact (List.nodup_append.mp nd).2.2 _ hin _ (List.mem_cons_self ..) rfl
    have eR : runB (ws.take (j + 1)) = (runB (ws.take j)).step e.2 := runB_take he
    have eP : (ws.take (j + 1)).map (·.1) = (ws.take j).map (·.1) ++ [e.1] := by rw [take1 he, List.map_append]; rfl
    refine gm_name 3 sc_Costing_init.nd (sm_cons (s1_asg (em_nm 3 (gm_tup rfl (SqT.of (jn_b (hB _ _ hq2))) (gms_cons (gm_name 4 sc_Costing_init.nd (gms_cons (gm_name 5 sc_Costing_init.nd (gms_nil ?_)))))))))
    refine sm_cons (s1_asg (em_item (pr_bkget t (k := 0)) (hr.mono (by decide)) t.og_Book_get (em_nm 1 (em_nm 3 ⟨⟨ab, dxb, _, rfl, jn_b (hBB _ _ hab)⟩, _, _, es, e.1, e.2, rfl, hbk.up hBB, ⟨q, rfl, hB _ _ hq2⟩, hem, fun v5 B5 hB5 ⟨q5, ev5, hq5⟩ => ?_⟩))))
    subst ev5
    refine gm_tup rfl (SqT.of (jn_b hq5)) (gms_cons (gm_name 6 sc_Costing_init.nd (gms_cons (gm_name 7 sc_Costing_init.nd (gms_cons (gm_name 8 sc_Costing_init.nd (gms_nil ?_)))))))
    have cm5 := cs.m.upB hB5
    have ru5 : RuleAt K B5 (.ref ra) tk pl pd := hru.up (hBB.tr hB5)
    obtain ⟨sv5, ob5, _⟩ := cm5.ob
    rw [Aa] at ob5
    have hq5' : Ex B1 B5 := hB.tr hB5
    -- the entry's form is put
    have put : ∀ (B6 M6' : Hp) (φ : Str → Rat) (stk' : List Part) (sp' : Str → List Part) (D' n' : Nat) (v : V) (w4 w5 w6 w7 w8 : Option V), Ex B5 B6 → CoM K U ub lo B6 M6' A (.ref ra) ((runB (ws.take j)).step e.2) stk' sp' ((ws.take j).map (·.1)) ff → Frm A M' M6' → FormAt K U B6 v φ →
        CoI ub lo (j + 1) D' n' ((runB (ws.take j)).step e.2) stk' sp' ((ws.take j).map (·.1) ++ [e.1]) (fun q => if q = e.1 then φ else ff q) →
        ∃ k4 sv', M6' a = some (coO K A (.ref ra) sv') ∧ M6' A.d4 = some (.dT k4) ∧ k4.length < sizeLine ∧
          ∃ o3 o4 o5 o6 o7 o8 D n stk sp ff, [some (.ref a), some (.ref ab), some (.ref ra), some (.ref q), w4, w5, w6, w7, w8] = [some (V.ref a), some (.ref ab), some (.ref ra), o3, o4, o5, o6, o7, o8] ∧ Ex B1 B6 ∧ Frm A M6 (upd M6' A.d4 (.dT (putK k4 (pk e.1) v))) ∧ CoS K U ub lo B6 (upd M6' A.d4 (.dT (putK k4 (pk e.1) v))) A (.ref ra) ws (j + 1) D n stk sp ff := by
      intro B6 M6' φ stk' sp' D' n' v w4 w5 w6 w7 w8 hB6 cm' fr' hv ci
      obtain ⟨sv', ob', _⟩ := cm'.ob
      obtain ⟨k4, hk4, dt4⟩ := cm'.m4
      rw [Aa] at ob'
      refine ⟨k4, sv', ob', hk4, lt_size ?_, _, _, _, _, _, _, D', n', stk', sp', (fun q => if q = e.1 then φ else ff q), rfl, hq5'.tr hB6, (fr.tr fr').tr Frm.s4, ?_, ?_, ?_⟩
      · rw [dt4.len, List.length_map, List.length_take]; omega
      · rw [eR, eP]; exact cm'.put dt4 hpn hv
      · rw [eR, eP]; exact ci
      · rw [eR]; exact cs.u.step nme
    have ci := cs.i
    have cu := ci.uc (by omega) cs.u
    have dkE := ci.dkE j9
    have n8 := ci.n8 j9
    have hll := ci.ll
    have hstk := ci.ls.len
    obtain ⟨p, ent⟩ := e
    have aeq : ∀ xs : List V, V.ref a :: xs = V.ref A.a :: xs := fun xs => by rw [Aa]
    have tupq : ∀ {B6 M6' : Hp}, Ex B5 B6 → jn B6 M6' q = some (.tup ((pk p).map kV)) := fun {B6 M6'} h => jn_b ((hB5.tr h) _ _ (hB _ _ hq2))
    cases ent with
    | buy m u =>
      refine sm_one (s1_if (tm_cmp op_eq (em_nm 6 (em_str (om_eq rfl ⟨_, rfl, ift (dt rfl) ?_⟩)))))
      refine sm_one (s1_dput (u1 hr) (em_methM (pr_buy F) (hr.mono (by decide)) t.cl_Costing t.m_Costing_work_buy (em_nm 0 ⟨a, A.dx, _, rfl, ob5, rfl, am_cons (em_nm 7 (am_cons (em_nm 8 (am_nil ⟨A, .ref ra, ub, lo, _, stk, sp, _, ff, m, u, aeq _, cm5, cn.1, cn.2, nme.2.1, by omega, by omega, fun v6 B6 M6' hB6 cm' fr' hv6 => ?_⟩))))⟩)))
      obtain ⟨k4, sv', g1, g2, g3, g4⟩ := put B6 M6' _ _ _ _ _ v6 _ _ _ _ _ hB6 cm' fr' hv6 (ci.buy j9 cn nme.2.1 nme.2.2.1 nme.2.2.2 hpn)
      exact em_fldM (em_nm 0 ⟨a, _, A.dx, _, .ref A.d4, rfl, g1, t.cl_Costing, t.no_Costing_forms, rfl, em_nm 3 ⟨A.d4, rfl, .inr ⟨k4, pk p, q, g2, rfl, tupq hB6, g3, g4⟩⟩⟩)
    | sell m u =>
      obtain ⟨T, hT1, hT2⟩ := ci.stock nme cn.2
      refine sm_one (s1_if (tm_cmp op_eq (em_nm 6 (em_str (om_eq rfl ⟨_, rfl, iff' (df ?_) ?_⟩)))))
      · intro z; exact absurd (show ("sell" : Str) = "buy" by injection z) (by decide)
      refine sm_one (s1_if (tm_cmp op_eq (em_nm 6 (em_str (om_eq rfl ⟨_, rfl, ift (dt rfl) ?_⟩)))))
      refine sm_one (s1_dput (u1 hr) (em_methM (pr_sell F R) (hr.mono (by decide)) t.cl_Costing t.m_Costing_work_sell (em_nm 0 ⟨a, A.dx, _, rfl, ob5, rfl, am_cons (em_nm 4 (am_cons (em_nm 5 (am_cons (em_nm 7 (am_cons (em_nm 8 (am_nil ⟨A, .ref ra, ub, lo, _, stk, sp, _, ff, m, D, n, p.1, p.2, u, T, tk, pl, pd, aeq _, cm5, cu, dkE, ru5, ci.ls, by omega, cn.1, by omega, nme, hT1, hT2, fun v6 B6 M6' E ak lf hB6 hc cm' fr' hv6 => ?_⟩))))))))⟩)))
      obtain ⟨k4, sv', g1, g2, g3, g4⟩ := put B6 M6' _ _ _ _ _ v6 _ _ _ _ _ hB6 cm' fr' hv6 (ci.sell cn hc hpn)
      exact em_fldM (em_nm 0 ⟨a, _, A.dx, _, .ref A.d4, rfl, g1, t.cl_Costing, t.no_Costing_forms, rfl, em_nm 3 ⟨A.d4, rfl, .inr ⟨k4, pk p, q, g2, rfl, tupq hB6, g3, g4⟩⟩⟩)
    | back m u =>
      obtain ⟨T, hT1, hT2⟩ := ci.left cn.1 nme cn.2
      refine sm_one (s1_if (tm_cmp op_eq (em_nm 6 (em_str (om_eq rfl ⟨_, rfl, iff' (df ?_) ?_⟩)))))
      · intro z; exact absurd (show ("back" : Str) = "buy" by injection z) (by decide)
      refine sm_one (s1_if (tm_cmp op_eq (em_nm 6 (em_str (om_eq rfl ⟨_, rfl, iff' (df ?_) ?_⟩)))))
      · intro z; exact absurd (show ("back" : Str) = "sell" by injection z) (by decide)
      refine sm_one (s1_if (tm_cmp op_eq (em_nm 6 (em_str (om_eq rfl ⟨_, rfl, ift (dt rfl) ?_⟩)))))
      have h2 := ci.two (by omega) cn.1
      rw [hT2] at h2
      refine sm_one (s1_dput (u1 hr) (em_methM (pr_back F R) (hr.mono (by decide)) t.cl_Costing t.m_Costing_work_back (em_nm 0 ⟨a, A.dx, _, rfl, ob5, rfl, am_cons (em_nm 4 (am_cons (em_nm 5 (am_cons (em_nm 7 (am_cons (em_nm 8 (am_nil ⟨A, .ref ra, ub, lo, _, stk, sp, _, ff, m, D, n, p.1, p.2, u, T, tk, pl, pd, aeq _, cm5, cu, dkE, ru5, ci.ls, ci.la m cn.1, by omega, cn.1, by omega, nme, hT1, hT2, h2, by omega, fun v6 B6 M6' E bk kp ys hB6 hc lys hwy cm' fr' hv6 => ?_⟩))))))))⟩)))
      obtain ⟨k4, sv', g1, g2, g3, g4⟩ := put B6 M6' _ _ _ _ _ v6 _ _ _ _ _ hB6 cm' fr' hv6 (ci.back cn hc lys hwy hpn)
      exact em_fldM (em_nm 0 ⟨a, _, A.dx, _, .ref A.d4, rfl, g1, t.cl_Costing, t.no_Costing_forms, rfl, em_nm 3 ⟨A.d4, rfl, .inr ⟨k4, pk p, q, g2, rfl, tupq hB6, g3, g4⟩⟩⟩)
    | late c l =>
      refine sm_one (s1_if (tm_cmp op_eq (em_nm 6 (em_str (om_eq rfl ⟨_, rfl, iff' (df ?_) ?_⟩)))))
      · intro z; exact absurd (show ("late" : Str) = "buy" by injection z) (by decide)
      refine sm_one (s1_if (tm_cmp op_eq (em_nm 6 (em_str (om_eq rfl ⟨_, rfl, iff' (df ?_) ?_⟩)))))
      · intro z; exact absurd (show ("late" : Str) = "sell" by injection z) (by decide)
      refine sm_one (s1_if (tm_cmp op_eq (em_nm 6 (em_str (om_eq rfl ⟨_, rfl, iff' (df ?_) ?_⟩)))))
      · intro z; exact absurd (show ("late" : Str) = "back" by injection z) (by decide)
      obtain ⟨o1, o2, o3', o4'⟩ := ci.out cn.2.2
      refine sm_one (s1_dput (u1 hr) (em_methM (pr_late F R) (hr.mono (by decide)) t.cl_Costing t.m_Costing_work_late (em_nm 0 ⟨a, A.dx, _, rfl, ob5, rfl, am_cons (em_nm 7 (am_cons (em_nm 8 (am_nil ⟨A, .ref ra, ub, lo, _, stk, sp, _, ff, c, l, D, n, aeq _, cm5, cu, ci.ls, by omega, cn.1, cn.2.1, cn.2.2, nme.2, nme.1, by omega, ⟨o2, o3', o4'⟩, fun v6 B6 M6' hB6 cm' fr' hv6 => ?_⟩))))⟩)))
      obtain ⟨k4, sv', g1, g2, g3, g4⟩ := put B6 M6' _ _ _ _ _ v6 _ _ _ _ _ hB6 cm' fr' hv6 (ci.late cn nme.2 hpn)
      exact em_fldM (em_nm 0 ⟨a, _, A.dx, _, .ref A.d4, rfl, g1, t.cl_Costing, t.no_Costing_forms, rfl, em_nm 3 ⟨A.d4, rfl, .inr ⟨k4, pk p, q, g2, rfl, tupq hB6, g3, g4⟩⟩⟩)
  · rintro σ B' M' _ ⟨o3, o4, o5, o6, o7, o8, D, n, stk, sp, ff, rfl, hB, fr, cs⟩
    rw [hyl] at cs
    exact fin B' M' ws D n stk sp ff (hB1.tr hB) hwk cs fr
end
end LC
end LcCst6
section LcCst7
set_option maxHeartbeats 4000000
set_option exponentiation.threshold 1000
/-! What a costing tells. -/
namespace LC
open PySem L2
open He (ga ma)
open He5 (wf)
section
variable {ub : Str → Nat} {lo : Str → Str} {i D n : Nat} {b : Bk} {stk : List Part} {sp : Str → List Part} {pls : List Pl} {ff : Pl → Str → Rat}
/-- sums of booked forms -/
theorem CoI.sums (h : CoI ub lo i D n b stk sp pls ff) (hi : i ≤ 9) (j : Nat) (k : Str) : IntD (D * D) (lsum (pls.take j) fun p => ff p k) ∧ -(100000000 : Nat) ≤ (lsum (pls.take j) fun p => ff p k) ∧ (lsum (pls.take j) fun p => ff p k) ≤ (100000000 : Nat) := by
  have hm : ∀ p ∈ pls.take j, p ∈ pls := fun p hp => List.mem_of_mem_take hp
  have hl : (pls.take j).length ≤ 9 := by rw [List.length_take, h.lp]; omega
  have e1 : ((10000000 : Nat) : Rat) = 10000000 := rfl
  have e2 : ((100000000 : Nat) : Rat) = 100000000 := rfl
  have c9 : ((pls.take j).length : Nat) * (10000000 : Rat) ≤ 90000000 := by
    have : (((pls.take j).length : Nat) : Rat) ≤ ((9 : Nat) : Rat) := nat_le_rat hl
    have e9 : ((9 : Nat) : Rat) = 9 := rfl
    rw [e9] at this
    grind
  refine ⟨IntD.lsum fun p hp => (h.fz p (hm p hp) k).1, ?_, ?_⟩
  · have h1 : lsum (pls.take j) (fun p => -ff p k) ≤ ((pls.take j).length : Nat) * (10000000 : Rat) := lsum_le fun p hp => by
      have := (h.fz p (hm p hp) k).2.1
      rw [e1] at this
      grind
    have h2 : lsum (pls.take j) (fun p => -ff p k) = -lsum (pls.take j) fun p => ff p k := by
      have := lsum_mul (pls.take j) (-1) fun p => ff p k
      rw [lsum_congr (g := fun p => -1 * ff p k) fun p _ => by grind, this]; grind
    rw [h2] at h1
    rw [e2]; grind
  · have h1 : lsum (pls.take j) (fun p => ff p k) ≤ ((pls.take j).length : Nat) * (10000000 : Rat) := lsum_le fun p hp => by
      have := (h.fz p (hm p hp) k).2.2
      rwa [e1] at this
    rw [e2]; grind
theorem CoI.sumSz (h : CoI ub lo i D n b stk sp pls ff) (hi : i ≤ 9) (j : Nat) : SzF fun k => lsum (pls.take j) fun p => ff p k := fun k => by
  obtain ⟨h1, h2, h3⟩ := h.sums hi j k
  exact (szDD (h.dok hi) (h.dok hi) h1 h2 h3).sz (by decide)
theorem CoI.ffSz (h : CoI ub lo i D n b stk sp pls ff) (hi : i ≤ 9) {p : Pl} (hp : p ∈ pls) : SzF (ff p) := fun k => by
  obtain ⟨h1, h2, h3⟩ := h.fz p hp k
  obtain ⟨h4, h5⟩ := b87 h2 h3
  exact (szDD (h.dok hi) (h.dok hi) h1 h4 h5).sz (by decide)
end
section
variable {P : Program} {w : World} {K : PySem.W.Frag} {mg : Str → Option Value} {base : Heap} {U : List Str}
def spPts (K : PySem.W.Frag) (U : List Str) : Spc := fun vs B M Q => ∃ A rv ub lo b stk sp pls ff s, vs = [.ref (Ad.a A), .str s] ∧ CoM K U ub lo B M A rv b stk sp pls ff ∧ s ∈ b.sales ∧ ∀ v B', Ex B B' → LyAt K B' v (sp s) → Q v B' M
theorem pr_parts (t : Tx K mg) {k : Nat} : Pr P w K mg base (k + 1) (ma K (ga K "Costing") "parts") [] (spPts K U) := by
  refine pr_def t.f_Costing_parts sc_Costing_parts (fun _ _ _ _ _ _ us hl => match us, hl with | [_, _], _ => rfl) (by rintro _ _ _ _ ⟨A, rv, ub, lo, b, stk, sp, pls, ff, s, rfl, _⟩; rfl) ?_
  rintro cdv Ar outer s0 H E vs B M Q hr ⟨A, rv, ub, lo, b, stk, sp, pls, ff, s, rfl, cm, hs, hq⟩
  obtain ⟨sv, ob, _⟩ := cm.ob
  obtain ⟨k3, hk3, kv3⟩ := cm.m3
  obtain ⟨pv, hpv, l, ys, rfl, hl, hys⟩ := kv3.some hs
  refine sm_cons (s1_if (tm_dninM (u1 hr) (em_nm 1 (em_fldM (em_nm 0 ⟨A.a, _, A.dx, _, .ref A.d3, rfl, ob, t.cl_Costing, t.no_Costing_sold, rfl, A.d3, k3, .inr s, rfl, .inl hk3, rfl, ?_⟩)))))
  rw [hpv]
  refine iff' rfl (sm_nil ?_)
  refine sm_one (s1_ret (em_listB t.u_list (em_dgetM (u1 hr) (em_fldM (em_nm 0 ⟨A.a, _, A.dx, _, .ref A.d3, rfl, ob, t.cl_Costing, t.no_Costing_sold, rfl, em_nm 1 ⟨A.d3, k3, .inr s, _, rfl, .inl hk3, rfl, hpv, l, ys, rfl, .inl (SqL.of (jn_b hl)), fun l2 hl2 => ?_⟩⟩)))))
  exact hq _ _ (Ex.up hl2) ⟨l2, ys, rfl, upd_same, paired_up hys (Ex.up hl2)⟩
def spCost (K : PySem.W.Frag) (U : List Str) : Spc := fun vs B M Q => ∃ A rv ub lo ws j D n stk sp ff s, vs = [.ref (Ad.a A), .str s] ∧ CoS K U ub lo B M A rv ws j D n stk sp ff ∧ j ≤ 9 ∧ s ∈ (runB (ws.take j)).sales ∧ ∀ v B', Ex B B' → FormAt K U B' v (cost ub lo (runB (ws.take j)).lates (sp s)) → Q v B' M
theorem pr_cost (F : FP P w K mg base U) : Pr P w K mg base 56 (ma K (ga K "Costing") "cost") [] (spCost K U) := by
  have t := F.b.r.t
  refine pr_def t.f_Costing_cost sc_Costing_cost (fun _ _ _ _ _ _ us hl => match us, hl with | [_, _], _ => rfl) (by rintro _ _ _ _ ⟨A, rv, ub, lo, ws, j, D, n, stk, sp, ff, s, rfl, _⟩; rfl) ?_
  rintro cdv Ar outer s0 H E vs B M Q hr ⟨A, rv, ub, lo, ws, j, D, n, stk, sp, ff, s, rfl, cs, hj, hs, hq⟩
  obtain ⟨sv, ob, _⟩ := cs.m.ob
  refine sm_one (s1_ret (em_methM (pr_co F) hr t.cl_Costing t.m_Costing_cost_of (em_nm 0 ⟨A.a, A.dx, _, rfl, ob, rfl, am_cons (em_methM (pr_parts t (k := 0)) (hr.mono (by decide)) t.cl_Costing t.m_Costing_parts (em_nm 0 ⟨A.a, A.dx, _, rfl, ob, rfl, am_cons (em_nm 1 (am_nil ⟨A, rv, ub, lo, _, stk, sp, _, ff, s, rfl, cs.m, hs, fun v1 B1 hB1 hv1 => ?_⟩))⟩))⟩)))
  exact am_nil ⟨A, rv, ub, lo, _, stk, sp, _, ff, D, n, v1, sp s, rfl, cs.m.upB hB1, cs.i.uc hj cs.u, hv1, cs.i.la s hs, by have := cs.i.nle hj; omega, fun v2 B2 hB2 hv2 => hq v2 B2 (hB1.tr hB2) hv2⟩
def spStock (K : PySem.W.Frag) (U : List Str) : Spc := fun vs B M Q => ∃ A rv ub lo ws j D n stk sp ff, vs = [.ref (Ad.a A)] ∧ CoS K U ub lo B M A rv ws j D n stk sp ff ∧ j ≤ 9 ∧ ∀ v B', Ex B B' → FormAt K U B' v (cost ub lo (runB (ws.take j)).lates stk) → Q v B' M
theorem pr_stock (F : FP P w K mg base U) : Pr P w K mg base 56 (ma K (ga K "Costing") "stock") [] (spStock K U) := by
  have t := F.b.r.t
  refine pr_def t.f_Costing_stock sc_Costing_stock (fun _ _ _ _ _ _ us hl => match us, hl with | [_], _ => rfl) (by rintro _ _ _ _ ⟨A, rv, ub, lo, ws, j, D, n, stk, sp, ff, rfl, _⟩; rfl) ?_
  rintro cdv Ar outer s0 H E vs B M Q hr ⟨A, rv, ub, lo, ws, j, D, n, stk, sp, ff, rfl, cs, hj, hq⟩
  obtain ⟨sv, ob, hsv⟩ := cs.m.ob
  refine sm_one (s1_ret (em_methM (pr_co F) hr t.cl_Costing t.m_Costing_cost_of (em_nm 0 ⟨A.a, A.dx, _, rfl, ob, rfl, am_cons (em_fldM (em_nm 0 ⟨A.a, _, A.dx, _, sv, rfl, ob, t.cl_Costing, t.no_Costing_stack, rfl, ?_⟩))⟩)))
  exact am_nil ⟨A, rv, ub, lo, _, stk, sp, _, ff, D, n, sv, stk, rfl, cs.m, cs.i.uc hj cs.u, hsv, cs.i.ls, by have := cs.i.nle hj; omega, fun v2 B2 hB2 hv2 => hq v2 B2 hB2 hv2⟩
def spUntil (K : PySem.W.Frag) (U : List Str) : Spc := fun vs B M Q => ∃ A rv ub lo ws j D n stk sp ff, ∃ day : Int, vs = [.ref (Ad.a A), .int day] ∧ CoS K U ub lo B M A rv ws j D n stk sp ff ∧ j ≤ 9 ∧ (∀ p ∈ (ws.take j).map (·.1), p.1 ≤ day) ∧
  ∀ v B', Ex B B' → FormAt K U B' v (fun k => lsum ((ws.take j).map (·.1)) fun p => ff p k) → Q v B' M
theorem pr_until (F : FP P w K mg base U) : Pr P w K mg base 54 (ma K (ga K "Costing") "until") [] (spUntil K U) := by
  have t := F.b.r.t
  refine pr_def t.f_Costing_until sc_Costing_until (fun _ _ _ _ _ _ us hl => match us, hl with | [_, _], _ => rfl) (by rintro _ _ _ _ ⟨A, rv, ub, lo, ws, j, D, n, stk, sp, ff, day, rfl, _⟩; rfl) ?_
  rintro cdv Ar outer s0 H E vs B M Q hr ⟨A, rv, ub, lo, ws, j, D, n, stk, sp, ff, day, rfl, cs, hj, hday, hq⟩
  obtain ⟨sv, ob, hsv⟩ := cs.m.ob
  obtain ⟨k4, hk4, dt4⟩ := cs.m.m4
  generalize hpls : (ws.take j).map (·.1) = pls at *
  have ci := cs.i
  rw [hpls] at ci
  have na4 : A.a ≠ A.d4 := hne ob hk4 (by intro z; cases z)
  refine sm_cons (s1_set 2 sc_Costing_until.nd (em_F0 F.b (hr.mono (by decide)) fun v1 B1 hB1 hv1 => ?_))
  have f4 : ∀ od, (upd M A.d4 (.frz od (.dT k4))) A.d4 = some (.frz od (.dT k4)) := fun od => upd_same
  have oa : ∀ od, (upd M A.d4 (.frz od (.dT k4))) A.a = some (coO K A rv sv) := fun od => by rw [upd_ne na4]; exact ob
  refine sm_cons (s1_lock hk4 True.intro fun od => s1_forTM PassesOwn.never rfl (em_fldM (em_nm 0 ⟨A.a, _, A.dx, _, .ref A.d4, rfl, oa od, t.cl_Costing, t.no_Costing_forms, rfl, A.d4, od, k4, rfl, f4 od,
    fun i σ B' M' => ∃ vf o, σ = [some (.ref A.a), some (.int day), some vf, o] ∧ M' = upd M A.d4 (.frz od (.dT k4)) ∧ Ex B B' ∧ FormAt K U B' vf (fun k => lsum (pls.take i) fun p => ff p k), ⟨v1, _, rfl, rfl, hB1, hv1.eq fun k => ?_⟩, ?_, ?_, ?_⟩)))
  · rw [List.take_zero]; rfl
  · rintro i σ B' M' _ ⟨vf, o, rfl, rfl, _⟩
    exact f4 od
  · rintro i q v r σ B' M' B2 hi _ ⟨vf, o, rfl, rfl, hB, hvf⟩ hB2 hr2
    obtain ⟨p, rfl, hp, hpv, hff⟩ := dt4.ix hi
    have hpm := List.mem_of_getElem? hp
    refine gm_name 3 sc_Costing_until.nd (sm_one (s1_if (tm_cmp op_le (em_ixT (em_nm 3 (em_int ⟨r, _, 0, .int p.1, rfl, rfl, SqT.of hr2, rfl, em_nm 1 (om_I0 ⟨_, rfl, ift (dt (hday p hpm)) ?_⟩)⟩))))))
    have e : ∀ k, (lsum (pls.take i) fun p => ff p k) + ff p k = lsum (pls.take (i + 1)) fun p => ff p k := fun k => by
      rw [take1 hp, lsum_append]; show _ = _ + (ff p k + 0); grind
    refine sm_one (s1_set 2 sc_Costing_until.nd (em_Fadd F hr (em_nm 2 (em_dget (u1 hr) (em_fldM (em_nm 0 ⟨A.a, _, A.dx, _, .ref A.d4, rfl, oa od, t.cl_Costing, t.no_Costing_forms, rfl, Emt.own' (em_nm 3 fun own => ⟨A.d4, v, rfl, .inr ⟨k4, pk p, r, .inr ⟨od, jn_m (f4 od) (own _ _ (f4 od))⟩, rfl, hr2, hpv.symm⟩, ?_⟩)⟩))))))
    refine ⟨_, _, hvf.up hB2, hff.up (hB.tr hB2), ci.sumSz hj i, ci.ffSz hj hpm, fun k => ?_, fun v4 B4 hB4 hv4 => ⟨v4, _, rfl, rfl, (hB.tr hB2).tr hB4, hv4.eq e⟩⟩
    show Sz ((lsum (pls.take i) fun p => ff p k) + ff p k)
    rw [e]; exact ci.sumSz hj (i + 1) k
  · rintro σ B' M' _ ⟨vf, o, rfl, rfl, hB, hvf⟩
    refine ⟨f4 od, ?_⟩
    rw [upd_twice, upd_self hk4]
    refine sm_one (s1_ret (em_nm 2 (hq vf B' hB ?_)))
    rwa [dt4.len, List.take_length] at hvf
end
end LC
end LcCst7
section LcCst8
set_option maxHeartbeats 4000000
set_option exponentiation.threshold 1000
/-! paid. -/
namespace LC
open PySem L2
open He (ga ma)
open He5 (wf)
section
variable {ub : Str → Nat} {L T : List Str}
/-- a whole number of at most 10^7 -/
def SmN (q : Rat) : Prop := ∃ m : Nat, m ≤ 10000000 ∧ q = (m : Rat)
theorem SmN.sz {q : Rat} (h : SmN q) : Sz q := by obtain ⟨m, h1, rfl⟩ := h; exact sz_nat h1
theorem one_sm {c k : Str} {u : Nat} (h : u ≤ 1000000) : SmN (oneF c k * (u : Rat)) := by
  unfold oneF
  split
  · exact ⟨u, by omega, by rw [Rat.one_mul]⟩
  · exact ⟨0, by omega, by rw [Rat.zero_mul]; rfl⟩
theorem lots_val (nd : L.Nodup) (k : Str) : (lsum L fun l => oneF l k * (ub l : Rat)) = if k ∈ L then (ub k : Rat) else 0 := lsum_one k (fun l => (ub l : Rat)) nd
theorem lates_val (nd : T.Nodup) (k : Str) : (lsum T fun c => oneF c k) = if k ∈ T then 1 else 0 := by
  rw [lsum_congr (g := fun c => oneF c k * (fun _ => (1 : Rat)) c) fun c _ => by grind]
  exact lsum_one k (fun _ => (1 : Rat)) nd
theorem paid_sm (ndL : L.Nodup) (ndT : T.Nodup) (hu : ∀ l ∈ L, ub l ≤ 1000000) (k : Str) : SmN (paidF ub L T k) := by
  unfold paidF
  rw [lots_val ndL, lates_val ndT]
  by_cases h1 : k ∈ L
  · have := hu k h1
    by_cases h2 : k ∈ T
    · rw [if_pos h1, if_pos h2]; exact ⟨ub k + 1, by omega, by push_cast; rfl⟩
    · rw [if_pos h1, if_neg h2]; exact ⟨ub k, by omega, by grind⟩
  · by_cases h2 : k ∈ T
    · rw [if_neg h1, if_pos h2]; exact ⟨1, by omega, by rw [Rat.zero_add]; rfl⟩
    · rw [if_neg h1, if_neg h2]; exact ⟨0, by omega, by rw [Rat.zero_add]; rfl⟩
theorem paid_nil (k : Str) : paidF ub L [] k = lsum L fun l => oneF l k * (ub l : Rat) := by
  unfold paidF; rw [lsum_nil]; grind
theorem paid_add {l k : Str} : paidF ub (L ++ [l]) [] k = paidF ub L [] k + oneF l k * (ub l : Rat) := by
  rw [paid_nil, paid_nil, lsum_append]; show _ + (_ + 0) = _; grind
theorem paid_late {c k : Str} : paidF ub L (T ++ [c]) k = paidF ub L T k + oneF c k := by
  unfold paidF; rw [lsum_append]; show _ + (_ + (_ + 0)) = _; grind
end
section
variable {P : Program} {w : World} {K : PySem.W.Frag} {mg : Str → Option Value} {base : Heap} {U : List Str}
def spPaid (K : PySem.W.Frag) (U : List Str) : Spc := fun vs B M Q => ∃ A rv ub lo ws j D n stk sp ff, vs = [.ref (Ad.a A)] ∧ CoS K U ub lo B M A rv ws j D n stk sp ff ∧ j ≤ 9 ∧ ∀ v B', Ex B B' → FormAt K U B' v (paidF ub (runB (ws.take j)).lots (runB (ws.take j)).lates) → Q v B' M
theorem pr_paid (F : FP P w K mg base U) : Pr P w K mg base 54 (ma K (ga K "Costing") "paid") [] (spPaid K U) := by
  have t := F.b.r.t
  refine pr_def t.f_Costing_paid sc_Costing_paid (fun _ _ _ _ _ _ us hl => match us, hl with | [_], _ => rfl) (by rintro _ _ _ _ ⟨A, rv, ub, lo, ws, j, D, n, stk, sp, ff, rfl, _⟩; rfl) ?_
  rintro cdv Ar outer s0 H E vs B M Q hr ⟨A, rv, ub, lo, ws, j, D, n, stk, sp, ff, rfl, cs, hj, hq⟩
  obtain ⟨sv, ob, hsv⟩ := cs.m.ob
  obtain ⟨k1, hk1, kv1⟩ := cs.m.m1
  obtain ⟨k2, hk2, kv2⟩ := cs.m.m2
  have ci := cs.i
  have lu := cs.u
  have n12 := cs.m.n12
  obtain ⟨na1, na2, _⟩ := cs.m.na
  generalize runB (ws.take j) = b at *
  have nT : ∀ i, (b.lots.take i).Nodup := fun i => ci.ndL.sublist (List.take_sublist _ _)
  have nS : ∀ i, (b.lates.take i).Nodup := fun i => ci.ndT.sublist (List.take_sublist _ _)
  have uT : ∀ i, ∀ l ∈ b.lots.take i, ub l ≤ 1000000 := fun i l hl => (ci.u1 l (List.mem_of_mem_take hl)).2
  have uA : ∀ l ∈ b.lots, ub l ≤ 1000000 := fun l hl => (ci.u1 l hl).2
  refine sm_cons (s1_set 1 sc_Costing_paid.nd (em_F0 F.b (hr.mono (by decide)) fun v1 B1 hB1 hv1 => ?_))
  -- lots
  have f1 : ∀ od, (upd M A.d1 (.frz od (.dK k1))) A.d1 = some (.frz od (.dK k1)) := fun od => upd_same
  have oa : ∀ od, (upd M A.d1 (.frz od (.dK k1))) A.a = some (coO K A rv sv) := fun od => by rw [upd_ne na1]; exact ob
  refine sm_cons (s1_lock hk1 True.intro fun od => s1_forKM PassesOwn.never rfl (em_fldM (em_nm 0 ⟨A.a, _, A.dx, _, .ref A.d1, rfl, oa od, t.cl_Costing, t.no_Costing_bought, rfl, A.d1, od, k1, rfl, f1 od,
    fun i σ B' M' => ∃ vf o o3, σ = [some (.ref A.a), some vf, o, o3] ∧ M' = upd M A.d1 (.frz od (.dK k1)) ∧ Ex B B' ∧ FormAt K U B' vf (paidF ub (b.lots.take i) []), ⟨v1, _, _, rfl, rfl, hB1, hv1.eq fun k => ?_⟩, ?_, ?_, ?_⟩)))
  · rw [List.take_zero]; show (0 : Rat) = 0 + 0; grind
  · rintro i σ B' M' _ ⟨vf, o, o3, rfl, rfl, _⟩
    exact f1 od
  · rintro i q v σ B' M' hi _ ⟨vf, o, o3, rfl, rfl, hB, hvf⟩
    obtain ⟨l, rfl, hl, hlv, rfl⟩ := kv1.ix hi
    have hlm := List.mem_of_getElem? hl
    refine gm_name 2 sc_Costing_paid.nd (sm_one (s1_set 1 sc_Costing_paid.nd (em_Fadd F hr (em_nm 1 (em_Fmul F hr (em_Fof F hr (em_nm 2 ⟨l, rfl, lu.l l hlm, fun v2 B2 hB2 hv2 => em_dgetM (u1 hr) (em_fldM (em_nm 0 ⟨A.a, _, A.dx, _, .ref A.d1, rfl, oa od, t.cl_Costing, t.no_Costing_bought, rfl, em_nm 2 ⟨A.d1, k1, .inr l, _, rfl, .inr ⟨od, f1 od⟩, rfl, hlv, ?_⟩⟩))⟩)))))))
    refine ⟨oneF l, (ub l : Rat), hv2, .inl ⟨_, rfl, by rw [Rat.intCast_natCast]⟩, fun k => szOne, sz_nat (by have := uA l hlm; omega), fun k => (one_sm (uA l hlm)).sz, fun v3 B3 hB3 hv3 => ?_⟩
    have e : ∀ k, paidF ub (b.lots.take i) [] k + oneF l k * (ub l : Rat) = paidF ub (b.lots.take (i + 1)) [] k := fun k => by rw [take1 hl, paid_add]
    refine ⟨_, _, hvf.up (hB2.tr hB3), hv3, fun k => (paid_sm (nT i) List.nodup_nil (uT i) k).sz, fun k => (one_sm (uA l hlm)).sz, fun k => ?_, fun v4 B4 hB4 hv4 => ⟨v4, _, _, rfl, rfl, ((hB.tr hB2).tr hB3).tr hB4, hv4.eq e⟩⟩
    show Sz (paidF ub (b.lots.take i) [] k + oneF l k * (ub l : Rat))
    rw [e]; exact (paid_sm (nT (i + 1)) List.nodup_nil (uT (i + 1)) k).sz
  rintro σ B1' M1' _ ⟨vf, o, o3, rfl, rfl, hB1', hvf⟩
  refine ⟨f1 od, ?_⟩
  rw [upd_twice, upd_self hk1]
  rw [kv1.len, List.take_length] at hvf
  -- late costs
  have f2 : ∀ od, (upd M A.d2 (.frz od (.dK k2))) A.d2 = some (.frz od (.dK k2)) := fun od => upd_same
  have oa2 : ∀ od, (upd M A.d2 (.frz od (.dK k2))) A.a = some (coO K A rv sv) := fun od => by rw [upd_ne na2]; exact ob
  refine sm_cons (s1_lock hk2 True.intro fun od => s1_forKM PassesOwn.never rfl (em_fldM (em_nm 0 ⟨A.a, _, A.dx, _, .ref A.d2, rfl, oa2 od, t.cl_Costing, t.no_Costing_known_late, rfl, A.d2, od, k2, rfl, f2 od,
    fun i σ B' M' => ∃ vf o o3, σ = [some (.ref A.a), some vf, o, o3] ∧ M' = upd M A.d2 (.frz od (.dK k2)) ∧ Ex B B' ∧ FormAt K U B' vf (paidF ub b.lots (b.lates.take i)), ⟨vf, _, _, rfl, rfl, hB1', hvf.eq fun k => ?_⟩, ?_, ?_, ?_⟩)))
  · rw [List.take_zero]
  · rintro i σ B' M' _ ⟨vf, o, o3, rfl, rfl, _⟩
    exact f2 od
  · rintro i q v σ B' M' hi _ ⟨vf, o, o3, rfl, rfl, hB, hvf⟩
    obtain ⟨c, rfl, hc, hcv, rfl⟩ := kv2.ix hi
    have hcm := List.mem_of_getElem? hc
    have e : ∀ k, paidF ub b.lots (b.lates.take i) k + oneF c k = paidF ub b.lots (b.lates.take (i + 1)) k := fun k => by rw [take1 hc, paid_late]
    refine gm_name 3 sc_Costing_paid.nd (sm_one (s1_set 1 sc_Costing_paid.nd (em_Fadd F hr (em_nm 1 (em_Fof F hr (em_nm 3 ⟨c, rfl, lu.t c hcm, fun v2 B2 hB2 hv2 => ⟨_, _, hvf.up hB2, hv2, fun k => (paid_sm ci.ndL (nS i) uA k).sz, fun k => szOne, fun k => ?_, fun v4 B4 hB4 hv4 => ⟨v4, _, _, rfl, rfl, (hB.tr hB2).tr hB4, hv4.eq e⟩⟩⟩))))))
    show Sz (paidF ub b.lots (b.lates.take i) k + oneF c k)
    rw [e]; exact (paid_sm ci.ndL (nS (i + 1)) uA k).sz
  · rintro σ B' M' _ ⟨vf, o, o3, rfl, rfl, hB, hvf⟩
    refine ⟨f2 od, ?_⟩
    rw [upd_twice, upd_self hk2]
    refine sm_one (s1_ret (em_nm 1 (hq vf B' hB ?_)))
    rwa [kv2.len, List.take_length] at hvf
end
end LC
end LcCst8
section LcLaw1
set_option maxHeartbeats 4000000
/-! The law's draws. -/
namespace LC
open PySem L2
open He (ga ma)
open He5 (wf)
theorem em_ixLM {X : Cx} {a b : Expr} {σ : St} {B M : Hp} {P : V → Hp → Hp → Prop} {pos : Pos} (h : EM X a σ B M fun x B1 M1 => EM X b σ B1 M1 fun y B2 M2 => ∃ q xs i v, x = .ref q ∧ y = .int i ∧ M2 q = some (.lst xs) ∧ atI xs i = some v ∧ P v B2 M2) (hs : PlainIx b := by exact fun _ _ => rfl) : EM X (.Subscript a b pos) σ B M P :=
  em_ixL (h.imp fun x B1 M1 _ h1 => Emt.own' (h1.imp fun y B2 M2 _ ⟨q, xs, i, v, e1, e2, e3, e4, e5⟩ own => ⟨q, xs, i, v, e1, e2, SqL.of (jn_m e3 (own _ _ e3)), e4, e5⟩)) hs
theorem em_lenM {X : Cx} {e : Expr} {σ : St} {B M : Hp} {P : V → Hp → Hp → Prop} {pos p : Pos} (hm : X.mg "len" = none) (h : EM X e σ B M fun v B1 M1 => ∃ q xs, v = .ref q ∧ M1 q = some (.lst xs) ∧ P (.int xs.length) B1 M1) (hg : Gl X "len" := by rfl)
    (he : starEach [e] X.env = (false, eval e X.env) :: starEach [] X.env := by rfl) : EM X (.Call (.Name "len" p) [e] [] pos) σ B M P :=
  em_len hm (Emt.own' (h.imp fun v B1 M1 _ ⟨q, xs, e1, e2, e3⟩ own => ⟨q, xs, e1, .inl (SqL.of (jn_m e2 (own _ _ e2))), e3⟩)) hg he
def bagO (l : Addr) (i b m c : Int) : HO := .lst [.ref l, .int i, .int b, .int m, .int c]
def BagAt (B M : Hp) (g : Addr) : Prop := ∃ l ns i b m c, M g = some (bagO l (i : Nat) b m c) ∧ B l = some (.lst ((ns : List Int).map V.int))
def Oth (g : Addr) (M M' : Hp) : Prop := ∀ q, q ≠ g → M' q = M q
theorem BagAt.up {B B' M M' : Hp} {g : Addr} (h : BagAt B M g) (x : Ex B B') (e : M' g = M g) : BagAt B' M' g := by
  obtain ⟨l, ns, i, b, m, c, h1, h2⟩ := h
  exact ⟨l, ns, i, b, m, c, e.trans h1, x _ _ h2⟩
section
variable {P : Program} {w : World} {K : PySem.W.Frag} {mg : Str → Option Value} {base : Heap}
def spDraw : Spc := fun vs B M Q => ∃ g, ∃ s : Nat, vs = [.ref g, .int s] ∧ BagAt B M g ∧ 1 ≤ s ∧ s < 1073741824 ∧ ∀ (r : Nat) B' M', Ex B B' → r < s → BagAt B' M' g → Oth g M M' → Q (.int r) B' M'
theorem modlt {z : Int} {s : Nat} (h : 1 ≤ s) : ∃ r : Nat, z % (s : Int) = (r : Int) ∧ r < s := by
  have h1 := Int.emod_nonneg z (show (s : Int) ≠ 0 by omega)
  have h2 := Int.emod_lt_of_pos z (show (0 : Int) < s by omega)
  exact ⟨(z % (s : Int)).toNat, by omega, by omega⟩
theorem pr_draw (t : Tx K mg) {k : Nat} : Pr P w K mg base (k + 1) (ga K "_law_draw") [] spDraw := by
  refine pr_def t.f_law_draw sc_law_draw (fun _ _ _ _ _ _ us hl => match us, hl with | [_, _], _ => rfl) (by rintro _ _ _ _ ⟨g, s, rfl, _⟩; rfl) ?_
  rintro cdv A outer s0 H E vs B M Q hr ⟨g, s, rfl, ⟨l, ns, i, b, m, c, hg, hl⟩, hs1, hs2, hq⟩
  have mul1 : ∀ {i : Int} {j : Int}, -(2 ^ 64) < j → j < 2 ^ 64 → CMul i j := fun h1 h2 => .inr ⟨h1, h2⟩
  -- the count
  refine sm_cons (s1_lput (em_op op_add (em_ixLM (em_nm 0 (em_int ⟨g, _, 4, .int c, rfl, rfl, hg, rfl, em_int (om_I0 (em_nm 0 (em_int ⟨g, _, 4, 4, rfl, rfl, hg, rfl, ?_⟩)))⟩)))))
  -- the next cell
  refine sm_cons (EmS.imp (fun σ' B' M' => ∃ o, σ' = [some (.ref g), some (.int s), o, none, none] ∧ B' = B ∧ ∃ (i' : Nat) (b' m' : Int), M' = upd M g (bagO l i' b' m' (c + 1))) ?_ fun σ' B' M' _ ⟨o, eσ, eB, i', b', m', eM⟩ => ?_)
  · refine s1_if (tm_w (wm_and (tm_cmp op_eq (em_ixLM (em_nm 0 (em_int ⟨g, _, 2, .int b, rfl, rfl, upd_same, rfl, em_int (om_eq rfl ⟨_, rfl, ?_⟩)⟩))))))
    by_cases hb : b = 0
    · refine ift (dt (by rw [hb])) (wm_and1 (tm_cmp op_lt (em_ixLM (em_nm 0 (em_int ⟨g, _, 1, .int i, rfl, rfl, upd_same, rfl, em_len t.u_len (em_ixLM (em_nm 0 (em_int ⟨g, _, 0, .ref l, rfl, rfl, upd_same, rfl, l, _, rfl, .inl (SqL.of (jn_b hl)), om_I0 ⟨_, rfl, ?_⟩⟩)))⟩)))))
      by_cases hi : i < ns.length
      · refine ift (dt (by show (i : Int) < ((ns.map V.int).length : Nat); rw [List.length_map]; omega)) ?_
        have hcell : (ns.map V.int)[i]? = some (.int ns[i]) := by rw [List.getElem?_map, List.getElem?_eq_getElem hi]; rfl
        refine sm_cons (s1_set 2 sc_law_draw.nd (em_ixL (em_ixLM (em_nm 0 (em_int ⟨g, _, 0, .ref l, rfl, rfl, upd_same, rfl, em_ixLM (em_nm 0 (em_int ⟨g, _, 1, .int i, rfl, rfl, upd_same, rfl, l, _, (i : Int), .int ns[i], rfl, rfl, SqL.of (jn_b hl), at_nat hcell, ?_⟩))⟩)))))
        refine sm_cons (s1_lput (em_op op_add (em_ixLM (em_nm 0 (em_int ⟨g, _, 1, .int i, rfl, rfl, upd_same, rfl, em_int (om_I0 (em_nm 0 (em_int ⟨g, _, 1, 1, rfl, rfl, upd_same, rfl, ?_⟩)))⟩)))))
        rw [upd_twice]
        refine sm_cons <| s1_lput <| em_op op_mul <| em_op op_add <| em_op op_mul <| em_int <| em_abs t.u_abs <| em_nm 2 ⟨ns[i], rfl, om_I (.inl ⟨by decide, by decide⟩) <| em_intB t.u_int <| em_cmp op_lt <| em_nm 2 <| em_int <| om_I0 ⟨_, rfl, om_I0 ?_⟩⟩
        refine em_intB t.u_int <| em_cmp op_ge <| em_abs t.u_abs <| em_nm 2 ⟨ns[i], rfl, em_op op_pow <| em_int <| em_int <| om_I ⟨by decide, by decide, by decide⟩ <| om_I0 ⟨_, rfl, om_I (mul1 (by split <;> decide) (by split <;> decide)) <| em_nm 0 <| em_int ⟨g, _, 2, 2, rfl, rfl, upd_same, rfl, ?_⟩⟩⟩
        rw [upd_twice]
        refine sm_one <| s1_lput <| em_op op_mod <| em_intI t.u_int <| em_op op_add <| em_op op_add <| em_op op_mul <| em_ixLM <| em_nm 0 <| em_int ⟨g, _, 3, .int m, rfl, rfl, upd_same, rfl, em_int <| om_I (mul1 (by decide) (by decide)) <| em_op op_mul <| em_nm 2 <| em_int <| om_I (mul1 (by decide) (by decide)) <| om_I0 <| em_int <| om_I0 ⟨_, rfl, em_int <| om_I (by decide) <| em_nm 0 <| em_int ⟨g, _, 3, 3, rfl, rfl, upd_same, rfl, ?_⟩⟩⟩
        rw [upd_twice]
        exact ⟨_, rfl, rfl, i + 1, _, _, rfl⟩
      · refine iff' (df (by show ¬ (i : Int) < ((ns.map V.int).length : Nat); rw [List.length_map]; omega)) (sm_nil ⟨_, rfl, rfl, i, b, m, rfl⟩)
    · refine iff' (df (vint_ne hb)) (iff' rfl (sm_nil ⟨_, rfl, rfl, i, b, m, rfl⟩))
  subst eσ eB eM
  have fin : ∀ (r : Nat) (b'' : Int), r < s → Q (.int r) B' (upd M g (bagO l i' b'' m' (c + 1))) := fun r b'' hr => hq r B' _ Ex.id' hr ⟨l, ns, i', b'', m', c + 1, upd_same, hl⟩ fun q hne => upd_ne hne
  obtain ⟨r1, hr1, hr1'⟩ := modlt (z := b') hs1
  refine sm_cons (s1_set 3 sc_law_draw.nd (em_op op_mod (em_intI t.u_int (em_ixLM (em_nm 0 (em_int ⟨g, _, 2, .int b', rfl, rfl, upd_same, rfl, b', rfl, em_nm 1 (om_I (show (0 : Int) < s by omega) ?_)⟩))))))
  rw [hr1]
  refine sm_cons (s1_if (tm_cmp op_gt (em_ixLM (em_nm 0 (em_int ⟨g, _, 2, .int b', rfl, rfl, upd_same, rfl, em_int (om_I0 ⟨_, rfl, ?_⟩)⟩)))))
  by_cases hb : b' > 0
  · refine ift (dt hb) (sm_cons (s1_lput (em_op op_fdiv (em_ixLM (em_nm 0 (em_int ⟨g, _, 2, .int b', rfl, rfl, upd_same, rfl, em_nm 1 (om_I ⟨by omega, by omega⟩ (em_nm 0 (em_int ⟨g, _, 2, 2, rfl, rfl, upd_same, rfl, ?_⟩)))⟩))))))
    rw [upd_twice]
    exact sm_one (s1_ret (em_nm 3 (fin r1 _ hr1')))
  refine iff' (df hb) (sm_nil ?_)
  refine sm_cons <| s1_set 4 sc_law_draw.nd <| em_op op_mod <| em_intI t.u_int <| em_op op_add <| em_ixLM <| em_nm 0 <| em_int ⟨g, _, 3, .int m', rfl, rfl, upd_same, rfl, em_op op_mul <| em_ixLM <| em_nm 0 <| em_int ⟨g, _, 4, .int (c + 1), rfl, rfl, upd_same, rfl, em_int <| om_I (mul1 (by decide) (by decide)) <| om_I0 ⟨_, rfl, em_int <| om_I (by decide) ?_⟩⟩⟩
  generalize hz : (m' + (c + 1) * 40692) % 2147483647 = z
  have hz1 : 0 ≤ z := by rw [← hz]; exact Int.emod_nonneg _ (by decide)
  have hz2 : z < 2147483647 := by rw [← hz]; exact Int.emod_lt_of_pos _ (by decide)
  refine sm_cons <| s1_set 4 sc_law_draw.nd <| em_op op_mod <| em_intI t.u_int <| em_op op_add <| em_op op_add <| em_op op_pow <| em_nm 4 <| em_int <| om_I ⟨by decide, by decide, ?_⟩ <| em_op op_mul <| em_ixLM <| em_nm 0 <| em_int ⟨g, _, 4, .int (c + 1), rfl, rfl, upd_same, rfl, em_int <| om_I (mul1 (by decide) (by decide)) <| om_I0 <| em_int <| om_I0 ⟨_, rfl, em_int <| om_I (by decide) ?_⟩⟩
  · show z.natAbs < 2 ^ 64
    omega
  generalize hy : (z ^ (3 : Int).toNat + (c + 1) * 16807 + 7) % 2147483629 = y
  have hy1 : 0 ≤ y := by rw [← hy]; exact Int.emod_nonneg _ (by decide)
  have hy2 : y < 2147483629 := by rw [← hy]; exact Int.emod_lt_of_pos _ (by decide)
  refine sm_one <| s1_ret <| em_op op_mod <| em_op op_fdiv <| em_op op_mod <| em_intI t.u_int <| em_op op_pow <| em_nm 4 <| em_int <| om_I ⟨by decide, by decide, ?_⟩ ⟨_, rfl, em_int <| om_I (by decide) <| em_int <| om_I ⟨by decide, by decide⟩ <| em_nm 1 <| om_I (show (0 : Int) < s by omega) ?_⟩
  · show y.natAbs < 2 ^ 64
    omega
  obtain ⟨r2, hr2, hr2'⟩ := modlt (z := y ^ (2 : Int).toNat % 2147483587 / 8) hs1
  show Q (V.int (y ^ (2 : Int).toNat % 2147483587 / 8 % (s : Int))) _ _
  rw [hr2]
  exact fin r2 b' hr2'
end
end LC
end LcLaw1
section LcLaw2
set_option maxHeartbeats 4000000
/-! Bag, pick, mixed, rule, made. -/
namespace LC
open PySem L2
open He (ga ma)
open He5 (wf)
/-- a step of the law: the bag is still a bag, the rest stands -/
structure Lw (g : Addr) (B M B' M' : Hp) : Prop where
  b : Ex B B'
  bag : BagAt B' M' g
  oth : ∀ q, q ≠ g → M q ≠ none → M' q = M q
  nt : NoTup M → NoTup M'
theorem Lw.tr {g : Addr} {B M B1 M1 B2 M2 : Hp} (h : Lw g B M B1 M1) (h2 : Lw g B1 M1 B2 M2) : Lw g B M B2 M2 :=
  ⟨h.b.tr h2.b, h2.bag, fun q hq hm => (h2.oth q hq (by rw [h.oth q hq hm]; exact hm)).trans (h.oth q hq hm), fun z => h2.nt (h.nt z)⟩
theorem Lw.refl {g : Addr} {B M : Hp} (h : BagAt B M g) : Lw g B M B M := ⟨Ex.id', h, fun _ _ _ => rfl, id⟩
theorem BagAt.lw {g : Addr} {B M B' M' : Hp} (h : BagAt B M g) (x : Ex B B') (h' : BagAt B' M' g) (o : Oth g M M') : Lw g B M B' M' :=
  ⟨x, h', fun q hq _ => o q hq, fun nt q xs e => by
    by_cases z : q = g
    · obtain ⟨l, ns, i, b, m, c, h1, _⟩ := h'
      rw [z, h1] at e; cases e
    · rw [o q z] at e; exact nt q xs e⟩
theorem Lw.upB {g : Addr} {B M B' M' B2 : Hp} (h : Lw g B M B' M') (x : Ex B' B2) : Lw g B M B2 M' := ⟨h.b.tr x, h.bag.up x rfl, h.oth, h.nt⟩
section
variable {X : Cx} {e1 e2 : Expr} {σ : St} {B M : Hp} {P : V → Hp → Hp → Prop} {p pos : Pos}
theorem em_draw (t : Tx X.K X.mg) (hr : Room 1 X.A) (h : EM X e1 σ B M fun x B1 M1 => EM X e2 σ B1 M1 fun y B2 M2 => ∃ g, ∃ s : Nat, x = .ref g ∧ y = .int s ∧ BagAt B2 M2 g ∧ 1 ≤ s ∧ s < 1073741824 ∧ ∀ (r : Nat) B' M', r < s → Lw g B2 M2 B' M' → Oth g M2 M' → P (.int r) B' M') (hg : Gl X "_law_draw" := by rfl)
    (he : starEach [e1, e2] X.env = (false, eval e1 X.env) :: starEach [e2] X.env := by rfl) (he2 : starEach [e2] X.env = (false, eval e2 X.env) :: starEach [] X.env := by rfl) (hpl : (backTo pos (starEach [e2] X.env)).any (·.1) = false := by rfl) : EM X (.Call (.Name "_law_draw" p) [e1, e2] [] pos) σ B M P :=
  em_call (pr_draw t (k := 0)) hr t.g_law_draw (am_cons (h.imp fun x B1 M1 _ h1 => am_cons (h1.imp fun y B2 M2 _ ⟨g, s, hx, hy, hb, s1, s2, hp⟩ => am_nil ⟨g, s, by rw [hx, hy]; rfl, hb, s1, s2, fun r B' M' hB hr hb' ho => hp r B' M' hr (hb.lw hB hb' ho) ho⟩) he2) he) hg (by decide) he hpl
end
section
variable {P : Program} {w : World} {K : PySem.W.Frag} {mg : Str → Option Value} {base : Heap}
def spBag (K : PySem.W.Frag) : Spc := fun vs B M Q => ∃ a, ∃ ns : List Int, vs = [.ref a] ∧ SqL K B a (ns.map V.int) ∧ ∀ B' g l, Ex B B' → M g = none → B' l = some (.lst (ns.map V.int)) → Q (.ref g) B' (upd M g (bagO l (0 : Nat) 0 17 0))
theorem pr_bag (t : Tx K mg) {k : Nat} : Pr P w K mg base (k + 1) (ga K "_law_bag") [] (spBag K) := by
  refine pr_def t.f_law_bag sc_law_bag (fun _ _ _ _ _ _ us hl => match us, hl with | [_], _ => rfl) (by rintro _ _ _ _ ⟨a, ns, rfl, _⟩; rfl) ?_
  rintro cdv A outer s0 H E vs B M Q hr ⟨a, ns, rfl, ha, hq⟩
  refine sm_one <| s1_ret <| em_lst <| am_cons <| em_listB t.u_list <| em_nm 0 ⟨a, _, rfl, .inl (sql_up ex_jn ha), fun l hl => am_cons <| em_int <| am_cons <| em_int <| am_cons <| em_int <| am_cons <| em_int <| am_nil ⟨le_size (by show 5 < 1000; decide), fun g hg mg => ?_⟩⟩
  exact hq _ g l (Ex.up hl) mg upd_same
def LstAt (B M : Hp) (l : Addr) (xs : List V) : Prop := B l = some (.lst xs) ∨ M l = some (.lst xs)
theorem LstAt.sq {K : PySem.W.Frag} {B M : Hp} {l : Addr} {xs : List V} (h : LstAt B M l xs) (own : ∀ p o, M p = some o → B p = none) : SqL K (jn B M) l xs := by
  rcases h with h | h
  · exact SqL.of (jn_b h)
  · exact SqL.of (jn_m h (own _ _ h))
theorem LstAt.lw {B M B' M' : Hp} {l g : Addr} {xs : List V} (h : LstAt B M l xs) (x : Lw g B M B' M') (ne : l ≠ g) : LstAt B' M' l xs := by
  rcases h with h | h
  · exact .inl (x.b _ _ h)
  · exact .inr ((x.oth l ne (by rw [h]; intro z; cases z)).trans h)
def spPick : Spc := fun vs B M Q => ∃ g l xs, vs = [.ref g, .ref l] ∧ BagAt B M g ∧ LstAt B M l xs ∧ l ≠ g ∧ xs ≠ [] ∧ xs.length < 1000 ∧ ∀ (r : Nat) v B' M', xs[r]? = some v → Lw g B M B' M' → Oth g M M' → Q v B' M'
theorem pr_pick (t : Tx K mg) {k : Nat} : Pr P w K mg base (k + 2) (ga K "_law_pick") [] spPick := by
  refine pr_def t.f_law_pick sc_law_pick (fun _ _ _ _ _ _ us hl => match us, hl with | [_, _], _ => rfl) (by rintro _ _ _ _ ⟨g, l, xs, rfl, _⟩; rfl) ?_
  rintro cdv A outer s0 H E vs B M Q hr ⟨g, l, xs, rfl, hb, hl, ne, hx, hxl, hq⟩
  have hx1 : 1 ≤ xs.length := by cases xs with
    | nil => exact absurd rfl hx
    | cons => simp
  refine sm_one <| s1_ret <| em_ixL <| em_nm 1 <| Emt.own' <| em_draw t (hr.mono (by omega)) <| em_nm 0 <| em_len t.u_len <| Emt.own' <| em_nm 1 fun own => ⟨l, xs, rfl, .inl (hl.sq own), g, xs.length, rfl, rfl, hb, hx1, by omega, fun r B' M' hrs lw ho own' => ?_⟩
  obtain ⟨v, hv⟩ : ∃ v, xs[r]? = some v := ⟨xs[r], List.getElem?_eq_getElem hrs⟩
  exact ⟨l, xs, r, v, rfl, rfl, (hl.lw lw ne).sq own', at_nat hv, hq r v B' M' hv lw ho⟩
def spMix : Spc := fun vs B M Q => ∃ g l xs, vs = [.ref g, .ref l] ∧ BagAt B M g ∧ B l = some (.lst xs) ∧ xs.length < 1000 ∧ ∀ r B' M' ys, B' r = some (.lst ys) → ys.Perm xs → Lw g B M B' M' → Q (.ref r) B' M'
theorem erase_perm {α : Type} : ∀ {zs : List α} {j : Nat} {v : α}, zs[j]? = some v → (v :: zs.eraseIdx j).Perm zs
  | [], j, v, h => by simp at h
  | z :: zs, 0, v, h => by simp at h; subst h; exact List.Perm.refl _
  | z :: zs, j + 1, v, h => by
    have h' : zs[j]? = some v := by simpa using h
    exact (List.Perm.swap z v _).trans ((erase_perm h').cons z)
theorem pr_mix (t : Tx K mg) {k : Nat} : Pr P w K mg base (k + 2) (ga K "_law_mixed") [] spMix := by
  refine pr_def t.f_law_mixed sc_law_mixed (fun _ _ _ _ _ _ us hl => match us, hl with | [_, _], _ => rfl) (by rintro _ _ _ _ ⟨g, l, xs, rfl, _⟩; rfl) ?_
  rintro cdv A outer s0 H E vs B M Q hr ⟨g, l, xs, rfl, hb, hl, hxl, hq⟩
  obtain ⟨lg, nsg, ig, bg, mg', cg, hMg, hBg⟩ := id hb
  refine sm_cons <| s1_set 2 sc_law_mixed.nd <| em_list t.u_list <| em_nm 1 ⟨l, xs, rfl, .inl (SqL.of (jn_b hl)), fun l1 b1 m1 => ?_⟩
  refine sm_cons <| s1_set 3 sc_law_mixed.nd <| em_lst <| am_nil ⟨sl0, fun f1 bf mf => ?_⟩
  have nf1 : f1 ≠ l1 := (fresh_ne mf).1
  have mf0 := (fresh_ne mf).2
  have ngl : g ≠ l1 := fun e => by rw [← e, hMg] at m1; cases m1
  have ngf : g ≠ f1 := fun e => by rw [← e, hMg] at mf0; cases mf0
  refine sm_cons <| s1_forR PassesOwn.never rfl t.u_range <| em_len t.u_len <| em_nm 1 ⟨l, xs, rfl, .inl (SqL.of (jn_b hl)), xs.length, rfl, by omega,
    fun i σ B' M' => ∃ o zs fs, σ = [some (.ref g), some (.ref l), some (.ref l1), some (.ref f1), o] ∧ M' l1 = some (.lst zs) ∧ M' f1 = some (.lst fs) ∧ (fs ++ zs).Perm xs ∧ zs.length + i = xs.length ∧ Ex B B' ∧ BagAt B' M' g ∧ (∀ q, q ≠ g → M q ≠ none → M' q = M q) ∧ (NoTup M → NoTup M'), ?_, ?_, ?_⟩
  · refine ⟨_, xs, [], rfl, by rw [upd_ne nf1.symm, upd_same], upd_same, List.Perm.refl _, rfl, Ex.id', hb.up Ex.id' (by rw [upd_ne ngf, upd_ne ngl]), fun q hq hm => ?_, fun nt => (nt.upd fun _ e => by cases e).upd fun _ e => by cases e⟩
    rw [upd_ne (fun e => by rw [e] at hm; exact hm mf0), upd_ne (fun e => by rw [e] at hm; exact hm m1)]
  · rintro i σ B' M' hi _ ⟨o, zs, fs, rfl, h1, h2, hp, hzl, hB, hbg, hoth, hnt⟩
    have hpl := hp.length_eq
    rw [List.length_append] at hpl
    refine gm_name 4 sc_law_mixed.nd <| sm_own fun own => sm_one <| s1_expr <| em_append <| em_nm 3 ⟨f1, fs, rfl, h2, own _ _ h2, em_popAt <| em_nm 2 ⟨l1, zs, rfl, h1, own _ _ h1, em_draw t (hr.mono (by omega)) <| em_nm 0 <| em_lenM t.u_len <| em_nm 2 ⟨l1, zs, rfl, h1, g, zs.length, rfl, rfl, hbg, by omega, by omega, fun r B2 M2 hrs lw ho => ?_⟩⟩⟩
    obtain ⟨v, hv⟩ : ∃ v, zs[r]? = some v := ⟨zs[r], List.getElem?_eq_getElem hrs⟩
    have g1 : M2 l1 = some (.lst zs) := (ho l1 ngl.symm).trans h1
    have g2 : M2 f1 = some (.lst fs) := (ho f1 ngf.symm).trans h2
    have ep := erase_perm hv
    have el := ep.length_eq
    rw [List.length_cons] at el
    refine ⟨zs, r, v, rfl, g1, by omega, hv, fs, by rw [upd_ne nf1]; exact g2, lt_size (by omega), ?_⟩
    refine ⟨_, zs.eraseIdx r, fs ++ [v], rfl, by rw [upd_ne nf1.symm, upd_same], upd_same, ?_, by omega, hB.tr lw.b, lw.bag.up Ex.id' (by rw [upd_ne ngf, upd_ne ngl]), fun q hq hm => ?_, fun nt => ((lw.nt (hnt nt)).upd fun _ e => by cases e).upd fun _ e => by cases e⟩
    · rw [List.append_assoc]
      exact (List.Perm.append_left fs ep).trans hp
    · rw [upd_ne (fun e => by rw [e] at hm; exact hm mf0), upd_ne (fun e => by rw [e] at hm; exact hm m1), ho q hq]
      exact hoth q hq hm
  · rintro σ B' M' _ ⟨o, zs, fs, rfl, h1, h2, hp, hzl, hB, hbg, hoth, hnt⟩
    have hz : zs = [] := List.eq_nil_of_length_eq_zero (by omega)
    subst hz
    rw [List.append_nil] at hp
    refine sm_one <| s1_ret <| Emt.fzN <| em_nm 3 ⟨f1, _, h2, fun hn => ?_⟩
    refine hq f1 _ _ fs upd_same hp ⟨hB.tr (Ex.up hn), hbg.up (Ex.up hn) (del_ne ngf), fun q hq hm => ?_, fun nt => (hnt nt).del⟩
    rw [del_ne (fun e => by rw [e] at hm; exact hm mf0)]
    exact hoth q hq hm
def spRl : Spc := fun vs B M Q => ∃ g, vs = [.ref g] ∧ BagAt B M g ∧ ∀ r tk pl pd B' M', tk ∈ takesL → pl ∈ spotsL → 0 ≤ pd → pd ≤ 1000000 → B' r = some (.tup [.str tk, .str pl, .int pd]) → Lw g B M B' M' → Q (.ref r) B' M'
theorem pr_rl (t : Tx K mg) {k : Nat} : Pr P w K mg base (k + 2) (ga K "_law_rule") [] spRl := by
  refine pr_def t.f_law_rule sc_law_rule (fun _ _ _ _ _ _ us hl => match us, hl with | [_], _ => rfl) (by rintro _ _ _ _ ⟨g, rfl, _⟩; rfl) ?_
  rintro cdv A outer s0 H E vs B M Q hr ⟨g, rfl, hb, hq⟩
  have hr1 := hr.mono (show 1 ≤ k + 1 by omega)
  refine sm_cons <| s1_set 1 sc_law_rule.nd <| em_ixL <| em_lstB <| am_cons <| em_str <| am_cons <| em_str <| am_cons <| em_str <| am_nil ⟨sl3, fun d1 bd1 md1 => em_draw t hr1 <| em_nm 0 <| em_int ⟨g, 3, rfl, rfl, hb.up (Ex.up bd1) rfl, by decide, by decide, fun r1 B1 M1 hr1' lw1 ho1 => ?_⟩⟩
  have hd1 : B1 d1 = some (.lst (takesL.map V.str)) := lw1.b _ _ upd_same
  obtain ⟨tk, htk⟩ : ∃ tk, takesL[r1]? = some tk := ⟨takesL[r1]'hr1', List.getElem?_eq_getElem hr1'⟩
  have htk' : (takesL.map V.str)[r1]? = some (.str tk) := by rw [List.getElem?_map, htk]; rfl
  refine ⟨d1, _, r1, .str tk, rfl, rfl, SqL.of (jn_b hd1), at_nat htk', ?_⟩
  refine sm_cons <| s1_set 2 sc_law_rule.nd <| em_ixL <| em_lstB <| am_cons <| em_str <| am_cons <| em_str <| am_cons <| em_str <| am_nil ⟨sl3, fun d2 bd2 md2 => em_draw t hr1 <| em_nm 0 <| em_int ⟨g, 3, rfl, rfl, lw1.bag.up (Ex.up bd2) rfl, by decide, by decide, fun r2 B2 M2 hr2' lw2 ho2 => ?_⟩⟩
  have hd2 : B2 d2 = some (.lst (spotsL.map V.str)) := lw2.b _ _ upd_same
  obtain ⟨pl, hpl⟩ : ∃ pl, spotsL[r2]? = some pl := ⟨spotsL[r2]'hr2', List.getElem?_eq_getElem hr2'⟩
  have hpl' : (spotsL.map V.str)[r2]? = some (.str pl) := by rw [List.getElem?_map, hpl]; rfl
  refine ⟨d2, _, r2, .str pl, rfl, rfl, SqL.of (jn_b hd2), at_nat hpl', ?_⟩
  refine sm_cons <| s1_set 3 sc_law_rule.nd <| em_ixL <| em_lstB <| am_cons <| em_int <| am_cons <| em_int <| am_cons <| em_int <| am_cons <| em_int <| am_cons <| em_int <| am_cons <| em_op op_add <| em_int <| em_draw t hr1 <| em_nm 0 <| em_int ⟨g, 1000000, rfl, rfl, lw2.bag, by decide, by decide, fun r3 B3 M3 hr3' lw3 ho3 => om_I0 <| am_nil ⟨le_size (by show 6 < 1000; decide), fun d3 bd3 md3 => em_draw t hr1 <| em_nm 0 <| em_int ⟨g, 6, rfl, rfl, lw3.bag.up (Ex.up bd3) rfl, by decide, by decide, fun r4 B4 M4 hr4' lw4 ho4 => ?_⟩⟩⟩
  have hd3 : B4 d3 = some (.lst [.int 0, .int 0, .int 1, .int 2, .int 7, .int (1 + (r3 : Int))]) := lw4.b _ _ upd_same
  obtain ⟨pd, hpd, hp0, hp1⟩ : ∃ pd : Int, ([.int 0, .int 0, .int 1, .int 2, .int 7, .int (1 + (r3 : Int))] : List V)[r4]? = some (.int pd) ∧ 0 ≤ pd ∧ pd ≤ 1000000 := by
    match r4, hr4' with
    | 0, _ => exact ⟨0, rfl, by decide, by decide⟩
    | 1, _ => exact ⟨0, rfl, by decide, by decide⟩
    | 2, _ => exact ⟨1, rfl, by decide, by decide⟩
    | 3, _ => exact ⟨2, rfl, by decide, by decide⟩
    | 4, _ => exact ⟨7, rfl, by decide, by decide⟩
    | 5, _ => exact ⟨1 + r3, rfl, by omega, by omega⟩
  refine ⟨d3, _, r4, .int pd, rfl, rfl, SqL.of (jn_b hd3), at_nat hpd, ?_⟩
  have l1 : Lw g B M B1 M1 := ⟨(Ex.up bd1).tr lw1.b, lw1.bag, lw1.oth, lw1.nt⟩
  have l2 : Lw g B1 M1 B2 M2 := ⟨(Ex.up bd2).tr lw2.b, lw2.bag, lw2.oth, lw2.nt⟩
  have l4 : Lw g B3 M3 B4 M4 := ⟨(Ex.up bd3).tr lw4.b, lw4.bag, lw4.oth, lw4.nt⟩
  have lw := ((l1.tr l2).tr lw3).tr l4
  refine sm_one <| s1_ret <| em_tup <| am_cons <| em_nm 1 <| am_cons <| em_nm 2 <| am_cons <| em_nm 3 <| am_nil ⟨sl3, fun r br mr => ?_⟩
  exact hq r tk pl pd _ _ (List.mem_of_getElem? htk) (List.mem_of_getElem? hpl) hp0 hp1 upd_same (lw.upB (Ex.up br))
def spMd (K : PySem.W.Frag) : Spc := fun vs B M Q => ∃ r tk pl pd, vs = [.ref r] ∧ B r = some (.tup [.str tk, .str pl, .int pd]) ∧ tk ∈ takesL ∧ pl ∈ spotsL ∧ 0 ≤ pd ∧ pd ≤ 1000000 ∧ ∀ v B', Ex B B' → RuleAt K B' v tk pl pd → Q v B' M
theorem pr_md (t : Tx K mg) : Pr P w K mg base 52 (ga K "_law_made") [] (spMd K) := by
  refine pr_def t.f_law_made sc_law_made (fun _ _ _ _ _ _ us hl => match us, hl with | [_], _ => rfl) (by rintro _ _ _ _ ⟨r, tk, pl, pd, rfl, _⟩; rfl) ?_
  rintro cdv A outer s0 H E vs B M Q hr ⟨r, tk, pl, pd, rfl, hr0, h1, h2, h3, h4, hq⟩
  refine sm_one <| s1_ret <| em_Rule t (hr.mono (by decide)) <| em_ixT <| em_nm 0 <| em_int ⟨r, _, 0, .str tk, rfl, rfl, SqT.of (jn_b hr0), rfl, em_ixT <| em_nm 0 <| em_int ⟨r, _, 1, .str pl, rfl, rfl, SqT.of (jn_b hr0), rfl, em_ixT <| em_nm 0 <| em_int ⟨r, _, 2, .int pd, rfl, rfl, SqT.of (jn_b hr0), rfl, tk, pl, pd, rfl, rfl, rfl, h1, h2, h3, h4, fun v B' hB hv => hq v B' hB hv⟩⟩⟩
end
end LC
end LcLaw2
section LcNames
set_option maxHeartbeats 4000000
/-! Names: plain facts. -/
namespace LC
open PySem L2
abbrev cs (z : Str) : List Nat := z.cps.toList
theorem cs_app (a b : Str) : cs (a ++ b) = cs a ++ cs b := by
  show (a ++ b).cps.toList = _
  rw [Str.cps_append, Array.toList_append]
theorem cs_len (z : Str) : (cs z).length = z.length := Array.length_toList
theorem cs_inj {a b : Str} (h : cs a = cs b) : a = b := by
  cases a; cases b
  congr 1
  exact Array.toList_inj.mp h
theorem cs_cutU (z : Str) (n : Nat) : cs (cutS z none (some (n : Int))) = (cs z).take n := by
  unfold cutS
  show List.take _ (List.drop _ z.cps.toList) = _
  rw [HT.sIx_none, HT.sIx_nat, List.drop_zero, Nat.sub_zero]
  by_cases h : n ≤ z.length
  · rw [Nat.min_eq_left h]
  · have e := cs_len z
    rw [Nat.min_eq_right (by omega), List.take_of_length_le (by show (cs z).length ≤ _; omega), List.take_of_length_le (by omega)]
theorem cs_cutL (z : Str) (n : Nat) : cs (cutS z (some (n : Int)) none) = (cs z).drop n := by
  unfold cutS
  show List.take _ (List.drop _ z.cps.toList) = _
  rw [HT.sIx_none, HT.sIx_nat]
  have e := cs_len z
  by_cases h : n ≤ z.length
  · rw [Nat.min_eq_left h, List.take_of_length_le (by rw [List.length_drop]; show (cs z).length - n ≤ _; omega)]
  · rw [Nat.min_eq_right (by omega), List.drop_of_length_le (by show (cs z).length ≤ _; omega), List.take_nil, List.drop_of_length_le (by omega)]
theorem cs_join : ∀ ys : List Str, cs (Txt.join Str.empty ys) = (ys.map cs).flatten := fun ys => by
  rw [TL.join_eq]
  induction ys with
  | nil => rfl
  | cons x r ih =>
    cases r with
    | nil => show cs x = cs x ++ []; rw [List.append_nil]
    | cons y r =>
      show cs (x ++ Str.empty ++ Str.join Str.empty (y :: r)) = _
      rw [cs_app, cs_app, ih]
      show cs x ++ [] ++ _ = _
      rw [List.append_nil]; rfl
theorem VName.of {z : Str} (h1 : 1 ≤ (cs z).length) (h2 : (cs z).length ≤ 12) (h3 : ∀ c ∈ cs z, 97 ≤ c ∧ c ≤ 122) : VName z := by
  rw [cs_len] at h1 h2
  refine ⟨h1, h2, fun i c hc => h3 c ?_⟩
  rw [← Array.getElem?_toList] at hc
  exact List.mem_of_getElem? hc
theorem letters_cs : cs "abcdefghijklmnopqrstuvwxyz" = List.range' 97 26 := by decide +kernel
theorem letters_at {i : Nat} (h : i < 26) : atI (cs "abcdefghijklmnopqrstuvwxyz") (i : Int) = some (97 + i) := by
  rw [letters_cs]
  refine at_nat ?_
  rw [List.getElem?_range' h]
  simp
/-- a name: its letters -/
def NmAt (S : List Nat) (w sh lg k : Nat) (z : Str) : Prop := cs z = S.take w ++ (97 + (sh + 7 * k) % 26) :: (S.drop w ++ if k % 3 = lg then [97 + sh] else [])
structure StemOk (S : List Nat) (w sh : Nat) : Prop where
  len : S.length ≤ 10
  w : w ≤ S.length
  ch : ∀ c ∈ S, 97 ≤ c ∧ c ≤ 122
  sh : sh < 26
section
variable {S : List Nat} {w sh lg k i j : Nat} {z y : Str}
theorem NmAt.len (h : NmAt S w sh lg k z) (s : StemOk S w sh) : (cs z).length = S.length + 1 + if k % 3 = lg then 1 else 0 := by
  have := s.w
  rw [h, List.length_append, List.length_cons, List.length_append, List.length_take, List.length_drop, Nat.min_eq_left s.w]
  split <;> simp <;> omega
theorem NmAt.at (h : NmAt S w sh lg k z) (s : StemOk S w sh) : (cs z)[w]? = some (97 + (sh + 7 * k) % 26) := by
  rw [h, List.getElem?_append_right (by rw [List.length_take]; omega), List.length_take, Nat.min_eq_left s.w, Nat.sub_self]; rfl
theorem NmAt.ne (h : NmAt S w sh lg i z) (h' : NmAt S w sh lg j y) (s : StemOk S w sh) (hi : i < 9) (hj : j < 9) (n : i ≠ j) : z ≠ y := fun e => by
  have h1 := h.at s
  have h2 := h'.at s
  rw [e, h2] at h1
  injection h1 with h1
  omega
theorem NmAt.ok (h : NmAt S w sh lg k z) (s : StemOk S w sh) : VName z := by
  have hl := h.len s
  have hs := s.len
  refine VName.of (by omega) (by rw [hl]; split <;> omega) fun c hc => ?_
  have hsh := s.sh
  rw [h] at hc
  rcases List.mem_append.mp hc with hc | hc
  · exact s.ch c (List.mem_of_mem_take hc)
  · rcases List.mem_cons.mp hc with hc | hc
    · omega
    · rcases List.mem_append.mp hc with hc | hc
      · exact s.ch c (List.mem_of_mem_drop hc)
      · split at hc
        · have := List.mem_singleton.mp hc; omega
        · cases hc
end
theorem nodup_set {α : Type} : ∀ {l : List α} {a : α} (i : Nat), l.Nodup → a ∉ l → (l.set i a).Nodup
  | [], _, _, _, _ => by simp
  | x :: l, a, 0, h, n => by
    obtain ⟨_, h2⟩ := List.nodup_cons.mp h
    exact List.nodup_cons.mpr ⟨fun z => n (List.mem_cons_of_mem _ z), h2⟩
  | x :: l, a, i + 1, h, n => by
    obtain ⟨h1, h2⟩ := List.nodup_cons.mp h
    refine List.nodup_cons.mpr ⟨fun z => ?_, nodup_set i h2 fun z => n (List.mem_cons_of_mem _ z)⟩
    rcases List.mem_or_eq_of_mem_set z with z | z
    · exact h1 z
    · exact n (by rw [← z]; exact List.mem_cons_self ..)
/-- all names are right -/
structure NmsOk (ns : List Str) : Prop where
  len : ns.length = 9
  nd : ns.Nodup
  ok : ∀ z ∈ ns, VName z
theorem NmsOk.set {ns : List Str} (h : NmsOk ns) (i : Nat) {z : Str} (hz : z ∉ ns) (hv : VName z) : NmsOk (ns.set i z) :=
  ⟨by rw [List.length_set]; exact h.len, nodup_set i h.nd hz, fun y hy => by
    rcases List.mem_or_eq_of_mem_set hy with hy | hy
    · exact h.ok y hy
    · rw [hy]; exact hv⟩
theorem nms_of {S : List Nat} {w sh lg : Nat} {ns : List Str} (s : StemOk S w sh) (hl : ns.length = 9) (h : ∀ i z, ns[i]? = some z → NmAt S w sh lg i z) : NmsOk ns := by
  refine ⟨hl, ?_, fun z hz => ?_⟩
  · refine List.pairwise_iff_getElem.mpr fun i j hi hj hij => ?_
    exact (h i _ (List.getElem?_eq_getElem hi)).ne (h j _ (List.getElem?_eq_getElem hj)) s (by omega) (by omega) (by omega)
  · obtain ⟨i, hi⟩ := List.mem_iff_getElem?.mp hz
    exact (h i z hi).ok s
theorem nms_one {S : List Nat} {w sh : Nat} {ns : List Str} (s : StemOk S w sh) (hS : S.length < 4) (hl : ns.length = 9) (h : ∀ i z, ns[i]? = some z → NmAt S w sh 3 i z) {z0 : Str} (h0 : ns[0]? = some z0) {c : Nat} (hc : c < 26) : NmsOk (ns.set 1 (z0 ++ ⟨#[97 + c]⟩)) := by
  have n0 := h 0 z0 h0
  have l0 := n0.len s
  rw [if_neg (by omega)] at l0
  have e : cs (z0 ++ ⟨#[97 + c]⟩) = cs z0 ++ [97 + c] := cs_app _ _
  have v0 := n0.ok s
  refine (nms_of s hl h).set 1 (fun hz => ?_) (VName.of ?_ ?_ fun d hd => ?_)
  · obtain ⟨i, hi⟩ := List.mem_iff_getElem?.mp hz
    have li := (h i _ hi).len s
    have hi9 : i < 9 := by rw [← hl]; exact (List.getElem?_eq_some_iff.mp hi).1
    rw [if_neg (by omega), e, List.length_append, l0] at li
    simp at li
  · rw [e, List.length_append]; simp
  · rw [e, List.length_append, l0]; simp; omega
  · rw [e] at hd
    rcases List.mem_append.mp hd with hd | hd
    · obtain ⟨i, hi⟩ := List.mem_iff_getElem?.mp hd
      rw [Array.getElem?_toList] at hi
      exact v0.ok i d hi
    · have := List.mem_singleton.mp hd; omega
def wordsL : List Str := ["buy", "sell", "back", "late"]
theorem words_ok : ∀ z ∈ wordsL, VName z := by
  intro z hz
  have h : ∀ z ∈ wordsL, 1 ≤ (cs z).length ∧ (cs z).length ≤ 12 ∧ ∀ c ∈ cs z, 97 ≤ c ∧ c ≤ 122 := by decide +kernel
  obtain ⟨h1, h2, h3⟩ := h z hz
  exact VName.of h1 h2 h3
/-- a text, once or not at all -/
theorem op_strmul {X : Cx} : OpR X (binaryOp .Mult) (fun x y H Q => ∃ (z : Str) (k : Bool), x = .str z ∧ y = .int (if k = true then 1 else 0) ∧ Q (.str (if k = true then z else Str.empty)) H) := by
  rintro pins s σ H x y v u Q I rx ry ⟨z, k, rfl, rfl, q⟩
  obtain ⟨t, rfl⟩ := rx
  obtain ⟨t', rfl⟩ := ry
  cases k with
  | true =>
    refine PySem.P.mul_str (by decide) (fun _ h => absurd h (by simp)) (fun _ h => absurd h (by simp)) ?_
    rw [if_neg (by decide), if_pos (by rfl)]
    exact ⟨.str z, H, I, ⟨t, rfl⟩, q⟩
  | false =>
    exact PySem.P.mul_str_none (by decide) (by decide) ⟨.str Str.empty, H, I.tok _, ⟨_, rfl⟩, q⟩
end LC
end LcNames
section LcLaw3
set_option maxHeartbeats 4000000
/-! Names: the walk. -/
namespace LC
open PySem L2
open He (ga ma)
open He5 (wf)
theorem em_join {X : Cx} {o e : Expr} {σ : St} {B M : Hp} {P : V → Hp → Hp → Prop} {pos apos : Pos} (h : EM X o σ B M fun x B1 M1 => ∃ a, x = .str a ∧ EM X e σ B1 M1 fun y B2 M2 => ∃ p, ∃ ys : List Str, y = .ref p ∧ SqL X.K (jn B2 M2) p (ys.map V.str) ∧ (ys.map (·.length)).sum + ys.length * a.length ≤ 16777216 ∧ P (.str (Txt.join a ys)) B2 M2)
    (hs : starEach [e] X.env = [(false, eval e X.env)] := by rfl) (hbase : attributeBase o "join" X.env (eval o X.env) = eval o X.env := by rfl) (hline : (apos.endLine == pos.line) = true := by rfl) : EM X (.Call (.Attribute o "join" apos) [e] [] pos) σ B M P :=
  em_of (pe_join pe_w pe_w hs hbase hline) fun H w Q k => h H w _ fun x B1 M1 H1 g ⟨a, hx, q⟩ => ⟨⟨a, hx⟩, q H1 g.own _ fun y B2 M2 H2 g2 ⟨p, ys, hy, hp, hz, hP⟩ => ⟨a, p, ys, hx, by rw [hy], .inl (sql_up g2.own.jn hp), hz, k _ _ _ _ (g.tr g2) hP⟩⟩
theorem om_strmul {B M : Hp} {P : V → Hp → Hp → Prop} {z : Str} {k : Bool} (h : P (.str (if k = true then z else Str.empty)) B M) : OM (fun x y H Q => ∃ (z : Str) (k : Bool), x = .str z ∧ y = .int (if k = true then 1 else 0) ∧ Q (.str (if k = true then z else Str.empty)) H) (.str z) (.int (if k = true then 1 else 0)) B M P := fun H w Q kq => ⟨z, k, rfl, rfl, kq _ _ _ _ (Gs.id' w) h⟩
/-- a text of one letter -/
def One1 (y : Str) : Prop := ∃ c : Nat, cs y = [c] ∧ 97 ≤ c ∧ c ≤ 122
theorem ones_sum : ∀ {ys : List Str}, (∀ y ∈ ys, One1 y) → (ys.map (·.length)).sum = ys.length ∧ ((ys.map cs).flatten).length = ys.length ∧ ∀ c ∈ (ys.map cs).flatten, 97 ≤ c ∧ c ≤ 122
  | [], _ => ⟨rfl, rfl, fun c h => absurd h List.not_mem_nil⟩
  | y :: ys, h => by
    obtain ⟨c, h1, h2, h3⟩ := h y (List.mem_cons_self ..)
    obtain ⟨i1, i2, i3⟩ := ones_sum (ys := ys) fun z hz => h z (List.mem_cons_of_mem _ hz)
    have e := cs_len y
    rw [h1] at e
    simp only [List.length_singleton] at e
    refine ⟨?_, ?_, fun d hd => ?_⟩
    · rw [List.map_cons, List.sum_cons, i1, List.length_cons]; omega
    · rw [List.map_cons, List.flatten_cons, List.length_append, i2, h1, List.length_cons]; simp; omega
    · rw [List.map_cons, List.flatten_cons, h1] at hd
      rcases List.mem_append.mp hd with hd | hd
      · rw [List.mem_singleton.mp hd]; exact ⟨h2, h3⟩
      · exact i3 d hd
section
variable {P : Program} {w : World} {K : PySem.W.Frag} {mg : Str → Option Value} {base : Heap}
def spNms : Spc := fun vs B M Q => ∃ g wl, vs = [.ref g, .int 9, .ref wl] ∧ BagAt B M g ∧ B wl = some (.lst (wordsL.map V.str)) ∧ ∀ r B' M' ns, NmsOk ns → B' r = some (.lst (ns.map V.str)) → Lw g B M B' M' → Q (.ref r) B' M'
abbrev LT : Str := "abcdefghijklmnopqrstuvwxyz"
theorem lt_size' : LT.length ≤ sizeLine := by decide +kernel
theorem pr_nms (t : Tx K mg) {k : Nat} : Pr P w K mg base (k + 2) (ga K "_law_names") [] spNms := by
  refine pr_def t.f_law_names sc_law_names (fun _ _ _ _ _ _ us hl => match us, hl with | [_, _, _], _ => rfl) (by rintro _ _ _ _ ⟨g, wl, rfl, _⟩; rfl) ?_
  rintro cdv A outer s0 H E vs B M Q hr ⟨g, wl, rfl, hb, hwl, hq⟩
  have hr1 := hr.mono (show 1 ≤ k + 1 by omega)
  refine sm_cons <| s1_set 3 sc_law_names.nd <| em_str ?_
  refine sm_cons <| s1_set 4 sc_law_names.nd <| em_ixL <| em_lstB <| am_cons <| em_int <| am_cons <| em_int <| am_cons <| em_int <| am_cons <| em_int <| am_cons <| em_int <| am_nil ⟨le_size (by show 5 < 1000; decide), fun d1 bd1 md1 => em_draw t hr1 <| em_nm 0 <| em_int ⟨g, 5, rfl, rfl, hb.up (Ex.up bd1) rfl, by decide, by decide, fun r1 B1 M1 hr1' lw1 ho1 => ?_⟩⟩
  have hd1 : B1 d1 = some (.lst [.int 0, .int 1, .int 2, .int 3, .int 10]) := lw1.b _ _ upd_same
  obtain ⟨sz, hsz, hsz10⟩ : ∃ sz : Nat, ([.int 0, .int 1, .int 2, .int 3, .int 10] : List V)[r1]? = some (.int (sz : Nat)) ∧ sz ≤ 10 := by
    match r1, hr1' with
    | 0, _ => exact ⟨0, rfl, by decide⟩
    | 1, _ => exact ⟨1, rfl, by decide⟩
    | 2, _ => exact ⟨2, rfl, by decide⟩
    | 3, _ => exact ⟨3, rfl, by decide⟩
    | 4, _ => exact ⟨10, rfl, by decide⟩
  refine ⟨d1, _, r1, .int sz, rfl, rfl, SqL.of (jn_b hd1), at_nat hsz, ?_⟩
  have l1 : Lw g B M B1 M1 := ⟨(Ex.up bd1).tr lw1.b, lw1.bag, lw1.oth, lw1.nt⟩
  -- the stem
  refine sm_cons <| s1_set 5 sc_law_names.nd <| em_join <| em_str ⟨_, rfl, Emt.own' ?_⟩
  refine em_lcr rfl sc_law_names.nd (blk_ok (N := n_law_names) (sc := defScope s_law_names) [("_law_k", 10)] (by decide +kernel)) t.u_range <| em_nm 4 ⟨sz, rfl, by omega, fun D bD mD => ?_⟩
  have ngD : D ≠ g := fun e => by
    obtain ⟨l, ns, i, b, m, c, h1, _⟩ := l1.bag
    rw [e, h1] at mD; cases mD
  refine ⟨fun i acc B' M' => ∃ ys : List Str, acc = ys.map V.str ∧ ys.length = i ∧ (∀ y ∈ ys, One1 y) ∧ M' D = some (.lst acc) ∧ Ex B1 B' ∧ BagAt B' M' g ∧ (∀ q, q ≠ g → M1 q ≠ none → M' q = M1 q) ∧ (NoTup M1 → NoTup M'), ?_, ?_, ?_⟩
  · exact ⟨[], rfl, rfl, fun y h => absurd h List.not_mem_nil, upd_same, Ex.id', l1.bag.up Ex.id' (upd_ne ngD.symm), fun q hq hm => upd_ne fun e => hm (by rw [e]; exact mD), fun nt => nt.upd fun _ e => by cases e⟩
  · rintro i acc B' M' hi _ ⟨ys, rfl, hyl, hys, hD, hB, hbg, hoth, hnt⟩
    refine bg_of fun s2 H2 C2 cl2 fp2 => gm_name 10 sc_law_names.nd ⟨rfl, bt_nil (ift rfl (be_of fun s3 H3 C3 cl3 fp3 => ?_))⟩
    refine em_ixS <| em_nm 3 <| em_draw t hr1 <| em_nm 0 <| em_int ⟨g, 26, rfl, rfl, hbg, by decide, by decide, fun r2 B2 M2 hr2 lw2 ho2 => ?_⟩
    refine ⟨LT, r2, 97 + r2, rfl, rfl, lt_size', letters_at hr2, ?_⟩
    have hD2 : M2 D = some (.lst (ys.map V.str)) := (ho2 D ngD).trans hD
    refine ⟨hD2, lt_size (by rw [List.length_map]; omega), ys ++ [⟨#[97 + r2]⟩], by rw [List.map_append]; rfl, by rw [List.length_append, hyl]; rfl, fun y hy => ?_, upd_same, hB.tr lw2.b, lw2.bag.up Ex.id' (upd_ne ngD.symm), fun q hq hm => ?_, fun nt => (lw2.nt (hnt nt)).upd fun _ e => by cases e⟩
    · rcases List.mem_append.mp hy with hy | hy
      · exact hys y hy
      · rw [List.mem_singleton.mp hy]; exact ⟨97 + r2, rfl, by omega, by omega⟩
    · rw [upd_ne (fun e => hm (by rw [e]; exact mD)), ho2 q hq]; exact hoth q hq hm
  rintro acc B2 M2 hB2 ⟨ys, rfl, hyl, hys, hD, hB12, hbg2, hoth2, hnt2⟩
  obtain ⟨i1, i2, i3⟩ := ones_sum hys
  intro own2
  refine ⟨D, ys, rfl, SqL.of (jn_m hD (own2 _ _ hD)), by rw [i1]; show ys.length + ys.length * 0 ≤ _; omega, ?_⟩
  obtain ⟨S, hS⟩ : ∃ S, S = Txt.join Str.empty ys := ⟨_, rfl⟩
  have e0 : (Str.ofString "") = Str.empty := by decide +kernel
  rw [e0, ← hS]
  have hSc : cs S = (ys.map cs).flatten := by rw [hS, cs_join]
  have hSl : (cs S).length = sz := by rw [hSc, i2, hyl]
  have hSz : S.length = sz := by rw [← cs_len]; exact hSl
  have hSs : S.length ≤ sizeLine := le_size (by omega)
  have l2 : Lw g B1 M1 B2 M2 := ⟨hB12, hbg2, hoth2, hnt2⟩
  refine sm_cons <| s1_set 6 sc_law_names.nd <| em_draw t hr1 <| em_nm 0 <| em_op op_add <| em_nm 4 <| em_int <| om_I0 ⟨g, sz + 1, rfl, rfl, hbg2, by omega, by omega, fun w B3 M3 hw lw3 _ => ?_⟩
  refine sm_cons <| s1_set 7 sc_law_names.nd <| em_draw t hr1 <| em_nm 0 <| em_int ⟨g, 26, rfl, rfl, lw3.bag, by decide, by decide, fun sh B4 M4 hsh lw4 _ => ?_⟩
  refine sm_cons <| s1_set 8 sc_law_names.nd <| em_draw t hr1 <| em_nm 0 <| em_int ⟨g, 4, rfl, rfl, lw4.bag, by decide, by decide, fun lg B5 M5 hlg lw5 _ => ?_⟩
  have so : StemOk (cs S) w sh := ⟨by omega, by omega, fun c hc => i3 c (by rw [← hSc]; exact hc), hsh⟩
  have l5 := (((l1.tr l2).tr lw3).tr lw4).tr lw5
  clear l1 l2 lw1 lw3 lw4 lw5 ho1 hoth2 hnt2 hbg2 hd1 hB12 hB2 hD own2
  refine sm_cons <| s1_set 9 sc_law_names.nd <| em_lst <| am_nil ⟨sl0, fun f1 bf mf => ?_⟩
  obtain ⟨lb, nb, ib, bb, mb, cb, hM5, hBb⟩ := id l5.bag
  have ngf : f1 ≠ g := fun e => by rw [e, hM5] at mf; cases mf
  have fr0 : ∀ {M' : Hp} {xs : List V}, (∀ q, q ≠ g → M5 q ≠ none → M' q = M5 q) → ∀ q, q ≠ g → M5 q ≠ none → (upd M' f1 (.lst xs)) q = M5 q := fun h q hq hm => by
    rw [upd_ne (fun e => hm (by rw [e]; exact mf))]; exact h q hq hm
  have mm : ∀ {i : Int} {j : Int}, -(2 ^ 64) < j → j < 2 ^ 64 → CMul i j := fun h1 h2 => .inr ⟨h1, h2⟩
  refine sm_cons <| s1_forR PassesOwn.never rfl t.u_range <| em_nm 1 ⟨9, rfl, by decide,
    fun i σ B' M' => ∃ o10 o11, ∃ ns : List Str, σ = [some (.ref g), some (.int 9), some (.ref wl), some (.str LT), some (.int sz), some (.str S), some (.int w), some (.int sh), some (.int lg), some (.ref f1), o10, o11, none, none] ∧ M' f1 = some (.lst (ns.map V.str)) ∧ ns.length = i ∧ (∀ j z, ns[j]? = some z → NmAt (cs S) w sh lg j z) ∧ Ex B5 B' ∧ BagAt B' M' g ∧ (∀ q, q ≠ g → M5 q ≠ none → M' q = M5 q) ∧ (NoTup M5 → NoTup M'), ?_, ?_, ?_⟩
  · exact ⟨_, _, [], rfl, upd_same, rfl, fun j z h => by simp at h, Ex.id', l5.bag.up Ex.id' (upd_ne ngf.symm), fr0 fun _ _ _ => rfl, fun nt => nt.upd fun _ e => by cases e⟩
  · rintro i σ B' M' hi _ ⟨o10, o11, ns, rfl, hf, hnl, hns, hB, hbg, hoth, hnt⟩
    have em : ((sh : Int) + 7 * (i : Int)) % 26 = (((sh + 7 * i) % 26 : Nat) : Int) := by omega
    refine gm_name 10 sc_law_names.nd <| sm_cons <| s1_set 11 sc_law_names.nd <| em_op op_add_str <| em_op op_add_str <| em_slSU <| em_nm 5 <| em_nm 6 ⟨S, w, rfl, rfl, hSs, em_ixS <| em_nm 3 <| em_op op_mod <| em_intI t.u_int <| em_op op_add <| em_nm 7 <| em_op op_mul <| em_int <| em_nm 10 <| om_I (.inl ⟨by decide, by decide⟩) <| om_I0 ⟨_, rfl, em_int <| om_I (by decide) ⟨LT, _, 97 + (sh + 7 * i) % 26, rfl, congrArg V.int em, lt_size', letters_at (Nat.mod_lt _ (by decide)), om_cats ?_ <| em_slSL <| em_nm 5 <| em_nm 6 ⟨S, w, rfl, rfl, hSs, om_cats ?_ ?_⟩⟩⟩⟩
    · have := cs_len (cutS S none (some (w : Int)))
      rw [cs_cutU, List.length_take] at this
      exact le_size (by rw [← this]; show _ + 1 < 1000; omega)
    · have h1 := cs_len (cutS S none (some (w : Int)) ++ ⟨#[97 + (sh + 7 * i) % 26]⟩)
      have h2 := cs_len (cutS S (some (w : Int)) none)
      rw [cs_app, List.length_append, cs_cutU, List.length_take] at h1
      rw [cs_cutL, List.length_drop] at h2
      exact le_size (by rw [← h1, ← h2]; show _ + 1 + _ < 1000; omega)
    obtain ⟨z, hz⟩ : ∃ z, z = cutS S none (some (w : Int)) ++ ⟨#[97 + (sh + 7 * i) % 26]⟩ ++ cutS S (some (w : Int)) none := ⟨_, rfl⟩
    rw [← hz]
    have hzc : cs z = (cs S).take w ++ (97 + (sh + 7 * i) % 26) :: (cs S).drop w := by
      rw [hz, cs_app, cs_app, cs_cutU, cs_cutL, List.append_assoc]; rfl
    have hzl : z.length ≤ 100 := by
      rw [← cs_len, hzc, List.length_append, List.length_cons, List.length_take, List.length_drop]; omega
    refine sm_own fun own => sm_one <| s1_expr <| em_append <| em_nm 9 ⟨f1, _, rfl, hf, own _ _ hf, em_op op_add_str <| em_nm 11 <| em_op op_strmul <| em_ixS <| em_nm 3 <| em_nm 7 ⟨LT, sh, 97 + sh, rfl, rfl, lt_size', letters_at hsh, em_intB t.u_int <| em_cmp op_eq <| em_op op_mod <| em_intI t.u_int <| em_nm 10 ⟨i, rfl, em_int <| om_I (by decide) <| em_nm 8 <| om_eq rfl ⟨_, rfl, om_strmul <| om_cats ?_ ⟨_, hf, lt_size (by rw [List.length_map]; omega), ?_⟩⟩⟩⟩⟩
    · show z.length + (if _ then (⟨#[97 + sh]⟩ : Str) else Str.empty).length ≤ _
      split
      · exact le_size (by show z.length + 1 < 1000; omega)
      · exact le_size (by show z.length + 0 < 1000; omega)
    have e3 : ((i : Int) % 3) = ((i % 3 : Nat) : Int) := by omega
    obtain ⟨z2, hz2⟩ : ∃ z2 : Str, z2 = z ++ (if decide (V.int ((i : Int) % 3) = V.int (lg : Int)) = true then (⟨#[97 + sh]⟩ : Str) else Str.empty) := ⟨_, rfl⟩
    have hn2 : NmAt (cs S) w sh lg i z2 := by
      unfold NmAt
      rw [hz2, cs_app, hzc, List.append_assoc, List.cons_append]
      by_cases h : i % 3 = lg
      · rw [if_pos h, if_pos (decide_eq_true (by rw [e3, h]))]
      · rw [if_neg h, if_neg (by rw [decide_eq_false (by rw [e3]; intro z; injection z with z; omega)]; decide)]; rfl
    refine ⟨_, _, ns ++ [z2], rfl, ?_, by rw [List.length_append, hnl]; rfl, fun j y hj => ?_, hB, hbg.up Ex.id' (upd_ne ngf.symm), fr0 hoth, fun nt => (hnt nt).upd fun _ e => by cases e⟩
    · rw [upd_same, List.map_append, hz2]; rfl
    · by_cases h : j < ns.length
      · rw [List.getElem?_append_left h] at hj; exact hns j y hj
      · rw [List.getElem?_append_right (by omega)] at hj
        have hj0 : j - ns.length = 0 := by
          cases q : j - ns.length with
          | zero => rfl
          | succ m => rw [q] at hj; simp at hj
        rw [hj0] at hj
        simp at hj
        have : j = i := by omega
        subst this hj
        exact hn2
  rintro σ B' M' _ ⟨o10, o11, ns, rfl, hf, hnl, hns, hB, hbg, hoth, hnt⟩
  have ok0 := nms_of so hnl hns
  -- one name like another
  refine sm_cons (EmS.imp (fun σ' B6 M6 => ∃ ns', σ' = [some (.ref g), some (.int 9), some (.ref wl), some (.str LT), some (.int sz), some (.str S), some (.int w), some (.int sh), some (.int lg), some (.ref f1), o10, o11, none, none] ∧ M6 f1 = some (.lst (ns'.map V.str)) ∧ NmsOk ns' ∧ Ex B' B6 ∧ BagAt B6 M6 g ∧ (∀ q, q ≠ g → M5 q ≠ none → M6 q = M5 q) ∧ (NoTup M5 → NoTup M6)) ?_ fun σ' B6 M6 hB6 ⟨ns', eσ, hf6, ok6, _, hbg6, hoth6, hnt6⟩ => ?_)
  · have skip : ∃ ns' : List Str, [some (V.ref g), some (.int 9), some (.ref wl), some (.str LT), some (.int sz), some (.str S), some (.int w), some (.int sh), some (.int lg), some (.ref f1), o10, o11, none, none] = [some (.ref g), some (.int 9), some (.ref wl), some (.str LT), some (.int sz), some (.str S), some (.int w), some (.int sh), some (.int lg), some (.ref f1), o10, o11, none, none] ∧ M' f1 = some (.lst (ns'.map V.str)) ∧ NmsOk ns' ∧ Ex B' B' ∧ BagAt B' M' g ∧ (∀ q, q ≠ g → M5 q ≠ none → M' q = M5 q) ∧ (NoTup M5 → NoTup M') := ⟨ns, rfl, hf, ok0, Ex.id', hbg, hoth, hnt⟩
    refine s1_if <| tm_w <| wm_and <| tm_cmp op_gt <| em_nm 1 <| em_int <| om_I0 ⟨_, rfl, ift rfl <| wm_and <| tm_cmp op_lt <| em_nm 4 <| em_int <| om_I0 ⟨_, rfl, ?_⟩⟩
    by_cases h4 : sz < 4
    · refine ift (dt (by show (sz : Int) < 4; omega)) <| wm_and1 <| tm_cmp op_eq <| em_nm 8 <| em_int <| om_eq rfl ⟨_, rfl, ?_⟩
      by_cases h3 : lg = 3
      · refine ift (dt (by rw [h3]; rfl)) ?_
        subst h3
        obtain ⟨z0, hz0⟩ : ∃ z0, ns[0]? = some z0 := ⟨ns[0]'(by omega), List.getElem?_eq_getElem (by omega)⟩
        have hz0' : (ns.map V.str)[0]? = some (.str z0) := by rw [List.getElem?_map, hz0]; rfl
        have z0l : z0.length ≤ 12 := (ok0.ok z0 (List.mem_of_getElem? hz0)).hi
        refine sm_one <| s1_lput <| em_op op_add_str <| em_ixLM <| em_nm 9 <| em_int ⟨f1, _, 0, .str z0, rfl, rfl, hf, at_nat (i := 0) hz0', em_ixS <| em_nm 3 <| em_draw t hr1 <| em_nm 0 <| em_int ⟨g, 26, rfl, rfl, hbg, by decide, by decide, fun c B7 M7 hc lw7 ho7 => ⟨LT, c, 97 + c, rfl, rfl, lt_size', letters_at hc, om_cats (le_size (by show z0.length + 1 < 1000; omega)) <| em_nm 9 <| em_int ⟨f1, _, 1, 1, rfl, rfl, (ho7 f1 ngf).trans hf, ?_, ns.set 1 (z0 ++ ⟨#[97 + c]⟩), rfl, ?_, nms_one so (by omega) hnl hns hz0 hc, lw7.b, lw7.bag.up Ex.id' (upd_ne ngf.symm), fr0 (fun q hq hm => (ho7 q hq).trans (hoth q hq hm)), fun nt => (lw7.nt (hnt nt)).upd fun _ e => by cases e⟩⟩⟩⟩
        · rw [List.length_map, hnl]; rfl
        · rw [upd_same, List.map_set]
      · exact iff' (df (by show ¬ V.int (lg : Int) = V.int 3; intro z; injection z with z; omega)) (sm_nil skip)
    · exact iff' (df (by show ¬ (sz : Int) < 4; omega)) (iff' rfl (sm_nil skip))
  subst eσ
  refine sm_cons <| s1_set 12 sc_law_names.nd <| em_draw t hr1 <| em_nm 0 <| em_op op_mul <| em_int <| em_nm 1 <| om_I (.inl ⟨by decide, by decide⟩) ⟨g, 36, rfl, rfl, hbg6, by decide, by decide, fun spot B7 M7 hspot lw7 ho7 => ?_⟩
  have hB07 : Ex B B7 := ((l5.b.tr hB).tr hB6).tr lw7.b
  refine sm_cons <| s1_set 13 sc_law_names.nd <| em_ixL <| em_nm 2 <| em_draw t hr1 <| em_nm 0 <| em_len t.u_len <| em_nm 2 ⟨wl, _, rfl, .inl (SqL.of (jn_b (hB07 _ _ hwl))), g, 4, rfl, rfl, lw7.bag, by decide, by decide, fun r8 B8 M8 hr8 lw8 ho8 => ?_⟩
  obtain ⟨wd, hwd⟩ : ∃ wd, wordsL[r8]? = some wd := ⟨wordsL[r8]'hr8, List.getElem?_eq_getElem hr8⟩
  have hwd' : (wordsL.map V.str)[r8]? = some (.str wd) := by rw [List.getElem?_map, hwd]; rfl
  refine ⟨wl, _, r8, .str wd, rfl, rfl, SqL.of (jn_b (lw8.b _ _ (hB07 _ _ hwl))), at_nat hwd', ?_⟩
  have hf8 : M8 f1 = some (.lst (ns'.map V.str)) := ((ho8 f1 ngf).trans (ho7 f1 ngf)).trans hf6
  have hoth8 : ∀ q, q ≠ g → M5 q ≠ none → M8 q = M5 q := fun q hq hm => ((ho8 q hq).trans (ho7 q hq)).trans (hoth6 q hq hm)
  have hnt8 : NoTup M5 → NoTup M8 := fun nt => lw8.nt (lw7.nt (hnt6 nt))
  have hB58 : Ex B5 B8 := ((hB.tr hB6).tr lw7.b).tr lw8.b
  refine sm_cons (EmS.imp (fun σ' B9 M9 => ∃ o12 o13 ns9, σ' = [some (.ref g), some (.int 9), some (.ref wl), some (.str LT), some (.int sz), some (.str S), some (.int w), some (.int sh), some (.int lg), some (.ref f1), o10, o11, o12, o13] ∧ M9 f1 = some (.lst (ns9.map V.str)) ∧ NmsOk ns9 ∧ Ex B8 B9 ∧ BagAt B9 M9 g ∧ (∀ q, q ≠ g → M5 q ≠ none → M9 q = M5 q) ∧ (NoTup M5 → NoTup M9)) ?_ fun σ' B9 M9 hB9 ⟨o12, o13, ns9, eσ, hf9, ok9, _, hbg9, hoth9, hnt9⟩ => ?_)
  · refine s1_if <| tm_w <| wm_and <| tm_cmp op_lt <| em_nm 12 <| em_nm 1 <| om_I0 ⟨_, rfl, ?_⟩
    by_cases h9 : spot < 9
    · refine ift (dt (by show (spot : Int) < 9; omega)) <| wm_and1 <| tm_cmp op_notIn_seq <| em_nm 13 <| Emt.own' <| em_nm 9 fun own => om_in ⟨f1, _, rfl, .inl (SqL.of (jn_m hf8 (own _ _ hf8))), rfl, flat_strs _, _, rfl, ?_⟩
      by_cases hin : wd ∈ ns'
      · exact iff' (by show (!inV (V.str wd) (ns'.map V.str)) = false; rw [inV_str, dt hin]; rfl) (sm_nil ⟨_, _, ns', rfl, hf8, ok6, Ex.id', lw8.bag, hoth8, hnt8⟩)
      · refine ift (by show (!inV (V.str wd) (ns'.map V.str)) = true; rw [inV_str, df hin]; rfl) <| sm_one <| s1_lput <| em_nm 13 <| em_nm 9 <| em_nm 12 ⟨f1, _, spot, spot, rfl, rfl, hf8, ix_nat (by rw [List.length_map, ok6.len]; exact h9), _, _, ns'.set spot wd, rfl, ?_, ok6.set spot hin (words_ok wd (List.mem_of_getElem? hwd)), Ex.id', lw8.bag.up Ex.id' (upd_ne ngf.symm), fr0 hoth8, fun nt => (hnt8 nt).upd fun _ e => by cases e⟩
        rw [upd_same, List.map_set]; rfl
    · exact iff' (df (by show ¬ (spot : Int) < 9; omega)) (iff' rfl (sm_nil ⟨_, _, ns', rfl, hf8, ok6, Ex.id', lw8.bag, hoth8, hnt8⟩))
  subst eσ
  refine sm_one <| s1_ret <| Emt.fzN <| em_nm 9 ⟨f1, _, hf9, fun hn => ?_⟩
  refine hq f1 _ _ ns9 ok9 upd_same (l5.tr ⟨(hB58.tr hB9).tr (Ex.up hn), hbg9.up (Ex.up hn) (del_ne ngf.symm), fun q hq' hm => ?_, fun nt => (hnt9 nt).del⟩)
  rw [del_ne (fun e => hm (by rw [e]; exact mf))]
  exact hoth9 q hq' hm
end
end LC
end LcLaw3
section LcLaw4
set_option maxHeartbeats 4000000
/-! The entries: plain facts; next. -/
namespace LC
open PySem L2
open He (ga ma)
open He5 (wf)
def En3At (B : Hp) (v : V) (e : Pl × Ent) : Prop := ∃ q r, v = .ref q ∧ B q = some (.tup [.int e.1.1, .int e.1.2, .ref r]) ∧ EntAt B (.ref r) e.2
theorem En3At.up {B B' : Hp} {v : V} {e : Pl × Ent} (h : En3At B v e) (x : Ex B B') : En3At B' v e := let ⟨q, r, h1, h2, h3⟩ := h; ⟨q, r, h1, x _ _ h2, h3.up x⟩
theorem en3s_up {B B' : Hp} {ys : List V} {es : Ens} (h : Paired (En3At B) ys es) (x : Ex B B') : Paired (En3At B') ys es := paired_imp (fun _ _ z => z.up x) h
/-! ### compared with no entries -/
def Ent.thD : Ent → PyData
  | .buy _ u => .int u
  | .sell _ u => .int u
  | .back _ u => .int u
  | .late _ l => .str l
def en3D (e : Pl × Ent) : PyData := .tuple [.int e.1.1, .int e.1.2, .tuple [.str e.2.kind, .str e.2.name, e.2.thD]]
theorem kind_sok (e : Ent) : PyData.strOk e.kind = true := by
  cases e
  · exact (by decide +kernel : PyData.strOk ("buy" : Str) = true)
  · exact (by decide +kernel : PyData.strOk ("sell" : Str) = true)
  · exact (by decide +kernel : PyData.strOk ("back" : Str) = true)
  · exact (by decide +kernel : PyData.strOk ("late" : Str) = true)
theorem thD_ok {e : Ent} (h : e.ok) : PyData.canLay0 e.thD = true ∧ PyData.depth e.thD = 0 := by
  cases e with
  | buy n u => exact ⟨by simp only [Ent.thD, PyData.canLay0], by simp only [Ent.thD, PyData.depth]⟩
  | sell n u => exact ⟨by simp only [Ent.thD, PyData.canLay0], by simp only [Ent.thD, PyData.depth]⟩
  | back n u => exact ⟨by simp only [Ent.thD, PyData.canLay0], by simp only [Ent.thD, PyData.depth]⟩
  | late n l => exact ⟨by simp only [Ent.thD, PyData.canLay0]; exact h.2.sok, by simp only [Ent.thD, PyData.depth]⟩
theorem en3_lay {es : Ens} (h : ∀ e ∈ es, e.2.ok) : PyData.canLayAll0 (es.map en3D) = true ∧ PyData.depthAll (es.map en3D) ≤ 2 := by
  induction es with
  | nil => exact ⟨rfl, by show 0 ≤ 2; omega⟩
  | cons e es ih =>
    obtain ⟨h1, h2⟩ := ih fun x hx => h x (List.mem_cons_of_mem _ hx)
    have h3 := h e (List.mem_cons_self ..)
    obtain ⟨h4, h5⟩ := thD_ok h3
    have h6 := (Ent.ok_name h3).sok
    have h7 := kind_sok e.2
    refine ⟨?_, ?_⟩
    · show (PyData.canLay0 (en3D e) && PyData.canLayAll0 (es.map en3D)) = true
      rw [h1]
      simp only [en3D, PyData.canLay0, PyData.canLayAll0, h4, h6, h7, Bool.and_self]
    · show max (PyData.depth (en3D e)) (PyData.depthAll (es.map en3D)) ≤ 2
      have : PyData.depth (en3D e) = 2 := by simp only [en3D, PyData.depth, PyData.depthAll, h5]; rfl
      omega
theorem en3_shaped {es : Ens} (h : ∀ e ∈ es, e.2.ok) : SeqAt.shaped (.list (es.map en3D)) = true := by
  obtain ⟨h1, h2⟩ := en3_lay h
  unfold SeqAt.shaped
  have e1 : PyData.canLay0 (.list (es.map en3D)) = true := by simp only [PyData.canLay0]; exact h1
  have e2 : PyData.depth (.list (es.map en3D)) ≤ 64 := by simp only [PyData.depth]; omega
  rw [e1, decide_eq_true e2]; rfl
theorem th_dp {K : PySem.W.Frag} {H : Hp} (e : Ent) : Dp K H e.thing e.thD := by
  cases e
  · exact .int _
  · exact .int _
  · exact .int _
  · exact .str _
theorem en3_dp {K : PySem.W.Frag} {B M : Hp} : ∀ {ys : List V} {es : Ens}, Paired (En3At B) ys es → DpAll K (jn B M) ys (es.map en3D)
  | _, _, .nil => .nil
  | _, _, .cons ⟨q, r, h1, h2, r', h3, h4⟩ t => by
    subst h1
    cases h3
    exact .cons (.tup (SqT.of (jn_b h2)) (.cons (.int _) (.cons (.int _) (.cons (.tup (SqT.of (jn_b h4)) (.cons (.str _) (.cons (.str _) (.cons (th_dp _) .nil)))) .nil)))) (en3_dp t)
theorem en3_nil (es : Ens) : PyData.eqv (.list (es.map en3D)) (.list []) = decide (es = []) := by
  cases es with
  | nil => rfl
  | cons k ks => rfl
theorem tm_noneE {X : Cx} {a : Expr} {σ : St} {B M : Hp} {pos p : Pos} {PT' : Bool → Hp → Hp → Prop} (hu : X.A.units + 64 < cLine) (h : EM X a σ B M fun x B1 M1 => ∃ l ys es, x = .ref l ∧ M1 l = some (.lst ys) ∧ Paired (En3At B1) ys es ∧ (∀ e ∈ es, e.2.ok) ∧ ∀ B', Ex B1 B' → PT' (decide (es = [])) B' M1) : TM X (.Compare a [.Eq] [.List [] p] pos) σ B M PT' :=
  tm_cmp (op_eqD hu) (h.imp fun x B1 M1 _ ⟨l, ys, es, hx, hl, hp, hv, q⟩ => Emt.own fun own => em_lstB (am_nil ⟨sl0, fun r hr hm => om_eqD (d := .list (es.map en3D)) (e := .list []) (by subst hx; exact .lst (SqL.of (jn_m hl (by rw [upd_ne (fun e => by rw [e, hm] at hl; cases hl)]; exact own _ _ hl))) (en3_dp (en3s_up hp (Ex.up hr)))) (.lst (SqL.of (jn_b upd_same)) .nil) (en3_shaped hv) (by rfl) ⟨_, rfl, by rw [en3_nil]; exact q _ (Ex.up hr)⟩⟩))
theorem tm_someSM {X : Cx} {a : Expr} {σ : St} {B M : Hp} {pos p : Pos} {PT' : Bool → Hp → Hp → Prop} (hu : X.A.units + 64 < cLine) (h : EM X a σ B M fun x B1 M1 => ∃ l, ∃ ks : List Str, x = .ref l ∧ M1 l = some (.lst (ks.map V.str)) ∧ (∀ k ∈ ks, VName k) ∧ ∀ B', Ex B1 B' → PT' (!decide (ks = [])) B' M1) : TM X (.Compare a [.NotEq] [.List [] p] pos) σ B M PT' :=
  tm_cmp (op_neD hu) (h.imp fun x B1 M1 _ ⟨l, ks, hx, hl, hv, q⟩ => Emt.own fun own => em_lstB (am_nil ⟨sl0, fun r hr hm => om_neD (d := .list (ks.map PyData.str)) (e := .list []) (by subst hx; exact .lst (SqL.of (jn_m hl (by rw [upd_ne (fun e => by rw [e, hm] at hl; cases hl)]; exact own _ _ hl))) (strs_dp ks)) (.lst (SqL.of (jn_b upd_same)) .nil) (strs_shaped hv) (by rfl) ⟨_, rfl, by rw [eqv_nil]; exact q _ (Ex.up hr)⟩⟩))
/-! ### the next place -/
structure NextOk (es : Ens) (p : Pl) : Prop where
  first : es = [] → 0 ≤ p.1 ∧ p.1 ≤ 3 ∧ 0 ≤ p.2 ∧ p.2 ≤ 2
  next : ∀ init l, es = init ++ [l] → SrtO.lexB l.1 p = true ∧ p.1 ≤ l.1.1 + 9 ∧ (p.2 ≤ l.1.2 + 2 ∨ p.2 ≤ 2) ∧ (0 ≤ p.2 ∨ l.1.2 < p.2)
section
variable {P : Program} {w : World} {K : PySem.W.Frag} {mg : Str → Option Value} {base : Heap}
def spNx : Spc := fun vs B M Q => ∃ g ge ey es, vs = [.ref g, .ref ge] ∧ BagAt B M g ∧ M ge = some (.lst ey) ∧ ge ≠ g ∧ Paired (En3At B) ey es ∧ (∀ e ∈ es, e.2.ok) ∧ ∀ r B' M' (p : Pl), B' r = some (.tup [.int p.1, .int p.2]) → NextOk es p → Lw g B M B' M' → Oth g M M' → Q (.ref r) B' M'
theorem Oth.tr {g : Addr} {M M1 M2 : Hp} (h : Oth g M M1) (h2 : Oth g M1 M2) : Oth g M M2 := fun q hq => (h2 q hq).trans (h q hq)
theorem pr_nx (t : Tx K mg) {k : Nat} : Pr P w K mg base (k + 2) (ga K "_law_next") [] spNx := by
  refine pr_def t.f_law_next sc_law_next (fun _ _ _ _ _ _ us hl => match us, hl with | [_, _], _ => rfl) (by rintro _ _ _ _ ⟨g, ge, ey, es, rfl, _⟩; rfl) ?_
  rintro cdv A outer s0 H E vs B M Q hr ⟨g, ge, ey, es, rfl, hb, hge, ne, hey, hok, hq⟩
  have hr1 := hr.mono (show 1 ≤ k + 1 by omega)
  refine sm_cons <| s1_if <| tm_noneE (u64 hr) <| em_nm 1 ⟨ge, ey, es, rfl, hge, hey, hok, fun B1 hB1 => ?_⟩
  have l0 : Lw g B M B1 M := (Lw.refl hb).upB hB1
  by_cases hn : es = []
  · refine ift (dt hn) <| sm_one <| s1_ret <| em_tup <| am_cons <| em_draw t hr1 <| em_nm 0 <| em_int ⟨g, 4, rfl, rfl, l0.bag, by decide, by decide, fun r2 B2 M2 hr2 lw2 ho2 => am_cons <| em_draw t hr1 <| em_nm 0 <| em_int ⟨g, 3, rfl, rfl, lw2.bag, by decide, by decide, fun r3 B3 M3 hr3 lw3 ho3 => am_nil ⟨sl2, fun q hq' mq => ?_⟩⟩⟩
    exact hq q _ _ ((r2 : Int), (r3 : Int)) upd_same ⟨fun _ => ⟨by show (0 : Int) ≤ r2; omega, by show (r2 : Int) ≤ 3; omega, by show (0 : Int) ≤ r3; omega, by show (r3 : Int) ≤ 2; omega⟩, fun init l e => by rw [hn] at e; exact absurd (congrArg List.length e) (by simp)⟩ (((l0.tr lw2).tr lw3).upB (Ex.up hq')) (ho2.tr ho3)
  refine iff' (df hn) (sm_nil ?_)
  obtain ⟨init, l, rfl⟩ := last_of hn
  obtain ⟨zs, y, rfl, hzs, hy⟩ := paired_last hey
  have uniq : ∀ init' l', init ++ [l] = init' ++ [l'] → l' = l := fun init' l' e => by
    have := congrArg List.getLast? e
    rw [List.getLast?_concat, List.getLast?_concat] at this
    injection this with this; exact this.symm
  refine sm_cons <| s1_set 2 sc_law_next.nd <| em_ixL <| em_lstB <| am_cons <| em_int <| am_cons <| em_int <| am_cons <| em_int <| am_cons <| em_int <| am_cons <| em_int <| am_cons <| em_int <| am_cons <| em_int <| am_nil ⟨le_size (by show 7 < 1000; decide), fun d1 bd1 md1 => em_draw t hr1 <| em_nm 0 <| em_int ⟨g, 7, rfl, rfl, l0.bag.up (Ex.up bd1) rfl, by decide, by decide, fun r1 B2 M2 hr1' lw2 ho2 => ?_⟩⟩
  have hd1 : B2 d1 = some (.lst [.int 0, .int 0, .int 0, .int 1, .int 1, .int 2, .int 9]) := lw2.b _ _ upd_same
  obtain ⟨st, hst, hst9⟩ : ∃ st : Nat, ([.int 0, .int 0, .int 0, .int 1, .int 1, .int 2, .int 9] : List V)[r1]? = some (.int (st : Nat)) ∧ st ≤ 9 := by
    match r1, hr1' with
    | 0, _ => exact ⟨0, rfl, by decide⟩
    | 1, _ => exact ⟨0, rfl, by decide⟩
    | 2, _ => exact ⟨0, rfl, by decide⟩
    | 3, _ => exact ⟨1, rfl, by decide⟩
    | 4, _ => exact ⟨1, rfl, by decide⟩
    | 5, _ => exact ⟨2, rfl, by decide⟩
    | 6, _ => exact ⟨9, rfl, by decide⟩
  refine ⟨d1, _, r1, .int st, rfl, rfl, SqL.of (jn_b hd1), at_nat hst, ?_⟩
  have l2 : Lw g B M B2 M2 := l0.tr ⟨(Ex.up bd1).tr lw2.b, lw2.bag, lw2.oth, lw2.nt⟩
  have hge2 : M2 ge = some (.lst (zs ++ [y])) := (ho2 ge ne).trans hge
  obtain ⟨qy, ry, rfl, hy1, _⟩ := hy
  have hy2 := l2.b _ _ hy1
  refine sm_cons <| s1_if <| tm_cmp op_eq <| em_nm 2 <| em_int <| om_eq rfl ⟨_, rfl, ?_⟩
  by_cases h0 : st = 0
  · refine ift (dt (by rw [h0]; rfl)) <| sm_one <| s1_ret <| em_tup <| am_cons <| em_ixT <| em_ixLM <| em_nm 1 <| em_un un_neg <| em_int <| om_U ⟨ge, _, -1, .ref qy, rfl, rfl, hge2, at_last _ _, em_int ⟨qy, _, 0, .int l.1.1, rfl, rfl, SqT.of (jn_b hy2), rfl, am_cons <| em_op op_add <| em_op op_add <| em_ixT <| em_ixLM <| em_nm 1 <| em_un un_neg <| em_int <| om_U ⟨ge, _, -1, .ref qy, rfl, rfl, hge2, at_last _ _, em_int ⟨qy, _, 1, .int l.1.2, rfl, rfl, SqT.of (jn_b hy2), rfl, em_int <| om_I0 <| em_draw t hr1 <| em_nm 0 <| em_int ⟨g, 2, rfl, rfl, l2.bag, by decide, by decide, fun r3 B3 M3 hr3 lw3 ho3 => om_I0 <| am_nil ⟨sl2, fun q hq' mq => ?_⟩⟩⟩⟩⟩⟩
    refine hq q _ _ (l.1.1, l.1.2 + 1 + (r3 : Int)) upd_same ⟨fun e => absurd e hn, fun init' l' e => ?_⟩ ((l2.tr lw3).upB (Ex.up hq')) (ho2.tr ho3)
    rw [uniq init' l' e]
    refine ⟨SrtO.lexB_iff.mpr (.inr ⟨rfl, ?_⟩), ?_, .inl ?_, .inr ?_⟩
    · show l.1.2 < l.1.2 + 1 + (r3 : Int); omega
    · show l.1.1 ≤ l.1.1 + 9; omega
    · show l.1.2 + 1 + (r3 : Int) ≤ l.1.2 + 2; omega
    · show l.1.2 < l.1.2 + 1 + (r3 : Int); omega
  · refine iff' (df (by show ¬ V.int (st : Int) = V.int 0; intro z; injection z with z; omega)) (sm_nil ?_)
    refine sm_one <| s1_ret <| em_tup <| am_cons <| em_op op_add <| em_ixT <| em_ixLM <| em_nm 1 <| em_un un_neg <| em_int <| om_U ⟨ge, _, -1, .ref qy, rfl, rfl, hge2, at_last _ _, em_int ⟨qy, _, 0, .int l.1.1, rfl, rfl, SqT.of (jn_b hy2), rfl, em_nm 2 <| om_I0 <| am_cons <| em_draw t hr1 <| em_nm 0 <| em_int ⟨g, 3, rfl, rfl, l2.bag, by decide, by decide, fun r3 B3 M3 hr3 lw3 ho3 => am_nil ⟨sl2, fun q hq' mq => ?_⟩⟩⟩⟩
    refine hq q _ _ (l.1.1 + (st : Int), (r3 : Int)) upd_same ⟨fun e => absurd e hn, fun init' l' e => ?_⟩ ((l2.tr lw3).upB (Ex.up hq')) (ho2.tr ho3)
    rw [uniq init' l' e]
    refine ⟨SrtO.lexB_iff.mpr (.inl ?_), ?_, .inr ?_, .inl ?_⟩
    · show l.1.1 < l.1.1 + (st : Int); omega
    · show l.1.1 + (st : Int) ≤ l.1.1 + 9; omega
    · show (r3 : Int) ≤ 2; omega
    · show (0 : Int) ≤ r3; omega
end
end LC
end LcLaw4
section LcLaw5
set_option maxHeartbeats 4000000
/-! The entries: what holds of them. -/
namespace LC
open PySem L2
theorem fold_lots {n : Str} : ∀ {ws : Ens} {b : Bk}, n ∈ (ws.foldl (fun b e => b.step e.2) b).lots ↔ n ∈ b.lots ∨ ∃ p u, (p, Ent.buy n u) ∈ ws
  | [], b => by simp
  | (q, e) :: ws, b => by
    rw [List.foldl_cons, fold_lots]
    cases e with
    | buy m v =>
      simp only [Bk.step, List.mem_append, List.mem_singleton, List.mem_cons, List.not_mem_nil, or_false, Prod.mk.injEq, Ent.buy.injEq]
      constructor
      · rintro ((h | h) | ⟨p, u, h⟩)
        · exact .inl h
        · exact .inr ⟨q, v, .inl ⟨rfl, h, rfl⟩⟩
        · exact .inr ⟨p, u, .inr h⟩
      · rintro (h | ⟨p, u, ⟨_, h, _⟩ | h⟩)
        · exact .inl (.inl h)
        · exact .inl (.inr h)
        · exact .inr ⟨p, u, h⟩
    | _ => simp [Bk.step]
theorem fold_lates {n : Str} : ∀ {ws : Ens} {b : Bk}, n ∈ (ws.foldl (fun b e => b.step e.2) b).lates ↔ n ∈ b.lates ∨ ∃ p l, (p, Ent.late n l) ∈ ws
  | [], b => by simp
  | (q, e) :: ws, b => by
    rw [List.foldl_cons, fold_lates]
    cases e with
    | late m v =>
      simp only [Bk.step, List.mem_append, List.mem_singleton, List.mem_cons, List.not_mem_nil, or_false, Prod.mk.injEq, Ent.late.injEq]
      constructor
      · rintro ((h | h) | ⟨p, u, h⟩)
        · exact .inl h
        · exact .inr ⟨q, v, .inl ⟨rfl, h, rfl⟩⟩
        · exact .inr ⟨p, u, .inr h⟩
      · rintro (h | ⟨p, u, ⟨_, h, _⟩ | h⟩)
        · exact .inl (.inl h)
        · exact .inl (.inr h)
        · exact .inr ⟨p, u, h⟩
    | _ => simp [Bk.step]
theorem fold_sales {n : Str} : ∀ {ws : Ens} {b : Bk}, n ∈ (ws.foldl (fun b e => b.step e.2) b).sales ↔ n ∈ b.sales ∨ ∃ p u, (p, Ent.sell n u) ∈ ws
  | [], b => by simp
  | (q, e) :: ws, b => by
    rw [List.foldl_cons, fold_sales]
    cases e with
    | sell m v =>
      simp only [Bk.step, List.mem_append, List.mem_singleton, List.mem_cons, List.not_mem_nil, or_false, Prod.mk.injEq, Ent.sell.injEq]
      constructor
      · rintro ((h | h) | ⟨p, u, h⟩)
        · exact .inl h
        · exact .inr ⟨q, v, .inl ⟨rfl, h, rfl⟩⟩
        · exact .inr ⟨p, u, .inr h⟩
      · rintro (h | ⟨p, u, ⟨_, h, _⟩ | h⟩)
        · exact .inl (.inl h)
        · exact .inl (.inr h)
        · exact .inr ⟨p, u, h⟩
    | _ => simp [Bk.step]
theorem run_lots {ws : Ens} {n : Str} : n ∈ (runB ws).lots ↔ ∃ p u, (p, Ent.buy n u) ∈ ws := fold_lots.trans ⟨fun h => h.resolve_left List.not_mem_nil, .inr⟩
theorem run_lates {ws : Ens} {n : Str} : n ∈ (runB ws).lates ↔ ∃ p u, (p, Ent.late n u) ∈ ws := fold_lates.trans ⟨fun h => h.resolve_left List.not_mem_nil, .inr⟩
theorem run_sales {ws : Ens} {n : Str} : n ∈ (runB ws).sales ↔ ∃ p u, (p, Ent.sell n u) ∈ ws := fold_sales.trans ⟨fun h => h.resolve_left List.not_mem_nil, .inr⟩
theorem runB_app {es : Ens} {x : Pl × Ent} : runB (es ++ [x]) = (runB es).step x.2 := by unfold runB; rw [List.foldl_append]; rfl
theorem nd_ix {L : List Str} (nd : L.Nodup) {i j : Nat} {x : Str} (h1 : L[i]? = some x) (h2 : L[j]? = some x) : i = j := (List.getElem?_inj (List.getElem?_eq_some_iff.mp h1).1 nd).mp (h1.trans h2.symm)
theorem mem_take_ix {L : List Str} {k : Nat} {x : Str} (h : x ∈ L.take k) : ∃ j, j < k ∧ L[j]? = some x := by
  obtain ⟨j, hj⟩ := List.mem_iff_getElem?.mp h
  rw [List.getElem?_take] at hj
  split at hj
  · exact ⟨j, by assumption, hj⟩
  · cases hj
theorem mem_drop_ix {L : List Str} {k d : Nat} {x : Str} (h : x ∈ (L.drop d).take k) : ∃ j, d ≤ j ∧ j < d + k ∧ L[j]? = some x := by
  obtain ⟨j, hj, hx⟩ := mem_take_ix h
  rw [List.getElem?_drop] at hx
  exact ⟨d + j, by omega, by omega, hx⟩
structure EsI (nm : List Str) (i : Nat) (es : Ens) (nl nc ns : Nat) : Prop where
  hl : (runB es).lots = nm.take nl
  nl6 : nl ≤ 6
  ht : (runB es).lates = (nm.drop 6).take nc
  nc3 : nc ≤ 3
  hs : (runB es).sales = nm.reverse.take ns
  ns9 : ns ≤ 9
  vd : Vd bk0 es
  s0 : 0 ≤ (runB es).stock
  s1 : (runB es).stock ≤ 1000000 * (i : Int)
  lf : ∀ s ∈ (runB es).sales, 0 ≤ (runB es).left s ∧ (runB es).left s ≤ 1000000
  rise : Rise es
  ok : ∀ e ∈ es, e.2.ok
  len : es.length ≤ i
  pl : ∀ e ∈ es, 0 ≤ e.1.1 ∧ e.1.1 ≤ 3 + 9 * (es.length : Int) ∧ 0 ≤ e.1.2 ∧ e.1.2 ≤ 2 + 2 * (es.length : Int)
  nmk : ∃ ub lo, ∀ e ∈ es, NmOk nm ub lo e.2
section
variable {nm : List Str} {i nl nc ns nl' nc' ns' : Nat} {es : Ens} {p : Pl} {ent : Ent}
theorem EsI.start : EsI nm 0 [] 0 0 0 :=
  ⟨rfl, by omega, rfl, by omega, rfl, by omega, trivial, Int.le_refl _, Int.le_refl _, fun s h => absurd h List.not_mem_nil, List.Pairwise.nil, fun e h => absurd h List.not_mem_nil, Nat.le_refl _, fun e h => absurd h List.not_mem_nil, fun _ => 0, fun x => x, fun e h => absurd h List.not_mem_nil⟩
theorem EsI.skip (h : EsI nm i es nl nc ns) : EsI nm (i + 1) es nl nc ns :=
  ⟨h.hl, h.nl6, h.ht, h.nc3, h.hs, h.ns9, h.vd, h.s0, by have := h.s1; push_cast; omega, h.lf, h.rise, h.ok, by have := h.len; omega, h.pl, h.nmk⟩
theorem EsI.add (h : EsI nm i es nl nc ns) (nx : NextOk es p) (c : (runB es).can ent) (ok : ent.ok) (hl : ((runB es).step ent).lots = nm.take nl') (nl6 : nl' ≤ 6) (ht : ((runB es).step ent).lates = (nm.drop 6).take nc') (nc3 : nc' ≤ 3) (hs : ((runB es).step ent).sales = nm.reverse.take ns') (ns9 : ns' ≤ 9)
    (s0 : 0 ≤ ((runB es).step ent).stock) (s1 : ((runB es).step ent).stock ≤ (runB es).stock + 1000000) (lf : ∀ s ∈ ((runB es).step ent).sales, 0 ≤ ((runB es).step ent).left s ∧ ((runB es).step ent).left s ≤ 1000000) (nmk : ∃ ub lo, (∀ e ∈ es, NmOk nm ub lo e.2) ∧ NmOk nm ub lo ent) : EsI nm (i + 1) (es ++ [(p, ent)]) nl' nc' ns' := by
  have er : runB (es ++ [(p, ent)]) = (runB es).step ent := runB_app
  have hlen := h.len
  obtain ⟨ub, lo, n1, n2⟩ := nmk
  refine ⟨by rw [er]; exact hl, nl6, by rw [er]; exact ht, nc3, by rw [er]; exact hs, ns9, Vd.app.mpr ⟨h.vd, c, trivial⟩, by rw [er]; exact s0, by rw [er]; have := h.s1; push_cast; omega, by rw [er]; exact lf, ?_, ?_, by rw [List.length_append, List.length_singleton]; omega, ?_, ub, lo, ?_⟩
  · show ((es ++ [(p, ent)]).map (·.1)).Pairwise _
    rw [List.map_append]
    refine List.pairwise_append.mpr ⟨h.rise, by simp, fun a ha b hb => ?_⟩
    rw [List.map_singleton, List.mem_singleton] at hb
    subst hb
    have hne : es ≠ [] := fun e => by rw [e] at ha; simp at ha
    obtain ⟨init, l, el⟩ := last_of hne
    have hl1 := (nx.next init l el).1
    rw [el, List.map_append] at ha
    rcases List.mem_append.mp ha with ha | ha
    · have r := h.rise
      rw [Rise, el, List.map_append] at r
      have r1 := (List.pairwise_append.mp r).2.2 a ha l.1 (by simp)
      rw [SrtO.lexB_iff] at r1 hl1 ⊢
      omega
    · rw [List.map_singleton, List.mem_singleton] at ha
      rw [ha]; exact hl1
  · intro e he
    rcases List.mem_append.mp he with he | he
    · exact h.ok e he
    · rw [List.mem_singleton.mp he]; exact ok
  · have e1 : ((es ++ [(p, ent)]).length : Int) = es.length + 1 := by rw [List.length_append, List.length_singleton]; push_cast; rfl
    rw [e1]
    intro e he
    rcases List.mem_append.mp he with he | he
    · have := h.pl e he; omega
    · rw [List.mem_singleton.mp he]
      show 0 ≤ p.1 ∧ p.1 ≤ _ ∧ 0 ≤ p.2 ∧ p.2 ≤ _
      by_cases hne : es = []
      · have := nx.first hne
        rw [hne]; simp; omega
      · obtain ⟨init, l, el⟩ := last_of hne
        obtain ⟨h1, h2, h3, h4⟩ := nx.next init l el
        have h5 := h.pl l (by rw [el]; exact List.mem_append_right _ (List.mem_singleton.mpr rfl))
        have h6 := SrtO.lexB_iff.mp h1
        omega
  · intro e he
    rcases List.mem_append.mp he with he | he
    · exact n1 e he
    · rw [List.mem_singleton.mp he]; exact n2
variable (nok : NmsOk nm)
include nok
theorem take_succ {L : List Str} {k : Nat} {x : Str} (h : L[k]? = some x) : L.take k ++ [x] = L.take (k + 1) := by rw [List.take_add_one, h]; rfl
theorem EsI.buy (h : EsI nm i es nl nc ns) (hn : nl < 6) {n : Str} (hx : nm[nl]? = some n) {u : Nat} (u1 : 1 ≤ u) (u2 : u ≤ 1000000) (nx : NextOk es p) : EsI nm (i + 1) (es ++ [(p, .buy n u)]) (nl + 1) nc ns := by
  have c1 : n ∉ (runB es).lots := fun hm => by
    rw [h.hl] at hm
    obtain ⟨j, hj, hx'⟩ := mem_take_ix hm
    have := nd_ix nok.nd hx hx'; omega
  have c2 : n ∉ (runB es).lates := fun hm => by
    rw [h.ht] at hm
    obtain ⟨j, hj, _, hx'⟩ := mem_drop_ix hm
    have := nd_ix nok.nd hx hx'; omega
  have hmem := List.mem_of_getElem? hx
  have s0 := h.s0
  obtain ⟨ub, lo, hk⟩ := h.nmk
  refine h.add nx ⟨c1, c2⟩ ⟨nok.ok n hmem, u1, u2⟩ (by show (runB es).lots ++ [n] = _; rw [h.hl]; exact take_succ nok hx) hn h.ht h.nc3 h.hs h.ns9 (by show 0 ≤ (runB es).stock + (u : Int); omega) (by show (runB es).stock + (u : Int) ≤ _; omega) h.lf ⟨fun x => if x = n then u else ub x, lo, fun e he => ?_, hmem, if_pos rfl, u1, u2⟩
  have hke := hk e he
  obtain ⟨q, e⟩ := e
  cases e with
  | buy m v =>
    have ne : m ≠ n := fun e => c1 (by rw [← e]; exact run_lots.mpr ⟨q, v, he⟩)
    exact ⟨hke.1, by show (if m = n then u else ub m) = v; rw [if_neg ne]; exact hke.2.1, hke.2.2⟩
  | sell m v => exact hke
  | back m v => exact hke
  | late m v => exact hke
theorem EsI.sell (h : EsI nm i es nl nc ns) (hn : ns < 9) {s : Str} (hx : nm.reverse[ns]? = some s) {u : Nat} (u1 : 1 ≤ u) (u2 : u ≤ 1000000) (u3 : (u : Int) ≤ (runB es).stock) (nx : NextOk es p) : EsI nm (i + 1) (es ++ [(p, .sell s u)]) nl nc (ns + 1) := by
  have c1 : s ∉ (runB es).sales := fun hm => by
    rw [h.hs] at hm
    obtain ⟨j, hj, hx'⟩ := mem_take_ix hm
    have := nd_ix ((List.reverse_perm nm).nodup_iff.mpr nok.nd) hx hx'; omega
  have hmem := List.mem_reverse.mp (List.mem_of_getElem? hx)
  have s0 := h.s0
  obtain ⟨ub, lo, hk⟩ := h.nmk
  refine h.add nx ⟨c1, u3⟩ ⟨nok.ok s hmem, u1, u2⟩ h.hl h.nl6 h.ht h.nc3 (by show (runB es).sales ++ [s] = _; rw [h.hs]; exact take_succ nok hx) hn (by show 0 ≤ (runB es).stock - (u : Int); omega) (by show (runB es).stock - (u : Int) ≤ _; omega) (fun x hx' => ?_) ⟨ub, lo, hk, u1⟩
  show 0 ≤ (if x = s then (u : Int) else (runB es).left x) ∧ (if x = s then (u : Int) else (runB es).left x) ≤ 1000000
  by_cases e : x = s
  · rw [if_pos e]; omega
  · rw [if_neg e]
    rcases List.mem_append.mp hx' with hx' | hx'
    · exact h.lf x hx'
    · exact absurd (List.mem_singleton.mp hx') e
theorem EsI.back (h : EsI nm i es nl nc ns) {s : Str} (hs : s ∈ (runB es).sales) {u : Nat} (u1 : 1 ≤ u) (u3 : (u : Int) ≤ (runB es).left s) (nx : NextOk es p) : EsI nm (i + 1) (es ++ [(p, .back s u)]) nl nc ns := by
  have hmem : s ∈ nm := by
    have := hs
    rw [h.hs] at this
    exact List.mem_reverse.mp (List.mem_of_mem_take this)
  have hlf := h.lf s hs
  have s0 := h.s0
  obtain ⟨ub, lo, hk⟩ := h.nmk
  refine h.add nx ⟨hs, u3⟩ ⟨nok.ok s hmem, u1, by omega⟩ h.hl h.nl6 h.ht h.nc3 h.hs h.ns9 (by show 0 ≤ (runB es).stock + (u : Int); omega) (by show (runB es).stock + (u : Int) ≤ _; omega) (fun x hx' => ?_) ⟨ub, lo, hk, u1⟩
  show 0 ≤ (if x = s then (runB es).left s - (u : Int) else (runB es).left x) ∧ (if x = s then (runB es).left s - (u : Int) else (runB es).left x) ≤ 1000000
  by_cases e : x = s
  · rw [if_pos e]; omega
  · rw [if_neg e]; exact h.lf x hx'
theorem EsI.late (h : EsI nm i es nl nc ns) (hn : nc < 3) {c l : Str} (hx : nm[6 + nc]? = some c) (hl : l ∈ (runB es).lots) (nx : NextOk es p) : EsI nm (i + 1) (es ++ [(p, .late c l)]) nl (nc + 1) ns := by
  have c1 : c ∉ (runB es).lots := fun hm => by
    rw [h.hl] at hm
    obtain ⟨j, hj, hx'⟩ := mem_take_ix hm
    have := nd_ix nok.nd hx hx'
    have := h.nl6; omega
  have c2 : c ∉ (runB es).lates := fun hm => by
    rw [h.ht] at hm
    obtain ⟨j, hj, hj2, hx'⟩ := mem_drop_ix hm
    have := nd_ix nok.nd hx hx'; omega
  have hmem := List.mem_of_getElem? hx
  have hlm : l ∈ nm := by
    have := hl
    rw [h.hl] at this
    exact List.mem_of_mem_take this
  have s0 := h.s0
  obtain ⟨ub, lo, hk⟩ := h.nmk
  refine h.add nx ⟨c1, c2, hl⟩ ⟨nok.ok c hmem, nok.ok l hlm⟩ h.hl h.nl6 (by show (runB es).lates ++ [c] = _; rw [h.ht]; exact take_succ nok (by rw [List.getElem?_drop]; exact hx)) hn h.hs h.ns9 s0 (by show (runB es).stock ≤ _; omega) h.lf ⟨ub, fun x => if x = c then l else lo x, fun e he => ?_, hmem, if_pos rfl⟩
  have hke := hk e he
  obtain ⟨q, e⟩ := e
  cases e with
  | late m v =>
    have ne : m ≠ c := fun e => c2 (by rw [← e]; exact run_lates.mpr ⟨q, v, he⟩)
    exact ⟨hke.1, by show (if m = c then l else lo m) = v; rw [if_neg ne]; exact hke.2⟩
  | sell m v => exact hke
  | back m v => exact hke
  | buy m v => exact hke
end
end LC
end LcLaw5
section LcLaw6
set_option maxHeartbeats 4000000
/-! The entries: the walk. -/
namespace LC
open PySem L2
open He (ga ma)
open He5 (wf)
/-- the addresses: bag, entries, bought, left -/
structure Eg where
  g : Addr
  ge : Addr
  gb : Addr
  gl : Addr
structure Ed (G : Eg) (M0 : Hp) : Prop where
  eg : G.ge ≠ G.g
  bg : G.gb ≠ G.g
  lg : G.gl ≠ G.g
  be : G.gb ≠ G.ge
  le : G.gl ≠ G.ge
  lb : G.gl ≠ G.gb
  e0 : M0 G.ge = none
  b0 : M0 G.gb = none
  l0 : M0 G.gl = none
structure EnM (nm : List Str) (G : Eg) (B0 M0 B M : Hp) (ey : List V) (es : Ens) (b : Bk) (nl : Nat) : Prop where
  e : M G.ge = some (.lst ey)
  bo : M G.gb = some (.lst ((nm.take nl).map V.str))
  l : ∃ kl, M G.gl = some (.dK kl) ∧ KvR (fun s v _ => v = .int (b.left s)) kl b.sales B
  p : Paired (En3At B) ey es
  x : Ex B0 B
  bag : BagAt B M G.g
  oth : ∀ q, q ≠ G.g → M0 q ≠ none → M q = M0 q
  nt : NoTup M0 → NoTup M
section
variable {nm : List Str} {G : Eg} {B0 M0 B M B' M' : Hp} {ey : List V} {es : Ens} {b b' : Bk} {nl nl' : Nat}
theorem EnM.lw (h : EnM nm G B0 M0 B M ey es b nl) (d : Ed G M0) (l : Lw G.g B M B' M') (o : Oth G.g M M') : EnM nm G B0 M0 B' M' ey es b nl := by
  obtain ⟨kl, h1, h2⟩ := h.l
  exact ⟨(o _ d.eg).trans h.e, (o _ d.bg).trans h.bo, ⟨kl, (o _ d.lg).trans h1, h2.up fun _ _ z => z⟩, en3s_up h.p l.b, h.x.tr l.b, l.bag, fun q hq hm => (o q hq).trans (h.oth q hq hm), fun z => l.nt (h.nt z)⟩
theorem EnM.upB (h : EnM nm G B0 M0 B M ey es b nl) (x : Ex B B') : EnM nm G B0 M0 B' M ey es b nl := by
  obtain ⟨kl, h1, h2⟩ := h.l
  exact ⟨h.e, h.bo, ⟨kl, h1, h2.up fun _ _ z => z⟩, en3s_up h.p x, h.x.tr x, h.bag.up x rfl, h.oth, h.nt⟩
theorem Ed.oth (d : Ed G M0) {q p : Addr} (hp : M0 p = none) (hm : M0 q ≠ none) : q ≠ p := fun e => hm (by rw [e]; exact hp)
theorem EnM.setE (h : EnM nm G B0 M0 B M ey es b nl) (d : Ed G M0) {ey' : List V} {es' : Ens} (hp : Paired (En3At B) ey' es') : EnM nm G B0 M0 B (upd M G.ge (.lst ey')) ey' es' b nl := by
  obtain ⟨kl, h1, h2⟩ := h.l
  exact ⟨upd_same, by rw [upd_ne d.be]; exact h.bo, ⟨kl, by rw [upd_ne d.le]; exact h1, h2⟩, hp, h.x, h.bag.up Ex.id' (upd_ne d.eg.symm), fun q hq hm => by rw [upd_ne (d.oth d.e0 hm)]; exact h.oth q hq hm, fun z => (h.nt z).upd fun _ e => by cases e⟩
theorem EnM.setB (h : EnM nm G B0 M0 B M ey es b nl) (d : Ed G M0) (e1 : b'.sales = b.sales) (e2 : b'.left = b.left) : EnM nm G B0 M0 B (upd M G.gb (.lst ((nm.take nl').map V.str))) ey es b' nl' := by
  obtain ⟨kl, h1, h2⟩ := h.l
  exact ⟨by rw [upd_ne d.be.symm]; exact h.e, upd_same, ⟨kl, by rw [upd_ne d.lb]; exact h1, by rw [e1, e2]; exact h2⟩, h.p, h.x, h.bag.up Ex.id' (upd_ne d.bg.symm), fun q hq hm => by rw [upd_ne (d.oth d.b0 hm)]; exact h.oth q hq hm, fun z => (h.nt z).upd fun _ e => by cases e⟩
theorem EnM.setL (h : EnM nm G B0 M0 B M ey es b nl) (d : Ed G M0) {kl : List (Key × V)} (hk : KvR (fun s v _ => v = .int (b'.left s)) kl b'.sales B) : EnM nm G B0 M0 B (upd M G.gl (.dK kl)) ey es b' nl :=
  ⟨by rw [upd_ne d.le.symm]; exact h.e, by rw [upd_ne d.lb.symm]; exact h.bo, ⟨kl, upd_same, hk⟩, h.p, h.x, h.bag.up Ex.id' (upd_ne d.lg.symm), fun q hq hm => by rw [upd_ne (d.oth d.l0 hm)]; exact h.oth q hq hm, fun z => (h.nt z).upd fun _ e => by cases e⟩
theorem EnM.toB (h : EnM nm G B0 M0 B M ey es b nl) (e1 : b'.sales = b.sales) (e2 : b'.left = b.left) : EnM nm G B0 M0 B M ey es b' nl := by
  obtain ⟨kl, h1, h2⟩ := h.l
  exact ⟨h.e, h.bo, ⟨kl, h1, by rw [e1, e2]; exact h2⟩, h.p, h.x, h.bag, h.oth, h.nt⟩
end
theorem em_lenD {X : Cx} {e : Expr} {σ : St} {B M : Hp} {P : V → Hp → Hp → Prop} {pos p : Pos} (hm : X.mg "len" = none) (h : EM X e σ B M fun v B1 M1 => ∃ q kvs, v = .ref q ∧ M1 q = some (.dK kvs) ∧ P (.int kvs.length) B1 M1) (hg : Gl X "len" := by rfl)
    (he : starEach [e] X.env = (false, eval e X.env) :: starEach [] X.env := by rfl) : EM X (.Call (.Name "len" p) [e] [] pos) σ B M P :=
  em_cb call_lenD hm boot_len (am_cons (Emt.own' (h.imp fun v B1 M1 _ ⟨q, kvs, hv, hx, hp⟩ own => am_nil fun H w Q k => ⟨q, kvs, by rw [hv], w.jn _ _ (jn_m hx (own _ _ hx)), k _ _ _ _ (Gs.id' w) hp⟩)) he) hg (he := he)
theorem em_min2 {X : Cx} {e1 e2 : Expr} {σ : St} {B M : Hp} {P : V → Hp → Hp → Prop} {pos p : Pos} (hc : X.calm = true) (hm : X.mg "min" = none) (h : EM X e1 σ B M fun x B1 M1 => EM X e2 σ B1 M1 fun y B2 M2 => ∃ i j, x = .int i ∧ y = .int j ∧ P (.int (if j < i then j else i)) B2 M2) (hg : Gl X "min" := by rfl)
    (he : starEach [e1, e2] X.env = (false, eval e1 X.env) :: starEach [e2] X.env := by rfl) (he2 : starEach [e2] X.env = (false, eval e2 X.env) :: starEach [] X.env := by rfl) (hpl : (backTo pos (starEach [e2] X.env)).any (·.1) = false := by rfl) : EM X (.Call (.Name "min" p) [e1, e2] [] pos) σ B M P :=
  em_cb (call_min2 hc) hm (by decide +kernel) (am_cons (h.imp fun x B1 M1 _ h1 => am_cons (h1.imp fun y B2 M2 _ ⟨i, j, hx, hy, hp⟩ => am_nil fun H w Q k => ⟨i, j, by rw [hx, hy], k _ _ _ _ (Gs.id' w) hp⟩) he2) he) hg (he := he) (hpl := hpl)
theorem s1_ifP {X : Cx} {c : Expr} {sts orelse : List Stmt} {σ : St} {B M : Hp} {E : EndsM} {pos : Pos} {C : Prop} (ht : TM X c σ B M fun k B1 M1 => Ex B B1 ∧ M1 = M ∧ (k = true → C)) (h1 : ∀ B1, Ex B B1 → C → SM X sts σ B1 M E) (h2 : ∀ B1, Ex B B1 → SM X orelse σ B1 M E) : S1 X (.If c sts orelse pos) σ B M E :=
  s1_if (ht.imp fun k B1 M1 _ ⟨hB, hM, hC⟩ => by
    subst hM
    cases k with
    | true => exact ift rfl (h1 B1 hB (hC rfl))
    | false => exact iff' rfl (h2 B1 hB))
section
variable {P : Program} {w : World} {K : PySem.W.Frag} {mg : Str → Option Value} {base : Heap}
def spEns : Spc := fun vs B M Q => ∃ g, vs = [.ref g, .int 9] ∧ BagAt B M g ∧ ∀ r B' M' nm es nl nc ns ys, NmsOk nm → EsI nm 9 es nl nc ns → B' r = some (.lst ys) → Paired (En3At B') ys es → Lw g B M B' M' → Q (.ref r) B' M'
theorem pr_ens (t : Tx K mg) {k : Nat} : Pr P w K mg base (k + 3) (ga K "_law_entries") [] spEns := by
  refine pr_def t.f_law_entries sc_law_entries (fun _ _ _ _ _ _ us hl => match us, hl with | [_, _], _ => rfl) (by rintro _ _ _ _ ⟨g, rfl, _⟩; rfl) ?_
  rintro cdv A outer s0 H E vs B M Q hr ⟨g, rfl, hb, hq⟩
  have hr1 := hr.mono (show 1 ≤ k + 2 by omega)
  refine sm_cons <| s1_set 2 sc_law_entries.nd <| em_op op_add <| em_int <| em_draw t hr1 <| em_nm 0 <| em_nm 1 ⟨g, 9, rfl, rfl, hb, by decide, by decide, fun r1 B1 M1 hr1' lw1 _ => om_I0 ?_⟩
  obtain ⟨steps, hsteps⟩ : ∃ steps : Nat, steps = r1 + 1 := ⟨_, rfl⟩
  have e1 : (1 : Int) + (r1 : Int) = (steps : Int) := by omega
  rw [e1]
  refine sm_cons <| s1_set 3 sc_law_entries.nd <| em_ixL <| em_lstB <| am_cons <| em_int <| am_cons <| em_int <| am_nil ⟨sl2, fun d2 bd2 md2 => em_op op_fdiv <| em_draw t hr1 <| em_nm 0 <| em_int ⟨g, 8, rfl, rfl, lw1.bag.up (Ex.up bd2) rfl, by decide, by decide, fun r2 B2 M2 hr2' lw2 _ => em_int <| om_I ⟨by decide, by decide⟩ ?_⟩⟩
  have hd2 : B2 d2 = some (.lst [.int 6, .int 1000000]) := lw2.b _ _ upd_same
  have e2 : ((r2 : Int) / 7) = ((r2 / 7 : Nat) : Int) := by omega
  obtain ⟨size, hsize, hsz1, hsz2⟩ : ∃ size : Nat, ([.int 6, .int 1000000] : List V)[r2 / 7]? = some (.int (size : Nat)) ∧ 1 ≤ size ∧ size ≤ 1000000 := by
    have h7 : r2 / 7 = 0 ∨ r2 / 7 = 1 := by omega
    rcases h7 with h | h
    · rw [h]; exact ⟨6, rfl, by decide, by decide⟩
    · rw [h]; exact ⟨1000000, rfl, by decide, by decide⟩
  refine ⟨d2, _, _, .int size, rfl, rfl, SqL.of (jn_b hd2), by rw [e2]; exact at_nat hsize, ?_⟩
  have l2 : Lw g B M B2 M2 := lw1.tr ⟨(Ex.up bd2).tr lw2.b, lw2.bag, lw2.oth, lw2.nt⟩
  refine sm_cons <| s1_set 4 sc_law_entries.nd <| em_call (pr_nms t (k := k)) (hr.mono (by omega)) t.g_law_names <| am_cons <| em_nm 0 <| am_cons <| em_int <| am_cons <| em_lstB <| am_cons <| em_str <| am_cons <| em_str <| am_cons <| em_str <| am_cons <| em_str <| am_nil ⟨le_size (by show 4 < 1000; decide), fun wl bwl mwl => am_nil ⟨g, wl, rfl, l2.bag.up (Ex.up bwl) rfl, upd_same, fun rn B3 M3 nm nok hrn lw3 => ?_⟩⟩
  have l3 : Lw g B M B3 M3 := l2.tr ⟨(Ex.up bwl).tr lw3.b, lw3.bag, lw3.oth, lw3.nt⟩
  refine sm_cons <| s1_set 5 sc_law_entries.nd <| em_rev <| em_nm 4 ⟨rn, _, rfl, SqL.of (jn_b hrn), fun rs hrs mrs => ?_⟩
  rw [← List.map_reverse]
  have l4 : Lw g B M (upd B3 rs (.lst (nm.reverse.map V.str))) M3 := l3.upB (Ex.up hrs)
  have hrn4 : (upd B3 rs (.lst (nm.reverse.map V.str))) rn = some (.lst (nm.map V.str)) := Ex.up hrs _ _ hrn
  have hrs4 : (upd B3 rs (.lst (nm.reverse.map V.str))) rs = some (.lst (nm.reverse.map V.str)) := upd_same
  generalize upd B3 rs (.lst (nm.reverse.map V.str)) = B4 at *
  refine sm_cons <| s1_set 6 sc_law_entries.nd <| em_lst <| am_nil ⟨sl0, fun ge bge mge => ?_⟩
  refine sm_cons <| s1_set 7 sc_law_entries.nd <| em_lst <| am_nil ⟨sl0, fun gb bgb mgb => ?_⟩
  refine sm_cons <| s1_set 8 sc_law_entries.nd <| em_dnewK fun gl bgl mgl => ?_
  refine sm_cons <| s1_set 9 sc_law_entries.nd <| em_int ?_
  refine sm_cons <| s1_set 10 sc_law_entries.nd <| em_int ?_
  obtain ⟨nbe, mgb⟩ := fresh_ne mgb
  obtain ⟨nlb, mgl⟩ := fresh_ne mgl
  obtain ⟨nle, mgl⟩ := fresh_ne mgl
  obtain ⟨lb, nb, ib, bb, mb, cb, hM3, hBb⟩ := id l4.bag
  have ng : ∀ {q : Addr}, M3 q = none → q ≠ g := fun h e => by rw [e, hM3] at h; cases h
  obtain ⟨G, hG⟩ : ∃ G : Eg, G = ⟨g, ge, gb, gl⟩ := ⟨_, rfl⟩
  have d : Ed G M3 := by subst hG; exact ⟨ng mge, ng mgb, ng mgl, nbe, nle, nlb, mge, mgb, mgl⟩
  have em0 : EnM nm G B4 M3 B4 (upd (upd (upd M3 ge (.lst [])) gb (.lst [])) gl (.dK [])) [] [] bk0 0 := by
    subst hG
    refine ⟨?_, ?_, ⟨[], upd_same, KvR.nil⟩, .nil, Ex.id', l4.bag.up Ex.id' ?_, fun q hq hm => ?_, fun nt => ((nt.upd fun _ e => by cases e).upd fun _ e => by cases e).upd fun _ e => by cases e⟩
    · show upd (upd (upd M3 ge _) gb _) gl _ ge = _
      rw [upd_ne nle.symm, upd_ne nbe.symm, upd_same]
    · show upd (upd (upd M3 ge _) gb _) gl _ gb = _
      rw [upd_ne nlb.symm, upd_same]; rfl
    · show upd (upd (upd M3 ge _) gb _) gl _ g = _
      rw [upd_ne (ng mgl).symm, upd_ne (ng mgb).symm, upd_ne (ng mge).symm]
    · rw [upd_ne (fun e => hm (by rw [e]; exact mgl)), upd_ne (fun e => hm (by rw [e]; exact mgb)), upd_ne (fun e => hm (by rw [e]; exact mge))]
  have eg : G.g = g ∧ G.ge = ge ∧ G.gb = gb ∧ G.gl = gl := by subst hG; exact ⟨rfl, rfl, rfl, rfl⟩
  obtain ⟨rfl, rfl, rfl, rfl⟩ := eg
  clear hG nbe nlb nle mgb mgl mge bge bgb bgl hM3 hBb ng
  generalize upd (upd (upd M3 G.ge (.lst [])) G.gb (.lst [])) G.gl (.dK []) = M5 at *
  refine sm_cons <| s1_forR PassesOwn.never rfl t.u_range <| em_nm 2 ⟨steps, rfl, by omega,
    fun i σ B' M' => ∃ o11 o12 o13 o14 o15 o16 o17 o18 ey es nl nc ns, σ = [some (.ref G.g), some (.int 9), some (.int steps), some (.int size), some (.ref rn), some (.ref rs), some (.ref G.ge), some (.ref G.gb), some (.ref G.gl), some (.int (runB es).stock), some (.int (nc : Nat)), o11, o12, o13, o14, o15, o16, o17, o18] ∧ EnM nm G B4 M3 B' M' ey es (runB es) nl ∧ EsI nm i es nl nc ns, ?_, ?_, ?_⟩
  · exact ⟨_, _, _, _, _, _, _, _, [], [], 0, 0, 0, rfl, em0, EsI.start⟩
  · rintro i σ B5 M5' hi _ ⟨o11, o12, o13, o14, o15, o16, o17, o18, ey, es, nl, nc, ns, rfl, em, ei⟩
    have hi9 : i < 9 := by omega
    refine gm_name 11 sc_law_entries.nd <| sm_cons <| s1_set 12 sc_law_entries.nd <| em_draw t hr1 <| em_nm 0 <| em_int ⟨G.g, 8, rfl, rfl, em.bag, by decide, by decide, fun ch B6 M6 hch lw6 ho6 => ?_⟩
    have em6 := em.lw d lw6 ho6
    obtain ⟨kl, hkl, kvl⟩ := em6.l
    -- the sales that have units left
    refine sm_own fun own6 => ?_
    have bl6 : B6 G.gl = none := own6 _ _ hkl
    refine sm_cons <| s1_lock hkl True.intro fun od => s1_setLck 13 rfl sc_law_entries.nd (blk_ok (N := n_law_entries) (sc := defScope s_law_entries) [("_law_sale", 16)] (by decide +kernel)) <| em_nm 8 ⟨G.gl, od, kl, rfl, jn_m upd_same bl6, fun D bD mD => ?_⟩
    obtain ⟨nDl, mD6⟩ := fresh_ne mD
    have frz : ∀ {acc : List V}, (upd (upd M6 G.gl (.frz od (.dK kl))) D (.lst acc)) G.gl = some (.frz od (.dK kl)) := fun {acc} => by rw [upd_ne nDl.symm, upd_same]
    refine ⟨fun j acc B' M' => ∃ ss : List Str, acc = ss.map V.str ∧ ss.length ≤ j ∧ (∀ s ∈ ss, s ∈ (runB es).sales ∧ 0 < (runB es).left s) ∧ B' = B6 ∧ M' = upd (upd M6 G.gl (.frz od (.dK kl))) D (.lst acc), ⟨[], rfl, Nat.le_refl _, fun s h => absurd h List.not_mem_nil, rfl, rfl⟩, ?_, ?_, ?_⟩
    · rintro j acc B' M' _ ⟨ss, rfl, _, _, rfl, rfl⟩
      exact jn_m frz bl6
    · rintro j kq v acc B' M' hj _ ⟨ss, rfl, hsl, hss, rfl, rfl⟩
      obtain ⟨s, rfl, hs, hv1, hv2⟩ := kvl.ix hj
      subst hv2
      refine bg_of fun s2 H2 C2 cl2 fp2 => gm_name 16 sc_law_entries.nd ⟨rfl, bt_one fun s3 H3 C3 cl3 fp3 => tm_cmp op_gt <| em_dgetM (u1 hr) <| em_nm 8 <| em_nm 16 ⟨G.gl, kl, .inr s, _, rfl, .inr ⟨od, frz⟩, rfl, hv1, em_int <| om_I0 ⟨_, rfl, ?_⟩⟩⟩
      have hjl : j < kl.length := (List.getElem?_eq_some_iff.mp hj).1
      have hkll := kvl.len
      have hsls : (runB es).sales.length ≤ 9 := by rw [ei.hs, List.length_take]; have := ei.ns9; omega
      by_cases hp : (runB es).left s > 0
      · refine ift (dt hp) <| be_of fun s4 H4 C4 cl4 fp4 => em_nm 16 ⟨upd_same, lt_size (by rw [List.length_map]; omega), ss ++ [s], by rw [List.map_append]; rfl, by rw [List.length_append, List.length_singleton]; omega, fun x hx => ?_, rfl, upd_twice⟩
        rcases List.mem_append.mp hx with hx | hx
        · exact hss x hx
        · rw [List.mem_singleton.mp hx]; exact ⟨List.mem_of_getElem? hs, hp⟩
      · exact iff' (df hp) ⟨ss, rfl, by omega, hss, rfl, rfl⟩
    rintro acc B7 M7 _ ⟨ss, rfl, hsl, hss, rfl, rfl⟩
    refine ⟨frz, ?_⟩
    rw [upd_comm nDl, upd_twice, upd_self hkl]
    refine EmS.frz (p := D) upd_same ?_
    rw [del_upd mD6]
    have hssl : ss.length ≤ 9 := by
      have h1 := kvl.len
      have hsls : (runB es).sales.length ≤ 9 := by rw [ei.hs, List.length_take]; have := ei.ns9; omega
      omega
    have hD7 : (upd B7 D (.lst (ss.map V.str))) D = some (.lst (ss.map V.str)) := upd_same
    have em7 : EnM nm G B4 M3 (upd B7 D (.lst (ss.map V.str))) M6 ey es (runB es) nl := em6.upB (Ex.up bD)
    have hrn7 := em7.x _ _ hrn4
    have hrs7 := em7.x _ _ hrs4
    clear frz bl6 own6 kvl hkl mD nDl bD
    generalize upd B7 D (.lst (ss.map V.str)) = B8 at *
    refine sm_cons <| s1_set 14 sc_law_entries.nd <| em_non ?_
    have nDg : D ≠ G.g := fun e => by
      obtain ⟨l, ns, i, b, m, c, h1, _⟩ := em7.bag
      rw [e, h1] at mD6; cases mD6
    have nml := nok.len
    have hbl : ((nm.take nl).map V.str).length = nl := by rw [List.length_map, List.length_take, nml]; have := ei.nl6; omega
    have sall : (runB es).sales.length = ns := by rw [ei.hs, List.length_take, List.length_reverse, nml]; have := ei.ns9; omega
    have s0 := ei.s0
    have s1' := ei.s1
    have nmat : ∀ {j : Nat} {x : Str}, nm[j]? = some x → (nm.map V.str)[j]? = some (.str x) := fun h => by rw [List.getElem?_map, h]; rfl
    have rvat : ∀ {j : Nat} {x : Str}, nm.reverse[j]? = some x → (nm.reverse.map V.str)[j]? = some (.str x) := fun h => by rw [List.getElem?_map, h]; rfl
    let J : St → Hp → Hp → Prop := fun σ' B' M' => ∃ ev o15 o16 o17 o18 st' nc' nl' ns' b', σ' = [some (.ref G.g), some (.int 9), some (.int steps), some (.int size), some (.ref rn), some (.ref rs), some (.ref G.ge), some (.ref G.gb), some (.ref G.gl), some (.int st'), some (.int (nc' : Nat)), some (.int i), some (.int ch), some (.ref D), some ev, o15, o16, o17, o18] ∧ EnM nm G B4 M3 B' M' ey es b' nl' ∧ st' = b'.stock ∧
      ((ev = .non ∧ b' = runB es ∧ nl' = nl ∧ nc' = nc ∧ ns' = ns) ∨ ∃ ent, EntAt B' ev ent ∧ b' = (runB es).step ent ∧ ∀ p, NextOk es p → EsI nm (i + 1) (es ++ [(p, ent)]) nl' nc' ns')
    refine sm_cons (EmS.imp J ?_ fun σ' B9 M9 hB9 ⟨ev, o15, o16, o17, o18, st', nc', nl', ns', b', eσ, em9, est, hev⟩ => ?_)
    · -- buy
      refine s1_ifP (C := nl < 6) ?_ (fun Ba hBa hn => ?_) (fun Ba hBa => ?_)
      · refine tm_w <| wm_and <| tm_cmp op_lt <| em_lenM t.u_len <| em_nm 7 ⟨G.gb, _, rfl, em7.bo, em_int <| om_I0 ⟨_, rfl, ?_⟩⟩
        rw [hbl]
        by_cases hn : nl < 6
        · refine ift (dt (by show (nl : Int) < 6; omega)) <| wm_and1 <| tm_w <| wm_or <| tm_cmp op_eq <| em_nm 9 <| em_int <| om_eq rfl ⟨_, rfl, ?_⟩
          by_cases h0 : (runB es).stock = 0
          · exact ift (dt (by rw [h0]; rfl)) ⟨Ex.id', rfl, fun _ => hn⟩
          · exact iff' (df (vint_ne h0)) <| wm_or1 <| tm_cmp op_lt <| em_nm 12 <| em_int <| om_I0 ⟨_, rfl, Ex.id', rfl, fun _ => hn⟩
        · exact iff' (df (by show ¬ (nl : Int) < 6; omega)) ⟨Ex.id', rfl, fun h => by cases h⟩
      · have ema := em7.upB hBa
        obtain ⟨n, hnx⟩ : ∃ n, nm[nl]? = some n := ⟨nm[nl]'(by omega), List.getElem?_eq_getElem (by omega)⟩
        refine sm_cons <| s1_set 15 sc_law_entries.nd <| em_op op_add <| em_int <| em_draw t hr1 <| em_nm 0 <| em_nm 3 ⟨G.g, size, rfl, rfl, ema.bag, hsz1, by omega, fun r Bb Mb hrb lwb hob => om_I0 ?_⟩
        have emb := ema.lw d lwb hob
        obtain ⟨u, hu⟩ : ∃ u : Nat, u = r + 1 := ⟨_, rfl⟩
        have eu : (1 : Int) + (r : Int) = (u : Int) := by omega
        rw [eu]
        have hrnb : Bb rn = some (.lst (nm.map V.str)) := (hBa.tr lwb.b) _ _ hrn7
        refine sm_cons <| s1_set 14 sc_law_entries.nd <| em_tup <| am_cons <| em_str <| am_cons <| em_ixL <| em_nm 4 <| em_lenM t.u_len <| em_nm 7 ⟨G.gb, _, rfl, emb.bo, rn, _, _, .str n, rfl, rfl, SqL.of (jn_b hrnb), by rw [hbl]; exact at_nat (nmat hnx), am_cons <| em_nm 15 <| am_nil ⟨sl3, fun q hq' mq => ?_⟩⟩
        have xq : Ex Bb (upd Bb q (.tup [.str "buy", .str n, .int u])) := Ex.up hq'
        have emc := emb.upB xq
        refine sm_own fun own => sm_cons <| s1_expr <| em_append <| em_nm 7 ⟨G.gb, _, rfl, emc.bo, own _ _ emc.bo, em_ixL <| em_nm 4 <| em_lenM t.u_len <| em_nm 7 ⟨G.gb, _, rfl, emc.bo, rn, _, _, .str n, rfl, rfl, SqL.of (jn_b (xq _ _ hrnb)), by rw [hbl]; exact at_nat (nmat hnx), _, emc.bo, lt_size (by omega), ?_⟩⟩
        have eb : ((nm.take nl).map V.str ++ [V.str n]) = (nm.take (nl + 1)).map V.str := by rw [take1 hnx, List.map_append]; rfl
        rw [eb]
        refine sm_one <| s1_set 9 sc_law_entries.nd <| em_op op_add <| em_nm 9 <| em_nm 15 <| om_I0 ⟨.ref q, _, _, _, _, (runB es).stock + (u : Int), nc, nl + 1, ns, (runB es).step (.buy n u), rfl, emc.setB d rfl rfl, rfl, .inr ⟨.buy n u, ⟨q, rfl, upd_same⟩, rfl, fun p nx => ei.buy nok hn hnx (by omega) (by omega) nx⟩⟩
      -- sell
      refine sm_one <| s1_ifP (C := (runB es).stock > 0 ∧ ns < 9) ?_ (fun Bb hBb hn => ?_) (fun Bb hBb => ?_)
      · have ema := em7.upB hBa
        obtain ⟨kla, hkla, kvla⟩ := ema.l
        have hkl9 : kla.length = ns := by rw [kvla.len]; exact sall
        refine tm_w <| wm_and <| tm_cmp op_gt <| em_nm 9 <| em_int <| om_I0 ⟨_, rfl, ?_⟩
        by_cases h1 : (runB es).stock > 0
        · refine ift (dt h1) <| wm_and <| tm_cmp op_lt <| em_nm 12 <| em_int <| om_I0 ⟨_, rfl, ?_⟩
          by_cases h2 : ch < 5
          · refine ift (dt (by show (ch : Int) < 5; omega)) <| wm_and1 <| tm_cmp op_lt <| em_lenD t.u_len <| em_nm 8 ⟨G.gl, kla, rfl, hkla, em_int <| om_I0 ⟨_, rfl, Ex.id', rfl, fun h => ⟨h1, ?_⟩⟩⟩
            have := of_decide_eq_true h
            rw [hkl9] at this
            omega
          · exact iff' (df (by show ¬ (ch : Int) < 5; omega)) ⟨Ex.id', rfl, fun h => by cases h⟩
        · exact iff' (df h1) ⟨Ex.id', rfl, fun h => by cases h⟩
      · obtain ⟨h1, h2⟩ := hn
        have emb := em7.upB (hBa.tr hBb)
        obtain ⟨st, hst⟩ : ∃ st : Nat, (runB es).stock = (st : Int) := ⟨(runB es).stock.toNat, by omega⟩
        obtain ⟨s, hsx⟩ : ∃ s, nm.reverse[ns]? = some s := ⟨nm.reverse[ns]'(by rw [List.length_reverse]; omega), List.getElem?_eq_getElem (by rw [List.length_reverse]; omega)⟩
        have snin : s ∉ (runB es).sales := fun hm => by
          rw [ei.hs] at hm
          obtain ⟨j, hj, hx'⟩ := mem_take_ix hm
          have := nd_ix ((List.reverse_perm nm).nodup_iff.mpr nok.nd) hsx hx'; omega
        refine sm_cons <| s1_set 15 sc_law_entries.nd <| em_op op_add <| em_int <| em_draw t hr1 <| em_nm 0 <| em_nm 9 ⟨G.g, st, rfl, congrArg V.int hst, emb.bag, by omega, by omega, fun r Bc Mc hrc lwc hoc => om_I0 ?_⟩
        have emc := emb.lw d lwc hoc
        obtain ⟨u, hu⟩ : ∃ u : Nat, u = r + 1 := ⟨_, rfl⟩
        have eu : (1 : Int) + (r : Int) = (u : Int) := by omega
        rw [eu]
        refine sm_cons (EmS.imp (fun σ' B' M' => ∃ u' : Nat, 1 ≤ u' ∧ u' ≤ st ∧ σ' = [some (.ref G.g), some (.int 9), some (.int steps), some (.int size), some (.ref rn), some (.ref rs), some (.ref G.ge), some (.ref G.gb), some (.ref G.gl), some (.int (runB es).stock), some (.int (nc : Nat)), some (.int i), some (.int ch), some (.ref D), some .non, some (.int u'), o16, o17, o18] ∧ B' = Bc ∧ M' = Mc) ?_ fun σ' Bd Md _ ⟨u', hu1, hu2, eσ, eB, eM⟩ => ?_)
        · refine s1_if <| tm_w <| wm_and <| tm_cmp op_eq <| em_nm 12 <| em_int <| om_eq rfl ⟨_, rfl, ?_⟩
          by_cases h4 : ch = 4
          · refine ift (dt (by rw [h4]; rfl)) <| wm_and1 <| tm_cmp op_le <| em_nm 9 <| em_int <| om_I0 ⟨_, rfl, ?_⟩
            by_cases h5 : (runB es).stock ≤ 1000000
            · exact ift (dt h5) <| sm_one <| s1_set 15 sc_law_entries.nd <| em_nm 9 ⟨st, by omega, Nat.le_refl _, by rw [← hst]; rfl, rfl, rfl⟩
            · exact iff' (df h5) (sm_nil ⟨u, by omega, by omega, rfl, rfl, rfl⟩)
          · exact iff' (df (by show ¬ V.int (ch : Int) = V.int 4; intro z; injection z with z; omega)) (iff' rfl (sm_nil ⟨u, by omega, by omega, rfl, rfl, rfl⟩))
        subst eσ eB eM
        obtain ⟨v, hv⟩ : ∃ v : Nat, v = min u' 1000000 := ⟨_, rfl⟩
        have evv : (if (1000000 : Int) < (u' : Int) then (1000000 : Int) else (u' : Int)) = (v : Int) := by split <;> omega
        refine sm_cons <| s1_set 15 sc_law_entries.nd <| em_min2 rfl t.u_min <| em_nm 15 <| em_int ⟨u', 1000000, rfl, rfl, ?_⟩
        rw [evv]
        obtain ⟨klc, hklc, kvlc⟩ := emc.l
        have hkl9 : klc.length = ns := by rw [kvlc.len]; exact sall
        have hrsc : Bd rs = some (.lst (nm.reverse.map V.str)) := ((hBa.tr hBb).tr lwc.b) _ _ hrs7
        refine sm_cons <| s1_set 14 sc_law_entries.nd <| em_tup <| am_cons <| em_str <| am_cons <| em_ixL <| em_nm 5 <| em_lenD t.u_len <| em_nm 8 ⟨G.gl, klc, rfl, hklc, rs, _, _, .str s, rfl, rfl, SqL.of (jn_b hrsc), by rw [hkl9]; exact at_nat (rvat hsx), am_cons <| em_nm 15 <| am_nil ⟨sl3, fun q hq' mq => ?_⟩⟩
        have xq : Ex Bd (upd Bd q (.tup [.str "sell", .str s, .int v])) := Ex.up hq'
        have emd := emc.upB xq
        refine sm_cons <| s1_dput (u1 hr) <| em_nm 15 <| em_nm 8 <| em_ixL <| em_nm 5 <| em_lenD t.u_len <| em_nm 8 ⟨G.gl, klc, rfl, hklc, rs, _, _, .str s, rfl, rfl, SqL.of (jn_b (xq _ _ hrsc)), by rw [hkl9]; exact at_nat (rvat hsx), G.gl, rfl, .inl ⟨klc, .inr s, hklc, rfl, lt_size (by omega), ?_⟩⟩
        have kv' : KvR (fun x v' _ => v' = .int (((runB es).step (.sell s v)).left x)) (putK klc (.inr s) (.int v)) (((runB es).step (.sell s v)).sales) (upd Bd q (.tup [.str "sell", .str s, .int v])) := by
          have := KvR.put' (R := fun x v' _ => v' = .int ((runB es).left x)) (kvlc.up fun _ _ z => z) (B := upd Bd q (.tup [.str "sell", .str s, .int v])) (k := s) (v := .int v) (R' := fun x v' _ => v' = .int (((runB es).step (.sell s v)).left x)) (fun j w hj z => by show w = V.int (if j = s then (v : Int) else (runB es).left j); rw [if_neg hj]; exact z) (by show V.int v = V.int (if s = s then (v : Int) else (runB es).left s); rw [if_pos rfl])
          rwa [addk, if_neg snin] at this
        refine sm_one <| s1_set 9 sc_law_entries.nd <| em_op op_sub <| em_nm 9 <| em_nm 15 <| om_I0 ⟨.ref q, _, _, _, _, (runB es).stock - (v : Int), nc, nl, ns + 1, (runB es).step (.sell s v), rfl, emd.setL d kv', rfl, .inr ⟨.sell s v, ⟨q, rfl, upd_same⟩, rfl, fun p nx => ei.sell nok h2 hsx (by omega) (by omega) (by omega) nx⟩⟩
      -- back
      have sok : ∀ s ∈ ss, VName s := fun s hs => by
        have h1 := (hss s hs).1
        rw [ei.hs] at h1
        exact nok.ok s (List.mem_reverse.mp (List.mem_of_mem_take h1))
      refine sm_one <| s1_ifP (C := ss ≠ []) ?_ (fun Bc hBc hn => ?_) (fun Bc hBc => ?_)
      · refine tm_w <| wm_and <| tm_someS (u64 hr) <| em_nm 13 ⟨D, ss, rfl, (hBa.tr hBb) _ _ hD7, sok, fun B' hB' => ?_⟩
        by_cases h1 : ss = []
        · exact iff' (by rw [dt h1]; rfl) ⟨hB', rfl, fun h => by cases h⟩
        · exact ift (by rw [df h1]; rfl) <| wm_and1 <| tm_cmp op_lt <| em_nm 12 <| em_int <| om_I0 ⟨_, rfl, hB', rfl, fun _ => h1⟩
      · have emc := em7.upB ((hBa.tr hBb).tr hBc)
        refine sm_cons <| s1_set 16 sc_law_entries.nd <| em_call (pr_pick t (k := k)) (hr.mono (by omega)) t.g_law_pick <| am_cons <| em_nm 0 <| am_cons <| em_nm 13 <| am_nil ⟨G.g, D, ss.map V.str, rfl, emc.bag, .inl (((hBa.tr hBb).tr hBc) _ _ hD7), nDg, fun e => hn (List.map_eq_nil_iff.mp e), by rw [List.length_map]; omega, fun r v Bd Md hv lwd hod => ?_⟩
        obtain ⟨s, rfl, hs⟩ := strs_at hv
        obtain ⟨hs1, hs2⟩ := hss s (List.mem_of_getElem? hs)
        have hlf := ei.lf s hs1
        have emd := emc.lw d lwd hod
        obtain ⟨kld, hkld, kvld⟩ := emd.l
        obtain ⟨w0, hw1, hw2⟩ := kvld.some hs1
        subst hw2
        obtain ⟨lf, hlfe⟩ : ∃ lf : Nat, (runB es).left s = (lf : Int) := ⟨((runB es).left s).toNat, by omega⟩
        refine sm_cons <| s1_set 15 sc_law_entries.nd <| em_op op_add <| em_int <| em_draw t hr1 <| em_nm 0 <| em_dgetM (u1 hr) <| em_nm 8 <| em_nm 16 ⟨G.gl, kld, .inr s, _, rfl, .inl hkld, rfl, hw1, G.g, lf, rfl, congrArg V.int hlfe, emd.bag, by omega, by omega, fun r2 Be Me hre lwe hoe => om_I0 ?_⟩
        have eme := emd.lw d lwe hoe
        obtain ⟨u, hu⟩ : ∃ u : Nat, u = r2 + 1 := ⟨_, rfl⟩
        have eu : (1 : Int) + (r2 : Int) = (u : Int) := by omega
        rw [eu]
        refine sm_cons <| s1_set 14 sc_law_entries.nd <| em_tup <| am_cons <| em_str <| am_cons <| em_nm 16 <| am_cons <| em_nm 15 <| am_nil ⟨sl3, fun q hq' mq => ?_⟩
        have xq : Ex Be (upd Be q (.tup [.str "back", .str s, .int u])) := Ex.up hq'
        have emf := eme.upB xq
        obtain ⟨klf, hklf, kvlf⟩ := emf.l
        obtain ⟨w3, hw3, hw4⟩ := kvlf.some hs1
        subst hw4
        refine sm_cons <| s1_dput (u1 hr) <| em_op op_sub <| em_dgetM (u1 hr) <| em_nm 8 <| em_nm 16 ⟨G.gl, klf, .inr s, _, rfl, .inl hklf, rfl, hw3, em_nm 15 <| om_I0 <| em_nm 8 <| em_nm 16 ⟨G.gl, rfl, .inl ⟨klf, .inr s, hklf, rfl, lt_size (by rw [kvlf.len, sall]; have := ei.ns9; omega), ?_⟩⟩⟩
        have kv' : KvR (fun x v' _ => v' = .int (((runB es).step (.back s u)).left x)) (putK klf (.inr s) (.int ((runB es).left s - (u : Int)))) (((runB es).step (.back s u)).sales) (upd Be q (.tup [.str "back", .str s, .int u])) := by
          have := KvR.put' (R := fun x v' _ => v' = .int ((runB es).left x)) kvlf (k := s) (v := .int ((runB es).left s - (u : Int))) (R' := fun x v' _ => v' = .int (((runB es).step (.back s u)).left x)) (fun j w hj z => by show w = V.int (if j = s then (runB es).left s - (u : Int) else (runB es).left j); rw [if_neg hj]; exact z) (by show V.int _ = V.int (if s = s then (runB es).left s - (u : Int) else (runB es).left s); rw [if_pos rfl])
          rwa [addk, if_pos hs1] at this
        refine sm_one <| s1_set 9 sc_law_entries.nd <| em_op op_add <| em_nm 9 <| em_nm 15 <| om_I0 ⟨.ref q, _, _, _, _, (runB es).stock + (u : Int), nc, nl, ns, (runB es).step (.back s u), rfl, emf.setL d kv', rfl, .inr ⟨.back s u, ⟨q, rfl, upd_same⟩, rfl, fun p nx => ei.back nok hs1 (by omega) (by omega) nx⟩⟩
      -- late
      have emc := em7.upB ((hBa.tr hBb).tr hBc)
      have lok : ∀ x ∈ nm.take nl, VName x := fun x hx => nok.ok x (List.mem_of_mem_take hx)
      refine sm_one <| s1_ifP (C := nm.take nl ≠ [] ∧ nc < 3) ?_ (fun Bd hBd hn => ?_) (fun Bd hBd => ?_)
      · refine tm_w <| wm_and <| tm_someSM (u64 hr) <| em_nm 7 ⟨G.gb, nm.take nl, rfl, emc.bo, lok, fun B' hB' => ?_⟩
        by_cases h1 : nm.take nl = []
        · exact iff' (by rw [dt h1]; rfl) ⟨hB', rfl, fun h => by cases h⟩
        · refine ift (by rw [df h1]; rfl) <| wm_and1 <| tm_cmp op_lt <| em_nm 10 <| em_int <| om_I0 ⟨_, rfl, hB', rfl, fun h => ⟨h1, ?_⟩⟩
          have h2 : (nc : Int) < 3 := of_decide_eq_true h
          omega
      · obtain ⟨h1, h2⟩ := hn
        have emd := emc.upB hBd
        obtain ⟨c, hcx⟩ : ∃ c, nm[6 + nc]? = some c := ⟨nm[6 + nc]'(by omega), List.getElem?_eq_getElem (by omega)⟩
        have hrnd : Bd rn = some (.lst (nm.map V.str)) := (((hBa.tr hBb).tr hBc).tr hBd) _ _ hrn7
        have e6 : (6 : Int) + (nc : Int) = ((6 + nc : Nat) : Int) := by omega
        refine sm_cons <| s1_set 14 sc_law_entries.nd <| em_tup <| am_cons <| em_str <| am_cons <| em_ixL <| em_nm 4 <| em_op op_add <| em_int <| em_nm 10 <| om_I0 ⟨rn, _, ((6 + nc : Nat) : Int), .str c, rfl, congrArg V.int e6, SqL.of (jn_b hrnd), at_nat (nmat hcx), am_cons <| em_call (pr_pick t (k := k)) (hr.mono (by omega)) t.g_law_pick <| am_cons <| em_nm 0 <| am_cons <| em_nm 7 <| am_nil ⟨G.g, G.gb, (nm.take nl).map V.str, rfl, emd.bag, .inr emd.bo, d.bg, fun e => h1 (List.map_eq_nil_iff.mp e), by rw [hbl]; have := ei.nl6; omega, fun r v Be Me hv lwe hoe => am_nil ⟨sl3, fun q hq' mq => ?_⟩⟩⟩
        obtain ⟨l, rfl, hl⟩ := strs_at hv
        have hlm : l ∈ (runB es).lots := by rw [ei.hl]; exact List.mem_of_getElem? hl
        have xq : Ex Be (upd Be q (.tup [.str "late", .str c, .str l])) := Ex.up hq'
        have emf := (emd.lw d lwe hoe).upB xq
        have e1' : (nc : Int) + 1 = ((nc + 1 : Nat) : Int) := by omega
        refine sm_one <| s1_set 10 sc_law_entries.nd <| em_op op_add <| em_nm 10 <| em_int <| om_I0 ⟨.ref q, o15, o16, o17, o18, (runB es).stock, nc + 1, nl, ns, (runB es).step (.late c l), (by rw [← e1']; rfl), emf.toB rfl rfl, rfl, .inr ⟨.late c l, ⟨q, rfl, upd_same⟩, rfl, fun p nx => ei.late nok h2 hcx hlm nx⟩⟩
      · exact sm_nil ⟨.non, _, _, _, _, (runB es).stock, nc, nl, ns, runB es, rfl, emc.upB hBd, rfl, .inl ⟨rfl, rfl, rfl, rfl, rfl⟩⟩
    subst eσ est
    refine sm_one <| s1_if <| tm_notN <| em_nm 14 ?_
    rcases hev with ⟨rfl, rfl, rfl, rfl, rfl⟩ | ⟨ent, hent, rfl, hes⟩
    · exact iff' (by show (!decide (V.non = V.non)) = false; rfl) (sm_nil ⟨_, _, _, _, _, _, _, _, ey, es, nl', nc', ns', rfl, em9, ei.skip⟩)
    · obtain ⟨qe, rfl, hqe⟩ := id hent
      refine ift (by show (!decide (V.ref qe = V.non)) = true; rfl) ?_
      refine sm_cons <| s1_asg <| em_call (pr_nx t (k := k)) (hr.mono (by omega)) t.g_law_next <| am_cons <| em_nm 0 <| am_cons <| em_nm 6 <| am_nil ⟨G.g, G.ge, ey, es, rfl, em9.bag, em9.e, d.eg, em9.p, ei.ok, fun r Ba Ma p hra nx lwa hoa => gm_tup rfl (SqT.of (jn_b hra)) <| gms_cons <| gm_name 17 sc_law_entries.nd <| gms_cons <| gm_name 18 sc_law_entries.nd <| gms_nil ?_⟩
      have ema := em9.lw d lwa hoa
      have hyl := paired_len ema.p
      have hel := ei.len
      refine sm_own fun own => sm_one <| s1_expr <| em_append <| em_nm 6 ⟨G.ge, _, rfl, ema.e, own _ _ ema.e, em_tup <| am_cons <| em_nm 17 <| am_cons <| em_nm 18 <| am_cons <| em_nm 14 <| am_nil ⟨sl3, fun q hq' mq => ⟨_, ema.e, lt_size (by omega), ?_⟩⟩⟩
      have xq : Ex Ba (upd Ba q (.tup [.int p.1, .int p.2, .ref qe])) := Ex.up hq'
      have emb := (ema.upB xq).setE d (ey' := ey ++ [.ref q]) (es' := es ++ [(p, ent)]) (paired_append (en3s_up ema.p xq) (.cons ⟨q, qe, rfl, upd_same, (hent.up lwa.b).up xq⟩ .nil))
      have er : runB (es ++ [(p, ent)]) = (runB es).step ent := runB_app
      exact ⟨_, _, _, _, _, _, _, _, ey ++ [.ref q], es ++ [(p, ent)], nl', nc', ns', by rw [er]; rfl, by rw [er]; exact emb, hes p nx⟩
  · rintro σ B' M' _ ⟨o11, o12, o13, o14, o15, o16, o17, o18, ey, es, nl, nc, ns, rfl, em, ei⟩
    refine sm_one <| s1_ret <| Emt.fzN <| em_nm 6 ⟨G.ge, _, em.e, fun hn => ?_⟩
    have ei9 : EsI nm 9 es nl nc ns := ⟨ei.hl, ei.nl6, ei.ht, ei.nc3, ei.hs, ei.ns9, ei.vd, ei.s0, by have := ei.s1; omega, ei.lf, ei.rise, ei.ok, by have := ei.len; omega, ei.pl, ei.nmk⟩
    refine hq G.ge _ _ nm es nl nc ns ey nok ei9 upd_same (en3s_up em.p (Ex.up hn)) (l4.tr ⟨em.x.tr (Ex.up hn), em.bag.up (Ex.up hn) (del_ne d.eg.symm), fun q hq' hm => ?_, fun nt => (em.nt nt).del⟩)
    rw [del_ne (d.oth d.e0 hm)]
    exact em.oth q hq' hm
end
end LC
end LcLaw6
section LcLaw7
set_option maxHeartbeats 4000000
/-! The law's book, sums, everything paid. -/
namespace LC
open PySem L2
open He (ga ma)
open He5 (wf)
theorem paired_perm {α β : Type} {R : α → β → Prop} {ys ys' : List α} (h : ys'.Perm ys) : ∀ {es : List β}, Paired R ys es → ∃ es', Paired R ys' es' ∧ es'.Perm es := by
  induction h with
  | nil => intro es h; cases h; exact ⟨[], .nil, List.Perm.refl _⟩
  | cons x p ih =>
    intro es h
    cases h with
    | cons r t =>
      obtain ⟨es', h1, h2⟩ := ih t
      exact ⟨_ :: es', .cons r h1, h2.cons _⟩
  | swap x y l =>
    intro es h
    cases h with
    | cons r t =>
      cases t with
      | cons r2 t2 => exact ⟨_ :: _ :: _, .cons r2 (.cons r t2), List.Perm.swap ..⟩
  | trans p1 p2 ih1 ih2 =>
    intro es h
    obtain ⟨e2, h1, h2⟩ := ih2 h
    obtain ⟨e1, h3, h4⟩ := ih1 h1
    exact ⟨e1, h3, h4.trans h2⟩
theorem del_book {M : Hp} {x d : Addr} {i o b : HO} (hx : M x = none) (ne : d ≠ x) : del (upd (upd (upd M x i) d o) x b) x = upd M d o := by
  funext q
  by_cases e : q = x
  · rw [e, del_same, upd_ne ne.symm, hx]
  · rw [del_ne e, upd_ne e]
    by_cases e2 : q = d
    · rw [e2, upd_same, upd_same]
    · rw [upd_ne e2, upd_ne e, upd_ne e2]
def NumsAt (K : PySem.W.Frag) (B : Hp) (v : V) (n : Nat) (c : Nat → Rat) : Prop := ∃ a xs, v = .ref a ∧ B a = some (.lst xs) ∧ xs.length = n ∧ ∀ (i : Nat) (x : V), xs[i]? = some x → NumAt K B x (c i)
theorem RatsAt.nums {K : PySem.W.Frag} {B : Hp} {v : V} {n : Nat} {c : Nat → Rat} (h : RatsAt K B v n c) : NumsAt K B v n c := by
  obtain ⟨a, xs, h1, h2, h3, h4⟩ := h
  exact ⟨a, xs, h1, h2, h3, fun i x hx => (h4 i x hx).num⟩
theorem NumsAt.up {K : PySem.W.Frag} {B B' : Hp} {v : V} {n : Nat} {c : Nat → Rat} (h : NumsAt K B v n c) (e : Ex B B') : NumsAt K B' v n c := by
  obtain ⟨a, xs, h1, h2, h3, h4⟩ := h
  exact ⟨a, xs, h1, e _ _ h2, h3, fun i x hx => (h4 i x hx).up e⟩
section
variable {P : Program} {w : World} {K : PySem.W.Frag} {mg : Str → Option Value} {base : Heap} {U : List Str}
def spBook (K : PySem.W.Frag) : Spc := fun vs B M Q => ∃ l ys xs es, vs = [.ref l] ∧ B l = some (.lst ys) ∧ Paired (En3At B) ys xs ∧ xs.Perm es ∧ Rise es ∧ es.length ≤ 100 ∧ (∀ e ∈ es, e.2.ok ∧ 0 ≤ e.1.1 ∧ e.1.1 ≤ 1000000 ∧ 0 ≤ e.1.2 ∧ e.1.2 ≤ 1000000) ∧ ∀ v B', Ex B B' → BookAt K B' v es → Q v B' M
theorem pr_book (t : Tx K mg) : Pr P w K mg base 10 (ga K "_law_book") [] (spBook K) := by
  refine pr_def t.f_law_book sc_law_book (fun _ _ _ _ _ _ us hl => match us, hl with | [_], _ => rfl) (by rintro _ _ _ _ ⟨l, ys, xs, es, rfl, _⟩; rfl) ?_
  rintro cdv A outer s0 H E vs B M Q hr ⟨l, ys, xs, es, rfl, hl, hys, hpm, rise, hel, hok, hq⟩
  refine sm_cons <| s1_set 1 sc_law_book.nd <| Emt.fzN <| em_make0 (pr_bkinit t (k := 0)) (hr.mono (by decide)) t.mk_Book t.g_Book fun x dx b1 m1 b2 m2 ne => ⟨x, dx, rfl, upd_same, fun d hd bd md => ⟨rfl, x, _, upd_same, fun hn => ?_⟩⟩
  rw [del_book m1 hd]
  have md0 : M d = none := by rw [upd_ne hd] at md; exact md
  have hx0 : Ex B (upd (upd B dx (.own x)) x (bookO K dx d)) := (Ex.up b2).tr (Ex.up hn)
  have hbx : (upd (upd B dx (.own x)) x (bookO K dx d)) x = some (bookO K dx d) := upd_same
  generalize upd (upd B dx (.own x)) x (bookO K dx d) = B1 at *
  have hyl := paired_len hys
  have hxl := hpm.length_eq
  refine sm_cons <| s1_for PassesOwn.never rfl <| em_nm 0 ⟨l, ys, rfl, SqL.of (jn_b (hx0 _ _ hl)), fun i σ B' M' => ∃ o2 o3 o4 kvs, σ = [some (.ref l), some (.ref x), o2, o3, o4] ∧ M' = upd M d (.dT kvs) ∧ Ex B1 B' ∧ DtR (EntR es) kvs ((xs.take i).map (·.1)) B', ?_, ?_, ?_, ?_⟩
  · exact ⟨_, _, _, [], rfl, rfl, Ex.id', DtR.nil⟩
  · rintro i σ B' M' _ ⟨o2, o3, o4, kvs, rfl, rfl, hB, _⟩
    exact SqL.of (jn_b (hB _ _ (hx0 _ _ hl)))
  · rintro i y σ B' M' hi _ ⟨o2, o3, o4, kvs, rfl, rfl, hB, dt⟩
    obtain ⟨e, he, q, r, rfl, hq1, hent⟩ := paired_at hys hi
    have hem : e ∈ es := hpm.mem_iff.mp (List.mem_of_getElem? he)
    obtain ⟨ok, p1, p2, p3, p4⟩ := hok e hem
    have hBB := hx0.tr hB
    have hil : i < xs.length := (List.getElem?_eq_some_iff.mp he).1
    have hkl := dt.len
    rw [List.length_map, List.length_take] at hkl
    have hpn : e.1 ∉ (xs.take i).map (·.1) := fun hin => by
      have nd : (xs.map (·.1)).Nodup := (hpm.map _).nodup_iff.mpr rise.nd
      have e1 : (xs.map (·.1))[i]? = some e.1 := by rw [List.getElem?_map, he]; rfl
      obtain ⟨hlt, hget⟩ := List.getElem?_eq_some_iff.mp e1
      have sp1 : xs.map (·.1) = (xs.take i).map (·.1) ++ e.1 :: (xs.map (·.1)).drop (i + 1) := by
        rw [List.map_take, ← hget, ← List.drop_eq_getElem_cons hlt, List.take_append_drop]
      rw [sp1] at nd
      exact (List.nodup_append.mp nd).2.2 _ hin _ (List.mem_cons_self ..) rfl
    refine gm_tup rfl (SqT.of (jn_b (hBB _ _ hq1))) <| gms_cons <| gm_name 2 sc_law_book.nd <| gms_cons <| gm_name 3 sc_law_book.nd <| gms_cons <| gm_name 4 sc_law_book.nd <| gms_nil ?_
    refine sm_one <| s1_oput (pr_bkset t (k := 0)) (hr.mono (by decide)) t.og_Book_set <| em_nm 4 <| em_nm 1 <| em_tup <| am_cons <| em_nm 2 <| am_cons <| em_nm 3 <| am_nil ⟨sl2, fun qt hqt mqt => ?_⟩
    have xq : Ex B' (upd B' qt (.tup [.int e.1.1, .int e.1.2])) := Ex.up hqt
    refine ⟨⟨x, dx, _, rfl, jn_b ((hB.tr xq) _ _ hbx)⟩, x, dx, d, qt, .ref r, e.1, e.2, kvs, rfl, (hB.tr xq) _ _ hbx, upd_same, p1, p2, p3, p4, hent.up (hBB.tr xq), ok, upd_same, by omega, fun B2 hB2 => ⟨_, _, _, putK kvs (pk e.1) (.ref r), rfl, upd_twice, (hB.tr xq).tr hB2, ?_⟩⟩
    rw [take1 he, List.map_append]
    exact (dt.up fun _ _ z => z.up (xq.tr hB2)).add hpn ⟨e.2, hem, hent.up ((hBB.tr xq).tr hB2)⟩
  · rintro σ B' M' _ ⟨o2, o3, o4, kvs, rfl, rfl, hB, dt⟩
    refine sm_own fun own => ?_
    have bd' : B' d = none := own _ _ upd_same
    refine EmS.frz (p := d) upd_same ?_
    rw [del_upd md0]
    have xd : Ex B' (upd B' d (.dT kvs)) := Ex.up bd'
    rw [hyl, List.take_length] at dt
    exact sm_one <| s1_ret <| em_nm 1 <| hq _ _ ((hx0.tr hB).tr xd) ⟨x, dx, d, kvs, _, rfl, (hB.tr xd) _ _ hbx, upd_same, dt.up fun _ _ z => z.up xd, hpm.map _, rise, hel⟩
/-! ### sums of forms -/
structure AddSz (n : Nat) (F : Nat → Str → Rat) (c : Nat → Rat) : Prop where
  f : ∀ i, i < n → SzF (F i)
  w : ∀ i, i < n → Sz (c i)
  m : ∀ i, i < n → ∀ k, Sz (F i k * c i)
  s : ∀ i, i ≤ n → ∀ k, Sz (sumN i fun j => c j * F j k)
theorem addSz {n a b : Nat} {F : Nat → Str → Rat} {c : Nat → Rat} (hn : n ≤ 10) (hF : ∀ i, i < n → ∀ k, Sb a (F i k)) (hc : ∀ i, i < n → Sb b (c i)) (h : 10 * (b + a + 1) + 1 ≤ 33554432) : AddSz n F c := by
  refine ⟨fun i hi k => (hF i hi k).sz (by omega), fun i hi => (hc i hi).sz (by omega), fun i hi k => ((hF i hi k).mul (hc i hi)).sz (by omega), fun i hi k => (sum_sb (c := c) (d := fun j => F j k) hc (fun j hj => hF j hj k) i hi).sz ?_⟩
  have : i * (b + a + 1) ≤ 10 * (b + a + 1) := Nat.mul_le_mul_right _ (by omega)
  omega
def spAdd (K : PySem.W.Frag) (U : List Str) : Spc := fun vs B M Q => ∃ lf vw n F c, vs = [.ref lf, vw] ∧ FormsAt K U B lf n F ∧ NumsAt K B vw n c ∧ n ≤ 1000 ∧ AddSz n F c ∧ ∀ v B', Ex B B' → FormAt K U B' v (comb n F c) → Q v B' M
theorem pr_added (F : FP P w K mg base U) : Pr P w K mg base 54 (ga K "_law_added") [] (spAdd K U) := by
  have t := F.b.r.t
  refine pr_def t.f_law_added sc_law_added (fun _ _ _ _ _ _ us hl => match us, hl with | [_, _], _ => rfl) (by rintro _ _ _ _ ⟨lf, vw, n, F, c, rfl, _⟩; rfl) ?_
  rintro cdv A outer s0 H E vs B M Q hr ⟨lf, vw, n, Fs, c, rfl, ⟨fx, hlf, hfl, hff⟩, ⟨aw, xw, rfl, haw, hwl, hww⟩, hn, sz, hq⟩
  refine sm_cons <| s1_set 2 sc_law_added.nd <| em_F0 F.b (hr.mono (by decide)) fun v1 B1 hB1 hv1 => ?_
  refine sm_cons <| s1_forR PassesOwn.never rfl t.u_range <| em_len t.u_len <| em_nm 0 ⟨lf, fx, rfl, .inl (SqL.of (jn_b (hB1 _ _ hlf))), n, by rw [hfl], by omega, fun i σ B' M' => ∃ vf o, σ = [some (.ref lf), some (.ref aw), some vf, o] ∧ M' = M ∧ Ex B B' ∧ FormAt K U B' vf (fun k => sumN i fun j => c j * Fs j k), ⟨v1, _, rfl, rfl, hB1, hv1⟩, ?_, ?_⟩
  · rintro i σ B' M' hi _ ⟨vf, o, rfl, rfl, hB, hvf⟩
    obtain ⟨fi, hfi⟩ : ∃ fi, fx[i]? = some fi := ⟨fx[i]'(by omega), List.getElem?_eq_getElem (by omega)⟩
    obtain ⟨wi, hwi⟩ : ∃ wi, xw[i]? = some wi := ⟨xw[i]'(by omega), List.getElem?_eq_getElem (by omega)⟩
    refine gm_name 3 sc_law_added.nd <| sm_one <| s1_set 2 sc_law_added.nd <| em_Fadd F hr <| em_nm 2 <| em_Fmul F hr <| em_ixL <| em_nm 0 <| em_nm 3 ⟨lf, fx, i, fi, rfl, rfl, SqL.of (jn_b (hB _ _ hlf)), at_nat hfi, em_ixL <| em_nm 1 <| em_nm 3 ⟨aw, xw, i, wi, rfl, rfl, SqL.of (jn_b (hB _ _ haw)), at_nat hwi, Fs i, c i, (hff i fi hfi).up hB, (hww i wi hwi).up hB, sz.f i hi, sz.w i hi, fun k => sz.m i hi k, fun v3 B3 hB3 hv3 => ?_⟩⟩
    have e : ∀ k, (sumN i fun j => c j * Fs j k) + Fs i k * c i = sumN (i + 1) fun j => c j * Fs j k := fun k => by
      show _ = (sumN i fun j => c j * Fs j k) + c i * Fs i k
      grind
    refine ⟨_, _, hvf.up hB3, hv3, sz.s i (by omega), fun k => sz.m i hi k, fun k => ?_, fun v4 B4 hB4 hv4 => ⟨v4, _, rfl, rfl, (hB.tr hB3).tr hB4, hv4.eq e⟩⟩
    show Sz ((sumN i fun j => c j * Fs j k) + Fs i k * c i)
    rw [e]; exact sz.s (i + 1) hi k
  · rintro σ B' M' _ ⟨vf, o, rfl, rfl, hB, hvf⟩
    exact sm_one <| s1_ret <| em_nm 2 <| hq vf B' hB hvf
/-! ### everything paid -/
structure PdOk (U : List Str) (ub : Str → Nat) (lo : Str → Str) (es : Ens) : Prop where
  ndL : (runB es).lots.Nodup
  ndT : (runB es).lates.Nodup
  dis : ∀ c ∈ (runB es).lates, c ∉ (runB es).lots
  nm : ∀ e ∈ es, NmOk U ub lo e.2
def spLp (K : PySem.W.Frag) (U : List Str) : Spc := fun vs B M Q => ∃ l ys es ub lo, vs = [.ref l] ∧ B l = some (.lst ys) ∧ Paired (En3At B) ys es ∧ es.length ≤ 100 ∧ PdOk U ub lo es ∧ ∀ v B', Ex B B' → FormAt K U B' v (paidF ub (runB es).lots (runB es).lates) → Q v B' M
theorem pd_val {U : List Str} {ub : Str → Nat} {lo : Str → Str} {es : Ens} (h : PdOk U ub lo es) (k : Str) : paidF ub (runB es).lots (runB es).lates k = (if k ∈ (runB es).lots then (ub k : Rat) else 0) + if k ∈ (runB es).lates then 1 else 0 := by
  unfold paidF
  rw [lots_val h.ndL, lates_val h.ndT]
theorem pr_lpaid (F : FP P w K mg base U) : Pr P w K mg base 54 (ga K "_law_paid") [] (spLp K U) := by
  have t := F.b.r.t
  refine pr_def t.f_law_paid sc_law_paid (fun _ _ _ _ _ _ us hl => match us, hl with | [_], _ => rfl) (by rintro _ _ _ _ ⟨l, ys, es, ub, lo, rfl, _⟩; rfl) ?_
  rintro cdv A outer s0 H E vs B M Q hr ⟨l, ys, es, ub, lo, rfl, hl, hys, hel, pd, hq⟩
  refine sm_cons <| s1_set 1 sc_law_paid.nd <| em_dnewK fun d bd md => ?_
  have hyl := paired_len hys
  refine sm_cons <| s1_for PassesOwn.never rfl <| em_nm 0 ⟨l, ys, rfl, SqL.of (jn_b hl), fun i σ B' M' => ∃ o2 o3 o4 kvs ks, σ = [some (.ref l), some (.ref d), o2, o3, o4] ∧ M' = upd M d (.dK kvs) ∧ Ex B B' ∧ KvR (fun k v B => NumAt K B v (paidF ub (runB es).lots (runB es).lates k)) kvs ks B' ∧ ks.length ≤ i ∧ (∀ k, k ∈ ks ↔ (∃ p u, (p, Ent.buy k u) ∈ es.take i) ∨ ∃ p u, (p, Ent.late k u) ∈ es.take i), ?_, ?_, ?_, ?_⟩
  · exact ⟨_, _, _, [], [], rfl, rfl, Ex.id', KvR.nil, Nat.le_refl _, fun k => by simp⟩
  · rintro i σ B' M' _ ⟨o2, o3, o4, kvs, ks, rfl, rfl, hB, _⟩
    exact SqL.of (jn_b (hB _ _ hl))
  · rintro i y σ B' M' hi _ ⟨o2, o3, o4, kvs, ks, rfl, rfl, hB, kv, hkl, hks⟩
    obtain ⟨e, he, q, r, rfl, hq1, r', er, hr2⟩ := paired_at hys hi
    cases er
    have hem := List.mem_of_getElem? he
    have hil : i < es.length := (List.getElem?_eq_some_iff.mp he).1
    have hr3 := hB _ _ hr2
    have kvl := kv.len
    refine gm_tup rfl (SqT.of (jn_b (hB _ _ hq1))) <| gms_cons <| gm_name 2 sc_law_paid.nd <| gms_cons <| gm_name 3 sc_law_paid.nd <| gms_cons <| gm_name 4 sc_law_paid.nd <| gms_nil ?_
    have tk := take1 he
    obtain ⟨p, ent⟩ := e
    have nme := pd.nm _ hem
    have kindT : ∀ (z : Str) (P' : Bool → Hp → Hp → Prop) (M' : Hp) (w2 w3 : Option V), True := fun _ _ _ _ _ => trivial
    cases ent with
    | buy n u =>
      have hin : n ∈ (runB es).lots := run_lots.mpr ⟨p, u, hem⟩
      have hv : paidF ub (runB es).lots (runB es).lates n = ((u : Int) : Rat) := by
        rw [pd_val pd, if_pos hin, if_neg (fun h => pd.dis n h hin), nme.2.1, Rat.add_zero, Rat.intCast_natCast]
      refine sm_cons <| s1_if <| tm_cmp op_eq <| em_ixT <| em_nm 4 <| em_int ⟨r, _, 0, .str "buy", rfl, rfl, SqT.of (jn_b hr3), rfl, em_str <| om_eq rfl ⟨_, rfl, ift (dt rfl) ?_⟩⟩
      refine sm_one <| s1_dput (u1 hr) <| em_ixT <| em_nm 4 <| em_int ⟨r, _, 2, .int u, rfl, rfl, SqT.of (jn_b hr3), rfl, em_nm 1 <| em_ixT <| em_nm 4 <| em_int ⟨r, _, 1, .str n, rfl, rfl, SqT.of (jn_b hr3), rfl, d, rfl, .inl ⟨kvs, .inr n, upd_same, rfl, lt_size (by omega), ?_⟩⟩⟩
      rw [upd_twice]
      refine sm_one <| s1_if <| tm_cmp op_eq <| em_ixT <| em_nm 4 <| em_int ⟨r, _, 0, .str "buy", rfl, rfl, SqT.of (jn_b hr3), rfl, em_str <| om_eq rfl ⟨_, rfl, iff' (df (fun z => absurd (show ("buy" : Str) = "late" by injection z) (by decide))) <| sm_nil ⟨_, _, _, _, addk ks n, rfl, rfl, hB, kv.put (.inl ⟨(u : Int), rfl, hv⟩), ?_, fun k => ?_⟩⟩⟩
      · unfold addk; split
        · omega
        · rw [List.length_append, List.length_singleton]; omega
      · rw [mem_addk, hks, tk]
        constructor
        · rintro ((⟨q, v, h⟩ | ⟨q, v, h⟩) | rfl)
          · exact .inl ⟨q, v, List.mem_append_left _ h⟩
          · exact .inr ⟨q, v, List.mem_append_left _ h⟩
          · exact .inl ⟨p, u, List.mem_append_right _ (List.mem_singleton.mpr rfl)⟩
        · rintro (⟨q, v, h⟩ | ⟨q, v, h⟩)
          · rcases List.mem_append.mp h with h | h
            · exact .inl (.inl ⟨q, v, h⟩)
            · have := List.mem_singleton.mp h
              injection this with _ h2
              injection h2 with h2 _
              exact .inr h2
          · rcases List.mem_append.mp h with h | h
            · exact .inl (.inr ⟨q, v, h⟩)
            · have := List.mem_singleton.mp h
              injection this with _ h2
              cases h2
    | late n u =>
      have hin : n ∈ (runB es).lates := run_lates.mpr ⟨p, u, hem⟩
      have hv : paidF ub (runB es).lots (runB es).lates n = ((1 : Int) : Rat) := by
        rw [pd_val pd, if_neg (pd.dis n hin), if_pos hin, Rat.zero_add]; rfl
      refine sm_cons <| s1_if <| tm_cmp op_eq <| em_ixT <| em_nm 4 <| em_int ⟨r, _, 0, .str "late", rfl, rfl, SqT.of (jn_b hr3), rfl, em_str <| om_eq rfl ⟨_, rfl, iff' (df (fun z => absurd (show ("late" : Str) = "buy" by injection z) (by decide))) <| sm_nil ?_⟩⟩
      refine sm_one <| s1_if <| tm_cmp op_eq <| em_ixT <| em_nm 4 <| em_int ⟨r, _, 0, .str "late", rfl, rfl, SqT.of (jn_b hr3), rfl, em_str <| om_eq rfl ⟨_, rfl, ift (dt rfl) ?_⟩⟩
      refine sm_one <| s1_dput (u1 hr) <| em_int <| em_nm 1 <| em_ixT <| em_nm 4 <| em_int ⟨r, _, 1, .str n, rfl, rfl, SqT.of (jn_b hr3), rfl, d, rfl, .inl ⟨kvs, .inr n, upd_same, rfl, lt_size (by omega), ⟨_, _, _, _, addk ks n, rfl, upd_twice, hB, kv.put (.inl ⟨1, rfl, hv⟩), ?_, fun k => ?_⟩⟩⟩
      · unfold addk; split
        · omega
        · rw [List.length_append, List.length_singleton]; omega
      · rw [mem_addk, hks, tk]
        constructor
        · rintro ((⟨q, v, h⟩ | ⟨q, v, h⟩) | rfl)
          · exact .inl ⟨q, v, List.mem_append_left _ h⟩
          · exact .inr ⟨q, v, List.mem_append_left _ h⟩
          · exact .inr ⟨p, u, List.mem_append_right _ (List.mem_singleton.mpr rfl)⟩
        · rintro (⟨q, v, h⟩ | ⟨q, v, h⟩)
          · rcases List.mem_append.mp h with h | h
            · exact .inl (.inl ⟨q, v, h⟩)
            · have := List.mem_singleton.mp h
              injection this with _ h2
              cases h2
          · rcases List.mem_append.mp h with h | h
            · exact .inl (.inr ⟨q, v, h⟩)
            · have := List.mem_singleton.mp h
              injection this with _ h2
              injection h2 with h2 _
              exact .inr h2
    | sell n u =>
      have keep : ∀ k, ((∃ p u, (p, Ent.buy k u) ∈ es.take i) ∨ ∃ p u, (p, Ent.late k u) ∈ es.take i) ↔ ((∃ p u, (p, Ent.buy k u) ∈ es.take (i + 1)) ∨ ∃ p u, (p, Ent.late k u) ∈ es.take (i + 1)) := fun k => by
        rw [tk]; simp
      refine sm_cons <| s1_if <| tm_cmp op_eq <| em_ixT <| em_nm 4 <| em_int ⟨r, _, 0, .str "sell", rfl, rfl, SqT.of (jn_b hr3), rfl, em_str <| om_eq rfl ⟨_, rfl, iff' (df (fun z => absurd (show ("sell" : Str) = "buy" by injection z) (by decide))) <| sm_nil ?_⟩⟩
      exact sm_one <| s1_if <| tm_cmp op_eq <| em_ixT <| em_nm 4 <| em_int ⟨r, _, 0, .str "sell", rfl, rfl, SqT.of (jn_b hr3), rfl, em_str <| om_eq rfl ⟨_, rfl, iff' (df (fun z => absurd (show ("sell" : Str) = "late" by injection z) (by decide))) <| sm_nil ⟨_, _, _, kvs, ks, rfl, rfl, hB, kv, by omega, fun k => (hks k).trans (keep k)⟩⟩⟩
    | back n u =>
      have keep : ∀ k, ((∃ p u, (p, Ent.buy k u) ∈ es.take i) ∨ ∃ p u, (p, Ent.late k u) ∈ es.take i) ↔ ((∃ p u, (p, Ent.buy k u) ∈ es.take (i + 1)) ∨ ∃ p u, (p, Ent.late k u) ∈ es.take (i + 1)) := fun k => by
        rw [tk]; simp
      refine sm_cons <| s1_if <| tm_cmp op_eq <| em_ixT <| em_nm 4 <| em_int ⟨r, _, 0, .str "back", rfl, rfl, SqT.of (jn_b hr3), rfl, em_str <| om_eq rfl ⟨_, rfl, iff' (df (fun z => absurd (show ("back" : Str) = "buy" by injection z) (by decide))) <| sm_nil ?_⟩⟩
      exact sm_one <| s1_if <| tm_cmp op_eq <| em_ixT <| em_nm 4 <| em_int ⟨r, _, 0, .str "back", rfl, rfl, SqT.of (jn_b hr3), rfl, em_str <| om_eq rfl ⟨_, rfl, iff' (df (fun z => absurd (show ("back" : Str) = "late" by injection z) (by decide))) <| sm_nil ⟨_, _, _, kvs, ks, rfl, rfl, hB, kv, by omega, fun k => (hks k).trans (keep k)⟩⟩⟩
  · rintro σ B' M' _ ⟨o2, o3, o4, kvs, ks, rfl, rfl, hB, kv, hkl, hks⟩
    rw [hyl, List.take_length] at hks
    have hks' : ∀ k, k ∈ ks ↔ k ∈ (runB es).lots ∨ k ∈ (runB es).lates := fun k => (hks k).trans (or_congr run_lots.symm run_lates.symm)
    refine sm_own fun own => ?_
    have bd' : B' d = none := own _ _ upd_same
    refine EmS.frz (p := d) upd_same ?_
    rw [del_upd md]
    have xd : Ex B' (upd B' d (.dK kvs)) := Ex.up bd'
    have nmU : ∀ k ∈ ks, k ∈ U := fun k hk => by
      rcases (hks k).mp hk with ⟨p, u, h⟩ | ⟨p, u, h⟩
      · exact (pd.nm _ h).1
      · exact (pd.nm _ h).1
    have ubs : ∀ l ∈ (runB es).lots, ub l ≤ 1000000 := fun l hl => by
      obtain ⟨p, u, h⟩ := run_lots.mp hl
      have := pd.nm _ h
      rw [this.2.1]; exact this.2.2.2
    refine sm_one <| s1_ret <| em_F1 F.b (hr.mono (by decide)) <| em_nm 1 ⟨_, .inr ⟨d, kvs, ks, rfl, upd_same, kv.up fun _ _ z => z.up xd, nmU, fun k hk => ?_, fun k _ => (paid_sm pd.ndL pd.ndT ubs k).sz⟩, fun v' B2 hB2 hv' => hq v' B2 ((hB.tr xd).tr hB2) hv'⟩
    have h1 : k ∉ (runB es).lots := fun h => hk ((hks' k).mpr (.inl h))
    have h2 : k ∉ (runB es).lates := fun h => hk ((hks' k).mpr (.inr h))
    rw [pd_val pd, if_neg h1, if_neg h2, Rat.add_zero]
end
end LC
end LcLaw7
section LcLaw8
set_option maxHeartbeats 4000000
/-! Shown, called; the plain law of one hidden form. -/
namespace LC
open PySem L2
open He (ga ma)
open He5 (wf)
section
variable {P : Program} {w : World} {K : PySem.W.Frag} {mg : Str → Option Value} {base : Heap} {U : List Str}
structure SP (P : Program) (w : World) (K : PySem.W.Frag) (mg : Str → Option Value) (base : Heap) (U : List Str) : Prop where
  b : SR P w K mg base U
  init : Pr P w K mg base 60 (ma K (ga K "Shown") "__init__") [] (spShown K U)
  wt : Pr P w K mg base 60 (ma K (ga K "Shown") "weights") [] (spW K U)
  vl : Pr P w K mg base 62 (ma K (ga K "Shown") "value") [] (spV K U)
  us : Pr P w K mg base 60 (ma K (ga K "Shown") "unseen") [] (spU K U)
theorem sp_of (S : SR P w K mg base U) : SP P w K mg base U := ⟨S, pr_shinit S (pr_take S), pr_weights S, pr_value S (pr_weights S), pr_unseen S⟩
end
theorem ShownAt.obj {K : PySem.W.Frag} {U : List Str} {n : Nat} {F : Nat → Str → Rat} {sa : Nat} {B M : Hp} {v : V} {l : List Stp} (h : ShownAt K U n F sa B v l) {m : Str} (hm : ∀ x y z : V, [(("forms" : Str), x), ("steps_found", y), ("relations", z)].lookup m = none) : ∃ a dx fs, v = .ref a ∧ jn B M a = some (.ins (ga K "Shown") dx fs) ∧ fs.lookup m = none := by
  obtain ⟨a, dx, lf, ls, lr, rx, h1, h2, _⟩ := h
  exact ⟨a, dx, _, h1, jn_b h2, hm _ _ _⟩
section
variable {X : Cx} {o e e1 e2 : Expr} {σ : St} {B M : Hp} {P : V → Hp → Hp → Prop} {p pos apos : Pos} {U : List Str} {pl : Sem Bool} (S : SP X.prog X.w X.K X.mg X.base U)
include S
theorem em_Shown (hr : Room 61 X.A) (h : EM X e σ B M fun y B1 M1 => ∃ lv n F sa, y = .ref lv ∧ FsOk U n F sa ∧ FormsAt X.K U B1 lv n F ∧ ∀ v B' l, Ex B1 B' → ShownAt X.K U n F sa B' v l → P v B' M1) (hg : Gl X "Shown" := by rfl)
    (he : starEach [e] X.env = (false, eval e X.env) :: starEach [] X.env := by rfl) : EM X (.Call (.Name "Shown" p) [e] [] pos) σ B M P := by
  have t := S.b.b.f.b.r.t
  refine Emt.fzN <| Emt.fzN <| em_make S.init hr t.mk_Shown t.g_Shown (am_cons (h.imp fun y B1 M1 _ ⟨lv, n, F, sa, hy, ok, hF, hp⟩ => am_nil fun x dx b1 m1 b2 m2 ne => ?_) he) hg (by decide) he
  subst hy
  have x1 : Ex B1 (upd B1 dx (.own x)) := Ex.up b2
  refine ⟨x, dx, lv, n, F, sa, rfl, upd_same, ok, hF.up x1, fun B' lf ls lr rx l hB nlr mlr hF' hs => ⟨rfl, lr, _, shM_r, fun hn1 => ⟨x, shO X.K dx lf ls lr, ?_, fun hn2 => ?_⟩⟩⟩
  · rw [del_ne nlr]; exact shM_a nlr
  have mlr1 : M1 lr = none := by rw [upd_ne nlr.symm] at mlr; exact mlr
  have ed : del (del (shM X.K (upd M1 x (.ins (ga X.K "Shown") dx [])) x dx lf ls lr rx) lr) x = M1 := by
    funext q
    by_cases e1 : q = x
    · rw [e1, del_same, m1]
    · rw [del_ne e1]
      by_cases e2 : q = lr
      · rw [e2, del_same, mlr1]
      · rw [del_ne e2]; unfold shM; rw [upd_ne e2, upd_ne e1, upd_ne e1]
  rw [ed]
  have y1 : Ex B' (upd B' lr (.lst rx)) := Ex.up hn1
  have y2 : Ex (upd B' lr (.lst rx)) (upd (upd B' lr (.lst rx)) x (shO X.K dx lf ls lr)) := Ex.up hn2
  exact hp _ _ l (((x1.tr hB).tr y1).tr y2) ⟨x, dx, lf, ls, lr, rx, rfl, upd_same, y2 _ _ upd_same, hF'.up (y1.tr y2), hs.up (y1.tr y2)⟩
theorem em_weights (hr : Room 60 X.A) (h : EM X o σ B M fun x B1 M1 => ∃ n F sa l, ShownAt X.K U n F sa B1 x l ∧ EM X e σ B1 M1 fun y B2 M2 => ∃ φ, ShownAt X.K U n F sa B2 x l ∧ FsOk U n F sa ∧ FormAt X.K U B2 y φ ∧ AskOk U φ sa ∧ (∀ B', Ex B2 B' → ¬ Span n F φ → P .non B' M2) ∧
      ∀ B' v c, Ex B2 B' → RatsAt X.K B' v n c → (∀ k, φ k = comb n F c k) → (∀ j, Sb 1100000 (c j)) → P v B' M2)
    (hst : starEach [e] X.env = (false, eval e X.env) :: starEach [] X.env := by rfl)
    (ht : eval (.Call (.Attribute o ("weights" : Str) apos) [e] [] pos) X.env = (do
      let ov ← eval o X.env
      standAt apos.atName
      let (f, first) ← holding [ov] (getMethod ov ("weights" : Str) pl)
      callWith pos f first (backTo pos (starEach [e] X.env)) (backToKw pos (keywordEach [] X.env))) := by rfl) : EM X (.Call (.Attribute o ("weights" : Str) apos) [e] [] pos) σ B M P :=
  em_meth S.wt hr S.b.b.f.b.r.t.cl_Shown S.b.b.f.b.r.t.m_Shown_weights (h.imp fun x B1 M1 _ ⟨n, F, sa, l, hx, h1⟩ => by
    obtain ⟨a, dx, fs, e1, e2, e3⟩ := hx.obj (M := M1) (m := "weights") fun _ _ _ => rfl
    exact ⟨a, dx, fs, e1, e2, e3, am_cons (h1.imp fun y B2 M2 _ ⟨φ, hx2, ok, hy, ao, q1, q2⟩ => am_nil ⟨x, y, n, F, sa, l, φ, rfl, hx2, ok, hy, ao, q1, q2⟩) hst⟩) hst rfl ht
theorem em_unseen (hr : Room 60 X.A) (h : EM X o σ B M fun x B1 M1 => ∃ n F sa l, ShownAt X.K U n F sa B1 x l ∧ EM X e σ B1 M1 fun y B2 M2 => ∃ φ, ShownAt X.K U n F sa B2 x l ∧ FsOk U n F sa ∧ FormAt X.K U B2 y φ ∧ AskOk U φ sa ∧ (∀ B', Ex B2 B' → Span n F φ → P .non B' M2) ∧
      ∀ B' d kvs ks c, Ex B2 B' → ¬ Span n F φ → B' d = some (.dK kvs) → KvR (fun k v B => RatAt X.K B v (c k)) kvs ks B' → (∀ k, φ k ≠ 0 → k ∈ ks) → (∀ i, i < n → ∀ k, F i k ≠ 0 → k ∈ ks) → (∀ i, i < n → dot U (F i) c = 0) → dot U φ c ≠ 0 → (∀ k, Sb 1100000 (c k)) → P (.ref d) B' M2)
    (hst : starEach [e] X.env = (false, eval e X.env) :: starEach [] X.env := by rfl)
    (ht : eval (.Call (.Attribute o ("unseen" : Str) apos) [e] [] pos) X.env = (do
      let ov ← eval o X.env
      standAt apos.atName
      let (f, first) ← holding [ov] (getMethod ov ("unseen" : Str) pl)
      callWith pos f first (backTo pos (starEach [e] X.env)) (backToKw pos (keywordEach [] X.env))) := by rfl) : EM X (.Call (.Attribute o ("unseen" : Str) apos) [e] [] pos) σ B M P :=
  em_meth S.us hr S.b.b.f.b.r.t.cl_Shown S.b.b.f.b.r.t.m_Shown_unseen (h.imp fun x B1 M1 _ ⟨n, F, sa, l, hx, h1⟩ => by
    obtain ⟨a, dx, fs, e1, e2, e3⟩ := hx.obj (M := M1) (m := "unseen") fun _ _ _ => rfl
    exact ⟨a, dx, fs, e1, e2, e3, am_cons (h1.imp fun y B2 M2 _ ⟨φ, hx2, ok, hy, ao, q1, q2⟩ => am_nil ⟨x, y, n, F, sa, l, φ, rfl, hx2, ok, hy, ao, q1, q2⟩) hst⟩) hst rfl ht
theorem em_value (hr : Room 62 X.A) (h : EM X o σ B M fun x B1 M1 => ∃ n F sa l, ShownAt X.K U n F sa B1 x l ∧ EM X e1 σ B1 M1 fun y B2 M2 => EM X e2 σ B2 M2 fun z B3 M3 => ∃ φ d, ShownAt X.K U n F sa B3 x l ∧ FsOk U n F sa ∧ FormAt X.K U B3 y φ ∧ AskOk U φ sa ∧ RatsAt X.K B3 z n d ∧ (∀ j, j < n → Sb 100000 (d j)) ∧
      (∀ c, (∀ k, comb n F c k = 0) → sumN n (fun j => c j * d j) = 0) ∧ Span n F φ ∧ ∀ B' v c, Ex B3 B' → (∀ k, φ k = comb n F c k) → RatAt X.K B' v (sumN n fun j => c j * d j) → P v B' M3)
    (hst : starEach [e1, e2] X.env = (false, eval e1 X.env) :: starEach [e2] X.env := by rfl) (hst2 : starEach [e2] X.env = (false, eval e2 X.env) :: starEach [] X.env := by rfl) (hpl : (backTo pos (starEach [e2] X.env)).any (·.1) = false := by rfl)
    (ht : eval (.Call (.Attribute o ("value" : Str) apos) [e1, e2] [] pos) X.env = (do
      let ov ← eval o X.env
      standAt apos.atName
      let (f, first) ← holding [ov] (getMethod ov ("value" : Str) pl)
      callWith pos f first (backTo pos (starEach [e1, e2] X.env)) (backToKw pos (keywordEach [] X.env))) := by rfl) : EM X (.Call (.Attribute o ("value" : Str) apos) [e1, e2] [] pos) σ B M P :=
  em_meth S.vl hr S.b.b.f.b.r.t.cl_Shown S.b.b.f.b.r.t.m_Shown_value (h.imp fun x B1 M1 _ ⟨n, F, sa, l, hx, h1⟩ => by
    obtain ⟨a, dx, fs, e1', e2', e3'⟩ := hx.obj (M := M1) (m := "value") fun _ _ _ => rfl
    exact ⟨a, dx, fs, e1', e2', e3', am_cons (h1.imp fun y B2 M2 _ h2 => am_cons (h2.imp fun z B3 M3 _ ⟨φ, d, hx2, ok, hy, ao, hz, hd, hc, sn, q⟩ => am_nil ⟨x, y, z, n, F, sa, l, φ, d, rfl, hx2, ok, hy, ao, hz, hd, hc, sn, q⟩) hst2) hst⟩) hst hpl ht
end
/-! ### one form hidden -/
def skipF (s : Nat) (F : Nat → Str → Rat) (i : Nat) : Str → Rat := if i < s then F i else F (i + 1)
theorem sum_skip {F : Nat → Rat} {s : Nat} : ∀ {m : Nat}, s ≤ m → sumN (m + 1) F = sumN m (fun i => if i < s then F i else F (i + 1)) + F s
  | 0, h => by
    have : s = 0 := by omega
    subst this; rfl
  | m + 1, h => by
    by_cases e : s = m + 1
    · subst e
      show sumN (m + 1) F + F (m + 1) = _
      rw [sumN_congr (n := m + 1) (f := F) (g := fun i => if i < m + 1 then F i else F (i + 1)) fun i hi => by rw [if_pos hi]]
    · have ih := sum_skip (F := F) (s := s) (m := m) (by omega)
      show sumN (m + 1) F + F (m + 1) = (sumN m (fun i => if i < s then F i else F (i + 1)) + if m < s then F m else F (m + 1)) + F s
      rw [ih, if_neg (by omega)]; grind
section
variable {n m s sa : Nat} {F : Nat → Str → Rat} {φ : Str → Rat} {U : List Str}
theorem skip_sum (hs : s ≤ m) (h : ∀ k, φ k = sumN (m + 1) fun i => F i k) (k : Str) : φ k = (sumN m fun i => skipF s F i k) + F s k := by
  rw [h, sum_skip hs]
  congr 1
  exact sumN_congr fun i _ => by
    show (if i < s then F i k else F (i + 1) k) = (if i < s then F i else F (i + 1)) k
    split <;> rfl
theorem comb_ones (k : Str) : comb n F (fun _ => 1) k = sumN n fun i => F i k := sumN_congr fun i _ => by grind
theorem comb_add (c d : Nat → Rat) (k : Str) : comb n F (fun i => c i + d i) k = comb n F c k + comb n F d k := by
  unfold comb; rw [← sumN_add]; exact sumN_congr fun i _ => by grind
theorem skip_span (hs : s ≤ m) (h : ∀ k, φ k = sumN (m + 1) fun i => F i k) : Span m (skipF s F) φ ↔ Span m (skipF s F) (F s) := by
  constructor
  · rintro ⟨w, hw⟩
    refine ⟨fun i => w i - 1, fun k => ?_⟩
    have h1 := skip_sum hs h k
    have h2 := comb_ones (n := m) (F := skipF s F) k
    rw [comb_sub, ← hw, h2, h1]; grind
  · rintro ⟨w, hw⟩
    refine ⟨fun i => w i + 1, fun k => ?_⟩
    have h1 := skip_sum hs h k
    have h2 := comb_ones (n := m) (F := skipF s F) k
    rw [comb_add, ← hw, h2, h1]; grind
theorem skip_ok (hs : s ≤ m) (ok : FsOk U (m + 1) F sa) : FsOk U m (skipF s F) sa := by
  refine ⟨by have := ok.n10; omega, ok.a1k, fun i hi => ?_, fun i hi k hk => ?_⟩
  · unfold skipF; split
    · exact ok.sz i (by omega)
    · exact ok.sz (i + 1) (by omega)
  · unfold skipF at hk
    split at hk
    · exact ok.u i (by omega) k hk
    · exact ok.u (i + 1) (by omega) k hk
theorem dot_sumN (G : Nat → Str → Rat) (c : Str → Rat) : dot U (fun k => sumN m fun i => G i k) c = sumN m fun i => dot U (G i) c := by
  have e : (fun k => sumN m fun i => G i k) = comb m G fun _ => 1 := funext fun k => (comb_ones k).symm
  rw [e, dot_N]
  exact sumN_congr fun i _ => by grind
theorem skip_dot (hs : s ≤ m) (h : ∀ k, φ k = sumN (m + 1) fun i => F i k) {c : Str → Rat} (h0 : ∀ i, i < m → dot U (skipF s F i) c = 0) : dot U φ c = dot U (F s) c := by
  have e : φ = fun k => (sumN m fun i => skipF s F i k) + F s k := funext (skip_sum hs h)
  rw [e, dot_add, dot_sumN, sumN_zero h0]; grind
theorem sum_nz {G : Nat → Rat} : ∀ {m : Nat}, sumN m G ≠ 0 → ∃ i, i < m ∧ G i ≠ 0 := fun {m} h => Classical.byContradiction fun z => h (sumN_zero fun i hi => Classical.byContradiction fun y => z ⟨i, hi, y⟩)
end
end LC
end LcLaw8
section LcLaw9
set_option maxHeartbeats 4000000
/-! One form hidden, walked. -/
namespace LC
open PySem L2
open He (ga ma)
open He5 (wf)
theorem skip_get {fx : List V} {s m : Nat} (hs : s ≤ m) (hl : fx.length = m + 1) {i : Nat} {v : V} (h : (fx.take s ++ fx.drop (s + 1))[i]? = some v) : (i < s ∧ fx[i]? = some v) ∨ (¬ i < s ∧ fx[i + 1]? = some v) := by
  have ht : (fx.take s).length = s := by rw [List.length_take]; omega
  by_cases hi : i < s
  · rw [List.getElem?_append_left (by omega), List.getElem?_take_of_lt hi] at h
    exact .inl ⟨hi, h⟩
  · rw [List.getElem?_append_right (by omega), ht, List.getElem?_drop, show s + 1 + (i - s) = i + 1 by omega] at h
    exact .inr ⟨hi, h⟩
section
variable {P : Program} {w : World} {K : PySem.W.Frag} {mg : Str → Option Value} {base : Heap} {U : List Str}
def spHid (K : PySem.W.Frag) (U : List Str) : Spc := fun vs B M Q => ∃ g lf vp, ∃ s m : Nat, ∃ F φ sa, vs = [.ref g, .ref lf, vp, .int s] ∧ BagAt B M g ∧ FormsAt K U B lf (m + 1) F ∧ FormAt K U B vp φ ∧ (∀ k, φ k = sumN (m + 1) fun i => F i k) ∧ s ≤ m ∧ FsOk U (m + 1) F sa ∧ AskOk U φ sa ∧ ∀ B' M', Lw g B M B' M' → Q (.bl true) B' M'
theorem pr_hid (S : SP P w K mg base U) : Pr P w K mg base 62 (ga K "_law_hidden_right") [] (spHid K U) := by
  have t := S.b.b.f.b.r.t
  have F0 := S.b.b.f
  have R := S.b.b.f.b.r
  refine pr_def t.f_law_hidden_right sc_law_hidden_right (fun _ _ _ _ _ _ us hl => match us, hl with | [_, _, _, _], _ => rfl) (by rintro _ _ _ _ ⟨g, lf, vp, s, m, F, φ, sa, rfl, _⟩; rfl) ?_
  rintro cdv A outer s0 H E vs B M Q hr ⟨g, lf, vp, s, m, F, φ, sa, rfl, hb, hF, hvp, hsum, hs, ok, ao, hq⟩
  obtain ⟨fx, hf1, hf2, hf3⟩ := id hF
  have n10 := ok.n10
  obtain ⟨vs', hvs⟩ : ∃ v, fx[s]? = some v := ⟨fx[s]'(by omega), List.getElem?_eq_getElem (by omega)⟩
  refine sm_cons <| s1_set 4 sc_law_hidden_right.nd <| em_op op_cat <| em_slU <| em_nm 1 <| em_nm 3 ⟨lf, fx, s, rfl, rfl, SqL.of (jn_b hf1), fun l1 b1 m1 => em_slL <| em_nm 1 <| em_op op_add <| em_nm 3 <| em_int <| om_I0 ⟨lf, fx, ((s + 1 : Nat) : Int), rfl, rfl, SqL.of (jn_b (Ex.up b1 _ _ hf1)), fun l2 b2 m2 => ?_⟩⟩
  rw [cutV_take] at b2
  rw [cutV_take, cutV_drop]
  have h1 : (upd (upd B l1 (.lst (fx.take s))) l2 (.lst (fx.drop (s + 1)))) l1 = some (.lst (fx.take s)) := (Ex.up b2) _ _ upd_same
  refine om_cat ⟨l1, l2, _, _, rfl, rfl, jn_b h1, jn_b upd_same, le_size (by rw [List.length_take, List.length_drop]; omega), fun lv bv mv => ?_⟩
  have x0 : Ex B (upd (upd (upd B l1 (.lst (fx.take s))) l2 (.lst (fx.drop (s + 1)))) lv (.lst (fx.take s ++ fx.drop (s + 1)))) := ((Ex.up b1).tr (Ex.up b2)).tr (Ex.up bv)
  have hlv : (upd (upd (upd B l1 (.lst (fx.take s))) l2 (.lst (fx.drop (s + 1)))) lv (.lst (fx.take s ++ fx.drop (s + 1)))) lv = some (.lst (fx.take s ++ fx.drop (s + 1))) := upd_same
  generalize upd (upd (upd B l1 (.lst (fx.take s))) l2 (.lst (fx.drop (s + 1)))) lv (.lst (fx.take s ++ fx.drop (s + 1))) = B1 at *
  have hO : FormsAt K U B1 lv m (skipF s F) := by
    refine ⟨_, hlv, by rw [List.length_append, List.length_take, List.length_drop]; omega, fun i v hi => ?_⟩
    unfold skipF
    rcases skip_get hs hf2 hi with ⟨h1, h2⟩ | ⟨h1, h2⟩
    · rw [if_pos h1]; exact (hf3 i v h2).up x0
    · rw [if_neg h1]; exact (hf3 (i + 1) v h2).up x0
  have okO := skip_ok hs ok
  have aoF : AskOk U (F s) sa := ⟨ok.sz s (by omega), ok.u s (by omega)⟩
  refine sm_cons <| s1_set 5 sc_law_hidden_right.nd <| em_Shown S hr <| em_nm 4 ⟨lv, m, skipF s F, sa, rfl, okO, hO, fun vr B2 l hB2 hsh => ?_⟩
  have x2 := x0.tr hB2
  have spq := skip_span hs hsum
  by_cases hsp : Span m (skipF s F) φ
  · have hspF := spq.mp hsp
    refine sm_cons <| s1_set 6 sc_law_hidden_right.nd <| Emt.imp (P := fun v B' M' => v = .non ∧ Lw g B2 M B' M') ?_ fun v B3 M3 _ ⟨ev, lw3⟩ => ?_
    · refine em_unseen S (hr.mono (by decide)) <| em_nm 5 ⟨m, skipF s F, sa, l, hsh, em_ixL <| em_lstB <| am_cons <| em_nm 2 <| am_cons <| em_ixL <| em_nm 1 <| em_nm 3 ⟨lf, fx, s, vs', rfl, rfl, SqL.of (jn_b (x2 _ _ hf1)), at_nat hvs, am_nil ⟨sl2, fun d bd md => em_draw t (hr.mono (by decide)) <| em_nm 0 <| em_int ⟨g, 2, rfl, rfl, hb.up (x2.tr (Ex.up bd)) rfl, by decide, by decide, fun r B3 M3 hr2 lw3 ho3 => ?_⟩⟩⟩⟩
      have lw := (Lw.refl (hb.up x2 rfl)).upB (Ex.up bd) |>.tr lw3
      have hd3 : B3 d = some (.lst [vp, vs']) := lw3.b _ _ upd_same
      match r, hr2 with
      | 0, _ => exact ⟨d, _, 0, vp, rfl, rfl, SqL.of (jn_b hd3), rfl, φ, hsh.up lw.b, okO, hvp.up (x2.tr lw.b), ao, fun B' hB' _ => ⟨rfl, lw.upB hB'⟩, fun B' d kvs ks c _ hn => absurd hsp hn⟩
      | 1, _ => exact ⟨d, _, 1, vs', rfl, rfl, SqL.of (jn_b hd3), rfl, F s, hsh.up lw.b, okO, (hf3 s vs' hvs).up (x2.tr lw.b), aoF, fun B' hB' _ => ⟨rfl, lw.upB hB'⟩, fun B' d kvs ks c _ hn => absurd hspF hn⟩
    subst ev
    have x3 := x2.tr lw3.b
    refine sm_cons <| s1_set 7 sc_law_hidden_right.nd <| em_lstB <| am_cons <| em_weights S (hr.mono (by decide)) <| em_nm 5 ⟨m, skipF s F, sa, l, hsh.up lw3.b, em_nm 2 ⟨φ, hsh.up lw3.b, okO, hvp.up x3, ao, fun B' _ hn => absurd hsp hn, fun B4 w1 c1 hB4 hw1 hc1 sz1 => am_cons <| em_weights S (hr.mono (by decide)) <| em_nm 5 ⟨m, skipF s F, sa, l, hsh.up (lw3.b.tr hB4), em_ixL <| em_nm 1 <| em_nm 3 ⟨lf, fx, s, vs', rfl, rfl, SqL.of (jn_b ((x3.tr hB4) _ _ hf1)), at_nat hvs, F s, hsh.up (lw3.b.tr hB4), okO, (hf3 s vs' hvs).up (x3.tr hB4), aoF, fun B' _ hn => absurd hspF hn, fun B5 w2 c2 hB5 hw2 hc2 sz2 => am_nil ⟨sl2, fun lt bt mt => ?_⟩⟩⟩⟩⟩
    have x5 : Ex B3 (upd B5 lt (.lst [w1, w2])) := (hB4.tr hB5).tr (Ex.up bt)
    have hlt : (upd B5 lt (.lst [w1, w2])) lt = some (.lst [w1, w2]) := upd_same
    have hw1' : RatsAt K (upd B5 lt (.lst [w1, w2])) w1 m c1 := hw1.up (hB5.tr (Ex.up bt))
    have hw2' : RatsAt K (upd B5 lt (.lst [w1, w2])) w2 m c2 := hw2.up (Ex.up bt)
    generalize upd B5 lt (.lst [w1, w2]) = B6 at *
    have x6 := x3.tr x5
    have xO : Ex B1 B6 := (hB2.tr lw3.b).tr x5
    have hz1 : decide (w1 = V.non) = false := by obtain ⟨a, _, e, _⟩ := hw1; rw [e]; rfl
    have hz2 : decide (w2 = V.non) = false := by obtain ⟨a, _, e, _⟩ := hw2; rw [e]; rfl
    refine sm_cons <| s1_if <| tm_w <| wm_or <| tm_cmp op_ne <| em_isN <| em_ixL <| em_nm 7 <| em_int ⟨lt, _, 0, w1, rfl, rfl, SqL.of (jn_b hlt), rfl, em_isN <| em_ixL <| em_nm 7 <| em_int ⟨lt, _, 1, w2, rfl, rfl, SqL.of (jn_b hlt), rfl, ?_⟩⟩
    rw [hz1, hz2]
    refine om_ne rfl ⟨false, rfl, iff' rfl <| wm_or1 <| tm_cmp op_eq <| em_isN <| em_ixL <| em_nm 7 <| em_int ⟨lt, _, 0, w1, rfl, rfl, SqL.of (jn_b hlt), rfl, em_isN <| em_nm 6 ?_⟩⟩
    rw [hz1]
    refine om_eq rfl ⟨false, rfl, iff' rfl <| sm_nil ?_⟩
    refine sm_cons <| s1_if <| tm_w <| wm_and <| tm_notN <| em_ixL <| em_nm 7 <| em_int ⟨lt, _, 0, w1, rfl, rfl, SqL.of (jn_b hlt), rfl, ?_⟩
    rw [hz1]
    refine ift rfl <| wm_and1 <| tm_notN <| em_ixL <| em_nm 7 <| em_int ⟨lt, _, 1, w2, rfl, rfl, SqL.of (jn_b hlt), rfl, ?_⟩
    rw [hz2]
    have aszOf : ∀ {c : Nat → Rat}, (∀ j, Sb 1100000 (c j)) → AddSz m (skipF s F) c := fun {c} hc => addSz (a := 1001) (by omega) (fun i hi k => ((okO.sz i hi).sb k).mono (by have := ok.a1k; omega)) (fun i _ => hc i) (by decide)
    have aFz : ∀ {ψ : Str → Rat}, AskOk U ψ sa → SzF ψ := fun {ψ} h k => (h.sz.sb k).sz (by have := ok.a1k; omega)
    have a1 := aszOf sz1
    have a2 := aszOf sz2
    refine ift rfl <| sm_one <| s1_ret <| em_and <| em_Fsame F0 (hr.mono (by decide)) <| em_call (pr_added F0) (hr.mono (by decide)) t.g_law_added <| am_cons <| em_nm 4 <| am_cons <| em_ixL <| em_nm 7 <| em_int ⟨lt, _, 0, w1, rfl, rfl, SqL.of (jn_b hlt), rfl, am_nil ⟨lv, w1, m, skipF s F, c1, rfl, hO.up xO, hw1'.nums, by omega, a1, fun v7 B7 hB7 hv7 => ⟨_, hv7, em_nm 2 ⟨φ, hvp.up (x6.tr hB7), fun k => a1.s m (Nat.le_refl _) k, aFz ao, fun B8 r8 hB8 hr8 => ⟨r8, rfl, ift (hr8.mpr fun k => (hc1 k).symm) ?_⟩⟩⟩⟩⟩
    have x8 : Ex B6 B8 := hB7.tr hB8
    refine em_one <| em_Fsame F0 (hr.mono (by decide)) <| em_call (pr_added F0) (hr.mono (by decide)) t.g_law_added <| am_cons <| em_nm 4 <| am_cons <| em_ixL <| em_nm 7 <| em_int ⟨lt, _, 1, w2, rfl, rfl, SqL.of (jn_b (x8 _ _ hlt)), rfl, am_nil ⟨lv, w2, m, skipF s F, c2, rfl, hO.up (xO.tr x8), (hw2'.up x8).nums, by omega, a2, fun v9 B9 hB9 hv9 => ⟨_, hv9, em_ixL <| em_nm 1 <| em_nm 3 ⟨lf, fx, s, vs', rfl, rfl, SqL.of (jn_b (((x6.tr x8).tr hB9) _ _ hf1)), at_nat hvs, F s, (hf3 s vs' hvs).up ((x6.tr x8).tr hB9), fun k => a2.s m (Nat.le_refl _) k, aFz aoF, fun B10 r10 hB10 hr10 => ?_⟩⟩⟩⟩
    have e10 : r10 = true := hr10.mpr fun k => (hc2 k).symm
    rw [e10]
    have lwF := ((Lw.refl hb).upB x2).tr (lw3.upB (((x5.tr x8).tr hB9).tr hB10))
    exact hq _ _ lwF
  · have hspF : ¬ Span m (skipF s F) (F s) := fun h => hsp (spq.mpr h)
    refine sm_cons <| s1_set 6 sc_law_hidden_right.nd <| Emt.imp (P := fun v B' M' => Lw g B2 M B' M' ∧ ∃ d kvs ks c, v = .ref d ∧ B' d = some (.dK kvs) ∧ KvR (fun k v B => RatAt K B v (c k)) kvs ks B' ∧ (∀ k, φ k ≠ 0 → k ∈ ks) ∧ dot U φ c ≠ 0 ∧ ∀ k, Sb 1100000 (c k)) ?_ fun v B3 M3 _ ⟨lw3, d, kvs, ks, c, ev, hd, hkv, hsup, hdot, hcs⟩ => ?_
    · refine em_unseen S (hr.mono (by decide)) <| em_nm 5 ⟨m, skipF s F, sa, l, hsh, em_ixL <| em_lstB <| am_cons <| em_nm 2 <| am_cons <| em_ixL <| em_nm 1 <| em_nm 3 ⟨lf, fx, s, vs', rfl, rfl, SqL.of (jn_b (x2 _ _ hf1)), at_nat hvs, am_nil ⟨sl2, fun d bd md => em_draw t (hr.mono (by decide)) <| em_nm 0 <| em_int ⟨g, 2, rfl, rfl, hb.up (x2.tr (Ex.up bd)) rfl, by decide, by decide, fun r B3 M3 hr2 lw3 ho3 => ?_⟩⟩⟩⟩
      have lw := (Lw.refl (hb.up x2 rfl)).upB (Ex.up bd) |>.tr lw3
      have hd3 : B3 d = some (.lst [vp, vs']) := lw3.b _ _ upd_same
      match r, hr2 with
      | 0, _ => exact ⟨d, _, 0, vp, rfl, rfl, SqL.of (jn_b hd3), rfl, φ, hsh.up lw.b, okO, hvp.up (x2.tr lw.b), ao, fun B' _ h => absurd h hsp, fun B' d kvs ks c hB' _ h1 h2 h3 h4 h5 h6 h7 => ⟨lw.upB hB', d, kvs, ks, c, rfl, h1, h2, h3, h6, h7⟩⟩
      | 1, _ =>
        refine ⟨d, _, 1, vs', rfl, rfl, SqL.of (jn_b hd3), rfl, F s, hsh.up lw.b, okO, (hf3 s vs' hvs).up (x2.tr lw.b), aoF, fun B' _ h => absurd h hspF, fun B' d kvs ks c hB' _ h1 h2 h3 h4 h5 h6 h7 => ⟨lw.upB hB', d, kvs, ks, c, rfl, h1, h2, fun k hk => ?_, by rw [skip_dot hs hsum h5]; exact h6, h7⟩⟩
        by_cases e : F s k = 0
        · rw [skip_sum hs hsum, e, Rat.add_zero] at hk
          obtain ⟨i, hi, hne⟩ := sum_nz hk
          exact h4 i hi k hne
        · exact h3 k e
    subst ev
    have x3 := x2.tr lw3.b
    refine sm_cons <| s1_set 7 sc_law_hidden_right.nd <| em_lstB <| am_cons <| em_weights S (hr.mono (by decide)) <| em_nm 5 ⟨m, skipF s F, sa, l, hsh.up lw3.b, em_nm 2 ⟨φ, hsh.up lw3.b, okO, hvp.up x3, ao, fun B4 hB4 _ => am_cons <| em_weights S (hr.mono (by decide)) <| em_nm 5 ⟨m, skipF s F, sa, l, hsh.up (lw3.b.tr hB4), em_ixL <| em_nm 1 <| em_nm 3 ⟨lf, fx, s, vs', rfl, rfl, SqL.of (jn_b ((x3.tr hB4) _ _ hf1)), at_nat hvs, F s, hsh.up (lw3.b.tr hB4), okO, (hf3 s vs' hvs).up (x3.tr hB4), aoF, fun B5 hB5 _ => am_nil ⟨sl2, fun lt bt mt => ?_⟩, fun B5 w2 c2 hB5 hw2 hc2 sz2 => absurd ⟨c2, hc2⟩ hspF⟩⟩, fun B4 w1 c1 hB4 hw1 hc1 sz1 => absurd ⟨c1, hc1⟩ hsp⟩⟩
    have x5 : Ex B3 (upd B5 lt (.lst [V.non, V.non])) := (hB4.tr hB5).tr (Ex.up bt)
    have hlt : (upd B5 lt (.lst [V.non, V.non])) lt = some (.lst [V.non, V.non]) := upd_same
    generalize upd B5 lt (.lst [V.non, V.non]) = B6 at *
    have x6 := x3.tr x5
    refine sm_cons <| s1_if <| tm_w <| wm_or <| tm_cmp op_ne <| em_isN <| em_ixL <| em_nm 7 <| em_int ⟨lt, _, 0, .non, rfl, rfl, SqL.of (jn_b hlt), rfl, em_isN <| em_ixL <| em_nm 7 <| em_int ⟨lt, _, 1, .non, rfl, rfl, SqL.of (jn_b hlt), rfl, ?_⟩⟩
    refine om_ne rfl ⟨false, rfl, iff' rfl <| wm_or1 <| tm_cmp op_eq <| em_isN <| em_ixL <| em_nm 7 <| em_int ⟨lt, _, 0, .non, rfl, rfl, SqL.of (jn_b hlt), rfl, em_isN <| em_nm 6 ?_⟩⟩
    refine om_eq rfl ⟨false, rfl, iff' rfl <| sm_nil ?_⟩
    refine sm_cons <| s1_if <| tm_w <| wm_and <| tm_notN <| em_ixL <| em_nm 7 <| em_int ⟨lt, _, 0, .non, rfl, rfl, SqL.of (jn_b hlt), rfl, iff' rfl <| iff' rfl <| sm_nil ?_⟩
    refine sm_cons <| s1_set 8 sc_law_hidden_right.nd <| em_R1 R (hr.mono (by decide)) <| em_int ⟨0, rfl, fun vt B7 hB7 hvt => ?_⟩
    refine sm_cons <| s1_for PassesOwn.never rfl <| em_names F0.b (hr.mono (by decide)) <| em_nm 2 ⟨φ, hvp.up (x6.tr hB7), fun B8 l8 ks8 hB8 hl8 nd8 hu8 hz8 => ?_⟩
    have x8 : Ex B3 B8 := (x5.tr hB7).tr hB8
    have hlen : ks8.length ≤ 29 := by
      have := nodup_len nd8 hu8
      have := F0.b.u.len
      omega
    refine ⟨l8, _, rfl, SqL.of (jn_b hl8), fun i σ B' M' => ∃ vt o, σ = [some (.ref g), some (.ref lf), some vp, some (.int s), some (.ref lv), some vr, some (.ref d), some (.ref lt), some vt, o] ∧ M' = M3 ∧ Ex B8 B' ∧ RatAt K B' vt (rsum ((ks8.take i).map fun k => φ k * c k)) ∧ Sb (i * 1101002 + 1) (rsum ((ks8.take i).map fun k => φ k * c k)), ⟨vt, _, rfl, rfl, Ex.id', hvt.up hB8, Sb.zero.mono (by omega)⟩, ?_, ?_, ?_⟩
    · rintro i σ B' M' _ ⟨vt, o, rfl, rfl, hB, _⟩
      exact SqL.of (jn_b (hB _ _ hl8))
    · rintro i y σ B' M' hi _ ⟨vt, o, rfl, rfl, hB, hvt, szt⟩
      obtain ⟨name, rfl, hni⟩ := strs_at hi
      have hil : i < ks8.length := (List.getElem?_eq_some_iff.mp hni).1
      have hpk := hsup name ((hz8 name).mp (List.mem_of_getElem? hni))
      obtain ⟨u, hu, hur⟩ := hkv.some hpk
      have sφ : Sb 1001 (φ name) := (ao.sz.sb name).mono (by have := ok.a1k; omega)
      have sp := sφ.mul (hcs name)
      have e : (ks8.take (i + 1)).map (fun k => φ k * c k) = (ks8.take i).map (fun k => φ k * c k) ++ [φ name * c name] := by
        rw [take1 hni, List.map_append]; rfl
      have e2 : rsum ((ks8.take (i + 1)).map fun k => φ k * c k) = rsum ((ks8.take i).map fun k => φ k * c k) + φ name * c name := by
        rw [e, rsum_append]; show _ + (_ + 0) = _; grind
      have sN := szt.add sp
      refine gm_name 9 sc_law_hidden_right.nd <| sm_one <| s1_set 8 sc_law_hidden_right.nd <| em_Radd R (hr.mono (by decide)) <| em_nm 8 <| em_Rmul R (hr.mono (by decide)) <| em_share F0.b (hr.mono (by decide)) <| em_nm 2 ⟨φ, hvp.up ((x3.tr x8).tr hB), em_nm 9 ⟨name, rfl, fun v9 B9 hB9 hv9 => em_dget (u1 hr) <| em_nm 6 <| em_nm 9 ⟨d, u, rfl, .inl ⟨kvs, .inr name, .inl (jn_b (((x8.tr hB).tr hB9) _ _ hd)), rfl, hu.symm⟩, φ name, c name, hv9, (hur.up ((x8.tr hB).tr hB9)).num, sφ.sz (by decide), (hcs name).sz (by decide), fun v10 B10 hB10 hv10 => ?_⟩⟩⟩
      refine ⟨_, _, .inr ⟨hvt.up (hB9.tr hB10), hv10.num⟩, szt.sz (by omega), sp.sz (by decide), fun v11 B11 hB11 hv11 => ⟨v11, _, rfl, rfl, ((hB.tr hB9).tr hB10).tr hB11, ?_, ?_⟩⟩
      · rw [e2]; exact hv11
      · rw [e2]; exact sN.mono (by omega)
    · rintro σ B' M' _ ⟨vt, o, rfl, rfl, hB, hvt, szt⟩
      have e : rsum (((ks8.take (ks8.map V.str).length).map fun k => φ k * c k)) = dot U φ c := by
        rw [List.length_map, List.take_length]
        exact dot_ks F0.b.u.nd nd8 hu8 hz8
      rw [e] at hvt
      refine sm_one <| s1_ret <| em_cmp op_ne <| em_rtop t <| em_nm 8 ⟨_, hvt, em_int <| om_ne rfl ?_⟩
      have hne : (dot U φ c).num ≠ 0 := fun z => hdot (Rat.num_eq_zero.mp z)
      have hd' : decide (V.int (dot U φ c).num = V.int 0) = false := df (vint_ne hne)
      rw [hd']
      exact hq _ _ (((Lw.refl hb).upB x2).tr (lw3.upB (x8.tr hB)))
end
end LC
end LcLaw9
section LcLaw10
set_option maxHeartbeats 4000000
set_option exponentiation.threshold 1000
/-! The law: plain facts. -/
namespace LC
open PySem L2
open He (ga ma)
open He5 (wf)
/-! ### sums -/
theorem lsum_ix {α : Type} {L : List α} {f : α → Rat} {g : Option α → Rat} (hg : ∀ x, g (some x) = f x) : lsum L f = sumN L.length fun i => g L[i]? := by
  have h : ∀ i, i ≤ L.length → lsum (L.take i) f = sumN i fun i => g L[i]? := by
    intro i
    induction i with
    | zero => intro _; rfl
    | succ i ih =>
      intro hi
      have e : L[i]? = some L[i] := List.getElem?_eq_getElem hi
      rw [take1 e, lsum_append, ih (by omega)]
      show _ + (f L[i] + 0) = sumN i _ + g L[i]?
      rw [e, hg]; grind
  have := h L.length (Nat.le_refl _)
  rwa [List.take_length] at this
theorem lsum_perm {α : Type} {L L' : List α} (h : L.Perm L') (f : α → Rat) : lsum L f = lsum L' f := rsum_perm (h.map f)
theorem rsum_sb {α : Type} {a : Nat} {f : α → Rat} : ∀ {l : List α}, (∀ x ∈ l, Sb a (f x)) → Sb (l.length * (a + 1) + 1) (rsum (l.map f))
  | [], _ => Sb.zero.mono (by simp)
  | x :: l, h => by
    have h1 := h x (List.mem_cons_self ..)
    have h2 := rsum_sb (l := l) fun y hy => h y (List.mem_cons_of_mem _ hy)
    show Sb _ (f x + rsum (l.map f))
    refine (h1.add h2).mono ?_
    rw [List.length_cons, Nat.add_mul]; omega
/-! ### names of the sales -/
theorem nm_nd (kind : Str) : ∀ {es : Ens} {f : List Str}, f.Nodup → (es.foldl (nmStep kind) f).Nodup
  | [], f, h => h
  | e :: es, f, h => by
    refine nm_nd kind (es := es) (f := nmStep kind f e) ?_
    unfold nmStep
    split
    · rename_i q
      exact List.nodup_append.mpr ⟨h, by simp, fun x hx y hy e => q.2 (by rw [← List.mem_singleton.mp hy, ← e]; exact hx)⟩
    · exact h
theorem nm_mem (kind : Str) {n : Str} : ∀ {es : Ens} {f : List Str}, n ∈ es.foldl (nmStep kind) f ↔ n ∈ f ∨ ∃ e ∈ es, e.2.kind = kind ∧ e.2.name = n
  | [], f => by simp
  | e :: es, f => by
    show n ∈ es.foldl (nmStep kind) (nmStep kind f e) ↔ _
    rw [nm_mem kind (es := es)]
    unfold nmStep
    constructor
    · rintro (h | ⟨x, hx, h1, h2⟩)
      · split at h
        · rename_i q
          rcases List.mem_append.mp h with h | h
          · exact .inl h
          · exact .inr ⟨e, List.mem_cons_self .., q.1, (List.mem_singleton.mp h).symm⟩
        · exact .inl h
      · exact .inr ⟨x, List.mem_cons_of_mem _ hx, h1, h2⟩
    · rintro (h | ⟨x, hx, h1, h2⟩)
      · left; split
        · exact List.mem_append_left _ h
        · exact h
      · rcases List.mem_cons.mp hx with hx | hx
        · subst hx
          left; split
          · exact List.mem_append_right _ (by rw [h2]; exact List.mem_singleton.mpr rfl)
          · rename_i q
            refine Classical.byContradiction fun z => q ⟨h1, fun m => z (by rw [← h2]; exact m)⟩
        · exact .inr ⟨x, hx, h1, h2⟩
theorem sales_mem {es : Ens} {n : Str} : n ∈ namesOf "sell" es ↔ n ∈ (runB es).sales := by
  unfold namesOf
  rw [nm_mem, run_sales]
  constructor
  · rintro (h | ⟨⟨p, e⟩, he, h1, h2⟩)
    · exact absurd h List.not_mem_nil
    · cases e with
      | buy m u => exact absurd (show ("buy" : Str) = "sell" from h1) (by decide)
      | sell m u => exact ⟨p, u, by rw [← h2]; exact he⟩
      | back m u => exact absurd (show ("back" : Str) = "sell" from h1) (by decide)
      | late m u => exact absurd (show ("late" : Str) = "sell" from h1) (by decide)
  · rintro ⟨p, u, h⟩
    exact .inr ⟨_, h, rfl, rfl⟩
theorem sales_nd (es : Ens) : (namesOf "sell" es).Nodup := nm_nd _ List.nodup_nil
theorem nd_perm {L L' : List Str} (h1 : L.Nodup) (h2 : L'.Nodup) (h : ∀ x, x ∈ L ↔ x ∈ L') : L.Perm L' := (List.perm_ext_iff_of_nodup h1 h2).mpr h
/-! ### forms -/
theorem FormAt.u {K : PySem.W.Frag} {U : List Str} {B : Hp} {v : V} {φ : Str → Rat} (h : FormAt K U B v φ) (k : Str) (hk : φ k ≠ 0) : k ∈ U := by
  obtain ⟨a, dx, d, ks, _, _, s⟩ := h
  exact s.sub k ((s.nz k).mpr hk)
theorem szo_of {D : Nat} (d : DOk D) {φ : Str → Rat} (h : ∀ k, IntD (D * D) (φ k) ∧ -(100000000 : Nat) ≤ φ k ∧ φ k ≤ (100000000 : Nat)) : SzO 500 φ := by
  have hD : D * D < 2 ^ 440 := by
    have := Nat.mul_lt_mul'' d.hi d.hi
    rwa [← Nat.pow_add] at this
  refine ⟨D * D, Nat.mul_pos d.pos d.pos, Nat.lt_of_lt_of_le hD (Nat.pow_le_pow_right (by decide) (by decide)), fun k => ((h k).1.cn (h k).2.1 (h k).2.2).mono ?_⟩
  have : 100000000 * (D * D) < 2 ^ 27 * 2 ^ 440 := Nat.mul_lt_mul_of_le_of_lt (by decide) hD (by decide)
  rw [← Nat.pow_add] at this
  exact Nat.le_of_lt (Nat.lt_of_lt_of_le this (Nat.pow_le_pow_right (by decide) (by decide)))
/-- the form at a spot: a sale's cost, or the stock's -/
def formF (ub : Str → Nat) (lo : Str → Str) (L : List Str) (S : List Str) (sp : Str → List Part) (stk : List Part) (i : Nat) (k : Str) : Rat := cost ub lo L ((S[i]?.map sp).getD stk) k
structure LawF (S : List Str) (F : Nat → Str → Rat) (φ β : Str → Rat) : Prop where
  m9 : S.length ≤ 9
  szF : ∀ i, SzO 500 (F i)
  nn : ∀ i k, 0 ≤ F i k
  szφ : SzO 500 φ
  szβ : SzO 500 β
  tot : ∀ k, φ k = sumN (S.length + 1) fun i => F i k
  bk : ∀ k, β k = sumN S.length fun i => F i k
theorem lawF {ub : Str → Nat} {lo : Str → Str} {es ws : Ens} {D n : Nat} {stk : List Part} {sp : Str → List Part} {ff : Pl → Str → Rat} (hw : Wk es ws) (hl : ws.length ≤ 9) (h : CoI ub lo ws.length D n (runB ws) stk sp (ws.map (·.1)) ff) :
    LawF (namesOf "sell" es) (formF ub lo (runB ws).lates (namesOf "sell" es) sp stk) (paidF ub (runB ws).lots (runB ws).lates) (fun k => lsum (ws.map (·.1)) fun p => ff p k) := by
  have dk := h.dok hl
  have pm : (namesOf "sell" es).Perm (runB ws).sales := nd_perm (sales_nd es) h.ndS fun x => by
    rw [sales_mem, run_sales, run_sales]
    constructor
    · rintro ⟨p, u, q⟩; exact ⟨p, u, hw.perm.mem_iff.mpr q⟩
    · rintro ⟨p, u, q⟩; exact ⟨p, u, hw.perm.mem_iff.mp q⟩
  have lyOf : ∀ i : Nat, Ly (runB ws).lots D n (((namesOf "sell" es)[i]?.map sp).getD stk) := fun i => by
    cases q : (namesOf "sell" es)[i]? with
    | none => exact h.ls
    | some s => exact h.la s (pm.mem_iff.mp (List.mem_of_getElem? q))
  have cok : ∀ (i : Nat) (k : Str), 0 ≤ formF ub lo (runB ws).lates (namesOf "sell" es) sp stk i k ∧ formF ub lo (runB ws).lates (namesOf "sell" es) sp stk i k ≤ (10000000 : Nat) ∧ IntD (D * D) (formF ub lo (runB ws).lates (namesOf "sell" es) sp stk i k) := fun i k =>
    cost_ok (lyOf i) h.ndT (fun l hl hl' => h.dis l hl' hl) (fun l hl => (h.u1 l hl).1) h.uD
  have m0 : -((10000000 : Nat) : Rat) ≤ 0 := by decide
  have psum : ∀ f : Str → Rat, lsum (runB ws).sales f = lsum (namesOf "sell" es) f := fun f => lsum_perm pm.symm f
  have hsum : ∀ k, (lsum (runB ws).sales fun s => cost ub lo (runB ws).lates (sp s) k) = sumN (namesOf "sell" es).length fun i => formF ub lo (runB ws).lates (namesOf "sell" es) sp stk i k := fun k => by
    rw [psum]
    exact lsum_ix (g := fun o => cost ub lo (runB ws).lates ((o.map sp).getD stk) k) fun x => rfl
  refine ⟨?_, fun i => szo_of dk fun k => ?_, fun i k => (cok i k).1, szo_of dk fun k => ?_, szo_of dk fun k => ?_, fun k => ?_, fun k => ?_⟩
  · have := h.ll
    rw [pm.length_eq]; omega
  · obtain ⟨h1, h2, h3⟩ := cok i k
    exact ⟨h3, (b87 (Rat.le_trans m0 h1) h2).1, (b87 (Rat.le_trans m0 h1) h2).2⟩
  · obtain ⟨m, h1, h2⟩ := paid_sm (ub := ub) h.ndL h.ndT (fun l hl => (h.u1 l hl).2) k
    rw [h2]
    have b1 : (m : Rat) ≤ ((10000000 : Nat) : Rat) := nat_le_rat h1
    have b0 : (0 : Rat) ≤ (m : Rat) := by exact_mod_cast Nat.zero_le m
    exact ⟨IntD.nat m, (b87 (Rat.le_trans m0 b0) b1).1, (b87 (Rat.le_trans m0 b0) b1).2⟩
  · have := h.sums hl ws.length k
    have e : (ws.map (·.1)).take ws.length = ws.map (·.1) := by
      have : (ws.map (·.1)).length = ws.length := List.length_map ..
      rw [← this, List.take_length]
    rwa [e] at this
  · have := cost_total (ub := ub) (lo := lo) (L := (runB ws).lates) h.co h.ndL h.ndT h.lok (fun l hl => (h.u1 l hl).1) k
    rw [← this, hsum]
    show _ = sumN _ _ + formF ub lo (runB ws).lates (namesOf "sell" es) sp stk (namesOf "sell" es).length k
    congr 1
    unfold formF
    rw [List.getElem?_eq_none (Nat.le_refl _)]; rfl
  · show (lsum (ws.map (·.1)) fun p => ff p k) = _
    rw [h.bk, hsum]
/-- everything paid, in either order -/
theorem paid_same {ub : Str → Nat} {es ws : Ens} (hw : Wk es ws) (e1 : (runB es).lots.Nodup) (e2 : (runB es).lates.Nodup) (w1 : (runB ws).lots.Nodup) (w2 : (runB ws).lates.Nodup) (k : Str) : paidF ub (runB es).lots (runB es).lates k = paidF ub (runB ws).lots (runB ws).lates k := by
  have m1 : k ∈ (runB es).lots ↔ k ∈ (runB ws).lots := by
    rw [run_lots, run_lots]
    exact ⟨fun ⟨p, u, q⟩ => ⟨p, u, hw.perm.mem_iff.mpr q⟩, fun ⟨p, u, q⟩ => ⟨p, u, hw.perm.mem_iff.mp q⟩⟩
  have m2 : k ∈ (runB es).lates ↔ k ∈ (runB ws).lates := by
    rw [run_lates, run_lates]
    exact ⟨fun ⟨p, u, q⟩ => ⟨p, u, hw.perm.mem_iff.mpr q⟩, fun ⟨p, u, q⟩ => ⟨p, u, hw.perm.mem_iff.mp q⟩⟩
  unfold paidF
  rw [lots_val e1, lates_val e2, lots_val w1, lates_val w2]
  by_cases a : k ∈ (runB es).lots <;> by_cases b : k ∈ (runB es).lates <;> simp [a, b, m1.symm, m2.symm]
/-- a costing at a later turn of the law -/
theorem CoM.lw {K : PySem.W.Frag} {U : List Str} {ub : Str → Nat} {lo : Str → Str} {B B' M M' : Hp} {A : Ad} {rv : V} {b : Bk} {stk : List Part} {sp : Str → List Part} {pls : List Pl} {ff : Pl → Str → Rat} {g : Addr} (h : CoM K U ub lo B M A rv b stk sp pls ff) (x : Ex B B') (bg : BagAt B M g) (o : ∀ q, q ≠ g → M q ≠ none → M' q = M q) : CoM K U ub lo B' M' A rv b stk sp pls ff := by
  obtain ⟨lb, nb, ib, bb, mb, cb, hM, hBb⟩ := bg
  have key : ∀ {q : Addr} {z : HO}, M q = some z → (∀ xs, z ≠ .lst xs) → M' q = some z := fun {q z} hq hz => by
    rw [o q (fun e => hz _ (by rw [e, hM] at hq; injection hq with hq; exact hq.symm)) (by rw [hq]; intro z; cases z)]; exact hq
  obtain ⟨⟨sv, h1, h2⟩, ⟨k1, h3, h4⟩, ⟨k2, h5, h6⟩, ⟨k3, h7, h8⟩, ⟨k4, h9, h10⟩, n1, n2, n3⟩ := h
  exact ⟨⟨sv, key h1 (fun xs e => by cases e), h2.up x⟩, ⟨k1, key h3 (fun xs e => by cases e), h4.up fun _ _ z => z⟩, ⟨k2, key h5 (fun xs e => by cases e), h6.up fun _ _ z => z⟩, ⟨k3, key h7 (fun xs e => by cases e), h8.up fun _ _ z => z.up x⟩, ⟨k4, key h9 (fun xs e => by cases e), h10.up fun _ _ z => z.up x⟩, n1, n2, n3⟩
end LC
end LcLaw10
section LcLaw11
set_option maxHeartbeats 4000000
set_option exponentiation.threshold 1000
/-! The law: helpers of its walk. -/
namespace LC
open PySem L2
open He (ga ma)
open He5 (wf)
theorem lawG {ub : Str → Nat} {lo : Str → Str} {es ws : Ens} {D n : Nat} {stk : List Part} {sp : Str → List Part} {ff : Pl → Str → Rat} (hw : Wk es ws) (hl : ws.length ≤ 9) (h : CoI ub lo ws.length D n (runB (ws.take ws.length)) stk sp ((ws.take ws.length).map (·.1)) ff) (e1 : (runB es).lots.Nodup) (e2 : (runB es).lates.Nodup) :
    ∃ F φ β, LawF (namesOf "sell" es) F φ β ∧ (∀ (i : Nat) name, (namesOf "sell" es)[i]? = some name → name ∈ (runB (ws.take ws.length)).sales ∧ ∀ k, cost ub lo (runB (ws.take ws.length)).lates (sp name) k = F i k) ∧ (∀ k, cost ub lo (runB (ws.take ws.length)).lates stk k = F (namesOf "sell" es).length k) ∧
      (∀ k, paidF ub (runB (ws.take ws.length)).lots (runB (ws.take ws.length)).lates k = φ k) ∧ (∀ k, paidF ub (runB es).lots (runB es).lates k = φ k) ∧ ∀ k, lsum ((ws.take ws.length).map (·.1)) (fun p => ff p k) = β k := by
  rw [List.take_length] at h ⊢
  refine ⟨_, _, _, lawF hw hl h, fun i name hi => ⟨?_, fun k => ?_⟩, fun k => ?_, fun k => rfl, fun k => paid_same hw e1 e2 h.ndL h.ndT k, fun k => rfl⟩
  · rw [run_sales]
    obtain ⟨p, u, q⟩ := run_sales.mp (sales_mem.mp (List.mem_of_getElem? hi))
    exact ⟨p, u, hw.perm.mem_iff.mpr q⟩
  · unfold formF; rw [hi]; rfl
  · unfold formF; rw [List.getElem?_eq_none (Nat.le_refl _)]; rfl
theorem rsum_rng (f : Nat → Rat) : ∀ n, rsum ((List.range n).map f) = sumN n f
  | 0 => rfl
  | n + 1 => by
    rw [List.range_succ, List.map_append, rsum_append, rsum_rng f n]
    show _ + (f n + 0) = sumN n f + f n
    grind
section
variable {S : List Str} {F : Nat → Str → Rat} {φ β : Str → Rat} (h : LawF S F φ β)
include h
theorem LawF.sup {i : Nat} (hi : i ≤ S.length) {k : Str} (hk : F i k ≠ 0) : φ k ≠ 0 := fun z => hk (by
  have e := h.tot k
  rw [z] at e
  have : ∀ n, (∀ j, j < n → 0 ≤ F j k) → sumN n (fun j => F j k) = 0 → ∀ j, j < n → F j k = 0 := by
    intro n
    induction n with
    | zero => intro _ _ j hj; omega
    | succ n ih =>
      intro hn e j hj
      have e' : sumN n (fun j => F j k) + F n k = 0 := e
      have h1 : 0 ≤ sumN n (fun j => F j k) := by
        clear ih e e'
        have : ∀ m, m ≤ n → 0 ≤ sumN m (fun j => F j k) := by
          intro m
          induction m with
          | zero => intro _; exact Rat.le_refl
          | succ m ih2 =>
            intro hm
            show 0 ≤ sumN m _ + F m k
            have a := ih2 (by omega)
            have b := hn m (by omega)
            grind
        exact this n (Nat.le_refl _)
      have h2 := hn n (by omega)
      by_cases q : j = n
      · subst q; grind
      · exact ih (fun j hj => hn j (by omega)) (by grind) j (by omega)
  exact this _ (fun j _ => h.nn j k) e.symm i (by omega))
theorem LawF.sb (i : Nat) (k : Str) : Sb 501 (F i k) := (h.szF i).sb k
theorem LawF.sbφ (k : Str) : Sb 501 (φ k) := h.szφ.sb k
theorem LawF.sbβ (k : Str) : Sb 501 (β k) := h.szβ.sb k
end
section
variable {U : List Str} {φ p : Str → Rat} (hU : U.length ≤ 9) (hφ : ∀ k, Sb 501 (φ k)) (hp : ∀ k, Sb 6 (p k))
include hφ hp
theorem price_prod (k : Str) : Sb 507 (φ k * p k) := (hφ k).mul (hp k)
include hU
theorem price_list {l : List Str} (nd : l.Nodup) (hl : ∀ k ∈ l, k ∈ U) : Sb 10000 (rsum (l.map fun k => φ k * p k)) := by
  have h1 := nodup_len nd hl
  refine (rsum_sb (a := 507) (l := l) fun k _ => price_prod hφ hp k).mono ?_
  have : l.length * 508 ≤ 9 * 508 := Nat.mul_le_mul_right _ (by omega)
  omega
theorem price_dot : Sb 10000 (dot U φ p) := by
  refine (rsum_sb (a := 507) (l := U) fun k _ => price_prod hφ hp k).mono ?_
  have : U.length * 508 ≤ 9 * 508 := Nat.mul_le_mul_right _ hU
  omega
end
theorem dot_fit {U : List Str} {n : Nat} {F : Nat → Str → Rat} {c : Nat → Rat} {p : Str → Rat} {ψ : Str → Rat} (h : ∀ k, ψ k = comb n F c k) : sumN n (fun i => c i * dot U (F i) p) = dot U ψ p := by
  have e : ψ = comb n F c := funext h
  rw [e, dot_N]
theorem dot_zero {U : List Str} {p : Str → Rat} : dot U (fun _ => 0) p = 0 := lsum_zero fun k _ => by grind
section
variable {X : Cx} {o e : Expr} {σ : St} {B M : Hp} {P : V → Hp → Hp → Prop} {pos apos : Pos} {pl : Sem Bool}
theorem em_Rsame (R : RP X.prog X.w X.K X.mg X.base) (hr : Room 43 X.A) (h : EM X o σ B M fun x B1 M1 => ∃ a, RatAt X.K B1 x a ∧ EM X e σ B1 M1 fun y B2 M2 => ∃ b, NumAt X.K B2 y b ∧ ∀ B', Ex B2 B' → P (.bl (decide (a = b))) B' M2)
    (hst : starEach [e] X.env = (false, eval e X.env) :: starEach [] X.env := by rfl)
    (ht : eval (.Call (.Attribute o ("same" : Str) apos) [e] [] pos) X.env = (do
      let ov ← eval o X.env
      standAt apos.atName
      let (f, first) ← holding [ov] (getMethod ov ("same" : Str) pl)
      callWith pos f first (backTo pos (starEach [e] X.env)) (backToKw pos (keywordEach [] X.env))) := by rfl) : EM X (.Call (.Attribute o ("same" : Str) apos) [e] [] pos) σ B M P :=
  em_meth R.same hr R.t.cl_Ratio R.t.m_Ratio_same (h.imp fun x B1 M1 _ ⟨a, ⟨q, dx, hx, hb⟩, h1⟩ => ⟨q, dx, _, hx, jn_b hb, rfl, am_cons (h1.imp fun y B2 M2 hB2 ⟨b, hy, hp⟩ => am_nil ⟨x, y, a, b, rfl, ⟨q, dx, hx, hB2 _ _ hb⟩, hy, hp⟩) hst⟩) hst rfl ht
end
theorem FormsAt.mono {K : PySem.W.Frag} {U : List Str} {B B' : Hp} {lf : Addr} {n : Nat} {F : Nat → Str → Rat} (h : FormsAt K U B lf n F) (x : Ex B B') : FormsAt K U B' lf n F := h.up x
theorem CoS.lw {K : PySem.W.Frag} {U : List Str} {ub : Str → Nat} {lo : Str → Str} {B B' M M' : Hp} {A : Ad} {rv : V} {ws : Ens} {j D n : Nat} {stk : List Part} {sp : Str → List Part} {ff : Pl → Str → Rat} {g : Addr} (h : CoS K U ub lo B M A rv ws j D n stk sp ff) (x : Ex B B') (bg : BagAt B M g) (o : ∀ q, q ≠ g → M q ≠ none → M' q = M q) : CoS K U ub lo B' M' A rv ws j D n stk sp ff := ⟨h.m.lw x bg o, h.i, h.u⟩
theorem CoS.sub {K : PySem.W.Frag} {U : List Str} {ub : Str → Nat} {lo : Str → Str} {B B' M M' : Hp} {A : Ad} {rv : V} {ws : Ens} {j D n : Nat} {stk : List Part} {sp : Str → List Part} {ff : Pl → Str → Rat} (h : CoS K U ub lo B M A rv ws j D n stk sp ff) (x : Ex B B') (s : Sub M M') : CoS K U ub lo B' M' A rv ws j D n stk sp ff := ⟨h.m.up x s, h.i, h.u⟩
theorem CoS.ob {K : PySem.W.Frag} {U : List Str} {ub : Str → Nat} {lo : Str → Str} {B M : Hp} {A : Ad} {rv : V} {ws : Ens} {j D n : Nat} {stk : List Part} {sp : Str → List Part} {ff : Pl → Str → Rat} (h : CoS K U ub lo B M A rv ws j D n stk sp ff) : ∃ sv, M A.a = some (coO K A rv sv) := let ⟨sv, h1, _⟩ := h.m.ob; ⟨sv, h1⟩
theorem pdok {nm : List Str} {es : Ens} {nl nc ns : Nat} {ub : Str → Nat} {lo : Str → Str} (no : NmsOk nm) (ei : EsI nm 9 es nl nc ns) (nmk : ∀ e ∈ es, NmOk nm ub lo e.2) : PdOk nm ub lo es := by
  refine ⟨?_, ?_, fun c hc hl => ?_, nmk⟩
  · rw [ei.hl]; exact no.nd.sublist (List.take_sublist _ _)
  · rw [ei.ht]; exact no.nd.sublist ((List.take_sublist _ _).trans (List.drop_sublist _ _))
  · rw [ei.ht] at hc
    rw [ei.hl] at hl
    have h1 : c ∈ nm.drop 6 := List.mem_of_mem_take hc
    have h2 : c ∈ nm.take 6 := by
      obtain ⟨i, hi⟩ := List.mem_iff_getElem?.mp hl
      have hlt := (List.getElem?_eq_some_iff.mp hi).1
      rw [List.length_take] at hlt
      have := ei.nl6
      rw [List.getElem?_take_of_lt (by omega)] at hi
      exact List.mem_iff_getElem?.mpr ⟨i, by rw [List.getElem?_take_of_lt (by omega)]; exact hi⟩
    have nd := no.nd
    rw [← List.take_append_drop 6 nm] at nd
    exact (List.nodup_append.mp nd).2.2 _ h2 _ h1 rfl
end LC
end LcLaw11
section LcLaw12
set_option maxHeartbeats 8000000
set_option exponentiation.threshold 1000
/-! The law, walked. -/
namespace LC
open PySem L2
open He (ga ma)
open He5 (wf)
theorem flat_one : ∀ m : Nat, (List.replicate m [V.int 1]).flatten = List.replicate m (V.int 1)
  | 0 => rfl
  | m + 1 => by rw [List.replicate_succ, List.flatten_cons, flat_one m]; rfl
section
variable {P : Program} {w : World} {K : PySem.W.Frag} {mg : Str → Option Value} {base : Heap}
def spLaw (K : PySem.W.Frag) : Spc := fun vs B M Q => ∃ a, ∃ ns : List Int, vs = [.ref a] ∧ SqL K B a (ns.map V.int) ∧ NoTup M ∧ ∀ B' M', Q (.bl true) B' M'
theorem fn_law (W0 : Wd P K mg base) {fd : FuncData} (Fd : FunD K "law" "law" (defArgs s_law) (defBody s_law) (defScope s_law) [] [] (ga K "law") fd) : FnOk P w K mg base CX0 64 (ga K "law") fd ["_law_script"] (MSp (spLaw K)) := by
  have t := W0.t
  have R : RP P w K mg base := rp_of W0
  have LPk := lp_of R
  refine body_ok Fd sc_law (by rintro _ _ _ _ ⟨a, ns, rfl, _⟩; rfl) ?_
  rintro cdv Ar outer s0 H E vs B M Q hr ⟨a, ns, rfl, ha, nt, hq⟩
  refine sm_cons <| s1_set 1 sc_law.nd <| em_call (pr_bag t (k := 0)) (hr.mono (by decide)) t.g_law_bag <| am_cons <| em_nm 0 <| am_nil ⟨a, ns, rfl, ha, fun B1 g lg hB1 mg1 hlg => ?_⟩
  have bag1 : BagAt B1 (upd M g (bagO lg (0 : Nat) 0 17 0)) g := ⟨lg, ns, 0, 0, 17, 0, upd_same, hlg⟩
  have nt1 : NoTup (upd M g (bagO lg (0 : Nat) 0 17 0)) := nt.upd fun _ e => by cases e
  generalize upd M g (bagO lg (0 : Nat) 0 17 0) = M1 at *
  -- entries
  refine sm_cons <| s1_set 2 sc_law.nd <| em_call (pr_ens t (k := 0)) (hr.mono (by decide)) t.g_law_entries <| am_cons <| em_nm 1 <| am_cons <| em_int <| am_nil ⟨g, rfl, bag1, fun re B2 M2 nm es nl nc ns' ys nmo ei hre hys lw2 => ?_⟩
  have nt2 := lw2.nt nt1
  have u : UOk nm := ⟨nmo.nd, by rw [nmo.len]; decide, nmo.ok⟩
  have FBk : FB P w K mg base nm := fb_of R u
  have FPk := fp_of FBk
  have S := sp_of (sr_of (sb_of FPk))
  obtain ⟨ub, lo, nmk⟩ := ei.nmk
  have hel := ei.len
  have hyl := paired_len hys
  -- book
  refine sm_cons <| s1_set 3 sc_law.nd <| em_call (pr_book t) (hr.mono (by decide)) t.g_law_book <| am_cons <| em_call (pr_mix t (k := 0)) (hr.mono (by decide)) t.g_law_mixed <| am_cons <| em_nm 1 <| am_cons <| em_nm 2 <| am_nil ⟨g, re, ys, rfl, lw2.bag, hre, by omega, fun rm B3 M3 ym hrm hpm lw3 => am_nil ?_⟩
  obtain ⟨xs, hxs, hpx⟩ := paired_perm hpm (en3s_up hys lw3.b)
  refine ⟨rm, ym, xs, es, rfl, hrm, hxs, hpx, ei.rise, by omega, fun e he => ?_, fun vb B4 hB4 hbk => ?_⟩
  · obtain ⟨p1, p2, p3, p4⟩ := ei.pl e he
    exact ⟨ei.ok e he, p1, by omega, p3, by omega⟩
  have nt3 := lw3.nt nt2
  -- costing
  refine sm_cons <| s1_set 4 sc_law.nd <| em_make (pr_ci FPk LPk) (hr.mono (by decide)) t.mk_Costing t.g_Costing <| am_cons <| em_nm 3 <| am_cons <| em_call (pr_md t) (hr.mono (by decide)) t.g_law_made <| am_cons <| em_call (pr_rl t (k := 0)) (hr.mono (by decide)) t.g_law_rule <| am_cons <| em_nm 1 <| am_nil ⟨g, rfl, lw3.bag.up hB4 rfl, fun rr tk pl pd B5 M5 htk hpl hp0 hp1 hrr lw5 => am_nil ⟨rr, tk, pl, pd, rfl, hrr, htk, hpl, hp0, hp1, fun rv B6 hB6 hru => am_nil fun x dx b1 m1 b2 m2 ne => ?_⟩⟩
  have xd : Ex B6 (upd B6 dx (.own x)) := Ex.up b2
  have hbk6 : BookAt K (upd B6 dx (.own x)) vb es := hbk.up ((lw5.b.tr hB6).tr xd)
  refine ⟨x, dx, vb, rv, es, tk, pl, pd, ub, lo, rfl, upd_same, hbk6, hru.up xd, hp0, hp1, hel, (lw5.nt nt3).upd (fun _ e => by cases e), ei.vd, nmk, fun B7 M7 A ws D n stk sp ff hB7 hA hwk cs fr nt7 => ⟨rfl, ?_⟩⟩
  subst hA
  have bag7 : BagAt B7 M7 g := by
    obtain ⟨lb, nb, ib, bb, mb, cb, hM5, hBb⟩ := id lw5.bag
    have ng : g ≠ A.a := fun e => by rw [← e, hM5] at m1; cases m1
    have e1 : (upd M5 A.a (.ins (ga K "Costing") dx [])) g = M5 g := upd_ne ng
    exact lw5.bag.up (hB6.tr (xd.tr hB7)) ((fr g (by rw [e1, hM5]; intro z; cases z) ng).trans e1)
  have x27 : Ex B2 B7 := ((((lw3.b.tr hB4).tr lw5.b).tr hB6).tr xd).tr hB7
  have hbk7 := hbk6.up hB7
  have hwl : ws.length ≤ 9 := by rw [hwk.perm.length_eq]; exact hel
  have pdk := pdok nmo ei nmk
  obtain ⟨F, φ, β, lf, hFs, hFk, hφw, hφe, hβ⟩ := lawG hwk hwl cs.i pdk.ndL pdk.ndT
  have hdays : ∀ q ∈ (ws.take ws.length).map (·.1), q.1 ≤ 1000000 := fun q hq => by
    rw [List.take_length] at hq
    obtain ⟨e, he, rfl⟩ := List.mem_map.mp hq
    obtain ⟨p1, p2, p3, p4⟩ := ei.pl e (hwk.perm.mem_iff.mp he)
    omega
  have hx7 := x27 _ _ hre
  have hys7 := en3s_up hys x27
  have hnm9 : nm.length ≤ 9 := by rw [nmo.len]; omega
  clear hru hbk hbk6 hre hys lw2 lw3 lw5 bag1 nt1 nt2 nt3 hxs hpx hpm hrm hrr fr hB7 xd b1 b2 m1 m2 hB6 hB4 x27 ha hlg hwk
  -- sales
  obtain ⟨S0, hS0⟩ : ∃ S0, S0 = namesOf "sell" es := ⟨_, rfl⟩
  rw [← hS0] at lf hFs hFk
  obtain ⟨m, hm⟩ : ∃ m, m = S0.length := ⟨_, rfl⟩
  have m9 := lf.m9
  have ltot := lf.tot
  have lbk := lf.bk
  rw [← hm] at m9 ltot lbk hFk
  obtain ⟨ab, dxb, db, kb, psb, rfl, hab, _⟩ := id hbk7
  refine sm_cons <| s1_lcB 5 rfl sc_law.nd (blk_ok (N := n_law) (sc := defScope s_law) [("_law_sale", 14)] (by decide +kernel)) <| em_meth0 (pr_sales t (k := 0)) (hr.mono (by decide)) t.cl_Book t.m_Book_sales <| em_nm 3 ⟨ab, dxb, _, rfl, jn_b hab, rfl, _, es, rfl, hbk7, nt7, fun v8 B8 hB8 ⟨l8, ev8, hl8⟩ => ?_⟩
  subst ev8
  rw [← hS0] at hl8
  refine ⟨l8, _, rfl, hl8, lcb_map 14 sc_law.nd (by rw [List.length_map]; omega) (fun i v B => FormAt K nm B v (F i)) (fun _ _ _ _ e h => h.up e) ?_ ?_⟩
  · rintro i v B' M' hv hi hB' hM' s3 H3 C3 cl3 fp3
    obtain ⟨name, rfl, hni⟩ := strs_at hv
    obtain ⟨hin, hcost⟩ := hFs i name hni
    have cs' := cs.sub (hB8.tr hB') hM'
    obtain ⟨sv, hob⟩ := cs'.ob
    exact em_methM (pr_cost FPk) (hr.mono (by decide)) t.cl_Costing t.m_Costing_cost <| em_nm 4 ⟨A.a, A.dx, _, rfl, hob, rfl, am_cons <| em_nm 14 <| am_nil ⟨A, rv, ub, lo, ws, ws.length, D, n, stk, sp, ff, name, rfl, cs', hwl, hin, fun v9 B9 hB9 hv9 => ⟨rfl, hv9.eq hcost⟩⟩⟩
  rintro l9 y9 B9 hB9 hl9 hl92 hl93
  rw [List.length_map, ← hm] at hl92
  have x9 := hB8.tr hB9
  -- forms
  have cs9 := cs.sub x9 Sub.id'
  obtain ⟨sv9, hob9⟩ := cs9.ob
  refine sm_cons <| s1_set 6 sc_law.nd <| em_op op_cat <| em_nm 5 <| em_lstB <| am_cons <| em_methM0 (pr_stock FPk) (hr.mono (by decide)) t.cl_Costing t.m_Costing_stock <| em_nm 4 ⟨A.a, A.dx, _, rfl, hob9, rfl, A, rv, ub, lo, ws, ws.length, D, n, stk, sp, ff, rfl, cs9, hwl, fun v10 B10 hB10 hv10 => am_nil ⟨sl1, fun l10 bl10 ml10 => om_cat ⟨l9, l10, _, _, rfl, rfl, jn_b ((hB10.tr (Ex.up bl10)) _ _ hl9), jn_b upd_same, le_size (by rw [hl92]; show m + 1 < 1000; omega), fun l6 b6 m6 => ?_⟩⟩⟩
  have x10 : Ex B9 (upd (upd B10 l10 (.lst [v10])) l6 (.lst (y9 ++ [v10]))) := (hB10.tr (Ex.up bl10)).tr (Ex.up b6)
  have hl6 : (upd (upd B10 l10 (.lst [v10])) l6 (.lst (y9 ++ [v10]))) l6 = some (.lst (y9 ++ [v10])) := upd_same
  have hv10' : FormAt K nm (upd (upd B10 l10 (.lst [v10])) l6 (.lst (y9 ++ [v10]))) v10 (F m) := (hv10.eq hFk).up ((Ex.up bl10).tr (Ex.up b6))
  generalize upd (upd B10 l10 (.lst [v10])) l6 (.lst (y9 ++ [v10])) = B11 at *
  have x11 := x9.tr x10
  have hSa : FormsAt K nm B11 l9 m F := ⟨y9, x10 _ _ hl9, hl92, fun i v hi => (hl93 i v hi).up x10⟩
  have hFa : FormsAt K nm B11 l6 (m + 1) F := ⟨_, hl6, by rw [List.length_append, hl92]; rfl, fun i v hi => by
    by_cases h : i < m
    · rw [List.getElem?_append_left (by omega)] at hi
      exact (hl93 i v hi).up x10
    · rw [List.getElem?_append_right (by omega)] at hi
      have hi0 : i - y9.length = 0 := by
        cases q : i - y9.length with
        | zero => rfl
        | succ z => rw [q] at hi; simp at hi
      rw [hi0] at hi
      have e : i = m := by omega
      subst e
      have : v10 = v := by simpa using hi
      rw [← this]; exact hv10'⟩
  have hys11 := en3s_up hys7 x11
  have hre11 := x11 _ _ hx7
  have cs11 := cs.sub x11 Sub.id'
  have bag11 := bag7.up x11 rfl (M' := M7)
  clear hv10 hv10' hB10 bl10 ml10 b6 m6 x10 hl9 hl93 hB9 hl8 hB8 cs9 hob9 hys7 hx7 cs bag7
  -- paid
  have szφ : SzF φ := fun k => (lf.sbφ k).sz (by decide)
  have szβ : SzF β := fun k => (lf.sbβ k).sz (by decide)
  refine sm_cons <| s1_set 7 sc_law.nd <| em_call (pr_lpaid FPk) (hr.mono (by decide)) t.g_law_paid <| am_cons <| em_nm 2 <| am_nil ⟨re, ys, es, ub, lo, rfl, hre11, hys11, by omega, pdk, fun vp B12 hB12 hvp0 => ?_⟩
  have hvp : FormAt K nm B12 vp φ := hvp0.eq hφe
  have cs12 := cs11.sub hB12 Sub.id'
  obtain ⟨sv12, hob12⟩ := cs12.ob
  refine sm_cons <| s1_if <| tm_not <| tm_val <| em_Fsame FPk (hr.mono (by decide)) <| em_nm 7 ⟨φ, hvp, em_methM0 (pr_paid FPk) (hr.mono (by decide)) t.cl_Costing t.m_Costing_paid <| em_nm 4 ⟨A.a, A.dx, _, rfl, hob12, rfl, A, rv, ub, lo, ws, ws.length, D, n, stk, sp, ff, rfl, cs12, hwl, fun v13 B13 hB13 hv13 => ⟨φ, hv13.eq hφw, szφ, szφ, fun B14 r hB14 hr14 => ⟨r, rfl, ?_⟩⟩⟩⟩
  have er : r = true := hr14.mpr fun _ => rfl
  subst er
  refine iff' rfl <| sm_nil ?_
  have x14 : Ex B12 B14 := hB13.tr hB14
  have fok : FsOk nm (m + 1) F 500 := ⟨by omega, by decide, fun i _ => lf.szF i, fun i hi k hk => by
    obtain ⟨fx, _, hfl, hff⟩ := hFa
    exact (hff i (fx[i]'(by omega)) (List.getElem?_eq_getElem (by omega))).u k hk⟩
  have fokm : FsOk nm m F 500 := ⟨by omega, by decide, fun i _ => lf.szF i, fun i hi k hk => fok.u i (by omega) k hk⟩
  have ao : AskOk nm φ 500 := ⟨lf.szφ, fun k hk => hvp.u k hk⟩
  have hspan : Span (m + 1) F φ := ⟨fun _ => 1, fun k => by rw [comb_ones]; exact ltot k⟩
  have hspanβ : Span m F β := ⟨fun _ => 1, fun k => by rw [comb_ones]; exact lbk k⟩
  -- shown
  have xf14 : Ex B11 B14 := hB12.tr x14
  refine sm_cons <| s1_set 8 sc_law.nd <| em_Shown S (hr.mono (by decide)) <| em_nm 6 ⟨l6, m + 1, F, 500, rfl, fok, hFa.up xf14, fun v15 B15 l15 hB15 hsh => ?_⟩
  -- weights
  refine sm_cons <| s1_set 9 sc_law.nd <| em_weights S (hr.mono (by decide)) <| em_nm 8 ⟨m + 1, F, 500, l15, hsh, em_nm 7 ⟨φ, hsh, fok, hvp.up (x14.tr hB15), ao, fun B' _ hn => absurd hspan hn, fun B16 vw c hB16 hw16 hc16 sz16 => ?_⟩⟩
  have hz16 : decide (vw = V.non) = false := by obtain ⟨a, _, e, _⟩ := hw16; rw [e]; rfl
  have as16 : AddSz (m + 1) F c := addSz (a := 501) (by omega) (fun i _ k => lf.sb i k) (fun i _ => sz16 i) (by decide)
  have x16 : Ex B12 B16 := (x14.tr hB15).tr hB16
  refine sm_cons <| s1_if <| tm_w <| wm_or <| tm_isN <| em_nm 9 ?_
  refine iff' hz16 <| wm_or1 <| tm_not <| tm_val <| em_Fsame FPk (hr.mono (by decide)) <| em_call (pr_added FPk) (hr.mono (by decide)) t.g_law_added <| am_cons <| em_nm 6 <| am_cons <| em_nm 9 <| am_nil ⟨l6, vw, m + 1, F, c, rfl, hFa.up (hB12.tr x16), hw16.nums, by omega, as16, fun v17 B17 hB17 hv17 => ⟨_, hv17, em_nm 7 ⟨φ, hvp.up (x16.tr hB17), fun k => as16.s (m + 1) (Nat.le_refl _) k, szφ, fun B18 r18 hB18 hr18 => ⟨r18, rfl, ?_⟩⟩⟩⟩
  have er18 : r18 = true := hr18.mpr fun k => (hc16 k).symm
  subst er18
  refine iff' rfl <| sm_nil ?_
  have x18 : Ex B12 B18 := (x16.tr hB17).tr hB18
  have x1518 : Ex B15 B18 := (hB16.tr hB17).tr hB18
  clear hvp0 hv13 hr14 hr18 hv17 hw16 hc16 sz16 as16 hz16
  -- prices
  refine sm_cons <| s1_set 10 sc_law.nd <| em_dnewK fun d bd md => ?_
  obtain ⟨lb7, nb7, ib7, bb7, mb7, cb7, hM7g, hBb7⟩ := id bag11
  have ngd : d ≠ g := fun e => by rw [e, hM7g] at md; cases md
  refine sm_cons <| s1_for PassesOwn.never rfl <| em_names FBk (hr.mono (by decide)) <| em_nm 7 ⟨φ, hvp.up x18, fun B20 l20 ks hB20 hl20 nd20 hu20 hz20 => ?_⟩
  have hkl : ks.length ≤ 9 := by have := nodup_len nd20 hu20; omega
  refine ⟨l20, _, rfl, SqL.of (jn_b hl20), fun i σ B' M' => ∃ o kvs, ∃ p : Str → Rat, σ = [some (.ref a), some (.ref g), some (.ref re), some (.ref ab), some (.ref A.a), some (.ref l9), some (.ref l6), some vp, some v15, some vw, some (.ref d), o, none, none, none, none, none, none] ∧ M' d = some (.dK kvs) ∧ KvR (fun k v B => RatAt K B v (p k)) kvs (ks.take i) B' ∧ (∀ k : Str, 0 ≤ p k ∧ Sb 6 (p k)) ∧ Ex B20 B' ∧ BagAt B' M' g ∧ ∀ q, q ≠ g → M7 q ≠ none → M' q = M7 q, ?_, ?_, ?_, ?_⟩
  · refine ⟨_, [], fun _ => 0, rfl, upd_same, KvR.nil, fun k => ⟨Rat.le_refl, Sb.zero.mono (by omega)⟩, Ex.id', bag11.up ((hB12.tr x18).tr hB20) (upd_ne ngd.symm), fun q hq hm => upd_ne fun e => hm (by rw [e]; exact md)⟩
  · rintro i σ B' M' _ ⟨o, kvs, p, rfl, _, _, _, hB, _⟩
    exact SqL.of (jn_b (hB _ _ hl20))
  · rintro i y σ B' M' hi _ ⟨o, kvs, p, rfl, hMd, hkv, hp, hB, hbg, hoth⟩
    obtain ⟨name, rfl, hni⟩ := strs_at hi
    have hil : i < ks.length := (List.getElem?_eq_some_iff.mp hni).1
    have hkl2 := hkv.len
    rw [List.length_take] at hkl2
    refine gm_name 11 sc_law.nd <| sm_one <| s1_dput (u1 hr) <| em_R2 R (hr.mono (by decide)) <| em_op op_add <| em_int <| em_draw t (hr.mono (by decide)) <| em_nm 1 <| em_int ⟨g, 50, rfl, rfl, hbg, by decide, by decide, fun r1 B21 M21 hr1 lw21 ho21 => om_I0 <| em_op op_add <| em_int <| em_draw t (hr.mono (by decide)) <| em_nm 1 <| em_int ⟨g, 4, rfl, rfl, lw21.bag, by decide, by decide, fun r2 B22 M22 hr2 lw22 ho22 => om_I0 ⟨1 + (r1 : Int), 1 + (r2 : Int), rfl, rfl, by omega, fun v23 B23 hB23 hv23 => em_nm 10 <| em_nm 11 ⟨d, rfl, .inl ⟨kvs, .inr name, (ho22 d ngd).trans ((ho21 d ngd).trans hMd), rfl, lt_size (by omega), ?_⟩⟩⟩⟩⟩
    have xb : Ex B' B23 := (lw21.b.tr lw22.b).tr hB23
    refine ⟨_, _, fun k => if k = name then Rat.divInt (1 + (r1 : Int)) (1 + (r2 : Int)) else p k, rfl, upd_same, ?_, fun k => ?_, hB.tr xb, lw22.bag.up hB23 (upd_ne ngd.symm), fun q hq hm => ?_⟩
    · have e : addk (ks.take i) name = ks.take (i + 1) := by
        rw [take1 hni]
        unfold addk
        refine if_neg fun hin => ?_
        have nd := nd20
        rw [← List.take_append_drop i ks] at nd
        refine (List.nodup_append.mp nd).2.2 _ hin _ ?_ rfl
        exact List.mem_iff_getElem?.mpr ⟨0, by rw [List.getElem?_drop]; simpa using hni⟩
      rw [← e]
      refine (hkv.up (R' := fun k v B => RatAt K B v (p k)) fun k v r => r.up xb).put' (fun j u hj r => ?_) ?_
      · show RatAt K B23 u (if j = name then Rat.divInt (1 + (r1 : Int)) (1 + (r2 : Int)) else p j)
        rw [if_neg hj]; exact r
      · show RatAt K B23 v23 (if name = name then Rat.divInt (1 + (r1 : Int)) (1 + (r2 : Int)) else p name)
        rw [if_pos rfl]; exact hv23
    · show 0 ≤ (if k = name then Rat.divInt (1 + (r1 : Int)) (1 + (r2 : Int)) else p k) ∧ Sb 6 (if k = name then Rat.divInt (1 + (r1 : Int)) (1 + (r2 : Int)) else p k)
      by_cases e : k = name
      · rw [if_pos e]
        refine ⟨?_, Sb.of (by omega) (by show (1 + (r1 : Int)).natAbs < 64; omega) (by show (1 + (r2 : Int)).natAbs < 64; omega)⟩
        exact Rat.divInt_nonneg (by omega) (by omega)
      · rw [if_neg e]; exact hp k
    · rw [upd_ne (fun e => hm (by rw [e]; exact md)), ho22 q hq, ho21 q hq]; exact hoth q hq hm
  rintro σ B24 M24 _ ⟨o, kvs, p, rfl, hMd, hkv, hp, hB24, hbg, hoth⟩
  rw [List.length_map, List.take_length] at hkv
  refine sm_own fun own => ?_
  have bd24 : B24 d = none := own _ _ hMd
  refine EmS.frz (p := d) hMd ?_
  have xd24 : Ex B24 (upd B24 d (.dK kvs)) := Ex.up bd24
  have hprA : PrAt K (upd B24 d (.dK kvs)) d p ks := ⟨⟨kvs, upd_same, hkv.up fun _ _ z => z.up xd24⟩, fun k _ => (hp k).1, fun k _ => (hp k).2.sz (by decide)⟩
  have bag25 : BagAt (upd B24 d (.dK kvs)) (del M24 d) g := hbg.up xd24 (del_ne ngd.symm)
  have hoth25 : ∀ q, q ≠ g → M7 q ≠ none → (del M24 d) q = M7 q := fun q hq hm => by
    rw [del_ne (fun e => hm (by rw [e]; exact md))]; exact hoth q hq hm
  have x25 : Ex B18 (upd B24 d (.dK kvs)) := (hB20.tr hB24).tr xd24
  generalize upd B24 d (.dK kvs) = B25 at *
  generalize del M24 d = M25 at *
  clear hkv hbg hoth xd24 bd24 own hMd
  -- values
  have x1225 : Ex B12 B25 := x18.tr x25
  have x1125 : Ex B11 B25 := hB12.tr x1225
  have hvp25 := hvp.up x1225
  have hFa25 := hFa.up x1125
  have hSa25 := hSa.up x1125
  have hsh25 := hsh.up (x1518.tr x25)
  have hp6 : ∀ k, Sb 6 (p k) := fun k => (hp k).2
  have hsup : ∀ i, i < m + 1 → ∀ k, F i k ≠ 0 → k ∈ ks := fun i hi k hk => (hz20 k).mpr (lf.sup (by omega) hk)
  have hsupφ : ∀ k, φ k ≠ 0 → k ∈ ks := fun k hk => (hz20 k).mpr hk
  have atF : ∀ {ψ : Str → Rat}, (∀ k, Sb 501 (ψ k)) → SzF ψ ∧ (∀ k ∈ nm, Sz (ψ k * p k)) ∧ ∀ l : List Str, l.Nodup → (∀ k ∈ l, k ∈ nm) → Sz (rsum (l.map fun k => ψ k * p k)) := fun {ψ} h => ⟨fun k => (h k).sz (by decide), fun k _ => (price_prod h hp6 k).sz (by decide), fun l nd hl => (price_list hnm9 h hp6 nd hl).sz (by decide)⟩
  have dsb : ∀ i, Sb 10000 (dot nm (F i) p) := fun i => price_dot hnm9 (lf.sb i) hp6
  have dsbφ : Sb 10000 (dot nm φ p) := price_dot hnm9 lf.sbφ hp6
  have dfit : ∀ c, (∀ k, comb (m + 1) F c k = 0) → sumN (m + 1) (fun j => c j * dot nm (F j) p) = 0 := fun c hc => by
    rw [dot_fit (ψ := fun _ => 0) fun k => (hc k).symm, dot_zero]
  have dsum : sumN (m + 1) (fun j => dot nm (F j) p) = dot nm φ p := by
    rw [show φ = fun k => sumN (m + 1) fun i => F i k from funext ltot, dot_sumN]
  obtain ⟨hprK, hprP, hprS⟩ := id hprA
  obtain ⟨fx, hfx1, hfx2, hfx3⟩ := id hFa25
  refine sm_cons <| s1_lcB 12 rfl sc_law.nd (blk_ok (N := n_law) (sc := defScope s_law) [("_law_form", 15)] (by decide +kernel)) <| em_nm 6 ⟨l6, fx, rfl, hfx1, lcb_map 15 sc_law.nd (by omega) (fun i v B => RatAt K B v (dot nm (F i) p)) (fun _ _ _ _ e h => h.up e) ?_ ?_⟩
  · rintro i v B' M' hv hi hB' hM' s3 H3 C3 cl3 fp3
    obtain ⟨a1, a2, a3⟩ := atF (lf.sb i)
    exact em_Fat FPk (hr.mono (by decide)) <| em_nm 15 ⟨F i, (hfx3 i v hv).up hB', em_nm 10 ⟨d, p, ks, rfl, hprA.up hB', hsup i (by omega), a1, a2, a3, fun v26 B26 hB26 hv26 => ⟨rfl, hv26⟩⟩⟩
  rintro l26 y26 B26 hB26 hl26 hl262 hl263
  rw [hfx2] at hl262
  have hv26 : RatsAt K B26 (.ref l26) (m + 1) fun i => dot nm (F i) p := ⟨l26, y26, rfl, hl26, hl262, hl263⟩
  obtain ⟨aφ1, aφ2, aφ3⟩ := atF lf.sbφ
  have sumIn : ∀ {B' : Hp}, Ex B26 B' → ∃ qs, Paired (NumAt K B') y26 qs ∧ (∀ q ∈ qs, Sz q) ∧ (∀ i, i < qs.length → Sz (rsum (qs.take i))) ∧ rsum qs = dot nm φ p := fun {B'} x => by
    refine ⟨(List.range (m + 1)).map fun i => dot nm (F i) p, paired_of (by rw [List.length_map, List.length_range]; exact hl262) fun i y q hy hq => ?_, fun q hq => ?_, fun i hi => ?_, ?_⟩
    · rw [List.getElem?_map] at hq
      have hlt := (List.getElem?_eq_some_iff.mp hy).1
      rw [List.getElem?_range (by omega)] at hq
      injection hq with hq
      rw [← hq]
      exact ((hl263 i y hy).up x).num
    · obtain ⟨i, _, rfl⟩ := List.mem_map.mp hq
      exact (dsb i).sz (by decide)
    · rw [← List.map_take]
      refine (rsum_sb (a := 10000) (f := fun i => dot nm (F i) p) fun j _ => dsb j).sz ?_
      have h1 : ((List.range (m + 1)).take i).length ≤ 10 := by rw [List.length_take, List.length_range]; omega
      have : ((List.range (m + 1)).take i).length * (10000 + 1) ≤ 10 * (10000 + 1) := Nat.mul_le_mul_right _ h1
      omega
    · rw [rsum_rng, dsum]
  -- value(..).same(sum_of(..)), sum_of(..).same(at(..))
  refine sm_cons <| s1_if <| tm_w <| wm_or <| tm_not <| tm_val <| em_Rsame R (hr.mono (by decide)) <| em_value S (hr.mono (by decide)) <| em_nm 8 ⟨m + 1, F, 500, l15, hsh25.up hB26, em_nm 7 <| em_nm 12 ⟨φ, fun i => dot nm (F i) p, hsh25.up hB26, fok, hvp25.up hB26, ao, hv26, fun i _ => (dsb i).mono (by decide), dfit, hspan, fun B27 v27 c hB27 hφ hv27 => ⟨_, hv27, ?_⟩⟩⟩
  rw [dot_fit hφ] at hv27
  obtain ⟨qs, hq1, hq2, hq3, hq4⟩ := sumIn hB27
  refine em_sm R.sum (hr.mono (by decide)) t.sm_Ratio_sum_of t.g_Ratio <| am_cons <| em_nm 12 <| am_nil ⟨l26, y26, qs, rfl, hB27 _ _ hl26, hq1, hq2, hq3, fun v28 B28 hB28 hv28 => ⟨_, hv28.num, fun B29 hB29 => ⟨_, rfl, ?_⟩⟩⟩
  rw [hq4] at hv28
  refine iff' (by rw [dot_fit hφ, hq4, dt rfl]; rfl) <| wm_or1 <| tm_not <| tm_val <| em_Rsame R (hr.mono (by decide)) ?_
  have x29 : Ex B26 B29 := (hB27.tr hB28).tr hB29
  obtain ⟨qs', hq1', hq2', hq3', hq4'⟩ := sumIn x29
  refine em_sm R.sum (hr.mono (by decide)) t.sm_Ratio_sum_of t.g_Ratio <| am_cons <| em_nm 12 <| am_nil ⟨l26, y26, qs', rfl, x29 _ _ hl26, hq1', hq2', hq3', fun v30 B30 hB30 hv30 => ⟨_, hv30, ?_⟩⟩
  have x30 : Ex B25 B30 := hB26.tr (x29.tr hB30)
  refine em_Fat FPk (hr.mono (by decide)) <| em_nm 7 ⟨φ, hvp25.up x30, em_nm 10 ⟨d, p, ks, rfl, hprA.up x30, hsupφ, aφ1, aφ2, aφ3, fun v31 B31 hB31 hv31 => ⟨_, hv31.num, fun B32 hB32 => ⟨_, rfl, ?_⟩⟩⟩⟩
  refine iff' (by rw [hq4', dt rfl]; rfl) <| sm_nil ?_
  have x2632 : Ex B26 B32 := ((x29.tr hB30).tr hB31).tr hB32
  -- doubled
  have sb2 : Sb 2 2 := ⟨by decide, by decide⟩
  have sz2 : Sz 2 := sb2.sz (by decide)
  have x2532 := hB26.tr x2632
  refine sm_cons <| s1_if <| tm_not <| tm_val <| em_Rsame R (hr.mono (by decide)) <| em_value S (hr.mono (by decide)) <| em_nm 8 ⟨m + 1, F, 500, l15, hsh25.up x2532, em_nm 7 <| em_lcB rfl sc_law.nd (blk_ok (N := n_law) (sc := defScope s_law) [("_law_value", 16)] (by decide +kernel)) <| em_nm 12 ⟨l26, y26, rfl, x2632 _ _ hl26, lcb_map 16 sc_law.nd (by omega) (fun i v B => RatAt K B v (dot nm (F i) p * 2)) (fun _ _ _ _ e h => h.up e) ?_ ?_⟩⟩
  · rintro i v B' M' hv hi hB' hM' s3 H3 C3 cl3 fp3
    exact em_Rmul R (hr.mono (by decide)) <| em_nm 16 <| em_int ⟨dot nm (F i) p, 2, (hl263 i v hv).up (x2632.tr hB'), .inl ⟨2, rfl, rfl⟩, (dsb i).sz (by decide), sz2, fun v33 B33 hB33 hv33 => ⟨rfl, hv33⟩⟩
  rintro l34 y34 B34 hB34 hl34 hl342 hl343
  rw [hl262] at hl342
  have x34 : Ex B25 B34 := x2532.tr hB34
  have hv34 : RatsAt K B34 (.ref l34) (m + 1) fun i => dot nm (F i) p * 2 := ⟨l34, y34, rfl, hl34, hl342, hl343⟩
  have two : ∀ c : Nat → Rat, sumN (m + 1) (fun j => c j * (dot nm (F j) p * 2)) = 2 * sumN (m + 1) (fun j => c j * dot nm (F j) p) := fun c => by
    rw [← sumN_mul]; exact sumN_congr fun i _ => by grind
  refine ⟨φ, fun i => dot nm (F i) p * 2, hsh25.up x34, fok, hvp25.up x34, ao, hv34, fun i _ => ((dsb i).mul sb2).mono (by decide), fun c hc => by rw [two, dfit c hc]; grind, hspan, fun B35 v35 c hB35 hφ2 hv35 => ⟨_, hv35, ?_⟩⟩
  have x35 := x34.tr hB35
  refine em_Rmul R (hr.mono (by decide)) <| em_Fat FPk (hr.mono (by decide)) <| em_nm 7 ⟨φ, hvp25.up x35, em_nm 10 ⟨d, p, ks, rfl, hprA.up x35, hsupφ, aφ1, aφ2, aφ3, fun v36 B36 hB36 hv36 => em_int ⟨dot nm φ p, 2, hv36, .inl ⟨2, rfl, rfl⟩, dsbφ.sz (by decide), sz2, fun v37 B37 hB37 hv37 => ⟨_, hv37.num, fun B38 hB38 => ⟨_, rfl, ?_⟩⟩⟩⟩⟩
  refine iff' (by rw [two, dot_fit hφ2, dt (by grind)]; rfl) <| sm_nil ?_
  have x38 : Ex B25 B38 := ((x35.tr hB36).tr hB37).tr hB38
  -- booked
  have cs38 := cs11.lw (x1125.tr x38) bag11 hoth25
  obtain ⟨sv38, hob38⟩ := cs38.ob
  refine sm_cons <| s1_set 13 sc_law.nd <| em_methM (pr_until FPk) (hr.mono (by decide)) t.cl_Costing t.m_Costing_until <| em_nm 4 ⟨A.a, A.dx, _, rfl, hob38, rfl, am_cons <| em_int <| am_nil ⟨A, rv, ub, lo, ws, ws.length, D, n, stk, sp, ff, 1000000, rfl, cs38, hwl, hdays, fun v39 B39 hB39 hv39 => ?_⟩⟩
  have hvb : FormAt K nm B39 v39 β := hv39.eq hβ
  have aoβ : AskOk nm β 500 := ⟨lf.szβ, fun k hk => hvb.u k hk⟩
  have x39 := x38.tr hB39
  refine sm_cons <| s1_if <| tm_w <| wm_or <| tm_isN <| em_weights S (hr.mono (by decide)) <| em_Shown S (hr.mono (by decide)) <| em_nm 5 ⟨l9, m, F, 500, rfl, fokm, hSa25.up x39, fun v40 B40 l40 hB40 hsh40 => ⟨m, F, 500, l40, hsh40, em_nm 13 ⟨β, hsh40, fokm, hvb.up hB40, aoβ, fun B' _ hn => absurd hspanβ hn, fun B41 v41 c41 hB41 hw41 hc41 sz41 => ?_⟩⟩⟩
  have hz41 : decide (v41 = V.non) = false := by obtain ⟨a, _, e, _⟩ := hw41; rw [e]; rfl
  have x41 : Ex B39 B41 := hB40.tr hB41
  refine iff' hz41 <| wm_or1 <| tm_not <| tm_val <| em_Fsame FPk (hr.mono (by decide)) <| em_nm 13 ⟨β, hvb.up x41, em_call (pr_added FPk) (hr.mono (by decide)) t.g_law_added <| am_cons <| em_nm 5 <| am_cons <| em_op op_rep <| em_lstB <| am_cons <| em_int <| am_nil ⟨sl1, fun l42 b42 m42 => ?_⟩⟩
  obtain ⟨sx, hsx1, hsx2, hsx3⟩ := id ((hSa25.up (x39.tr x41)).up (Ex.up b42 (o := .lst [.int 1])))
  refine em_len t.u_len <| em_nm 5 ⟨l9, sx, rfl, .inl (SqL.of (jn_b hsx1)), om_rep ⟨l42, sx.length, [.int 1], rfl, rfl, jn_b upd_same, by omega, by omega, le_size (by rw [hsx2]; show 1 * m < 1000; omega), fun l43 b43 m43 => am_nil ?_⟩⟩
  have x43 : Ex B41 (upd (upd B41 l42 (.lst [.int 1])) l43 (.lst (List.replicate (sx.length : Int).toNat [V.int 1]).flatten)) := (Ex.up b42).tr (Ex.up b43)
  have hl43 : (upd (upd B41 l42 (.lst [.int 1])) l43 (.lst (List.replicate (sx.length : Int).toNat [V.int 1]).flatten)) l43 = some (.lst (List.replicate (sx.length : Int).toNat [V.int 1]).flatten) := upd_same
  generalize upd (upd B41 l42 (.lst [.int 1])) l43 (.lst (List.replicate (sx.length : Int).toNat [V.int 1]).flatten) = B43 at *
  have efl : (List.replicate (sx.length : Int).toNat [V.int 1]).flatten = List.replicate m (V.int 1) := by
    rw [hsx2]
    exact flat_one m
  rw [efl] at hl43
  have x3943 := x41.tr x43
  have hnums : NumsAt K B43 (.ref l43) m fun _ => 1 := ⟨l43, _, rfl, hl43, List.length_replicate .., fun i x hx => by
    have := List.mem_of_getElem? hx
    rw [List.eq_of_mem_replicate this]
    exact .inl ⟨1, rfl, rfl⟩⟩
  have as43 : AddSz m F fun _ => 1 := addSz (a := 501) (b := 1) (by omega) (fun i _ k => lf.sb i k) (fun i _ => Sb.one) (by decide)
  refine ⟨l9, .ref l43, m, F, fun _ => 1, rfl, hSa25.up (x39.tr x3943), hnums, by omega, as43, fun v44 B44 hB44 hv44 => ⟨_, hv44, szβ, fun k => as43.s m (Nat.le_refl _) k, fun B45 r45 hB45 hr45 => ⟨r45, rfl, ?_⟩⟩⟩
  have er45 : r45 = true := hr45.mpr fun k => by rw [comb_ones]; exact lbk k
  subst er45
  refine iff' rfl <| sm_nil ?_
  have x45 : Ex B25 B45 := ((x39.tr x3943).tr hB44).tr hB45
  have hvp45 := hvp25.up x45
  have hFa45 := hFa25.up x45
  have bag45 := bag25.up x45 rfl (M' := M25)
  -- each one hidden
  obtain ⟨fy, hfy1, hfy2, _⟩ := id hFa45
  refine sm_one <| s1_ret <| em_all rfl t.u_all <| Emt.own' <| em_lcr rfl sc_law.nd (blk_ok (N := n_law) (sc := defScope s_law) [("_law_spot", 17)] (by decide +kernel)) t.u_range <| em_len t.u_len <| em_nm 6 ⟨l6, fy, rfl, .inl (SqL.of (jn_b hfy1)), fy.length, rfl, by omega, fun Dd bD mD => ?_⟩
  obtain ⟨lbz, nbz, ibz, bbz, mbz, cbz, hMz, hBz⟩ := id bag45
  have ngD : Dd ≠ g := fun e => by rw [e, hMz] at mD; cases mD
  refine ⟨fun i acc B' M' => acc = List.replicate i (V.bl true) ∧ M' Dd = some (.lst acc) ∧ Ex B45 B' ∧ BagAt B' M' g, ⟨rfl, upd_same, Ex.id', bag45.up Ex.id' (upd_ne ngD.symm)⟩, ?_, ?_⟩
  · rintro i acc B' M' hi _ ⟨rfl, hMD, hB, hbg⟩
    refine bg_of fun s2 H2 C2 cl2 fp2 => gm_name 17 sc_law.nd ⟨rfl, bt_nil (ift rfl (be_of fun s3 H3 C3 cl3 fp3 => ?_))⟩
    refine em_call (pr_hid S) (hr.mono (by decide)) t.g_law_hidden_right <| am_cons <| em_nm 1 <| am_cons <| em_nm 6 <| am_cons <| em_nm 7 <| am_cons <| em_nm 17 <| am_nil ⟨g, l6, vp, i, m, F, φ, 500, rfl, hbg, hFa45.up hB, hvp45.up hB, ltot, by omega, fok, ao, fun B46 M46 lw46 => ⟨(lw46.oth Dd ngD (by rw [hMD]; intro z; cases z)).trans hMD, lt_size (by rw [List.length_replicate]; omega), ?_, upd_same, hB.tr lw46.b, lw46.bag.up Ex.id' (upd_ne ngD.symm)⟩⟩
    exact List.replicate_succ'.symm
  · rintro acc B' M' _ ⟨rfl, hMD, hB, hbg⟩ own
    refine ⟨Dd, List.replicate fy.length true, rfl, SqL.of (jn_m (by rw [List.map_replicate]; exact hMD) (own _ _ hMD)), ?_⟩
    have e : (List.replicate fy.length true).all id = true := List.all_eq_true.mpr fun x hx => List.eq_of_mem_replicate hx
    rw [e]
    exact hq _ _
end
end LC
end LcLaw12
section LcEnd
set_option maxHeartbeats 8000000
/-! The end: the law called behind the head, where digits of great ints are watched. -/
namespace LC
open PySem PySem.Spec PyProof.Rows L2
/-- nothing but the script is tracked -/
def TrkO (h : Heap) (H : Hp) (so : Obj) : Prop := ∀ b o, h.get? b = some o → o ≠ so → H b = none
section
variable {h : Heap} {H : Hp} {vs : List Value}
abbrev lstO (vs : List Value) : Obj := { cls := .type "list", data := .seq vs.toArray }
theorem not_dict {o : Obj} {es : Array DictEntry} {ep : Nat} (d : o.data = .dict es ep) : o ≠ lstO vs := by
  rintro rfl
  have d' : Data.seq vs.toArray _ = Data.dict es ep := d
  cases d'
theorem TrkO.ns {b : Addr} {m : Str → Option Value} (T : TrkO h H (lstO vs)) (n : h.Ns b m) : (hidT h H).Ns b m := by
  obtain ⟨o, es, ep, e, d, r⟩ := n
  exact ⟨o, es, ep, hidT_get e (T b o e (not_dict d)), d, r⟩
theorem TrkO.seer (T : TrkO h H (lstO vs)) (n : h.NoSeer) : (hidT h H).NoSeer := by
  obtain ⟨⟨mc, s1, s2, s3⟩, ⟨mm, t1, t2⟩, ⟨mb, u1, u2⟩, mg, bm, ob, v1, v2, v3, v4, v5⟩ := n
  refine ⟨⟨mc, T.ns s1, s2, s3⟩, ⟨mm, T.ns t1, t2⟩, ⟨mb, T.ns u1, u2⟩, mg, bm, ob, T.ns v1, v2, hidT_get v3 (T bm ob v3 ?_), v4, v5⟩
  rintro rfl
  have v4' : (Value.type "list" : Value) = .type "module" := v4
  revert v4'
  simp
end
section
variable {P : Program} {w : World} {K : PySem.W.Frag} {mg mb : Str → Option Value} {k : Nat} {fa a : Addr} {fd : FuncData} {x : Str} {sp : Sp} {s : Shared} {vs : List Value} {ns : List Int}
/-- what is said of a heap before the law is called -/
structure Bef (K : PySem.W.Frag) (mg mb : Str → Option Value) (s : Shared) (a : Addr) (vs : List Value) : Prop where
  inK : K.In s.heap
  nsG : s.heap.Ns mainGlobals mg
  nsB : s.heap.Ns builtinsNs mb
  bts : ∀ x : Str, x ≠ "__name__" → mb x = bootBuiltins x
  lim : s.heap.NoLimit
  gen : s.gens = #[]
  see : s.heap.NoSeer
  obj : s.heap.get? a = some (lstO vs)
abbrev Wanted (s : Shared) : Result → Shared → Prop := fun r s' => r = .ok (.ret (.bool true)) ∧ OldK s.heap s'.heap ∧ s'.os = s.os ∧ AllBare s'.gens
theorem run_one {H : Hp} (b : Bef K mg mb s a vs) (hr : Room k callerA) (F : ∀ base : Heap, K.In base → base.Ns mainGlobals mg → base.NoSeer → FnOk P w K mg base CX0 k fa fd [x] sp) (bind : ∀ (s : Shared) (u : Value), BindsTo s fd ⟨[u], []⟩ [(x, u)])
    (hs : sp [.ref a] H (fun v _ => v = .bl true) fun _ _ _ => False) (only : Only H) (ok : HOk P w H s.heap) (T : TrkO s.heap H (lstO vs)) (kT : ∀ b o, K.lookup b = some o → H b = none) : codeAny (model P w) callerA (.call (.ref fa) ⟨[.ref a], []⟩) (Wanted s) s := by
  have kb : K.In (hidT s.heap H) := fun c o e => hidT_get (b.inK c o e) (kT c o e)
  have gb := T.ns b.nsG
  obtain ⟨mc, l1, l2⟩ := b.lim
  have mo : Mod K mg (hidT s.heap H) := ⟨kb, gb, ⟨mb, T.ns b.nsB, b.bts⟩, ⟨mc, T.ns l1, l2⟩⟩
  have env : Env0 P w K mg (hidT s.heap H) callerA [] s H := by
    refine ⟨rfl, mo, fun c o e => of_hidT e, Nat.le_of_eq (hidT_size _ _), trivial, ?_, ok, .of_eq b.gen⟩
    intro c hc
    exact absurd hc (List.not_mem_nil (a := c))
  have go := (F _ kb gb (T.seer b.see)).run callerA [] s H ⟨[.ref a], []⟩ [.ref a] [.ref a] _ _ hr env (bind s (.ref a)) (.cons rfl .nil) hs
  refine codeAny_mono go ?_
  rintro (e | fl) s' q
  · exact False.elim q
  cases fl with
  | ret u =>
    obtain ⟨v, H2, sameOs, bare, un, ok2, rel, hv⟩ := q
    have hv' : v = .bl true := hv
    rw [hv'] at rel
    have hu : u = Value.bool true := rel
    rw [hu]
    refine ⟨rfl, OldK.of_keep fun c o e => ?_, sameOs, bare⟩
    rcases hc : H c with _ | t
    · refine un.keep c o e hc (fun z => ?_) (by simp)
      exact absurd z (List.not_mem_nil (a := c))
    · obtain z | ⟨ob, xs, z⟩ := only c
      · exact absurd (hc.symm.trans z) (by simp)
      · obtain ⟨g1, _⟩ := ok c _ z
        obtain ⟨g2, _⟩ := ok2 c _ (un.frzs c ob _ z)
        have : o = ob := Option.some.inj (e.symm.trans g1)
        rw [this]; exact g2
  | next => exact False.elim q
  | brk => exact False.elim q
  | cont => exact False.elim q
def trkA (a : Addr) (vs : List Value) (ns : List Int) : Hp := fun b => if b = a then some (.frz (lstO vs) (.lst (ns.map V.int))) else none
theorem run_law (b : Bef K mg mb s a vs) (hi : IntsAre vs ns) (hl : ns.length ≤ sizeLine) (hr : Room k callerA) (F : ∀ base : Heap, K.In base → base.Ns mainGlobals mg → base.NoSeer → FnOk P w K mg base CX0 k fa fd [x] sp) (bind : ∀ (s : Shared) (u : Value), BindsTo s fd ⟨[u], []⟩ [(x, u)])
    (hs : ∀ H : Hp, Only H → SqL K H a (ns.map V.int) → sp [.ref a] H (fun v _ => v = .bl true) fun _ _ _ => False) : codeAny (model P w) callerA (.call (.ref fa) ⟨[.ref a], []⟩) (Wanted s) s := by
  have rv := vals_ints hi
  rcases hk : K.lookup a with _ | o
  · have hat : trkA a vs ns a = some (.frz (lstO vs) (.lst (ns.map V.int))) := if_pos rfl
    have hoff : ∀ c, c ≠ a → trkA a vs ns c = none := fun c hc => if_neg hc
    have only : Only (trkA a vs ns) := fun c => by
      by_cases e : c = a
      · rw [e]; exact .inr ⟨_, _, hat⟩
      · exact .inl (hoff c e)
    refine run_one b hr F bind (hs _ only (.inl (.inr ⟨_, hat⟩))) only (fun c u z => ?_) (fun c o e ne => hoff c fun q => ?_) (fun c o e => hoff c fun q => ?_)
    · by_cases e : c = a
      · rw [e, hat] at z
        injection z with z
        rw [e, ← z]
        exact ⟨b.obj, by rw [List.length_map]; exact hl, vs, _, rv, b.obj⟩
      · rw [hoff c e] at z; cases z
    · rw [q, b.obj] at e
      injection e with e
      exact ne e.symm
    · rw [q, hk] at e; cases e
  · have eo : o = lstO vs := Option.some.inj ((b.inK a o hk).symm.trans b.obj)
    rw [eo] at hk
    refine run_one (H := fun _ => none) b hr F bind (hs _ (fun _ => .inl rfl) (.inr ⟨_, vs.toArray, _, hk, rfl, rfl, rfl, ?_, by simpa using rv⟩)) (fun _ => .inl rfl) (fun c u z => by cases z) (fun _ _ _ _ => rfl) fun _ _ _ => rfl
    rw [List.size_toArray, hi.length]; exact hl
end
/-- from the promise over every such base -/
theorem walk_N {l : PySem.W.OpenLaw} {n k : Nat} {q : Program} {loose : List Str} {XP : (Str → Option Value) → Heap → Prop} {YP : World → Heap → Prop} {d : DefRec} {x : Str} (hn : l.most = some n) (hn2 : n ≤ sizeLine) (hdf : d.params.defaults = []) (hr : Room k callerA) (imp : importsNone q = true)
    (F : ∀ (w : World) (mg : Str → Option Value) (fa : Addr) (h : Heap), YP w h → h.Ns mainGlobals mg → mg d.name = some (.ref fa) → ∃ (K : PySem.W.Frag) (fd : FuncData) (sp : Sp), K.In h ∧ (∀ (s : Shared) (u : Value), BindsTo s fd ⟨[u], []⟩ [(x, u)]) ∧
      (∀ (H : Hp) (a : Addr) (ns : List Int), Only H → SqL K H a (ns.map V.int) → sp [.ref a] H (fun v _ => v = .bl true) fun _ _ _ => False) ∧ ∀ base : Heap, K.In base → base.Ns mainGlobals mg → base.NoSeer → FnOk l.prog w K mg base CX0 k fa fd [x] sp) :
    PySem.W.WalkO q loose XP YP l.row.toRowW d [] (fun f vs => PySem.call f vs) := by
  apply Att.attach_call hn hdf
  intro w s0 s1 mg mb fa o pm cd doc a vs ns G Y _ _ _ hmg hobj hints hlen hg
  have T := G.T
  obtain ⟨K, fd, sp, KX, bind, hs, hF⟩ := F w mg fa _ Y T.g hmg
  exact run_law ⟨KX, T.g, T.b, T.builtins, T.nolimit, hg, T.seer imp, hobj⟩ hints (Nat.le_trans hlen hn2) hr hF bind fun H => hs H a ns
theorem law_sp {K : PySem.W.Frag} (H : Hp) (a : Addr) (ns : List Int) (hS : SqL K H a (ns.map V.int)) : MSp (spLaw K) [.ref a] H (fun v _ => v = .bl true) fun _ _ _ => False :=
  ⟨H, fun _ => none, fun v _ _ => v = .bl true, ⟨Ex.id', fun p o z => by cases z⟩, ⟨a, ns, rfl, hS, fun p xs z => (by cases z), fun _ _ => rfl⟩, fun v B' M' H' _ hv => hv⟩
theorem law_facts {P : Program} {w : World} {K : PySem.W.Frag} {h : Heap} {mg : Str → Option Value} {f : Addr} (tree : P.given.tree = none) (X : K.In h) (G : h.Ns mainGlobals mg) (hfa : mg ("law" : Str) = some (.ref f)) (c : He5.SaysA factsL defsL K) (e : (exL K).all id = true) :
    ∃ fd : FuncData, (∀ (s : Shared) (v : Value), BindsTo s fd ⟨[v], []⟩ [("_law_script", v)]) ∧ ∀ base : Heap, K.In base → base.Ns mainGlobals mg → base.NoSeer → FnOk P w K mg base CX0 64 f fd ["_law_script"] (MSp (spLaw K)) := by
  have t : Tx K mg := ⟨c, e, h, X, G⟩
  obtain ⟨fd, Fd⟩ := t.f_law
  have ef := hfa.symm.trans t.g_law
  cases ef
  have bd := FunD.bindsA (ps := ["_law_script"]) Fd fun _ _ _ _ _ _ us hl => match us, hl with | [_], _ => rfl
  exact ⟨fd, fun s v => bd s [v] rfl, fun base _ _ sn => fn_law ⟨t, sn, tree⟩ Fd⟩
end LC
end LcEnd
set_option maxHeartbeats 8000000
open PySem PySem.W PySem.Calls PyProof.Rows
theorem PySem.Challenge.cw_lotcosts_k79_whole_what_shown_costs_tell_holds : PySem.Challenge.rw_lotcosts_k79_whole_what_shown_costs_tell.Holds := by
  refine LC.head_ok (LC.walk_N (l := PySem.Challenge.rw_lotcosts_k79_whole_what_shown_costs_tell) (n := 63) (k := 64) (x := "_law_script") rfl (by decide) (by kernel_rfl) ⟨rfl, by decide, by decide⟩ (by kernel_rfl) ?F)
  intro w mg fa h Y G hmg0
  obtain ⟨K, KX, c, e⟩ := Y
  have hmg : mg ("law" : PySem.Str) = some (.ref fa) := by
    have en : (HandSHeadRun.topDef LC.RR.prog 63).name = ("law" : PySem.Str) := by kernel_rfl
    rw [← en]
    exact hmg0
  obtain ⟨fd, hb, hF⟩ := LC.law_facts (P := PySem.Challenge.rw_lotcosts_k79_whole_what_shown_costs_tell.prog) (w := w) (by kernel_rfl) KX G hmg c e
  exact ⟨K, fd, _, KX, hb, fun H a ns _ hS => LC.law_sp H a ns hS, hF⟩
