import PyProof.Rows.All
import Wide.All
import OpenK.AllK
import Wide.FinOn
import HandS.ForMost
import HandS.ForExc
import HandS.IsInst
import HandS.StrMore
import HandS.Wide
import HandS.Style
import HandS.Defaults
import HandS.Zip
import HandS.EndBits
import HandS.Codes
import KE.KStateDown
import Lean
import HandS.More
import HandS.Head0
import HandS.Head1
import HandS.Head2
import HandS.HeadEnd
import HandS.HeadHook1
import HandS.HeadHook2
import PySem.Challenge.RW_clockloom_k01_words_looked_at
set_option Elab.async false
set_option linter.all false
set_option maxRecDepth 100000
set_option maxHeartbeats 4000000
namespace Wv
open PySem PySem.Spec PyProof.Rows L2
def WE (X : Cx) (e : Expr) : TE := fun s H Q => ∃ t : TE, PE X e t ∧ t s H Q
def WT (X : Cx) (e : Expr) : TT := fun s H Q => ∃ t : TT, PT X e t ∧ t s H Q
def WA (X : Cx) (es : List Expr) : TA := fun s H Q => ∃ t : TA, PA X es t ∧ t s H Q
def WS (X : Cx) (st : Stmt) : TS := fun D s H => ∃ t : TS, PS X st t ∧ t D s H
def WB (X : Cx) (st : List Stmt) : TS := fun D s H => ∃ t : TS, PSs X st t ∧ t D s H
section
variable {X : Cx}
theorem pe_w (e : Expr) : PE X e (WE X e) := ⟨fun pins s sl H Q I ⟨_, h, q⟩ => h.run pins s sl H Q I q⟩
theorem pt_w (e : Expr) : PT X e (WT X e) := ⟨fun pins s sl H Q I ⟨_, h, q⟩ => h.run pins s sl H Q I q⟩
theorem pa_w (es : List Expr) : PA X es (WA X es) := ⟨fun p pins s sl H Q I ⟨_, h, q⟩ => h.run p pins s sl H Q I q⟩
theorem ps_w (st : Stmt) : PS X st (WS X st) := ⟨fun pins s sl H D I ⟨_, h, q⟩ => h.run pins s sl H D I q⟩
theorem pss_w (st : List Stmt) : PSs X st (WB X st) := ⟨fun pins s sl H D I ⟨_, h, q⟩ => h.run pins s sl H D I q⟩
end
structure Grow (F H F' H' : Hp) : Prop where
  hh : Same H H'
  ff : Same F F'
  fh : Same F' H'
  nw : ∀ a, H a ≠ none → F' a = F a
theorem Grow.refl {F H : Hp} (h : Same F H) : Grow F H F H := ⟨Same.refl H, Same.refl F, h, fun _ _ => rfl⟩
theorem some_ne {H H' : Hp} (s : Same H H') {a : Addr} (h : H a ≠ none) : H' a ≠ none := by
  cases e : H a with
  | none => exact absurd e h
  | some o => rw [s a o e]; exact fun z => nomatch z
theorem Grow.trans {F H F' H' F2 H2 : Hp} (a : Grow F H F' H') (b : Grow F' H' F2 H2) : Grow F H F2 H2 :=
  ⟨a.hh.trans b.hh, a.ff.trans b.ff, b.fh, fun x h => (b.nw x (some_ne a.hh h)).trans (a.nw x h)⟩
theorem Grow.new {F H : Hp} {p : Addr} (o : HO) (s : Same F H) (h : H p = none) : Grow F H (upd F p o) (upd H p o) := by
  have fp : F p = none := by
    cases e : F p with
    | none => rfl
    | some u => rw [s p u e] at h; cases h
  refine ⟨fun a u e => ?_, fun a u e => ?_, fun a u e => ?_, fun a e => ?_⟩
  · rw [upd_ne (ne_of_none e h)]; exact e
  · rw [upd_ne (ne_of_none e fp)]; exact e
  · by_cases q : a = p
    · subst q; rw [upd_same] at e ⊢; exact e
    · rw [upd_ne q] at e ⊢; exact s a u e
  · exact upd_ne fun q => by subst q; exact e h
theorem Grow.own {F H : Hp} {p : Addr} (o : HO) (s : Same F H) (h : H p = none) : Grow F H F (upd H p o) := by
  refine ⟨fun a u e => ?_, Same.refl F, fun a u e => ?_, fun a e => rfl⟩
  · rw [upd_ne (ne_of_none e h)]; exact e
  · have q := s a u e
    rw [upd_ne (ne_of_none q h)]; exact q
theorem same_t {K : PySem.W.Frag} {H H' : Hp} {a : Addr} {xs : List V} (e : Same H H') (h : SqT K H a xs) : SqT K H' a xs := by
  rcases h with (h | ⟨o, h⟩) | h
  · exact .inl (.inl (e _ _ h))
  · exact .inl (.inr ⟨o, e _ _ h⟩)
  · exact .inr h
class Rep (α : Type) where
  rep : PySem.W.Frag → Hp → V → α → Prop
  mono : ∀ {K : PySem.W.Frag} {F F' : Hp} {v : V} {a : α}, Same F F' → rep K F v a → rep K F' v a
instance : Rep Int := ⟨fun _ _ v a => v = .int a, fun _ h => h⟩
instance : Rep Bool := ⟨fun _ _ v a => v = .bl a, fun _ h => h⟩
instance : Rep Unit := ⟨fun _ _ v _ => v = .non, fun _ h => h⟩
abbrev Tx := List Nat
def mkS (l : Tx) : Str := ⟨l.toArray⟩
instance repTx : Rep (List Nat) := ⟨fun _ _ v a => v = .str (mkS a), fun _ h => h⟩
theorem paired_mono {α β : Type} {R S : α → β → Prop} (h : ∀ a b, R a b → S a b) : ∀ {xs : List α} {ys : List β}, Paired R xs ys → Paired S xs ys
  | _, _, .nil => .nil
  | _, _, .cons r t => .cons (h _ _ r) (paired_mono h t)
instance repList {α : Type} [Rep α] : Rep (List α) := ⟨fun K F v as => ∃ p vs, v = .ref p ∧ SqL K F p vs ∧ Paired (fun v a => Rep.rep K F v a) vs as,
  fun s ⟨p, vs, e, h, q⟩ => ⟨p, vs, e, s.seq h, paired_mono (fun _ _ => Rep.mono s) q⟩⟩
instance repProd {α β : Type} [Rep α] [Rep β] : Rep (α × β) := ⟨fun K F v a => ∃ p x y, v = .ref p ∧ SqT K F p [x, y] ∧ Rep.rep K F x a.1 ∧ Rep.rep K F y a.2,
  fun s ⟨p, x, y, e, h, q, r⟩ => ⟨p, x, y, e, same_t s h, Rep.mono s q, Rep.mono s r⟩⟩
instance repOption {α : Type} [Rep α] : Rep (Option α) := ⟨fun K F v o => match o with | none => v = .non | some a => Rep.rep K F v a,
  fun {K F F' v o} s h => by
    cases o with
    | none => exact h
    | some a => exact Rep.mono (α := α) s h⟩
mutual
theorem dp_mono {K : PySem.W.Frag} {F F' : Hp} (s : Same F F') : ∀ {v : V} {d : PyData}, Dp K F v d → Dp K F' v d
  | _, _, .non => .non
  | _, _, .bl b => .bl b
  | _, _, .int b => .int b
  | _, _, .str b => .str b
  | _, _, .lst h a => .lst (s.seq h) (dpAll_mono s a)
  | _, _, .tup h a => .tup (same_t s h) (dpAll_mono s a)
theorem dpAll_mono {K : PySem.W.Frag} {F F' : Hp} (s : Same F F') : ∀ {v : List V} {d : List PyData}, DpAll K F v d → DpAll K F' v d
  | _, _, .nil => .nil
  | _, _, .cons h a => .cons (dp_mono s h) (dpAll_mono s a)
end
instance repD : Rep PyData := ⟨fun K F v d => Dp K F v d, fun s h => dp_mono s h⟩
structure Sl where
  P : PySem.W.Frag → Hp → Hp → Option V → Prop
  mono : ∀ {K F H F' H' s}, Grow F H F' H' → P K F H s → P K F' H' s
def anyS : Sl := ⟨fun _ _ _ _ => True, fun _ _ => trivial⟩
def isA {α : Type} [Rep α] (a : α) : Sl := ⟨fun K F _ s => ∃ v, s = some v ∧ Rep.rep K F v a, fun g ⟨v, e, h⟩ => ⟨v, e, Rep.mono g.ff h⟩⟩
def ownL {α : Type} [Rep α] (p : Addr) (as : List α) : Sl := ⟨fun K F H s => s = some (.ref p) ∧ F p = none ∧ ∃ vs, H p = some (.lst vs) ∧ Paired (fun v a => Rep.rep K F v a) vs as,
  fun g ⟨e, n, vs, h, q⟩ => ⟨e, (g.nw p (by rw [h]; exact fun z => nomatch z)).trans n, vs, g.hh p _ h, paired_mono (fun _ _ => Rep.mono g.ff) q⟩⟩
abbrev Rho := List Sl
def Slots (K : PySem.W.Frag) (F H : Hp) (s : L2.St) (r : Rho) : Prop := Paired (fun x (P : Sl) => P.P K F H x) s r
theorem Slots.mono {K : PySem.W.Frag} {F H F' H' : Hp} {s : L2.St} {r : Rho} (g : Grow F H F' H') (h : Slots K F H s r) : Slots K F' H' s r := paired_mono (fun _ P => P.mono g) h
theorem paired_get {α β : Type} {R : α → β → Prop} : ∀ {xs : List α} {ys : List β} {i : Nat} {y : β}, Paired R xs ys → ys[i]? = some y → ∃ x, xs[i]? = some x ∧ R x y
  | _, _, _, _, .nil, e => by simp at e
  | _, _, 0, _, .cons r _, e => by simp at e; subst e; exact ⟨_, rfl, r⟩
  | _, _, i + 1, y, .cons _ t, e => by
    obtain ⟨x, h1, h2⟩ := paired_get (i := i) (y := y) t (by simpa using e)
    exact ⟨x, by simpa using h1, h2⟩
theorem paired_get' {α β : Type} {R : α → β → Prop} : ∀ {xs : List α} {ys : List β} {i : Nat} {x : α}, Paired R xs ys → xs[i]? = some x → ∃ y, ys[i]? = some y ∧ R x y
  | _, _, _, _, .nil, e => by simp at e
  | _, _, 0, _, .cons r _, e => by simp at e; subst e; exact ⟨_, rfl, r⟩
  | _, _, i + 1, y, .cons _ t, e => by
    obtain ⟨x, h1, h2⟩ := paired_get' (i := i) (x := y) t (by simpa using e)
    exact ⟨x, by simpa using h1, h2⟩
theorem paired_set {α β : Type} {R : α → β → Prop} {x : α} {y : β} (r : R x y) : ∀ {xs : List α} {ys : List β} (i : Nat), Paired R xs ys → Paired R (xs.set i x) (ys.set i y)
  | _, _, _, .nil => .nil
  | _, _, 0, .cons _ t => .cons r t
  | _, _, i + 1, .cons q t => .cons q (paired_set r i t)
theorem paired_append {α β : Type} {R : α → β → Prop} : ∀ {xs : List α} {ys : List β} {xs' : List α} {ys' : List β}, Paired R xs ys → Paired R xs' ys' → Paired R (xs ++ xs') (ys ++ ys')
  | _, _, _, _, .nil, s => s
  | _, _, _, _, .cons r t, s => .cons r (paired_append t s)
theorem paired_len {α β : Type} {R : α → β → Prop} : ∀ {xs : List α} {ys : List β}, Paired R xs ys → xs.length = ys.length
  | _, _, .nil => rfl
  | _, _, .cons _ t => by simp [paired_len t]
theorem paired_drop {α β : Type} {R : α → β → Prop} : ∀ {xs : List α} {ys : List β} (n : Nat), Paired R xs ys → Paired R (xs.drop n) (ys.drop n)
  | _, _, 0, h => by simpa using h
  | _, _, n + 1, .nil => by simpa using Paired.nil
  | _, _, n + 1, .cons _ t => by simpa using paired_drop n t
theorem paired_take {α β : Type} {R : α → β → Prop} : ∀ {xs : List α} {ys : List β} (n : Nat), Paired R xs ys → Paired R (xs.take n) (ys.take n)
  | _, _, 0, _ => by simpa using Paired.nil
  | _, _, n + 1, .nil => by simpa using Paired.nil
  | _, _, n + 1, .cons r t => by simpa using Paired.cons r (paired_take n t)
end Wv
set_option Elab.async false
set_option linter.all false
set_option maxRecDepth 100000
set_option maxHeartbeats 4000000
namespace Wv
open PySem PySem.Spec PyProof.Rows L2
def EE {α : Type} [Rep α] (X : Cx) (r : Rho) (e : Expr) (a : α) : Prop :=
  ∀ (s : L2.St) (F H : Hp), Same F H → Slots X.K F H s r → ∀ Q : VK, (∀ v F' H', Grow F H F' H' → Rep.rep X.K F' v a → Q v H') → WE X e s H Q
def ET (X : Cx) (r : Rho) (e : Expr) (b : Bool) : Prop :=
  ∀ (s : L2.St) (F H : Hp), Same F H → Slots X.K F H s r → ∀ Q : Bool → Hp → Prop, (∀ F' H', Grow F H F' H' → Q b H') → WT X e s H Q
structure Vp where
  P : PySem.W.Frag → Hp → V → Prop
  mono : ∀ {K F F' v}, Same F F' → P K F v → P K F' v
def vA {α : Type} [Rep α] (a : α) : Vp := ⟨fun K F v => Rep.rep K F v a, fun s h => Rep.mono s h⟩
def Vps (K : PySem.W.Frag) (F : Hp) (vs : List V) (ps : List Vp) : Prop := Paired (fun v (p : Vp) => p.P K F v) vs ps
theorem Vps.mono {K : PySem.W.Frag} {F F' : Hp} {vs : List V} {ps : List Vp} (s : Same F F') (h : Vps K F vs ps) : Vps K F' vs ps := paired_mono (fun _ p => p.mono s) h
def EA (X : Cx) (r : Rho) (es : List Expr) (ps : List Vp) : Prop :=
  ∀ (s : L2.St) (F H : Hp), Same F H → Slots X.K F H s r → ∀ Q : List V → Hp → Prop, (∀ vs F' H', Grow F H F' H' → Vps X.K F' vs ps → Q vs H') → WA X es s H Q
section
variable {X : Cx} {r : Rho} {α β γ : Type} [Rep α] [Rep β] [Rep γ] {pos : Pos}
theorem EE.cast {e : Expr} {a b : α} (h : EE X r e a) (q : a = b) : EE X r e b := q ▸ h
theorem ET.cast {e : Expr} {a b : Bool} (h : ET X r e a) (q : a = b) : ET X r e b := q ▸ h
theorem EE.as {e : Expr} {a : α} {b : β} (h : EE X r e a) (q : ∀ K F v, Rep.rep K F v a → Rep.rep K F v b) : EE X r e b := fun s F H sm sl Q k => h s F H sm sl Q fun v F' H' g w => k v F' H' g (q _ _ _ w)
theorem ee_of {e : Expr} {a : α} {t : TE} (h : PE X e t) (q : ∀ s F H, Same F H → Slots X.K F H s r → ∀ Q : VK, (∀ v F' H', Grow F H F' H' → Rep.rep X.K F' v a → Q v H') → t s H Q) : EE X r e a :=
  fun s F H sm sl Q k => ⟨t, h, q s F H sm sl Q k⟩
theorem ee_var (i : Nat) {x : Str} {a : α} (hr : r[i]? = some (isA a)) (hN : X.N[i]? = some x) (hv : Vis X.env.scope x)
    (hd : (x == ("__debug__" : Str)) = false := by decide) (hcd : (x == ("__classdict__" : Str)) = false := by decide) : EE X r (.Name x pos) a :=
  ee_of (pe_var hN hv hd hcd) fun s F H sm sl Q k => by
    obtain ⟨o, e1, v, e2, h⟩ := paired_get sl hr
    subst e2
    exact ⟨v, e1, k v F H (.refl sm) h⟩
theorem ee_c {e : Expr} {v : V} {a : α} (h : PE X e (tC v)) (q : ∀ K F, Rep.rep K F v a) : EE X r e a := ee_of h fun s F H sm _ Q k => k v F H (.refl sm) (q _ _)
theorem ee_int (i : Int) {j : Nat} : EE X r (.Constant (.int i) j pos) i := ee_c pe_int fun _ _ => rfl
theorem ee_bool (b : Bool) {j : Nat} : EE X r (.Constant (.bool b) j pos) b := ee_c pe_bl fun _ _ => rfl
theorem ee_none {j : Nat} : EE X r (.Constant .none j pos) () := ee_c pe_non fun _ _ => rfl
theorem mkS_eq (x : Str) : mkS x.cps.toList = x := by cases x; rfl
theorem ee_str {x : Str} {j : Nat} (l : Tx) (h : x.cps.toList = l := by rfl) : EE X r (.Constant (.str x) j pos) l := ee_c pe_str fun _ _ => by subst h; show V.str x = V.str (mkS x.cps.toList); rw [mkS_eq]
theorem ee_glob {x : Str} {v : V} {u : Value} {a : α} (hg : Gl X x) (hm : X.mg x = some u) (rv : RelV v u) (q : ∀ K F, Rep.rep K F v a) (hd : (x == ("__debug__" : Str)) = false := by decide) : EE X r (.Name x pos) a := ee_c (pe_glob hg hm rv hd) q
theorem ee_op {f : Value → Value → Sem Value} {rr : R2} {a b : Expr} {x : α} {y : β} {z : γ} {e : Expr} {ta tb : TE → TE → TE} (hp : PE X e (tOp rr (WE X a) (WE X b)))
    (ha : EE X r a x) (hb : EE X r b y) (hr : ∀ v u F H, Same F H → Rep.rep X.K F v x → Rep.rep X.K F u y → ∀ Q : VK, (∀ w F' H', Grow F H F' H' → Rep.rep X.K F' w z → Q w H') → rr v u H Q) : EE X r e z :=
  ee_of hp fun s F H sm sl Q k => ha s F H sm sl _ fun v F1 H1 g1 rv => hb s F1 H1 g1.fh (sl.mono g1) _ fun u F2 H2 g2 ru => hr v u F2 H2 g2.fh (Rep.mono g2.ff rv) ru Q fun w F3 H3 g3 rw => k w F3 H3 ((g1.trans g2).trans g3) rw
end
class Op2 (f : Value → Value → Sem Value) (α β : Type) (γ : outParam Type) [Rep α] [Rep β] [Rep γ] where
  ok : α → β → Prop
  val : α → β → γ
  rr : PySem.W.Frag → R2
  is : ∀ X : Cx, OpR X f (rr X.K)
  run : ∀ {K : PySem.W.Frag} {x : α} {y : β}, ok x y → ∀ v u F H, Same F H → Rep.rep K F v x → Rep.rep K F u y → ∀ Q : VK, (∀ w F' H', Grow F H F' H' → Rep.rep K F' w (val x y) → Q w H') → rr K v u H Q
section
variable {X : Cx} {r : Rho} {α β γ : Type} [Rep α] [Rep β] [Rep γ] {pos : Pos} {a b : Expr} {x : α} {y : β}
theorem ee_bin {op : Operator} [o : Op2 (binaryOp op) α β γ] (ha : EE X r a x) (hb : EE X r b y) (h : o.ok x y) : EE X r (.BinOp a op b pos) (o.val x y) :=
  ee_op (f := binaryOp op) (ta := fun t _ => t) (tb := fun t _ => t) (pe_op (o.is X) (pe_w a) (pe_w b)) ha hb (o.run h)
theorem ee_cmp {op : CmpOp} [o : Op2 (compareOp op) α β γ] (ha : EE X r a x) (hb : EE X r b y) (h : o.ok x y) (hm : behindInMarks op b = false := by first | exact nobehind _ (by decide) (by decide) | rfl) : EE X r (.Compare a [op] [b] pos) (o.val x y) :=
  ee_op (f := compareOp op) (ta := fun t _ => t) (tb := fun t _ => t) (pe_cmpR (o.is X) (pe_w a) (pe_w b) hm) ha hb (o.run h)
theorem et_of {e : Expr} {b : Bool} {t : TT} (h : PT X e t) (q : ∀ s F H, Same F H → Slots X.K F H s r → ∀ Q : Bool → Hp → Prop, (∀ F' H', Grow F H F' H' → Q b H') → t s H Q) : ET X r e b := fun s F H sm sl Q k => ⟨t, h, q s F H sm sl Q k⟩
theorem et_cmp {op : CmpOp} [o : Op2 (compareOp op) α β Bool] (ha : EE X r a x) (hb : EE X r b y) (h : o.ok x y) (hm : behindInMarks op b = false := by first | exact nobehind _ (by decide) (by decide) | rfl) : ET X r (.Compare a [op] [b] pos) (o.val x y) :=
  et_of (pt_cmpR (o.is X) (pe_w a) (pe_w b) hm) fun s F H sm sl Q k => ha s F H sm sl _ fun v F1 H1 g1 rv => hb s F1 H1 g1.fh (sl.mono g1) _ fun u F2 H2 g2 ru =>
    o.run h v u F2 H2 g2.fh (Rep.mono g2.ff rv) ru _ fun w F3 H3 g3 rw => ⟨_, rw, k F3 H3 ((g1.trans g2).trans g3)⟩
theorem et_val {e : Expr} {b : Bool} (h : EE X r e b) (he : ∀ whole, isTrue e X.env whole = (do let v ← whole; standAt e.pos; holding [v] (truthy v)) := by intro _; rfl) : ET X r e b :=
  et_of (pt_val (pe_w e) he) fun s F H sm sl Q k => h s F H sm sl _ fun v F1 H1 g1 rv => ⟨b, rv, k F1 H1 g1⟩
theorem et_not {e : Expr} {b : Bool} (h : ET X r e b) : ET X r (.UnaryOp .Not e pos) (!b) :=
  et_of (pt_not (pt_w e)) fun s F H sm sl Q k => h s F H sm sl _ fun F1 H1 g1 => k F1 H1 g1
theorem ee_not {e : Expr} {b : Bool} (h : EE X r e b) : EE X r (.UnaryOp .Not e pos) (!b) :=
  ee_of (pe_not (pe_w e)) fun s F H sm sl Q k => h s F H sm sl _ fun v F1 H1 g1 rv => ⟨b, rv, k _ F1 H1 g1 rfl⟩
def WW (X : Cx) (e : Expr) : TT := fun s H Q => ∃ t : TT, PW X e t ∧ t s H Q
theorem pw_w {X : Cx} (e : Expr) : PW X e (WW X e) := ⟨fun wh pins s sl H Q I ⟨_, h, q⟩ => h.run wh pins s sl H Q I q⟩
def EW (X : Cx) (r : Rho) (e : Expr) (b : Bool) : Prop :=
  ∀ (s : L2.St) (F H : Hp), Same F H → Slots X.K F H s r → ∀ Q : Bool → Hp → Prop, (∀ F' H', Grow F H F' H' → Q b H') → WW X e s H Q
theorem ew_and1 {e : Expr} {b : Bool} (h : ET X r e b) : EW X r (.BoolOp .And [e] pos) b := fun s F H sm sl Q k => ⟨_, pw_and1 (pt_w e), h s F H sm sl Q k⟩
theorem ew_or1 {e : Expr} {b : Bool} (h : ET X r e b) : EW X r (.BoolOp .Or [e] pos) b := fun s F H sm sl Q k => ⟨_, pw_or1 (pt_w e), h s F H sm sl Q k⟩
theorem ew_and {e f : Expr} {es : List Expr} {b c : Bool} (h : ET X r e b) (h2 : b = true → EW X r (.BoolOp .And (f :: es) pos) c) : EW X r (.BoolOp .And (e :: f :: es) pos) (b && c) := fun s F H sm sl Q k =>
  ⟨_, pw_and (pt_w e) (pw_w _), h s F H sm sl _ fun F1 H1 g1 => by
    cases b with
    | false => exact k F1 H1 g1
    | true => exact h2 rfl s F1 H1 g1.fh (sl.mono g1) Q fun F2 H2 g2 => k F2 H2 (g1.trans g2)⟩
theorem ew_or {e f : Expr} {es : List Expr} {b c : Bool} (h : ET X r e b) (h2 : b = false → EW X r (.BoolOp .Or (f :: es) pos) c) : EW X r (.BoolOp .Or (e :: f :: es) pos) (b || c) := fun s F H sm sl Q k =>
  ⟨_, pw_or (pt_w e) (pw_w _), h s F H sm sl _ fun F1 H1 g1 => by
    cases b with
    | true => exact k F1 H1 g1
    | false => exact h2 rfl s F1 H1 g1.fh (sl.mono g1) Q fun F2 H2 g2 => k F2 H2 (g1.trans g2)⟩
theorem EW.et {e : Expr} {b : Bool} (h : EW X r e b) : ET X r e b := fun s F H sm sl Q k => by
  obtain ⟨t, p, q⟩ := h s F H sm sl Q k
  exact ⟨t, p.pt, q⟩
theorem ee_one {op} {e : Expr} {x : α} (h : EE X r e x) : EE X r (.BoolOp op [e] pos) x := fun s F H sm sl Q k => ⟨_, pe_one (pe_w e), h s F H sm sl Q k⟩
theorem ee_and {e f : Expr} {es : List Expr} {b c : Bool} (h : EE X r e b) (h2 : b = true → EE X r (.BoolOp .And (f :: es) pos) c) : EE X r (.BoolOp .And (e :: f :: es) pos) (b && c) := fun s F H sm sl Q k =>
  ⟨_, pe_and (pe_w e) (pe_w _), h s F H sm sl _ fun v F1 H1 g1 rv => ⟨b, rv, by
    cases b with
    | false => exact k _ F1 H1 g1 rfl
    | true => exact h2 rfl s F1 H1 g1.fh (sl.mono g1) Q fun w F2 H2 g2 rw => k w F2 H2 (g1.trans g2) rw⟩⟩
theorem ee_or {e f : Expr} {es : List Expr} {b c : Bool} (h : EE X r e b) (h2 : b = false → EE X r (.BoolOp .Or (f :: es) pos) c) : EE X r (.BoolOp .Or (e :: f :: es) pos) (b || c) := fun s F H sm sl Q k =>
  ⟨_, pe_or (pe_w e) (pe_w _), h s F H sm sl _ fun v F1 H1 g1 rv => ⟨b, rv, by
    cases b with
    | true => exact k _ F1 H1 g1 rfl
    | false => exact h2 rfl s F1 H1 g1.fh (sl.mono g1) Q fun w F2 H2 g2 rw => k w F2 H2 (g1.trans g2) rw⟩⟩
theorem ee_ifExp {c e f : Expr} {b : Bool} {x : α} (h : ET X r c b) (h1 : b = true → EE X r e x) (h2 : b = false → EE X r f x) : EE X r (.IfExp c e f pos) x := fun s F H sm sl Q k =>
  ⟨_, pe_ifExp (pt_w c) (pe_w e) (pe_w f), h s F H sm sl _ fun F1 H1 g1 => by
    cases b with
    | true => exact h1 rfl s F1 H1 g1.fh (sl.mono g1) Q fun w F2 H2 g2 rw => k w F2 H2 (g1.trans g2) rw
    | false => exact h2 rfl s F1 H1 g1.fh (sl.mono g1) Q fun w F2 H2 g2 rw => k w F2 H2 (g1.trans g2) rw⟩
theorem ea_nil : EA X r [] [] := fun s F H sm _ Q k => ⟨_, pa_nil, k [] F H (.refl sm) .nil⟩
theorem ea_cons {e : Expr} {es : List Expr} {x : α} {ps : List Vp} (h : EE X r e x) (hr : EA X r es ps) (hs : starEach (e :: es) X.env = (false, eval e X.env) :: starEach es X.env := by rfl) : EA X r (e :: es) (vA x :: ps) :=
  fun s F H sm sl Q k => ⟨_, pa_cons (pe_w e) (pa_w es) hs, h s F H sm sl _ fun v F1 H1 g1 rv => hr s F1 H1 g1.fh (sl.mono g1) _ fun vs F2 H2 g2 rvs => k (v :: vs) F2 H2 (g1.trans g2) (.cons (Rep.mono g2.ff rv) rvs)⟩
theorem vps_map {K : PySem.W.Frag} {F : Hp} : ∀ {vs : List V} {xs : List α}, Vps K F vs (xs.map vA) → Paired (fun v a => Rep.rep K F v a) vs xs
  | _, [], .nil => .nil
  | _, _ :: _, .cons p q => .cons p (vps_map q)
theorem ee_list {es : List Expr} {ps : List Vp} {xs : List α} (h : EA X r es ps) (hp : ps = xs.map vA) (hl : xs.length ≤ sizeLine) : EE X r (.List es pos) xs := fun s F H sm sl Q k =>
  ⟨_, pe_lst (pa_w es), h s F H sm sl _ fun vs F1 H1 g1 rvs => by
    subst hp
    have rp : Paired (fun v a => Rep.rep X.K F1 v a) vs xs := vps_map rvs
    refine ⟨by rw [paired_len rp]; exact hl, fun p hp => k (.ref p) _ _ (g1.trans (Grow.new _ g1.fh hp)) ?_⟩
    exact ⟨p, vs, rfl, .inl (.inl upd_same), paired_mono (fun _ _ => Rep.mono (Grow.new (.lst vs) g1.fh hp).ff) rp⟩⟩
end
end Wv
set_option Elab.async false
set_option linter.all false
set_option maxRecDepth 100000
set_option maxHeartbeats 4000000
namespace Wv
open PySem PySem.Spec PyProof.Rows L2
instance iAdd : Op2 (binaryOp .Add) Int Int Int := ⟨fun _ _ => True, fun x y => x + y, fun _ => _, fun _ => op_add, fun {K x y} h v u F H sm rv ru Q k => ⟨x, y, rv, ru, k _ F H (.refl sm) rfl⟩⟩
instance iSub : Op2 (binaryOp .Sub) Int Int Int := ⟨fun _ _ => True, fun x y => x - y, fun _ => _, fun _ => op_sub, fun {K x y} h v u F H sm rv ru Q k => ⟨x, y, rv, ru, k _ F H (.refl sm) rfl⟩⟩
instance iMul : Op2 (binaryOp .Mult) Int Int Int := ⟨CMul, fun x y => x * y, fun _ => _, fun _ => op_mul, fun {K x y} h v u F H sm rv ru Q k => ⟨x, y, rv, ru, h, k _ F H (.refl sm) rfl⟩⟩
instance iDiv : Op2 (binaryOp .FloorDiv) Int Int Int := ⟨fun _ j => 0 < j ∧ j < 1073741824, fun x y => x / y, fun _ => _, fun _ => op_fdiv, fun {K x y} h v u F H sm rv ru Q k => ⟨x, y, rv, ru, h, k _ F H (.refl sm) rfl⟩⟩
instance iMod : Op2 (binaryOp .Mod) Int Int Int := ⟨fun _ j => 0 < j, fun x y => x % y, fun _ => _, fun _ => op_mod, fun {K x y} h v u F H sm rv ru Q k => ⟨x, y, rv, ru, h, k _ F H (.refl sm) rfl⟩⟩
instance iAnd : Op2 (binaryOp .BitAnd) Int Int Int := ⟨fun _ _ => True, fun x y => Builtin.bitAnd x y, fun _ => _, fun _ => op_and, fun {K x y} h v u F H sm rv ru Q k => ⟨x, y, rv, ru, k _ F H (.refl sm) rfl⟩⟩
def CPowX (i j : Int) : Prop := 0 ≤ j ∧ (Builtin.Int.intBits i : Int) * j ≤ 2 ^ 27
instance decCPowX {i j : Int} : Decidable (CPowX i j) := inferInstanceAs (Decidable (0 ≤ j ∧ (Builtin.Int.intBits i : Int) * j ≤ 2 ^ 27))
theorem op_powX {X : Cx} : OpR X (binaryOp .Pow) (rI CPowX fun i j => .int (i ^ j.toNat)) := opI fun _ _ _ _ _ _ _ hc q => pow_int hc.1 hc.2 q
instance iPow : Op2 (binaryOp .Pow) Int Int Int := ⟨CPowX, fun x y => x ^ y.toNat, fun _ => _, fun _ => op_powX, fun {K x y} h v u F H sm rv ru Q k => ⟨x, y, rv, ru, h, k _ F H (.refl sm) rfl⟩⟩
instance iLt : Op2 (compareOp .Lt) Int Int Bool := ⟨fun _ _ => True, fun x y => decide (x < y), fun _ => _, fun _ => op_lt, fun {K x y} h v u F H sm rv ru Q k => ⟨x, y, rv, ru, k _ F H (.refl sm) rfl⟩⟩
instance iLe : Op2 (compareOp .LtE) Int Int Bool := ⟨fun _ _ => True, fun x y => decide (x ≤ y), fun _ => _, fun _ => op_le, fun {K x y} h v u F H sm rv ru Q k => ⟨x, y, rv, ru, k _ F H (.refl sm) rfl⟩⟩
instance iGt : Op2 (compareOp .Gt) Int Int Bool := ⟨fun _ _ => True, fun x y => decide (y < x), fun _ => _, fun _ => op_gt, fun {K x y} h v u F H sm rv ru Q k => ⟨x, y, rv, ru, k _ F H (.refl sm) rfl⟩⟩
instance iGe : Op2 (compareOp .GtE) Int Int Bool := ⟨fun _ _ => True, fun x y => decide (y ≤ x), fun _ => _, fun _ => op_ge, fun {K x y} h v u F H sm rv ru Q k => ⟨x, y, rv, ru, k _ F H (.refl sm) rfl⟩⟩
theorem vint {i j : Int} : decide (V.int i = V.int j) = decide (i = j) := by
  by_cases h : i = j
  · subst h; simp
  · rw [decide_eq_false h, decide_eq_false fun z => h (V.int.inj z)]
theorem mkS_inj {a b : Tx} (h : mkS a = mkS b) : a = b := by
  have h1 : a.toArray = b.toArray := Str.mk.inj h
  have h2 := congrArg Array.toList h1
  simpa using h2
theorem vstr {a b : Tx} : decide (V.str (mkS a) = V.str (mkS b)) = decide (a = b) := by
  by_cases h : a = b
  · subst h; simp
  · rw [decide_eq_false h, decide_eq_false fun z => h (mkS_inj (V.str.inj z))]
theorem vbl {a b : Bool} : decide (V.bl a = V.bl b) = decide (a = b) := by cases a <;> cases b <;> decide
theorem runEq {K : PySem.W.Frag} {α β : Type} [Rep α] [Rep β] {x : α} {y : β} {val : Bool} {f : α → V} {g : β → V} (hx : ∀ K F v, Rep.rep K F v x → v = f x) (hy : ∀ K F v, Rep.rep K F v y → v = g y) (hs : scal (f x) (g y) = true) (hv : decide (f x = g y) = val)
    (v u : V) (F H : Hp) (sm : Same F H) (rv : Rep.rep K F v x) (ru : Rep.rep K F u y) (Q : VK) (k : ∀ w F' H', Grow F H F' H' → Rep.rep K F' w val → Q w H') : rEq v u H Q := by
  rw [hx _ _ _ rv, hy _ _ _ ru]
  exact ⟨hs, k _ F H (.refl sm) (by rw [hv]; exact rfl)⟩
theorem runNe {K : PySem.W.Frag} {α β : Type} [Rep α] [Rep β] {x : α} {y : β} {val : Bool} {f : α → V} {g : β → V} (hx : ∀ K F v, Rep.rep K F v x → v = f x) (hy : ∀ K F v, Rep.rep K F v y → v = g y) (hs : scal (f x) (g y) = true) (hv : decide (f x = g y) = val)
    (v u : V) (F H : Hp) (sm : Same F H) (rv : Rep.rep K F v x) (ru : Rep.rep K F u y) (Q : VK) (k : ∀ w F' H', Grow F H F' H' → Rep.rep K F' w (!val) → Q w H') : rNe v u H Q := by
  rw [hx _ _ _ rv, hy _ _ _ ru]
  exact ⟨hs, k _ F H (.refl sm) (by rw [hv]; exact rfl)⟩
instance iEq : Op2 (compareOp .Eq) Int Int Bool := ⟨fun _ _ => True, fun x y => decide (x = y), fun _ => _, fun _ => op_eq, fun {K x y} _ => runEq (f := V.int) (g := V.int) (fun _ _ _ h => h) (fun _ _ _ h => h) rfl vint⟩
instance iNe : Op2 (compareOp .NotEq) Int Int Bool := ⟨fun _ _ => True, fun x y => !decide (x = y), fun _ => _, fun _ => op_ne, fun {K x y} _ => runNe (f := V.int) (g := V.int) (fun _ _ _ h => h) (fun _ _ _ h => h) rfl vint⟩
instance tEq : Op2 (compareOp .Eq) (List Nat) (List Nat) Bool := ⟨fun _ _ => True, fun x y => decide (x = y), fun _ => _, fun _ => op_eq, fun {K x y} _ => runEq (f := fun a => V.str (mkS a)) (g := fun a => V.str (mkS a)) (fun _ _ _ h => h) (fun _ _ _ h => h) rfl vstr⟩
instance tNe : Op2 (compareOp .NotEq) (List Nat) (List Nat) Bool := ⟨fun _ _ => True, fun x y => !decide (x = y), fun _ => _, fun _ => op_ne, fun {K x y} _ => runNe (f := fun a => V.str (mkS a)) (g := fun a => V.str (mkS a)) (fun _ _ _ h => h) (fun _ _ _ h => h) rfl vstr⟩
instance bEq : Op2 (compareOp .Eq) Bool Bool Bool := ⟨fun _ _ => True, fun x y => decide (x = y), fun _ => _, fun _ => op_eq, fun {K x y} _ => runEq (f := V.bl) (g := V.bl) (fun _ _ _ h => h) (fun _ _ _ h => h) rfl vbl⟩
instance bNe : Op2 (compareOp .NotEq) Bool Bool Bool := ⟨fun _ _ => True, fun x y => !decide (x = y), fun _ => _, fun _ => op_ne, fun {K x y} _ => runNe (f := V.bl) (g := V.bl) (fun _ _ _ h => h) (fun _ _ _ h => h) rfl vbl⟩
instance bIs : Op2 (compareOp .Is) Bool Bool Bool := ⟨fun _ _ => True, fun x y => decide (x = y), fun _ => rIsB, fun _ => op_isBl, fun {K x y} _ v u F H sm rv ru Q k => ⟨x, y, rv, ru, k _ F H (.refl sm) rfl⟩⟩
instance bIsNot : Op2 (compareOp .IsNot) Bool Bool Bool := ⟨fun _ _ => True, fun x y => !decide (x = y), fun _ => rNotB, fun _ => op_notBl, fun {K x y} _ v u F H sm rv ru Q k => ⟨x, y, rv, ru, k _ F H (.refl sm) rfl⟩⟩
theorem mkS_len (a : Tx) : (mkS a).length = a.length := by show a.toArray.size = a.length; simp
theorem mkS_app (a b : Tx) : mkS a ++ mkS b = mkS (a ++ b) := by
  have e : (mkS a ++ mkS b) = ⟨a.toArray ++ b.toArray⟩ := rfl
  rw [e]; show (⟨a.toArray ++ b.toArray⟩ : Str) = ⟨(a ++ b).toArray⟩
  rw [List.append_toArray]
instance tAdd2 : Op2 (binaryOp .Add) (List Nat) (List Nat) (List Nat) := ⟨fun x y => x.length + y.length ≤ 16777216, fun x y => x ++ y, fun _ => _, fun _ => op_add_str, fun {K x y} h v u F H sm rv ru Q k =>
  ⟨mkS x, mkS y, rv, ru, by rw [mkS_len, mkS_len, sizeLine_eq]; exact h, k _ F H (.refl sm) (by rw [mkS_app]; exact rfl)⟩⟩
theorem foldl_arr (x : Array Nat) : ∀ (n : Nat) (acc : Array Nat), ((List.replicate n x).foldl (· ++ ·) acc).toList = acc.toList ++ (List.replicate n x.toList).flatten
  | 0, acc => by simp
  | n + 1, acc => by
    rw [List.replicate_succ, List.foldl_cons, foldl_arr x n, List.replicate_succ, List.flatten_cons, Array.toList_append, List.append_assoc]
theorem txt_mul (x : Tx) (n : Int) : Txt.mul (mkS x) n = mkS (List.replicate n.toNat x).flatten := by
  have key : ∀ s : Str, s.cps.toList = (List.replicate n.toNat x).flatten → s = mkS (List.replicate n.toNat x).flatten := fun s h => by rw [← h]; exact (mkS_eq s).symm
  unfold Txt.mul
  by_cases h1 : n < 1
  · rw [if_pos h1]; apply key; rw [show n.toNat = 0 by omega]; rfl
  · rw [if_neg h1]
    by_cases h2 : (n == 1 || (mkS x).length == 0) = true
    · rw [if_pos h2]; apply key
      rw [Bool.or_eq_true] at h2
      rcases h2 with h2 | h2
      · have e : n = 1 := by simpa using h2
        subst e; show x.toArray.toList = _; simp [List.replicate]
      · have e : x.length = 0 := by rw [mkS_len] at h2; simpa using h2
        have e2 : x = [] := List.length_eq_zero_iff.mp e
        subst e2; show [] = _; simp
    · rw [if_neg h2]; apply key
      rw [foldl_arr]; show [] ++ _ = _; simp [mkS]
theorem op_mul_str {X : Cx} : OpR X (binaryOp .Mult) (fun x y H Q => ∃ (a : Tx) (n : Int), x = .str (mkS a) ∧ y = .int n ∧ (-1000000000 < n ∧ n < 1000000000 ∧ a.length * n.toNat ≤ 16777216) ∧ Q (.str (mkS (List.replicate n.toNat a).flatten)) H) := by
  intro pins s sl H x y v u Q I rx ry h
  obtain ⟨a, n, rfl, rfl, ⟨h1, h2, h3⟩, q⟩ := h
  obtain ⟨t, rfl⟩ := rx
  obtain ⟨t', rfl⟩ := ry
  refine PySem.SB.mul ⟨?_, fun h0 _ => ?_, fun h0 _ => ?_⟩ fun t' k => ⟨.str (Txt.mul (mkS a) n), H, I.tok _, ⟨_, rfl⟩, by rw [txt_mul]; exact q⟩
  · rw [decide_eq_false (by omega), decide_eq_false (by omega)]; rfl
  · rw [mkS_len]
    have hle : (a.length : Int) ≤ 16777216 := by
      have : 1 ≤ n.toNat := by omega
      have : a.length * 1 ≤ a.length * n.toNat := Nat.mul_le_mul_left _ this
      omega
    have hd : (2 ^ 63 - 1) / 1000000000 ≤ (2 ^ 63 - 1) / n := by
      have q1 : (2 ^ 63 - 1 : Int) / 1000000000 * n ≤ 2 ^ 63 - 1 := by
        have : (2 ^ 63 - 1 : Int) / 1000000000 = 9223372036 := by decide
        rw [this]; omega
      exact (Int.le_ediv_iff_mul_le (by omega)).mpr q1
    have e9 : (2 ^ 63 - 1 : Int) / 1000000000 = 9223372036 := by decide
    omega
  · rw [mkS_len]
    have e : Builtin.Str.tooLong (a.length * n.toNat) = decide (sizeLine < a.length * n.toNat) := by
      first | rfl | (unfold Builtin.Str.tooLong; rfl)
    rw [e, decide_eq_false]; rw [sizeLine_eq]; omega
instance tMul2 : Op2 (binaryOp .Mult) (List Nat) Int (List Nat) := ⟨fun x n => -1000000000 < n ∧ n < 1000000000 ∧ x.length * n.toNat ≤ 16777216, fun x n => (List.replicate n.toNat x).flatten, fun _ => _, fun _ => op_mul_str,
  fun {K x y} h v u F H sm rv ru Q k => ⟨x, y, rv, ru, h, k _ F H (.refl sm) rfl⟩⟩
theorem op_catX {X : Cx} : OpR X (binaryOp .Add) (fun x y H Q => ∃ l b xs zs, x = .ref l ∧ y = .ref b ∧ H l = some (.lst xs) ∧ H b = some (.lst zs) ∧ xs.length + zs.length ≤ sizeLine ∧ ∀ p, H p = none → Q (.ref p) (upd H p (.lst (xs ++ zs)))) := op_cat
end Wv
set_option Elab.async false
set_option linter.all false
set_option maxRecDepth 100000
set_option maxHeartbeats 4000000
namespace Wv
open PySem PySem.Spec PyProof.Rows L2
section
variable {X : Cx} {r : Rho} {α β γ : Type} [Rep α] [Rep β] [Rep γ] {pos : Pos}
theorem ee_pair {a b : Expr} {x : α} {y : β} {k : Nat} (h : EA X r [a, b] [vA x, vA y]) : EE X r (.Tuple [a, b] k pos) (x, y) := fun s F H sm sl Q k =>
  ⟨_, pe_tup (pa_w _), h s F H sm sl _ fun vs F1 H1 g1 rvs => by
    cases rvs with
    | cons r1 q =>
      cases q with
      | cons r2 q =>
        cases q
        rename_i v1 v2
        refine ⟨by show 2 ≤ sizeLine; decide, fun p hp => k (.ref p) _ _ (g1.trans (Grow.new _ g1.fh hp)) ?_⟩
        have s2 := (Grow.new (.tup [v1, v2]) g1.fh hp).ff
        exact ⟨p, v1, v2, rfl, .inl (.inl upd_same), Rep.mono s2 r1, Rep.mono s2 r2⟩⟩
class ToD (α : Type) [Rep α] where
  toD : α → PyData
  dp : ∀ {K : PySem.W.Frag} {F : Hp} {v : V} {a : α}, Rep.rep K F v a → Dp K F v (toD a)
instance : ToD Int := ⟨fun i => .int i, fun {K F v a} h => by cases (show v = V.int a from h); exact .int a⟩
instance : ToD Bool := ⟨fun i => .bool i, fun {K F v a} h => by cases (show v = V.bl a from h); exact .bl a⟩
instance : ToD Unit := ⟨fun _ => .none, fun {K F v a} h => by cases (show v = V.non from h); exact .non⟩
instance toDTx : ToD (List Nat) := ⟨fun a => .str (mkS a), fun {K F v a} h => by cases (show v = V.str (mkS a) from h); exact .str _⟩
instance : ToD PyData := ⟨id, fun h => h⟩
theorem dpAll_of [ToD α] {K : PySem.W.Frag} {F : Hp} : ∀ {vs : List V} {as : List α}, Paired (fun v a => Rep.rep K F v a) vs as → DpAll K F vs (as.map ToD.toD)
  | _, _, .nil => .nil
  | _, _, .cons h t => .cons (ToD.dp h) (dpAll_of t)
instance toDList [ToD α] : ToD (List α) := ⟨fun as => .list (as.map ToD.toD), fun {K F v as} h => by
  obtain ⟨p, vs, e, hs, hp⟩ := h
  subst e; exact .lst hs (dpAll_of hp)⟩
instance toDProd [ToD α] [ToD β] : ToD (α × β) := ⟨fun a => .tuple [ToD.toD a.1, ToD.toD a.2], fun {K F v a} h => by
  obtain ⟨p, x, y, e, hs, h1, h2⟩ := h
  subst e; exact .tup hs (.cons (ToD.dp h1) (.cons (ToD.dp h2) .nil))⟩
instance toDOption [ToD α] : ToD (Option α) := ⟨fun o => match o with | none => .none | some a => ToD.toD a, fun {K F v o} h => by
  cases o with
  | none => cases (show v = V.non from h); exact .non
  | some a => exact ToD.dp (α := α) h⟩
theorem ee_toD [ToD α] {e : Expr} {a : α} (h : EE X r e a) : EE X r e (ToD.toD a) := h.as fun _ _ _ q => ToD.dp q
theorem ea_toD1 [ToD α] {es : List Expr} {a : α} {ps : List Vp} (h : EA X r es (vA a :: ps)) : EA X r es (vA (ToD.toD a) :: ps) := fun s F H sm sl Q k => h s F H sm sl Q fun vs F' H' g q => k vs F' H' g (by
  cases q with
  | cons h t => exact .cons (ToD.dp (α := α) h) t)
theorem dpAll_vps {K : PySem.W.Frag} {F : Hp} : ∀ {vs : List V} {ds : List PyData}, Vps K F vs (ds.map vA) → DpAll K F vs ds
  | _, [], .nil => .nil
  | _, _ :: _, .cons h t => .cons h (dpAll_vps t)
theorem ee_tupD {es : List Expr} {ds : List PyData} {k : Nat} (h : EA X r es (ds.map vA)) (hl : ds.length ≤ 16777216) : EE X r (.Tuple es k pos) (PyData.tuple ds) := fun s F H sm sl Q k =>
  ⟨_, pe_tup (pa_w _), h s F H sm sl _ fun vs F1 H1 g1 rvs => by
    have hv := dpAll_vps rvs
    have hlen : vs.length ≤ sizeLine := by
      have := paired_len rvs
      rw [sizeLine_eq]; simp at this; omega
    exact ⟨hlen, fun p hp => k (.ref p) _ _ (g1.trans (Grow.new _ g1.fh hp)) (.tup (.inl (.inl upd_same)) (dpAll_mono (Grow.new (.tup vs) g1.fh hp).ff hv))⟩⟩
theorem ee_lstD {es : List Expr} {ds : List PyData} (h : EA X r es (ds.map vA)) (hl : ds.length ≤ 16777216) : EE X r (.List es pos) (PyData.list ds) := fun s F H sm sl Q k =>
  ⟨_, pe_lst (pa_w _), h s F H sm sl _ fun vs F1 H1 g1 rvs => by
    have hv := dpAll_vps rvs
    have hlen : vs.length ≤ sizeLine := by
      have := paired_len rvs
      rw [sizeLine_eq]; simp at this; omega
    exact ⟨hlen, fun p hp => k (.ref p) _ _ (g1.trans (Grow.new _ g1.fh hp)) (.lst (.inl (.inl upd_same)) (dpAll_mono (Grow.new (.lst vs) g1.fh hp).ff hv))⟩⟩
class Ix (α : Type) (β : outParam Type) [Rep α] [Rep β] where
  get : α → Int → Option β
  rr : PySem.W.Frag → R2
  is : ∀ X : Cx, IxR X (rr X.K)
  run : ∀ {K : PySem.W.Frag} {x : α} {i : Int} {b : β}, get x i = some b → ∀ v F H, Same F H → Rep.rep K F v x → ∀ Q : VK, (∀ w, Rep.rep K F w b → Q w H) → rr K v (.int i) H Q
theorem atI_paired {R : V → α → Prop} {vs : List V} {xs : List α} {i : Int} {b : α} (h : Paired R vs xs) (e : atI xs i = some b) : ∃ v, atI vs i = some v ∧ R v b := by
  unfold atI at e ⊢
  rw [← paired_len h] at e
  cases q : ixN vs.length i with
  | none => rw [q] at e; cases e
  | some j =>
    rw [q] at e
    obtain ⟨v, h1, h2⟩ := paired_get h (show xs[j]? = some b from e)
    exact ⟨v, h1, h2⟩
instance ixList : Ix (List α) α := ⟨fun x i => atI x i, fun K => rIxL K, fun _ => ix_list, fun {K x i b} e v F H sm h Q k => by
  obtain ⟨p, vs, e1, hs, hp⟩ := h
  obtain ⟨w, h1, h2⟩ := atI_paired hp e
  exact ⟨p, vs, i, w, e1, rfl, sm.seq hs, h1, k w h2⟩⟩
instance ixText : Ix (List Nat) (List Nat) := ⟨fun x i => if x.length ≤ 16777216 then (atI x i).map fun c => [c] else none, fun _ => rIxS, fun _ => ix_str, fun {K x i b} e v F H sm h Q k => by
  by_cases hz : x.length ≤ 16777216
  · rw [if_pos hz] at e
    cases q : atI x i with
    | none => rw [q] at e; cases e
    | some c =>
      rw [q] at e
      have e2 : b = [c] := (Option.some.inj e).symm
      subst e2
      exact ⟨mkS x, i, c, h, rfl, by rw [mkS_len, sizeLine_eq]; exact hz, by show atI x.toArray.toList i = _; simpa using q, k _ rfl⟩
  · rw [if_neg hz] at e; cases e⟩
def pairGet {α : Type} (x : α × α) (i : Int) : Option α := if i = 0 ∨ i = -2 then some x.1 else if i = 1 ∨ i = -1 then some x.2 else none
theorem atI_pair {α : Type} (a b : α) (i : Int) : atI [a, b] i = pairGet (a, b) i := by
  have hl : [a, b].length = 2 := rfl
  unfold pairGet atI
  rw [hl]
  by_cases h1 : i = 0
  · subst h1; rfl
  by_cases h2 : i = 1
  · subst h2; rfl
  by_cases h3 : i = -1
  · subst h3; rfl
  by_cases h4 : i = -2
  · subst h4; rfl
  have e : ixN 2 i = none := by
    unfold ixN
    by_cases h0 : 0 ≤ i
    · rw [if_pos h0, if_neg (by omega)]
    · rw [if_neg h0, if_neg (by omega)]
  rw [e, if_neg (by omega), if_neg (by omega)]
  rfl
instance ixPair : Ix (α × α) α := ⟨pairGet, fun K => rIxT K, fun _ => ix_tup, fun {K x i b} e v F H sm h Q k => by
  obtain ⟨p, v1, v2, e1, hs, h1, h2⟩ := h
  have key : ∃ w, atI [v1, v2] i = some w ∧ Rep.rep K F w b := by
    rw [atI_pair]
    unfold pairGet at e ⊢
    split at e
    · rename_i q; rw [if_pos q]; cases e; exact ⟨v1, rfl, h1⟩
    · rename_i q; rw [if_neg q]
      split at e
      · rename_i q2; rw [if_pos q2]; cases e; exact ⟨v2, rfl, h2⟩
      · cases e
  obtain ⟨w, q1, q2⟩ := key
  exact ⟨p, [v1, v2], i, w, e1, rfl, same_t sm hs, q1, k w q2⟩⟩
theorem ee_ix {a b : Expr} {x : α} {i : Int} {y : β} [o : Ix α β] (ha : EE X r a x) (hb : EE X r b i) (h : o.get x i = some y) (hs : PlainIx b := by exact fun _ _ => rfl) : EE X r (.Subscript a b pos) y := fun s F H sm sl Q k =>
  ⟨_, pe_ix (o.is X) (pe_w a) (pe_w b) hs, ha s F H sm sl _ fun v F1 H1 g1 rv => hb s F1 H1 g1.fh (sl.mono g1) _ fun u F2 H2 g2 ru => by
    cases (show u = V.int i from ru)
    exact o.run h v F2 H2 g2.fh (Rep.mono g2.ff rv) Q fun w rw => k w F2 H2 (g1.trans g2) rw⟩
def EO (X : Cx) (r : Rho) (e : Option Expr) (o : Option Int) : Prop :=
  ∀ (s : L2.St) (F H : Hp), Same F H → Slots X.K F H s r → ∀ Q : Option Int → Hp → Prop, (∀ F' H', Grow F H F' H' → Q o H') → ∃ t : TO, PO X e t ∧ t s H Q
def WO (X : Cx) (e : Option Expr) : TO := fun s H Q => ∃ t : TO, PO X e t ∧ t s H Q
theorem po_w (e : Option Expr) : PO X e (WO X e) := ⟨fun pins s sl H Q I ⟨_, h, q⟩ => h.run pins s sl H Q I q⟩
theorem eo_none : EO X r none none := fun s F H sm _ Q k => ⟨_, po_none, k F H (.refl sm)⟩
theorem eo_some {e : Expr} {i : Int} (h : EE X r e i) : EO X r (some e) (some i) := fun s F H sm sl Q k => ⟨_, po_some (pe_w e), h s F H sm sl _ fun v F1 H1 g1 rv => ⟨i, rv, k F1 H1 g1⟩⟩
class Slc (α : Type) [Rep α] where
  ok : α → Prop
  cut : α → Option Int → Option Int → α
  rr : PySem.W.Frag → V → Option Int → Option Int → Hp → VK → Prop
  is : ∀ X : Cx, SlR X (rr X.K)
  run : ∀ {K : PySem.W.Frag} {x : α} {lo hi : Option Int}, ok x → ∀ v F H, Same F H → Rep.rep K F v x → ∀ Q : VK, (∀ w F' H', Grow F H F' H' → Rep.rep K F' w (cut x lo hi) → Q w H') → rr K v lo hi H Q
def cutL {α : Type} (x : List α) (lo hi : Option Int) : List α := (x.drop (HT.sIx x.length 0 lo)).take (HT.sIx x.length x.length hi - HT.sIx x.length 0 lo)
instance slcText : Slc (List Nat) := ⟨fun x => x.length ≤ 16777216, fun x lo hi => cutL x lo hi, fun _ => rSlS, fun _ => sl_str, fun {K x lo hi} hz v F H sm h Q k =>
  ⟨mkS x, h, by rw [mkS_len, sizeLine_eq]; exact hz, k _ F H (.refl sm) (by
    show V.str (cutS (mkS x) lo hi) = V.str (mkS (cutL x lo hi))
    unfold cutS cutL
    rw [mkS_len]
    show V.str ⟨((x.toArray.toList.drop _).take _).toArray⟩ = _
    simp [mkS])⟩⟩
theorem slcList_run {K : PySem.W.Frag} {x : List α} {lo hi : Option Int} (v : V) (F H : Hp) (sm : Same F H) (h : Rep.rep K F v x) (Q : VK) (k : ∀ w F' H', Grow F H F' H' → Rep.rep K F' w (cutL x lo hi) → Q w H') : rSlL K v lo hi H Q := by
  obtain ⟨p, vs, e1, hs, hp⟩ := h
  refine ⟨p, vs, e1, sm.seq hs, fun q hq => k (.ref q) _ _ (Grow.new _ sm hq) ⟨q, cutV vs lo hi, rfl, .inl (.inl upd_same), ?_⟩⟩
  have e := paired_len hp
  unfold cutV cutL
  rw [e]
  exact paired_mono (fun _ _ => Rep.mono (Grow.new (.lst _) sm hq).ff) (paired_take _ (paired_drop _ hp))
instance slcList : Slc (List α) := ⟨fun _ => True, fun x lo hi => cutL x lo hi, fun K => rSlL K, fun _ => sl_list, fun {K x lo hi} _ => slcList_run⟩
theorem ee_slice {e : Expr} {lo hi : Option Expr} {x : α} {i j : Option Int} {p2 : Pos} [o : Slc α] (he : EE X r e x) (hl : EO X r lo i) (hh : EO X r hi j) (h : o.ok x) : EE X r (.Subscript e (.Slice lo hi none p2) pos) (o.cut x i j) := fun s F H sm sl Q k =>
  ⟨_, pe_slice (o.is X) (pe_w e) (po_w lo) (po_w hi), he s F H sm sl _ fun v F1 H1 g1 rv => hl s F1 H1 g1.fh (sl.mono g1) _ fun F2 H2 g2 => hh s F2 H2 g2.fh ((sl.mono g1).mono g2) _ fun F3 H3 g3 =>
    o.run h v F3 H3 g3.fh (Rep.mono g3.ff (Rep.mono g2.ff rv)) Q fun w F4 H4 g4 rw => k w F4 H4 (((g1.trans g2).trans g3).trans g4) rw⟩
end
end Wv
set_option Elab.async false
set_option linter.all false
set_option maxRecDepth 100000
set_option maxHeartbeats 4000000
namespace Wv
open PySem PySem.Spec PyProof.Rows L2
section
variable {X : Cx} {r : Rho} {α β γ : Type} [Rep α] [Rep β] [Rep γ] {pos p0 : Pos}
theorem ee_callB {id : String} {rr : List V → Hp → VK → Prop} {x : Str} {e : Expr} {es : List Expr} {ps : List Vp} {z : γ} (hc : CallR X (.builtin id) rr) (ha : EA X r (e :: es) ps)
    (hr : ∀ vs F H, Same F H → Vps X.K F vs ps → ∀ Q : VK, (∀ w F' H', Grow F H F' H' → Rep.rep X.K F' w z → Q w H') → rr vs H Q)
    (hg : Gl X x) (hm : X.mg x = none) (hv : bootBuiltins x = some (.builtin id)) (hn : x ≠ "__name__" := by decide) (hdb : (x == ("__debug__" : Str)) = false := by decide)
    (he : starEach (e :: es) X.env = (false, eval e X.env) :: starEach es X.env := by rfl) (hpl : (backTo pos (starEach es X.env)).any (·.1) = false := by rfl) : EE X r (.Call (.Name x p0) (e :: es) [] pos) z := fun s F H sm sl Q k =>
  ⟨_, pe_callB hc hg hm hv (pa_w _) hn hdb he hpl, ha s F H sm sl _ fun vs F1 H1 g1 q => hr vs F1 H1 g1.fh q Q fun w F2 H2 g2 rw => k w F2 H2 (g1.trans g2) rw⟩
theorem ee_callTy {T : String} {rr : List V → Hp → VK → Prop} {x : Str} {e : Expr} {es : List Expr} {ps : List Vp} {z : γ} (hc : CallR X (.type T) rr) (ha : EA X r (e :: es) ps)
    (hr : ∀ vs F H, Same F H → Vps X.K F vs ps → ∀ Q : VK, (∀ w F' H', Grow F H F' H' → Rep.rep X.K F' w z → Q w H') → rr vs H Q)
    (hg : Gl X x) (hm : X.mg x = none) (hv : bootBuiltins x = some (.type T)) (hn : x ≠ "__name__" := by decide) (hdb : (x == ("__debug__" : Str)) = false := by decide)
    (he : starEach (e :: es) X.env = (false, eval e X.env) :: starEach es X.env := by rfl) (hpl : (backTo pos (starEach es X.env)).any (·.1) = false := by rfl) : EE X r (.Call (.Name x p0) (e :: es) [] pos) z := fun s F H sm sl Q k =>
  ⟨_, pe_callTy hc hg hm hv (pa_w _) hn hdb he hpl, ha s F H sm sl _ fun vs F1 H1 g1 q => hr vs F1 H1 g1.fh q Q fun w F2 H2 g2 rw => k w F2 H2 (g1.trans g2) rw⟩
theorem vps1 {K : PySem.W.Frag} {F : Hp} {vs : List V} {p : Vp} (h : Vps K F vs [p]) : ∃ v, vs = [v] ∧ p.P K F v := by
  cases h with
  | cons a t => cases t; exact ⟨_, rfl, a⟩
theorem vps2 {K : PySem.W.Frag} {F : Hp} {vs : List V} {p q : Vp} (h : Vps K F vs [p, q]) : ∃ v w, vs = [v, w] ∧ p.P K F v ∧ q.P K F w := by
  cases h with
  | cons a t =>
    obtain ⟨w, e, b⟩ := vps1 t
    subst e
    exact ⟨_, _, rfl, a, b⟩
class Len (α : Type) [Rep α] where
  ok : α → Prop
  len : α → Nat
  run : ∀ {K : PySem.W.Frag} {x : α} {v : V} {F H : Hp}, ok x → Same F H → Rep.rep K F v x → LenV K v H (len x)
instance lenText : Len (List Nat) := ⟨fun x => x.length ≤ 16777216, fun x => x.length, fun {K x v F H} h _ e => by
  cases (show v = V.str (mkS x) from e)
  exact ⟨by rw [mkS_len, sizeLine_eq]; exact h, (mkS_len x).symm⟩⟩
instance lenList : Len (List α) := ⟨fun _ => True, fun x => x.length, fun {K x v F H} _ sm e => by
  obtain ⟨p, vs, e1, hs, hp⟩ := e
  subst e1
  exact .inl ⟨vs, sm.seq hs, (paired_len hp).symm⟩⟩
instance lenPair : Len (α × β) := ⟨fun _ => True, fun _ => 2, fun {K x v F H} _ sm e => by
  obtain ⟨p, a, b, e1, hs, _⟩ := e
  subst e1
  exact .inr ⟨_, same_t sm hs, rfl⟩⟩
theorem ee_len {e : Expr} {x : α} [o : Len α] (h : EE X r e x) (hk : o.ok x) (hm : X.mg "len" = none) (hg : Gl X "len" := by rfl)
    (he : starEach (e :: []) X.env = (false, eval e X.env) :: starEach [] X.env := by rfl) (hpl : (backTo pos (starEach [] X.env)).any (·.1) = false := by rfl) : EE X r (.Call (.Name "len" p0) [e] [] pos) (o.len x : Int) :=
  ee_callB call_len (ea_cons h ea_nil he) (fun vs F H sm q Q k => by
    obtain ⟨v, e1, h1⟩ := vps1 q
    exact ⟨v, o.len x, e1, o.run hk sm h1, k _ F H (.refl sm) rfl⟩) hg hm boot_len (by decide) (by decide) he hpl
theorem ee_min {a b : Expr} {i j : Int} (ha : EE X r a i) (hb : EE X r b j) (hm : X.mg "min" = none) (hc : X.calm = true) (hg : Gl X "min" := by rfl)
    (he : starEach (a :: [b]) X.env = (false, eval a X.env) :: starEach [b] X.env := by rfl) (he2 : starEach (b :: []) X.env = (false, eval b X.env) :: starEach [] X.env := by rfl) (hpl : (backTo pos (starEach [b] X.env)).any (·.1) = false := by rfl) : EE X r (.Call (.Name "min" p0) [a, b] [] pos) (min i j) :=
  ee_callB (call_min2 hc) (ea_cons ha (ea_cons hb ea_nil he2) he) (fun vs F H sm q Q k => by
    obtain ⟨v, w, e1, h1, h2⟩ := vps2 q
    refine ⟨i, j, by rw [e1, show v = V.int i from h1, show w = V.int j from h2], k _ F H (.refl sm) ?_⟩
    show V.int _ = V.int _
    congr 1; omega) hg hm (by decide +kernel) (by decide) (by decide) he hpl
theorem ee_max {a b : Expr} {i j : Int} (ha : EE X r a i) (hb : EE X r b j) (hm : X.mg "max" = none) (hc : X.calm = true) (hg : Gl X "max" := by rfl)
    (he : starEach (a :: [b]) X.env = (false, eval a X.env) :: starEach [b] X.env := by rfl) (he2 : starEach (b :: []) X.env = (false, eval b X.env) :: starEach [] X.env := by rfl) (hpl : (backTo pos (starEach [b] X.env)).any (·.1) = false := by rfl) : EE X r (.Call (.Name "max" p0) [a, b] [] pos) (max i j) :=
  ee_callB (call_max2 hc) (ea_cons ha (ea_cons hb ea_nil he2) he) (fun vs F H sm q Q k => by
    obtain ⟨v, w, e1, h1, h2⟩ := vps2 q
    refine ⟨i, j, by rw [e1, show v = V.int i from h1, show w = V.int j from h2], k _ F H (.refl sm) ?_⟩
    show V.int _ = V.int _
    congr 1; omega) hg hm (by decide +kernel) (by decide) (by decide) he hpl
class TyN (α : Type) [Rep α] where
  ty : α → String
  run : ∀ {K : PySem.W.Frag} {x : α} {v : V} {F H : Hp}, Same F H → Rep.rep K F v x → TyX K H v (.type (ty x))
theorem ty_list {K : PySem.W.Frag} {F H : Hp} {p : Addr} {vs : List V} (sm : Same F H) (hs : SqL K F p vs) : TyX K H (.ref p) (.type "list") := by
  rcases hs with (h | ⟨o, h⟩) | ⟨o, its, n, h1, h2, _⟩
  · exact .base (.lst (sm _ _ h))
  · exact .base (.frz (sm _ _ h))
  · exact .kList h1 h2
theorem ty_tup {K : PySem.W.Frag} {F H : Hp} {p : Addr} {vs : List V} (sm : Same F H) (hs : SqT K F p vs) : TyX K H (.ref p) (.type "tuple") := by
  rcases hs with (h | ⟨o, h⟩) | ⟨o, its, n, h1, h2, _⟩
  · exact .base (.tup (sm _ _ h))
  · exact .fTuple (sm _ _ h)
  · exact .kTuple h1 h2
instance : TyN Int := ⟨fun _ => "int", fun {K x v F H} _ h => by cases (show v = V.int x from h); exact .base (.int x)⟩
instance : TyN Bool := ⟨fun _ => "bool", fun {K x v F H} _ h => by cases (show v = V.bl x from h); exact .base (.bl x)⟩
instance tyText : TyN (List Nat) := ⟨fun _ => "str", fun {K x v F H} _ h => by cases (show v = V.str (mkS x) from h); exact .base (.str _)⟩
instance : TyN (α × β) := ⟨fun _ => "tuple", fun {K x v F H} sm h => by
  obtain ⟨p, a, b, e1, hs, _⟩ := h
  subst e1; exact ty_tup sm hs⟩
instance tyList : TyN (List α) := ⟨fun _ => "list", fun {K x v F H} sm h => by
  obtain ⟨p, a, e1, hs, _⟩ := h
  subst e1; exact ty_list sm hs⟩
def tyD : PyData → String
  | .none => "NoneType" | .bool _ => "bool" | .int _ => "int" | .str _ => "str" | .list _ => "list" | .tuple _ => "tuple" | .dict _ => "dict"
instance : TyN PyData := ⟨tyD, fun {K x v F H} sm h => by
  cases (show Dp K F v x from h) with
  | non => exact .base .non
  | bl b => exact .base (.bl b)
  | int b => exact .base (.int b)
  | str b => exact .base (.str b)
  | lst hs _ => exact ty_list sm hs
  | tup hs _ => exact ty_tup sm hs⟩
theorem ee_isi {e : Expr} {x : α} {T : Str} {tn : String} {b : Bool} {p1 : Pos} [o : TyN α] (h : EE X r e x) (hb : kitB (o.ty x) tn = some b) (hT : bootBuiltins T = some (.type tn)) (hmT : X.mg T = none) (hm : X.mg "isinstance" = none) (hgT : Gl X T := by rfl) (hg : Gl X "isinstance" := by rfl)
    (hnT : T ≠ "__name__" := by decide) (hdT : (T == ("__debug__" : Str)) = false := by decide)
    (he : starEach (e :: [.Name T p1]) X.env = (false, eval e X.env) :: starEach [.Name T p1] X.env := by rfl) (he2 : starEach (.Name T p1 :: []) X.env = (false, eval (.Name T p1) X.env) :: starEach [] X.env := by rfl) (hpl : (backTo pos (starEach [.Name T p1] X.env)).any (·.1) = false := by rfl) :
    EE X r (.Call (.Name "isinstance" p0) [e, .Name T p1] [] pos) b := fun s F H sm sl Q k =>
  ⟨_, pe_callB call_isi hg hm (by decide +kernel) (pa_cons (pe_w e) (pa_cons (pe_bltn (v := .ty tn) hgT hmT hT rfl hnT hdT) pa_nil he2) he) (by decide) (by decide) he hpl, h s F H sm sl _ fun v F1 H1 g1 rv =>
    ⟨v, .ty tn, .type (o.ty x), .type tn, b, rfl, .ty tn, o.run g1.fh rv, kit_ty hb, k _ F1 H1 g1 rfl⟩⟩
theorem ee_m1 {id : String} {name : Str} {o e : Expr} {apos : Pos} {rr : V → List V → Hp → VK → Prop} {a : Tx} {x : α} {z : γ} (slot : Slot "str" name id) (ty : typeOf (.builtin id) = pure (.type "method_descriptor")) (rule : MtR X id rr) (ho : EE X r o a) (he : EE X r e x)
    (hr : ∀ v F H, Same F H → Rep.rep X.K F v x → ∀ Q : VK, (∀ w F' H', Grow F H F' H' → Rep.rep X.K F' w z → Q w H') → rr (.str (mkS a)) [v] H Q)
    (hs : starEach [e] X.env = [(false, eval e X.env)] := by rfl) (hbase : attributeBase o name X.env (eval o X.env) = eval o X.env := by rfl) (hline : (apos.endLine == pos.line) = true := by rfl) : EE X r (.Call (.Attribute o name apos) [e] [] pos) z := fun s F H sm sl Q k =>
  ⟨_, pe_m1 slot ty rule (pe_w o) (pe_w e) hs hbase hline, ho s F H sm sl _ fun v F1 H1 g1 rv => by
    cases (show v = V.str (mkS a) from rv)
    exact ⟨⟨_, rfl⟩, he s F1 H1 g1.fh (sl.mono g1) _ fun u F2 H2 g2 ru => hr u F2 H2 g2.fh ru Q fun w F3 H3 g3 rw => k w F3 H3 ((g1.trans g2).trans g3) rw⟩⟩
def tStrip (a b : Tx) : Tx := (Txt.stripChars (mkS a) (mkS b)).cps.toList
def tCount (a b : Tx) : Int := Txt.count (mkS a) (mkS b)
def tFind (a b : Tx) : Int := Txt.find (mkS a) (mkS b)
theorem ee_strip {o e : Expr} {apos : Pos} {a b : Tx} (ho : EE X r o a) (he : EE X r e b) (hz : a.length ≤ 16777216)
    (hs : starEach [e] X.env = [(false, eval e X.env)] := by rfl) (hbase : attributeBase o "strip" X.env (eval o X.env) = eval o X.env := by rfl) (hline : (apos.endLine == pos.line) = true := by rfl) : EE X r (.Call (.Attribute o "strip" apos) [e] [] pos) (tStrip a b) :=
  ee_m1 F.slot_str_strip F.type_str_strip mt_stripChars ho he (fun v F H sm rv Q k => by
    cases (show v = V.str (mkS b) from rv)
    exact ⟨mkS a, mkS b, rfl, rfl, by rw [mkS_len, sizeLine_eq]; exact hz, k _ F H (.refl sm) (by show V.str _ = V.str (mkS (tStrip a b)); unfold tStrip; rw [mkS_eq])⟩) hs hbase hline
theorem ee_count {o e : Expr} {apos : Pos} {a b : Tx} (ho : EE X r o a) (he : EE X r e b)
    (hs : starEach [e] X.env = [(false, eval e X.env)] := by rfl) (hbase : attributeBase o "count" X.env (eval o X.env) = eval o X.env := by rfl) (hline : (apos.endLine == pos.line) = true := by rfl) : EE X r (.Call (.Attribute o "count" apos) [e] [] pos) (tCount a b) :=
  ee_m1 F.slot_str_count F.type_str_count mt_count ho he (fun v F H sm rv Q k => by
    cases (show v = V.str (mkS b) from rv)
    exact ⟨mkS a, mkS b, rfl, rfl, k _ F H (.refl sm) rfl⟩) hs hbase hline
theorem ee_find {o e : Expr} {apos : Pos} {a b : Tx} (ho : EE X r o a) (he : EE X r e b)
    (hs : starEach [e] X.env = [(false, eval e X.env)] := by rfl) (hbase : attributeBase o "find" X.env (eval o X.env) = eval o X.env := by rfl) (hline : (apos.endLine == pos.line) = true := by rfl) : EE X r (.Call (.Attribute o "find" apos) [e] [] pos) (tFind a b) :=
  ee_m1 F.slot_str_find F.type_str_find mt_find ho he (fun v F H sm rv Q k => by
    cases (show v = V.str (mkS b) from rv)
    exact ⟨mkS a, mkS b, rfl, rfl, k _ F H (.refl sm) rfl⟩) hs hbase hline
theorem strs_of {K : PySem.W.Frag} {F : Hp} : ∀ {vs : List V} {ls : List Tx}, Paired (fun v a => Rep.rep K F v a) vs ls → vs = (ls.map mkS).map V.str
  | _, _, .nil => rfl
  | _, _, .cons h t => by
    rw [strs_of t]; rw [show _ = V.str _ from h]; rfl
def tJoin (a : Tx) (ls : List Tx) : Tx := (Txt.join (mkS a) (ls.map mkS)).cps.toList
theorem ee_join {o e : Expr} {apos : Pos} {a : Tx} {ls : List Tx} (ho : EE X r o a) (he : EE X r e ls) (hz : (ls.map (·.length)).sum + ls.length * a.length ≤ 16777216)
    (hs : starEach [e] X.env = [(false, eval e X.env)] := by rfl) (hbase : attributeBase o "join" X.env (eval o X.env) = eval o X.env := by rfl) (hline : (apos.endLine == pos.line) = true := by rfl) : EE X r (.Call (.Attribute o "join" apos) [e] [] pos) (tJoin a ls) :=
  ee_m1 F.slot_str_join F.type_str_join mt_join ho he (fun v F H sm rv Q k => by
    obtain ⟨p, vs, e1, hs, hp⟩ := rv
    have e2 := strs_of hp
    subst e1 e2
    refine ⟨mkS a, p, ls.map mkS, rfl, rfl, .inl (sm.seq hs), ?_, k _ F H (.refl sm) (by show V.str _ = V.str (mkS (tJoin a ls)); unfold tJoin; rw [mkS_eq])⟩
    rw [List.length_map, mkS_len, List.map_map]
    have e3 : (ls.map ((fun x : Str => x.length) ∘ mkS)) = ls.map (·.length) := List.map_congr_left fun x _ => mkS_len x
    rw [e3]; exact hz) hs hbase hline
end
end Wv
set_option Elab.async false
set_option linter.all false
set_option maxRecDepth 100000
set_option maxHeartbeats 4000000
namespace Wv
open PySem PySem.Spec PyProof.Rows L2
def spF {γ : Type} [Rep γ] (K : PySem.W.Frag) (R : List Vp → γ → Prop) : Sp := fun vs H Q _ => ∃ (F : Hp) (ps : List Vp) (a : γ), Same F H ∧ Vps K F vs ps ∧ R ps a ∧ ∀ v F' H', Grow F H F' H' → Rep.rep K F' v a → Q v H'
structure Dfn {γ : Type} [Rep γ] (P : Program) (w : World) (K : PySem.W.Frag) (mg : Str → Option Value) (base : Heap) (x : Str) (k : Nat) (R : List Vp → γ → Prop) : Prop where
  ex : ∃ (f : Addr) (fd : FuncData) (ps : List Str), mg x = some (.ref f) ∧ PySem.W.keepIn K (.ref f) = true ∧ Binds K fd ps [] ∧ FnOk P w K mg base CX0 k f fd ps (spF K R)
section
variable {X : Cx} {r : Rho} {α β γ : Type} [Rep α] [Rep β] [Rep γ] {pos p0 : Pos}
theorem ee_call {x : Str} {k : Nat} {R : List Vp → γ → Prop} {e : Expr} {es : List Expr} {ps : List Vp} {a : γ} (G : Dfn X.prog X.w X.K X.mg X.base x k R) (hr : Room k X.A) (ha : EA X r (e :: es) ps) (h : R ps a) (hg : Gl X x)
    (hdb : (x == ("__debug__" : Str)) = false := by decide) (he : starEach (e :: es) X.env = (false, eval e X.env) :: starEach es X.env := by rfl) (hpl : (backTo pos (starEach es X.env)).any (·.1) = false := by rfl) :
    EE X r (.Call (.Name x p0) (e :: es) [] pos) a := fun s F H sm sl Q k => by
  obtain ⟨f, fd, pn, hm, hk, hb, ok⟩ := G.ex
  refine ⟨_, pe_call ok hr hg hm hk hb .nil pass0 (pa_w _) hdb he hpl, ha s F H sm sl _ fun vs F1 H1 g1 q => ?_⟩
  rw [List.append_nil]
  exact ⟨F1, ps, a, g1.fh, q, h, fun v F2 H2 g2 rv => k v F2 H2 (g1.trans g2) rv⟩
end
def At (K : PySem.W.Frag) (F0 H0 : Hp) (r : Rho) (F H : Hp) (s : L2.St) : Prop := Grow F0 H0 F H ∧ Slots K F H s r
def Go (X : Cx) (F0 H0 : Hp) (D : Ends) (r : Rho) (ss : List Stmt) : Prop := ∀ F H s, At X.K F0 H0 r F H s → WB X ss D s H
def thenD (X : Cx) (D : Ends) (rest : List Stmt) : Ends := { D with nx := WB X rest D }
theorem wb_cons {X : Cx} {st : Stmt} {rest : List Stmt} {D : Ends} {s : L2.St} {H : Hp} (h : WS X st (thenD X D rest) s H) : WB X (st :: rest) D s H := ⟨_, pss_cons (ps_w st) (pss_w rest), h⟩
section
variable {X : Cx} {F0 H0 : Hp} {D : Ends} {r : Rho} {rest : List Stmt} {α β γ : Type} [Rep α] [Rep β] [Rep γ] {pos p0 : Pos}
theorem go_nil (h : ∀ F H s, At X.K F0 H0 r F H s → D.nx s H) : Go X F0 H0 D r [] := fun F H s a => ⟨_, pss_nil, h F H s a⟩
theorem go_on (h : Go X F0 H0 D r rest) : Go X F0 H0 (thenD X D rest) r [] := go_nil fun F H s a => h F H s a
theorem slots_set {K : PySem.W.Frag} {F H : Hp} {s : L2.St} {i : Nat} {v : V} {a : α} (h : Slots K F H s r) (q : Rep.rep K F v a) : Slots K F H (s.set i (some v)) (r.set i (isA a)) := paired_set (R := fun x (P : Sl) => P.P K F H x) (x := some v) (y := isA a) (show ∃ u, some v = some u ∧ Rep.rep K F u a from ⟨v, rfl, q⟩) i h
theorem go_set (i : Nat) {x : Str} {e : Expr} {a : α} {p' : Pos} (he : EE X r e a) (h : Go X F0 H0 D (r.set i (isA a)) rest) (hN : X.N.Nodup) (hi : X.N[i]? = some x) (hx : Loc X.env.scope x)
    (hs : swapsWith e (some (.Name x p')) pos.line X.env = pure false := by rfl) (hf : X.fn x = true ∨ X.env.scope.names.lookup x = some .local := by first | exact .inl rfl | exact .inr rfl | assumption) :
    Go X F0 H0 D r (.Assign [.Name x p'] e pos :: rest) := fun F H s ⟨g, sl⟩ => wb_cons ⟨_, ps_set hN hi hx (pe_w e) hs hf, he s F H g.fh sl _ fun v F1 H1 g1 rv => h F1 H1 _ ⟨g.trans g1, slots_set (sl.mono g1) rv⟩⟩
theorem go_ret {e : Expr} {a : α} (he : EE X r e a) (h : ∀ v F H, Grow F0 H0 F H → Rep.rep X.K F v a → D.rt v H) : Go X F0 H0 D r (.Return (some e) pos :: rest) := fun F H s ⟨g, sl⟩ =>
  wb_cons ⟨_, ps_ret (pe_w e), he s F H g.fh sl _ fun v F1 H1 g1 rv => h v F1 H1 (g.trans g1) rv⟩
theorem go_retN (h : ∀ F H, Grow F0 H0 F H → D.rt .non H) : Go X F0 H0 D r (.Return none pos :: rest) := fun F H s ⟨g, sl⟩ => wb_cons ⟨_, ps_retN, h F H g⟩
theorem go_if {c : Expr} {a b : List Stmt} {t : Bool} (hc : ET X r c t) (h1 : t = true → Go X F0 H0 (thenD X D rest) r a) (h2 : t = false → Go X F0 H0 (thenD X D rest) r b) : Go X F0 H0 D r (.If c a b pos :: rest) := fun F H s ⟨g, sl⟩ =>
  wb_cons ⟨_, ps_if (pt_w c) (pss_w a) (pss_w b), hc s F H g.fh sl _ fun F1 H1 g1 => by
    cases t with
    | true => exact h1 rfl F1 H1 s ⟨g.trans g1, sl.mono g1⟩
    | false => exact h2 rfl F1 H1 s ⟨g.trans g1, sl.mono g1⟩⟩
def joinD (X : Cx) (F0 H0 : Hp) (D : Ends) (r' : Rho) : Ends := { D with nx := fun s H => ∃ F, At X.K F0 H0 r' F H s }
theorem go_ifJ (r' : Rho) {c : Expr} {a b : List Stmt} {t : Bool} (hc : ET X r c t) (h1 : t = true → Go X F0 H0 (joinD X F0 H0 D r') r a) (h2 : t = false → Go X F0 H0 (joinD X F0 H0 D r') r b) (h : Go X F0 H0 D r' rest) : Go X F0 H0 D r (.If c a b pos :: rest) := fun F H s ⟨g, sl⟩ => by
  have key : PS X (.If c a b pos) (fun D' s' H' => D' = thenD X D rest ∧ ∃ F', At X.K F0 H0 r F' H' s') := ⟨fun pins sh s' H' D' I ⟨e, F', g', sl'⟩ => by
    subst e
    obtain ⟨tt, pp, qq⟩ : WS X (.If c a b pos) (joinD X F0 H0 D r') s' H' := ⟨_, ps_if (pt_w c) (pss_w a) (pss_w b), hc s' F' H' g'.fh sl' _ fun F1 H1 g1 => by
      cases t with
      | true => exact h1 rfl F1 H1 s' ⟨g'.trans g1, sl'.mono g1⟩
      | false => exact h2 rfl F1 H1 s' ⟨g'.trans g1, sl'.mono g1⟩⟩
    refine wpAny_mono (pp.run pins sh s' H' _ I qq) (fun fl s1 hsp => ?_) (fun _ _ z => z)
    cases fl with
    | next =>
      obtain ⟨s2, H2, I2, F2, a2⟩ := hsp
      exact ⟨s2, H2, I2, h F2 H2 s2 a2⟩
    | brk => exact hsp
    | cont => exact hsp
    | ret u => exact hsp⟩
  exact wb_cons ⟨_, key, rfl, F, g, sl⟩
theorem go_join {r' : Rho} (h : ∀ K F H s, Slots K F H s r → Slots K F H s r') : Go X F0 H0 (joinD X F0 H0 D r') r [] := go_nil fun F H s a => ⟨F, a.1, h _ _ _ _ a.2⟩
theorem go_expr {e : Expr} {a : α} (he : EE X r e a) (h : Go X F0 H0 D r rest) (hs : swapsWith e none pos.line X.env = pure false := by rfl) : Go X F0 H0 D r (.Expr e pos :: rest) := fun F H s ⟨g, sl⟩ =>
  wb_cons ⟨_, ps_expr (pe_w e) hs, he s F H g.fh sl _ fun v F1 H1 g1 _ => h F1 H1 s ⟨g.trans g1, sl.mono g1⟩⟩
theorem go_weak {r' : Rho} {ss : List Stmt} (h : Go X F0 H0 D r' ss) (hw : ∀ K F H s, Slots K F H s r → Slots K F H s r') : Go X F0 H0 D r ss := fun F H s ⟨g, sl⟩ => h F H s ⟨g, hw _ _ _ _ sl⟩
theorem go_break (h : ∀ F H s, At X.K F0 H0 r F H s → D.bk s H) : Go X F0 H0 D r (.Break pos :: rest) := fun F H s a => wb_cons ⟨_, ps_break, h F H s a⟩
theorem go_continue (h : ∀ F H s, At X.K F0 H0 r F H s → D.ct s H) : Go X F0 H0 D r (.Continue pos :: rest) := fun F H s a => wb_cons ⟨_, ps_continue, h F H s a⟩
theorem go_aug (i : Nat) {x : Str} {e : Expr} {n m : Int} {p' : Pos} (hr : r[i]? = some (isA n)) (he : EE X r e m) (h : Go X F0 H0 D (r.set i (isA (n + m))) rest) (hN : X.N.Nodup) (hi : X.N[i]? = some x) (hx : Loc X.env.scope x)
    (hf : X.fn x = true ∨ X.env.scope.names.lookup x = some .local := by first | exact .inl rfl | exact .inr rfl | assumption) : Go X F0 H0 D r (.AugAssign (.Name x p') .Add e pos :: rest) := fun F H s ⟨g, sl⟩ => by
  obtain ⟨o, e1, v, e2, hv⟩ := paired_get sl hr
  subst e2
  cases (show v = V.int n from hv)
  refine wb_cons ⟨_, ps_aug hN hi hx (pe_w e) ip_add hf, ⟨_, e1, he s F H g.fh sl _ fun u F1 H1 g1 ru => ⟨n, m, rfl, ru, ?_⟩⟩⟩
  exact h F1 H1 _ ⟨g.trans g1, slots_set (sl.mono g1) rfl⟩
theorem go_two (i j : Nat) {x y : Str} {e : Expr} {a : α} {b : β} {p1 p2 p3 : Pos} {k : Nat} (he : EE X r e (a, b)) (h : Go X F0 H0 D ((r.set i (isA a)).set j (isA b)) rest) (hc : X.calm = true) (hN : X.N.Nodup) (hi : X.N[i]? = some x) (hj : X.N[j]? = some y) (hx : Loc X.env.scope x) (hy : Loc X.env.scope y)
    (hf : X.fn x = true ∨ X.env.scope.names.lookup x = some .local := by first | exact .inl rfl | exact .inr rfl | assumption) (hf' : X.fn y = true ∨ X.env.scope.names.lookup y = some .local := by first | exact .inl rfl | exact .inr rfl | assumption)
    (hs : swapsWithSole [.Tuple [.Name x p1, .Name y p2] k p3] e pos.line X.env = pure false := by rfl) (hw : swappedStores [.Tuple [.Name x p1, .Name y p2] k p3] e X.env = pure none := by rfl)
    (h1 : (assignEach [.Tuple [.Name x p1, .Name y p2] k p3] X.env).map (·.2) = [assign (.Tuple [.Name x p1, .Name y p2] k p3) X.env] := by rfl)
    (h2 : (assignEach [.Name x p1, .Name y p2] X.env).map (·.2) = assign (.Name x p1) X.env :: (assignEach [.Name y p2] X.env).map (·.2) := by rfl) (h3 : (assignEach [.Name y p2] X.env).map (·.2) = assign (.Name y p2) X.env :: (assignEach [] X.env).map (·.2) := by rfl)
    (h4 : (assignEach [.Name x p1, .Name y p2] X.env).length = 2 := by rfl) (h5 : (assignEach [.Name x p1, .Name y p2] X.env).findIdx? (·.1) = none := by rfl) :
    Go X F0 H0 D r (.Assign [.Tuple [.Name x p1, .Name y p2] k p3] e pos :: rest) := fun F H s ⟨g, sl⟩ =>
  wb_cons ⟨_, ps_asg (pe_w e) (pg_tup hc (pgs_cons (pg_name hN hi hx hf) (pgs_cons (pg_name hN hj hy hf') pgs_nil h3) h2) h4 h5) hs hw h1, he s F H g.fh sl _ fun v F1 H1 g1 ⟨p, v1, v2, e1, ht, r1, r2⟩ =>
    ⟨p, [v1, v2], e1, same_t g1.fh ht, rfl, v1, [v2], rfl, v2, [], rfl, rfl, h F1 H1 _ ⟨g.trans g1, slots_set (slots_set (sl.mono g1) r1) r2⟩⟩⟩
theorem go_par (i j : Nat) {x y : Str} {e1 e2 : Expr} {a : α} {b : β} {p1 p2 p3 p4 : Pos} {k k2 : Nat} (h1 : EE X r e1 a) (h2 : EE X r e2 b) (h : Go X F0 H0 D ((r.set i (isA a)).set j (isA b)) rest) (hc : X.calm = true) (hN : X.N.Nodup) (hi : X.N[i]? = some x) (hj : X.N[j]? = some y) (hij : i ≠ j)
    (hx : X.env.scope.names.lookup x = some .local) (hy : X.env.scope.names.lookup y = some .local)
    (hw : swappedStores [.Tuple [.Name x p1, .Name y p2] k p3] (.Tuple [e1, e2] k2 p4) X.env = pure (some [x, y]) := by rfl)
    (hs : swapsWithSole [.Tuple [.Name x p1, .Name y p2] k p3] (.Tuple [e1, e2] k2 p4) pos.line X.env = pure false := by rfl)
    (he : starEach (e1 :: [e2]) X.env = (false, eval e1 X.env) :: starEach [e2] X.env := by rfl) (he2 : starEach (e2 :: []) X.env = (false, eval e2 X.env) :: starEach [] X.env := by rfl) :
    Go X F0 H0 D r (.Assign [.Tuple [.Name x p1, .Name y p2] k p3] (.Tuple [e1, e2] k2 p4) pos :: rest) := fun F H s ⟨g, sl⟩ =>
  wb_cons ⟨_, ps_par hc hN hi hj hij hx hy (pa_w _) hw hs, (ea_cons h1 (ea_cons h2 ea_nil he2) he) s F H g.fh sl _ fun vs F1 H1 g1 q => by
    obtain ⟨v, w, ev, r1, r2⟩ := vps2 q
    exact ⟨v, w, ev, h F1 H1 _ ⟨g.trans g1, slots_set (slots_set (sl.mono g1) r1) r2⟩⟩⟩
def loopD (X : Cx) (D : Ends) (rest : List Stmt) (N : L2.St → Hp → Prop) : Ends := { D with nx := N, ct := N, bk := WB X rest D }
theorem go_next {N : L2.St → Hp → Prop} (h : ∀ F H s, At X.K F0 H0 r F H s → N s H) : Go X F0 H0 (loopD X D rest N) r [] := go_nil fun F H s a => h F H s a
theorem go_range1 (j : Nat) {x : Str} {e : Expr} {n : Int} {body : List Stmt} {p1 p2 p3 : Pos} (I : Nat → Rho) (C : Nat → Prop) (he : EE X r e n) (hn : -(2 ^ 62) ≤ n ∧ n < 2 ^ 62) (c0 : C 0) (h0 : ∀ K F H s, Slots K F H s r → Slots K F H s (I 0))
    (hb : ∀ i : Nat, C i → (i : Int) < n → Go X F0 H0 (loopD X D rest fun s H => C (i + 1) ∧ ∃ F, At X.K F0 H0 (I (i + 1)) F H s) ((I i).set j (isA (i : Int))) body) (hd : C n.toNat → Go X F0 H0 D (I n.toNat) rest)
    (hm : X.mg "range" = none) (hpo : PassesOwn (model X.prog X.w) X.A X.env X.xe) (hc : X.calm = true) (hN : X.N.Nodup) (hi : X.N[j]? = some x) (hx : Loc X.env.scope x) (hg : Gl X "range" := by rfl) (hs : starEach [e] X.env = [(false, eval e X.env)] := by rfl)
    (hf : X.fn x = true ∨ X.env.scope.names.lookup x = some .local := by first | exact .inl rfl | exact .inr rfl | assumption) (hfo : ∀ z, foldedSetIterable (.Call (.Name "range" p1) [e] [] p2) X.env z = pure z := by intro _; rfl) :
    Go X F0 H0 D r (.For (.Name x p3) (.Call (.Name "range" p1) [e] [] p2) body [] pos :: rest) := fun F H s ⟨g, sl⟩ =>
  wb_cons ⟨_, ps_for hpo hc (pi_range1 hg hm (pa_w _) hs) (pg_name hN hi hx hf) (pss_w body) hfo, (ea_cons he ea_nil hs) s F H g.fh sl _ fun vs F1 H1 g1 q => by
    obtain ⟨v, ev, rv⟩ := vps1 q
    cases (show v = V.int n from rv)
    refine ⟨n, ev, hn.1, hn.2, for_range (lo := 0) (n := n.toNat) (fun i s H => C i ∧ ∃ F, At X.K F0 H0 (I i) F H s) ⟨c0, F1, g.trans g1, h0 _ _ _ _ (sl.mono g1)⟩ (fun i s2 H2 hi2 ⟨c2, F2, g2, sl2⟩ => ?_) fun s2 H2 ⟨c2, F2, a2⟩ => hd c2 F2 H2 s2 a2⟩
    have e0 : (0 : Int) + (i : Int) = (i : Int) := Int.zero_add _
    show WB X body _ (s2.set j (some (.int ((0 : Int) + (i : Int))))) H2
    rw [e0]
    exact hb i c2 (by omega) F2 H2 _ ⟨g2, slots_set sl2 rfl⟩⟩
theorem go_range2 (j : Nat) {x : Str} {e1 e2 : Expr} {lo n : Int} {body : List Stmt} {p1 p2 p3 : Pos} (I : Nat → Rho) (C : Nat → Prop) (he1 : EE X r e1 lo) (he2 : EE X r e2 n) (hn : (-(2 ^ 62) ≤ lo ∧ lo < 2 ^ 62) ∧ -(2 ^ 62) ≤ n ∧ n < 2 ^ 62) (c0 : C 0) (h0 : ∀ K F H s, Slots K F H s r → Slots K F H s (I 0))
    (hb : ∀ i : Nat, C i → lo + (i : Int) < n → Go X F0 H0 (loopD X D rest fun s H => C (i + 1) ∧ ∃ F, At X.K F0 H0 (I (i + 1)) F H s) ((I i).set j (isA (lo + (i : Int)))) body) (hd : C (n - lo).toNat → Go X F0 H0 D (I (n - lo).toNat) rest)
    (hm : X.mg "range" = none) (hpo : PassesOwn (model X.prog X.w) X.A X.env X.xe) (hc : X.calm = true) (hN : X.N.Nodup) (hi : X.N[j]? = some x) (hx : Loc X.env.scope x) (hg : Gl X "range" := by rfl) (hs : starEach [e1, e2] X.env = [(false, eval e1 X.env), (false, eval e2 X.env)] := by rfl) (hs2 : starEach [e2] X.env = [(false, eval e2 X.env)] := by rfl)
    (hf : X.fn x = true ∨ X.env.scope.names.lookup x = some .local := by first | exact .inl rfl | exact .inr rfl | assumption) (hfo : ∀ z, foldedSetIterable (.Call (.Name "range" p1) [e1, e2] [] p2) X.env z = pure z := by intro _; rfl)
    (hs3 : starEach (e1 :: [e2]) X.env = (false, eval e1 X.env) :: starEach [e2] X.env := by rfl) :
    Go X F0 H0 D r (.For (.Name x p3) (.Call (.Name "range" p1) [e1, e2] [] p2) body [] pos :: rest) := fun F H s ⟨g, sl⟩ =>
  wb_cons ⟨_, ps_for hpo hc (pi_range2 hg hm (pa_w _) hs hs2) (pg_name hN hi hx hf) (pss_w body) hfo, (ea_cons he1 (ea_cons he2 ea_nil hs2) hs3) s F H g.fh sl _ fun vs F1 H1 g1 q => by
    obtain ⟨v, w, ev, rv, rw⟩ := vps2 q
    cases (show v = V.int lo from rv)
    cases (show w = V.int n from rw)
    refine ⟨lo, n, ev, ⟨hn.1.1, hn.1.2, hn.2.1, hn.2.2⟩, for_range (lo := lo) (n := (n - lo).toNat) (fun i s H => C i ∧ ∃ F, At X.K F0 H0 (I i) F H s) ⟨c0, F1, g.trans g1, h0 _ _ _ _ (sl.mono g1)⟩ (fun i s2 H2 hi2 ⟨c2, F2, g2, sl2⟩ => ?_) fun s2 H2 ⟨c2, F2, a2⟩ => hd c2 F2 H2 s2 a2⟩
    exact hb i c2 (by omega) F2 H2 _ ⟨g2, slots_set sl2 rfl⟩⟩
theorem go_forL (j : Nat) {x : Str} {e : Expr} {xs : List α} {body : List Stmt} {p3 : Pos} (I : Nat → Rho) (C : Nat → Prop) (he : EE X r e xs) (c0 : C 0) (h0 : ∀ K F H s, Slots K F H s r → Slots K F H s (I 0))
    (hb : ∀ F1 : Hp, (∀ F H, Grow F1 H0 F H → Grow F0 H0 F H) → ∀ (i : Nat) (a : α), C i → xs[i]? = some a → Go X F1 H0 (loopD X D rest fun s H => C (i + 1) ∧ ∃ F, At X.K F1 H0 (I (i + 1)) F H s) ((I i).set j (isA a)) body) (hd : C xs.length → Go X F0 H0 D (I xs.length) rest)
    (hpo : PassesOwn (model X.prog X.w) X.A X.env X.xe) (hc : X.calm = true) (hN : X.N.Nodup) (hi : X.N[j]? = some x) (hx : Loc X.env.scope x)
    (hf : X.fn x = true ∨ X.env.scope.names.lookup x = some .local := by first | exact .inl rfl | exact .inr rfl | assumption) (hfo : ∀ z, foldedSetIterable e X.env z = pure z := by intro _; rfl) :
    Go X F0 H0 D r (.For (.Name x p3) e body [] pos :: rest) := fun F H s ⟨g, sl⟩ => by
  refine wb_cons ⟨_, ps_for hpo hc (pi_list (pe_w e)) (pg_name hN hi hx hf) (pss_w body) hfo, he s F H g.fh sl _ fun v F1 H1 g1 ⟨p, vs, ev, hs, hp⟩ => ?_⟩
  have g01 := g.trans g1
  have up : ∀ F H, Grow F1 H0 F H → Grow F0 H0 F H := fun F H q => ⟨q.hh, g01.ff.trans q.ff, q.fh, fun a z => (q.nw a z).trans (g01.nw a z)⟩
  refine ⟨p, ev, ⟨vs, g1.fh.seq hs⟩, for_list (xs := vs) (fun i s H => C i ∧ ∃ F, At X.K F1 H0 (I i) F H s) ⟨c0, F1, ⟨g01.hh, Same.refl _, g01.fh, fun _ _ => rfl⟩, h0 _ _ _ _ (sl.mono g1)⟩ (fun i s2 H2 _ ⟨_, F2, a2⟩ => a2.1.fh.seq (a2.1.ff.seq hs)) (fun i y s2 H2 hy ⟨c2, F2, g2, sl2⟩ => ?_) fun s2 H2 ⟨c2, F2, a2⟩ => hd (by rw [← paired_len hp]; exact c2) F2 H2 s2 ⟨up _ _ a2.1, by rw [← paired_len hp]; exact a2.2⟩⟩
  obtain ⟨a, ea, ra⟩ := paired_get' hp hy
  exact hb F1 up i a c2 ea F2 H2 _ ⟨g2, slots_set sl2 (Rep.mono g2.ff ra)⟩
theorem go_forS (j : Nat) {x : Str} {e : Expr} {xs : Tx} {body : List Stmt} {p3 : Pos} (I : Nat → Rho) (C : Nat → Prop) (he : EE X r e xs) (c0 : C 0) (h0 : ∀ K F H s, Slots K F H s r → Slots K F H s (I 0))
    (hb : ∀ (i : Nat) (c : Nat), C i → xs[i]? = some c → Go X F0 H0 (loopD X D rest fun s H => C (i + 1) ∧ ∃ F, At X.K F0 H0 (I (i + 1)) F H s) ((I i).set j (isA ([c] : Tx))) body) (hd : C xs.length → Go X F0 H0 D (I xs.length) rest)
    (hpo : PassesOwn (model X.prog X.w) X.A X.env X.xe) (hc : X.calm = true) (hN : X.N.Nodup) (hi : X.N[j]? = some x) (hx : Loc X.env.scope x)
    (hf : X.fn x = true ∨ X.env.scope.names.lookup x = some .local := by first | exact .inl rfl | exact .inr rfl | assumption) (hfo : ∀ z, foldedSetIterable e X.env z = pure z := by intro _; rfl) :
    Go X F0 H0 D r (.For (.Name x p3) e body [] pos :: rest) := fun F H s ⟨g, sl⟩ => by
  refine wb_cons ⟨_, ps_for hpo hc (pi_str (pe_w e)) (pg_name hN hi hx hf) (pss_w body) hfo, he s F H g.fh sl _ fun v F1 H1 g1 ev => ⟨mkS xs, ev, ?_⟩⟩
  have hsz : (mkS xs).cps.size = xs.length := by show xs.toArray.size = _; simp
  refine ⟨fun i m s H => m = xs.length - i ∧ i ≤ xs.length ∧ C i ∧ ∃ F, At X.K F0 H0 (I i) F H s, ⟨xs.length, by simp, Nat.zero_le _, c0, F1, g.trans g1, h0 _ _ _ _ (sl.mono g1)⟩, ?_⟩
  rintro i m s2 H2 ⟨rfl, hi2, c2, F2, g2, sl2⟩
  by_cases hlt : i < xs.length
  · refine .inr ⟨by show i < (mkS xs).cps.size; rw [hsz]; exact hlt, fun s H => C (i + 1) ∧ ∃ F, At X.K F0 H0 (I (i + 1)) F H s, fun s' H' p' => ⟨xs.length - (i + 1), by omega, rfl, hlt, p'⟩, fun v H' y => ?_⟩
    obtain ⟨e1, c, hc1, e2⟩ := y
    subst e1 e2
    have hc2 : xs[i]? = some c := by
      have : xs.toArray[i]? = some c := hc1
      simpa using this
    exact hb i c c2 hc2 F2 _ _ ⟨g2, slots_set (a := ([c] : Tx)) sl2 rfl⟩
  · have e : i = xs.length := by omega
    subst e
    exact .inl ⟨by show (mkS xs).cps.size ≤ _; rw [hsz]; exact Nat.le_refl _, hd c2 F2 H2 s2 ⟨g2, sl2⟩⟩
theorem go_while {c : Expr} {body : List Stmt} {Y : Type} (I : Y → Rho) (ok : Y → Prop) (m : Y → Nat) (t : Y → Bool) (y0 : Y) (hy : ok y0) (h0 : ∀ K F H s, Slots K F H s r → Slots K F H s (I y0)) (hc : ∀ y, ok y → ET X (I y) c (t y))
    (hb : ∀ y, ok y → t y = true → Go X F0 H0 (loopD X D rest fun s H => ∃ F y', ok y' ∧ m y' < m y ∧ At X.K F0 H0 (I y') F H s) (I y) body) (hd : ∀ y, ok y → t y = false → Go X F0 H0 D (I y) rest)
    (hpo : PassesOwn (model X.prog X.w) X.A X.env X.xe) : Go X F0 H0 D r (.While c body [] pos :: rest) := fun F H s ⟨g, sl⟩ => by
  refine wb_cons ⟨_, ps_while hpo (pt_w c) (pss_w body), ⟨fun n s H => ∃ F y, n = m y ∧ ok y ∧ At X.K F0 H0 (I y) F H s, ⟨m y0, F, y0, rfl, hy, g, h0 _ _ _ _ sl⟩, ?_⟩⟩
  rintro n s1 H1 ⟨F1, y, rfl, oy, g1, sl1⟩
  refine hc y oy s1 F1 H1 g1.fh sl1 _ fun F2 H2 g2 => ?_
  cases e : t y with
  | true => exact ⟨fun s H => ∃ F y', ok y' ∧ m y' < m y ∧ At X.K F0 H0 (I y') F H s, fun s' H' ⟨F', y', o', l', a'⟩ => ⟨m y', l', F', y', rfl, o', a'⟩, hb y oy e F2 H2 s1 ⟨g1.trans g2, sl1.mono g2⟩⟩
  | false => exact hd y oy e F2 H2 s1 ⟨g1.trans g2, sl1.mono g2⟩
def Sl.off (p : Addr) (P : Sl) : Prop := ∀ K F H s, F p = none → P.P K F H s → (∀ o, P.P K F (upd H p o) s) ∧ ∀ o, P.P K (upd F p o) H s
theorem off_any {p : Addr} : anyS.off p := fun _ _ _ _ _ _ => ⟨fun _ => trivial, fun _ => trivial⟩
theorem same_upd2 {F : Hp} {p : Addr} {o : HO} (h : F p = none) : Same F (upd F p o) := fun b x e => by rw [upd_ne (ne_of_none e h)]; exact e
theorem off_isA {p : Addr} {a : α} : (isA a).off p := fun _ _ _ _ n ⟨v, e, h⟩ => ⟨fun _ => ⟨v, e, h⟩, fun _ => ⟨v, e, Rep.mono (same_upd2 n) h⟩⟩
theorem off_own {p q : Addr} {as : List α} (hq : q ≠ p) : (ownL q as).off p := fun _ _ _ _ n ⟨e, h1, vs, h2, h3⟩ =>
  ⟨fun _ => ⟨e, h1, vs, by rw [upd_ne hq]; exact h2, h3⟩, fun _ => ⟨e, by rw [upd_ne hq]; exact h1, vs, h2, paired_mono (fun _ _ => Rep.mono (same_upd2 n)) h3⟩⟩
def Off (p : Addr) (r : Rho) : Prop := ∀ P ∈ r, P.off p
theorem off_nil {p : Addr} : Off p [] := fun _ h => nomatch h
theorem off_cons {p : Addr} {P : Sl} {r : Rho} (h : P.off p) (t : Off p r) : Off p (P :: r) := fun Q hQ => by
  rcases List.mem_cons.mp hQ with rfl | h'
  · exact h
  · exact t Q h'
theorem slots_off {K : PySem.W.Frag} {F H : Hp} {p : Addr} : ∀ {s : L2.St} {r : Rho}, Off p r → F p = none → Slots K F H s r → (∀ o, Slots K F (upd H p o) s r) ∧ ∀ o, Slots K (upd F p o) H s r
  | _, _, _, _, .nil => ⟨fun _ => .nil, fun _ => .nil⟩
  | _, _, o, n, .cons h t => by
    have h1 := o _ List.mem_cons_self _ _ _ _ n h
    have h2 := slots_off (fun P hP => o P (List.mem_cons_of_mem _ hP)) n t
    exact ⟨fun u => .cons (h1.1 u) (h2.1 u), fun u => .cons (h1.2 u) (h2.2 u)⟩
theorem paired_put {α β : Type} {R S : α → β → Prop} {x : α} {y : β} (i : Nat) : ∀ {xs : List α} {ys : List β}, xs[i]? = some x → Paired R xs (ys.set i y) → ∀ z, S x z → (∀ a b, R a b → S a b) → Paired S xs (ys.set i z) := by
  intro xs
  induction xs generalizing i with
  | nil => intro ys e; simp at e
  | cons a as ih =>
    intro ys e h z sz imp
    cases ys with
    | nil => cases h
    | cons b bs =>
      cases i with
      | zero =>
        cases h with
        | cons h t => simp at e; subst e; exact .cons sz (paired_mono imp t)
      | succ i =>
        cases h with
        | cons h t => exact .cons (imp _ _ h) (ih i (by simpa using e) t z sz imp)
theorem paired_any {K : PySem.W.Frag} {F H : Hp} {s : L2.St} {r : Rho} (i : Nat) (h : Slots K F H s r) : Slots K F H s (r.set i anyS) := by
  induction h generalizing i with
  | nil => exact .nil
  | cons p q ih =>
    cases i with
    | zero => exact .cons trivial q
    | succ i => exact .cons p (ih i)
theorem go_new (i : Nat) {x : Str} {p' pl : Pos} {α : Type} [Rep α] (h : ∀ p, H0 p = none → Go X F0 H0 D (r.set i (ownL p ([] : List α))) rest) (hN : X.N.Nodup) (hi : X.N[i]? = some x) (hx : Loc X.env.scope x)
    (hs : swapsWith (.List [] pl) (some (.Name x p')) pos.line X.env = pure false := by rfl) (hf : X.fn x = true ∨ X.env.scope.names.lookup x = some .local := by first | exact .inl rfl | exact .inr rfl | assumption) :
    Go X F0 H0 D r (.Assign [.Name x p'] (.List [] pl) pos :: rest) := fun F H s ⟨g, sl⟩ => by
  refine wb_cons ⟨_, ps_set hN hi hx (pe_lst pa_nil) hs hf, ⟨Nat.zero_le _, fun p hp => ?_⟩⟩
  have g2 := Grow.own (.lst []) g.fh hp
  have fp : F p = none := g.fh.free hp
  refine h p (g.hh.free hp) F (upd H p (.lst [])) _ ⟨g.trans g2, ?_⟩
  exact paired_set (R := fun x (P : Sl) => P.P X.K F (upd H p (.lst [])) x) (x := some (.ref p)) (y := ownL p ([] : List α)) (show _ ∧ _ from ⟨rfl, fp, [], upd_same, .nil⟩) i (sl.mono g2)
theorem go_app (i : Nat) {x : Str} {e : Expr} {a : α} {as : List α} {p : Addr} {pn ap cp : Pos} (hr : r[i]? = some (ownL p as)) (he : EE X r e a) (hn : H0 p = none) (ho : Off p (r.set i anyS)) (hz : as.length < 16777216) (h : Go X F0 H0 D (r.set i (ownL p (as ++ [a]))) rest)
    (hi : X.N[i]? = some x) (hv : Vis X.env.scope x) (hd : (x == ("__debug__" : Str)) = false := by decide) (hcd : (x == ("__classdict__" : Str)) = false := by decide)
    (hbase : attributeBase (.Name x pn) "append" X.env (eval (.Name x pn) X.env) = eval (.Name x pn) X.env := by rfl)
    (hfew : ((backTo cp (starEach (e :: []) X.env)).all (fun x => !x.1) && (backToKw cp (keywordEach [] X.env)).all (fun x => x.1.isSome)
      && decide ((e :: []).length + ([] : List Keyword).length + (if ([] : List Keyword).isEmpty then 0 else 1) < 30)) = true := by rfl)
    (hline : (ap.endLine == cp.line) = true := by rfl) (hs : starEach (e :: []) X.env = (false, eval e X.env) :: starEach [] X.env := by rfl) (hplain : (backTo cp (starEach [] X.env)).any (·.1) = false := by rfl)
    (hsw : swapsWith (.Call (.Attribute (.Name x pn) "append" ap) [e] [] cp) none pos.line X.env = pure false := by rfl) :
    Go X F0 H0 D r (.Expr (.Call (.Attribute (.Name x pn) "append" ap) [e] [] cp) pos :: rest) := fun F H s ⟨g, sl⟩ => by
  obtain ⟨o, e1, e2, fp, vs, hl, hp⟩ := paired_get sl hr
  subst e2
  refine wb_cons ⟨_, ps_expr (pe_bm PySem.F.plainAttrs_list PySem.F.slot_list_append PySem.F.type_list_append mt_append (pe_var hi hv hd hcd) (pa_cons (pe_w e) pa_nil hs) hbase hfew hline hs hplain) hsw, ⟨.ref p, e1, .inl ⟨rfl, vs, .inl (.inl hl)⟩, he s F H g.fh sl _ fun v F1 H1 g1 rv => ?_⟩⟩
  have hl1 := g1.hh p _ hl
  have fp1 : F1 p = none := (g1.nw p (by rw [hl]; exact fun z => nomatch z)).trans fp
  refine ⟨p, vs, v, rfl, rfl, hl1, by rw [paired_len hp, sizeLine_eq]; exact hz, h F1 _ _ ⟨?_, ?_⟩⟩
  · have gg := g.trans g1
    refine ⟨fun b u q => ?_, gg.ff, fun b u q => ?_, gg.nw⟩
    · rw [upd_ne (ne_of_none q hn)]; exact gg.hh b u q
    · rw [upd_ne (ne_of_none q fp1)]; exact gg.fh b u q
  · have sl1 := sl.mono g1
    have s2 := (slots_off ho fp1 (paired_any i sl1)).1 (.lst (vs ++ [v]))
    exact paired_put (R := fun x (P : Sl) => P.P X.K F1 (upd H1 p (.lst (vs ++ [v]))) x) (S := fun x (P : Sl) => P.P X.K F1 (upd H1 p (.lst (vs ++ [v]))) x) i e1 s2 (ownL p (as ++ [a])) (show _ ∧ _ from ⟨rfl, fp1, vs ++ [v], upd_same, paired_append (paired_mono (fun _ _ => Rep.mono g1.ff) hp) (.cons rv .nil)⟩) fun _ _ z => z
theorem go_freeze (i : Nat) {as : List α} {p : Addr} {ss : List Stmt} (hr : r[i]? = some (ownL p as)) (hn : H0 p = none) (ho : Off p (r.set i anyS)) (h : Go X F0 H0 D (r.set i (isA as)) ss) : Go X F0 H0 D r ss := fun F H s ⟨g, sl⟩ => by
  obtain ⟨o, e1, e2, fp, vs, hl, hp⟩ := paired_get sl hr
  subst e2
  have sF : Same F (upd F p (.lst vs)) := same_upd2 fp
  refine h (upd F p (.lst vs)) H s ⟨⟨g.hh, g.ff.trans sF, fun b u q => ?_, fun a z => ?_⟩, ?_⟩
  · by_cases hb : b = p
    · subst hb; rw [upd_same] at q; cases q; exact hl
    · rw [upd_ne hb] at q; exact g.fh b u q
  · have : a ≠ p := fun e => by subst e; exact z hn
    rw [upd_ne this]; exact g.nw a z
  · have s2 := (slots_off ho fp (paired_any i sl)).2 (.lst vs)
    exact paired_put (R := fun x (P : Sl) => P.P X.K (upd F p (.lst vs)) H x) (S := fun x (P : Sl) => P.P X.K (upd F p (.lst vs)) H x) i e1 s2 (isA as) (show ∃ v, some (V.ref p) = some v ∧ _ from ⟨.ref p, rfl, p, vs, rfl, .inl (.inl upd_same), paired_mono (fun _ _ => Rep.mono sF) hp⟩) fun _ _ z => z
end
abbrev bX (P : Program) (w : World) (K : PySem.W.Frag) (mg : Str → Option Value) (base : Heap) (N : List Str) (qual : Str) (st : Stmt) (f : Addr) (cdv : Value) (A : Around) (outer : List Env) (s : Shared) (H : Hp) (E : XK) : Cx :=
  (cxOf CX0 P w K mg base N qual (defScope st) f cdv A outer s H E).nox
def ofVp (p : Vp) : Sl := ⟨fun K F _ s => ∃ v, s = some v ∧ p.P K F v, fun g ⟨v, e, h⟩ => ⟨v, e, p.mono g.ff h⟩⟩
theorem ofVp_vA {α : Type} [Rep α] (a : α) : ofVp (vA a) = isA a := rfl
def rho0 (n : Nat) (ps : List Vp) : Rho := ps.map ofVp ++ List.replicate (n - ps.length) anyS
theorem slots_start {K : PySem.W.Frag} {F H : Hp} {N : List Str} {vs : List V} {ps : List Vp} (h : Vps K F vs ps) : Slots K F H (L2.start N vs) (rho0 N.length ps) := by
  have e : vs.length = ps.length := paired_len h
  unfold L2.start rho0
  rw [e]
  refine paired_append ?_ ?_
  · clear e
    induction h with
    | nil => exact .nil
    | cons a t ih => exact .cons ⟨_, rfl, a⟩ ih
  · generalize N.length - ps.length = n
    induction n with
    | zero => exact .nil
    | succ n ih => exact .cons trivial ih
abbrev FnP (K : PySem.W.Frag) (x : Str) (st : Stmt) (dvs : List V) (kws : List (Str × V)) (f : Addr) (fd : FuncData) : Prop := FunD K x x (defArgs st) (defBody st) (defScope st) dvs kws f fd
theorem fn_ok {P : Program} {w : World} {K : PySem.W.Frag} {mg : Str → Option Value} {base : Heap} {γ : Type} [Rep γ] {x : Str} {st : Stmt} {dvs : List V} {kws : List (Str × V)} {f : Addr} {fd : FuncData} {N ps : List Str} {k : Nat} {R : List Vp → γ → Prop} (F : FnP K x st dvs kws f fd) (S : FnScope N ps (defScope st))
    (hR : ∀ qs a, R qs a → qs.length = ps.length)
    (hb : ∀ (cdv : Value) (A : Around) (outer : List Env) (s : Shared) (H F0 : Hp) (E : XK) (D : Ends) (qs : List Vp) (a : γ), Room k (bX P w K mg base N x st f cdv A outer s H E).A → R qs a → (∀ v F' H', Grow F0 H F' H' → Rep.rep K F' v a → D.rt v H') →
      (∀ s' F' H', Grow F0 H F' H' → Rep.rep K F' .non a → D.nx s' H') → Go (bX P w K mg base N x st f cdv A outer s H E) F0 H D (rho0 N.length qs) (defBody st)) : FnOk P w K mg base CX0 (k + 1) f fd ps (spF K R) := by
  refine F.ok S (fun vs H Q E h => ?_) (fun cdv A outer s H vs Q E hr h => ?_)
  · obtain ⟨F0, qs, a, _, h1, h2, _⟩ := h
    rw [paired_len h1, hR qs a h2]
  · obtain ⟨F0, qs, a, sm, h1, h2, h3⟩ := h
    obtain ⟨t, p, q⟩ := hb cdv A outer s H F0 E { nx := fun _ H' => Q .non H', rt := Q } qs a hr h2 h3 (fun _ F' H' g q => h3 .non F' H' g q) F0 H _ ⟨.refl sm, slots_start h1⟩
    exact ⟨t, p.nox, q⟩
theorem dfn_of {P : Program} {w : World} {K : PySem.W.Frag} {mg : Str → Option Value} {base : Heap} {γ : Type} [Rep γ] {x : Str} {st : Stmt} {dvs : List V} {kws : List (Str × V)} {f : Addr} {fd : FuncData} {ps : List Str} {k : Nat} {R : List Vp → γ → Prop} (F : FnP K x st dvs kws f fd) (hm : mg x = some (.ref f)) (hb : Binds K fd ps []) (ok : FnOk P w K mg base CX0 k f fd ps (spF K R)) : Dfn P w K mg base x k R := ⟨f, fd, ps, hm, F.kp, hb, ok⟩
end Wv
set_option Elab.async false
set_option linter.all false
set_option maxRecDepth 100000
set_option maxHeartbeats 4000000
namespace Wv
open PySem PySem.Spec PyProof.Rows L2
structure BIx where
  s : Shared
  H : Hp
  C : Addr
  cl : List (Str × Addr)
  fp : List Addr
abbrev bk (X : Cx) (scope : Scope) (z : BIx) : Cx := X.blk z.s z.H scope (compEnvC scope z.cl z.C X.env) z.fp
def BE (X : Cx) (scope : Scope) (e : Expr) : TE := fun s H Q => ∀ z : BIx, WE (bk X scope z) e s H Q
def BT (X : Cx) (scope : Scope) (e : Expr) : TT := fun s H Q => ∀ z : BIx, WT (bk X scope z) e s H Q
theorem pe_b {X : Cx} {scope : Scope} {e : Expr} (z : BIx) : PE (bk X scope z) e (BE X scope e) := ⟨fun pins s sl H Q I h => (pe_w e).run pins s sl H Q I (h z)⟩
theorem pt_b {X : Cx} {scope : Scope} {e : Expr} (z : BIx) : PT (bk X scope z) e (BT X scope e) := ⟨fun pins s sl H Q I h => (pt_w e).run pins s sl H Q I (h z)⟩
def PvL {β : Type} [Rep β] (K : PySem.W.Frag) (F1 H1 : Hp) (Dl : Addr) (out : List β) (H : Hp) : Prop := ∃ F vs, Grow F1 H1 F H ∧ F Dl = none ∧ H Dl = some (.lst vs) ∧ Paired (fun v b => Rep.rep K F v b) vs out
section
variable {X : Cx} {r : Rho} {α β : Type} [Rep α] [Rep β] {pos : Pos} {scope : Scope} {elt : Expr} {s : L2.St} {F1 H1 H : Hp} {Dl : Addr} {out : List β} {j : Nat}
theorem pv_start (sm : Same F1 H1) (hD : H1 Dl = none) : PvL X.K F1 H1 Dl ([] : List β) (upd H1 Dl (.lst [])) := ⟨F1, [], Grow.own _ sm hD, sm.free hD, upd_same, .nil⟩
theorem pv_end {Q : VK} (hD : H1 Dl = none) (k : ∀ w F' H', Grow F1 H1 F' H' → Rep.rep X.K F' w out → Q w H') (p : PvL X.K F1 H1 Dl out H) : Q (.ref Dl) H := by
  obtain ⟨F, vs, g, n, hl, hp⟩ := p
  have sF : Same F (upd F Dl (.lst vs)) := same_upd2 n
  refine k (.ref Dl) (upd F Dl (.lst vs)) H ⟨g.hh, g.ff.trans sF, fun b u q => ?_, fun a z => ?_⟩ ⟨Dl, vs, rfl, .inl (.inl upd_same), paired_mono (fun _ _ => Rep.mono sF) hp⟩
  · by_cases hb : b = Dl
    · subst hb; rw [upd_same] at q; cases q; exact hl
    · rw [upd_ne hb] at q; exact g.fh b u q
  · have : a ≠ Dl := fun e => by subst e; exact z hD
    rw [upd_ne this]; exact g.nw a z
theorem pv_elt {s2 : L2.St} {r2 : Rho} {b : β} (hD : H1 Dl = none) (hz : out.length < 16777216) (sl : ∀ F H, Grow F1 H1 F H → Slots X.K F H s2 r2) (he : ∀ z, EE (bk X scope z) r2 elt b) (p : PvL X.K F1 H1 Dl out H) :
    BE X scope elt s2 H fun y H4 => ∃ acc, H4 Dl = some (.lst acc) ∧ acc.length < sizeLine ∧ PvL X.K F1 H1 Dl (out ++ [b]) (upd H4 Dl (.lst (acc ++ [y]))) := fun z => by
  obtain ⟨F, vs, g, n, hl, hp⟩ := p
  refine he z s2 F H g.fh (sl F H g) _ fun y F4 H4 g4 ry => ?_
  have n4 : F4 Dl = none := (g4.nw Dl (by rw [hl]; exact fun z => nomatch z)).trans n
  refine ⟨vs, g4.hh _ _ hl, by rw [paired_len hp, sizeLine_eq]; exact hz, F4, vs ++ [y], ?_, n4, upd_same, paired_append (paired_mono (fun _ _ => Rep.mono g4.ff) hp) (.cons ry .nil)⟩
  have gg := g.trans g4
  refine ⟨fun b u q => ?_, gg.ff, fun b u q => ?_, gg.nw⟩
  · rw [upd_ne (ne_of_none q hD)]; exact gg.hh b u q
  · rw [upd_ne (ne_of_none q n4)]; exact gg.fh b u q
theorem pv_test {s2 : L2.St} {r2 : Rho} {c : Expr} {t : Bool} {Q : Bool → Hp → Prop} (sl : ∀ F H, Grow F1 H1 F H → Slots X.K F H s2 r2) (hc : ∀ z, ET (bk X scope z) r2 c t) (p : PvL X.K F1 H1 Dl out H) (k : ∀ H, PvL X.K F1 H1 Dl out H → Q t H) : BT X scope c s2 H Q := fun z => by
  obtain ⟨F, vs, g, n, hl, hp⟩ := p
  refine hc z s2 F H g.fh (sl F H g) _ fun F4 H4 g4 => k H4 ⟨F4, vs, g.trans g4, ?_, g4.hh _ _ hl, paired_mono (fun _ _ => Rep.mono g4.ff) hp⟩
  exact (g4.nw Dl (by rw [hl]; exact fun z => nomatch z)).trans n
def inR (r : Rho) (j : Nat) (P : Sl) : Rho := (r.set j anyS).set j P
theorem in_slots {K : PySem.W.Frag} {F H : Hp} {v : V} {a : α} (h : Slots K F H s r) (q : Rep.rep K F v a) : Slots K F H ((wipe s [j]).set j (some v)) (inR r j (isA a)) := by
  have h1 : Slots K F H (wipe s [j]) (r.set j anyS) := paired_set (R := fun x (P : Sl) => P.P K F H x) (x := none) (y := anyS) trivial j h
  exact slots_set h1 q
theorem wipe_in {v : V} : wipe ((wipe s [j]).set j (some v)) [j] = wipe s [j] := by
  show ((s.set j none).set j (some v)).set j none = s.set j none
  rw [List.set_set, List.set_set]
variable {x : Str} {p1 p2 p3 : Pos}
def outN {α β : Type} (t : α → Bool) (f : α → β) (xs : List α) (i : Nat) : List β := ((xs.take i).filter t).map f
theorem outN_succ {t : α → Bool} {f : α → β} {xs : List α} {i : Nat} {a : α} (h : xs[i]? = some a) : outN t f xs (i + 1) = if t a = true then outN t f xs i ++ [f a] else outN t f xs i := by
  unfold outN
  rw [List.take_add_one, h, List.filter_append]
  cases e : t a with
  | true => simp [e]
  | false => simp [e]
theorem outN_len {t : α → Bool} {f : α → β} {xs : List α} {i : Nat} : (outN t f xs i).length ≤ i := by
  unfold outN
  rw [List.length_map]
  exact Nat.le_trans (List.length_filter_le _ _) (List.length_take_le _ _)
theorem outN_all {t : α → Bool} {f : α → β} {xs : List α} : outN t f xs xs.length = (xs.filter t).map f := by unfold outN; rw [List.take_length]
theorem ee_lc {e : Expr} {xs : List α} (j : Nat) (f : α → β) (he : EE X r e xs) (hz : xs.length < 16777216) (hb : ∀ (z : BIx) (a : α), a ∈ xs → EE (bk X scope z) (inR r j (isA a)) elt (f a))
    (hc : X.calm = true) (hN : X.N.Nodup) (ok : BlkOk X.N X.env.scope scope [(x, j)]) (hg : ∀ z : BIx, PG (bk X scope z) (.Name x p1) (gName j)) (hs : ∀ z, foldedSetIterable e X.env z = pure z := by intro _; rfl) :
    EE X r (.ListComp elt [⟨.Name x p1, e, [], 0⟩] scope pos) (xs.map f) := fun s F H sm sl Q k => by
  refine ⟨_, pe_lc (own := [(x, j)]) hc hN (pi_list (pe_w e)) ok (fun a b c d e => hg ⟨a, b, c, d, e⟩) (fun _ _ _ _ _ => pts_nil) (fun a b c d e => pe_b ⟨a, b, c, d, e⟩) hs, he s F H sm sl _ fun v F1 H1 g1 ⟨p, vs, ev, hsq, hp⟩ => ⟨p, ev, ⟨vs, g1.fh.seq hsq⟩, fun Dl hD => ?_⟩⟩
  have sl1 := sl.mono g1
  refine lc_list (xs := vs) (fun i H => PvL X.K F1 H1 Dl (outN (fun _ => true) f xs i) H) (pv_start g1.fh hD) (fun i H _ ⟨F, _, g, _⟩ => g.fh.seq (g.ff.seq hsq)) (fun i y H hy pv => ?_) fun H pv => ?_
  · obtain ⟨a, ea, ra⟩ := paired_get' hp hy
    refine ⟨wipe_in, ?_⟩
    rw [show outN (fun _ => true) f _ (i + 1) = outN (fun _ => true) f _ i ++ [f _] from (outN_succ ea).trans (if_pos rfl)]
    exact pv_elt hD (Nat.lt_of_le_of_lt (Nat.le_trans outN_len (Nat.le_of_lt (List.getElem?_eq_some_iff.mp ea).1)) hz) (fun F H g => in_slots (sl1.mono g) (Rep.mono g.ff ra)) (fun z => hb z a (List.mem_of_getElem? ea)) pv
  · rw [paired_len hp, outN_all] at pv
    have e1 : xs.filter (fun _ => true) = xs := List.filter_eq_self.mpr fun _ _ => rfl
    rw [e1] at pv
    exact pv_end hD (fun w F' H' g q => k w F' H' (g1.trans g) q) pv
theorem ee_lcIf {e c : Expr} {xs : List α} (j : Nat) (t : α → Bool) (f : α → β) (he : EE X r e xs) (hz : xs.length < 16777216) (ht : ∀ (z : BIx) (a : α), a ∈ xs → ET (bk X scope z) (inR r j (isA a)) c (t a)) (hb : ∀ (z : BIx) (a : α), a ∈ xs → t a = true → EE (bk X scope z) (inR r j (isA a)) elt (f a))
    (hc : X.calm = true) (hN : X.N.Nodup) (ok : BlkOk X.N X.env.scope scope [(x, j)]) (hg : ∀ z : BIx, PG (bk X scope z) (.Name x p1) (gName j)) (hs : ∀ z, foldedSetIterable e X.env z = pure z := by intro _; rfl) :
    EE X r (.ListComp elt [⟨.Name x p1, e, [c], 0⟩] scope pos) ((xs.filter t).map f) := fun s F H sm sl Q k => by
  refine ⟨_, pe_lc (own := [(x, j)]) hc hN (pi_list (pe_w e)) ok (fun a b c d e => hg ⟨a, b, c, d, e⟩) (fun a b c d e => pts_one (pt_b ⟨a, b, c, d, e⟩)) (fun a b c d e => pe_b ⟨a, b, c, d, e⟩) hs, he s F H sm sl _ fun v F1 H1 g1 ⟨p, vs, ev, hsq, hp⟩ => ⟨p, ev, ⟨vs, g1.fh.seq hsq⟩, fun Dl hD => ?_⟩⟩
  have sl1 := sl.mono g1
  refine lc_list (xs := vs) (fun i H => PvL X.K F1 H1 Dl (outN t f xs i) H) (pv_start g1.fh hD) (fun i H _ ⟨F, _, g, _⟩ => g.fh.seq (g.ff.seq hsq)) (fun i y H hy pv => ?_) fun H pv => ?_
  · obtain ⟨a, ea, ra⟩ := paired_get' hp hy
    have sl2 := fun F H (g : Grow F1 H1 F H) => in_slots (j := j) (sl1.mono g) (Rep.mono g.ff ra)
    refine ⟨wipe_in, pv_test sl2 (fun z => ht z a (List.mem_of_getElem? ea)) pv fun H2 pv2 => ?_⟩
    rw [outN_succ ea]
    cases et : t a with
    | true =>
      rw [if_pos rfl, if_pos rfl]
      exact pv_elt hD (Nat.lt_of_le_of_lt (Nat.le_trans outN_len (Nat.le_of_lt (List.getElem?_eq_some_iff.mp ea).1)) hz) sl2 (fun z => hb z a (List.mem_of_getElem? ea) et) pv2
    | false =>
      rw [if_neg Bool.false_ne_true, if_neg Bool.false_ne_true]
      exact pv2
  · rw [paired_len hp, outN_all] at pv
    exact pv_end hD (fun w F' H' g q => k w F' H' (g1.trans g) q) pv
def upTo (n : Nat) : List Int := (List.range n).map fun (i : Nat) => (i : Int)
theorem upTo_get {n i : Nat} (h : i < n) : (upTo n)[i]? = some (i : Int) := by unfold upTo; simp [h]
theorem upTo_len {n : Nat} : (upTo n).length = n := by unfold upTo; simp
theorem ee_lcR {e : Expr} {n : Int} (j : Nat) (f : Int → β) (he : EE X r e n) (hz : n < 16777216) (hn : -(2 ^ 62) ≤ n) (hb : ∀ (z : BIx) (i : Nat), (i : Int) < n → EE (bk X scope z) (inR r j (isA (i : Int))) elt (f i))
    (hm : X.mg "range" = none) (hc : X.calm = true) (hN : X.N.Nodup) (ok : BlkOk X.N X.env.scope scope [(x, j)]) (hg : ∀ z : BIx, PG (bk X scope z) (.Name x p1) (gName j)) (hgr : Gl X "range" := by rfl) (hst : starEach [e] X.env = [(false, eval e X.env)] := by rfl)
    (hs : ∀ z, foldedSetIterable (.Call (.Name "range" p2) [e] [] p3) X.env z = pure z := by intro _; rfl) :
    EE X r (.ListComp elt [⟨.Name x p1, .Call (.Name "range" p2) [e] [] p3, [], 0⟩] scope pos) ((upTo n.toNat).map f) := fun s F H sm sl Q k => by
  refine ⟨_, pe_lc (own := [(x, j)]) hc hN (pi_range1 hgr hm (pa_w _) hst) ok (fun a b c d e => hg ⟨a, b, c, d, e⟩) (fun _ _ _ _ _ => pts_nil) (fun a b c d e => pe_b ⟨a, b, c, d, e⟩) hs, (ea_cons he ea_nil hst) s F H sm sl _ fun vs F1 H1 g1 q => ?_⟩
  obtain ⟨v, ev, rv⟩ := vps1 q
  cases (show v = V.int n from rv)
  refine ⟨n, ev, hn, by omega, fun Dl hD => ?_⟩
  have sl1 := sl.mono g1
  refine lc_range (lo := 0) (n := n.toNat) (fun i H => PvL X.K F1 H1 Dl (outN (fun _ => true) f (upTo n.toNat) i) H) (pv_start g1.fh hD) (fun i H hi pv => ?_) fun H pv => ?_
  · have e0 : (0 : Int) + (i : Int) = (i : Int) := Int.zero_add _
    have ea := upTo_get hi
    refine ⟨wipe_in, ?_⟩
    rw [show outN (fun _ => true) f _ (i + 1) = outN (fun _ => true) f _ i ++ [f _] from (outN_succ ea).trans (if_pos rfl)]
    exact pv_elt hD (Nat.lt_of_le_of_lt outN_len (by omega)) (fun F H g => in_slots (a := (i : Int)) (sl1.mono g) (by rw [e0]; exact rfl)) (fun z => hb z i (by omega)) pv
  · have e2 : outN (fun _ => true) f (upTo n.toNat) n.toNat = (upTo n.toNat).map f := by
      have h := outN_all (t := fun _ => true) (f := f) (xs := upTo n.toNat)
      rw [upTo_len, List.filter_eq_self.mpr fun _ _ => rfl] at h
      exact h
    rw [e2] at pv
    exact pv_end hD (fun w F' H' g q => k w F' H' (g1.trans g) q) pv
end
end Wv
set_option Elab.async false
set_option linter.all false
set_option maxRecDepth 100000
set_option maxHeartbeats 4000000
namespace Wv
open PySem PySem.Spec PyProof.Rows L2
section
variable {X : Cx} {r : Rho} {α β γ : Type} [Rep α] [Rep β] [Rep γ] {pos p0 : Pos}
theorem ee_neg {e : Expr} {i : Int} (h : EE X r e i) : EE X r (.UnaryOp .USub e pos) (-i) := fun s F H sm sl Q k =>
  ⟨_, pe_un un_neg (pe_w e), h s F H sm sl _ fun v F1 H1 g1 rv => ⟨i, rv, k _ F1 H1 g1 rfl⟩⟩
def ixD : PyData → Int → Option PyData
  | .tuple ds, i => atI ds i
  | .list ds, i => atI ds i
  | _, _ => none
theorem dpAll_len {K : PySem.W.Frag} {F : Hp} : ∀ {vs : List V} {ds : List PyData}, DpAll K F vs ds → vs.length = ds.length
  | _, _, .nil => rfl
  | _, _, .cons _ t => by simp [dpAll_len t]
theorem dpAll_get {K : PySem.W.Frag} {F : Hp} : ∀ {vs : List V} {ds : List PyData} {i : Nat} {d : PyData}, DpAll K F vs ds → ds[i]? = some d → ∃ v, vs[i]? = some v ∧ Dp K F v d
  | _, _, _, _, .nil, e => by simp at e
  | _, _, 0, _, .cons h _, e => by simp at e; subst e; exact ⟨_, rfl, h⟩
  | _, _, i + 1, d, .cons _ t, e => by
    obtain ⟨v, h1, h2⟩ := dpAll_get (i := i) (d := d) t (by simpa using e)
    exact ⟨v, by simpa using h1, h2⟩
theorem dpAll_at {K : PySem.W.Frag} {F : Hp} {vs : List V} {ds : List PyData} {i : Int} {d : PyData} (h : DpAll K F vs ds) (e : atI ds i = some d) : ∃ v, atI vs i = some v ∧ Dp K F v d := by
  unfold atI at e ⊢
  rw [← dpAll_len h] at e
  cases q : ixN vs.length i with
  | none => rw [q] at e; cases e
  | some j =>
    rw [q] at e
    obtain ⟨v, h1, h2⟩ := dpAll_get h (show ds[j]? = some d from e)
    exact ⟨v, h1, h2⟩
theorem ixD_run {K : PySem.W.Frag} {x : PyData} {i : Int} {b : PyData} (e : ixD x i = some b) (v : V) (F H : Hp) (sm : Same F H) (h : Rep.rep K F v x) (Q : VK) (k : ∀ w, Rep.rep K F w b → Q w H) : rIx K v (.int i) H Q := by
  cases x with
  | tuple ds =>
    cases (show Dp K F v (.tuple ds) from h) with
    | tup hs ha =>
      obtain ⟨w, h1, h2⟩ := dpAll_at ha e
      exact .inr (.inl ⟨_, _, i, w, rfl, rfl, same_t sm hs, h1, k w h2⟩)
  | list ds =>
    cases (show Dp K F v (.list ds) from h) with
    | lst hs ha =>
      obtain ⟨w, h1, h2⟩ := dpAll_at ha e
      exact .inl ⟨_, _, i, w, rfl, rfl, sm.seq hs, h1, k w h2⟩
  | none => cases e
  | bool _ => cases e
  | int _ => cases e
  | str _ => cases e
  | dict _ => cases e
instance ixData : Ix PyData PyData := ⟨ixD, fun K => rIx K, fun _ => ix_seq, fun {K x i b} e => ixD_run e⟩
def lenD : PyData → Option Nat
  | .tuple ds => some ds.length
  | .list ds => some ds.length
  | .str s => if s.length ≤ 16777216 then some s.length else none
  | _ => none
instance lenData : Len PyData := ⟨fun x => (lenD x).isSome = true, fun x => (lenD x).getD 0, fun {K x v F H} hk sm h => by
  cases x with
  | tuple ds =>
    cases (show Dp K F v (.tuple ds) from h) with
    | tup hs ha => exact .inr ⟨_, same_t sm hs, (dpAll_len ha).symm⟩
  | list ds =>
    cases (show Dp K F v (.list ds) from h) with
    | lst hs ha => exact .inl ⟨_, sm.seq hs, (dpAll_len ha).symm⟩
  | str s =>
    cases (show Dp K F v (.str s) from h) with
    | str _ =>
      by_cases hz : s.length ≤ 16777216
      · refine ⟨by rw [sizeLine_eq]; exact hz, ?_⟩
        show (if s.length ≤ 16777216 then some s.length else none).getD 0 = s.length
        rw [if_pos hz]; rfl
      · have : (if s.length ≤ 16777216 then some s.length else none).isSome = true := hk
        rw [if_neg hz] at this; cases this
  | none => exact absurd (show (lenD .none).isSome = true from hk) (by decide)
  | bool _ => exact absurd (show false = true from hk) (by decide)
  | int _ => exact absurd (show false = true from hk) (by decide)
  | dict _ => exact absurd (show false = true from hk) (by decide)⟩
theorem rep_text {K : PySem.W.Frag} {F : Hp} {v : V} {s : Str} (h : Rep.rep K F v (PyData.str s)) : Rep.rep K F v (s.cps.toList : Tx) := by
  cases (show Dp K F v (.str s) from h) with
  | str _ => show V.str s = V.str (mkS s.cps.toList); rw [mkS_eq]
theorem slot_text {K : PySem.W.Frag} {F H : Hp} {x : Option V} {s : Str} (h : (isA (PyData.str s)).P K F H x) : (isA (s.cps.toList : Tx)).P K F H x := by
  obtain ⟨v, e, q⟩ := h
  exact ⟨v, e, rep_text q⟩
theorem ee_text {e : Expr} {s : Str} (h : EE X r e (PyData.str s)) : EE X r e (s.cps.toList : Tx) := h.as fun _ _ _ q => rep_text q
theorem ee_eqD [ToD α] [ToD β] {a b : Expr} {x : α} {y : β} {k : Nat} (ha : EE X r a x) (hb : EE X r b y) (hr : Room k X.A) (h1 : SeqAt.shaped (ToD.toD x) = true) (h2 : SeqAt.shaped (ToD.toD y) = true) (hm : behindInMarks .Eq b = false := by first | exact nobehind _ (by decide) (by decide) | rfl) :
    EE X r (.Compare a [.Eq] [b] pos) (PyData.eqv (ToD.toD x) (ToD.toD y)) := fun s F H sm sl Q k =>
  ⟨_, pe_cmpR (op_eqD hr.units) (pe_w a) (pe_w b) hm, ha s F H sm sl _ fun v F1 H1 g1 rv => hb s F1 H1 g1.fh (sl.mono g1) _ fun u F2 H2 g2 ru =>
    ⟨ToD.toD x, ToD.toD y, dp_mono g2.fh (dp_mono g2.ff (ToD.dp rv)), dp_mono g2.fh (ToD.dp ru), h1, h2, k _ F2 H2 (g1.trans g2) rfl⟩⟩
theorem et_eqD [ToD α] [ToD β] {a b : Expr} {x : α} {y : β} {k : Nat} (ha : EE X r a x) (hb : EE X r b y) (hr : Room k X.A) (h1 : SeqAt.shaped (ToD.toD x) = true) (h2 : SeqAt.shaped (ToD.toD y) = true) (hm : behindInMarks .Eq b = false := by first | exact nobehind _ (by decide) (by decide) | rfl) :
    ET X r (.Compare a [.Eq] [b] pos) (PyData.eqv (ToD.toD x) (ToD.toD y)) := fun s F H sm sl Q k =>
  ⟨_, pt_cmpR (op_eqD hr.units) (pe_w a) (pe_w b) hm, ha s F H sm sl _ fun v F1 H1 g1 rv => hb s F1 H1 g1.fh (sl.mono g1) _ fun u F2 H2 g2 ru =>
    ⟨ToD.toD x, ToD.toD y, dp_mono g2.fh (dp_mono g2.ff (ToD.dp rv)), dp_mono g2.fh (ToD.dp ru), h1, h2, _, rfl, k F2 H2 (g1.trans g2)⟩⟩
theorem et_neD [ToD α] [ToD β] {a b : Expr} {x : α} {y : β} {k : Nat} (ha : EE X r a x) (hb : EE X r b y) (hr : Room k X.A) (h1 : SeqAt.shaped (ToD.toD x) = true) (h2 : SeqAt.shaped (ToD.toD y) = true) (hm : behindInMarks .NotEq b = false := by first | exact nobehind _ (by decide) (by decide) | rfl) :
    ET X r (.Compare a [.NotEq] [b] pos) (!PyData.eqv (ToD.toD x) (ToD.toD y)) := fun s F H sm sl Q k =>
  ⟨_, pt_cmpR (op_neD hr.units) (pe_w a) (pe_w b) hm, ha s F H sm sl _ fun v F1 H1 g1 rv => hb s F1 H1 g1.fh (sl.mono g1) _ fun u F2 H2 g2 ru =>
    ⟨ToD.toD x, ToD.toD y, dp_mono g2.fh (dp_mono g2.ff (ToD.dp rv)), dp_mono g2.fh (ToD.dp ru), h1, h2, _, rfl, k F2 H2 (g1.trans g2)⟩⟩
theorem ee_neD [ToD α] [ToD β] {a b : Expr} {x : α} {y : β} {k : Nat} (ha : EE X r a x) (hb : EE X r b y) (hr : Room k X.A) (h1 : SeqAt.shaped (ToD.toD x) = true) (h2 : SeqAt.shaped (ToD.toD y) = true) (hm : behindInMarks .NotEq b = false := by first | exact nobehind _ (by decide) (by decide) | rfl) :
    EE X r (.Compare a [.NotEq] [b] pos) (!PyData.eqv (ToD.toD x) (ToD.toD y)) := fun s F H sm sl Q k =>
  ⟨_, pe_cmpR (op_neD hr.units) (pe_w a) (pe_w b) hm, ha s F H sm sl _ fun v F1 H1 g1 rv => hb s F1 H1 g1.fh (sl.mono g1) _ fun u F2 H2 g2 ru =>
    ⟨ToD.toD x, ToD.toD y, dp_mono g2.fh (dp_mono g2.ff (ToD.dp rv)), dp_mono g2.fh (ToD.dp ru), h1, h2, k _ F2 H2 (g1.trans g2) rfl⟩⟩
end
theorem strip_signs (a : Tx) : (tStrip a [48, 49] = []) ↔ ∀ c ∈ a, c = 48 ∨ c = 49 := by
  have hc : ∀ c : Nat, (mkS [48, 49]).cps.contains c = true ↔ c = 48 ∨ c = 49 := fun c => by
    show ([48, 49] : List Nat).toArray.contains c = true ↔ _
    simp
  unfold tStrip Txt.stripChars
  rw [PyProof.Rows.stripBy_eq]
  generalize hg : (mkS [48, 49]).cps.contains = goes at *
  have ea : (mkS a).cps.toList = a := by show a.toArray.toList = a; simp
  have elen : (mkS a).length = a.length := mkS_len a
  have etl : ∀ i j, (Builtin.Str.strSub (mkS a) i j).cps.toList = (a.drop i).take (j - i) := fun i j => by
    have h := TL.tl_strSub (mkS a) i j
    show TL.tl (Builtin.Str.strSub (mkS a) i j) = _
    rw [h]; show ((mkS a).cps.toList.drop i).take (j - i) = _
    rw [ea]
  rw [etl]
  have elo : stripLo goes true (mkS a) = (a.takeWhile goes).length := by unfold stripLo; rw [if_pos rfl, ea]
  have ehi : stripHi goes true (mkS a) (a.takeWhile goes).length = a.length - ((a.drop (a.takeWhile goes).length).reverse.takeWhile goes).length := by unfold stripHi; rw [if_pos rfl, ea, elen]
  rw [elo, ehi]
  have ed : a.drop (a.takeWhile goes).length = a.dropWhile goes := by
    have h : a.takeWhile goes ++ a.dropWhile goes = a := List.takeWhile_append_dropWhile
    have h2 : (a.takeWhile goes ++ a.dropWhile goes).drop (a.takeWhile goes).length = a.dropWhile goes := List.drop_left
    rw [h] at h2
    exact h2
  rw [ed]
  constructor
  · intro h c hcm
    cases hd : a.dropWhile goes with
    | nil =>
      have h2 : a.takeWhile goes ++ a.dropWhile goes = a := List.takeWhile_append_dropWhile
      rw [hd, List.append_nil] at h2
      rw [← h2] at hcm
      have := List.all_takeWhile (p := goes) (l := a)
      rw [List.all_eq_true] at this
      exact (hc c).mp (this c hcm)
    | cons x xs =>
      exfalso
      have hx : goes x = false := by
        have := List.head?_dropWhile_not goes a
        rw [hd] at this
        simpa using this
      rw [hd] at h
      have hlen : (a.takeWhile goes).length + (x :: xs).length = a.length := by
        have h2 : a.takeWhile goes ++ a.dropWhile goes = a := List.takeWhile_append_dropWhile
        rw [hd] at h2
        conv => rhs; rw [← h2]
        rw [List.length_append]
      have hn : ((x :: xs).reverse.takeWhile goes).length ≤ xs.length := by
        have e1 : (x :: xs).reverse = xs.reverse ++ [x] := List.reverse_cons
        rw [e1]
        have : ∀ (l : List Nat), ((l ++ [x]).takeWhile goes).length ≤ l.length := by
          intro l
          induction l with
          | nil => simp [hx]
          | cons y l ih =>
            rw [List.cons_append, List.takeWhile_cons]
            split
            · simpa using ih
            · simp
        have q := this xs.reverse
        simpa using q
      have : (List.take (a.length - ((x :: xs).reverse.takeWhile goes).length - (a.takeWhile goes).length) (x :: xs)).length = 0 := by rw [h]; rfl
      rw [List.length_take] at this
      simp only [List.length_cons] at this hlen
      omega
  · intro h
    have hd : a.dropWhile goes = [] := by
      have key : ∀ l : List Nat, (∀ c ∈ l, goes c = true) → l.dropWhile goes = [] := by
        intro l
        induction l with
        | nil => intro _; rfl
        | cons x l ih =>
          intro hl
          rw [List.dropWhile_cons, if_pos (hl x List.mem_cons_self)]
          exact ih fun c hcm => hl c (List.mem_cons_of_mem _ hcm)
      exact key a fun c hcm => (hc c).mpr (h c hcm)
    rw [hd]; simp
end Wv
namespace Wv
open PySem PySem.Spec PyProof.Rows L2
section
variable {X : Cx} {r : Rho} {pos p0 : Pos}
theorem ee_gint {x : Str} {i : Int} (hm : ∃ t, X.mg x = some (.int i t)) (hg : Gl X x := by rfl) (hd : (x == ("__debug__" : Str)) = false := by decide) : EE X r (.Name x pos) i := by
  obtain ⟨t, h⟩ := hm
  exact ee_glob (v := .int i) hg h ⟨t, rfl⟩ (fun _ _ => rfl) hd
end
theorem slots1 {K : PySem.W.Frag} {F H : Hp} {s : L2.St} {P Q : Sl} (h : Slots K F H s [P]) (q : ∀ x, P.P K F H x → Q.P K F H x) : Slots K F H s [Q] := by
  cases h with
  | cons a t => cases t; exact .cons (q _ a) .nil
end Wv
namespace Wv
open PySem PySem.Spec PyProof.Rows L2
theorem sIx_pos {n d : Nat} {i : Int} (h : 0 ≤ i) : HT.sIx n d (some i) = min i.toNat n := by
  have e := HT.sIx_nat n d i.toNat
  rw [Int.toNat_of_nonneg h] at e
  exact e
theorem cut_to {α : Type} (x : List α) {i : Int} (h : 0 ≤ i) : cutL x none (some i) = x.take i.toNat := by
  unfold cutL
  rw [HT.sIx_none, sIx_pos h, List.drop_zero, Nat.sub_zero]
  by_cases hl : i.toNat ≤ x.length
  · rw [Nat.min_eq_left hl]
  · rw [Nat.min_eq_right (by omega), List.take_of_length_le (Nat.le_refl _), List.take_of_length_le (by omega)]
theorem cut_from {α : Type} (x : List α) {i : Int} (h : 0 ≤ i) : cutL x (some i) none = x.drop i.toNat := by
  unfold cutL
  rw [HT.sIx_none, sIx_pos h]
  by_cases hl : i.toNat ≤ x.length
  · rw [Nat.min_eq_left hl, List.take_of_length_le (by rw [List.length_drop]; omega)]
  · rw [Nat.min_eq_right (by omega), List.drop_of_length_le (Nat.le_refl _), List.drop_of_length_le (by omega)]; simp
theorem cut_mid {α : Type} (x : List α) {i j : Int} (h : 0 ≤ i) (h2 : 0 ≤ j) : cutL x (some i) (some j) = (x.drop i.toNat).take (j.toNat - i.toNat) := by
  unfold cutL
  rw [sIx_pos h, sIx_pos h2]
  by_cases hl : i.toNat ≤ x.length
  · rw [Nat.min_eq_left hl]
    by_cases hj : j.toNat ≤ x.length
    · rw [Nat.min_eq_left hj]
    · rw [Nat.min_eq_right (by omega), List.take_of_length_le (by rw [List.length_drop]; omega), List.take_of_length_le (by rw [List.length_drop]; omega)]
  · have e1 : min i.toNat x.length = x.length := Nat.min_eq_right (by omega)
    rw [e1, List.drop_of_length_le (Nat.le_refl _), List.drop_of_length_le (by omega)]; simp
theorem at_pos {α : Type} {x : List α} {i : Int} {v : α} (h : 0 ≤ i) (e : x[i.toNat]? = some v) : atI x i = some v := by
  have hl : i.toNat < x.length := (List.getElem?_eq_some_iff.mp e).1
  unfold atI ixN
  rw [if_pos h, if_pos (by omega)]
  exact e
theorem at_neg {α : Type} {x : List α} {i : Int} {v : α} (h : i < 0) (h2 : -(x.length : Int) ≤ i) (e : x[(i + x.length).toNat]? = some v) : atI x i = some v := by
  unfold atI ixN
  rw [if_neg (by omega), if_pos h2]
  exact e
theorem ixT_pos {x : Tx} {i : Int} {c : Nat} (hz : x.length ≤ 16777216) (h : 0 ≤ i) (e : x[i.toNat]? = some c) : (Ix.get x i : Option Tx) = some [c] := by
  show (if x.length ≤ 16777216 then (atI x i).map fun c => [c] else none) = some [c]
  rw [if_pos hz, at_pos h e]; rfl
theorem ixT_neg {x : Tx} {i : Int} {c : Nat} (hz : x.length ≤ 16777216) (h : i < 0) (h2 : -(x.length : Int) ≤ i) (e : x[(i + x.length).toNat]? = some c) : (Ix.get x i : Option Tx) = some [c] := by
  show (if x.length ≤ 16777216 then (atI x i).map fun c => [c] else none) = some [c]
  rw [if_pos hz, at_neg h h2 e]; rfl
end Wv
namespace Wv
open PySem PySem.Spec PyProof.Rows L2
def rCatS (K : PySem.W.Frag) : R2 := fun x y H Q => ∃ l b xs zs, x = .ref l ∧ y = .ref b ∧ SqL K H l xs ∧ SqL K H b zs ∧ xs.length + zs.length ≤ sizeLine ∧ ∀ p, H p = none → Q (.ref p) (upd H p (.lst (xs ++ zs)))
theorem op_catS {X : Cx} : OpR X (binaryOp .Add) (rCatS X.K) := by
  intro pins s sl H x y v u Q I rx ry h
  obtain ⟨l, b, xs, zs, rfl, rfl, hH, hB, hz, q⟩ := h
  cases rx
  cases ry
  obtain ⟨its, r1, ⟨o, n, e, c, d, dt⟩, z1⟩ := I.list hH
  obtain ⟨its2, r2, ⟨o2, n2, e2, c2, d2, dt2⟩, z2⟩ := I.list hB
  obtain ⟨oc, od, oda, osl⟩ := o
  obtain ⟨oc2, od2, oda2, osl2⟩ := o2
  simp only at c d dt c2 d2 dt2
  subst c d dt c2 d2 dt2
  refine concat_meets ⟨_, e, rfl⟩ ⟨_, e2, rfl⟩ noFill_list_add seq_list_add F.slot_list_add F.entry_list_add (F.args_list_add_2 _ _) (list_addW l b its.toArray its2.toArray n n2 none none osl osl2 (by rw [List.size_toArray, List.size_toArray, ← r1.length, ← r2.length]; exact hz)) ⟨e, e2, ?_⟩
  have ea : its.toArray ++ its2.toArray = (its ++ its2).toArray := by simp
  rw [ea]
  exact ⟨.ref _, _, I.lnew (t' := s.toks) (r1.append r2) (by rw [List.length_append]; omega), rfl, q _ I.fresh⟩
instance catL {α : Type} [Rep α] : Op2 (binaryOp .Add) (List α) (List α) (List α) := ⟨fun x y => x.length + y.length ≤ 16777216, fun x y => x ++ y, fun K => rCatS K, fun _ => op_catS, fun {K x y} h v u F H sm rv ru Q k => by
  obtain ⟨p, vs, e1, h1, p1⟩ := rv
  obtain ⟨q, ws, e2, h2, p2⟩ := ru
  refine ⟨p, q, vs, ws, e1, e2, sm.seq h1, sm.seq h2, by rw [paired_len p1, paired_len p2, sizeLine_eq]; exact h, fun l hl => k (.ref l) _ _ (Grow.new _ sm hl) ⟨l, vs ++ ws, rfl, .inl (.inl upd_same), ?_⟩⟩
  exact paired_mono (fun _ _ => Rep.mono (Grow.new (.lst (vs ++ ws)) sm hl).ff) (paired_append p1 p2)⟩
end Wv
namespace Wv
open PySem PySem.Spec PyProof.Rows L2
theorem ints_rep {K : PySem.W.Frag} {F : Hp} : ∀ ns : List Int, Paired (fun v a => Rep.rep K F v a) (ns.map V.int) ns
  | [] => .nil
  | _ :: l => .cons rfl (ints_rep l)
end Wv
set_option linter.all false
set_option maxRecDepth 100000
namespace Mw
abbrev Wd := List Nat × List Nat
def sg (w : Wd) (i : Nat) : Nat := if i < w.1.length then w.1.getD i 0 else w.2.getD ((i - w.1.length) % w.2.length) 0
def Per (s : Nat → Nat) (c p : Nat) : Prop := ∀ i, c ≤ i → s i = s (i + p)
def seg (s : Nat → Nat) (lo n : Nat) : List Nat := (List.range n).map fun i => s (lo + i)
theorem seg_len (s : Nat → Nat) (lo n : Nat) : (seg s lo n).length = n := by simp [seg]
theorem seg_get {s : Nat → Nat} {lo n i : Nat} (h : i < n) : (seg s lo n)[i]? = some (s (lo + i)) := by simp [seg, h]
theorem seg_ext {l : List Nat} {s : Nat → Nat} {lo n : Nat} (hl : l.length = n) (h : ∀ i, i < n → l[i]? = some (s (lo + i))) : l = seg s lo n := by
  apply List.ext_getElem?
  intro i
  by_cases hi : i < n
  · rw [h i hi, seg_get hi]
  · rw [List.getElem?_eq_none (by omega), List.getElem?_eq_none (by rw [seg_len]; omega)]
theorem seg_inj {s t : Nat → Nat} {lo lo' n : Nat} (h : seg s lo n = seg t lo' n) (i : Nat) (hi : i < n) : s (lo + i) = t (lo' + i) := by
  have h1 : (seg s lo n)[i]? = (seg t lo' n)[i]? := by rw [h]
  rw [seg_get hi, seg_get hi] at h1
  exact Option.some.inj h1
theorem getD_of {l : List Nat} {i : Nat} {v : Nat} (h : l[i]? = some v) : l.getD i 0 = v := by
  rw [List.getD_eq_getElem?_getD, h]; rfl
theorem get_getD {l : List Nat} {i : Nat} (h : i < l.length) : l[i]? = some (l.getD i 0) := by
  rw [List.getD_eq_getElem?_getD, List.getElem?_eq_getElem h]; rfl
theorem sg_head {w : Wd} {i : Nat} (h : i < w.1.length) : w.1[i]? = some (sg w i) := by
  unfold sg; rw [if_pos h]; exact get_getD h
theorem sg_again {w : Wd} {i : Nat} (h : w.1.length ≤ i) : sg w i = w.2.getD ((i - w.1.length) % w.2.length) 0 := by
  unfold sg; rw [if_neg (by omega)]
theorem sg_per (w : Wd) : Per (sg w) w.1.length w.2.length := fun i h => by
  rw [sg_again h, sg_again (by omega)]
  have e : i + w.2.length - w.1.length = (i - w.1.length) + w.2.length := by omega
  rw [e, Nat.add_mod_right]
theorem Per.mono {s : Nat → Nat} {c d p : Nat} (h : Per s c p) (hd : c ≤ d) : Per s d p := fun i hi => h i (by omega)
theorem Per.mul {s : Nat → Nat} {c p : Nat} (h : Per s c p) (k : Nat) : Per s c (k * p) := by
  induction k with
  | zero => intro i _; simp
  | succ k ih => intro i hi; rw [ih i hi, h (i + k * p) (by omega), Nat.succ_mul, Nat.add_assoc]
theorem Per.back {s : Nat → Nat} {c c' p q : Nat} (h : Per s c q) (hq : 1 ≤ q) (h' : Per s c' p) : Per s c p := fun i hi => by
  have hk : c' ≤ i + c' * q := by
    have : c' * 1 ≤ c' * q := Nat.mul_le_mul_left _ hq
    omega
  rw [h.mul c' i hi, h' _ hk, h.mul c' (i + p) (by omega)]
  congr 1; omega
theorem Per.sub {s : Nat → Nat} {c p q : Nat} (h : Per s c p) (h' : Per s c q) (hqp : q ≤ p) : Per s c (p - q) := fun i hi => by
  rw [h i hi, h' (i + (p - q)) (by omega)]; congr 1; omega
theorem Per.mod {s : Nat → Nat} {c p q : Nat} (h : Per s c p) (h' : Per s c q) : Per s c (p % q) := by
  have e : p % q = p - (p / q) * q := by
    have := Nat.div_add_mod p q
    rw [Nat.mul_comm] at this
    omega
  rw [e]
  refine h.sub (h'.mul _) ?_
  have := Nat.div_add_mod p q
  rw [Nat.mul_comm] at this
  omega
structure Least (s : Nat → Nat) (c p : Nat) : Prop where
  pos : 1 ≤ p
  per : Per s c p
  minC : ∀ c' p', 1 ≤ p' → Per s c' p' → c ≤ c'
  minP : ∀ c' p', 1 ≤ p' → Per s c' p' → p ≤ p'
theorem Least.uniq {s : Nat → Nat} {c p c' p' : Nat} (h : Least s c p) (h' : Least s c' p') : c = c' ∧ p = p' :=
  ⟨Nat.le_antisymm (h.minC _ _ h'.pos h'.per) (h'.minC _ _ h.pos h.per), Nat.le_antisymm (h.minP _ _ h'.pos h'.per) (h'.minP _ _ h.pos h.per)⟩
theorem least_of {s : Nat → Nat} {c p : Nat} (hp : 1 ≤ p) (h : Per s c p) (hc : c = 0 ∨ ¬ Per s (c - 1) p) (hm : ∀ q, 1 ≤ q → q < p → ¬ Per s c q) : Least s c p := by
  refine ⟨hp, h, fun c' p' h1 h2 => ?_, fun c' p' h1 h2 => ?_⟩
  · by_cases hcc : c ≤ c'
    · exact hcc
    · rcases hc with e | e
      · omega
      · exact absurd (((h2.back h1 h)).mono (by omega)) e
  · by_cases hpp : p ≤ p'
    · exact hpp
    · exact absurd (h.back hp h2) (hm p' h1 (by omega))
theorem Least.congr {s t : Nat → Nat} {c p : Nat} (h : Least s c p) (e : ∀ i, s i = t i) : Least t c p := by
  have : s = t := funext e
  rw [← this]; exact h
theorem least_first {s : Nat → Nat} {c p : Nat} (hp : 1 ≤ p) (h : Per s c p) (hc : ∀ c', c' < c → ∀ q, 1 ≤ q → q ≤ p → ¬ Per s c' q) (hm : ∀ q, 1 ≤ q → q < p → ¬ Per s c q) : Least s c p :=
  least_of hp h (by
    by_cases e : c = 0
    · exact .inl e
    · exact .inr (hc (c - 1) (by omega) p hp (Nat.le_refl _))) hm
theorem rep_get (b : List Nat) : ∀ (k i : Nat), i < k * b.length → ((List.replicate k b).flatten)[i]? = some (b.getD (i % b.length) 0)
  | 0, i, h => by simp at h
  | k + 1, i, h => by
    rw [List.replicate_succ, List.flatten_cons]
    by_cases hi : i < b.length
    · rw [List.getElem?_append_left hi, Nat.mod_eq_of_lt hi]; exact get_getD hi
    · rw [List.getElem?_append_right (by omega), rep_get b k (i - b.length) (by rw [Nat.succ_mul] at h; omega)]
      congr 2
      have e : i = (i - b.length) + b.length := by omega
      conv => rhs; rw [e, Nat.add_mod_right]
theorem rep_len (b : List Nat) (k : Nat) : ((List.replicate k b).flatten).length = k * b.length := by
  induction k with
  | zero => simp
  | succ k ih => rw [List.replicate_succ, List.flatten_cons, List.length_append, ih, Nat.succ_mul]; omega
theorem again_rep {w : Wd} {q : Nat} (hq : 1 ≤ q) (hd : w.2.length % q = 0) (hle : q ≤ w.2.length) : (List.replicate (w.2.length / q) (w.2.take q)).flatten = w.2 ↔ Per (sg w) w.1.length q := by
  have hn : w.2.length / q * q = w.2.length := Nat.div_mul_cancel (Nat.dvd_of_mod_eq_zero hd)
  have hl : (w.2.take q).length = q := by rw [List.length_take]; omega
  have tk : ∀ i, i < q → (w.2.take q).getD i 0 = w.2.getD i 0 := fun i hi => by
    rw [List.getD_eq_getElem?_getD, List.getD_eq_getElem?_getD, List.getElem?_take_of_lt hi]
  constructor
  · intro e i hi
    have key : ∀ j, j < w.2.length → w.2.getD j 0 = w.2.getD (j % q) 0 := fun j hj => by
      have h1 := rep_get (w.2.take q) (w.2.length / q) j (by rw [hl, hn]; exact hj)
      rw [e, hl, tk _ (Nat.mod_lt _ hq)] at h1
      exact getD_of h1
    have hpos : 0 < w.2.length := by omega
    rw [sg_again hi, sg_again (by omega)]
    have m1 := Nat.mod_lt (i - w.1.length) hpos
    have m2 := Nat.mod_lt (i + q - w.1.length) hpos
    rw [key _ m1, key _ m2, Nat.mod_mod_of_dvd _ (Nat.dvd_of_mod_eq_zero hd), Nat.mod_mod_of_dvd _ (Nat.dvd_of_mod_eq_zero hd)]
    have e2 : i + q - w.1.length = (i - w.1.length) + q := by omega
    rw [e2, Nat.add_mod_right]
  · intro h
    have hpos : 0 < w.2.length := by omega
    have at_ : ∀ j, j < w.2.length → sg w (w.1.length + j) = w.2.getD j 0 := fun j hj => by
      rw [sg_again (by omega), show w.1.length + j - w.1.length = j by omega, Nat.mod_eq_of_lt hj]
    apply List.ext_getElem?
    intro j
    by_cases hj : j < w.2.length
    · rw [rep_get _ _ _ (by rw [hl, hn]; exact hj), get_getD hj, hl, tk _ (Nat.mod_lt _ hq)]
      congr 1
      rw [← at_ j hj, ← at_ (j % q) (Nat.lt_of_lt_of_le (Nat.mod_lt _ hq) hle)]
      have e := h.mul (j / q) (w.1.length + j % q) (by omega)
      rw [e]
      congr 1
      have := Nat.div_add_mod j q
      rw [Nat.mul_comm] at this
      omega
    · rw [List.getElem?_eq_none (by rw [rep_len, hl, hn]; omega), List.getElem?_eq_none (by omega)]
theorem per_dvd {s : Nat → Nat} {c p q : Nat} (h : Per s c p) (hq : Per s c q) (hm : ∀ r, 1 ≤ r → r < q → ¬ Per s c r) (q1 : 1 ≤ q) : p % q = 0 := by
  have hl := Nat.mod_lt p q1
  by_cases e : p % q = 0
  · exact e
  · exact absurd (h.mod hq) (hm _ (by omega) hl)
theorem nat_min {P : Nat → Prop} : ∀ n, P n → ∃ m, m ≤ n ∧ P m ∧ ∀ k, k < m → ¬ P k := by
  intro n
  induction n using Nat.strongRecOn with
  | ind n ih =>
    intro h
    by_cases e : ∃ k, k < n ∧ P k
    · obtain ⟨k, h1, h2⟩ := e
      obtain ⟨m, a, b, c⟩ := ih k h1 h2
      exact ⟨m, by omega, b, c⟩
    · exact ⟨n, Nat.le_refl _, h, fun k hk hp => e ⟨k, hk, hp⟩⟩
theorem least_ex (w : Wd) (h : 1 ≤ w.2.length) : ∃ c p, Least (sg w) c p ∧ c ≤ w.1.length ∧ p ≤ w.2.length := by
  obtain ⟨p, hp1, ⟨hp2, hp3⟩, hp4⟩ := nat_min (P := fun p => 1 ≤ p ∧ Per (sg w) w.1.length p) w.2.length ⟨h, sg_per w⟩
  obtain ⟨c, hc1, hc2, hc3⟩ := nat_min (P := fun c => Per (sg w) c p) w.1.length hp3
  refine ⟨c, p, least_of hp2 hc2 ?_ fun q h1 h2 hq => hp4 q h2 ⟨h1, hq.mono hc1⟩, hc1, hp1⟩
  by_cases e : c = 0
  · exact .inl e
  · exact .inr (hc3 (c - 1) (by omega))
theorem part_get {w : Wd} {p i : Nat} (hp : p ≤ w.2.length) (hi : i < p) : (w.2.take p)[i]? = some (sg w (w.1.length + i)) := by
  rw [List.getElem?_take_of_lt hi, get_getD (by omega), sg_again (by omega)]
  rw [show w.1.length + i - w.1.length = i by omega, Nat.mod_eq_of_lt (show i < w.2.length by omega)]
theorem mod_part (m p : Nat) : m - m % p = m / p * p := by
  have := Nat.div_add_mod m p
  rw [Nat.mul_comm] at this
  omega
theorem part_back {w : Wd} {p m : Nat} (h1 : 1 ≤ p) (hp : p ≤ w.2.length) (hm : m < w.1.length) (h : Per (sg w) (w.1.length - m) p) : (w.2.take p)[p - 1 - m % p]? = some (sg w (w.1.length - 1 - m + p)) := by
  have hl := Nat.mod_lt m h1
  rw [part_get hp (by omega)]
  congr 1
  have e := h.mul (m / p) (w.1.length - 1 - m + p) (by omega)
  rw [e]
  congr 1
  have := mod_part m p
  have := Nat.mod_le m p
  omega
theorem least_rot {w : Wd} {c p m : Nat} (hl : Least (sg w) c p) (hm : m ≤ w.1.length) (hc : c = w.1.length - m) (hp : p ≤ w.2.length) : (w.2.take p).drop (p - m % p) ++ (w.2.take p).take (p - m % p) = seg (sg w) c p := by
  have h1 := hl.pos
  have hl1 := Nat.mod_lt m h1
  have tl : (w.2.take p).length = p := by rw [List.length_take]; omega
  have mp := mod_part m p
  have ml := Nat.mod_le m p
  apply seg_ext
  · rw [List.length_append, List.length_drop, tl, List.length_take, tl]; omega
  · intro i hi
    by_cases h : i < m % p
    · rw [List.getElem?_append_left (by rw [List.length_drop, tl]; omega), List.getElem?_drop, part_get hp (by omega)]
      congr 1
      have e := hl.per.mul (m / p + 1) (c + i) (by omega)
      rw [e]
      congr 1
      rw [Nat.succ_mul]
      omega
    · rw [List.getElem?_append_right (by rw [List.length_drop, tl]; omega), List.length_drop, tl, List.getElem?_take_of_lt (by omega), part_get hp (by omega)]
      congr 1
      have e := hl.per.mul (m / p) (c + i) (by omega)
      rw [e]
      congr 1
      omega
theorem head_seg {w : Wd} {c : Nat} (h : c ≤ w.1.length) : w.1.take c = seg (sg w) 0 c := by
  apply seg_ext
  · rw [List.length_take]; omega
  · intro i hi
    rw [List.getElem?_take_of_lt hi, sg_head (by omega), Nat.zero_add]
theorem per_step {w : Wd} {p m : Nat} (hm : m < w.1.length) (h : Per (sg w) (w.1.length - m) p) : sg w (w.1.length - 1 - m) = sg w (w.1.length - 1 - m + p) ↔ Per (sg w) (w.1.length - (m + 1)) p := by
  constructor
  · intro e i hi
    by_cases hx : i = w.1.length - 1 - m
    · rw [hx]; exact e
    · exact h i (by omega)
  · intro q
    exact q _ (by omega)
theorem short_is {w : Wd} {c p q : Nat} (hl : Least (sg w) c p) (hc : c ≤ w.1.length) (hp : p ≤ w.2.length) (q1 : 1 ≤ q) (q2 : q ≤ w.2.length) (hq : w.2.length % q = 0 ∧ (List.replicate (w.2.length / q) (w.2.take q)).flatten = w.2)
    (hm : ∀ k, 1 ≤ k → k < q → ¬ (w.2.length % k = 0 ∧ (List.replicate (w.2.length / k) (w.2.take k)).flatten = w.2)) : q = p := by
  have pq : Per (sg w) w.1.length q := (again_rep q1 hq.1 q2).mp hq.2
  have h1 : p ≤ q := hl.minP _ _ q1 pq
  have pp : Per (sg w) w.1.length p := hl.per.mono hc
  have dv : w.2.length % p = 0 := per_dvd (sg_per w) pp (fun r r1 r2 hr => absurd (hl.minP _ _ r1 hr) (by omega)) hl.pos
  by_cases h2 : q ≤ p
  · omega
  · exact absurd ⟨dv, (again_rep hl.pos dv hp).mpr pp⟩ (hm p hl.pos (by omega))
theorem short_ex {a : List Nat} (h : 1 ≤ a.length) : ∃ q, 1 ≤ q ∧ q ≤ a.length ∧ (a.length % q = 0 ∧ (List.replicate (a.length / q) (a.take q)).flatten = a) ∧ ∀ k, 1 ≤ k → k < q → ¬ (a.length % k = 0 ∧ (List.replicate (a.length / k) (a.take k)).flatten = a) := by
  obtain ⟨q, h1, ⟨h2, h3⟩, h4⟩ := nat_min (P := fun q => 1 ≤ q ∧ (a.length % q = 0 ∧ (List.replicate (a.length / q) (a.take q)).flatten = a)) a.length ⟨h, by rw [Nat.mod_self], by rw [Nat.div_self h, List.take_length]; simp⟩
  exact ⟨q, h2, h1, h3, fun k k1 k2 hk => h4 k k2 ⟨k1, hk⟩⟩
def PerW (s : Nat → Nat) (c p : Nat) : Prop := ∀ i, c ≤ i → i + p < 200 → s i = s (i + p)
theorem perW_iff {w : Wd} {c p : Nat} (h1 : w.1.length ≤ 12) (h2 : w.2.length ≤ 26) (h3 : 1 ≤ w.2.length) (hc : c ≤ 12) (hp : p ≤ 26) : PerW (sg w) c p ↔ Per (sg w) c p := by
  constructor
  · intro h i hi
    by_cases hs : i + p < 200
    · exact h i hi hs
    · have hm := Nat.mod_lt (i - 12) h3
      have hd := mod_part (i - 12) w.2.length
      have hl := Nat.mod_le (i - 12) w.2.length
      have e1 := (sg_per w).mul ((i - 12) / w.2.length) (12 + (i - 12) % w.2.length) (by omega)
      have e2 := (sg_per w).mul ((i - 12) / w.2.length) (12 + (i - 12) % w.2.length + p) (by omega)
      have e3 := h (12 + (i - 12) % w.2.length) (by omega) (by omega)
      have f1 : 12 + (i - 12) % w.2.length + (i - 12) / w.2.length * w.2.length = i := by omega
      have f2 : 12 + (i - 12) % w.2.length + p + (i - 12) / w.2.length * w.2.length = i + p := by omega
      rw [f1] at e1
      rw [f2] at e2
      rw [← e1, e3, e2]
  · intro h i hi _
    exact h i hi
theorem tells_iff {s : Nat → Nat} {c p : Nat} (hc : c ≤ 12) (h1 : 1 ≤ p) (hp : p ≤ 26) :
    (((seg s 0 200).take c ++ (List.replicate (200 / p + 1) (((seg s 0 200).drop c).take p)).flatten).take 200 = seg s 0 200) ↔ PerW s c p := by
  have lb : (((seg s 0 200).drop c).take p).length = p := by rw [List.length_take, List.length_drop, seg_len]; omega
  have lt : ((seg s 0 200).take c).length = c := by rw [List.length_take, seg_len]; omega
  have big : 200 < (200 / p + 1) * p := by
    have := Nat.div_add_mod 200 p
    have hm := Nat.mod_lt 200 h1
    rw [Nat.succ_mul, Nat.mul_comm]
    omega
  have bget : ∀ i, i < p → (((seg s 0 200).drop c).take p).getD i 0 = s (c + i) := fun i hi => by
    apply getD_of
    rw [List.getElem?_take_of_lt hi, List.getElem?_drop, seg_get (by omega), Nat.zero_add]
  have rget : ∀ i, i < 200 → c ≤ i → ((seg s 0 200).take c ++ (List.replicate (200 / p + 1) (((seg s 0 200).drop c).take p)).flatten)[i]? = some (s (c + (i - c) % p)) := fun i hi hci => by
    rw [List.getElem?_append_right (by rw [lt]; exact hci), lt, rep_get _ _ _ (by rw [lb]; omega), lb, bget _ (Nat.mod_lt _ h1)]
  have hget : ∀ i, i < c → ((seg s 0 200).take c ++ (List.replicate (200 / p + 1) (((seg s 0 200).drop c).take p)).flatten)[i]? = some (s i) := fun i hi => by
    rw [List.getElem?_append_left (by rw [lt]; exact hi), List.getElem?_take_of_lt hi, seg_get (by omega), Nat.zero_add]
  have ltot : (((seg s 0 200).take c ++ (List.replicate (200 / p + 1) (((seg s 0 200).drop c).take p)).flatten).take 200).length = 200 := by
    rw [List.length_take, List.length_append, lt, rep_len, lb]; omega
  constructor
  · intro e i hi hs
    have g : ∀ k, k < 200 → c ≤ k → s (c + (k - c) % p) = s k := fun k hk hck => by
      have h : (((seg s 0 200).take c ++ (List.replicate (200 / p + 1) (((seg s 0 200).drop c).take p)).flatten).take 200)[k]? = (seg s 0 200)[k]? := by rw [e]
      rw [List.getElem?_take_of_lt hk, rget k hk hck, seg_get hk, Nat.zero_add] at h
      exact Option.some.inj h
    rw [← g i (by omega) hi, ← g (i + p) hs (by omega)]
    congr 2
    rw [show i + p - c = (i - c) + p by omega, Nat.add_mod_right]
  · intro h
    apply seg_ext ltot
    intro i hi
    rw [List.getElem?_take_of_lt hi, Nat.zero_add]
    by_cases hci : c ≤ i
    · rw [rget i hi hci]
      congr 1
      have up : ∀ k, c + (i - c) % p + k * p ≤ i → s (c + (i - c) % p) = s (c + (i - c) % p + k * p) := by
        intro k
        induction k with
        | zero => intro _; simp
        | succ k ih =>
          intro hk
          rw [Nat.succ_mul] at hk
          rw [ih (by omega), h _ (by omega) (by omega), Nat.succ_mul, Nat.add_assoc]
      have hd := mod_part (i - c) p
      have hl := Nat.mod_le (i - c) p
      have e := up ((i - c) / p) (by omega)
      rw [e]
      congr 1
      omega
    · rw [hget i (by omega)]
theorem text_seg {w : Wd} {n : Nat} (h : 1 ≤ w.2.length) : (w.1 ++ (List.replicate (n / w.2.length + 1) w.2).flatten).take n = seg (sg w) 0 n := by
  have big : n ≤ (n / w.2.length + 1) * w.2.length := by
    have := Nat.div_add_mod n w.2.length
    have hm := Nat.mod_lt n h
    rw [Nat.succ_mul, Nat.mul_comm]
    omega
  apply seg_ext
  · rw [List.length_take, List.length_append, rep_len]; omega
  · intro i hi
    rw [List.getElem?_take_of_lt hi, Nat.zero_add]
    by_cases hh : i < w.1.length
    · rw [List.getElem?_append_left hh]; exact sg_head hh
    · rw [List.getElem?_append_right (by omega), rep_get _ _ _ (by omega), sg_again (by omega)]
theorem alike_of {u : Wd} {s : Nat → Nat} (h1 : ∀ i, i < u.1.length → u.1[i]? = some (s i)) (h2 : ∀ i, i < u.2.length → u.2[i]? = some (s (u.1.length + i))) (hp : Per s u.1.length u.2.length) (hn : 1 ≤ u.2.length) (i : Nat) : sg u i = s i := by
  by_cases hi : i < u.1.length
  · have := h1 i hi
    rw [sg_head hi] at this
    exact Option.some.inj this
  · rw [sg_again (by omega), getD_of (h2 _ (Nat.mod_lt _ hn))]
    have e := hp.mul ((i - u.1.length) / u.2.length) (u.1.length + (i - u.1.length) % u.2.length) (by omega)
    rw [e]
    congr 1
    have := mod_part (i - u.1.length) u.2.length
    have := Nat.mod_le (i - u.1.length) u.2.length
    omega
theorem alike_seg {s : Nat → Nat} {c p : Nat} (hp : Per s c p) (h1 : 1 ≤ p) (i : Nat) : sg (seg s 0 c, seg s c p) i = s i := by
  apply alike_of (u := (seg s 0 c, seg s c p))
  · intro k hk
    rw [seg_len] at hk
    show (seg s 0 c)[k]? = _
    rw [seg_get hk, Nat.zero_add]
  · intro k hk
    rw [seg_len] at hk
    show (seg s c p)[k]? = some (s ((seg s 0 c).length + k))
    rw [seg_get hk, seg_len]
  · show Per s (seg s 0 c).length (seg s c p).length
    rw [seg_len, seg_len]; exact hp
  · show 1 ≤ (seg s c p).length
    rw [seg_len]; exact h1
theorem alike_moved {w : Wd} (k m : Nat) (h : 1 ≤ w.2.length) (hm : k % w.2.length + w.2.length ≤ m) (i : Nat) :
    sg (w.1 ++ seg (sg ([], w.2)) 0 k, ((seg (sg ([], w.2)) 0 m).drop (k % w.2.length)).take w.2.length) i = sg w i := by
  have t : ∀ j, sg ([], w.2) j = sg w (w.1.length + j) := fun j => by
    rw [sg_again (w := w) (by omega), sg_again (w := ([], w.2)) (Nat.zero_le _)]
    show w.2.getD ((j - 0) % w.2.length) 0 = _
    congr 2
    omega
  have l2 : (((seg (sg ([], w.2)) 0 m).drop (k % w.2.length)).take w.2.length).length = w.2.length := by rw [List.length_take, List.length_drop, seg_len]; omega
  have l1 : (w.1 ++ seg (sg ([], w.2)) 0 k).length = w.1.length + k := by rw [List.length_append, seg_len]
  apply alike_of (u := (w.1 ++ seg (sg ([], w.2)) 0 k, ((seg (sg ([], w.2)) 0 m).drop (k % w.2.length)).take w.2.length))
  · intro j hj
    have hj' : j < w.1.length + k := by rw [← l1]; exact hj
    show (w.1 ++ seg (sg ([], w.2)) 0 k)[j]? = _
    by_cases h : j < w.1.length
    · rw [List.getElem?_append_left h]; exact sg_head h
    · rw [List.getElem?_append_right (by omega), seg_get (by omega), Nat.zero_add, t]
      congr 2; omega
  · intro j hj
    have hj' : j < w.2.length := by rw [← l2]; exact hj
    show (((seg (sg ([], w.2)) 0 m).drop (k % w.2.length)).take w.2.length)[j]? = some (sg w ((w.1 ++ seg (sg ([], w.2)) 0 k).length + j))
    rw [List.getElem?_take_of_lt hj', List.getElem?_drop, seg_get (by omega), l1, Nat.zero_add, t]
    congr 1
    have e := (sg_per w).mul (k / w.2.length) (w.1.length + (k % w.2.length + j)) (by omega)
    rw [e]
    congr 1
    have := mod_part k w.2.length
    have := Nat.mod_le k w.2.length
    omega
  · show Per (sg w) (w.1 ++ seg (sg ([], w.2)) 0 k).length (((seg (sg ([], w.2)) 0 m).drop (k % w.2.length)).take w.2.length).length
    rw [l1, l2]
    exact (sg_per w).mono (by omega)
  · show 1 ≤ (((seg (sg ([], w.2)) 0 m).drop (k % w.2.length)).take w.2.length).length
    omega
theorem alike_rep {w : Wd} (k : Nat) (h : 1 ≤ w.2.length) (hk : 1 ≤ k) (i : Nat) : sg (w.1, (List.replicate k w.2).flatten) i = sg w i := by
  have hl : ((List.replicate k w.2).flatten).length = k * w.2.length := rep_len _ _
  have hpos : 1 ≤ k * w.2.length := Nat.mul_pos hk h
  apply alike_of (u := (w.1, (List.replicate k w.2).flatten))
  · intro j hj
    show w.1[j]? = some (sg w j)
    exact sg_head (w := w) hj
  · intro j hj
    have hj' : j < k * w.2.length := by rw [← hl]; exact hj
    show ((List.replicate k w.2).flatten)[j]? = some (sg w (w.1.length + j))
    rw [rep_get _ _ _ hj', sg_again (by omega), show w.1.length + j - w.1.length = j by omega]
  · show Per (sg w) w.1.length ((List.replicate k w.2).flatten).length
    rw [hl]
    exact (sg_per w).mul k
  · show 1 ≤ ((List.replicate k w.2).flatten).length
    omega
theorem seg_congr {s t : Nat → Nat} (h : ∀ i, s i = t i) (lo n : Nat) : seg s lo n = seg t lo n := by
  have : s = t := funext h
  rw [this]
theorem sg_mem (w : Wd) (h : 1 ≤ w.2.length) (i : Nat) : sg w i ∈ w.1 ∨ sg w i ∈ w.2 := by
  by_cases hi : i < w.1.length
  · exact .inl (List.mem_of_getElem? (sg_head hi))
  · refine .inr ?_
    rw [sg_again (by omega)]
    exact List.mem_of_getElem? (get_getD (Nat.mod_lt _ h))
theorem seg_mem {s : Nat → Nat} {lo n c : Nat} (h : c ∈ seg s lo n) : ∃ i, c = s i := by
  obtain ⟨k, _, e⟩ := List.mem_map.mp h
  exact ⟨_, e.symm⟩
end Mw
set_option Elab.async false
set_option linter.all false
set_option maxRecDepth 100000
set_option maxHeartbeats 4000000
namespace K01
open PySem PySem.Spec PyProof.Rows L2 Wv
def topS (i : Nat) : Stmt := PySem.Challenge.pw_clockloom_k01_words_looked_at.main.body.getD i (.Pass ⟨0, 0, 0, 0⟩)
abbrev s_are_signs : Stmt := topS 5
abbrev s_is_word : Stmt := topS 6
abbrev s_must_be_word : Stmt := topS 7
abbrev s_shortest_again : Stmt := topS 8
abbrev s_made_least : Stmt := topS 9
abbrev s_least_word : Stmt := topS 10
structure Bn (mg : Str → Option Value) : Prop where
  m_isinstance : mg "isinstance" = none
  m_len : mg "len" = none
  m_min : mg "min" = none
  m_range : mg "range" = none
  m_str : mg "str" = none
  m_tuple : mg "tuple" = none
  c_MOST_SIGNS : ∃ t, mg "MOST_SIGNS" = some (.int 20000 t)
def signsOk (l : Tx) : Bool := decide (l.length ≤ 20000) && l.all fun c => c == 48 || c == 49
def areSigns : PyData → Bool
  | .str s => signsOk s.cps.toList
  | _ => false
def neT : PyData → Bool
  | .str s => !decide (s.cps.toList = [])
  | _ => true
def isWord : PyData → Bool
  | .tuple [a, b] => areSigns a && areSigns b && neT b
  | _ => false
def smallD : PyData → Prop
  | .str s => s.length ≤ 16777216
  | _ => True
theorem signs_strip (l : Tx) : (decide (l.length ≤ 20000) && decide (tStrip l [48, 49] = [])) = signsOk l := by
  unfold signsOk
  congr 1
  have h := strip_signs l
  cases e : l.all (fun c => c == 48 || c == 49) with
  | true =>
    rw [decide_eq_true_iff, h]
    rw [List.all_eq_true] at e
    intro c hc
    have := e c hc
    simpa using this
  | false =>
    rw [decide_eq_false_iff_not, h]
    intro q
    have : l.all (fun c => c == 48 || c == 49) = true := by
      rw [List.all_eq_true]
      intro c hc
      simpa using q c hc
    rw [this] at e; cases e
section
variable {P : Program} {w : World} {K : PySem.W.Frag} {mg : Str → Option Value} {base : Heap}
def R_are_signs (ps : List Vp) (b : Bool) : Prop := ∃ d : PyData, ps = [vA d] ∧ smallD d ∧ b = areSigns d
theorem sc_are_signs : FnScope ["thing"] ["thing"] (defScope s_are_signs) := ⟨rfl, rfl, rfl, by decide +kernel, rfl, by decide +kernel, by decide +kernel⟩
theorem ok_are_signs {f : Addr} {fd : FuncData} (T : Bn mg) (F : FnP K "are_signs" s_are_signs [] [] f fd) : FnOk P w K mg base CX0 1 f fd ["thing"] (spF K R_are_signs) := by
  refine fn_ok F sc_are_signs (fun qs a h => ?_) (fun cdv A outer s H F0 E D qs a hr hR hret hnx => ?_)
  · obtain ⟨d, rfl, _⟩ := h; rfl
  obtain ⟨d, rfl, hs, rfl⟩ := hR
  show Go _ F0 H D [isA d] _
  have other : areSigns d = false → kitB (tyD d) "str" = some false → Go (bX P w K mg base ["thing"] "are_signs" s_are_signs f cdv A outer s H E) F0 H D [isA d] (defBody s_are_signs) := fun e1 e2 =>
    go_ret (ee_and (b := false) (c := true) (ee_isi (ee_var 0 (a := d) rfl rfl (.inl rfl)) e2 (by decide +kernel) T.m_str T.m_isinstance) fun h => nomatch h) (by rw [e1] at hret; exact hret)
  cases d with
  | none => exact other rfl (by decide +kernel)
  | bool b => exact other rfl (show kitB "bool" "str" = some false by decide +kernel)
  | int b => exact other rfl (show kitB "int" "str" = some false by decide +kernel)
  | list b => exact other rfl (show kitB "list" "str" = some false by decide +kernel)
  | tuple b => exact other rfl (show kitB "tuple" "str" = some false by decide +kernel)
  | dict b => exact other rfl (show kitB "dict" "str" = some false by decide +kernel)
  | str z =>
    refine go_weak (r' := [isA (z.cps.toList : Tx)]) ?_ (fun K F H s h => by
      cases h with
      | cons a t => cases t; exact .cons (slot_text a) .nil)
    have hz : z.cps.toList.length ≤ 16777216 := by
      have : z.length ≤ 16777216 := hs
      show z.cps.toList.length ≤ _
      rw [Array.length_toList]; exact this
    refine go_ret (EE.cast (ee_and (ee_isi (tn := "str") (ee_var 0 (a := (z.cps.toList : Tx)) rfl rfl (.inl rfl)) (show kitB "str" "str" = some true by decide +kernel) (by decide +kernel) T.m_str T.m_isinstance) fun h2 => (ee_and (ee_cmp (ee_len (ee_var 0 rfl rfl (.inl rfl)) hz T.m_len) (ee_gint T.c_MOST_SIGNS) trivial) fun h1 => (ee_one (ee_cmp (ee_strip (ee_var 0 rfl rfl (.inl rfl)) (ee_str [48, 49]) hz) (ee_str []) trivial)))) ?_) hret
    show (true && (decide (((z.cps.toList.length : Nat) : Int) ≤ 20000) && decide (tStrip z.cps.toList [48, 49] = []))) = signsOk z.cps.toList
    rw [← signs_strip, Bool.true_and]
    congr 1
    apply decide_eq_decide.mpr
    omega
end
end K01
set_option Elab.async false
set_option linter.all false
set_option maxRecDepth 100000
set_option maxHeartbeats 4000000
namespace K01
open PySem PySem.Spec PyProof.Rows L2 Wv
section
variable {P : Program} {w : World} {K : PySem.W.Frag} {mg : Str → Option Value} {base : Heap}
def smallW : PyData → Prop
  | .tuple [a, b] => smallD a ∧ smallD b
  | .str s => s.length ≤ 16777216
  | _ => True
def R_is_word (ps : List Vp) (b : Bool) : Prop := ∃ d : PyData, ps = [vA d] ∧ smallW d ∧ b = isWord d
theorem sc_is_word : FnScope ["thing"] ["thing"] (defScope s_is_word) := ⟨rfl, rfl, rfl, by decide +kernel, rfl, by decide +kernel, by decide +kernel⟩
theorem areSigns_str {d : PyData} (h : areSigns d = true) : ∃ s, d = .str s := by
  cases d with
  | str s => exact ⟨s, rfl⟩
  | none => cases h
  | bool _ => cases h
  | int _ => cases h
  | list _ => cases h
  | tuple _ => cases h
  | dict _ => cases h
theorem ok_is_word {f : Addr} {fd : FuncData} (T : Bn mg) (G1 : Dfn P w K mg base "are_signs" 1 R_are_signs) (F : FnP K "is_word" s_is_word [] [] f fd) : FnOk P w K mg base CX0 2 f fd ["thing"] (spF K R_is_word) := by
  refine fn_ok F sc_is_word (fun qs a h => ?_) (fun cdv A outer s H F0 E D qs a hr hR hret hnx => ?_)
  · obtain ⟨d, rfl, _⟩ := h; rfl
  obtain ⟨d, rfl, hs, rfl⟩ := hR
  show Go _ F0 H D [isA d] _
  have other : isWord d = false → kitB (tyD d) "tuple" = some false → Go (bX P w K mg base ["thing"] "is_word" s_is_word f cdv A outer s H E) F0 H D [isA d] (defBody s_is_word) := fun e1 e2 => by
    refine go_if (t := true) (EW.et (ew_or (b := true) (c := true) (et_not (b := false) (et_val (ee_isi (tn := "tuple") (ee_var 0 (a := d) rfl rfl (.inl rfl)) e2 (by decide +kernel) T.m_tuple T.m_isinstance))) fun h => nomatch h)) (fun _ => ?_) (fun h => nomatch h)
    exact go_ret (ee_bool false) (by rw [e1] at hret; exact hret)
  cases d with
  | none => exact other rfl (by decide +kernel)
  | bool b => exact other rfl (show kitB "bool" "tuple" = some false by decide +kernel)
  | int b => exact other rfl (show kitB "int" "tuple" = some false by decide +kernel)
  | list b => exact other rfl (show kitB "list" "tuple" = some false by decide +kernel)
  | str b => exact other rfl (show kitB "str" "tuple" = some false by decide +kernel)
  | dict b => exact other rfl (show kitB "dict" "tuple" = some false by decide +kernel)
  | tuple ds =>
    refine go_if (t := !decide (((ds.length : Nat) : Int) = 2)) (ET.cast (EW.et (ew_or (b := false) (et_not (b := true) (et_val (ee_isi (tn := "tuple") (ee_var 0 (a := PyData.tuple ds) rfl rfl (.inl rfl)) (show kitB "tuple" "tuple" = some true by decide +kernel) (by decide +kernel) T.m_tuple T.m_isinstance))) fun h => ew_or1 (et_cmp (ee_len (ee_var 0 (a := PyData.tuple ds) rfl rfl (.inl rfl)) rfl T.m_len) (ee_int 2) trivial))) ?_) (fun hc => ?_) (fun hc => go_on ?_)
    · rw [Bool.false_or]; rfl
    · have hl : ds.length ≠ 2 := fun e => by rw [e] at hc; exact absurd hc (by decide)
      have e1 : isWord (.tuple ds) = false := by
        match ds, hl with
        | [], _ => rfl
        | [_], _ => rfl
        | _ :: _ :: _ :: _, _ => rfl
        | [_, _], h => exact absurd rfl h
      exact go_ret (ee_bool false) (by rw [e1] at hret; exact hret)
    · have hl : ds.length = 2 := by
        rw [Bool.not_eq_false'] at hc
        have := of_decide_eq_true hc
        omega
      match ds, hl, hs with
      | [a, b], _, hs =>
        obtain ⟨h1, h2⟩ := (show smallD a ∧ smallD b from hs)
        refine go_ret (EE.cast (ee_and (ee_call G1 (hr.mono (by decide)) (ea_cons (ee_ix (ee_var 0 (a := PyData.tuple [a, b]) rfl rfl (.inl rfl)) (ee_int 0) (y := a) rfl) ea_nil) ⟨a, rfl, h1, rfl⟩ rfl) fun h3 => (ee_and (c := neT b) (ee_call G1 (hr.mono (by decide)) (ea_cons (ee_ix (ee_var 0 (a := PyData.tuple [a, b]) rfl rfl (.inl rfl)) (ee_int 1) (y := b) rfl) ea_nil) ⟨b, rfl, h2, rfl⟩ rfl) fun h4 => ?_)) ?_) hret
        · obtain ⟨z, rfl⟩ := areSigns_str h4
          exact ee_one (ee_cmp (ee_text (ee_ix (ee_var 0 (a := PyData.tuple [a, .str z]) rfl rfl (.inl rfl)) (ee_int 1) rfl)) (ee_str []) trivial)
        · rw [← Bool.and_assoc]; rfl
def R_must_be_word (ps : List Vp) (b : Unit) : Prop := ∃ d : PyData, ps = [vA d] ∧ smallW d ∧ isWord d = true
theorem sc_must_be_word : FnScope ["word"] ["word"] (defScope s_must_be_word) := ⟨rfl, rfl, rfl, by decide +kernel, rfl, by decide +kernel, by decide +kernel⟩
theorem ok_must_be_word {f : Addr} {fd : FuncData} (T : Bn mg) (G1 : Dfn P w K mg base "is_word" 2 R_is_word) (F : FnP K "must_be_word" s_must_be_word [] [] f fd) : FnOk P w K mg base CX0 3 f fd ["word"] (spF K R_must_be_word) := by
  refine fn_ok F sc_must_be_word (fun qs a h => ?_) (fun cdv A outer s H F0 E D qs a hr hR hret hnx => ?_)
  · obtain ⟨d, rfl, _⟩ := h; rfl
  obtain ⟨d, rfl, hs, hw⟩ := hR
  show Go _ F0 H D [isA d] _
  refine go_if (t := false) (ET.cast (et_not (et_val (ee_call G1 (hr.mono (by decide)) (ea_cons (ee_var 0 rfl rfl (.inl rfl)) ea_nil) ⟨d, rfl, hs, rfl⟩ rfl))) (by rw [hw]; rfl)) (fun h => nomatch h) (fun _ => go_on ?_)
  exact go_nil fun F H s a => hnx s F H a.1 rfl
end
end K01
set_option Elab.async false
set_option linter.all false
set_option maxRecDepth 100000
set_option maxHeartbeats 4000000
namespace K01
open PySem PySem.Spec PyProof.Rows L2 Wv Mw
def Sh1 (a : List Nat) (q : Nat) : Prop := a.length % q = 0 ∧ (List.replicate (a.length / q) (a.take q)).flatten = a
structure Sh (a : List Nat) (q : Nat) : Prop where
  pos : 1 ≤ q
  le : q ≤ a.length
  is : Sh1 a q
  min : ∀ k, 1 ≤ k → k < q → ¬ Sh1 a k
section
variable {P : Program} {w : World} {K : PySem.W.Frag} {mg : Str → Option Value} {base : Heap}
def R_shortest_again (ps : List Vp) (b : List Nat) : Prop := ∃ (a : List Nat) (q : Nat), ps = [vA a] ∧ a.length ≤ 20000 ∧ Sh a q ∧ b = a.take q
theorem sc_shortest_again : FnScope ["again", "many", "size"] ["again"] (defScope s_shortest_again) := ⟨rfl, rfl, rfl, by decide +kernel, rfl, by decide +kernel, by decide +kernel⟩
theorem ok_shortest_again {f : Addr} {fd : FuncData} (T : Bn mg) (F : FnP K "shortest_again" s_shortest_again [] [] f fd) : FnOk P w K mg base CX0 1 f fd ["again"] (spF K R_shortest_again) := by
  refine fn_ok F sc_shortest_again (fun qs a h => ?_) (fun cdv A outer s H F0 E D qs r hr hR hret hnx => ?_)
  · obtain ⟨a, q, rfl, _⟩ := h; rfl
  obtain ⟨a, q, rfl, hl, hq, rfl⟩ := hR
  show Go _ F0 H D [isA a, anyS, anyS] _
  have hz : a.length ≤ 16777216 := by omega
  refine go_set 1 (ee_len (ee_var 0 rfl rfl (.inl rfl)) hz T.m_len) ?_ sc_shortest_again.nd rfl (.inl rfl)
  refine go_range2 2 (fun i => [isA a, isA (a.length : Int), anyS]) (fun i => i + 1 ≤ q) (ee_int 1) (ee_var 1 (a := (a.length : Int)) rfl rfl (.inl rfl)) (by omega) hq.pos (fun K F H s h => h) (fun i ci hi => ?turn) ?rest T.m_range PassesOwn.never rfl sc_shortest_again.nd rfl (.inl rfl)
  case turn =>
    have hi2 : 1 + i < a.length := by omega
    show Go _ F0 H _ [isA a, isA (a.length : Int), isA (1 + (i : Int))] _
    have hsl : cutL a none (some (1 + (i : Int))) = a.take (i + 1) := by rw [cut_to a (by omega)]; congr 1; omega
    have hdv : ((a.length : Int) / (1 + (i : Int))).toNat = a.length / (i + 1) := by
      have e1 : (1 + (i : Int)) = ((i + 1 : Nat) : Int) := by omega
      rw [e1, ← Int.natCast_ediv, Int.toNat_natCast]
    have hmd : ((a.length : Int) % (1 + (i : Int))) = ((a.length % (i + 1) : Nat) : Int) := by
      have e1 : (1 + (i : Int)) = ((i + 1 : Nat) : Int) := by omega
      rw [e1, ← Int.natCast_emod]
    have htl : (a.take (i + 1)).length = i + 1 := by rw [List.length_take]; omega
    have hmul : a.length / (i + 1) * (i + 1) ≤ a.length := Nat.div_mul_le_self _ _
    have hdl : a.length / (i + 1) ≤ a.length := Nat.div_le_self _ _
    refine go_if (EW.et (ew_and (et_cmp (ee_bin (ee_var 1 (a := (a.length : Int)) rfl rfl (.inl rfl)) (ee_var 2 (a := 1 + (i : Int)) rfl rfl (.inl rfl)) ?_) (ee_int 0) trivial) fun h1 => (ew_and1 (et_cmp (ee_bin (ee_slice (ee_var 0 (a := a) rfl rfl (.inl rfl)) eo_none (eo_some (ee_var 2 (a := 1 + (i : Int)) rfl rfl (.inl rfl))) hz) (ee_bin (ee_var 1 (a := (a.length : Int)) rfl rfl (.inl rfl)) (ee_var 2 (a := 1 + (i : Int)) rfl rfl (.inl rfl)) ?_) ?_) (ee_var 0 (a := a) rfl rfl (.inl rfl)) trivial)))) (fun hc => ?yes) (fun hc => ?no)
    · show (0 : Int) < 1 + (i : Int); omega
    · show (0 : Int) < 1 + (i : Int) ∧ (1 + (i : Int)) < 1073741824; omega
    · show -1000000000 < (a.length : Int) / (1 + (i : Int)) ∧ (a.length : Int) / (1 + (i : Int)) < 1000000000 ∧ (cutL a none (some (1 + (i : Int)))).length * ((a.length : Int) / (1 + (i : Int))).toNat ≤ 16777216
      rw [hsl, htl, hdv, Nat.mul_comm]
      have e9 : ((a.length : Int) / (1 + (i : Int))) = ((a.length / (i + 1) : Nat) : Int) := by
        have e1 : (1 + (i : Int)) = ((i + 1 : Nat) : Int) := by omega
        rw [e1, ← Int.natCast_ediv]
      rw [e9]
      omega
    case yes =>
      have hc' : (decide ((a.length : Int) % (1 + (i : Int)) = 0) && decide ((List.replicate ((a.length : Int) / (1 + (i : Int))).toNat (cutL a none (some (1 + (i : Int))))).flatten = a)) = true := hc
      rw [Bool.and_eq_true, decide_eq_true_iff, decide_eq_true_iff, hsl, hdv, hmd] at hc'
      have hs1 : Sh1 a (i + 1) := ⟨Int.ofNat.inj hc'.1, hc'.2⟩
      have e : q = i + 1 := by
        by_cases h : q ≤ i + 1
        · omega
        · exact absurd hs1 (hq.min _ (by omega) (by omega))
      refine go_ret (EE.cast (ee_slice (ee_var 0 (a := a) rfl rfl (.inl rfl)) eo_none (eo_some (ee_var 2 (a := 1 + (i : Int)) rfl rfl (.inl rfl))) hz) ?_) hret
      show cutL a none (some (1 + (i : Int))) = a.take q
      rw [hsl, e]
    case no =>
      have hc' : (decide ((a.length : Int) % (1 + (i : Int)) = 0) && decide ((List.replicate ((a.length : Int) / (1 + (i : Int))).toNat (cutL a none (some (1 + (i : Int))))).flatten = a)) = false := hc
      have hns : ¬ Sh1 a (i + 1) := fun h => by
        rw [hsl, hdv, decide_eq_true (show (a.length : Int) % (1 + (i : Int)) = 0 by rw [hmd, h.1]; rfl), decide_eq_true h.2] at hc'
        cases hc'
      have hne : q ≠ i + 1 := fun e => hns (e ▸ hq.is)
      refine go_on (go_next fun F H s at_ => ⟨by omega, F, at_.1, ?_⟩)
      exact paired_any (r := [isA a, isA (a.length : Int), isA (1 + (i : Int))]) 2 at_.2
  case rest =>
    intro c2
    have e : q = a.length := by
      have := hq.le
      have := hq.pos
      omega
    refine go_ret (EE.cast (ee_var 0 (a := a) rfl rfl (.inl rfl)) ?_) hret
    rw [e, List.take_length]
end
end K01
set_option Elab.async false
set_option linter.all false
set_option maxRecDepth 100000
set_option maxHeartbeats 4000000
namespace K01
open PySem PySem.Spec PyProof.Rows L2 Wv Mw
def LeastW (w r : Wd) : Prop := ∃ c p, Least (sg w) c p ∧ r = (seg (sg w) 0 c, seg (sg w) c p)
structure Fits (w : Wd) : Prop where
  hd : w.1.length ≤ 20000
  ag : w.2.length ≤ 20000
  ne : 1 ≤ w.2.length
section
variable {P : Program} {w : World} {K : PySem.W.Frag} {mg : Str → Option Value} {base : Heap}
def R_made_least (ps : List Vp) (b : Wd) : Prop := ∃ v : Wd, ps = [vA v] ∧ Fits v ∧ LeastW v b
theorem sc_made_least : FnScope ["word", "head", "again", "many", "cut"] ["word"] (defScope s_made_least) := ⟨rfl, rfl, rfl, by decide +kernel, rfl, by decide +kernel, by decide +kernel⟩
theorem decide_one (x y : Nat) : decide (([x] : List Nat) = [y]) = decide (x = y) := decide_eq_decide.mpr ⟨fun h => by simpa using h, fun h => by rw [h]⟩
theorem ok_made_least {f : Addr} {fd : FuncData} (T : Bn mg) (G1 : Dfn P w K mg base "shortest_again" 1 R_shortest_again) (F : FnP K "made_least" s_made_least [] [] f fd) : FnOk P w K mg base CX0 2 f fd ["word"] (spF K R_made_least) := by
  refine fn_ok F sc_made_least (fun qs a h => ?_) (fun cdv A outer s H F0 E D qs r hr hR hret hnx => ?_)
  · obtain ⟨v, rfl, _⟩ := h; rfl
  obtain ⟨v, rfl, fv, c, p, hl, rfl⟩ := hR
  show Go _ F0 H D [isA v, anyS, anyS, anyS, anyS] _
  obtain ⟨c', p', hl', hc, hp⟩ := least_ex v fv.ne
  obtain ⟨rfl, rfl⟩ := hl'.uniq hl
  obtain ⟨q, q1, q2, q3, q4⟩ := short_ex fv.ne
  have eq := short_is hl hc hp q1 q2 q3 q4
  subst eq
  have hd := fv.hd
  have ag := fv.ag
  have hz1 : v.1.length ≤ 16777216 := by omega
  have tl : (v.2.take q).length = q := by rw [List.length_take]; omega
  have hz2 : (v.2.take q).length ≤ 16777216 := by omega
  refine go_par 1 2 (ee_ix (ee_var 0 (a := v) rfl rfl (.inl rfl)) (ee_int 0) (y := v.1) rfl) (ee_call G1 (hr.mono (by decide)) (ea_cons (ee_ix (ee_var 0 (a := v) rfl rfl (.inl rfl)) (ee_int 1) (y := v.2) rfl) ea_nil) ⟨v.2, q, rfl, ag, ⟨q1, q2, q3, q4⟩, rfl⟩ rfl) ?_ rfl sc_made_least.nd rfl rfl (by decide) rfl rfl
  refine go_set 3 (ee_int 0) ?_ sc_made_least.nd rfl (.inl rfl)
  show Go _ F0 H D [isA v, isA v.1, isA (v.2.take q), isA (0 : Int), anyS] _
  refine go_while (Y := Nat) (fun m => [isA v, isA v.1, isA (v.2.take q), isA (m : Int), anyS]) (fun m => m ≤ v.1.length ∧ Per (sg v) (v.1.length - m) q) (fun m => v.1.length - m) (fun m => decide ((m : Int) < (v.1.length : Int)) && decide (sg v (v.1.length - 1 - m) = sg v (v.1.length - 1 - m + q))) 0 ⟨Nat.zero_le _, hl.per.mono hc⟩ (fun K F H s h => h) (fun m hm => ?test) (fun m hm ht => ?turn) (fun m hm ht => ?rest) PassesOwn.never
  case test =>
    refine EW.et (ew_and (et_cmp (ee_var 3 (a := (m : Int)) rfl rfl (.inl rfl)) (ee_len (ee_var 1 (a := v.1) rfl rfl (.inl rfl)) hz1 T.m_len) trivial) fun h1 => ew_and1 (ET.cast (et_cmp (ee_ix (ee_var 1 (a := v.1) rfl rfl (.inl rfl)) (ee_bin (ee_bin (ee_len (ee_var 1 (a := v.1) rfl rfl (.inl rfl)) hz1 T.m_len) (ee_int 1) trivial) (ee_var 3 (a := (m : Int)) rfl rfl (.inl rfl)) trivial) (y := [sg v (v.1.length - 1 - m)]) ?_) (ee_ix (ee_var 2 (a := v.2.take q) rfl rfl (.inl rfl)) (ee_bin (ee_neg (ee_int 1)) (ee_bin (ee_var 3 (a := (m : Int)) rfl rfl (.inl rfl)) (ee_len (ee_var 2 (a := v.2.take q) rfl rfl (.inl rfl)) hz2 T.m_len) ?_) trivial) (y := [sg v (v.1.length - 1 - m + q)]) ?_) trivial) (decide_one _ _)))
    · have h1' : (m : Int) < (v.1.length : Int) := of_decide_eq_true h1
      refine ixT_pos hz1 (show (0 : Int) ≤ (v.1.length : Int) - 1 - (m : Int) by omega) ?_
      have e : ((v.1.length : Int) - 1 - (m : Int)).toNat = v.1.length - 1 - m := by omega
      show v.1[((v.1.length : Int) - 1 - (m : Int)).toNat]? = _
      rw [e]
      exact sg_head (by omega)
    · show (0 : Int) < (((v.2.take q).length : Nat) : Int)
      omega
    · have h1' : (m : Int) < (v.1.length : Int) := of_decide_eq_true h1
      have em : (m : Int) % (((v.2.take q).length : Nat) : Int) = ((m % q : Nat) : Int) := by rw [tl, ← Int.natCast_emod]
      have ml := Nat.mod_lt m q1
      show (Ix.get (v.2.take q) (-1 - (m : Int) % (((v.2.take q).length : Nat) : Int)) : Option Tx) = _
      rw [em]
      refine ixT_neg hz2 (by omega) (by rw [tl]; omega) ?_
      have e : (-1 - ((m % q : Nat) : Int) + (((v.2.take q).length : Nat) : Int)).toNat = q - 1 - m % q := by rw [tl]; omega
      rw [e]
      exact part_back q1 hp (by omega) hm.2
  case turn =>
    have ht' : (decide ((m : Int) < (v.1.length : Int)) && decide (sg v (v.1.length - 1 - m) = sg v (v.1.length - 1 - m + q))) = true := ht
    rw [Bool.and_eq_true, decide_eq_true_iff, decide_eq_true_iff] at ht'
    refine go_aug 3 (n := (m : Int)) rfl (ee_int 1) ?_ sc_made_least.nd rfl (.inl rfl)
    exact go_next fun F H s at_ => ⟨F, m + 1, ⟨by omega, (per_step (by omega) hm.2).mp ht'.2⟩, by omega, at_⟩
  case rest =>
    have ht' : (decide ((m : Int) < (v.1.length : Int)) && decide (sg v (v.1.length - 1 - m) = sg v (v.1.length - 1 - m + q))) = false := ht
    have ec : c' = v.1.length - m := by
      have h1 := hl.minC _ _ q1 hm.2
      by_cases hlt : m < v.1.length
      · rw [decide_eq_true (show (m : Int) < (v.1.length : Int) by omega), Bool.true_and, decide_eq_false_iff_not] at ht'
        by_cases h2 : v.1.length - m ≤ c'
        · omega
        · exact absurd ((per_step hlt hm.2).mpr (hl.per.mono (by omega))) ht'
      · omega
    have em : (m : Int) % (((v.2.take q).length : Nat) : Int) = ((m % q : Nat) : Int) := by rw [tl, ← Int.natCast_emod]
    have ml := Nat.mod_lt m q1
    refine go_set 4 (EE.cast (b := ((q - m % q : Nat) : Int)) (ee_bin (ee_len (ee_var 2 (a := v.2.take q) rfl rfl (.inl rfl)) hz2 T.m_len) (ee_bin (ee_var 3 (a := (m : Int)) rfl rfl (.inl rfl)) (ee_len (ee_var 2 (a := v.2.take q) rfl rfl (.inl rfl)) hz2 T.m_len) ?_) trivial) ?_) ?_ sc_made_least.nd rfl (.inl rfl)
    · show (0 : Int) < (((v.2.take q).length : Nat) : Int)
      omega
    · show (((v.2.take q).length : Nat) : Int) - (m : Int) % (((v.2.take q).length : Nat) : Int) = _
      rw [em, tl]; omega
    refine go_ret (ee_pair (ea_cons (EE.cast (b := seg (sg v) 0 c') (ee_slice (ee_var 1 (a := v.1) rfl rfl (.inl rfl)) eo_none (eo_some (ee_bin (ee_len (ee_var 1 (a := v.1) rfl rfl (.inl rfl)) hz1 T.m_len) (ee_var 3 (a := (m : Int)) rfl rfl (.inl rfl)) trivial)) hz1) ?_) (ea_cons (EE.cast (b := seg (sg v) c' q) (ee_bin (ee_slice (ee_var 2 (a := v.2.take q) rfl rfl (.inl rfl)) (eo_some (ee_var 4 (a := ((q - m % q : Nat) : Int)) rfl rfl (.inl rfl))) eo_none hz2) (ee_slice (ee_var 2 (a := v.2.take q) rfl rfl (.inl rfl)) eo_none (eo_some (ee_var 4 (a := ((q - m % q : Nat) : Int)) rfl rfl (.inl rfl))) hz2) ?_) ?_) ea_nil))) hret
    · show cutL v.1 none (some ((v.1.length : Int) - (m : Int))) = _
      rw [cut_to _ (by omega), ← head_seg hc]
      congr 1; omega
    · show (cutL (v.2.take q) (some ((q - m % q : Nat) : Int)) none).length + (cutL (v.2.take q) none (some ((q - m % q : Nat) : Int))).length ≤ 16777216
      rw [cut_from _ (by omega), cut_to _ (by omega), List.length_drop, tl, List.length_take, tl]; omega
    · show cutL (v.2.take q) (some ((q - m % q : Nat) : Int)) none ++ cutL (v.2.take q) none (some ((q - m % q : Nat) : Int)) = _
      rw [cut_from _ (by omega), cut_to _ (by omega), Int.toNat_natCast]
      exact least_rot hl hm.1 ec hp
theorem word_is {v : Wd} : isWord (ToD.toD v) = (signsOk v.1 && signsOk v.2 && !decide (v.2 = [])) := by
  show (signsOk (mkS v.1).cps.toList && signsOk (mkS v.2).cps.toList && !decide ((mkS v.2).cps.toList = [])) = _
  have e : ∀ l : List Nat, (mkS l).cps.toList = l := fun l => by show l.toArray.toList = l; simp
  rw [e, e]
structure Word01 (v : Wd) : Prop where
  s1 : signsOk v.1 = true
  s2 : signsOk v.2 = true
  ne : v.2 ≠ []
theorem signs_len {l : List Nat} (h : signsOk l = true) : l.length ≤ 20000 := by
  unfold signsOk at h
  rw [Bool.and_eq_true] at h
  exact of_decide_eq_true h.1
theorem Word01.is {v : Wd} (h : Word01 v) : isWord (ToD.toD v) = true := by
  rw [word_is, h.s1, h.s2, decide_eq_false h.ne]; rfl
theorem Word01.fits {v : Wd} (h : Word01 v) : Fits v := ⟨signs_len h.s1, signs_len h.s2, by
  cases e : v.2 with
  | nil => exact absurd e h.ne
  | cons a l => simp⟩
theorem Word01.small {v : Wd} (h : Word01 v) : smallW (ToD.toD v) := by
  have h1 := signs_len h.s1
  have h2 := signs_len h.s2
  exact ⟨by show (mkS v.1).length ≤ 16777216; rw [mkS_len]; omega, by show (mkS v.2).length ≤ 16777216; rw [mkS_len]; omega⟩
def R_least_word (ps : List Vp) (b : Wd) : Prop := ∃ v : Wd, ps = [vA v] ∧ Word01 v ∧ LeastW v b
theorem sc_least_word : FnScope ["word"] ["word"] (defScope s_least_word) := ⟨rfl, rfl, rfl, by decide +kernel, rfl, by decide +kernel, by decide +kernel⟩
theorem ok_least_word {f : Addr} {fd : FuncData} (T : Bn mg) (G1 : Dfn P w K mg base "must_be_word" 3 R_must_be_word) (G2 : Dfn P w K mg base "made_least" 2 R_made_least) (F : FnP K "least_word" s_least_word [] [] f fd) : FnOk P w K mg base CX0 4 f fd ["word"] (spF K R_least_word) := by
  refine fn_ok F sc_least_word (fun qs a h => ?_) (fun cdv A outer s H F0 E D qs r hr hR hret hnx => ?_)
  · obtain ⟨v, rfl, _⟩ := h; rfl
  obtain ⟨v, rfl, hw, hl⟩ := hR
  show Go _ F0 H D [isA v] _
  refine go_expr (ee_call G1 (hr.mono (by decide)) (ea_cons (ee_toD (ee_var 0 (a := v) rfl rfl (.inl rfl))) ea_nil) (a := ()) ⟨_, rfl, hw.small, hw.is⟩ rfl) ?_
  exact go_ret (ee_call G2 (hr.mono (by decide)) (ea_cons (ee_var 0 (a := v) rfl rfl (.inl rfl)) ea_nil) ⟨v, rfl, hw.fits, hl⟩ rfl) hret
end
end K01
set_option Elab.async false
set_option linter.all false
set_option maxRecDepth 100000
set_option maxHeartbeats 4000000
namespace K01
open PySem PySem.Spec PyProof.Rows L2 Wv Mw
abbrev s__law_draws : Stmt := topS 12
abbrev s__law_signs : Stmt := topS 13
def mask : Int := (((2 : Int) ^ (60 : Int).toNat) ^ (60 : Int).toNat) ^ (6 : Int).toNat - 1
def e18 : Int := (10 : Int) ^ (18 : Int).toNat
def e9 : Int := (10 : Int) ^ (9 : Int).toNat
theorem e9_is : e9 = 1000000000 := by decide +kernel
def pick (ns : List Int) (j : Nat) : Int := if ns.length = 0 then 0 else ns.getD (j % min 63 ns.length) 0
def great (ns : List Int) (j : Nat) : Bool := decide ((j : Int) < (ns.length : Int)) && decide (e18 ≤ pick ns j)
def cell1 (ns : List Int) (j : Nat) : Int := if great ns j = true then Builtin.bitAnd (pick ns j) mask else pick ns j
def numb (ns : List Int) (j : Nat) : Int := cell1 ns j % 2147483629 + 69621 * (j : Int)
def cellK (c : Int) : Nat → Int
  | 0 => c
  | k + 1 => cellK c k / e9
def mix1 (n : Int) (k : Nat) : Int := (n + 48271 * ((k : Int) + 1)) % 2147483629
def mix2 (n : Int) (k : Nat) : Int := (mix1 n k * mix1 n k + (k : Int)) % 2147483629
def digit (ns : List Int) (j k : Nat) : Int := if great ns j = true then cellK (cell1 ns j) k % e9 else mix2 (numb ns j) k * mix2 (numb ns j) k % 2147483587 % e9
def draws (ns : List Int) (j many : Nat) : List Int := (List.range many).map (digit ns j)
theorem draws_len (ns : List Int) (j many : Nat) : (draws ns j many).length = many := by simp [draws]
theorem digit_bd (ns : List Int) (j k : Nat) : 0 ≤ digit ns j k ∧ digit ns j k < 1000000000 := by
  have h : (0 : Int) < e9 := by rw [e9_is]; decide
  unfold digit
  split
  · exact ⟨Int.emod_nonneg _ (by omega), by have := Int.emod_lt_of_pos (cellK (cell1 ns j) k) h; rw [e9_is] at this ⊢; exact this⟩
  · exact ⟨Int.emod_nonneg _ (by omega), by have := Int.emod_lt_of_pos (mix2 (numb ns j) k * mix2 (numb ns j) k % 2147483587) h; rw [e9_is] at this ⊢; exact this⟩
theorem draws_get {ns : List Int} {j many i : Nat} (h : i < many) : (draws ns j many)[i]? = some (digit ns j i) := by simp [draws, h]
theorem draws_succ (ns : List Int) (j i : Nat) : draws ns j (i + 1) = draws ns j i ++ [digit ns j i] := by
  unfold draws; rw [List.range_succ, List.map_append]; rfl
theorem draws_bd {ns : List Int} {j many : Nat} {d : Int} (h : d ∈ draws ns j many) : 0 ≤ d ∧ d < 1000000000 := by
  obtain ⟨k, _, rfl⟩ := List.mem_map.mp h
  exact digit_bd ns j k
theorem mix_bd (n : Int) (k : Nat) : 0 ≤ mix1 n k ∧ mix1 n k < 2147483629 ∧ 0 ≤ mix2 n k ∧ mix2 n k < 2147483629 := by
  unfold mix2 mix1; omega
section
variable {P : Program} {w : World} {K : PySem.W.Frag} {mg : Str → Option Value} {base : Heap}
def R__law_draws (ps : List Vp) (b : List Int) : Prop := ∃ (ns : List Int) (j many : Nat), ps = [vA ns, vA (j : Int), vA (many : Int)] ∧ ns.length ≤ 63 ∧ j ≤ 1000 ∧ many ≤ 100 ∧ b = draws ns j many
theorem sc__law_draws : FnScope ["_law_script", "_law_j", "_law_many", "_law_cell", "_law_great", "_law_number", "_law_found", "_law_k", "_law_mixed"] ["_law_script", "_law_j", "_law_many"] (defScope s__law_draws) := ⟨rfl, rfl, rfl, by decide +kernel, rfl, by decide +kernel, by decide +kernel⟩
theorem ok__law_draws {f : Addr} {fd : FuncData} (T : Bn mg) (F : FnP K "_law_draws" s__law_draws [] [] f fd) : FnOk P w K mg base CX0 1 f fd ["_law_script", "_law_j", "_law_many"] (spF K R__law_draws) := by
  refine fn_ok F sc__law_draws (fun qs a h => ?_) (fun cdv A outer s H F0 E D qs a hr hR hret hnx => ?_)
  · obtain ⟨ns, j, many, rfl, _⟩ := h; rfl
  obtain ⟨ns, j, many, rfl, h63, hj, hm, rfl⟩ := hR
  show Go _ F0 H D [isA ns, isA (j : Int), isA (many : Int), anyS, anyS, anyS, anyS, anyS, anyS] _
  have e9p : (0 : Int) < e9 := by rw [e9_is]; decide
  refine go_set 3 (ee_int 0) ?_ sc__law_draws.nd rfl (.inl rfl)
  refine go_ifJ [isA ns, isA (j : Int), isA (many : Int), isA (pick ns j), anyS, anyS, anyS, anyS, anyS] (et_cmp (ee_len (ee_var 0 (a := ns) rfl rfl (.inl rfl)) trivial T.m_len) (ee_int 0) trivial) (fun hc => ?yes) (fun hc => ?no) ?rest
  case yes =>
    have hc' : (0 : Int) < (ns.length : Int) := of_decide_eq_true hc
    have hmin : (0 : Int) < min 63 (ns.length : Int) := by omega
    have hp : pick ns j = ns.getD (j % min 63 ns.length) 0 := by unfold pick; rw [if_neg (by omega)]
    refine go_set 3 (ee_ix (ee_var 0 (a := ns) rfl rfl (.inl rfl)) (ee_bin (ee_var 1 (a := (j : Int)) rfl rfl (.inl rfl)) (ee_min (ee_int 63) (ee_len (ee_var 0 (a := ns) rfl rfl (.inl rfl)) trivial T.m_len) T.m_min rfl) hmin) (y := pick ns j) ?_) ?_ sc__law_draws.nd rfl (.inl rfl)
    · have em : (j : Int) % min 63 (ns.length : Int) = ((j % min 63 ns.length : Nat) : Int) := by
        have e1 : min 63 (ns.length : Int) = ((min 63 ns.length : Nat) : Int) := by omega
        rw [e1, ← Int.natCast_emod]
      show atI ns ((j : Int) % min 63 (ns.length : Int)) = _
      rw [em]
      refine at_pos (by omega) ?_
      rw [Int.toNat_natCast, hp]
      have hlt : j % min 63 ns.length < ns.length := by
        have := Nat.mod_lt j (show 0 < min 63 ns.length by omega)
        omega
      rw [List.getD_eq_getElem?_getD, List.getElem?_eq_getElem hlt]; rfl
    · exact go_join fun K F H s h => h
  case no =>
    have hc' : ¬ (0 : Int) < (ns.length : Int) := of_decide_eq_false hc
    have hp : pick ns j = 0 := by unfold pick; rw [if_pos (by omega)]
    refine go_join fun K F H s h => ?_
    rw [hp]; exact h
  case rest =>
  refine go_set 4 (EE.cast (b := great ns j) (ee_and (ee_cmp (ee_var 1 (a := (j : Int)) rfl rfl (.inl rfl)) (ee_len (ee_var 0 (a := ns) rfl rfl (.inl rfl)) trivial T.m_len) trivial) fun h1 => (ee_one (ee_cmp (ee_var 3 (a := pick ns j) rfl rfl (.inl rfl)) (EE.cast (b := e18) (ee_bin (ee_int 10) (ee_int 18) (show CPowX 10 18 by decide +kernel)) rfl) trivial))) rfl) ?_ sc__law_draws.nd rfl (.inl rfl)
  refine go_ifJ [isA ns, isA (j : Int), isA (many : Int), isA (cell1 ns j), isA (great ns j), anyS, anyS, anyS, anyS] (et_val (ee_var 4 (a := great ns j) rfl rfl (.inl rfl))) (fun hc => ?yes) (fun hc => ?no) ?rest
  case yes =>
    refine go_set 3 (EE.cast (b := cell1 ns j) (ee_bin (ee_var 3 (a := pick ns j) rfl rfl (.inl rfl)) (EE.cast (b := mask) (ee_bin (ee_bin (ee_bin (ee_bin (ee_int 2) (ee_int 60) (show CPowX 2 60 by decide +kernel)) (ee_int 60) (show CPowX ((2 : Int) ^ (60 : Int).toNat) 60 by decide +kernel)) (ee_int 6) (show CPowX (((2 : Int) ^ (60 : Int).toNat) ^ (60 : Int).toNat) 6 by decide +kernel)) (ee_int 1) trivial) rfl) trivial) ?_) ?_ sc__law_draws.nd rfl (.inl rfl)
    · unfold cell1; rw [if_pos hc]; rfl
    · exact go_join fun K F H s h => h
  case no =>
    have e : cell1 ns j = pick ns j := by unfold cell1; rw [if_neg (by rw [hc]; decide)]
    refine go_join fun K F H s h => ?_
    rw [e]; exact h
  case rest =>
  refine go_set 5 (EE.cast (b := numb ns j) (ee_bin (ee_bin (ee_var 3 (a := cell1 ns j) rfl rfl (.inl rfl)) (ee_int 2147483629) (show (0 : Int) < 2147483629 by decide)) (ee_bin (ee_int 69621) (ee_var 1 (a := (j : Int)) rfl rfl (.inl rfl)) (Or.inl ⟨by decide, by decide⟩)) trivial) rfl) ?_ sc__law_draws.nd rfl (.inl rfl)
  refine go_new (α := Int) 6 (fun p0 hp0 => ?_) sc__law_draws.nd rfl (.inl rfl)
  show Go _ F0 H D [isA ns, isA (j : Int), isA (many : Int), isA (cell1 ns j), isA (great ns j), isA (numb ns j), ownL p0 ([] : List Int), anyS, anyS] _
  refine go_range1 7 (fun i => [isA ns, isA (j : Int), isA (many : Int), isA (if great ns j = true then cellK (cell1 ns j) i else cell1 ns j), isA (great ns j), isA (numb ns j), ownL p0 (draws ns j i), anyS, anyS]) (fun _ => True) (ee_var 2 (a := (many : Int)) rfl rfl (.inl rfl)) (by omega) trivial (fun K F H s h => ?_) (fun i _ hi => ?turn) (fun _ => ?rest) T.m_range PassesOwn.never rfl sc__law_draws.nd rfl (.inl rfl)
  · have e : (if great ns j = true then cellK (cell1 ns j) 0 else cell1 ns j) = cell1 ns j := by split <;> rfl
    show Slots K F H s [isA ns, isA (j : Int), isA (many : Int), isA (if great ns j = true then cellK (cell1 ns j) 0 else cell1 ns j), isA (great ns j), isA (numb ns j), ownL p0 (draws ns j 0), anyS, anyS]
    rw [e]; exact h
  case turn =>
    have hl : (draws ns j i).length < 16777216 := by rw [draws_len]; omega
    have off : ∀ c : Int, Off p0 [isA ns, isA (j : Int), isA (many : Int), isA c, isA (great ns j), isA (numb ns j), anyS, isA (i : Int), anyS] := fun c => off_cons off_isA (off_cons off_isA (off_cons off_isA (off_cons off_isA (off_cons off_isA (off_cons off_isA (off_cons off_any (off_cons off_isA (off_cons off_any off_nil))))))))
    have off2 : ∀ c d : Int, Off p0 [isA ns, isA (j : Int), isA (many : Int), isA c, isA (great ns j), isA (numb ns j), anyS, isA (i : Int), isA d] := fun c d => off_cons off_isA (off_cons off_isA (off_cons off_isA (off_cons off_isA (off_cons off_isA (off_cons off_isA (off_cons off_any (off_cons off_isA (off_cons off_isA off_nil))))))))
    show Go _ F0 H _ [isA ns, isA (j : Int), isA (many : Int), isA (if great ns j = true then cellK (cell1 ns j) i else cell1 ns j), isA (great ns j), isA (numb ns j), ownL p0 (draws ns j i), isA (i : Int), anyS] _
    refine go_if (et_val (ee_var 4 (a := great ns j) rfl rfl (.inl rfl))) (fun hc => ?yes) (fun hc => ?no)
    case yes =>
      rw [show (if great ns j = true then cellK (cell1 ns j) i else cell1 ns j) = cellK (cell1 ns j) i from if_pos hc]
      refine go_app 6 (a := digit ns j i) rfl (EE.cast (ee_bin (ee_var 3 (a := cellK (cell1 ns j) i) rfl rfl (.inl rfl)) (EE.cast (b := e9) (ee_bin (ee_int 10) (ee_int 9) (show CPowX 10 9 by decide +kernel)) rfl) e9p) ?_) hp0 (off _) hl ?_ rfl (.inl rfl)
      · unfold digit; rw [if_pos hc]; rfl
      refine go_set 3 (EE.cast (b := cellK (cell1 ns j) (i + 1)) (ee_bin (ee_var 3 (a := cellK (cell1 ns j) i) rfl rfl (.inl rfl)) (EE.cast (b := e9) (ee_bin (ee_int 10) (ee_int 9) (show CPowX 10 9 by decide +kernel)) rfl) (show (0 : Int) < e9 ∧ e9 < 1073741824 by rw [e9_is]; decide)) rfl) ?_ sc__law_draws.nd rfl (.inl rfl)
      refine go_on (go_next fun F H s a => ⟨trivial, F, a.1, ?_⟩)
      show Slots K F H s [isA ns, isA (j : Int), isA (many : Int), isA (if great ns j = true then cellK (cell1 ns j) (i + 1) else cell1 ns j), isA (great ns j), isA (numb ns j), ownL p0 (draws ns j (i + 1)), anyS, anyS]
      rw [if_pos hc, draws_succ]
      exact paired_any (r := [isA ns, isA (j : Int), isA (many : Int), isA (cellK (cell1 ns j) (i + 1)), isA (great ns j), isA (numb ns j), ownL p0 (draws ns j i ++ [digit ns j i]), isA (i : Int), anyS]) 7 a.2
    case no =>
      have hg : ¬ great ns j = true := by rw [hc]; decide
      rw [show (if great ns j = true then cellK (cell1 ns j) i else cell1 ns j) = cell1 ns j from if_neg hg]
      obtain ⟨b1, b2, b3, b4⟩ := mix_bd (numb ns j) i
      refine go_set 8 (EE.cast (b := mix1 (numb ns j) i) (ee_bin (ee_bin (ee_var 5 (a := numb ns j) rfl rfl (.inl rfl)) (ee_bin (ee_int 48271) (ee_bin (ee_var 7 (a := (i : Int)) rfl rfl (.inl rfl)) (ee_int 1) trivial) (Or.inl ⟨by decide, by decide⟩)) trivial) (ee_int 2147483629) (show (0 : Int) < 2147483629 by decide)) rfl) ?_ sc__law_draws.nd rfl (.inl rfl)
      refine go_set 8 (EE.cast (b := mix2 (numb ns j) i) (ee_bin (ee_bin (ee_bin (ee_var 8 (a := mix1 (numb ns j) i) rfl rfl (.inl rfl)) (ee_var 8 (a := mix1 (numb ns j) i) rfl rfl (.inl rfl)) (Or.inl ⟨by omega, by omega⟩)) (ee_var 7 (a := (i : Int)) rfl rfl (.inl rfl)) trivial) (ee_int 2147483629) (show (0 : Int) < 2147483629 by decide)) rfl) ?_ sc__law_draws.nd rfl (.inl rfl)
      refine go_app 6 (a := digit ns j i) rfl (EE.cast (ee_bin (ee_bin (ee_bin (ee_var 8 (a := mix2 (numb ns j) i) rfl rfl (.inl rfl)) (ee_var 8 (a := mix2 (numb ns j) i) rfl rfl (.inl rfl)) (Or.inl ⟨by omega, by omega⟩)) (ee_int 2147483587) (show (0 : Int) < 2147483587 by decide)) (EE.cast (b := e9) (ee_bin (ee_int 10) (ee_int 9) (show CPowX 10 9 by decide +kernel)) rfl) e9p) ?_) hp0 (off2 _ _) hl ?_ rfl (.inl rfl)
      · unfold digit; rw [if_neg hg]; rfl
      refine go_on (go_next fun F H s a => ⟨trivial, F, a.1, ?_⟩)
      show Slots K F H s [isA ns, isA (j : Int), isA (many : Int), isA (if great ns j = true then cellK (cell1 ns j) (i + 1) else cell1 ns j), isA (great ns j), isA (numb ns j), ownL p0 (draws ns j (i + 1)), anyS, anyS]
      rw [if_neg hg, draws_succ]
      exact paired_any (r := [isA ns, isA (j : Int), isA (many : Int), isA (cell1 ns j), isA (great ns j), isA (numb ns j), ownL p0 (draws ns j i ++ [digit ns j i]), anyS, isA (mix2 (numb ns j) i)]) 8 (paired_any (r := [isA ns, isA (j : Int), isA (many : Int), isA (cell1 ns j), isA (great ns j), isA (numb ns j), ownL p0 (draws ns j i ++ [digit ns j i]), isA (i : Int), isA (mix2 (numb ns j) i)]) 7 a.2)
  case rest =>
    rw [Int.toNat_natCast]
    refine go_freeze 6 (as := draws ns j many) (p := p0) rfl hp0 (off_cons off_isA (off_cons off_isA (off_cons off_isA (off_cons off_isA (off_cons off_isA (off_cons off_isA (off_cons off_any (off_cons off_any (off_cons off_any off_nil))))))))) ?_
    exact go_ret (ee_var 6 (a := draws ns j many) rfl rfl (.inl rfl)) hret
end
end K01
set_option Elab.async false
set_option linter.all false
set_option maxRecDepth 100000
set_option maxHeartbeats 4000000
namespace K01
open PySem PySem.Spec PyProof.Rows L2 Wv Mw
abbrev s__law_word : Stmt := topS 14
abbrev s__law_text : Stmt := topS 15
abbrev s__law_tells : Stmt := topS 16
abbrev s__law_least : Stmt := topS 17
theorem joinL_nil : ∀ ls : List (List Nat), TL.joinL [] ls = ls.flatten
  | [] => rfl
  | [p] => by simp [TL.joinL]
  | p :: q :: r => by
    show p ++ ([] ++ TL.joinL [] (q :: r)) = _
    rw [joinL_nil (q :: r)]; simp
theorem tJoin_nil (ls : List (List Nat)) : tJoin [] ls = ls.flatten := by
  unfold tJoin
  rw [TL.join_eq]
  have h := TL.tl_join (mkS []) (ls.map mkS)
  have e : (ls.map mkS).map TL.tl = ls := by
    rw [List.map_map]
    conv => rhs; rw [← List.map_id ls]
    apply List.map_congr_left
    intro l _
    show l.toArray.toList = l
    simp
  rw [e] at h
  show TL.tl (Str.join (mkS []) (ls.map mkS)) = _
  rw [h]
  exact joinL_nil ls
def sgn (d : Int) : Nat := if d / 7 % 2 = 0 then 48 else 49
theorem sgn_ok (d : Int) : sgn d = 48 ∨ sgn d = 49 := by unfold sgn; split <;> simp
theorem flat_one (ds : List Int) : (ds.map fun d => [sgn d]).flatten = ds.map sgn := by
  induction ds with
  | nil => rfl
  | cons a l ih => rw [List.map_cons, List.flatten_cons, ih]; rfl
theorem sum_one (ds : List Int) : ((ds.map fun d => [sgn d]).map (·.length)).sum = ds.length := by
  induction ds with
  | nil => rfl
  | cons a l ih => rw [List.map_cons, List.map_cons, List.sum_cons, ih, List.length_cons]; simp; omega
section
variable {P : Program} {w : World} {K : PySem.W.Frag} {mg : Str → Option Value} {base : Heap}
def R__law_signs (ps : List Vp) (b : List Nat) : Prop := ∃ (ds : List Int) (many : Nat), ps = [vA ds, vA (many : Int)] ∧ ds.length ≤ 100 ∧ b = (ds.take many).map sgn
theorem sc__law_signs : FnScope ["_law_digits", "_law_many", "_law_digit"] ["_law_digits", "_law_many"] (defScope s__law_signs) := ⟨rfl, rfl, rfl, by decide +kernel, rfl, by decide +kernel, by decide +kernel⟩
theorem ok__law_signs {f : Addr} {fd : FuncData} (T : Bn mg) (F : FnP K "_law_signs" s__law_signs [] [] f fd) : FnOk P w K mg base CX0 1 f fd ["_law_digits", "_law_many"] (spF K R__law_signs) := by
  refine fn_ok F sc__law_signs (fun qs a h => ?_) (fun cdv A outer s H F0 E D qs a hr hR hret hnx => ?_)
  · obtain ⟨ds, many, rfl, _⟩ := h; rfl
  obtain ⟨ds, many, rfl, hl, rfl⟩ := hR
  show Go _ F0 H D [isA ds, isA (many : Int), anyS] _
  have ecut : cutL ds none (some (many : Int)) = ds.take many := by rw [cut_to _ (by omega), Int.toNat_natCast]
  have hlen : (ds.take many).length ≤ 100 := by rw [List.length_take]; omega
  refine go_ret (EE.cast (ee_join (ee_str []) (EE.cast (b := (ds.take many).map fun d => [sgn d]) (ee_lc (β := List Nat) 2 (fun d => [sgn d]) (EE.cast (b := ds.take many) (ee_slice (ee_var 0 (a := ds) rfl rfl (.inl rfl)) eo_none (eo_some (ee_var 1 (a := (many : Int)) rfl rfl (.inl rfl))) trivial) ecut) (by omega) (fun z a ha => ?elt) rfl sc__law_signs.nd (blkOk_by (N := ["_law_digits", "_law_many", "_law_digit"]) (sc := defScope s__law_signs) (by decide +kernel)) (fun z => pg_name sc__law_signs.nd rfl (.inl rfl))) rfl) ?_) ?_) hret
  case elt =>
    refine ee_ix (ee_str [48, 49]) (ee_bin (ee_bin (ee_var 2 (a := a) rfl rfl (.inl rfl)) (ee_int 7) (show (0 : Int) < 7 ∧ (7 : Int) < 1073741824 by decide)) (ee_int 2) (show (0 : Int) < 2 by decide)) ?_
    show (Ix.get ([48, 49] : List Nat) (a / 7 % 2) : Option (List Nat)) = some [sgn a]
    have h : a / 7 % 2 = 0 ∨ a / 7 % 2 = 1 := by omega
    unfold sgn
    rcases h with h | h
    · rw [h]; rfl
    · rw [h]; rfl
  · rw [sum_one]; simp; omega
  · rw [tJoin_nil, flat_one]
def wWay (ns : List Int) (j : Nat) : Int := digit ns j 29 % 6
def wMany (ns : List Int) (j : Nat) : Int := digit ns j 27 % (if wWay ns j % 2 = 0 then 4 else 13)
def wSize (ns : List Int) (j : Nat) : Int := 1 + digit ns j 28 % (if wWay ns j / 2 % 2 = 0 then 4 else 13)
def wFront (ns : List Int) (j : Nat) : List Nat := ((draws ns j 30).take (wMany ns j).toNat).map sgn
def wAg0 (ns : List Int) (j : Nat) : List Nat := (((draws ns j 30).drop 13).take (wSize ns j).toNat).map sgn
def wAg1 (ns : List Int) (j : Nat) : List Nat := if wWay ns j = 4 then (List.replicate (wSize ns j).toNat [48]).flatten else wAg0 ns j
def wAg (ns : List Int) (j : Nat) : List Nat := if wWay ns j = 5 then wAg1 ns j ++ wAg1 ns j else wAg1 ns j
def lword (ns : List Int) (j : Nat) : Wd := (wFront ns j, wAg ns j)
theorem wMany_bd (ns : List Int) (j : Nat) : 0 ≤ wMany ns j ∧ wMany ns j ≤ 12 := by unfold wMany; split <;> omega
theorem wSize_bd (ns : List Int) (j : Nat) : 1 ≤ wSize ns j ∧ wSize ns j ≤ 13 := by unfold wSize; split <;> omega
theorem wWay_bd (ns : List Int) (j : Nat) : 0 ≤ wWay ns j ∧ wWay ns j < 6 := by unfold wWay; omega
theorem rep48_len (n : Nat) : ((List.replicate n [48]).flatten : List Nat).length = n := by rw [rep_len]; simp
theorem wAg1_len (ns : List Int) (j : Nat) : (wAg1 ns j).length = (wSize ns j).toNat := by
  have := wSize_bd ns j
  unfold wAg1 wAg0
  split
  · rw [rep48_len]
  · rw [List.length_map, List.length_take, List.length_drop, draws_len]; omega
structure LW (v : Wd) : Prop where
  h12 : v.1.length ≤ 12
  a26 : v.2.length ≤ 26
  a1 : 1 ≤ v.2.length
  s1 : ∀ c ∈ v.1, c = 48 ∨ c = 49
  s2 : ∀ c ∈ v.2, c = 48 ∨ c = 49
theorem rep48_mem {n c : Nat} (h : c ∈ ((List.replicate n [48]).flatten : List Nat)) : c = 48 := by
  rw [List.mem_flatten] at h
  obtain ⟨l, h1, h2⟩ := h
  have := List.eq_of_mem_replicate h1
  subst this
  simpa using h2
theorem lword_lw (ns : List Int) (j : Nat) : LW (lword ns j) := by
  have h1 := wSize_bd ns j
  have h2 := wMany_bd ns j
  have h3 := wAg1_len ns j
  have sg1 : ∀ c ∈ wAg1 ns j, c = 48 ∨ c = 49 := by
    unfold wAg1
    split
    · intro c hc
      exact .inl (rep48_mem hc)
    · intro c hc
      obtain ⟨d, _, rfl⟩ := List.mem_map.mp hc
      exact sgn_ok d
  refine ⟨?_, ?_, ?_, ?_, ?_⟩
  · show (wFront ns j).length ≤ 12
    unfold wFront; rw [List.length_map, List.length_take, draws_len]; omega
  · show (wAg ns j).length ≤ 26
    unfold wAg; split
    · rw [List.length_append]; omega
    · omega
  · show 1 ≤ (wAg ns j).length
    unfold wAg; split
    · rw [List.length_append]; omega
    · omega
  · intro c hc
    obtain ⟨d, _, rfl⟩ := List.mem_map.mp (show c ∈ wFront ns j from hc)
    exact sgn_ok d
  · show ∀ c ∈ wAg ns j, _
    unfold wAg
    split
    · intro c hc
      rcases List.mem_append.mp hc with h | h
      · exact sg1 c h
      · exact sg1 c h
    · exact sg1
def R__law_word (ps : List Vp) (b : Wd) : Prop := ∃ (ns : List Int) (j : Nat), ps = [vA ns, vA (j : Int)] ∧ ns.length ≤ 63 ∧ j ≤ 1000 ∧ b = lword ns j
theorem sc__law_word : FnScope ["_law_script", "_law_j", "_law_digits", "_law_way", "_law_many", "_law_size", "_law_front", "_law_again"] ["_law_script", "_law_j"] (defScope s__law_word) := ⟨rfl, rfl, rfl, by decide +kernel, rfl, by decide +kernel, by decide +kernel⟩
theorem ok__law_word {f : Addr} {fd : FuncData} (T : Bn mg) (G1 : Dfn P w K mg base "_law_draws" 1 R__law_draws) (G2 : Dfn P w K mg base "_law_signs" 1 R__law_signs) (F : FnP K "_law_word" s__law_word [] [] f fd) : FnOk P w K mg base CX0 2 f fd ["_law_script", "_law_j"] (spF K R__law_word) := by
  refine fn_ok F sc__law_word (fun qs a h => ?_) (fun cdv A outer s H F0 E D qs a hr hR hret hnx => ?_)
  · obtain ⟨ns, j, rfl, _⟩ := h; rfl
  obtain ⟨ns, j, rfl, h63, hj, rfl⟩ := hR
  show Go _ F0 H D [isA ns, isA (j : Int), anyS, anyS, anyS, anyS, anyS, anyS] _
  have b1 := wMany_bd ns j
  have b2 := wSize_bd ns j
  have b3 := wWay_bd ns j
  have at_ : ∀ i : Nat, i < 30 → atI (draws ns j 30) (i : Int) = some (digit ns j i) := fun i hi => at_pos (by omega) (by rw [Int.toNat_natCast]; exact draws_get hi)
  have tab : ∀ x : Int, (x = 0 ∨ x = 1) → atI ([4, 13] : List Int) x = some (if x = 0 then 4 else 13) := fun x hx => by
    rcases hx with rfl | rfl <;> rfl
  refine go_set 2 (ee_call G1 (hr.mono (by decide)) (ea_cons (ee_var 0 (a := ns) rfl rfl (.inl rfl)) (ea_cons (ee_var 1 (a := (j : Int)) rfl rfl (.inl rfl)) (ea_cons (ee_int 30) ea_nil))) (a := draws ns j 30) ⟨ns, j, 30, rfl, h63, hj, by decide, rfl⟩ rfl) ?_ sc__law_word.nd rfl (.inl rfl)
  refine go_set 3 (EE.cast (b := wWay ns j) (ee_bin (ee_ix (ee_var 2 (a := draws ns j 30) rfl rfl (.inl rfl)) (ee_int 29) (y := digit ns j 29) (at_ 29 (by decide))) (ee_int 6) (show (0 : Int) < 6 by decide)) rfl) ?_ sc__law_word.nd rfl (.inl rfl)
  refine go_set 4 (EE.cast (b := wMany ns j) (ee_bin (ee_ix (ee_var 2 (a := draws ns j 30) rfl rfl (.inl rfl)) (ee_int 27) (y := digit ns j 27) (at_ 27 (by decide))) (ee_ix (ee_list (xs := ([4, 13] : List Int)) (ea_cons (ee_int 4) (ea_cons (ee_int 13) ea_nil)) rfl (by decide)) (ee_bin (ee_var 3 (a := wWay ns j) rfl rfl (.inl rfl)) (ee_int 2) (show (0 : Int) < 2 by decide)) (tab (wWay ns j % 2) (by omega))) ?_) rfl) ?_ sc__law_word.nd rfl (.inl rfl)
  · show (0 : Int) < if wWay ns j % 2 = 0 then 4 else 13
    split <;> omega
  refine go_set 5 (EE.cast (b := wSize ns j) (ee_bin (ee_int 1) (ee_bin (ee_ix (ee_var 2 (a := draws ns j 30) rfl rfl (.inl rfl)) (ee_int 28) (y := digit ns j 28) (at_ 28 (by decide))) (ee_ix (ee_list (xs := ([4, 13] : List Int)) (ea_cons (ee_int 4) (ea_cons (ee_int 13) ea_nil)) rfl (by decide)) (ee_bin (ee_bin (ee_var 3 (a := wWay ns j) rfl rfl (.inl rfl)) (ee_int 2) (show (0 : Int) < 2 ∧ (2 : Int) < 1073741824 by decide)) (ee_int 2) (show (0 : Int) < 2 by decide)) (tab (wWay ns j / 2 % 2) (by omega))) ?_) trivial) rfl) ?_ sc__law_word.nd rfl (.inl rfl)
  · show (0 : Int) < if wWay ns j / 2 % 2 = 0 then 4 else 13
    split <;> omega
  have em : ((wMany ns j).toNat : Int) = wMany ns j := Int.toNat_of_nonneg b1.1
  have es : ((wSize ns j).toNat : Int) = wSize ns j := Int.toNat_of_nonneg (by omega)
  refine go_par 6 7 (ee_call G2 (hr.mono (by decide)) (ea_cons (ee_var 2 (a := draws ns j 30) rfl rfl (.inl rfl)) (ea_cons (ee_var 4 (a := wMany ns j) rfl rfl (.inl rfl)) ea_nil)) (a := wFront ns j) ⟨draws ns j 30, (wMany ns j).toNat, by rw [em], by rw [draws_len]; decide, rfl⟩ rfl) (ee_call G2 (hr.mono (by decide)) (ea_cons (EE.cast (b := (draws ns j 30).drop 13) (ee_slice (ee_var 2 (a := draws ns j 30) rfl rfl (.inl rfl)) (eo_some (ee_int 13)) eo_none trivial) (cut_from _ (by decide))) (ea_cons (ee_var 5 (a := wSize ns j) rfl rfl (.inl rfl)) ea_nil)) (a := wAg0 ns j) ⟨(draws ns j 30).drop 13, (wSize ns j).toNat, by rw [es], by rw [List.length_drop, draws_len]; decide, rfl⟩ rfl) ?_ rfl sc__law_word.nd rfl rfl (by decide) rfl rfl
  show Go _ F0 H D [isA ns, isA (j : Int), isA (draws ns j 30), isA (wWay ns j), isA (wMany ns j), isA (wSize ns j), isA (wFront ns j), isA (wAg0 ns j)] _
  refine go_ifJ [isA ns, isA (j : Int), isA (draws ns j 30), isA (wWay ns j), isA (wMany ns j), isA (wSize ns j), isA (wFront ns j), isA (wAg1 ns j)] (et_cmp (ee_var 3 (a := wWay ns j) rfl rfl (.inl rfl)) (ee_int 4) trivial) (fun hc => ?yes) (fun hc => ?no) ?rest
  case yes =>
    have hc' : wWay ns j = 4 := of_decide_eq_true hc
    refine go_set 7 (EE.cast (b := wAg1 ns j) (ee_bin (ee_str [48]) (ee_var 5 (a := wSize ns j) rfl rfl (.inl rfl)) ?_) ?_) ?_ sc__law_word.nd rfl (.inl rfl)
    · show -1000000000 < wSize ns j ∧ wSize ns j < 1000000000 ∧ 1 * (wSize ns j).toNat ≤ 16777216
      omega
    · unfold wAg1; rw [if_pos hc']; rfl
    · exact go_join fun K F H s h => h
  case no =>
    have hc' : ¬ wWay ns j = 4 := of_decide_eq_false hc
    refine go_join fun K F H s h => ?_
    have e : wAg1 ns j = wAg0 ns j := by unfold wAg1; rw [if_neg hc']
    rw [e]; exact h
  case rest =>
  have hl1 := wAg1_len ns j
  refine go_ifJ [isA ns, isA (j : Int), isA (draws ns j 30), isA (wWay ns j), isA (wMany ns j), isA (wSize ns j), isA (wFront ns j), isA (wAg ns j)] (et_cmp (ee_var 3 (a := wWay ns j) rfl rfl (.inl rfl)) (ee_int 5) trivial) (fun hc => ?yes) (fun hc => ?no) ?rest
  case yes =>
    have hc' : wWay ns j = 5 := of_decide_eq_true hc
    refine go_set 7 (EE.cast (b := wAg ns j) (ee_bin (ee_var 7 (a := wAg1 ns j) rfl rfl (.inl rfl)) (ee_var 7 (a := wAg1 ns j) rfl rfl (.inl rfl)) ?_) ?_) ?_ sc__law_word.nd rfl (.inl rfl)
    · show (wAg1 ns j).length + (wAg1 ns j).length ≤ 16777216
      omega
    · unfold wAg; rw [if_pos hc']; rfl
    · exact go_join fun K F H s h => h
  case no =>
    have hc' : ¬ wWay ns j = 5 := of_decide_eq_false hc
    refine go_join fun K F H s h => ?_
    have e : wAg ns j = wAg1 ns j := by unfold wAg; rw [if_neg hc']
    rw [e]; exact h
  case rest =>
  exact go_ret (ee_pair (ea_cons (ee_var 6 (a := wFront ns j) rfl rfl (.inl rfl)) (ea_cons (ee_var 7 (a := wAg ns j) rfl rfl (.inl rfl)) ea_nil))) hret
def R__law_text (ps : List Vp) (b : List Nat) : Prop := ∃ (v : Wd) (n : Nat), ps = [vA v, vA (n : Int)] ∧ Fits v ∧ n ≤ 2000 ∧ b = seg (sg v) 0 n
theorem sc__law_text : FnScope ["_law_word_here", "_law_many", "_law_front", "_law_again"] ["_law_word_here", "_law_many"] (defScope s__law_text) := ⟨rfl, rfl, rfl, by decide +kernel, rfl, by decide +kernel, by decide +kernel⟩
theorem ok__law_text {f : Addr} {fd : FuncData} (T : Bn mg) (F : FnP K "_law_text" s__law_text [] [] f fd) : FnOk P w K mg base CX0 1 f fd ["_law_word_here", "_law_many"] (spF K R__law_text) := by
  refine fn_ok F sc__law_text (fun qs a h => ?_) (fun cdv A outer s H F0 E D qs a hr hR hret hnx => ?_)
  · obtain ⟨v, n, rfl, _⟩ := h; rfl
  obtain ⟨v, n, rfl, fv, hn, rfl⟩ := hR
  show Go _ F0 H D [isA v, isA (n : Int), anyS, anyS] _
  have hd := fv.hd
  have ag := fv.ag
  have ne := fv.ne
  have hz2 : v.2.length ≤ 16777216 := by omega
  have edv : (n : Int) / (v.2.length : Int) + 1 = ((n / v.2.length + 1 : Nat) : Int) := by
    rw [← Int.natCast_ediv]; rfl
  have hq : n / v.2.length * v.2.length ≤ n := Nat.div_mul_le_self _ _
  have hql : n / v.2.length ≤ n := Nat.div_le_self _ _
  refine go_two 2 3 (ee_var 0 (a := v) rfl rfl (.inl rfl)) ?_ rfl sc__law_text.nd rfl rfl (.inl rfl) (.inl rfl)
  have hprod : v.2.length * (n / v.2.length + 1) ≤ 22000 := by rw [Nat.mul_comm, Nat.succ_mul]; omega
  refine go_ret (EE.cast (ee_slice (ee_bin (ee_var 2 (a := v.1) rfl rfl (.inl rfl)) (EE.cast (b := (List.replicate (n / v.2.length + 1) v.2).flatten) (ee_bin (ee_var 3 (a := v.2) rfl rfl (.inl rfl)) (EE.cast (b := ((n / v.2.length + 1 : Nat) : Int)) (ee_bin (ee_bin (ee_var 1 (a := (n : Int)) rfl rfl (.inl rfl)) (ee_len (ee_var 3 (a := v.2) rfl rfl (.inl rfl)) hz2 T.m_len) ?_) (ee_int 1) trivial) edv) ?_) rfl) ?_) eo_none (eo_some (ee_var 1 (a := (n : Int)) rfl rfl (.inl rfl))) ?_) ?_) hret
  · show (0 : Int) < (v.2.length : Int) ∧ (v.2.length : Int) < 1073741824
    omega
  · show -1000000000 < ((n / v.2.length + 1 : Nat) : Int) ∧ ((n / v.2.length + 1 : Nat) : Int) < 1000000000 ∧ v.2.length * ((n / v.2.length + 1 : Nat) : Int).toNat ≤ 16777216
    rw [Int.toNat_natCast]
    generalize n / v.2.length = k at hprod hql
    omega
  · show v.1.length + ((List.replicate (n / v.2.length + 1) v.2).flatten).length ≤ 16777216
    rw [rep_len, Nat.mul_comm]; omega
  · show (v.1 ++ (List.replicate (n / v.2.length + 1) v.2).flatten).length ≤ 16777216
    rw [List.length_append, rep_len, Nat.mul_comm]; omega
  · show cutL (v.1 ++ (List.replicate (n / v.2.length + 1) v.2).flatten) none (some (n : Int)) = _
    rw [cut_to _ (by omega), Int.toNat_natCast, text_seg ne]
end
end K01
set_option Elab.async false
set_option linter.all false
set_option maxRecDepth 100000
set_option maxHeartbeats 4000000
namespace K01
open PySem PySem.Spec PyProof.Rows L2 Wv Mw
section
variable {P : Program} {w : World} {K : PySem.W.Frag} {mg : Str → Option Value} {base : Heap}
def R__law_tells (ps : List Vp) (b : Bool) : Prop := ∃ (s : Nat → Nat) (c p : Nat), ps = [vA (seg s 0 200), vA (c : Int), vA (p : Int)] ∧ c ≤ 12 ∧ 1 ≤ p ∧ p ≤ 26 ∧ (b = true ↔ PerW s c p)
theorem sc__law_tells : FnScope ["_law_signs_here", "_law_cut", "_law_size", "_law_again"] ["_law_signs_here", "_law_cut", "_law_size"] (defScope s__law_tells) := ⟨rfl, rfl, rfl, by decide +kernel, rfl, by decide +kernel, by decide +kernel⟩
theorem ok__law_tells {f : Addr} {fd : FuncData} (T : Bn mg) (F : FnP K "_law_tells" s__law_tells [] [] f fd) : FnOk P w K mg base CX0 1 f fd ["_law_signs_here", "_law_cut", "_law_size"] (spF K R__law_tells) := by
  refine fn_ok F sc__law_tells (fun qs a h => ?_) (fun cdv A outer sh H F0 E D qs a hr hR hret hnx => ?_)
  · obtain ⟨s, c, p, rfl, _⟩ := h; rfl
  obtain ⟨s, c, p, rfl, hc, h1, hp, hb⟩ := hR
  show Go _ F0 H D [isA (seg s 0 200), isA (c : Int), isA (p : Int), anyS] _
  have hl : (seg s 0 200).length = 200 := seg_len s 0 200
  have hz : (seg s 0 200).length ≤ 16777216 := by omega
  have lb : (((seg s 0 200).drop c).take p).length = p := by rw [List.length_take, List.length_drop, hl]; omega
  have ecut : cutL (seg s 0 200) (some (c : Int)) (some ((c : Int) + (p : Int))) = ((seg s 0 200).drop c).take p := by
    rw [cut_mid _ (by omega) (by omega), Int.toNat_natCast]; congr 1; omega
  have edv : (((seg s 0 200).length : Nat) : Int) / (p : Int) + 1 = ((200 / p + 1 : Nat) : Int) := by
    rw [hl, ← Int.natCast_ediv]; rfl
  have hq : 200 / p * p ≤ 200 := Nat.div_mul_le_self _ _
  have hql : 200 / p ≤ 200 := Nat.div_le_self _ _
  refine go_set 3 (EE.cast (b := (List.replicate (200 / p + 1) (((seg s 0 200).drop c).take p)).flatten) (ee_bin (EE.cast (b := ((seg s 0 200).drop c).take p) (ee_slice (ee_var 0 (a := seg s 0 200) rfl rfl (.inl rfl)) (eo_some (ee_var 1 (a := (c : Int)) rfl rfl (.inl rfl))) (eo_some (ee_bin (ee_var 1 (a := (c : Int)) rfl rfl (.inl rfl)) (ee_var 2 (a := (p : Int)) rfl rfl (.inl rfl)) trivial)) hz) ecut) (EE.cast (b := ((200 / p + 1 : Nat) : Int)) (ee_bin (ee_bin (ee_len (ee_var 0 (a := seg s 0 200) rfl rfl (.inl rfl)) hz T.m_len) (ee_var 2 (a := (p : Int)) rfl rfl (.inl rfl)) ?_) (ee_int 1) trivial) edv) ?_) rfl) ?_ sc__law_tells.nd rfl (.inl rfl)
  · show (0 : Int) < (p : Int) ∧ (p : Int) < 1073741824
    omega
  · show -1000000000 < ((200 / p + 1 : Nat) : Int) ∧ ((200 / p + 1 : Nat) : Int) < 1000000000 ∧ (((seg s 0 200).drop c).take p).length * ((200 / p + 1 : Nat) : Int).toNat ≤ 16777216
    rw [Int.toNat_natCast, lb, Nat.mul_comm, Nat.succ_mul]
    generalize 200 / p = k at hq hql
    omega
  have hlr : ((List.replicate (200 / p + 1) (((seg s 0 200).drop c).take p)).flatten).length ≤ 300 := by rw [rep_len, lb, Nat.succ_mul]; omega
  have hlt : ((seg s 0 200).take c).length = c := by rw [List.length_take, hl]; omega
  refine go_ret (EE.cast (b := a) (ee_cmp (EE.cast (b := ((seg s 0 200).take c ++ (List.replicate (200 / p + 1) (((seg s 0 200).drop c).take p)).flatten).take 200) (ee_slice (ee_bin (EE.cast (b := (seg s 0 200).take c) (ee_slice (ee_var 0 (a := seg s 0 200) rfl rfl (.inl rfl)) eo_none (eo_some (ee_var 1 (a := (c : Int)) rfl rfl (.inl rfl))) hz) (by show cutL _ none _ = _; rw [cut_to _ (by omega), Int.toNat_natCast])) (ee_var 3 (a := (List.replicate (200 / p + 1) (((seg s 0 200).drop c).take p)).flatten) rfl rfl (.inl rfl)) ?_) eo_none (eo_some (ee_len (ee_var 0 (a := seg s 0 200) rfl rfl (.inl rfl)) hz T.m_len)) ?_) ?_) (ee_var 0 (a := seg s 0 200) rfl rfl (.inl rfl)) trivial) ?_) hret
  · show ((seg s 0 200).take c).length + ((List.replicate (200 / p + 1) (((seg s 0 200).drop c).take p)).flatten).length ≤ 16777216
    omega
  · show (((seg s 0 200).take c) ++ ((List.replicate (200 / p + 1) (((seg s 0 200).drop c).take p)).flatten)).length ≤ 16777216
    rw [List.length_append]; omega
  · show cutL _ none (some (((seg s 0 200).length : Nat) : Int)) = _
    rw [cut_to _ (by omega), Int.toNat_natCast, hl]; rfl
  · show decide (((seg s 0 200).take c ++ (List.replicate (200 / p + 1) (((seg s 0 200).drop c).take p)).flatten).take 200 = seg s 0 200) = a
    have hi := tells_iff (s := s) hc h1 hp
    cases a with
    | true => exact decide_eq_true (hi.mpr (hb.mp rfl))
    | false => exact decide_eq_false fun e => Bool.noConfusion (hb.mpr (hi.mp e))
def R__law_least (ps : List Vp) (b : Wd) : Prop := ∃ v : Wd, ps = [vA (seg (sg v) 0 200)] ∧ LW v ∧ LeastW v b
theorem sc__law_least : FnScope ["_law_signs_here", "_law_cut", "_law_size"] ["_law_signs_here"] (defScope s__law_least) := ⟨rfl, rfl, rfl, by decide +kernel, rfl, by decide +kernel, by decide +kernel⟩
theorem ok__law_least {f : Addr} {fd : FuncData} (T : Bn mg) (G1 : Dfn P w K mg base "_law_tells" 1 R__law_tells) (F : FnP K "_law_least" s__law_least [] [] f fd) : FnOk P w K mg base CX0 2 f fd ["_law_signs_here"] (spF K R__law_least) := by
  refine fn_ok F sc__law_least (fun qs a h => ?_) (fun cdv A outer sh H F0 E D qs a hr hR hret hnx => ?_)
  · obtain ⟨v, rfl, _⟩ := h; rfl
  obtain ⟨v, rfl, lw, c, p, hl, rfl⟩ := hR
  obtain ⟨c', p', hl', hc, hp⟩ := least_ex v lw.a1
  obtain ⟨rfl, rfl⟩ := hl'.uniq hl
  have h12 := lw.h12
  have a26 := lw.a26
  have hlen : (seg (sg v) 0 200).length = 200 := seg_len _ 0 200
  have hz : (seg (sg v) 0 200).length ≤ 16777216 := by omega
  show Go _ F0 H D [isA (seg (sg v) 0 200), anyS, anyS] _
  refine go_range1 1 (fun i => [isA (seg (sg v) 0 200), anyS, anyS]) (fun i => i ≤ c') (ee_int 13) (by omega) (Nat.zero_le _) (fun K F H s h => h) (fun i ci hi => ?turn) (fun ci => ?rest) T.m_range PassesOwn.never rfl sc__law_least.nd rfl (.inl rfl)
  case rest => exact absurd (show (13 : Nat) ≤ c' from ci) (by omega)
  case turn =>
    have hi' : i < 13 := by omega
    show Go _ F0 H _ [isA (seg (sg v) 0 200), isA (i : Int), anyS] _
    refine go_range2 2 (fun k => [isA (seg (sg v) 0 200), isA (i : Int), anyS]) (fun k => i = c' → 1 + k ≤ p') (ee_int 1) (ee_int 27) (by omega) (fun _ => hl.pos) (fun K F H s h => h) (fun k ck hk => ?turn) (fun ck => ?rest) T.m_range PassesOwn.never rfl sc__law_least.nd rfl (.inl rfl)
    case rest =>
      have hne : i ≠ c' := fun e => by
        have := ck e
        have e2 : ((27 : Int) - 1).toNat = 26 := by decide
        rw [e2] at this
        omega
      exact go_next fun F H s at_ => ⟨by omega, F, at_.1, paired_any (r := [isA (seg (sg v) 0 200), isA (i : Int), anyS]) 1 at_.2⟩
    case turn =>
      have hk' : 1 + k ≤ 26 := by omega
      have ek : (1 : Int) + (k : Int) = ((1 + k : Nat) : Int) := by omega
      show Go _ F0 H _ [isA (seg (sg v) 0 200), isA (i : Int), isA ((1 : Int) + (k : Int))] _
      rw [ek]
      have hiff : PerW (sg v) i (1 + k) ↔ Per (sg v) i (1 + k) := perW_iff h12 a26 lw.a1 (by omega) hk'
      by_cases hper : Per (sg v) i (1 + k)
      · refine go_if (t := true) (et_val (ee_call G1 (hr.mono (by decide)) (ea_cons (ee_var 0 (a := seg (sg v) 0 200) rfl rfl (.inl rfl)) (ea_cons (ee_var 1 (a := (i : Int)) rfl rfl (.inl rfl)) (ea_cons (ee_var 2 (a := ((1 + k : Nat) : Int)) rfl rfl (.inl rfl)) ea_nil))) ⟨sg v, i, 1 + k, rfl, by omega, by omega, hk', ⟨fun _ => hiff.mpr hper, fun _ => rfl⟩⟩ rfl)) (fun hc => ?_) (fun hc => nomatch hc)
        have m1 := hl.minC _ _ (by omega) hper
        have m2 := hl.minP _ _ (by omega) hper
        have e1 : i = c' := by omega
        have e2 : 1 + k = p' := by have := ck e1; omega
        refine go_ret (ee_pair (ea_cons (EE.cast (b := seg (sg v) 0 c') (ee_slice (ee_var 0 (a := seg (sg v) 0 200) rfl rfl (.inl rfl)) eo_none (eo_some (ee_var 1 (a := (i : Int)) rfl rfl (.inl rfl))) hz) ?_) (ea_cons (EE.cast (b := seg (sg v) c' p') (ee_slice (ee_var 0 (a := seg (sg v) 0 200) rfl rfl (.inl rfl)) (eo_some (ee_var 1 (a := (i : Int)) rfl rfl (.inl rfl))) (eo_some (ee_bin (ee_var 1 (a := (i : Int)) rfl rfl (.inl rfl)) (ee_var 2 (a := ((1 + k : Nat) : Int)) rfl rfl (.inl rfl)) trivial)) hz) ?_) ea_nil))) hret
        · show cutL _ none (some (i : Int)) = _
          rw [cut_to _ (by omega), Int.toNat_natCast, e1]
          apply seg_ext
          · rw [List.length_take, hlen]; omega
          · intro x hx
            rw [List.getElem?_take_of_lt hx, seg_get (by omega)]
        · show cutL _ (some (i : Int)) (some ((i : Int) + ((1 + k : Nat) : Int))) = _
          rw [cut_mid _ (by omega) (by omega), Int.toNat_natCast, show ((i : Int) + ((1 + k : Nat) : Int)).toNat - i = 1 + k by omega, e1, e2]
          apply seg_ext
          · rw [List.length_take, List.length_drop, hlen]; omega
          · intro x hx
            rw [List.getElem?_take_of_lt hx, List.getElem?_drop, seg_get (by omega), Nat.zero_add]
      · refine go_if (t := false) (et_val (ee_call G1 (hr.mono (by decide)) (ea_cons (ee_var 0 (a := seg (sg v) 0 200) rfl rfl (.inl rfl)) (ea_cons (ee_var 1 (a := (i : Int)) rfl rfl (.inl rfl)) (ea_cons (ee_var 2 (a := ((1 + k : Nat) : Int)) rfl rfl (.inl rfl)) ea_nil))) ⟨sg v, i, 1 + k, rfl, by omega, by omega, hk', ⟨fun z => Bool.noConfusion z, fun z => absurd (hiff.mp z) hper⟩⟩ rfl)) (fun hc => nomatch hc) (fun hc => go_on ?_)
        refine go_next fun F H s at_ => ⟨fun e => ?_, F, at_.1, paired_any (r := [isA (seg (sg v) 0 200), isA (i : Int), isA ((1 + k : Nat) : Int)]) 2 at_.2⟩
        have := ck e
        have hne : 1 + k ≠ p' := fun e2 => hper (by rw [e, e2]; exact hl.per)
        omega
end
end K01
set_option Elab.async false
set_option linter.all false
set_option maxRecDepth 100000
set_option maxHeartbeats 4000000
namespace K01
open PySem PySem.Spec PyProof.Rows L2 Wv Mw
abbrev s__law_none : Stmt := topS 18
abbrev s_law : Stmt := topS 19
def tS (l : List Nat) : PyData := .str (mkS l)
def many0 : List Nat := (List.replicate ((20000 : Int) + 1).toNat [48]).flatten
def many1 : List Nat := (List.replicate ((20000 : Int) + 1).toNat [49]).flatten
def noneA (v : Wd) : List PyData := [tS (v.1 ++ v.2), .list [tS v.1, tS v.2], .tuple [tS v.1], .tuple [tS v.1, tS v.2, tS []], .tuple [tS v.1, tS []], .none, .int 7, .bool true]
def noneB (v : Wd) : List PyData := [.tuple [tS (v.1 ++ [50]), tS v.2], .tuple [tS v.1, tS (v.2 ++ [32])], .tuple [tS v.1, tS [32]], .tuple [.int 1, tS v.2], .tuple [tS v.1, .int 1]]
def noneC (v : Wd) : List PyData := [.tuple [.none, tS v.2], .tuple [tS v.1, .none], .tuple [tS many0, tS [49]], .tuple [tS [], tS many1], .tuple []]
def noneD (v : Wd) : List PyData := [.tuple [tS v.1, .list [tS v.2]], .tuple [tS (v.1 ++ [45]), tS v.2], .tuple [tS v.1, tS ([49] ++ [97])], .tuple [tS [120], tS v.2]]
def noneL (v : Wd) : List PyData := noneA v ++ noneB v ++ noneC v ++ noneD v
theorem many0_len : many0.length = 20001 := by
  unfold many0; rw [rep_len]; decide
theorem many1_len : many1.length = 20001 := by
  unfold many1; rw [rep_len]; decide
theorem tS_signs (l : List Nat) : areSigns (tS l) = signsOk l := by
  show signsOk (mkS l).cps.toList = _
  have : (mkS l).cps.toList = l := by show l.toArray.toList = l; simp
  rw [this]
theorem signs_bad {l : List Nat} {c : Nat} (h : c ∈ l) (hc : c ≠ 48) (hd : c ≠ 49) : signsOk l = false := by
  unfold signsOk
  have : (l.all fun c => c == 48 || c == 49) = false := by
    rw [List.all_eq_false]
    exact ⟨c, h, by simp [hc, hd]⟩
  rw [this, Bool.and_false]
theorem signs_long {l : List Nat} (h : 20000 < l.length) : signsOk l = false := by
  unfold signsOk; rw [decide_eq_false (by omega), Bool.false_and]
theorem pair_no1 {a b : PyData} (h : areSigns a = false) : isWord (.tuple [a, b]) = false := by
  show (areSigns a && areSigns b && neT b) = false
  rw [h]; rfl
theorem pair_no2 {a b : PyData} (h : areSigns b = false) : isWord (.tuple [a, b]) = false := by
  show (areSigns a && areSigns b && neT b) = false
  rw [h, Bool.and_false]; rfl
theorem tS_small {l : List Nat} (h : l.length ≤ 16777216) : smallD (tS l) := by show (mkS l).length ≤ _; rw [mkS_len]; exact h
theorem none_all {v : Wd} (lw : LW v) : ∀ d ∈ noneL v, isWord d = false ∧ smallW d := by
  have h1 := lw.h12
  have h2 := lw.a26
  have s1 : smallD (tS v.1) := tS_small (by omega)
  have s2 : smallD (tS v.2) := tS_small (by omega)
  intro d hd
  unfold noneL noneA noneB noneC noneD at hd
  simp only [List.cons_append, List.nil_append, List.mem_cons, List.not_mem_nil, or_false] at hd
  rcases hd with rfl | rfl | rfl | rfl | rfl | rfl | rfl | rfl | rfl | rfl | rfl | rfl | rfl | rfl | rfl | rfl | rfl | rfl | rfl | rfl | rfl | rfl
  · exact ⟨rfl, by show (mkS _).length ≤ _; rw [mkS_len, List.length_append]; omega⟩
  · exact ⟨rfl, trivial⟩
  · exact ⟨rfl, trivial⟩
  · exact ⟨rfl, trivial⟩
  · refine ⟨?_, s1, tS_small (by decide)⟩
    show (areSigns (tS v.1) && areSigns (tS []) && neT (tS [])) = false
    have : neT (tS []) = false := by decide
    rw [this, Bool.and_false]
  · exact ⟨rfl, trivial⟩
  · exact ⟨rfl, trivial⟩
  · exact ⟨rfl, trivial⟩
  · exact ⟨pair_no1 (by rw [tS_signs]; exact signs_bad (c := 50) (by simp) (by decide) (by decide)), tS_small (by rw [List.length_append]; simp; omega), s2⟩
  · exact ⟨pair_no2 (by rw [tS_signs]; exact signs_bad (c := 32) (by simp) (by decide) (by decide)), s1, tS_small (by rw [List.length_append]; simp; omega)⟩
  · exact ⟨pair_no2 (by rw [tS_signs]; exact signs_bad (c := 32) (by simp) (by decide) (by decide)), s1, tS_small (by decide)⟩
  · exact ⟨pair_no1 rfl, trivial, s2⟩
  · exact ⟨pair_no2 rfl, s1, trivial⟩
  · exact ⟨pair_no1 rfl, trivial, s2⟩
  · exact ⟨pair_no2 rfl, s1, trivial⟩
  · exact ⟨pair_no1 (by rw [tS_signs]; exact signs_long (by rw [many0_len]; decide)), tS_small (by rw [many0_len]; decide), tS_small (by decide)⟩
  · exact ⟨pair_no2 (by rw [tS_signs]; exact signs_long (by rw [many1_len]; decide)), tS_small (by decide), tS_small (by rw [many1_len]; decide)⟩
  · exact ⟨rfl, trivial⟩
  · exact ⟨pair_no2 rfl, s1, trivial⟩
  · exact ⟨pair_no1 (by rw [tS_signs]; exact signs_bad (c := 45) (by simp) (by decide) (by decide)), tS_small (by rw [List.length_append]; simp; omega), s2⟩
  · exact ⟨pair_no2 (by rw [tS_signs]; exact signs_bad (c := 97) (by simp) (by decide) (by decide)), s1, tS_small (by decide)⟩
  · exact ⟨pair_no1 (by rw [tS_signs]; exact signs_bad (c := 120) (by simp) (by decide) (by decide)), tS_small (by decide), s2⟩
theorem noneL_len (v : Wd) : (noneL v).length = 22 := rfl
section
variable {P : Program} {w : World} {K : PySem.W.Frag} {mg : Str → Option Value} {base : Heap}
def R__law_none (ps : List Vp) (b : PyData) : Prop := ∃ (v : Wd) (d : Int), ps = [vA v, vA d] ∧ 0 ≤ d ∧ LW v ∧ (noneL v)[(d % 22).toNat]? = some b
theorem sc__law_none : FnScope ["_law_word_here", "_law_number", "_law_some"] ["_law_word_here", "_law_number"] (defScope s__law_none) := ⟨rfl, rfl, rfl, by decide +kernel, rfl, by decide +kernel, by decide +kernel⟩
theorem ok__law_none {f : Addr} {fd : FuncData} (T : Bn mg) (F : FnP K "_law_none" s__law_none [] [] f fd) : FnOk P w K mg base CX0 1 f fd ["_law_word_here", "_law_number"] (spF K R__law_none) := by
  refine fn_ok F sc__law_none (fun qs a h => ?_) (fun cdv A outer s H F0 E D qs a hr hR hret hnx => ?_)
  · obtain ⟨v, d, rfl, _⟩ := h; rfl
  obtain ⟨v, d, rfl, hd, lw, hb⟩ := hR
  have h1 := lw.h12
  have h2 := lw.a26
  show Go _ F0 H D [isA v, isA d, anyS] _
  have X0 : ∀ {q : Sl} {pp pq pr j}, EE (bX P w K mg base ["_law_word_here", "_law_number", "_law_some"] "_law_none" s__law_none f cdv A outer s H E) [isA v, isA d, q] (.Subscript (.Name "_law_word_here" pp) (.Constant (.int 0) j pq) pr) v.1 := fun {q pp pq pr j} => ee_ix (ee_var 0 (a := v) rfl rfl (.inl rfl)) (ee_int 0) (y := v.1) rfl
  have X1 : ∀ {q : Sl} {pp pq pr j}, EE (bX P w K mg base ["_law_word_here", "_law_number", "_law_some"] "_law_none" s__law_none f cdv A outer s H E) [isA v, isA d, q] (.Subscript (.Name "_law_word_here" pp) (.Constant (.int 1) j pq) pr) v.2 := fun {q pp pq pr j} => ee_ix (ee_var 0 (a := v) rfl rfl (.inl rfl)) (ee_int 1) (y := v.2) rfl
  refine go_set 2 (ee_list (xs := noneA v) (ea_cons (ee_toD (ee_bin X0 X1 (show v.1.length + v.2.length ≤ 16777216 by omega))) (ea_cons (ee_toD (ee_list (xs := [v.1, v.2]) (ea_cons X0 (ea_cons X1 ea_nil)) rfl (show 2 ≤ sizeLine by decide))) (ea_cons (ee_tupD (ds := [tS v.1]) (ea_cons (ee_toD X0) ea_nil) (show 1 ≤ 16777216 by decide)) (ea_cons (ee_tupD (ds := [tS v.1, tS v.2, tS []]) (ea_cons (ee_toD X0) (ea_cons (ee_toD X1) (ea_cons (ee_toD (ee_str [])) ea_nil))) (show 3 ≤ 16777216 by decide)) (ea_cons (ee_toD (ee_pair (ea_cons X0 (ea_cons (ee_str []) ea_nil)))) (ea_cons (ee_toD ee_none) (ea_cons (ee_toD (ee_int 7)) (ea_cons (ee_toD (ee_bool true)) ea_nil)))))))) rfl (show 8 ≤ sizeLine by decide)) ?_ sc__law_none.nd rfl (.inl rfl)
  refine go_set 2 (ee_bin (ee_var 2 (a := noneA v) rfl rfl (.inl rfl)) (ee_list (xs := noneB v) (ea_cons (ee_toD (ee_pair (ea_cons (ee_bin X0 (ee_str [50]) (show v.1.length + 1 ≤ 16777216 by omega)) (ea_cons X1 ea_nil)))) (ea_cons (ee_toD (ee_pair (ea_cons X0 (ea_cons (ee_bin X1 (ee_str [32]) (show v.2.length + 1 ≤ 16777216 by omega)) ea_nil)))) (ea_cons (ee_toD (ee_pair (ea_cons X0 (ea_cons (ee_str [32]) ea_nil)))) (ea_cons (ee_toD (ee_pair (ea_cons (ee_int 1) (ea_cons X1 ea_nil)))) (ea_cons (ee_toD (ee_pair (ea_cons X0 (ea_cons (ee_int 1) ea_nil)))) ea_nil))))) rfl (show 5 ≤ sizeLine by decide)) (show 8 + 5 ≤ 16777216 by decide)) ?_ sc__law_none.nd rfl (.inl rfl)
  refine go_set 2 (ee_bin (ee_var 2 (a := noneA v ++ noneB v) rfl rfl (.inl rfl)) (ee_list (xs := noneC v) (ea_cons (ee_toD (ee_pair (ea_cons ee_none (ea_cons X1 ea_nil)))) (ea_cons (ee_toD (ee_pair (ea_cons X0 (ea_cons ee_none ea_nil)))) (ea_cons (ee_toD (ee_pair (ea_cons (EE.cast (b := many0) (ee_bin (ee_str [48]) (ee_bin (ee_gint T.c_MOST_SIGNS) (ee_int 1) trivial) (show -1000000000 < (20000 : Int) + 1 ∧ (20000 : Int) + 1 < 1000000000 ∧ 1 * ((20000 : Int) + 1).toNat ≤ 16777216 by decide)) rfl) (ea_cons (ee_str [49]) ea_nil)))) (ea_cons (ee_toD (ee_pair (ea_cons (ee_str []) (ea_cons (EE.cast (b := many1) (ee_bin (ee_str [49]) (ee_bin (ee_gint T.c_MOST_SIGNS) (ee_int 1) trivial) (show -1000000000 < (20000 : Int) + 1 ∧ (20000 : Int) + 1 < 1000000000 ∧ 1 * ((20000 : Int) + 1).toNat ≤ 16777216 by decide)) rfl) ea_nil)))) (ea_cons (ee_tupD (ds := []) ea_nil (by decide)) ea_nil))))) rfl (show 5 ≤ sizeLine by decide)) (show 13 + 5 ≤ 16777216 by decide)) ?_ sc__law_none.nd rfl (.inl rfl)
  refine go_set 2 (EE.cast (b := noneL v) (ee_bin (ee_var 2 (a := noneA v ++ noneB v ++ noneC v) rfl rfl (.inl rfl)) (ee_list (xs := noneD v) (ea_cons (ee_toD (ee_pair (ea_cons X0 (ea_cons (ee_list (xs := [v.2]) (ea_cons X1 ea_nil) rfl (show 1 ≤ sizeLine by decide)) ea_nil)))) (ea_cons (ee_toD (ee_pair (ea_cons (ee_bin X0 (ee_str [45]) (show v.1.length + 1 ≤ 16777216 by omega)) (ea_cons X1 ea_nil)))) (ea_cons (ee_toD (ee_pair (ea_cons X0 (ea_cons (ee_bin (ee_str [49]) (ee_str [97]) (show 1 + 1 ≤ 16777216 by decide)) ea_nil)))) (ea_cons (ee_toD (ee_pair (ea_cons (ee_str [120]) (ea_cons X1 ea_nil)))) ea_nil)))) rfl (show 4 ≤ sizeLine by decide)) (show 18 + 4 ≤ 16777216 by decide)) rfl) ?_ sc__law_none.nd rfl (.inl rfl)
  refine go_ret (ee_ix (ee_var 2 (a := noneL v) rfl rfl (.inl rfl)) (ee_bin (ee_var 1 (a := d) rfl rfl (.inl rfl)) (ee_len (ee_var 2 (a := noneL v) rfl rfl (.inl rfl)) trivial T.m_len) (show (0 : Int) < 22 by decide)) (y := a) ?_) hret
  exact at_pos (show 0 ≤ d % 22 by omega) hb
end
end K01
set_option Elab.async false
set_option linter.all false
set_option maxRecDepth 100000
set_option maxHeartbeats 4000000
namespace K01
open PySem PySem.Spec PyProof.Rows L2 Wv Mw
theorem signs_of {l : List Nat} (hl : l.length ≤ 20000) (h : ∀ c ∈ l, c = 48 ∨ c = 49) : signsOk l = true := by
  unfold signsOk
  rw [decide_eq_true hl, Bool.true_and, List.all_eq_true]
  intro c hc
  simpa using h c hc
theorem LW.sgs {v : Wd} (lw : LW v) (i : Nat) : sg v i = 48 ∨ sg v i = 49 := by
  rcases sg_mem v lw.a1 i with h | h
  · exact lw.s1 _ h
  · exact lw.s2 _ h
theorem word_of {u : Wd} (h1 : u.1.length ≤ 20000) (h2 : u.2.length ≤ 20000) (h3 : 1 ≤ u.2.length) (s1 : ∀ c ∈ u.1, c = 48 ∨ c = 49) (s2 : ∀ c ∈ u.2, c = 48 ∨ c = 49) : Word01 u :=
  ⟨signs_of h1 s1, signs_of h2 s2, fun e => by rw [e] at h3; cases h3⟩
theorem LeastW.alike {u v r : Wd} (h : LeastW v r) (e : ∀ i, sg u i = sg v i) : LeastW u r := by
  obtain ⟨c, p, hl, rfl⟩ := h
  refine ⟨c, p, hl.congr fun i => (e i).symm, ?_⟩
  rw [seg_congr e, seg_congr e]
def lmoved (v : Wd) (k : Nat) : Wd := (v.1 ++ seg (sg ([], v.2)) 0 k, ((seg (sg ([], v.2)) 0 60).drop (k % v.2.length)).take v.2.length)
def lrep (v : Wd) (m : Nat) : Wd := (v.1, (List.replicate m v.2).flatten)
theorem strOk_of {l : List Nat} (h : ∀ c ∈ l, c < 1114112) : PyData.canLay0 (.str (mkS l)) = true := by
  show (mkS l).cps.all (· < 0x110000) = true
  rw [← Array.all_toList, show (mkS l).cps.toList = l from by show l.toArray.toList = l; simp, List.all_eq_true]
  intro c hc
  exact decide_eq_true (h c hc)
theorem signs_mem {l : List Nat} (h : signsOk l = true) : ∀ c ∈ l, c = 48 ∨ c = 49 := by
  unfold signsOk at h
  rw [Bool.and_eq_true, List.all_eq_true] at h
  intro c hc
  simpa using h.2 c hc
theorem wd_canLay {v : Wd} (h : Word01 v) : PyData.canLay0 (ToD.toD v) = true := by
  have a1 := strOk_of (l := v.1) fun c hc => by rcases signs_mem h.s1 c hc with e | e <;> omega
  have a2 := strOk_of (l := v.2) fun c hc => by rcases signs_mem h.s2 c hc with e | e <;> omega
  show PyData.canLay0 (.tuple [.str (mkS v.1), .str (mkS v.2)]) = true
  simp only [PyData.canLay0, PyData.canLayAll0] at a1 a2 ⊢
  rw [a1, a2]; rfl
theorem shaped_wd {v : Wd} (h : Word01 v) : SeqAt.shaped (ToD.toD v) = true := by
  unfold SeqAt.shaped
  rw [wd_canLay h, Bool.true_and]
  apply decide_eq_true
  show PyData.depth (.tuple [.str (mkS v.1), .str (mkS v.2)]) ≤ 64
  simp [PyData.depth, PyData.depthAll]
theorem eqv_self {v : Wd} (h : Word01 v) : PyData.eqv (ToD.toD v) (ToD.toD v) = true := SeqAt.eqv_refl _ (wd_canLay h)
theorem kin {v r u : Wd} (lw : LW v) (hr : LeastW v r) (k m : Nat) (hk : k < 20) (hm1 : 1 ≤ m) (hm : m ≤ 5) (hu : u ∈ [v, r, lmoved v k, lrep v m]) : Word01 u ∧ LeastW u r := by
  have h12 := lw.h12
  have a26 := lw.a26
  have a1 := lw.a1
  have t : ∀ i, sg (([] : List Nat), v.2) i = 48 ∨ sg (([] : List Nat), v.2) i = 49 := fun i => by
    rcases sg_mem (([] : List Nat), v.2) a1 i with h | h
    · cases h
    · exact lw.s2 _ h
  rcases List.mem_cons.mp hu with rfl | hu
  · exact ⟨word_of (by omega) (by omega) a1 lw.s1 lw.s2, hr⟩
  rcases List.mem_cons.mp hu with rfl | hu
  · obtain ⟨c, p, hl, rfl⟩ := id hr
    obtain ⟨c', p', hl', hc, hp⟩ := least_ex v a1
    obtain ⟨rfl, rfl⟩ := hl'.uniq hl
    refine ⟨word_of ?_ ?_ ?_ ?_ ?_, hr.alike (alike_seg hl.per hl.pos)⟩
    · show (seg (sg v) 0 c').length ≤ 20000; rw [seg_len]; omega
    · show (seg (sg v) c' p').length ≤ 20000; rw [seg_len]; omega
    · show 1 ≤ (seg (sg v) c' p').length; rw [seg_len]; exact hl.pos
    · intro c hc
      obtain ⟨i, rfl⟩ := seg_mem (show c ∈ seg (sg v) 0 c' from hc)
      exact lw.sgs i
    · intro c hc
      obtain ⟨i, rfl⟩ := seg_mem (show c ∈ seg (sg v) c' p' from hc)
      exact lw.sgs i
  rcases List.mem_cons.mp hu with rfl | hu
  · have hm2 := Nat.mod_lt k a1
    refine ⟨word_of ?_ ?_ ?_ ?_ ?_, hr.alike (alike_moved k 60 a1 (by omega))⟩
    · show (v.1 ++ seg (sg ([], v.2)) 0 k).length ≤ 20000
      rw [List.length_append, seg_len]; omega
    · show (((seg (sg ([], v.2)) 0 60).drop (k % v.2.length)).take v.2.length).length ≤ 20000
      rw [List.length_take]; omega
    · show 1 ≤ (((seg (sg ([], v.2)) 0 60).drop (k % v.2.length)).take v.2.length).length
      rw [List.length_take, List.length_drop, seg_len]; omega
    · intro c hc
      rcases List.mem_append.mp (show c ∈ v.1 ++ seg (sg ([], v.2)) 0 k from hc) with h | h
      · exact lw.s1 c h
      · obtain ⟨i, rfl⟩ := seg_mem h
        exact t i
    · intro c hc
      obtain ⟨i, rfl⟩ := seg_mem (List.mem_of_mem_drop (List.mem_of_mem_take (show c ∈ ((seg (sg ([], v.2)) 0 60).drop (k % v.2.length)).take v.2.length from hc)))
      exact t i
  · have e : u = lrep v m := by simpa using hu
    subst e
    have hl : ((List.replicate m v.2).flatten).length = m * v.2.length := rep_len _ _
    have hle : m * v.2.length ≤ 5 * 26 := Nat.mul_le_mul hm a26
    have hpos : 1 ≤ m * v.2.length := Nat.mul_pos hm1 a1
    refine ⟨word_of (show v.1.length ≤ 20000 by omega) ?_ ?_ lw.s1 ?_, hr.alike (alike_rep m a1 hm1)⟩
    · show ((List.replicate m v.2).flatten).length ≤ 20000; omega
    · show 1 ≤ ((List.replicate m v.2).flatten).length; omega
    · intro c hc
      obtain ⟨l, h1, h2⟩ := List.mem_flatten.mp (show c ∈ (List.replicate m v.2).flatten from hc)
      rw [List.eq_of_mem_replicate h1] at h2
      exact lw.s2 c h2
def g1 : List Nat := (List.replicate (20000 : Int).toNat [49]).flatten
def g0 : List Nat := (List.replicate (20000 : Int).toNat [48]).flatten
theorem rep1_get (c n i : Nat) (h : i < n) : ((List.replicate n [c]).flatten : List Nat)[i]? = some c := by
  rw [rep_get _ _ _ (by simpa using h)]
  show some (([c] : List Nat).getD (i % 1) 0) = some c
  rw [Nat.mod_one]; rfl
theorem rep1_mem {n c d : Nat} (h : d ∈ ((List.replicate n [c]).flatten : List Nat)) : d = c := by
  obtain ⟨l, h1, h2⟩ := List.mem_flatten.mp h
  rw [List.eq_of_mem_replicate h1] at h2
  simpa using h2
theorem g1_len : g1.length = 20000 := by unfold g1; rw [rep_len]; rfl
theorem g0_len : g0.length = 20000 := by unfold g0; rw [rep_len]; rfl
theorem great_word : Word01 (g1, g0) := word_of (by show g1.length ≤ _; rw [g1_len]; decide) (by show g0.length ≤ _; rw [g0_len]; decide) (by show 1 ≤ g0.length; rw [g0_len]; decide) (fun c hc => .inr (rep1_mem hc)) (fun c hc => .inl (rep1_mem hc))
theorem great_word2 : Word01 (g1, [48]) := word_of (by show g1.length ≤ _; rw [g1_len]; decide) (by decide) (by decide) (fun c hc => .inr (rep1_mem hc)) (fun c hc => .inl (by simpa using hc))
theorem great_at1 {i : Nat} (h : i < 20000) : sg (g1, g0) i = 49 := by
  have e := sg_head (w := (g1, g0)) (i := i) (by show i < g1.length; rw [g1_len]; exact h)
  have e2 : g1[i]? = some 49 := rep1_get 49 _ i (by show i < (20000 : Int).toNat; exact h)
  rw [show ((g1, g0) : Wd).1[i]? = g1[i]? from rfl, e2] at e
  exact (Option.some.inj e).symm
theorem great_at0 {i : Nat} (h : 20000 ≤ i) : sg (g1, g0) i = 48 := by
  rw [sg_again (by show g1.length ≤ i; rw [g1_len]; exact h)]
  apply getD_of
  have : (i - g1.length) % g0.length < g0.length := Nat.mod_lt _ (by rw [g0_len]; decide)
  exact rep1_get 48 _ _ (by show _ < (20000 : Int).toNat; rw [g0_len] at this ⊢; exact this)
theorem great_least : LeastW (g1, g0) (g1, [48]) := by
  refine ⟨20000, 1, least_of (by decide) (fun i hi => by rw [great_at0 hi, great_at0 (by omega)]) (.inr fun h => ?_) (fun q h1 h2 => by omega), ?_⟩
  · have := h 19999 (by decide)
    rw [great_at1 (by decide), great_at0 (by decide)] at this
    exact absurd this (by decide)
  · have e1 : g1 = seg (sg (g1, g0)) 0 20000 := by
      apply seg_ext g1_len
      intro i hi
      rw [Nat.zero_add, great_at1 hi]
      exact rep1_get 49 _ i hi
    have e2 : [48] = seg (sg (g1, g0)) 20000 1 := by
      apply seg_ext rfl
      intro i hi
      have hi' : i < 1 := hi
      have : i = 0 := by omega
      subst this
      rw [great_at0 (by omega)]; rfl
    rw [← e1, ← e2]
section
variable {P : Program} {w : World} {K : PySem.W.Frag} {mg : Str → Option Value} {base : Heap}
def R_law (ps : List Vp) (b : Bool) : Prop := ∃ ns : List Int, ps = [vA ns] ∧ ns.length ≤ 63 ∧ b = true
theorem sc_law : FnScope ["_law_script", "_law_j", "_law_word_here", "_law_digits", "_law_due", "_law_cut", "_law_turned", "_law_moved", "_law_some", "_law_digit", "_law_great"] ["_law_script"] (defScope s_law) := ⟨rfl, rfl, rfl, by decide +kernel, rfl, by decide +kernel, by decide +kernel⟩
theorem ok_law {f : Addr} {fd : FuncData} (T : Bn mg) (Gw : Dfn P w K mg base "_law_word" 2 R__law_word) (Gd : Dfn P w K mg base "_law_draws" 1 R__law_draws) (Gl : Dfn P w K mg base "_law_least" 2 R__law_least) (Gt : Dfn P w K mg base "_law_text" 1 R__law_text)
    (Gn : Dfn P w K mg base "_law_none" 1 R__law_none) (Gi : Dfn P w K mg base "is_word" 2 R_is_word) (Gm : Dfn P w K mg base "least_word" 4 R_least_word) (F : FnP K "law" s_law [] [] f fd) : FnOk P w K mg base CX0 5 f fd ["_law_script"] (spF K R_law) := by
  refine fn_ok F sc_law (fun qs a h => ?_) (fun cdv A outer s H F0 E D qs a hr hR hret hnx => ?_)
  · obtain ⟨ns, rfl, _⟩ := h; rfl
  obtain ⟨ns, rfl, h63, rfl⟩ := hR
  show Go _ F0 H D [isA ns, anyS, anyS, anyS, anyS, anyS, anyS, anyS, anyS, anyS, anyS] _
  refine go_range1 1 (fun i => [isA ns, anyS, anyS, anyS, anyS, anyS, anyS, anyS, anyS, anyS, anyS]) (fun _ => True) (ee_int 4) (by omega) trivial (fun K F H s h => h) (fun i _ hi => ?turn) (fun _ => ?rest) T.m_range PassesOwn.never rfl sc_law.nd rfl (.inl rfl)
  case turn =>
    show Go _ F0 H _ [isA ns, isA (i : Int), anyS, anyS, anyS, anyS, anyS, anyS, anyS, anyS, anyS] _
    have hi' : i < 4 := by omega
    obtain ⟨v, hv⟩ : ∃ v, v = lword ns i := ⟨_, rfl⟩
    obtain ⟨ds, hds⟩ : ∃ ds, ds = draws ns (i + 10) 6 := ⟨_, rfl⟩
    have lw : LW v := hv ▸ lword_lw ns i
    have h12 := lw.h12
    have a26 := lw.a26
    have a1 := lw.a1
    have fv : Fits v := ⟨by omega, by omega, a1⟩
    have fe : Fits (([] : List Nat), v.2) := ⟨Nat.zero_le _, by show v.2.length ≤ _; omega, a1⟩
    obtain ⟨c, p, hl, hc, hp⟩ := least_ex v a1
    obtain ⟨due, hdue⟩ : ∃ due : Wd, due = (seg (sg v) 0 c, seg (sg v) c p) := ⟨_, rfl⟩
    have lv : LeastW v due := ⟨c, p, hl, hdue⟩
    have wdue : Word01 due := (kin lw lv 0 1 (by decide) (by decide) (by decide) (by simp)).1
    have dat : ∀ k : Nat, k < 6 → atI ds (k : Int) = some (digit ns (i + 10) k) := fun k hk => at_pos (by omega) (by rw [Int.toNat_natCast, hds]; exact draws_get hk)
    obtain ⟨k, hk, hk2⟩ : ∃ k : Nat, (k : Int) = digit ns (i + 10) 0 % 20 ∧ k < 20 := ⟨(digit ns (i + 10) 0 % 20).toNat, by omega, by omega⟩
    obtain ⟨m, hm, hm1, hm2⟩ : ∃ m : Nat, (m : Int) = 1 + digit ns (i + 10) 1 % 5 ∧ 1 ≤ m ∧ m ≤ 5 := ⟨(1 + digit ns (i + 10) 1 % 5).toNat, by omega, by omega, by omega⟩
    have hz2 : v.2.length ≤ 16777216 := by omega
    refine go_set 2 (ee_call Gw (hr.mono (by decide)) (ea_cons (ee_var 0 (a := ns) rfl rfl (.inl rfl)) (ea_cons (ee_var 1 (a := (i : Int)) rfl rfl (.inl rfl)) ea_nil)) (a := v) ⟨ns, i, rfl, h63, by omega, hv⟩ rfl) ?_ sc_law.nd rfl (.inl rfl)
    refine go_set 3 (ee_call Gd (hr.mono (by decide)) (ea_cons (ee_var 0 (a := ns) rfl rfl (.inl rfl)) (ea_cons (ee_bin (ee_var 1 (a := (i : Int)) rfl rfl (.inl rfl)) (ee_int 10) trivial) (ea_cons (ee_int 6) ea_nil))) (a := ds) ⟨ns, i + 10, 6, rfl, h63, by omega, by decide, hds⟩ rfl) ?_ sc_law.nd rfl (.inl rfl)
    refine go_set 4 (ee_call Gl (hr.mono (by decide)) (ea_cons (ee_call Gt (hr.mono (by decide)) (ea_cons (ee_var 2 (a := v) rfl rfl (.inl rfl)) (ea_cons (ee_int 200) ea_nil)) (a := seg (sg v) 0 200) ⟨v, 200, rfl, fv, by decide, rfl⟩ rfl) ea_nil) (a := due) ⟨v, rfl, lw, lv⟩ rfl) ?_ sc_law.nd rfl (.inl rfl)
    refine go_set 5 (EE.cast (b := (k : Int)) (ee_bin (ee_ix (ee_var 3 (a := ds) rfl rfl (.inl rfl)) (ee_int 0) (y := digit ns (i + 10) 0) (dat 0 (by decide))) (ee_int 20) (show (0 : Int) < 20 by decide)) hk.symm) ?_ sc_law.nd rfl (.inl rfl)
    have ekm : (k : Int) % (v.2.length : Int) = ((k % v.2.length : Nat) : Int) := by rw [← Int.natCast_emod]
    refine go_set 6 (EE.cast (b := (seg (sg (([] : List Nat), v.2)) 0 60).drop (k % v.2.length)) (ee_slice (ee_call Gt (hr.mono (by decide)) (ea_cons (ee_pair (ea_cons (ee_str []) (ea_cons (ee_ix (ee_var 2 (a := v) rfl rfl (.inl rfl)) (ee_int 1) (y := v.2) rfl) ea_nil))) (ea_cons (ee_int 60) ea_nil)) (a := seg (sg (([] : List Nat), v.2)) 0 60) ⟨([], v.2), 60, rfl, fe, by decide, rfl⟩ rfl) (eo_some (ee_bin (ee_var 5 (a := (k : Int)) rfl rfl (.inl rfl)) (ee_len (ee_ix (ee_var 2 (a := v) rfl rfl (.inl rfl)) (ee_int 1) (y := v.2) rfl) hz2 T.m_len) (show (0 : Int) < (v.2.length : Int) by omega))) eo_none (by show (seg _ 0 60).length ≤ _; rw [seg_len]; decide)) ?_) ?_ sc_law.nd rfl (.inl rfl)
    · show cutL _ (some ((k : Int) % (v.2.length : Int))) none = _
      rw [ekm, cut_from _ (by omega), Int.toNat_natCast]
    refine go_set 7 (EE.cast (b := lmoved v k) (ee_pair (ea_cons (ee_bin (ee_ix (ee_var 2 (a := v) rfl rfl (.inl rfl)) (ee_int 0) (y := v.1) rfl) (ee_call Gt (hr.mono (by decide)) (ea_cons (ee_pair (ea_cons (ee_str []) (ea_cons (ee_ix (ee_var 2 (a := v) rfl rfl (.inl rfl)) (ee_int 1) (y := v.2) rfl) ea_nil))) (ea_cons (ee_var 5 (a := (k : Int)) rfl rfl (.inl rfl)) ea_nil)) (a := seg (sg (([] : List Nat), v.2)) 0 k) ⟨([], v.2), k, rfl, fe, by omega, rfl⟩ rfl) (show v.1.length + (seg (sg (([] : List Nat), v.2)) 0 k).length ≤ 16777216 by rw [seg_len]; omega)) (ea_cons (EE.cast (b := ((seg (sg (([] : List Nat), v.2)) 0 60).drop (k % v.2.length)).take v.2.length) (ee_slice (ee_var 6 (a := (seg (sg (([] : List Nat), v.2)) 0 60).drop (k % v.2.length)) rfl rfl (.inl rfl)) eo_none (eo_some (ee_len (ee_ix (ee_var 2 (a := v) rfl rfl (.inl rfl)) (ee_int 1) (y := v.2) rfl) hz2 T.m_len)) (by show ((seg _ 0 60).drop _).length ≤ _; rw [List.length_drop, seg_len]; omega)) (by show cutL _ none (some (v.2.length : Int)) = _; rw [cut_to _ (by omega), Int.toNat_natCast])) ea_nil))) rfl) ?_ sc_law.nd rfl (.inl rfl)
    show Go _ F0 H _ [isA ns, isA (i : Int), isA v, isA ds, isA due, isA (k : Int), isA ((seg (sg (([] : List Nat), v.2)) 0 60).drop (k % v.2.length)), isA (lmoved v k), anyS, anyS, anyS] _
    refine go_forL 8 (xs := [v, due, lmoved v k, lrep v m]) (fun _ => [isA ns, anyS, isA v, isA ds, isA due, anyS, anyS, anyS, anyS, anyS, anyS]) (fun _ => True) (ee_list (ea_cons (ee_var 2 (a := v) rfl rfl (.inl rfl)) (ea_cons (ee_var 4 (a := due) rfl rfl (.inl rfl)) (ea_cons (ee_var 7 (a := lmoved v k) rfl rfl (.inl rfl)) (ea_cons (EE.cast (b := lrep v m) (ee_pair (ea_cons (ee_ix (ee_var 2 (a := v) rfl rfl (.inl rfl)) (ee_int 0) (y := v.1) rfl) (ea_cons (ee_bin (ee_ix (ee_var 2 (a := v) rfl rfl (.inl rfl)) (ee_int 1) (y := v.2) rfl) (EE.cast (b := (m : Int)) (ee_bin (ee_int 1) (ee_bin (ee_ix (ee_var 3 (a := ds) rfl rfl (.inl rfl)) (ee_int 1) (y := digit ns (i + 10) 1) (dat 1 (by decide))) (ee_int 5) (show (0 : Int) < 5 by decide)) trivial) hm.symm) ?_) ea_nil))) rfl) ea_nil)))) rfl (show 4 ≤ sizeLine by decide)) trivial (fun K F H s h => ?_) (fun F1 up x u _ hu => ?turn2) (fun _ => ?rest2) PassesOwn.never rfl sc_law.nd rfl (.inl rfl)
    · show -1000000000 < (m : Int) ∧ (m : Int) < 1000000000 ∧ v.2.length * (m : Int).toNat ≤ 16777216
      rw [Int.toNat_natCast]
      have : v.2.length * m ≤ 26 * 5 := Nat.mul_le_mul a26 hm2
      omega
    · exact paired_any (r := [isA ns, anyS, isA v, isA ds, isA due, anyS, anyS, isA (lmoved v k), anyS, anyS, anyS]) 7 (paired_any (r := [isA ns, anyS, isA v, isA ds, isA due, anyS, isA ((seg (sg (([] : List Nat), v.2)) 0 60).drop (k % v.2.length)), isA (lmoved v k), anyS, anyS, anyS]) 6 (paired_any (r := [isA ns, anyS, isA v, isA ds, isA due, isA (k : Int), isA ((seg (sg (([] : List Nat), v.2)) 0 60).drop (k % v.2.length)), isA (lmoved v k), anyS, anyS, anyS]) 5 (paired_any (r := [isA ns, isA (i : Int), isA v, isA ds, isA due, isA (k : Int), isA ((seg (sg (([] : List Nat), v.2)) 0 60).drop (k % v.2.length)), isA (lmoved v k), anyS, anyS, anyS]) 1 h)))
    case turn2 =>
      show Go _ F1 H _ [isA ns, anyS, isA v, isA ds, isA due, anyS, anyS, anyS, isA u, anyS, anyS] _
      obtain ⟨wu, lu⟩ := kin lw lv k m hk2 hm1 hm2 (List.mem_of_getElem? hu)
      refine go_if (t := false) (ET.cast (EW.et (ew_or (ET.cast (b := false) (et_cmp (ee_call Gi (hr.mono (by decide)) (ea_cons (ee_toD (ee_var 8 (a := u) rfl rfl (.inl rfl))) ea_nil) (a := true) ⟨_, rfl, wu.small, wu.is.symm⟩ rfl) (ee_bool true) trivial) rfl) fun h1 => (ew_or1 (et_neD (ee_call Gm (hr.mono (by decide)) (ea_cons (ee_var 8 (a := u) rfl rfl (.inl rfl)) ea_nil) (a := due) ⟨u, rfl, wu, lu⟩ rfl) (ee_var 4 (a := due) rfl rfl (.inl rfl)) hr (shaped_wd wdue) (shaped_wd wdue))))) ?_) (fun hc => nomatch hc) (fun hc => go_on ?_)
      · rw [eqv_self wdue]; rfl
      · exact go_next fun F H s at_ => ⟨trivial, F, at_.1, paired_any (r := [isA ns, anyS, isA v, isA ds, isA due, anyS, anyS, anyS, isA u, anyS, anyS]) 8 at_.2⟩
    case rest2 =>
      refine go_forL 9 (xs := ds.drop 2) (fun _ => [isA ns, anyS, isA v, anyS, anyS, anyS, anyS, anyS, anyS, anyS, anyS]) (fun _ => True) (EE.cast (ee_slice (ee_var 3 (a := ds) rfl rfl (.inl rfl)) (eo_some (ee_int 2)) eo_none trivial) (cut_from _ (by decide))) trivial (fun K F H s h => ?_) (fun F1 up x d _ hd => ?turn3) (fun _ => ?rest3) PassesOwn.never rfl sc_law.nd rfl (.inl rfl)
      · exact paired_any (r := [isA ns, anyS, isA v, anyS, isA due, anyS, anyS, anyS, anyS, anyS, anyS]) 4 (paired_any (r := [isA ns, anyS, isA v, isA ds, isA due, anyS, anyS, anyS, anyS, anyS, anyS]) 3 h)
      case turn3 =>
        show Go _ F1 H _ [isA ns, anyS, isA v, anyS, anyS, anyS, anyS, anyS, anyS, isA d, anyS] _
        have hdm : d ∈ ds := List.mem_of_mem_drop (List.mem_of_getElem? hd)
        have hdb : 0 ≤ d := by rw [hds] at hdm; exact (draws_bd hdm).1
        obtain ⟨z, hz⟩ : ∃ z, (noneL v)[(d % 22).toNat]? = some z := by
          have : (d % 22).toNat < (noneL v).length := by rw [noneL_len]; omega
          exact ⟨_, List.getElem?_eq_getElem this⟩
        obtain ⟨n1, n2⟩ := none_all lw z (List.mem_of_getElem? hz)
        refine go_if (t := false) (ET.cast (et_cmp (ee_call Gi (hr.mono (by decide)) (ea_cons (ee_call Gn (hr.mono (by decide)) (ea_cons (ee_var 2 (a := v) rfl rfl (.inl rfl)) (ea_cons (ee_var 9 (a := d) rfl rfl (.inl rfl)) ea_nil)) (a := z) ⟨v, d, rfl, hdb, lw, hz⟩ rfl) ea_nil) (a := false) ⟨z, rfl, n2, n1.symm⟩ rfl) (ee_bool false) trivial) rfl) (fun hc => nomatch hc) (fun hc => go_on ?_)
        exact go_next fun F H s at_ => ⟨trivial, F, at_.1, paired_any (r := [isA ns, anyS, isA v, anyS, anyS, anyS, anyS, anyS, anyS, isA d, anyS]) 9 at_.2⟩
      case rest3 =>
        exact go_next fun F H s at_ => ⟨trivial, F, at_.1, paired_any (r := [isA ns, anyS, isA v, anyS, anyS, anyS, anyS, anyS, anyS, anyS, anyS]) 2 at_.2⟩
  case rest =>
    refine go_set 10 (EE.cast (b := (g1, g0)) (ee_pair (ea_cons (ee_bin (ee_str [49]) (ee_gint T.c_MOST_SIGNS) (show -1000000000 < (20000 : Int) ∧ (20000 : Int) < 1000000000 ∧ 1 * (20000 : Int).toNat ≤ 16777216 by decide)) (ea_cons (ee_bin (ee_str [48]) (ee_gint T.c_MOST_SIGNS) (show -1000000000 < (20000 : Int) ∧ (20000 : Int) < 1000000000 ∧ 1 * (20000 : Int).toNat ≤ 16777216 by decide)) ea_nil))) rfl) ?_ sc_law.nd rfl (.inl rfl)
    refine go_ret (EE.cast (ee_and (ee_cmp (ee_call Gi (hr.mono (by decide)) (ea_cons (ee_toD (ee_var 10 (a := ((g1, g0) : Wd)) rfl rfl (.inl rfl))) ea_nil) (a := true) ⟨_, rfl, great_word.small, great_word.is.symm⟩ rfl) (ee_bool true) trivial) fun h2 => (ee_one (ee_eqD (ee_call Gm (hr.mono (by decide)) (ea_cons (ee_var 10 (a := ((g1, g0) : Wd)) rfl rfl (.inl rfl)) ea_nil) (a := ((g1, [48]) : Wd)) ⟨_, rfl, great_word, great_least⟩ rfl) (ee_pair (ea_cons (ee_ix (ee_var 10 (a := ((g1, g0) : Wd)) rfl rfl (.inl rfl)) (ee_int 0) (y := g1) rfl) (ea_cons (ee_str [48]) ea_nil))) hr (shaped_wd great_word2) (shaped_wd great_word2)))) ?_) hret
    rw [eqv_self great_word2]; rfl
end
end K01
set_option Elab.async false
set_option linter.all false
set_option maxRecDepth 100000
set_option maxHeartbeats 0
namespace K01
open PySem PySem.Spec PyProof.Rows L2 Wv
def d_are_signs : He.DefD := ⟨("are_signs", none), "are_signs", "are_signs", defArgs s_are_signs, defBody s_are_signs, defScope s_are_signs, [], []⟩
def d_is_word : He.DefD := ⟨("is_word", none), "is_word", "is_word", defArgs s_is_word, defBody s_is_word, defScope s_is_word, [], []⟩
def d_must_be_word : He.DefD := ⟨("must_be_word", none), "must_be_word", "must_be_word", defArgs s_must_be_word, defBody s_must_be_word, defScope s_must_be_word, [], []⟩
def d_shortest_again : He.DefD := ⟨("shortest_again", none), "shortest_again", "shortest_again", defArgs s_shortest_again, defBody s_shortest_again, defScope s_shortest_again, [], []⟩
def d_made_least : He.DefD := ⟨("made_least", none), "made_least", "made_least", defArgs s_made_least, defBody s_made_least, defScope s_made_least, [], []⟩
def d_least_word : He.DefD := ⟨("least_word", none), "least_word", "least_word", defArgs s_least_word, defBody s_least_word, defScope s_least_word, [], []⟩
def d__law_draws : He.DefD := ⟨("_law_draws", none), "_law_draws", "_law_draws", defArgs s__law_draws, defBody s__law_draws, defScope s__law_draws, [], []⟩
def d__law_signs : He.DefD := ⟨("_law_signs", none), "_law_signs", "_law_signs", defArgs s__law_signs, defBody s__law_signs, defScope s__law_signs, [], []⟩
def d__law_word : He.DefD := ⟨("_law_word", none), "_law_word", "_law_word", defArgs s__law_word, defBody s__law_word, defScope s__law_word, [], []⟩
def d__law_text : He.DefD := ⟨("_law_text", none), "_law_text", "_law_text", defArgs s__law_text, defBody s__law_text, defScope s__law_text, [], []⟩
def d__law_tells : He.DefD := ⟨("_law_tells", none), "_law_tells", "_law_tells", defArgs s__law_tells, defBody s__law_tells, defScope s__law_tells, [], []⟩
def d__law_least : He.DefD := ⟨("_law_least", none), "_law_least", "_law_least", defArgs s__law_least, defBody s__law_least, defScope s__law_least, [], []⟩
def d__law_none : He.DefD := ⟨("_law_none", none), "_law_none", "_law_none", defArgs s__law_none, defBody s__law_none, defScope s__law_none, [], []⟩
def d_law : He.DefD := ⟨("law", none), "law", "law", defArgs s_law, defBody s_law, defScope s_law, [], []⟩
def fn : List He.DefD := [d_are_signs, d_is_word, d_must_be_word, d_shortest_again, d_made_least, d_least_word, d__law_draws, d__law_signs, d__law_word, d__law_text, d__law_tells, d__law_least, d__law_none, d_law]
def fa : List He.Fa := [.glo "are_signs", .glo "is_word", .glo "must_be_word", .glo "shortest_again", .glo "made_least", .glo "least_word", .glo "_law_draws", .glo "_law_signs", .glo "_law_word", .glo "_law_text", .glo "_law_tells", .glo "_law_least", .glo "_law_none", .glo "law", .free "isinstance", .free "len", .free "min", .free "range", .free "str", .free "tuple", .int "MOST_SIGNS" 20000]
abbrev Rw : PySem.W.OpenRow := PySem.W.OpenLaw.row PySem.Challenge.rw_clockloom_k01_words_looked_at
abbrev hk : PySem.W.Hook := He.hookD 4 fa fn
def ob (s : PySem.W.SharedT) : He.AlD := He.obsDG 4 fa fn (HandSHeadRun.getT s)
theorem ob_eq (s : PySem.W.SharedT) : ob s = hk.obs s.abs := He.obsDG_eq (HandSHeadRun.getT_eq s)
def loose : List Str := ["LoomError", "NoWord", "MOST_SIGNS", "are_signs", "is_word", "must_be_word", "shortest_again", "made_least", "least_word", "_law_draws", "_law_signs", "_law_word", "_law_text", "_law_tells", "_law_least", "_law_none"]
theorem run (w : World) : HandSHeadRun.RunEq Rw (PySem.W.view Rw.prog [19]) hk ob 4000 loose w := by
  intro os
  kernel_rfl
theorem facts {P : Program} {w : World} {K : PySem.W.Frag} {h : Heap} {mg : Str → Option Value} {f : Addr} (X : K.In h) (G : h.Ns mainGlobals mg) (hfa : mg ("law" : Str) = some (.ref f)) (c : He.SaysD fa fn K) :
    ∃ fd : FuncData, (∀ (s : Shared) (v : Value), BindsTo s fd ⟨[v], []⟩ [("_law_script", v)]) ∧ ∀ base : Heap, K.In base → base.Ns mainGlobals mg → FnOk P w K mg base CX0 5 f fd ["_law_script"] (spF K R_law) := by
  obtain ⟨fd_are_signs, (F_are_signs : FnP K "are_signs" s_are_signs [] [] (He.ga K "are_signs") fd_are_signs)⟩ := c.def_ 0 (d := d_are_signs) rfl
  obtain ⟨fd_is_word, (F_is_word : FnP K "is_word" s_is_word [] [] (He.ga K "is_word") fd_is_word)⟩ := c.def_ 1 (d := d_is_word) rfl
  obtain ⟨fd_must_be_word, (F_must_be_word : FnP K "must_be_word" s_must_be_word [] [] (He.ga K "must_be_word") fd_must_be_word)⟩ := c.def_ 2 (d := d_must_be_word) rfl
  obtain ⟨fd_shortest_again, (F_shortest_again : FnP K "shortest_again" s_shortest_again [] [] (He.ga K "shortest_again") fd_shortest_again)⟩ := c.def_ 3 (d := d_shortest_again) rfl
  obtain ⟨fd_made_least, (F_made_least : FnP K "made_least" s_made_least [] [] (He.ga K "made_least") fd_made_least)⟩ := c.def_ 4 (d := d_made_least) rfl
  obtain ⟨fd_least_word, (F_least_word : FnP K "least_word" s_least_word [] [] (He.ga K "least_word") fd_least_word)⟩ := c.def_ 5 (d := d_least_word) rfl
  obtain ⟨fd__law_draws, (F__law_draws : FnP K "_law_draws" s__law_draws [] [] (He.ga K "_law_draws") fd__law_draws)⟩ := c.def_ 6 (d := d__law_draws) rfl
  obtain ⟨fd__law_signs, (F__law_signs : FnP K "_law_signs" s__law_signs [] [] (He.ga K "_law_signs") fd__law_signs)⟩ := c.def_ 7 (d := d__law_signs) rfl
  obtain ⟨fd__law_word, (F__law_word : FnP K "_law_word" s__law_word [] [] (He.ga K "_law_word") fd__law_word)⟩ := c.def_ 8 (d := d__law_word) rfl
  obtain ⟨fd__law_text, (F__law_text : FnP K "_law_text" s__law_text [] [] (He.ga K "_law_text") fd__law_text)⟩ := c.def_ 9 (d := d__law_text) rfl
  obtain ⟨fd__law_tells, (F__law_tells : FnP K "_law_tells" s__law_tells [] [] (He.ga K "_law_tells") fd__law_tells)⟩ := c.def_ 10 (d := d__law_tells) rfl
  obtain ⟨fd__law_least, (F__law_least : FnP K "_law_least" s__law_least [] [] (He.ga K "_law_least") fd__law_least)⟩ := c.def_ 11 (d := d__law_least) rfl
  obtain ⟨fd__law_none, (F__law_none : FnP K "_law_none" s__law_none [] [] (He.ga K "_law_none") fd__law_none)⟩ := c.def_ 12 (d := d__law_none) rfl
  obtain ⟨fd_law, (F_law : FnP K "law" s_law [] [] (He.ga K "law") fd_law)⟩ := c.def_ 13 (d := d_law) rfl
  have g_are_signs := He.glo_ok X G (c.fact 0 (f := .glo "are_signs") rfl)
  have g_is_word := He.glo_ok X G (c.fact 1 (f := .glo "is_word") rfl)
  have g_must_be_word := He.glo_ok X G (c.fact 2 (f := .glo "must_be_word") rfl)
  have g_shortest_again := He.glo_ok X G (c.fact 3 (f := .glo "shortest_again") rfl)
  have g_made_least := He.glo_ok X G (c.fact 4 (f := .glo "made_least") rfl)
  have g_least_word := He.glo_ok X G (c.fact 5 (f := .glo "least_word") rfl)
  have g__law_draws := He.glo_ok X G (c.fact 6 (f := .glo "_law_draws") rfl)
  have g__law_signs := He.glo_ok X G (c.fact 7 (f := .glo "_law_signs") rfl)
  have g__law_word := He.glo_ok X G (c.fact 8 (f := .glo "_law_word") rfl)
  have g__law_text := He.glo_ok X G (c.fact 9 (f := .glo "_law_text") rfl)
  have g__law_tells := He.glo_ok X G (c.fact 10 (f := .glo "_law_tells") rfl)
  have g__law_least := He.glo_ok X G (c.fact 11 (f := .glo "_law_least") rfl)
  have g__law_none := He.glo_ok X G (c.fact 12 (f := .glo "_law_none") rfl)
  have g_law := He.glo_ok X G (c.fact 13 (f := .glo "law") rfl)
  have m_isinstance := He.free_ok X G (c.fact 14 (f := .free "isinstance") rfl)
  have m_len := He.free_ok X G (c.fact 15 (f := .free "len") rfl)
  have m_min := He.free_ok X G (c.fact 16 (f := .free "min") rfl)
  have m_range := He.free_ok X G (c.fact 17 (f := .free "range") rfl)
  have m_str := He.free_ok X G (c.fact 18 (f := .free "str") rfl)
  have m_tuple := He.free_ok X G (c.fact 19 (f := .free "tuple") rfl)
  have c_MOST_SIGNS := He.int_ok X G (c.fact 20 (f := .int "MOST_SIGNS" 20000) rfl)
  have e := hfa.symm.trans g_law
  cases e
  have T : Bn mg := ⟨m_isinstance, m_len, m_min, m_range, m_str, m_tuple, c_MOST_SIGNS⟩
  have b_law := FunD.bindsA (ps := ["_law_script"]) F_law fun _ _ _ _ _ _ us hl => match us, hl with | [_], _ => rfl
  refine ⟨fd_law, fun s v => b_law s [v] rfl, fun base _ _ => ?_⟩
  have b_are_signs : Binds K fd_are_signs ["thing"] [] := F_are_signs.bindsN fun _ _ _ _ _ _ us hl => match us, hl with | [_], _ => rfl
  have G_are_signs : Dfn P w K mg base "are_signs" 1 R_are_signs := dfn_of F_are_signs g_are_signs b_are_signs (ok_are_signs T F_are_signs)
  have b_is_word : Binds K fd_is_word ["thing"] [] := F_is_word.bindsN fun _ _ _ _ _ _ us hl => match us, hl with | [_], _ => rfl
  have G_is_word : Dfn P w K mg base "is_word" 2 R_is_word := dfn_of F_is_word g_is_word b_is_word (ok_is_word T G_are_signs F_is_word)
  have b_must_be_word : Binds K fd_must_be_word ["word"] [] := F_must_be_word.bindsN fun _ _ _ _ _ _ us hl => match us, hl with | [_], _ => rfl
  have G_must_be_word : Dfn P w K mg base "must_be_word" 3 R_must_be_word := dfn_of F_must_be_word g_must_be_word b_must_be_word (ok_must_be_word T G_is_word F_must_be_word)
  have b_shortest_again : Binds K fd_shortest_again ["again"] [] := F_shortest_again.bindsN fun _ _ _ _ _ _ us hl => match us, hl with | [_], _ => rfl
  have G_shortest_again : Dfn P w K mg base "shortest_again" 1 R_shortest_again := dfn_of F_shortest_again g_shortest_again b_shortest_again (ok_shortest_again T F_shortest_again)
  have b_made_least : Binds K fd_made_least ["word"] [] := F_made_least.bindsN fun _ _ _ _ _ _ us hl => match us, hl with | [_], _ => rfl
  have G_made_least : Dfn P w K mg base "made_least" 2 R_made_least := dfn_of F_made_least g_made_least b_made_least (ok_made_least T G_shortest_again F_made_least)
  have b_least_word : Binds K fd_least_word ["word"] [] := F_least_word.bindsN fun _ _ _ _ _ _ us hl => match us, hl with | [_], _ => rfl
  have G_least_word : Dfn P w K mg base "least_word" 4 R_least_word := dfn_of F_least_word g_least_word b_least_word (ok_least_word T G_must_be_word G_made_least F_least_word)
  have b__law_draws : Binds K fd__law_draws ["_law_script", "_law_j", "_law_many"] [] := F__law_draws.bindsN fun _ _ _ _ _ _ us hl => match us, hl with | [_, _, _], _ => rfl
  have G__law_draws : Dfn P w K mg base "_law_draws" 1 R__law_draws := dfn_of F__law_draws g__law_draws b__law_draws (ok__law_draws T F__law_draws)
  have b__law_signs : Binds K fd__law_signs ["_law_digits", "_law_many"] [] := F__law_signs.bindsN fun _ _ _ _ _ _ us hl => match us, hl with | [_, _], _ => rfl
  have G__law_signs : Dfn P w K mg base "_law_signs" 1 R__law_signs := dfn_of F__law_signs g__law_signs b__law_signs (ok__law_signs T F__law_signs)
  have b__law_word : Binds K fd__law_word ["_law_script", "_law_j"] [] := F__law_word.bindsN fun _ _ _ _ _ _ us hl => match us, hl with | [_, _], _ => rfl
  have G__law_word : Dfn P w K mg base "_law_word" 2 R__law_word := dfn_of F__law_word g__law_word b__law_word (ok__law_word T G__law_draws G__law_signs F__law_word)
  have b__law_text : Binds K fd__law_text ["_law_word_here", "_law_many"] [] := F__law_text.bindsN fun _ _ _ _ _ _ us hl => match us, hl with | [_, _], _ => rfl
  have G__law_text : Dfn P w K mg base "_law_text" 1 R__law_text := dfn_of F__law_text g__law_text b__law_text (ok__law_text T F__law_text)
  have b__law_tells : Binds K fd__law_tells ["_law_signs_here", "_law_cut", "_law_size"] [] := F__law_tells.bindsN fun _ _ _ _ _ _ us hl => match us, hl with | [_, _, _], _ => rfl
  have G__law_tells : Dfn P w K mg base "_law_tells" 1 R__law_tells := dfn_of F__law_tells g__law_tells b__law_tells (ok__law_tells T F__law_tells)
  have b__law_least : Binds K fd__law_least ["_law_signs_here"] [] := F__law_least.bindsN fun _ _ _ _ _ _ us hl => match us, hl with | [_], _ => rfl
  have G__law_least : Dfn P w K mg base "_law_least" 2 R__law_least := dfn_of F__law_least g__law_least b__law_least (ok__law_least T G__law_tells F__law_least)
  have b__law_none : Binds K fd__law_none ["_law_word_here", "_law_number"] [] := F__law_none.bindsN fun _ _ _ _ _ _ us hl => match us, hl with | [_, _], _ => rfl
  have G__law_none : Dfn P w K mg base "_law_none" 1 R__law_none := dfn_of F__law_none g__law_none b__law_none (ok__law_none T F__law_none)
  exact ok_law T G__law_word G__law_draws G__law_least G__law_text G__law_none G_is_word G_least_word F_law
end K01
open PySem PySem.W PySem.Calls PyProof.Rows
set_option maxHeartbeats 0 in
theorem PySem.Challenge.cw_clockloom_k01_words_looked_at_holds : PySem.Challenge.rw_clockloom_k01_words_looked_at.Holds := by
  w_on; o_law
  refine HandSHeadRun.head_any (r := OpenLaw.row PySem.Challenge.rw_clockloom_k01_words_looked_at) (q := view (OpenLaw.row PySem.Challenge.rw_clockloom_k01_words_looked_at).prog [19]) (H := K01.hk) (ob := K01.ob) (M := 4000) (loose := K01.loose) (d := HandSHeadRun.topDef (OpenLaw.row PySem.Challenge.rw_clockloom_k01_words_looked_at).prog 19) (kwd := []) K01.ob_eq
    (by kernel_rfl) (fun s => by kernel_rfl) K01.run (by kernel_rfl) (by kernel_rfl) (by kernel_rfl) (by rfl) (by first | assumption | decide +kernel) (by decide +kernel) ⟨rfl, rfl, rfl, rfl, rfl, by decide +kernel⟩ ?hw ?hc
  case hw => w_witness2
  case hc =>
    refine L2.walk_ofE (l := PySem.Challenge.rw_clockloom_k01_words_looked_at) (n := 63) (k := 5) (x := "_law_script") (CX := L2.CX0) rfl (by decide) (by kernel_rfl) ⟨rfl, by decide, by decide⟩ ?F (fun _ _ _ _ z => z)
    intro w mg fa h Y G hmg0
    obtain ⟨K, KX, c⟩ := Y
    have hmg : mg ("law" : PySem.Str) = some (.ref fa) := by
      have e : (HandSHeadRun.topDef (OpenLaw.row PySem.Challenge.rw_clockloom_k01_words_looked_at).prog 19).name = ("law" : PySem.Str) := by kernel_rfl
      rw [← e]
      exact hmg0
    obtain ⟨fd, hb, hF⟩ := K01.facts (P := (PySem.Challenge.rw_clockloom_k01_words_looked_at).prog) (w := w) KX G hmg c
    refine ⟨K, fd, Wv.spF K K01.R_law, KX, hb, fun H a ns hl _ hS => ?_, hF⟩
    exact ⟨H, [Wv.vA ns], true, L2.Same.refl H, .cons ⟨a, ns.map L2.V.int, rfl, hS, Wv.ints_rep ns⟩ .nil, ⟨ns, rfl, hl, rfl⟩, fun v F' H' g q => q⟩
