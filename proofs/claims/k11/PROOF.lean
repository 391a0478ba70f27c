import PyProof.Rows.All
import Wide.All
import OpenK.AllK
import Wide.FinOn
import HandS.ForMost
import HandS.Wide
import HandS.Exc
import HandS.WordsExc
import HandS.Defaults
import HandS.ExcOwn
import HandS.CallSlots
import HandS.IsInst
import HandS.ExcInit
import HandS.Nested
import HandS.ClsMeth
import KE.KExcSuper
import HandS.ExcField
import HandS.FStr
import HandS.HeadHook2
import KE.KStateDown
import HandS.Head0
import HandS.Head1
import HandS.Head2
import HandS.HeadEnd
import HandS.HeadHook1
import HandS.EndBits
import HandS.NoneIn
import HandS.OwnEq
import PyProof.NeKinds
import PyProof.Rows.Range3
import KE.IntBitsLaws
import PySem.Challenge.RW_onethrow_k11_ratios
set_option Elab.async false
set_option linter.all false
set_option maxRecDepth 100000
set_option maxHeartbeats 0
/-! A judgement over the hand layer: what a piece of the text is worth, by plain data. -/
namespace OT
open PySem PySem.Spec PyProof.Rows L2

/-! ### the readings by themselves -/
section
variable {X : Cx}
def wE (X : Cx) (e : Expr) : TE := fun σ H Q => ∃ t, PE X e t ∧ t σ H Q
def wT (X : Cx) (e : Expr) : TT := fun σ H Q => ∃ t, PT X e t ∧ t σ H Q
def wA (X : Cx) (es : List Expr) : TA := fun σ H Q => ∃ t, PA X es t ∧ t σ H Q
def wS (X : Cx) (st : Stmt) : TS := fun D σ H => ∃ t, PS X st t ∧ t D σ H
def wB (X : Cx) (st : List Stmt) : TS := fun D σ H => ∃ t, PSs X st t ∧ t D σ H
def wG (X : Cx) (tg : Expr) : TG := fun v σ H Q => ∃ t, PG X tg t ∧ t v σ H Q
def wI (X : Cx) (tg it : Expr) : TI := fun σ H R => ∃ t, PI X tg it t ∧ t σ H R
theorem pe_w {e : Expr} : PE X e (wE X e) := ⟨fun pins s σ H Q I ⟨_, h, q⟩ => h.run pins s σ H Q I q⟩
theorem pt_w {e : Expr} : PT X e (wT X e) := ⟨fun pins s σ H Q I ⟨_, h, q⟩ => h.run pins s σ H Q I q⟩
theorem pa_w {es : List Expr} : PA X es (wA X es) := ⟨fun pos pins s σ H Q I ⟨_, h, q⟩ => h.run pos pins s σ H Q I q⟩
theorem ps_w {st : Stmt} : PS X st (wS X st) := ⟨fun pins s σ H D I ⟨_, h, q⟩ => h.run pins s σ H D I q⟩
theorem pb_w {st : List Stmt} : PSs X st (wB X st) := ⟨fun pins s σ H D I ⟨_, h, q⟩ => h.run pins s σ H D I q⟩
theorem pg_w {e : Expr} : PG X e (wG X e) := ⟨fun pins s σ H v u Q I r ⟨_, h, q⟩ => h.run pins s σ H v u Q I r q⟩
theorem pi_w {tg e : Expr} : PI X tg e (wI X tg e) := ⟨fun pins s σ H R I ⟨_, h, q⟩ => h.run pins s σ H R I q⟩
theorem wE.of {e : Expr} {t : TE} {σ : L2.St} {H : Hp} {Q : VK} (h : PE X e t) (q : t σ H Q) : wE X e σ H Q := ⟨t, h, q⟩
theorem wT.of {e : Expr} {t : TT} {σ : L2.St} {H : Hp} {Q : Bool → Hp → Prop} (h : PT X e t) (q : t σ H Q) : wT X e σ H Q := ⟨t, h, q⟩
theorem wA.of {e : List Expr} {t : TA} {σ : L2.St} {H : Hp} {Q : List V → Hp → Prop} (h : PA X e t) (q : t σ H Q) : wA X e σ H Q := ⟨t, h, q⟩
theorem wS.of {e : Stmt} {t : TS} {D : Ends} {σ : L2.St} {H : Hp} (h : PS X e t) (q : t D σ H) : wS X e D σ H := ⟨t, h, q⟩
theorem wB.of {e : List Stmt} {t : TS} {D : Ends} {σ : L2.St} {H : Hp} (h : PSs X e t) (q : t D σ H) : wB X e D σ H := ⟨t, h, q⟩
end

/-! ### what is told of a value, of an object -/
/-- of a value, over the settled heap -/
structure MP where
  R : Hp → V → Prop
  up : ∀ {S S' : Hp} {v : V}, Same S S' → R S v → R S' v
/-- of a value, over the settled heap and the whole one (what is only lent) -/
structure BP where
  R : Hp → Hp → V → Prop
  up : ∀ {S S' H H' : Hp} {v : V}, Same S S' → Same H H' → R S H v → R S' H' v
/-- of an object that one may still change -/
structure MO where
  R : Hp → HO → Prop
  up : ∀ {S S' : Hp} {o : HO}, Same S S' → R S o → R S' o
/-- of an error -/
structure XP where
  R : Hp → Value → Option Addr → Prop
  up : ∀ {S S' : Hp} {c : Value} {d : Option Addr}, Same S S' → R S c d → R S' c d
def MP.b (m : MP) : BP := ⟨fun S _ v => m.R S v, fun e _ h => m.up e h⟩
def BP.at_ (m : BP) (H : Hp) : MP := ⟨fun S v => m.R S H v, fun e h => m.up e (Same.refl H) h⟩
/-- an object that is settled -/
def MO.pub (m : MO) : MP := ⟨fun S v => ∃ p o, v = .ref p ∧ S p = some o ∧ m.R S o, fun {S S' v} e ⟨p, o, h1, h2, h3⟩ => ⟨p, o, h1, e p o h2, m.up e h3⟩⟩
def MO.b (m : MO) : BP := ⟨fun S H v => ∃ p o, v = .ref p ∧ H p = some o ∧ m.R S o, fun {S S' H H' v} e e' ⟨p, o, h1, h2, h3⟩ => ⟨p, o, h1, e' p o h2, m.up e h3⟩⟩

/-! ### steps and states -/
structure Stp (S H S' H' : Hp) : Prop where
  s : Same S S'
  i : Same S' H'
  h : Same H H'
  fr : ∀ a, S a = none → H a ≠ none → S' a = none
theorem Stp.refl {S H : Hp} (i : Same S H) : Stp S H S H := ⟨Same.refl _, i, Same.refl _, fun _ h _ => h⟩
theorem Stp.trans {S H S1 H1 S2 H2 : Hp} (a : Stp S H S1 H1) (b : Stp S1 H1 S2 H2) : Stp S H S2 H2 :=
  ⟨a.s.trans b.s, b.i, a.h.trans b.h, fun x h1 h2 => b.fr x (a.fr x h1 h2) (by
    cases e : H x with
    | none => exact absurd e h2
    | some o => rw [a.h x o e]; simp)⟩
/-- a new object, settled at once -/
theorem Stp.put {S H : Hp} (i : Same S H) {p : Addr} {o : HO} (hp : H p = none) : Stp S H (upd S p o) (upd H p o) where
  s := fun a u e => by rw [upd_ne (ne_of_none (i a u e) hp)]; exact e
  i := fun a u e => by
    by_cases q : a = p
    · subst q; rw [upd_same] at e ⊢; exact e
    · rw [upd_ne q] at e ⊢; exact i a u e
  h := fun a u e => by rw [upd_ne (ne_of_none e hp)]; exact e
  fr := fun a h1 h2 => by
    by_cases q : a = p
    · subst q; exact absurd hp h2
    · rw [upd_ne q]; exact h1
/-- a new object, one's own -/
theorem Stp.own {S H : Hp} (i : Same S H) {p : Addr} {o : HO} (hp : H p = none) : Stp S H S (upd H p o) where
  s := Same.refl _
  i := fun a u e => by rw [upd_ne (ne_of_none (i a u e) hp)]; exact i a u e
  h := fun a u e => by rw [upd_ne (ne_of_none e hp)]; exact e
  fr := fun a h1 _ => h1
/-- the ground of a body: the settled heap and the whole one at its entry -/
structure Gho where
  R : Hp → Prop
  up : ∀ {S S' : Hp}, Same S S' → R S → R S'
structure Bs where
  S : Hp
  H : Hp
  P : Gho
def Bs.add (B : Bs) (G : Gho) : Bs := ⟨B.S, B.H, ⟨fun S => B.P.R S ∧ G.R S, fun e h => ⟨B.P.up e h.1, G.up e h.2⟩⟩⟩
def Gho.yes : Gho := ⟨fun _ => True, fun _ h => h⟩
abbrev Gm := List (Option MP)
abbrev Om := List (Addr × MO)
structure Stt (B : Bs) (Γ : Gm) (O : Om) (S H : Hp) (σ : L2.St) : Prop where
  st : Stp B.S B.H S H
  slot : ∀ (i : Nat) (R : MP), Γ[i]? = some (some R) → ∃ v, σ[i]? = some (some v) ∧ R.R S v
  len : σ.length = Γ.length
  own : ∀ q ∈ O, S q.1 = none ∧ B.H q.1 = none ∧ ∃ o, H q.1 = some o ∧ q.2.R S o
  nd : (O.map (·.1)).Nodup
  gh : B.P.R S
section
variable {B : Bs} {Γ : Gm} {O : Om} {S H S' H' : Hp} {σ : L2.St}
theorem Stt.step (t : Stt B Γ O S H σ) (e : Stp S H S' H') : Stt B Γ O S' H' σ where
  st := t.st.trans e
  slot := fun i R h => let ⟨v, h1, h2⟩ := t.slot i R h; ⟨v, h1, R.up e.s h2⟩
  len := t.len
  own := fun q hq => by
    obtain ⟨h1, h2, o, h3, h4⟩ := t.own q hq
    exact ⟨e.fr _ h1 (by rw [h3]; simp), h2, o, e.h _ _ h3, q.2.up e.s h4⟩
  nd := t.nd
  gh := B.P.up e.s t.gh
theorem Stt.sub (t : Stt B Γ O S H σ) : Same S H := t.st.i
theorem Stt.set {i : Nat} {R : MP} {v : V} (t : Stt B Γ O S H σ) (h : R.R S v) (hi : i < Γ.length) : Stt B (Γ.set i (some R)) O S H (σ.set i (some v)) where
  st := t.st
  slot := fun j Q e => by
    by_cases q : i = j
    · subst q
      rw [List.getElem?_set_self (by exact hi)] at e
      have e2 : R = Q := Option.some.inj (Option.some.inj e)
      subst e2
      exact ⟨v, by rw [List.getElem?_set_self (by rw [t.len]; exact hi)], h⟩
    · rw [List.getElem?_set_ne q] at e
      obtain ⟨w, h1, h2⟩ := t.slot j Q e
      exact ⟨w, by rw [List.getElem?_set_ne q]; exact h1, h2⟩
  len := by rw [List.length_set, List.length_set]; exact t.len
  own := t.own
  nd := t.nd
  gh := t.gh
/-- forget a slot -/
theorem Stt.forget {Γ' : Gm} (t : Stt B Γ O S H σ) (hl : Γ'.length = Γ.length) (h : ∀ (i : Nat) (R : MP), Γ'[i]? = some (some R) → Γ[i]? = some (some R)) : Stt B Γ' O S H σ :=
  ⟨t.st, fun i R e => t.slot i R (h i R e), t.len.trans hl.symm, t.own, t.nd, t.gh⟩
/-- forget an object of one's own -/
theorem Stt.drop {O' : Om} (t : Stt B Γ O S H σ) (h : O'.Sublist O) : Stt B Γ O' S H σ :=
  ⟨t.st, t.slot, t.len, fun q hq => t.own q (h.subset hq), (h.map _).nodup t.nd, t.gh⟩
/-- a new object of one's own -/
theorem Stt.add {p : Addr} {o : HO} {M : MO} (t : Stt B Γ O S H σ) (hp : H p = none) (hm : M.R S o) : Stt B Γ ((p, M) :: O) S (upd H p o) σ where
  st := t.st.trans (Stp.own t.sub hp)
  slot := t.slot
  len := t.len
  own := fun q hq => by
    rcases List.mem_cons.mp hq with e | hq
    · subst e
      exact ⟨t.sub.free hp, t.st.h.free hp, o, upd_same, hm⟩
    · obtain ⟨h1, h2, u, h3, h4⟩ := t.own q hq
      exact ⟨h1, h2, u, by rw [upd_ne (ne_of_none h3 hp)]; exact h3, h4⟩
  nd := by
    rw [List.map_cons]
    refine List.nodup_cons.mpr ⟨fun hm => ?_, t.nd⟩
    obtain ⟨q, hq, e⟩ := List.mem_map.mp hm
    obtain ⟨_, _, u, h3, _⟩ := t.own q hq
    have e2 : q.1 = p := e
    rw [e2, hp] at h3
    cases h3
  gh := t.gh
theorem Stt.ghost {G : Gho} (t : Stt B Γ O S H σ) (g : G.R S) : Stt (B.add G) Γ O S H σ := ⟨t.st, t.slot, t.len, t.own, t.nd, t.gh, g⟩
theorem Stt.plain {G : Gho} (t : Stt (B.add G) Γ O S H σ) : Stt B Γ O S H σ := ⟨t.st, t.slot, t.len, t.own, t.nd, t.gh.1⟩
end

/-! ### judgements -/
section
variable (X : Cx) (B : Bs) (Γ : Gm) (O : Om)
/-- e is worth R -/
def EJ (e : Expr) (R : BP) : Prop := ∀ S H σ, Stt B Γ O S H σ → ∀ Q : VK, (∀ v S' H', Stp S H S' H' → R.R S' H' v → Q v H') → wE X e σ H Q
/-- e is a new object of which M is told -/
def NJ (e : Expr) (M : MO) : Prop := ∀ S H σ, Stt B Γ O S H σ → ∀ Q : VK, (∀ p o S' H', Stp S H S' H' → H p = none → S' p = none → H' p = some o → M.R S' o → Q (.ref p) H') → wE X e σ H Q
def TJ (e : Expr) (b : Bool) : Prop := ∀ S H σ, Stt B Γ O S H σ → ∀ Q : Bool → Hp → Prop, (∀ S' H', Stp S H S' H' → Q b H') → wT X e σ H Q
def AllR : List BP → Hp → Hp → List V → Prop
  | [], _, _, [] => True
  | R :: Rs, S, H, v :: vs => R.R S H v ∧ AllR Rs S H vs
  | _, _, _, _ => False
def AJ (es : List Expr) (Rs : List BP) : Prop := ∀ S H σ, Stt B Γ O S H σ → ∀ Q : List V → Hp → Prop, (∀ vs S' H', Stp S H S' H' → AllR Rs S' H' vs → Q vs H') → wA X es σ H Q
def SJ (body : List Stmt) (D : Ends) : Prop := ∀ S H σ, Stt B Γ O S H σ → wB X body D σ H
def NX (N : L2.St → Hp → Prop) : Prop := ∀ S H σ, Stt B Γ O S H σ → N σ H
end
theorem AllR.up : ∀ {Rs : List BP} {S S' H H' : Hp} {vs : List V}, Same S S' → Same H H' → AllR Rs S H vs → AllR Rs S' H' vs
  | [], _, _, _, _, [], _, _, _ => trivial
  | [], _, _, _, _, _ :: _, _, _, h => h.elim
  | _ :: _, _, _, _, _, [], _, _, h => h.elim
  | R :: Rs, _, _, _, _, v :: vs, e, e', h => ⟨R.up e e' h.1, AllR.up e e' h.2⟩
theorem AllR.length : ∀ {Rs : List BP} {S H : Hp} {vs : List V}, AllR Rs S H vs → vs.length = Rs.length
  | [], _, _, [], _ => rfl
  | [], _, _, _ :: _, h => h.elim
  | _ :: _, _, _, [], h => h.elim
  | R :: Rs, _, _, v :: vs, h => congrArg Nat.succ (AllR.length h.2)

/-! ### plain values -/
def tV (v : V) : MP := ⟨fun _ w => w = v, fun _ h => h⟩
abbrev tI (i : Int) : MP := tV (.int i)
abbrev tB (b : Bool) : MP := tV (.bl b)
abbrev tS (x : Str) : MP := tV (.str x)
abbrev tN : MP := tV .non
abbrev tR (p : Addr) : MP := tV (.ref p)
abbrev bI (i : Int) : BP := (tI i).b
abbrev bB (b : Bool) : BP := (tB b).b
abbrev bS (x : Str) : BP := (tS x).b
abbrev bN : BP := tN.b

section
variable {X : Cx} {B : Bs} {Γ : Gm} {O : Om} {e a b c : Expr} {es : List Expr} {pos pos' : Pos} {R R' : BP} {D : Ends} {rest body els : List Stmt}

/-! ### expressions -/
theorem EJ.of {t : TE} (h : PE X e t) (q : ∀ S H σ, Stt B Γ O S H σ → ∀ Q : VK, (∀ v S' H', Stp S H S' H' → R.R S' H' v → Q v H') → t σ H Q) : EJ X B Γ O e R :=
  fun S H σ st Q k => ⟨t, h, q S H σ st Q k⟩
/-- at once: a value, nothing made -/
theorem EJ.now {t : TE} (h : PE X e t) (q : ∀ S H σ, Stt B Γ O S H σ → ∃ v, R.R S H v ∧ ∀ Q : VK, Q v H → t σ H Q) : EJ X B Γ O e R :=
  EJ.of h fun S H σ st Q k => let ⟨v, h1, h2⟩ := q S H σ st; h2 Q (k v S H (Stp.refl st.sub) h1)
theorem EJ.imp (h : EJ X B Γ O e R) (i : ∀ S H v, R.R S H v → R'.R S H v) : EJ X B Γ O e R' := fun S H σ st Q k => h S H σ st Q fun v S' H' s r => k v S' H' s (i _ _ _ r)
theorem EJ.cast (h : EJ X B Γ O e R) (i : R = R') : EJ X B Γ O e R' := i ▸ h
/-- a name of the body -/
theorem e_var (i : Nat) {R : MP} {x : Str} (hG : Γ[i]? = some (some R) := by rfl) (hN : X.N[i]? = some x := by rfl) (hv : Vis X.env.scope x := by first | exact Or.inl rfl | exact Or.inr (Or.inl rfl) | exact Or.inr (Or.inr rfl))
    (hd : (x == ("__debug__" : Str)) = false := by decide) (hcd : (x == ("__classdict__" : Str)) = false := by decide) : EJ X B Γ O (.Name x pos) R.b :=
  EJ.now (pe_var hN hv hd hcd) fun S H σ st => let ⟨v, h1, h2⟩ := st.slot i R hG; ⟨v, h2, fun Q q => ⟨v, h1, q⟩⟩
/-- a name that holds an object of one's own: lent -/
theorem e_own (i : Nat) {p : Addr} {M : MO} {x : Str} (hG : Γ[i]? = some (some (tR p))) (hO : (p, M) ∈ O) (hN : X.N[i]? = some x := by rfl) (hv : Vis X.env.scope x := by first | exact Or.inl rfl | exact Or.inr (Or.inl rfl) | exact Or.inr (Or.inr rfl))
    (hd : (x == ("__debug__" : Str)) = false := by decide) (hcd : (x == ("__classdict__" : Str)) = false := by decide) : EJ X B Γ O (.Name x pos) M.b :=
  EJ.now (pe_var hN hv hd hcd) fun S H σ st => by
    obtain ⟨v, h1, h2⟩ := st.slot i (tR p) hG
    obtain ⟨_, _, o, h3, h4⟩ := st.own _ hO
    exact ⟨v, ⟨p, o, h2, h3, h4⟩, fun Q q => ⟨v, h1, q⟩⟩
theorem e_int {i : Int} {j} : EJ X B Γ O (.Constant (.int i) j pos) (bI i) := EJ.now pe_int fun _ _ _ _ => ⟨_, rfl, fun _ q => q⟩
theorem e_bl {i : Bool} {j} : EJ X B Γ O (.Constant (.bool i) j pos) (bB i) := EJ.now pe_bl fun _ _ _ _ => ⟨_, rfl, fun _ q => q⟩
theorem e_str {i : Str} {j} : EJ X B Γ O (.Constant (.str i) j pos) (bS i) := EJ.now pe_str fun _ _ _ _ => ⟨_, rfl, fun _ q => q⟩
theorem e_non {j} : EJ X B Γ O (.Constant .none j pos) bN := EJ.now pe_non fun _ _ _ _ => ⟨_, rfl, fun _ q => q⟩
/-- a module's constant -/
theorem e_glob {x : Str} {v : V} {u : Value} (hm : X.mg x = some u) (r : RelV v u) (hg : Gl X x := by rfl) (hd : (x == ("__debug__" : Str)) = false := by decide) : EJ X B Γ O (.Name x pos) (tV v).b :=
  EJ.now (pe_glob hg hm r hd) fun _ _ _ _ => ⟨_, rfl, fun _ q => q⟩
/-- two operands -/
theorem e_op2 {op : Operator} {r : R2} {Ra Rb : BP} (ho : OpR X (binaryOp op) r) (ha : EJ X B Γ O a Ra) (hb : EJ X B Γ O b Rb)
    (hr : ∀ S H x y, Same S H → Ra.R S H x → Rb.R S H y → ∀ Q : VK, (∀ v S' H', Stp S H S' H' → R.R S' H' v → Q v H') → r x y H Q) : EJ X B Γ O (.BinOp a op b pos) R :=
  EJ.of (pe_op ho pe_w pe_w) fun S H σ st Q k => ha S H σ st _ fun x S1 H1 s1 r1 => hb S1 H1 σ (st.step s1) _ fun y S2 H2 s2 r2 =>
    hr S2 H2 x y s2.i (Ra.up s2.s s2.h r1) r2 Q fun v S3 H3 s3 r3 => k v S3 H3 ((s1.trans s2).trans s3) r3
theorem e_cmp2 {op : CmpOp} {r : R2} {Ra Rb : BP} (ho : OpR X (compareOp op) r) (ha : EJ X B Γ O a Ra) (hb : EJ X B Γ O b Rb) (hm : behindInMarks op b = false)
    (hr : ∀ S H x y, Same S H → Ra.R S H x → Rb.R S H y → ∀ Q : VK, (∀ v S' H', Stp S H S' H' → R.R S' H' v → Q v H') → r x y H Q) : EJ X B Γ O (.Compare a [op] [b] pos) R :=
  EJ.of (pe_cmpR ho pe_w pe_w hm) fun S H σ st Q k => ha S H σ st _ fun x S1 H1 s1 r1 => hb S1 H1 σ (st.step s1) _ fun y S2 H2 s2 r2 =>
    hr S2 H2 x y s2.i (Ra.up s2.s s2.h r1) r2 Q fun v S3 H3 s3 r3 => k v S3 H3 ((s1.trans s2).trans s3) r3
theorem t_cmp2 {op : CmpOp} {r : R2} {Ra Rb : BP} {k : Bool} (ho : OpR X (compareOp op) r) (ha : EJ X B Γ O a Ra) (hb : EJ X B Γ O b Rb) (hm : behindInMarks op b = false)
    (hr : ∀ S H x y, Same S H → Ra.R S H x → Rb.R S H y → ∀ Q : VK, (∀ S' H', Stp S H S' H' → Q (.bl k) H') → r x y H Q) : TJ X B Γ O (.Compare a [op] [b] pos) k :=
  fun S H σ st Q q => ⟨_, pt_cmpR ho pe_w pe_w hm, ha S H σ st _ fun x S1 H1 s1 r1 => hb S1 H1 σ (st.step s1) _ fun y S2 H2 s2 r2 =>
    hr S2 H2 x y s2.i (Ra.up s2.s s2.h r1) r2 _ fun S3 H3 s3 => ⟨k, rfl, q S3 H3 ((s1.trans s2).trans s3)⟩⟩
theorem e_un {op : UnaryOp} {r : V → Hp → VK → Prop} {Ra : BP} (ho : UnR X (unaryOp op) r) (ha : EJ X B Γ O a Ra)
    (hr : ∀ S H x, Same S H → Ra.R S H x → ∀ Q : VK, (∀ v S' H', Stp S H S' H' → R.R S' H' v → Q v H') → r x H Q) : EJ X B Γ O (.UnaryOp op a pos) R :=
  EJ.of (pe_un ho pe_w) fun S H σ st Q k => ha S H σ st _ fun x S1 H1 s1 r1 => hr S1 H1 x s1.i r1 Q fun v S3 H3 s3 r3 => k v S3 H3 (s1.trans s3) r3
section
variable {i j : Int}
theorem e_add (ha : EJ X B Γ O a (bI i)) (hb : EJ X B Γ O b (bI j)) : EJ X B Γ O (.BinOp a .Add b pos) (bI (i + j)) :=
  e_op2 op_add ha hb fun S H x y sm h1 h2 Q k => ⟨i, j, h1, h2, k _ S H (Stp.refl sm) rfl⟩
theorem e_sub (ha : EJ X B Γ O a (bI i)) (hb : EJ X B Γ O b (bI j)) : EJ X B Γ O (.BinOp a .Sub b pos) (bI (i - j)) :=
  e_op2 op_sub ha hb fun S H x y sm h1 h2 Q k => ⟨i, j, h1, h2, k _ S H (Stp.refl sm) rfl⟩
/-- a product: its factors are not too long -/
theorem e_mul (ha : EJ X B Γ O a (bI i)) (hb : EJ X B Γ O b (bI j)) (hc : IntMulOk i j) : EJ X B Γ O (.BinOp a .Mult b pos) (bI (i * j)) :=
  e_op2 (r := rI (fun i j => IntMulOk i j) fun i j => .int (i * j)) (opI fun _ _ _ _ _ _ _ hc q => mul_int q hc) ha hb fun S H x y sm h1 h2 Q k => ⟨i, j, h1, h2, hc, k _ S H (Stp.refl sm) rfl⟩
theorem e_fdiv (ha : EJ X B Γ O a (bI i)) (hb : EJ X B Γ O b (bI j)) (h0 : j ≠ 0) (hc : j.natAbs.log2 < 9000) : EJ X B Γ O (.BinOp a .FloorDiv b pos) (bI (i.fdiv j)) :=
  e_op2 (r := rI (fun _ j => j ≠ 0 ∧ j.natAbs.log2 < 9000) fun i j => .int (i.fdiv j)) (opI fun _ _ _ _ _ _ _ hc q => floordiv_int hc.1 q (.inl (PyProof.noPylong_of_log2 hc.2))) ha hb fun S H x y sm h1 h2 Q k => ⟨i, j, h1, h2, ⟨h0, hc⟩, k _ S H (Stp.refl sm) rfl⟩
theorem e_mod (ha : EJ X B Γ O a (bI i)) (hb : EJ X B Γ O b (bI j)) (h0 : j ≠ 0) : EJ X B Γ O (.BinOp a .Mod b pos) (bI (i.fmod j)) :=
  e_op2 op_modN ha hb fun S H x y sm h1 h2 Q k => ⟨i, j, h1, h2, h0, k _ S H (Stp.refl sm) rfl⟩
theorem e_pow (ha : EJ X B Γ O a (bI i)) (hb : EJ X B Γ O b (bI j)) (h0 : CPow i j) : EJ X B Γ O (.BinOp a .Pow b pos) (bI (i ^ j.toNat)) :=
  e_op2 op_pow ha hb fun S H x y sm h1 h2 Q k => ⟨i, j, h1, h2, h0, k _ S H (Stp.refl sm) rfl⟩
theorem e_neg (ha : EJ X B Γ O a (bI i)) : EJ X B Γ O (.UnaryOp .USub a pos) (bI (-i)) := e_un un_neg ha fun S H x sm h1 Q k => ⟨i, h1, k _ S H (Stp.refl sm) rfl⟩
theorem e_lt (ha : EJ X B Γ O a (bI i)) (hb : EJ X B Γ O b (bI j)) : EJ X B Γ O (.Compare a [.Lt] [b] pos) (bB (decide (i < j))) :=
  e_cmp2 op_lt ha hb (nomark _) fun S H x y sm h1 h2 Q k => ⟨i, j, h1, h2, k _ S H (Stp.refl sm) rfl⟩
theorem e_le (ha : EJ X B Γ O a (bI i)) (hb : EJ X B Γ O b (bI j)) : EJ X B Γ O (.Compare a [.LtE] [b] pos) (bB (decide (i ≤ j))) :=
  e_cmp2 op_le ha hb (nomark _) fun S H x y sm h1 h2 Q k => ⟨i, j, h1, h2, k _ S H (Stp.refl sm) rfl⟩
theorem e_gt (ha : EJ X B Γ O a (bI i)) (hb : EJ X B Γ O b (bI j)) : EJ X B Γ O (.Compare a [.Gt] [b] pos) (bB (decide (j < i))) :=
  e_cmp2 op_gt ha hb (nomark _) fun S H x y sm h1 h2 Q k => ⟨i, j, h1, h2, k _ S H (Stp.refl sm) rfl⟩
theorem e_ge (ha : EJ X B Γ O a (bI i)) (hb : EJ X B Γ O b (bI j)) : EJ X B Γ O (.Compare a [.GtE] [b] pos) (bB (decide (j ≤ i))) :=
  e_cmp2 op_ge ha hb (nomark _) fun S H x y sm h1 h2 Q k => ⟨i, j, h1, h2, k _ S H (Stp.refl sm) rfl⟩
theorem t_lt (ha : EJ X B Γ O a (bI i)) (hb : EJ X B Γ O b (bI j)) : TJ X B Γ O (.Compare a [.Lt] [b] pos) (decide (i < j)) :=
  t_cmp2 op_lt ha hb (nomark _) fun S H x y sm h1 h2 Q k => ⟨i, j, h1, h2, k S H (Stp.refl sm)⟩
theorem t_le (ha : EJ X B Γ O a (bI i)) (hb : EJ X B Γ O b (bI j)) : TJ X B Γ O (.Compare a [.LtE] [b] pos) (decide (i ≤ j)) :=
  t_cmp2 op_le ha hb (nomark _) fun S H x y sm h1 h2 Q k => ⟨i, j, h1, h2, k S H (Stp.refl sm)⟩
theorem t_gt (ha : EJ X B Γ O a (bI i)) (hb : EJ X B Γ O b (bI j)) : TJ X B Γ O (.Compare a [.Gt] [b] pos) (decide (j < i)) :=
  t_cmp2 op_gt ha hb (nomark _) fun S H x y sm h1 h2 Q k => ⟨i, j, h1, h2, k S H (Stp.refl sm)⟩
theorem t_ge (ha : EJ X B Γ O a (bI i)) (hb : EJ X B Γ O b (bI j)) : TJ X B Γ O (.Compare a [.GtE] [b] pos) (decide (j ≤ i)) :=
  t_cmp2 op_ge ha hb (nomark _) fun S H x y sm h1 h2 Q k => ⟨i, j, h1, h2, k S H (Stp.refl sm)⟩
end
/-- == of two plain values (ints, bools, texts, None) -/
theorem e_eq {v w : V} (ha : EJ X B Γ O a (tV v).b) (hb : EJ X B Γ O b (tV w).b) (hs : scal v w = true := by rfl) : EJ X B Γ O (.Compare a [.Eq] [b] pos) (bB (decide (v = w))) :=
  e_cmp2 op_eq ha hb (nomark _) fun S H x y sm h1 h2 Q k => by
    cases h1; cases h2
    exact ⟨hs, k _ S H (Stp.refl sm) rfl⟩
theorem e_ne {v w : V} (ha : EJ X B Γ O a (tV v).b) (hb : EJ X B Γ O b (tV w).b) (hs : scal v w = true := by rfl) : EJ X B Γ O (.Compare a [.NotEq] [b] pos) (bB (!decide (v = w))) :=
  e_cmp2 op_ne ha hb (nomark _) fun S H x y sm h1 h2 Q k => by
    cases h1; cases h2
    exact ⟨hs, k _ S H (Stp.refl sm) rfl⟩
theorem t_eq {v w : V} (ha : EJ X B Γ O a (tV v).b) (hb : EJ X B Γ O b (tV w).b) (hs : scal v w = true := by rfl) : TJ X B Γ O (.Compare a [.Eq] [b] pos) (decide (v = w)) :=
  t_cmp2 op_eq ha hb (nomark _) fun S H x y sm h1 h2 Q k => by
    cases h1; cases h2
    exact ⟨hs, k S H (Stp.refl sm)⟩
theorem t_ne {v w : V} (ha : EJ X B Γ O a (tV v).b) (hb : EJ X B Γ O b (tV w).b) (hs : scal v w = true := by rfl) : TJ X B Γ O (.Compare a [.NotEq] [b] pos) (!decide (v = w)) :=
  t_cmp2 op_ne ha hb (nomark _) fun S H x y sm h1 h2 Q k => by
    cases h1; cases h2
    exact ⟨hs, k S H (Stp.refl sm)⟩
/-! ### tests -/
theorem TJ.cast {k k' : Bool} (h : TJ X B Γ O e k) (i : k = k') : TJ X B Γ O e k' := i ▸ h
theorem t_val {k : Bool} (h : EJ X B Γ O e (bB k)) (he : ∀ whole, isTrue e X.env whole = (do let v ← whole; standAt e.pos; holding [v] (truthy v)) := by intro _; rfl) : TJ X B Γ O e k :=
  fun S H σ st Q q => ⟨_, pt_val pe_w he, h S H σ st _ fun v S' H' s r => ⟨k, r, q S' H' s⟩⟩
theorem t_not {k : Bool} (h : TJ X B Γ O e k) : TJ X B Γ O (.UnaryOp .Not e pos) (!k) :=
  fun S H σ st Q q => ⟨_, pt_not pt_w, h S H σ st _ fun S' H' s => q S' H' s⟩
/-- a and b and .. : a chain, ended by t_and1 -/
def TW (X : Cx) (B : Bs) (Γ : Gm) (O : Om) (e : Expr) (b : Bool) : Prop := ∀ S H σ, Stt B Γ O S H σ → ∀ Q : Bool → Hp → Prop, (∀ S' H', Stp S H S' H' → Q b H') → ∃ t, PW X e t ∧ t σ H Q
theorem tw_and1 {k : Bool} (h : TJ X B Γ O a k) : TW X B Γ O (.BoolOp .And [a] pos) k := fun S H σ st Q q => ⟨_, pw_and1 pt_w, h S H σ st Q q⟩
theorem tw_or1 {k : Bool} (h : TJ X B Γ O a k) : TW X B Γ O (.BoolOp .Or [a] pos) k := fun S H σ st Q q => ⟨_, pw_or1 pt_w, h S H σ st Q q⟩
theorem pw_w {e : Expr} : PW X e (fun σ H Q => ∃ t, PW X e t ∧ t σ H Q) := ⟨fun wh pins s σ H Q I ⟨_, h, q⟩ => h.run wh pins s σ H Q I q⟩
theorem tw_and {k l : Bool} (h : TJ X B Γ O a k) (h2 : k = true → TW X B Γ O (.BoolOp .And (b :: es) pos) l) : TW X B Γ O (.BoolOp .And (a :: b :: es) pos) (k && l) := fun S H σ st Q q =>
  ⟨_, pw_and pt_w pw_w, h S H σ st _ fun S' H' s => by
    cases k with
    | true => exact iteT (h2 rfl S' H' σ (st.step s) Q fun S2 H2 s2 => q S2 H2 (s.trans s2))
    | false => exact iteF (q S' H' s)⟩
theorem tw_or {k l : Bool} (h : TJ X B Γ O a k) (h2 : k = false → TW X B Γ O (.BoolOp .Or (b :: es) pos) l) : TW X B Γ O (.BoolOp .Or (a :: b :: es) pos) (k || l) := fun S H σ st Q q =>
  ⟨_, pw_or pt_w pw_w, h S H σ st _ fun S' H' s => by
    cases k with
    | false => exact iteF (h2 rfl S' H' σ (st.step s) Q fun S2 H2 s2 => q S2 H2 (s.trans s2))
    | true => exact iteT (q S' H' s)⟩
theorem TW.t {k : Bool} (h : TW X B Γ O e k) : TJ X B Γ O e k := fun S H σ st Q q => let ⟨t, h1, h2⟩ := h S H σ st Q q; ⟨t, h1.pt, h2⟩
/-- .. as values -/
theorem e_one {op} (h : EJ X B Γ O a R) : EJ X B Γ O (.BoolOp op [a] pos) R := EJ.of (pe_one pe_w) fun S H σ st Q k => h S H σ st Q k
theorem e_and {k l : Bool} (h : EJ X B Γ O a (bB k)) (h2 : k = true → EJ X B Γ O (.BoolOp .And (b :: es) pos) (bB l)) : EJ X B Γ O (.BoolOp .And (a :: b :: es) pos) (bB (k && l)) :=
  EJ.of (pe_and pe_w pe_w) fun S H σ st Q q => h S H σ st _ fun v S1 H1 s r => ⟨k, r, by
    cases k with
    | true => exact iteT (h2 rfl S1 H1 σ (st.step s) Q fun v2 S2 H2 s2 r2 => q v2 S2 H2 (s.trans s2) r2)
    | false => exact iteF (q _ S1 H1 s rfl)⟩
theorem e_or {k l : Bool} (h : EJ X B Γ O a (bB k)) (h2 : k = false → EJ X B Γ O (.BoolOp .Or (b :: es) pos) (bB l)) : EJ X B Γ O (.BoolOp .Or (a :: b :: es) pos) (bB (k || l)) :=
  EJ.of (pe_or pe_w pe_w) fun S H σ st Q q => h S H σ st _ fun v S1 H1 s r => ⟨k, r, by
    cases k with
    | false => exact iteF (h2 rfl S1 H1 σ (st.step s) Q fun v2 S2 H2 s2 r2 => q v2 S2 H2 (s.trans s2) r2)
    | true => exact iteT (q _ S1 H1 s rfl)⟩
theorem e_not {k : Bool} (h : EJ X B Γ O a (bB k)) : EJ X B Γ O (.UnaryOp .Not a pos) (bB (!k)) :=
  EJ.of (pe_not pe_w) fun S H σ st Q q => h S H σ st _ fun v S1 H1 s r => ⟨k, r, q _ S1 H1 s rfl⟩
theorem e_ifExp {k : Bool} (hc : TJ X B Γ O c k) (ha : k = true → EJ X B Γ O a R) (hb : k = false → EJ X B Γ O b R) : EJ X B Γ O (.IfExp c a b pos) R :=
  EJ.of (pe_ifExp pt_w pe_w pe_w) fun S H σ st Q q => hc S H σ st _ fun S1 H1 s => by
    cases k with
    | true => exact iteT (ha rfl S1 H1 σ (st.step s) Q fun v2 S2 H2 s2 r2 => q v2 S2 H2 (s.trans s2) r2)
    | false => exact iteF (hb rfl S1 H1 σ (st.step s) Q fun v2 S2 H2 s2 r2 => q v2 S2 H2 (s.trans s2) r2)
/-! ### arguments -/
theorem a_nil : AJ X B Γ O [] [] := fun S H σ st Q q => ⟨_, pa_nil, q [] S H (Stp.refl st.sub) trivial⟩
theorem a_cons {Rs : List BP} (h : EJ X B Γ O e R) (hr : AJ X B Γ O es Rs) (hs : starEach (e :: es) X.env = (false, eval e X.env) :: starEach es X.env := by rfl) : AJ X B Γ O (e :: es) (R :: Rs) := fun S H σ st Q q =>
  ⟨_, pa_cons pe_w pa_w hs, h S H σ st _ fun v S1 H1 s1 r1 => hr S1 H1 σ (st.step s1) _ fun vs S2 H2 s2 r2 => q (v :: vs) S2 H2 (s1.trans s2) ⟨R.up s2.s s2.h r1, r2⟩⟩
/-! ### statements -/
theorem s_nil (h : NX B Γ O D.nx) : SJ X B Γ O [] D := fun S H σ st => ⟨_, pss_nil, h S H σ st⟩
/-- one statement and the rest -/
theorem SJ.cons {st : Stmt} (h : ∀ S H σ, Stt B Γ O S H σ → wS X st { D with nx := wB X rest D } σ H) : SJ X B Γ O (st :: rest) D := fun S H σ t => ⟨_, pss_cons ps_w pb_w, h S H σ t⟩
theorem s_set {i : Nat} {x : Str} {R : MP} {Γ' : Gm} (he : EJ X B Γ O e R.b) (h : SJ X B Γ' O rest D) (hi : X.N[i]? = some x := by rfl) (hG : Γ.set i (some R) = Γ' := by rfl) (hl : i < Γ.length := by exact Nat.le_of_ble_eq_true rfl) (hN : X.N.Nodup := by assumption)
    (hx : Loc X.env.scope x := by first | exact Or.inl rfl | exact Or.inr rfl) (hs : swapsWith e (some (.Name x pos')) pos.line X.env = pure false := by rfl) (hf : X.fn x = true ∨ X.env.scope.names.lookup x = some .local := by first | exact .inl rfl | exact .inr rfl | assumption) :
    SJ X B Γ O (.Assign [.Name x pos'] e pos :: rest) D :=
  SJ.cons fun S H σ st => ⟨_, ps_set hN hi hx pe_w hs hf, he S H σ st _ fun v S1 H1 s1 r1 => h S1 H1 _ (hG ▸ (st.step s1).set r1 hl)⟩
theorem s_setN {i : Nat} {x : Str} {M : MO} (he : NJ X B Γ O e M) (h : ∀ p, SJ X B (Γ.set i (some (tR p))) ((p, M) :: O) rest D) (hi : X.N[i]? = some x := by rfl) (hl : i < Γ.length := by exact Nat.le_of_ble_eq_true rfl) (hN : X.N.Nodup := by assumption)
    (hx : Loc X.env.scope x := by first | exact Or.inl rfl | exact Or.inr rfl) (hs : swapsWith e (some (.Name x pos')) pos.line X.env = pure false := by rfl) (hf : X.fn x = true ∨ X.env.scope.names.lookup x = some .local := by first | exact .inl rfl | exact .inr rfl | assumption) :
    SJ X B Γ O (.Assign [.Name x pos'] e pos :: rest) D :=
  SJ.cons fun S H σ st => ⟨_, ps_set hN hi hx pe_w hs hf, he S H σ st _ fun p o S1 H1 s1 n1 n2 h1 h2 => by
    refine h p S1 H1 _ ?_
    have t1 := (st.step s1).set (i := i) (R := tR p) (v := .ref p) rfl hl
    refine ⟨t1.st, t1.slot, t1.len, fun q hq => ?_, ?_, t1.gh⟩
    · rcases List.mem_cons.mp hq with e | hq
      · subst e
        exact ⟨n2, st.st.h.free n1, o, h1, h2⟩
      · exact t1.own q hq
    · rw [List.map_cons]
      refine List.nodup_cons.mpr ⟨fun hm => ?_, t1.nd⟩
      obtain ⟨q, hq, e⟩ := List.mem_map.mp hm
      obtain ⟨_, _, u, h3, _⟩ := st.own q hq
      have e2 : q.1 = p := e
      rw [e2, n1] at h3
      cases h3⟩
theorem s_if {k : Bool} (hc : TJ X B Γ O c k) (h1 : k = true → SJ X B Γ O body { D with nx := wB X rest D }) (h2 : k = false → SJ X B Γ O els { D with nx := wB X rest D }) : SJ X B Γ O (.If c body els pos :: rest) D :=
  SJ.cons fun S H σ st => ⟨_, ps_if pt_w pb_w pb_w, hc S H σ st _ fun S1 H1 s1 => by
    cases k with
    | true => exact iteT (h1 rfl S1 H1 σ (st.step s1))
    | false => exact iteF (h2 rfl S1 H1 σ (st.step s1))⟩
theorem s_ret (he : EJ X B Γ O e R) (h : ∀ v S H, Stp B.S B.H S H → R.R S H v → D.rt v H) : SJ X B Γ O (.Return (some e) pos :: rest) D :=
  SJ.cons fun S H σ st => ⟨_, ps_ret pe_w, he S H σ st _ fun v S1 H1 s1 r1 => h v S1 H1 (st.st.trans s1) r1⟩
theorem s_expr (he : EJ X B Γ O e R) (h : SJ X B Γ O rest D) (hs : swapsWith e none pos.line X.env = pure false := by rfl) : SJ X B Γ O (.Expr e pos :: rest) D :=
  SJ.cons fun S H σ st => ⟨_, ps_expr pe_w hs, he S H σ st _ fun v S1 H1 s1 r1 => h S1 H1 σ (st.step s1)⟩
theorem s_pass (h : SJ X B Γ O rest D) : SJ X B Γ O (.Pass pos :: rest) D := SJ.cons fun S H σ st => ⟨_, ps_pass, h S H σ st⟩
end
end OT
/-! Calls, defs, own classes. -/
namespace OT
open PySem PySem.Spec PyProof.Rows L2

/-! ### how a call ends -/
inductive Out where
  | val (R : MP)
  | new (M : MO)
  | err (X : XP)
def Out.thn (o : Out) (S H : Hp) (Q : VK) (E : XK) : Prop := match o with
  | .val R => ∀ v S' H', Stp S H S' H' → R.R S' v → Q v H'
  | .new M => ∀ p o S' H', Stp S H S' H' → H p = none → S' p = none → H' p = some o → M.R S' o → Q (.ref p) H'
  | .err X => ∀ c d S' H', Stp S H S' H' → X.R S' c d → E c d H'
/-- e raises -/
def XJ (X : Cx) (B : Bs) (Γ : Gm) (O : Om) (W : WX) (e : Expr) (P : XP) : Prop := ∀ S H σ, Stt B Γ O S H σ → (∀ c d S' H', Stp S H S' H' → P.R S' c d → W c d σ H') → ∀ Q : VK, wE X e σ H Q
def Out.J (o : Out) (X : Cx) (B : Bs) (Γ : Gm) (O : Om) (W : WX) (e : Expr) : Prop := match o with
  | .val R => EJ X B Γ O e R.b
  | .new M => NJ X B Γ O e M
  | .err P => XJ X B Γ O W e P
theorem Out.j {o : Out} {X : Cx} {B : Bs} {Γ : Gm} {O : Om} {W : WX} {e : Expr} (h : ∀ S H σ, Stt B Γ O S H σ → ∀ Q : VK, o.thn S H Q (WE W σ) → wE X e σ H Q) : o.J X B Γ O W e := by
  cases o with
  | val R => exact fun S H σ st Q k => h S H σ st Q k
  | new M => exact fun S H σ st Q k => h S H σ st Q k
  | err P => exact fun S H σ st k Q => h S H σ st Q k
/-- later -/
theorem Out.thn.later {o : Out} {S H S1 H1 : Hp} {Q : VK} {E : XK} (h : o.thn S H Q E) (s : Stp S H S1 H1) : o.thn S1 H1 Q E := by
  cases o with
  | val R => exact fun v S' H' s' r => h v S' H' (s.trans s') r
  | new M => exact fun p o S' H' s' n1 n2 h1 h2 => h p o S' H' (s.trans s') (s.h.free n1) n2 h1 h2
  | err P => exact fun c d S' H' s' r => h c d S' H' (s.trans s') r

/-! ### promises by data -/
def SpO (As : List BP) (o : Out) : Sp := fun vs H Q E => ∃ S, Same S H ∧ AllR As S H vs ∧ o.thn S H Q E
def spD {D : Type} (As : D → List BP) (out : D → Out) : Sp := fun vs H Q E => ∃ d, SpO (As d) (out d) vs H Q E
/-- of __init__: the instance at x is new -/
def SpI (C : Addr) (As : List BP) (o : Out) : Sp := fun vs H Q E => ∃ x dx H1 ws S, vs = .ref x :: ws ∧ H = upd (upd H1 dx (.own x)) x (.ins C dx []) ∧ H1 x = none ∧ H1 dx = none ∧ dx ≠ x ∧ Same S H1 ∧ AllR As S H1 ws ∧
  o.thn S H1 (fun v H' => v = .ref x → Q .non H') E
def spN {D : Type} (C : Addr) (As : D → List BP) (out : D → Out) : Sp := fun vs H Q E => ∃ d, SpI C (As d) (out d) vs H Q E

section
variable (P : Program) (w : World) (K : PySem.W.Frag) (mg : Str → Option Value) (base : Heap)
/-- a def of the module -/
def GF (x : Str) (k : Nat) (ps : List Str) (sp : Sp) : Prop := ∃ f fd, FnOk P w K mg base (L2.CX P w) k f fd ps sp ∧ mg x = some (.ref f) ∧ PySem.W.keepIn K (.ref f) = true ∧ Binds K fd ps []
/-- a method -/
def GM (C : Addr) (m : Str) (k : Nat) (ps : List Str) (sp : Sp) : Prop := ∃ f fd, FnOk P w K mg base (L2.CX P w) k f fd ps sp ∧ Meth K C m f ∧ Binds K fd ps []
/-- a class with its __init__ -/
def GC (x : Str) (C : Addr) (k : Nat) (ps : List Str) (sp : Sp) : Prop := ∃ f fd, FnOk P w K mg base (L2.CX P w) k f fd ps sp ∧ Mk K C f ∧ mg x = some (.ref C) ∧ Binds K fd ps []
end
/-! ### calls whose errors are wished for at the slots -/
section
variable {X : Cx} {CX : CXT} {k : Nat} {f C : Addr} {fd : FuncData} {ps : List Str} {sp : Sp} {E : L2.St → XK} {x m : Str} {p pos apos : Pos} {e o : Expr} {es : List Expr} {ta : TE} {t : TA}
theorem run_at {pins : List (Addr × Obj)} {σ : L2.St} {H : Hp} {s : Shared} {Q : VK} {us : List Value} {vs : List V} (F : FnOk X.prog X.w X.K X.mg X.base CX k f fd ps sp) (hr : Room k X.A) (hb : Binds X.K fd ps []) (hx : PassesAt CX X σ (E σ))
    (I : Inv X pins σ H s) (r : Vals vs us) (h : sp vs H Q (E σ)) : wpAny (model X.prog X.w) X.A (call (.ref f) us) (EP X pins σ Q) X.xe s :=
  run_fnSD F hr hb .nil hx I r (by rw [List.append_nil]; exact h)
theorem pe_call0S (F : FnOk X.prog X.w X.K X.mg X.base CX k f fd ps sp) (hr : Room k X.A) (hg : Gl X x) (hm : X.mg x = some (.ref f)) (hk : PySem.W.keepIn X.K (.ref f) = true) (hb : Binds X.K fd ps []) (hx : ∀ σ, PassesAt CX X σ (E σ))
    (hdb : (x == ("__debug__" : Str)) = false := by decide) : PE X (.Call (.Name x p) [] [] pos) (fun σ H Q => sp [] H Q (E σ)) := by
  refine ⟨fun pins s σ H Q I h => ?_⟩
  refine wpAny_Call_Name_kw (ld_glob I hg hm ?_ hdb)
  exact PySem.W.callWith_K0 I.kIn hk (run_at (us := []) F hr hb (hx σ) I .nil h)
theorem run_makeS {pins : List (Addr × Obj)} {σ : L2.St} {H : Hp} {s : Shared} {Q : VK} {us : List Value} {vs : List V} (M : Mk X.K C f) (F : FnOk X.prog X.w X.K X.mg X.base CX k f fd ps sp) (hr : Room (k + 1) X.A) (hb : Binds X.K fd ps [])
    (hx : PassesAt CX X σ (E σ)) (I : Inv X pins σ H s) (r : Vals vs us)
    (h : ∀ x dx, H x = none → H dx = none → dx ≠ x → sp (.ref x :: vs) (upd (upd H dx (.own x)) x (.ins C dx [])) (fun v H2 => v = .non ∧ Q (.ref x) H2) (E σ)) :
    wpAny (model X.prog X.w) X.A (call (.ref C) us) (EP X pins σ Q) X.xe s := by
  have hq := h (s.heap.objs.size + 1) s.heap.objs.size (I.hok.fresh (Nat.le_succ _)) (I.hok.fresh (Nat.le_refl _)) (Nat.ne_of_lt (Nat.lt_succ_self _))
  have I2 := Inv.made (C := C) I
  have r2 : Vals (V.ref (s.heap.objs.size + 1) :: vs) (Value.ref (s.heap.objs.size + 1) :: us) := .cons rfl r
  have hl : (Value.ref (s.heap.objs.size + 1) :: us ++ []).length = ps.length := by
    rw [List.append_nil]
    have e := r2.length
    rw [F.len _ _ _ _ hq] at e
    exact e.symm
  refine wpAny_call (make_map (f := f) I.kIn M.makes M.init (beq_iff_eq.mp M.fn) (codeAny_mono (F.run _ X.stack _ _ ⟨Value.ref (s.heap.objs.size + 1) :: us, []⟩ (Value.ref (s.heap.objs.size + 1) :: us) _ _ (E σ) (hr.make C us [])
    (I2.env0.make C us []) (by have := hb _ (Value.ref (s.heap.objs.size + 1) :: us) I2.kIn hl; rw [List.append_nil] at this; exact this) r2 hq) fun r s' hq' => ?_))
  cases r with
  | error e => exact hx pins _ _ e s' I2 hq'
  | ok fl =>
    cases fl with
    | ret u =>
      obtain ⟨v, H', I3, rv, ev, q3⟩ := I2.after hq'
      subst ev
      exact ⟨rv, ⟨V.ref (s.heap.objs.size + 1), H', I3, rfl, q3⟩⟩
    | next => exact False.elim hq'
    | brk => exact False.elim hq'
    | cont => exact False.elim hq'
def tMakeS (C : Addr) (sp : Sp) (E : L2.St → XK) (t : TA) : TE := fun σ H Q => t σ H fun vs H1 => ∀ x dx, H1 x = none → H1 dx = none → dx ≠ x →
  sp (.ref x :: vs) (upd (upd H1 dx (.own x)) x (.ins C dx [])) (fun v H2 => v = .non ∧ Q (.ref x) H2) (E σ)
theorem pe_makeS (M : Mk X.K C f) (F : FnOk X.prog X.w X.K X.mg X.base CX k f fd ps sp) (hr : Room (k + 1) X.A) (hg : Gl X x) (hm : X.mg x = some (.ref C)) (hb : Binds X.K fd ps []) (hx : ∀ σ, PassesAt CX X σ (E σ))
    (ha : PA X (e :: es) t) (hdb : (x == ("__debug__" : Str)) = false := by decide) (he : starEach (e :: es) X.env = (false, eval e X.env) :: starEach es X.env := by rfl) (hpl : (backTo pos (starEach es X.env)).any (·.1) = false := by rfl) :
    PE X (.Call (.Name x p) (e :: es) [] pos) (tMakeS C sp E t) := by
  refine ⟨fun pins s σ H Q I h => ?_⟩
  refine wpAny_Call_Name_kw (ld_glob I hg hm ?_ hdb)
  refine PySem.W.callWith_K (h₀ := X.base) I.ok.mod.kin M.kp (thn (ha.run pos pins s σ H _ I h) fun us s1 ⟨vs, H1, I1, r, q⟩ => ⟨I1.kIn, ?_⟩) he hpl
  exact run_makeS M F hr hb (hx σ) I1 r q
def tMethSX (C : Addr) (m : Str) (sp : Sp) (E : L2.St → XK) (ta : TE) (t : TA) : TE := fun σ H Q => ta σ H fun x H1 => ∃ a dx fs, x = .ref a ∧ H1 a = some (.ins C dx fs) ∧ fs.lookup m = none ∧ t σ H1 fun vs H2 => sp (x :: vs) H2 Q (E σ)
theorem pe_methS' {pl : Sem Bool} (ho : PE X o ta) (c : Cls X.K C) (hm : Meth X.K C m f) (F : FnOk X.prog X.w X.K X.mg X.base CX k f fd ps sp) (hr : Room k X.A) (hb : Binds X.K fd ps []) (hx : ∀ σ, PassesAt CX X σ (E σ)) (ha : PA X (e :: es) t)
    (hst : starEach (e :: es) X.env = (false, eval e X.env) :: starEach es X.env := by rfl) (hpl : (backTo pos (starEach es X.env)).any (·.1) = false := by rfl)
    (ht : eval (.Call (.Attribute o m apos) (e :: es) [] pos) X.env = (do
      let ov ← eval o X.env
      standAt apos.atName
      let (f, first) ← holding [ov] (getMethod ov m pl)
      callWith pos f first (backTo pos (starEach (e :: es) X.env)) (backToKw pos (keywordEach [] X.env))) := by rfl) : PE X (.Call (.Attribute o m apos) (e :: es) [] pos) (tMethSX C m sp E ta t) :=
  ⟨fun pins s σ H Q I h => PySem.W.methodCall_KW (pl := pl) (thn (ho.run pins s σ H _ I h) fun u s1 ⟨y, H1, I1, ry, a, dx, fs, ey, ea, l, q⟩ => by
    subst ey
    obtain rfl : u = Value.ref a := ry
    exact getmeth_ok I1 ea c hm l (PySem.W.callWith_K (first := [.ref a]) (h₀ := X.base) I.ok.mod.kin hm.kp (thn (ha.run pos pins s1 σ H1 _ I1 q) fun us s2 ⟨vs, H2, I2, r, q2⟩ => ⟨I2.kIn, run_at (us := .ref a :: us) (vs := .ref a :: vs) F hr hb (hx σ) I2 (.cons rfl r) q2⟩) hst hpl)) ht⟩
theorem pe_meth0S {pl : Sem Bool} (ho : PE X o ta) (c : Cls X.K C) (hm : Meth X.K C m f) (F : FnOk X.prog X.w X.K X.mg X.base CX k f fd ps sp) (hr : Room k X.A) (hb : Binds X.K fd ps []) (hx : ∀ σ, PassesAt CX X σ (E σ))
    (ht : eval (.Call (.Attribute o m apos) [] [] pos) X.env = (do
      let ov ← eval o X.env
      standAt apos.atName
      let (f, first) ← holding [ov] (getMethod ov m pl)
      callWith pos f first (backTo pos (starEach [] X.env)) (backToKw pos (keywordEach [] X.env))) := by rfl) : PE X (.Call (.Attribute o m apos) [] [] pos) (tMethSX C m sp E ta tNil) :=
  ⟨fun pins s σ H Q I h => PySem.W.methodCall_KW (pl := pl) (thn (ho.run pins s σ H _ I h) fun u s1 ⟨y, H1, I1, ry, a, dx, fs, ey, ea, l, q⟩ => by
    subst ey
    obtain rfl : u = Value.ref a := ry
    exact getmeth_ok I1 ea c hm l (PySem.W.callWith_K0 (first := [.ref a]) I1.kIn hm.kp (run_at (us := [.ref a]) (vs := [.ref a]) F hr hb (hx σ) I1 (.cons rfl .nil) q))) ht⟩
end
section
variable {X : Cx} {B : Bs} {Γ : Gm} {O : Om} {e a b c o : Expr} {es : List Expr} {p pos pos' apos : Pos} {R R' : BP} {Ds : Ends} {rest body els : List Stmt} {x m f : Str} {C : Addr} {k : Nat} {ps : List Str} {W : WX} {D : Type} {As : D → List BP} {out : D → Out}

/-! ### calls -/
theorem e_call (F : GF X.prog X.w X.K X.mg X.base x k ps (spD As out)) (hr : Room k X.A) (tk : Takes X W) (d : D) (ha : AJ X B Γ O (e :: es) (As d)) (hg : Gl X x := by rfl) (hdb : (x == ("__debug__" : Str)) = false := by decide)
    (he : starEach (e :: es) X.env = (false, eval e X.env) :: starEach es X.env := by rfl) (hpl : (backTo pos (starEach es X.env)).any (·.1) = false := by rfl) : (out d).J X B Γ O W (.Call (.Name x p) (e :: es) [] pos) := by
  obtain ⟨f, fd, F, hm, hk, hb⟩ := F
  refine Out.j fun S H σ st Q q => ⟨_, pe_callSD F hr hg hm hk hb .nil (fun σ => passAt tk σ) pa_w hdb he hpl, ha S H σ st _ fun vs S1 H1 s1 r1 => ?_⟩
  refine ⟨d, S1, s1.i, ?_, q.later s1⟩
  rw [List.append_nil]
  exact r1
theorem e_call0 (F : GF X.prog X.w X.K X.mg X.base x k ps (spD As out)) (hr : Room k X.A) (tk : Takes X W) (d : D) (ha : As d = []) (hg : Gl X x := by rfl) (hdb : (x == ("__debug__" : Str)) = false := by decide) : (out d).J X B Γ O W (.Call (.Name x p) [] [] pos) := by
  obtain ⟨f, fd, F, hm, hk, hb⟩ := F
  refine Out.j fun S H σ st Q q => ⟨_, pe_call0S F hr hg hm hk hb (fun σ => passAt tk σ) hdb, d, S, st.sub, ?_, q⟩
  rw [ha]
  exact trivial
/-- C(e, ..) -/
theorem e_make (F : GC X.prog X.w X.K X.mg X.base x C k ps (spN C As out)) (hr : Room (k + 1) X.A) (tk : Takes X W) (d : D) (ha : AJ X B Γ O (e :: es) (As d)) (hg : Gl X x := by rfl) (hdb : (x == ("__debug__" : Str)) = false := by decide)
    (he : starEach (e :: es) X.env = (false, eval e X.env) :: starEach es X.env := by rfl) (hpl : (backTo pos (starEach es X.env)).any (·.1) = false := by rfl) : (out d).J X B Γ O W (.Call (.Name x p) (e :: es) [] pos) := by
  obtain ⟨f, fd, F, M, hm, hb⟩ := F
  refine Out.j fun S H σ st Q q => ⟨_, pe_makeS M F hr hg hm hb (fun σ => passAt tk σ) pa_w hdb he hpl, ha S H σ st _ fun vs S1 H1 s1 r1 => fun y dy ny ndy ne => ?_⟩
  refine ⟨d, y, dy, H1, vs, S1, ?_, rfl, ny, ndy, ne, s1.i, r1, ?_⟩
  · rfl
  · have q1 := q.later s1
    cases e : out d with
    | val R =>
      rw [e] at q1
      exact fun v S' H' s r ev => ⟨rfl, by subst ev; exact q1 _ S' H' s r⟩
    | new M =>
      rw [e] at q1
      exact fun p o S' H' s n1 n2 h1 h2 ev => ⟨rfl, by rw [← ev]; exact q1 p o S' H' s n1 n2 h1 h2⟩
    | err P =>
      rw [e] at q1
      exact q1
/-- o.m(e, ..): o an instance of C -/
def tIns (C : Addr) (m : Str) (R : BP) : Prop := ∀ S H v, R.R S H v → Same S H → ∃ a dx fs, v = .ref a ∧ H a = some (.ins C dx fs) ∧ fs.lookup m = none
theorem e_meth {pl : Sem Bool} {Ro : BP} {Rs : List BP} (c : Cls X.K C) (F : GM X.prog X.w X.K X.mg X.base C m k ps (spD As out)) (hr : Room k X.A) (tk : Takes X W) (d : D) (ho : EJ X B Γ O o Ro) (hi : tIns C m Ro) (ha : AJ X B Γ O (e :: es) Rs) (hA : As d = Ro :: Rs := by rfl)
    (hst : starEach (e :: es) X.env = (false, eval e X.env) :: starEach es X.env := by rfl) (hpl : (backTo pos (starEach es X.env)).any (·.1) = false := by rfl)
    (ht : eval (.Call (.Attribute o m apos) (e :: es) [] pos) X.env = (do
      let ov ← eval o X.env
      standAt apos.atName
      let (f, first) ← holding [ov] (getMethod ov m pl)
      callWith pos f first (backTo pos (starEach (e :: es) X.env)) (backToKw pos (keywordEach [] X.env))) := by rfl) : (out d).J X B Γ O W (.Call (.Attribute o m apos) (e :: es) [] pos) := by
  obtain ⟨f, fd, F, M, hb⟩ := F
  refine Out.j fun S H σ st Q q => ⟨_, pe_methS' pe_w c M F hr hb (fun σ => passAt tk σ) pa_w hst hpl ht, ho S H σ st _ fun v S1 H1 s1 r1 => ?_⟩
  obtain ⟨y, dy, fs, rfl, hy, hl⟩ := hi S1 H1 v r1 s1.i
  refine ⟨y, dy, fs, rfl, hy, hl, ha S1 H1 σ (st.step s1) _ fun vs S2 H2 s2 r2 => ?_⟩
  refine ⟨d, S2, s2.i, ?_, q.later (s1.trans s2)⟩
  rw [hA]
  exact ⟨Ro.up s2.s s2.h r1, r2⟩
theorem e_meth0 {pl : Sem Bool} {Ro : BP} (c : Cls X.K C) (F : GM X.prog X.w X.K X.mg X.base C m k ps (spD As out)) (hr : Room k X.A) (tk : Takes X W) (d : D) (ho : EJ X B Γ O o Ro) (hi : tIns C m Ro) (hA : As d = [Ro] := by rfl)
    (ht : eval (.Call (.Attribute o m apos) [] [] pos) X.env = (do
      let ov ← eval o X.env
      standAt apos.atName
      let (f, first) ← holding [ov] (getMethod ov m pl)
      callWith pos f first (backTo pos (starEach [] X.env)) (backToKw pos (keywordEach [] X.env))) := by rfl) : (out d).J X B Γ O W (.Call (.Attribute o m apos) [] [] pos) := by
  obtain ⟨f, fd, F, M, hb⟩ := F
  refine Out.j fun S H σ st Q q => ⟨_, pe_meth0S pe_w c M F hr hb (fun σ => passAt tk σ) ht, ho S H σ st _ fun v S1 H1 s1 r1 => ?_⟩
  obtain ⟨y, dy, fs, rfl, hy, hl⟩ := hi S1 H1 v r1 s1.i
  refine ⟨y, dy, fs, rfl, hy, hl, ?_⟩
  refine ⟨d, S1, s1.i, ?_, q.later s1⟩
  rw [hA]
  exact ⟨r1, trivial⟩
/-- a built-in function, a built-in type called -/
theorem e_callB {id : String} {r : List V → Hp → VK → Prop} {Rs : List BP} (hc : CallR X (.builtin id) r) (hm : X.mg x = none) (hv : bootBuiltins x = some (.builtin id)) (ha : AJ X B Γ O (e :: es) Rs)
    (hq : ∀ S H vs, Same S H → AllR Rs S H vs → ∀ Q : VK, (∀ v S' H', Stp S H S' H' → R.R S' H' v → Q v H') → r vs H Q) (hg : Gl X x := by rfl) (hn : x ≠ "__name__" := by decide) (hdb : (x == ("__debug__" : Str)) = false := by decide)
    (he : starEach (e :: es) X.env = (false, eval e X.env) :: starEach es X.env := by rfl) (hpl : (backTo pos (starEach es X.env)).any (·.1) = false := by rfl) : EJ X B Γ O (.Call (.Name x p) (e :: es) [] pos) R :=
  EJ.of (pe_callB hc hg hm hv pa_w hn hdb he hpl) fun S H σ st Q q => ha S H σ st _ fun vs S1 H1 s1 r1 => hq S1 H1 vs s1.i r1 Q fun v S' H' s r => q v S' H' (s1.trans s) r
theorem e_callTy {T : String} {r : List V → Hp → VK → Prop} {Rs : List BP} (hc : CallR X (.type T) r) (hm : X.mg x = none) (hv : bootBuiltins x = some (.type T)) (ha : AJ X B Γ O (e :: es) Rs)
    (hq : ∀ S H vs, Same S H → AllR Rs S H vs → ∀ Q : VK, (∀ v S' H', Stp S H S' H' → R.R S' H' v → Q v H') → r vs H Q) (hg : Gl X x := by rfl) (hn : x ≠ "__name__" := by decide) (hdb : (x == ("__debug__" : Str)) = false := by decide)
    (he : starEach (e :: es) X.env = (false, eval e X.env) :: starEach es X.env := by rfl) (hpl : (backTo pos (starEach es X.env)).any (·.1) = false := by rfl) : EJ X B Γ O (.Call (.Name x p) (e :: es) [] pos) R :=
  EJ.of (pe_callTy hc hg hm hv pa_w hn hdb he hpl) fun S H σ st Q q => ha S H σ st _ fun vs S1 H1 s1 r1 => hq S1 H1 vs s1.i r1 Q fun v S' H' s r => q v S' H' (s1.trans s) r
theorem AllR.one {S H : Hp} {vs : List V} (h : AllR [R] S H vs) : ∃ v, vs = [v] ∧ R.R S H v := match vs, h with
  | [v], h => ⟨v, rfl, h.1⟩
  | [], h => h.elim
  | _ :: _ :: _, h => h.2.elim
theorem AllR.two {S H : Hp} {vs : List V} (h : AllR [R, R'] S H vs) : ∃ v w, vs = [v, w] ∧ R.R S H v ∧ R'.R S H w := match vs, h with
  | [v, w], h => ⟨v, w, rfl, h.1, h.2.1⟩
  | [], h => h.elim
  | [_], h => h.2.elim
  | _ :: _ :: _ :: _, h => h.2.2.elim
theorem e_abs {i : Int} (hm : X.mg "abs" = none) (ha : EJ X B Γ O e (bI i)) (hg : Gl X "abs" := by rfl) (hs : starEach [e] X.env = (false, eval e X.env) :: starEach [] X.env := by rfl) : EJ X B Γ O (.Call (.Name "abs" p) [e] [] pos) (bI (if i < 0 then -i else i)) :=
  e_callB call_abs hm (by decide +kernel) (a_cons ha a_nil hs) (fun S H vs sm r Q q => by
    obtain ⟨v, rfl, h⟩ := r.one
    cases h
    exact ⟨i, rfl, q _ S H (Stp.refl sm) rfl⟩) hg (by decide) (by decide) hs rfl
theorem e_intI {i : Int} (hm : X.mg "int" = none) (ha : EJ X B Γ O e (bI i)) (hg : Gl X "int" := by rfl) (hs : starEach [e] X.env = (false, eval e X.env) :: starEach [] X.env := by rfl) : EJ X B Γ O (.Call (.Name "int" p) [e] [] pos) (bI i) :=
  e_callTy call_int1 hm (by decide +kernel) (a_cons ha a_nil hs) (fun S H vs sm r Q q => by
    obtain ⟨v, rfl, h⟩ := r.one
    cases h
    exact .inl ⟨i, rfl, q _ S H (Stp.refl sm) rfl⟩) hg (by decide) (by decide) hs rfl
theorem e_intB {i : Bool} (hm : X.mg "int" = none) (ha : EJ X B Γ O e (bB i)) (hg : Gl X "int" := by rfl) (hs : starEach [e] X.env = (false, eval e X.env) :: starEach [] X.env := by rfl) : EJ X B Γ O (.Call (.Name "int" p) [e] [] pos) (bI (if i then 1 else 0)) :=
  e_callTy call_int1 hm (by decide +kernel) (a_cons ha a_nil hs) (fun S H vs sm r Q q => by
    obtain ⟨v, rfl, h⟩ := r.one
    cases h
    exact .inr ⟨i, rfl, q _ S H (Stp.refl sm) rfl⟩) hg (by decide) (by decide) hs rfl
theorem e_boolI {i : Int} (hm : X.mg "bool" = none) (ha : EJ X B Γ O e (bI i)) (hg : Gl X "bool" := by rfl) (hs : starEach [e] X.env = (false, eval e X.env) :: starEach [] X.env := by rfl) : EJ X B Γ O (.Call (.Name "bool" p) [e] [] pos) (bB (i != 0)) :=
  e_callTy call_bool1 hm (by decide +kernel) (a_cons ha a_nil hs) (fun S H vs sm r Q q => by
    obtain ⟨v, rfl, h⟩ := r.one
    cases h
    exact .inl ⟨i, rfl, q _ S H (Stp.refl sm) rfl⟩) hg (by decide) (by decide) hs rfl

/-! ### fields -/
/-- an instance of C with these fields -/
def FldR : List (Str × MP) → Hp → List (Str × V) → Prop
  | [], _, [] => True
  | (f, R) :: Rs, S, (g, v) :: vs => f = g ∧ R.R S v ∧ FldR Rs S vs
  | _, _, _ => False
theorem FldR.up : ∀ {Rs : List (Str × MP)} {S S' : Hp} {vs : List (Str × V)}, Same S S' → FldR Rs S vs → FldR Rs S' vs
  | [], _, _, [], _, _ => trivial
  | [], _, _, _ :: _, _, h => h.elim
  | _ :: _, _, _, [], _, h => h.elim
  | (_, R) :: Rs, _, _, (_, v) :: vs, e, h => ⟨h.1, R.up e h.2.1, FldR.up e h.2.2⟩
theorem FldR.get : ∀ {Rs : List (Str × MP)} {S : Hp} {vs : List (Str × V)} {f : Str} {R : MP}, FldR Rs S vs → Rs.lookup f = some R → ∃ v, vs.lookup f = some v ∧ R.R S v
  | [], _, [], _, _, _, h => by cases h
  | [], _, _ :: _, _, _, h, _ => h.elim
  | _ :: _, _, [], _, _, h, _ => h.elim
  | (g, Q) :: Rs, S, (g', v) :: vs, f, R, h, e => by
    obtain ⟨rfl, h1, h2⟩ := h
    rw [List.lookup_cons] at e ⊢
    cases q : (f == g) with
    | true =>
      rw [q] at e
      cases e
      exact ⟨v, rfl, h1⟩
    | false =>
      rw [q] at e
      exact FldR.get h2 e
theorem FldR.none : ∀ {Rs : List (Str × MP)} {S : Hp} {vs : List (Str × V)} {f : Str}, FldR Rs S vs → Rs.lookup f = none → vs.lookup f = none
  | [], _, [], _, _, _ => rfl
  | [], _, _ :: _, _, h, _ => h.elim
  | _ :: _, _, [], _, h, _ => h.elim
  | (g, Q) :: Rs, S, (g', v) :: vs, f, h, e => by
    obtain ⟨rfl, h1, h2⟩ := h
    rw [List.lookup_cons] at e ⊢
    cases q : (f == g) with
    | true =>
      rw [q] at e
      cases e
    | false =>
      rw [q] at e
      exact FldR.none h2 e
theorem FldR.len : ∀ {Rs : List (Str × MP)} {S : Hp} {vs : List (Str × V)}, FldR Rs S vs → vs.length = Rs.length
  | [], _, [], _ => rfl
  | [], _, _ :: _, h => h.elim
  | _ :: _, _, [], h => h.elim
  | _ :: Rs, _, _ :: vs, h => congrArg Nat.succ (FldR.len h.2.2)
def tO (C : Addr) (Rs : List (Str × MP)) : MP := ⟨fun S v => ∃ a dx fs, v = .ref a ∧ S a = some (.ins C dx fs) ∧ S dx = some (.own a) ∧ FldR Rs S fs,
  fun {S S' v} e ⟨a, dx, fs, h1, h2, h3, h4⟩ => ⟨a, dx, fs, h1, e _ _ h2, e _ _ h3, h4.up e⟩⟩
theorem tO.ins {Rs : List (Str × MP)} (h : Rs.lookup m = none := by first | rfl | decide +kernel) : tIns C m (tO C Rs).b := fun S H v ⟨a, dx, fs, h1, h2, _, h4⟩ sm => ⟨a, dx, fs, h1, sm _ _ h2, h4.none h⟩
/-- e.f -/
theorem e_fld {Rs : List (Str × MP)} {R : MP} (c : Cls X.K C) (n : NoAttr X.K C f) (he : EJ X B Γ O e (tO C Rs).b) (hf : Rs.lookup f = some R := by rfl) (hb : attributeBase e f X.env (eval e X.env) = eval e X.env := by rfl) : EJ X B Γ O (.Attribute e f pos) R.b :=
  EJ.of (pe_fld pe_w hb) fun S H σ st Q k => he S H σ st _ fun v S1 H1 s1 ⟨a, dx, fs, h1, h2, h3, h4⟩ => by
    obtain ⟨w, h5, h6⟩ := h4.get hf
    exact ⟨a, C, dx, fs, w, h1, s1.i _ _ h2, c, n, h5, k w S1 H1 s1 h6⟩

/-! ### self in __init__ -/
/-- the instance that is being made -/
def mIns (C dx : Addr) (Rs : List (Str × MP)) : MO := ⟨fun S o => ∃ fs, o = .ins C dx fs ∧ FldR Rs S fs, fun e ⟨fs, h1, h2⟩ => ⟨fs, h1, h2.up e⟩⟩
def mOwn (x : Addr) : MO := ⟨fun _ o => o = .own x, fun _ h => h⟩
theorem FldR.put {f : Str} {R : MP} {v : V} : ∀ {Rs : List (Str × MP)} {S : Hp} {vs : List (Str × V)}, FldR Rs S vs → Rs.lookup f = Option.none → R.R S v → FldR (Rs ++ [(f, R)]) S (putF f v vs)
  | [], _, [], _, _, h => ⟨rfl, h, trivial⟩
  | [], _, _ :: _, h, _, _ => h.elim
  | _ :: _, _, [], h, _, _ => h.elim
  | (g, Q) :: Rs, S, (g', w) :: vs, h, e, hv => by
    obtain ⟨rfl, h1, h2⟩ := h
    rw [List.lookup_cons] at e
    have ne : ¬ g = f := fun z => by
      subst z
      simp at e
    have e' : Rs.lookup f = Option.none := by
      cases q : (f == g) with
      | true => rw [q] at e; cases e
      | false => rw [q] at e; exact e
    show FldR ((g, Q) :: (Rs ++ [(f, R)])) S (if g = f then _ else (g, w) :: putF f v vs)
    rw [if_neg ne]
    exact ⟨rfl, h1, FldR.put h2 e' hv⟩
/-- self.f = e -/
theorem s_fld {i : Nat} {x dx : Addr} {nm : Str} {Rs Rs' : List (Str × MP)} {R : MP} {O' : Om} (cl : Cls X.K C) (n : NoAttr X.K C f) (he : EJ X B Γ ((x, mIns C dx Rs) :: O') e R.b) (h : SJ X B Γ ((x, mIns C dx Rs') :: O') rest Ds)
    (hG : Γ[i]? = some (some (tR x)) := by rfl) (hN : X.N[i]? = some nm := by rfl) (hR : Rs ++ [(f, R)] = Rs' := by rfl) (hl : Rs.lookup f = none := by first | rfl | decide +kernel) (hz : Rs.length < 100 := by exact Nat.le_of_ble_eq_true rfl) (hv : Vis X.env.scope nm := by first | exact Or.inl rfl | exact Or.inr (Or.inl rfl) | exact Or.inr (Or.inr rfl))
    (hd : (nm == ("__debug__" : Str)) = false := by decide) (hcd : (nm == ("__classdict__" : Str)) = false := by decide)
    (hs : swapsWith e (some (.Attribute (.Name nm p) f pos')) pos.line X.env = pure false := by rfl) : SJ X B Γ ((x, mIns C dx Rs) :: O') (.Assign [.Attribute (.Name nm p) f pos'] e pos :: rest) Ds :=
  SJ.cons fun S H σ st => ⟨_, ps_fld (pe_var hN hv hd hcd) pe_w hs, he S H σ st _ fun v S1 H1 s1 r1 => by
    have t := st.step s1
    obtain ⟨w, h1, h2⟩ := t.slot i _ hG
    obtain ⟨h3, h3', o, h4, fs, rfl, h5⟩ := t.own _ List.mem_cons_self
    refine ⟨w, h1, x, C, dx, fs, h2, h4, cl, n, by rw [h5.len]; omega, h S1 _ σ ?_⟩
    have nx : ∀ q ∈ O', q.1 ≠ x := fun q hq z => by
      have := t.nd
      rw [List.map_cons] at this
      exact (List.nodup_cons.mp this).1 (List.mem_map.mpr ⟨q, hq, z⟩)
    refine ⟨⟨t.st.s, fun a u z => ?_, fun a u z => ?_, t.st.fr⟩, t.slot, t.len, fun q hq => ?_, t.nd, t.gh⟩
    · have : a ≠ x := fun y => by subst y; rw [h3] at z; cases z
      rw [upd_ne this]
      exact t.sub a u z
    · have : a ≠ x := fun y => by subst y; rw [h3'] at z; cases z
      rw [upd_ne this]
      exact t.st.h a u z
    · rcases List.mem_cons.mp hq with z | hq
      · subst z
        exact ⟨h3, h3', _, upd_same, _, rfl, hR ▸ h5.put hl r1⟩
      · obtain ⟨g1, g2, u, g3, g4⟩ := t.own q (List.mem_cons_of_mem _ hq)
        exact ⟨g1, g2, u, by rw [upd_ne (nx q hq)]; exact g3, g4⟩⟩
/-- at the end of __init__ the instance is settled -/
theorem NX.made {x dx : Addr} {Rs : List (Str × MP)} {O' : Om} {Q : VK} {E : XK} (hQ : (Out.val (tO C Rs)).thn B.S B.H (fun v H' => v = .ref x → Q .non H') E) : NX B Γ ((x, mIns C dx Rs) :: (dx, mOwn x) :: O') (fun _ H' => Q .non H') := fun S H σ t => by
  obtain ⟨h3, h3', o, h4, fs, rfl, h5⟩ := t.own _ List.mem_cons_self
  obtain ⟨g3, g3', u, g4, rfl⟩ := t.own _ (List.mem_cons_of_mem _ List.mem_cons_self)
  have ne : dx ≠ x := by
    have := t.nd
    rw [List.map_cons, List.map_cons] at this
    exact fun z => (List.nodup_cons.mp this).1 (by subst z; exact List.mem_cons_self)
  have s1 : Same S (upd (upd S dx (.own x)) x (.ins C dx fs)) := fun a u z => by
    rw [upd_ne (ne_of_none z h3), upd_ne (ne_of_none z g3)]
    exact z
  refine hQ (.ref x) (upd (upd S dx (.own x)) x (.ins C dx fs)) H ⟨t.st.s.trans s1, fun a u z => ?_, t.st.h, fun a z1 z2 => ?_⟩ ⟨x, dx, fs, rfl, upd_same, by rw [upd_ne ne, upd_same], h5.up s1⟩ rfl
  · by_cases q : a = x
    · subst q; rw [upd_same] at z; cases z; exact h4
    · rw [upd_ne q] at z
      by_cases q : a = dx
      · subst q; rw [upd_same] at z; cases z; exact g4
      · rw [upd_ne q] at z; exact t.sub a u z
  · rw [upd_ne (fun y => by subst y; exact z2 h3'), upd_ne (fun y => by subst y; exact z2 g3')]
    exact t.st.fr a z1 z2
end

/-! ### defs -/
section
variable {P : Program} {w : World} {K : PySem.W.Frag} {mg : Str → Option Value} {base : Heap} {x qual : Str} {params : Arguments} {body : List Stmt} {scope : Scope} {kws : List (Str × V)} {f : Addr} {fd : FuncData}
theorem tk_cx {N : List Str} {cd : Value} {A : Around} {outer : List Env} {s : Shared} {H : Hp} {E : XK} : Takes (cxOf (L2.CX P w) P w K mg base N qual scope f cd A outer s H E) (fun c d _ H => E c d H) := takes_of rfl rfl rfl rfl
theorem own_cx {N : List Str} {cd : Value} {A : Around} {outer : List Env} {s : Shared} {H : Hp} {E : XK} : PassesOwn (model P w) (cxOf (L2.CX P w) P w K mg base N qual scope f cd A outer s H E).A (cxOf (L2.CX P w) P w K mg base N qual scope f cd A outer s H E).env (cxOf (L2.CX P w) P w K mg base N qual scope f cd A outer s H E).xe :=
  passes_of (K := fun e s'' => L2.CX P w outer H s E e s'') rfl
theorem pass_none {X : Cx} : Passes (L2.CX X.prog X.w) X E0 := passL
def gm0 (N : List Str) (As : List BP) (H0 : Hp) : Gm := As.map (fun a => some (a.at_ H0)) ++ List.replicate (N.length - As.length) none
theorem slot0 : ∀ {As : List BP} {S H : Hp} {vs : List V}, AllR As S H vs → ∀ (n : Nat) (i : Nat) (R : MP), (As.map (fun a => some (a.at_ H)) ++ List.replicate n none)[i]? = some (some R) → ∃ v, (vs.map some ++ List.replicate n none)[i]? = some (some v) ∧ R.R S v
  | [], _, _, [], _, n, i, R, e => by
    rw [List.map_nil, List.nil_append] at e
    have := List.mem_of_getElem? e
    rw [List.mem_replicate] at this
    cases this.2
  | [], _, _, _ :: _, h, _, _, _, _ => h.elim
  | _ :: _, _, _, [], h, _, _, _, _ => h.elim
  | A :: As, S, H, v :: vs, h, n, i, R, e => by
    cases i with
    | zero =>
      have e2 : A.at_ H = R := Option.some.inj (Option.some.inj e)
      subst e2
      exact ⟨v, rfl, h.1⟩
    | succ i => exact slot0 h.2 n i R e
theorem stt0 {N : List Str} {As : List BP} {S H : Hp} {vs : List V} (sm : Same S H) (h : AllR As S H vs) : Stt ⟨S, H, .yes⟩ (gm0 N As H) [] S H (start N vs) where
  st := Stp.refl sm
  slot := fun i R e => by
    unfold L2.start
    rw [h.length]
    exact slot0 h _ i R e
  len := by
    unfold L2.start gm0
    rw [List.length_append, List.length_append, List.length_map, List.length_map, List.length_replicate, List.length_replicate, h.length]
  own := fun q hq => by cases hq
  nd := List.nodup_nil
  gh := trivial
/-- THE RULE for a def -/
theorem fun_ok {D : Type} {As : D → List BP} {out : D → Out} {N ps : List Str} {k : Nat} (F : FunD K x qual params body scope [] kws f fd) (Sc : FnScope N ps scope) (hl : ∀ d, (As d).length = ps.length)
    (hb : ∀ (cdv : Value) (A : Around) (outer : List Env) (s : Shared) (H S : Hp) (Q : VK) (E : XK) (d : D), Room k (A.deeper (envOfC qual scope s.heap.objs.size f cdv)) → (out d).thn S H Q E →
      SJ (cxOf (L2.CX P w) P w K mg base N qual scope f cdv A outer s H E) ⟨S, H, .yes⟩ (gm0 N (As d) H) [] body { nx := fun _ H' => Q .non H', rt := Q }) : FnOk P w K mg base (L2.CX P w) (k + 1) f fd ps (spD As out) := by
  refine F.ok Sc (fun vs H Q E h => ?_) (fun cdv A outer s H vs Q E hr h => ?_)
  · obtain ⟨d, S, _, r, _⟩ := h
    rw [r.length, hl]
  · obtain ⟨d, S, sm, r, q⟩ := h
    exact hb cdv A outer s H S Q E d hr q S H _ (stt0 sm r)
/-- .. for an __init__ -/
theorem init_ok {D : Type} {C : Addr} {As : D → List BP} {out : D → Out} {N ps : List Str} {self : Str} {k : Nat} (F : FunD K x qual params body scope [] kws f fd) (Sc : FnScope N (self :: ps) scope) (hl : ∀ d, (As d).length = ps.length)
    (hb : ∀ (cdv : Value) (A : Around) (outer : List Env) (s : Shared) (H S : Hp) (x dx : Addr) (Q : VK) (E : XK) (d : D), Room k (A.deeper (envOfC qual scope s.heap.objs.size f cdv)) → (out d).thn S H (fun v H' => v = .ref x → Q .non H') E →
      SJ (cxOf (L2.CX P w) P w K mg base N qual scope f cdv A outer s (upd (upd H dx (.own x)) x (.ins C dx [])) E) ⟨S, H, .yes⟩ (some (tR x) :: gm0 N.tail (As d) H) [(x, mIns C dx []), (dx, mOwn x)] body { nx := fun _ H' => Q .non H', rt := Q }) : FnOk P w K mg base (L2.CX P w) (k + 1) f fd (self :: ps) (spN C As out) := by
  refine F.ok Sc (fun vs H Q E h => ?_) (fun cdv A outer s H vs Q E hr h => ?_)
  · obtain ⟨d, x, dx, H1, ws, S, rfl, _, _, _, _, _, r, _⟩ := h
    rw [List.length_cons, r.length, hl, List.length_cons]
  · obtain ⟨d, x, dx, H1, ws, S, rfl, rfl, nx, ndx, ne, sm, r, q⟩ := h
    have t := stt0 (N := N.tail) sm r
    refine hb cdv A outer s H1 S x dx Q E d hr q S _ _ ?_
    have s1 : Stp S H1 S (upd H1 dx (.own x)) := Stp.own sm ndx
    have nx1 : upd H1 dx (.own x) x = none := by rw [upd_ne (Ne.symm ne)]; exact nx
    have s2 : Stp S (upd H1 dx (.own x)) S (upd (upd H1 dx (.own x)) x (.ins C dx [])) := Stp.own s1.i nx1
    have eN : N = self :: N.tail := by
      have := Sc.pre
      cases N with
      | nil => cases this
      | cons a N => rw [List.length_cons, List.take_succ_cons] at this; rw [(List.cons.inj this).1]; rfl
    have es : start N (.ref x :: ws) = some (.ref x) :: start N.tail ws := by
      rw [eN]
      unfold L2.start
      rw [List.map_cons, List.length_cons, List.length_cons, Nat.add_sub_add_right, List.cons_append]
      rfl
    rw [es]
    refine ⟨s1.trans s2, fun i R e => ?_, congrArg Nat.succ t.len, fun z hz => ?_, ?_, trivial⟩
    · cases i with
      | zero =>
        have e2 : tR x = R := Option.some.inj (Option.some.inj e)
        subst e2
        exact ⟨_, rfl, rfl⟩
      | succ i => exact t.slot i R e
    · rcases List.mem_cons.mp hz with z1 | hz
      · subst z1
        exact ⟨sm.free nx, nx, _, upd_same, [], rfl, trivial⟩
      · rcases List.mem_cons.mp hz with z1 | hz
        · subst z1
          exact ⟨sm.free ndx, ndx, _, by rw [upd_ne ne, upd_same], rfl⟩
        · cases hz
    · show [x, dx].Nodup
      simp [Ne.symm ne]
end
end OT
/-! Lists, tuples, loops, draws. -/
namespace OT
open PySem PySem.Spec PyProof.Rows L2

/-! ### items -/
def AllM : List MP → Hp → List V → Prop
  | [], _, [] => True
  | R :: Rs, S, v :: vs => R.R S v ∧ AllM Rs S vs
  | _, _, _ => False
theorem AllM.up : ∀ {Rs : List MP} {S S' : Hp} {vs : List V}, Same S S' → AllM Rs S vs → AllM Rs S' vs
  | [], _, _, [], _, _ => trivial
  | [], _, _, _ :: _, _, h => h.elim
  | _ :: _, _, _, [], _, h => h.elim
  | R :: Rs, _, _, v :: vs, e, h => ⟨R.up e h.1, AllM.up e h.2⟩
theorem AllM.length : ∀ {Rs : List MP} {S : Hp} {vs : List V}, AllM Rs S vs → vs.length = Rs.length
  | [], _, [], _ => rfl
  | [], _, _ :: _, h => h.elim
  | _ :: _, _, [], h => h.elim
  | R :: Rs, _, v :: vs, h => congrArg Nat.succ (AllM.length h.2)
theorem AllM.get : ∀ {Rs : List MP} {S : Hp} {vs : List V} {i : Nat} {R : MP}, AllM Rs S vs → Rs[i]? = some R → ∃ v, vs[i]? = some v ∧ R.R S v
  | [], _, _, _, _, _, e => by simp at e
  | _ :: _, _, [], _, _, h, _ => h.elim
  | Q :: Rs, _, v :: vs, 0, R, h, e => by
    simp at e; subst e; exact ⟨v, rfl, h.1⟩
  | Q :: Rs, _, v :: vs, i + 1, R, h, e => by
    have e2 : Rs[i]? = some R := by simpa using e
    obtain ⟨w, h1, h2⟩ := AllM.get h.2 e2
    exact ⟨w, by simpa using h1, h2⟩
theorem AllM.got : ∀ {Rs : List MP} {S : Hp} {vs : List V} {i : Nat} {v : V}, AllM Rs S vs → vs[i]? = some v → ∃ R, Rs[i]? = some R ∧ R.R S v
  | _, _, [], _, _, _, e => by simp at e
  | [], _, _ :: _, _, _, h, _ => h.elim
  | Q :: Rs, _, w :: vs, 0, v, h, e => by
    simp at e; subst e; exact ⟨Q, rfl, h.1⟩
  | Q :: Rs, _, w :: vs, i + 1, v, h, e => by
    have e2 : vs[i]? = some v := by simpa using e
    obtain ⟨R, h1, h2⟩ := AllM.got h.2 e2
    exact ⟨R, by simpa using h1, h2⟩
theorem AllM.append : ∀ {Rs Qs : List MP} {S : Hp} {vs ws : List V}, AllM Rs S vs → AllM Qs S ws → AllM (Rs ++ Qs) S (vs ++ ws)
  | [], _, _, [], _, _, h => h
  | [], _, _, _ :: _, _, h, _ => h.elim
  | _ :: _, _, _, [], _, h, _ => h.elim
  | R :: Rs, _, _, v :: vs, _, h, h' => ⟨h.1, AllM.append h.2 h'⟩
theorem AllM.set {R : MP} {v : V} : ∀ {Rs : List MP} {S : Hp} {vs : List V} (i : Nat), AllM Rs S vs → R.R S v → AllM (Rs.set i R) S (vs.set i v)
  | [], _, [], _, _, _ => trivial
  | [], _, _ :: _, _, h, _ => h.elim
  | _ :: _, _, [], _, h, _ => h.elim
  | Q :: Rs, _, w :: vs, 0, h, hv => ⟨hv, h.2⟩
  | Q :: Rs, _, w :: vs, i + 1, h, hv => ⟨h.1, AllM.set i h.2 hv⟩
theorem AllM.ofR : ∀ {Rs : List MP} {S H : Hp} {vs : List V}, AllR (Rs.map MP.b) S H vs → AllM Rs S vs
  | [], _, _, [], _ => trivial
  | [], _, _, _ :: _, h => h.elim
  | _ :: _, _, _, [], h => h.elim
  | R :: Rs, _, _, v :: vs, h => ⟨h.1, AllM.ofR h.2⟩
theorem Same.tup {K : PySem.W.Frag} {H H' : Hp} {a : Addr} {xs : List V} (e : Same H H') (h : SqT K H a xs) : SqT K H' a xs := by
  rcases h with (h | ⟨o, h⟩) | h
  · exact .inl (.inl (e _ _ h))
  · exact .inl (.inr ⟨o, e _ _ h⟩)
  · exact .inr h
/-- a settled list; a lent one; a tuple; one's own list -/
def tL (K : PySem.W.Frag) (Rs : List MP) : MP := ⟨fun S v => ∃ a vs, v = .ref a ∧ SqL K S a vs ∧ AllM Rs S vs, fun e ⟨a, vs, h1, h2, h3⟩ => ⟨a, vs, h1, e.seq h2, h3.up e⟩⟩
def bL (K : PySem.W.Frag) (Rs : List MP) : BP := ⟨fun S H v => ∃ a vs, v = .ref a ∧ SqL K H a vs ∧ AllM Rs S vs, fun e e' ⟨a, vs, h1, h2, h3⟩ => ⟨a, vs, h1, e'.seq h2, h3.up e⟩⟩
def tT (K : PySem.W.Frag) (Rs : List MP) : MP := ⟨fun S v => ∃ a vs, v = .ref a ∧ SqT K S a vs ∧ AllM Rs S vs, fun e ⟨a, vs, h1, h2, h3⟩ => ⟨a, vs, h1, Same.tup e h2, h3.up e⟩⟩
def mL (Rs : List MP) : MO := ⟨fun S o => ∃ vs, o = .lst vs ∧ AllM Rs S vs, fun e ⟨vs, h1, h2⟩ => ⟨vs, h1, h2.up e⟩⟩
/-- a lent list or a tuple -/
def bQ (K : PySem.W.Frag) (Rs : List MP) : BP := ⟨fun S H v => ∃ a vs, v = .ref a ∧ (SqL K H a vs ∨ SqT K H a vs) ∧ AllM Rs S vs, fun e e' ⟨a, vs, h1, h2, h3⟩ => ⟨a, vs, h1, h2.elim (fun h => .inl (e'.seq h)) (fun h => .inr (Same.tup e' h)), h3.up e⟩⟩

section
variable {X : Cx} {B : Bs} {Γ : Gm} {O : Om} {e a b c o l : Expr} {es : List Expr} {p pos pos' apos : Pos} {R R' : BP} {D : Ends} {rest body els : List Stmt} {x m f : Str} {Rs : List MP}
theorem EJ.impS (h : EJ X B Γ O e R) (i : ∀ S H v, Same S H → R.R S H v → R'.R S H v) : EJ X B Γ O e R' := fun S H σ st Q k => h S H σ st Q fun v S' H' s r => k v S' H' s (i _ _ _ s.i r)
theorem EJ.lent (h : EJ X B Γ O e (tL X.K Rs).b) : EJ X B Γ O e (bL X.K Rs) := h.impS fun S H v sm ⟨a, vs, h1, h2, h3⟩ => ⟨a, vs, h1, sm.seq h2, h3⟩
theorem EJ.lentO (h : EJ X B Γ O e (mL Rs).b) : EJ X B Γ O e (bL X.K Rs) := h.imp fun S H v ⟨p, o, h1, h2, vs, h3, h4⟩ => ⟨p, vs, h1, .inl (.inl (h3 ▸ h2)), h4⟩
theorem EJ.lentQ (h : EJ X B Γ O e (bL X.K Rs)) : EJ X B Γ O e (bQ X.K Rs) := h.imp fun S H v ⟨p, o, h1, h2, h3⟩ => ⟨p, o, h1, .inl h2, h3⟩
theorem EJ.lentT (h : EJ X B Γ O e (tT X.K Rs).b) : EJ X B Γ O e (bQ X.K Rs) := h.impS fun S H v sm ⟨a, vs, h1, h2, h3⟩ => ⟨a, vs, h1, .inr (Same.tup sm h2), h3⟩
/-- a lent name of an object of one's own -/
theorem e_lst_own (i : Nat) {p : Addr} {x : Str} (hO : (p, mL Rs) ∈ O) (hG : Γ[i]? = some (some (tR p)) := by rfl) (hN : X.N[i]? = some x := by rfl) (hv : Vis X.env.scope x := by first | exact Or.inl rfl | exact Or.inr (Or.inl rfl) | exact Or.inr (Or.inr rfl))
    (hd : (x == ("__debug__" : Str)) = false := by decide) (hcd : (x == ("__classdict__" : Str)) = false := by decide) : EJ X B Γ O (.Name x pos) (bL X.K Rs) := (e_own i hG hO hN hv hd hcd).lentO
/-! ### displays -/
theorem e_tup {k} (h : AJ X B Γ O es (Rs.map MP.b)) (hz : Rs.length ≤ 1000 := by exact Nat.le_of_ble_eq_true rfl) : EJ X B Γ O (.Tuple es k pos) (tT X.K Rs).b :=
  EJ.of (pe_tup pa_w) fun S H σ st Q q => h S H σ st _ fun vs S1 H1 s1 r1 => by
    have r := AllM.ofR r1
    refine ⟨by rw [r.length]; exact Nat.le_trans hz (by decide), fun p hp => ?_⟩
    have s2 := Stp.put (o := .tup vs) s1.i hp
    exact q _ _ _ (s1.trans s2) ⟨p, vs, rfl, .inl (.inl upd_same), r.up s2.s⟩
theorem n_lst (h : AJ X B Γ O es (Rs.map MP.b)) (hz : Rs.length ≤ 1000 := by exact Nat.le_of_ble_eq_true rfl) : NJ X B Γ O (.List es pos) (mL Rs) := fun S H σ st Q q =>
  ⟨_, pe_lst pa_w, h S H σ st _ fun vs S1 H1 s1 r1 => by
    have r := AllM.ofR r1
    refine ⟨by rw [r.length]; exact Nat.le_trans hz (by decide), fun p hp => ?_⟩
    have s2 := Stp.own (o := .lst vs) s1.i hp
    exact q p _ _ _ (s1.trans s2) (s1.h.free hp) (s1.i.free hp) upd_same ⟨vs, rfl, r⟩⟩
/-- a new object that nobody changes any more -/
theorem NJ.settle {M : MO} (h : NJ X B Γ O e M) : EJ X B Γ O e M.pub.b := fun S H σ st Q q => h S H σ st Q fun p o S1 H1 s1 n1 n2 h1 h2 => by
  have s2 : Same S1 (upd S1 p o) := fun a u z => by rw [upd_ne (ne_of_none z n2)]; exact z
  refine q (.ref p) (upd S1 p o) H1 ⟨s1.s.trans s2, fun a u z => ?_, s1.h, fun a z1 z2 => ?_⟩ ⟨p, o, rfl, upd_same, M.up s2 h2⟩
  · by_cases y : a = p
    · subst y; rw [upd_same] at z; cases z; exact h1
    · rw [upd_ne y] at z; exact s1.i a u z
  · rw [upd_ne (fun y => by subst y; exact z2 n1)]
    exact s1.fr a z1 z2
theorem NJ.settleL (h : NJ X B Γ O e (mL Rs)) : EJ X B Γ O e (tL X.K Rs).b := h.settle.imp fun S H v ⟨p, o, h1, h2, vs, h3, h4⟩ => ⟨p, vs, h1, .inl (.inl (h3 ▸ h2)), h4⟩
theorem e_lst (h : AJ X B Γ O es (Rs.map MP.b)) (hz : Rs.length ≤ 1000 := by exact Nat.le_of_ble_eq_true rfl) : EJ X B Γ O (.List es pos) (tL X.K Rs).b := (n_lst h hz).settleL
/-! ### items -/
theorem e_ixL {i : Int} {R : MP} (h : EJ X B Γ O a (bL X.K Rs)) (hi : EJ X B Γ O b (bI i)) (hg : atI Rs i = some R) (hs : PlainIx b := by exact fun _ _ => rfl) : EJ X B Γ O (.Subscript a b pos) R.b :=
  EJ.of (pe_ix ix_list pe_w pe_w hs) fun S H σ st Q q => h S H σ st _ fun v S1 H1 s1 r1 => hi S1 H1 σ (st.step s1) _ fun w S2 H2 s2 r2 => by
    obtain ⟨p, vs, rfl, h2, h3⟩ := (bL X.K Rs).up s2.s s2.h r1
    cases r2
    unfold atI at hg
    cases hn : ixN Rs.length i with
    | none => rw [hn] at hg; cases hg
    | some j =>
      rw [hn] at hg
      obtain ⟨v, h4, h5⟩ := h3.get hg
      refine ⟨p, vs, i, v, rfl, rfl, h2, ?_, q v S2 H2 (s1.trans s2) h5⟩
      unfold atI
      rw [h3.length, hn]
      exact h4
theorem e_ixT {i : Int} {R : MP} (h : EJ X B Γ O a (tT X.K Rs).b) (hi : EJ X B Γ O b (bI i)) (hg : atI Rs i = some R) (hs : PlainIx b := by exact fun _ _ => rfl) : EJ X B Γ O (.Subscript a b pos) R.b :=
  EJ.of (pe_ix ix_tup pe_w pe_w hs) fun S H σ st Q q => h S H σ st _ fun v S1 H1 s1 r1 => hi S1 H1 σ (st.step s1) _ fun w S2 H2 s2 r2 => by
    obtain ⟨p, vs, rfl, h2, h3⟩ := (tT X.K Rs).up s2.s r1
    cases r2
    unfold atI at hg
    cases hn : ixN Rs.length i with
    | none => rw [hn] at hg; cases hg
    | some j =>
      rw [hn] at hg
      obtain ⟨v, h4, h5⟩ := h3.get hg
      refine ⟨p, vs, i, v, rfl, rfl, Same.tup s2.i h2, ?_, q v S2 H2 (s1.trans s2) h5⟩
      unfold atI
      rw [h3.length, hn]
      exact h4
theorem e_len (hm : X.mg "len" = none) (ha : EJ X B Γ O e (bQ X.K Rs)) (hg : Gl X "len" := by rfl) (hs : starEach [e] X.env = (false, eval e X.env) :: starEach [] X.env := by rfl) : EJ X B Γ O (.Call (.Name "len" p) [e] [] pos) (bI (Rs.length : Int)) :=
  e_callB call_len_seq hm (by decide +kernel) (a_cons ha a_nil hs) (fun S H vs sm r Q q => by
    obtain ⟨v, rfl, p, ws, rfl, h1, h2⟩ := r.one
    exact ⟨p, ws, rfl, h1, q _ S H (Stp.refl sm) (by rw [h2.length]; rfl)⟩) hg (by decide) (by decide) hs rfl
/-! ### a, b = x, y -/
theorem s_par {i j : Nat} {x y : Str} {Ra Rb : MP} {Γ' : Gm} {px py pt : Pos} {kt k2 pt2} (ha : EJ X B Γ O a Ra.b) (hb : EJ X B Γ O b Rb.b) (h : SJ X B Γ' O rest D)
    (hi : X.N[i]? = some x := by rfl) (hj : X.N[j]? = some y := by rfl) (hG : (Γ.set i (some Ra)).set j (some Rb) = Γ' := by rfl) (hl : i < Γ.length := by exact Nat.le_of_ble_eq_true rfl) (hl2 : j < Γ.length := by exact Nat.le_of_ble_eq_true rfl) (hij : i ≠ j := by decide) (hN : X.N.Nodup := by assumption) (hc : X.calm = true := by rfl)
    (hx : X.env.scope.names.lookup x = some .local := by rfl) (hy : X.env.scope.names.lookup y = some .local := by rfl) (hs1 : starEach [a, b] X.env = (false, eval a X.env) :: starEach [b] X.env := by rfl) (hs2 : starEach [b] X.env = (false, eval b X.env) :: starEach [] X.env := by rfl)
    (hw : swappedStores [.Tuple [.Name x px, .Name y py] kt pt] (.Tuple [a, b] k2 pt2) X.env = pure (some [x, y]) := by rfl)
    (hs : swapsWithSole [.Tuple [.Name x px, .Name y py] kt pt] (.Tuple [a, b] k2 pt2) pos.line X.env = pure false := by rfl) : SJ X B Γ O (.Assign [.Tuple [.Name x px, .Name y py] kt pt] (.Tuple [a, b] k2 pt2) pos :: rest) D :=
  SJ.cons fun S H σ st => ⟨_, ps_par hc hN hi hj hij hx hy pa_w hw hs, a_cons ha (a_cons hb a_nil hs2) hs1 S H σ st _ fun vs S1 H1 s1 r1 => by
    obtain ⟨v, w, rfl, h1, h2⟩ := r1.two
    refine ⟨v, w, rfl, h S1 H1 _ ?_⟩
    rw [← hG]
    exact ((st.step s1).set h1 hl).set h2 (by rw [List.length_set]; exact hl2)⟩
/-! ### while -/
def Gle : Gm → Gm → Prop
  | [], [] => True
  | none :: r, _ :: r' => Gle r r'
  | some R :: r, some R' :: r' => R = R' ∧ Gle r r'
  | _, _ => False
theorem Gle.len : ∀ {G G' : Gm}, Gle G G' → G.length = G'.length
  | [], [], _ => rfl
  | none :: r, _ :: r', h => congrArg Nat.succ (Gle.len (G := r) (G' := r') h)
  | some R :: r, some R' :: r', h => congrArg Nat.succ (Gle.len (G := r) (G' := r') h.2)
  | some _ :: _, none :: _, h => h.elim
  | [], _ :: _, h => h.elim
  | none :: _, [], h => h.elim
  | some _ :: _, [], h => h.elim
theorem Gle.get : ∀ {G G' : Gm}, Gle G G' → ∀ (i : Nat) (R : MP), G[i]? = some (some R) → G'[i]? = some (some R)
  | [], [], _, _, _, e => e
  | none :: r, _ :: r', h, 0, R, e => by simp at e
  | none :: r, _ :: r', h, i + 1, R, e => by
    have e2 : r[i]? = some (some R) := by simpa using e
    have := Gle.get (G := r) (G' := r') h i R e2
    simpa using this
  | some R :: r, some R' :: r', h, 0, Q, e => by
    have h1 := h.1
    subst h1
    exact e
  | some R :: r, some R' :: r', h, i + 1, Q, e => by
    have e2 : r[i]? = some (some Q) := by simpa using e
    have := Gle.get (G := r) (G' := r') h.2 i Q e2
    simpa using this
  | some _ :: _, none :: _, h, _, _, _ => h.elim
  | [], _ :: _, h, _, _, _ => h.elim
  | none :: _, [], h, _, _, _ => h.elim
  | some _ :: _, [], h, _, _, _ => h.elim
theorem Stt.le {Γ' : Gm} {S H : Hp} {σ : L2.St} (t : Stt B Γ O S H σ) (h : Gle Γ' Γ) : Stt B Γ' O S H σ := t.forget h.len h.get
theorem SJ.le {Γ' : Gm} (h : SJ X B Γ' O body D) (g : Gle Γ' Γ) : SJ X B Γ O body D := fun S H σ t => h S H σ (t.le g)
/-- a state by data: s of the type β -/
def At {β : Type} (B : Bs) (Gs : β → Gm) (Os : β → Om) (P : β → Prop) : L2.St → Hp → Prop := fun σ H => ∃ s S, P s ∧ Stt B (Gs s) (Os s) S H σ
theorem NX.at_ {β : Type} {Gs : β → Gm} {Os : β → Om} {P : β → Prop} (s : β) (hp : P s) (g : Gle (Gs s) Γ) (ho : O = Os s := by rfl) : NX B Γ O (At B Gs Os P) := fun S H σ t => ⟨s, S, hp, by rw [← ho]; exact t.le g⟩
theorem s_while {β : Type} (Gs : β → Gm) (Os : β → Om) (P : β → Prop) (μ : β → Nat) (k : β → Bool) (s0 : β) (h0 : P s0) (hc : ∀ s, P s → TJ X B (Gs s) (Os s) c (k s))
    (hb : ∀ s, P s → k s = true → SJ X B (Gs s) (Os s) body { D with nx := At B Gs Os (fun s' => P s' ∧ μ s' < μ s), ct := At B Gs Os (fun s' => P s' ∧ μ s' < μ s), bk := wB X rest D })
    (hd : ∀ s, P s → k s = false → SJ X B (Gs s) (Os s) rest D) (hp : PassesOwn (model X.prog X.w) X.A X.env X.xe) (g : Gle (Gs s0) Γ := by exact Gle.rfl') (ho : O = Os s0 := by rfl) : SJ X B Γ O (.While c body [] pos :: rest) D :=
  SJ.cons fun S H σ st => ⟨_, ps_while hp pt_w pb_w, fun n σ H => At B Gs Os (fun s => P s ∧ n = μ s) σ H, ⟨μ s0, s0, S, ⟨h0, rfl⟩, by rw [← ho]; exact st.le g⟩, fun n σ H ⟨s, S, ⟨h1, h2⟩, t⟩ => by
    refine hc s h1 S H σ t _ fun S1 H1 s1 => ?_
    cases q : k s with
    | true =>
      refine iteT ⟨At B Gs Os (fun s' => P s' ∧ μ s' < μ s), fun σ' H' ⟨s', S', ⟨g1, g2⟩, t'⟩ => ⟨μ s', by rw [h2]; exact g2, s', S', ⟨g1, rfl⟩, t'⟩, ?_⟩
      exact hb s h1 q S1 H1 σ (t.step s1)
    | false => exact iteF (hd s h1 q S1 H1 σ (t.step s1))⟩
theorem Gle.rfl' {G : Gm} : Gle G G := by
  induction G with
  | nil => exact trivial
  | cons a r ih =>
    cases a with
    | none => exact ih
    | some _ => exact ⟨rfl, ih⟩
theorem SJ.ghost {G : Gho} (h : SJ X B Γ O body D) : SJ X (B.add G) Γ O body D := fun S H σ t => h S H σ t.plain
/-- the rest, behind an if -/
theorem s_skip {D' : Ends} (h : SJ X B Γ O rest D') (hD : D.nx = wB X rest D' := by rfl) : SJ X B Γ O [] D := s_nil fun S H σ t => by rw [hD]; exact h S H σ t
theorem pss_weak {t : TS} {st : List Stmt} (h : PSs X st t) : PSs X st (fun D σ H => ∃ D' : Ends, (∀ σ H, D'.nx σ H → D.nx σ H) ∧ D'.rt = D.rt ∧ D'.bk = D.bk ∧ D'.ct = D.ct ∧ t D' σ H) := ⟨fun pins s σ H D I ⟨D', h1, h2, h3, h4, q⟩ => by
  refine wpAny_mono (h.run pins s σ H D' I q) (fun fl s' z => ?_) fun _ _ z => z
  cases fl with
  | next => obtain ⟨σ', H', J, q⟩ := z; exact ⟨σ', H', J, h1 _ _ q⟩
  | ret u => obtain ⟨v, σ', H', J, rv, q⟩ := z; exact ⟨v, σ', H', J, rv, h2 ▸ q⟩
  | brk => obtain ⟨σ', H', J, q⟩ := z; exact ⟨σ', H', J, h3 ▸ q⟩
  | cont => obtain ⟨σ', H', J, q⟩ := z; exact ⟨σ', H', J, h4 ▸ q⟩⟩
/-- an if whose two ways meet again -/
theorem s_ifJO {k : Bool} (Γ' : Gm) (O' : Om) (hc : TJ X B Γ O c k) (h1 : k = true → SJ X B Γ O body { D with nx := At B (fun _ : Unit => Γ') (fun _ => O') (fun _ => True) }) (h2 : k = false → SJ X B Γ O els { D with nx := At B (fun _ : Unit => Γ') (fun _ => O') (fun _ => True) })
    (h : SJ X B Γ' O' rest D) : SJ X B Γ O (.If c body els pos :: rest) D :=
  SJ.cons fun S H σ st => ⟨_, ps_if pt_w (pss_weak pb_w) (pss_weak pb_w), hc S H σ st _ fun S1 H1 s1 => by
    have fin : ∀ σ H, At B (fun _ : Unit => Γ') (fun _ => O') (fun _ => True) σ H → wB X rest D σ H := fun σ H ⟨_, S', _, t⟩ => h S' H σ t
    cases k with
    | true => exact iteT ⟨{ D with nx := At B (fun _ : Unit => Γ') (fun _ => O') (fun _ => True) }, fin, rfl, rfl, rfl, h1 rfl S1 H1 σ (st.step s1)⟩
    | false => exact iteF ⟨{ D with nx := At B (fun _ : Unit => Γ') (fun _ => O') (fun _ => True) }, fin, rfl, rfl, rfl, h2 rfl S1 H1 σ (st.step s1)⟩⟩
theorem s_ifJ {k : Bool} (Γ' : Gm) (hc : TJ X B Γ O c k) (h1 : k = true → SJ X B Γ O body { D with nx := At B (fun _ : Unit => Γ') (fun _ => O) (fun _ => True) }) (h2 : k = false → SJ X B Γ O els { D with nx := At B (fun _ : Unit => Γ') (fun _ => O) (fun _ => True) })
    (h : SJ X B Γ' O rest D) : SJ X B Γ O (.If c body els pos :: rest) D := s_ifJO Γ' O hc h1 h2 h
theorem s_meet {Γ' : Gm} {D : Ends} (hg : Gle Γ' Γ := by exact Gle.rfl') (hD : D.nx = At B (fun _ : Unit => Γ') (fun _ => O) (fun _ => True) := by rfl) : SJ X B Γ O [] D := s_nil (by rw [hD]; exact NX.at_ () trivial hg)
/-! ### targets -/
/-- the slots but js stand -/
structure Wp (js : List Nat) (σ σ' : L2.St) : Prop where
  at_ : ∀ (i : Nat), i ∉ js → σ'[i]? = σ[i]?
  len : σ'.length = σ.length
theorem Wp.wipe {js vs : List Nat} {σ σ' : L2.St} (w : Wp js σ σ') (h : ∀ j ∈ js, j ∈ vs) : L2.wipe σ' vs = L2.wipe σ vs := by
  have key : ∀ (vs : List Nat) (σ : L2.St) (i : Nat), (L2.wipe σ vs)[i]? = if i ∈ vs then (if i < σ.length then some none else none) else σ[i]? := by
    intro vs σ
    induction vs with
    | nil => intro i; simp [L2.wipe]
    | cons v vs ih =>
      intro i
      show ((L2.wipe σ vs).set v none)[i]? = _
      by_cases e : v = i
      · subst e
        rw [List.getElem?_set]
        simp [L2.wipe_length]
      · rw [List.getElem?_set_ne e, ih]
        have : (i ∈ v :: vs) ↔ i ∈ vs := by
          rw [List.mem_cons]
          exact ⟨fun z => z.elim (fun z => absurd z.symm e) id, .inr⟩
        simp only [this]
  apply List.ext_getElem?
  intro i
  rw [key, key]
  by_cases hi : i ∈ vs
  · rw [if_pos hi, if_pos hi, w.len]
  · rw [if_neg hi, if_neg hi]
    exact w.at_ i fun z => hi (h i z)
def GJ (X : Cx) (B : Bs) (O : Om) (tg : Expr) (R : MP) (Γ Γ' : Gm) (js : List Nat) : Prop := ∀ S H σ v, Stt B Γ O S H σ → R.R S v → ∀ Q : L2.St → Hp → Prop, (∀ σ', Stt B Γ' O S H σ' → Wp js σ σ' → Q σ' H) → wG X tg v σ H Q
theorem g_name {j : Nat} {R : MP} {Γ' : Gm} (hi : X.N[j]? = some x := by rfl) (hG : Γ.set j (some R) = Γ' := by rfl) (hl : j < Γ.length := by exact Nat.le_of_ble_eq_true rfl) (hN : X.N.Nodup := by assumption) (hx : Loc X.env.scope x := by first | exact Or.inl rfl | exact Or.inr rfl)
    (hf : X.fn x = true ∨ X.env.scope.names.lookup x = some .local := by first | exact .inl rfl | exact .inr rfl | assumption) : GJ X B O (.Name x pos) R Γ Γ' [j] := fun S H σ v t r Q q =>
  ⟨_, pg_name hN hi hx hf, q _ (hG ▸ t.set r hl) ⟨fun i hi => List.getElem?_set_ne (fun z => hi (by rw [z]; exact List.mem_singleton.mpr rfl)), List.length_set⟩⟩
def GJs (X : Cx) (B : Bs) (O : Om) (ts : List Expr) (Rs : List MP) (Γ Γ' : Gm) (js : List Nat) : Prop := ∀ S H σ vs, Stt B Γ O S H σ → AllM Rs S vs → ∀ Q : L2.St → Hp → Prop, (∀ σ', Stt B Γ' O S H σ' → Wp js σ σ' → Q σ' H) → ∃ t, PGs X ts t ∧ t vs σ H Q
theorem gs_nil : GJs X B O [] [] Γ Γ [] := fun S H σ vs t r Q q => ⟨_, pgs_nil, by
  cases vs with
  | nil => exact ⟨rfl, q σ t ⟨fun _ _ => rfl, rfl⟩⟩
  | cons _ _ => exact r.elim⟩
theorem pgs_w {ts : List Expr} : PGs X ts (fun vs σ H Q => ∃ t, PGs X ts t ∧ t vs σ H Q) := ⟨fun pins s σ H vs us Q I r ⟨_, h, q⟩ => h.run pins s σ H vs us Q I r q⟩
theorem gs_cons {tg : Expr} {ts : List Expr} {R : MP} {Γ1 Γ' : Gm} {js ks : List Nat} (h : GJ X B O tg R Γ Γ1 js) (h2 : GJs X B O ts Rs Γ1 Γ' ks) (ha : (assignEach (tg :: ts) X.env).map (·.2) = assign tg X.env :: (assignEach ts X.env).map (·.2) := by rfl) : GJs X B O (tg :: ts) (R :: Rs) Γ Γ' (js ++ ks) := fun S H σ vs t r Q q =>
  match vs, r with
  | v :: vs, r => ⟨_, pgs_cons pg_w pgs_w ha, v, vs, rfl, h S H σ v t r.1 _ fun σ1 t1 w1 => h2 S H σ1 vs t1 r.2 Q fun σ2 t2 w2 => q σ2 t2 ⟨fun i hi => (w2.at_ i fun z => hi (List.mem_append_right _ z)).trans (w1.at_ i fun z => hi (List.mem_append_left _ z)), w2.len.trans w1.len⟩⟩
theorem g_tup {ts : List Expr} {k} {n : Nat} {Γ' : Gm} {js : List Nat} (h : GJs X B O ts Rs Γ Γ' js) (hz : Rs.length = n := by rfl) (hc : X.calm = true := by rfl) (hn : (assignEach ts X.env).length = n := by rfl) (hst : (assignEach ts X.env).findIdx? (·.1) = none := by rfl) : GJ X B O (.Tuple ts k pos) (tT X.K Rs) Γ Γ' js := fun S H σ v t ⟨a, vs, hv, h1, h2⟩ Q q =>
  ⟨_, pg_tup hc pgs_w hn hst, a, vs, hv, Same.tup t.sub h1, by rw [h2.length, hz], h S H σ vs t h2 Q q⟩
/-- a, b = e -/
theorem s_unpack {tg : Expr} {R : MP} {Γ' : Gm} {js : List Nat} (he : EJ X B Γ O e R.b) (hg : GJ X B O tg R Γ Γ' js) (h : SJ X B Γ' O rest D) (hs : swapsWithSole [tg] e pos.line X.env = pure false := by rfl) (hw : swappedStores [tg] e X.env = pure none := by rfl)
    (h1 : (assignEach [tg] X.env).map (·.2) = [assign tg X.env] := by rfl) : SJ X B Γ O (.Assign [tg] e pos :: rest) D :=
  SJ.cons fun S H σ st => ⟨_, ps_asg pe_w pg_w hs hw h1, he S H σ st _ fun v S1 H1 s1 r1 => hg S1 H1 σ v (st.step s1) r1 _ fun σ' t w => h S1 H1 σ' t⟩
/-! ### what is walked -/
/-- n items; need: objects of one's own that stand meanwhile -/
def IJ (X : Cx) (B : Bs) (Γ : Gm) (O : Om) (tg it : Expr) (need : Om) (n : Nat) (item : Nat → MP) : Prop := ∀ S H σ, Stt B Γ O S H σ → ∀ Rk : It → Hp → Prop,
  (∀ (J : It) (G : Gho) S' H', Stp S H S' H' → G.R S' → (∀ Γ2 O2 S2 H2 σ2, Stt (B.add G) Γ2 O2 S2 H2 σ2 → (∀ q ∈ need, q ∈ O2) → J.stop n H2 ∧ ∀ i, i < n → J.go i H2 ∧ ∀ y H3, J.yld i H2 y H3 → ∃ S3, Stp S2 H2 S3 H3 ∧ (item i).R S3 y) → Rk J H') → wI X tg it σ H Rk
def MP.gh (R : MP) (v : V) : Gho := ⟨fun S => R.R S v, fun e h => R.up e h⟩
/-- a list that stands: settled, or lent to the def -/
def LstS (B : Bs) (K : PySem.W.Frag) (R : MP) (Rs : List MP) : Prop := ∀ S H v, Stp B.S B.H S H → R.R S v → ∃ a vs, v = .ref a ∧ SqL K H a vs ∧ AllM Rs S vs
def TupS (B : Bs) (K : PySem.W.Frag) (R : MP) (Rs : List MP) : Prop := ∀ S H v, Stp B.S B.H S H → R.R S v → ∃ a vs, v = .ref a ∧ SqT K H a vs ∧ AllM Rs S vs
theorem lstS_settled {K : PySem.W.Frag} : LstS B K (tL K Rs) Rs := fun S H v st ⟨a, vs, h1, h2, h3⟩ => ⟨a, vs, h1, st.i.seq h2, h3⟩
theorem lstS_lent {K : PySem.W.Frag} : LstS B K ((bL K Rs).at_ B.H) Rs := fun S H v st ⟨a, vs, h1, h2, h3⟩ => ⟨a, vs, h1, st.h.seq h2, h3⟩
theorem tupS_settled {K : PySem.W.Frag} : TupS B K (tT K Rs) Rs := fun S H v st ⟨a, vs, h1, h2, h3⟩ => ⟨a, vs, h1, Same.tup st.i h2, h3⟩
def nth (Rs : List MP) (i : Nat) : MP := Rs.getD i tN
theorem nth_get {Rs : List MP} {i : Nat} (h : i < Rs.length) : Rs[i]? = some (nth Rs i) := by unfold nth; simp [List.getD, h]
theorem i_lst {tg : Expr} {R : MP} (he : EJ X B Γ O l R.b) (hr : LstS B X.K R Rs) : IJ X B Γ O tg l [] Rs.length (nth Rs) := fun S H σ st Rk k =>
  ⟨_, pi_list pe_w, he S H σ st _ fun v S1 H1 s1 r1 => by
    obtain ⟨a, vs, rfl, h1, h2⟩ := hr S1 H1 v (st.st.trans s1) r1
    refine ⟨a, rfl, ⟨vs, h1⟩, k (Itl X.K a) (R.gh (.ref a)) S1 H1 s1 r1 fun Γ2 O2 S2 H2 σ2 t _ => ?_⟩
    obtain ⟨a', ws, e, h3, h4⟩ := hr S2 H2 (.ref a) t.st t.gh.2
    cases e
    refine ⟨⟨ws, h3, by rw [h4.length]; exact Nat.le_refl _⟩, fun i hi => ?_⟩
    obtain ⟨w, h5, h6⟩ := h4.get (nth_get hi)
    refine ⟨⟨ws, w, h3, h5⟩, fun y H3 ⟨e, hy⟩ => ?_⟩
    subst e
    have := hy ws h3
    rw [h5] at this
    cases this
    exact ⟨S2, Stp.refl t.sub, h6⟩⟩
theorem i_tup {tg : Expr} {R : MP} (he : EJ X B Γ O l R.b) (hr : TupS B X.K R Rs) : IJ X B Γ O tg l [] Rs.length (nth Rs) := fun S H σ st Rk k =>
  ⟨_, pi_tup pe_w, he S H σ st _ fun v S1 H1 s1 r1 => by
    obtain ⟨a, vs, rfl, h1, h2⟩ := hr S1 H1 v (st.st.trans s1) r1
    refine ⟨a, rfl, ⟨vs, h1⟩, k (Itt X.K a) (R.gh (.ref a)) S1 H1 s1 r1 fun Γ2 O2 S2 H2 σ2 t _ => ?_⟩
    obtain ⟨a', ws, e, h3, h4⟩ := hr S2 H2 (.ref a) t.st t.gh.2
    cases e
    refine ⟨⟨ws, h3, by rw [h4.length]; exact Nat.le_refl _⟩, fun i hi => ?_⟩
    obtain ⟨w, h5, h6⟩ := h4.get (nth_get hi)
    refine ⟨⟨ws, w, h3, h5⟩, fun y H3 ⟨e, hy⟩ => ?_⟩
    subst e
    have := hy ws h3
    rw [h5] at this
    cases this
    exact ⟨S2, Stp.refl t.sub, h6⟩⟩
/-- one's own list, not changed meanwhile -/
theorem i_own {tg : Expr} {p : Addr} (i : Nat) {x : Str} (hO : (p, mL Rs) ∈ O) (hG : Γ[i]? = some (some (tR p)) := by rfl) (hN : X.N[i]? = some x := by rfl) (hv : Vis X.env.scope x := by first | exact Or.inl rfl | exact Or.inr (Or.inl rfl) | exact Or.inr (Or.inr rfl))
    (hd : (x == ("__debug__" : Str)) = false := by decide) (hcd : (x == ("__classdict__" : Str)) = false := by decide) : IJ X B Γ O tg (.Name x pos) [(p, mL Rs)] Rs.length (nth Rs) := fun S H σ st Rk k =>
  ⟨_, pi_list (pe_var hN hv hd hcd), by
    obtain ⟨v, h1, h2⟩ := st.slot i _ hG
    cases h2
    obtain ⟨_, _, o, h3, vs, rfl, h4⟩ := st.own _ hO
    refine ⟨_, h1, p, rfl, ⟨vs, .inl (.inl h3)⟩, k (Itl X.K p) .yes S H (Stp.refl st.sub) trivial fun Γ2 O2 S2 H2 σ2 t hn => ?_⟩
    obtain ⟨_, _, o, h3, ws, rfl, h4⟩ := t.own _ (hn _ List.mem_cons_self)
    have h3' : SqL X.K H2 p ws := .inl (.inl h3)
    refine ⟨⟨ws, h3', by rw [h4.length]; exact Nat.le_refl _⟩, fun i hi => ?_⟩
    obtain ⟨w, h5, h6⟩ := h4.get (nth_get hi)
    refine ⟨⟨ws, w, h3', h5⟩, fun y H3 ⟨e, hy⟩ => ?_⟩
    subst e
    have := hy ws h3'
    rw [h5] at this
    cases this
    exact ⟨S2, Stp.refl t.sub, h6⟩⟩
theorem i_range1 {tg : Expr} {n : Int} (hm : X.mg "range" = none) (he : EJ X B Γ O a (bI n)) (h1 : -(2 ^ 62) ≤ n := by decide) (h2 : n < 2 ^ 62 := by decide) (hg : Gl X "range" := by rfl) (hs : starEach [a] X.env = [(false, eval a X.env)] := by rfl) : IJ X B Γ O tg (.Call (.Name "range" p) [a] [] pos) [] n.toNat (fun i => tI i) := fun S H σ st Rk k =>
  ⟨_, pi_range1 hg hm pa_w hs, (a_cons he a_nil hs) S H σ st _ fun vs S1 H1 s1 r1 => by
    obtain ⟨v, rfl, hv⟩ := r1.one
    cases hv
    refine ⟨n, rfl, h1, h2, k (Itr 0 n.toNat) .yes S1 H1 s1 trivial fun Γ2 O2 S2 H2 σ2 t _ => ⟨Nat.le_refl _, fun i hi => ⟨hi, fun y H3 ⟨e, hy⟩ => ?_⟩⟩⟩
    subst e
    exact ⟨S2, Stp.refl t.sub, by rw [hy, Int.zero_add]; rfl⟩⟩
theorem i_range2 {tg : Expr} {m n : Int} (hm : X.mg "range" = none) (he : EJ X B Γ O a (bI m)) (he2 : EJ X B Γ O b (bI n)) (h1 : -(2 ^ 62) ≤ m ∧ m < 2 ^ 62 ∧ -(2 ^ 62) ≤ n ∧ n < 2 ^ 62) (hg : Gl X "range" := by rfl) (hs : starEach [a, b] X.env = [(false, eval a X.env), (false, eval b X.env)] := by rfl) (hs2 : starEach [b] X.env = [(false, eval b X.env)] := by rfl) : IJ X B Γ O tg (.Call (.Name "range" p) [a, b] [] pos) [] (n - m).toNat (fun i => tI (m + i)) := fun S H σ st Rk k =>
  ⟨_, pi_range2 hg hm pa_w hs hs2, (a_cons he (a_cons he2 a_nil hs2) (by rw [hs, hs2])) S H σ st _ fun vs S1 H1 s1 r1 => by
    obtain ⟨v, w, rfl, hv, hw⟩ := r1.two
    cases hv
    cases hw
    refine ⟨m, n, rfl, h1, k (Itr m (n - m).toNat) .yes S1 H1 s1 trivial fun Γ2 O2 S2 H2 σ2 t _ => ⟨Nat.le_refl _, fun i hi => ⟨hi, fun y H3 ⟨e, hy⟩ => ?_⟩⟩⟩
    subst e
    exact ⟨S2, Stp.refl t.sub, hy⟩⟩
/-! ### for -/
theorem s_for {β : Type} {tg it : Expr} (Gs : β → Gm) (Os : β → Om) (P : Nat → β → Prop) (s0 : β) {need : Om} {n : Nat} {item : Nat → MP} (h0 : P 0 s0) (hi : IJ X B Γ O tg it need n item) (hneed : ∀ s, ∀ q ∈ need, q ∈ Os s)
    (hb : ∀ (G : Gho) i s, i < n → P i s → ∃ Γ' js, GJ X (B.add G) (Os s) tg (item i) (Gs s) Γ' js ∧ SJ X (B.add G) Γ' (Os s) body { D with nx := At (B.add G) Gs Os (P (i + 1)), ct := At (B.add G) Gs Os (P (i + 1)), bk := wB X rest D })
    (hd : ∀ s, P n s → SJ X B (Gs s) (Os s) rest D) (hp : PassesOwn (model X.prog X.w) X.A X.env X.xe) (hc : X.calm = true := by rfl) (gl : Gle (Gs s0) Γ := by exact Gle.rfl') (ho : O = Os s0 := by rfl)
    (hs : ∀ x, foldedSetIterable it X.env x = pure x := by intro _; rfl) : SJ X B Γ O (.For tg it body [] pos :: rest) D :=
  SJ.cons fun S H σ st => ⟨_, ps_for hp hc pi_w pg_w pb_w hs, hi S H σ st _ fun J G S1 H1 s1 g1 hJ => by
    refine ⟨fun i m σ H => m = n - i ∧ i ≤ n ∧ At (B.add G) Gs Os (P i) σ H, ⟨n, by simp, Nat.zero_le _, s0, S1, h0, by rw [← ho]; exact ((st.step s1).ghost g1).le gl⟩, ?_⟩
    rintro i m σ2 H2 ⟨rfl, hin, s, S2, hP, t⟩
    obtain ⟨j1, j2⟩ := hJ _ _ _ _ _ t (hneed s)
    by_cases hlt : i < n
    · obtain ⟨go, yl⟩ := j2 i hlt
      refine .inr ⟨go, At (B.add G) Gs Os (P (i + 1)), fun σ' H' p => ⟨n - (i + 1), by omega, rfl, hlt, p⟩, fun y H3 hy => ?_⟩
      obtain ⟨S3, s3, r3⟩ := yl y H3 hy
      obtain ⟨Γ', js, g, b⟩ := hb G i s hlt hP
      exact g S3 H3 σ2 y (t.step s3) r3 _ fun σ' t' _ => b S3 H3 σ' t'
    · have e : i = n := by omega
      subst e
      exact .inl ⟨j1, hd s hP S2 H2 σ2 t.plain⟩⟩
/-! ### comprehensions -/
/-- in the comprehension's block -/
def BlkJ (X : Cx) (scope : Scope) (P : Cx → Prop) : Prop := ∀ (s : Shared) (H : Hp) (C : Addr) (cl : List (Str × Addr)) (fp : List Addr), P (X.blk s H scope (compEnvC scope cl C X.env) fp)
def picked (k : Nat → Bool) (R : Nat → MP) (n : Nat) : List MP := ((List.range n).filter k).map R
theorem picked_succ_t {k : Nat → Bool} {R : Nat → MP} {n : Nat} (h : k n = true) : picked k R (n + 1) = picked k R n ++ [R n] := by
  unfold picked
  rw [List.range_succ, List.filter_append, List.map_append]
  simp [h]
theorem picked_succ_f {k : Nat → Bool} {R : Nat → MP} {n : Nat} (h : k n = false) : picked k R (n + 1) = picked k R n := by
  unfold picked
  rw [List.range_succ, List.filter_append]
  simp [h]
theorem picked_len {k : Nat → Bool} {R : Nat → MP} (n : Nat) : (picked k R n).length ≤ n := by
  unfold picked
  rw [List.length_map]
  exact Nat.le_trans (List.length_filter_le _ _) (by simp)
/-- the tests of a comprehension: none, or one -/
def IfsJ (X : Cx) (B : Bs) (Γ : Gm) (O : Om) (ifs : List Expr) (k : Bool) : Prop := ∀ S H σ, Stt B Γ O S H σ → ∀ Q : Bool → Hp → Prop, (∀ S' H', Stp S H S' H' → Q k H') → ∃ t, PTs X ifs t ∧ t σ H Q
theorem if_none : IfsJ X B Γ O [] true := fun S H σ st Q q => ⟨_, pts_nil, q S H (Stp.refl st.sub)⟩
theorem if_one {k : Bool} (h : TJ X B Γ O c k) : IfsJ X B Γ O [c] k := fun S H σ st Q q => ⟨_, pts_one pt_w, h S H σ st Q q⟩
theorem Stt.wiped {S H : Hp} {σ : L2.St} {vs : List Nat} (t : Stt B Γ O S H σ) (h : ∀ v ∈ vs, ∀ R, Γ[v]? ≠ some (some R)) : Stt B Γ O S H (L2.wipe σ vs) := by
  refine ⟨t.st, fun i R e => ?_, by rw [L2.wipe_length]; exact t.len, t.own, t.nd, t.gh⟩
  obtain ⟨v, h1, h2⟩ := t.slot i R e
  refine ⟨v, ?_, h2⟩
  have key : ∀ (vs : List Nat), i ∉ vs → (L2.wipe σ vs)[i]? = σ[i]? := by
    intro vs
    induction vs with
    | nil => intro _; rfl
    | cons w vs ih =>
      intro hn
      show ((L2.wipe σ vs).set w none)[i]? = _
      rw [List.getElem?_set_ne (fun z => hn (by rw [z]; exact List.mem_cons_self)), ih fun z => hn (List.mem_cons_of_mem _ z)]
  rw [key vs fun z => h i z R e]
  exact h1
/-- an object of one's own is changed -/
theorem Stt.mut {S H : Hp} {σ : L2.St} {p : Addr} {M M' : MO} {o : HO} (t : Stt B Γ ((p, M) :: O) S H σ) (h : M'.R S o) : Stt B Γ ((p, M') :: O) S (upd H p o) σ := by
  obtain ⟨h3, h3', _, _, _⟩ := t.own _ List.mem_cons_self
  have nx : ∀ q ∈ O, q.1 ≠ p := fun q hq z => by
    have := t.nd
    rw [List.map_cons] at this
    exact (List.nodup_cons.mp this).1 (List.mem_map.mpr ⟨q, hq, z⟩)
  refine ⟨⟨t.st.s, fun a u z => ?_, fun a u z => ?_, t.st.fr⟩, t.slot, t.len, fun q hq => ?_, t.nd, t.gh⟩
  · have : a ≠ p := fun y => by subst y; rw [h3] at z; cases z
    rw [upd_ne this]
    exact t.sub a u z
  · have : a ≠ p := fun y => by subst y; rw [h3'] at z; cases z
    rw [upd_ne this]
    exact t.st.h a u z
  · rcases List.mem_cons.mp hq with z | hq
    · subst z
      exact ⟨h3, h3', _, upd_same, h⟩
    · obtain ⟨g1, g2, u, g3, g4⟩ := t.own q (List.mem_cons_of_mem _ hq)
      exact ⟨g1, g2, u, by rw [upd_ne (nx q hq)]; exact g3, g4⟩
theorem wipe_wp (σ : L2.St) (vs : List Nat) : Wp vs σ (L2.wipe σ vs) := by
  refine ⟨fun i hi => ?_, L2.wipe_length σ vs⟩
  induction vs with
  | nil => rfl
  | cons w vs ih =>
    show ((L2.wipe σ vs).set w none)[i]? = _
    rw [List.getElem?_set_ne (fun z => hi (by rw [z]; exact List.mem_cons_self)), ih fun z => hi (List.mem_cons_of_mem _ z)]
theorem lc_go {tg it elt : Expr} {ifs : List Expr} {scope : Scope} {own : List (Str × Nat)} {need : Om} {n : Nat} {item : Nat → MP} (k : Nat → Bool) (R : Nat → MP) (Γw : Gm) (hi : IJ X B Γ O tg it need n item) (hneed : ∀ q ∈ need, q ∈ O) (hz : n ≤ 100000)
    (hw : ∀ v ∈ own.map (·.2), ∀ R, Γw[v]? ≠ some (some R)) (gl : Gle Γw Γ)
    (hb : ∀ (G : Gho) (M : Addr × MO) i, i < n → ∃ Γ' js, (∀ j ∈ js, j ∈ own.map (·.2)) ∧ BlkJ X scope (fun Y => GJ Y (B.add G) (M :: O) tg (item i) Γw Γ' js ∧ IfsJ Y (B.add G) Γ' (M :: O) ifs (k i) ∧ (k i = true → EJ Y (B.add G) Γ' (M :: O) elt (R i).b)))
    {S H : Hp} {σ : L2.St} (st : Stt B Γ O S H σ) {Q : VK} (q : ∀ p o S' H', Stp S H S' H' → H p = none → S' p = none → H' p = some o → (mL (picked k R n)).R S' o → Q (.ref p) H') :
    tLc (wI X tg it) (fun v σ H Q => ∀ s H0 C cl fp, wG (X.blk s H0 scope (compEnvC scope cl C X.env) fp) tg v σ H Q) (fun σ H Q => ∀ s H0 C cl fp, ∃ t, PTs (X.blk s H0 scope (compEnvC scope cl C X.env) fp) ifs t ∧ t σ H Q) (fun σ H Q => ∀ s H0 C cl fp, wE (X.blk s H0 scope (compEnvC scope cl C X.env) fp) elt σ H Q) (own.map (·.2)) σ H Q := by
  refine hi S H σ st _ fun J G S1 H1 s1 g1 hJ D hD => ?_
  refine ⟨fun i m H2 => m = n - i ∧ i ≤ n ∧ ∃ S2, Stt (B.add G) Γw ((D, mL (picked k R i)) :: O) S2 H2 (L2.wipe σ (own.map (·.2))) ∧ Stp S H S2 H2, ⟨n, by simp, Nat.zero_le _, S1, ?_, s1.trans (Stp.own s1.i hD)⟩, ?_⟩
  · exact ((((st.step s1).ghost g1).le gl).wiped hw).add hD ⟨[], rfl, trivial⟩
  · rintro i m H2 ⟨rfl, hin, S2, t, sp⟩
    obtain ⟨j1, j2⟩ := hJ _ _ _ _ _ t (fun q hq => List.mem_cons_of_mem _ (hneed q hq))
    by_cases hlt : i < n
    · obtain ⟨go, yl⟩ := j2 i hlt
      refine .inr ⟨go, fun H' => ∃ S2, Stt (B.add G) Γw ((D, mL (picked k R (i + 1))) :: O) S2 H' (L2.wipe σ (own.map (·.2))) ∧ Stp S H S2 H', fun H' p => ⟨n - (i + 1), by omega, rfl, hlt, p⟩, fun y H3 hy s H0 C cl fp => ?_⟩
      obtain ⟨S3, s3, r3⟩ := yl y H3 hy
      obtain ⟨Γ', js, hjs, hB⟩ := hb G (D, mL (picked k R i)) i hlt
      refine (hB s H0 C cl fp).1 S3 H3 _ y (t.step s3) r3 _ fun σ' t' w => ⟨?_, fun s' H0' C' cl' fp' => ?_⟩
      · rw [w.wipe hjs]
        exact (wipe_wp σ _).wipe fun _ z => z
      · refine (hB s' H0' C' cl' fp').2.1 S3 H3 σ' t' _ fun S4 H4 s4 => ?_
        cases e : k i with
        | true =>
          refine iteT fun s2 H02 C2 cl2 fp2 => (hB s2 H02 C2 cl2 fp2).2.2 e S4 H4 σ' (t'.step s4) _ fun v S5 H5 s5 r5 => ?_
          have t5 := ((t.step s3).step s4).step s5
          obtain ⟨h1, h2, o, h3, acc, rfl, h4⟩ := t5.own _ List.mem_cons_self
          refine ⟨acc, h3, ?_, S5, ?_, ?_⟩
          · rw [h4.length]
            exact Nat.lt_of_le_of_lt (Nat.le_trans (picked_len i) (Nat.le_trans (Nat.le_of_lt hlt) hz)) (by decide)
          · refine t5.mut ⟨acc ++ [v], rfl, ?_⟩
            rw [picked_succ_t e]
            exact h4.append ⟨r5, trivial⟩
          · have s6 := ((sp.trans s3).trans s4).trans s5
            refine ⟨s6.s, fun a u z => ?_, fun a u z => ?_, s6.fr⟩
            · rw [upd_ne (fun y => by subst y; rw [h1] at z; cases z)]
              exact s6.i a u z
            · rw [upd_ne (fun y => by subst y; rw [s1.h.free hD] at z; cases z)]
              exact s6.h a u z
        | false =>
          refine iteF ⟨S4, ?_, (sp.trans s3).trans s4⟩
          rw [picked_succ_f e]
          exact (t.step s3).step s4
    · have e : i = n := by omega
      subst e
      obtain ⟨h1, h2, o, h3, h4⟩ := t.own _ List.mem_cons_self
      exact .inl ⟨j1, q D o S2 H2 sp (s1.h.free hD) h1 h3 h4⟩
theorem n_lc {tg it elt : Expr} {ifs : List Expr} {scope : Scope} {own : List (Str × Nat)} {need : Om} {n : Nat} {item : Nat → MP} (k : Nat → Bool) (R : Nat → MP) (Γw : Gm) (ok : BlkOk X.N X.env.scope scope own) (hi : IJ X B Γ O tg it need n item)
    (hb : ∀ (G : Gho) (M : Addr × MO) i, i < n → ∃ Γ' js, (∀ j ∈ js, j ∈ own.map (·.2)) ∧ BlkJ X scope (fun Y => GJ Y (B.add G) (M :: O) tg (item i) Γw Γ' js ∧ IfsJ Y (B.add G) Γ' (M :: O) ifs (k i) ∧ (k i = true → EJ Y (B.add G) Γ' (M :: O) elt (R i).b)))
    (hneed : ∀ q ∈ need, q ∈ O := by intro q hq; cases hq) (hz : n ≤ 100000 := by omega) (hw : ∀ v ∈ own.map (·.2), ∀ R, Γw[v]? ≠ some (some R) := by decide) (gl : Gle Γw Γ := by exact Gle.rfl') (hN : X.N.Nodup := by assumption) (hc : X.calm = true := by rfl) (hs : ∀ x, foldedSetIterable it X.env x = pure x := by intro _; rfl) :
    NJ X B Γ O (.ListComp elt [⟨tg, it, ifs, 0⟩] scope pos) (mL (picked k R n)) := fun S H σ st Q q =>
  ⟨_, pe_lc hc hN pi_w ok (fun s H C cl fp => ⟨fun pins s' σ H' v u Q I r h => pg_w.run pins s' σ H' v u Q I r (h s H C cl fp)⟩) (fun s H C cl fp => ⟨fun pins s' σ H' Q I h => let ⟨_, h1, h2⟩ := h s H C cl fp; h1.run pins s' σ H' Q I h2⟩)
    (fun s H C cl fp => ⟨fun pins s' σ H' Q I h => pe_w.run pins s' σ H' Q I (h s H C cl fp)⟩) hs, lc_go k R Γw hi hneed hz hw gl hb st q⟩
/-- y = [..] -/
theorem s_setLc {i : Nat} {y : Str} {py : Pos} {tg it elt : Expr} {ifs : List Expr} {scope : Scope} {own : List (Str × Nat)} {need : Om} {n : Nat} {item : Nat → MP} (k : Nat → Bool) (R : Nat → MP) (Γw : Gm) (ok : BlkOk X.N X.env.scope scope own) (hi : IJ X B Γ O tg it need n item)
    (hb : ∀ (G : Gho) (M : Addr × MO) i, i < n → ∃ Γ' js, (∀ j ∈ js, j ∈ own.map (·.2)) ∧ BlkJ X scope (fun Y => GJ Y (B.add G) (M :: O) tg (item i) Γw Γ' js ∧ IfsJ Y (B.add G) Γ' (M :: O) ifs (k i) ∧ (k i = true → EJ Y (B.add G) Γ' (M :: O) elt (R i).b)))
    (h : ∀ p, SJ X B (Γ.set i (some (tR p))) ((p, mL (picked k R n)) :: O) rest D)
    (hsw : swapsWith (.ListComp elt [⟨tg, it, ifs, 0⟩] scope pos) (some (.Name y py)) pos'.line X.env = pure true)
    (hneed : ∀ q ∈ need, q ∈ O := by intro q hq; cases hq) (hz : n ≤ 100000 := by omega) (hw : ∀ v ∈ own.map (·.2), ∀ R, Γw[v]? ≠ some (some R) := by decide) (gl : Gle Γw Γ := by exact Gle.rfl') (hy : X.N[i]? = some y := by rfl) (hl : i < Γ.length := by exact Nat.le_of_ble_eq_true rfl)
    (hyl : X.env.scope.names.lookup y = some .local := by rfl) (hN : X.N.Nodup := by assumption) (hc : X.calm = true := by rfl) (hs : ∀ x, foldedSetIterable it X.env x = pure x := by intro _; rfl) :
    SJ X B Γ O (.Assign [.Name y py] (.ListComp elt [⟨tg, it, ifs, 0⟩] scope pos) pos' :: rest) D :=
  SJ.cons fun S H σ st => ⟨_, ps_setLc hc hN hy hyl hsw pi_w ok (fun s H C cl fp => ⟨fun pins s' σ H' v u Q I r h => pg_w.run pins s' σ H' v u Q I r (h s H C cl fp)⟩) (fun s H C cl fp => ⟨fun pins s' σ H' Q I h => let ⟨_, h1, h2⟩ := h s H C cl fp; h1.run pins s' σ H' Q I h2⟩)
    (fun s H C cl fp => ⟨fun pins s' σ H' Q I h => pe_w.run pins s' σ H' Q I (h s H C cl fp)⟩) hs, lc_go k R Γw hi hneed hz hw gl hb st fun p o S1 H1 s1 n1 n2 h1 h2 => by
    refine h p S1 H1 _ ?_
    have t1 := (st.step s1).set (i := i) (R := tR p) (v := .ref p) rfl hl
    refine ⟨t1.st, t1.slot, t1.len, fun q hq => ?_, ?_, t1.gh⟩
    · rcases List.mem_cons.mp hq with e | hq
      · subst e
        exact ⟨n2, st.st.h.free n1, o, h1, h2⟩
      · exact t1.own q hq
    · rw [List.map_cons]
      refine List.nodup_cons.mpr ⟨fun hm => ?_, t1.nd⟩
      obtain ⟨q, hq, e⟩ := List.mem_map.mp hm
      obtain ⟨_, _, u, h3, _⟩ := st.own q hq
      have e2 : q.1 = p := e
      rw [e2, n1] at h3
      cases h3⟩
/-! ### changing one's own list -/
theorem s_append {i : Nat} {p : Addr} {nm : Str} {R : MP} {Rs' : List MP} {O' : Om} {p1 : Pos} (he : EJ X B Γ ((p, mL Rs) :: O') e R.b) (h : SJ X B Γ ((p, mL Rs') :: O') rest D) (hG : Γ[i]? = some (some (tR p)) := by rfl) (hN : X.N[i]? = some nm := by rfl) (hR : Rs ++ [R] = Rs' := by rfl) (hz : Rs.length < 100000 := by exact Nat.le_of_ble_eq_true rfl)
    (hv : Vis X.env.scope nm := by first | exact Or.inl rfl | exact Or.inr (Or.inl rfl) | exact Or.inr (Or.inr rfl)) (hd : (nm == ("__debug__" : Str)) = false := by decide) (hcd : (nm == ("__classdict__" : Str)) = false := by decide)
    (hbase : attributeBase (.Name nm p1) "append" X.env (eval (.Name nm p1) X.env) = eval (.Name nm p1) X.env := by rfl)
    (hfew : ((backTo pos (starEach [e] X.env)).all (fun x => !x.1) && (backToKw pos (keywordEach [] X.env)).all (fun x => x.1.isSome)
      && decide ([e].length + ([] : List Keyword).length + (if ([] : List Keyword).isEmpty then 0 else 1) < 30)) = true := by rfl)
    (hline : (apos.endLine == pos.line) = true := by rfl) (hs : starEach [e] X.env = (false, eval e X.env) :: starEach [] X.env := by rfl) (hplain : (backTo pos (starEach [] X.env)).any (·.1) = false := by rfl)
    (hsw : swapsWith (.Call (.Attribute (.Name nm p1) "append" apos) [e] [] pos) none pos'.line X.env = pure false := by rfl) : SJ X B Γ ((p, mL Rs) :: O') (.Expr (.Call (.Attribute (.Name nm p1) "append" apos) [e] [] pos) pos' :: rest) D :=
  SJ.cons fun S H σ st => ⟨_, ps_expr (pe_bm PySem.F.plainAttrs_list PySem.F.slot_list_append PySem.F.type_list_append mt_append (pe_var hN hv hd hcd) pa_w hbase hfew hline hs hplain) hsw, by
    obtain ⟨v, h1, h2⟩ := st.slot i _ hG
    cases h2
    obtain ⟨_, _, o, h3, vs, rfl, h4⟩ := st.own _ List.mem_cons_self
    refine ⟨_, h1, .inl ⟨rfl, vs, .inl (.inl h3)⟩, a_cons he a_nil hs S H σ st _ fun ws S1 H1 s1 r1 => ?_⟩
    obtain ⟨w, rfl, hw⟩ := r1.one
    have t := st.step s1
    obtain ⟨_, _, o, g3, vs, rfl, g4⟩ := t.own _ List.mem_cons_self
    refine ⟨p, vs, w, rfl, rfl, g3, ?_, h S1 _ σ (t.mut ⟨_, rfl, ?_⟩)⟩
    · rw [g4.length]
      exact Nat.lt_trans hz (by decide)
    · rw [← hR]
      exact g4.append ⟨hw, trivial⟩⟩
/-! ### draws: what may change one's own objects within what is told of them -/
def EM {ι : Type} (X : Cx) (B : Bs) (Γ : Gm) (O : Om) (e : Expr) (P : ι → Prop) (R : ι → MP) : Prop := ∀ S H σ, Stt B Γ O S H σ → ∀ Q : VK, (∀ i v S' H', P i → Stt B Γ O S' H' σ → Same S S' → (R i).R S' v → Q v H') → wE X e σ H Q
theorem EJ.mv {R : MP} (h : EJ X B Γ O e R.b) : EM X B Γ O e (fun _ : Unit => True) (fun _ => R) := fun S H σ st Q q => h S H σ st Q fun v S' H' s r => q () v S' H' trivial (st.step s) s.s r
theorem EM.imp {ι κ : Type} {P : ι → Prop} {R : ι → MP} {P' : κ → Prop} {R' : κ → MP} (h : EM X B Γ O e P R) (i : ∀ i, P i → ∃ j, P' j ∧ R i = R' j) : EM X B Γ O e P' R' := fun S H σ st Q q => h S H σ st Q fun k v S' H' hk t s r => by
  obtain ⟨j, h1, h2⟩ := i k hk
  exact q j v S' H' h1 t s (h2 ▸ r)
theorem s_setM {ι : Type} {P : ι → Prop} {R : ι → MP} {i : Nat} {x : Str} (he : EM X B Γ O e P R) (h : ∀ j, P j → SJ X B (Γ.set i (some (R j))) O rest D) (hi : X.N[i]? = some x := by rfl) (hl : i < Γ.length := by exact Nat.le_of_ble_eq_true rfl) (hN : X.N.Nodup := by assumption)
    (hx : Loc X.env.scope x := by first | exact Or.inl rfl | exact Or.inr rfl) (hs : swapsWith e (some (.Name x pos')) pos.line X.env = pure false := by rfl) (hf : X.fn x = true ∨ X.env.scope.names.lookup x = some .local := by first | exact .inl rfl | exact .inr rfl | assumption) :
    SJ X B Γ O (.Assign [.Name x pos'] e pos :: rest) D :=
  SJ.cons fun S H σ st => ⟨_, ps_set hN hi hx pe_w hs hf, he S H σ st _ fun j v S1 H1 hj t s r => h j hj S1 H1 _ (t.set r hl)⟩
theorem s_retM {ι : Type} {P : ι → Prop} {R : ι → MP} (he : EM X B Γ O e P R) (h : ∀ j v S H σ, P j → Stt B Γ O S H σ → (R j).R S v → D.rt v H) : SJ X B Γ O (.Return (some e) pos :: rest) D :=
  SJ.cons fun S H σ st => ⟨_, ps_ret pe_w, he S H σ st _ fun j v S1 H1 hj t s r => h j v S1 H1 σ hj t r⟩
theorem m_op2 {ι κ lam : Type} {op : Operator} {r : R2} {P : ι → Prop} {Ra : ι → MP} {P2 : κ → Prop} {Rb : κ → MP} {P3 : lam → Prop} {Rc : lam → MP} (ho : OpR X (binaryOp op) r) (ha : EM X B Γ O a P Ra) (hb : EM X B Γ O b P2 Rb)
    (hr : ∀ i j, P i → P2 j → ∃ l, P3 l ∧ ∀ S H x y, Same S H → (Ra i).R S x → (Rb j).R S y → ∀ Q : VK, (∀ v, (Rc l).R S v → Q v H) → r x y H Q) : EM X B Γ O (.BinOp a op b pos) P3 Rc := fun S H σ st Q q =>
  ⟨_, pe_op ho pe_w pe_w, ha S H σ st _ fun i v S1 H1 hi t1 s1 r1 => hb S1 H1 σ t1 _ fun j w S2 H2 hj t2 s2 r2 => by
    obtain ⟨l, h1, h2⟩ := hr i j hi hj
    exact h2 S2 H2 v w t2.sub ((Ra i).up s2 r1) r2 Q fun z rz => q l z S2 H2 h1 t2 (s1.trans s2) rz⟩
theorem m_add {P P2 : Int → Prop} (ha : EM X B Γ O a P tI) (hb : EM X B Γ O b P2 tI) : EM X B Γ O (.BinOp a .Add b pos) (fun l => ∃ i j, P i ∧ P2 j ∧ l = i + j) tI :=
  m_op2 op_add ha hb fun i j hi hj => ⟨i + j, ⟨i, j, hi, hj, rfl⟩, fun S H x y sm h1 h2 Q q => ⟨i, j, h1, h2, q _ rfl⟩⟩
theorem m_sub {P P2 : Int → Prop} (ha : EM X B Γ O a P tI) (hb : EM X B Γ O b P2 tI) : EM X B Γ O (.BinOp a .Sub b pos) (fun l => ∃ i j, P i ∧ P2 j ∧ l = i - j) tI :=
  m_op2 op_sub ha hb fun i j hi hj => ⟨i - j, ⟨i, j, hi, hj, rfl⟩, fun S H x y sm h1 h2 Q q => ⟨i, j, h1, h2, q _ rfl⟩⟩
theorem EJ.mi {i : Int} (h : EJ X B Γ O e (bI i)) : EM X B Γ O e (fun j => j = i) tI := h.mv.imp fun _ _ => ⟨i, rfl, rfl⟩
end
end OT
/-! Operators, truth, tests and walks of an own class. -/
namespace OT
open PySem PySem.Spec PyProof.Rows L2
section
variable {X : Cx} {CX : CXT} {k : Nat} {f C : Addr} {fd : FuncData} {ps : List Str} {sp : Sp} {E : XK}
/-- the callee, by values -/
theorem run_own {pins : List (Addr × Obj)} {σ : L2.St} {H : Hp} {s : Shared} {Q : VK} {us : List Value} {vs : List V} (F : FnOk X.prog X.w X.K X.mg X.base CX k f fd ps sp) (hr : Room k X.A) (hb : Binds X.K fd ps []) (hx : Passes CX X E)
    (I : Inv X pins σ H s) (r : Vals vs us) (h : sp vs H Q E) : wpAny (model X.prog X.w) X.A (call (.ref f) us) (EP X pins σ Q) X.xe s :=
  run_fn F hr hb .nil hx I r (by rw [List.append_nil]; exact h)
/-- x op y, both of C -/
def rOwn2 (C : Addr) (sp : Sp) (E : XK) : R2 := fun x y H Q => ∃ a b dx dy fs gs, x = .ref a ∧ y = .ref b ∧ H a = some (.ins C dx fs) ∧ H b = some (.ins C dy gs) ∧ sp [x, y] H Q E
theorem cmpBack_of {Q : Value → Shared → Prop} {v : V} {u : Value} {s' : Shared} (r : RelV v u) (h : Q u s') : PySem.W.CmpBack Q u s' := by
  cases v with
  | non => cases r; exact h
  | bl _ => cases r; exact h
  | int _ => obtain ⟨t, rfl⟩ := r; exact h
  | str _ => obtain ⟨t, rfl⟩ := r; exact h
  | byt _ => obtain ⟨t, rfl⟩ := r; exact h
  | flt _ => obtain ⟨t, rfl⟩ := r; exact h
  | ref _ => cases r; exact h
  | ty _ => cases r; exact h
theorem op_own {op : Operator} (M : Meth X.K C (PySem.dunder op.info.2) f) (hc : PySem.W.selfFirst X.K C = true) (F : FnOk X.prog X.w X.K X.mg X.base CX k f fd ps sp) (hr : Room k X.A) (hb : Binds X.K fd ps []) (hx : Passes CX X E) :
    OpR X (binaryOp op) (rOwn2 C sp E) := by
  intro pins s σ H x y v u Q I rx ry h
  obtain ⟨a, b, dx, dy, fs, gs, rfl, rfl, ha, hb', hs⟩ := h
  cases rx
  cases ry
  obtain ⟨mA, J, _⟩ := ins_get I.hok ha
  obtain ⟨mB, J', _⟩ := ins_get I.hok hb'
  obtain ⟨od, J, _⟩ := J.look
  obtain ⟨od', J', _⟩ := J'.look
  obtain ⟨m, hF⟩ := I.fr
  refine PySem.W.binop_K hF I.ok.mod.kin J J'.type hc M.at_ M.fn ?_
  exact thn (run_own (vs := [V.ref a, V.ref b]) F hr hb hx I (.cons rfl (.cons rfl .nil)) hs) fun w s' hw => by
    obtain ⟨z, H', I', rz, q⟩ := hw
    exact cmpBack_of rz ⟨z, H', I', rz, q⟩
def rOwn1 (C : Addr) (sp : Sp) (E : XK) : V → Hp → VK → Prop := fun x H Q => ∃ a dx fs, x = .ref a ∧ H a = some (.ins C dx fs) ∧ sp [x] H Q E
theorem un_own (M : Meth X.K C "__neg__" f) (F : FnOk X.prog X.w X.K X.mg X.base CX k f fd ps sp) (hr : Room k X.A) (hb : Binds X.K fd ps []) (hx : Passes CX X E) :
    UnR X (unaryOp .USub) (rOwn1 C sp E) := by
  intro pins s σ H x v Q I rx h
  obtain ⟨a, dx, fs, rfl, ha, hs⟩ := h
  cases rx
  obtain ⟨mA, J, _⟩ := ins_get I.hok ha
  obtain ⟨od, J, _⟩ := J.look
  obtain ⟨m, hF⟩ := I.fr
  exact PySem.W.ksp_neg hF I.ok.mod.kin J M.at_ M.fn (run_own (vs := [V.ref a]) F hr hb hx I (.cons rfl .nil) hs)
/-- truth by __bool__ -/
theorem tru_own (M : Meth X.K C "__bool__" f) (F : FnOk X.prog X.w X.K X.mg X.base CX k f fd ps sp) (hr : Room k X.A) (hb : Binds X.K fd ps []) (hx : Passes CX X E) :
    TruR X (fun x H Q => ∃ a dx fs, x = .ref a ∧ H a = some (.ins C dx fs) ∧ sp [x] H (fun v H' => ∃ b, v = .bl b ∧ Q b H') E) := by
  intro pins s σ H x v Q I rx h
  obtain ⟨a, dx, fs, rfl, ha, hs⟩ := h
  cases rx
  obtain ⟨mA, J, _⟩ := ins_get I.hok ha
  obtain ⟨od, J, _⟩ := J.look
  obtain ⟨m, hF⟩ := I.fr
  refine PySem.W.truthy_K hF I.ok.mod.kin J M.at_ M.fn ?_
  exact thn (run_own (vs := [V.ref a]) F hr hb hx I (.cons rfl .nil) hs) fun w s' hw => by
    obtain ⟨z, H', I', rz, b, rfl, q⟩ := hw
    cases rz
    exact ⟨H', I', q⟩
/-- len(o) by __len__ -/
theorem len_own (M : Meth X.K C "__len__" f) (F : FnOk X.prog X.w X.K X.mg X.base CX k f fd ps sp) (hr : Room (k + 1) X.A) (hb : Binds X.K fd ps []) (hx : Passes CX X E) :
    CallR X (.builtin "len") (fun xs H Q => ∃ a dx fs, xs = [.ref a] ∧ H a = some (.ins C dx fs) ∧ sp [.ref a] H (fun v H' => ∃ n : Int, v = .int n ∧ 0 ≤ n ∧ n < 2 ^ 63 ∧ Q (.int n) H') E) := by
  intro pins s σ H xs us Q I rx h
  obtain ⟨a, dx, fs, rfl, ha, hs⟩ := h
  obtain ⟨u, rfl, r⟩ := vals1 rx
  cases r
  obtain ⟨mA, J, _⟩ := ins_get I.hok ha
  obtain ⟨od, J, _⟩ := J.look
  obtain ⟨m, hF⟩ := I.fr
  refine PySem.W.len_K hF I.ok.mod.kin J M.at_ M.fn ?_
  have hl := F.len _ _ _ _ hs
  refine wpAny_call (codeAny_mono (F.run X.A.in1 X.stack s H ⟨[.ref a], []⟩ [.ref a] [.ref a] _ E (hr.in1.mono (Nat.le_refl _)) I.env0.in1 (by
    have := hb s [.ref a] I.kIn (by simpa using hl)
    simpa using this) (.cons rfl .nil) hs) fun r s' hq => ?_)
  cases r with
  | error e => exact hx pins σ H s e s' I hq
  | ok fl =>
    cases fl with
    | ret w =>
      obtain ⟨z, H', I', rz, n, rfl, h0, h1, q⟩ := I.after hq
      obtain ⟨t, rfl⟩ := rz
      exact ⟨⟨h0, h1⟩, .int n, H', I'.tok _, ⟨_, rfl⟩, q⟩
    | next => exact False.elim hq
    | brk => exact False.elim hq
    | cont => exact False.elim hq
/-- v in o, v not in o by __contains__ -/
def rInOwn (C : Addr) (sp : Sp) (E : XK) (neg : Bool) : R2 := fun x y H Q => ∃ a dx fs, y = .ref a ∧ H a = some (.ins C dx fs) ∧ sp [y, x] H (fun v H' => ∃ b, v = .bl b ∧ Q (.bl (if neg then !b else b)) H') E
theorem in_own (M : Meth X.K C "__contains__" f) (F : FnOk X.prog X.w X.K X.mg X.base CX k f fd ps sp) (hr : Room k X.A) (hb : Binds X.K fd ps []) (hx : Passes CX X E) :
    OpR X (compareOp .In) (rInOwn C sp E false) := by
  intro pins s σ H x y v u Q I rx ry h
  obtain ⟨a, dx, fs, rfl, ha, hs⟩ := h
  cases ry
  obtain ⟨mA, J, _⟩ := ins_get I.hok ha
  obtain ⟨od, J, _⟩ := J.look
  obtain ⟨m, hF⟩ := I.fr
  refine PySem.W.in_K hF I.ok.mod.kin J M.at_ M.fn ?_
  exact thn (run_own (vs := [V.ref a, x]) F hr hb hx I (.cons rfl (.cons rx .nil)) hs) fun w s' hw => by
    obtain ⟨z, H', I', rz, b, rfl, q⟩ := hw
    cases rz
    exact wpAny_truthy_bool ⟨.bl b, H', I', rfl, q⟩
theorem notin_own (M : Meth X.K C "__contains__" f) (F : FnOk X.prog X.w X.K X.mg X.base CX k f fd ps sp) (hr : Room k X.A) (hb : Binds X.K fd ps []) (hx : Passes CX X E) :
    OpR X (compareOp .NotIn) (rInOwn C sp E true) := by
  intro pins s σ H x y v u Q I rx ry h
  obtain ⟨a, dx, fs, rfl, ha, hs⟩ := h
  cases ry
  obtain ⟨mA, J, _⟩ := ins_get I.hok ha
  obtain ⟨od, J, _⟩ := J.look
  obtain ⟨m, hF⟩ := I.fr
  refine PySem.W.notIn_K hF I.ok.mod.kin J M.at_ M.fn ?_
  exact thn (run_own (vs := [V.ref a, x]) F hr hb hx I (.cons rfl (.cons rx .nil)) hs) fun w s' hw => by
    obtain ⟨z, H', I', rz, b, rfl, q⟩ := hw
    cases rz
    exact wpAny_truthy_bool ⟨.bl (!b), H', I', rfl, q⟩
/-- o == y by __eq__ (y: an instance of C, or anything that is no C) -/
def rEqOwn (K : PySem.W.Frag) (C : Addr) (sp : Sp) (E : XK) : R2 := fun x y H Q => ∃ a b dx dy fs gs, x = .ref a ∧ y = .ref b ∧ H a = some (.ins C dx fs) ∧ H b = some (.ins C dy gs) ∧ sp [x, y] H (fun v H' => ∃ b, v = .bl b ∧ Q (.bl b) H') E
theorem eq_own (M : Meth X.K C "__eq__" f) (F : FnOk X.prog X.w X.K X.mg X.base CX k f fd ps sp) (hr : Room k X.A) (hb : Binds X.K fd ps []) (hx : Passes CX X E) :
    OpR X (compareOp .Eq) (rEqOwn X.K C sp E) := by
  intro pins s σ H x y v u Q I rx ry h
  obtain ⟨a, b, dx, dy, fs, gs, rfl, rfl, ha, hb', hs⟩ := h
  cases rx
  cases ry
  obtain ⟨mA, J, _⟩ := ins_get I.hok ha
  obtain ⟨mB, J', _⟩ := ins_get I.hok hb'
  obtain ⟨od, J, _⟩ := J.look
  obtain ⟨od', J', _⟩ := J'.look
  obtain ⟨m, hF⟩ := I.fr
  show wpAny _ _ (richCompare .Eq (.ref a) (.ref b)) _ _ _
  refine PySem.W.cmp_K (op := .Eq) (tb := .ref C) hr.units0 hF I.ok.mod.kin J J'.type (by simp [PySem.W.notFirst]) M.at_ M.fn ?_
  exact thn (run_own (vs := [V.ref a, V.ref b]) F hr hb hx I (.cons rfl (.cons rfl .nil)) hs) fun w s' hw => by
    obtain ⟨z, H', I', rz, b, rfl, q⟩ := hw
    cases rz
    exact ⟨.bl b, H', I', rfl, q⟩
/-- o != y: no own __ne__, so by __eq__ -/
theorem ne_own (M : Meth X.K C "__eq__" f) (hn : PySem.W.findIn X.K (.ref C) "__ne__" = some (some (.builtin "object.__ne__"))) (ho : PySem.W.mroIn X.K C (.type "object") = some true) (F : FnOk X.prog X.w X.K X.mg X.base CX k f fd ps sp) (hr : Room (k + 1) X.A) (hb : Binds X.K fd ps []) (hx : Passes CX X E) :
    OpR X (compareOp .NotEq) (fun x y H Q => ∃ a b dx dy fs gs, x = .ref a ∧ y = .ref b ∧ H a = some (.ins C dx fs) ∧ H b = some (.ins C dy gs) ∧ sp [x, y] H (fun v H' => ∃ b, v = .bl b ∧ Q (.bl (!b)) H') E) := by
  intro pins s σ H x y v u Q I rx ry h
  obtain ⟨a, b, dx, dy, fs, gs, rfl, rfl, ha, hb', hs⟩ := h
  cases rx
  cases ry
  obtain ⟨mA, J, _⟩ := ins_get I.hok ha
  obtain ⟨mB, J', _⟩ := ins_get I.hok hb'
  obtain ⟨od, J, _⟩ := J.look
  obtain ⟨od', J', _⟩ := J'.look
  obtain ⟨m, hF⟩ := I.fr
  have KX := I.kIn
  have sub : PySem.W.Looks (model X.prog X.w) s.heap (isInstance (.ref a) (.type "object")) true := J.type.andThen (PySem.W.looks_mroIn KX ho)
  have hl := F.len _ _ _ _ hs
  have inner : wpAny (model X.prog X.w) X.A.in1 (call (.ref f) [.ref a, .ref b]) (fun v s' => ∃ c H', v = .bool c ∧ Inv X pins σ H' s' ∧ Q (.bl (!c)) H') X.xe s := by
    refine wpAny_call (codeAny_mono (F.run X.A.in1 X.stack s H ⟨[.ref a, .ref b], []⟩ [.ref a, .ref b] [.ref a, .ref b] _ E hr.in1 I.env0.in1 (by
      have := hb s [.ref a, .ref b] KX (by simpa using hl)
      simpa using this) (.cons rfl (.cons rfl .nil)) hs) fun r s' hq => ?_)
    cases r with
    | error e => exact hx pins σ H s e s' I hq
    | ok fl =>
      cases fl with
      | ret w =>
        obtain ⟨z, H', I', rz, c, rfl, q⟩ := I.after hq
        cases rz
        exact ⟨c, H', rfl, I', q⟩
      | next => exact False.elim hq
      | brk => exact False.elim hq
      | cont => exact False.elim hq
  have S := PySem.F.cmp_object.ne
  have hu1 : X.A.in1.units < cLine := hr.in1.units0
  have one : wpAny (model X.prog X.w) X.A (tryCompare (.ref a) "__ne__" (.ref b)) (fun r s' => ∃ v, r = some v ∧ EP X pins σ Q v s') X.xe s := by
    unfold tryCompare
    simp only [callSpecialIfBound?, bindSpecialIfBound?]
    have fin : wpAny (model X.prog X.w) X.A (call (.builtin "object.__ne__") ([.ref a] ++ [.ref b])) (fun v s' => ∃ c H', v = .bool (!c) ∧ Inv X pins σ H' s' ∧ Q (.bl (!c)) H') X.xe s := by
      refine wpAny_call (codeAny_call_builtin S.plain PySem.F.cmpEntry_ne (@PySem.W.check_slot (model X.prog X.w) _ _ s "object.__ne__" "object" "__ne__" (.ref a) [.ref b] [] _ PySem.F.cmpKind_ne PySem.F.cmpSplit_ne sub (PySem.F.cmpArgs_ne _ _) ?_))
      unfold Builtin.«object.__ne__»
      refine wpAny_bind (wpAny_pure ?_)
      refine wpAny_bind (wpAny_cRoomFor hu1 ?_)
      refine wpAny_bind (PySem.W.ifBound_K KX J M.at_ M.fn (thn inner fun v s' ⟨c, H', e, I', q⟩ => ?_))
      subst e
      refine wpAny_bind (wpAny_truthy_bool ?_)
      exact wpAny_pure ⟨c, H', rfl, I', q⟩
    have fin2 : ∀ {kk : Option Value → Sem (Option Value)}, (∀ b, kk (some (.bool b)) = pure (some (.bool b))) → wpAny (model X.prog X.w) X.A (call (.builtin "object.__ne__") ([.ref a] ++ [.ref b]) >>= fun v => pure (some v)) (fun r s' => wpAny (model X.prog X.w) X.A (kk r) (fun r s' => ∃ v, r = some v ∧ EP X pins σ Q v s') X.xe s') X.xe s := fun {kk} hk =>
      wpAny_bind (wpAny_mono fin (fun v s' ⟨c, H', e, I', q⟩ => wpAny_pure (by subst e; rw [hk]; exact wpAny_pure ⟨_, rfl, .bl (!c), H', I', rfl, q⟩)) fun _ _ h' => h')
    refine wpAny_bind ?_
    refine wpAny_holding (wpAny_bind (wpAny_bind (wpAny_bind (J.type.here ((PySem.W.looks_findIn KX hn).here ?_)))))
    refine wpAny_bind (wpAny_askSetting (wpAny_ite ?_))
    simp only [S.bind]
    split
    · exact wpAny_bind (wpAny_pure (wpAny_pure (fin2 fun _ => rfl)))
    · exact wpAny_tryCatch (wpAny_bind (wpAny_pure (wpAny_pure (fin2 fun _ => rfl))))
  show wpAny _ _ (richCompare .NotEq (.ref a) (.ref b)) _ _ _
  unfold richCompare
  simp only [oneThing_ref]
  refine wpAny_holding (wpAny_bind (wpAny_cRoomFor hr.units0 ?_))
  refine wpAny_bind (J.type.here (wpAny_bind (J'.type.here ?_)))
  rw [if_neg (by simp)]
  refine wpAny_bind (wpAny_pure ?_)
  simp only [Bool.false_eq_true, if_false]
  refine wpAny_bind (wpAny_mono one (fun r s' z => ?_) fun _ _ e => e)
  obtain ⟨v, rfl, hq⟩ := z
  exact wpAny_pure hq
end
end OT
/-! Errors of the text: super().__init__(..) in their __init__. -/
namespace OT
open PySem PySem.Spec PyProof.Rows L2 NdefX

/-- what is told of an error class and its __init__ -/
structure XI (P : Program) (K : PySem.W.Frag) (mg : Str → Option Value) (C f : Addr) (fd : FuncData) (F : NF) : Prop where
  lk : ∃ oc od osl, K.lookup f = some ⟨oc, od, .func fd, osl⟩
  eq : ∃ dV kV doc pm an ct, fd = PySem.W.fnX F.name F.qual F.params F.body F.scope F.cl dV kV doc pm an (.ref F.c) ct
  cd : PySem.W.codeIn K (.ref F.c) F.qual = true
  code : ∃ ccl cdd vs ccs file tf, K.lookup F.c = some ⟨ccl, cdd, .fields vs, ccs⟩ ∧ vs[2]? = some (.str file tf) ∧ ((P.main.file : Str) == file) = true
  cell : ∃ cc cl cld csl, F.cl = [(("__class__" : Str), cc)] ∧ K.lookup cc = some ⟨cl, cld, .cell (some (.ref C)), csl⟩
  T : OexC K C
  mro : PySem.W.mroIn K C (.ref C) = some true
  sup : PySem.W.ks_superIn K C C "__init__" = some (some (.builtin "ValueError.__init__"))
  opq : PySem.W.nsIn K cStatics "thirdparty.any" = some none
  sub : PySem.W.subIn K (.ref C) (.type "ValueError") = some true
  mgs : mg "super" = none
  top : (P.main.scope.names.lookup ("super" : Str)).isSome = false
theorem boot_super : bootBuiltins "super" = some (.type "super") := by decide +kernel
section
variable {P : Program} {w : World} {K : PySem.W.Frag} {mg : Str → Option Value} {base : Heap}
theorem xi_ok {CX : CXT} {C f : Addr} {fd : FuncData} {F : NF} {N ps' : List Str} {self : Str} {k : Nat} {sp : Sp} {arg : Expr} {rest : List Stmt} {p0 p1 apos cpos pos : Pos} {ar : Arg} (W : XI P K mg C f fd F) (S : NScope N (self :: ps') ["__class__"] F.scope) (len : ∀ vs H Q E, sp vs H Q E → vs.length = (self :: ps').length)
    (hB : F.body = .Expr (.Call (.Attribute (.Call (.Name "super" p0) [] [] p1) "__init__" apos) [arg] [] cpos) pos :: rest) (hp : (F.params.posonlyargs ++ F.params.args).head? = some ar) (ha : ar.arg = self) (hks : F.scope.names.lookup ("super" : Str) = some .globalImplicit)
    (hbody : ∀ (A : Around) (outer : List Env) (s : Shared) (H : Hp) (vs : List V) (Q : VK) (E : XK), Room k (A.deeper (envF F f s.heap.objs.size)) → sp vs H Q E → ∃ a vs', vs = .ref a :: vs' ∧ H a = some (exo a C none) ∧
      wA (ncx CX P w K mg base N F f A outer s H E) [arg] (startF N vs [some (.ref C)]) H fun ws H1 => ws.length ≤ 1000 ∧ H1 a = some (exo a C none) ∧ wB (ncx CX P w K mg base N F f A outer s H E) rest { nx := fun _ H' => Q .non H', rt := Q } (startF N vs [some (.ref C)]) H1)
    (hst : ∀ env : Env, starEach [arg] env = (false, eval arg env) :: starEach [] env)
    (hsw : ∀ env : Env, swapsWith (.Call (.Attribute (.Call (.Name "super" p0) [] [] p1) "__init__" apos) [arg] [] cpos) none pos.line env = pure false)
    (he : ∀ env : Env, ∃ pl, eval (.Call (.Attribute (.Call (.Name "super" p0) [] [] p1) "__init__" apos) [arg] [] cpos) env = (do
      let ov ← attributeBase (.Call (.Name "super" p0) [] [] p1) "__init__" env (eval (.Call (.Name "super" p0) [] [] p1) env)
      standAt apos.atName
      let (f, first) ← holding [ov] (getMethod ov "__init__" pl)
      callWith cpos f first (backTo cpos (starEach [arg] env)) [])) :
    FnOk P w K mg base CX (k + 1) f fd (self :: ps') sp := by
  refine ⟨len, fun A outer s H args us vs Q E hr e0 hb r hsp => ?_⟩
  have hl := len _ _ _ _ hsp
  obtain ⟨oc, od, osl, lk⟩ := W.lk
  obtain ⟨dV, kV, doc, pm, an, ct, rfl⟩ := W.eq
  obtain ⟨cc, clc, cld, csl, ecl, lc⟩ := W.cell
  obtain ⟨ccl, cdd, cvs, ccs, file, tf, lcode, hv2, hfile⟩ := W.code
  have KX : K.In s.heap := e0.mod.kin.keeps fun b o e => (e0.bs b o e).1
  have KB : ∀ {b o}, K.lookup b = some o → base.get? b = some o := fun {b o} e => e0.mod.kin b o e
  have lim : s.heap.NoLimit := e0.mod.nolimit.keeps fun b o e => (e0.bs b o e).1
  refine ks_codeAny_call_defAt (fd := PySem.W.fnX F.name F.qual F.params F.body F.scope F.cl dV kV doc pm an (.ref F.c) ct) (body := F.body) hr.depth (KX _ _ lk) rfl lim (PySem.W.codeRec_of KX W.cd) rfl hb (fun y hy => S.nocell y hy) (fun y hy => S.par y.1 (List.of_mem_zip hy).1) (fun h₁ hns kp => ?_) S.co S.gen S.kind
  have CA : CellsAt F.cl ["__class__"] [some (.ref C)] s.heap H := by
    refine ⟨rfl, fun y c hc => ?_, fun x y c h1 h2 => ?_, fun i y hi => ?_⟩
    · rw [ecl] at hc
      have : c = cc := by
        rw [List.lookup_cons] at hc
        split at hc
        · exact (Option.some.inj hc).symm
        · cases hc
      subst this
      exact ⟨(e0.bs _ _ (KB lc)).2, _, _, (e0.bs _ _ (KB lc)).1, rfl⟩
    · rw [ecl] at h1 h2
      have key : ∀ {z : Str}, List.lookup z [(("__class__" : Str), cc)] = some c → z = "__class__" := fun {z} q => by
        by_cases e : z = "__class__"
        · exact e
        · have e2 : (z == ("__class__" : Str)) = false := by simpa using e
          rw [List.lookup_cons, e2] at q
          cases q
      rw [key h1, key h2]
    · cases i with
      | zero =>
        have : y = "__class__" := by simpa using hi.symm
        subst this
        refine ⟨cc, by rw [ecl]; simp, fun v hv => ?_⟩
        have : v = .ref C := by simpa using hv.symm
        subst this
        exact ⟨.ref C, rfl, _, (e0.bs _ _ (KB lc)).1, rfl⟩
      | succ i => simp at hi
  have I : Inv (ncx CX P w K mg base N F f A outer s H E) [] (startF N vs [some (.ref C)]) H { s with heap := h₁, toks := s.toks + ((self :: ps').zip us).length } := inv_startN S hr.hd e0 hl r CA hns kp
  obtain ⟨a, vs', rfl, hHa, hq⟩ := hbody A outer s H vs Q E (hr.deeper _) hsp
  obtain ⟨ta, hta, hq⟩ := hq
  show PySem.wpAt (model P w) (A.deeper (envF F f s.heap.objs.size)) (.func F.body (envF F f s.heap.objs.size)) (execs F.body (envF F f s.heap.objs.size)) _ _ _
  rw [show execs F.body (envF F f s.heap.objs.size) = execs (.Expr (.Call (.Attribute (.Call (.Name "super" p0) [] [] p1) "__init__" apos) [arg] [] cpos) pos :: rest) (envF F f s.heap.objs.size) by rw [hB]]
  refine ks_wpAt_execs_cons (ks_wpAt_Expr_any ?_ (by simp [interactive, S.kind]) (hsw _))
  obtain ⟨pl, he⟩ := he (envF F f s.heap.objs.size)
  refine ks_wpAt_MethodCall (pl := pl) ?_ he
  have hN0 : N[0]? = some self := by
    have q := S.pre
    cases N with
    | nil => simp at q
    | cons n N =>
      have q2 : n = self := by
        have := congrArg (fun l : List Str => l[0]?) q
        simpa using this
      rw [q2]
      rfl
  obtain ⟨t1, hoa⟩ := exo_at I.hok hHa
  obtain ⟨nm, qn, Nn, bs, bm, sn, sub, ab, col, dd, k0, k1, k2, k3, k5, hC, hbm⟩ := W.T.cls
  have K1 := I.kIn
  have IA : PySem.W.InstAt h₁ a { cls := .ref C, dict := none, data := .fields #[.ref t1, .none, .none, .none, .bool false, .none] } C none := ⟨hoa, rfl, rfl, trivial⟩
  have hcd : ∃ cd, PySem.W.clsIn K C = some cd := by
    unfold PySem.W.clsIn
    rw [hC]
    exact ⟨_, rfl⟩
  obtain ⟨cd, hcd⟩ := hcd
  have hsup : PySem.W.alongIn K "__init__" ((cd.mro.dropWhile (· != .ref C)).drop 1) = some (some (.builtin "ValueError.__init__")) := by
    have q := W.sup
    unfold PySem.W.ks_superIn at q
    rw [hcd] at q
    exact q
  obtain ⟨mb, hb1, hb2⟩ := I.mod.blt
  obtain ⟨mm, hnn, hloc⟩ := I.loc
  have hself : mm self = some (.ref a) := by
    obtain ⟨u, ru, l⟩ := hloc 0 self (.ref a) hN0 rfl (.inl (S.par self List.mem_cons_self))
    cases ru
    have kl : F.scope.names.lookup self = some .local := S.par self List.mem_cons_self
    rcases l with ⟨_, hm⟩ | ⟨hk', _⟩
    · exact hm
    · have hk2 : F.scope.names.lookup self = some .cell ∨ F.scope.names.lookup self = some .free := hk'
      rw [kl] at hk2
      rcases hk2 with z | z <;> cases z
  refine ks_wpAt_super_base (env := envF F f s.heap.objs.size) hks (S.frk _ List.mem_cons_self) (by decide +kernel) rfl (K1 _ _ lk) rfl hp rfl (K1 _ _ lcode) rfl hv2 hfile W.top ?_
  refine PySem.W.ks_loadName_global S.kind hks (Calls.loadGlobal_builtin (env := envF F f s.heap.objs.size) (I.mod.glob.keeps I.bk) W.mgs (hb1.keeps I.bk) ((hb2 _ (by decide)).trans boot_super) ⟨rfl, ?_⟩)
  refine wpAny_loadName_free S.kind (S.frk _ List.mem_cons_self) (by show F.cl.lookup _ = _; rw [ecl]; simp) ⟨_, K1 _ _ lc, rfl⟩ ?_
  refine wpAny_loadName_local S.kind (by rw [ha]; exact S.par self List.mem_cons_self) hnn (by rw [ha]; exact hself) ?_
  refine ks_wpAny_isType_cls (K1 _ _ hC) rfl ⟨rfl, ?_⟩
  have hno := PySem.W.looks_opaque (M := model P w) (C := C) K1 W.opq
  have hmr : PySem.W.Looks (model P w) h₁ (mroOf (.ref C)) cd.mro := (PySem.W.looks_clsIn K1 hcd).andThen .now
  refine ks_wpAny_call_super (K1 _ _ hC) rfl hoa rfl (fun c z => by cases z) (PySem.W.looks_mroIn K1 W.mro) fun h2 hso k2 => ?_
  have I2 : Inv (ncx CX P w K mg base N F f A outer s H E) [] (startF N (.ref a :: vs') [some (.ref C)]) H ⟨h2, s.gens, s.drawn, s.toks + ((self :: ps').zip us).length, s.os⟩ := I.kept (t' := s.toks + ((self :: ps').zip us).length) k2
  have K2 := I2.kIn
  have hsubL : PySem.W.Looks (model P w) h₁ (isSubtype (.ref C) (.type "ValueError")) true := PySem.W.looks_subIn (K := K) K1 W.sub
  have hinst : PySem.W.Looks (model P w) h₁ (isInstance (.ref a) (.type "ValueError")) true := IA.type.andThen hsubL
  refine PySem.W.kxs_getMethod PySem.W.kxs_ValueError hso (hno.keeps k2) (hmr.keeps k2) rfl K2 hsup (hinst.keeps k2) (PySem.W.ks_ne K1 IA hcd) (by decide +kernel) ?_
  have I3 : Inv (ncx CX P w K mg base N F f A outer s H E) [(h2.objs.size, PySem.W.kxs_mw "ValueError.__init__" a)] (startF N (.ref a :: vs') [some (.ref C)]) H ⟨h2.push (PySem.W.kxs_mw "ValueError.__init__" a), s.gens, s.drawn, s.toks + ((self :: ps').zip us).length + 1, s.os⟩ :=
    ClX.pin_new (s := ⟨h2, s.gens, s.drawn, s.toks + ((self :: ps').zip us).length, s.os⟩) (t' := s.toks + ((self :: ps').zip us).length + 1) I2 (fun b u e => Heap.get?_push_of_some _ e) (Nat.le_refl _) (Heap.get?_push_at rfl rfl) (fun v z => by cases z)
  rw [show backTo cpos (starEach [arg] (envF F f s.heap.objs.size)) = backTo cpos ((false, eval arg (envF F f s.heap.objs.size)) :: starEach [] (envF F f s.heap.objs.size)) by rw [hst]]
  refine PySem.W.kxs_callWith (i := "ValueError.__init__") (x := a) rfl (PySem.Calls.evalArgs_plain ?_)
  have run := hta.run cpos _ _ _ _ _ I3 hq
  rw [show backTo cpos (starEach [arg] (ncx CX P w K mg base N F f A outer s H E).env) = backTo cpos ((false, eval arg (envF F f s.heap.objs.size)) :: starEach [] (envF F f s.heap.objs.size)) by rw [hst]; rfl] at run
  refine thn run fun ws' s4 hw => ?_
  obtain ⟨ws, H1, I4, rws, hwl, hH1a, hrest⟩ := hw
  refine ⟨ClX.pin_at I4, ?_⟩
  have I5 := ClX.unpin I4
  obtain ⟨t5, ho5⟩ := exo_at I5.hok hH1a
  obtain ⟨h5, g5, d5, tk5, os5⟩ := s4
  have K5 : K.In h5 := I5.kIn
  have hu5 : h5.get? h2.objs.size = some (PySem.W.kxs_mw "ValueError.__init__" a) := ClX.pin_at I4
  have FB := PySem.F.excBase_ValueError
  refine wpAny_call (codeAny_of_tree ?_)
  show wpAny _ (A.deeper (envF F f s.heap.objs.size)).in1 (callAny (.ref h2.objs.size) ⟨[] ++ ws', []⟩) _ _ _
  simp only [callAny]
  refine wpAny_bind (wpAny_load hu5 ?_)
  simp only [PySem.W.kxs_mw, show (Value.type "method-wrapper" == Value.type "method" || Value.type "method-wrapper" == Value.type "builtin_function_or_method" || Value.type "method-wrapper" == Value.type "method-wrapper") = true by decide, if_true]
  refine PySem.W.KFB.if_so (by decide) ?_
  refine wpAny_bind (PySem.W.check_bound_init FB.toExcCallFacts (K5 _ _ hC) ho5 rfl ?_)
  refine wpAny_bind (wpAny_pure (wpAny_pure ?_))
  refine ⟨plainId_quiet FB.init.plain _, codeAny_builtin FB.initEntry ?_⟩
  refine PySem.W.exc_init_tree (cls := .ref C) (t0 := t5) (dv := none) (c2 := .none) (c3 := .none) (b4 := .bool false) ho5 (by rw [List.nil_append, ← Paired.length rws]; exact Nat.le_trans hwl (by decide)) fun h6 k6 e6 _ => ?_
  have I6 : Inv (ncx CX P w K mg base N F f A outer s H E) [] (startF N (.ref a :: vs') [some (.ref C)]) H1 ⟨h6, g5, d5, tk5, os5⟩ := by
    have J := I5.write (t' := tk5) (x := a) (e := a) (o := exo a C none) (by rw [hH1a]; exact True.intro) (.inl rfl) k6 ⟨_, e6⟩ (exo_ok e6)
    have eu : upd H1 a (exo a C none) = H1 := by
      funext b
      by_cases hb : b = a
      · rw [hb, upd_same, hH1a]
      · rw [upd_ne hb]
    rw [eu] at J
    exact J
  refine wpAt_of_wpAny (wpAny_mono (pb_w.run [] _ _ H1 _ I6 hrest) (fun fl s' hs => ?_) fun e s' hs => hs)
  have fin : ∀ {σ' : L2.St} {H' : Hp} {v : V} {u : Value}, Inv (ncx CX P w K mg base N F f A outer s H E) [] σ' H' s' → L2.RelV v u → Q v H' → CE outer P w H s Q u s' :=
    fun {σ' H' v u} J rv q => ⟨v, H', J.os, J.bare, J.base, J.hok, rv, q⟩
  cases fl with
  | ret u =>
    obtain ⟨v, σ', H', J, rv, q⟩ := hs
    exact fin J rv q
  | next =>
    obtain ⟨σ', H', J, q⟩ := hs
    exact fin (v := V.non) (u := Value.none) J rfl q
  | brk =>
    obtain ⟨_, _, _, q⟩ := hs
    exact False.elim q
  | cont =>
    obtain ⟨_, _, _, q⟩ := hs
    exact False.elim q
end
end OT
/-! Errors: made, raised, caught. -/
namespace OT
open PySem PySem.Spec PyProof.Rows L2 NdefX

/-- what may stand in an f-string -/
def fmtOk : V → Prop
  | .int i => i.natAbs.log2 < 1920
  | .str y => y.length ≤ 100000
  | _ => False
/-- an error of the class at C with these fields -/
def xE (C : Addr) (fs : List (Str × MP)) : XP := ⟨fun S c d => c = .ref C ∧ ∃ a ws, d = some a ∧ S a = some (.xd ws) ∧ FldR fs S ws, fun {S S' c d} e ⟨h1, a, ws, h2, h3, h4⟩ => ⟨h1, a, ws, h2, e _ _ h3, h4.up e⟩⟩
/-- the promise of an __init__ that stores its one argument -/
def spE1 (C : Addr) (fl : Str) : Sp := fun vs H Q _ => ∃ a H1 y, vs = [.ref a, y] ∧ H = upd H1 a (exo a C none) ∧ H1 a = none ∧ fmtOk y ∧ ∀ d, H1 d = none → d ≠ a → Q .non (upd (upd H d (exd d [(fl, y)])) a (exo a C (some d)))
section
variable (P : Program) (w : World) (K : PySem.W.Frag) (mg : Str → Option Value) (base : Heap)
/-- an error class of the module -/
def GE (x : Str) (C : Addr) (k : Nat) (ps : List Str) (sp : Sp) : Prop := ∃ f fd, FnOk P w K mg base (L2.CX P w) k f fd ps sp ∧ OexC K C ∧ PySem.W.findIn K (.ref C) "__init__" = some (some (.ref f)) ∧ PySem.W.typeIn K (.ref f) = some (.type "function") ∧ mg x = some (.ref C) ∧ Binds K fd ps []
end
theorem str_app (a b : Str) : (a ++ b).length = a.length + b.length := by
  show (a.cps ++ b.cps).size = _
  rw [Array.size_append] <;> rfl
theorem str_len0 : (Str.empty).length = 0 := rfl
/-- the text of an int or a text in an f-string -/
theorem fmt_one {v : V} {te : TE} {σ : L2.St} {H : Hp} {Q : VK} (ho : fmtOk v) (ht : ∀ Q : VK, Q v H → te σ H Q) (h : ∀ y : Str, y.length ≤ 100000 → Q (.str y) H) : tFmt te σ H Q := by
  refine ht _ ?_
  cases v with
  | int i =>
    have ho2 : i.natAbs.log2 < 1920 := ho
    exact .inr ⟨i, rfl, ho2, h _ (Nat.le_trans (int_text_len_1921 ho2) (by decide))⟩
  | str y =>
    have ho2 : y.length ≤ 100000 := ho
    exact .inl ⟨y, rfl, Nat.le_trans ho2 (by decide), h y ho2⟩
  | _ => exact ho.elim
theorem fmt_pre {X : Cx} {n : Str} {i : Nat} {z : Str} {j} {p1 p2 p3 p4 : Pos} (hN : X.N[i]? = some n) (hv : Vis X.env.scope n) (hz : z.length ≤ 1000) (hd : (n == ("__debug__" : Str)) = false) (hcd : (n == ("__classdict__" : Str)) = false) {σ : L2.St} {H : Hp} {v : V} {Q : VK} (hs : σ[i]? = some (some v)) (ho : fmtOk v) (h : ∀ y : Str, Q (.str y) H) :
    wE X (.JoinedStr [.FormattedValue (.Name n p1) (-1) none p2, .Constant (.str z) j p3] p4) σ H Q := by
  refine ⟨_, pe_joined (.cons (pe_fmt (pe_var hN hv hd hcd)) (.cons pe_str .nil)), ?_⟩
  refine fmt_one ho (fun Q q => ⟨v, hs, q⟩) fun y hy => ⟨y, rfl, ?_, z, rfl, ?_, h _⟩
  · rw [str_app, str_len0, Nat.zero_add]
    exact Nat.le_trans hy (by decide)
  · rw [str_app, str_app, str_len0, Nat.zero_add]
    exact Nat.le_trans (Nat.add_le_add hy hz) (by decide)
theorem fmt_post {X : Cx} {n : Str} {i : Nat} {z : Str} {j} {p1 p2 p3 p4 : Pos} (hN : X.N[i]? = some n) (hv : Vis X.env.scope n) (hz : z.length ≤ 1000) (hd : (n == ("__debug__" : Str)) = false) (hcd : (n == ("__classdict__" : Str)) = false) {σ : L2.St} {H : Hp} {v : V} {Q : VK} (hs : σ[i]? = some (some v)) (ho : fmtOk v) (h : ∀ y : Str, Q (.str y) H) :
    wE X (.JoinedStr [.Constant (.str z) j p3, .FormattedValue (.Name n p1) (-1) none p2] p4) σ H Q := by
  refine ⟨_, pe_joined (.cons pe_str (.cons (pe_fmt (pe_var hN hv hd hcd)) .nil)), z, rfl, ?_, ?_⟩
  · rw [str_app, str_len0, Nat.zero_add]
    exact Nat.le_trans hz (by decide)
  · refine fmt_one ho (fun Q q => ⟨v, hs, q⟩) fun y hy => ⟨y, rfl, ?_, h _⟩
    rw [str_app, str_app, str_len0, Nat.zero_add]
    exact Nat.le_trans (Nat.add_le_add hz hy) (by decide)
section
variable {P : Program} {w : World} {K : PySem.W.Frag} {mg : Str → Option Value} {base : Heap}
/-- class X(..): def __init__(self, n): super().__init__(f'..'); self.fl = n -/
theorem xi_one {C f : Addr} {fd : FuncData} {F : NF} {fl n : Str} {arg : Expr} {p0 p1 p2 p3 p4 apos cpos pos pos2 : Pos} {ar : Arg} (W : XI P K mg C f fd F) (S : NScope ["self", n, "__class__"] ["self", n] ["__class__"] F.scope)
    (hB : F.body = [.Expr (.Call (.Attribute (.Call (.Name "super" p0) [] [] p1) "__init__" apos) [arg] [] cpos) pos, .Assign [.Attribute (.Name "self" p2) fl p3] (.Name n p4) pos2]) (hp : (F.params.posonlyargs ++ F.params.args).head? = some ar) (ha : ar.arg = "self") (hks : F.scope.names.lookup ("super" : Str) = some .globalImplicit)
    (hno : PySem.W.findIn K (.ref C) fl = some none) (hd : (n == ("__debug__" : Str)) = false) (hcd : (n == ("__classdict__" : Str)) = false)
    (harg : ∀ (X : Cx), X.N = (["self", n, "__class__"] : List Str) → Vis X.env.scope n → ∀ (σ : L2.St) (H : Hp) (v : V) (Q : VK), σ[1]? = some (some v) → fmtOk v → (∀ y : Str, Q (.str y) H) → wE X arg σ H Q)
    (hst : ∀ env : Env, starEach [arg] env = (false, eval arg env) :: starEach [] env)
    (hsw : ∀ env : Env, swapsWith (.Call (.Attribute (.Call (.Name "super" p0) [] [] p1) "__init__" apos) [arg] [] cpos) none pos.line env = pure false)
    (he : ∀ env : Env, ∃ pl, eval (.Call (.Attribute (.Call (.Name "super" p0) [] [] p1) "__init__" apos) [arg] [] cpos) env = (do
      let ov ← attributeBase (.Call (.Name "super" p0) [] [] p1) "__init__" env (eval (.Call (.Name "super" p0) [] [] p1) env)
      standAt apos.atName
      let (f, first) ← holding [ov] (getMethod ov "__init__" pl)
      callWith cpos f first (backTo cpos (starEach [arg] env)) []))
    (hsw2 : ∀ env : Env, swapsWith (.Name n p4) (some (.Attribute (.Name "self" p2) fl p3)) pos2.line env = pure false) :
    FnOk P w K mg base (L2.CX P w) 1 f fd ["self", n] (spE1 C fl) := by
  refine xi_ok (k := 0) W S (fun vs H Q E h => ?_) hB hp ha hks (fun A outer s H vs Q E hr h => ?_) hst hsw he
  · obtain ⟨a, H1, y, rfl, _⟩ := h
    rfl
  · obtain ⟨a, H1, y, rfl, rfl, n1, ok, q⟩ := h
    have hv : Vis F.scope n := .inl (S.par n (by simp))
    have hvs : Vis F.scope "self" := .inl (S.par "self" (by simp))
    refine ⟨a, [y], rfl, upd_same, _, pa_cons pe_w pa_nil (hst _), ?_⟩
    refine harg _ rfl hv _ _ y _ rfl ok fun z => ⟨(by show 1 ≤ 1000; decide), upd_same, ?_⟩
    refine ⟨_, pss_one (ps_ost (pe_var (i := 0) rfl hvs (by decide) (by decide)) (pe_var (i := 1) rfl hv hd hcd) (hsw2 _)), y, rfl, .ref a, rfl, a, C, rfl, W.T, hno, .inl ⟨upd_same, fun d hd hne => ?_⟩⟩
    exact q d (by rw [upd_ne hne] at hd; exact hd) hne
end
section
variable {X : Cx} {B : Bs} {Γ : Gm} {O : Om} {e a b c o : Expr} {es : List Expr} {p pos pos' apos : Pos} {R : MP} {D : Ends} {rest body els : List Stmt} {x m fl : Str} {C : Addr} {k : Nat} {ps : List Str} {W : WX}
/-- raise X(e) -/
theorem s_raise1 (F : GE X.prog X.w X.K X.mg X.base x C k ps (spE1 C fl)) (hr : Room (k + 1) X.A) (tk : Takes X W) (he : EJ X B Γ O e R.b) (hf : ∀ S v, R.R S v → fmtOk v)
    (hE : ∀ c d S H σ, Stt B Γ O S H σ → (xE C [(fl, R)]).R S c d → W c d σ H) (hg : Gl X x := by rfl) (hc : X.calm = true := by rfl) (hdb : (x == ("__debug__" : Str)) = false := by decide) (hs : starEach [e] X.env = (false, eval e X.env) :: starEach [] X.env := by rfl) (hpl : (backTo pos (starEach [] X.env)).any (·.1) = false := by rfl) :
    SJ X B Γ O (.Raise (some (.Call (.Name x p) [e] [] pos)) none pos' :: rest) D := by
  obtain ⟨f, fd, F, T, iC, tI, hm, hb⟩ := F
  refine SJ.cons fun S H σ st => ⟨_, ps_raise hc tk (pmk_oex T iC tI F hr hb .nil passL hg hm pa_w hdb hs hpl), a_cons he a_nil hs S H σ st _ fun vs S1 H1 s1 r1 => ?_⟩
  obtain ⟨v, rfl, hv⟩ := r1.one
  refine ⟨(by show 1 ≤ 1000; decide), fun a na => ⟨a, H1, v, rfl, rfl, na, hf _ _ hv, fun d nd ne => ⟨rfl, d, [(fl, v)], upd_same, ?_, nd, ?_⟩⟩⟩
  · rw [upd_ne ne, upd_same]
  · have e2 : upd (del (upd (upd (upd H1 a (exo a C none)) d (exd d [(fl, v)])) a (exo a C (some d))) a) d (.xd [(fl, v)]) = upd H1 d (.xd [(fl, v)]) := by
      funext b
      by_cases h1 : b = d
      · rw [h1, upd_same, upd_same]
      · rw [upd_ne h1, upd_ne h1]
        by_cases h2 : b = a
        · rw [h2, del_same, na]
        · rw [del_ne h2, upd_ne h2, upd_ne h1, upd_ne h2]
    rw [e2]
    have s2 := Stp.put (o := .xd [(fl, v)]) s1.i nd
    exact hE _ _ (upd S1 d (.xd [(fl, v)])) _ σ ((st.step s1).step s2) ⟨rfl, d, _, rfl, upd_same, rfl, R.up s2.s hv, trivial⟩
/-- e raises, and so does x = e, e alone, return e -/
theorem s_exprX {Px : XP} (he : XJ X B Γ O W e Px) (hE : ∀ c d S H σ, Stt B Γ O S H σ → Px.R S c d → W c d σ H) (hs : swapsWith e none pos.line X.env = pure false := by rfl) : SJ X B Γ O (.Expr e pos :: rest) D :=
  SJ.cons fun S H σ st => ⟨_, ps_expr pe_w hs, he S H σ st (fun c d S1 H1 s1 r => hE c d S1 H1 σ (st.step s1) r) _⟩
theorem s_retX {Px : XP} (he : XJ X B Γ O W e Px) (hE : ∀ c d S H σ, Stt B Γ O S H σ → Px.R S c d → W c d σ H) : SJ X B Γ O (.Return (some e) pos :: rest) D :=
  SJ.cons fun S H σ st => ⟨_, ps_ret pe_w, he S H σ st (fun c d S1 H1 s1 r => hE c d S1 H1 σ (st.step s1) r) _⟩
theorem s_setX {Px : XP} {i : Nat} {x : Str} (he : XJ X B Γ O W e Px) (hE : ∀ c d S H σ, Stt B Γ O S H σ → Px.R S c d → W c d σ H) (hi : X.N[i]? = some x := by rfl) (hN : X.N.Nodup := by assumption)
    (hx : Loc X.env.scope x := by first | exact Or.inl rfl | exact Or.inr rfl) (hs : swapsWith e (some (.Name x pos')) pos.line X.env = pure false := by rfl) (hf : X.fn x = true ∨ X.env.scope.names.lookup x = some .local := by first | exact .inl rfl | exact .inr rfl | assumption) : SJ X B Γ O (.Assign [.Name x pos'] e pos :: rest) D :=
  SJ.cons fun S H σ st => ⟨_, ps_set hN hi hx pe_w hs hf, he S H σ st (fun c d S1 H1 s1 r => hE c d S1 H1 σ (st.step s1) r) _⟩
/-! ### try: .. except X as n: .. -/
/-- the suite: the error at a, of the class cls, its dict d -/
structure SuJ (X : Cx) (su : List Stmt) (D : Ends) (σ : L2.St) (H : Hp) (a : Addr) (cls : Value) (d : Option Addr) : Prop where
  go : ∀ (oe : Obj) (pn : List (Addr × Obj)), Zc cls d oe → (∃ vs, oe.data = .fields vs) → wB (X.suite a ((a, oe) :: pn)) su D σ H
theorem s_try {n x : Str} {i : Nat} {b0 : Stmt} {suite : List Stmt} {np : Pos} {cv : Value} {Γ' : Gm} (hc : Names X x cv) (tk : Takes X W)
    (hb : ∀ (pn : List (Addr × Obj)) (xe : Value → Shared → Prop) (V : WX), Takes (X.tr pn xe) V → PassesOwn (model X.prog X.w) X.A X.env xe →
      (∀ cls d S H σ k, Stt B Γ' O S H σ → PySem.W.exmOne X.K cls cv = some k → (k = true → ∀ a, H a = none → SuJ X (b0 :: suite) { nx := fun σ' H' => wB X rest D (σ'.set i none) H', rt := D.rt, bk := fun σ' H' => D.bk (σ'.set i none) H', ct := fun σ' H' => D.ct (σ'.set i none) H' } (σ.set i (some (.ref a))) H a cls d) → (k = false → W cls d σ H) → V cls d σ H) →
      SJ (X.tr pn xe) B Γ O body { D with nx := wB X rest D })
    (hi : X.N[i]? = some n := by rfl) (hln : X.env.kindOf n = some .local := by rfl) (hN : X.N.Nodup := by assumption) (hs : X.stack = X.env :: X.outer := by rfl) (hf : X.env.frame = some X.env.locals := by rfl) :
    SJ X B Γ O (.Try body [.ExceptHandler (some (.Name x np)) (some n) (b0 :: suite) pos'] [] [] pos :: rest) D :=
  SJ.cons fun S H σ st => ⟨_, ps_try_as (tb := fun V D σ H => ∀ pn xe, Takes (X.tr pn xe) V → PassesOwn (model X.prog X.w) X.A X.env xe → wB (X.tr pn xe) body D σ H) (ts := fun a cls d D σ H => SuJ X (b0 :: suite) D σ H a cls d) hs hf hN hi hln hc tk
    (fun V pn xe tkV po => ⟨fun pins s σ H D I h => pb_w.run pins s σ H D I (h pn xe tkV po)⟩) (fun a oe cls d pn hz hf => ⟨fun pins s σ H D I h => pb_w.run pins s σ H D I (h.go oe pn hz hf)⟩),
    fun pn xe tkV po => hb pn xe _ tkV po (fun cls d S H σ k t h1 h2 h3 => ⟨k, h1, fun hk a na => h2 hk a na, h3⟩) S H σ st⟩
end
end OT
/-! Class methods, cls(..), errors' fields, own operators as judgements. -/
namespace OT
open PySem PySem.Spec PyProof.Rows L2 NdefX
section
variable {X : Cx} {CX : CXT} {k i : Nat} {f C p1 : Addr} {fd : FuncData} {ps : List Str} {sp : Sp} {E : L2.St → XK} {x m : Str} {p pos apos : Pos} {e o : Expr} {es : List Expr} {ta : TE} {t : TA} {mc : Value}
theorem code_at {pins : List (Addr × Obj)} {σ : L2.St} {H : Hp} {s : Shared} {Q : VK} {us : List Value} {vs : List V} (F : FnOk X.prog X.w X.K X.mg X.base CX k f fd ps sp) (hr : Room k X.A) (hb : Binds X.K fd ps []) (hx : PassesAt CX X σ (E σ))
    (I : Inv X pins σ H s) (r : Vals vs us) (h : sp vs H Q (E σ)) : codeAny (model X.prog X.w) X.A (.call (.ref f) ⟨us, []⟩) (fun r s' => match r with
      | .ok (.ret v) => EP X pins σ Q v s'
      | .ok _ => False
      | .error e => X.xe e s') s := by
  have hl : (us ++ []).length = ps.length := by rw [List.append_nil, ← r.length]; exact F.len _ _ _ _ h
  refine codeAny_mono (F.run X.A X.stack s H ⟨us, []⟩ us vs Q (E σ) hr I.env0 (by have := hb s us I.kIn hl; rw [List.append_nil] at this; exact this) r h) fun r s' hq => ?_
  match r, hq with
  | .error e, hq => exact hx pins H s e s' I hq
  | .ok (.ret u), hq => exact I.after hq
  | .ok .next, hq => exact False.elim hq
  | .ok .brk, hq => exact False.elim hq
  | .ok .cont, hq => exact False.elim hq
def tCMethS (C : Addr) (sp : Sp) (E : L2.St → XK) (ta : TE) (t : TA) : TE := fun σ H Q => ta σ H fun x H1 => x = .ref C ∧ t σ H1 fun vs H2 => sp (.ref C :: vs) H2 Q (E σ)
theorem pe_cmethS {pl : Sem Bool} (he : PE X o ta) (r : ClX.CRead X.K C mc) (c : ClX.CMet X.K C mc m p1 f) (F : FnOk X.prog X.w X.K X.mg X.base CX k f fd ps sp) (hr : Room k X.A) (hb : Binds X.K fd ps []) (hx : ∀ σ, PassesAt CX X σ (E σ)) (ha : PA X (e :: es) t)
    (hst : starEach (e :: es) X.env = (false, eval e X.env) :: starEach es X.env := by rfl) (hpl : (backTo pos (starEach es X.env)).any (·.1) = false := by rfl)
    (ht : eval (.Call (.Attribute o m apos) (e :: es) [] pos) X.env = (do
      let ov ← eval o X.env
      standAt apos.atName
      let (f, first) ← holding [ov] (getMethod ov m pl)
      callWith pos f first (backTo pos (starEach (e :: es) X.env)) (backToKw pos (keywordEach [] X.env))) := by rfl) : PE X (.Call (.Attribute o m apos) (e :: es) [] pos) (tCMethS C sp E ta t) :=
  ⟨fun pins s σ H Q I h => PySem.W.methodCall_KW (pl := pl) (thn (he.run pins s σ H _ I h) fun u s1 ⟨y, H1, I1, ry, ey, q⟩ => by
    subst ey
    obtain rfl : u = Value.ref C := ry
    refine ClX.getmethcm_ok I1 r c fun s2 I2 => ?_
    refine ClX.callwith_cm I2 (ClX.base_none I1 (Nat.le_refl _)) c.fi (thn (ha.run pos _ s2 σ H1 _ I2 q) fun us s3 ⟨vs, H2, I3, rv, q2⟩ => ⟨⟨ClX.pin_at I3, I3.kIn⟩, ?_⟩) hst hpl
    have z := wpAny_call (PySem.W.method_call (ClX.pin_at I3) (code_at (us := .ref C :: us) (vs := .ref C :: vs) F hr hb (hx σ) I3 (.cons rfl rv) q2))
    exact thn z fun _ _ y => ClX.unpinE y) ht⟩
/-- cls(e, ..): the class in slot i -/
theorem pe_makeL (M : Mk X.K C f) (F : FnOk X.prog X.w X.K X.mg X.base CX k f fd ps sp) (hr : Room (k + 1) X.A) (hN : X.N[i]? = some x) (hv : Vis X.env.scope x) (hb : Binds X.K fd ps []) (hx : ∀ σ, PassesAt CX X σ (E σ))
    (ha : PA X (e :: es) t) (hdb : (x == ("__debug__" : Str)) = false := by decide) (hcd : (x == ("__classdict__" : Str)) = false := by decide) (he : starEach (e :: es) X.env = (false, eval e X.env) :: starEach es X.env := by rfl) (hpl : (backTo pos (starEach es X.env)).any (·.1) = false := by rfl) :
    PE X (.Call (.Name x p) (e :: es) [] pos) (fun σ H Q => σ[i]? = some (some (.ref C)) ∧ tMakeS C sp E t σ H Q) := by
  refine ⟨fun pins s σ H Q I ⟨hs, h⟩ => ?_⟩
  refine wpAny_Call_Name_kw (thn ((pe_var (pos := p) hN hv hdb hcd).run pins s σ H (fun v H1 => v = .ref C ∧ H1 = H) I ⟨.ref C, hs, rfl, rfl⟩) fun u s1 ⟨v, H1, I1, r1, e1, e2⟩ => ?_)
  subst e1 e2
  cases r1
  exact PySem.W.callWith_K (h₀ := X.base) I.ok.mod.kin M.kp (thn (ha.run pos pins s1 σ _ _ I1 h) fun us s2 ⟨vs, H2, I2, r, q⟩ => ⟨I2.kIn, run_makeS M F hr hb (hx σ) I2 r q⟩) he hpl
end
/-- a class method -/
def GK (P : Program) (w : World) (K : PySem.W.Frag) (mg : Str → Option Value) (base : Heap) (C : Addr) (m : Str) (k : Nat) (ps : List Str) (sp : Sp) : Prop := ∃ f fd p1, FnOk P w K mg base (L2.CX P w) k f fd ps sp ∧ ClX.CRead K C (.type "type") ∧ ClX.CMet K C (.type "type") m p1 f ∧ Binds K fd ps []
section
variable {X : Cx} {B : Bs} {Γ : Gm} {O : Om} {e a b c o : Expr} {es : List Expr} {p pos pos' apos : Pos} {R R' : BP} {Ds : Ends} {rest body els : List Stmt} {x m f : Str} {C : Addr} {k : Nat} {ps : List Str} {W : WX} {D : Type} {As : D → List BP} {out : D → Out}
theorem e_cmeth {pl : Sem Bool} {Rs : List BP} (F : GK X.prog X.w X.K X.mg X.base C m k ps (spD As out)) (hr : Room k X.A) (tk : Takes X W) (d : D) (ho : EJ X B Γ O o (tR C).b) (ha : AJ X B Γ O (e :: es) Rs) (hA : As d = (tR C).b :: Rs := by rfl)
    (hst : starEach (e :: es) X.env = (false, eval e X.env) :: starEach es X.env := by rfl) (hpl : (backTo pos (starEach es X.env)).any (·.1) = false := by rfl)
    (ht : eval (.Call (.Attribute o m apos) (e :: es) [] pos) X.env = (do
      let ov ← eval o X.env
      standAt apos.atName
      let (f, first) ← holding [ov] (getMethod ov m pl)
      callWith pos f first (backTo pos (starEach (e :: es) X.env)) (backToKw pos (keywordEach [] X.env))) := by rfl) : (out d).J X B Γ O W (.Call (.Attribute o m apos) (e :: es) [] pos) := by
  obtain ⟨f, fd, p1, F, cr, cm, hb⟩ := F
  refine Out.j fun S H σ st Q q => ⟨_, pe_cmethS pe_w cr cm F hr hb (fun σ => passAt tk σ) pa_w hst hpl ht, ho S H σ st _ fun v S1 H1 s1 r1 => ⟨r1, ha S1 H1 σ (st.step s1) _ fun vs S2 H2 s2 r2 => ?_⟩⟩
  refine ⟨d, S2, s2.i, ?_, q.later (s1.trans s2)⟩
  rw [hA]
  exact ⟨rfl, r2⟩
theorem e_makeL {i : Nat} (F : GC X.prog X.w X.K X.mg X.base m C k ps (spN C As out)) (hr : Room (k + 1) X.A) (tk : Takes X W) (d : D) (ha : AJ X B Γ O (e :: es) (As d)) (hG : Γ[i]? = some (some (tR C)) := by rfl) (hN : X.N[i]? = some x := by rfl) (hv : Vis X.env.scope x := by first | exact Or.inl rfl | exact Or.inr (Or.inl rfl) | exact Or.inr (Or.inr rfl))
    (hdb : (x == ("__debug__" : Str)) = false := by decide) (hcd : (x == ("__classdict__" : Str)) = false := by decide)
    (he : starEach (e :: es) X.env = (false, eval e X.env) :: starEach es X.env := by rfl) (hpl : (backTo pos (starEach es X.env)).any (·.1) = false := by rfl) : (out d).J X B Γ O W (.Call (.Name x p) (e :: es) [] pos) := by
  obtain ⟨f, fd, F, M, hm, hb⟩ := F
  refine Out.j fun S H σ st Q q => ⟨_, pe_makeL M F hr hN hv hb (fun σ => passAt tk σ) pa_w hdb hcd he hpl, ?_, ha S H σ st _ fun vs S1 H1 s1 r1 => fun y dy ny ndy ne => ?_⟩
  · obtain ⟨v, h1, h2⟩ := st.slot i _ hG
    cases h2
    exact h1
  refine ⟨d, y, dy, H1, vs, S1, rfl, rfl, ny, ndy, ne, s1.i, r1, ?_⟩
  have q1 := q.later s1
  cases e : out d with
  | val R =>
    rw [e] at q1
    exact fun v S' H' s r ev => ⟨rfl, by subst ev; exact q1 _ S' H' s r⟩
  | new M =>
    rw [e] at q1
    exact fun p o S' H' s n1 n2 h1 h2 ev => ⟨rfl, by rw [← ev]; exact q1 p o S' H' s n1 n2 h1 h2⟩
  | err P =>
    rw [e] at q1
    exact q1
/-! ### own operators -/
theorem tO.at_ {Rs : List (Str × MP)} {S H : Hp} {v : V} (h : (tO C Rs).b.R S H v) (sm : Same S H) : ∃ a dx fs, v = .ref a ∧ H a = some (.ins C dx fs) := let ⟨a, dx, fs, h1, h2, _⟩ := h; ⟨a, dx, fs, h1, sm _ _ h2⟩
theorem e_ownop {op : Operator} {Ra Rb : List (Str × MP)} {Rc : MP} (F : GM X.prog X.w X.K X.mg X.base C (PySem.dunder op.info.2) k ps (spD As out)) (hc : PySem.W.selfFirst X.K C = true) (hr : Room k X.A) (d : D) (ha : EJ X B Γ O a (tO C Ra).b) (hb : EJ X B Γ O b (tO C Rb).b)
    (hA : As d = [(tO C Ra).b, (tO C Rb).b] := by rfl) (ho : out d = .val Rc := by rfl) : EJ X B Γ O (.BinOp a op b pos) Rc.b := by
  obtain ⟨f, fd, F, M, hb'⟩ := F
  refine e_op2 (op_own M hc F hr hb' pass_none) ha hb fun S H x y sm h1 h2 Q q => ?_
  obtain ⟨p, dx, fs, rfl, hp⟩ := tO.at_ h1 sm
  obtain ⟨r, dy, gs, rfl, hq⟩ := tO.at_ h2 sm
  refine ⟨p, r, dx, dy, fs, gs, rfl, rfl, hp, hq, d, S, sm, by rw [hA]; exact ⟨h1, h2, trivial⟩, ?_⟩
  rw [ho]
  exact fun v S' H' s rr => q v S' H' s rr
theorem e_ownneg {Ra : List (Str × MP)} {Rc : MP} (F : GM X.prog X.w X.K X.mg X.base C "__neg__" k ps (spD As out)) (hr : Room k X.A) (d : D) (ha : EJ X B Γ O a (tO C Ra).b)
    (hA : As d = [(tO C Ra).b] := by rfl) (ho : out d = .val Rc := by rfl) : EJ X B Γ O (.UnaryOp .USub a pos) Rc.b := by
  obtain ⟨f, fd, F, M, hb'⟩ := F
  refine e_un (un_own M F hr hb' pass_none) ha fun S H x sm h1 Q q => ?_
  obtain ⟨p, dx, fs, rfl, hp⟩ := tO.at_ h1 sm
  refine ⟨p, dx, fs, rfl, hp, d, S, sm, by rw [hA]; exact ⟨h1, trivial⟩, ?_⟩
  rw [ho]
  exact fun v S' H' s rr => q v S' H' s rr
theorem e_owneq {Ra Rb : List (Str × MP)} {kk : Bool} (F : GM X.prog X.w X.K X.mg X.base C "__eq__" k ps (spD As out)) (hr : Room k X.A) (d : D) (ha : EJ X B Γ O a (tO C Ra).b) (hb : EJ X B Γ O b (tO C Rb).b)
    (hA : As d = [(tO C Ra).b, (tO C Rb).b] := by rfl) (ho : out d = .val (tB kk) := by rfl) : EJ X B Γ O (.Compare a [.Eq] [b] pos) (bB kk) := by
  obtain ⟨f, fd, F, M, hb'⟩ := F
  refine e_cmp2 (eq_own M F hr hb' pass_none) ha hb (nomark _) fun S H x y sm h1 h2 Q q => ?_
  obtain ⟨p, dx, fs, rfl, hp⟩ := tO.at_ h1 sm
  obtain ⟨r, dy, gs, rfl, hq⟩ := tO.at_ h2 sm
  refine ⟨p, r, dx, dy, fs, gs, rfl, rfl, hp, hq, d, S, sm, by rw [hA]; exact ⟨h1, h2, trivial⟩, ?_⟩
  rw [ho]
  exact fun v S' H' s rr => ⟨kk, rr, q _ S' H' s rfl⟩
theorem e_ownne {Ra Rb : List (Str × MP)} {kk : Bool} (F : GM X.prog X.w X.K X.mg X.base C "__eq__" k ps (spD As out)) (hn : PySem.W.findIn X.K (.ref C) "__ne__" = some (some (.builtin "object.__ne__"))) (hob : PySem.W.mroIn X.K C (.type "object") = some true) (hr : Room (k + 1) X.A) (d : D) (ha : EJ X B Γ O a (tO C Ra).b) (hb : EJ X B Γ O b (tO C Rb).b)
    (hA : As d = [(tO C Ra).b, (tO C Rb).b] := by rfl) (ho : out d = .val (tB kk) := by rfl) : EJ X B Γ O (.Compare a [.NotEq] [b] pos) (bB (!kk)) := by
  obtain ⟨f, fd, F, M, hb'⟩ := F
  refine e_cmp2 (ne_own M hn hob F hr hb' pass_none) ha hb (nomark _) fun S H x y sm h1 h2 Q q => ?_
  obtain ⟨p, dx, fs, rfl, hp⟩ := tO.at_ h1 sm
  obtain ⟨r, dy, gs, rfl, hq⟩ := tO.at_ h2 sm
  refine ⟨p, r, dx, dy, fs, gs, rfl, rfl, hp, hq, d, S, sm, by rw [hA]; exact ⟨h1, h2, trivial⟩, ?_⟩
  rw [ho]
  exact fun v S' H' s rr => ⟨kk, rr, q _ S' H' s rfl⟩
/-- a test by __bool__ -/
theorem t_owntru {Ra : List (Str × MP)} {kk : Bool} (F : GM X.prog X.w X.K X.mg X.base C "__bool__" k ps (spD As out)) (hr : Room k X.A) (d : D) (ha : EJ X B Γ O a (tO C Ra).b)
    (hA : As d = [(tO C Ra).b] := by rfl) (ho : out d = .val (tB kk) := by rfl) (hi : ∀ whole, isTrue a X.env whole = (do let v ← whole; standAt a.pos; holding [v] (truthy v)) := by intro _; rfl) : TJ X B Γ O a kk := by
  obtain ⟨f, fd, F, M, hb'⟩ := F
  have tr := tru_own M F hr hb' pass_none
  refine fun S H σ st Q q => ⟨fun σ H Q => wE X a σ H fun x H' => ∃ p dx fs, x = .ref p ∧ H' p = some (.ins C dx fs) ∧ spD As out [x] H' (fun v H2 => ∃ b, v = .bl b ∧ Q b H2) E0, ⟨fun pins s σ H Q I h => ?_⟩, ha S H σ st _ fun v S1 H1 s1 h1 => ?_⟩
  · exact isTrue_plain (thn (pe_w.run pins s σ H _ I h) fun v s1 ⟨x, H1, I1, r1, q1⟩ => tr pins s1 σ H1 x v Q I1 r1 q1) (hi _)
  · obtain ⟨p, dx, fs, rfl, hp⟩ := tO.at_ h1 s1.i
    refine ⟨p, dx, fs, rfl, hp, d, S1, s1.i, by rw [hA]; exact ⟨h1, trivial⟩, ?_⟩
    rw [ho]
    exact fun v S' H' s rr => ⟨kk, rr, q S' H' (s1.trans s)⟩
/-! ### the suite of an except -/
def XP.gh (P : XP) (c : Value) (d : Option Addr) : Gho := ⟨fun S => P.R S c d, fun e h => P.up e h⟩
theorem su_of {su : List Stmt} {S H : Hp} {σ : L2.St} {i : Nat} {Px : XP} {cls : Value} {d : Option Addr} {ad : Addr} (st : Stt B Γ O S H σ) (hx : Px.R S cls d) (hl : i < Γ.length)
    (h : ∀ (oe : Obj) (pn : List (Addr × Obj)), Zc cls d oe → (∃ vs, oe.data = .fields vs) → SJ (X.suite ad ((ad, oe) :: pn)) (B.add (Px.gh cls d)) (Γ.set i (some (tR ad))) O su Ds) : SuJ X su Ds (σ.set i (some (.ref ad))) H ad cls d :=
  ⟨fun oe pn hz hf => h oe pn hz hf S H _ ((st.ghost hx).set rfl hl)⟩
/-- err.f -/
theorem e_xf {ad : Addr} {oe : Obj} {cls : Value} {d : Option Addr} {pn : List (Addr × Obj)} {i : Nat} {nm fl : Str} {R : MP} {fs : List (Str × MP)} {p1 : Pos} (T : XfC X.K C) (hno : PySem.W.findIn X.K (.ref C) fl = some none) (hz : Zc cls d oe) (hfd : ∃ vs, oe.data = .fields vs)
    (hR : fs.lookup fl = some R := by rfl) (hG : Γ[i]? = some (some (tR ad)) := by rfl) (hN : X.N[i]? = some nm := by rfl) (hv : Vis X.env.scope nm := by first | exact Or.inl rfl | exact Or.inr (Or.inl rfl) | exact Or.inr (Or.inr rfl))
    (hd : (nm == ("__debug__" : Str)) = false := by decide) (hcd : (nm == ("__classdict__" : Str)) = false := by decide) (hb : attributeBase (.Name nm p1) fl X.env (eval (.Name nm p1) X.env) = eval (.Name nm p1) X.env := by rfl) :
    EJ (X.suite ad ((ad, oe) :: pn)) (B.add ((xE C fs).gh cls d)) Γ O (.Attribute (.Name nm p1) fl pos) R.b :=
  EJ.of (pe_xf T hno hz hfd (pe_var hN hv hd hcd) hb) fun S H σ st Q q => by
    obtain ⟨v, h1, h2⟩ := st.slot i _ hG
    obtain ⟨rfl, a, ws, rfl, h3, h4⟩ := st.gh.2
    obtain ⟨w, h5, h6⟩ := h4.get hR
    exact ⟨v, h1, h2, rfl, a, ws, w, rfl, st.sub _ _ h3, h5, q w S H (Stp.refl st.sub) h6⟩
end
end OT
/-! What the top has left, told by names. -/
namespace OT
open PySem PySem.Spec PyProof.Rows L2 NdefX

/-! ### an error class: its __init__ and the facts -/
structure ErrD where
  x : Str
  qual : Str
  params : Arguments
  body : List Stmt
  scope : Scope
  flds : List Str
abbrev FnE : Type := Option (Str × Str × Arguments × FuncBody × Scope × Addr × Addr)
def fnE (K : PySem.W.Frag) (f : Addr) : FnE := match K.lookup f with
  | some ⟨_, _, .func fd, _⟩ => some (fd.name, fd.qualname, fd.params, fd.body, fd.scope, fd.globals, fd.builtins)
  | _ => none
def ErrD.val (d : ErrD) : FnE := some ("__init__", d.qual, d.params, .stmts d.body, d.scope, mainGlobals, builtinsNs)
def oexB (K : PySem.W.Frag) (C : Addr) : Bool := match K.lookup C with
  | some ⟨.type t, _, .cls cd, sl⟩ => (match cd.mro, sl.toList with
    | .ref C' :: bm, [_, _, _, _, some (.builtin n), _] => decide (t = "type") && (decide (C' = C) && (decide (n = "ValueError.__new__") && (!cd.hasDel && (cd.hasDict && PySem.HandSPX.refsVE bm))))
    | _, _ => false)
  | _ => false
theorem oexB_ok {K : PySem.W.Frag} {C : Addr} (q : oexB K C = true) : ∃ nm qn N bs bm sn sub ab col dd k0 k1 k2 k3 k5, K.lookup C = some (excClassObj nm qn C N bs bm true sn sub ab col dd k0 k1 k2 k3 k5 "ValueError.__new__") ∧ PySem.HandSPX.refsVE bm = true := by
  unfold oexB at q
  split at q
  · rename_i t dd cd sl ho
    split at q
    · rename_i C' bm k0 k1 k2 k3 n k5 hm hs
      simp only [Bool.and_eq_true, decide_eq_true_eq, Bool.not_eq_true'] at q
      obtain ⟨rfl, rfl, rfl, hdel, hdi, ht⟩ := q
      obtain ⟨nm, bs, mro, ns, qn, hd, sn, sub, ab, col, del⟩ := cd
      dsimp only at hm hdel hdi
      subst hm hdel hdi
      have hsl : sl = #[k0, k1, k2, k3, some (.builtin "ValueError.__new__"), k5] := by
        obtain ⟨l⟩ := sl
        simp only at hs
        rw [hs]
      subst hsl
      exact ⟨nm, qn, ns, bs, bm, sn, sub, ab, col, dd, k0, k1, k2, k3, k5, ho, ht⟩
    · cases q
  · cases q
def initOf (K : PySem.W.Frag) (x : Str) : Addr := He.ma K (He.ga K x) "__init__"
def cloB (K : PySem.W.Frag) (C f : Addr) : Bool := match K.lookup f with
  | some ⟨_, _, .func fd, _⟩ => (match fd.closure, fd.code with
    | [(nm, cc)], .ref c => decide (nm = "__class__") && ((match K.lookup cc with
      | some ⟨_, _, .cell (some (.ref D)), _⟩ => decide (D = C)
      | _ => false) && (PySem.W.codeIn K (.ref c) fd.qualname && (match K.lookup c with
      | some ⟨_, _, .fields vs, _⟩ => (match ((vs : Array Value)[2]? : Option Value) with
        | some (.str file _) => decide (file = "/claim/cut.py")
        | _ => false)
      | _ => false)))
    | _, _ => false)
  | _ => false
theorem cloB_ok {K : PySem.W.Frag} {C f : Addr} (q : cloB K C f = true) : ∃ oc od osl fd cc c, K.lookup f = some ⟨oc, od, .func fd, osl⟩ ∧ fd.closure = [(("__class__" : Str), cc)] ∧ fd.code = .ref c ∧ (∃ cl cld csl, K.lookup cc = some ⟨cl, cld, .cell (some (.ref C)), csl⟩) ∧ PySem.W.codeIn K (.ref c) fd.qualname = true ∧
    ∃ ccl cdd vs ccs tf, K.lookup c = some ⟨ccl, cdd, .fields vs, ccs⟩ ∧ vs[2]? = some (.str "/claim/cut.py" tf) := by
  unfold cloB at q
  split at q
  · rename_i oc od fd osl hl
    split at q
    · rename_i nm cc c h1 h2
      obtain ⟨e1, q1⟩ := He.ba q
      obtain ⟨e2, q2⟩ := He.ba q1
      obtain ⟨e3, q3⟩ := He.ba q2
      clear q q1 q2
      have e1 := of_decide_eq_true e1
      subst e1
      split at e2
      · rename_i cl cld D csl hcc
        have e2 := of_decide_eq_true e2
        subst e2
        split at q3
        · rename_i ccl cdd vs ccs hc
          split at q3
          · rename_i file tf hv
            have q4 := of_decide_eq_true q3
            subst q4
            exact ⟨oc, od, osl, fd, cc, c, hl, h1, h2, ⟨_, _, _, hcc⟩, e3, _, _, _, _, _, hc, hv⟩
          · cases q3
        · cases q3
      · cases e2
    · cases q
  · cases q
def dfl0 (K : PySem.W.Frag) (f : Addr) : Bool := match K.lookup f with
  | some ⟨_, _, .func fd, _⟩ => decide (fd.defaults = .none)
  | _ => false
theorem dfl0_ok {K : PySem.W.Frag} {f : Addr} {oc od osl} {fd : FuncData} (h : dfl0 K f = true) (lk : K.lookup f = some ⟨oc, od, .func fd, osl⟩) : fd.defaults = .none := by
  unfold dfl0 at h
  rw [lk] at h
  exact of_decide_eq_true h
def ErrD.ok (K : PySem.W.Frag) (d : ErrD) : Bool :=
  He.eqO (PySem.W.nsIn K mainGlobals d.x) (some (some (.ref (He.ga K d.x)))) && (He.eqO (PySem.W.findIn K (.ref (He.ga K d.x)) "__init__") (some (some (.ref (initOf K d.x)))) && (decide (PySem.W.typeIn K (.ref (initOf K d.x)) = some (.type "function")) && (cloB K (He.ga K d.x) (initOf K d.x) && (oexB K (He.ga K d.x) &&
  (He.eqO (PySem.W.findIn K (.ref (He.ga K d.x)) "__setattr__") (some (some (.builtin "object.__setattr__"))) && (decide (PySem.W.subIn K (.ref (He.ga K d.x)) (.type "BaseException") = some true) && (decide (PySem.W.typeIn K (.ref (He.ga K d.x)) = some (.type "type")) && (PySem.W.keepIn K (.ref (He.ga K d.x)) &&
  (decide (PySem.W.mroIn K (He.ga K d.x) (.ref (He.ga K d.x)) = some true) && (He.eqO (PySem.W.ks_superIn K (He.ga K d.x) (He.ga K d.x) "__init__") (some (some (.builtin "ValueError.__init__"))) && (He.eqO (PySem.W.nsIn K cStatics "thirdparty.any") (some none) && (decide (PySem.W.subIn K (.ref (He.ga K d.x)) (.type "ValueError") = some true) &&
  (He.eqO (PySem.W.nsIn K mainGlobals "super") (some none) && (xfB K (He.ga K d.x) && (dfl0 K (initOf K d.x) && d.flds.all fun f => He.eqO (PySem.W.findIn K (.ref (He.ga K d.x)) f) (some none))))))))))))))))
/-- what follows -/
structure ErrOk (P : Program) (K : PySem.W.Frag) (mg : Str → Option Value) (d : ErrD) : Prop where
  mgx : mg d.x = some (.ref (He.ga K d.x))
  xi : ∃ fd F, XI P K mg (He.ga K d.x) (initOf K d.x) fd F ∧ F.body = d.body ∧ F.scope = d.scope ∧ F.params = d.params ∧ F.name = "__init__" ∧ F.qual = d.qual ∧ fd.defaults = .none
  ini : PySem.W.findIn K (.ref (He.ga K d.x)) "__init__" = some (some (.ref (initOf K d.x)))
  fn : PySem.W.typeIn K (.ref (initOf K d.x)) = some (.type "function")
  xf : XfC K (He.ga K d.x)
  no : ∀ f ∈ d.flds, PySem.W.findIn K (.ref (He.ga K d.x)) f = some none
theorem ErrD.all {P : Program} {K : PySem.W.Frag} {h : Heap} {mg : Str → Option Value} {d : ErrD} (X : K.In h) (G : h.Ns mainGlobals mg) (e : fnE K (initOf K d.x) = d.val) (c : d.ok K = true) (hfile : (P.main.file : Str) = "/claim/cut.py") (htop : (P.main.scope.names.lookup ("super" : Str)).isSome = false) : ErrOk P K mg d := by
  unfold ErrD.ok at c
  obtain ⟨c1, c⟩ := He.ba c
  obtain ⟨c2, c⟩ := He.ba c
  obtain ⟨c3, c⟩ := He.ba c
  obtain ⟨c4, c⟩ := He.ba c
  obtain ⟨c5, c⟩ := He.ba c
  obtain ⟨c6, c⟩ := He.ba c
  obtain ⟨c7, c⟩ := He.ba c
  obtain ⟨c8, c⟩ := He.ba c
  obtain ⟨c9, c⟩ := He.ba c
  obtain ⟨c10, c⟩ := He.ba c
  obtain ⟨c11, c⟩ := He.ba c
  obtain ⟨c12, c⟩ := He.ba c
  obtain ⟨c13, c⟩ := He.ba c
  obtain ⟨c14, c⟩ := He.ba c
  obtain ⟨c15, c⟩ := He.ba c
  obtain ⟨c17, c16⟩ := He.ba c
  obtain ⟨oc, od, osl, fd, cc, cd, lk, hclo, hcode, hcell, hcd, ccl, cdd, vs, ccs, tf, hc, hv⟩ := cloB_ok c4
  unfold fnE at e
  rw [lk] at e
  obtain ⟨n1, n2, n3, n4, n5, n6, n7, n8, n9, n10, n11, n12, n13, n14, n15⟩ := fd
  have e2 : (some (n1, n2, n3, n4, n5, n6, n15) : FnE) = some (("__init__" : Str), d.qual, d.params, FuncBody.stmts d.body, d.scope, mainGlobals, builtinsNs) := e
  simp only [Option.some.injEq, Prod.mk.injEq] at e2
  obtain ⟨h1, h2, h3, h4, h5, h6, h8⟩ := e2
  dsimp only at hclo hcode hcd
  subst h1 h2 h3 h4 h5 h6 h8 hclo hcode
  refine ⟨PySem.W.mg_of X G (He.eqO_ok c1), ⟨_, ⟨"__init__", d.qual, d.params, d.body, d.scope, [("__class__", cc)], cd⟩, ⟨⟨oc, od, osl, lk⟩, ⟨n8, n9, n10, n11, n12, n14, rfl⟩, hcd, ⟨ccl, cdd, vs, ccs, "/claim/cut.py", tf, hc, hv, ?_⟩, ?_, ?_, of_decide_eq_true c10, He.eqO_ok c11, He.eqO_ok c12, of_decide_eq_true c13, PySem.W.mg_none_of X G (He.eqO_ok c14), htop⟩, rfl, rfl, rfl, rfl, rfl, dfl0_ok c17 lk⟩,
    He.eqO_ok c2, of_decide_eq_true c3, xfB_ok c15, fun f hf => He.eqO_ok (List.all_eq_true.mp c16 f hf)⟩
  · rw [hfile]
    decide +kernel
  · obtain ⟨cl, cld, csl, hcc⟩ := hcell
    exact ⟨cc, cl, cld, csl, rfl, hcc⟩
  · exact ⟨oexB_ok c5, He.eqO_ok c6, of_decide_eq_true c7, of_decide_eq_true c8, c9⟩
/-! ### class methods -/
structure CmD where
  x : Str
  m : Str
  qual : Str
  params : Arguments
  body : List Stmt
  scope : Scope
def cmRec (K : PySem.W.Frag) (x m : Str) : Addr := He.ma K (He.ga K x) m
def cmFn (K : PySem.W.Frag) (x m : Str) : Addr := match PySem.W.recIn K (cmRec K x m) "classmethod" with
  | some (.ref g :: _) => g
  | _ => 0
def fnWa (K : PySem.W.Frag) (f : Addr) : He.FnW := match K.lookup f with
  | some ⟨_, _, .func fd, _⟩ => some (fd.name, fd.qualname, fd.params, fd.body, fd.scope, fd.globals, fd.closure, fd.builtins)
  | _ => none
def CmD.val (d : CmD) : He.FnW := some (d.m, d.qual, d.params, .stmts d.body, d.scope, mainGlobals, [], builtinsNs)
def isGetB (r : Option PySem.W.CFound) (p C : Addr) : Bool := match r with
  | some (.get (.builtin id) (.ref p') .none (.ref C')) => decide (id = "classmethod.__get__") && (decide (p' = p) && decide (C' = C))
  | _ => false
theorem isGetB_ok {r : Option PySem.W.CFound} {p C : Addr} (h : isGetB r p C = true) : r = some (.get (.builtin "classmethod.__get__") (.ref p) .none (.ref C)) := by
  unfold isGetB at h
  split at h
  · obtain ⟨h1, h⟩ := He.ba h
    obtain ⟨h2, h3⟩ := He.ba h
    rw [of_decide_eq_true h1, of_decide_eq_true h2, of_decide_eq_true h3]
  · cases h
def recB (K : PySem.W.Frag) (p g : Addr) : Bool := match PySem.W.recIn K p "classmethod" with
  | some (.ref g' :: _) => decide (g' = g)
  | _ => false
theorem recB_ok {K : PySem.W.Frag} {p g : Addr} (h : recB K p g = true) : ∃ rest, PySem.W.recIn K p "classmethod" = some (.ref g :: rest) := by
  unfold recB at h
  split at h
  · rename_i g' rest e
    rw [e, of_decide_eq_true h]
    exact ⟨rest, rfl⟩
  · cases h
def fnPlainB (K : PySem.W.Frag) (f : Addr) (q : Str) : Bool := match K.lookup f with
  | some ⟨_, _, .func fd, _⟩ => PySem.W.codeIn K fd.code q && He.dflB K fd.defaults []
  | _ => false
def CmD.ok (K : PySem.W.Frag) (d : CmD) : Bool := PySem.W.readsIn K (He.ga K d.x) (.type "type") && (He.eqO (PySem.W.specialIn K (.ref (He.ga K d.x)) "__getattribute__") (some (some (.builtin "type.__getattribute__"))) &&
  (isGetB (PySem.W.findCls K (.ref (He.ga K d.x)) (.type "type") d.m) (cmRec K d.x d.m) (He.ga K d.x) && (recB K (cmRec K d.x d.m) (cmFn K d.x d.m) && (PySem.W.fnIn K (cmFn K d.x d.m) && (PySem.W.keepIn K (.ref (cmFn K d.x d.m)) && fnPlainB K (cmFn K d.x d.m) d.qual)))))
structure CmOk (K : PySem.W.Frag) (d : CmD) : Prop where
  rd : ClX.CRead K (He.ga K d.x) (.type "type")
  cm : ClX.CMet K (He.ga K d.x) (.type "type") d.m (cmRec K d.x d.m) (cmFn K d.x d.m)
  fn : ∃ fd, FunD K d.m d.qual d.params d.body d.scope [] [] (cmFn K d.x d.m) fd
theorem CmD.all {K : PySem.W.Frag} {d : CmD} (e : fnWa K (cmFn K d.x d.m) = d.val) (c : d.ok K = true) : CmOk K d := by
  unfold CmD.ok at c
  obtain ⟨c1, c⟩ := He.ba c
  obtain ⟨c2, c⟩ := He.ba c
  obtain ⟨c3, c⟩ := He.ba c
  obtain ⟨c4, c⟩ := He.ba c
  obtain ⟨c5, c⟩ := He.ba c
  obtain ⟨c6, c7⟩ := He.ba c
  refine ⟨⟨c1, He.eqO_ok c2⟩, ⟨isGetB_ok c3, recB_ok c4, c5⟩, ?_⟩
  unfold fnPlainB at c7
  unfold fnWa at e
  split at c7
  · rename_i oc od fd osl lk
    rw [lk] at e
    obtain ⟨n1, n2, n3, n4, n5, n6, n7, n8, n9, n10, n11, n12, n13, n14, n15⟩ := fd
    have e2 : (some (n1, n2, n3, n4, n5, n6, n7, n15) : He.FnW) = some (d.m, d.qual, d.params, FuncBody.stmts d.body, d.scope, mainGlobals, [], builtinsNs) := e
    simp only [Option.some.injEq, Prod.mk.injEq] at e2
    obtain ⟨h1, h2, h3, h4, h5, h6, h7, h8⟩ := e2
    subst h1 h2 h3 h4 h5 h6 h7 h8
    obtain ⟨k1, k2⟩ := He.ba c7
    exact ⟨_, ⟨oc, od, n8, n9, n10, n11, n12, n13, n14, osl, rfl, lk, k1, He.dflB_ok k2, .inl rfl⟩, c6⟩
  · cases c7
/-! ### the Hook -/
def asO (g : Addr → Option Obj) : Nat → List Addr
  | 0 => [mainGlobals, cStatics]
  | n + 1 => He.growD g (asO g n)
abbrev AlO : Type := He.AlD × (List FnE × (List He.FnW × Bool))
def obsO (fa : List He.Fa) (fn : List He.DefD) (er : List ErrD) (cm : List CmD) (ex : PySem.W.Frag → Bool) (K : PySem.W.Frag) : AlO := (He.obsD fa fn K, er.map (fun d => fnE K (initOf K d.x)), cm.map (fun d => fnWa K (cmFn K d.x d.m)), (er.all fun d => d.ok K) && ((cm.all fun d => d.ok K) && ex K))
def valO (fn : List He.DefD) (er : List ErrD) (cm : List CmD) : AlO := (He.valD fn, er.map ErrD.val, cm.map CmD.val, true)
def obsOG (n : Nat) (fa : List He.Fa) (fn : List He.DefD) (er : List ErrD) (cm : List CmD) (ex : PySem.W.Frag → Bool) (g : Addr → Option Obj) : AlO := obsO fa fn er cm ex (He.frG g (asO g n))
structure SaysO (fa : List He.Fa) (fn : List He.DefD) (er : List ErrD) (cm : List CmD) (ex : PySem.W.Frag → Bool) (K : PySem.W.Frag) : Prop where
  d : He.SaysD fa fn K
  er : ∀ d ∈ er, fnE K (initOf K d.x) = d.val ∧ d.ok K = true
  cm : ∀ d ∈ cm, fnWa K (cmFn K d.x d.m) = d.val ∧ d.ok K = true
  ex : ex K = true
theorem map_all {α β : Type} {f g : α → β} : ∀ {l : List α}, l.map f = l.map g → ∀ a ∈ l, f a = g a
  | [], _, _, h => by cases h
  | b :: l, e, a, h => by
    rw [List.map_cons, List.map_cons] at e
    injection e with e1 e2
    rcases List.mem_cons.mp h with rfl | h
    · exact e1
    · exact map_all e2 a h
theorem saysO_of {fa : List He.Fa} {fn : List He.DefD} {er : List ErrD} {cm : List CmD} {ex : PySem.W.Frag → Bool} {K : PySem.W.Frag} (e : obsO fa fn er cm ex K = valO fn er cm) : SaysO fa fn er cm ex K := by
  have e1 : He.obsD fa fn K = He.valD fn := congrArg (fun z : AlO => z.1) e
  have e2 : er.map (fun d => fnE K (initOf K d.x)) = er.map ErrD.val := congrArg (fun z : AlO => z.2.1) e
  have e4 : cm.map (fun d => fnWa K (cmFn K d.x d.m)) = cm.map CmD.val := congrArg (fun z : AlO => z.2.2.1) e
  have e3 : ((er.all fun d => d.ok K) && ((cm.all fun d => d.ok K) && ex K)) = true := congrArg (fun z : AlO => z.2.2.2) e
  obtain ⟨h1, h2⟩ := He.ba e3
  obtain ⟨h2, h3⟩ := He.ba h2
  exact ⟨e1, fun d hd => ⟨map_all e2 d hd, List.all_eq_true.mp h1 d hd⟩, fun d hd => ⟨map_all e4 d hd, List.all_eq_true.mp h2 d hd⟩, h3⟩
def hookO (n : Nat) (fa : List He.Fa) (fn : List He.DefD) (er : List ErrD) (cm : List CmD) (ex : PySem.W.Frag → Bool) : PySem.W.Hook where
  α := AlO
  obs := fun s => obsOG n fa fn er cm ex s.heap.get?
  val := fun _ => valO fn er cm
  says := fun _ h => ∃ K : PySem.W.Frag, K.In h ∧ SaysO fa fn er cm ex K
  of := fun _ _ e => ⟨_, He.frG_in, saysO_of e⟩
  keeps := fun _ _ _ ⟨K, hK, c⟩ k => ⟨K, PySem.W.Frag.In.keeps hK k, c⟩
theorem obsOG_eq {n : Nat} {fa : List He.Fa} {fn : List He.DefD} {er : List ErrD} {cm : List CmD} {ex : PySem.W.Frag → Bool} {g : Addr → Option Obj} {s : Shared} (h : ∀ a, g a = s.heap.get? a) : obsOG n fa fn er cm ex g = (hookO n fa fn er cm ex).obs s := by
  have e : g = s.heap.get? := funext h
  rw [e] <;> rfl
/-! ### the end of a law -/
theorem walk_ofEB {l : PySem.W.OpenLaw} {n k : Nat} {q : Program} {loose : List Str} {XP : (Str → Option Value) → Heap → Prop} {YP : World → Heap → Prop} {d : DefRec} {x : Str}
    (hn : l.most = some n) (hn2 : n ≤ sizeLine) (hdf : d.params.defaults = []) (hr : Room k callerA)
    (F : ∀ (w : World) (mg : Str → Option Value) (fa : Addr) (h : Heap), YP w h → h.Ns mainGlobals mg → mg d.name = some (.ref fa) →
      ∃ (K : PySem.W.Frag) (fd : FuncData), K.In h ∧ (∀ (s : Shared) (u : Value), BindsTo s fd ⟨[u], []⟩ [(x, u)]) ∧
        ∀ base : Heap, K.In base → base.Ns mainGlobals mg → FnOk l.prog w K mg base (L2.CX l.prog w) k fa fd [x] (spD (D := { ns : List Int // ns.length ≤ n ∧ ∀ z ∈ ns, Builtin.Int.intBits z ≤ 1048576 }) (fun ns => [bL K (ns.1.map tI)]) fun _ => .val (tB true))) :
    PySem.W.WalkO q loose XP YP l.row.toRowW d [] (fun f vs => PySem.call f vs) := by
  refine Att.attach_callB hn hdf fun w s₀ s₁ mg mb fa o pm cd doc a vs ns G Y ho hd hcd hmg hobj hints hlen hbits hg => ?_
  obtain ⟨K, fd, KX, hb, hF⟩ := F w mg fa _ Y G.T.g hmg
  refine law_call KX G.T.g G.T.b G.T.builtins G.T.nolimit hg hobj hints (Nat.le_trans hlen hn2) hr hF hb (fun H hO hS => ?_) fun H e s' z => ?_
  · refine ⟨⟨ns, hlen, hbits⟩, (fun _ => none), (fun _ _ z => nomatch z), ⟨⟨a, _, rfl, hS, ?_⟩, trivial⟩, fun v S' H' _ r => r⟩
    have : ∀ l : List Int, AllM (l.map tI) (fun _ => none) (l.map V.int) := fun l => by
      induction l with
      | nil => exact trivial
      | cons z l ih => exact ⟨rfl, ih⟩
    exact this ns
  · obtain ⟨_, _, _, _, _, _, _, _, _, _, _, _, zz⟩ := z
    exact zz.elim
end OT
/-! Bundles from the head's facts. -/
namespace OT
open PySem PySem.Spec PyProof.Rows L2 NdefX
section
variable {P : Program} {w : World} {K : PySem.W.Frag} {mg : Str → Option Value} {base : Heap} {k : Nat} {ps : List Str} {sp : Sp}
abbrev FnS (K : PySem.W.Frag) (x q : Str) (s : Stmt) (f : Addr) (fd : FuncData) : Prop := FunD K x q (defArgs s) (defBody s) (defScope s) [] [] f fd
theorem gf_mk {x q : Str} {s : Stmt} {f : Addr} (h : ∃ fd, FnS K x q s f fd) (hb : ∀ fd, FnS K x q s f fd → Binds K fd ps []) (hm : mg x = some (.ref f)) (ok : ∀ fd, FnS K x q s f fd → FnOk P w K mg base (L2.CX P w) k f fd ps sp) : GF P w K mg base x k ps sp := by
  obtain ⟨fd, F⟩ := h
  exact ⟨f, fd, ok fd F, hm, F.kp, hb fd F⟩
theorem gm_mk {x q : Str} {s : Stmt} {C f : Addr} (h : ∃ fd, FnS K x q s f fd) (hb : ∀ fd, FnS K x q s f fd → Binds K fd ps []) (hm : Meth K C x f) (ok : ∀ fd, FnS K x q s f fd → FnOk P w K mg base (L2.CX P w) k f fd ps sp) : GM P w K mg base C x k ps sp := by
  obtain ⟨fd, F⟩ := h
  exact ⟨f, fd, ok fd F, hm, hb fd F⟩
theorem gc_mk {c x q : Str} {s : Stmt} {C f : Addr} (h : ∃ fd, FnS K x q s f fd) (hb : ∀ fd, FnS K x q s f fd → Binds K fd ps []) (hm : Mk K C f) (hg : mg c = some (.ref C)) (ok : ∀ fd, FnS K x q s f fd → FnOk P w K mg base (L2.CX P w) k f fd ps sp) : GC P w K mg base c C k ps sp := by
  obtain ⟨fd, F⟩ := h
  exact ⟨f, fd, ok fd F, hm, hg, hb fd F⟩
theorem gk_mk {x q : Str} {s : Stmt} {C f p1 : Addr} (h : ∃ fd, FnS K x q s f fd) (hb : ∀ fd, FnS K x q s f fd → Binds K fd ps []) (hr : ClX.CRead K C (.type "type")) (hc : ClX.CMet K C (.type "type") x p1 f) (ok : ∀ fd, FnS K x q s f fd → FnOk P w K mg base (L2.CX P w) k f fd ps sp) : GK P w K mg base C x k ps sp := by
  obtain ⟨fd, F⟩ := h
  exact ⟨f, fd, p1, ok fd F, hr, hc, hb fd F⟩
theorem XI.binds {C f : Addr} {fd : FuncData} {F : NF} (W : XI P K mg C f fd F) (h0 : fd.defaults = .none)
    (hb : ∀ (kV doc pm : Value) (an : Option Addr) (ct : Value) (us : List Value), us.length = ps.length → bindArgs (PySem.W.fnX F.name F.qual F.params F.body F.scope F.cl .none kV doc pm an (.ref F.c) ct) ⟨us, []⟩ = pure (ps.zip us)) : Binds K fd ps [] := by
  obtain ⟨dV, kV, doc, pm, an, ct, rfl⟩ := W.eq
  have e : dV = .none := h0
  subst e
  exact .all (hb kV doc pm an ct)
theorem ge_mk {x : Str} {C f : Addr} {fd : FuncData} (ok : FnOk P w K mg base (L2.CX P w) k f fd ps sp) (T : OexC K C) (iC : PySem.W.findIn K (.ref C) "__init__" = some (some (.ref f))) (tI : PySem.W.typeIn K (.ref f) = some (.type "function")) (hm : mg x = some (.ref C)) (hb : Binds K fd ps []) : GE P w K mg base x C k ps sp := ⟨f, fd, ok, T, iC, tI, hm, hb⟩
/-- .. of __init__ -/
theorem ini_ok {D : Type} {C : Addr} {As : D → List BP} {out : D → Out} {N : List Str} {x q self : Str} {s : Stmt} {f : Addr} {fd : FuncData} (F : FnS K x q s f fd) (Sc : FnScope N (self :: ps) (defScope s)) (Gs : D → Addr → Hp → Gm)
    (hb : ∀ (cdv : Value) (A : Around) (outer : List Env) (s' : Shared) (H0 H S : Hp) (x dx : Addr) (Q : VK) (E : XK) (d : D), Room k (A.deeper (envOfC q (defScope s) s'.heap.objs.size f cdv)) → N.Nodup → (out d).thn S H (fun v H' => v = .ref x → Q .non H') E →
      SJ (cxOf (L2.CX P w) P w K mg base N q (defScope s) f cdv A outer s' H0 E) ⟨S, H, .yes⟩ (Gs d x H) [(x, mIns C dx []), (dx, mOwn x)] (defBody s) { nx := fun _ H' => Q .non H', rt := Q })
    (hl : ∀ d, (As d).length = ps.length := by intro _; rfl) (hG : ∀ d x H, some (tR x) :: gm0 N.tail (As d) H = Gs d x H := by intro _ _ _; rfl) : FnOk P w K mg base (L2.CX P w) (k + 1) f fd (self :: ps) (spN C As out) :=
  init_ok F Sc hl fun cdv A outer s' H S x dx Q E d hr q => by
    rw [hG d x H]
    exact hb cdv A outer s' _ H S x dx Q E d hr Sc.nd q
/-- FunD of a statement keeps its promise -/
theorem def_ok {D : Type} {As : D → List BP} {out : D → Out} {N : List Str} {x q : Str} {s : Stmt} {f : Addr} {fd : FuncData} (F : FnS K x q s f fd) (Sc : FnScope N ps (defScope s)) (Gs : D → Hp → Gm)
    (hb : ∀ (cdv : Value) (A : Around) (outer : List Env) (s' : Shared) (H S : Hp) (Q : VK) (E : XK) (d : D), Room k (A.deeper (envOfC q (defScope s) s'.heap.objs.size f cdv)) → N.Nodup → (out d).thn S H Q E →
      SJ (cxOf (L2.CX P w) P w K mg base N q (defScope s) f cdv A outer s' H E) ⟨S, H, .yes⟩ (Gs d H) [] (defBody s) { nx := fun _ H' => Q .non H', rt := Q })
    (hl : ∀ d, (As d).length = ps.length := by intro _; rfl) (hG : ∀ d H, gm0 N (As d) H = Gs d H := by intro _ _; rfl) : FnOk P w K mg base (L2.CX P w) (k + 1) f fd ps (spD As out) :=
  fun_ok F Sc hl fun cdv A outer s' H S Q E d hr q => by
    rw [hG d H]
    exact hb cdv A outer s' H S Q E d hr Sc.nd q
end
end OT
/-! == and in with both answers, by items, by own classes. -/
namespace OT
open PySem PySem.SeqAt PyProof.Rows L2
open AutoSeq1 (wpAny_loadPart')
open MeetsSeq MeetsSeq2 MeetsSeq3 SeqRoads2
section
variable {prog : Program} {w : World} {A : Around} {R : Result → Shared → Prop} {E : Value → Shared → Prop}
def Two (prog : Program) (w : World) (A : Around) (E : Value → Shared → Prop) (l b : Addr) (N : Nat) (e : Nat → Bool) (I : Shared → Prop) : Prop :=
  ∀ s, I s → ∃ (items items2 : Array Value) (n n2 : Nat) (dd dd2 : Option Addr) (sl sl2 : Array (Option Value)), s.heap.get? l = some { cls := .type "list", dict := dd, data := .seq items n, slots := sl } ∧ s.heap.get? b = some { cls := .type "list", dict := dd2, data := .seq items2 n2, slots := sl2 } ∧ items.size = N ∧ items2.size = N ∧
    ∀ i (h1 : i < items.size) (h2 : i < items2.size), wpAny (model prog w) A.in1 (eqBool items[i] items2[i]) (fun r s' => r = e i ∧ I s') E s
theorem drop_range {N i : Nat} (h : i < N) : (List.range N).drop i = i :: (List.range N).drop (i + 1) := by simp [List.drop_eq_getElem_cons, h]
theorem eq_loopB (l b : Addr) (N : Nat) (e : Nat → Bool) (I : Shared → Prop) (hl : Two prog w A (fun e s' => R (.error e) s') l b N e I) (k : Nat) :
    ∀ i : Nat, N - i = k → i ≤ N → (∀ s, I s → R (.ok (.ret (.bool (((List.range N).drop i).all e)))) s) → ∀ s, I s →
      wpAny (model prog w) A.in1 (Builtin.«list.__eq__.loop» ⟨[.ref l, .ref b, rawInt i, rawInt 2], []⟩) (GQ.FinOf prog w A R) (fun e s' => R (.error e) s') s := by
  induction k with
  | zero =>
    intro i hk hi fin s h
    obtain ⟨items, items2, n, n2, dd, dd2, sl, sl2, hl1, hb1, hs1, hs2, _⟩ := hl _ h
    have hR := fin s h
    have hd : (List.range N).drop i = [] := by simp; omega
    rw [hd] at hR
    obtain ⟨hp, g, d, tk, os⟩ := s
    wp_walk using wpAny_loadPart' hl1, wpAny_loadPart' hb1
    have hi1 : items[((i : Nat) : Int).toNat]? = none := by simp; omega
    have hi2 : items2[((i : Nat) : Int).toNat]? = none := by simp; omega
    rw [hi1, hi2]
    wp_walk using wpAny_loadPart' hl1, wpAny_loadPart' hb1
    show R (.ok (.ret (.bool (items.size == items2.size)))) _
    rw [hs1, hs2]
    simpa using hR
  | succ k ih =>
    intro i hk hi fin s h
    obtain ⟨items, items2, n, n2, dd, dd2, sl, sl2, hl1, hb1, hs1, hs2, turn⟩ := hl _ h
    have hlt : i < items.size := by omega
    have hlt2 : i < items2.size := by omega
    have ht := turn i hlt hlt2
    obtain ⟨hp, g, d, tk, os⟩ := s
    wp_walk using wpAny_loadPart' hl1, wpAny_loadPart' hb1
    have hi1 : items[((i : Nat) : Int).toNat]? = some items[i] := by simp [hlt]
    have hi2 : items2[((i : Nat) : Int).toNat]? = some items2[i] := by simp [hlt2]
    have hc : ((i : Int) + 1) = ((i + 1 : Nat) : Int) := by omega
    rw [hi1, hi2]
    refine wpAny_bind (wpAny_mono ht (fun r s2 h2 => ?_) fun _ _ x => x)
    obtain ⟨hr, h2⟩ := h2
    subst hr
    have hdr := drop_range (N := N) (i := i) (by omega)
    cases he : e i with
    | true =>
      have hrec := ih (i + 1) (by omega) (by omega) (fun s hs => by
        have := fin s hs
        rw [hdr, List.all_cons, he] at this
        simpa using this) s2 h2
      obtain ⟨hp2, g2, d2, tk2, os2⟩ := s2
      wp_walk
      rw [hc]
      exact ⟨plainId_quiet plain_eq_loop _, codeAny_builtin entry_eq_loop (by
        rw [Around.under_plainId plain_eq_loop _]
        exact hrec)⟩
    | false =>
      have hR := fin s2 h2
      rw [hdr, List.all_cons, he] at hR
      obtain ⟨items, items2, n, n2, dd, dd2, sl, sl2, hl1, hb1, hs1, hs2, _⟩ := hl _ h2
      have hlt : i < items.size := by omega
      have hlt2 : i < items2.size := by omega
      have hi1 : items[((i : Nat) : Int).toNat]? = some items[i] := by simp [hlt]
      have hi2 : items2[((i : Nat) : Int).toNat]? = some items2[i] := by simp [hlt2]
      obtain ⟨hp2, g2, d2, tk2, os2⟩ := s2
      wp_walk using wpAny_loadPart' hl1, wpAny_loadPart' hb1
      rw [hi1, hi2]
      wp_walk
      simpa using hR
theorem ne_loopB (l b : Addr) (N : Nat) (e : Nat → Bool) (I : Shared → Prop) (hl : Two prog w A (fun e s' => R (.error e) s') l b N e I) (k : Nat) :
    ∀ i : Nat, N - i = k → i ≤ N → (∀ s, I s → R (.ok (.ret (.bool (!((List.range N).drop i).all e)))) s) → ∀ s, I s →
      wpAny (model prog w) A.in1 (Builtin.«list.__eq__.loop» ⟨[.ref l, .ref b, rawInt i, rawInt 3], []⟩) (GQ.FinOf prog w A R) (fun e s' => R (.error e) s') s := by
  induction k with
  | zero =>
    intro i hk hi fin s h
    obtain ⟨items, items2, n, n2, dd, dd2, sl, sl2, hl1, hb1, hs1, hs2, _⟩ := hl _ h
    have hR := fin s h
    have hd : (List.range N).drop i = [] := by simp; omega
    rw [hd] at hR
    obtain ⟨hp, g, d, tk, os⟩ := s
    wp_walk using wpAny_loadPart' hl1, wpAny_loadPart' hb1
    have hi1 : items[((i : Nat) : Int).toNat]? = none := by simp; omega
    have hi2 : items2[((i : Nat) : Int).toNat]? = none := by simp; omega
    rw [hi1, hi2]
    wp_walk using wpAny_loadPart' hl1, wpAny_loadPart' hb1
    show R (.ok (.ret (.bool (items.size != items2.size)))) _
    rw [hs1, hs2]
    simpa using hR
  | succ k ih =>
    intro i hk hi fin s h
    obtain ⟨items, items2, n, n2, dd, dd2, sl, sl2, hl1, hb1, hs1, hs2, turn⟩ := hl _ h
    have hlt : i < items.size := by omega
    have hlt2 : i < items2.size := by omega
    have ht := turn i hlt hlt2
    obtain ⟨hp, g, d, tk, os⟩ := s
    wp_walk using wpAny_loadPart' hl1, wpAny_loadPart' hb1
    have hi1 : items[((i : Nat) : Int).toNat]? = some items[i] := by simp [hlt]
    have hi2 : items2[((i : Nat) : Int).toNat]? = some items2[i] := by simp [hlt2]
    have hc : ((i : Int) + 1) = ((i + 1 : Nat) : Int) := by omega
    rw [hi1, hi2]
    refine wpAny_bind (wpAny_mono ht (fun r s2 h2 => ?_) fun _ _ x => x)
    obtain ⟨hr, h2⟩ := h2
    subst hr
    have hdr := drop_range (N := N) (i := i) (by omega)
    cases he : e i with
    | true =>
      have hrec := ih (i + 1) (by omega) (by omega) (fun s hs => by
        have := fin s hs
        rw [hdr, List.all_cons, he] at this
        simpa using this) s2 h2
      obtain ⟨hp2, g2, d2, tk2, os2⟩ := s2
      wp_walk
      rw [hc]
      exact ⟨plainId_quiet plain_eq_loop _, codeAny_builtin entry_eq_loop (by
        rw [Around.under_plainId plain_eq_loop _]
        exact hrec)⟩
    | false =>
      have hR := fin s2 h2
      rw [hdr, List.all_cons, he] at hR
      obtain ⟨items, items2, n, n2, dd, dd2, sl, sl2, hl1, hb1, hs1, hs2, _⟩ := hl _ h2
      have hlt : i < items.size := by omega
      have hlt2 : i < items2.size := by omega
      have hi1 : items[((i : Nat) : Int).toNat]? = some items[i] := by simp [hlt]
      have hi2 : items2[((i : Nat) : Int).toNat]? = some items2[i] := by simp [hlt2]
      obtain ⟨hp2, g2, d2, tk2, os2⟩ := s2
      wp_walk using wpAny_loadPart' hl1, wpAny_loadPart' hb1
      rw [hi1, hi2]
      wp_walk
      simpa using hR
theorem list_eqB (l b : Addr) (N : Nat) (e : Nat → Bool) (I : Shared → Prop) (hl : Two prog w A (fun e s' => R (.error e) s') l b N e I) (fin : ∀ s, I s → R (.ok (.ret (.bool ((List.range N).all e)))) s) {s : Shared} (h : I s) :
    wpAny (model prog w) A.in1 (Builtin.«list.__eq__» ⟨[.ref l, .ref b], []⟩) (GQ.FinOf prog w A R) (fun e s' => R (.error e) s') s := by
  obtain ⟨items, items2, n, n2, dd, dd2, sl, sl2, hl1, hb1, hs1, hs2, _⟩ := hl _ h
  have hrec := eq_loopB (A := A) (R := R) l b N e I hl _ 0 rfl (Nat.zero_le _) (by simpa using fin) s h
  obtain ⟨hp, g, d, tk, os⟩ := s
  have f3 := AutoSeq1.sub_list_list
  have hne : ¬ (items.size != items2.size) = true := by simp [hs1, hs2]
  wp_walk using wpAny_loadPart' hl1, wpAny_loadPart' hb1
  exact ⟨plainId_quiet plain_eq_loop _, codeAny_builtin entry_eq_loop (by
    rw [Around.under_plainId plain_eq_loop _]
    exact hrec)⟩
theorem list_neB (l b : Addr) (N : Nat) (e : Nat → Bool) (I : Shared → Prop) (hl : Two prog w A (fun e s' => R (.error e) s') l b N e I) (fin : ∀ s, I s → R (.ok (.ret (.bool (!(List.range N).all e)))) s) {s : Shared} (h : I s) :
    wpAny (model prog w) A.in1 (Builtin.«list.__ne__» ⟨[.ref l, .ref b], []⟩) (GQ.FinOf prog w A R) (fun e s' => R (.error e) s') s := by
  obtain ⟨items, items2, n, n2, dd, dd2, sl, sl2, hl1, hb1, hs1, hs2, _⟩ := hl _ h
  have hrec := ne_loopB (A := A) (R := R) l b N e I hl _ 0 rfl (Nat.zero_le _) (by simpa using fin) s h
  obtain ⟨hp, g, d, tk, os⟩ := s
  have f3 := AutoSeq1.sub_list_list
  have hne : ¬ (items.size != items2.size) = true := by simp [hs1, hs2]
  wp_walk using wpAny_loadPart' hl1, wpAny_loadPart' hb1
  exact ⟨plainId_quiet plain_eq_loop _, codeAny_builtin entry_eq_loop (by
    rw [Around.under_plainId plain_eq_loop _]
    exact hrec)⟩
/-- x in a list: at each state -/
def One (prog : Program) (w : World) (A : Around) (E : Value → Shared → Prop) (l : Addr) (x : Value) (N : Nat) (e : Nat → Bool) (I : Shared → Prop) : Prop :=
  ∀ s, I s → ∃ (items : Array Value) (n : Nat) (dd : Option Addr) (sl : Array (Option Value)), s.heap.get? l = some { cls := .type "list", dict := dd, data := .seq items n, slots := sl } ∧ items.size = N ∧
    ∀ i (h1 : i < items.size), wpAny (model prog w) A.in1 (eqBool items[i] x) (fun r s' => r = e i ∧ I s') E s
theorem in_loopB (l : Addr) (x : Value) (N : Nat) (e : Nat → Bool) (I : Shared → Prop) (hl : One prog w A (fun e s' => R (.error e) s') l x N e I) (k : Nat) :
    ∀ i : Nat, N - i = k → i ≤ N → (∀ s, I s → R (.ok (.ret (.bool (((List.range N).drop i).any e)))) s) → ∀ s, I s →
      wpAny (model prog w) A.in1 (Builtin.«list.__contains__.loop» ⟨[.ref l, x, rawInt i], []⟩) (GQ.FinOf prog w A R) (fun e s' => R (.error e) s') s := by
  induction k with
  | zero =>
    intro i hk hi fin s h
    obtain ⟨items, n, dd, sl, hl1, hs1, _⟩ := hl _ h
    have hR := fin s h
    have hd : (List.range N).drop i = [] := by simp; omega
    rw [hd] at hR
    obtain ⟨hp, g, d, tk, os⟩ := s
    wp_walk using wpAny_loadPart' hl1
    have hi1 : items[((i : Nat) : Int).toNat]? = none := by simp; omega
    rw [hi1]
    wp_walk
    simpa using hR
  | succ k ih =>
    intro i hk hi fin s h
    obtain ⟨items, n, dd, sl, hl1, hs1, turn⟩ := hl _ h
    have hlt : i < items.size := by omega
    have ht := turn i hlt
    obtain ⟨hp, g, d, tk, os⟩ := s
    wp_walk using wpAny_loadPart' hl1
    have hi1 : items[((i : Nat) : Int).toNat]? = some items[i] := by simp [hlt]
    have hc : ((i : Int) + 1) = ((i + 1 : Nat) : Int) := by omega
    rw [hi1]
    refine wpAny_bind (wpAny_mono ht (fun r s2 h2 => ?_) fun _ _ x => x)
    obtain ⟨hr, h2⟩ := h2
    subst hr
    have hdr := drop_range (N := N) (i := i) (by omega)
    cases he : e i with
    | false =>
      have hrec := ih (i + 1) (by omega) (by omega) (fun s hs => by
        have := fin s hs
        rw [hdr, List.any_cons, he] at this
        simpa using this) s2 h2
      obtain ⟨hp2, g2, d2, tk2, os2⟩ := s2
      wp_walk
      rw [hc]
      exact ⟨plainId_quiet plain_contains_loop _, codeAny_builtin entry_contains_loop (by
        rw [Around.under_plainId plain_contains_loop _]
        exact hrec)⟩
    | true =>
      have hR := fin s2 h2
      rw [hdr, List.any_cons, he] at hR
      obtain ⟨hp2, g2, d2, tk2, os2⟩ := s2
      wp_walk
      simpa using hR
theorem list_inB (l : Addr) (x : Value) (N : Nat) (e : Nat → Bool) (I : Shared → Prop) (hl : One prog w A (fun e s' => R (.error e) s') l x N e I) (fin : ∀ s, I s → R (.ok (.ret (.bool ((List.range N).any e)))) s) {s : Shared} (h : I s) :
    wpAny (model prog w) A.in1 (Builtin.«list.__contains__» ⟨[.ref l, x], []⟩) (GQ.FinOf prog w A R) (fun e s' => R (.error e) s') s := by
  have hrec := in_loopB (A := A) (R := R) l x N e I hl _ 0 rfl (Nat.zero_le _) (by simpa using fin) s h
  obtain ⟨hp, g, d, tk, os⟩ := s
  wp_walk
  exact ⟨plainId_quiet plain_contains_loop _, codeAny_builtin entry_contains_loop (by
    rw [Around.under_plainId plain_contains_loop _]
    exact hrec)⟩
end
/-! ### over the hand layer -/
section
variable {X : Cx}
/-- == inside a builtin says b, and only makes objects -/
def EqN (X : Cx) (n : Nat) (x y : V) (b : Bool) (H : Hp) : Prop := ∀ (A : Around) (pins : List (Addr × Obj)) (s : Shared) (σ : L2.St) (H0 : Hp) (u v : Value), Ext H H0 → Sub X n A → Inv X pins σ H0 s → RelV x u → RelV y v →
  wpAny (model X.prog X.w) A (eqBool u v) (fun r s' => r = b ∧ ∃ H', Inv X pins σ H' s' ∧ Ext H0 H') X.xe s
/-- the same of the comparison itself -/
def RcN (X : Cx) (op : CmpOp) (n : Nat) (x y : V) (b : Bool) (H : Hp) : Prop := ∀ (A : Around) (pins : List (Addr × Obj)) (s : Shared) (σ : L2.St) (H0 : Hp) (u v : Value), Ext H H0 → Sub X n A → Inv X pins σ H0 s → RelV x u → RelV y v →
  wpAny (model X.prog X.w) A (richCompare op u v) (fun r s' => r = .bool b ∧ ∃ H', Inv X pins σ H' s' ∧ Ext H0 H') X.xe s
theorem EqN.mono {n m : Nat} {x y : V} {b : Bool} {H : Hp} (h : EqN X n x y b H) (hn : n ≤ m) : EqN X m x y b H := fun A pins s σ H0 u v e sb => h A pins s σ H0 u v e (sb.mono hn)
theorem EqN.ext {n : Nat} {x y : V} {b : Bool} {H H' : Hp} (h : EqN X n x y b H) (e : Ext H H') : EqN X n x y b H' := fun A pins s σ H0 u v e2 sb => h A pins s σ H0 u v (e.trans e2) sb
theorem RcN.ext {op : CmpOp} {n : Nat} {x y : V} {b : Bool} {H H' : Hp} (h : RcN X op n x y b H) (e : Ext H H') : RcN X op n x y b H' := fun A pins s σ H0 u v e2 sb => h A pins s σ H0 u v (e.trans e2) sb
theorem EqN.flat {x y : V} {H : Hp} (fx : flatV x = true) (fy : flatV y = true) : EqN X 0 x y (eqV x y) H := fun A pins s σ H0 u v _ sb I rx ry =>
  eqAt_V (A := A) (s := s) rx ry fx fy X.prog X.w X.xe _ ⟨rfl, H0, I, Ext.rfl'⟩
theorem EqN.same {a : Addr} {H : Hp} : EqN X 0 (.ref a) (.ref a) true H := fun A pins s σ H0 u v _ sb I rx ry => by
  cases rx
  cases ry
  exact SeqAt.EqAt.same (A := A) (s := s) (.ref a) X.prog X.w X.xe _ ⟨rfl, H0, I, Ext.rfl'⟩
theorem RcN.eqN {n : Nat} {a c : Addr} {b : Bool} {H : Hp} (h : RcN X .Eq n (.ref a) (.ref c) b H) (hs : a = c → b = true) : EqN X n (.ref a) (.ref c) b H := fun A pins s σ H0 u v e sb I rx ry => by
  by_cases hab : a = c
  · rw [hs hab]
    subst hab
    exact EqN.same (X := X) A pins s σ H0 u v Ext.rfl' (sb.mono (Nat.zero_le _)) I rx ry
  · cases rx
    cases ry
    refine GQ.eqBool_refG hab (wpAny_mono (h A pins s σ H0 _ _ e sb I rfl rfl) (fun r s' q => ?_) fun _ _ x => x)
    obtain ⟨hr', q⟩ := q
    exact ⟨b, hr', rfl, q⟩
/-- two lists -/
theorem two_of {n : Nat} {A : Around} {l b : Addr} {xs ys : List V} {e : Nat → Bool} {H : Hp} {pins : List (Addr × Obj)} {σ : L2.St} (hl : SqL X.K H l xs) (hb : SqL X.K H b ys) (hlen : xs.length = ys.length) (sb : Sub X (n + 1) A)
    (h : ∀ i x y, xs[i]? = some x → ys[i]? = some y → EqN X n x y (e i) H) : Two X.prog X.w A X.xe l b xs.length e (fun s => ∃ H1, Inv X pins σ H1 s ∧ Ext H H1) := by
  rintro s ⟨H1, I1, e1⟩
  obtain ⟨its, r, ⟨o, k, g, c, d, dt⟩, z⟩ := I1.list (hl.ext e1)
  obtain ⟨its2, r2, ⟨o2, k2, g2, c2, d2, dt2⟩, z2⟩ := I1.list (hb.ext e1)
  obtain ⟨oc, od, odt, osl⟩ := o
  obtain ⟨oc2, od2, odt2, osl2⟩ := o2
  dsimp only at c d dt c2 d2 dt2
  subst c d dt c2 d2 dt2
  refine ⟨its.toArray, its2.toArray, k, k2, _, _, osl, osl2, g, g2, by rw [List.size_toArray, ← r.length], by rw [List.size_toArray, ← r2.length, hlen], fun i h1 h2 => ?_⟩
  have g1 : its[i]? = some its.toArray[i] := by
    have h1' : i < its.length := by simpa using h1
    rw [List.getElem?_eq_getElem h1'] <;> simp
  have g2 : its2[i]? = some its2.toArray[i] := by
    have h2' : i < its2.length := by simpa using h2
    rw [List.getElem?_eq_getElem h2'] <;> simp
  have k1 : i < xs.length := by rw [r.length]; simpa using h1
  have k2 : i < ys.length := by rw [r2.length]; simpa using h2
  obtain ⟨u, hu, ru⟩ := r.get (List.getElem?_eq_getElem k1)
  obtain ⟨v, hv, rv⟩ := r2.get (List.getElem?_eq_getElem k2)
  rw [g1] at hu
  rw [g2] at hv
  rw [Option.some.inj hu, Option.some.inj hv]
  refine wpAny_mono (h i _ _ (List.getElem?_eq_getElem k1) (List.getElem?_eq_getElem k2) A.in1 pins s σ H1 u v e1 sb.in1 I1 ru rv) (fun r s2 q => ?_) fun _ _ x => x
  obtain ⟨hr, H2, I2, e2⟩ := q
  exact ⟨hr, H2, I2, e1.trans e2⟩
theorem plainL_typ {s : Shared} {a : Addr} {its : Array Value} (h : PlainL s.heap a its) : s.TypeIs (.ref a) "list" := by
  obtain ⟨o, k, g, c, _⟩ := h
  exact ⟨o, g, c⟩
theorem RcN.listEq {n : Nat} {l b : Addr} {xs ys : List V} {e : Nat → Bool} {H : Hp} (hl : SqL X.K H l xs) (hb : SqL X.K H b ys) (hlen : xs.length = ys.length) (h : ∀ i x y, xs[i]? = some x → ys[i]? = some y → EqN X n x y (e i) H) :
    RcN X .Eq (n + 1) (.ref l) (.ref b) ((List.range xs.length).all e) H := fun A pins s σ H0 u v e0 sb I rx ry => by
  cases rx
  cases ry
  obtain ⟨_, _, p1, _⟩ := I.list (hl.ext e0)
  obtain ⟨_, _, p2, _⟩ := I.list (hb.ext e0)
  refine wpAny_richCompare_same_room (op := .Eq) (plainL_typ p1) (plainL_typ p2) F.slot_list_eq (GQ.call_here F.slot_list_eq (plainL_typ p1) F.entry_list_eq (F.args_list_eq_2 _ _) ?_) sb.room.units0
  exact list_eqB (R := wants (fun v s' => v ≠ .notImplemented ∧ v = .bool ((List.range xs.length).all e) ∧ ∃ H', Inv X pins σ H' s' ∧ Ext H0 H') X.xe) l b xs.length e (fun s => ∃ H1, Inv X pins σ H1 s ∧ Ext H0 H1) (two_of (hl.ext e0) (hb.ext e0) hlen sb fun i x y h1 h2 => (h i x y h1 h2).ext e0) (fun s' q => ⟨(fun x => nomatch x), rfl, q⟩) ⟨H0, I, Ext.rfl'⟩
theorem RcN.listNe {n : Nat} {l b : Addr} {xs ys : List V} {e : Nat → Bool} {H : Hp} (hl : SqL X.K H l xs) (hb : SqL X.K H b ys) (hlen : xs.length = ys.length) (h : ∀ i x y, xs[i]? = some x → ys[i]? = some y → EqN X n x y (e i) H) :
    RcN X .NotEq (n + 1) (.ref l) (.ref b) (!(List.range xs.length).all e) H := fun A pins s σ H0 u v e0 sb I rx ry => by
  cases rx
  cases ry
  obtain ⟨_, _, p1, _⟩ := I.list (hl.ext e0)
  obtain ⟨_, _, p2, _⟩ := I.list (hb.ext e0)
  refine wpAny_richCompare_same_room (op := .NotEq) (plainL_typ p1) (plainL_typ p2) F.slot_list_ne (GQ.call_here F.slot_list_ne (plainL_typ p1) F.entry_list_ne (F.args_list_ne_2 _ _) ?_) sb.room.units0
  exact list_neB (R := wants (fun v s' => v ≠ .notImplemented ∧ v = .bool (!(List.range xs.length).all e) ∧ ∃ H', Inv X pins σ H' s' ∧ Ext H0 H') X.xe) l b xs.length e (fun s => ∃ H1, Inv X pins σ H1 s ∧ Ext H0 H1) (two_of (hl.ext e0) (hb.ext e0) hlen sb fun i x y h1 h2 => (h i x y h1 h2).ext e0) (fun s' q => ⟨(fun x => nomatch x), rfl, q⟩) ⟨H0, I, Ext.rfl'⟩
theorem RcN.listEqL {l b : Addr} {xs ys : List V} {H : Hp} (hl : SqL X.K H l xs) (hb : SqL X.K H b ys) (hlen : xs.length ≠ ys.length) : RcN X .Eq 1 (.ref l) (.ref b) false H := fun A pins s σ H0 u v e0 sb I rx ry => by
  cases rx
  cases ry
  obtain ⟨its, r, p1, _⟩ := I.list (hl.ext e0)
  obtain ⟨its2, r2, p2, _⟩ := I.list (hb.ext e0)
  exact RcAt.lists_lengths p1.isList p2.isList (by rw [List.size_toArray, List.size_toArray, ← r.length, ← r2.length]; simpa using hlen) sb.room.units0 X.prog X.w X.xe _ ⟨rfl, H0, I, Ext.rfl'⟩
theorem RcN.listNeL {l b : Addr} {xs ys : List V} {H : Hp} (hl : SqL X.K H l xs) (hb : SqL X.K H b ys) (hlen : xs.length ≠ ys.length) : RcN X .NotEq 1 (.ref l) (.ref b) true H := fun A pins s σ H0 u v e0 sb I rx ry => by
  cases rx
  cases ry
  obtain ⟨its, r, p1, _⟩ := I.list (hl.ext e0)
  obtain ⟨its2, r2, p2, _⟩ := I.list (hb.ext e0)
  exact RcNeAt.lists_lengths p1.isList p2.isList (by rw [List.size_toArray, List.size_toArray, ← r.length, ← r2.length]; simpa using hlen) sb.room.units0 X.prog X.w X.xe _ ⟨rfl, H0, I, Ext.rfl'⟩
/-- an own == -/
theorem RcN.own {CX : CXT} {C f : Addr} {fd : FuncData} {ps : List Str} {sp : Sp} {n : Nat} {a c dx dy : Addr} {fs gs : List (Str × V)} {b : Bool} {H : Hp} (F : FnOk X.prog X.w X.K X.mg X.base CX n f fd ps sp) (M : Meth X.K C "__eq__" f) (hb : Binds X.K fd ps []) (hx : Passes CX X E0)
    (ha : H a = some (.ins C dx fs)) (hc : H c = some (.ins C dy gs)) (h : ∀ H0, Ext H H0 → sp [.ref a, .ref c] H0 (fun v H' => v = .bl b ∧ Ext H0 H') E0) : RcN X .Eq n (.ref a) (.ref c) b H := fun A pins s σ H0 u v e sb I rx ry => by
  cases rx
  cases ry
  obtain ⟨mA, J, _⟩ := ins_get I.hok (e _ _ ha)
  obtain ⟨mB, J', _⟩ := ins_get I.hok (e _ _ hc)
  obtain ⟨od, J, _⟩ := J.look
  obtain ⟨od', J', _⟩ := J'.look
  obtain ⟨m, hF⟩ := I.fr
  refine PySem.W.cmp_K (op := .Eq) (tb := .ref C) sb.room.units0 hF I.ok.mod.kin J J'.type (by simp [PySem.W.notFirst]) M.at_ M.fn ?_
  have e0 : Env0 X.prog X.w X.K X.mg X.base A X.stack s H0 := by
    have e := I.env0
    exact ⟨by rw [sb.fr]; exact e.frames, e.mod, e.bs, e.bsz, e.funs, e.frf, e.hok, e.bare⟩
  have hsp := h H0 e
  have hl := F.len _ _ _ _ hsp
  have r2 : Vals [V.ref a, V.ref c] [Value.ref a, Value.ref c] := .cons rfl (.cons rfl .nil)
  refine wpAny_call (codeAny_mono (F.run A X.stack s H0 ⟨[.ref a, .ref c], []⟩ [.ref a, .ref c] [.ref a, .ref c] _ E0 sb.room e0 (by
    have := hb s [.ref a, .ref c] I.kIn (by simpa using hl)
    simpa using this) r2 hsp) fun r s' hq => ?_)
  cases r with
  | error e => exact hx pins σ H0 s e s' I hq
  | ok fl =>
    cases fl with
    | ret w =>
      obtain ⟨z, H', I', rz, ez, ex⟩ := I.after hq
      subst ez
      cases rz
      exact ⟨rfl, H', I', ex⟩
    | next => exact False.elim hq
    | brk => exact False.elim hq
    | cont => exact False.elim hq
/-- x in a list -/
theorem one_of {n : Nat} {A : Around} {l : Addr} {xs : List V} {x : V} {u : Value} {e : Nat → Bool} {H : Hp} {pins : List (Addr × Obj)} {σ : L2.St} (hl : SqL X.K H l xs) (rx : RelV x u) (sb : Sub X (n + 1) A)
    (h : ∀ i y, xs[i]? = some y → EqN X n y x (e i) H) : One X.prog X.w A X.xe l u xs.length e (fun s => ∃ H1, Inv X pins σ H1 s ∧ Ext H H1) := by
  rintro s ⟨H1, I1, e1⟩
  obtain ⟨its, r, ⟨o, k, g, c, d, dt⟩, z⟩ := I1.list (hl.ext e1)
  obtain ⟨oc, od, odt, osl⟩ := o
  dsimp only at c d dt
  subst c d dt
  refine ⟨its.toArray, k, _, osl, g, by rw [List.size_toArray, ← r.length], fun i h1 => ?_⟩
  have g1 : its[i]? = some its.toArray[i] := by
    have h1' : i < its.length := by simpa using h1
    rw [List.getElem?_eq_getElem h1'] <;> simp
  have k1 : i < xs.length := by rw [r.length]; simpa using h1
  obtain ⟨v, hu, ru⟩ := r.get (List.getElem?_eq_getElem k1)
  rw [g1] at hu
  rw [Option.some.inj hu]
  refine wpAny_mono (h i _ (List.getElem?_eq_getElem k1) A.in1 pins s σ H1 v u e1 sb.in1 I1 ru rx) (fun r s2 q => ?_) fun _ _ x => x
  obtain ⟨hr, H2, I2, e2⟩ := q
  exact ⟨hr, H2, I2, e1.trans e2⟩
def rInN (X : Cx) (n : Nat) (neg : Bool) : R2 := fun x y H Q => ∃ l xs e, y = .ref l ∧ SqL X.K H l xs ∧ (∀ i z, xs[i]? = some z → EqN X n z x (e i) H) ∧ ∀ H', Ext H H' → Q (.bl (neg.xor ((List.range xs.length).any e))) H'
theorem op_inN {n : Nat} (hr : Room (n + 1) X.A) : OpR X (compareOp .In) (rInN X n false) := by
  intro pins s σ H x y v u Q I rx ry h
  obtain ⟨l, xs, e, rfl, hl, hi, q⟩ := h
  cases ry
  obtain ⟨_, _, p1, _⟩ := I.list hl
  show wpAny (model X.prog X.w) X.A (do return Value.bool (← contains (.ref l) v)) _ _ s
  refine wpAny_bind (wpAny_contains_slot (plainL_typ p1) F.slot_list_contains (GQ.call_here F.slot_list_contains (plainL_typ p1) F.entry_list_contains (F.args_list_contains_2 _ _) ?_))
  refine list_inB (R := wants _ X.xe) l v xs.length e (fun s => ∃ H1, Inv X pins σ H1 s ∧ Ext H H1) (one_of hl rx ⟨hr, rfl⟩ hi) (fun s' q' => ?_) ⟨H, I, Ext.rfl'⟩
  obtain ⟨H1, I1, e1⟩ := q'
  exact wpAny_truthy_bool (wpAny_pure ⟨.bl _, H1, I1, rfl, by simpa using q H1 e1⟩)
theorem op_notInN {n : Nat} (hr : Room (n + 1) X.A) : OpR X (compareOp .NotIn) (rInN X n true) := by
  intro pins s σ H x y v u Q I rx ry h
  obtain ⟨l, xs, e, rfl, hl, hi, q⟩ := h
  cases ry
  obtain ⟨_, _, p1, _⟩ := I.list hl
  show wpAny (model X.prog X.w) X.A (do return Value.bool (!(← contains (.ref l) v))) _ _ s
  refine wpAny_bind (wpAny_contains_slot (plainL_typ p1) F.slot_list_contains (GQ.call_here F.slot_list_contains (plainL_typ p1) F.entry_list_contains (F.args_list_contains_2 _ _) ?_))
  refine list_inB (R := wants _ X.xe) l v xs.length e (fun s => ∃ H1, Inv X pins σ H1 s ∧ Ext H H1) (one_of hl rx ⟨hr, rfl⟩ hi) (fun s' q' => ?_) ⟨H, I, Ext.rfl'⟩
  obtain ⟨H1, I1, e1⟩ := q'
  exact wpAny_truthy_bool (wpAny_pure ⟨.bl _, H1, I1, rfl, by simpa using q H1 e1⟩)
def rRcN (X : Cx) (op : CmpOp) (n : Nat) : R2 := fun x y H Q => ∃ b, RcN X op n x y b H ∧ ∀ H', Ext H H' → Q (.bl b) H'
theorem op_eqN {n : Nat} (hr : Room n X.A) : OpR X (compareOp .Eq) (rRcN X .Eq n) := by
  intro pins s σ H x y v u Q I rx ry hq
  obtain ⟨b, h, q⟩ := hq
  show wpAny (model X.prog X.w) X.A (richCompare .Eq v u) (EP X pins σ Q) X.xe s
  refine wpAny_mono (h X.A pins s σ H v u Ext.rfl' ⟨hr, rfl⟩ I rx ry) (fun r s' z => ?_) fun _ _ x => x
  obtain ⟨rfl, H', I', e⟩ := z
  exact ⟨.bl b, H', I', rfl, q H' e⟩
theorem op_neN {n : Nat} (hr : Room n X.A) : OpR X (compareOp .NotEq) (rRcN X .NotEq n) := by
  intro pins s σ H x y v u Q I rx ry hq
  obtain ⟨b, h, q⟩ := hq
  show wpAny (model X.prog X.w) X.A (richCompare .NotEq v u) (EP X pins σ Q) X.xe s
  refine wpAny_mono (h X.A pins s σ H v u Ext.rfl' ⟨hr, rfl⟩ I rx ry) (fun r s' z => ?_) fun _ _ x => x
  obtain ⟨rfl, H', I', e⟩ := z
  exact ⟨.bl b, H', I', rfl, q H' e⟩
end
end OT
/-! Equality by data, isinstance, own lists written, lists lent to be changed. -/
namespace OT
open PySem PySem.Spec PyProof.Rows L2 NdefX
theorem Same.ext {H H' : Hp} (h : Same H H') : Ext H H' := h
theorem Stp.ext {S H H' : Hp} (sm : Same S H) (e : Ext H H') : Stp S H S H' := ⟨Same.refl _, sm.trans e, e, fun _ h _ => h⟩
/-- two values of which R1, R2 are told are seen to be equal or not -/
def EqM (X : Cx) (n : Nat) (R1 R2 : BP) (b : Bool) : Prop := ∀ S H x y, Same S H → R1.R S H x → R2.R S H y → EqN X n x y b H
def RcM (X : Cx) (op : CmpOp) (n : Nat) (R1 R2 : BP) (b : Bool) : Prop := ∀ S H x y, Same S H → R1.R S H x → R2.R S H y → RcN X op n x y b H
theorem EqM.mono {X : Cx} {n m : Nat} {R1 R2 : BP} {b : Bool} (h : EqM X n R1 R2 b) (hn : n ≤ m) : EqM X m R1 R2 b := fun S H x y sm h1 h2 => (h S H x y sm h1 h2).mono hn
theorem eqm_val {X : Cx} {v w : V} (fv : flatV v = true) (fw : flatV w = true) : EqM X 0 (tV v).b (tV w).b (eqV v w) := fun S H x y sm h1 h2 => by
  cases h1
  cases h2
  exact EqN.flat fv fw
theorem rcm_own {X : Cx} {C : Addr} {k : Nat} {ps : List Str} {D : Type} {As : D → List BP} {out : D → Out} {Ra Rb : List (Str × MP)} {kk : Bool} (F : GM X.prog X.w X.K X.mg X.base C "__eq__" k ps (spD As out)) (d : D)
    (hA : As d = [(tO C Ra).b, (tO C Rb).b] := by rfl) (ho : out d = .val (tB kk) := by rfl) : RcM X .Eq k (tO C Ra).b (tO C Rb).b kk := by
  obtain ⟨f, fd, F, M, hb⟩ := F
  intro S H x y sm h1 h2
  obtain ⟨p, dx, fs, rfl, hp⟩ := tO.at_ h1 sm
  obtain ⟨r, dy, gs, rfl, hq⟩ := tO.at_ h2 sm
  refine RcN.own F M hb pass_none hp hq fun H0 e => ⟨d, S, sm.trans e, by rw [hA]; exact ⟨h1, h2, trivial⟩, ?_⟩
  rw [ho]
  exact fun v S' H' s rr => ⟨rr, s.h⟩
theorem RcM.eqM {X : Cx} {n : Nat} {R1 R2 : BP} {b : Bool} (h : RcM X .Eq n R1 R2 b) (hr : ∀ S H x, R1.R S H x → ∃ a, x = .ref a) (hr2 : ∀ S H x, R2.R S H x → ∃ a, x = .ref a) (hs : ∀ S H x, Same S H → R1.R S H x → R2.R S H x → b = true) : EqM X n R1 R2 b := fun S H x y sm h1 h2 => by
  obtain ⟨a, rfl⟩ := hr S H x h1
  obtain ⟨c, rfl⟩ := hr2 S H y h2
  exact (h S H _ _ sm h1 h2).eqN fun e => by
    subst e
    exact hs S H _ sm h1 h2
section
variable {X : Cx} {B : Bs} {Γ : Gm} {O : Om} {e a b c o l : Expr} {es : List Expr} {p pos pos' apos : Pos} {R R' R1 R2 : BP} {D : Ends} {rest body els : List Stmt} {x m f : Str} {Rs Qs : List MP} {n : Nat} {kk : Bool}
theorem e_eqM (h : RcM X .Eq n R1 R2 kk) (hr : Room n X.A) (ha : EJ X B Γ O a R1) (hb : EJ X B Γ O b R2) : EJ X B Γ O (.Compare a [.Eq] [b] pos) (bB kk) :=
  e_cmp2 (op_eqN hr) ha hb (nomark _) fun S H x y sm h1 h2 Q q => ⟨kk, h S H x y sm h1 h2, fun H' e => q _ S H' (Stp.ext sm e) rfl⟩
theorem e_neM (h : RcM X .NotEq n R1 R2 kk) (hr : Room n X.A) (ha : EJ X B Γ O a R1) (hb : EJ X B Γ O b R2) : EJ X B Γ O (.Compare a [.NotEq] [b] pos) (bB kk) :=
  e_cmp2 (op_neN hr) ha hb (nomark _) fun S H x y sm h1 h2 Q q => ⟨kk, h S H x y sm h1 h2, fun H' e => q _ S H' (Stp.ext sm e) rfl⟩
/-! ### lists -/
theorem AllM.nth {S : Hp} {vs : List V} {i : Nat} {v : V} (h : AllM Rs S vs) (hv : vs[i]? = some v) : i < Rs.length ∧ (nth Rs i).R S v := by
  obtain ⟨R, h1, h2⟩ := h.got hv
  have hl : i < Rs.length := by
    rcases Nat.lt_or_ge i Rs.length with z | z
    · exact z
    · rw [List.getElem?_eq_none z] at h1; cases h1
  refine ⟨hl, ?_⟩
  rw [nth_get hl] at h1
  cases h1
  exact h2
theorem rcm_lst (k : Nat → Bool) (hl : Rs.length = Qs.length) (h : ∀ i, i < Rs.length → EqM X n (nth Rs i).b (nth Qs i).b (k i)) : RcM X .Eq (n + 1) (bL X.K Rs) (bL X.K Qs) ((List.range Rs.length).all k) := fun S H x y sm ⟨a, vs, e1, h1, h2⟩ ⟨b, ws, e2, g1, g2⟩ => by
  subst e1 e2
  rw [← h2.length]
  exact RcN.listEq h1 g1 (by rw [h2.length, g2.length, hl]) fun i x y hx hy => h i (h2.nth hx).1 S H x y sm (h2.nth hx).2 (g2.nth hy).2
theorem rcm_lstNe (k : Nat → Bool) (hl : Rs.length = Qs.length) (h : ∀ i, i < Rs.length → EqM X n (nth Rs i).b (nth Qs i).b (k i)) : RcM X .NotEq (n + 1) (bL X.K Rs) (bL X.K Qs) (!(List.range Rs.length).all k) := fun S H x y sm ⟨a, vs, e1, h1, h2⟩ ⟨b, ws, e2, g1, g2⟩ => by
  subst e1 e2
  rw [← h2.length]
  exact RcN.listNe h1 g1 (by rw [h2.length, g2.length, hl]) fun i x y hx hy => h i (h2.nth hx).1 S H x y sm (h2.nth hx).2 (g2.nth hy).2
theorem rcm_lstL (hl : Rs.length ≠ Qs.length) : RcM X .Eq 1 (bL X.K Rs) (bL X.K Qs) false := fun S H x y sm ⟨a, vs, e1, h1, h2⟩ ⟨b, ws, e2, g1, g2⟩ => by
  subst e1 e2
  exact RcN.listEqL h1 g1 (by rw [h2.length, g2.length]; exact hl)
theorem rcm_lstNeL (hl : Rs.length ≠ Qs.length) : RcM X .NotEq 1 (bL X.K Rs) (bL X.K Qs) true := fun S H x y sm ⟨a, vs, e1, h1, h2⟩ ⟨b, ws, e2, g1, g2⟩ => by
  subst e1 e2
  exact RcN.listNeL h1 g1 (by rw [h2.length, g2.length]; exact hl)
theorem RcN.mono {op : CmpOp} {n m : Nat} {x y : V} {b : Bool} {H : Hp} (h : RcN X op n x y b H) (hn : n ≤ m) : RcN X op m x y b H := fun A pins s σ H0 u v e sb => h A pins s σ H0 u v e (sb.mono hn)
theorem RcM.mono {op : CmpOp} {m : Nat} (h : RcM X op n R1 R2 kk) (hn : n ≤ m) : RcM X op m R1 R2 kk := fun S H x y sm h1 h2 => (h S H x y sm h1 h2).mono hn
/-! ### encodings: α as values -/
/-- x == y of two values of α -/
def Enc {α : Type} [DecidableEq α] (X : Cx) (n : Nat) (f : α → MP) : Prop := ∀ x y, EqM X n (f x).b (f y).b (decide (x = y))
theorem enc_int : Enc X 0 tI := fun x y S H v w sm h1 h2 => by
  have := eqm_val (X := X) (v := .int x) (w := .int y) rfl rfl S H v w sm h1 h2
  have e : eqV (.int x) (.int y) = decide (x = y) := by
    show (x == y) = _
    by_cases h : x = y <;> simp [h]
  rw [e] at this
  exact this
theorem enc_str : Enc X 0 tS := fun x y S H v w sm h1 h2 => by
  have := eqm_val (X := X) (v := .str x) (w := .str y) rfl rfl S H v w sm h1 h2
  have e : eqV (.str x) (.str y) = decide (x = y) := by
    show (x == y) = _
    by_cases h : x = y <;> simp [h]
  rw [e] at this
  exact this
theorem enc_bool : Enc X 0 tB := fun x y S H v w sm h1 h2 => by
  have := eqm_val (X := X) (v := .bl x) (w := .bl y) rfl rfl S H v w sm h1 h2
  have e : eqV (.bl x) (.bl y) = decide (x = y) := by cases x <;> cases y <;> rfl
  rw [e] at this
  exact this
theorem nth_map {α : Type} {f : α → MP} {xs : List α} {i : Nat} (h : i < xs.length) : nth (xs.map f) i = f xs[i] := by unfold nth; simp [List.getD, h]
theorem all_eq {α : Type} [DecidableEq α] (xs ys : List α) (hl : xs.length = ys.length) : ((List.range xs.length).all fun i => decide (xs[i]? = ys[i]?)) = decide (xs = ys) := by
  rw [Bool.eq_iff_iff, List.all_eq_true]
  simp only [decide_eq_true_eq, List.mem_range]
  constructor
  · intro h
    apply List.ext_getElem?
    intro i
    rcases Nat.lt_or_ge i xs.length with z | z
    · exact h i z
    · rw [List.getElem?_eq_none z, List.getElem?_eq_none (hl ▸ z)]
  · rintro rfl i _
    rfl
theorem Enc.lst {α : Type} [DecidableEq α] {g : α → MP} (h : Enc X n g) (xs ys : List α) : RcM X .Eq (n + 1) (bL X.K (xs.map g)) (bL X.K (ys.map g)) (decide (xs = ys)) := by
  by_cases hl : xs.length = ys.length
  · have := rcm_lst (X := X) (Rs := xs.map g) (Qs := ys.map g) (n := n) (fun i => decide (xs[i]? = ys[i]?)) (by simpa using hl) (fun i hi => by
      have hi : i < xs.length := by simpa using hi
      have hj : i < ys.length := hl ▸ hi
      rw [nth_map hi, nth_map hj, List.getElem?_eq_getElem hi, List.getElem?_eq_getElem hj]
      have e := h xs[i] ys[i]
      simpa using e)
    rw [List.length_map, all_eq xs ys hl] at this
    exact this
  · have e : decide (xs = ys) = false := decide_eq_false fun z => hl (by rw [z])
    rw [e]
    exact (rcm_lstL (by simpa using hl)).mono (Nat.le_add_left _ _)
theorem Enc.lstNe {α : Type} [DecidableEq α] {g : α → MP} (h : Enc X n g) (xs ys : List α) : RcM X .NotEq (n + 1) (bL X.K (xs.map g)) (bL X.K (ys.map g)) (!decide (xs = ys)) := by
  by_cases hl : xs.length = ys.length
  · have := rcm_lstNe (X := X) (Rs := xs.map g) (Qs := ys.map g) (n := n) (fun i => decide (xs[i]? = ys[i]?)) (by simpa using hl) (fun i hi => by
      have hi : i < xs.length := by simpa using hi
      have hj : i < ys.length := hl ▸ hi
      rw [nth_map hi, nth_map hj, List.getElem?_eq_getElem hi, List.getElem?_eq_getElem hj]
      have e := h xs[i] ys[i]
      simpa using e)
    rw [List.length_map, all_eq xs ys hl] at this
    exact this
  · have e : decide (xs = ys) = false := decide_eq_false fun z => hl (by rw [z])
    rw [e]
    exact (rcm_lstNeL (by simpa using hl)).mono (Nat.le_add_left _ _)
theorem sqL_inj {K : PySem.W.Frag} {H : Hp} {a : Addr} {xs ys : List V} (h : H a = some (.lst xs)) (h' : SqL K H a ys) (hk : K.lookup a = none) : xs = ys := by
  rcases h' with (z | ⟨o, z⟩) | ⟨o, its, m, z, _⟩
  · rw [h] at z; cases z; rfl
  · rw [h] at z; cases z
  · rw [hk] at z; cases z
/-! ### in, not in a list -/
theorem e_inL (k : Nat → Bool) (h : ∀ i, i < Rs.length → EqM X n (nth Rs i).b R1 (k i)) (hr : Room (n + 1) X.A) (ha : EJ X B Γ O a R1) (hb : EJ X B Γ O b (bL X.K Rs)) (hmk : behindInMarks .In b = false := by rfl) : EJ X B Γ O (.Compare a [.In] [b] pos) (bB ((List.range Rs.length).any k)) :=
  e_cmp2 (op_inN hr) ha hb hmk fun S H x y sm h1 ⟨p, vs, e2, h2, h3⟩ Q q => ⟨p, vs, k, e2, h2, fun i z hz => h i (h3.nth hz).1 S H z x sm (h3.nth hz).2 h1, fun H' e => q _ S H' (Stp.ext sm e) (by rw [h3.length]; simp; rfl)⟩
theorem e_ninL (k : Nat → Bool) (h : ∀ i, i < Rs.length → EqM X n (nth Rs i).b R1 (k i)) (hr : Room (n + 1) X.A) (ha : EJ X B Γ O a R1) (hb : EJ X B Γ O b (bL X.K Rs)) (hmk : behindInMarks .NotIn b = false := by rfl) : EJ X B Γ O (.Compare a [.NotIn] [b] pos) (bB (!(List.range Rs.length).any k)) :=
  e_cmp2 (op_notInN hr) ha hb hmk fun S H x y sm h1 ⟨p, vs, e2, h2, h3⟩ Q q => ⟨p, vs, k, e2, h2, fun i z hz => h i (h3.nth hz).1 S H z x sm (h3.nth hz).2 h1, fun H' e => q _ S H' (Stp.ext sm e) (by rw [h3.length]; simp; rfl)⟩
/-! ### names of built-in types, isinstance -/
theorem e_bty {v : V} {u : Value} (hm : X.mg x = none) (hv : bootBuiltins x = some u) (r : RelV v u) (hg : Gl X x := by rfl) (hn : x ≠ "__name__" := by decide) (hd : (x == ("__debug__" : Str)) = false := by decide) : EJ X B Γ O (.Name x pos) (tV v).b :=
  EJ.now (pe_bltn hg hm hv r hn hd) fun _ _ _ _ => ⟨_, rfl, fun _ q => q⟩
theorem e_isi {cv : V} {t u : Value} (hm : X.mg "isinstance" = none) (ha : EJ X B Γ O a R1) (hc : EJ X B Γ O c (tV cv).b) (kc : ClsV cv u) (ty : ∀ S H v, Same S H → R1.R S H v → TyX X.K H v t) (e : PySem.W.kitOne X.K t u = some kk) (hg : Gl X "isinstance" := by rfl)
    (hs : starEach [a, c] X.env = (false, eval a X.env) :: starEach [c] X.env := by rfl) (hs2 : starEach [c] X.env = (false, eval c X.env) :: starEach [] X.env := by rfl) (hpl : (backTo pos (starEach [c] X.env)).any (·.1) = false := by rfl) : EJ X B Γ O (.Call (.Name "isinstance" p) [a, c] [] pos) (bB kk) :=
  e_callB call_isi hm (by decide +kernel) (a_cons ha (a_cons hc a_nil hs2) hs) (fun S H vs sm r Q q => by
    obtain ⟨v, w, rfl, h1, h2⟩ := r.two
    cases h2
    exact ⟨v, cv, t, u, kk, rfl, kc, ty S H v sm h1, e, q _ S H (Stp.refl sm) rfl⟩) hg (by decide) (by decide) hs hpl
/-- an own class's instances, as isinstance asks -/
structure InsT (K : PySem.W.Frag) (C : Addr) : Prop where
  cl : Cls K C
  ha : PySem.W.findIn K (.ref C) "__class__" = some (some (.builtin "object.__class__"))
  hn : PySem.W.specialIn K (.builtin "object.__class__") "__get__" = some (some (.builtin "getset_descriptor.__get__"))
  htk : PySem.W.takesIn K (.builtin "object.__class__") = some true
  hm : PySem.W.mroIn K C (.type "object") = some true
theorem InsT.ty {K : PySem.W.Frag} {C : Addr} {Ra : List (Str × MP)} (h : InsT K C) : ∀ S H v, Same S H → (tO C Ra).b.R S H v → TyX K H v (.ref C) := fun S H v sm r => by
  obtain ⟨a, dx, fs, rfl, hp⟩ := tO.at_ r sm
  exact .base (.ins hp h.cl h.ha h.hn h.htk h.hm)
theorem ty_int {K : PySem.W.Frag} {i : Int} : ∀ S H v, Same S H → (bI i).R S H v → TyX K H v (.type "int") := fun S H v _ r => by cases r; exact .base (.int i)
theorem ty_str {K : PySem.W.Frag} {i : Str} : ∀ S H v, Same S H → (bS i).R S H v → TyX K H v (.type "str") := fun S H v _ r => by cases r; exact .base (.str i)
theorem ty_bl {K : PySem.W.Frag} {i : Bool} : ∀ S H v, Same S H → (bB i).R S H v → TyX K H v (.type "bool") := fun S H v _ r => by cases r; exact .base (.bl i)
theorem ty_non {K : PySem.W.Frag} : ∀ S H v, Same S H → bN.R S H v → TyX K H v (.type "NoneType") := fun S H v _ r => by cases r; exact .base .non
/-! ### bool of an own instance -/
/-! ### (a, b) = a list -/
theorem g_lst {ts : List Expr} {k} {n : Nat} {Γ' : Gm} {js : List Nat} (h : GJs X B O ts Rs Γ Γ' js) (hz : Rs.length = n := by rfl) (hc : X.calm = true := by rfl) (hn : (assignEach ts X.env).length = n := by rfl) (hst : (assignEach ts X.env).findIdx? (·.1) = none := by rfl) : GJ X B O (.Tuple ts k pos) (tL X.K Rs) Γ Γ' js := fun S H σ v t ⟨a, vs, hv, h1, h2⟩ Q q =>
  ⟨_, pg_unl hc pgs_w hn hst, a, vs, hv, t.sub.seq h1, by rw [h2.length, hz], h S H σ vs t h2 Q q⟩
/-- unpack a lent list -/
theorem g_lstB {ts : List Expr} {k} {n : Nat} {Γ' : Gm} {js : List Nat} (h : GJs X B O ts Rs Γ Γ' js) (hz : Rs.length = n := by rfl) (hc : X.calm = true := by rfl) (hn : (assignEach ts X.env).length = n := by rfl) (hst : (assignEach ts X.env).findIdx? (·.1) = none := by rfl) : GJ X B O (.Tuple ts k pos) ((bL X.K Rs).at_ B.H) Γ Γ' js := fun S H σ v t ⟨a, vs, hv, h1, h2⟩ Q q =>
  ⟨_, pg_unl hc pgs_w hn hst, a, vs, hv, t.st.h.seq h1, by rw [h2.length, hz], h S H σ vs t h2 Q q⟩
/-! ### a list or a tuple -/
theorem e_ixQ {i : Int} {R : MP} (h : EJ X B Γ O a (bQ X.K Rs)) (hi : EJ X B Γ O b (bI i)) (hg : atI Rs i = some R) (hs : PlainIx b := by exact fun _ _ => rfl) : EJ X B Γ O (.Subscript a b pos) R.b := fun S H σ st Q q => by
  have key : ∀ {r : R2}, IxR X r → (∀ x y H Q, (∃ p vs i v, x = .ref p ∧ y = .int i ∧ (SqL X.K H p vs ∨ SqT X.K H p vs) ∧ atI vs i = some v ∧ Q v H) → r x y H Q) → wE X (.Subscript a b pos) σ H Q := fun {r} hr hrr => by
    refine ⟨_, pe_ix hr pe_w pe_w hs, h S H σ st _ fun v S1 H1 s1 r1 => hi S1 H1 σ (st.step s1) _ fun w S2 H2 s2 r2 => ?_⟩
    obtain ⟨p, vs, rfl, h2, h3⟩ := (bQ X.K Rs).up s2.s s2.h r1
    cases r2
    unfold atI at hg
    cases hn : ixN Rs.length i with
    | none => rw [hn] at hg; cases hg
    | some j =>
      rw [hn] at hg
      obtain ⟨v, h4, h5⟩ := h3.get hg
      refine hrr _ _ _ _ ⟨p, vs, i, v, rfl, rfl, h2, ?_, q v S2 H2 (s1.trans s2) h5⟩
      unfold atI
      rw [h3.length, hn]
      exact h4
  exact key (r := fun x y H Q => ∃ p vs i v, x = .ref p ∧ y = .int i ∧ (SqL X.K H p vs ∨ SqT X.K H p vs) ∧ atI vs i = some v ∧ Q v H) (fun va sl pins s σ H x y v u Q I rx ry hz hss => by
    obtain ⟨p, vs, i, v, e1, e2, h2, h3, q⟩ := hz
    rcases h2 with h2 | h2
    · exact ix_list va sl pins s σ H _ _ _ _ Q I rx ry ⟨p, vs, i, v, e1, e2, h2, h3, q⟩ hss
    · exact ix_tup va sl pins s σ H _ _ _ _ Q I rx ry ⟨p, vs, i, v, e1, e2, h2, h3, q⟩ hss) fun x y H Q h => h
theorem i_seq {tg : Expr} (i : Nat) {nm : Str} (hG : Γ[i]? = some (some ((bQ X.K Rs).at_ B.H)) := by rfl) (hN : X.N[i]? = some nm := by rfl) (hv : Vis X.env.scope nm := by first | exact Or.inl rfl | exact Or.inr (Or.inl rfl) | exact Or.inr (Or.inr rfl))
    (hd : (nm == ("__debug__" : Str)) = false := by decide) (hcd : (nm == ("__classdict__" : Str)) = false := by decide) : IJ X B Γ O tg (.Name nm pos) [] Rs.length (nth Rs) := fun S H σ st Rk k => by
  obtain ⟨v, h1, a, vs, rfl, h3, h4⟩ := st.slot i _ hG
  rcases h3 with h3 | h3
  · refine ⟨_, pi_list (pe_var hN hv hd hcd), _, h1, a, rfl, ⟨vs, st.st.h.seq h3⟩, k (Itl X.K a) ⟨fun S => AllM Rs S vs, fun e h => h.up e⟩ S H (Stp.refl st.sub) h4 fun Γ2 O2 S2 H2 σ2 t _ => ?_⟩
    have g1 := t.st.h.seq h3
    have g2 : AllM Rs S2 vs := t.gh.2
    refine ⟨⟨vs, g1, by rw [g2.length]; exact Nat.le_refl _⟩, fun i hi => ?_⟩
    obtain ⟨w, h5, h6⟩ := g2.get (nth_get hi)
    refine ⟨⟨vs, w, g1, h5⟩, fun y H3 ⟨e, hy⟩ => ?_⟩
    subst e
    have := hy vs g1
    rw [h5] at this
    cases this
    exact ⟨S2, Stp.refl t.sub, h6⟩
  · refine ⟨_, pi_tup (pe_var hN hv hd hcd), _, h1, a, rfl, ⟨vs, Same.tup st.st.h h3⟩, k (Itt X.K a) ⟨fun S => AllM Rs S vs, fun e h => h.up e⟩ S H (Stp.refl st.sub) h4 fun Γ2 O2 S2 H2 σ2 t _ => ?_⟩
    have g1 := Same.tup t.st.h h3
    have g2 : AllM Rs S2 vs := t.gh.2
    refine ⟨⟨vs, g1, by rw [g2.length]; exact Nat.le_refl _⟩, fun i hi => ?_⟩
    obtain ⟨w, h5, h6⟩ := g2.get (nth_get hi)
    refine ⟨⟨vs, w, g1, h5⟩, fun y H3 ⟨e, hy⟩ => ?_⟩
    subst e
    have := hy vs g1
    rw [h5] at this
    cases this
    exact ⟨S2, Stp.refl t.sub, h6⟩
theorem e_seqV (i : Nat) {nm : Str} (hG : Γ[i]? = some (some ((bQ X.K Rs).at_ B.H)) := by rfl) (hN : X.N[i]? = some nm := by rfl) (hv : Vis X.env.scope nm := by first | exact Or.inl rfl | exact Or.inr (Or.inl rfl) | exact Or.inr (Or.inr rfl))
    (hd : (nm == ("__debug__" : Str)) = false := by decide) (hcd : (nm == ("__classdict__" : Str)) = false := by decide) : EJ X B Γ O (.Name nm pos) (bQ X.K Rs) :=
  EJ.now (pe_var hN hv hd hcd) fun S H σ st => let ⟨v, h1, a, vs, h2, h3, h4⟩ := st.slot i _ hG; ⟨v, ⟨a, vs, h2, h3.elim (fun h => .inl (st.st.h.seq h)) (fun h => .inr (Same.tup st.st.h h)), h4⟩, fun Q q => ⟨v, h1, q⟩⟩
theorem e_lentV (i : Nat) {nm : Str} (hG : Γ[i]? = some (some ((bL X.K Rs).at_ B.H)) := by rfl) (hN : X.N[i]? = some nm := by rfl) (hv : Vis X.env.scope nm := by first | exact Or.inl rfl | exact Or.inr (Or.inl rfl) | exact Or.inr (Or.inr rfl))
    (hd : (nm == ("__debug__" : Str)) = false := by decide) (hcd : (nm == ("__classdict__" : Str)) = false := by decide) : EJ X B Γ O (.Name nm pos) (bL X.K Rs) :=
  EJ.now (pe_var hN hv hd hcd) fun S H σ st => let ⟨v, h1, a, vs, h2, h3, h4⟩ := st.slot i _ hG; ⟨v, ⟨a, vs, h2, st.st.h.seq h3, h4⟩, fun Q q => ⟨v, h1, q⟩⟩
/-! ### any, all of a list of truths -/
theorem bls_of {bs : List Bool} {S : Hp} : ∀ {vs : List V}, AllM (bs.map tB) S vs → vs = bs.map V.bl := by
  induction bs with
  | nil => intro vs h; cases vs with
    | nil => rfl
    | cons _ _ => exact h.elim
  | cons b bs ih => intro vs h; cases vs with
    | nil => exact h.elim
    | cons v vs =>
      have h1 : v = .bl b := h.1
      rw [h1, ih h.2]
      rfl
theorem e_any {bs : List Bool} (hm : X.mg "any" = none) (ha : EJ X B Γ O e (bL X.K (bs.map tB))) (hg : Gl X "any" := by rfl) (hc : X.calm = true := by rfl) (hs : starEach [e] X.env = (false, eval e X.env) :: starEach [] X.env := by rfl) : EJ X B Γ O (.Call (.Name "any" p) [e] [] pos) (bB (bs.any id)) :=
  e_callB (cr_any hc) hm (by decide +kernel) (a_cons ha a_nil hs) (fun S H vs sm r Q q => by
    obtain ⟨v, rfl, p, ws, rfl, h1, h2⟩ := r.one
    exact ⟨p, bs, rfl, bls_of h2 ▸ h1, q _ S H (Stp.refl sm) rfl⟩) hg (by decide) (by decide) hs rfl
theorem e_all {bs : List Bool} (hm : X.mg "all" = none) (ha : EJ X B Γ O e (bL X.K (bs.map tB))) (hg : Gl X "all" := by rfl) (hc : X.calm = true := by rfl) (hs : starEach [e] X.env = (false, eval e X.env) :: starEach [] X.env := by rfl) : EJ X B Γ O (.Call (.Name "all" p) [e] [] pos) (bB (bs.all id)) :=
  e_callB (cr_all hc) hm (by decide +kernel) (a_cons ha a_nil hs) (fun S H vs sm r Q q => by
    obtain ⟨v, rfl, p, ws, rfl, h1, h2⟩ := r.one
    exact ⟨p, bs, rfl, bls_of h2 ▸ h1, q _ S H (Stp.refl sm) rfl⟩) hg (by decide) (by decide) hs rfl
/-! ### one's own list, an item written -/
theorem s_setix {i j : Nat} {q : Addr} {nm : Str} {R : MP} {Rs' : List MP} {O' : Om} {k : Int} {p1 p2 : Pos} {ix : Expr} (he : EJ X B Γ ((q, mL Rs) :: O') e R.b) (hi : EJ X B Γ ((q, mL Rs) :: O') ix (bI k)) (h : SJ X B Γ ((q, mL Rs') :: O') rest D)
    (hj : ixN Rs.length k = some j) (hR : Rs.set j R = Rs') (hG : Γ[i]? = some (some (tR q)) := by rfl) (hN : X.N[i]? = some nm := by rfl)
    (hv : Vis X.env.scope nm := by first | exact Or.inl rfl | exact Or.inr (Or.inl rfl) | exact Or.inr (Or.inr rfl)) (hd : (nm == ("__debug__" : Str)) = false := by decide) (hcd : (nm == ("__classdict__" : Str)) = false := by decide)
    (hs : swapsWithSole [.Subscript (.Name nm p1) ix p2] e pos.line X.env = pure false := by rfl) (hw : swappedStores [.Subscript (.Name nm p1) ix p2] e X.env = pure none := by rfl)
    (h1 : (assignEach [.Subscript (.Name nm p1) ix p2] X.env).map (·.2) = [assign (.Subscript (.Name nm p1) ix p2) X.env] := by rfl)
    (ha : ∀ v, assign (.Subscript (.Name nm p1) ix p2) X.env v = (do
      let ov ← holding [v] (eval (.Name nm p1) X.env)
      let iv ← holding [v, ov] (eval ix X.env)
      standAt p2
      holding [v, ov, iv] (setItem ov iv v)
      release [v, ov, iv] []) := by intro _; rfl) : SJ X B Γ ((q, mL Rs) :: O') (.Assign [.Subscript (.Name nm p1) ix p2] e pos :: rest) D :=
  SJ.cons fun S H σ st => ⟨_, ps_asg pe_w (pg_sub (pe_var hN hv hd hcd) pe_w set_list ha) hs hw h1, he S H σ st _ fun v S1 H1 s1 r1 => by
    have t := st.step s1
    obtain ⟨w, h1, h2⟩ := t.slot i _ hG
    cases h2
    refine ⟨_, h1, hi S1 H1 σ t _ fun u S2 H2 s2 r2 => ?_⟩
    cases r2
    have t2 := t.step s2
    obtain ⟨_, _, o, h3, vs, rfl, h4⟩ := t2.own _ List.mem_cons_self
    refine ⟨q, vs, k, j, rfl, rfl, h3, by rw [h4.length]; exact hj, h S2 _ σ (t2.mut ⟨_, rfl, ?_⟩)⟩
    rw [← hR]
    exact h4.set j (R.up s2.s r1)⟩
end
/-! ### a def to which a list is lent to be changed -/
structure Stm (p : Addr) (M : MO) (S H S' H' : Hp) : Prop where
  s : Same S S'
  i : Same S' H'
  h : ∀ a o, a ≠ p → H a = some o → H' a = some o
  fr : ∀ a, S a = none → H a ≠ none → S' a = none
  o : ∃ o, H' p = some o ∧ M.R S' o
/-- the first argument is changed within M; what comes out is drawn by ι -/
def spM {D ι : Type} (M : MO) (As : D → List BP) (Pm : D → ι → Prop) (Rm : D → ι → MP) : Sp := fun vs H Q _ => ∃ d p S ws, vs = .ref p :: ws ∧ Same S H ∧ S p = none ∧ (∃ o, H p = some o ∧ M.R S o) ∧ AllR (As d) S (del H p) ws ∧
  ∀ i v S' H', Pm d i → Stm p M S H S' H' → (Rm d i).R S' v → Q v H'
section
variable {P : Program} {w : World} {K : PySem.W.Frag} {mg : Str → Option Value} {base : Heap} {k : Nat} {ps : List Str}
theorem defM_ok {D ι : Type} {M : MO} {As : D → List BP} {Pm : D → ι → Prop} {Rm : D → ι → MP} {N : List Str} {x q self : Str} {s : Stmt} {f : Addr} {fd : FuncData} (F : FnS K x q s f fd) (Sc : FnScope N (self :: ps) (defScope s)) (Gs : D → Addr → Hp → Gm)
    (hb : ∀ (cdv : Value) (A : Around) (outer : List Env) (s' : Shared) (H0 H S : Hp) (Q : VK) (E : XK) (d : D) (p : Addr), Room k (A.deeper (envOfC q (defScope s) s'.heap.objs.size f cdv)) → N.Nodup → (∀ i v S' H' σ Γ, Pm d i → Stt ⟨S, H, .yes⟩ Γ [(p, M)] S' H' σ → (Rm d i).R S' v → Q v H') →
      SJ (cxOf (L2.CX P w) P w K mg base N q (defScope s) f cdv A outer s' H0 E) ⟨S, H, .yes⟩ (Gs d p H) [(p, M)] (defBody s) { nx := fun _ H' => Q .non H', rt := Q })
    (hl : ∀ d, (As d).length = ps.length := by intro _; rfl) (hG : ∀ d p H, some (tR p) :: gm0 N.tail (As d) H = Gs d p H := by intro _ _ _; rfl) : FnOk P w K mg base (L2.CX P w) (k + 1) f fd (self :: ps) (spM M As Pm Rm) := by
  refine F.ok Sc (fun vs H Q E h => ?_) (fun cdv A outer s H vs Q E hr h => ?_)
  · obtain ⟨d, p, S, ws, rfl, _, _, _, r, _⟩ := h
    rw [List.length_cons, r.length, hl, List.length_cons]
  · obtain ⟨d, p, S, ws, rfl, sm, sp, ⟨o, ho, hm⟩, r, q⟩ := h
    have sm' : Same S (del H p) := fun a u e => by
      rw [del_ne (fun z => by subst z; rw [sp] at e; cases e)]
      exact sm a u e
    have t := stt0 (N := N.tail) sm' r
    have dl : Same (del H p) H := fun a u e => by
      by_cases z : a = p
      · subst z; rw [del_same] at e; cases e
      · rw [del_ne z] at e; exact e
    refine hb cdv A outer s H (del H p) S Q E d p hr Sc.nd (fun i v S' H' σ Γ hp t' hv => q i v S' H' hp ?_ hv) S H _ ?_
    · obtain ⟨g1, g2, o', g3, g4⟩ := t'.own _ List.mem_cons_self
      refine ⟨t'.st.s, t'.st.i, fun a u ne e => t'.st.h a u (by show del H p a = _; rw [del_ne ne]; exact e), fun a e1 e2 => ?_, o', g3, g4⟩
      by_cases z : a = p
      · rw [z]; exact g1
      · exact t'.st.fr a e1 (by show del H p a ≠ none; rw [del_ne z]; exact e2)
    · rw [← hG]
      have eN : N = self :: N.tail := by
        have := Sc.pre
        cases N with
        | nil => cases this
        | cons a N => rw [List.length_cons, List.take_succ_cons] at this; rw [(List.cons.inj this).1]; rfl
      have es : start N (.ref p :: ws) = some (.ref p) :: start N.tail ws := by
        rw [eN]
        unfold L2.start
        rw [List.map_cons, List.length_cons, List.length_cons, Nat.add_sub_add_right, List.cons_append]
        rfl
      rw [es]
      refine ⟨⟨Same.refl _, sm, dl, fun a e1 _ => e1⟩, fun i R e => ?_, congrArg Nat.succ t.len, fun z hz => ?_, by show [p].Nodup; simp, trivial⟩
      · cases i with
        | zero =>
          have e2 : tR p = R := Option.some.inj (Option.some.inj e)
          subst e2
          exact ⟨_, rfl, rfl⟩
        | succ i => exact t.slot i R e
      · rcases List.mem_cons.mp hz with z1 | hz
        · subst z1
          exact ⟨sp, del_same, o, ho, hm⟩
        · cases hz
end
section
variable {X : Cx} {B : Bs} {Γ : Gm} {O : Om} {e a b c o l : Expr} {es : List Expr} {p pos pos' apos p1 : Pos} {D : Ends} {rest body els : List Stmt} {x nm : Str} {k : Nat} {ps : List Str} {W : WX} {Ix ι : Type} {M : MO} {As : Ix → List BP} {Pm : Ix → ι → Prop} {Rm : Ix → ι → MP}
/-- f(own, e, ..): own is changed -/
theorem m_call {i : Nat} {q : Addr} {Rs : List MP} (F : GF X.prog X.w X.K X.mg X.base x k ps (spM M As Pm Rm)) (hr : Room k X.A) (tk : Takes X W) (d : Ix) (ha : AJ X B Γ O es (Rs.map MP.b)) (hO : (q, M) ∈ O) (hA : As d = Rs.map MP.b := by rfl) (hG : Γ[i]? = some (some (tR q)) := by rfl) (hN : X.N[i]? = some nm := by rfl)
    (hv : Vis X.env.scope nm := by first | exact Or.inl rfl | exact Or.inr (Or.inl rfl) | exact Or.inr (Or.inr rfl)) (hd : (nm == ("__debug__" : Str)) = false := by decide) (hcd : (nm == ("__classdict__" : Str)) = false := by decide)
    (hg : Gl X x := by rfl) (hdb : (x == ("__debug__" : Str)) = false := by decide) (he : starEach (.Name nm p1 :: es) X.env = (false, eval (.Name nm p1) X.env) :: starEach es X.env := by rfl) (hpl : (backTo pos (starEach es X.env)).any (·.1) = false := by rfl) : EM X B Γ O (.Call (.Name x p) (.Name nm p1 :: es) [] pos) (Pm d) (Rm d) := by
  obtain ⟨f, fd, F, hm, hk, hb⟩ := F
  refine fun S H σ st Q qq => ⟨_, pe_callSD F hr hg hm hk hb .nil (fun σ => passAt tk σ) (pa_cons (pe_var hN hv hd hcd) pa_w he) hdb he hpl, ?_⟩
  obtain ⟨v, h1, h2⟩ := st.slot i _ hG
  cases h2
  refine ⟨_, h1, ha S H σ st _ fun vs S1 H1 s1 r1 => ?_⟩
  have t := st.step s1
  obtain ⟨g1, g2, o, g3, g4⟩ := t.own _ hO
  have r2 : AllR (As d) S1 (del H1 q) vs := by
    rw [hA]
    have key : ∀ {Rs : List MP} {vs : List V}, AllR (Rs.map MP.b) S1 H1 vs → AllR (Rs.map MP.b) S1 (del H1 q) vs := by
      intro Rs
      induction Rs with
      | nil => intro vs h; cases vs with
        | nil => exact trivial
        | cons _ _ => exact h.elim
      | cons R Rs ih => intro vs h; cases vs with
        | nil => exact h.elim
        | cons v vs => exact ⟨h.1, ih h.2⟩
    exact key r1
  refine ⟨d, q, S1, vs, by rw [List.append_nil], s1.i, g1, ⟨o, g3, g4⟩, r2, fun j v S2 H2 hp sm hv => qq j v S2 H2 hp ?_ (s1.s.trans sm.s) hv⟩
  refine ⟨⟨t.st.s.trans sm.s, sm.i, fun a u z => ?_, fun a z1 z2 => ?_⟩, fun i R e => ?_, t.len, fun z hz => ?_, t.nd, B.P.up sm.s t.gh⟩
  · have ne : a ≠ q := fun y => by subst y; rw [g2] at z; cases z
    exact sm.h a u ne (t.st.h a u z)
  · refine sm.fr a (t.st.fr a z1 z2) fun y => ?_
    cases e : B.H a with
    | none => exact z2 e
    | some u => rw [t.st.h a u e] at y; cases y
  · obtain ⟨v, h1, h2⟩ := t.slot i R e
    exact ⟨v, h1, R.up sm.s h2⟩
  · obtain ⟨f1, f2, u, f3, f4⟩ := t.own z hz
    by_cases y : z.1 = q
    · have e1 : z = (q, M) := by
        have hn := t.nd
        have key : ∀ {O : Om}, (O.map (·.1)).Nodup → ∀ {a b : Addr × MO}, a ∈ O → b ∈ O → a.1 = b.1 → a = b := by
          intro O
          induction O with
          | nil => intro _ a b ha; cases ha
          | cons c O ih =>
            intro hn a b ha hb e
            rw [List.map_cons] at hn
            obtain ⟨hn1, hn2⟩ := List.nodup_cons.mp hn
            rcases List.mem_cons.mp ha with ha' | ha'
            · rcases List.mem_cons.mp hb with hb' | hb'
              · rw [ha', hb']
              · exact absurd (List.mem_map.mpr ⟨b, hb', by rw [← e, ha']⟩) hn1
            · rcases List.mem_cons.mp hb with hb' | hb'
              · exact absurd (List.mem_map.mpr ⟨a, ha', by rw [e, hb']⟩) hn1
              · exact ih hn2 ha' hb' e
        exact key hn hz hO y
      subst e1
      obtain ⟨o', e3, e4⟩ := sm.o
      exact ⟨sm.fr _ f1 (by rw [f3]; simp), f2, o', e3, e4⟩
    · exact ⟨sm.fr _ f1 (by rw [f3]; simp), f2, u, sm.h _ _ y f3, z.2.up sm.s f4⟩
/-- open what is told of an object of one's own -/
theorem SJ.openO {ι : Type} {M : MO} {Ms : ι → MO} {q : Addr} (hM : ∀ S o, M.R S o → ∃ i, (Ms i).R S o) (h : ∀ i, SJ X B Γ ((q, Ms i) :: O) body D) : SJ X B Γ ((q, M) :: O) body D := fun S H σ t => by
  obtain ⟨g1, g2, o, g3, g4⟩ := t.own _ List.mem_cons_self
  obtain ⟨i, hi⟩ := hM S o g4
  refine h i S H σ ⟨t.st, t.slot, t.len, fun z hz => ?_, t.nd, t.gh⟩
  rcases List.mem_cons.mp hz with e | hz
  · subst e; exact ⟨g1, g2, o, g3, hi⟩
  · exact t.own z (List.mem_cons_of_mem _ hz)
theorem Stt.closeO {M M' : MO} {q : Addr} {S H : Hp} {σ : L2.St} (t : Stt B Γ ((q, M) :: O) S H σ) (hM : ∀ S o, M.R S o → M'.R S o) : Stt B Γ ((q, M') :: O) S H σ := by
  refine ⟨t.st, t.slot, t.len, fun z hz => ?_, t.nd, t.gh⟩
  rcases List.mem_cons.mp hz with e | hz
  · subst e
    obtain ⟨g1, g2, o, g3, g4⟩ := t.own _ List.mem_cons_self
    exact ⟨g1, g2, o, g3, hM _ _ g4⟩
  · exact t.own z (List.mem_cons_of_mem _ hz)
end
end OT
/-! bool(o) of an own class; o == a plain value. -/
namespace OT
open PySem PySem.Spec PyProof.Rows L2 NdefX
section
variable {X : Cx} {CX : CXT} {k n : Nat} {f C : Addr} {fd : FuncData} {ps : List Str} {sp : Sp} {E : XK}
/-- the callee, somewhere below -/
theorem run_sub {A : Around} {pins : List (Addr × Obj)} {σ : L2.St} {H : Hp} {s : Shared} {Q : VK} {us : List Value} {vs : List V} (F : FnOk X.prog X.w X.K X.mg X.base CX k f fd ps sp) (sb : Sub X k A) (hb : Binds X.K fd ps []) (hx : Passes CX X E)
    (I : Inv X pins σ H s) (r : Vals vs us) (h : sp vs H Q E) : wpAny (model X.prog X.w) A (call (.ref f) us) (EP X pins σ Q) X.xe s := by
  have e0 : Env0 X.prog X.w X.K X.mg X.base A X.stack s H := by
    have e := I.env0
    exact ⟨by rw [sb.fr]; exact e.frames, e.mod, e.bs, e.bsz, e.funs, e.frf, e.hok, e.bare⟩
  have hl : (us ++ []).length = ps.length := by rw [List.append_nil, ← r.length]; exact F.len _ _ _ _ h
  refine wpAny_call (codeAny_mono (F.run A X.stack s H ⟨us, []⟩ us vs Q E sb.room e0 (by have := hb s us I.kIn hl; rw [List.append_nil] at this; exact this) r h) fun r s' hq => ?_)
  cases r with
  | error e => exact hx pins σ H s e s' I hq
  | ok fl =>
    cases fl with
    | ret w => exact I.after hq
    | next => exact False.elim hq
    | brk => exact False.elim hq
    | cont => exact False.elim hq
theorem bool_new_in {P : Program} {w : World} (x : Value) : MeetsIn P w (Builtin.«bool.__new__» ⟨[.type "bool", x], []⟩) (fun A R s => wpAny (model P w) A.in1 (truthy x) (fun b s' => R (.ok (.ret (.bool b))) s') (fun e s' => R (.error e) s') s) := fun A R s h => by
  have f1 := F.conv_sub_bool
  obtain ⟨hp, g, d, tk, os⟩ := s
  unfold Builtin.«bool.__new__»
  repeat (any_goals (first | assumption | wp_step))
  exact wpAny_mono h (fun b s' q => wpAny_pure q) fun _ _ z => z
/-- bool(o) by __bool__ -/
theorem call_boolO (M : Meth X.K C "__bool__" f) (F : FnOk X.prog X.w X.K X.mg X.base CX k f fd ps sp) (hr : Room (k + 2) X.A) (hb : Binds X.K fd ps []) (hx : Passes CX X E) :
    CallR X (.type "bool") (fun xs H Q => ∃ a dx fs, xs = [.ref a] ∧ H a = some (.ins C dx fs) ∧ sp xs H (fun v H' => ∃ b, v = .bl b ∧ Q (.bl b) H') E) := by
  intro pins s σ H xs us Q I r h
  obtain ⟨a, dx, fs, rfl, ha, hs⟩ := h
  obtain ⟨u, rfl, r1⟩ := vals1 r
  cases r1
  obtain ⟨mA, J, _⟩ := ins_get I.hok ha
  obtain ⟨od, J, _⟩ := J.look
  obtain ⟨m, hF⟩ := I.fr
  refine callType_newIn PySem.F.called_bool PySem.F.newNe_bool (PySem.F.typeCall_bool_1 _) (PySem.F.newCall_bool_1 _) (fun obj => PySem.F.args_object_init_2 obj _) PySem.F.entry_bool_new (bool_new_in _) ?_
  refine PySem.W.truthy_K hF I.ok.mod.kin J M.at_ M.fn ?_
  have sb : Sub X k X.A.in1.in1 := Sub.in1 (Sub.in1 ⟨hr, rfl⟩)
  exact thn (run_sub (vs := [V.ref a]) F sb hb hx I (.cons rfl .nil) hs) fun w s' hw => by
    obtain ⟨z, H', I', rz, b, rfl, q⟩ := hw
    cases rz
    exact ⟨rfl, .bl b, H', I', rfl, q⟩
/-- o == v, v a plain value -/
def flatTy : V → Option String
  | .non => some "NoneType"
  | .bl _ => some "bool"
  | .int _ => some "int"
  | .str _ => some "str"
  | _ => none
theorem flatTy_looks {M : Model} {h : Heap} {y : V} {v : Value} {T : String} (r : RelV y v) (e : flatTy y = some T) : PySem.W.Looks M h (typeOf v) (.type T) := by
  cases y with
  | non => cases r; cases e; exact .now
  | bl b => cases r; cases e; exact .now
  | int i => obtain ⟨t, rfl⟩ := r; cases e; exact .now
  | str i => obtain ⟨t, rfl⟩ := r; cases e; exact .now
  | byt _ => cases e
  | flt _ => cases e
  | ref _ => cases e
  | ty _ => cases e
theorem eq_ownV (M : Meth X.K C "__eq__" f) (F : FnOk X.prog X.w X.K X.mg X.base CX k f fd ps sp) (hr : Room k X.A) (hb : Binds X.K fd ps []) (hx : Passes CX X E) {T : String} (hn : PySem.W.notFirst X.K C (.type T) = true) :
    OpR X (compareOp .Eq) (fun x y H Q => ∃ a dx fs, x = .ref a ∧ flatTy y = some T ∧ H a = some (.ins C dx fs) ∧ sp [x, y] H (fun v H' => ∃ b, v = .bl b ∧ Q (.bl b) H') E) := by
  intro pins s σ H x y v u Q I rx ry h
  obtain ⟨a, dx, fs, rfl, ht, ha, hs⟩ := h
  cases rx
  obtain ⟨mA, J, _⟩ := ins_get I.hok ha
  obtain ⟨od, J, _⟩ := J.look
  obtain ⟨m, hF⟩ := I.fr
  show wpAny _ _ (richCompare .Eq (.ref a) u) _ _ _
  refine PySem.W.cmp_K (op := .Eq) (tb := .type T) hr.units0 hF I.ok.mod.kin J (flatTy_looks ry ht) hn M.at_ M.fn ?_
  exact thn (run_own (vs := [V.ref a, y]) F hr hb hx I (.cons rfl (.cons ry .nil)) hs) fun w s' hw => by
    obtain ⟨z, H', I', rz, b, rfl, q⟩ := hw
    cases rz
    exact ⟨.bl b, H', I', rfl, q⟩
end
section
variable {X : Cx} {B : Bs} {Γ : Gm} {O : Om} {e a b c o : Expr} {es : List Expr} {p pos pos' apos : Pos} {R R' : BP} {Ds : Ends} {rest body els : List Stmt} {x m f : Str} {C : Addr} {k : Nat} {ps : List Str} {W : WX} {D : Type} {As : D → List BP} {out : D → Out}
theorem e_cls {C : Addr} (hm : X.mg x = some (.ref C)) (hg : Gl X x := by rfl) (hd : (x == ("__debug__" : Str)) = false := by decide) : EJ X B Γ O (.Name x pos) (tR C).b := e_glob (v := .ref C) hm rfl hg hd
theorem e_boolO {Ra : List (Str × MP)} {kk : Bool} (hm : X.mg "bool" = none) (F : GM X.prog X.w X.K X.mg X.base C "__bool__" k ps (spD As out)) (hr : Room (k + 2) X.A) (d : D) (ha : EJ X B Γ O e (tO C Ra).b)
    (hA : As d = [(tO C Ra).b] := by rfl) (ho : out d = .val (tB kk) := by rfl) (hg : Gl X "bool" := by rfl) (hs : starEach [e] X.env = (false, eval e X.env) :: starEach [] X.env := by rfl) : EJ X B Γ O (.Call (.Name "bool" p) [e] [] pos) (bB kk) := by
  obtain ⟨f, fd, F, M, hb'⟩ := F
  refine e_callTy (call_boolO M F hr hb' pass_none) hm (by decide +kernel) (a_cons ha a_nil hs) (fun S H vs sm r Q q => ?_) hg (by decide) (by decide) hs rfl
  obtain ⟨v, rfl, h1⟩ := r.one
  obtain ⟨p, dx, fs, rfl, hp⟩ := tO.at_ h1 sm
  refine ⟨p, dx, fs, rfl, hp, d, S, sm, by rw [hA]; exact ⟨h1, trivial⟩, ?_⟩
  rw [ho]
  exact fun v S' H' s rr => ⟨kk, rr, q _ S' H' s rfl⟩
theorem e_owneqV {Ra : List (Str × MP)} {kk : Bool} {y : V} {T : String} (F : GM X.prog X.w X.K X.mg X.base C "__eq__" k ps (spD As out)) (hr : Room k X.A) (d : D) (hn : PySem.W.notFirst X.K C (.type T) = true) (ha : EJ X B Γ O a (tO C Ra).b) (hb : EJ X B Γ O b (tV y).b) (ht : flatTy y = some T := by rfl)
    (hA : As d = [(tO C Ra).b, (tV y).b] := by rfl) (ho : out d = .val (tB kk) := by rfl) : EJ X B Γ O (.Compare a [.Eq] [b] pos) (bB kk) := by
  obtain ⟨f, fd, F, M, hb'⟩ := F
  refine e_cmp2 (eq_ownV M F hr hb' pass_none hn) ha hb (nomark _) fun S H x z sm h1 h2 Q q => ?_
  obtain ⟨p, dx, fs, rfl, hp⟩ := tO.at_ h1 sm
  have h2' : z = y := h2
  subst h2'
  refine ⟨p, dx, fs, rfl, ht, hp, d, S, sm, by rw [hA]; exact ⟨h1, h2, trivial⟩, ?_⟩
  rw [ho]
  exact fun v S' H' s rr => ⟨kk, rr, q _ S' H' s rfl⟩
end
end OT
/-! Numbers: gcd by remainders, lowest terms, sizes. -/
namespace OT
open PySem
open PySem.Builtin.Int (intBits)
theorem abs_ite (i : Int) : (if i < 0 then -i else i) = (i.natAbs : Int) := by split <;> omega
theorem fmod_nat (x y : Nat) : (x : Int).fmod (y : Int) = ((x % y : Nat) : Int) := by
  rw [Int.fmod_eq_emod_of_nonneg _ (Int.natCast_nonneg y)]
  exact (Int.natCast_emod x y).symm
theorem gcd_step (x y : Nat) : Nat.gcd y (x % y) = Nat.gcd x y := by
  rw [Nat.gcd_comm y, ← Nat.gcd_rec, Nat.gcd_comm]
theorem log2_lt_of_bits {i : Int} {n : Nat} (h : intBits i ≤ n) (hn : 0 < n) : i.natAbs.log2 < n := by
  unfold Builtin.Int.intBits at h
  by_cases hi : i = 0
  · subst hi; simpa using hn
  · rw [if_neg (by simpa using hi)] at h; omega
/-- the divisor of lowest terms -/
def gs (a b : Int) : Int := if b < 0 then -(Int.gcd a b : Int) else Int.gcd a b
theorem gcd_pos {a b : Int} (hb : b ≠ 0) : 0 < Int.gcd a b := Int.gcd_pos_of_ne_zero_right a hb
theorem gs_ne {a b : Int} (hb : b ≠ 0) : gs a b ≠ 0 := by
  have := gcd_pos (a := a) hb
  unfold gs
  split <;> omega
theorem gs_dvd_l (a b : Int) : gs a b ∣ a := by
  unfold gs
  split
  · exact Int.neg_dvd.mpr (Int.gcd_dvd_left _ _)
  · exact Int.gcd_dvd_left _ _
theorem gs_dvd_r (a b : Int) : gs a b ∣ b := by
  unfold gs
  split
  · exact Int.neg_dvd.mpr (Int.gcd_dvd_right _ _)
  · exact Int.gcd_dvd_right _ _
theorem top_ok {a b : Int} (hb : b ≠ 0) : a.fdiv (gs a b) = (Rat.divInt a b).num := by
  rw [Int.fdiv_eq_ediv_of_dvd (gs_dvd_l a b), Rat.num_divInt, Int.gcd_comm]
  unfold gs
  have g := Int.gcd_comm a b
  rcases Int.lt_trichotomy b 0 with h | h | h
  · rw [if_pos h, Int.sign_eq_neg_one_of_neg h, g, Int.ediv_neg, Int.neg_mul, Int.one_mul, Int.neg_ediv_of_dvd (Int.gcd_dvd_right b a)]
  · exact absurd h hb
  · rw [if_neg (by omega), Int.sign_eq_one_of_pos h, g, Int.one_mul]
theorem bot_ok {a b : Int} (hb : b ≠ 0) : b.fdiv (gs a b) = ((Rat.divInt a b).den : Int) := by
  rw [Int.fdiv_eq_ediv_of_dvd (gs_dvd_r a b), Rat.den_divInt, if_neg hb]
  unfold gs
  have g := Int.gcd_comm a b
  rcases Int.lt_trichotomy b 0 with h | h | h
  · rw [if_pos h, g, Int.ediv_neg, ← Int.neg_ediv_of_dvd (Int.gcd_dvd_left b a), Int.natCast_ediv]
    congr 1
    omega
  · exact absurd h hb
  · rw [if_neg (by omega), g, Int.natCast_ediv]
    congr 1
    omega
theorem bits_gs {a b : Int} {n : Nat} (hb : b ≠ 0) (h : intBits b ≤ n) : intBits (gs a b) ≤ n := by
  refine intBits_le_of_natAbs ?_ h
  have h2 : (gs a b).natAbs ∣ b.natAbs := Int.natAbs_dvd_natAbs.mpr (gs_dvd_r a b)
  exact Nat.le_of_dvd (by omega) h2
/-- a fraction whose two numbers have at most n bits -/
def Fit (n : Nat) (q : Rat) : Prop := intBits q.num ≤ n ∧ intBits (q.den : Int) ≤ n
theorem Fit.mono {n m : Nat} {q : Rat} (h : Fit n q) (hn : n ≤ m) : Fit m q := ⟨Nat.le_trans h.1 hn, Nat.le_trans h.2 hn⟩
theorem fit_divInt {a b : Int} {n : Nat} (hb : b ≠ 0) (h1 : intBits a ≤ n) (h2 : intBits b ≤ n) : Fit n (Rat.divInt a b) := by
  refine ⟨?_, ?_⟩
  · rw [← top_ok hb]; exact intBits_fdiv_le h1
  · rw [← bot_ok hb]; exact intBits_fdiv_le h2
theorem den_ne (q : Rat) : (q.den : Int) ≠ 0 := by have := q.den_pos; omega
theorem rat_add (q r : Rat) : Rat.divInt (q.num * r.den + r.num * q.den) (q.den * r.den) = q + r := by
  have := Rat.divInt_add_divInt q.num r.num (den_ne q) (den_ne r)
  rw [Rat.num_divInt_den, Rat.num_divInt_den] at this
  exact this.symm
theorem rat_sub (q r : Rat) : Rat.divInt (q.num * r.den - r.num * q.den) (q.den * r.den) = q - r := by
  have := Rat.divInt_sub_divInt q.num r.num (den_ne q) (den_ne r)
  rw [Rat.num_divInt_den, Rat.num_divInt_den] at this
  exact this.symm
theorem rat_mul (q r : Rat) : Rat.divInt (q.num * r.num) (q.den * r.den) = q * r := by
  have := Rat.divInt_mul_divInt q.num r.num (d₁ := q.den) (d₂ := r.den)
  rw [Rat.num_divInt_den, Rat.num_divInt_den] at this
  exact this.symm
theorem rat_div (q r : Rat) : Rat.divInt (q.num * r.den) (q.den * r.num) = q / r := by
  have := Rat.divInt_mul_divInt q.num r.den (d₁ := q.den) (d₂ := r.num)
  rw [Rat.num_divInt_den, ← Rat.inv_divInt, Rat.num_divInt_den, ← Rat.div_def] at this
  exact this.symm
theorem rat_neg (q : Rat) : Rat.divInt (-q.num) q.den = -q := by
  have := Rat.neg_divInt q.num q.den
  rw [Rat.num_divInt_den] at this
  exact this.symm
theorem den_mul_ne (q r : Rat) : (q.den : Int) * r.den ≠ 0 := Int.mul_ne_zero (den_ne q) (den_ne r)
theorem Fit.add {n m : Nat} {q r : Rat} (h : Fit n q) (g : Fit m r) : Fit (n + m + 1) (q + r) := by
  rw [← rat_add]
  refine fit_divInt (den_mul_ne q r) (Nat.le_trans (intBits_add_le (intBits_mul_le h.1 g.2) (intBits_mul_le g.1 h.2)) ?_) (Nat.le_trans (intBits_mul_le h.2 g.2) ?_) <;> omega
theorem Fit.sub {n m : Nat} {q r : Rat} (h : Fit n q) (g : Fit m r) : Fit (n + m + 1) (q - r) := by
  rw [← rat_sub]
  refine fit_divInt (den_mul_ne q r) (Nat.le_trans (intBits_sub_le (intBits_mul_le h.1 g.2) (intBits_mul_le g.1 h.2)) ?_) (Nat.le_trans (intBits_mul_le h.2 g.2) ?_) <;> omega
theorem Fit.mul {n m : Nat} {q r : Rat} (h : Fit n q) (g : Fit m r) : Fit (n + m) (q * r) := by
  rw [← rat_mul]
  exact fit_divInt (den_mul_ne q r) (intBits_mul_le h.1 g.1) (intBits_mul_le h.2 g.2)
theorem Fit.neg {n : Nat} {q : Rat} (h : Fit n q) : Fit n (-q) := by
  rw [← rat_neg]
  exact fit_divInt (den_ne q) (intBits_neg_le h.1) h.2
theorem fit_int {n : Nat} {i : Int} (h : intBits i ≤ n) (hn : 0 < n) : Fit n (i : Rat) := by
  have e1 : ((i : Rat)).num = i := Rat.num_intCast i
  have e2 : ((i : Rat)).den = 1 := Rat.den_intCast i
  refine ⟨by rw [e1]; exact h, ?_⟩
  rw [e2]
  show intBits 1 ≤ n
  have : intBits 1 = 1 := by decide
  omega
theorem mulOk {a b : Int} {m n : Nat} (ha : intBits a ≤ m) (hb : intBits b ≤ n) (h : m + n ≤ 134217728 := by omega) : IntMulOk a b := IntMulOk.of_le ha hb h
theorem rat_ext {q r : Rat} (h1 : q.num = r.num) (h2 : q.den = r.den) : q = r := Rat.ext h1 h2
end OT
/-! More rules for the laws' own functions. -/
namespace OT
open PySem PySem.Spec PyProof.Rows L2 NdefX
section
variable {X : Cx} {B : Bs} {Γ : Gm} {O O' : Om} {e a b c o l : Expr} {es : List Expr} {p pos pos' apos : Pos} {R R' : BP} {D : Ends} {rest body els : List Stmt} {x m f : Str}
theorem s_retNew {M : MO} (he : NJ X B Γ O e M) (h : ∀ p o S H, Stp B.S B.H S H → B.H p = none → S p = none → H p = some o → M.R S o → D.rt (.ref p) H) : SJ X B Γ O (.Return (some e) pos :: rest) D :=
  SJ.cons fun S H σ st => ⟨_, ps_ret pe_w, he S H σ st _ fun p o S1 H1 s1 n1 n2 h1 h2 => h p o S1 H1 (st.st.trans s1) (st.st.h.free n1) n2 h1 h2⟩
theorem NJ.imp {M M' : MO} (h : NJ X B Γ O e M) (i : ∀ S o, M.R S o → M'.R S o) : NJ X B Γ O e M' := fun S H σ st Q q => h S H σ st Q fun p o S1 H1 s1 n1 n2 h1 h2 => q p o S1 H1 s1 n1 n2 h1 (i _ _ h2)
theorem Stt.sub_ {S H : Hp} {σ : L2.St} (t : Stt B Γ O S H σ) (h : ∀ q ∈ O', q ∈ O) (hn : (O'.map (·.1)).Nodup) : Stt B Γ O' S H σ := ⟨t.st, t.slot, t.len, fun q hq => t.own q (h q hq), hn, t.gh⟩
theorem SJ.perm (h : SJ X B Γ O' body D) (hp : O.Perm O') : SJ X B Γ O body D := fun S H σ t => h S H σ (t.sub_ (fun q hq => hp.mem_iff.mpr hq) ((hp.map (·.1)).nodup_iff.mp t.nd))
theorem SJ.swap {u v : Addr × MO} (h : SJ X B Γ (v :: u :: O) body D) : SJ X B Γ (u :: v :: O) body D := h.perm (List.Perm.swap _ _ _)
theorem SJ.drop {u : Addr × MO} (h : SJ X B Γ O body D) : SJ X B Γ (u :: O) body D := fun S H σ t => h S H σ (t.drop (List.sublist_cons_self _ _))
theorem s_at {β : Type} {Gs : β → Gm} {Os : β → Om} {P : β → Prop} (s : β) (hp : P s) (g : Gle (Gs s) Γ) (ho : O = Os s := by rfl) (hD : D.nx = At B Gs Os P := by rfl) : SJ X B Γ O [] D := s_nil (by rw [hD]; exact NX.at_ s hp g ho)
/-- a, b = f(..), g(..) of draws -/
theorem s_parM {i j : Nat} {x y : Str} {ι κ : Type} {P : ι → Prop} {Ra : ι → MP} {P2 : κ → Prop} {Rb : κ → MP} {px py pt : Pos} {kt k2 pt2} (ha : EM X B Γ O a P Ra) (hb : EM X B Γ O b P2 Rb) (h : ∀ u v, P u → P2 v → SJ X B ((Γ.set i (some (Ra u))).set j (some (Rb v))) O rest D)
    (hi : X.N[i]? = some x := by rfl) (hj : X.N[j]? = some y := by rfl) (hl : i < Γ.length := by exact Nat.le_of_ble_eq_true rfl) (hl2 : j < Γ.length := by exact Nat.le_of_ble_eq_true rfl) (hij : i ≠ j := by decide) (hN : X.N.Nodup := by assumption) (hc : X.calm = true := by rfl)
    (hx : X.env.scope.names.lookup x = some .local := by rfl) (hy : X.env.scope.names.lookup y = some .local := by rfl) (hs1 : starEach [a, b] X.env = (false, eval a X.env) :: starEach [b] X.env := by rfl) (hs2 : starEach [b] X.env = (false, eval b X.env) :: starEach [] X.env := by rfl)
    (hw : swappedStores [.Tuple [.Name x px, .Name y py] kt pt] (.Tuple [a, b] k2 pt2) X.env = pure (some [x, y]) := by rfl)
    (hs : swapsWithSole [.Tuple [.Name x px, .Name y py] kt pt] (.Tuple [a, b] k2 pt2) pos.line X.env = pure false := by rfl) : SJ X B Γ O (.Assign [.Tuple [.Name x px, .Name y py] kt pt] (.Tuple [a, b] k2 pt2) pos :: rest) D :=
  SJ.cons fun S H σ st => ⟨_, ps_par hc hN hi hj hij hx hy (pa_cons pe_w (pa_cons pe_w pa_nil hs2) hs1) hw hs, ha S H σ st _ fun u v S1 H1 hu t1 e1 r1 => hb S1 H1 σ t1 _ fun u2 v2 S2 H2 hu2 t2 e2 r2 => by
    refine ⟨v, v2, rfl, h u u2 hu hu2 S2 H2 _ ?_⟩
    exact ((t2.set ((Ra u).up e2 r1) hl).set r2 (by rw [List.length_set]; exact hl2))⟩
/-- at the end of a turn: some objects of one's own are let go -/
theorem s_atS {β : Type} {Gs : β → Gm} {Os : β → Om} {P : β → Prop} (s : β) (hp : P s) (g : Gle (Gs s) Γ) (ho : (Os s).Sublist O) (hD : D.nx = At B Gs Os P := by rfl) : SJ X B Γ O [] D := s_nil fun S H σ t => by
  rw [hD]
  exact ⟨s, S, hp, (t.le g).drop ho⟩
/-! ### comprehensions with checkable sides -/
def blkB (N : List Str) (sc scope : Scope) (own : List (Str × Nat)) : Bool :=
  decide (scope.kind = .function) && (scope.names.all (fun y => decide (scope.names.lookup y.1 = some y.2)) && (own.all (fun q => decide (N[q.2]? = some q.1)) &&
  (scope.names.all (fun y => !decide (y.2 = .free) || (decide (sc.names.lookup y.1 = some .cell) || decide (sc.names.lookup y.1 = some .free))) &&
  scope.names.all (fun y => !(decide (y.2 = .local) || decide (y.2 = .cell)) || (decide (y.1 ∈ own.map (·.1)) || !decide (y.1 ∈ N))))))
theorem blk_by {N : List Str} {sc scope : Scope} {own : List (Str × Nat)} (h : blkB N sc scope own = true) : BlkOk N sc scope own := by
  unfold blkB at h
  simp only [Bool.and_eq_true, decide_eq_true_eq, List.all_eq_true, Bool.or_eq_true, Bool.not_eq_true', decide_eq_false_iff_not] at h
  obtain ⟨h1, h2, h3, h4, h5⟩ := h
  refine ⟨h1, h2, h3, fun y hy e => (h4 y hy).resolve_left (fun z => z e), fun y hy e => ?_⟩
  rcases h5 y hy with z | z
  · exact absurd e (by
      rw [Bool.or_eq_false_iff, decide_eq_false_iff_not, decide_eq_false_iff_not] at z
      exact fun e => e.elim z.1 z.2)
  · exact z
def noneAt (G : Gm) (vs : List Nat) : Bool := vs.all fun v => match G[v]? with
  | some (some _) => false
  | _ => true
theorem noneAt_ok {G : Gm} {vs : List Nat} (h : noneAt G vs = true) : ∀ v ∈ vs, ∀ R, G[v]? ≠ some (some R) := fun v hv R e => by
  have := List.all_eq_true.mp h v hv
  rw [e] at this
  cases this
theorem n_comp {tg it elt : Expr} {ifs : List Expr} {scope : Scope} (own : List (Str × Nat)) {need : Om} {n : Nat} {item : Nat → MP} (k : Nat → Bool) (R : Nat → MP) (Γw : Gm) (hi : IJ X B Γ O tg it need n item) (hz : n ≤ 100000)
    (hb : ∀ (G : Gho) (M : Addr × MO) i, i < n → ∃ Γ' js, (∀ j ∈ js, j ∈ own.map (·.2)) ∧ BlkJ X scope (fun Y => GJ Y (B.add G) (M :: O) tg (item i) Γw Γ' js ∧ IfsJ Y (B.add G) Γ' (M :: O) ifs (k i) ∧ (k i = true → EJ Y (B.add G) Γ' (M :: O) elt (R i).b)))
    (hneed : ∀ q ∈ need, q ∈ O := by first | (intro q hq; cases hq; done) | (intro q hq; exact hq) | simp) (ok : blkB X.N X.env.scope scope own = true := by kernel_rfl) (hw : noneAt Γw (own.map (·.2)) = true := by rfl) (gl : Gle Γw Γ := by exact Gle.rfl') (hN : X.N.Nodup := by assumption) (hc : X.calm = true := by rfl) (hs : ∀ x, foldedSetIterable it X.env x = pure x := by intro _; rfl) :
    NJ X B Γ O (.ListComp elt [⟨tg, it, ifs, 0⟩] scope pos) (mL (picked k R n)) := n_lc k R Γw (blk_by ok) hi hb hneed hz (noneAt_ok hw) gl hN hc hs
theorem picked_all {R : Nat → MP} {n : Nat} : picked (fun _ => true) R n = (List.range n).map R := by
  unfold picked
  rw [List.filter_eq_self.mpr (fun _ _ => rfl)]
theorem picked_map {α : Type} (f : α → MP) (xs : List α) (d : α) : picked (fun _ => true) (fun i => f (xs.getD i d)) xs.length = xs.map f := by
  rw [picked_all]
  apply List.ext_getElem?
  intro i
  rcases Nat.lt_or_ge i xs.length with h | h
  · simp [h, List.getD]
  · simp [h]
theorem NJ.cast {M M' : MO} (h : NJ X B Γ O e M) (i : M = M') : NJ X B Γ O e M' := i ▸ h
theorem getD_lt {α : Type} {l : List α} {i : Nat} {d : α} (h : i < l.length) : l.getD i d = l[i] := by
  unfold List.getD
  rw [List.getElem?_eq_getElem h] <;> rfl
/-- nothing is let out -/
theorem tk_no {X : Cx} : Takes X (fun _ _ _ _ => False) := fun u s' ⟨a, B, sI, pins, σ, H, cls, d, e, I, nb, up, sky, na, os, ag, w⟩ => w.elim
/-! ### comparisons, as values and as tests -/
structure CJ (X : Cx) (B : Bs) (Γ : Gm) (O : Om) (ex : Expr) (k : Bool) : Prop where
  e : EJ X B Γ O ex (bB k)
  t : TJ X B Γ O ex k
theorem CJ.cast {k k' : Bool} (h : CJ X B Γ O e k) (i : k = k') : CJ X B Γ O e k' := i ▸ h
theorem c_cmp2 {op : CmpOp} {r : R2} {Ra Rb : BP} {k : Bool} (ho : OpR X (compareOp op) r) (ha : EJ X B Γ O a Ra) (hb : EJ X B Γ O b Rb) (hm : behindInMarks op b = false)
    (hr : ∀ S H x y, Same S H → Ra.R S H x → Rb.R S H y → ∀ Q : VK, (∀ v S' H', Stp S H S' H' → (bB k).R S' H' v → Q v H') → r x y H Q) : CJ X B Γ O (.Compare a [op] [b] pos) k :=
  ⟨e_cmp2 ho ha hb hm hr, t_cmp2 ho ha hb hm fun S H x y sm h1 h2 Q q => hr S H x y sm h1 h2 Q fun v S' H' s rv => by cases rv; exact q S' H' s⟩
section
variable {n : Nat} {kk : Bool} {R1 R2 : BP} {Rs : List MP} {C : Addr} {k : Nat} {ps : List Str} {Dt : Type} {As : Dt → List BP} {out : Dt → Out}
theorem c_eqM (h : RcM X .Eq n R1 R2 kk) (hr : Room n X.A) (ha : EJ X B Γ O a R1) (hb : EJ X B Γ O b R2) : CJ X B Γ O (.Compare a [.Eq] [b] pos) kk :=
  c_cmp2 (op_eqN hr) ha hb (nomark _) fun S H x y sm h1 h2 Q q => ⟨kk, h S H x y sm h1 h2, fun H' e => q _ S H' (Stp.ext sm e) rfl⟩
theorem c_neM (h : RcM X .NotEq n R1 R2 kk) (hr : Room n X.A) (ha : EJ X B Γ O a R1) (hb : EJ X B Γ O b R2) : CJ X B Γ O (.Compare a [.NotEq] [b] pos) kk :=
  c_cmp2 (op_neN hr) ha hb (nomark _) fun S H x y sm h1 h2 Q q => ⟨kk, h S H x y sm h1 h2, fun H' e => q _ S H' (Stp.ext sm e) rfl⟩
theorem c_inL (k : Nat → Bool) (h : ∀ i, i < Rs.length → EqM X n (nth Rs i).b R1 (k i)) (hr : Room (n + 1) X.A) (ha : EJ X B Γ O a R1) (hb : EJ X B Γ O b (bL X.K Rs)) (hmk : behindInMarks .In b = false := by rfl) : CJ X B Γ O (.Compare a [.In] [b] pos) ((List.range Rs.length).any k) :=
  c_cmp2 (op_inN hr) ha hb hmk fun S H x y sm h1 ⟨p, vs, e2, h2, h3⟩ Q q => ⟨p, vs, k, e2, h2, fun i z hz => h i (h3.nth hz).1 S H z x sm (h3.nth hz).2 h1, fun H' e => q _ S H' (Stp.ext sm e) (by rw [h3.length]; simp; rfl)⟩
theorem c_ninL (k : Nat → Bool) (h : ∀ i, i < Rs.length → EqM X n (nth Rs i).b R1 (k i)) (hr : Room (n + 1) X.A) (ha : EJ X B Γ O a R1) (hb : EJ X B Γ O b (bL X.K Rs)) (hmk : behindInMarks .NotIn b = false := by rfl) : CJ X B Γ O (.Compare a [.NotIn] [b] pos) (!(List.range Rs.length).any k) :=
  c_cmp2 (op_notInN hr) ha hb hmk fun S H x y sm h1 ⟨p, vs, e2, h2, h3⟩ Q q => ⟨p, vs, k, e2, h2, fun i z hz => h i (h3.nth hz).1 S H z x sm (h3.nth hz).2 h1, fun H' e => q _ S H' (Stp.ext sm e) (by rw [h3.length]; simp; rfl)⟩
theorem c_owneq {Ra Rb : List (Str × MP)} (F : GM X.prog X.w X.K X.mg X.base C "__eq__" k ps (spD As out)) (hr : Room k X.A) (d : Dt) (ha : EJ X B Γ O a (tO C Ra).b) (hb : EJ X B Γ O b (tO C Rb).b)
    (hA : As d = [(tO C Ra).b, (tO C Rb).b] := by rfl) (ho : out d = .val (tB kk) := by rfl) : CJ X B Γ O (.Compare a [.Eq] [b] pos) kk := by
  obtain ⟨f, fd, F, M, hb'⟩ := F
  refine c_cmp2 (eq_own M F hr hb' pass_none) ha hb (nomark _) fun S H x y sm h1 h2 Q q => ?_
  obtain ⟨p, dx, fs, rfl, hp⟩ := tO.at_ h1 sm
  obtain ⟨r, dy, gs, rfl, hq⟩ := tO.at_ h2 sm
  refine ⟨p, r, dx, dy, fs, gs, rfl, rfl, hp, hq, d, S, sm, by rw [hA]; exact ⟨h1, h2, trivial⟩, ?_⟩
  rw [ho]
  exact fun v S' H' s rr => ⟨kk, rr, q _ S' H' s rfl⟩
theorem c_ownne {Ra Rb : List (Str × MP)} (F : GM X.prog X.w X.K X.mg X.base C "__eq__" k ps (spD As out)) (hn : PySem.W.findIn X.K (.ref C) "__ne__" = some (some (.builtin "object.__ne__"))) (hob : PySem.W.mroIn X.K C (.type "object") = some true) (hr : Room (k + 1) X.A) (d : Dt) (ha : EJ X B Γ O a (tO C Ra).b) (hb : EJ X B Γ O b (tO C Rb).b)
    (hA : As d = [(tO C Ra).b, (tO C Rb).b] := by rfl) (ho : out d = .val (tB kk) := by rfl) : CJ X B Γ O (.Compare a [.NotEq] [b] pos) (!kk) := by
  obtain ⟨f, fd, F, M, hb'⟩ := F
  refine c_cmp2 (ne_own M hn hob F hr hb' pass_none) ha hb (nomark _) fun S H x y sm h1 h2 Q q => ?_
  obtain ⟨p, dx, fs, rfl, hp⟩ := tO.at_ h1 sm
  obtain ⟨r, dy, gs, rfl, hq⟩ := tO.at_ h2 sm
  refine ⟨p, r, dx, dy, fs, gs, rfl, rfl, hp, hq, d, S, sm, by rw [hA]; exact ⟨h1, h2, trivial⟩, ?_⟩
  rw [ho]
  exact fun v S' H' s rr => ⟨kk, rr, q _ S' H' s rfl⟩
theorem c_owneqV {Ra : List (Str × MP)} {y : V} {T : String} (F : GM X.prog X.w X.K X.mg X.base C "__eq__" k ps (spD As out)) (hr : Room k X.A) (d : Dt) (hn : PySem.W.notFirst X.K C (.type T) = true) (ha : EJ X B Γ O a (tO C Ra).b) (hb : EJ X B Γ O b (tV y).b) (ht : flatTy y = some T := by rfl)
    (hA : As d = [(tO C Ra).b, (tV y).b] := by rfl) (ho : out d = .val (tB kk) := by rfl) : CJ X B Γ O (.Compare a [.Eq] [b] pos) kk := by
  obtain ⟨f, fd, F, M, hb'⟩ := F
  refine c_cmp2 (eq_ownV M F hr hb' pass_none hn) ha hb (nomark _) fun S H x z sm h1 h2 Q q => ?_
  obtain ⟨p, dx, fs, rfl, hp⟩ := tO.at_ h1 sm
  have h2' : z = y := h2
  subst h2'
  refine ⟨p, dx, fs, rfl, ht, hp, d, S, sm, by rw [hA]; exact ⟨h1, h2, trivial⟩, ?_⟩
  rw [ho]
  exact fun v S' H' s rr => ⟨kk, rr, q _ S' H' s rfl⟩
end
end
end OT
namespace K11
open PySem PySem.Spec PyProof.Rows L2 OT
def top (i : Nat) : Stmt := PySem.Challenge.pw_onethrow_k11_ratios.main.body.getD i (.Pass ⟨0, 0, 0, 0⟩)
abbrev s_common : Stmt := top 6
abbrev s_is_integer : Stmt := top 7
abbrev s_Ratio_init : Stmt := inClass (top 8) 0
abbrev s_Ratio_add : Stmt := inClass (top 8) 3
abbrev s_Ratio_sub : Stmt := inClass (top 8) 4
abbrev s_Ratio_neg : Stmt := inClass (top 8) 5
abbrev s_Ratio_mul : Stmt := inClass (top 8) 6
abbrev s_Ratio_eq : Stmt := inClass (top 8) 7
abbrev s_Ratio_bool : Stmt := inClass (top 8) 8
abbrev s_Ratio_str : Stmt := inClass (top 8) 9
abbrev s_Ratio_quotient : Stmt := inClass (top 8) 10
abbrev s_Ratio_under : Stmt := inClass (top 8) 11
abbrev s_total : Stmt := top 9
abbrev s_greatest : Stmt := top 10
abbrev s_l_pool : Stmt := top 12
abbrev s_l_take : Stmt := top 13
abbrev s_l_cell : Stmt := top 14
abbrev s_l_common : Stmt := top 15
abbrev s_l_terms : Stmt := top 16
abbrev s_l_number : Stmt := top 17
abbrev s_l_is : Stmt := top 18
abbrev s_l_refused : Stmt := top 19
abbrev s_l_pair_fits : Stmt := top 20
abbrev s_l_list_fits : Stmt := top 21
abbrev s_law : Stmt := top 22
abbrev s_BadNumber_init : Stmt := inClass (top 2) 0
abbrev s_BadText_init : Stmt := inClass (top 3) 0
abbrev s_Ratio_whole : Stmt := inClass (top 8) 1
abbrev s_Ratio_read : Stmt := inClass (top 8) 2
def d_common : He.DefD := ⟨("common", none), "common", "common", defArgs s_common, defBody s_common, defScope s_common, [], []⟩
def d_is_integer : He.DefD := ⟨("is_integer", none), "is_integer", "is_integer", defArgs s_is_integer, defBody s_is_integer, defScope s_is_integer, [], []⟩
def d_Ratio_init : He.DefD := ⟨("Ratio", some "__init__"), "__init__", "Ratio.__init__", defArgs s_Ratio_init, defBody s_Ratio_init, defScope s_Ratio_init, [], []⟩
def d_Ratio_add : He.DefD := ⟨("Ratio", some "__add__"), "__add__", "Ratio.__add__", defArgs s_Ratio_add, defBody s_Ratio_add, defScope s_Ratio_add, [], []⟩
def d_Ratio_sub : He.DefD := ⟨("Ratio", some "__sub__"), "__sub__", "Ratio.__sub__", defArgs s_Ratio_sub, defBody s_Ratio_sub, defScope s_Ratio_sub, [], []⟩
def d_Ratio_neg : He.DefD := ⟨("Ratio", some "__neg__"), "__neg__", "Ratio.__neg__", defArgs s_Ratio_neg, defBody s_Ratio_neg, defScope s_Ratio_neg, [], []⟩
def d_Ratio_mul : He.DefD := ⟨("Ratio", some "__mul__"), "__mul__", "Ratio.__mul__", defArgs s_Ratio_mul, defBody s_Ratio_mul, defScope s_Ratio_mul, [], []⟩
def d_Ratio_eq : He.DefD := ⟨("Ratio", some "__eq__"), "__eq__", "Ratio.__eq__", defArgs s_Ratio_eq, defBody s_Ratio_eq, defScope s_Ratio_eq, [], []⟩
def d_Ratio_bool : He.DefD := ⟨("Ratio", some "__bool__"), "__bool__", "Ratio.__bool__", defArgs s_Ratio_bool, defBody s_Ratio_bool, defScope s_Ratio_bool, [], []⟩
def d_Ratio_str : He.DefD := ⟨("Ratio", some "__str__"), "__str__", "Ratio.__str__", defArgs s_Ratio_str, defBody s_Ratio_str, defScope s_Ratio_str, [], []⟩
def d_Ratio_quotient : He.DefD := ⟨("Ratio", some "quotient"), "quotient", "Ratio.quotient", defArgs s_Ratio_quotient, defBody s_Ratio_quotient, defScope s_Ratio_quotient, [], []⟩
def d_Ratio_under : He.DefD := ⟨("Ratio", some "under"), "under", "Ratio.under", defArgs s_Ratio_under, defBody s_Ratio_under, defScope s_Ratio_under, [], []⟩
def d_total : He.DefD := ⟨("total", none), "total", "total", defArgs s_total, defBody s_total, defScope s_total, [], []⟩
def d_greatest : He.DefD := ⟨("greatest", none), "greatest", "greatest", defArgs s_greatest, defBody s_greatest, defScope s_greatest, [], []⟩
def d_l_pool : He.DefD := ⟨("_law_pool", none), "_law_pool", "_law_pool", defArgs s_l_pool, defBody s_l_pool, defScope s_l_pool, [], []⟩
def d_l_take : He.DefD := ⟨("_law_take", none), "_law_take", "_law_take", defArgs s_l_take, defBody s_l_take, defScope s_l_take, [], []⟩
def d_l_cell : He.DefD := ⟨("_law_cell", none), "_law_cell", "_law_cell", defArgs s_l_cell, defBody s_l_cell, defScope s_l_cell, [], []⟩
def d_l_common : He.DefD := ⟨("_law_common", none), "_law_common", "_law_common", defArgs s_l_common, defBody s_l_common, defScope s_l_common, [], []⟩
def d_l_terms : He.DefD := ⟨("_law_terms", none), "_law_terms", "_law_terms", defArgs s_l_terms, defBody s_l_terms, defScope s_l_terms, [], []⟩
def d_l_number : He.DefD := ⟨("_law_number", none), "_law_number", "_law_number", defArgs s_l_number, defBody s_l_number, defScope s_l_number, [], []⟩
def d_l_is : He.DefD := ⟨("_law_is", none), "_law_is", "_law_is", defArgs s_l_is, defBody s_l_is, defScope s_l_is, [], []⟩
def d_l_refused : He.DefD := ⟨("_law_refused", none), "_law_refused", "_law_refused", defArgs s_l_refused, defBody s_l_refused, defScope s_l_refused, [], []⟩
def d_l_pair_fits : He.DefD := ⟨("_law_pair_fits", none), "_law_pair_fits", "_law_pair_fits", defArgs s_l_pair_fits, defBody s_l_pair_fits, defScope s_l_pair_fits, [], []⟩
def d_l_list_fits : He.DefD := ⟨("_law_list_fits", none), "_law_list_fits", "_law_list_fits", defArgs s_l_list_fits, defBody s_l_list_fits, defScope s_l_list_fits, [], []⟩
def d_law : He.DefD := ⟨("law", none), "law", "law", defArgs s_law, defBody s_law, defScope s_law, [], []⟩
def e_BadNumber : ErrD := ⟨"BadNumber", "BadNumber.__init__", defArgs s_BadNumber_init, defBody s_BadNumber_init, defScope s_BadNumber_init, ["n"]⟩
def e_BadText : ErrD := ⟨"BadText", "BadText.__init__", defArgs s_BadText_init, defBody s_BadText_init, defScope s_BadText_init, ["at"]⟩
def c_Ratio_whole : CmD := ⟨"Ratio", "whole", "Ratio.whole", defArgs s_Ratio_whole, defBody s_Ratio_whole, defScope s_Ratio_whole⟩
def c_Ratio_read : CmD := ⟨"Ratio", "read", "Ratio.read", defArgs s_Ratio_read, defBody s_Ratio_read, defScope s_Ratio_read⟩
def fn : List He.DefD := [d_common, d_is_integer, d_Ratio_init, d_Ratio_add, d_Ratio_sub, d_Ratio_neg, d_Ratio_mul, d_Ratio_eq, d_Ratio_bool, d_Ratio_str, d_Ratio_quotient, d_Ratio_under, d_total, d_greatest, d_l_pool, d_l_take, d_l_cell, d_l_common, d_l_terms, d_l_number, d_l_is, d_l_refused, d_l_pair_fits, d_l_list_fits, d_law]
def er : List ErrD := [e_BadNumber, e_BadText]
def cm : List CmD := [c_Ratio_whole, c_Ratio_read]
def fa : List He.Fa := [.glo "common",
  .glo "is_integer",
  .meth "Ratio" "__init__",
  .meth "Ratio" "__add__",
  .meth "Ratio" "__sub__",
  .meth "Ratio" "__neg__",
  .meth "Ratio" "__mul__",
  .meth "Ratio" "__eq__",
  .meth "Ratio" "__bool__",
  .meth "Ratio" "__str__",
  .meth "Ratio" "quotient",
  .meth "Ratio" "under",
  .glo "total",
  .glo "greatest",
  .glo "_law_pool",
  .glo "_law_take",
  .glo "_law_cell",
  .glo "_law_common",
  .glo "_law_terms",
  .glo "_law_number",
  .glo "_law_is",
  .glo "_law_refused",
  .glo "_law_pair_fits",
  .glo "_law_list_fits",
  .glo "law",
  .glo "Ratio",
  .cls "Ratio",
  .mkr "Ratio",
  .noat "Ratio" "top",
  .noat "Ratio" "bottom",
  .free "ValueError",
  .free "abs",
  .free "all",
  .free "any",
  .free "bool",
  .free "classmethod",
  .free "int",
  .free "isinstance",
  .free "len",
  .free "range",
  .free "str",
  .free "super",
  .int "MOST_DIGITS" 30,
  .exm "BadNumber" "BadNumber" true,
  .exm "BadNumber" "BadText" false,
  .exm "BadText" "BadNumber" false,
  .exm "BadText" "BadText" true]
def ex (K : PySem.W.Frag) : Bool := PySem.W.selfFirst K (He.ga K "Ratio") && (He.eqO (PySem.W.findIn K (.ref (He.ga K "Ratio")) "__ne__") (some (some (.builtin "object.__ne__"))) && (decide (PySem.W.mroIn K (He.ga K "Ratio") (.type "object") = some true) && (He.eqO (PySem.W.findIn K (.ref (He.ga K "Ratio")) "__class__") (some (some (.builtin "object.__class__"))) && (decide (PySem.W.kitOne K (.type "int") (.ref (He.ga K "Ratio")) = some false) && (PySem.W.notFirst K (He.ga K "Ratio") (.type "int") && (decide (PySem.W.kitOne K (.type "str") (.ref (He.ga K "Ratio")) = some false) && (PySem.W.notFirst K (He.ga K "Ratio") (.type "str") && (decide (PySem.W.kitOne K (.type "bool") (.ref (He.ga K "Ratio")) = some false) && (PySem.W.notFirst K (He.ga K "Ratio") (.type "bool") && (decide (PySem.W.kitOne K (.type "NoneType") (.ref (He.ga K "Ratio")) = some false) && (PySem.W.notFirst K (He.ga K "Ratio") (.type "NoneType") && (He.eqO (PySem.W.specialIn K (.builtin "object.__class__") "__get__") (some (some (.builtin "getset_descriptor.__get__"))) && (decide (PySem.W.takesIn K (.builtin "object.__class__") = some true))))))))))))))
abbrev R : PySem.W.OpenRow := PySem.W.OpenLaw.row PySem.Challenge.rw_onethrow_k11_ratios
abbrev hk : PySem.W.Hook := hookO 5 fa fn er cm ex
def ob (s : PySem.W.SharedT) : AlO := obsOG 5 fa fn er cm ex (HandSHeadRun.getT s)
theorem ob_eq (s : PySem.W.SharedT) : ob s = hk.obs s.abs := obsOG_eq (HandSHeadRun.getT_eq s)
def loose : List Str := ["ThrowError", "BadNumber", "BadText", "MOST_DIGITS", "common", "is_integer", "Ratio", "total", "greatest", "_law_pool", "_law_take", "_law_cell", "_law_common", "_law_terms", "_law_number", "_law_is", "_law_refused", "_law_pair_fits", "_law_list_fits"]
theorem run (w : World) : HandSHeadRun.RunEq R (PySem.W.view R.prog [22]) hk ob 60000 loose w := by
  intro os
  kernel_rfl
structure Ct (P : Program) (K : PySem.W.Frag) (mg : Str → Option Value) : Prop where
  s : SaysO fa fn er cm ex K
  g : ∃ h : Heap, K.In h ∧ h.Ns mainGlobals mg
  file : (P.main.file : Str) = "/claim/cut.py"
  top : (P.main.scope.names.lookup ("super" : Str)).isSome = false
section
variable {P : Program} {w : World} {K : PySem.W.Frag} {mg : Str → Option Value} {base : Heap}
theorem fd_common (c : Ct P K mg) : ∃ fd, FnS K "common" "common" s_common (He.ga K "common") fd := c.s.d.def_ 0 (d := d_common) rfl
theorem sc_common : FnScope ["a", "b", "first", "second"] ["a", "b"] (defScope s_common) := ⟨rfl, rfl, rfl, by decide +kernel, rfl, by decide +kernel, by decide +kernel⟩
theorem bd_common {fd} (F : FnS K "common" "common" s_common (He.ga K "common") fd) : Binds K fd ["a", "b"] [] := F.bindsN fun _ _ _ _ _ _ us hl => match us, hl with | [_, _], _ => rfl
theorem fd_is_integer (c : Ct P K mg) : ∃ fd, FnS K "is_integer" "is_integer" s_is_integer (He.ga K "is_integer") fd := c.s.d.def_ 1 (d := d_is_integer) rfl
theorem sc_is_integer : FnScope ["word", "digits", "sign"] ["word"] (defScope s_is_integer) := ⟨rfl, rfl, rfl, by decide +kernel, rfl, by decide +kernel, by decide +kernel⟩
theorem bd_is_integer {fd} (F : FnS K "is_integer" "is_integer" s_is_integer (He.ga K "is_integer") fd) : Binds K fd ["word"] [] := F.bindsN fun _ _ _ _ _ _ us hl => match us, hl with | [_], _ => rfl
theorem fd_Ratio_init (c : Ct P K mg) : ∃ fd, FnS K "__init__" "Ratio.__init__" s_Ratio_init (He.ma K (He.ga K "Ratio") "__init__") fd := c.s.d.def_ 2 (d := d_Ratio_init) rfl
theorem sc_Ratio_init : FnScope ["self", "top", "bottom", "divisor"] ["self", "top", "bottom"] (defScope s_Ratio_init) := ⟨rfl, rfl, rfl, by decide +kernel, rfl, by decide +kernel, by decide +kernel⟩
theorem bd_Ratio_init {fd} (F : FnS K "__init__" "Ratio.__init__" s_Ratio_init (He.ma K (He.ga K "Ratio") "__init__") fd) : Binds K fd ["self", "top", "bottom"] [] := F.bindsN fun _ _ _ _ _ _ us hl => match us, hl with | [_, _, _], _ => rfl
theorem fd_Ratio_add (c : Ct P K mg) : ∃ fd, FnS K "__add__" "Ratio.__add__" s_Ratio_add (He.ma K (He.ga K "Ratio") "__add__") fd := c.s.d.def_ 3 (d := d_Ratio_add) rfl
theorem sc_Ratio_add : FnScope ["self", "other"] ["self", "other"] (defScope s_Ratio_add) := ⟨rfl, rfl, rfl, by decide +kernel, rfl, by decide +kernel, by decide +kernel⟩
theorem bd_Ratio_add {fd} (F : FnS K "__add__" "Ratio.__add__" s_Ratio_add (He.ma K (He.ga K "Ratio") "__add__") fd) : Binds K fd ["self", "other"] [] := F.bindsN fun _ _ _ _ _ _ us hl => match us, hl with | [_, _], _ => rfl
theorem fd_Ratio_sub (c : Ct P K mg) : ∃ fd, FnS K "__sub__" "Ratio.__sub__" s_Ratio_sub (He.ma K (He.ga K "Ratio") "__sub__") fd := c.s.d.def_ 4 (d := d_Ratio_sub) rfl
theorem sc_Ratio_sub : FnScope ["self", "other"] ["self", "other"] (defScope s_Ratio_sub) := ⟨rfl, rfl, rfl, by decide +kernel, rfl, by decide +kernel, by decide +kernel⟩
theorem bd_Ratio_sub {fd} (F : FnS K "__sub__" "Ratio.__sub__" s_Ratio_sub (He.ma K (He.ga K "Ratio") "__sub__") fd) : Binds K fd ["self", "other"] [] := F.bindsN fun _ _ _ _ _ _ us hl => match us, hl with | [_, _], _ => rfl
theorem fd_Ratio_neg (c : Ct P K mg) : ∃ fd, FnS K "__neg__" "Ratio.__neg__" s_Ratio_neg (He.ma K (He.ga K "Ratio") "__neg__") fd := c.s.d.def_ 5 (d := d_Ratio_neg) rfl
theorem sc_Ratio_neg : FnScope ["self"] ["self"] (defScope s_Ratio_neg) := ⟨rfl, rfl, rfl, by decide +kernel, rfl, by decide +kernel, by decide +kernel⟩
theorem bd_Ratio_neg {fd} (F : FnS K "__neg__" "Ratio.__neg__" s_Ratio_neg (He.ma K (He.ga K "Ratio") "__neg__") fd) : Binds K fd ["self"] [] := F.bindsN fun _ _ _ _ _ _ us hl => match us, hl with | [_], _ => rfl
theorem fd_Ratio_mul (c : Ct P K mg) : ∃ fd, FnS K "__mul__" "Ratio.__mul__" s_Ratio_mul (He.ma K (He.ga K "Ratio") "__mul__") fd := c.s.d.def_ 6 (d := d_Ratio_mul) rfl
theorem sc_Ratio_mul : FnScope ["self", "other"] ["self", "other"] (defScope s_Ratio_mul) := ⟨rfl, rfl, rfl, by decide +kernel, rfl, by decide +kernel, by decide +kernel⟩
theorem bd_Ratio_mul {fd} (F : FnS K "__mul__" "Ratio.__mul__" s_Ratio_mul (He.ma K (He.ga K "Ratio") "__mul__") fd) : Binds K fd ["self", "other"] [] := F.bindsN fun _ _ _ _ _ _ us hl => match us, hl with | [_, _], _ => rfl
theorem fd_Ratio_eq (c : Ct P K mg) : ∃ fd, FnS K "__eq__" "Ratio.__eq__" s_Ratio_eq (He.ma K (He.ga K "Ratio") "__eq__") fd := c.s.d.def_ 7 (d := d_Ratio_eq) rfl
theorem sc_Ratio_eq : FnScope ["self", "other"] ["self", "other"] (defScope s_Ratio_eq) := ⟨rfl, rfl, rfl, by decide +kernel, rfl, by decide +kernel, by decide +kernel⟩
theorem bd_Ratio_eq {fd} (F : FnS K "__eq__" "Ratio.__eq__" s_Ratio_eq (He.ma K (He.ga K "Ratio") "__eq__") fd) : Binds K fd ["self", "other"] [] := F.bindsN fun _ _ _ _ _ _ us hl => match us, hl with | [_, _], _ => rfl
theorem fd_Ratio_bool (c : Ct P K mg) : ∃ fd, FnS K "__bool__" "Ratio.__bool__" s_Ratio_bool (He.ma K (He.ga K "Ratio") "__bool__") fd := c.s.d.def_ 8 (d := d_Ratio_bool) rfl
theorem sc_Ratio_bool : FnScope ["self"] ["self"] (defScope s_Ratio_bool) := ⟨rfl, rfl, rfl, by decide +kernel, rfl, by decide +kernel, by decide +kernel⟩
theorem bd_Ratio_bool {fd} (F : FnS K "__bool__" "Ratio.__bool__" s_Ratio_bool (He.ma K (He.ga K "Ratio") "__bool__") fd) : Binds K fd ["self"] [] := F.bindsN fun _ _ _ _ _ _ us hl => match us, hl with | [_], _ => rfl
theorem fd_Ratio_str (c : Ct P K mg) : ∃ fd, FnS K "__str__" "Ratio.__str__" s_Ratio_str (He.ma K (He.ga K "Ratio") "__str__") fd := c.s.d.def_ 9 (d := d_Ratio_str) rfl
theorem sc_Ratio_str : FnScope ["self"] ["self"] (defScope s_Ratio_str) := ⟨rfl, rfl, rfl, by decide +kernel, rfl, by decide +kernel, by decide +kernel⟩
theorem bd_Ratio_str {fd} (F : FnS K "__str__" "Ratio.__str__" s_Ratio_str (He.ma K (He.ga K "Ratio") "__str__") fd) : Binds K fd ["self"] [] := F.bindsN fun _ _ _ _ _ _ us hl => match us, hl with | [_], _ => rfl
theorem fd_Ratio_quotient (c : Ct P K mg) : ∃ fd, FnS K "quotient" "Ratio.quotient" s_Ratio_quotient (He.ma K (He.ga K "Ratio") "quotient") fd := c.s.d.def_ 10 (d := d_Ratio_quotient) rfl
theorem sc_Ratio_quotient : FnScope ["self", "other"] ["self", "other"] (defScope s_Ratio_quotient) := ⟨rfl, rfl, rfl, by decide +kernel, rfl, by decide +kernel, by decide +kernel⟩
theorem bd_Ratio_quotient {fd} (F : FnS K "quotient" "Ratio.quotient" s_Ratio_quotient (He.ma K (He.ga K "Ratio") "quotient") fd) : Binds K fd ["self", "other"] [] := F.bindsN fun _ _ _ _ _ _ us hl => match us, hl with | [_, _], _ => rfl
theorem fd_Ratio_under (c : Ct P K mg) : ∃ fd, FnS K "under" "Ratio.under" s_Ratio_under (He.ma K (He.ga K "Ratio") "under") fd := c.s.d.def_ 11 (d := d_Ratio_under) rfl
theorem sc_Ratio_under : FnScope ["self", "other"] ["self", "other"] (defScope s_Ratio_under) := ⟨rfl, rfl, rfl, by decide +kernel, rfl, by decide +kernel, by decide +kernel⟩
theorem bd_Ratio_under {fd} (F : FnS K "under" "Ratio.under" s_Ratio_under (He.ma K (He.ga K "Ratio") "under") fd) : Binds K fd ["self", "other"] [] := F.bindsN fun _ _ _ _ _ _ us hl => match us, hl with | [_, _], _ => rfl
theorem fd_total (c : Ct P K mg) : ∃ fd, FnS K "total" "total" s_total (He.ga K "total") fd := c.s.d.def_ 12 (d := d_total) rfl
theorem sc_total : FnScope ["ratios", "found", "ratio"] ["ratios"] (defScope s_total) := ⟨rfl, rfl, rfl, by decide +kernel, rfl, by decide +kernel, by decide +kernel⟩
theorem bd_total {fd} (F : FnS K "total" "total" s_total (He.ga K "total") fd) : Binds K fd ["ratios"] [] := F.bindsN fun _ _ _ _ _ _ us hl => match us, hl with | [_], _ => rfl
theorem fd_greatest (c : Ct P K mg) : ∃ fd, FnS K "greatest" "greatest" s_greatest (He.ga K "greatest") fd := c.s.d.def_ 13 (d := d_greatest) rfl
theorem sc_greatest : FnScope ["ratios", "found", "ratio"] ["ratios"] (defScope s_greatest) := ⟨rfl, rfl, rfl, by decide +kernel, rfl, by decide +kernel, by decide +kernel⟩
theorem bd_greatest {fd} (F : FnS K "greatest" "greatest" s_greatest (He.ga K "greatest") fd) : Binds K fd ["ratios"] [] := F.bindsN fun _ _ _ _ _ _ us hl => match us, hl with | [_], _ => rfl
theorem fd_l_pool (c : Ct P K mg) : ∃ fd, FnS K "_law_pool" "_law_pool" s_l_pool (He.ga K "_law_pool") fd := c.s.d.def_ 14 (d := d_l_pool) rfl
theorem sc_l_pool : FnScope ["_law_cell_here"] ["_law_cell_here"] (defScope s_l_pool) := ⟨rfl, rfl, rfl, by decide +kernel, rfl, by decide +kernel, by decide +kernel⟩
theorem bd_l_pool {fd} (F : FnS K "_law_pool" "_law_pool" s_l_pool (He.ga K "_law_pool") fd) : Binds K fd ["_law_cell_here"] [] := F.bindsN fun _ _ _ _ _ _ us hl => match us, hl with | [_], _ => rfl
theorem fd_l_take (c : Ct P K mg) : ∃ fd, FnS K "_law_take" "_law_take" s_l_take (He.ga K "_law_take") fd := c.s.d.def_ 15 (d := d_l_take) rfl
theorem sc_l_take : FnScope ["_law_pool_here", "_law_limit", "_law_drawn", "_law_mixed"] ["_law_pool_here", "_law_limit"] (defScope s_l_take) := ⟨rfl, rfl, rfl, by decide +kernel, rfl, by decide +kernel, by decide +kernel⟩
theorem bd_l_take {fd} (F : FnS K "_law_take" "_law_take" s_l_take (He.ga K "_law_take") fd) : Binds K fd ["_law_pool_here", "_law_limit"] [] := F.bindsN fun _ _ _ _ _ _ us hl => match us, hl with | [_, _], _ => rfl
theorem fd_l_cell (c : Ct P K mg) : ∃ fd, FnS K "_law_cell" "_law_cell" s_l_cell (He.ga K "_law_cell") fd := c.s.d.def_ 16 (d := d_l_cell) rfl
theorem sc_l_cell : FnScope ["_law_script", "_law_k"] ["_law_script", "_law_k"] (defScope s_l_cell) := ⟨rfl, rfl, rfl, by decide +kernel, rfl, by decide +kernel, by decide +kernel⟩
theorem bd_l_cell {fd} (F : FnS K "_law_cell" "_law_cell" s_l_cell (He.ga K "_law_cell") fd) : Binds K fd ["_law_script", "_law_k"] [] := F.bindsN fun _ _ _ _ _ _ us hl => match us, hl with | [_, _], _ => rfl
theorem fd_l_common (c : Ct P K mg) : ∃ fd, FnS K "_law_common" "_law_common" s_l_common (He.ga K "_law_common") fd := c.s.d.def_ 17 (d := d_l_common) rfl
theorem sc_l_common : FnScope ["_law_a", "_law_b", "_law_first", "_law_second"] ["_law_a", "_law_b"] (defScope s_l_common) := ⟨rfl, rfl, rfl, by decide +kernel, rfl, by decide +kernel, by decide +kernel⟩
theorem bd_l_common {fd} (F : FnS K "_law_common" "_law_common" s_l_common (He.ga K "_law_common") fd) : Binds K fd ["_law_a", "_law_b"] [] := F.bindsN fun _ _ _ _ _ _ us hl => match us, hl with | [_, _], _ => rfl
theorem fd_l_terms (c : Ct P K mg) : ∃ fd, FnS K "_law_terms" "_law_terms" s_l_terms (He.ga K "_law_terms") fd := c.s.d.def_ 18 (d := d_l_terms) rfl
theorem sc_l_terms : FnScope ["_law_a", "_law_b", "_law_part"] ["_law_a", "_law_b"] (defScope s_l_terms) := ⟨rfl, rfl, rfl, by decide +kernel, rfl, by decide +kernel, by decide +kernel⟩
theorem bd_l_terms {fd} (F : FnS K "_law_terms" "_law_terms" s_l_terms (He.ga K "_law_terms") fd) : Binds K fd ["_law_a", "_law_b"] [] := F.bindsN fun _ _ _ _ _ _ us hl => match us, hl with | [_, _], _ => rfl
theorem fd_l_number (c : Ct P K mg) : ∃ fd, FnS K "_law_number" "_law_number" s_l_number (He.ga K "_law_number") fd := c.s.d.def_ 19 (d := d_l_number) rfl
theorem sc_l_number : FnScope ["_law_pool_here", "_law_which"] ["_law_pool_here"] (defScope s_l_number) := ⟨rfl, rfl, rfl, by decide +kernel, rfl, by decide +kernel, by decide +kernel⟩
theorem bd_l_number {fd} (F : FnS K "_law_number" "_law_number" s_l_number (He.ga K "_law_number") fd) : Binds K fd ["_law_pool_here"] [] := F.bindsN fun _ _ _ _ _ _ us hl => match us, hl with | [_], _ => rfl
theorem fd_l_is (c : Ct P K mg) : ∃ fd, FnS K "_law_is" "_law_is" s_l_is (He.ga K "_law_is") fd := c.s.d.def_ 20 (d := d_l_is) rfl
theorem sc_l_is : FnScope ["_law_told", "_law_a", "_law_b", "_law_due"] ["_law_told", "_law_a", "_law_b"] (defScope s_l_is) := ⟨rfl, rfl, rfl, by decide +kernel, rfl, by decide +kernel, by decide +kernel⟩
theorem bd_l_is {fd} (F : FnS K "_law_is" "_law_is" s_l_is (He.ga K "_law_is") fd) : Binds K fd ["_law_told", "_law_a", "_law_b"] [] := F.bindsN fun _ _ _ _ _ _ us hl => match us, hl with | [_, _, _], _ => rfl
theorem fd_l_refused (c : Ct P K mg) : ∃ fd, FnS K "_law_refused" "_law_refused" s_l_refused (He.ga K "_law_refused") fd := c.s.d.def_ 21 (d := d_l_refused) rfl
theorem sc_l_refused : FnScope ["_law_which", "_law_first", "e"] ["_law_which", "_law_first"] (defScope s_l_refused) := ⟨rfl, rfl, rfl, by decide +kernel, rfl, by decide +kernel, by decide +kernel⟩
theorem bd_l_refused {fd} (F : FnS K "_law_refused" "_law_refused" s_l_refused (He.ga K "_law_refused") fd) : Binds K fd ["_law_which", "_law_first"] [] := F.bindsN fun _ _ _ _ _ _ us hl => match us, hl with | [_, _], _ => rfl
theorem fd_l_pair_fits (c : Ct P K mg) : ∃ fd, FnS K "_law_pair_fits" "_law_pair_fits" s_l_pair_fits (He.ga K "_law_pair_fits") fd := c.s.d.def_ 22 (d := d_l_pair_fits) rfl
theorem sc_l_pair_fits : FnScope ["_law_first", "_law_second", "_law_one", "_law_other", "_law_a", "_law_b", "_law_c", "_law_d", "_law_less"] ["_law_first", "_law_second", "_law_one", "_law_other"] (defScope s_l_pair_fits) := ⟨rfl, rfl, rfl, by decide +kernel, rfl, by decide +kernel, by decide +kernel⟩
theorem bd_l_pair_fits {fd} (F : FnS K "_law_pair_fits" "_law_pair_fits" s_l_pair_fits (He.ga K "_law_pair_fits") fd) : Binds K fd ["_law_first", "_law_second", "_law_one", "_law_other"] [] := F.bindsN fun _ _ _ _ _ _ us hl => match us, hl with | [_, _, _, _], _ => rfl
theorem fd_l_list_fits (c : Ct P K mg) : ∃ fd, FnS K "_law_list_fits" "_law_list_fits" s_l_list_fits (He.ga K "_law_list_fits") fd := c.s.d.def_ 23 (d := d_l_list_fits) rfl
theorem sc_l_list_fits : FnScope ["_law_first", "_law_second", "_law_third", "_law_row", "_law_best", "_law_ratio"] ["_law_first", "_law_second", "_law_third"] (defScope s_l_list_fits) := ⟨rfl, rfl, rfl, by decide +kernel, rfl, by decide +kernel, by decide +kernel⟩
theorem bd_l_list_fits {fd} (F : FnS K "_law_list_fits" "_law_list_fits" s_l_list_fits (He.ga K "_law_list_fits") fd) : Binds K fd ["_law_first", "_law_second", "_law_third"] [] := F.bindsN fun _ _ _ _ _ _ us hl => match us, hl with | [_, _, _], _ => rfl
theorem fd_law (c : Ct P K mg) : ∃ fd, FnS K "law" "law" s_law (He.ga K "law") fd := c.s.d.def_ 24 (d := d_law) rfl
theorem sc_law : FnScope ["_law_script", "_law_rows", "_law_k", "_law_pool_here", "_law_a", "_law_b", "_law_first", "_law_second", "_law_third", "_law_turn"] ["_law_script"] (defScope s_law) := ⟨rfl, rfl, rfl, by decide +kernel, rfl, by decide +kernel, by decide +kernel⟩
theorem bd_law {fd} (F : FnS K "law" "law" s_law (He.ga K "law") fd) : Binds K fd ["_law_script"] [] := F.bindsN fun _ _ _ _ _ _ us hl => match us, hl with | [_], _ => rfl
theorem ck_Ratio_whole (c : Ct P K mg) : CmOk K c_Ratio_whole := let h := c.s.cm c_Ratio_whole (by simp [cm]); CmD.all h.1 h.2
theorem fd_Ratio_whole (c : Ct P K mg) : ∃ fd, FnS K "whole" "Ratio.whole" s_Ratio_whole (cmFn K "Ratio" "whole") fd := (ck_Ratio_whole c).fn
theorem sc_Ratio_whole : FnScope ["cls", "n"] ["cls", "n"] (defScope s_Ratio_whole) := ⟨rfl, rfl, rfl, by decide +kernel, rfl, by decide +kernel, by decide +kernel⟩
theorem bd_Ratio_whole {fd} (F : FnS K "whole" "Ratio.whole" s_Ratio_whole (cmFn K "Ratio" "whole") fd) : Binds K fd ["cls", "n"] [] := F.bindsN fun _ _ _ _ _ _ us hl => match us, hl with | [_, _], _ => rfl
theorem ck_Ratio_read (c : Ct P K mg) : CmOk K c_Ratio_read := let h := c.s.cm c_Ratio_read (by simp [cm]); CmD.all h.1 h.2
theorem fd_Ratio_read (c : Ct P K mg) : ∃ fd, FnS K "read" "Ratio.read" s_Ratio_read (cmFn K "Ratio" "read") fd := (ck_Ratio_read c).fn
theorem sc_Ratio_read : FnScope ["cls", "text", "words"] ["cls", "text"] (defScope s_Ratio_read) := ⟨rfl, rfl, rfl, by decide +kernel, rfl, by decide +kernel, by decide +kernel⟩
theorem bd_Ratio_read {fd} (F : FnS K "read" "Ratio.read" s_Ratio_read (cmFn K "Ratio" "read") fd) : Binds K fd ["cls", "text"] [] := F.bindsN fun _ _ _ _ _ _ us hl => match us, hl with | [_, _], _ => rfl
theorem er_BadNumber (c : Ct P K mg) : ErrOk P K mg e_BadNumber := let ⟨_, X, G⟩ := c.g; let h := c.s.er e_BadNumber (by simp [er]); ErrD.all X G h.1 h.2 c.file c.top
theorem er_BadText (c : Ct P K mg) : ErrOk P K mg e_BadText := let ⟨_, X, G⟩ := c.g; let h := c.s.er e_BadText (by simp [er]); ErrD.all X G h.1 h.2 c.file c.top
theorem glo_common (c : Ct P K mg) : mg "common" = some (.ref (He.ga K "common")) := let ⟨_, X, G⟩ := c.g; He.glo_ok X G (c.s.d.fact 0 (f := .glo "common") rfl)
theorem glo_is_integer (c : Ct P K mg) : mg "is_integer" = some (.ref (He.ga K "is_integer")) := let ⟨_, X, G⟩ := c.g; He.glo_ok X G (c.s.d.fact 1 (f := .glo "is_integer") rfl)
theorem meth_Ratio_init (c : Ct P K mg) : Meth K (He.ga K "Ratio") "__init__" (He.ma K (He.ga K "Ratio") "__init__") := He.meth_ok (c.s.d.fact 2 (f := .meth "Ratio" "__init__") rfl)
theorem meth_Ratio_add (c : Ct P K mg) : Meth K (He.ga K "Ratio") "__add__" (He.ma K (He.ga K "Ratio") "__add__") := He.meth_ok (c.s.d.fact 3 (f := .meth "Ratio" "__add__") rfl)
theorem meth_Ratio_sub (c : Ct P K mg) : Meth K (He.ga K "Ratio") "__sub__" (He.ma K (He.ga K "Ratio") "__sub__") := He.meth_ok (c.s.d.fact 4 (f := .meth "Ratio" "__sub__") rfl)
theorem meth_Ratio_neg (c : Ct P K mg) : Meth K (He.ga K "Ratio") "__neg__" (He.ma K (He.ga K "Ratio") "__neg__") := He.meth_ok (c.s.d.fact 5 (f := .meth "Ratio" "__neg__") rfl)
theorem meth_Ratio_mul (c : Ct P K mg) : Meth K (He.ga K "Ratio") "__mul__" (He.ma K (He.ga K "Ratio") "__mul__") := He.meth_ok (c.s.d.fact 6 (f := .meth "Ratio" "__mul__") rfl)
theorem meth_Ratio_eq (c : Ct P K mg) : Meth K (He.ga K "Ratio") "__eq__" (He.ma K (He.ga K "Ratio") "__eq__") := He.meth_ok (c.s.d.fact 7 (f := .meth "Ratio" "__eq__") rfl)
theorem meth_Ratio_bool (c : Ct P K mg) : Meth K (He.ga K "Ratio") "__bool__" (He.ma K (He.ga K "Ratio") "__bool__") := He.meth_ok (c.s.d.fact 8 (f := .meth "Ratio" "__bool__") rfl)
theorem meth_Ratio_str (c : Ct P K mg) : Meth K (He.ga K "Ratio") "__str__" (He.ma K (He.ga K "Ratio") "__str__") := He.meth_ok (c.s.d.fact 9 (f := .meth "Ratio" "__str__") rfl)
theorem meth_Ratio_quotient (c : Ct P K mg) : Meth K (He.ga K "Ratio") "quotient" (He.ma K (He.ga K "Ratio") "quotient") := He.meth_ok (c.s.d.fact 10 (f := .meth "Ratio" "quotient") rfl)
theorem meth_Ratio_under (c : Ct P K mg) : Meth K (He.ga K "Ratio") "under" (He.ma K (He.ga K "Ratio") "under") := He.meth_ok (c.s.d.fact 11 (f := .meth "Ratio" "under") rfl)
theorem glo_total (c : Ct P K mg) : mg "total" = some (.ref (He.ga K "total")) := let ⟨_, X, G⟩ := c.g; He.glo_ok X G (c.s.d.fact 12 (f := .glo "total") rfl)
theorem glo_greatest (c : Ct P K mg) : mg "greatest" = some (.ref (He.ga K "greatest")) := let ⟨_, X, G⟩ := c.g; He.glo_ok X G (c.s.d.fact 13 (f := .glo "greatest") rfl)
theorem glo_l_pool (c : Ct P K mg) : mg "_law_pool" = some (.ref (He.ga K "_law_pool")) := let ⟨_, X, G⟩ := c.g; He.glo_ok X G (c.s.d.fact 14 (f := .glo "_law_pool") rfl)
theorem glo_l_take (c : Ct P K mg) : mg "_law_take" = some (.ref (He.ga K "_law_take")) := let ⟨_, X, G⟩ := c.g; He.glo_ok X G (c.s.d.fact 15 (f := .glo "_law_take") rfl)
theorem glo_l_cell (c : Ct P K mg) : mg "_law_cell" = some (.ref (He.ga K "_law_cell")) := let ⟨_, X, G⟩ := c.g; He.glo_ok X G (c.s.d.fact 16 (f := .glo "_law_cell") rfl)
theorem glo_l_common (c : Ct P K mg) : mg "_law_common" = some (.ref (He.ga K "_law_common")) := let ⟨_, X, G⟩ := c.g; He.glo_ok X G (c.s.d.fact 17 (f := .glo "_law_common") rfl)
theorem glo_l_terms (c : Ct P K mg) : mg "_law_terms" = some (.ref (He.ga K "_law_terms")) := let ⟨_, X, G⟩ := c.g; He.glo_ok X G (c.s.d.fact 18 (f := .glo "_law_terms") rfl)
theorem glo_l_number (c : Ct P K mg) : mg "_law_number" = some (.ref (He.ga K "_law_number")) := let ⟨_, X, G⟩ := c.g; He.glo_ok X G (c.s.d.fact 19 (f := .glo "_law_number") rfl)
theorem glo_l_is (c : Ct P K mg) : mg "_law_is" = some (.ref (He.ga K "_law_is")) := let ⟨_, X, G⟩ := c.g; He.glo_ok X G (c.s.d.fact 20 (f := .glo "_law_is") rfl)
theorem glo_l_refused (c : Ct P K mg) : mg "_law_refused" = some (.ref (He.ga K "_law_refused")) := let ⟨_, X, G⟩ := c.g; He.glo_ok X G (c.s.d.fact 21 (f := .glo "_law_refused") rfl)
theorem glo_l_pair_fits (c : Ct P K mg) : mg "_law_pair_fits" = some (.ref (He.ga K "_law_pair_fits")) := let ⟨_, X, G⟩ := c.g; He.glo_ok X G (c.s.d.fact 22 (f := .glo "_law_pair_fits") rfl)
theorem glo_l_list_fits (c : Ct P K mg) : mg "_law_list_fits" = some (.ref (He.ga K "_law_list_fits")) := let ⟨_, X, G⟩ := c.g; He.glo_ok X G (c.s.d.fact 23 (f := .glo "_law_list_fits") rfl)
theorem glo_law (c : Ct P K mg) : mg "law" = some (.ref (He.ga K "law")) := let ⟨_, X, G⟩ := c.g; He.glo_ok X G (c.s.d.fact 24 (f := .glo "law") rfl)
theorem glo_Ratio (c : Ct P K mg) : mg "Ratio" = some (.ref (He.ga K "Ratio")) := let ⟨_, X, G⟩ := c.g; He.glo_ok X G (c.s.d.fact 25 (f := .glo "Ratio") rfl)
theorem cls_Ratio (c : Ct P K mg) : Cls K (He.ga K "Ratio") := He.cls_ok (c.s.d.fact 26 (f := .cls "Ratio") rfl)
theorem mkr_Ratio (c : Ct P K mg) : Mk K (He.ga K "Ratio") (He.ma K (He.ga K "Ratio") "__init__") := He.mkr_ok (c.s.d.fact 27 (f := .mkr "Ratio") rfl)
theorem noat_Ratio_top (c : Ct P K mg) : NoAttr K (He.ga K "Ratio") "top" := He.noat_ok (c.s.d.fact 28 (f := .noat "Ratio" "top") rfl)
theorem noat_Ratio_bottom (c : Ct P K mg) : NoAttr K (He.ga K "Ratio") "bottom" := He.noat_ok (c.s.d.fact 29 (f := .noat "Ratio" "bottom") rfl)
theorem free_ValueError (c : Ct P K mg) : mg "ValueError" = none := let ⟨_, X, G⟩ := c.g; He.free_ok X G (c.s.d.fact 30 (f := .free "ValueError") rfl)
theorem free_abs (c : Ct P K mg) : mg "abs" = none := let ⟨_, X, G⟩ := c.g; He.free_ok X G (c.s.d.fact 31 (f := .free "abs") rfl)
theorem free_all (c : Ct P K mg) : mg "all" = none := let ⟨_, X, G⟩ := c.g; He.free_ok X G (c.s.d.fact 32 (f := .free "all") rfl)
theorem free_any (c : Ct P K mg) : mg "any" = none := let ⟨_, X, G⟩ := c.g; He.free_ok X G (c.s.d.fact 33 (f := .free "any") rfl)
theorem free_bool (c : Ct P K mg) : mg "bool" = none := let ⟨_, X, G⟩ := c.g; He.free_ok X G (c.s.d.fact 34 (f := .free "bool") rfl)
theorem free_classmethod (c : Ct P K mg) : mg "classmethod" = none := let ⟨_, X, G⟩ := c.g; He.free_ok X G (c.s.d.fact 35 (f := .free "classmethod") rfl)
theorem free_int (c : Ct P K mg) : mg "int" = none := let ⟨_, X, G⟩ := c.g; He.free_ok X G (c.s.d.fact 36 (f := .free "int") rfl)
theorem free_isinstance (c : Ct P K mg) : mg "isinstance" = none := let ⟨_, X, G⟩ := c.g; He.free_ok X G (c.s.d.fact 37 (f := .free "isinstance") rfl)
theorem free_len (c : Ct P K mg) : mg "len" = none := let ⟨_, X, G⟩ := c.g; He.free_ok X G (c.s.d.fact 38 (f := .free "len") rfl)
theorem free_range (c : Ct P K mg) : mg "range" = none := let ⟨_, X, G⟩ := c.g; He.free_ok X G (c.s.d.fact 39 (f := .free "range") rfl)
theorem free_str (c : Ct P K mg) : mg "str" = none := let ⟨_, X, G⟩ := c.g; He.free_ok X G (c.s.d.fact 40 (f := .free "str") rfl)
theorem free_super (c : Ct P K mg) : mg "super" = none := let ⟨_, X, G⟩ := c.g; He.free_ok X G (c.s.d.fact 41 (f := .free "super") rfl)
theorem int_MOST_DIGITS (c : Ct P K mg) : ∃ t, mg "MOST_DIGITS" = some (.int 30 t) := let ⟨_, X, G⟩ := c.g; He.int_ok X G (c.s.d.fact 42 (f := .int "MOST_DIGITS" 30) rfl)
theorem exm_BadNumber_BadNumber (c : Ct P K mg) : PySem.W.exmOne K (.ref (He.ga K "BadNumber")) (.ref (He.ga K "BadNumber")) = some true := He.exm_ok (c.s.d.fact 43 (f := .exm "BadNumber" "BadNumber" true) rfl)
theorem exm_BadNumber_BadText (c : Ct P K mg) : PySem.W.exmOne K (.ref (He.ga K "BadNumber")) (.ref (He.ga K "BadText")) = some false := He.exm_ok (c.s.d.fact 44 (f := .exm "BadNumber" "BadText" false) rfl)
theorem exm_BadText_BadNumber (c : Ct P K mg) : PySem.W.exmOne K (.ref (He.ga K "BadText")) (.ref (He.ga K "BadNumber")) = some false := He.exm_ok (c.s.d.fact 45 (f := .exm "BadText" "BadNumber" false) rfl)
theorem exm_BadText_BadText (c : Ct P K mg) : PySem.W.exmOne K (.ref (He.ga K "BadText")) (.ref (He.ga K "BadText")) = some true := He.exm_ok (c.s.d.fact 46 (f := .exm "BadText" "BadText" true) rfl)
theorem sf_Ratio (c : Ct P K mg) : PySem.W.selfFirst K (He.ga K "Ratio") = true := (He.ba c.s.ex).1
theorem ne_Ratio (c : Ct P K mg) : PySem.W.findIn K (.ref (He.ga K "Ratio")) "__ne__" = some (some (.builtin "object.__ne__")) := He.eqO_ok (He.ba (He.ba c.s.ex).2).1
theorem mo_Ratio (c : Ct P K mg) : PySem.W.mroIn K (He.ga K "Ratio") (.type "object") = some true := of_decide_eq_true (He.ba (He.ba (He.ba c.s.ex).2).2).1
theorem cc_Ratio (c : Ct P K mg) : PySem.W.findIn K (.ref (He.ga K "Ratio")) "__class__" = some (some (.builtin "object.__class__")) := He.eqO_ok (He.ba (He.ba (He.ba (He.ba c.s.ex).2).2).2).1
theorem kit_int_Ratio (c : Ct P K mg) : PySem.W.kitOne K (.type "int") (.ref (He.ga K "Ratio")) = some false := of_decide_eq_true (He.ba (He.ba (He.ba (He.ba (He.ba c.s.ex).2).2).2).2).1
theorem nf_Ratio_int (c : Ct P K mg) : PySem.W.notFirst K (He.ga K "Ratio") (.type "int") = true := (He.ba (He.ba (He.ba (He.ba (He.ba (He.ba c.s.ex).2).2).2).2).2).1
theorem kit_str_Ratio (c : Ct P K mg) : PySem.W.kitOne K (.type "str") (.ref (He.ga K "Ratio")) = some false := of_decide_eq_true (He.ba (He.ba (He.ba (He.ba (He.ba (He.ba (He.ba c.s.ex).2).2).2).2).2).2).1
theorem nf_Ratio_str (c : Ct P K mg) : PySem.W.notFirst K (He.ga K "Ratio") (.type "str") = true := (He.ba (He.ba (He.ba (He.ba (He.ba (He.ba (He.ba (He.ba c.s.ex).2).2).2).2).2).2).2).1
theorem kit_bool_Ratio (c : Ct P K mg) : PySem.W.kitOne K (.type "bool") (.ref (He.ga K "Ratio")) = some false := of_decide_eq_true (He.ba (He.ba (He.ba (He.ba (He.ba (He.ba (He.ba (He.ba (He.ba c.s.ex).2).2).2).2).2).2).2).2).1
theorem nf_Ratio_bool (c : Ct P K mg) : PySem.W.notFirst K (He.ga K "Ratio") (.type "bool") = true := (He.ba (He.ba (He.ba (He.ba (He.ba (He.ba (He.ba (He.ba (He.ba (He.ba c.s.ex).2).2).2).2).2).2).2).2).2).1
theorem kit_NoneType_Ratio (c : Ct P K mg) : PySem.W.kitOne K (.type "NoneType") (.ref (He.ga K "Ratio")) = some false := of_decide_eq_true (He.ba (He.ba (He.ba (He.ba (He.ba (He.ba (He.ba (He.ba (He.ba (He.ba (He.ba c.s.ex).2).2).2).2).2).2).2).2).2).2).1
theorem nf_Ratio_NoneType (c : Ct P K mg) : PySem.W.notFirst K (He.ga K "Ratio") (.type "NoneType") = true := (He.ba (He.ba (He.ba (He.ba (He.ba (He.ba (He.ba (He.ba (He.ba (He.ba (He.ba (He.ba c.s.ex).2).2).2).2).2).2).2).2).2).2).2).1
theorem ins_Ratio (c : Ct P K mg) : InsT K (He.ga K "Ratio") := ⟨cls_Ratio c, cc_Ratio c, He.eqO_ok (He.ba (He.ba (He.ba (He.ba (He.ba (He.ba (He.ba (He.ba (He.ba (He.ba (He.ba (He.ba (He.ba c.s.ex).2).2).2).2).2).2).2).2).2).2).2).2).1, of_decide_eq_true (He.ba (He.ba (He.ba (He.ba (He.ba (He.ba (He.ba (He.ba (He.ba (He.ba (He.ba (He.ba (He.ba c.s.ex).2).2).2).2).2).2).2).2).2).2).2).2).2, mo_Ratio c⟩
theorem kit_Ratio (c : Ct P K mg) : PySem.W.kitOne K (.ref (He.ga K "Ratio")) (.ref (He.ga K "Ratio")) = some true := by unfold PySem.W.kitOne; simp
end
section
open PySem.Builtin.Int (intBits)
variable {P : Program} {w : World} {K : PySem.W.Frag} {mg : Str → Option Value} {base : Heap}
def tRat (K : PySem.W.Frag) (q : Rat) : MP := tO (He.ga K "Ratio") [("top", tI q.num), ("bottom", tI q.den)]
abbrev spCommon : Sp := spD (D := Int × Int) (fun d => [bI d.1, bI d.2]) fun d => .val (tI (Int.gcd d.1 d.2))
theorem ok_common (c : Ct P K mg) : GF P w K mg base "common" 1 ["a", "b"] spCommon := by
  refine gf_mk (fd_common c) (fun _ F => bd_common F) (glo_common c) fun fd F => def_ok F sc_common (fun d _ => [some (tI d.1), some (tI d.2), none, none]) ?_
  rintro cdv A outer s H S Q E ⟨a, b⟩ hr nd q
  refine s_par (i := 2) (j := 3) ((e_abs (free_abs c) (e_var 0)).cast (congrArg bI (abs_ite a))) ((e_abs (free_abs c) (e_var 1)).cast (congrArg bI (abs_ite b))) ?_
  refine s_while (β := Nat × Nat) (fun s => [some (tI a), some (tI b), some (tI s.1), some (tI s.2)]) (fun _ => []) (fun s => Nat.gcd s.1 s.2 = Int.gcd a b) (fun s => s.2) (fun s => !decide (V.int s.2 = .int 0)) (a.natAbs, b.natAbs) rfl ?_ ?_ ?_ own_cx
  · rintro ⟨x, y⟩ hp
    exact t_ne (e_var 3) e_int
  · rintro ⟨x, y⟩ h3 hk
    have hy : y ≠ 0 := fun z => by simp [z] at hk
    refine s_par (i := 2) (j := 3) (e_var 3) ((e_mod (e_var 2) (e_var 3) (by omega)).cast (congrArg bI (fmod_nat x y))) ?_
    exact s_nil (NX.at_ (y, x % y) ⟨(gcd_step x y).trans h3, Nat.mod_lt _ (Nat.pos_of_ne_zero hy)⟩ Gle.rfl')
  · rintro ⟨x, y⟩ h3 hk
    refine s_ret (e_var 2) fun v S' H' st r => q v S' H' st ?_
    have hy : y = 0 := by simpa using hk
    subst hy
    have h3' : Nat.gcd x 0 = Int.gcd a b := h3
    rw [Nat.gcd_zero_right] at h3'
    rw [← h3']
    exact r
theorem ok_BadNumber (c : Ct P K mg) : GE P w K mg base "BadNumber" (He.ga K "BadNumber") 1 ["self", "n"] (spE1 (He.ga K "BadNumber") "n") := by
  have z := er_BadNumber c
  obtain ⟨fd, F, W, b1, b2, b3, b4, b5, b6⟩ := z.xi
  have hsc : NdefX.NScope ["self", "n", "__class__"] ["self", "n"] ["__class__"] F.scope := by
    rw [b2]
    exact NdefX.nscope_by (by decide +kernel)
  refine ge_mk (xi_one W hsc b1 (by rw [b3]; rfl) rfl (by rw [b2]; rfl) (z.no "n" (by simp [e_BadNumber])) (by decide) (by decide) ?_ (fun _ => rfl) (fun _ => rfl) (fun _ => ⟨_, rfl⟩) (fun _ => rfl)) W.T z.ini z.fn z.mgx (XI.binds W b6 ?_)
  · intro X hN hv σ H v Q hs ho h
    exact fmt_pre (i := 1) (by rw [hN]; rfl) hv (by decide +kernel) (by decide) (by decide) hs ho h
  · intro kV doc pm an ct us hl
    rw [b3]
    exact match us, hl with | [_, _], _ => rfl
abbrev xBadNumber (K : PySem.W.Frag) (i : Int) : XP := xE (He.ga K "BadNumber") [("n", tI i)]
abbrev spRatio (K : PySem.W.Frag) : Sp := spN (D := { d : Int × Int // intBits d.2 ≤ 9000 }) (He.ga K "Ratio") (fun d => [bI d.1.1, bI d.1.2]) fun d => if d.1.2 = 0 then .err (xBadNumber K 0) else .val (tRat K (Rat.divInt d.1.1 d.1.2))
theorem ok_Ratio (c : Ct P K mg) : GC P w K mg base "Ratio" (He.ga K "Ratio") 3 ["self", "top", "bottom"] (spRatio K) := by
  refine gc_mk (fd_Ratio_init c) (fun _ F => bd_Ratio_init F) (mkr_Ratio c) (glo_Ratio c) fun fd F => ini_ok F sc_Ratio_init (fun d x _ => [some (tR x), some (tI d.1.1), some (tI d.1.2), none]) ?_
  rintro cdv A outer s H0 H S x dx Q E ⟨⟨a, b⟩, hz⟩ hr nd q
  refine s_if (t_eq (e_var 2) e_int) (fun hk => ?_) fun hk => ?_
  · have hb : b = 0 := by simpa using hk
    refine s_raise1 (ok_BadNumber c) (hr.mono (by decide)) tk_cx (R := tI 0) e_int (fun S v r => by cases r; show (0 : Int).natAbs.log2 < 1920; decide) fun cc d S' H' σ t r => ?_
    rw [if_pos hb] at q
    exact q cc d S' H' t.st r
  · have hb : b ≠ 0 := by simpa using hk
    rw [if_neg hb] at q
    refine s_skip ?_
    refine s_set (i := 3) (R := tI (Int.gcd a b)) (e_call (ok_common c) (hr.mono (by decide)) tk_cx (a, b) (a_cons (e_var 1) (a_cons (e_var 2) a_nil))) ?_
    refine s_ifJ [some (tR x), some (tI a), some (tI b), some (tI (gs a b))] (t_lt (e_var 2) e_int) (fun hk => ?_) (fun hk => ?_) ?_
    · have hb : b < 0 := by simpa using hk
      refine s_set (i := 3) (R := tI (gs a b)) ((e_neg (e_var 3)).cast (congrArg bI (by unfold gs; rw [if_pos hb]))) ?_
      exact s_meet
    · have hb : ¬ b < 0 := by simpa using hk
      have e : gs a b = Int.gcd a b := by unfold gs; rw [if_neg hb]
      rw [e]
      exact s_meet
    refine s_fld (i := 0) (R := tI (Rat.divInt a b).num) (cls_Ratio c) (noat_Ratio_top c) ((e_fdiv (e_var 1) (e_var 3) (gs_ne hb) (log2_lt_of_bits (bits_gs hb hz) (by decide))).cast (congrArg bI (top_ok hb))) ?_
    refine s_fld (i := 0) (R := tI (Rat.divInt a b).den) (cls_Ratio c) (noat_Ratio_bottom c) ((e_fdiv (e_var 2) (e_var 3) (gs_ne hb) (log2_lt_of_bits (bits_gs hb hz) (by decide))).cast (congrArg bI (bot_ok hb))) ?_
    exact s_nil (NX.made q)
theorem eRat {X : Cx} {B : Bs} {Γ : Gm} {O : Om} {e : Expr} {q r : Rat} (h : EJ X B Γ O e (tRat K q).b) (i : q = r) : EJ X B Γ O e (tRat K r).b := i ▸ h
abbrev Fit2 (n : Nat) : Type := { d : Rat × Rat // Fit n d.1 ∧ Fit n d.2 }
abbrev spOp (K : PySem.W.Frag) (f : Rat → Rat → Rat) : Sp := spD (D := Fit2 4000) (fun d => [(tRat K d.1.1).b, (tRat K d.1.2).b]) fun d => .val (tRat K (f d.1.1 d.1.2))
section
variable {X : Cx} {B : Bs} {Γ : Gm} {O : Om} {e e' : Expr} {es : List Expr} {p pos pos' : Pos} {W : WX}
theorem e_mk {a b : Int} (c : Ct X.prog X.K X.mg) (hr : Room 4 X.A) (tk : Takes X W) (ha : EJ X B Γ O e (bI a)) (hb : EJ X B Γ O e' (bI b)) (h0 : b ≠ 0) (hz : intBits b ≤ 9000) (hg : Gl X "Ratio" := by rfl)
    (hs : starEach [e, e'] X.env = (false, eval e X.env) :: starEach [e'] X.env := by rfl) (hs2 : starEach [e'] X.env = (false, eval e' X.env) :: starEach [] X.env := by rfl) (hpl : (backTo pos (starEach [e'] X.env)).any (·.1) = false := by rfl) : EJ X B Γ O (.Call (.Name "Ratio" p) [e, e'] [] pos) (tRat X.K (Rat.divInt a b)).b := by
  have z := e_make (B := B) (Γ := Γ) (O := O) (p := p) (pos := pos) (ok_Ratio c) hr tk (⟨(a, b), hz⟩ : { d : Int × Int // intBits d.2 ≤ 9000 }) (a_cons ha (a_cons hb a_nil hs2) hs) hg (by decide) hs hpl
  dsimp only at z
  rw [if_neg h0] at z
  exact z
theorem e_mkX {a : Int} (c : Ct X.prog X.K X.mg) (hr : Room 4 X.A) (tk : Takes X W) (ha : EJ X B Γ O e (bI a)) (hb : EJ X B Γ O e' (bI 0)) (hg : Gl X "Ratio" := by rfl)
    (hs : starEach [e, e'] X.env = (false, eval e X.env) :: starEach [e'] X.env := by rfl) (hs2 : starEach [e'] X.env = (false, eval e' X.env) :: starEach [] X.env := by rfl) (hpl : (backTo pos (starEach [e'] X.env)).any (·.1) = false := by rfl) : XJ X B Γ O W (.Call (.Name "Ratio" p) [e, e'] [] pos) (xBadNumber X.K 0) := by
  have z := e_make (B := B) (Γ := Γ) (O := O) (p := p) (pos := pos) (ok_Ratio c) hr tk (⟨(a, 0), by show intBits 0 ≤ 9000; decide⟩ : { d : Int × Int // intBits d.2 ≤ 9000 }) (a_cons ha (a_cons hb a_nil hs2) hs) hg (by decide) hs hpl
  exact z
theorem e_top {q : Rat} (c : Ct X.prog X.K X.mg) (h : EJ X B Γ O e (tRat X.K q).b) (hb : attributeBase e "top" X.env (eval e X.env) = eval e X.env := by rfl) : EJ X B Γ O (.Attribute e "top" pos) (bI q.num) := e_fld (cls_Ratio c) (noat_Ratio_top c) h rfl hb
theorem e_bot {q : Rat} (c : Ct X.prog X.K X.mg) (h : EJ X B Γ O e (tRat X.K q).b) (hb : attributeBase e "bottom" X.env (eval e X.env) = eval e X.env := by rfl) : EJ X B Γ O (.Attribute e "bottom" pos) (bI q.den) := e_fld (cls_Ratio c) (noat_Ratio_bottom c) h rfl hb
end
theorem ok_Ratio_add (c : Ct P K mg) : GM P w K mg base (He.ga K "Ratio") "__add__" 5 ["self", "other"] (spOp K (· + ·)) := by
  refine gm_mk (fd_Ratio_add c) (fun _ F => bd_Ratio_add F) (meth_Ratio_add c) fun fd F => def_ok F sc_Ratio_add (fun d _ => [some (tRat K d.1.1), some (tRat K d.1.2)]) ?_
  rintro cdv A outer s H S Q E ⟨⟨q, r⟩, h1, h2⟩ hr nd k
  refine s_ret (eRat (e_mk c hr tk_cx (e_add (e_mul (e_top c (e_var 0)) (e_bot c (e_var 1)) (mulOk h1.1 h2.2)) (e_mul (e_top c (e_var 1)) (e_bot c (e_var 0)) (mulOk h2.1 h1.2))) (e_mul (e_bot c (e_var 0)) (e_bot c (e_var 1)) (mulOk h1.2 h2.2)) (den_mul_ne q r) (Nat.le_trans (intBits_mul_le h1.2 h2.2) (by decide))) (rat_add q r)) fun v S' H' st rr => k v S' H' st rr
theorem ok_Ratio_sub (c : Ct P K mg) : GM P w K mg base (He.ga K "Ratio") "__sub__" 5 ["self", "other"] (spOp K (· - ·)) := by
  refine gm_mk (fd_Ratio_sub c) (fun _ F => bd_Ratio_sub F) (meth_Ratio_sub c) fun fd F => def_ok F sc_Ratio_sub (fun d _ => [some (tRat K d.1.1), some (tRat K d.1.2)]) ?_
  rintro cdv A outer s H S Q E ⟨⟨q, r⟩, h1, h2⟩ hr nd k
  refine s_ret (eRat (e_mk c hr tk_cx (e_sub (e_mul (e_top c (e_var 0)) (e_bot c (e_var 1)) (mulOk h1.1 h2.2)) (e_mul (e_top c (e_var 1)) (e_bot c (e_var 0)) (mulOk h2.1 h1.2))) (e_mul (e_bot c (e_var 0)) (e_bot c (e_var 1)) (mulOk h1.2 h2.2)) (den_mul_ne q r) (Nat.le_trans (intBits_mul_le h1.2 h2.2) (by decide))) (rat_sub q r)) fun v S' H' st rr => k v S' H' st rr
theorem ok_Ratio_mul (c : Ct P K mg) : GM P w K mg base (He.ga K "Ratio") "__mul__" 5 ["self", "other"] (spOp K (· * ·)) := by
  refine gm_mk (fd_Ratio_mul c) (fun _ F => bd_Ratio_mul F) (meth_Ratio_mul c) fun fd F => def_ok F sc_Ratio_mul (fun d _ => [some (tRat K d.1.1), some (tRat K d.1.2)]) ?_
  rintro cdv A outer s H S Q E ⟨⟨q, r⟩, h1, h2⟩ hr nd k
  refine s_ret (eRat (e_mk c hr tk_cx (e_mul (e_top c (e_var 0)) (e_top c (e_var 1)) (mulOk h1.1 h2.1)) (e_mul (e_bot c (e_var 0)) (e_bot c (e_var 1)) (mulOk h1.2 h2.2)) (den_mul_ne q r) (Nat.le_trans (intBits_mul_le h1.2 h2.2) (by decide))) (rat_mul q r)) fun v S' H' st rr => k v S' H' st rr
abbrev spQuot (K : PySem.W.Frag) : Sp := spD (D := Fit2 4000) (fun d => [(tRat K d.1.1).b, (tRat K d.1.2).b]) fun d => if d.1.2 = 0 then .err (xBadNumber K 0) else .val (tRat K (d.1.1 / d.1.2))
theorem ok_Ratio_quotient (c : Ct P K mg) : GM P w K mg base (He.ga K "Ratio") "quotient" 5 ["self", "other"] (spQuot K) := by
  refine gm_mk (fd_Ratio_quotient c) (fun _ F => bd_Ratio_quotient F) (meth_Ratio_quotient c) fun fd F => def_ok F sc_Ratio_quotient (fun d _ => [some (tRat K d.1.1), some (tRat K d.1.2)]) ?_
  rintro cdv A outer s H S Q E ⟨⟨q, r⟩, h1, h2⟩ hr nd k
  dsimp only at k
  by_cases h0 : r = 0
  · rw [if_pos h0] at k
    have hn : (q.den : Int) * r.num = 0 := by rw [h0]; exact Int.mul_zero _
    refine s_retX (W := fun c d _ H => E c d H) (Px := xBadNumber K 0) ?_ fun cc d S' H' σ t rr => k cc d S' H' t.st rr
    exact e_mkX c hr tk_cx (e_mul (e_top c (e_var 0)) (e_bot c (e_var 1)) (mulOk h1.1 h2.2)) ((e_mul (e_bot c (e_var 0)) (e_top c (e_var 1)) (mulOk h1.2 h2.1)).cast (congrArg bI hn))
  · rw [if_neg h0] at k
    have hn : (q.den : Int) * r.num ≠ 0 := Int.mul_ne_zero (den_ne q) (fun z => h0 (Rat.num_eq_zero.mp z))
    refine s_ret (eRat (e_mk c hr tk_cx (e_mul (e_top c (e_var 0)) (e_bot c (e_var 1)) (mulOk h1.1 h2.2)) (e_mul (e_bot c (e_var 0)) (e_top c (e_var 1)) (mulOk h1.2 h2.1)) hn (Nat.le_trans (intBits_mul_le h1.2 h2.1) (by decide))) (rat_div q r)) fun v S' H' st rr => k v S' H' st rr
abbrev spNeg (K : PySem.W.Frag) : Sp := spD (D := { q : Rat // Fit 4000 q }) (fun d => [(tRat K d.1).b]) fun d => .val (tRat K (-d.1))
theorem ok_Ratio_neg (c : Ct P K mg) : GM P w K mg base (He.ga K "Ratio") "__neg__" 5 ["self"] (spNeg K) := by
  refine gm_mk (fd_Ratio_neg c) (fun _ F => bd_Ratio_neg F) (meth_Ratio_neg c) fun fd F => def_ok F sc_Ratio_neg (fun d _ => [some (tRat K d.1)]) ?_
  rintro cdv A outer s H S Q E ⟨q, h1⟩ hr nd k
  refine s_ret (eRat (e_mk c hr tk_cx (e_neg (e_top c (e_var 0))) (e_bot c (e_var 0)) (den_ne q) (Nat.le_trans h1.2 (by decide))) (rat_neg q)) fun v S' H' st rr => k v S' H' st rr
abbrev spUnder (K : PySem.W.Frag) : Sp := spD (D := Fit2 4000) (fun d => [(tRat K d.1.1).b, (tRat K d.1.2).b]) fun d => .val (tB (decide (d.1.1 < d.1.2)))
theorem ok_Ratio_under (c : Ct P K mg) : GM P w K mg base (He.ga K "Ratio") "under" 5 ["self", "other"] (spUnder K) := by
  refine gm_mk (fd_Ratio_under c) (fun _ F => bd_Ratio_under F) (meth_Ratio_under c) fun fd F => def_ok F sc_Ratio_under (fun d _ => [some (tRat K d.1.1), some (tRat K d.1.2)]) ?_
  rintro cdv A outer s H S Q E ⟨⟨q, r⟩, h1, h2⟩ hr nd k
  refine s_ret ((e_lt (e_mul (e_top c (e_var 0)) (e_bot c (e_var 1)) (mulOk h1.1 h2.2)) (e_mul (e_top c (e_var 1)) (e_bot c (e_var 0)) (mulOk h2.1 h1.2))).cast (congrArg bB (decide_eq_decide.mpr (Rat.lt_iff q r).symm))) fun v S' H' st rr => k v S' H' st rr
abbrev spBool (K : PySem.W.Frag) : Sp := spD (D := Rat) (fun q => [(tRat K q).b]) fun q => .val (tB (!decide (q = 0)))
theorem ok_Ratio_bool (c : Ct P K mg) : GM P w K mg base (He.ga K "Ratio") "__bool__" 5 ["self"] (spBool K) := by
  refine gm_mk (fd_Ratio_bool c) (fun _ F => bd_Ratio_bool F) (meth_Ratio_bool c) fun fd F => def_ok F sc_Ratio_bool (fun d _ => [some (tRat K d)]) ?_
  rintro cdv A outer s H S Q E q hr nd k
  refine s_ret ((e_boolI (free_bool c) (e_top c (e_var 0))).cast (congrArg bB ?_)) fun v S' H' st rr => k v S' H' st rr
  by_cases h : q = 0
  · subst h; rfl
  · have : q.num ≠ 0 := fun z => h (Rat.num_eq_zero.mp z)
    simp [h, this]
/-- what is compared with a ratio -/
inductive Oth where
  | rat (r : Rat)
  | int (i : Int)
  | str (x : Str)
  | non
def Oth.mp (K : PySem.W.Frag) : Oth → MP
  | .rat r => tRat K r
  | .int i => tI i
  | .str x => tS x
  | .non => tN
def Oth.eq (q : Rat) : Oth → Bool
  | .rat r => decide (q = r)
  | _ => false
abbrev spREq (K : PySem.W.Frag) : Sp := spD (D := Rat × Oth) (fun d => [(tRat K d.1).b, (d.2.mp K).b]) fun d => .val (tB (d.2.eq d.1))
theorem ok_Ratio_eq (c : Ct P K mg) : GM P w K mg base (He.ga K "Ratio") "__eq__" 5 ["self", "other"] (spREq K) := by
  refine gm_mk (fd_Ratio_eq c) (fun _ F => bd_Ratio_eq F) (meth_Ratio_eq c) fun fd F => def_ok F sc_Ratio_eq (fun d _ => [some (tRat K d.1), some (d.2.mp K)]) ?_
  rintro cdv A outer s H S Q E ⟨q, o⟩ hr nd k
  cases o with
  | rat r =>
    refine s_ret ((e_and (e_isi (free_isinstance c) (e_var 1) (e_cls (glo_Ratio c)) (.own _) (ins_Ratio c).ty (kit_Ratio c)) fun _ => e_and (e_eq (e_top c (e_var 0)) (e_top c (e_var 1))) fun _ => e_one (e_eq (e_bot c (e_var 0)) (e_bot c (e_var 1)))).cast (congrArg bB ?_)) fun v S' H' st rr => k v S' H' st rr
    show (true && (decide (V.int q.num = .int r.num) && decide (V.int (q.den : Int) = .int r.den))) = decide (q = r)
    by_cases h : q = r
    · subst h; simp
    · simp only [Bool.true_and, h, decide_false]
      simp only [Bool.and_eq_false_iff, decide_eq_false_iff_not]
      by_cases h1 : q.num = r.num
      · right
        intro z
        refine h (Rat.ext h1 ?_)
        have z2 : (q.den : Int) = r.den := by injection z
        omega
      · left
        intro z
        exact h1 (by injection z)
  | int i => exact s_ret ((e_and (k := false) (l := true) (e_isi (free_isinstance c) (e_var 1) (e_cls (glo_Ratio c)) (.own _) ty_int (kit_int_Ratio c)) fun z => by cases z)) fun v S' H' st rr => k v S' H' st rr
  | str i => exact s_ret ((e_and (k := false) (l := true) (e_isi (free_isinstance c) (e_var 1) (e_cls (glo_Ratio c)) (.own _) ty_str (kit_str_Ratio c)) fun z => by cases z)) fun v S' H' st rr => k v S' H' st rr
  | non => exact s_ret ((e_and (k := false) (l := true) (e_isi (free_isinstance c) (e_var 1) (e_cls (glo_Ratio c)) (.own _) ty_non (kit_NoneType_Ratio c)) fun z => by cases z)) fun v S' H' st rr => k v S' H' st rr
end
section
open PySem.Builtin.Int (intBits)
variable {P : Program} {w : World} {K : PySem.W.Frag} {mg : Str → Option Value} {base : Heap}
theorem fit_zero : Fit 4000 0 := by constructor <;> decide
theorem divInt_1 (n : Int) : Rat.divInt n 1 = (n : Rat) := by
  have := Rat.num_divInt_den (n : Rat)
  rw [Rat.num_intCast, Rat.den_intCast] at this
  exact this
abbrev spWhole (K : PySem.W.Frag) : Sp := spD (D := Int) (fun n => [(tR (He.ga K "Ratio")).b, bI n]) fun n => .val (tRat K (n : Rat))
theorem ok_Ratio_whole (c : Ct P K mg) : GK P w K mg base (He.ga K "Ratio") "whole" 5 ["cls", "n"] (spWhole K) := by
  refine gk_mk (fd_Ratio_whole c) (fun _ F => bd_Ratio_whole F) (ck_Ratio_whole c).rd (ck_Ratio_whole c).cm fun fd F => def_ok F sc_Ratio_whole (fun d _ => [some (tR (He.ga K "Ratio")), some (tI d)]) ?_
  rintro cdv A outer s H S Q E n hr nd k
  have hz : intBits ((n, (1 : Int)) : Int × Int).2 ≤ 9000 := by show intBits 1 ≤ 9000; decide
  refine s_ret (R := (tRat K (n : Rat)).b) ?_ fun v S' H' st rr => k v S' H' st rr
  rw [← divInt_1 n]
  exact e_makeL (i := 0) (ok_Ratio c) hr tk_cx (⟨(n, 1), hz⟩ : { d : Int × Int // intBits d.2 ≤ 9000 }) (a_cons (e_var 1) (a_cons e_int a_nil))
theorem e_whole {X : Cx} {B : Bs} {Γ : Gm} {O : Om} {e : Expr} {p apos pos : Pos} {W : WX} {n : Int} (c : Ct X.prog X.K X.mg) (hr : Room 5 X.A) (tk : Takes X W) (ha : EJ X B Γ O e (bI n)) (hg : Gl X "Ratio" := by rfl)
    (hst : starEach [e] X.env = (false, eval e X.env) :: starEach [] X.env := by rfl) {pl : Sem Bool}
    (ht : eval (.Call (.Attribute (.Name "Ratio" p) "whole" apos) [e] [] pos) X.env = (do
      let ov ← eval (.Name "Ratio" p) X.env
      standAt apos.atName
      let (f, first) ← holding [ov] (getMethod ov "whole" pl)
      callWith pos f first (backTo pos (starEach [e] X.env)) (backToKw pos (keywordEach [] X.env))) := by rfl) : EJ X B Γ O (.Call (.Attribute (.Name "Ratio" p) "whole" apos) [e] [] pos) (tRat X.K (n : Rat)).b :=
  e_cmeth (out := fun n : Int => .val (tRat X.K (n : Rat))) (pl := pl) (ok_Ratio_whole c) hr tk n (e_cls (glo_Ratio c) hg) (a_cons ha a_nil hst) rfl hst rfl ht
section
variable {X : Cx} {B : Bs} {Γ : Gm} {O : Om} {e a b : Expr} {p apos pos : Pos} {W : WX} {q r : Rat}
theorem r_add (c : Ct X.prog X.K X.mg) (hr : Room 5 X.A) (ha : EJ X B Γ O a (tRat X.K q).b) (hb : EJ X B Γ O b (tRat X.K r).b) (h1 : Fit 4000 q) (h2 : Fit 4000 r) : EJ X B Γ O (.BinOp a .Add b pos) (tRat X.K (q + r)).b := e_ownop (ok_Ratio_add c) (sf_Ratio c) hr (⟨(q, r), h1, h2⟩ : Fit2 4000) ha hb
theorem r_sub (c : Ct X.prog X.K X.mg) (hr : Room 5 X.A) (ha : EJ X B Γ O a (tRat X.K q).b) (hb : EJ X B Γ O b (tRat X.K r).b) (h1 : Fit 4000 q) (h2 : Fit 4000 r) : EJ X B Γ O (.BinOp a .Sub b pos) (tRat X.K (q - r)).b := e_ownop (ok_Ratio_sub c) (sf_Ratio c) hr (⟨(q, r), h1, h2⟩ : Fit2 4000) ha hb
theorem r_mul (c : Ct X.prog X.K X.mg) (hr : Room 5 X.A) (ha : EJ X B Γ O a (tRat X.K q).b) (hb : EJ X B Γ O b (tRat X.K r).b) (h1 : Fit 4000 q) (h2 : Fit 4000 r) : EJ X B Γ O (.BinOp a .Mult b pos) (tRat X.K (q * r)).b := e_ownop (ok_Ratio_mul c) (sf_Ratio c) hr (⟨(q, r), h1, h2⟩ : Fit2 4000) ha hb
theorem r_neg (c : Ct X.prog X.K X.mg) (hr : Room 5 X.A) (ha : EJ X B Γ O a (tRat X.K q).b) (h1 : Fit 4000 q) : EJ X B Γ O (.UnaryOp .USub a pos) (tRat X.K (-q)).b := e_ownneg (ok_Ratio_neg c) hr (⟨q, h1⟩ : { q : Rat // Fit 4000 q }) ha
theorem r_eq (c : Ct X.prog X.K X.mg) (hr : Room 5 X.A) (ha : EJ X B Γ O a (tRat X.K q).b) (hb : EJ X B Γ O b (tRat X.K r).b) : CJ X B Γ O (.Compare a [.Eq] [b] pos) (decide (q = r)) := c_owneq (ok_Ratio_eq c) hr ((q, .rat r) : Rat × Oth) ha hb
theorem r_ne (c : Ct X.prog X.K X.mg) (hr : Room 6 X.A) (ha : EJ X B Γ O a (tRat X.K q).b) (hb : EJ X B Γ O b (tRat X.K r).b) : CJ X B Γ O (.Compare a [.NotEq] [b] pos) (!decide (q = r)) := c_ownne (ok_Ratio_eq c) (ne_Ratio c) (mo_Ratio c) hr ((q, .rat r) : Rat × Oth) ha hb
theorem r_eqI {i : Int} (c : Ct X.prog X.K X.mg) (hr : Room 5 X.A) (ha : EJ X B Γ O a (tRat X.K q).b) (hb : EJ X B Γ O b (bI i)) : CJ X B Γ O (.Compare a [.Eq] [b] pos) false := c_owneqV (ok_Ratio_eq c) hr ((q, .int i) : Rat × Oth) (nf_Ratio_int c) ha hb
theorem r_eqS {i : Str} (c : Ct X.prog X.K X.mg) (hr : Room 5 X.A) (ha : EJ X B Γ O a (tRat X.K q).b) (hb : EJ X B Γ O b (bS i)) : CJ X B Γ O (.Compare a [.Eq] [b] pos) false := c_owneqV (ok_Ratio_eq c) hr ((q, .str i) : Rat × Oth) (nf_Ratio_str c) ha hb
theorem r_bool (c : Ct X.prog X.K X.mg) (hr : Room 7 X.A) (ha : EJ X B Γ O e (tRat X.K q).b) (hg : Gl X "bool" := by rfl) (hs : starEach [e] X.env = (false, eval e X.env) :: starEach [] X.env := by rfl) : EJ X B Γ O (.Call (.Name "bool" p) [e] [] pos) (bB (!decide (q = 0))) := e_boolO (free_bool c) (ok_Ratio_bool c) hr q ha rfl rfl hg hs
theorem r_under (c : Ct X.prog X.K X.mg) (hr : Room 5 X.A) (tk : Takes X W) (ha : EJ X B Γ O a (tRat X.K q).b) (hb : EJ X B Γ O b (tRat X.K r).b) (h1 : Fit 4000 q) (h2 : Fit 4000 r) {pl : Sem Bool}
    (hst : starEach [b] X.env = (false, eval b X.env) :: starEach [] X.env := by rfl)
    (ht : eval (.Call (.Attribute a "under" apos) [b] [] pos) X.env = (do
      let ov ← eval a X.env
      standAt apos.atName
      let (f, first) ← holding [ov] (getMethod ov "under" pl)
      callWith pos f first (backTo pos (starEach [b] X.env)) (backToKw pos (keywordEach [] X.env))) := by rfl) : EJ X B Γ O (.Call (.Attribute a "under" apos) [b] [] pos) (bB (decide (q < r))) :=
  e_meth (out := fun d : Fit2 4000 => .val (tB (decide (d.1.1 < d.1.2)))) (pl := pl) (cls_Ratio c) (ok_Ratio_under c) hr tk (⟨(q, r), h1, h2⟩ : Fit2 4000) ha tO.ins (a_cons hb a_nil hst) rfl hst rfl ht
theorem r_quot (c : Ct X.prog X.K X.mg) (hr : Room 5 X.A) (tk : Takes X W) (ha : EJ X B Γ O a (tRat X.K q).b) (hb : EJ X B Γ O b (tRat X.K r).b) (h1 : Fit 4000 q) (h2 : Fit 4000 r) (h0 : r ≠ 0) {pl : Sem Bool}
    (hst : starEach [b] X.env = (false, eval b X.env) :: starEach [] X.env := by rfl)
    (ht : eval (.Call (.Attribute a "quotient" apos) [b] [] pos) X.env = (do
      let ov ← eval a X.env
      standAt apos.atName
      let (f, first) ← holding [ov] (getMethod ov "quotient" pl)
      callWith pos f first (backTo pos (starEach [b] X.env)) (backToKw pos (keywordEach [] X.env))) := by rfl) : EJ X B Γ O (.Call (.Attribute a "quotient" apos) [b] [] pos) (tRat X.K (q / r)).b := by
  have z := e_meth (B := B) (Γ := Γ) (O := O) (W := W) (apos := apos) (pos := pos) (pl := pl) (cls_Ratio c) (ok_Ratio_quotient c) hr tk (⟨(q, r), h1, h2⟩ : Fit2 4000) ha tO.ins (a_cons hb a_nil hst) rfl hst rfl ht
  dsimp only at z
  rw [if_neg h0] at z
  exact z
theorem r_quotX (c : Ct X.prog X.K X.mg) (hr : Room 5 X.A) (tk : Takes X W) (ha : EJ X B Γ O a (tRat X.K q).b) (hb : EJ X B Γ O b (tRat X.K 0).b) (h1 : Fit 4000 q) {pl : Sem Bool}
    (hst : starEach [b] X.env = (false, eval b X.env) :: starEach [] X.env := by rfl)
    (ht : eval (.Call (.Attribute a "quotient" apos) [b] [] pos) X.env = (do
      let ov ← eval a X.env
      standAt apos.atName
      let (f, first) ← holding [ov] (getMethod ov "quotient" pl)
      callWith pos f first (backTo pos (starEach [b] X.env)) (backToKw pos (keywordEach [] X.env))) := by rfl) : XJ X B Γ O W (.Call (.Attribute a "quotient" apos) [b] [] pos) (xBadNumber X.K 0) := by
  have z := e_meth (B := B) (Γ := Γ) (O := O) (W := W) (apos := apos) (pos := pos) (pl := pl) (cls_Ratio c) (ok_Ratio_quotient c) hr tk (⟨(q, 0), h1, fit_zero⟩ : Fit2 4000) ha tO.ins (a_cons hb a_nil hst) rfl hst rfl ht
  dsimp only at z
  rw [if_pos rfl] at z
  exact z
/-- == of ratios in lists -/
theorem tRat_inj {S : Hp} {v : V} (h1 : (tRat K q).R S v) (h2 : (tRat K r).R S v) : q = r := by
  obtain ⟨a, dx, fs, rfl, ha, _, hf⟩ := h1
  obtain ⟨b, dy, gs, e, hb, _, hg⟩ := h2
  cases e
  rw [ha] at hb
  cases hb
  obtain ⟨v1, e1, t1⟩ := hf.get (f := "top") (R := tI q.num) rfl
  obtain ⟨v2, e2, t2⟩ := hg.get (f := "top") (R := tI r.num) rfl
  obtain ⟨u1, f1, s1⟩ := hf.get (f := "bottom") (R := tI q.den) rfl
  obtain ⟨u2, f2, s2⟩ := hg.get (f := "bottom") (R := tI r.den) rfl
  cases e1.symm.trans e2
  cases f1.symm.trans f2
  have n1 : V.int q.num = V.int r.num := t1.symm.trans t2
  have n2 : V.int (q.den : Int) = V.int r.den := s1.symm.trans s2
  injection n1 with n1
  injection n2 with n2
  exact Rat.ext n1 (by omega)
theorem enc_rat (c : Ct X.prog X.K X.mg) : Enc X 5 (tRat X.K) := fun x y => (rcm_own (ok_Ratio_eq c) ((x, .rat y) : Rat × Oth)).eqM (fun _ _ _ h => let ⟨a, _, _, e, _⟩ := h; ⟨a, e⟩) (fun _ _ _ h => let ⟨a, _, _, e, _⟩ := h; ⟨a, e⟩) fun S H v sm h1 h2 => decide_eq_true (tRat_inj h1 h2)
end
/-! ### total, greatest -/
def psum (qs : List Rat) : Rat := qs.foldl (· + ·) 0
theorem psum_snoc (qs : List Rat) (q : Rat) : psum (qs ++ [q]) = psum qs + q := by unfold psum; rw [List.foldl_append] <;> rfl
abbrev Sums : Type := { qs : List Rat // (∀ q ∈ qs, Fit 4000 q) ∧ ∀ i, Fit 4000 (psum (qs.take i)) }
abbrev spTotal (K : PySem.W.Frag) : Sp := spD (D := Sums) (fun d => [bQ K (d.1.map (tRat K))]) fun d => .val (tRat K (psum d.1))
theorem ok_total (c : Ct P K mg) : GF P w K mg base "total" 6 ["ratios"] (spTotal K) := by
  refine gf_mk (fd_total c) (fun _ F => bd_total F) (glo_total c) fun fd F => def_ok F sc_total (fun d H => [some ((bQ K (d.1.map (tRat K))).at_ H), none, none]) ?_
  rintro cdv A outer s H S Q E ⟨qs, h1, h2⟩ hr nd k
  refine s_set (i := 1) (R := tRat K ((0 : Int) : Rat)) (e_whole c (hr.mono (by decide)) tk_cx e_int) ?_
  refine s_for (β := Nat) (fun i => [some ((bQ K (qs.map (tRat K))).at_ H), some (tRat K (psum (qs.take i))), none]) (fun _ => []) (fun i s => s = i) 0 rfl (i_seq 0) (fun _ _ h => by cases h) ?_ ?_ own_cx
  · rintro G i j hi rfl
    have hi : j < qs.length := by simpa using hi
    refine ⟨_, [2], g_name (j := 2), ?_⟩
    rw [nth_map hi]
    refine s_set (i := 1) (R := tRat K (psum (qs.take (j + 1)))) (eRat (r_add c (hr.mono (by decide)) (e_var 1) (e_var 2) (h2 j) (h1 _ (List.getElem_mem hi))) ?_) ?_
    · rw [← psum_snoc, List.take_succ, List.getElem?_eq_getElem hi]
      rfl
    · exact s_nil (NX.at_ (j + 1) rfl ⟨rfl, rfl, trivial⟩)
  · rintro i rfl
    refine s_ret (e_var 1) fun v S' H' st rr => k v S' H' st ?_
    rw [List.length_map, List.take_length] at rr
    exact rr
def gmax (q : Rat) (qs : List Rat) : Rat := qs.foldl (fun a x => if a < x then x else a) q
theorem gmax_snoc (q : Rat) (qs : List Rat) (x : Rat) : gmax q (qs ++ [x]) = if gmax q qs < x then x else gmax q qs := by unfold gmax; rw [List.foldl_append] <;> rfl
theorem gmax_mem (q : Rat) : ∀ qs : List Rat, gmax q qs = q ∨ gmax q qs ∈ qs := by
  intro qs
  induction qs generalizing q with
  | nil => exact .inl rfl
  | cons x qs ih =>
    show gmax (if q < x then x else q) qs = q ∨ gmax (if q < x then x else q) qs ∈ x :: qs
    rcases ih (if q < x then x else q) with h | h
    · rw [h]
      split
      · exact .inr List.mem_cons_self
      · exact .inl rfl
    · exact .inr (List.mem_cons_of_mem _ h)
theorem gmax_le (q : Rat) : ∀ qs : List Rat, q ≤ gmax q qs := by
  intro qs
  induction qs generalizing q with
  | nil => exact Rat.le_refl
  | cons x qs ih =>
    show q ≤ gmax (if q < x then x else q) qs
    refine Rat.le_trans ?_ (ih _)
    split
    · rename_i h; exact Rat.le_of_lt h
    · exact Rat.le_refl
theorem gmax_ge (q : Rat) : ∀ (qs : List Rat), ∀ x ∈ qs, x ≤ gmax q qs := by
  intro qs
  induction qs generalizing q with
  | nil => intro x hx; cases hx
  | cons y qs ih =>
    intro x hx
    show x ≤ gmax (if q < y then y else q) qs
    rcases List.mem_cons.mp hx with rfl | hx
    · refine Rat.le_trans ?_ (gmax_le _ qs)
      split
      · exact Rat.le_refl
      · rename_i h; exact Rat.not_lt.mp h
    · exact ih _ x hx
abbrev spGreatest (K : PySem.W.Frag) : Sp := spD (D := { d : Rat × List Rat // ∀ q ∈ d.1 :: d.2, Fit 4000 q }) (fun d => [bQ K ((d.1.1 :: d.1.2).map (tRat K))]) fun d => .val (tRat K (gmax d.1.1 (d.1.1 :: d.1.2)))
theorem ok_greatest (c : Ct P K mg) : GF P w K mg base "greatest" 6 ["ratios"] (spGreatest K) := by
  refine gf_mk (fd_greatest c) (fun _ F => bd_greatest F) (glo_greatest c) fun fd F => def_ok F sc_greatest (fun d H => [some ((bQ K ((d.1.1 :: d.1.2).map (tRat K))).at_ H), none, none]) ?_
  rintro cdv A outer s H S Q E ⟨⟨q, qs⟩, h1⟩ hr nd k
  dsimp only at h1 k ⊢
  refine s_set (i := 1) (R := tRat K q) (e_ixQ (e_seqV 0) e_int (by simp [atI, ixN])) ?_
  refine s_for (β := Nat) (fun i => [some ((bQ K ((q :: qs).map (tRat K))).at_ H), some (tRat K (gmax q ((q :: qs).take i))), none]) (fun _ => []) (fun i s => s = i) 0 rfl (i_seq 0) (fun _ _ h => by cases h) ?_ ?_ own_cx
  · rintro G i j hi rfl
    have hi : j < (q :: qs).length := by simpa using hi
    refine ⟨_, [2], g_name (j := 2), ?_⟩
    rw [nth_map hi]
    have hf : Fit 4000 (gmax q ((q :: qs).take j)) := by
      rcases gmax_mem q ((q :: qs).take j) with h | h
      · rw [h]; exact h1 _ List.mem_cons_self
      · exact h1 _ (List.mem_of_mem_take h)
    have he : gmax q ((q :: qs).take (j + 1)) = if gmax q ((q :: qs).take j) < (q :: qs)[j] then (q :: qs)[j] else gmax q ((q :: qs).take j) := by
      rw [← gmax_snoc, List.take_succ, List.getElem?_eq_getElem hi]
      rfl
    refine s_if (t_val (r_under c (hr.mono (by decide)) tk_cx (e_var 1) (e_var 2) hf (h1 _ (List.getElem_mem hi)))) (fun hk => ?_) fun hk => ?_
    · rw [if_pos (of_decide_eq_true hk)] at he
      refine s_set (i := 1) (R := tRat K (gmax q ((q :: qs).take (j + 1)))) (eRat (e_var 2) he.symm) ?_
      refine s_skip ?_
      exact s_nil (NX.at_ (j + 1) rfl ⟨rfl, rfl, trivial⟩)
    · rw [if_neg (of_decide_eq_false hk)] at he
      refine s_skip ?_
      refine s_nil (NX.at_ (j + 1) rfl ?_)
      rw [he]
      exact ⟨rfl, rfl, trivial⟩
  · rintro i rfl
    refine s_ret (e_var 1) fun v S' H' st rr => k v S' H' st ?_
    rw [List.length_map, List.take_length] at rr
    exact rr
section
variable {X : Cx} {B : Bs} {Γ : Gm} {O : Om} {e : Expr} {p pos : Pos} {q : Rat} {qs : List Rat}
theorem e_total (c : Ct X.prog X.K X.mg) (hr : Room 6 X.A) (he : EJ X B Γ O e (bQ X.K (qs.map (tRat X.K)))) (h1 : ∀ q ∈ qs, Fit 4000 q) (h2 : ∀ i, Fit 4000 (psum (qs.take i))) (hg : Gl X "total" := by rfl)
    (hs : starEach [e] X.env = (false, eval e X.env) :: starEach [] X.env := by rfl) : EJ X B Γ O (.Call (.Name "total" p) [e] [] pos) (tRat X.K (psum qs)).b :=
  e_call (out := fun d : Sums => .val (tRat X.K (psum d.1))) (ok_total c) hr tk_no ⟨qs, h1, h2⟩ (a_cons he a_nil hs) hg (by decide) hs rfl
theorem e_greatest (c : Ct X.prog X.K X.mg) (hr : Room 6 X.A) (he : EJ X B Γ O e (bQ X.K ((q :: qs).map (tRat X.K)))) (h1 : ∀ x ∈ q :: qs, Fit 4000 x) (hg : Gl X "greatest" := by rfl)
    (hs : starEach [e] X.env = (false, eval e X.env) :: starEach [] X.env := by rfl) : EJ X B Γ O (.Call (.Name "greatest" p) [e] [] pos) (tRat X.K (gmax q (q :: qs))).b :=
  e_call (out := fun d : { d : Rat × List Rat // ∀ q ∈ d.1 :: d.2, Fit 4000 q } => .val (tRat X.K (gmax d.1.1 (d.1.1 :: d.1.2)))) (ok_greatest c) hr tk_no ⟨(q, qs), h1⟩ (a_cons he a_nil hs) hg (by decide) hs rfl
end
end
section
open PySem.Builtin.Int (intBits)
variable {P : Program} {w : World} {K : PySem.W.Frag} {mg : Str → Option Value} {base : Heap}
/-! ### the law's draws -/
def mPool : MO := ⟨fun _ o => ∃ x n b, o = .lst [.int x, .int n, .bl b], fun _ h => h⟩
theorem pool_open : ∀ S o, mPool.R S o → ∃ i : Int × Int × Bool, (mL [tI i.1, tI i.2.1, tB i.2.2]).R S o := fun S o ⟨x, n, b, e⟩ => ⟨(x, n, b), _, e, rfl, rfl, rfl, trivial⟩
theorem pool_close {x n : Int} {b : Bool} : ∀ S o, (mL [tI x, tI n, tB b]).R S o → mPool.R S o := fun S o ⟨vs, e, h⟩ => by
  match vs, h with
  | [u, v, t], h => exact ⟨x, n, b, by rw [e, show u = .int x from h.1, show v = .int n from h.2.1, show t = .bl b from h.2.2.1]⟩
theorem ok_l_pool (c : Ct P K mg) : GF P w K mg base "_law_pool" 1 ["_law_cell_here"] (spD (D := Int) (fun d => [bI d]) fun _ => .new mPool) := by
  refine gf_mk (fd_l_pool c) (fun _ F => bd_l_pool F) (glo_l_pool c) fun fd F => def_ok F sc_l_pool (fun d _ => [some (tI d)]) ?_
  rintro cdv A outer s H S Q E x hr nd k
  exact s_retNew ((n_lst (Rs := [tI x, tI 0, tB _]) (a_cons (e_var 0) (a_cons e_int (a_cons (e_ge (e_var 0) (e_pow e_int e_int ⟨by decide, by decide, by decide⟩)) a_nil)))).imp pool_close) fun p o S' H' st n1 n2 h1 h2 => k p o S' H' st n1 n2 h1 h2
abbrev Lim : Type := { l : Int // 0 < l ∧ intBits l ≤ 9000 }
theorem ok_l_take (c : Ct P K mg) : GF P w K mg base "_law_take" 1 ["_law_pool_here", "_law_limit"] (spM (D := Lim) (ι := Int) mPool (fun d => [bI d.1]) (fun d i => 0 ≤ i ∧ i < d.1) fun _ i => tI i) := by
  refine gf_mk (fd_l_take c) (fun _ F => bd_l_take F) (glo_l_take c) fun fd F => defM_ok F sc_l_take (fun d p _ => [some (tR p), some (tI d.1), none, none]) ?_
  rintro cdv A outer s H0 H S Q E ⟨l, hl, hz⟩ p hr nd k
  refine SJ.openO pool_open fun i => ?_
  obtain ⟨x, n, b⟩ := i
  have hl0 : l ≠ 0 := by omega
  have hmod : ∀ z : Int, 0 ≤ z.fmod l ∧ z.fmod l < l := fun z => by
    rw [Int.fmod_eq_emod_of_nonneg _ (by omega)]
    exact ⟨Int.emod_nonneg _ hl0, Int.emod_lt_of_pos _ hl⟩
  refine s_setix (i := 0) (j := 1) (R := tI (n + 1)) (e_add (e_ixL (e_lst_own 0 List.mem_cons_self) e_int rfl) e_int) e_int ?_ rfl rfl
  refine s_if (t_val (e_ixL (e_lst_own 0 List.mem_cons_self) e_int rfl)) (fun hk => ?_) fun hk => ?_
  · refine s_set (i := 2) (R := tI (x.fmod l)) (e_mod (e_intI (free_int c) (e_ixL (e_lst_own 0 List.mem_cons_self) e_int rfl)) (e_var 1) hl0) ?_
    refine s_setix (i := 0) (j := 0) (R := tI (x.fdiv l)) (e_fdiv (e_intI (free_int c) (e_ixL (e_lst_own 0 List.mem_cons_self) e_int rfl)) (e_var 1) hl0 (log2_lt_of_bits hz (by decide))) e_int ?_ rfl rfl
    exact s_retM (P := fun i => i = x.fmod l) (R := tI) (EJ.mi (e_var 2)) fun j v S' H' σ hj t hv => k j v S' H' σ _ (by rw [hj]; exact hmod x) (t.closeO pool_close) hv
  · refine s_skip ?_
    refine s_set (i := 3) (R := tI ((x * 7919 + (n + 1) * 104729 + 13).fmod 2147483647)) (e_mod (e_intI (free_int c) (e_add (e_add (e_mul (e_ixL (e_lst_own 0 List.mem_cons_self) e_int rfl) e_int (.of_right (by decide))) (e_mul (e_ixL (e_lst_own 0 List.mem_cons_self) e_int rfl) e_int (.of_right (by decide)))) e_int)) e_int (by decide)) ?_
    refine s_retM (P := fun i => ∃ z : Int, i = z.fmod l) (R := tI) ((EJ.mi (e_mod (e_fdiv (e_intI (free_int c) (e_mod (e_pow (e_var 3) e_int ⟨by decide, by decide, ?_⟩) e_int (by decide))) e_int (by decide) (by decide)) (e_var 1) hl0)).imp fun i hi => ⟨i, ⟨_, hi⟩, rfl⟩) fun j v S' H' σ ⟨z, hj⟩ t hv => k j v S' H' σ _ (by rw [hj]; exact hmod z) (t.closeO pool_close) hv
    rw [Int.fmod_eq_emod_of_nonneg _ (by decide)]
    omega
theorem ok_l_cell (c : Ct P K mg) : GF P w K mg base "_law_cell" 1 ["_law_script", "_law_k"] (spD (D := List Int × Nat) (fun d => [bL K (d.1.map tI), bI d.2]) fun d => .val (tI (d.1.getD d.2 0))) := by
  refine gf_mk (fd_l_cell c) (fun _ F => bd_l_cell F) (glo_l_cell c) fun fd F => def_ok F sc_l_cell (fun d H => [some ((bL K (d.1.map tI)).at_ H), some (tI d.2)]) ?_
  rintro cdv A outer s H S Q E ⟨ns, i⟩ hr nd k
  refine s_if (t_lt (e_var 1) (e_len (free_len c) (EJ.lentQ (e_lentV 0)))) (fun hk => ?_) fun hk => ?_
  · have hi : i < ns.length := by simpa using hk
    refine s_ret (e_ixL (R := tI (ns.getD i 0)) (e_lentV 0) (e_var 1) ?_) fun v S' H' st rr => k v S' H' st rr
    unfold atI ixN
    simp [hi]
  · refine s_skip ?_
    have hi : ¬ i < ns.length := by simpa using hk
    refine s_ret e_int fun v S' H' st rr => k v S' H' st ?_
    have e : ns.getD i 0 = 0 := by simp [List.getD, List.getElem?_eq_none (Nat.le_of_not_lt hi)]
    rw [show ((ns, i) : List Int × Nat).1.getD ((ns, i) : List Int × Nat).2 0 = 0 from e]
    exact rr
/-- a draw below a number -/
theorem d_take {X : Cx} {B : Bs} {Γ : Gm} {O : Om} {e : Expr} {p pos p1 : Pos} {W : WX} {i : Nat} {q : Addr} {nm : Str} {l : Int} (c : Ct X.prog X.K X.mg) (hr : Room 1 X.A) (tk : Takes X W) (he : EJ X B Γ O e (bI l)) (hl : 0 < l) (hz : intBits l ≤ 9000) (hO : (q, mPool) ∈ O) (hG : Γ[i]? = some (some (tR q)) := by rfl) (hN : X.N[i]? = some nm := by rfl)
    (hv : Vis X.env.scope nm := by first | exact Or.inl rfl | exact Or.inr (Or.inl rfl) | exact Or.inr (Or.inr rfl)) (hd : (nm == ("__debug__" : Str)) = false := by decide) (hcd : (nm == ("__classdict__" : Str)) = false := by decide)
    (hg : Gl X "_law_take" := by rfl) (hs : starEach [.Name nm p1, e] X.env = (false, eval (.Name nm p1) X.env) :: starEach [e] X.env := by rfl) (hs2 : starEach [e] X.env = (false, eval e X.env) :: starEach [] X.env := by rfl) (hpl : (backTo pos (starEach [e] X.env)).any (·.1) = false := by rfl) : EM X B Γ O (.Call (.Name "_law_take" p) [.Name nm p1, e] [] pos) (fun i => 0 ≤ i ∧ i < l) tI :=
  m_call (i := i) (ok_l_take c) hr tk (⟨l, hl, hz⟩ : Lim) (Rs := [tI l]) (a_cons he a_nil hs2) hO rfl hG hN hv hd hcd hg (by decide) hs hpl
end
section
open PySem.Builtin.Int (intBits)
variable {P : Program} {w : World} {K : PySem.W.Frag} {mg : Str → Option Value} {base : Heap}
theorem ok_l_common (c : Ct P K mg) : GF P w K mg base "_law_common" 1 ["_law_a", "_law_b"] spCommon := by
  refine gf_mk (fd_l_common c) (fun _ F => bd_l_common F) (glo_l_common c) fun fd F => def_ok F sc_l_common (fun d _ => [some (tI d.1), some (tI d.2), none, none]) ?_
  rintro cdv A outer s H S Q E ⟨a, b⟩ hr nd q
  refine s_par (i := 2) (j := 3) ((e_abs (free_abs c) (e_var 0)).cast (congrArg bI (abs_ite a))) ((e_abs (free_abs c) (e_var 1)).cast (congrArg bI (abs_ite b))) ?_
  refine s_while (β := Nat × Nat) (fun s => [some (tI a), some (tI b), some (tI s.1), some (tI s.2)]) (fun _ => []) (fun s => Nat.gcd s.1 s.2 = Int.gcd a b) (fun s => s.2) (fun s => decide ((0 : Int) < s.2)) (a.natAbs, b.natAbs) rfl ?_ ?_ ?_ own_cx
  · rintro ⟨x, y⟩ hp
    exact t_gt (e_var 3) e_int
  · rintro ⟨x, y⟩ h3 hk
    have hy : y ≠ 0 := fun z => by simp [z] at hk
    refine s_par (i := 2) (j := 3) (e_var 3) ((e_mod (e_var 2) (e_var 3) (by omega)).cast (congrArg bI (fmod_nat x y))) ?_
    exact s_nil (NX.at_ (y, x % y) ⟨(gcd_step x y).trans h3, Nat.mod_lt _ (Nat.pos_of_ne_zero hy)⟩ Gle.rfl')
  · rintro ⟨x, y⟩ h3 hk
    refine s_ret (e_var 2) fun v S' H' st r => q v S' H' st ?_
    have hy : y = 0 := by
      have := of_decide_eq_false hk
      omega
    subst hy
    have h3' : Nat.gcd x 0 = Int.gcd a b := h3
    rw [Nat.gcd_zero_right] at h3'
    rw [← h3']
    exact r
abbrev Two2 (n : Nat) : Type := { d : Int × Int // d.2 ≠ 0 ∧ intBits d.1 ≤ n ∧ intBits d.2 ≤ n }
theorem ok_l_terms (c : Ct P K mg) : GF P w K mg base "_law_terms" 2 ["_law_a", "_law_b"] (spD (D := Two2 4000) (fun d => [bI d.1.1, bI d.1.2]) fun d => .val (tL K ([(Rat.divInt d.1.1 d.1.2).num, ((Rat.divInt d.1.1 d.1.2).den : Int)].map tI))) := by
  refine gf_mk (fd_l_terms c) (fun _ F => bd_l_terms F) (glo_l_terms c) fun fd F => def_ok F sc_l_terms (fun d _ => [some (tI d.1.1), some (tI d.1.2), none]) ?_
  rintro cdv A outer s H S Q E ⟨⟨a, b⟩, hb, h1, h2⟩ hr nd q
  refine s_set (i := 2) (R := tI (Int.gcd a b)) (e_call (ok_l_common c) (hr.mono (by decide)) tk_cx (a, b) (a_cons (e_var 0) (a_cons (e_var 1) a_nil))) ?_
  refine s_ifJ [some (tI a), some (tI b), some (tI (gs a b))] (t_lt (e_var 1) e_int) (fun hk => ?_) (fun hk => ?_) ?_
  · have hb : b < 0 := by simpa using hk
    refine s_set (i := 2) (R := tI (gs a b)) ((e_neg (e_var 2)).cast (congrArg bI (by unfold gs; rw [if_pos hb]))) ?_
    exact s_meet
  · have hb : ¬ b < 0 := by simpa using hk
    have e : gs a b = Int.gcd a b := by unfold gs; rw [if_neg hb]
    rw [e]
    exact s_meet
  have hz : (gs a b).natAbs.log2 < 9000 := log2_lt_of_bits (Nat.le_trans (bits_gs hb h2) (by decide)) (by decide)
  refine s_ret (e_lst (Rs := [tI (Rat.divInt a b).num, tI (Rat.divInt a b).den]) (a_cons ((e_fdiv (e_var 0) (e_var 2) (gs_ne hb) hz).cast (congrArg bI (top_ok hb))) (a_cons ((e_fdiv (e_var 1) (e_var 2) (gs_ne hb) hz).cast (congrArg bI (bot_ok hb))) a_nil))) fun v S' H' st r => q v S' H' st r
/-- one draw of a number -/
theorem ok_l_number (c : Ct P K mg) : GF P w K mg base "_law_number" 2 ["_law_pool_here"] (spM (D := Unit) (ι := Int) mPool (fun _ => []) (fun _ i => intBits i ≤ 110) fun _ i => tI i) := by
  refine gf_mk (fd_l_number c) (fun _ F => bd_l_number F) (glo_l_number c) fun fd F => defM_ok F sc_l_number (fun d p _ => [some (tR p), none]) ?_
  rintro cdv A outer s H0 H S Q E d p hr nd k
  have small : ∀ i : Int, -(2 ^ 109) < i → i < 2 ^ 109 → intBits i ≤ 110 := fun i h1 h2 => intBits_le_iff.mpr (by omega)
  refine s_setM (i := 1) (d_take (i := 0) c (hr.mono (by decide)) tk_cx e_int (by decide) (by decide) List.mem_cons_self) fun j hj => ?_
  refine s_if (t_eq (e_var 1) e_int) (fun hk => ?_) fun hk => ?_
  · refine s_retM (m_sub (d_take (i := 0) c (hr.mono (by decide)) tk_cx (e_pow e_int e_int ⟨by decide, by decide, by decide⟩) (by decide) (by decide +kernel) List.mem_cons_self) (EJ.mi (e_pow e_int e_int ⟨by decide, by decide, by decide⟩))) fun j v S' H' σ ⟨i1, i2, h1, h2, h3⟩ t hv => k j v S' H' σ _ (small j ?_ ?_) t hv
    · have : ((10 : Int) ^ (29 : Int).toNat) < 2 ^ 109 := by decide
      omega
    · have : ((10 : Int) ^ (30 : Int).toNat) < 2 ^ 109 := by decide
      have : (0 : Int) ≤ ((10 : Int) ^ (29 : Int).toNat) := by decide
      omega
  · refine s_skip ?_
    refine s_if (t_eq (e_var 1) e_int) (fun hk => ?_) fun hk => ?_
    · exact s_retM (EJ.mi e_int) fun j v S' H' σ hj t hv => k j v S' H' σ _ (by rw [hj]; decide) t hv
    · refine s_skip ?_
      refine s_retM (m_sub (d_take (i := 0) c (hr.mono (by decide)) tk_cx e_int (by decide) (by decide) List.mem_cons_self) (EJ.mi e_int)) fun j v S' H' σ ⟨i1, i2, h1, h2, h3⟩ t hv => k j v S' H' σ _ (small j (by omega) (by omega)) t hv
theorem kit_int_bool : PySem.W.kitOne K (.type "int") (.type "bool") = some false := by kernel_rfl
theorem divInt_mul3 {a b : Int} (hb : b ≠ 0) : Rat.divInt (-3 * a) (-3 * b) = Rat.divInt a b := (Rat.divInt_eq_divInt_iff (by omega) hb).mpr (by grind)
theorem num_zero {a b : Int} (hb : b ≠ 0) : (Rat.divInt a b = 0) ↔ a = 0 := by
  have e := Rat.divInt_eq_divInt_iff (n₁ := a) (n₂ := 0) hb (show (1 : Int) ≠ 0 by decide)
  rw [Rat.zero_divInt] at e
  rw [e]
  omega
theorem ok_l_is (c : Ct P K mg) : GF P w K mg base "_law_is" 9 ["_law_told", "_law_a", "_law_b"] (spD (D := Two2 3000) (fun d => [(tRat K (Rat.divInt d.1.1 d.1.2)).b, bI d.1.1, bI d.1.2]) fun d => .val (tB true)) := by
  refine gf_mk (fd_l_is c) (fun _ F => bd_l_is F) (glo_l_is c) fun fd F => def_ok F sc_l_is (fun d _ => [some (tRat K (Rat.divInt d.1.1 d.1.2)), some (tI d.1.1), some (tI d.1.2), none]) ?_
  rintro cdv A outer s H S Q E ⟨⟨a, b⟩, hb, h1, h2⟩ hr nd q
  dsimp only at hb h1 h2 ⊢
  have b3 : intBits (-3 * b) ≤ 9000 := Nat.le_trans (intBits_mul_le (m := 2) (by decide) h2) (by decide)
  refine s_set (i := 3) (R := tL K ([(Rat.divInt a b).num, ((Rat.divInt a b).den : Int)].map tI)) (e_call (out := fun d : Two2 4000 => .val (tL K ([(Rat.divInt d.1.1 d.1.2).num, ((Rat.divInt d.1.1 d.1.2).den : Int)].map tI))) (ok_l_terms c) (hr.mono (by decide)) tk_cx ⟨(a, b), hb, Nat.le_trans h1 (by decide), Nat.le_trans h2 (by decide)⟩ (a_cons (e_var 1) (a_cons (e_var 2) a_nil))) ?_
  refine s_if (k := false) (TW.t ((tw_or (k := false) (l := false) (t_not (t_val (e_isi (free_isinstance c) (e_var 0) (e_cls (glo_Ratio c)) (.own _) (ins_Ratio c).ty (kit_Ratio c)))) fun _ => tw_or1 ?_))) (fun h => by cases h) fun _ => s_skip ?_
  · refine (c_neM (Enc.lstNe enc_int _ _) (hr.mono (by decide)) (EJ.lent (e_lst (Rs := [(Rat.divInt a b).num, ((Rat.divInt a b).den : Int)].map tI) (a_cons (e_top c (e_var 0)) (a_cons (e_bot c (e_var 0)) a_nil)))) (EJ.lent (e_var 3))).t.cast ?_
    simp
  refine s_if (k := false) ((t_ne (r_bool c (hr.mono (by decide)) (e_var 0)) (e_ne (e_var 1) e_int)).cast ?_) (fun h => by cases h) fun _ => s_skip ?_
  · by_cases h : a = 0
    · have := (num_zero (a := a) hb).mpr h
      simp [h, this]
    · have : ¬ Rat.divInt a b = 0 := fun z => h ((num_zero hb).mp z)
      simp [h, this]
  refine s_if (k := false) ((r_ne c (hr.mono (by decide)) (e_var 0) (e_mk c (hr.mono (by decide)) tk_cx (e_var 1) (e_var 2) hb (Nat.le_trans h2 (by decide)))).t.cast ?_) (fun h => by cases h) fun _ => s_skip ?_
  · simp
  refine s_if (k := false) ((r_ne c (hr.mono (by decide)) (e_var 0) (e_mk c (hr.mono (by decide)) tk_cx (e_mul (e_neg e_int) (e_var 1) (.of_left (by decide))) (e_mul (e_neg e_int) (e_var 2) (.of_left (by decide))) (by omega) b3)).t.cast ?_) (fun h => by cases h) fun _ => s_skip ?_
  · rw [divInt_mul3 hb]
    simp
  exact s_ret (e_not (e_isi (free_isinstance c) (e_top c (e_var 0)) (e_bty (v := .ty "bool") (free_bool c) (by decide +kernel) rfl) (.ty _) ty_int kit_int_bool)) fun v S' H' st r => q v S' H' st r
end
section
open PySem.Builtin.Int (intBits)
variable {P : Program} {w : World} {K : PySem.W.Frag} {mg : Str → Option Value} {base : Heap}
theorem ok_l_refused (c : Ct P K mg) : GF P w K mg base "_law_refused" 6 ["_law_which", "_law_first"] (spD (D := { d : Int × Rat // Fit 4000 d.2 }) (fun d => [bI d.1.1, (tRat K d.1.2).b]) fun d => .val (tB true)) := by
  refine gf_mk (fd_l_refused c) (fun _ F => bd_l_refused F) (glo_l_refused c) fun fd F => def_ok F sc_l_refused (fun d _ => [some (tI d.1.1), some (tRat K d.1.2), none]) ?_
  rintro cdv A outer s H S Q E ⟨⟨a, q⟩, h1⟩ hr nd k
  refine s_try (i := 2) (Γ' := [some (tI a), some (tRat K q), none]) (cv := .ref (He.ga K "BadNumber")) ⟨rfl, by decide, .inl (er_BadNumber c).mgx⟩ tk_cx ?_
  intro pn xe V tkV po hV
  have hE : ∀ cc d S H σ, Stt _ [some (tI a), some (tRat K q), none] [] S H σ → (xBadNumber K 0).R S cc d → V cc d σ H := fun cc d S1 H1 σ t r => by
    have ec : cc = .ref (He.ga K "BadNumber") := r.1
    subst ec
    refine hV _ d S1 H1 σ true t (exm_BadNumber_BadNumber c) (fun _ ad na => su_of t r (Nat.le_of_ble_eq_true rfl) fun oe pn2 hz hfd => ?_) fun h => by cases h
    exact s_ret (e_eq (e_xf (i := 2) (fl := "n") (R := tI 0) (er_BadNumber c).xf ((er_BadNumber c).no "n" (by simp [e_BadNumber])) hz hfd) e_int) fun v S' H' st rr => k v S' H' st rr
  refine s_if (t_eq (e_var 0) e_int) (fun hk => ?_) fun hk => ?_
  · exact s_exprX (e_mkX c (hr.mono (by decide)) tkV (e_top c (e_var 1)) e_int) hE
  · refine s_exprX (r_quotX c (hr.mono (by decide)) tkV (e_var 1) (eRat (e_mk c (hr.mono (by decide)) tkV e_int e_int (by decide) (by decide)) (by exact Rat.zero_divInt 5)) h1) hE
abbrev Four : Type := { d : (Int × Int) × (Int × Int) // (d.1.2 ≠ 0 ∧ intBits d.1.1 ≤ 110 ∧ intBits d.1.2 ≤ 111) ∧ (d.2.2 ≠ 0 ∧ intBits d.2.1 ≤ 110 ∧ intBits d.2.2 ≤ 111) }
theorem add_frac {a b e d : Int} (hb : b ≠ 0) (hd : d ≠ 0) : Rat.divInt a b + Rat.divInt e d = Rat.divInt (a * d + e * b) (b * d) := Rat.divInt_add_divInt a e hb hd
theorem lt_frac {a b e d : Int} (hb : b ≠ 0) (hd : d ≠ 0) : Rat.divInt a b < Rat.divInt e d ↔ (a * d - e * b) * b * d < 0 := by
  have h1 : Rat.divInt e d ≤ Rat.divInt a b ↔ 0 ≤ Rat.divInt a b - Rat.divInt e d := by
    constructor <;> intro h <;> grind
  have hbd : b * d ≠ 0 := Int.mul_ne_zero hb hd
  have h2 : Rat.divInt a b - Rat.divInt e d = Rat.divInt ((a * d - e * b) * (b * d)) ((b * d) * (b * d)) := by
    rw [Rat.divInt_sub_divInt a e hb hd, Rat.divInt_mul_right hbd]
  have hp : 0 < (b * d) * (b * d) := by
    rcases Int.lt_or_gt_of_ne hbd with h | h
    · exact Int.mul_pos_of_neg_of_neg h h
    · exact Int.mul_pos h h
  rw [← Rat.not_le, h1, h2, Rat.divInt_nonneg_iff_of_pos_right hp, Int.not_le, Int.mul_assoc]
theorem e_is {X : Cx} {B : Bs} {Γ : Gm} {O : Om} {e1 e2 e3 : Expr} {p pos : Pos} {q : Rat} {x y : Int} (c : Ct X.prog X.K X.mg) (hr : Room 9 X.A) (h1 : EJ X B Γ O e1 (tRat X.K q).b) (h2 : EJ X B Γ O e2 (bI x)) (h3 : EJ X B Γ O e3 (bI y)) (h0 : y ≠ 0) (zx : intBits x ≤ 3000) (zy : intBits y ≤ 3000) (hq : q = Rat.divInt x y) (hg : Gl X "_law_is" := by rfl)
    (hs : starEach [e1, e2, e3] X.env = (false, eval e1 X.env) :: starEach [e2, e3] X.env := by rfl) (hs2 : starEach [e2, e3] X.env = (false, eval e2 X.env) :: starEach [e3] X.env := by rfl) (hs3 : starEach [e3] X.env = (false, eval e3 X.env) :: starEach [] X.env := by rfl) (hpl : (backTo pos (starEach [e2, e3] X.env)).any (·.1) = false := by rfl) : EJ X B Γ O (.Call (.Name "_law_is" p) [e1, e2, e3] [] pos) (bB true) :=
  e_call (out := fun _ : Two2 3000 => .val (tB true)) (ok_l_is c) hr tk_no ⟨(x, y), h0, zx, zy⟩ (a_cons (eRat h1 hq) (a_cons h2 (a_cons h3 a_nil hs3) hs2) hs) hg (by decide) hs hpl
theorem ok_l_pair_fits (c : Ct P K mg) : GF P w K mg base "_law_pair_fits" 10 ["_law_first", "_law_second", "_law_one", "_law_other"] (spD (D := Four) (fun d => [(tRat K (Rat.divInt d.1.1.1 d.1.1.2)).b, (tRat K (Rat.divInt d.1.2.1 d.1.2.2)).b, (tL K [tI d.1.1.1, tI d.1.1.2]).b, (tL K [tI d.1.2.1, tI d.1.2.2]).b]) fun d => .val (tB true)) := by
  refine gf_mk (fd_l_pair_fits c) (fun _ F => bd_l_pair_fits F) (glo_l_pair_fits c) fun fd F => def_ok F sc_l_pair_fits (fun d _ => [some (tRat K (Rat.divInt d.1.1.1 d.1.1.2)), some (tRat K (Rat.divInt d.1.2.1 d.1.2.2)), some (tL K [tI d.1.1.1, tI d.1.1.2]), some (tL K [tI d.1.2.1, tI d.1.2.2]), none, none, none, none, none]) ?_
  rintro cdv A outer s H S Q E ⟨⟨⟨a, b⟩, ⟨e, d⟩⟩, ⟨hb, h1, h2⟩, ⟨hd, h3, h4⟩⟩ hr nd k
  dsimp only at hb hd h1 h2 h3 h4 ⊢
  have f1 : Fit 111 (Rat.divInt a b) := fit_divInt hb (Nat.le_trans h1 (by decide)) h2
  have f2 : Fit 111 (Rat.divInt e d) := fit_divInt hd (Nat.le_trans h3 (by decide)) h4
  have g1 := f1.mono (m := 4000) (by decide)
  have g2 := f2.mono (m := 4000) (by decide)
  have hbd : b * d ≠ 0 := Int.mul_ne_zero hb hd
  have zbd : intBits (b * d) ≤ 222 := intBits_mul_le h2 h4
  have zad : intBits (a * d) ≤ 221 := intBits_mul_le h1 h4
  have zeb : intBits (e * b) ≤ 221 := intBits_mul_le h3 h2
  refine s_unpack (e_var 2) (g_lst (gs_cons (g_name (j := 4)) (gs_cons (g_name (j := 5)) gs_nil))) ?_
  refine s_unpack (e_var 3) (g_lst (gs_cons (g_name (j := 6)) (gs_cons (g_name (j := 7)) gs_nil))) ?_
  refine s_if (k := false) (TW.t (tw_or (k := false) (l := false) (t_not (t_val (e_is c hr (e_var 0) (e_var 4) (e_var 5) hb (Nat.le_trans h1 (by decide)) (Nat.le_trans h2 (by decide)) rfl))) fun _ => tw_or1 (t_not (t_val (e_is c hr (r_neg c (hr.mono (by decide)) (e_var 0) g1) (e_neg (e_var 4)) (e_var 5) hb (intBits_neg_le (Nat.le_trans h1 (by decide))) (Nat.le_trans h2 (by decide)) (Rat.neg_divInt a b)))))) (fun h => by cases h) fun _ => s_skip ?_
  refine s_if (k := false) (t_not (t_val (e_is c hr (r_add c (hr.mono (by decide)) (e_var 0) (e_var 1) g1 g2) (e_add (e_mul (e_var 4) (e_var 7) (mulOk h1 h4)) (e_mul (e_var 6) (e_var 5) (mulOk h3 h2))) (e_mul (e_var 5) (e_var 7) (mulOk h2 h4)) hbd (Nat.le_trans (intBits_add_le zad zeb) (by decide)) (Nat.le_trans zbd (by decide)) (Rat.divInt_add_divInt a e hb hd)))) (fun h => by cases h) fun _ => s_skip ?_
  refine s_if (k := false) (t_not (t_val (e_is c hr (r_sub c (hr.mono (by decide)) (e_var 0) (e_var 1) g1 g2) (e_sub (e_mul (e_var 4) (e_var 7) (mulOk h1 h4)) (e_mul (e_var 6) (e_var 5) (mulOk h3 h2))) (e_mul (e_var 5) (e_var 7) (mulOk h2 h4)) hbd (Nat.le_trans (intBits_sub_le zad zeb) (by decide)) (Nat.le_trans zbd (by decide)) (Rat.divInt_sub_divInt a e hb hd)))) (fun h => by cases h) fun _ => s_skip ?_
  refine s_if (k := false) (t_not (t_val (e_is c hr (r_mul c (hr.mono (by decide)) (e_var 0) (e_var 1) g1 g2) (e_mul (e_var 4) (e_var 6) (mulOk h1 h3)) (e_mul (e_var 5) (e_var 7) (mulOk h2 h4)) hbd (Nat.le_trans (intBits_mul_le h1 h3) (by decide)) (Nat.le_trans zbd (by decide)) (Rat.divInt_mul_divInt a e)))) (fun h => by cases h) fun _ => s_skip ?_
  refine s_if (k := false) (TJ.cast (TW.t (tw_and (l := false) (t_ne (e_var 6) e_int) fun he => tw_and1 (t_not (k := true) (t_val ?_)))) (Bool.and_false _)) (fun h => by cases h) fun _ => s_skip ?_
  · have he : e ≠ 0 := fun z => by simp [z] at he
    refine e_is c hr (r_quot c (hr.mono (by decide)) tk_cx (e_var 0) (e_var 1) g1 g2 (fun z => he ((num_zero hd).mp z))) (e_mul (e_var 4) (e_var 7) (mulOk h1 h4)) (e_mul (e_var 5) (e_var 6) (mulOk h2 h3)) (Int.mul_ne_zero hb he) (Nat.le_trans zad (by decide)) (Nat.le_trans (intBits_mul_le h2 h3) (by decide)) ?_
    rw [Rat.div_def, Rat.inv_divInt, Rat.divInt_mul_divInt]
  have zs : intBits (a * d - e * b) ≤ 222 := intBits_sub_le zad zeb
  refine s_set (i := 8) (R := tB (decide ((a * d - e * b) * b * d < 0))) (e_lt (e_mul (e_mul (e_sub (e_mul (e_var 4) (e_var 7) (mulOk h1 h4)) (e_mul (e_var 6) (e_var 5) (mulOk h3 h2))) (e_var 5) (mulOk zs h2)) (e_var 7) (mulOk (intBits_mul_le zs h2) h4)) e_int) ?_
  refine s_if (k := false) (TW.t (tw_or (k := false) (l := false) ((t_ne (r_under c (hr.mono (by decide)) tk_cx (e_var 0) (e_var 1) g1 g2) (e_var 8)).cast ?_) fun _ => tw_or1 ((t_val (r_under c (hr.mono (by decide)) tk_cx (e_var 0) (e_var 0) g1 g1)).cast ?_))) (fun h => by cases h) fun _ => s_skip ?_
  · have e1 : decide (Rat.divInt a b < Rat.divInt e d) = decide ((a * d - e * b) * b * d < 0) := decide_eq_decide.mpr (lt_frac hb hd)
    rw [e1]
    simp
  · exact decide_eq_false (Rat.lt_irrefl)
  refine s_ret ((e_eq (r_eq c (hr.mono (by decide)) (e_var 0) (e_var 1)).e (e_eq (e_mul (e_var 4) (e_var 7) (mulOk h1 h4)) (e_mul (e_var 6) (e_var 5) (mulOk h3 h2)))).cast (congrArg bB ?_)) fun v S' H' st rr => k v S' H' st rr
  have e1 : decide (Rat.divInt a b = Rat.divInt e d) = decide (a * d = e * b) := decide_eq_decide.mpr (Rat.divInt_eq_divInt_iff hb hd)
  rw [e1]
  by_cases h : a * d = e * b <;> simp [h]
theorem ok_l_list_fits (c : Ct P K mg) : GF P w K mg base "_law_list_fits" 10 ["_law_first", "_law_second", "_law_third"] (spD (D := { d : Rat × Rat × Rat // Fit 111 d.1 ∧ Fit 111 d.2.1 ∧ Fit 111 d.2.2 }) (fun d => [(tRat K d.1.1).b, (tRat K d.1.2.1).b, (tRat K d.1.2.2).b]) fun d => .val (tB true)) := by
  refine gf_mk (fd_l_list_fits c) (fun _ F => bd_l_list_fits F) (glo_l_list_fits c) fun fd F => def_ok F sc_l_list_fits (fun d _ => [some (tRat K d.1.1), some (tRat K d.1.2.1), some (tRat K d.1.2.2), none, none, none]) ?_
  rintro cdv A outer s H S Q E ⟨⟨q1, q2, q3⟩, f1, f2, f3⟩ hr nd k
  dsimp only at f1 f2 f3 ⊢
  have g1 := f1.mono (m := 4000) (by decide)
  have g2 := f2.mono (m := 4000) (by decide)
  have g3 := f3.mono (m := 4000) (by decide)
  have hall : ∀ q ∈ [q1, q2, q3], Fit 4000 q := fun q hq => by
    simp only [List.mem_cons, List.not_mem_nil, or_false] at hq
    rcases hq with rfl | rfl | rfl <;> assumption
  have hsum : ∀ i, Fit 4000 (psum ([q1, q2, q3].take i)) := fun i => by
    have z : Fit 1 0 := by constructor <;> decide
    have a1 := z.add f1
    have a2 := a1.add f2
    have a3 := a2.add f3
    match i with
    | 0 => exact z.mono (m := 4000) (by decide)
    | 1 => exact a1.mono (m := 4000) (by decide)
    | 2 => exact a2.mono (m := 4000) (by decide)
    | i + 3 =>
      show Fit 4000 (psum (q1 :: q2 :: q3 :: List.take i []))
      rw [List.take_nil]
      exact a3.mono (m := 4000) (by decide)
  have hbest : gmax q1 [q1, q2, q3] ∈ [q1, q2, q3] := by
    rcases gmax_mem q1 [q1, q2, q3] with h | h
    · rw [h]; exact List.mem_cons_self
    · exact h
  refine s_setN (i := 3) (M := mL ([q1, q2, q3].map (tRat K))) (n_lst (a_cons (e_var 0) (a_cons (e_var 1) (a_cons (e_var 2) a_nil)))) fun p => ?_
  refine s_set (i := 4) (R := tRat K (gmax q1 [q1, q2, q3])) (e_greatest (q := q1) (qs := [q2, q3]) c (hr.mono (by decide)) (EJ.lentQ (e_lst_own 3 List.mem_cons_self)) hall) ?_
  refine s_if (k := false) ((t_not (r_eq c (hr.mono (by decide)) (e_total (qs := [q1, q2, q3]) c (hr.mono (by decide)) (EJ.lentQ (e_lst_own 3 List.mem_cons_self)) hall hsum) (r_add c (hr.mono (by decide)) (r_add c (hr.mono (by decide)) (e_var 2) (e_var 1) g3 g2) (e_var 0) ((f3.add f2).mono (by decide)) g1)).t).cast ?_) (fun h => by cases h) fun _ => s_skip ?_
  · rw [Bool.not_eq_false']
    refine decide_eq_true ?_
    show (0 : Rat) + q1 + q2 + q3 = q3 + q2 + q1
    grind
  refine s_if (k := false) (TW.t (tw_or (k := false) (l := false) ((c_neM (Enc.lstNe (enc_rat c) [q1, q2, q3] [q1, q2, q3]) (hr.mono (by decide)) (e_lst_own 3 List.mem_cons_self) (EJ.lent (e_lst (Rs := [q1, q2, q3].map (tRat K)) (a_cons (e_var 0) (a_cons (e_var 1) (a_cons (e_var 2) a_nil)))))).t.cast (by simp)) fun _ => tw_or1 ((c_ninL (n := 5) (fun i => decide ([q1, q2, q3].getD i 0 = gmax q1 [q1, q2, q3])) (fun i hi => ?_) (hr.mono (by decide)) (e_var 4) (e_lst_own 3 List.mem_cons_self)).t.cast ?_))) (fun h => by cases h) fun _ => s_skip ?_
  · have hi : i < [q1, q2, q3].length := by simpa using hi
    rw [nth_map hi, getD_lt hi]
    exact enc_rat (X := cxOf (L2.CX P w) P w K mg base _ _ _ _ cdv A outer s H E) c _ _
  · rw [Bool.not_eq_false', List.any_eq_true]
    obtain ⟨i, hi, e⟩ := List.getElem_of_mem hbest
    exact ⟨i, List.mem_range.mpr hi, decide_eq_true (by rw [getD_lt hi]; exact e)⟩
  refine s_if (k := false) (TJ.cast (t_val (e_any (bs := [q1, q2, q3].map fun x => decide (gmax q1 [q1, q2, q3] < x)) (free_any c) (EJ.lent (NJ.settleL (NJ.cast (n_comp [("_law_ratio", 5)] (fun _ => true) (fun i => tB (decide (gmax q1 [q1, q2, q3] < [q1, q2, q3].getD i 0))) [some (tRat K q1), some (tRat K q2), some (tRat K q3), some (tR p), some (tRat K (gmax q1 [q1, q2, q3])), none] (i_own (Rs := [q1, q2, q3].map (tRat K)) 3 List.mem_cons_self) (Nat.le_of_ble_eq_true rfl) ?_) ?_))))) ?_) (fun h => by cases h) fun _ => s_skip ?_
  · intro G M i hi
    have hi : i < [q1, q2, q3].length := hi
    refine ⟨_, [5], by decide, fun s' H' C cl fp => ⟨g_name (j := 5), if_none, fun _ => ?_⟩⟩
    rw [nth_map hi, getD_lt hi]
    exact r_under c (hr.mono (by decide)) tk_no (e_var 4) (e_var 5) (hall _ hbest) (hall _ (List.getElem_mem hi))
  · rfl
  · rw [List.any_eq_false]
    intro b hb
    obtain ⟨x, hx, rfl⟩ := List.mem_map.mp hb
    simp only [id, decide_eq_true_eq]
    exact Rat.not_lt.mpr (gmax_ge q1 _ x hx)
  have f12 := f1.add f2
  refine s_ret ((r_eq c (hr.mono (by decide)) (r_mul c (hr.mono (by decide)) (r_add c (hr.mono (by decide)) (e_var 0) (e_var 1) g1 g2) (e_var 2) (f12.mono (by decide)) g3) (r_add c (hr.mono (by decide)) (r_mul c (hr.mono (by decide)) (e_var 0) (e_var 2) g1 g3) (r_mul c (hr.mono (by decide)) (e_var 1) (e_var 2) g2 g3) ((f1.mul f3).mono (by decide)) ((f2.mul f3).mono (by decide)))).e.cast (congrArg bB ?_)) fun v S' H' st rr => k v S' H' st rr
  exact decide_eq_true (Rat.add_mul q1 q2 q3)
end
section
open PySem.Builtin.Int (intBits)
variable {P : Program} {w : World} {K : PySem.W.Frag} {mg : Str → Option Value} {base : Heap}
def fRow (K : PySem.W.Frag) (d : Int × Int) : MP := tL K [tI d.1, tI d.2]
def Good (d : Int × Int) : Prop := d.2 ≠ 0 ∧ intBits d.1 ≤ 110 ∧ intBits d.2 ≤ 111
abbrev qOf (d : Int × Int) : Rat := Rat.divInt d.1 d.2
theorem Good.fit {d : Int × Int} (h : Good d) : Fit 111 (qOf d) := fit_divInt h.1 (Nat.le_trans h.2.1 (by decide)) h.2.2
theorem e_fits {X : Cx} {B : Bs} {Γ : Gm} {O : Om} {e1 e2 e3 e4 : Expr} {p pos : Pos} {d1 d2 : Int × Int} (c : Ct X.prog X.K X.mg) (hr : Room 10 X.A) (h1 : EJ X B Γ O e1 (tRat X.K (qOf d1)).b) (h2 : EJ X B Γ O e2 (tRat X.K (qOf d2)).b) (h3 : EJ X B Γ O e3 (fRow X.K d1).b) (h4 : EJ X B Γ O e4 (fRow X.K d2).b) (g1 : Good d1) (g2 : Good d2) (hg : Gl X "_law_pair_fits" := by rfl)
    (hs : starEach [e1, e2, e3, e4] X.env = (false, eval e1 X.env) :: starEach [e2, e3, e4] X.env := by rfl) (hs2 : starEach [e2, e3, e4] X.env = (false, eval e2 X.env) :: starEach [e3, e4] X.env := by rfl) (hs3 : starEach [e3, e4] X.env = (false, eval e3 X.env) :: starEach [e4] X.env := by rfl) (hs4 : starEach [e4] X.env = (false, eval e4 X.env) :: starEach [] X.env := by rfl)
    (hpl : (backTo pos (starEach [e2, e3, e4] X.env)).any (·.1) = false := by rfl) : EJ X B Γ O (.Call (.Name "_law_pair_fits" p) [e1, e2, e3, e4] [] pos) (bB true) :=
  e_call (out := fun _ : Four => .val (tB true)) (ok_l_pair_fits c) hr tk_no ⟨(d1, d2), g1, g2⟩ (a_cons h1 (a_cons h2 (a_cons h3 (a_cons h4 a_nil hs4) hs3) hs2) hs) hg (by decide) hs hpl
theorem ok_law {fd : FuncData} (c : Ct P K mg) (F : FnS K "law" "law" s_law (He.ga K "law") fd) : FnOk P w K mg base (L2.CX P w) 12 (He.ga K "law") fd ["_law_script"] (spD (D := { ns : List Int // ns.length ≤ 63 ∧ ∀ z ∈ ns, intBits z ≤ 1048576 }) (fun ns => [bL K (ns.1.map tI)]) fun _ => .val (tB true)) := by
  refine def_ok F sc_law (fun d H => [some ((bL K (d.1.map tI)).at_ H), none, none, none, none, none, none, none, none, none]) ?_
  rintro cdv A outer s H S Q E ⟨ns, hn, hz⟩ hr nd k
  dsimp only
  refine s_setN (i := 1) (M := mL []) (n_lst a_nil) fun p => ?_
  refine s_for (β := List (Int × Int)) (fun _ => [some ((bL K (ns.map tI)).at_ H), some (tR p), none, none, none, none, none, none, none, none]) (fun ds => [(p, mL (ds.map (fRow K)))]) (fun i ds => ds.length = i ∧ ∀ d ∈ ds, Good d) [] ⟨rfl, fun _ h => by cases h⟩ (i_range1 (free_range c) e_int) (fun _ _ h => by cases h) ?_ ?_ own_cx
  · rintro G i ds hi ⟨hl, hg⟩
    refine ⟨_, [2], g_name (j := 2), ?_⟩
    refine s_setN (i := 3) (M := mPool) (e_call (out := fun _ : Int => .new mPool) (ok_l_pool c) (hr.mono (by decide)) tk_no (ns.getD i 0) (a_cons (e_call (out := fun d : List Int × Nat => .val (tI (d.1.getD d.2 0))) (ok_l_cell c) (hr.mono (by decide)) tk_no (ns, i) (a_cons (e_lentV 0) (a_cons (e_var 2) a_nil))) a_nil)) fun q => ?_
    refine s_parM (i := 4) (j := 5) (m_call (i := 3) (ok_l_number c) (hr.mono (by decide)) tk_no () (Rs := []) a_nil List.mem_cons_self) (m_call (i := 3) (ok_l_number c) (hr.mono (by decide)) tk_no () (Rs := []) a_nil List.mem_cons_self) fun a b ha hb => ?_
    refine SJ.drop ?_
    have hb1 : b + (if decide (V.int b = V.int 0) then 1 else 0) ≠ 0 := by
      by_cases z : b = 0
      · simp [z]
      · simp [z]
    refine s_append (i := 1) (R := fRow K (a, b + (if decide (V.int b = V.int 0) then 1 else 0))) (Rs' := (ds ++ [(a, b + (if decide (V.int b = V.int 0) then 1 else 0))]).map (fRow K)) (e_lst (Rs := [tI a, tI _]) (a_cons (e_var 4) (a_cons (e_add (e_var 5) (e_intB (free_int c) (e_eq (e_var 5) e_int))) a_nil))) ?_ rfl rfl (by simp) ?_
    · refine s_nil (NX.at_ (ds ++ [(a, b + (if decide (V.int b = V.int 0) then 1 else 0))]) ⟨by rw [List.length_append, hl]; rfl, fun d hd => ?_⟩ ⟨rfl, rfl, trivial⟩)
      rcases List.mem_append.mp hd with hd | hd
      · exact hg d hd
      · rw [List.mem_singleton] at hd
        subst hd
        exact ⟨hb1, ha, Nat.le_trans (intBits_add_le (n := 1) hb (by split <;> decide)) (by decide)⟩
    · rw [List.length_map]
      omega
  · rintro ds ⟨hl, hg⟩
    obtain ⟨d1, d2, d3, rfl⟩ : ∃ d1 d2 d3, ds = [d1, d2, d3] := by
      match ds, hl with
      | [d1, d2, d3], _ => exact ⟨d1, d2, d3, rfl⟩
    have g1 := hg d1 (by simp)
    have g2 := hg d2 (by simp)
    have g3 := hg d3 (by simp)
    refine s_unpack (R := tL K ([d1, d2, d3].map fun d => tRat K (qOf d))) (NJ.settleL (NJ.cast (n_comp [("_law_a", 4), ("_law_b", 5)] (fun _ => true) (fun i => tRat K (qOf ([d1, d2, d3].getD i (0, 0)))) [some ((bL K (ns.map tI)).at_ H), some (tR p), none, none, none, none, none, none, none, none] (i_own (Rs := [d1, d2, d3].map (fRow K)) 1 List.mem_cons_self) (Nat.le_of_ble_eq_true rfl) ?_) ?_)) (g_lst (gs_cons (g_name (j := 6)) (gs_cons (g_name (j := 7)) (gs_cons (g_name (j := 8)) gs_nil)))) ?_
    · intro G M i hi
      have hi : i < [d1, d2, d3].length := hi
      refine ⟨[some ((bL K (ns.map tI)).at_ H), some (tR p), none, none, some (tI [d1, d2, d3][i].1), some (tI [d1, d2, d3][i].2), none, none, none, none], [4, 5], by decide, fun s' H' C cl fp => ⟨?_, if_none, fun _ => ?_⟩⟩
      · rw [nth_map hi]
        exact g_lst (gs_cons (g_name (j := 4)) (gs_cons (g_name (j := 5)) gs_nil))
      · rw [getD_lt hi]
        have gi := hg _ (List.getElem_mem hi)
        exact e_mk c (hr.mono (by decide)) tk_no (e_var 4) (e_var 5) gi.1 (Nat.le_trans gi.2.2 (by decide))
    · rfl
    refine s_for (β := Unit) (fun _ => [some ((bL K (ns.map tI)).at_ H), some (tR p), none, none, none, none, some (tRat K (qOf d1)), some (tRat K (qOf d2)), some (tRat K (qOf d3)), none]) (fun _ => [(p, mL ([d1, d2, d3].map (fRow K)))]) (fun _ _ => True) () trivial (i_range1 (free_range c) e_int) (fun _ _ h => by cases h) ?_ ?_ own_cx
    · rintro G i _ hi _
      refine ⟨_, [9], g_name (j := 9), ?_⟩
      refine s_if (k := false) (t_not (k := true) (t_val (e_fits c (hr.mono (by decide)) (e_var 6) (e_var 7) (e_ixL (e_lst_own 1 List.mem_cons_self) e_int rfl) (e_ixL (e_lst_own 1 List.mem_cons_self) e_int rfl) g1 g2))) (fun h => by cases h) fun _ => s_skip ?_
      refine s_if (k := false) (t_not (k := true) (t_val (e_fits c (hr.mono (by decide)) (e_var 8) (e_var 6) (e_ixL (e_lst_own 1 List.mem_cons_self) e_int rfl) (e_ixL (e_lst_own 1 List.mem_cons_self) e_int rfl) g3 g1))) (fun h => by cases h) fun _ => s_skip ?_
      refine s_if (k := false) (t_not (k := true) (t_val (e_call (out := fun _ : { d : Rat × Rat × Rat // Fit 111 d.1 ∧ Fit 111 d.2.1 ∧ Fit 111 d.2.2 } => .val (tB true)) (ok_l_list_fits c) (hr.mono (by decide)) tk_no ⟨(qOf d1, qOf d2, qOf d3), g1.fit, g2.fit, g3.fit⟩ (a_cons (e_var 6) (a_cons (e_var 7) (a_cons (e_var 8) a_nil)))))) (fun h => by cases h) fun _ => s_skip ?_
      exact s_nil (NX.at_ () trivial ⟨rfl, rfl, rfl, rfl, rfl, trivial⟩)
    · rintro _ _
      have row0 : atI ([d1, d2, d3].map (fRow K)) 0 = some (tL K [tI d1.1, tI d1.2]) := rfl
      refine s_if (k := false) (TW.t (tw_or (k := false) (l := false) (t_not (k := true) (TJ.cast (r_eq c (hr.mono (by decide)) (e_total (qs := []) c (hr.mono (by decide)) (EJ.lentQ (EJ.lent (e_lst (Rs := []) a_nil))) (fun _ h => by cases h) (fun i => by rw [List.take_nil]; exact fit_zero)) (e_whole c (hr.mono (by decide)) tk_no e_int)).t ?_)) fun _ => tw_or1 (t_not (k := true) (TJ.cast (r_eq c (hr.mono (by decide)) (e_whole c (hr.mono (by decide)) tk_no (e_ixL (EJ.lent (e_ixL (e_lst_own 1 List.mem_cons_self) e_int row0)) e_int rfl)) (e_mk c (hr.mono (by decide)) tk_no (e_ixL (EJ.lent (e_ixL (e_lst_own 1 List.mem_cons_self) e_int row0)) e_int rfl) e_int (by decide) (by decide))).t ?_)))) (fun h => by cases h) fun _ => s_skip ?_
      · exact decide_eq_true rfl
      · exact decide_eq_true (divInt_1 _).symm
      refine s_if (k := false) (TW.t (tw_or (k := false) (l := false) (r_eqI c (hr.mono (by decide)) (e_mk c (hr.mono (by decide)) tk_no e_int e_int (by decide) (by decide)) e_int).t fun _ => tw_or1 (r_eqS c (hr.mono (by decide)) (e_mk c (hr.mono (by decide)) tk_no e_int e_int (by decide) (by decide)) e_str).t)) (fun h => by cases h) fun _ => s_skip ?_
      have fl := g2.fit.mono (m := 4000) (by decide)
      have f1 := g1.fit.mono (m := 4000) (by decide)
      have rf := fun (i : Int) => (⟨(i, qOf d1), f1⟩ : { d : Int × Rat // Fit 4000 d.2 })
      refine s_ret (e_and (k := true) (l := true) (e_call (out := fun _ : { d : Int × Rat // Fit 4000 d.2 } => .val (tB true)) (ok_l_refused c) (hr.mono (by decide)) tk_no ⟨(0, qOf d1), f1⟩ (a_cons e_int (a_cons (e_var 6) a_nil))) fun _ => e_and (k := true) (l := true) (e_call (out := fun _ : { d : Int × Rat // Fit 4000 d.2 } => .val (tB true)) (ok_l_refused c) (hr.mono (by decide)) tk_no ⟨(1, qOf d1), f1⟩ (a_cons e_int (a_cons (e_var 6) a_nil))) fun _ => e_one (EJ.cast (r_eq c (hr.mono (by decide)) (e_greatest (q := qOf d2) (qs := []) c (hr.mono (by decide)) (EJ.lentT (e_tup (Rs := [tRat K (qOf d2)]) (a_cons (e_var 7) a_nil))) (fun x hx => by rw [List.mem_singleton] at hx; rw [hx]; exact fl)) (e_var 7)).e (congrArg bB ?_))) fun v S' H' st rr => k v S' H' st rr
      refine decide_eq_true ?_
      show (if qOf d2 < qOf d2 then qOf d2 else qOf d2) = qOf d2
      split <;> rfl
end
end K11
open PySem PySem.W PySem.Calls PyProof.Rows in
theorem PySem.Challenge.cw_onethrow_k11_ratios_holds : PySem.Challenge.rw_onethrow_k11_ratios.Holds := by
  w_on; o_law
  refine HandSHeadRun.head_any (r := (PySem.W.OpenLaw.row PySem.Challenge.rw_onethrow_k11_ratios)) (q := view (PySem.W.OpenLaw.row PySem.Challenge.rw_onethrow_k11_ratios).prog [22]) (H := K11.hk) (ob := K11.ob) (M := 60000) (loose := K11.loose) (d := HandSHeadRun.topDef (PySem.W.OpenLaw.row PySem.Challenge.rw_onethrow_k11_ratios).prog 22) (kwd := []) K11.ob_eq
    (by kernel_rfl) (fun s => by kernel_rfl) K11.run (by kernel_rfl) (by kernel_rfl) (by kernel_rfl) (by rfl) (by first | assumption | decide +kernel) (by decide +kernel) ⟨rfl, rfl, rfl, rfl, rfl, by decide +kernel⟩ ?hw ?hc
  case hw => w_witness2
  case hc =>
    refine OT.walk_ofEB (l := PySem.Challenge.rw_onethrow_k11_ratios) (n := 63) (k := 12) (x := "_law_script") rfl (by decide) (by kernel_rfl) ⟨rfl, by decide, by decide⟩ ?F
    intro w mg fa h Y G hmg0
    obtain ⟨K, KX, c⟩ := Y
    have hmg : mg ("law" : PySem.Str) = some (.ref fa) := by
      have e : (HandSHeadRun.topDef (PySem.W.OpenLaw.row PySem.Challenge.rw_onethrow_k11_ratios).prog 22).name = ("law" : PySem.Str) := by kernel_rfl
      rw [← e]
      exact hmg0
    have ct : K11.Ct (PySem.Challenge.rw_onethrow_k11_ratios).prog K mg := ⟨c, ⟨h, KX, G⟩, by kernel_rfl, by kernel_rfl⟩
    obtain ⟨fd, F⟩ := K11.fd_law ct
    have e := hmg.symm.trans (K11.glo_law ct)
    cases e
    have b := L2.FunD.bindsA (ps := ["_law_script"]) F fun _ _ _ _ _ _ us hl => match us, hl with | [_], _ => rfl
    exact ⟨K, fd, KX, fun s v => b s [v] rfl, fun base _ _ => K11.ok_law ct F⟩
