import PyProof.Rows.All
import Wide.All
import OpenK.AllK
import Wide.FinOn
import HandS.ForMost
import HandS.Wide
import HandS.Exc
import HandS.WordsExc
import HandS.Defaults
import HandS.ExcOwn
import HandS.CallSlots
import HandS.IsInst
import HandS.ExcInit
import HandS.Nested
import HandS.ClsMeth
import KE.KExcSuper
import HandS.ExcField
import HandS.FStr
import HandS.HeadHook2
import KE.KStateDown
import HandS.Head0
import HandS.Head1
import HandS.Head2
import HandS.HeadEnd
import HandS.HeadHook1
import HandS.EndBits
import HandS.NoneIn
import HandS.OwnEq
import PyProof.NeKinds
import PyProof.Rows.Range3
import KE.IntBitsLaws
import HandS.Text
import HandS.Iter
import HandS.TupAny
import HandS.Dict
import HandS.DictComp
import HandS.More
import HandS.TupLe
import KE.GoesEnum
import HandS.DictEq
import HandS.IterVal
import HandS.OwnIter
import HandS.Style
import HandS.Star
import KE.KCallOwn
import KE.SortData
import KE.SortKeyHeap
import HandS.SortKw
import HandS.ListItems
import KE.KDictList
import PyProof.StrBlock2
import HandS.Zip
import KE.KDictZip
import PyProof.SliceList
import KE.KFmtOwn
import HandS.HotCalls
import HandS.Finally
import HandS.ExcIs
import KE.KExcIs
import KE.GoesRaise
import HandS.ReplaceLit
import HandS.TupLen
import KE.KDictPairs
import HandS.TupMul
import PyProof.DictUpdate
import PyProof.DictDisplay
import HandS.Records
import HandS.Conv
import KE.KItemsList
import HandS.Deep
import PyProof.Claim2
import HandS.Strs
import HandS.TupSets
import KE.KDictKeyed
import KE.DataCmp
import KE.KRevSl
import PyProof.Rows.TupDisplay
import Wide.Seal
import PyProof.EqKinds
import PyProof.EqLayable
import PySem.Challenge.RW_onethrow_k01_errors_by_class
set_option Elab.async false
set_option linter.all false
set_option maxRecDepth 100000
set_option maxHeartbeats 0
local macro_rules | `(tactic| walk_at "osub") => `(tactic| first | exact List.nil_sublist _ | exact List.Sublist.refl _ | (apply List.Sublist.cons; walk_at "osub") | (apply List.Sublist.cons_cons; walk_at "osub"))
local macro_rules | `(tactic| walk_at "omem") => `(tactic| first | exact List.mem_cons_self | (apply List.mem_cons_of_mem; walk_at "omem"))
local macro_rules | `(tactic| walk_at "oneed") => `(tactic| (intro q hq; first | (cases hq; done) | (rcases List.mem_cons.mp hq with hq | hq; (rw [hq]; show _ ∈ (_ :: _ : List _); walk_at "omem"); revert hq; revert q; walk_at "oneed")))
namespace OT
open PySem PySem.Spec PyProof.Rows L2

section
variable {X : Cx}
def wE (X : Cx) (e : Expr) : TE := fun σ H Q => ∃ t, PE X e t ∧ t σ H Q
def wT (X : Cx) (e : Expr) : TT := fun σ H Q => ∃ t, PT X e t ∧ t σ H Q
def wA (X : Cx) (es : List Expr) : TA := fun σ H Q => ∃ t, PA X es t ∧ t σ H Q
def wS (X : Cx) (st : Stmt) : TS := fun D σ H => ∃ t, PS X st t ∧ t D σ H
def wB (X : Cx) (st : List Stmt) : TS := fun D σ H => ∃ t, PSs X st t ∧ t D σ H
def wG (X : Cx) (tg : Expr) : TG := fun v σ H Q => ∃ t, PG X tg t ∧ t v σ H Q
def wI (X : Cx) (tg it : Expr) : TI := fun σ H R => ∃ t, PI X tg it t ∧ t σ H R
theorem pe_w {e : Expr} : PE X e (wE X e) := ⟨fun pins s σ H Q I ⟨_, h, q⟩ => h.run pins s σ H Q I q⟩
theorem pt_w {e : Expr} : PT X e (wT X e) := ⟨fun pins s σ H Q I ⟨_, h, q⟩ => h.run pins s σ H Q I q⟩
theorem pa_w {es : List Expr} : PA X es (wA X es) := ⟨fun pos pins s σ H Q I ⟨_, h, q⟩ => h.run pos pins s σ H Q I q⟩
theorem ps_w {st : Stmt} : PS X st (wS X st) := ⟨fun pins s σ H D I ⟨_, h, q⟩ => h.run pins s σ H D I q⟩
theorem pb_w {st : List Stmt} : PSs X st (wB X st) := ⟨fun pins s σ H D I ⟨_, h, q⟩ => h.run pins s σ H D I q⟩
theorem pg_w {e : Expr} : PG X e (wG X e) := ⟨fun pins s σ H v u Q I r ⟨_, h, q⟩ => h.run pins s σ H v u Q I r q⟩
theorem pi_w {tg e : Expr} : PI X tg e (wI X tg e) := ⟨fun pins s σ H R I ⟨_, h, q⟩ => h.run pins s σ H R I q⟩
end

structure MP where
  R : Hp → V → Prop
  up : ∀ {S S' : Hp} {v : V}, Same S S' → R S v → R S' v
structure BP where
  R : Hp → Hp → V → Prop
  up : ∀ {S S' H H' : Hp} {v : V}, Same S S' → Same H H' → R S H v → R S' H' v
structure MO where
  R : Hp → HO → Prop
  up : ∀ {S S' : Hp} {o : HO}, Same S S' → R S o → R S' o
structure XP where
  R : Hp → Value → Option Addr → Prop
  up : ∀ {S S' : Hp} {c : Value} {d : Option Addr}, Same S S' → R S c d → R S' c d
def MP.b (m : MP) : BP := ⟨fun S _ v => m.R S v, fun e _ h => m.up e h⟩
def BP.at_ (m : BP) (H : Hp) : MP := ⟨fun S v => m.R S H v, fun e h => m.up e (Same.refl H) h⟩
def MO.pub (m : MO) : MP := ⟨fun S v => ∃ p o, v = .ref p ∧ S p = some o ∧ m.R S o, fun {S S' v} e ⟨p, o, h1, h2, h3⟩ => ⟨p, o, h1, e p o h2, m.up e h3⟩⟩
def MO.b (m : MO) : BP := ⟨fun S H v => ∃ p o, v = .ref p ∧ H p = some o ∧ m.R S o, fun {S S' H H' v} e e' ⟨p, o, h1, h2, h3⟩ => ⟨p, o, h1, e' p o h2, m.up e h3⟩⟩

structure Stp (S H S' H' : Hp) : Prop where
  s : Same S S'
  i : Same S' H'
  h : Same H H'
  fr : ∀ a, S a = none → H a ≠ none → S' a = none
theorem Stp.refl {S H : Hp} (i : Same S H) : Stp S H S H := ⟨Same.refl _, i, Same.refl _, fun _ h _ => h⟩
theorem Stp.trans {S H S1 H1 S2 H2 : Hp} (a : Stp S H S1 H1) (b : Stp S1 H1 S2 H2) : Stp S H S2 H2 :=
  ⟨a.s.trans b.s, b.i, a.h.trans b.h, fun x h1 h2 => b.fr x (a.fr x h1 h2) (by
    cases e : H x with
    | none => exact absurd e h2
    | some o => rw [a.h x o e]; simp)⟩
theorem Stp.put {S H : Hp} (i : Same S H) {p : Addr} {o : HO} (hp : H p = none) : Stp S H (upd S p o) (upd H p o) where
  s := fun a u e => by rw [upd_ne (ne_of_none (i a u e) hp)]; exact e
  i := fun a u e => by
    by_cases q : a = p
    · subst q; rw [upd_same] at e ⊢; exact e
    · rw [upd_ne q] at e ⊢; exact i a u e
  h := fun a u e => by rw [upd_ne (ne_of_none e hp)]; exact e
  fr := fun a h1 h2 => by
    by_cases q : a = p
    · subst q; exact absurd hp h2
    · rw [upd_ne q]; exact h1
theorem Stp.own {S H : Hp} (i : Same S H) {p : Addr} {o : HO} (hp : H p = none) : Stp S H S (upd H p o) where
  s := Same.refl _
  i := fun a u e => by rw [upd_ne (ne_of_none (i a u e) hp)]; exact i a u e
  h := fun a u e => by rw [upd_ne (ne_of_none e hp)]; exact e
  fr := fun a h1 _ => h1
structure Gho where
  R : Hp → Prop
  up : ∀ {S S' : Hp}, Same S S' → R S → R S'
structure Bs where
  S : Hp
  H : Hp
  P : Gho
def Bs.add (B : Bs) (G : Gho) : Bs := ⟨B.S, B.H, ⟨fun S => B.P.R S ∧ G.R S, fun e h => ⟨B.P.up e h.1, G.up e h.2⟩⟩⟩
def Gho.yes : Gho := ⟨fun _ => True, fun _ h => h⟩
abbrev Gm := List (Option MP)
abbrev Om := List (Addr × MO)
structure Stt (B : Bs) (Γ : Gm) (O : Om) (S H : Hp) (σ : L2.St) : Prop where
  st : Stp B.S B.H S H
  slot : ∀ (i : Nat) (R : MP), Γ[i]? = some (some R) → ∃ v, σ[i]? = some (some v) ∧ R.R S v
  len : σ.length = Γ.length
  own : ∀ q ∈ O, S q.1 = none ∧ B.H q.1 = none ∧ ∃ o, H q.1 = some o ∧ q.2.R S o
  nd : (O.map (·.1)).Nodup
  gh : B.P.R S
section
variable {B : Bs} {Γ : Gm} {O : Om} {S H S' H' : Hp} {σ : L2.St}
theorem Stt.step (t : Stt B Γ O S H σ) (e : Stp S H S' H') : Stt B Γ O S' H' σ where
  st := t.st.trans e
  slot := fun i R h => let ⟨v, h1, h2⟩ := t.slot i R h; ⟨v, h1, R.up e.s h2⟩
  len := t.len
  own := fun q hq => by
    obtain ⟨h1, h2, o, h3, h4⟩ := t.own q hq
    exact ⟨e.fr _ h1 (by rw [h3]; simp), h2, o, e.h _ _ h3, q.2.up e.s h4⟩
  nd := t.nd
  gh := B.P.up e.s t.gh
theorem Stt.sub (t : Stt B Γ O S H σ) : Same S H := t.st.i
theorem Stt.set {i : Nat} {R : MP} {v : V} (t : Stt B Γ O S H σ) (h : R.R S v) (hi : i < Γ.length) : Stt B (Γ.set i (some R)) O S H (σ.set i (some v)) where
  st := t.st
  slot := fun j Q e => by
    by_cases q : i = j
    · subst q
      rw [List.getElem?_set_self (by exact hi)] at e
      have e2 : R = Q := Option.some.inj (Option.some.inj e)
      subst e2
      exact ⟨v, by rw [List.getElem?_set_self (by rw [t.len]; exact hi)], h⟩
    · rw [List.getElem?_set_ne q] at e
      obtain ⟨w, h1, h2⟩ := t.slot j Q e
      exact ⟨w, by rw [List.getElem?_set_ne q]; exact h1, h2⟩
  len := by rw [List.length_set, List.length_set]; exact t.len
  own := t.own
  nd := t.nd
  gh := t.gh
theorem Stt.forget {Γ' : Gm} (t : Stt B Γ O S H σ) (hl : Γ'.length = Γ.length) (h : ∀ (i : Nat) (R : MP), Γ'[i]? = some (some R) → Γ[i]? = some (some R)) : Stt B Γ' O S H σ :=
  ⟨t.st, fun i R e => t.slot i R (h i R e), t.len.trans hl.symm, t.own, t.nd, t.gh⟩
theorem Stt.add {p : Addr} {o : HO} {M : MO} (t : Stt B Γ O S H σ) (hp : H p = none) (hm : M.R S o) : Stt B Γ ((p, M) :: O) S (upd H p o) σ where
  st := t.st.trans (Stp.own t.sub hp)
  slot := t.slot
  len := t.len
  own := fun q hq => by
    rcases List.mem_cons.mp hq with e | hq
    · subst e
      exact ⟨t.sub.free hp, t.st.h.free hp, o, upd_same, hm⟩
    · obtain ⟨h1, h2, u, h3, h4⟩ := t.own q hq
      exact ⟨h1, h2, u, by rw [upd_ne (ne_of_none h3 hp)]; exact h3, h4⟩
  nd := by
    rw [List.map_cons]
    refine List.nodup_cons.mpr ⟨fun hm => ?_, t.nd⟩
    obtain ⟨q, hq, e⟩ := List.mem_map.mp hm
    obtain ⟨_, _, u, h3, _⟩ := t.own q hq
    have e2 : q.1 = p := e
    rw [e2, hp] at h3
    cases h3
  gh := t.gh
end

section
variable (X : Cx) (B : Bs) (Γ : Gm) (O : Om)
def EJ (e : Expr) (R : BP) : Prop := ∀ S H σ, Stt B Γ O S H σ → ∀ Q : VK, (∀ v S' H', Stp S H S' H' → R.R S' H' v → Q v H') → wE X e σ H Q
def NJ (e : Expr) (M : MO) : Prop := ∀ S H σ, Stt B Γ O S H σ → ∀ Q : VK, (∀ p o S' H', Stp S H S' H' → H p = none → S' p = none → H' p = some o → M.R S' o → Q (.ref p) H') → wE X e σ H Q
def TJ (e : Expr) (b : Bool) : Prop := ∀ S H σ, Stt B Γ O S H σ → ∀ Q : Bool → Hp → Prop, (∀ S' H', Stp S H S' H' → Q b H') → wT X e σ H Q
def AllR : List BP → Hp → Hp → List V → Prop
  | [], _, _, [] => True
  | R :: Rs, S, H, v :: vs => R.R S H v ∧ AllR Rs S H vs
  | _, _, _, _ => False
def AJ (es : List Expr) (Rs : List BP) : Prop := ∀ S H σ, Stt B Γ O S H σ → ∀ Q : List V → Hp → Prop, (∀ vs S' H', Stp S H S' H' → AllR Rs S' H' vs → Q vs H') → wA X es σ H Q
def SJ (body : List Stmt) (D : Ends) : Prop := ∀ S H σ, Stt B Γ O S H σ → wB X body D σ H
def NX (N : L2.St → Hp → Prop) : Prop := ∀ S H σ, Stt B Γ O S H σ → N σ H
end
theorem AllR.up : ∀ {Rs : List BP} {S S' H H' : Hp} {vs : List V}, Same S S' → Same H H' → AllR Rs S H vs → AllR Rs S' H' vs
  | [], _, _, _, _, [], _, _, _ => trivial
  | [], _, _, _, _, _ :: _, _, _, h => h.elim
  | _ :: _, _, _, _, _, [], _, _, h => h.elim
  | R :: Rs, _, _, _, _, v :: vs, e, e', h => ⟨R.up e e' h.1, AllR.up e e' h.2⟩
theorem AllR.length : ∀ {Rs : List BP} {S H : Hp} {vs : List V}, AllR Rs S H vs → vs.length = Rs.length
  | [], _, _, [], _ => rfl
  | [], _, _, _ :: _, h => h.elim
  | _ :: _, _, _, [], h => h.elim
  | R :: Rs, _, _, v :: vs, h => congrArg Nat.succ (AllR.length h.2)

def tV (v : V) : MP := ⟨fun _ w => w = v, fun _ h => h⟩
abbrev tI (i : Int) : MP := tV (.int i)
abbrev tB (b : Bool) : MP := tV (.bl b)
abbrev tS (x : Str) : MP := tV (.str x)
abbrev tN : MP := tV .non
abbrev tR (p : Addr) : MP := tV (.ref p)
abbrev bI (i : Int) : BP := (tI i).b
abbrev bB (b : Bool) : BP := (tB b).b
abbrev bS (x : Str) : BP := (tS x).b
abbrev bN : BP := tN.b

section
variable {X : Cx} {B : Bs} {Γ : Gm} {O : Om} {e a b c : Expr} {es : List Expr} {pos pos' : Pos} {R R' : BP} {D : Ends} {rest body els : List Stmt}

theorem EJ.of {t : TE} (h : PE X e t) (q : ∀ S H σ, Stt B Γ O S H σ → ∀ Q : VK, (∀ v S' H', Stp S H S' H' → R.R S' H' v → Q v H') → t σ H Q) : EJ X B Γ O e R :=
  fun S H σ st Q k => ⟨t, h, q S H σ st Q k⟩
theorem EJ.now {t : TE} (h : PE X e t) (q : ∀ S H σ, Stt B Γ O S H σ → ∃ v, R.R S H v ∧ ∀ Q : VK, Q v H → t σ H Q) : EJ X B Γ O e R :=
  EJ.of h fun S H σ st Q k => let ⟨v, h1, h2⟩ := q S H σ st; h2 Q (k v S H (Stp.refl st.sub) h1)
theorem EJ.imp (h : EJ X B Γ O e R) (i : ∀ S H v, R.R S H v → R'.R S H v) : EJ X B Γ O e R' := fun S H σ st Q k => h S H σ st Q fun v S' H' s r => k v S' H' s (i _ _ _ r)
theorem e_var (i : Nat) {R : MP} {x : Str} (hG : Γ[i]? = some (some R) := by rfl) (hN : X.N[i]? = some x := by rfl) (hv : Vis X.env.scope x := by first | exact Or.inl rfl | exact Or.inr (Or.inl rfl) | exact Or.inr (Or.inr rfl))
    (hd : (x == ("__debug__" : Str)) = false := by decide) (hcd : (x == ("__classdict__" : Str)) = false := by decide) : EJ X B Γ O (.Name x pos) R.b :=
  EJ.now (pe_var hN hv hd hcd) fun S H σ st => let ⟨v, h1, h2⟩ := st.slot i R hG; ⟨v, h2, fun Q q => ⟨v, h1, q⟩⟩
theorem e_own (i : Nat) {p : Addr} {M : MO} {x : Str} (hG : Γ[i]? = some (some (tR p))) (hO : (p, M) ∈ O) (hN : X.N[i]? = some x := by rfl) (hv : Vis X.env.scope x := by first | exact Or.inl rfl | exact Or.inr (Or.inl rfl) | exact Or.inr (Or.inr rfl))
    (hd : (x == ("__debug__" : Str)) = false := by decide) (hcd : (x == ("__classdict__" : Str)) = false := by decide) : EJ X B Γ O (.Name x pos) M.b :=
  EJ.now (pe_var hN hv hd hcd) fun S H σ st => by
    obtain ⟨v, h1, h2⟩ := st.slot i (tR p) hG
    obtain ⟨_, _, o, h3, h4⟩ := st.own _ hO
    exact ⟨v, ⟨p, o, h2, h3, h4⟩, fun Q q => ⟨v, h1, q⟩⟩
theorem e_int {i : Int} {j} : EJ X B Γ O (.Constant (.int i) j pos) (bI i) := EJ.now pe_int fun _ _ _ _ => ⟨_, rfl, fun _ q => q⟩
theorem e_str {i : Str} {j} : EJ X B Γ O (.Constant (.str i) j pos) (bS i) := EJ.now pe_str fun _ _ _ _ => ⟨_, rfl, fun _ q => q⟩
theorem e_op2 {op : Operator} {r : R2} {Ra Rb : BP} (ho : OpR X (binaryOp op) r) (ha : EJ X B Γ O a Ra) (hb : EJ X B Γ O b Rb)
    (hr : ∀ S H x y, Same S H → Ra.R S H x → Rb.R S H y → ∀ Q : VK, (∀ v S' H', Stp S H S' H' → R.R S' H' v → Q v H') → r x y H Q) : EJ X B Γ O (.BinOp a op b pos) R :=
  EJ.of (pe_op ho pe_w pe_w) fun S H σ st Q k => ha S H σ st _ fun x S1 H1 s1 r1 => hb S1 H1 σ (st.step s1) _ fun y S2 H2 s2 r2 =>
    hr S2 H2 x y s2.i (Ra.up s2.s s2.h r1) r2 Q fun v S3 H3 s3 r3 => k v S3 H3 ((s1.trans s2).trans s3) r3
theorem e_cmp2 {op : CmpOp} {r : R2} {Ra Rb : BP} (ho : OpR X (compareOp op) r) (ha : EJ X B Γ O a Ra) (hb : EJ X B Γ O b Rb) (hm : behindInMarks op b = false)
    (hr : ∀ S H x y, Same S H → Ra.R S H x → Rb.R S H y → ∀ Q : VK, (∀ v S' H', Stp S H S' H' → R.R S' H' v → Q v H') → r x y H Q) : EJ X B Γ O (.Compare a [op] [b] pos) R :=
  EJ.of (pe_cmpR ho pe_w pe_w hm) fun S H σ st Q k => ha S H σ st _ fun x S1 H1 s1 r1 => hb S1 H1 σ (st.step s1) _ fun y S2 H2 s2 r2 =>
    hr S2 H2 x y s2.i (Ra.up s2.s s2.h r1) r2 Q fun v S3 H3 s3 r3 => k v S3 H3 ((s1.trans s2).trans s3) r3
section
variable {i j : Int}
theorem e_add (ha : EJ X B Γ O a (bI i)) (hb : EJ X B Γ O b (bI j)) : EJ X B Γ O (.BinOp a .Add b pos) (bI (i + j)) :=
  e_op2 op_add ha hb fun S H x y sm h1 h2 Q k => ⟨i, j, h1, h2, k _ S H (Stp.refl sm) rfl⟩
theorem e_mul (ha : EJ X B Γ O a (bI i)) (hb : EJ X B Γ O b (bI j)) (hc : IntMulOk i j) : EJ X B Γ O (.BinOp a .Mult b pos) (bI (i * j)) :=
  e_op2 (r := rI (fun i j => IntMulOk i j) fun i j => .int (i * j)) (opI fun _ _ _ _ _ _ _ hc q => mul_int q hc) ha hb fun S H x y sm h1 h2 Q k => ⟨i, j, h1, h2, hc, k _ S H (Stp.refl sm) rfl⟩
theorem e_fdiv (ha : EJ X B Γ O a (bI i)) (hb : EJ X B Γ O b (bI j)) (h0 : j ≠ 0) (hc : j.natAbs.log2 < 9000) : EJ X B Γ O (.BinOp a .FloorDiv b pos) (bI (i.fdiv j)) :=
  e_op2 (r := rI (fun _ j => j ≠ 0 ∧ j.natAbs.log2 < 9000) fun i j => .int (i.fdiv j)) (opI fun _ _ _ _ _ _ _ hc q => floordiv_int hc.1 q (.inl (PyProof.noPylong_of_log2 hc.2))) ha hb fun S H x y sm h1 h2 Q k => ⟨i, j, h1, h2, ⟨h0, hc⟩, k _ S H (Stp.refl sm) rfl⟩
theorem e_mod (ha : EJ X B Γ O a (bI i)) (hb : EJ X B Γ O b (bI j)) (h0 : j ≠ 0) : EJ X B Γ O (.BinOp a .Mod b pos) (bI (i.fmod j)) :=
  e_op2 op_modN ha hb fun S H x y sm h1 h2 Q k => ⟨i, j, h1, h2, h0, k _ S H (Stp.refl sm) rfl⟩
theorem e_pow (ha : EJ X B Γ O a (bI i)) (hb : EJ X B Γ O b (bI j)) (h0 : CPow i j) : EJ X B Γ O (.BinOp a .Pow b pos) (bI (i ^ j.toNat)) :=
  e_op2 op_pow ha hb fun S H x y sm h1 h2 Q k => ⟨i, j, h1, h2, h0, k _ S H (Stp.refl sm) rfl⟩
theorem e_ge (ha : EJ X B Γ O a (bI i)) (hb : EJ X B Γ O b (bI j)) : EJ X B Γ O (.Compare a [.GtE] [b] pos) (bB (decide (j ≤ i))) :=
  e_cmp2 op_ge ha hb (nomark _) fun S H x y sm h1 h2 Q k => ⟨i, j, h1, h2, k _ S H (Stp.refl sm) rfl⟩
end
theorem t_val {k : Bool} (h : EJ X B Γ O e (bB k)) (he : ∀ whole, isTrue e X.env whole = (do let v ← whole; standAt e.pos; holding [v] (truthy v)) := by intro _; rfl) : TJ X B Γ O e k :=
  fun S H σ st Q q => ⟨_, pt_val pe_w he, h S H σ st _ fun v S' H' s r => ⟨k, r, q S' H' s⟩⟩
def TW (X : Cx) (B : Bs) (Γ : Gm) (O : Om) (e : Expr) (b : Bool) : Prop := ∀ S H σ, Stt B Γ O S H σ → ∀ Q : Bool → Hp → Prop, (∀ S' H', Stp S H S' H' → Q b H') → ∃ t, PW X e t ∧ t σ H Q
theorem pw_w {e : Expr} : PW X e (fun σ H Q => ∃ t, PW X e t ∧ t σ H Q) := ⟨fun wh pins s σ H Q I ⟨_, h, q⟩ => h.run wh pins s σ H Q I q⟩
theorem a_nil : AJ X B Γ O [] [] := fun S H σ st Q q => ⟨_, pa_nil, q [] S H (Stp.refl st.sub) trivial⟩
theorem a_cons {Rs : List BP} (h : EJ X B Γ O e R) (hr : AJ X B Γ O es Rs) (hs : starEach (e :: es) X.env = (false, eval e X.env) :: starEach es X.env := by rfl) : AJ X B Γ O (e :: es) (R :: Rs) := fun S H σ st Q q =>
  ⟨_, pa_cons pe_w pa_w hs, h S H σ st _ fun v S1 H1 s1 r1 => hr S1 H1 σ (st.step s1) _ fun vs S2 H2 s2 r2 => q (v :: vs) S2 H2 (s1.trans s2) ⟨R.up s2.s s2.h r1, r2⟩⟩
theorem s_nil (h : NX B Γ O D.nx) : SJ X B Γ O [] D := fun S H σ st => ⟨_, pss_nil, h S H σ st⟩
theorem SJ.cons {st : Stmt} (h : ∀ S H σ, Stt B Γ O S H σ → wS X st { D with nx := wB X rest D } σ H) : SJ X B Γ O (st :: rest) D := fun S H σ t => ⟨_, pss_cons ps_w pb_w, h S H σ t⟩
theorem s_set {i : Nat} {x : Str} {R : MP} {Γ' : Gm} (he : EJ X B Γ O e R.b) (h : SJ X B Γ' O rest D) (hi : X.N[i]? = some x := by rfl) (hG : Γ.set i (some R) = Γ' := by rfl) (hl : i < Γ.length := by exact Nat.le_of_ble_eq_true rfl) (hN : X.N.Nodup := by assumption)
    (hx : Loc X.env.scope x := by first | exact Or.inl rfl | exact Or.inr rfl) (hs : swapsWith e (some (.Name x pos')) pos.line X.env = pure false := by rfl) (hf : X.fn x = true ∨ X.env.scope.names.lookup x = some .local := by first | exact .inl rfl | exact .inr rfl | assumption) :
    SJ X B Γ O (.Assign [.Name x pos'] e pos :: rest) D :=
  SJ.cons fun S H σ st => ⟨_, ps_set hN hi hx pe_w hs hf, he S H σ st _ fun v S1 H1 s1 r1 => h S1 H1 _ (hG ▸ (st.step s1).set r1 hl)⟩
theorem s_if {k : Bool} (hc : TJ X B Γ O c k) (h1 : k = true → SJ X B Γ O body { D with nx := wB X rest D }) (h2 : k = false → SJ X B Γ O els { D with nx := wB X rest D }) : SJ X B Γ O (.If c body els pos :: rest) D :=
  SJ.cons fun S H σ st => ⟨_, ps_if pt_w pb_w pb_w, hc S H σ st _ fun S1 H1 s1 => by
    cases k with
    | true => exact iteT (h1 rfl S1 H1 σ (st.step s1))
    | false => exact iteF (h2 rfl S1 H1 σ (st.step s1))⟩
end
end OT
namespace OT
open PySem PySem.Spec PyProof.Rows L2

inductive Out where
  | val (R : MP)
  | new (M : MO)
  | err (X : XP)
def Out.thn (o : Out) (S H : Hp) (Q : VK) (E : XK) : Prop := match o with
  | .val R => ∀ v S' H', Stp S H S' H' → R.R S' v → Q v H'
  | .new M => ∀ p o S' H', Stp S H S' H' → H p = none → S' p = none → H' p = some o → M.R S' o → Q (.ref p) H'
  | .err X => ∀ c d S' H', Stp S H S' H' → X.R S' c d → E c d H'
def XJ (X : Cx) (B : Bs) (Γ : Gm) (O : Om) (W : WX) (e : Expr) (P : XP) : Prop := ∀ S H σ, Stt B Γ O S H σ → (∀ c d S' H', Stp S H S' H' → P.R S' c d → W c d σ H') → ∀ Q : VK, wE X e σ H Q
def Out.J (o : Out) (X : Cx) (B : Bs) (Γ : Gm) (O : Om) (W : WX) (e : Expr) : Prop := match o with
  | .val R => EJ X B Γ O e R.b
  | .new M => NJ X B Γ O e M
  | .err P => XJ X B Γ O W e P
theorem Out.j {o : Out} {X : Cx} {B : Bs} {Γ : Gm} {O : Om} {W : WX} {e : Expr} (h : ∀ S H σ, Stt B Γ O S H σ → ∀ Q : VK, o.thn S H Q (WE W σ) → wE X e σ H Q) : o.J X B Γ O W e := by
  cases o with
  | val R => exact fun S H σ st Q k => h S H σ st Q k
  | new M => exact fun S H σ st Q k => h S H σ st Q k
  | err P => exact fun S H σ st k Q => h S H σ st Q k
theorem Out.thn.later {o : Out} {S H S1 H1 : Hp} {Q : VK} {E : XK} (h : o.thn S H Q E) (s : Stp S H S1 H1) : o.thn S1 H1 Q E := by
  cases o with
  | val R => exact fun v S' H' s' r => h v S' H' (s.trans s') r
  | new M => exact fun p o S' H' s' n1 n2 h1 h2 => h p o S' H' (s.trans s') (s.h.free n1) n2 h1 h2
  | err P => exact fun c d S' H' s' r => h c d S' H' (s.trans s') r

def SpO (As : List BP) (o : Out) : Sp := fun vs H Q E => ∃ S, Same S H ∧ AllR As S H vs ∧ o.thn S H Q E
def spD {D : Type} (As : D → List BP) (out : D → Out) : Sp := fun vs H Q E => ∃ d, SpO (As d) (out d) vs H Q E
def SpI (C : Addr) (As : List BP) (o : Out) : Sp := fun vs H Q E => ∃ x dx H1 ws S, vs = .ref x :: ws ∧ H = upd (upd H1 dx (.own x)) x (.ins C dx []) ∧ H1 x = none ∧ H1 dx = none ∧ dx ≠ x ∧ Same S H1 ∧ AllR As S H1 ws ∧
  o.thn S H1 (fun v H' => v = .ref x → Q .non H') E
def spN {D : Type} (C : Addr) (As : D → List BP) (out : D → Out) : Sp := fun vs H Q E => ∃ d, SpI C (As d) (out d) vs H Q E

section
variable (P : Program) (w : World) (K : PySem.W.Frag) (mg : Str → Option Value) (base : Heap)
def GF (x : Str) (k : Nat) (ps : List Str) (sp : Sp) : Prop := ∃ f fd, FnOk P w K mg base (L2.CX P w) k f fd ps sp ∧ mg x = some (.ref f) ∧ PySem.W.keepIn K (.ref f) = true ∧ Binds K fd ps []
def GM (C : Addr) (m : Str) (k : Nat) (ps : List Str) (sp : Sp) : Prop := ∃ f fd, FnOk P w K mg base (L2.CX P w) k f fd ps sp ∧ Meth K C m f ∧ Binds K fd ps []
def GC (x : Str) (C : Addr) (k : Nat) (ps : List Str) (sp : Sp) : Prop := ∃ f fd, FnOk P w K mg base (L2.CX P w) k f fd ps sp ∧ Mk K C f ∧ mg x = some (.ref C) ∧ Binds K fd ps []
end
section
variable {X : Cx} {CX : CXT} {k : Nat} {f C : Addr} {fd : FuncData} {ps : List Str} {sp : Sp} {E : L2.St → XK} {x m : Str} {p pos apos : Pos} {e o : Expr} {es : List Expr} {ta : TE} {t : TA}
theorem run_makeS {pins : List (Addr × Obj)} {σ : L2.St} {H : Hp} {s : Shared} {Q : VK} {us : List Value} {vs : List V} (M : Mk X.K C f) (F : FnOk X.prog X.w X.K X.mg X.base CX k f fd ps sp) (hr : Room (k + 1) X.A) (hb : Binds X.K fd ps [])
    (hx : PassesAt CX X σ (E σ)) (I : Inv X pins σ H s) (r : Vals vs us)
    (h : ∀ x dx, H x = none → H dx = none → dx ≠ x → sp (.ref x :: vs) (upd (upd H dx (.own x)) x (.ins C dx [])) (fun v H2 => v = .non ∧ Q (.ref x) H2) (E σ)) :
    wpAny (model X.prog X.w) X.A (call (.ref C) us) (EP X pins σ Q) X.xe s := by
  have hq := h (s.heap.objs.size + 1) s.heap.objs.size (I.hok.fresh (Nat.le_succ _)) (I.hok.fresh (Nat.le_refl _)) (Nat.ne_of_lt (Nat.lt_succ_self _))
  have I2 := Inv.made (C := C) I
  have r2 : Vals (V.ref (s.heap.objs.size + 1) :: vs) (Value.ref (s.heap.objs.size + 1) :: us) := .cons rfl r
  have hl : (Value.ref (s.heap.objs.size + 1) :: us ++ []).length = ps.length := by
    rw [List.append_nil]
    have e := r2.length
    rw [F.len _ _ _ _ hq] at e
    exact e.symm
  refine wpAny_call (make_map (f := f) I.kIn M.makes M.init (beq_iff_eq.mp M.fn) (codeAny_mono (F.run _ X.stack _ _ ⟨Value.ref (s.heap.objs.size + 1) :: us, []⟩ (Value.ref (s.heap.objs.size + 1) :: us) _ _ (E σ) (hr.make C us [])
    (I2.env0.make C us []) (by have := hb _ (Value.ref (s.heap.objs.size + 1) :: us) I2.kIn hl; rw [List.append_nil] at this; exact this) r2 hq) fun r s' hq' => ?_))
  cases r with
  | error e => exact hx pins _ _ e s' I2 hq'
  | ok fl =>
    cases fl with
    | ret u =>
      obtain ⟨v, H', I3, rv, ev, q3⟩ := I2.after hq'
      subst ev
      exact ⟨rv, ⟨V.ref (s.heap.objs.size + 1), H', I3, rfl, q3⟩⟩
    | next => exact False.elim hq'
    | brk => exact False.elim hq'
    | cont => exact False.elim hq'
def tMakeS (C : Addr) (sp : Sp) (E : L2.St → XK) (t : TA) : TE := fun σ H Q => t σ H fun vs H1 => ∀ x dx, H1 x = none → H1 dx = none → dx ≠ x →
  sp (.ref x :: vs) (upd (upd H1 dx (.own x)) x (.ins C dx [])) (fun v H2 => v = .non ∧ Q (.ref x) H2) (E σ)
theorem pe_makeS (M : Mk X.K C f) (F : FnOk X.prog X.w X.K X.mg X.base CX k f fd ps sp) (hr : Room (k + 1) X.A) (hg : Gl X x) (hm : X.mg x = some (.ref C)) (hb : Binds X.K fd ps []) (hx : ∀ σ, PassesAt CX X σ (E σ))
    (ha : PA X (e :: es) t) (hdb : (x == ("__debug__" : Str)) = false := by decide) (he : starEach (e :: es) X.env = (false, eval e X.env) :: starEach es X.env := by rfl) (hpl : (backTo pos (starEach es X.env)).any (·.1) = false := by rfl) :
    PE X (.Call (.Name x p) (e :: es) [] pos) (tMakeS C sp E t) := by
  refine ⟨fun pins s σ H Q I h => ?_⟩
  refine wpAny_Call_Name_kw (ld_glob I hg hm ?_ hdb)
  refine PySem.W.callWith_K (h₀ := X.base) I.ok.mod.kin M.kp (thn (ha.run pos pins s σ H _ I h) fun us s1 ⟨vs, H1, I1, r, q⟩ => ⟨I1.kIn, ?_⟩) he hpl
  exact run_makeS M F hr hb (hx σ) I1 r q
def tMethSX (C : Addr) (m : Str) (sp : Sp) (E : L2.St → XK) (ta : TE) (t : TA) : TE := fun σ H Q => ta σ H fun x H1 => ∃ a dx fs, x = .ref a ∧ H1 a = some (.ins C dx fs) ∧ fs.lookup m = none ∧ t σ H1 fun vs H2 => sp (x :: vs) H2 Q (E σ)
end
section
variable {X : Cx} {B : Bs} {Γ : Gm} {O : Om} {e a b c o : Expr} {es : List Expr} {p pos pos' apos : Pos} {R R' : BP} {Ds : Ends} {rest body els : List Stmt} {x m f : Str} {C : Addr} {k : Nat} {ps : List Str} {W : WX} {D : Type} {As : D → List BP} {out : D → Out}

def tIns (C : Addr) (m : Str) (R : BP) : Prop := ∀ S H v, R.R S H v → Same S H → ∃ a dx fs, v = .ref a ∧ H a = some (.ins C dx fs) ∧ fs.lookup m = none
theorem e_callTy {T : String} {r : List V → Hp → VK → Prop} {Rs : List BP} (hc : CallR X (.type T) r) (hm : X.mg x = none) (hv : bootBuiltins x = some (.type T)) (ha : AJ X B Γ O (e :: es) Rs)
    (hq : ∀ S H vs, Same S H → AllR Rs S H vs → ∀ Q : VK, (∀ v S' H', Stp S H S' H' → R.R S' H' v → Q v H') → r vs H Q) (hg : Gl X x := by rfl) (hn : x ≠ "__name__" := by decide) (hdb : (x == ("__debug__" : Str)) = false := by decide)
    (he : starEach (e :: es) X.env = (false, eval e X.env) :: starEach es X.env := by rfl) (hpl : (backTo pos (starEach es X.env)).any (·.1) = false := by rfl) : EJ X B Γ O (.Call (.Name x p) (e :: es) [] pos) R :=
  EJ.of (pe_callTy hc hg hm hv pa_w hn hdb he hpl) fun S H σ st Q q => ha S H σ st _ fun vs S1 H1 s1 r1 => hq S1 H1 vs s1.i r1 Q fun v S' H' s r => q v S' H' (s1.trans s) r
theorem AllR.one {S H : Hp} {vs : List V} (h : AllR [R] S H vs) : ∃ v, vs = [v] ∧ R.R S H v := match vs, h with
  | [v], h => ⟨v, rfl, h.1⟩
  | [], h => h.elim
  | _ :: _ :: _, h => h.2.elim
theorem AllR.two {S H : Hp} {vs : List V} (h : AllR [R, R'] S H vs) : ∃ v w, vs = [v, w] ∧ R.R S H v ∧ R'.R S H w := match vs, h with
  | [v, w], h => ⟨v, w, rfl, h.1, h.2.1⟩
  | [], h => h.elim
  | [_], h => h.2.elim
  | _ :: _ :: _ :: _, h => h.2.2.elim
theorem e_intI {i : Int} (hm : X.mg "int" = none) (ha : EJ X B Γ O e (bI i)) (hg : Gl X "int" := by rfl) (hs : starEach [e] X.env = (false, eval e X.env) :: starEach [] X.env := by rfl) : EJ X B Γ O (.Call (.Name "int" p) [e] [] pos) (bI i) :=
  e_callTy call_int1 hm (by decide +kernel) (a_cons ha a_nil hs) (fun S H vs sm r Q q => by
    obtain ⟨v, rfl, h⟩ := r.one
    cases h
    exact .inl ⟨i, rfl, q _ S H (Stp.refl sm) rfl⟩) hg (by decide) (by decide) hs rfl

def FldR : List (Str × MP) → Hp → List (Str × V) → Prop
  | [], _, [] => True
  | (f, R) :: Rs, S, (g, v) :: vs => f = g ∧ R.R S v ∧ FldR Rs S vs
  | _, _, _ => False
theorem FldR.up : ∀ {Rs : List (Str × MP)} {S S' : Hp} {vs : List (Str × V)}, Same S S' → FldR Rs S vs → FldR Rs S' vs
  | [], _, _, [], _, _ => trivial
  | [], _, _, _ :: _, _, h => h.elim
  | _ :: _, _, _, [], _, h => h.elim
  | (_, R) :: Rs, _, _, (_, v) :: vs, e, h => ⟨h.1, R.up e h.2.1, FldR.up e h.2.2⟩
theorem FldR.get : ∀ {Rs : List (Str × MP)} {S : Hp} {vs : List (Str × V)} {f : Str} {R : MP}, FldR Rs S vs → Rs.lookup f = some R → ∃ v, vs.lookup f = some v ∧ R.R S v
  | [], _, [], _, _, _, h => by cases h
  | [], _, _ :: _, _, _, h, _ => h.elim
  | _ :: _, _, [], _, _, h, _ => h.elim
  | (g, Q) :: Rs, S, (g', v) :: vs, f, R, h, e => by
    obtain ⟨rfl, h1, h2⟩ := h
    rw [List.lookup_cons] at e ⊢
    cases q : (f == g) with
    | true =>
      rw [q] at e
      cases e
      exact ⟨v, rfl, h1⟩
    | false =>
      rw [q] at e
      exact FldR.get h2 e
theorem FldR.none : ∀ {Rs : List (Str × MP)} {S : Hp} {vs : List (Str × V)} {f : Str}, FldR Rs S vs → Rs.lookup f = none → vs.lookup f = none
  | [], _, [], _, _, _ => rfl
  | [], _, _ :: _, _, h, _ => h.elim
  | _ :: _, _, [], _, h, _ => h.elim
  | (g, Q) :: Rs, S, (g', v) :: vs, f, h, e => by
    obtain ⟨rfl, h1, h2⟩ := h
    rw [List.lookup_cons] at e ⊢
    cases q : (f == g) with
    | true =>
      rw [q] at e
      cases e
    | false =>
      rw [q] at e
      exact FldR.none h2 e
theorem FldR.len : ∀ {Rs : List (Str × MP)} {S : Hp} {vs : List (Str × V)}, FldR Rs S vs → vs.length = Rs.length
  | [], _, [], _ => rfl
  | [], _, _ :: _, h => h.elim
  | _ :: _, _, [], h => h.elim
  | _ :: Rs, _, _ :: vs, h => congrArg Nat.succ (FldR.len h.2.2)
def tO (C : Addr) (Rs : List (Str × MP)) : MP := ⟨fun S v => ∃ a dx fs, v = .ref a ∧ S a = some (.ins C dx fs) ∧ S dx = some (.own a) ∧ FldR Rs S fs,
  fun {S S' v} e ⟨a, dx, fs, h1, h2, h3, h4⟩ => ⟨a, dx, fs, h1, e _ _ h2, e _ _ h3, h4.up e⟩⟩
theorem tO.ins {Rs : List (Str × MP)} (h : Rs.lookup m = none := by first | rfl | decide +kernel) : tIns C m (tO C Rs).b := fun S H v ⟨a, dx, fs, h1, h2, _, h4⟩ sm => ⟨a, dx, fs, h1, sm _ _ h2, h4.none h⟩

def mIns (C dx : Addr) (Rs : List (Str × MP)) : MO := ⟨fun S o => ∃ fs, o = .ins C dx fs ∧ FldR Rs S fs, fun e ⟨fs, h1, h2⟩ => ⟨fs, h1, h2.up e⟩⟩
def mOwn (x : Addr) : MO := ⟨fun _ o => o = .own x, fun _ h => h⟩
theorem NX.made {x dx : Addr} {Rs : List (Str × MP)} {O' : Om} {Q : VK} {E : XK} (hQ : (Out.val (tO C Rs)).thn B.S B.H (fun v H' => v = .ref x → Q .non H') E) : NX B Γ ((x, mIns C dx Rs) :: (dx, mOwn x) :: O') (fun _ H' => Q .non H') := fun S H σ t => by
  obtain ⟨h3, h3', o, h4, fs, rfl, h5⟩ := t.own _ List.mem_cons_self
  obtain ⟨g3, g3', u, g4, rfl⟩ := t.own _ (List.mem_cons_of_mem _ List.mem_cons_self)
  have ne : dx ≠ x := by
    have := t.nd
    rw [List.map_cons, List.map_cons] at this
    exact fun z => (List.nodup_cons.mp this).1 (by subst z; exact List.mem_cons_self)
  have s1 : Same S (upd (upd S dx (.own x)) x (.ins C dx fs)) := fun a u z => by
    rw [upd_ne (ne_of_none z h3), upd_ne (ne_of_none z g3)]
    exact z
  refine hQ (.ref x) (upd (upd S dx (.own x)) x (.ins C dx fs)) H ⟨t.st.s.trans s1, fun a u z => ?_, t.st.h, fun a z1 z2 => ?_⟩ ⟨x, dx, fs, rfl, upd_same, by rw [upd_ne ne, upd_same], h5.up s1⟩ rfl
  · by_cases q : a = x
    · subst q; rw [upd_same] at z; cases z; exact h4
    · rw [upd_ne q] at z
      by_cases q : a = dx
      · subst q; rw [upd_same] at z; cases z; exact g4
      · rw [upd_ne q] at z; exact t.sub a u z
  · rw [upd_ne (fun y => by subst y; exact z2 h3'), upd_ne (fun y => by subst y; exact z2 g3')]
    exact t.st.fr a z1 z2
end

section
variable {P : Program} {w : World} {K : PySem.W.Frag} {mg : Str → Option Value} {base : Heap} {x qual : Str} {params : Arguments} {body : List Stmt} {scope : Scope} {kws : List (Str × V)} {f : Addr} {fd : FuncData}
theorem tk_cx {N : List Str} {cd : Value} {A : Around} {outer : List Env} {s : Shared} {H : Hp} {E : XK} : Takes (cxOf (L2.CX P w) P w K mg base N qual scope f cd A outer s H E) (fun c d _ H => E c d H) := takes_of rfl rfl rfl rfl
theorem own_cx {N : List Str} {cd : Value} {A : Around} {outer : List Env} {s : Shared} {H : Hp} {E : XK} : PassesOwn (model P w) (cxOf (L2.CX P w) P w K mg base N qual scope f cd A outer s H E).A (cxOf (L2.CX P w) P w K mg base N qual scope f cd A outer s H E).env (cxOf (L2.CX P w) P w K mg base N qual scope f cd A outer s H E).xe :=
  passes_of (K := fun e s'' => L2.CX P w outer H s E e s'') rfl
theorem pass_none {X : Cx} : Passes (L2.CX X.prog X.w) X E0 := passL
def gm0 (N : List Str) (As : List BP) (H0 : Hp) : Gm := As.map (fun a => some (a.at_ H0)) ++ List.replicate (N.length - As.length) none
theorem slot0 : ∀ {As : List BP} {S H : Hp} {vs : List V}, AllR As S H vs → ∀ (n : Nat) (i : Nat) (R : MP), (As.map (fun a => some (a.at_ H)) ++ List.replicate n none)[i]? = some (some R) → ∃ v, (vs.map some ++ List.replicate n none)[i]? = some (some v) ∧ R.R S v
  | [], _, _, [], _, n, i, R, e => by
    rw [List.map_nil, List.nil_append] at e
    have := List.mem_of_getElem? e
    rw [List.mem_replicate] at this
    cases this.2
  | [], _, _, _ :: _, h, _, _, _, _ => h.elim
  | _ :: _, _, _, [], h, _, _, _, _ => h.elim
  | A :: As, S, H, v :: vs, h, n, i, R, e => by
    cases i with
    | zero =>
      have e2 : A.at_ H = R := Option.some.inj (Option.some.inj e)
      subst e2
      exact ⟨v, rfl, h.1⟩
    | succ i => exact slot0 h.2 n i R e
theorem stt0 {N : List Str} {As : List BP} {S H : Hp} {vs : List V} (sm : Same S H) (h : AllR As S H vs) : Stt ⟨S, H, .yes⟩ (gm0 N As H) [] S H (start N vs) where
  st := Stp.refl sm
  slot := fun i R e => by
    unfold L2.start
    rw [h.length]
    exact slot0 h _ i R e
  len := by
    unfold L2.start gm0
    rw [List.length_append, List.length_append, List.length_map, List.length_map, List.length_replicate, List.length_replicate, h.length]
  own := fun q hq => by cases hq
  nd := List.nodup_nil
  gh := trivial
theorem fun_ok {D : Type} {As : D → List BP} {out : D → Out} {N ps : List Str} {k : Nat} (F : FunD K x qual params body scope [] kws f fd) (Sc : FnScope N ps scope) (hl : ∀ d, (As d).length = ps.length)
    (hb : ∀ (cdv : Value) (A : Around) (outer : List Env) (s : Shared) (H S : Hp) (Q : VK) (E : XK) (d : D), Room k (A.deeper (envOfC qual scope s.heap.objs.size f cdv)) → (out d).thn S H Q E →
      SJ (cxOf (L2.CX P w) P w K mg base N qual scope f cdv A outer s H E) ⟨S, H, .yes⟩ (gm0 N (As d) H) [] body { nx := fun _ H' => Q .non H', rt := Q }) : FnOk P w K mg base (L2.CX P w) (k + 1) f fd ps (spD As out) := by
  refine F.ok Sc (fun vs H Q E h => ?_) (fun cdv A outer s H vs Q E hr h => ?_)
  · obtain ⟨d, S, _, r, _⟩ := h
    rw [r.length, hl]
  · obtain ⟨d, S, sm, r, q⟩ := h
    exact hb cdv A outer s H S Q E d hr q S H _ (stt0 sm r)
end
end OT
namespace OT
open PySem PySem.Spec PyProof.Rows L2

def AllM : List MP → Hp → List V → Prop
  | [], _, [] => True
  | R :: Rs, S, v :: vs => R.R S v ∧ AllM Rs S vs
  | _, _, _ => False
theorem AllM.up : ∀ {Rs : List MP} {S S' : Hp} {vs : List V}, Same S S' → AllM Rs S vs → AllM Rs S' vs
  | [], _, _, [], _, _ => trivial
  | [], _, _, _ :: _, _, h => h.elim
  | _ :: _, _, _, [], _, h => h.elim
  | R :: Rs, _, _, v :: vs, e, h => ⟨R.up e h.1, AllM.up e h.2⟩
theorem AllM.length : ∀ {Rs : List MP} {S : Hp} {vs : List V}, AllM Rs S vs → vs.length = Rs.length
  | [], _, [], _ => rfl
  | [], _, _ :: _, h => h.elim
  | _ :: _, _, [], h => h.elim
  | R :: Rs, _, v :: vs, h => congrArg Nat.succ (AllM.length h.2)
theorem AllM.get : ∀ {Rs : List MP} {S : Hp} {vs : List V} {i : Nat} {R : MP}, AllM Rs S vs → Rs[i]? = some R → ∃ v, vs[i]? = some v ∧ R.R S v
  | [], _, _, _, _, _, e => by simp at e
  | _ :: _, _, [], _, _, h, _ => h.elim
  | Q :: Rs, _, v :: vs, 0, R, h, e => by
    simp at e; subst e; exact ⟨v, rfl, h.1⟩
  | Q :: Rs, _, v :: vs, i + 1, R, h, e => by
    have e2 : Rs[i]? = some R := by simpa using e
    obtain ⟨w, h1, h2⟩ := AllM.get h.2 e2
    exact ⟨w, by simpa using h1, h2⟩
theorem AllM.got : ∀ {Rs : List MP} {S : Hp} {vs : List V} {i : Nat} {v : V}, AllM Rs S vs → vs[i]? = some v → ∃ R, Rs[i]? = some R ∧ R.R S v
  | _, _, [], _, _, _, e => by simp at e
  | [], _, _ :: _, _, _, h, _ => h.elim
  | Q :: Rs, _, w :: vs, 0, v, h, e => by
    simp at e; subst e; exact ⟨Q, rfl, h.1⟩
  | Q :: Rs, _, w :: vs, i + 1, v, h, e => by
    have e2 : vs[i]? = some v := by simpa using e
    obtain ⟨R, h1, h2⟩ := AllM.got h.2 e2
    exact ⟨R, by simpa using h1, h2⟩
theorem AllM.append : ∀ {Rs Qs : List MP} {S : Hp} {vs ws : List V}, AllM Rs S vs → AllM Qs S ws → AllM (Rs ++ Qs) S (vs ++ ws)
  | [], _, _, [], _, _, h => h
  | [], _, _, _ :: _, _, h, _ => h.elim
  | _ :: _, _, _, [], _, h, _ => h.elim
  | R :: Rs, _, _, v :: vs, _, h, h' => ⟨h.1, AllM.append h.2 h'⟩
theorem AllM.set {R : MP} {v : V} : ∀ {Rs : List MP} {S : Hp} {vs : List V} (i : Nat), AllM Rs S vs → R.R S v → AllM (Rs.set i R) S (vs.set i v)
  | [], _, [], _, _, _ => trivial
  | [], _, _ :: _, _, h, _ => h.elim
  | _ :: _, _, [], _, h, _ => h.elim
  | Q :: Rs, _, w :: vs, 0, h, hv => ⟨hv, h.2⟩
  | Q :: Rs, _, w :: vs, i + 1, h, hv => ⟨h.1, AllM.set i h.2 hv⟩
theorem AllM.ofR : ∀ {Rs : List MP} {S H : Hp} {vs : List V}, AllR (Rs.map MP.b) S H vs → AllM Rs S vs
  | [], _, _, [], _ => trivial
  | [], _, _, _ :: _, h => h.elim
  | _ :: _, _, _, [], h => h.elim
  | R :: Rs, _, _, v :: vs, h => ⟨h.1, AllM.ofR h.2⟩
theorem Same.tup {K : PySem.W.Frag} {H H' : Hp} {a : Addr} {xs : List V} (e : Same H H') (h : SqT K H a xs) : SqT K H' a xs := by
  rcases h with (h | ⟨o, h⟩) | h
  · exact .inl (.inl (e _ _ h))
  · exact .inl (.inr ⟨o, e _ _ h⟩)
  · exact .inr h
def tL (K : PySem.W.Frag) (Rs : List MP) : MP := ⟨fun S v => ∃ a vs, v = .ref a ∧ S a = some (.lst vs) ∧ AllM Rs S vs, fun e ⟨a, vs, h1, h2, h3⟩ => ⟨a, vs, h1, e _ _ h2, h3.up e⟩⟩
def bL (K : PySem.W.Frag) (Rs : List MP) : BP := ⟨fun S H v => ∃ a vs, v = .ref a ∧ H a = some (.lst vs) ∧ AllM Rs S vs, fun e e' ⟨a, vs, h1, h2, h3⟩ => ⟨a, vs, h1, e' _ _ h2, h3.up e⟩⟩
def tT (K : PySem.W.Frag) (Rs : List MP) : MP := ⟨fun S v => ∃ a vs, v = .ref a ∧ S a = some (.tup vs) ∧ AllM Rs S vs, fun e ⟨a, vs, h1, h2, h3⟩ => ⟨a, vs, h1, e _ _ h2, h3.up e⟩⟩
def mL (Rs : List MP) : MO := ⟨fun S o => ∃ vs, o = .lst vs ∧ AllM Rs S vs, fun e ⟨vs, h1, h2⟩ => ⟨vs, h1, h2.up e⟩⟩
def bQ (K : PySem.W.Frag) (Rs : List MP) : BP := ⟨fun S H v => ∃ a vs, v = .ref a ∧ (SqL K H a vs ∨ SqT K H a vs) ∧ AllM Rs S vs, fun e e' ⟨a, vs, h1, h2, h3⟩ => ⟨a, vs, h1, h2.elim (fun h => .inl (e'.seq h)) (fun h => .inr (Same.tup e' h)), h3.up e⟩⟩

section
variable {X : Cx} {B : Bs} {Γ : Gm} {O : Om} {e a b c o l : Expr} {es : List Expr} {p pos pos' apos : Pos} {R R' : BP} {D : Ends} {rest body els : List Stmt} {x m f : Str} {Rs : List MP}
theorem EJ.impS (h : EJ X B Γ O e R) (i : ∀ S H v, Same S H → R.R S H v → R'.R S H v) : EJ X B Γ O e R' := fun S H σ st Q k => h S H σ st Q fun v S' H' s r => k v S' H' s (i _ _ _ s.i r)
theorem EJ.lent (h : EJ X B Γ O e (tL X.K Rs).b) : EJ X B Γ O e (bL X.K Rs) := h.impS fun S H v sm ⟨a, vs, h1, h2, h3⟩ => ⟨a, vs, h1, sm _ _ h2, h3⟩
theorem EJ.lentO (h : EJ X B Γ O e (mL Rs).b) : EJ X B Γ O e (bL X.K Rs) := h.imp fun S H v ⟨p, o, h1, h2, vs, h3, h4⟩ => ⟨p, vs, h1, h3 ▸ h2, h4⟩
theorem e_lst_own (i : Nat) {p : Addr} {x : Str} (hO : (p, mL Rs) ∈ O) (hG : Γ[i]? = some (some (tR p)) := by rfl) (hN : X.N[i]? = some x := by rfl) (hv : Vis X.env.scope x := by first | exact Or.inl rfl | exact Or.inr (Or.inl rfl) | exact Or.inr (Or.inr rfl))
    (hd : (x == ("__debug__" : Str)) = false := by decide) (hcd : (x == ("__classdict__" : Str)) = false := by decide) : EJ X B Γ O (.Name x pos) (bL X.K Rs) := (e_own i hG hO hN hv hd hcd).lentO
theorem n_lst (h : AJ X B Γ O es (Rs.map MP.b)) (hz : Rs.length ≤ 1000 := by exact Nat.le_of_ble_eq_true rfl) : NJ X B Γ O (.List es pos) (mL Rs) := fun S H σ st Q q =>
  ⟨_, pe_lst pa_w, h S H σ st _ fun vs S1 H1 s1 r1 => by
    have r := AllM.ofR r1
    refine ⟨by rw [r.length]; exact Nat.le_trans hz (by decide), fun p hp => ?_⟩
    have s2 := Stp.own (o := .lst vs) s1.i hp
    exact q p _ _ _ (s1.trans s2) (s1.h.free hp) (s1.i.free hp) upd_same ⟨vs, rfl, r⟩⟩
theorem NJ.settle {M : MO} (h : NJ X B Γ O e M) : EJ X B Γ O e M.pub.b := fun S H σ st Q q => h S H σ st Q fun p o S1 H1 s1 n1 n2 h1 h2 => by
  have s2 : Same S1 (upd S1 p o) := fun a u z => by rw [upd_ne (ne_of_none z n2)]; exact z
  refine q (.ref p) (upd S1 p o) H1 ⟨s1.s.trans s2, fun a u z => ?_, s1.h, fun a z1 z2 => ?_⟩ ⟨p, o, rfl, upd_same, M.up s2 h2⟩
  · by_cases y : a = p
    · subst y; rw [upd_same] at z; cases z; exact h1
    · rw [upd_ne y] at z; exact s1.i a u z
  · rw [upd_ne (fun y => by subst y; exact z2 n1)]
    exact s1.fr a z1 z2
theorem NJ.settleL (h : NJ X B Γ O e (mL Rs)) : EJ X B Γ O e (tL X.K Rs).b := h.settle.imp fun S H v ⟨p, o, h1, h2, vs, h3, h4⟩ => ⟨p, vs, h1, h3 ▸ h2, h4⟩
theorem e_ixL {i : Int} {R : MP} (h : EJ X B Γ O a (bL X.K Rs)) (hi : EJ X B Γ O b (bI i)) (hg : atI Rs i = some R) (hs : PlainIx b := by exact fun _ _ => rfl) : EJ X B Γ O (.Subscript a b pos) R.b :=
  EJ.of (pe_ix ix_list pe_w pe_w hs) fun S H σ st Q q => h S H σ st _ fun v S1 H1 s1 r1 => hi S1 H1 σ (st.step s1) _ fun w S2 H2 s2 r2 => by
    obtain ⟨p, vs, rfl, h2, h3⟩ := (bL X.K Rs).up s2.s s2.h r1
    cases r2
    unfold atI at hg
    cases hn : ixN Rs.length i with
    | none => rw [hn] at hg; cases hg
    | some j =>
      rw [hn] at hg
      obtain ⟨v, h4, h5⟩ := h3.get hg
      refine ⟨p, vs, i, v, rfl, rfl, SqL.of h2, ?_, q v S2 H2 (s1.trans s2) h5⟩
      unfold atI
      rw [h3.length, hn]
      exact h4
def Gle : Gm → Gm → Prop
  | [], [] => True
  | none :: r, _ :: r' => Gle r r'
  | some R :: r, some R' :: r' => R = R' ∧ Gle r r'
  | _, _ => False
theorem Gle.len : ∀ {G G' : Gm}, Gle G G' → G.length = G'.length
  | [], [], _ => rfl
  | none :: r, _ :: r', h => congrArg Nat.succ (Gle.len (G := r) (G' := r') h)
  | some R :: r, some R' :: r', h => congrArg Nat.succ (Gle.len (G := r) (G' := r') h.2)
  | some _ :: _, none :: _, h => h.elim
  | [], _ :: _, h => h.elim
  | none :: _, [], h => h.elim
  | some _ :: _, [], h => h.elim
theorem Gle.get : ∀ {G G' : Gm}, Gle G G' → ∀ (i : Nat) (R : MP), G[i]? = some (some R) → G'[i]? = some (some R)
  | [], [], _, _, _, e => e
  | none :: r, _ :: r', h, 0, R, e => by simp at e
  | none :: r, _ :: r', h, i + 1, R, e => by
    have e2 : r[i]? = some (some R) := by simpa using e
    have := Gle.get (G := r) (G' := r') h i R e2
    simpa using this
  | some R :: r, some R' :: r', h, 0, Q, e => by
    have h1 := h.1
    subst h1
    exact e
  | some R :: r, some R' :: r', h, i + 1, Q, e => by
    have e2 : r[i]? = some (some Q) := by simpa using e
    have := Gle.get (G := r) (G' := r') h.2 i Q e2
    simpa using this
  | some _ :: _, none :: _, h, _, _, _ => h.elim
  | [], _ :: _, h, _, _, _ => h.elim
  | none :: _, [], h, _, _, _ => h.elim
  | some _ :: _, [], h, _, _, _ => h.elim
theorem Stt.le {Γ' : Gm} {S H : Hp} {σ : L2.St} (t : Stt B Γ O S H σ) (h : Gle Γ' Γ) : Stt B Γ' O S H σ := t.forget h.len h.get
theorem SJ.le {Γ' : Gm} (h : SJ X B Γ' O body D) (g : Gle Γ' Γ) : SJ X B Γ O body D := fun S H σ t => h S H σ (t.le g)
def At {β : Type} (B : Bs) (Gs : β → Gm) (Os : β → Om) (P : β → Prop) : L2.St → Hp → Prop := fun σ H => ∃ s S, P s ∧ Stt B (Gs s) (Os s) S H σ
theorem Gle.rfl' {G : Gm} : Gle G G := by
  induction G with
  | nil => exact trivial
  | cons a r ih =>
    cases a with
    | none => exact ih
    | some _ => exact ⟨rfl, ih⟩
theorem s_skip {D' : Ends} (h : SJ X B Γ O rest D') (hD : D.nx = wB X rest D' := by rfl) : SJ X B Γ O [] D := s_nil fun S H σ t => by rw [hD]; exact h S H σ t
theorem pss_weak {t : TS} {st : List Stmt} (h : PSs X st t) : PSs X st (fun D σ H => ∃ D' : Ends, (∀ σ H, D'.nx σ H → D.nx σ H) ∧ D'.rt = D.rt ∧ D'.bk = D.bk ∧ D'.ct = D.ct ∧ t D' σ H) := ⟨fun pins s σ H D I ⟨D', h1, h2, h3, h4, q⟩ => by
  refine wpAny_mono (h.run pins s σ H D' I q) (fun fl s' z => ?_) fun _ _ z => z
  cases fl with
  | next => obtain ⟨σ', H', J, q⟩ := z; exact ⟨σ', H', J, h1 _ _ q⟩
  | ret u => obtain ⟨v, σ', H', J, rv, q⟩ := z; exact ⟨v, σ', H', J, rv, h2 ▸ q⟩
  | brk => obtain ⟨σ', H', J, q⟩ := z; exact ⟨σ', H', J, h3 ▸ q⟩
  | cont => obtain ⟨σ', H', J, q⟩ := z; exact ⟨σ', H', J, h4 ▸ q⟩⟩
structure Wp (js : List Nat) (σ σ' : L2.St) : Prop where
  at_ : ∀ (i : Nat), i ∉ js → σ'[i]? = σ[i]?
  len : σ'.length = σ.length
theorem Wp.wipe {js vs : List Nat} {σ σ' : L2.St} (w : Wp js σ σ') (h : ∀ j ∈ js, j ∈ vs) : L2.wipe σ' vs = L2.wipe σ vs := by
  have key : ∀ (vs : List Nat) (σ : L2.St) (i : Nat), (L2.wipe σ vs)[i]? = if i ∈ vs then (if i < σ.length then some none else none) else σ[i]? := by
    intro vs σ
    induction vs with
    | nil => intro i; simp [L2.wipe]
    | cons v vs ih =>
      intro i
      show ((L2.wipe σ vs).set v none)[i]? = _
      by_cases e : v = i
      · subst e
        rw [List.getElem?_set]
        simp [L2.wipe_length]
      · rw [List.getElem?_set_ne e, ih]
        have : (i ∈ v :: vs) ↔ i ∈ vs := by
          rw [List.mem_cons]
          exact ⟨fun z => z.elim (fun z => absurd z.symm e) id, .inr⟩
        simp only [this]
  apply List.ext_getElem?
  intro i
  rw [key, key]
  by_cases hi : i ∈ vs
  · rw [if_pos hi, if_pos hi, w.len]
  · rw [if_neg hi, if_neg hi]
    exact w.at_ i fun z => hi (h i z)
def GJ (X : Cx) (B : Bs) (O : Om) (tg : Expr) (R : MP) (Γ Γ' : Gm) (js : List Nat) : Prop := ∀ S H σ v, Stt B Γ O S H σ → R.R S v → ∀ Q : L2.St → Hp → Prop, (∀ σ', Stt B Γ' O S H σ' → Wp js σ σ' → Q σ' H) → wG X tg v σ H Q
def GJs (X : Cx) (B : Bs) (O : Om) (ts : List Expr) (Rs : List MP) (Γ Γ' : Gm) (js : List Nat) : Prop := ∀ S H σ vs, Stt B Γ O S H σ → AllM Rs S vs → ∀ Q : L2.St → Hp → Prop, (∀ σ', Stt B Γ' O S H σ' → Wp js σ σ' → Q σ' H) → ∃ t, PGs X ts t ∧ t vs σ H Q
theorem pgs_w {ts : List Expr} : PGs X ts (fun vs σ H Q => ∃ t, PGs X ts t ∧ t vs σ H Q) := ⟨fun pins s σ H vs us Q I r ⟨_, h, q⟩ => h.run pins s σ H vs us Q I r q⟩
def IJ (X : Cx) (B : Bs) (Γ : Gm) (O : Om) (tg it : Expr) (need : Om) (n : Nat) (item : Nat → MP) : Prop := ∀ S H σ, Stt B Γ O S H σ → ∀ Rk : It → Hp → Prop,
  (∀ (J : It) (G : Gho) S' H', Stp S H S' H' → G.R S' → (∀ Γ2 O2 S2 H2 σ2, Stt (B.add G) Γ2 O2 S2 H2 σ2 → (∀ q ∈ need, q ∈ O2) → J.stop n H2 ∧ ∀ i, i < n → J.go i H2 ∧ ∀ y H3, J.yld i H2 y H3 → ∃ S3, Stp S2 H2 S3 H3 ∧ (item i).R S3 y) → Rk J H') → wI X tg it σ H Rk
def MP.gh (R : MP) (v : V) : Gho := ⟨fun S => R.R S v, fun e h => R.up e h⟩
def LstS (B : Bs) (K : PySem.W.Frag) (R : MP) (Rs : List MP) : Prop := ∀ S H v, Stp B.S B.H S H → R.R S v → ∃ a vs, v = .ref a ∧ SqL K H a vs ∧ AllM Rs S vs
def TupS (B : Bs) (K : PySem.W.Frag) (R : MP) (Rs : List MP) : Prop := ∀ S H v, Stp B.S B.H S H → R.R S v → ∃ a vs, v = .ref a ∧ SqT K H a vs ∧ AllM Rs S vs
def nth (Rs : List MP) (i : Nat) : MP := Rs.getD i tN
theorem nth_get {Rs : List MP} {i : Nat} (h : i < Rs.length) : Rs[i]? = some (nth Rs i) := by unfold nth; simp [List.getD, h]
def BlkJ (X : Cx) (scope : Scope) (P : Cx → Prop) : Prop := ∀ (s : Shared) (H : Hp) (C : Addr) (cl : List (Str × Addr)) (fp : List Addr), P (X.blk s H scope (compEnvC scope cl C X.env) fp)
def picked (k : Nat → Bool) (R : Nat → MP) (n : Nat) : List MP := ((List.range n).filter k).map R
def IfsJ (X : Cx) (B : Bs) (Γ : Gm) (O : Om) (ifs : List Expr) (k : Bool) : Prop := ∀ S H σ, Stt B Γ O S H σ → ∀ Q : Bool → Hp → Prop, (∀ S' H', Stp S H S' H' → Q k H') → ∃ t, PTs X ifs t ∧ t σ H Q
theorem Stt.mut {S H : Hp} {σ : L2.St} {p : Addr} {M M' : MO} {o : HO} (t : Stt B Γ ((p, M) :: O) S H σ) (h : M'.R S o) : Stt B Γ ((p, M') :: O) S (upd H p o) σ := by
  obtain ⟨h3, h3', _, _, _⟩ := t.own _ List.mem_cons_self
  have nx : ∀ q ∈ O, q.1 ≠ p := fun q hq z => by
    have := t.nd
    rw [List.map_cons] at this
    exact (List.nodup_cons.mp this).1 (List.mem_map.mpr ⟨q, hq, z⟩)
  refine ⟨⟨t.st.s, fun a u z => ?_, fun a u z => ?_, t.st.fr⟩, t.slot, t.len, fun q hq => ?_, t.nd, t.gh⟩
  · have : a ≠ p := fun y => by subst y; rw [h3] at z; cases z
    rw [upd_ne this]
    exact t.sub a u z
  · have : a ≠ p := fun y => by subst y; rw [h3'] at z; cases z
    rw [upd_ne this]
    exact t.st.h a u z
  · rcases List.mem_cons.mp hq with z | hq
    · subst z
      exact ⟨h3, h3', _, upd_same, h⟩
    · obtain ⟨g1, g2, u, g3, g4⟩ := t.own q (List.mem_cons_of_mem _ hq)
      exact ⟨g1, g2, u, by rw [upd_ne (nx q hq)]; exact g3, g4⟩
theorem wipe_wp (σ : L2.St) (vs : List Nat) : Wp vs σ (L2.wipe σ vs) := by
  refine ⟨fun i hi => ?_, L2.wipe_length σ vs⟩
  induction vs with
  | nil => rfl
  | cons w vs ih =>
    show ((L2.wipe σ vs).set w none)[i]? = _
    rw [List.getElem?_set_ne (fun z => hi (by rw [z]; exact List.mem_cons_self)), ih fun z => hi (List.mem_cons_of_mem _ z)]
def EM {ι : Type} (X : Cx) (B : Bs) (Γ : Gm) (O : Om) (e : Expr) (P : ι → Prop) (R : ι → MP) : Prop := ∀ S H σ, Stt B Γ O S H σ → ∀ Q : VK, (∀ i v S' H', P i → Stt B Γ O S' H' σ → Same S S' → (R i).R S' v → Q v H') → wE X e σ H Q
theorem EJ.mv {R : MP} (h : EJ X B Γ O e R.b) : EM X B Γ O e (fun _ : Unit => True) (fun _ => R) := fun S H σ st Q q => h S H σ st Q fun v S' H' s r => q () v S' H' trivial (st.step s) s.s r
theorem EM.imp {ι κ : Type} {P : ι → Prop} {R : ι → MP} {P' : κ → Prop} {R' : κ → MP} (h : EM X B Γ O e P R) (i : ∀ i, P i → ∃ j, P' j ∧ R i = R' j) : EM X B Γ O e P' R' := fun S H σ st Q q => h S H σ st Q fun k v S' H' hk t s r => by
  obtain ⟨j, h1, h2⟩ := i k hk
  exact q j v S' H' h1 t s (h2 ▸ r)
theorem s_retM {ι : Type} {P : ι → Prop} {R : ι → MP} (he : EM X B Γ O e P R) (h : ∀ j v S H σ, P j → Stt B Γ O S H σ → (R j).R S v → D.rt v H) : SJ X B Γ O (.Return (some e) pos :: rest) D :=
  SJ.cons fun S H σ st => ⟨_, ps_ret pe_w, he S H σ st _ fun j v S1 H1 hj t s r => h j v S1 H1 σ hj t r⟩
theorem EJ.mi {i : Int} (h : EJ X B Γ O e (bI i)) : EM X B Γ O e (fun j => j = i) tI := h.mv.imp fun _ _ => ⟨i, rfl, rfl⟩
end
end OT
namespace OT
open PySem PySem.Spec PyProof.Rows L2
section
variable {X : Cx} {CX : CXT} {k : Nat} {f C : Addr} {fd : FuncData} {ps : List Str} {sp : Sp} {E : XK}
theorem run_own {pins : List (Addr × Obj)} {σ : L2.St} {H : Hp} {s : Shared} {Q : VK} {us : List Value} {vs : List V} (F : FnOk X.prog X.w X.K X.mg X.base CX k f fd ps sp) (hr : Room k X.A) (hb : Binds X.K fd ps []) (hx : Passes CX X E)
    (I : Inv X pins σ H s) (r : Vals vs us) (h : sp vs H Q E) : wpAny (model X.prog X.w) X.A (call (.ref f) us) (EP X pins σ Q) X.xe s :=
  run_fn F hr hb .nil hx I r (by rw [List.append_nil]; exact h)
def rOwn2 (C : Addr) (sp : Sp) (E : XK) : R2 := fun x y H Q => ∃ a b dx dy fs gs, x = .ref a ∧ y = .ref b ∧ H a = some (.ins C dx fs) ∧ H b = some (.ins C dy gs) ∧ sp [x, y] H Q E
def rOwn1 (C : Addr) (sp : Sp) (E : XK) : V → Hp → VK → Prop := fun x H Q => ∃ a dx fs, x = .ref a ∧ H a = some (.ins C dx fs) ∧ sp [x] H Q E
def rInOwn (C : Addr) (sp : Sp) (E : XK) (neg : Bool) : R2 := fun x y H Q => ∃ a dx fs, y = .ref a ∧ H a = some (.ins C dx fs) ∧ sp [y, x] H (fun v H' => ∃ b, v = .bl b ∧ Q (.bl (if neg then !b else b)) H') E
def rEqOwn (K : PySem.W.Frag) (C : Addr) (sp : Sp) (E : XK) : R2 := fun x y H Q => ∃ a b dx dy fs gs, x = .ref a ∧ y = .ref b ∧ H a = some (.ins C dx fs) ∧ H b = some (.ins C dy gs) ∧ sp [x, y] H (fun v H' => ∃ b, v = .bl b ∧ Q (.bl b) H') E
theorem eq_own (M : Meth X.K C "__eq__" f) (F : FnOk X.prog X.w X.K X.mg X.base CX k f fd ps sp) (hr : Room k X.A) (hb : Binds X.K fd ps []) (hx : Passes CX X E) :
    OpR X (compareOp .Eq) (rEqOwn X.K C sp E) := by
  intro pins s σ H x y v u Q I rx ry h
  obtain ⟨a, b, dx, dy, fs, gs, rfl, rfl, ha, hb', hs⟩ := h
  cases rx
  cases ry
  obtain ⟨mA, J, _⟩ := ins_get I.hok ha
  obtain ⟨mB, J', _⟩ := ins_get I.hok hb'
  obtain ⟨od, J, _⟩ := J.look
  obtain ⟨od', J', _⟩ := J'.look
  obtain ⟨m, hF⟩ := I.fr
  show wpAny _ _ (richCompare .Eq (.ref a) (.ref b)) _ _ _
  refine PySem.W.cmp_K (op := .Eq) (tb := .ref C) hr.units0 hF I.ok.mod.kin J J'.type (by simp [PySem.W.notFirst]) M.at_ M.fn ?_
  exact thn (run_own (vs := [V.ref a, V.ref b]) F hr hb hx I (.cons rfl (.cons rfl .nil)) hs) fun w s' hw => by
    obtain ⟨z, H', I', rz, b, rfl, q⟩ := hw
    cases rz
    exact ⟨.bl b, H', I', rfl, q⟩
end
end OT
namespace OT
open PySem PySem.Spec PyProof.Rows L2 NdefX

structure XI (P : Program) (K : PySem.W.Frag) (mg : Str → Option Value) (C f : Addr) (fd : FuncData) (F : NF) : Prop where
  lk : ∃ oc od osl, K.lookup f = some ⟨oc, od, .func fd, osl⟩
  eq : ∃ dV kV doc pm an ct, fd = PySem.W.fnX F.name F.qual F.params F.body F.scope F.cl dV kV doc pm an (.ref F.c) ct
  cd : PySem.W.codeIn K (.ref F.c) F.qual = true
  code : ∃ ccl cdd vs ccs file tf, K.lookup F.c = some ⟨ccl, cdd, .fields vs, ccs⟩ ∧ vs[2]? = some (.str file tf) ∧ ((P.main.file : Str) == file) = true
  cell : ∃ cc cl cld csl, F.cl = [(("__class__" : Str), cc)] ∧ K.lookup cc = some ⟨cl, cld, .cell (some (.ref C)), csl⟩
  T : OexC K C
  mro : PySem.W.mroIn K C (.ref C) = some true
  sup : PySem.W.ks_superIn K C C "__init__" = some (some (.builtin "ValueError.__init__"))
  opq : PySem.W.nsIn K cStatics "thirdparty.any" = some none
  sub : PySem.W.subIn K (.ref C) (.type "ValueError") = some true
  mgs : mg "super" = none
  top : (P.main.scope.names.lookup ("super" : Str)).isSome = false
theorem boot_super : bootBuiltins "super" = some (.type "super") := by decide +kernel
section
variable {P : Program} {w : World} {K : PySem.W.Frag} {mg : Str → Option Value} {base : Heap}
theorem xi_ok {CX : CXT} {C f : Addr} {fd : FuncData} {F : NF} {N ps' : List Str} {self : Str} {k : Nat} {sp : Sp} {arg : Expr} {rest : List Stmt} {p0 p1 apos cpos pos : Pos} {ar : Arg} (W : XI P K mg C f fd F) (S : NScope N (self :: ps') ["__class__"] F.scope) (len : ∀ vs H Q E, sp vs H Q E → vs.length = (self :: ps').length)
    (hB : F.body = .Expr (.Call (.Attribute (.Call (.Name "super" p0) [] [] p1) "__init__" apos) [arg] [] cpos) pos :: rest) (hp : (F.params.posonlyargs ++ F.params.args).head? = some ar) (ha : ar.arg = self) (hks : F.scope.names.lookup ("super" : Str) = some .globalImplicit)
    (hbody : ∀ (A : Around) (outer : List Env) (s : Shared) (H : Hp) (vs : List V) (Q : VK) (E : XK), Room k (A.deeper (envF F f s.heap.objs.size)) → sp vs H Q E → ∃ a vs', vs = .ref a :: vs' ∧ H a = some (exo a C none) ∧
      wA (ncx CX P w K mg base N F f A outer s H E) [arg] (startF N vs [some (.ref C)]) H fun ws H1 => ws.length ≤ 1000 ∧ H1 a = some (exo a C none) ∧ wB (ncx CX P w K mg base N F f A outer s H E) rest { nx := fun _ H' => Q .non H', rt := Q } (startF N vs [some (.ref C)]) H1)
    (hst : ∀ env : Env, starEach [arg] env = (false, eval arg env) :: starEach [] env)
    (hsw : ∀ env : Env, swapsWith (.Call (.Attribute (.Call (.Name "super" p0) [] [] p1) "__init__" apos) [arg] [] cpos) none pos.line env = pure false)
    (he : ∀ env : Env, ∃ pl, eval (.Call (.Attribute (.Call (.Name "super" p0) [] [] p1) "__init__" apos) [arg] [] cpos) env = (do
      let ov ← attributeBase (.Call (.Name "super" p0) [] [] p1) "__init__" env (eval (.Call (.Name "super" p0) [] [] p1) env)
      standAt apos.atName
      let (f, first) ← holding [ov] (getMethod ov "__init__" pl)
      callWith cpos f first (backTo cpos (starEach [arg] env)) [])) :
    FnOk P w K mg base CX (k + 1) f fd (self :: ps') sp := by
  refine ⟨len, fun A outer s H args us vs Q E hr e0 hb r hsp => ?_⟩
  have hl := len _ _ _ _ hsp
  obtain ⟨oc, od, osl, lk⟩ := W.lk
  obtain ⟨dV, kV, doc, pm, an, ct, rfl⟩ := W.eq
  obtain ⟨cc, clc, cld, csl, ecl, lc⟩ := W.cell
  obtain ⟨ccl, cdd, cvs, ccs, file, tf, lcode, hv2, hfile⟩ := W.code
  have KX : K.In s.heap := e0.mod.kin.keeps fun b o e => (e0.bs b o e).1
  have KB : ∀ {b o}, K.lookup b = some o → base.get? b = some o := fun {b o} e => e0.mod.kin b o e
  have lim : s.heap.NoLimit := e0.mod.nolimit.keeps fun b o e => (e0.bs b o e).1
  refine ks_codeAny_call_defAt (fd := PySem.W.fnX F.name F.qual F.params F.body F.scope F.cl dV kV doc pm an (.ref F.c) ct) (body := F.body) hr.depth (KX _ _ lk) rfl lim (PySem.W.codeRec_of KX W.cd) rfl hb (fun y hy => S.nocell y hy) (fun y hy => S.par y.1 (List.of_mem_zip hy).1) (fun h₁ hns kp => ?_) S.co S.gen S.kind
  have CA : CellsAt F.cl ["__class__"] [some (.ref C)] s.heap H := by
    refine ⟨rfl, fun y c hc => ?_, fun x y c h1 h2 => ?_, fun i y hi => ?_⟩
    · rw [ecl] at hc
      have : c = cc := by
        rw [List.lookup_cons] at hc
        split at hc
        · exact (Option.some.inj hc).symm
        · cases hc
      subst this
      exact ⟨(e0.bs _ _ (KB lc)).2, _, _, (e0.bs _ _ (KB lc)).1, rfl⟩
    · rw [ecl] at h1 h2
      have key : ∀ {z : Str}, List.lookup z [(("__class__" : Str), cc)] = some c → z = "__class__" := fun {z} q => by
        by_cases e : z = "__class__"
        · exact e
        · have e2 : (z == ("__class__" : Str)) = false := by simpa using e
          rw [List.lookup_cons, e2] at q
          cases q
      rw [key h1, key h2]
    · cases i with
      | zero =>
        have : y = "__class__" := by simpa using hi.symm
        subst this
        refine ⟨cc, by rw [ecl]; simp, fun v hv => ?_⟩
        have : v = .ref C := by simpa using hv.symm
        subst this
        exact ⟨.ref C, rfl, _, (e0.bs _ _ (KB lc)).1, rfl⟩
      | succ i => simp at hi
  have I : Inv (ncx CX P w K mg base N F f A outer s H E) [] (startF N vs [some (.ref C)]) H { s with heap := h₁, toks := s.toks + ((self :: ps').zip us).length } := inv_startN S hr.hd e0 hl r CA hns kp
  obtain ⟨a, vs', rfl, hHa, hq⟩ := hbody A outer s H vs Q E (hr.deeper _) hsp
  obtain ⟨ta, hta, hq⟩ := hq
  show PySem.wpAt (model P w) (A.deeper (envF F f s.heap.objs.size)) (.func F.body (envF F f s.heap.objs.size)) (execs F.body (envF F f s.heap.objs.size)) _ _ _
  rw [show execs F.body (envF F f s.heap.objs.size) = execs (.Expr (.Call (.Attribute (.Call (.Name "super" p0) [] [] p1) "__init__" apos) [arg] [] cpos) pos :: rest) (envF F f s.heap.objs.size) by rw [hB]]
  refine ks_wpAt_execs_cons (ks_wpAt_Expr_any ?_ (by simp [interactive, S.kind]) (hsw _))
  obtain ⟨pl, he⟩ := he (envF F f s.heap.objs.size)
  refine ks_wpAt_MethodCall (pl := pl) ?_ he
  have hN0 : N[0]? = some self := by
    have q := S.pre
    cases N with
    | nil => simp at q
    | cons n N =>
      have q2 : n = self := by
        have := congrArg (fun l : List Str => l[0]?) q
        simpa using this
      rw [q2]
      rfl
  obtain ⟨t1, hoa⟩ := exo_at I.hok hHa
  obtain ⟨nm, qn, Nn, bs, bm, sn, sub, ab, col, dd, k0, k1, k2, k3, k5, hC, hbm⟩ := W.T.cls
  have K1 := I.kIn
  have IA : PySem.W.InstAt h₁ a { cls := .ref C, dict := none, data := .fields #[.ref t1, .none, .none, .none, .bool false, .none] } C none := ⟨hoa, rfl, rfl, trivial⟩
  have hcd : ∃ cd, PySem.W.clsIn K C = some cd := by
    unfold PySem.W.clsIn
    rw [hC]
    exact ⟨_, rfl⟩
  obtain ⟨cd, hcd⟩ := hcd
  have hsup : PySem.W.alongIn K "__init__" ((cd.mro.dropWhile (· != .ref C)).drop 1) = some (some (.builtin "ValueError.__init__")) := by
    have q := W.sup
    unfold PySem.W.ks_superIn at q
    rw [hcd] at q
    exact q
  obtain ⟨mb, hb1, hb2⟩ := I.mod.blt
  obtain ⟨mm, hnn, hloc⟩ := I.loc
  have hself : mm self = some (.ref a) := by
    obtain ⟨u, ru, l⟩ := hloc 0 self (.ref a) hN0 rfl (.inl (S.par self List.mem_cons_self))
    cases ru
    have kl : F.scope.names.lookup self = some .local := S.par self List.mem_cons_self
    rcases l with ⟨_, hm⟩ | ⟨hk', _⟩
    · exact hm
    · have hk2 : F.scope.names.lookup self = some .cell ∨ F.scope.names.lookup self = some .free := hk'
      rw [kl] at hk2
      rcases hk2 with z | z <;> cases z
  refine ks_wpAt_super_base (env := envF F f s.heap.objs.size) hks (S.frk _ List.mem_cons_self) (by decide +kernel) rfl (K1 _ _ lk) rfl hp rfl (K1 _ _ lcode) rfl hv2 hfile W.top ?_
  refine PySem.W.ks_loadName_global S.kind hks (Calls.loadGlobal_builtin (env := envF F f s.heap.objs.size) (I.mod.glob.keeps I.bk) W.mgs (hb1.keeps I.bk) ((hb2 _ (by decide)).trans boot_super) ⟨rfl, ?_⟩)
  refine wpAny_loadName_free S.kind (S.frk _ List.mem_cons_self) (by show F.cl.lookup _ = _; rw [ecl]; simp) ⟨_, K1 _ _ lc, rfl⟩ ?_
  refine wpAny_loadName_local S.kind (by rw [ha]; exact S.par self List.mem_cons_self) hnn (by rw [ha]; exact hself) ?_
  refine ks_wpAny_isType_cls (K1 _ _ hC) rfl ⟨rfl, ?_⟩
  have hno := PySem.W.looks_opaque (M := model P w) (C := C) K1 W.opq
  have hmr : PySem.W.Looks (model P w) h₁ (mroOf (.ref C)) cd.mro := (PySem.W.looks_clsIn K1 hcd).andThen .now
  refine ks_wpAny_call_super (K1 _ _ hC) rfl hoa rfl (fun c z => by cases z) (PySem.W.looks_mroIn K1 W.mro) fun h2 hso k2 => ?_
  have I2 : Inv (ncx CX P w K mg base N F f A outer s H E) [] (startF N (.ref a :: vs') [some (.ref C)]) H ⟨h2, s.gens, s.drawn, s.toks + ((self :: ps').zip us).length, s.os⟩ := I.kept (t' := s.toks + ((self :: ps').zip us).length) k2
  have K2 := I2.kIn
  have hsubL : PySem.W.Looks (model P w) h₁ (isSubtype (.ref C) (.type "ValueError")) true := PySem.W.looks_subIn (K := K) K1 W.sub
  have hinst : PySem.W.Looks (model P w) h₁ (isInstance (.ref a) (.type "ValueError")) true := IA.type.andThen hsubL
  refine PySem.W.kxs_getMethod PySem.W.kxs_ValueError hso (hno.keeps k2) (hmr.keeps k2) rfl K2 hsup (hinst.keeps k2) (PySem.W.ks_ne K1 IA hcd) (by decide +kernel) ?_
  have I3 : Inv (ncx CX P w K mg base N F f A outer s H E) [(h2.objs.size, PySem.W.kxs_mw "ValueError.__init__" a)] (startF N (.ref a :: vs') [some (.ref C)]) H ⟨h2.push (PySem.W.kxs_mw "ValueError.__init__" a), s.gens, s.drawn, s.toks + ((self :: ps').zip us).length + 1, s.os⟩ :=
    ClX.pin_new (s := ⟨h2, s.gens, s.drawn, s.toks + ((self :: ps').zip us).length, s.os⟩) (t' := s.toks + ((self :: ps').zip us).length + 1) I2 (fun b u e => Heap.get?_push_of_some _ e) (Nat.le_refl _) (Heap.get?_push_at rfl rfl) (fun v z => by cases z)
  rw [show backTo cpos (starEach [arg] (envF F f s.heap.objs.size)) = backTo cpos ((false, eval arg (envF F f s.heap.objs.size)) :: starEach [] (envF F f s.heap.objs.size)) by rw [hst]]
  refine PySem.W.kxs_callWith (i := "ValueError.__init__") (x := a) rfl (PySem.Calls.evalArgs_plain ?_)
  have run := hta.run cpos _ _ _ _ _ I3 hq
  rw [show backTo cpos (starEach [arg] (ncx CX P w K mg base N F f A outer s H E).env) = backTo cpos ((false, eval arg (envF F f s.heap.objs.size)) :: starEach [] (envF F f s.heap.objs.size)) by rw [hst]; rfl] at run
  refine thn run fun ws' s4 hw => ?_
  obtain ⟨ws, H1, I4, rws, hwl, hH1a, hrest⟩ := hw
  refine ⟨ClX.pin_at I4, ?_⟩
  have I5 := ClX.unpin I4
  obtain ⟨t5, ho5⟩ := exo_at I5.hok hH1a
  obtain ⟨h5, g5, d5, tk5, os5⟩ := s4
  have K5 : K.In h5 := I5.kIn
  have hu5 : h5.get? h2.objs.size = some (PySem.W.kxs_mw "ValueError.__init__" a) := ClX.pin_at I4
  have FB := PySem.F.excBase_ValueError
  refine wpAny_call (codeAny_of_tree ?_)
  show wpAny _ (A.deeper (envF F f s.heap.objs.size)).in1 (callAny (.ref h2.objs.size) ⟨[] ++ ws', []⟩) _ _ _
  simp only [callAny]
  refine wpAny_bind (wpAny_load hu5 ?_)
  simp only [PySem.W.kxs_mw, show (Value.type "method-wrapper" == Value.type "method" || Value.type "method-wrapper" == Value.type "builtin_function_or_method" || Value.type "method-wrapper" == Value.type "method-wrapper") = true by decide, if_true]
  refine PySem.W.KFB.if_so (by decide) ?_
  refine wpAny_bind (PySem.W.check_bound_init FB.toExcCallFacts (K5 _ _ hC) ho5 rfl ?_)
  refine wpAny_bind (wpAny_pure (wpAny_pure ?_))
  refine ⟨plainId_quiet FB.init.plain _, codeAny_builtin FB.initEntry ?_⟩
  refine PySem.W.exc_init_tree (cls := .ref C) (t0 := t5) (dv := none) (c2 := .none) (c3 := .none) (b4 := .bool false) ho5 (by rw [List.nil_append, ← Paired.length rws]; exact Nat.le_trans hwl (by decide)) fun h6 k6 e6 _ => ?_
  have I6 : Inv (ncx CX P w K mg base N F f A outer s H E) [] (startF N (.ref a :: vs') [some (.ref C)]) H1 ⟨h6, g5, d5, tk5, os5⟩ := by
    have J := I5.write (t' := tk5) (x := a) (e := a) (o := exo a C none) (by rw [hH1a]; exact True.intro) (.inl rfl) k6 ⟨_, e6⟩ (exo_ok e6)
    have eu : upd H1 a (exo a C none) = H1 := by
      funext b
      by_cases hb : b = a
      · rw [hb, upd_same, hH1a]
      · rw [upd_ne hb]
    rw [eu] at J
    exact J
  refine wpAt_of_wpAny (wpAny_mono (pb_w.run [] _ _ H1 _ I6 hrest) (fun fl s' hs => ?_) fun e s' hs => hs)
  have fin : ∀ {σ' : L2.St} {H' : Hp} {v : V} {u : Value}, Inv (ncx CX P w K mg base N F f A outer s H E) [] σ' H' s' → L2.RelV v u → Q v H' → CE outer P w H s Q u s' :=
    fun {σ' H' v u} J rv q => ⟨v, H', J.os, J.bare, J.base, J.hok, rv, q⟩
  cases fl with
  | ret u =>
    obtain ⟨v, σ', H', J, rv, q⟩ := hs
    exact fin J rv q
  | next =>
    obtain ⟨σ', H', J, q⟩ := hs
    exact fin (v := V.non) (u := Value.none) J rfl q
  | brk =>
    obtain ⟨_, _, _, q⟩ := hs
    exact False.elim q
  | cont =>
    obtain ⟨_, _, _, q⟩ := hs
    exact False.elim q
end
end OT
namespace OT
open PySem PySem.Spec PyProof.Rows L2 NdefX

def fmtOk : V → Prop
  | .int i => i.natAbs.log2 < 1920
  | .str y => y.length ≤ 100000
  | _ => False
def xE (C : Addr) (fs : List (Str × MP)) : XP := ⟨fun S c d => c = .ref C ∧ ∃ a ws, d = some a ∧ S a = some (.xd ws) ∧ FldR fs S ws, fun {S S' c d} e ⟨h1, a, ws, h2, h3, h4⟩ => ⟨h1, a, ws, h2, e _ _ h3, h4.up e⟩⟩
def spE1 (C : Addr) (fl : Str) : Sp := fun vs H Q _ => ∃ a H1 y, vs = [.ref a, y] ∧ H = upd H1 a (exo a C none) ∧ H1 a = none ∧ fmtOk y ∧ ∀ d, H1 d = none → d ≠ a → Q .non (upd (upd H d (exd d [(fl, y)])) a (exo a C (some d)))
section
variable (P : Program) (w : World) (K : PySem.W.Frag) (mg : Str → Option Value) (base : Heap)
def GE (x : Str) (C : Addr) (k : Nat) (ps : List Str) (sp : Sp) : Prop := ∃ f fd, FnOk P w K mg base (L2.CX P w) k f fd ps sp ∧ OexC K C ∧ PySem.W.findIn K (.ref C) "__init__" = some (some (.ref f)) ∧ PySem.W.typeIn K (.ref f) = some (.type "function") ∧ mg x = some (.ref C) ∧ Binds K fd ps []
end
theorem str_app (a b : Str) : (a ++ b).length = a.length + b.length := by
  show (a.cps ++ b.cps).size = _
  rw [Array.size_append] <;> rfl
theorem str_len0 : (Str.empty).length = 0 := rfl
theorem fmt_one {v : V} {te : TE} {σ : L2.St} {H : Hp} {Q : VK} (ho : fmtOk v) (ht : ∀ Q : VK, Q v H → te σ H Q) (h : ∀ y : Str, y.length ≤ 100000 → Q (.str y) H) : tFmt te σ H Q := by
  refine ht _ ?_
  cases v with
  | int i =>
    have ho2 : i.natAbs.log2 < 1920 := ho
    exact .inr ⟨i, rfl, ho2, h _ (Nat.le_trans (int_text_len_1921 ho2) (by decide))⟩
  | str y =>
    have ho2 : y.length ≤ 100000 := ho
    exact .inl ⟨y, rfl, Nat.le_trans ho2 (by decide), h y ho2⟩
  | _ => exact ho.elim
theorem fmt_pre {X : Cx} {n : Str} {i : Nat} {z : Str} {j} {p1 p2 p3 p4 : Pos} (hN : X.N[i]? = some n) (hv : Vis X.env.scope n) (hz : z.length ≤ 1000) (hd : (n == ("__debug__" : Str)) = false) (hcd : (n == ("__classdict__" : Str)) = false) {σ : L2.St} {H : Hp} {v : V} {Q : VK} (hs : σ[i]? = some (some v)) (ho : fmtOk v) (h : ∀ y : Str, Q (.str y) H) :
    wE X (.JoinedStr [.FormattedValue (.Name n p1) (-1) none p2, .Constant (.str z) j p3] p4) σ H Q := by
  refine ⟨_, pe_joined (.cons (pe_fmt (pe_var hN hv hd hcd)) (.cons pe_str .nil)), ?_⟩
  refine fmt_one ho (fun Q q => ⟨v, hs, q⟩) fun y hy => ⟨y, rfl, ?_, z, rfl, ?_, h _⟩
  · rw [str_app, str_len0, Nat.zero_add]
    exact Nat.le_trans hy (by decide)
  · rw [str_app, str_app, str_len0, Nat.zero_add]
    exact Nat.le_trans (Nat.add_le_add hy hz) (by decide)
theorem fmt_post {X : Cx} {n : Str} {i : Nat} {z : Str} {j} {p1 p2 p3 p4 : Pos} (hN : X.N[i]? = some n) (hv : Vis X.env.scope n) (hz : z.length ≤ 1000) (hd : (n == ("__debug__" : Str)) = false) (hcd : (n == ("__classdict__" : Str)) = false) {σ : L2.St} {H : Hp} {v : V} {Q : VK} (hs : σ[i]? = some (some v)) (ho : fmtOk v) (h : ∀ y : Str, Q (.str y) H) :
    wE X (.JoinedStr [.Constant (.str z) j p3, .FormattedValue (.Name n p1) (-1) none p2] p4) σ H Q := by
  refine ⟨_, pe_joined (.cons pe_str (.cons (pe_fmt (pe_var hN hv hd hcd)) .nil)), z, rfl, ?_, ?_⟩
  · rw [str_app, str_len0, Nat.zero_add]
    exact Nat.le_trans hz (by decide)
  · refine fmt_one ho (fun Q q => ⟨v, hs, q⟩) fun y hy => ⟨y, rfl, ?_, h _⟩
    rw [str_app, str_app, str_len0, Nat.zero_add]
    exact Nat.le_trans (Nat.add_le_add hz hy) (by decide)
section
variable {P : Program} {w : World} {K : PySem.W.Frag} {mg : Str → Option Value} {base : Heap}
theorem xi_one {C f : Addr} {fd : FuncData} {F : NF} {fl n : Str} {arg : Expr} {p0 p1 p2 p3 p4 apos cpos pos pos2 : Pos} {ar : Arg} (W : XI P K mg C f fd F) (S : NScope ["self", n, "__class__"] ["self", n] ["__class__"] F.scope)
    (hB : F.body = [.Expr (.Call (.Attribute (.Call (.Name "super" p0) [] [] p1) "__init__" apos) [arg] [] cpos) pos, .Assign [.Attribute (.Name "self" p2) fl p3] (.Name n p4) pos2]) (hp : (F.params.posonlyargs ++ F.params.args).head? = some ar) (ha : ar.arg = "self") (hks : F.scope.names.lookup ("super" : Str) = some .globalImplicit)
    (hno : PySem.W.findIn K (.ref C) fl = some none) (hd : (n == ("__debug__" : Str)) = false) (hcd : (n == ("__classdict__" : Str)) = false)
    (harg : ∀ (X : Cx), X.N = (["self", n, "__class__"] : List Str) → Vis X.env.scope n → ∀ (σ : L2.St) (H : Hp) (v : V) (Q : VK), σ[1]? = some (some v) → fmtOk v → (∀ y : Str, Q (.str y) H) → wE X arg σ H Q)
    (hst : ∀ env : Env, starEach [arg] env = (false, eval arg env) :: starEach [] env)
    (hsw : ∀ env : Env, swapsWith (.Call (.Attribute (.Call (.Name "super" p0) [] [] p1) "__init__" apos) [arg] [] cpos) none pos.line env = pure false)
    (he : ∀ env : Env, ∃ pl, eval (.Call (.Attribute (.Call (.Name "super" p0) [] [] p1) "__init__" apos) [arg] [] cpos) env = (do
      let ov ← attributeBase (.Call (.Name "super" p0) [] [] p1) "__init__" env (eval (.Call (.Name "super" p0) [] [] p1) env)
      standAt apos.atName
      let (f, first) ← holding [ov] (getMethod ov "__init__" pl)
      callWith cpos f first (backTo cpos (starEach [arg] env)) []))
    (hsw2 : ∀ env : Env, swapsWith (.Name n p4) (some (.Attribute (.Name "self" p2) fl p3)) pos2.line env = pure false) :
    FnOk P w K mg base (L2.CX P w) 1 f fd ["self", n] (spE1 C fl) := by
  refine xi_ok (k := 0) W S (fun vs H Q E h => ?_) hB hp ha hks (fun A outer s H vs Q E hr h => ?_) hst hsw he
  · obtain ⟨a, H1, y, rfl, _⟩ := h
    rfl
  · obtain ⟨a, H1, y, rfl, rfl, n1, ok, q⟩ := h
    have hv : Vis F.scope n := .inl (S.par n (by simp))
    have hvs : Vis F.scope "self" := .inl (S.par "self" (by simp))
    refine ⟨a, [y], rfl, upd_same, _, pa_cons pe_w pa_nil (hst _), ?_⟩
    refine harg _ rfl hv _ _ y _ rfl ok fun z => ⟨(by show 1 ≤ 1000; decide), upd_same, ?_⟩
    refine ⟨_, pss_one (ps_ost (pe_var (i := 0) rfl hvs (by decide) (by decide)) (pe_var (i := 1) rfl hv hd hcd) (hsw2 _)), y, rfl, .ref a, rfl, a, C, rfl, W.T, hno, .inl ⟨upd_same, fun d hd hne => ?_⟩⟩
    exact q d (by rw [upd_ne hne] at hd; exact hd) hne
end
section
variable {X : Cx} {B : Bs} {Γ : Gm} {O : Om} {e a b c o : Expr} {es : List Expr} {p pos pos' apos : Pos} {R : MP} {D : Ends} {rest body els : List Stmt} {x m fl : Str} {C : Addr} {k : Nat} {ps : List Str} {W : WX}
structure SuJ (X : Cx) (su : List Stmt) (D : Ends) (σ : L2.St) (H : Hp) (a : Addr) (cls : Value) (d : Option Addr) : Prop where
  go : ∀ (oe : Obj) (pn : List (Addr × Obj)), Zc cls d oe → (∃ vs, oe.data = .fields vs) → wB (X.suite a ((a, oe) :: pn)) su D σ H
end
end OT
namespace OT
open PySem PySem.Spec PyProof.Rows L2 NdefX
section
variable {X : Cx} {CX : CXT} {k i : Nat} {f C p1 : Addr} {fd : FuncData} {ps : List Str} {sp : Sp} {E : L2.St → XK} {x m : Str} {p pos apos : Pos} {e o : Expr} {es : List Expr} {ta : TE} {t : TA} {mc : Value}
theorem code_at {pins : List (Addr × Obj)} {σ : L2.St} {H : Hp} {s : Shared} {Q : VK} {us : List Value} {vs : List V} (F : FnOk X.prog X.w X.K X.mg X.base CX k f fd ps sp) (hr : Room k X.A) (hb : Binds X.K fd ps []) (hx : PassesAt CX X σ (E σ))
    (I : Inv X pins σ H s) (r : Vals vs us) (h : sp vs H Q (E σ)) : codeAny (model X.prog X.w) X.A (.call (.ref f) ⟨us, []⟩) (fun r s' => match r with
      | .ok (.ret v) => EP X pins σ Q v s'
      | .ok _ => False
      | .error e => X.xe e s') s := by
  have hl : (us ++ []).length = ps.length := by rw [List.append_nil, ← r.length]; exact F.len _ _ _ _ h
  refine codeAny_mono (F.run X.A X.stack s H ⟨us, []⟩ us vs Q (E σ) hr I.env0 (by have := hb s us I.kIn hl; rw [List.append_nil] at this; exact this) r h) fun r s' hq => ?_
  match r, hq with
  | .error e, hq => exact hx pins H s e s' I hq
  | .ok (.ret u), hq => exact I.after hq
  | .ok .next, hq => exact False.elim hq
  | .ok .brk, hq => exact False.elim hq
  | .ok .cont, hq => exact False.elim hq
def tCMethS (C : Addr) (sp : Sp) (E : L2.St → XK) (ta : TE) (t : TA) : TE := fun σ H Q => ta σ H fun x H1 => x = .ref C ∧ t σ H1 fun vs H2 => sp (.ref C :: vs) H2 Q (E σ)
theorem pe_cmethS {pl : Sem Bool} (he : PE X o ta) (r : ClX.CRead X.K C mc) (c : ClX.CMet X.K C mc m p1 f) (F : FnOk X.prog X.w X.K X.mg X.base CX k f fd ps sp) (hr : Room k X.A) (hb : Binds X.K fd ps []) (hx : ∀ σ, PassesAt CX X σ (E σ)) (ha : PA X (e :: es) t)
    (hst : starEach (e :: es) X.env = (false, eval e X.env) :: starEach es X.env := by rfl) (hpl : (backTo pos (starEach es X.env)).any (·.1) = false := by rfl)
    (ht : eval (.Call (.Attribute o m apos) (e :: es) [] pos) X.env = (do
      let ov ← eval o X.env
      standAt apos.atName
      let (f, first) ← holding [ov] (getMethod ov m pl)
      callWith pos f first (backTo pos (starEach (e :: es) X.env)) (backToKw pos (keywordEach [] X.env))) := by rfl) : PE X (.Call (.Attribute o m apos) (e :: es) [] pos) (tCMethS C sp E ta t) :=
  ⟨fun pins s σ H Q I h => PySem.W.methodCall_KW (pl := pl) (thn (he.run pins s σ H _ I h) fun u s1 ⟨y, H1, I1, ry, ey, q⟩ => by
    subst ey
    obtain rfl : u = Value.ref C := ry
    refine ClX.getmethcm_ok I1 r c fun s2 I2 => ?_
    refine ClX.callwith_cm I2 (ClX.base_none I1 (Nat.le_refl _)) c.fi (thn (ha.run pos _ s2 σ H1 _ I2 q) fun us s3 ⟨vs, H2, I3, rv, q2⟩ => ⟨⟨ClX.pin_at I3, I3.kIn⟩, ?_⟩) hst hpl
    have z := wpAny_call (PySem.W.method_call (ClX.pin_at I3) (code_at (us := .ref C :: us) (vs := .ref C :: vs) F hr hb (hx σ) I3 (.cons rfl rv) q2))
    exact thn z fun _ _ y => ClX.unpinE y) ht⟩
theorem pe_makeL (M : Mk X.K C f) (F : FnOk X.prog X.w X.K X.mg X.base CX k f fd ps sp) (hr : Room (k + 1) X.A) (hN : X.N[i]? = some x) (hv : Vis X.env.scope x) (hb : Binds X.K fd ps []) (hx : ∀ σ, PassesAt CX X σ (E σ))
    (ha : PA X (e :: es) t) (hdb : (x == ("__debug__" : Str)) = false := by decide) (hcd : (x == ("__classdict__" : Str)) = false := by decide) (he : starEach (e :: es) X.env = (false, eval e X.env) :: starEach es X.env := by rfl) (hpl : (backTo pos (starEach es X.env)).any (·.1) = false := by rfl) :
    PE X (.Call (.Name x p) (e :: es) [] pos) (fun σ H Q => σ[i]? = some (some (.ref C)) ∧ tMakeS C sp E t σ H Q) := by
  refine ⟨fun pins s σ H Q I ⟨hs, h⟩ => ?_⟩
  refine wpAny_Call_Name_kw (thn ((pe_var (pos := p) hN hv hdb hcd).run pins s σ H (fun v H1 => v = .ref C ∧ H1 = H) I ⟨.ref C, hs, rfl, rfl⟩) fun u s1 ⟨v, H1, I1, r1, e1, e2⟩ => ?_)
  subst e1 e2
  cases r1
  exact PySem.W.callWith_K (h₀ := X.base) I.ok.mod.kin M.kp (thn (ha.run pos pins s1 σ _ _ I1 h) fun us s2 ⟨vs, H2, I2, r, q⟩ => ⟨I2.kIn, run_makeS M F hr hb (hx σ) I2 r q⟩) he hpl
end
def GK (P : Program) (w : World) (K : PySem.W.Frag) (mg : Str → Option Value) (base : Heap) (C : Addr) (m : Str) (k : Nat) (ps : List Str) (sp : Sp) : Prop := ∃ f fd p1, FnOk P w K mg base (L2.CX P w) k f fd ps sp ∧ ClX.CRead K C (.type "type") ∧ ClX.CMet K C (.type "type") m p1 f ∧ Binds K fd ps []
section
variable {X : Cx} {B : Bs} {Γ : Gm} {O : Om} {e a b c o : Expr} {es : List Expr} {p pos pos' apos : Pos} {R R' : BP} {Ds : Ends} {rest body els : List Stmt} {x m f : Str} {C : Addr} {k : Nat} {ps : List Str} {W : WX} {D : Type} {As : D → List BP} {out : D → Out}
theorem tO.at_ {Rs : List (Str × MP)} {S H : Hp} {v : V} (h : (tO C Rs).b.R S H v) (sm : Same S H) : ∃ a dx fs, v = .ref a ∧ H a = some (.ins C dx fs) := let ⟨a, dx, fs, h1, h2, _⟩ := h; ⟨a, dx, fs, h1, sm _ _ h2⟩
def XP.gh (P : XP) (c : Value) (d : Option Addr) : Gho := ⟨fun S => P.R S c d, fun e h => P.up e h⟩
end
end OT
namespace OT
open PySem PySem.Spec PyProof.Rows L2 NdefX

structure ErrD where
  x : Str
  qual : Str
  params : Arguments
  body : List Stmt
  scope : Scope
  flds : List Str
abbrev FnE : Type := Option (Str × Str × Arguments × FuncBody × Scope × Addr × Addr)
def fnE (K : PySem.W.Frag) (f : Addr) : FnE := match K.lookup f with
  | some ⟨_, _, .func fd, _⟩ => some (fd.name, fd.qualname, fd.params, fd.body, fd.scope, fd.globals, fd.builtins)
  | _ => none
def ErrD.val (d : ErrD) : FnE := some ("__init__", d.qual, d.params, .stmts d.body, d.scope, mainGlobals, builtinsNs)
def oexB (K : PySem.W.Frag) (C : Addr) : Bool := match K.lookup C with
  | some ⟨.type t, _, .cls cd, sl⟩ => (match cd.mro, sl.toList with
    | .ref C' :: bm, [_, _, _, _, some (.builtin n), _] => decide (t = "type") && (decide (C' = C) && (decide (n = "ValueError.__new__") && (!cd.hasDel && (cd.hasDict && PySem.HandSPX.refsVE bm))))
    | _, _ => false)
  | _ => false
theorem oexB_ok {K : PySem.W.Frag} {C : Addr} (q : oexB K C = true) : ∃ nm qn N bs bm sn sub ab col dd k0 k1 k2 k3 k5, K.lookup C = some (excClassObj nm qn C N bs bm true sn sub ab col dd k0 k1 k2 k3 k5 "ValueError.__new__") ∧ PySem.HandSPX.refsVE bm = true := by
  unfold oexB at q
  split at q
  · rename_i t dd cd sl ho
    split at q
    · rename_i C' bm k0 k1 k2 k3 n k5 hm hs
      simp only [Bool.and_eq_true, decide_eq_true_eq, Bool.not_eq_true'] at q
      obtain ⟨rfl, rfl, rfl, hdel, hdi, ht⟩ := q
      obtain ⟨nm, bs, mro, ns, qn, hd, sn, sub, ab, col, del⟩ := cd
      dsimp only at hm hdel hdi
      subst hm hdel hdi
      have hsl : sl = #[k0, k1, k2, k3, some (.builtin "ValueError.__new__"), k5] := by
        obtain ⟨l⟩ := sl
        simp only at hs
        rw [hs]
      subst hsl
      exact ⟨nm, qn, ns, bs, bm, sn, sub, ab, col, dd, k0, k1, k2, k3, k5, ho, ht⟩
    · cases q
  · cases q
def initOf (K : PySem.W.Frag) (x : Str) : Addr := He.ma K (He.ga K x) "__init__"
def cloB (K : PySem.W.Frag) (C f : Addr) : Bool := match K.lookup f with
  | some ⟨_, _, .func fd, _⟩ => (match fd.closure, fd.code with
    | [(nm, cc)], .ref c => decide (nm = "__class__") && ((match K.lookup cc with
      | some ⟨_, _, .cell (some (.ref D)), _⟩ => decide (D = C)
      | _ => false) && (PySem.W.codeIn K (.ref c) fd.qualname && (match K.lookup c with
      | some ⟨_, _, .fields vs, _⟩ => (match ((vs : Array Value)[2]? : Option Value) with
        | some (.str file _) => decide (file = "/claim/cut.py")
        | _ => false)
      | _ => false)))
    | _, _ => false)
  | _ => false
theorem cloB_ok {K : PySem.W.Frag} {C f : Addr} (q : cloB K C f = true) : ∃ oc od osl fd cc c, K.lookup f = some ⟨oc, od, .func fd, osl⟩ ∧ fd.closure = [(("__class__" : Str), cc)] ∧ fd.code = .ref c ∧ (∃ cl cld csl, K.lookup cc = some ⟨cl, cld, .cell (some (.ref C)), csl⟩) ∧ PySem.W.codeIn K (.ref c) fd.qualname = true ∧
    ∃ ccl cdd vs ccs tf, K.lookup c = some ⟨ccl, cdd, .fields vs, ccs⟩ ∧ vs[2]? = some (.str "/claim/cut.py" tf) := by
  unfold cloB at q
  split at q
  · rename_i oc od fd osl hl
    split at q
    · rename_i nm cc c h1 h2
      obtain ⟨e1, q1⟩ := He.ba q
      obtain ⟨e2, q2⟩ := He.ba q1
      obtain ⟨e3, q3⟩ := He.ba q2
      clear q q1 q2
      have e1 := of_decide_eq_true e1
      subst e1
      split at e2
      · rename_i cl cld D csl hcc
        have e2 := of_decide_eq_true e2
        subst e2
        split at q3
        · rename_i ccl cdd vs ccs hc
          split at q3
          · rename_i file tf hv
            have q4 := of_decide_eq_true q3
            subst q4
            exact ⟨oc, od, osl, fd, cc, c, hl, h1, h2, ⟨_, _, _, hcc⟩, e3, _, _, _, _, _, hc, hv⟩
          · cases q3
        · cases q3
      · cases e2
    · cases q
  · cases q
def dfl0 (K : PySem.W.Frag) (f : Addr) : Bool := match K.lookup f with
  | some ⟨_, _, .func fd, _⟩ => decide (fd.defaults = .none)
  | _ => false
theorem dfl0_ok {K : PySem.W.Frag} {f : Addr} {oc od osl} {fd : FuncData} (h : dfl0 K f = true) (lk : K.lookup f = some ⟨oc, od, .func fd, osl⟩) : fd.defaults = .none := by
  unfold dfl0 at h
  rw [lk] at h
  exact of_decide_eq_true h
def ErrD.ok (K : PySem.W.Frag) (d : ErrD) : Bool :=
  He.eqO (PySem.W.nsIn K mainGlobals d.x) (some (some (.ref (He.ga K d.x)))) && (He.eqO (PySem.W.findIn K (.ref (He.ga K d.x)) "__init__") (some (some (.ref (initOf K d.x)))) && (decide (PySem.W.typeIn K (.ref (initOf K d.x)) = some (.type "function")) && (cloB K (He.ga K d.x) (initOf K d.x) && (oexB K (He.ga K d.x) &&
  (He.eqO (PySem.W.findIn K (.ref (He.ga K d.x)) "__setattr__") (some (some (.builtin "object.__setattr__"))) && (decide (PySem.W.subIn K (.ref (He.ga K d.x)) (.type "BaseException") = some true) && (decide (PySem.W.typeIn K (.ref (He.ga K d.x)) = some (.type "type")) && (PySem.W.keepIn K (.ref (He.ga K d.x)) &&
  (decide (PySem.W.mroIn K (He.ga K d.x) (.ref (He.ga K d.x)) = some true) && (He.eqO (PySem.W.ks_superIn K (He.ga K d.x) (He.ga K d.x) "__init__") (some (some (.builtin "ValueError.__init__"))) && (He.eqO (PySem.W.nsIn K cStatics "thirdparty.any") (some none) && (decide (PySem.W.subIn K (.ref (He.ga K d.x)) (.type "ValueError") = some true) &&
  (He.eqO (PySem.W.nsIn K mainGlobals "super") (some none) && (xfB K (He.ga K d.x) && (dfl0 K (initOf K d.x) && d.flds.all fun f => He.eqO (PySem.W.findIn K (.ref (He.ga K d.x)) f) (some none))))))))))))))))
structure ErrOk (P : Program) (K : PySem.W.Frag) (mg : Str → Option Value) (d : ErrD) : Prop where
  mgx : mg d.x = some (.ref (He.ga K d.x))
  xi : ∃ fd F, XI P K mg (He.ga K d.x) (initOf K d.x) fd F ∧ F.body = d.body ∧ F.scope = d.scope ∧ F.params = d.params ∧ F.name = "__init__" ∧ F.qual = d.qual ∧ fd.defaults = .none
  ini : PySem.W.findIn K (.ref (He.ga K d.x)) "__init__" = some (some (.ref (initOf K d.x)))
  fn : PySem.W.typeIn K (.ref (initOf K d.x)) = some (.type "function")
  xf : XfC K (He.ga K d.x)
  no : ∀ f ∈ d.flds, PySem.W.findIn K (.ref (He.ga K d.x)) f = some none
theorem ErrD.all {P : Program} {K : PySem.W.Frag} {h : Heap} {mg : Str → Option Value} {d : ErrD} (X : K.In h) (G : h.Ns mainGlobals mg) (e : fnE K (initOf K d.x) = d.val) (c : d.ok K = true) (hfile : (P.main.file : Str) = "/claim/cut.py") (htop : (P.main.scope.names.lookup ("super" : Str)).isSome = false) : ErrOk P K mg d := by
  unfold ErrD.ok at c
  obtain ⟨c1, c⟩ := He.ba c
  obtain ⟨c2, c⟩ := He.ba c
  obtain ⟨c3, c⟩ := He.ba c
  obtain ⟨c4, c⟩ := He.ba c
  obtain ⟨c5, c⟩ := He.ba c
  obtain ⟨c6, c⟩ := He.ba c
  obtain ⟨c7, c⟩ := He.ba c
  obtain ⟨c8, c⟩ := He.ba c
  obtain ⟨c9, c⟩ := He.ba c
  obtain ⟨c10, c⟩ := He.ba c
  obtain ⟨c11, c⟩ := He.ba c
  obtain ⟨c12, c⟩ := He.ba c
  obtain ⟨c13, c⟩ := He.ba c
  obtain ⟨c14, c⟩ := He.ba c
  obtain ⟨c15, c⟩ := He.ba c
  obtain ⟨c17, c16⟩ := He.ba c
  obtain ⟨oc, od, osl, fd, cc, cd, lk, hclo, hcode, hcell, hcd, ccl, cdd, vs, ccs, tf, hc, hv⟩ := cloB_ok c4
  unfold fnE at e
  rw [lk] at e
  obtain ⟨n1, n2, n3, n4, n5, n6, n7, n8, n9, n10, n11, n12, n13, n14, n15⟩ := fd
  have e2 : (some (n1, n2, n3, n4, n5, n6, n15) : FnE) = some (("__init__" : Str), d.qual, d.params, FuncBody.stmts d.body, d.scope, mainGlobals, builtinsNs) := e
  simp only [Option.some.injEq, Prod.mk.injEq] at e2
  obtain ⟨h1, h2, h3, h4, h5, h6, h8⟩ := e2
  dsimp only at hclo hcode hcd
  subst h1 h2 h3 h4 h5 h6 h8 hclo hcode
  refine ⟨PySem.W.mg_of X G (He.eqO_ok c1), ⟨_, ⟨"__init__", d.qual, d.params, d.body, d.scope, [("__class__", cc)], cd⟩, ⟨⟨oc, od, osl, lk⟩, ⟨n8, n9, n10, n11, n12, n14, rfl⟩, hcd, ⟨ccl, cdd, vs, ccs, "/claim/cut.py", tf, hc, hv, ?_⟩, ?_, ?_, of_decide_eq_true c10, He.eqO_ok c11, He.eqO_ok c12, of_decide_eq_true c13, PySem.W.mg_none_of X G (He.eqO_ok c14), htop⟩, rfl, rfl, rfl, rfl, rfl, dfl0_ok c17 lk⟩,
    He.eqO_ok c2, of_decide_eq_true c3, xfB_ok c15, fun f hf => He.eqO_ok (List.all_eq_true.mp c16 f hf)⟩
  · rw [hfile]
    decide +kernel
  · obtain ⟨cl, cld, csl, hcc⟩ := hcell
    exact ⟨cc, cl, cld, csl, rfl, hcc⟩
  · exact ⟨oexB_ok c5, He.eqO_ok c6, of_decide_eq_true c7, of_decide_eq_true c8, c9⟩
structure CmD where
  x : Str
  m : Str
  qual : Str
  params : Arguments
  body : List Stmt
  scope : Scope
def cmRec (K : PySem.W.Frag) (x m : Str) : Addr := He.ma K (He.ga K x) m
def cmFn (K : PySem.W.Frag) (x m : Str) : Addr := match PySem.W.recIn K (cmRec K x m) "classmethod" with
  | some (.ref g :: _) => g
  | _ => 0
def fnWa (K : PySem.W.Frag) (f : Addr) : He.FnW := match K.lookup f with
  | some ⟨_, _, .func fd, _⟩ => some (fd.name, fd.qualname, fd.params, fd.body, fd.scope, fd.globals, fd.closure, fd.builtins)
  | _ => none
def CmD.val (d : CmD) : He.FnW := some (d.m, d.qual, d.params, .stmts d.body, d.scope, mainGlobals, [], builtinsNs)
def isGetB (r : Option PySem.W.CFound) (p C : Addr) : Bool := match r with
  | some (.get (.builtin id) (.ref p') .none (.ref C')) => decide (id = "classmethod.__get__") && (decide (p' = p) && decide (C' = C))
  | _ => false
theorem isGetB_ok {r : Option PySem.W.CFound} {p C : Addr} (h : isGetB r p C = true) : r = some (.get (.builtin "classmethod.__get__") (.ref p) .none (.ref C)) := by
  unfold isGetB at h
  split at h
  · obtain ⟨h1, h⟩ := He.ba h
    obtain ⟨h2, h3⟩ := He.ba h
    rw [of_decide_eq_true h1, of_decide_eq_true h2, of_decide_eq_true h3]
  · cases h
def recB (K : PySem.W.Frag) (p g : Addr) : Bool := match PySem.W.recIn K p "classmethod" with
  | some (.ref g' :: _) => decide (g' = g)
  | _ => false
theorem recB_ok {K : PySem.W.Frag} {p g : Addr} (h : recB K p g = true) : ∃ rest, PySem.W.recIn K p "classmethod" = some (.ref g :: rest) := by
  unfold recB at h
  split at h
  · rename_i g' rest e
    rw [e, of_decide_eq_true h]
    exact ⟨rest, rfl⟩
  · cases h
def fnPlainB (K : PySem.W.Frag) (f : Addr) (q : Str) : Bool := match K.lookup f with
  | some ⟨_, _, .func fd, _⟩ => PySem.W.codeIn K fd.code q && He.dflB K fd.defaults []
  | _ => false
def CmD.ok (K : PySem.W.Frag) (d : CmD) : Bool := PySem.W.readsIn K (He.ga K d.x) (.type "type") && (He.eqO (PySem.W.specialIn K (.ref (He.ga K d.x)) "__getattribute__") (some (some (.builtin "type.__getattribute__"))) &&
  (isGetB (PySem.W.findCls K (.ref (He.ga K d.x)) (.type "type") d.m) (cmRec K d.x d.m) (He.ga K d.x) && (recB K (cmRec K d.x d.m) (cmFn K d.x d.m) && (PySem.W.fnIn K (cmFn K d.x d.m) && (PySem.W.keepIn K (.ref (cmFn K d.x d.m)) && fnPlainB K (cmFn K d.x d.m) d.qual)))))
structure CmOk (K : PySem.W.Frag) (d : CmD) : Prop where
  rd : ClX.CRead K (He.ga K d.x) (.type "type")
  cm : ClX.CMet K (He.ga K d.x) (.type "type") d.m (cmRec K d.x d.m) (cmFn K d.x d.m)
  fn : ∃ fd, FunD K d.m d.qual d.params d.body d.scope [] [] (cmFn K d.x d.m) fd
theorem CmD.all {K : PySem.W.Frag} {d : CmD} (e : fnWa K (cmFn K d.x d.m) = d.val) (c : d.ok K = true) : CmOk K d := by
  unfold CmD.ok at c
  obtain ⟨c1, c⟩ := He.ba c
  obtain ⟨c2, c⟩ := He.ba c
  obtain ⟨c3, c⟩ := He.ba c
  obtain ⟨c4, c⟩ := He.ba c
  obtain ⟨c5, c⟩ := He.ba c
  obtain ⟨c6, c7⟩ := He.ba c
  refine ⟨⟨c1, He.eqO_ok c2⟩, ⟨isGetB_ok c3, recB_ok c4, c5⟩, ?_⟩
  unfold fnPlainB at c7
  unfold fnWa at e
  split at c7
  · rename_i oc od fd osl lk
    rw [lk] at e
    obtain ⟨n1, n2, n3, n4, n5, n6, n7, n8, n9, n10, n11, n12, n13, n14, n15⟩ := fd
    have e2 : (some (n1, n2, n3, n4, n5, n6, n7, n15) : He.FnW) = some (d.m, d.qual, d.params, FuncBody.stmts d.body, d.scope, mainGlobals, [], builtinsNs) := e
    simp only [Option.some.injEq, Prod.mk.injEq] at e2
    obtain ⟨h1, h2, h3, h4, h5, h6, h7, h8⟩ := e2
    subst h1 h2 h3 h4 h5 h6 h7 h8
    obtain ⟨k1, k2⟩ := He.ba c7
    exact ⟨_, ⟨oc, od, n8, n9, n10, n11, n12, n13, n14, osl, rfl, lk, k1, He.dflB_ok k2, .inl rfl⟩, c6⟩
  · cases c7
def asO (g : Addr → Option Obj) : Nat → List Addr
  | 0 => [mainGlobals, cStatics]
  | n + 1 => He.growD g (asO g n)
abbrev AlO : Type := He.AlD × (List FnE × (List He.FnW × Bool))
def obsO (fa : List He.Fa) (fn : List He.DefD) (er : List ErrD) (cm : List CmD) (ex : PySem.W.Frag → Bool) (K : PySem.W.Frag) : AlO := (He.obsD fa fn K, er.map (fun d => fnE K (initOf K d.x)), cm.map (fun d => fnWa K (cmFn K d.x d.m)), (er.all fun d => d.ok K) && ((cm.all fun d => d.ok K) && ex K))
def valO (fn : List He.DefD) (er : List ErrD) (cm : List CmD) : AlO := (He.valD fn, er.map ErrD.val, cm.map CmD.val, true)
def obsOG (n : Nat) (fa : List He.Fa) (fn : List He.DefD) (er : List ErrD) (cm : List CmD) (ex : PySem.W.Frag → Bool) (g : Addr → Option Obj) : AlO := obsO fa fn er cm ex (He.frG g (asO g n))
structure SaysO (fa : List He.Fa) (fn : List He.DefD) (er : List ErrD) (cm : List CmD) (ex : PySem.W.Frag → Bool) (K : PySem.W.Frag) : Prop where
  d : He.SaysD fa fn K
  er : ∀ d ∈ er, fnE K (initOf K d.x) = d.val ∧ d.ok K = true
  cm : ∀ d ∈ cm, fnWa K (cmFn K d.x d.m) = d.val ∧ d.ok K = true
  ex : ex K = true
theorem map_all {α β : Type} {f g : α → β} : ∀ {l : List α}, l.map f = l.map g → ∀ a ∈ l, f a = g a
  | [], _, _, h => by cases h
  | b :: l, e, a, h => by
    rw [List.map_cons, List.map_cons] at e
    injection e with e1 e2
    rcases List.mem_cons.mp h with rfl | h
    · exact e1
    · exact map_all e2 a h
theorem saysO_of {fa : List He.Fa} {fn : List He.DefD} {er : List ErrD} {cm : List CmD} {ex : PySem.W.Frag → Bool} {K : PySem.W.Frag} (e : obsO fa fn er cm ex K = valO fn er cm) : SaysO fa fn er cm ex K := by
  have e1 : He.obsD fa fn K = He.valD fn := congrArg (fun z : AlO => z.1) e
  have e2 : er.map (fun d => fnE K (initOf K d.x)) = er.map ErrD.val := congrArg (fun z : AlO => z.2.1) e
  have e4 : cm.map (fun d => fnWa K (cmFn K d.x d.m)) = cm.map CmD.val := congrArg (fun z : AlO => z.2.2.1) e
  have e3 : ((er.all fun d => d.ok K) && ((cm.all fun d => d.ok K) && ex K)) = true := congrArg (fun z : AlO => z.2.2.2) e
  obtain ⟨h1, h2⟩ := He.ba e3
  obtain ⟨h2, h3⟩ := He.ba h2
  exact ⟨e1, fun d hd => ⟨map_all e2 d hd, List.all_eq_true.mp h1 d hd⟩, fun d hd => ⟨map_all e4 d hd, List.all_eq_true.mp h2 d hd⟩, h3⟩
def hookO (n : Nat) (fa : List He.Fa) (fn : List He.DefD) (er : List ErrD) (cm : List CmD) (ex : PySem.W.Frag → Bool) : PySem.W.Hook where
  α := AlO
  obs := fun s => obsOG n fa fn er cm ex s.heap.get?
  val := fun _ => valO fn er cm
  says := fun _ h => ∃ K : PySem.W.Frag, K.In h ∧ SaysO fa fn er cm ex K
  of := fun _ _ e => ⟨_, He.frG_in, saysO_of e⟩
  keeps := fun _ _ _ ⟨K, hK, c⟩ k => ⟨K, PySem.W.Frag.In.keeps hK k, c⟩
theorem obsOG_eq {n : Nat} {fa : List He.Fa} {fn : List He.DefD} {er : List ErrD} {cm : List CmD} {ex : PySem.W.Frag → Bool} {g : Addr → Option Obj} {s : Shared} (h : ∀ a, g a = s.heap.get? a) : obsOG n fa fn er cm ex g = (hookO n fa fn er cm ex).obs s := by
  have e : g = s.heap.get? := funext h
  rw [e] <;> rfl
theorem walk_ofEB {l : PySem.W.OpenLaw} {n k : Nat} {q : Program} {loose : List Str} {XP : (Str → Option Value) → Heap → Prop} {YP : World → Heap → Prop} {d : DefRec} {x : Str}
    (hn : l.most = some n) (hn2 : n ≤ sizeLine) (hdf : d.params.defaults = []) (hr : Room k callerA)
    (F : ∀ (w : World) (mg : Str → Option Value) (fa : Addr) (h : Heap), YP w h → h.Ns mainGlobals mg → mg d.name = some (.ref fa) →
      ∃ (K : PySem.W.Frag) (fd : FuncData), K.In h ∧ (∀ (s : Shared) (u : Value), BindsTo s fd ⟨[u], []⟩ [(x, u)]) ∧
        ∀ base : Heap, K.In base → base.Ns mainGlobals mg → FnOk l.prog w K mg base (L2.CX l.prog w) k fa fd [x] (spD (D := { ns : List Int // ns.length ≤ n ∧ ∀ z ∈ ns, Builtin.Int.intBits z ≤ 1048576 }) (fun ns => [bQ K (ns.1.map tI)]) fun _ => .val (tB true))) :
    PySem.W.WalkO q loose XP YP l.row.toRowW d [] (fun f vs => PySem.call f vs) := by
  refine Att.attach_callB hn hdf fun w s₀ s₁ mg mb fa o pm cd doc a vs ns G Y ho hd hcd hmg hobj hints hlen hbits hg => ?_
  obtain ⟨K, fd, KX, hb, hF⟩ := F w mg fa _ Y G.T.g hmg
  refine law_call KX G.T.g G.T.b G.T.builtins G.T.nolimit hg hobj hints (Nat.le_trans hlen hn2) hr hF hb (fun H hO hS => ?_) fun H e s' z => ?_
  · refine ⟨⟨ns, hlen, hbits⟩, (fun _ => none), (fun _ _ z => nomatch z), ⟨⟨a, _, rfl, .inl hS, ?_⟩, trivial⟩, fun v S' H' _ r => r⟩
    have : ∀ l : List Int, AllM (l.map tI) (fun _ => none) (l.map V.int) := fun l => by
      induction l with
      | nil => exact trivial
      | cons z l ih => exact ⟨rfl, ih⟩
    exact this ns
  · obtain ⟨_, _, _, _, _, _, _, _, _, _, _, _, zz⟩ := z
    exact zz.elim
end OT
namespace OT
open PySem PySem.Spec PyProof.Rows L2 NdefX
section
variable {P : Program} {w : World} {K : PySem.W.Frag} {mg : Str → Option Value} {base : Heap} {k : Nat} {ps : List Str} {sp : Sp}
abbrev FnS (K : PySem.W.Frag) (x q : Str) (s : Stmt) (f : Addr) (fd : FuncData) : Prop := FunD K x q (defArgs s) (defBody s) (defScope s) [] [] f fd
theorem gf_mk {x q : Str} {s : Stmt} {f : Addr} (h : ∃ fd, FnS K x q s f fd) (hb : ∀ fd, FnS K x q s f fd → Binds K fd ps []) (hm : mg x = some (.ref f)) (ok : ∀ fd, FnS K x q s f fd → FnOk P w K mg base (L2.CX P w) k f fd ps sp) : GF P w K mg base x k ps sp := by
  obtain ⟨fd, F⟩ := h
  exact ⟨f, fd, ok fd F, hm, F.kp, hb fd F⟩
theorem gm_mk {x q : Str} {s : Stmt} {C f : Addr} (h : ∃ fd, FnS K x q s f fd) (hb : ∀ fd, FnS K x q s f fd → Binds K fd ps []) (hm : Meth K C x f) (ok : ∀ fd, FnS K x q s f fd → FnOk P w K mg base (L2.CX P w) k f fd ps sp) : GM P w K mg base C x k ps sp := by
  obtain ⟨fd, F⟩ := h
  exact ⟨f, fd, ok fd F, hm, hb fd F⟩
theorem gc_mk {c x q : Str} {s : Stmt} {C f : Addr} (h : ∃ fd, FnS K x q s f fd) (hb : ∀ fd, FnS K x q s f fd → Binds K fd ps []) (hm : Mk K C f) (hg : mg c = some (.ref C)) (ok : ∀ fd, FnS K x q s f fd → FnOk P w K mg base (L2.CX P w) k f fd ps sp) : GC P w K mg base c C k ps sp := by
  obtain ⟨fd, F⟩ := h
  exact ⟨f, fd, ok fd F, hm, hg, hb fd F⟩
theorem gk_mk {x q : Str} {s : Stmt} {C f p1 : Addr} (h : ∃ fd, FnS K x q s f fd) (hb : ∀ fd, FnS K x q s f fd → Binds K fd ps []) (hr : ClX.CRead K C (.type "type")) (hc : ClX.CMet K C (.type "type") x p1 f) (ok : ∀ fd, FnS K x q s f fd → FnOk P w K mg base (L2.CX P w) k f fd ps sp) : GK P w K mg base C x k ps sp := by
  obtain ⟨fd, F⟩ := h
  exact ⟨f, fd, p1, ok fd F, hr, hc, hb fd F⟩
theorem XI.binds {C f : Addr} {fd : FuncData} {F : NF} (W : XI P K mg C f fd F) (h0 : fd.defaults = .none)
    (hb : ∀ (kV doc pm : Value) (an : Option Addr) (ct : Value) (us : List Value), us.length = ps.length → bindArgs (PySem.W.fnX F.name F.qual F.params F.body F.scope F.cl .none kV doc pm an (.ref F.c) ct) ⟨us, []⟩ = pure (ps.zip us)) : Binds K fd ps [] := by
  obtain ⟨dV, kV, doc, pm, an, ct, rfl⟩ := W.eq
  have e : dV = .none := h0
  subst e
  exact .all (hb kV doc pm an ct)
theorem ge_mk {x : Str} {C f : Addr} {fd : FuncData} (ok : FnOk P w K mg base (L2.CX P w) k f fd ps sp) (T : OexC K C) (iC : PySem.W.findIn K (.ref C) "__init__" = some (some (.ref f))) (tI : PySem.W.typeIn K (.ref f) = some (.type "function")) (hm : mg x = some (.ref C)) (hb : Binds K fd ps []) : GE P w K mg base x C k ps sp := ⟨f, fd, ok, T, iC, tI, hm, hb⟩
theorem def_ok {D : Type} {As : D → List BP} {out : D → Out} {N : List Str} {x q : Str} {s : Stmt} {f : Addr} {fd : FuncData} (F : FnS K x q s f fd) (Sc : FnScope N ps (defScope s)) (Gs : D → Hp → Gm)
    (hb : ∀ (cdv : Value) (A : Around) (outer : List Env) (s' : Shared) (H S : Hp) (Q : VK) (E : XK) (d : D), Room k (A.deeper (envOfC q (defScope s) s'.heap.objs.size f cdv)) → N.Nodup → (out d).thn S H Q E →
      SJ (cxOf (L2.CX P w) P w K mg base N q (defScope s) f cdv A outer s' H E) ⟨S, H, .yes⟩ (Gs d H) [] (defBody s) { nx := fun _ H' => Q .non H', rt := Q })
    (hl : ∀ d, (As d).length = ps.length := by intro _; rfl) (hG : ∀ d H, gm0 N (As d) H = Gs d H := by intro _ _; rfl) : FnOk P w K mg base (L2.CX P w) (k + 1) f fd ps (spD As out) :=
  fun_ok F Sc hl fun cdv A outer s' H S Q E d hr q => by
    rw [hG d H]
    exact hb cdv A outer s' H S Q E d hr Sc.nd q
end
end OT
namespace OT
open PySem PySem.SeqAt PyProof.Rows L2
open AutoSeq1 (wpAny_loadPart')
open MeetsSeq MeetsSeq2 MeetsSeq3 SeqRoads2
section
variable {prog : Program} {w : World} {A : Around} {R : Result → Shared → Prop} {E : Value → Shared → Prop}
def Two (prog : Program) (w : World) (A : Around) (E : Value → Shared → Prop) (l b : Addr) (N : Nat) (e : Nat → Bool) (I : Shared → Prop) : Prop :=
  ∀ s, I s → ∃ (items items2 : Array Value) (n n2 : Nat) (dd dd2 : Option Addr) (sl sl2 : Array (Option Value)), s.heap.get? l = some { cls := .type "list", dict := dd, data := .seq items n, slots := sl } ∧ s.heap.get? b = some { cls := .type "list", dict := dd2, data := .seq items2 n2, slots := sl2 } ∧ items.size = N ∧ items2.size = N ∧
    ∀ i (h1 : i < items.size) (h2 : i < items2.size), wpAny (model prog w) A.in1 (eqBool items[i] items2[i]) (fun r s' => r = e i ∧ I s') E s
theorem drop_range {N i : Nat} (h : i < N) : (List.range N).drop i = i :: (List.range N).drop (i + 1) := by simp [List.drop_eq_getElem_cons, h]
theorem eq_loopB (l b : Addr) (N : Nat) (e : Nat → Bool) (I : Shared → Prop) (hl : Two prog w A (fun e s' => R (.error e) s') l b N e I) (k : Nat) :
    ∀ i : Nat, N - i = k → i ≤ N → (∀ s, I s → R (.ok (.ret (.bool (((List.range N).drop i).all e)))) s) → ∀ s, I s →
      wpAny (model prog w) A.in1 (Builtin.«list.__eq__.loop» ⟨[.ref l, .ref b, rawInt i, rawInt 2], []⟩) (GQ.FinOf prog w A R) (fun e s' => R (.error e) s') s := by
  induction k with
  | zero =>
    intro i hk hi fin s h
    obtain ⟨items, items2, n, n2, dd, dd2, sl, sl2, hl1, hb1, hs1, hs2, _⟩ := hl _ h
    have hR := fin s h
    have hd : (List.range N).drop i = [] := by simp; omega
    rw [hd] at hR
    obtain ⟨hp, g, d, tk, os⟩ := s
    wp_walk using wpAny_loadPart' hl1, wpAny_loadPart' hb1
    have hi1 : items[((i : Nat) : Int).toNat]? = none := by simp; omega
    have hi2 : items2[((i : Nat) : Int).toNat]? = none := by simp; omega
    rw [hi1, hi2]
    wp_walk using wpAny_loadPart' hl1, wpAny_loadPart' hb1
    show R (.ok (.ret (.bool (items.size == items2.size)))) _
    rw [hs1, hs2]
    simpa using hR
  | succ k ih =>
    intro i hk hi fin s h
    obtain ⟨items, items2, n, n2, dd, dd2, sl, sl2, hl1, hb1, hs1, hs2, turn⟩ := hl _ h
    have hlt : i < items.size := by omega
    have hlt2 : i < items2.size := by omega
    have ht := turn i hlt hlt2
    obtain ⟨hp, g, d, tk, os⟩ := s
    wp_walk using wpAny_loadPart' hl1, wpAny_loadPart' hb1
    have hi1 : items[((i : Nat) : Int).toNat]? = some items[i] := by simp [hlt]
    have hi2 : items2[((i : Nat) : Int).toNat]? = some items2[i] := by simp [hlt2]
    have hc : ((i : Int) + 1) = ((i + 1 : Nat) : Int) := by omega
    rw [hi1, hi2]
    refine wpAny_bind (wpAny_mono ht (fun r s2 h2 => ?_) fun _ _ x => x)
    obtain ⟨hr, h2⟩ := h2
    subst hr
    have hdr := drop_range (N := N) (i := i) (by omega)
    cases he : e i with
    | true =>
      have hrec := ih (i + 1) (by omega) (by omega) (fun s hs => by
        have := fin s hs
        rw [hdr, List.all_cons, he] at this
        simpa using this) s2 h2
      obtain ⟨hp2, g2, d2, tk2, os2⟩ := s2
      wp_walk
      rw [hc]
      exact ⟨plainId_quiet plain_eq_loop _, codeAny_builtin entry_eq_loop (by
        rw [Around.under_plainId plain_eq_loop _]
        exact hrec)⟩
    | false =>
      have hR := fin s2 h2
      rw [hdr, List.all_cons, he] at hR
      obtain ⟨items, items2, n, n2, dd, dd2, sl, sl2, hl1, hb1, hs1, hs2, _⟩ := hl _ h2
      have hlt : i < items.size := by omega
      have hlt2 : i < items2.size := by omega
      have hi1 : items[((i : Nat) : Int).toNat]? = some items[i] := by simp [hlt]
      have hi2 : items2[((i : Nat) : Int).toNat]? = some items2[i] := by simp [hlt2]
      obtain ⟨hp2, g2, d2, tk2, os2⟩ := s2
      wp_walk using wpAny_loadPart' hl1, wpAny_loadPart' hb1
      rw [hi1, hi2]
      wp_walk
      simpa using hR
theorem ne_loopB (l b : Addr) (N : Nat) (e : Nat → Bool) (I : Shared → Prop) (hl : Two prog w A (fun e s' => R (.error e) s') l b N e I) (k : Nat) :
    ∀ i : Nat, N - i = k → i ≤ N → (∀ s, I s → R (.ok (.ret (.bool (!((List.range N).drop i).all e)))) s) → ∀ s, I s →
      wpAny (model prog w) A.in1 (Builtin.«list.__eq__.loop» ⟨[.ref l, .ref b, rawInt i, rawInt 3], []⟩) (GQ.FinOf prog w A R) (fun e s' => R (.error e) s') s := by
  induction k with
  | zero =>
    intro i hk hi fin s h
    obtain ⟨items, items2, n, n2, dd, dd2, sl, sl2, hl1, hb1, hs1, hs2, _⟩ := hl _ h
    have hR := fin s h
    have hd : (List.range N).drop i = [] := by simp; omega
    rw [hd] at hR
    obtain ⟨hp, g, d, tk, os⟩ := s
    wp_walk using wpAny_loadPart' hl1, wpAny_loadPart' hb1
    have hi1 : items[((i : Nat) : Int).toNat]? = none := by simp; omega
    have hi2 : items2[((i : Nat) : Int).toNat]? = none := by simp; omega
    rw [hi1, hi2]
    wp_walk using wpAny_loadPart' hl1, wpAny_loadPart' hb1
    show R (.ok (.ret (.bool (items.size != items2.size)))) _
    rw [hs1, hs2]
    simpa using hR
  | succ k ih =>
    intro i hk hi fin s h
    obtain ⟨items, items2, n, n2, dd, dd2, sl, sl2, hl1, hb1, hs1, hs2, turn⟩ := hl _ h
    have hlt : i < items.size := by omega
    have hlt2 : i < items2.size := by omega
    have ht := turn i hlt hlt2
    obtain ⟨hp, g, d, tk, os⟩ := s
    wp_walk using wpAny_loadPart' hl1, wpAny_loadPart' hb1
    have hi1 : items[((i : Nat) : Int).toNat]? = some items[i] := by simp [hlt]
    have hi2 : items2[((i : Nat) : Int).toNat]? = some items2[i] := by simp [hlt2]
    have hc : ((i : Int) + 1) = ((i + 1 : Nat) : Int) := by omega
    rw [hi1, hi2]
    refine wpAny_bind (wpAny_mono ht (fun r s2 h2 => ?_) fun _ _ x => x)
    obtain ⟨hr, h2⟩ := h2
    subst hr
    have hdr := drop_range (N := N) (i := i) (by omega)
    cases he : e i with
    | true =>
      have hrec := ih (i + 1) (by omega) (by omega) (fun s hs => by
        have := fin s hs
        rw [hdr, List.all_cons, he] at this
        simpa using this) s2 h2
      obtain ⟨hp2, g2, d2, tk2, os2⟩ := s2
      wp_walk
      rw [hc]
      exact ⟨plainId_quiet plain_eq_loop _, codeAny_builtin entry_eq_loop (by
        rw [Around.under_plainId plain_eq_loop _]
        exact hrec)⟩
    | false =>
      have hR := fin s2 h2
      rw [hdr, List.all_cons, he] at hR
      obtain ⟨items, items2, n, n2, dd, dd2, sl, sl2, hl1, hb1, hs1, hs2, _⟩ := hl _ h2
      have hlt : i < items.size := by omega
      have hlt2 : i < items2.size := by omega
      have hi1 : items[((i : Nat) : Int).toNat]? = some items[i] := by simp [hlt]
      have hi2 : items2[((i : Nat) : Int).toNat]? = some items2[i] := by simp [hlt2]
      obtain ⟨hp2, g2, d2, tk2, os2⟩ := s2
      wp_walk using wpAny_loadPart' hl1, wpAny_loadPart' hb1
      rw [hi1, hi2]
      wp_walk
      simpa using hR
theorem list_eqB (l b : Addr) (N : Nat) (e : Nat → Bool) (I : Shared → Prop) (hl : Two prog w A (fun e s' => R (.error e) s') l b N e I) (fin : ∀ s, I s → R (.ok (.ret (.bool ((List.range N).all e)))) s) {s : Shared} (h : I s) :
    wpAny (model prog w) A.in1 (Builtin.«list.__eq__» ⟨[.ref l, .ref b], []⟩) (GQ.FinOf prog w A R) (fun e s' => R (.error e) s') s := by
  obtain ⟨items, items2, n, n2, dd, dd2, sl, sl2, hl1, hb1, hs1, hs2, _⟩ := hl _ h
  have hrec := eq_loopB (A := A) (R := R) l b N e I hl _ 0 rfl (Nat.zero_le _) (by simpa using fin) s h
  obtain ⟨hp, g, d, tk, os⟩ := s
  have f3 := AutoSeq1.sub_list_list
  have hne : ¬ (items.size != items2.size) = true := by simp [hs1, hs2]
  wp_walk using wpAny_loadPart' hl1, wpAny_loadPart' hb1
  exact ⟨plainId_quiet plain_eq_loop _, codeAny_builtin entry_eq_loop (by
    rw [Around.under_plainId plain_eq_loop _]
    exact hrec)⟩
theorem list_neB (l b : Addr) (N : Nat) (e : Nat → Bool) (I : Shared → Prop) (hl : Two prog w A (fun e s' => R (.error e) s') l b N e I) (fin : ∀ s, I s → R (.ok (.ret (.bool (!(List.range N).all e)))) s) {s : Shared} (h : I s) :
    wpAny (model prog w) A.in1 (Builtin.«list.__ne__» ⟨[.ref l, .ref b], []⟩) (GQ.FinOf prog w A R) (fun e s' => R (.error e) s') s := by
  obtain ⟨items, items2, n, n2, dd, dd2, sl, sl2, hl1, hb1, hs1, hs2, _⟩ := hl _ h
  have hrec := ne_loopB (A := A) (R := R) l b N e I hl _ 0 rfl (Nat.zero_le _) (by simpa using fin) s h
  obtain ⟨hp, g, d, tk, os⟩ := s
  have f3 := AutoSeq1.sub_list_list
  have hne : ¬ (items.size != items2.size) = true := by simp [hs1, hs2]
  wp_walk using wpAny_loadPart' hl1, wpAny_loadPart' hb1
  exact ⟨plainId_quiet plain_eq_loop _, codeAny_builtin entry_eq_loop (by
    rw [Around.under_plainId plain_eq_loop _]
    exact hrec)⟩
def One (prog : Program) (w : World) (A : Around) (E : Value → Shared → Prop) (l : Addr) (x : Value) (N : Nat) (e : Nat → Bool) (I : Shared → Prop) : Prop :=
  ∀ s, I s → ∃ (items : Array Value) (n : Nat) (dd : Option Addr) (sl : Array (Option Value)), s.heap.get? l = some { cls := .type "list", dict := dd, data := .seq items n, slots := sl } ∧ items.size = N ∧
    ∀ i (h1 : i < items.size), wpAny (model prog w) A.in1 (eqBool items[i] x) (fun r s' => r = e i ∧ I s') E s
end
section
variable {X : Cx}
def EqN (X : Cx) (n : Nat) (x y : V) (b : Bool) (H : Hp) : Prop := ∀ (A : Around) (pins : List (Addr × Obj)) (s : Shared) (σ : L2.St) (H0 : Hp) (u v : Value), Ext H H0 → Sub X n A → Inv X pins σ H0 s → RelV x u → RelV y v →
  wpAny (model X.prog X.w) A (eqBool u v) (fun r s' => r = b ∧ ∃ H', Inv X pins σ H' s' ∧ Ext H0 H') X.xe s
def RcN (X : Cx) (op : CmpOp) (n : Nat) (x y : V) (b : Bool) (H : Hp) : Prop := ∀ (A : Around) (pins : List (Addr × Obj)) (s : Shared) (σ : L2.St) (H0 : Hp) (u v : Value), Ext H H0 → Sub X n A → Inv X pins σ H0 s → RelV x u → RelV y v →
  wpAny (model X.prog X.w) A (richCompare op u v) (fun r s' => r = .bool b ∧ ∃ H', Inv X pins σ H' s' ∧ Ext H0 H') X.xe s
theorem EqN.mono {n m : Nat} {x y : V} {b : Bool} {H : Hp} (h : EqN X n x y b H) (hn : n ≤ m) : EqN X m x y b H := fun A pins s σ H0 u v e sb => h A pins s σ H0 u v e (sb.mono hn)
theorem EqN.ext {n : Nat} {x y : V} {b : Bool} {H H' : Hp} (h : EqN X n x y b H) (e : Ext H H') : EqN X n x y b H' := fun A pins s σ H0 u v e2 sb => h A pins s σ H0 u v (e.trans e2) sb
theorem EqN.flat {x y : V} {H : Hp} (fx : flatV x = true) (fy : flatV y = true) : EqN X 0 x y (eqV x y) H := fun A pins s σ H0 u v _ sb I rx ry =>
  eqAt_V (A := A) (s := s) rx ry fx fy X.prog X.w X.xe _ ⟨rfl, H0, I, Ext.rfl'⟩
theorem EqN.same {a : Addr} {H : Hp} : EqN X 0 (.ref a) (.ref a) true H := fun A pins s σ H0 u v _ sb I rx ry => by
  cases rx
  cases ry
  exact SeqAt.EqAt.same (A := A) (s := s) (.ref a) X.prog X.w X.xe _ ⟨rfl, H0, I, Ext.rfl'⟩
theorem RcN.eqN {n : Nat} {a c : Addr} {b : Bool} {H : Hp} (h : RcN X .Eq n (.ref a) (.ref c) b H) (hs : a = c → b = true) : EqN X n (.ref a) (.ref c) b H := fun A pins s σ H0 u v e sb I rx ry => by
  by_cases hab : a = c
  · rw [hs hab]
    subst hab
    exact EqN.same (X := X) A pins s σ H0 u v Ext.rfl' (sb.mono (Nat.zero_le _)) I rx ry
  · cases rx
    cases ry
    refine GQ.eqBool_refG hab (wpAny_mono (h A pins s σ H0 _ _ e sb I rfl rfl) (fun r s' q => ?_) fun _ _ x => x)
    obtain ⟨hr', q⟩ := q
    exact ⟨b, hr', rfl, q⟩
theorem two_of {n : Nat} {A : Around} {l b : Addr} {xs ys : List V} {e : Nat → Bool} {H : Hp} {pins : List (Addr × Obj)} {σ : L2.St} (hl : SqL X.K H l xs) (hb : SqL X.K H b ys) (hlen : xs.length = ys.length) (sb : Sub X (n + 1) A)
    (h : ∀ i x y, xs[i]? = some x → ys[i]? = some y → EqN X n x y (e i) H) : Two X.prog X.w A X.xe l b xs.length e (fun s => ∃ H1, Inv X pins σ H1 s ∧ Ext H H1) := by
  rintro s ⟨H1, I1, e1⟩
  obtain ⟨its, r, ⟨o, k, g, c, d, dt⟩, z⟩ := I1.list (hl.ext e1)
  obtain ⟨its2, r2, ⟨o2, k2, g2, c2, d2, dt2⟩, z2⟩ := I1.list (hb.ext e1)
  obtain ⟨oc, od, odt, osl⟩ := o
  obtain ⟨oc2, od2, odt2, osl2⟩ := o2
  dsimp only at c d dt c2 d2 dt2
  subst c d dt c2 d2 dt2
  refine ⟨its.toArray, its2.toArray, k, k2, _, _, osl, osl2, g, g2, by rw [List.size_toArray, ← r.length], by rw [List.size_toArray, ← r2.length, hlen], fun i h1 h2 => ?_⟩
  have g1 : its[i]? = some its.toArray[i] := by
    have h1' : i < its.length := by simpa using h1
    rw [List.getElem?_eq_getElem h1'] <;> simp
  have g2 : its2[i]? = some its2.toArray[i] := by
    have h2' : i < its2.length := by simpa using h2
    rw [List.getElem?_eq_getElem h2'] <;> simp
  have k1 : i < xs.length := by rw [r.length]; simpa using h1
  have k2 : i < ys.length := by rw [r2.length]; simpa using h2
  obtain ⟨u, hu, ru⟩ := r.get (List.getElem?_eq_getElem k1)
  obtain ⟨v, hv, rv⟩ := r2.get (List.getElem?_eq_getElem k2)
  rw [g1] at hu
  rw [g2] at hv
  rw [Option.some.inj hu, Option.some.inj hv]
  refine wpAny_mono (h i _ _ (List.getElem?_eq_getElem k1) (List.getElem?_eq_getElem k2) A.in1 pins s σ H1 u v e1 sb.in1 I1 ru rv) (fun r s2 q => ?_) fun _ _ x => x
  obtain ⟨hr, H2, I2, e2⟩ := q
  exact ⟨hr, H2, I2, e1.trans e2⟩
theorem plainL_typ {s : Shared} {a : Addr} {its : Array Value} (h : PlainL s.heap a its) : s.TypeIs (.ref a) "list" := by
  obtain ⟨o, k, g, c, _⟩ := h
  exact ⟨o, g, c⟩
theorem RcN.listEq {n : Nat} {l b : Addr} {xs ys : List V} {e : Nat → Bool} {H : Hp} (hl : SqL X.K H l xs) (hb : SqL X.K H b ys) (hlen : xs.length = ys.length) (h : ∀ i x y, xs[i]? = some x → ys[i]? = some y → EqN X n x y (e i) H) :
    RcN X .Eq (n + 1) (.ref l) (.ref b) ((List.range xs.length).all e) H := fun A pins s σ H0 u v e0 sb I rx ry => by
  cases rx
  cases ry
  obtain ⟨_, _, p1, _⟩ := I.list (hl.ext e0)
  obtain ⟨_, _, p2, _⟩ := I.list (hb.ext e0)
  refine wpAny_richCompare_same_room (op := .Eq) (plainL_typ p1) (plainL_typ p2) F.slot_list_eq (GQ.call_here F.slot_list_eq (plainL_typ p1) F.entry_list_eq (F.args_list_eq_2 _ _) ?_) sb.room.units0
  exact list_eqB (R := wants (fun v s' => v ≠ .notImplemented ∧ v = .bool ((List.range xs.length).all e) ∧ ∃ H', Inv X pins σ H' s' ∧ Ext H0 H') X.xe) l b xs.length e (fun s => ∃ H1, Inv X pins σ H1 s ∧ Ext H0 H1) (two_of (hl.ext e0) (hb.ext e0) hlen sb fun i x y h1 h2 => (h i x y h1 h2).ext e0) (fun s' q => ⟨(fun x => nomatch x), rfl, q⟩) ⟨H0, I, Ext.rfl'⟩
theorem RcN.listNe {n : Nat} {l b : Addr} {xs ys : List V} {e : Nat → Bool} {H : Hp} (hl : SqL X.K H l xs) (hb : SqL X.K H b ys) (hlen : xs.length = ys.length) (h : ∀ i x y, xs[i]? = some x → ys[i]? = some y → EqN X n x y (e i) H) :
    RcN X .NotEq (n + 1) (.ref l) (.ref b) (!(List.range xs.length).all e) H := fun A pins s σ H0 u v e0 sb I rx ry => by
  cases rx
  cases ry
  obtain ⟨_, _, p1, _⟩ := I.list (hl.ext e0)
  obtain ⟨_, _, p2, _⟩ := I.list (hb.ext e0)
  refine wpAny_richCompare_same_room (op := .NotEq) (plainL_typ p1) (plainL_typ p2) F.slot_list_ne (GQ.call_here F.slot_list_ne (plainL_typ p1) F.entry_list_ne (F.args_list_ne_2 _ _) ?_) sb.room.units0
  exact list_neB (R := wants (fun v s' => v ≠ .notImplemented ∧ v = .bool (!(List.range xs.length).all e) ∧ ∃ H', Inv X pins σ H' s' ∧ Ext H0 H') X.xe) l b xs.length e (fun s => ∃ H1, Inv X pins σ H1 s ∧ Ext H0 H1) (two_of (hl.ext e0) (hb.ext e0) hlen sb fun i x y h1 h2 => (h i x y h1 h2).ext e0) (fun s' q => ⟨(fun x => nomatch x), rfl, q⟩) ⟨H0, I, Ext.rfl'⟩
theorem RcN.listEqL {l b : Addr} {xs ys : List V} {H : Hp} (hl : SqL X.K H l xs) (hb : SqL X.K H b ys) (hlen : xs.length ≠ ys.length) : RcN X .Eq 1 (.ref l) (.ref b) false H := fun A pins s σ H0 u v e0 sb I rx ry => by
  cases rx
  cases ry
  obtain ⟨its, r, p1, _⟩ := I.list (hl.ext e0)
  obtain ⟨its2, r2, p2, _⟩ := I.list (hb.ext e0)
  exact RcAt.lists_lengths p1.isList p2.isList (by rw [List.size_toArray, List.size_toArray, ← r.length, ← r2.length]; simpa using hlen) sb.room.units0 X.prog X.w X.xe _ ⟨rfl, H0, I, Ext.rfl'⟩
theorem RcN.listNeL {l b : Addr} {xs ys : List V} {H : Hp} (hl : SqL X.K H l xs) (hb : SqL X.K H b ys) (hlen : xs.length ≠ ys.length) : RcN X .NotEq 1 (.ref l) (.ref b) true H := fun A pins s σ H0 u v e0 sb I rx ry => by
  cases rx
  cases ry
  obtain ⟨its, r, p1, _⟩ := I.list (hl.ext e0)
  obtain ⟨its2, r2, p2, _⟩ := I.list (hb.ext e0)
  exact RcNeAt.lists_lengths p1.isList p2.isList (by rw [List.size_toArray, List.size_toArray, ← r.length, ← r2.length]; simpa using hlen) sb.room.units0 X.prog X.w X.xe _ ⟨rfl, H0, I, Ext.rfl'⟩
def rInN (X : Cx) (n : Nat) (neg : Bool) : R2 := fun x y H Q => ∃ l xs e, y = .ref l ∧ SqL X.K H l xs ∧ (∀ i z, xs[i]? = some z → EqN X n z x (e i) H) ∧ ∀ H', Ext H H' → Q (.bl (neg.xor ((List.range xs.length).any e))) H'
def rRcN (X : Cx) (op : CmpOp) (n : Nat) : R2 := fun x y H Q => ∃ b, RcN X op n x y b H ∧ ∀ H', Ext H H' → Q (.bl b) H'
theorem op_eqN {n : Nat} (hr : Room n X.A) : OpR X (compareOp .Eq) (rRcN X .Eq n) := by
  intro pins s σ H x y v u Q I rx ry hq
  obtain ⟨b, h, q⟩ := hq
  show wpAny (model X.prog X.w) X.A (richCompare .Eq v u) (EP X pins σ Q) X.xe s
  refine wpAny_mono (h X.A pins s σ H v u Ext.rfl' ⟨hr, rfl⟩ I rx ry) (fun r s' z => ?_) fun _ _ x => x
  obtain ⟨rfl, H', I', e⟩ := z
  exact ⟨.bl b, H', I', rfl, q H' e⟩
theorem op_neN {n : Nat} (hr : Room n X.A) : OpR X (compareOp .NotEq) (rRcN X .NotEq n) := by
  intro pins s σ H x y v u Q I rx ry hq
  obtain ⟨b, h, q⟩ := hq
  show wpAny (model X.prog X.w) X.A (richCompare .NotEq v u) (EP X pins σ Q) X.xe s
  refine wpAny_mono (h X.A pins s σ H v u Ext.rfl' ⟨hr, rfl⟩ I rx ry) (fun r s' z => ?_) fun _ _ x => x
  obtain ⟨rfl, H', I', e⟩ := z
  exact ⟨.bl b, H', I', rfl, q H' e⟩
end
end OT
namespace OT
open PySem PySem.Spec PyProof.Rows L2 NdefX
theorem Stp.ext {S H H' : Hp} (sm : Same S H) (e : Ext H H') : Stp S H S H' := ⟨Same.refl _, sm.trans e, e, fun _ h _ => h⟩
def EqM (X : Cx) (n : Nat) (R1 R2 : BP) (b : Bool) : Prop := ∀ S H x y, Same S H → R1.R S H x → R2.R S H y → EqN X n x y b H
def RcM (X : Cx) (op : CmpOp) (n : Nat) (R1 R2 : BP) (b : Bool) : Prop := ∀ S H x y, Same S H → R1.R S H x → R2.R S H y → RcN X op n x y b H
theorem EqM.mono {X : Cx} {n m : Nat} {R1 R2 : BP} {b : Bool} (h : EqM X n R1 R2 b) (hn : n ≤ m) : EqM X m R1 R2 b := fun S H x y sm h1 h2 => (h S H x y sm h1 h2).mono hn
theorem eqm_val {X : Cx} {v w : V} (fv : flatV v = true) (fw : flatV w = true) : EqM X 0 (tV v).b (tV w).b (eqV v w) := fun S H x y sm h1 h2 => by
  cases h1
  cases h2
  exact EqN.flat fv fw
theorem RcM.eqM {X : Cx} {n : Nat} {R1 R2 : BP} {b : Bool} (h : RcM X .Eq n R1 R2 b) (hr : ∀ S H x, R1.R S H x → ∃ a, x = .ref a) (hr2 : ∀ S H x, R2.R S H x → ∃ a, x = .ref a) (hs : ∀ S H x, Same S H → R1.R S H x → R2.R S H x → b = true) : EqM X n R1 R2 b := fun S H x y sm h1 h2 => by
  obtain ⟨a, rfl⟩ := hr S H x h1
  obtain ⟨c, rfl⟩ := hr2 S H y h2
  exact (h S H _ _ sm h1 h2).eqN fun e => by
    subst e
    exact hs S H _ sm h1 h2
section
variable {X : Cx} {B : Bs} {Γ : Gm} {O : Om} {e a b c o l : Expr} {es : List Expr} {p pos pos' apos : Pos} {R R' R1 R2 : BP} {D : Ends} {rest body els : List Stmt} {x m f : Str} {Rs Qs : List MP} {n : Nat} {kk : Bool}
theorem AllM.nth {S : Hp} {vs : List V} {i : Nat} {v : V} (h : AllM Rs S vs) (hv : vs[i]? = some v) : i < Rs.length ∧ (nth Rs i).R S v := by
  obtain ⟨R, h1, h2⟩ := h.got hv
  have hl : i < Rs.length := by
    rcases Nat.lt_or_ge i Rs.length with z | z
    · exact z
    · rw [List.getElem?_eq_none z] at h1; cases h1
  refine ⟨hl, ?_⟩
  rw [nth_get hl] at h1
  cases h1
  exact h2
theorem rcm_lst (k : Nat → Bool) (hl : Rs.length = Qs.length) (h : ∀ i, i < Rs.length → EqM X n (nth Rs i).b (nth Qs i).b (k i)) : RcM X .Eq (n + 1) (bL X.K Rs) (bL X.K Qs) ((List.range Rs.length).all k) := fun S H x y sm ⟨a, vs, e1, h1, h2⟩ ⟨b, ws, e2, g1, g2⟩ => by
  subst e1 e2
  rw [← h2.length]
  exact RcN.listEq (SqL.of h1) (SqL.of g1) (by rw [h2.length, g2.length, hl]) fun i x y hx hy => h i (h2.nth hx).1 S H x y sm (h2.nth hx).2 (g2.nth hy).2
theorem rcm_lstNe (k : Nat → Bool) (hl : Rs.length = Qs.length) (h : ∀ i, i < Rs.length → EqM X n (nth Rs i).b (nth Qs i).b (k i)) : RcM X .NotEq (n + 1) (bL X.K Rs) (bL X.K Qs) (!(List.range Rs.length).all k) := fun S H x y sm ⟨a, vs, e1, h1, h2⟩ ⟨b, ws, e2, g1, g2⟩ => by
  subst e1 e2
  rw [← h2.length]
  exact RcN.listNe (SqL.of h1) (SqL.of g1) (by rw [h2.length, g2.length, hl]) fun i x y hx hy => h i (h2.nth hx).1 S H x y sm (h2.nth hx).2 (g2.nth hy).2
theorem rcm_lstL (hl : Rs.length ≠ Qs.length) : RcM X .Eq 1 (bL X.K Rs) (bL X.K Qs) false := fun S H x y sm ⟨a, vs, e1, h1, h2⟩ ⟨b, ws, e2, g1, g2⟩ => by
  subst e1 e2
  exact RcN.listEqL (SqL.of h1) (SqL.of g1) (by rw [h2.length, g2.length]; exact hl)
theorem rcm_lstNeL (hl : Rs.length ≠ Qs.length) : RcM X .NotEq 1 (bL X.K Rs) (bL X.K Qs) true := fun S H x y sm ⟨a, vs, e1, h1, h2⟩ ⟨b, ws, e2, g1, g2⟩ => by
  subst e1 e2
  exact RcN.listNeL (SqL.of h1) (SqL.of g1) (by rw [h2.length, g2.length]; exact hl)
theorem RcN.mono {op : CmpOp} {n m : Nat} {x y : V} {b : Bool} {H : Hp} (h : RcN X op n x y b H) (hn : n ≤ m) : RcN X op m x y b H := fun A pins s σ H0 u v e sb => h A pins s σ H0 u v e (sb.mono hn)
theorem RcM.mono {op : CmpOp} {m : Nat} (h : RcM X op n R1 R2 kk) (hn : n ≤ m) : RcM X op m R1 R2 kk := fun S H x y sm h1 h2 => (h S H x y sm h1 h2).mono hn
def Enc {α : Type} [DecidableEq α] (X : Cx) (n : Nat) (f : α → MP) : Prop := ∀ x y, EqM X n (f x).b (f y).b (decide (x = y))
theorem enc_str : Enc X 0 tS := fun x y S H v w sm h1 h2 => by
  have := eqm_val (X := X) (v := .str x) (w := .str y) rfl rfl S H v w sm h1 h2
  have e : eqV (.str x) (.str y) = decide (x = y) := by
    show (x == y) = _
    by_cases h : x = y <;> simp [h]
  rw [e] at this
  exact this
theorem enc_bool : Enc X 0 tB := fun x y S H v w sm h1 h2 => by
  have := eqm_val (X := X) (v := .bl x) (w := .bl y) rfl rfl S H v w sm h1 h2
  have e : eqV (.bl x) (.bl y) = decide (x = y) := by cases x <;> cases y <;> rfl
  rw [e] at this
  exact this
theorem nth_map {α : Type} {f : α → MP} {xs : List α} {i : Nat} (h : i < xs.length) : nth (xs.map f) i = f xs[i] := by unfold nth; simp [List.getD, h]
theorem all_eq {α : Type} [DecidableEq α] (xs ys : List α) (hl : xs.length = ys.length) : ((List.range xs.length).all fun i => decide (xs[i]? = ys[i]?)) = decide (xs = ys) := by
  rw [Bool.eq_iff_iff, List.all_eq_true]
  simp only [decide_eq_true_eq, List.mem_range]
  constructor
  · intro h
    apply List.ext_getElem?
    intro i
    rcases Nat.lt_or_ge i xs.length with z | z
    · exact h i z
    · rw [List.getElem?_eq_none z, List.getElem?_eq_none (hl ▸ z)]
  · rintro rfl i _
    rfl
theorem Enc.lst {α : Type} [DecidableEq α] {g : α → MP} (h : Enc X n g) (xs ys : List α) : RcM X .Eq (n + 1) (bL X.K (xs.map g)) (bL X.K (ys.map g)) (decide (xs = ys)) := by
  by_cases hl : xs.length = ys.length
  · have := rcm_lst (X := X) (Rs := xs.map g) (Qs := ys.map g) (n := n) (fun i => decide (xs[i]? = ys[i]?)) (by simpa using hl) (fun i hi => by
      have hi : i < xs.length := by simpa using hi
      have hj : i < ys.length := hl ▸ hi
      rw [nth_map hi, nth_map hj, List.getElem?_eq_getElem hi, List.getElem?_eq_getElem hj]
      have e := h xs[i] ys[i]
      simpa using e)
    rw [List.length_map, all_eq xs ys hl] at this
    exact this
  · have e : decide (xs = ys) = false := decide_eq_false fun z => hl (by rw [z])
    rw [e]
    exact (rcm_lstL (by simpa using hl)).mono (Nat.le_add_left _ _)
theorem Enc.lstNe {α : Type} [DecidableEq α] {g : α → MP} (h : Enc X n g) (xs ys : List α) : RcM X .NotEq (n + 1) (bL X.K (xs.map g)) (bL X.K (ys.map g)) (!decide (xs = ys)) := by
  by_cases hl : xs.length = ys.length
  · have := rcm_lstNe (X := X) (Rs := xs.map g) (Qs := ys.map g) (n := n) (fun i => decide (xs[i]? = ys[i]?)) (by simpa using hl) (fun i hi => by
      have hi : i < xs.length := by simpa using hi
      have hj : i < ys.length := hl ▸ hi
      rw [nth_map hi, nth_map hj, List.getElem?_eq_getElem hi, List.getElem?_eq_getElem hj]
      have e := h xs[i] ys[i]
      simpa using e)
    rw [List.length_map, all_eq xs ys hl] at this
    exact this
  · have e : decide (xs = ys) = false := decide_eq_false fun z => hl (by rw [z])
    rw [e]
    exact (rcm_lstNeL (by simpa using hl)).mono (Nat.le_add_left _ _)
structure InsT (K : PySem.W.Frag) (C : Addr) : Prop where
  cl : Cls K C
  ha : PySem.W.findIn K (.ref C) "__class__" = some (some (.builtin "object.__class__"))
  hn : PySem.W.specialIn K (.builtin "object.__class__") "__get__" = some (some (.builtin "getset_descriptor.__get__"))
  htk : PySem.W.takesIn K (.builtin "object.__class__") = some true
  hm : PySem.W.mroIn K C (.type "object") = some true
theorem InsT.ty {K : PySem.W.Frag} {C : Addr} {Ra : List (Str × MP)} (h : InsT K C) : ∀ S H v, Same S H → (tO C Ra).b.R S H v → TyX K H v (.ref C) := fun S H v sm r => by
  obtain ⟨a, dx, fs, rfl, hp⟩ := tO.at_ r sm
  exact .base (.ins hp h.cl h.ha h.hn h.htk h.hm)
theorem e_seqV (i : Nat) {nm : Str} (hG : Γ[i]? = some (some ((bQ X.K Rs).at_ B.H)) := by rfl) (hN : X.N[i]? = some nm := by rfl) (hv : Vis X.env.scope nm := by first | exact Or.inl rfl | exact Or.inr (Or.inl rfl) | exact Or.inr (Or.inr rfl))
    (hd : (nm == ("__debug__" : Str)) = false := by decide) (hcd : (nm == ("__classdict__" : Str)) = false := by decide) : EJ X B Γ O (.Name nm pos) (bQ X.K Rs) :=
  EJ.now (pe_var hN hv hd hcd) fun S H σ st => let ⟨v, h1, a, vs, h2, h3, h4⟩ := st.slot i _ hG; ⟨v, ⟨a, vs, h2, h3.elim (fun h => .inl (st.st.h.seq h)) (fun h => .inr (Same.tup st.st.h h)), h4⟩, fun Q q => ⟨v, h1, q⟩⟩
theorem bls_of {bs : List Bool} {S : Hp} : ∀ {vs : List V}, AllM (bs.map tB) S vs → vs = bs.map V.bl := by
  induction bs with
  | nil => intro vs h; cases vs with
    | nil => rfl
    | cons _ _ => exact h.elim
  | cons b bs ih => intro vs h; cases vs with
    | nil => exact h.elim
    | cons v vs =>
      have h1 : v = .bl b := h.1
      rw [h1, ih h.2]
      rfl
theorem s_setix {i j : Nat} {q : Addr} {nm : Str} {R : MP} {Rs' : List MP} {O' : Om} {k : Int} {p1 p2 : Pos} {ix : Expr} (he : EJ X B Γ ((q, mL Rs) :: O') e R.b) (hi : EJ X B Γ ((q, mL Rs) :: O') ix (bI k)) (h : SJ X B Γ ((q, mL Rs') :: O') rest D)
    (hj : ixN Rs.length k = some j) (hR : Rs.set j R = Rs') (hG : Γ[i]? = some (some (tR q)) := by rfl) (hN : X.N[i]? = some nm := by rfl)
    (hv : Vis X.env.scope nm := by first | exact Or.inl rfl | exact Or.inr (Or.inl rfl) | exact Or.inr (Or.inr rfl)) (hd : (nm == ("__debug__" : Str)) = false := by decide) (hcd : (nm == ("__classdict__" : Str)) = false := by decide)
    (hs : swapsWithSole [.Subscript (.Name nm p1) ix p2] e pos.line X.env = pure false := by rfl) (hw : swappedStores [.Subscript (.Name nm p1) ix p2] e X.env = pure none := by rfl)
    (h1 : (assignEach [.Subscript (.Name nm p1) ix p2] X.env).map (·.2) = [assign (.Subscript (.Name nm p1) ix p2) X.env] := by rfl)
    (ha : ∀ v, assign (.Subscript (.Name nm p1) ix p2) X.env v = (do
      let ov ← holding [v] (eval (.Name nm p1) X.env)
      let iv ← holding [v, ov] (eval ix X.env)
      standAt p2
      holding [v, ov, iv] (setItem ov iv v)
      release [v, ov, iv] []) := by intro _; rfl) : SJ X B Γ ((q, mL Rs) :: O') (.Assign [.Subscript (.Name nm p1) ix p2] e pos :: rest) D :=
  SJ.cons fun S H σ st => ⟨_, ps_asg pe_w (pg_sub (pe_var hN hv hd hcd) pe_w set_list ha) hs hw h1, he S H σ st _ fun v S1 H1 s1 r1 => by
    have t := st.step s1
    obtain ⟨w, h1, h2⟩ := t.slot i _ hG
    cases h2
    refine ⟨_, h1, hi S1 H1 σ t _ fun u S2 H2 s2 r2 => ?_⟩
    cases r2
    have t2 := t.step s2
    obtain ⟨_, _, o, h3, vs, rfl, h4⟩ := t2.own _ List.mem_cons_self
    refine ⟨q, vs, k, j, rfl, rfl, h3, by rw [h4.length]; exact hj, h S2 _ σ (t2.mut ⟨_, rfl, ?_⟩)⟩
    rw [← hR]
    exact h4.set j (R.up s2.s r1)⟩
end
structure Stm (p : Addr) (M : MO) (S H S' H' : Hp) : Prop where
  s : Same S S'
  i : Same S' H'
  h : ∀ a o, a ≠ p → H a = some o → H' a = some o
  fr : ∀ a, S a = none → H a ≠ none → S' a = none
  o : ∃ o, H' p = some o ∧ M.R S' o
def spM {D ι : Type} (M : MO) (As : D → List BP) (Pm : D → ι → Prop) (Rm : D → ι → MP) : Sp := fun vs H Q _ => ∃ d p S ws, vs = .ref p :: ws ∧ Same S H ∧ S p = none ∧ (∃ o, H p = some o ∧ M.R S o) ∧ AllR (As d) S (del H p) ws ∧
  ∀ i v S' H', Pm d i → Stm p M S H S' H' → (Rm d i).R S' v → Q v H'
section
variable {P : Program} {w : World} {K : PySem.W.Frag} {mg : Str → Option Value} {base : Heap} {k : Nat} {ps : List Str}
theorem defM_ok {D ι : Type} {M : MO} {As : D → List BP} {Pm : D → ι → Prop} {Rm : D → ι → MP} {N : List Str} {x q self : Str} {s : Stmt} {f : Addr} {fd : FuncData} (F : FnS K x q s f fd) (Sc : FnScope N (self :: ps) (defScope s)) (Gs : D → Addr → Hp → Gm)
    (hb : ∀ (cdv : Value) (A : Around) (outer : List Env) (s' : Shared) (H0 H S : Hp) (Q : VK) (E : XK) (d : D) (p : Addr), Room k (A.deeper (envOfC q (defScope s) s'.heap.objs.size f cdv)) → N.Nodup → (∀ i v S' H' σ Γ, Pm d i → Stt ⟨S, H, .yes⟩ Γ [(p, M)] S' H' σ → (Rm d i).R S' v → Q v H') →
      SJ (cxOf (L2.CX P w) P w K mg base N q (defScope s) f cdv A outer s' H0 E) ⟨S, H, .yes⟩ (Gs d p H) [(p, M)] (defBody s) { nx := fun _ H' => Q .non H', rt := Q })
    (hl : ∀ d, (As d).length = ps.length := by intro _; rfl) (hG : ∀ d p H, some (tR p) :: gm0 N.tail (As d) H = Gs d p H := by intro _ _ _; rfl) : FnOk P w K mg base (L2.CX P w) (k + 1) f fd (self :: ps) (spM M As Pm Rm) := by
  refine F.ok Sc (fun vs H Q E h => ?_) (fun cdv A outer s H vs Q E hr h => ?_)
  · obtain ⟨d, p, S, ws, rfl, _, _, _, r, _⟩ := h
    rw [List.length_cons, r.length, hl, List.length_cons]
  · obtain ⟨d, p, S, ws, rfl, sm, sp, ⟨o, ho, hm⟩, r, q⟩ := h
    have sm' : Same S (del H p) := fun a u e => by
      rw [del_ne (fun z => by subst z; rw [sp] at e; cases e)]
      exact sm a u e
    have t := stt0 (N := N.tail) sm' r
    have dl : Same (del H p) H := fun a u e => by
      by_cases z : a = p
      · subst z; rw [del_same] at e; cases e
      · rw [del_ne z] at e; exact e
    refine hb cdv A outer s H (del H p) S Q E d p hr Sc.nd (fun i v S' H' σ Γ hp t' hv => q i v S' H' hp ?_ hv) S H _ ?_
    · obtain ⟨g1, g2, o', g3, g4⟩ := t'.own _ List.mem_cons_self
      refine ⟨t'.st.s, t'.st.i, fun a u ne e => t'.st.h a u (by show del H p a = _; rw [del_ne ne]; exact e), fun a e1 e2 => ?_, o', g3, g4⟩
      by_cases z : a = p
      · rw [z]; exact g1
      · exact t'.st.fr a e1 (by show del H p a ≠ none; rw [del_ne z]; exact e2)
    · rw [← hG]
      have eN : N = self :: N.tail := by
        have := Sc.pre
        cases N with
        | nil => cases this
        | cons a N => rw [List.length_cons, List.take_succ_cons] at this; rw [(List.cons.inj this).1]; rfl
      have es : start N (.ref p :: ws) = some (.ref p) :: start N.tail ws := by
        rw [eN]
        unfold L2.start
        rw [List.map_cons, List.length_cons, List.length_cons, Nat.add_sub_add_right, List.cons_append]
        rfl
      rw [es]
      refine ⟨⟨Same.refl _, sm, dl, fun a e1 _ => e1⟩, fun i R e => ?_, congrArg Nat.succ t.len, fun z hz => ?_, by show [p].Nodup; simp, trivial⟩
      · cases i with
        | zero =>
          have e2 : tR p = R := Option.some.inj (Option.some.inj e)
          subst e2
          exact ⟨_, rfl, rfl⟩
        | succ i => exact t.slot i R e
      · rcases List.mem_cons.mp hz with z1 | hz
        · subst z1
          exact ⟨sp, del_same, o, ho, hm⟩
        · cases hz
end
section
variable {X : Cx} {B : Bs} {Γ : Gm} {O : Om} {e a b c o l : Expr} {es : List Expr} {p pos pos' apos p1 : Pos} {D : Ends} {rest body els : List Stmt} {x nm : Str} {k : Nat} {ps : List Str} {W : WX} {Ix ι : Type} {M : MO} {As : Ix → List BP} {Pm : Ix → ι → Prop} {Rm : Ix → ι → MP}
theorem SJ.openO {ι : Type} {M : MO} {Ms : ι → MO} {q : Addr} (hM : ∀ S o, M.R S o → ∃ i, (Ms i).R S o) (h : ∀ i, SJ X B Γ ((q, Ms i) :: O) body D) : SJ X B Γ ((q, M) :: O) body D := fun S H σ t => by
  obtain ⟨g1, g2, o, g3, g4⟩ := t.own _ List.mem_cons_self
  obtain ⟨i, hi⟩ := hM S o g4
  refine h i S H σ ⟨t.st, t.slot, t.len, fun z hz => ?_, t.nd, t.gh⟩
  rcases List.mem_cons.mp hz with e | hz
  · subst e; exact ⟨g1, g2, o, g3, hi⟩
  · exact t.own z (List.mem_cons_of_mem _ hz)
theorem Stt.closeO {M M' : MO} {q : Addr} {S H : Hp} {σ : L2.St} (t : Stt B Γ ((q, M) :: O) S H σ) (hM : ∀ S o, M.R S o → M'.R S o) : Stt B Γ ((q, M') :: O) S H σ := by
  refine ⟨t.st, t.slot, t.len, fun z hz => ?_, t.nd, t.gh⟩
  rcases List.mem_cons.mp hz with e | hz
  · subst e
    obtain ⟨g1, g2, o, g3, g4⟩ := t.own _ List.mem_cons_self
    exact ⟨g1, g2, o, g3, hM _ _ g4⟩
  · exact t.own z (List.mem_cons_of_mem _ hz)
end
end OT
namespace OT
open PySem PySem.Spec PyProof.Rows L2 NdefX
section
variable {X : Cx} {CX : CXT} {k n : Nat} {f C : Addr} {fd : FuncData} {ps : List Str} {sp : Sp} {E : XK}
def flatTy : V → Option String
  | .non => some "NoneType"
  | .bl _ => some "bool"
  | .int _ => some "int"
  | .str _ => some "str"
  | _ => none
end
section
variable {X : Cx} {B : Bs} {Γ : Gm} {O : Om} {e a b c o : Expr} {es : List Expr} {p pos pos' apos : Pos} {R R' : BP} {Ds : Ends} {rest body els : List Stmt} {x m f : Str} {C : Addr} {k : Nat} {ps : List Str} {W : WX} {D : Type} {As : D → List BP} {out : D → Out}
end
end OT
namespace OT
open PySem
open PySem.Builtin.Int (intBits)
theorem abs_ite (i : Int) : (if i < 0 then -i else i) = (i.natAbs : Int) := by split <;> omega
theorem fmod_nat (x y : Nat) : (x : Int).fmod (y : Int) = ((x % y : Nat) : Int) := by
  rw [Int.fmod_eq_emod_of_nonneg _ (Int.natCast_nonneg y)]
  exact (Int.natCast_emod x y).symm
theorem gcd_step (x y : Nat) : Nat.gcd y (x % y) = Nat.gcd x y := by
  rw [Nat.gcd_comm y, ← Nat.gcd_rec, Nat.gcd_comm]
theorem log2_lt_of_bits {i : Int} {n : Nat} (h : intBits i ≤ n) (hn : 0 < n) : i.natAbs.log2 < n := by
  unfold Builtin.Int.intBits at h
  by_cases hi : i = 0
  · subst hi; simpa using hn
  · rw [if_neg (by simpa using hi)] at h; omega
def gs (a b : Int) : Int := if b < 0 then -(Int.gcd a b : Int) else Int.gcd a b
theorem gcd_pos {a b : Int} (hb : b ≠ 0) : 0 < Int.gcd a b := Int.gcd_pos_of_ne_zero_right a hb
theorem gs_ne {a b : Int} (hb : b ≠ 0) : gs a b ≠ 0 := by
  have := gcd_pos (a := a) hb
  unfold gs
  split <;> omega
theorem gs_dvd_l (a b : Int) : gs a b ∣ a := by
  unfold gs
  split
  · exact Int.neg_dvd.mpr (Int.gcd_dvd_left _ _)
  · exact Int.gcd_dvd_left _ _
theorem gs_dvd_r (a b : Int) : gs a b ∣ b := by
  unfold gs
  split
  · exact Int.neg_dvd.mpr (Int.gcd_dvd_right _ _)
  · exact Int.gcd_dvd_right _ _
theorem top_ok {a b : Int} (hb : b ≠ 0) : a.fdiv (gs a b) = (Rat.divInt a b).num := by
  rw [Int.fdiv_eq_ediv_of_dvd (gs_dvd_l a b), Rat.num_divInt, Int.gcd_comm]
  unfold gs
  have g := Int.gcd_comm a b
  rcases Int.lt_trichotomy b 0 with h | h | h
  · rw [if_pos h, Int.sign_eq_neg_one_of_neg h, g, Int.ediv_neg, Int.neg_mul, Int.one_mul, Int.neg_ediv_of_dvd (Int.gcd_dvd_right b a)]
  · exact absurd h hb
  · rw [if_neg (by omega), Int.sign_eq_one_of_pos h, g, Int.one_mul]
theorem bot_ok {a b : Int} (hb : b ≠ 0) : b.fdiv (gs a b) = ((Rat.divInt a b).den : Int) := by
  rw [Int.fdiv_eq_ediv_of_dvd (gs_dvd_r a b), Rat.den_divInt, if_neg hb]
  unfold gs
  have g := Int.gcd_comm a b
  rcases Int.lt_trichotomy b 0 with h | h | h
  · rw [if_pos h, g, Int.ediv_neg, ← Int.neg_ediv_of_dvd (Int.gcd_dvd_left b a), Int.natCast_ediv]
    congr 1
    omega
  · exact absurd h hb
  · rw [if_neg (by omega), g, Int.natCast_ediv]
    congr 1
    omega
theorem bits_gs {a b : Int} {n : Nat} (hb : b ≠ 0) (h : intBits b ≤ n) : intBits (gs a b) ≤ n := by
  refine intBits_le_of_natAbs ?_ h
  have h2 : (gs a b).natAbs ∣ b.natAbs := Int.natAbs_dvd_natAbs.mpr (gs_dvd_r a b)
  exact Nat.le_of_dvd (by omega) h2
def Fit (n : Nat) (q : Rat) : Prop := intBits q.num ≤ n ∧ intBits (q.den : Int) ≤ n
theorem fit_divInt {a b : Int} {n : Nat} (hb : b ≠ 0) (h1 : intBits a ≤ n) (h2 : intBits b ≤ n) : Fit n (Rat.divInt a b) := by
  refine ⟨?_, ?_⟩
  · rw [← top_ok hb]; exact intBits_fdiv_le h1
  · rw [← bot_ok hb]; exact intBits_fdiv_le h2
theorem den_ne (q : Rat) : (q.den : Int) ≠ 0 := by have := q.den_pos; omega
theorem rat_mul (q r : Rat) : Rat.divInt (q.num * r.num) (q.den * r.den) = q * r := by
  have := Rat.divInt_mul_divInt q.num r.num (d₁ := q.den) (d₂ := r.den)
  rw [Rat.num_divInt_den, Rat.num_divInt_den] at this
  exact this.symm
theorem rat_neg (q : Rat) : Rat.divInt (-q.num) q.den = -q := by
  have := Rat.neg_divInt q.num q.den
  rw [Rat.num_divInt_den] at this
  exact this.symm
theorem den_mul_ne (q r : Rat) : (q.den : Int) * r.den ≠ 0 := Int.mul_ne_zero (den_ne q) (den_ne r)
theorem Fit.mul {n m : Nat} {q r : Rat} (h : Fit n q) (g : Fit m r) : Fit (n + m) (q * r) := by
  rw [← rat_mul]
  exact fit_divInt (den_mul_ne q r) (intBits_mul_le h.1 g.1) (intBits_mul_le h.2 g.2)
theorem Fit.neg {n : Nat} {q : Rat} (h : Fit n q) : Fit n (-q) := by
  rw [← rat_neg]
  exact fit_divInt (den_ne q) (intBits_neg_le h.1) h.2
theorem mulOk {a b : Int} {m n : Nat} (ha : intBits a ≤ m) (hb : intBits b ≤ n) (h : m + n ≤ 134217728 := by omega) : IntMulOk a b := IntMulOk.of_le ha hb h
end OT
namespace OT
open PySem PySem.Spec PyProof.Rows L2 NdefX
section
variable {X : Cx} {B : Bs} {Γ : Gm} {O O' : Om} {e a b c o l : Expr} {es : List Expr} {p pos pos' apos : Pos} {R R' : BP} {D : Ends} {rest body els : List Stmt} {x m f : Str}
theorem s_retNew {M : MO} (he : NJ X B Γ O e M) (h : ∀ p o S H, Stp B.S B.H S H → B.H p = none → S p = none → H p = some o → M.R S o → D.rt (.ref p) H) : SJ X B Γ O (.Return (some e) pos :: rest) D :=
  SJ.cons fun S H σ st => ⟨_, ps_ret pe_w, he S H σ st _ fun p o S1 H1 s1 n1 n2 h1 h2 => h p o S1 H1 (st.st.trans s1) (st.st.h.free n1) n2 h1 h2⟩
theorem NJ.imp {M M' : MO} (h : NJ X B Γ O e M) (i : ∀ S o, M.R S o → M'.R S o) : NJ X B Γ O e M' := fun S H σ st Q q => h S H σ st Q fun p o S1 H1 s1 n1 n2 h1 h2 => q p o S1 H1 s1 n1 n2 h1 (i _ _ h2)
theorem Stt.sub_ {S H : Hp} {σ : L2.St} (t : Stt B Γ O S H σ) (h : ∀ q ∈ O', q ∈ O) (hn : (O'.map (·.1)).Nodup) : Stt B Γ O' S H σ := ⟨t.st, t.slot, t.len, fun q hq => t.own q (h q hq), hn, t.gh⟩
def blkB (N : List Str) (sc scope : Scope) (own : List (Str × Nat)) : Bool :=
  decide (scope.kind = .function) && (scope.names.all (fun y => decide (scope.names.lookup y.1 = some y.2)) && (own.all (fun q => decide (N[q.2]? = some q.1)) &&
  (scope.names.all (fun y => !decide (y.2 = .free) || (decide (sc.names.lookup y.1 = some .cell) || decide (sc.names.lookup y.1 = some .free))) &&
  scope.names.all (fun y => !(decide (y.2 = .local) || decide (y.2 = .cell)) || (decide (y.1 ∈ own.map (·.1)) || !decide (y.1 ∈ N))))))
theorem blk_by {N : List Str} {sc scope : Scope} {own : List (Str × Nat)} (h : blkB N sc scope own = true) : BlkOk N sc scope own := by
  unfold blkB at h
  simp only [Bool.and_eq_true, decide_eq_true_eq, List.all_eq_true, Bool.or_eq_true, Bool.not_eq_true', decide_eq_false_iff_not] at h
  obtain ⟨h1, h2, h3, h4, h5⟩ := h
  refine ⟨h1, h2, h3, fun y hy e => (h4 y hy).resolve_left (fun z => z e), fun y hy e => ?_⟩
  rcases h5 y hy with z | z
  · exact absurd e (by
      rw [Bool.or_eq_false_iff, decide_eq_false_iff_not, decide_eq_false_iff_not] at z
      exact fun e => e.elim z.1 z.2)
  · exact z
def noneAt (G : Gm) (vs : List Nat) : Bool := vs.all fun v => match G[v]? with
  | some (some _) => false
  | _ => true
theorem noneAt_ok {G : Gm} {vs : List Nat} (h : noneAt G vs = true) : ∀ v ∈ vs, ∀ R, G[v]? ≠ some (some R) := fun v hv R e => by
  have := List.all_eq_true.mp h v hv
  rw [e] at this
  cases this
theorem tk_no {X : Cx} : Takes X (fun _ _ _ _ => False) := fun u s' ⟨a, B, sI, pins, σ, H, cls, d, e, I, nb, up, sky, na, os, ag, w⟩ => w.elim
structure CJ (X : Cx) (B : Bs) (Γ : Gm) (O : Om) (ex : Expr) (k : Bool) : Prop where
  e : EJ X B Γ O ex (bB k)
  t : TJ X B Γ O ex k
section
variable {n : Nat} {kk : Bool} {R1 R2 : BP} {Rs : List MP} {C : Addr} {k : Nat} {ps : List Str} {Dt : Type} {As : Dt → List BP} {out : Dt → Out}
end
end
end OT
namespace OT
open PySem PySem.Spec PyProof.Rows L2 NdefX
section
variable {X : Cx} {B : Bs} {Γ : Gm} {O O' : Om} {e a b c o l : Expr} {es : List Expr} {p p2 pos pos' apos : Pos} {R R' : BP} {D : Ends} {rest body els : List Stmt} {x m f : Str} {Rs Qs : List MP}
def OJ (X : Cx) (B : Bs) (Γ : Gm) (O : Om) (oe : Option Expr) (v : Option Int) : Prop := ∀ S H σ, Stt B Γ O S H σ → ∀ Q : Option Int → Hp → Prop, (∀ S' H', Stp S H S' H' → Q v H') → ∃ t, PO X oe t ∧ t σ H Q
theorem po_w {oe : Option Expr} : PO X oe (fun σ H Q => ∃ t, PO X oe t ∧ t σ H Q) := ⟨fun pins s σ H Q I ⟨_, h, q⟩ => h.run pins s σ H Q I q⟩
def cut {α : Type} (xs : List α) (lo hi : Option Int) : List α := (xs.drop (HT.sIx xs.length 0 lo)).take (HT.sIx xs.length xs.length hi - HT.sIx xs.length 0 lo)
theorem AllM.drop : ∀ {Rs : List MP} {S : Hp} {vs : List V} (n : Nat), AllM Rs S vs → AllM (Rs.drop n) S (vs.drop n)
  | _, _, _, 0, h => h
  | [], _, [], _ + 1, _ => trivial
  | [], _, _ :: _, _ + 1, h => h.elim
  | _ :: _, _, [], _ + 1, h => h.elim
  | _ :: Rs, _, _ :: vs, n + 1, h => AllM.drop (Rs := Rs) (vs := vs) n h.2
theorem AllM.take : ∀ {Rs : List MP} {S : Hp} {vs : List V} (n : Nat), AllM Rs S vs → AllM (Rs.take n) S (vs.take n)
  | _, _, _, 0, h => trivial
  | [], _, [], _ + 1, _ => trivial
  | [], _, _ :: _, _ + 1, h => h.elim
  | _ :: _, _, [], _ + 1, h => h.elim
  | _ :: Rs, _, _ :: vs, n + 1, h => ⟨h.1, AllM.take (Rs := Rs) (vs := vs) n h.2⟩
theorem AllM.cut {S : Hp} {vs : List V} {lo hi : Option Int} (h : AllM Rs S vs) : AllM (cut Rs lo hi) S (cutV vs lo hi) := by
  unfold OT.cut cutV
  rw [← h.length]
  exact (h.drop _).take _
theorem n_callTy {T : String} {r : List V → Hp → VK → Prop} {Rs : List BP} {M : MO} (hc : CallR X (.type T) r) (hm : X.mg x = none) (hv : bootBuiltins x = some (.type T)) (ha : AJ X B Γ O (e :: es) Rs)
    (hq : ∀ S H vs, Same S H → AllR Rs S H vs → ∀ Q : VK, (∀ p o, H p = none → M.R S o → Q (.ref p) (upd H p o)) → r vs H Q) (hg : Gl X x := by rfl) (hn : x ≠ "__name__" := by decide) (hdb : (x == ("__debug__" : Str)) = false := by decide)
    (he : starEach (e :: es) X.env = (false, eval e X.env) :: starEach es X.env := by rfl) (hpl : (backTo pos (starEach es X.env)).any (·.1) = false := by rfl) : NJ X B Γ O (.Call (.Name x p) (e :: es) [] pos) M := fun S H σ st Q q =>
  ⟨_, pe_callTy hc hg hm hv pa_w hn hdb he hpl, ha S H σ st _ fun vs S1 H1 s1 r1 => hq S1 H1 vs s1.i r1 Q fun l o hl hM => q l o S1 _ (s1.trans (Stp.own s1.i hl)) (s1.h.free hl) (s1.i.free hl) upd_same hM⟩
theorem n_list (hm : X.mg "list" = none) (ha : EJ X B Γ O e (bQ X.K Rs)) (hg : Gl X "list" := by rfl) (hs : starEach [e] X.env = (false, eval e X.env) :: starEach [] X.env := by rfl) : NJ X B Γ O (.Call (.Name "list" p) [e] [] pos) (mL Rs) :=
  n_callTy call_list_of hm (by decide +kernel) (a_cons ha a_nil hs) (fun S H vs sm r Q q => by
    obtain ⟨v, rfl, p, ws, rfl, h1, h2⟩ := r.one
    exact ⟨p, ws, rfl, h1, fun l hl => q l _ hl ⟨ws, rfl, h2⟩⟩) hg (by decide) (by decide) hs rfl
theorem strs_of {xs : List Str} {S : Hp} : ∀ {vs : List V}, AllM (xs.map tS) S vs → vs = xs.map V.str := by
  induction xs with
  | nil => intro vs h; cases vs with
    | nil => rfl
    | cons _ _ => exact h.elim
  | cons b bs ih => intro vs h; cases vs with
    | nil => exact h.elim
    | cons v vs =>
      have h1 : v = .str b := h.1
      rw [h1, ih h.2]
      rfl
theorem of_strs {S : Hp} : ∀ xs : List Str, AllM (xs.map tS) S (xs.map V.str)
  | [] => trivial
  | _ :: xs => ⟨rfl, of_strs xs⟩
def signs (z : Str) : List MP := z.cps.toList.map fun c => tS ⟨#[c]⟩
end
end OT
namespace OT
open PySem PySem.Spec PyProof.Rows L2 NdefX
section
variable {α : Type}
def vget (kvs : List (Key × α)) (k : Key) : Option α := (kvs.find? fun kv => decide (kv.1 = k)).map (·.2)
def vput (kvs : List (Key × α)) (k : Key) (v : α) : List (Key × α) := if (kvs.any fun kv => decide (kv.1 = k)) = true then kvs.map (fun kv => if kv.1 = k then (kv.1, v) else kv) else kvs ++ [(k, v)]
end
def KvM : List (Key × MP) → Hp → List (Key × V) → Prop
  | [], _, [] => True
  | (k, R) :: Rs, S, (j, v) :: vs => k = j ∧ R.R S v ∧ KvM Rs S vs
  | _, _, _ => False
theorem KvM.up : ∀ {Rs : List (Key × MP)} {S S' : Hp} {vs : List (Key × V)}, Same S S' → KvM Rs S vs → KvM Rs S' vs
  | [], _, _, [], _, _ => trivial
  | [], _, _, _ :: _, _, h => h.elim
  | _ :: _, _, _, [], _, h => h.elim
  | (_, R) :: Rs, _, _, (_, v) :: vs, e, h => ⟨h.1, R.up e h.2.1, KvM.up e h.2.2⟩
theorem KvM.len : ∀ {Rs : List (Key × MP)} {S : Hp} {vs : List (Key × V)}, KvM Rs S vs → vs.length = Rs.length
  | [], _, [], _ => rfl
  | [], _, _ :: _, h => h.elim
  | _ :: _, _, [], h => h.elim
  | _ :: Rs, _, _ :: vs, h => congrArg Nat.succ (KvM.len h.2.2)
theorem KvM.get : ∀ {Rs : List (Key × MP)} {S : Hp} {vs : List (Key × V)} {k : Key}, KvM Rs S vs → match vget Rs k with
    | some R => ∃ v, valV vs k = some v ∧ R.R S v
    | none => valV vs k = none
  | [], _, [], _, _ => rfl
  | [], _, _ :: _, _, h => h.elim
  | _ :: _, _, [], _, h => h.elim
  | (j, R) :: Rs, S, (j', v) :: vs, k, h => by
    obtain ⟨rfl, h1, h2⟩ := h
    by_cases e : j = k
    · have e1 : vget ((j, R) :: Rs) k = some R := by simp [vget, List.find?_cons, e]
      rw [e1, valV_pos e]
      exact ⟨v, rfl, h1⟩
    · have e1 : vget ((j, R) :: Rs) k = vget Rs k := by simp [vget, List.find?_cons, e]
      rw [e1, valV_neg e]
      exact KvM.get h2
theorem KvM.isSome {Rs : List (Key × MP)} {S : Hp} {vs : List (Key × V)} {k : Key} (h : KvM Rs S vs) : (valV vs k).isSome = (vget Rs k).isSome := by
  have := h.get (k := k)
  cases e : vget Rs k with
  | none => rw [e] at this; rw [this] <;> rfl
  | some R => rw [e] at this; obtain ⟨v, h1, _⟩ := this; rw [h1] <;> rfl
theorem KvM.at_ : ∀ {Rs : List (Key × MP)} {S : Hp} {vs : List (Key × V)} {i : Nat} {k : Key} {v : V}, KvM Rs S vs → vs[i]? = .some (k, v) → ∃ R, Rs[i]? = .some (k, R) ∧ R.R S v
  | _, _, [], _, _, _, _, e => by simp at e
  | [], _, _ :: _, _, _, _, h, _ => h.elim
  | (j, R) :: Rs, S, (j', w) :: vs, 0, k, v, h, e => by
    obtain ⟨rfl, h1, h2⟩ := h
    simp at e
    obtain ⟨rfl, rfl⟩ := e
    exact ⟨R, rfl, h1⟩
  | (j, R) :: Rs, S, (j', w) :: vs, i + 1, k, v, h, e => by
    have e2 : vs[i]? = .some (k, v) := by simpa using e
    obtain ⟨Q, h1, h2⟩ := KvM.at_ h.2.2 e2
    exact ⟨Q, by simpa using h1, h2⟩
theorem KvM.keys : ∀ {Rs : List (Key × MP)} {S : Hp} {vs : List (Key × V)}, KvM Rs S vs → vs.map (·.1) = Rs.map (·.1)
  | [], _, [], _ => rfl
  | [], _, _ :: _, h => h.elim
  | _ :: _, _, [], h => h.elim
  | (j, _) :: Rs, _, (j', _) :: vs, h => by rw [List.map_cons, List.map_cons, KvM.keys h.2.2, h.1]
def mD (Rs : List (Key × MP)) : MO := ⟨fun S o => ∃ vs, o = .dK vs ∧ KvM Rs S vs, fun e ⟨vs, h1, h2⟩ => ⟨vs, h1, h2.up e⟩⟩
def tD (Rs : List (Key × MP)) : MP := ⟨fun S v => ∃ a od vs, v = .ref a ∧ S a = some (.frz od (.dK vs)) ∧ KvM Rs S vs, fun e ⟨a, od, vs, h1, h2, h3⟩ => ⟨a, od, vs, h1, e _ _ h2, h3.up e⟩⟩
def bD (Rs : List (Key × MP)) : BP := ⟨fun S H v => ∃ a vs, v = .ref a ∧ Rd H a (.dK vs) ∧ KvM Rs S vs, fun e e' ⟨a, vs, h1, h2, h3⟩ => ⟨a, vs, h1, h2.elim (fun h => .inl (e' _ _ h)) (fun ⟨o, h⟩ => .inr ⟨o, e' _ _ h⟩), h3.up e⟩⟩
section
variable {X : Cx} {B : Bs} {Γ : Gm} {O O' : Om} {e a b c o l : Expr} {es : List Expr} {p p2 pos pos' apos : Pos} {R R' : BP} {D : Ends} {rest body els : List Stmt} {x m f : Str} {Rs : List (Key × MP)} {k : Key}
def dcol (k : Nat → Bool) (kf : Nat → Key) (R : Nat → MP) : Nat → List (Key × MP)
  | 0 => []
  | n + 1 => if k n = true then vput (dcol k kf R n) (kf n) (R n) else dcol k kf R n
end
end OT
namespace OT
open PySem PySem.SeqAt PyProof.Rows L2
open AutoSeq1 (wpAny_loadPart')
open MeetsSeq MeetsSeq2 MeetsSeq3 SeqRoads2
section
variable {prog : Program} {w : World} {A : Around} {R : Result → Shared → Prop} {E : Value → Shared → Prop}
theorem tuple_eqB (l b : Addr) (items items2 : Array Value) (n n2 : Nat) (dd dd2 : Option Addr) (sl sl2 : Array (Option Value)) (e : Nat → Bool) (I : Shared → Prop)
    (turn : ∀ i (h1 : i < items.size) (h2 : i < items2.size) s, I s → wpAny (model prog w) A.in1 (eqBool items[i] items2[i]) (fun r s' => r = e i ∧ I s') (fun e s' => R (.error e) s') s)
    (fin : ∀ s, I s → R (.ok (.ret (.bool ((List.range (min items.size items2.size)).all e && items.size == items2.size)))) s) {s : Shared} (hl1 : s.heap.get? l = some { cls := .type "tuple", dict := dd, data := .seq items n, slots := sl }) (hb1 : s.heap.get? b = some { cls := .type "tuple", dict := dd2, data := .seq items2 n2, slots := sl2 }) (h : I s) :
    wpAny (model prog w) A.in1 (Builtin.«tuple.__eq__» ⟨[.ref l, .ref b], []⟩) (GQ.FinOf prog w A R) (fun e s' => R (.error e) s') s := by
  have f2 := AutoSeq1.sub_tuple_tuple
  have hZ : (items.toList.zip items2.toList).length = min items.size items2.size := by simp
  have h0 := h
  obtain ⟨hp, g, d, tk, os⟩ := s
  wp_walk using wpAny_loadPart' hl1, wpAny_loadPart' hb1, wpAny_forIn_list _ (fun rest b s' => b.1 = none ∧ I s' ∧ ∃ i, rest = (items.toList.zip items2.toList).drop i ∧ ∀ s, I s → R (.ok (.ret (.bool (((List.range (min items.size items2.size)).drop i).all e && items.size == items2.size)))) s) _
  case turn =>
    rintro ⟨y, x⟩ rest b s' ⟨hb', hI, i, hz, hR⟩
    have hlt : i < (items.toList.zip items2.toList).length := by
      rcases Nat.lt_or_ge i (items.toList.zip items2.toList).length with h' | h'
      · exact h'
      · rw [List.drop_of_length_le h'] at hz; cases hz
    have hm : i < min items.size items2.size := hZ ▸ hlt
    have h1 : i < items.size := Nat.lt_of_lt_of_le hm (Nat.min_le_left _ _)
    have h2 : i < items2.size := Nat.lt_of_lt_of_le hm (Nat.min_le_right _ _)
    rw [List.drop_eq_getElem_cons hlt] at hz
    injection hz with hyx hrest
    have hy : y = items[i] := by have := congrArg Prod.fst hyx; simpa using this
    have hx : x = items2[i] := by have := congrArg Prod.snd hyx; simpa using this
    subst hy hx
    have hd : (List.range (min items.size items2.size)).drop i = i :: (List.range (min items.size items2.size)).drop (i + 1) := drop_range hm
    rw [hd, List.all_cons] at hR
    refine wpAny_bind (wpAny_mono (turn i h1 h2 s' hI) (fun r s2 q2 => ?_) fun _ _ x => x)
    obtain ⟨hr, q2⟩ := q2
    subst hr
    cases hy : e i with
    | true =>
      rw [hy] at hR
      wp_walk
      exact ⟨rfl, q2, i + 1, hrest, by simpa using hR⟩
    | false =>
      rw [hy] at hR
      wp_walk
      simpa using hR s2 q2
  case fin =>
    rintro ⟨b1, b2⟩ s' ⟨hb', hI, i, hz, hR⟩
    simp only at hb'
    subst hb'
    have hge : min items.size items2.size ≤ i := by
      rcases Nat.lt_or_ge i (items.toList.zip items2.toList).length with h' | h'
      · rw [List.drop_eq_getElem_cons h'] at hz; cases hz
      · exact hZ ▸ h'
    rw [List.drop_of_length_le (by simpa using hge)] at hR
    wp_walk
    simpa [Builtin.Tuple.tupleCompareSizes] using hR s' hI
  case h =>
    exact ⟨rfl, h0, 0, rfl, by simpa using fin⟩
end
section
variable {X : Cx}
theorem RcN.tupEq {n : Nat} {l b : Addr} {xs ys : List V} {e : Nat → Bool} {H : Hp} (hl : SqT X.K H l xs) (hb : SqT X.K H b ys) (h : ∀ i x y, xs[i]? = some x → ys[i]? = some y → EqN X n x y (e i) H) :
    RcN X .Eq (n + 1) (.ref l) (.ref b) (((List.range (min xs.length ys.length)).all e && xs.length == ys.length)) H := fun A pins s σ H0 u v e0 sb I rx ry => by
  cases rx
  cases ry
  obtain ⟨its, r, p1, _⟩ := I.tuple (SqT.ext hl e0)
  obtain ⟨its2, r2, p2, _⟩ := I.tuple (SqT.ext hb e0)
  have lx : xs.length = its.toArray.size := by rw [List.size_toArray, ← r.length]
  have ly : ys.length = its2.toArray.size := by rw [List.size_toArray, ← r2.length]
  have tt1 := p1.typeIs
  have tt2 := p2.typeIs
  obtain ⟨⟨cls, dd, data, sl⟩, ho, hc, k, hd⟩ := p1
  obtain ⟨⟨cls2, dd2, data2, sl2⟩, ho2, hc2, k2, hd2⟩ := p2
  dsimp only at hc hd hc2 hd2
  subst hc hd hc2 hd2
  refine wpAny_richCompare_same_room (op := .Eq) tt1 tt2 F.slot_tuple_eq (GQ.call_here F.slot_tuple_eq tt1 F.entry_tuple_eq (F.args_tuple_eq_2 _ _) ?_) sb.room.units0
  refine tuple_eqB (R := wants (fun v s' => v ≠ .notImplemented ∧ v = .bool (((List.range (min xs.length ys.length)).all e && xs.length == ys.length)) ∧ ∃ H', Inv X pins σ H' s' ∧ Ext H0 H') X.xe) l b its.toArray its2.toArray k k2 dd dd2 sl sl2 e (fun s => ∃ H1, Inv X pins σ H1 s ∧ Ext H0 H1) ?_ (fun s' q => ⟨(fun x => nomatch x), by rw [lx, ly], q⟩) ho ho2 ⟨H0, I, Ext.rfl'⟩
  rintro i h1 h2 s' ⟨H1, I1, e1⟩
  have g1 : its[i]? = some its.toArray[i] := by
    have h1' : i < its.length := by simpa using h1
    rw [List.getElem?_eq_getElem h1'] <;> simp
  have g2 : its2[i]? = some its2.toArray[i] := by
    have h2' : i < its2.length := by simpa using h2
    rw [List.getElem?_eq_getElem h2'] <;> simp
  have k1 : i < xs.length := by rw [lx]; exact h1
  have k2 : i < ys.length := by rw [ly]; exact h2
  obtain ⟨u, hu, ru⟩ := r.get (List.getElem?_eq_getElem k1)
  obtain ⟨v, hv, rv⟩ := r2.get (List.getElem?_eq_getElem k2)
  rw [g1] at hu
  rw [g2] at hv
  rw [Option.some.inj hu, Option.some.inj hv]
  refine wpAny_mono (h i _ _ (List.getElem?_eq_getElem k1) (List.getElem?_eq_getElem k2) A.in1 pins s' σ H1 u v (e0.trans e1) sb.in1 I1 ru rv) (fun r s2 q => ?_) fun _ _ x => x
  obtain ⟨hr, H2, I2, e2⟩ := q
  exact ⟨hr, H2, I2, e1.trans e2⟩
end
end OT
namespace OT
open PySem PySem.Spec PyProof.Rows L2 NdefX
section
variable {X : Cx} {B : Bs} {Γ : Gm} {O O' : Om} {e a b c o l : Expr} {es : List Expr} {p p2 pos pos' apos : Pos} {R R' : BP} {D : Ends} {rest body els : List Stmt} {x m f : Str} {Rs Qs : List MP} {n : Nat}
structure En {α : Type} [DecidableEq α] (X : Cx) (n : Nat) (f : α → MP) : Prop where
  eq : Enc X n f
  inj : ∀ S v x y, (f x).R S v → (f y).R S v → x = y
theorem en_str : En X 0 tS := ⟨enc_str, fun S v x y h1 h2 => by have := (show v = .str x from h1).symm.trans h2; injection this⟩
theorem en_bool : En X 0 tB := ⟨enc_bool, fun S v x y h1 h2 => by have := (show v = .bl x from h1).symm.trans h2; injection this⟩
theorem all_eqT {α : Type} [DecidableEq α] (xs ys : List α) : ((List.range (min xs.length ys.length)).all (fun i => decide (xs[i]? = ys[i]?)) && xs.length == ys.length) = decide (xs = ys) := by
  by_cases hl : xs.length = ys.length
  · rw [← hl, Nat.min_self, all_eq xs ys hl]
    simp
  · have : decide (xs = ys) = false := decide_eq_false fun z => hl (by rw [z])
    rw [this]
    simp [hl]
theorem allM_inj {α : Type} {g : α → MP} (hg : ∀ S v x y, (g x).R S v → (g y).R S v → x = y) {S : Hp} : ∀ {xs ys : List α} {vs : List V}, AllM (xs.map g) S vs → AllM (ys.map g) S vs → xs = ys
  | [], [], _, _, _ => rfl
  | [], _ :: _, [], _, h => h.elim
  | [], _ :: _, _ :: _, h, _ => h.elim
  | _ :: _, [], [], h, _ => h.elim
  | _ :: _, [], _ :: _, _, h => h.elim
  | _ :: _, _ :: _, [], h, _ => h.elim
  | x :: xs, y :: ys, v :: vs, h, h' => by rw [hg S v x y h.1 h'.1, allM_inj hg h.2 h'.2]
theorem rcm_tup {op : CmpOp} (k : Nat → Bool) {b : Bool} (hrc : ∀ {l c : Addr} {xs ys : List V} {H : Hp}, SqT X.K H l xs → SqT X.K H c ys → xs.length = Rs.length → ys.length = Qs.length → (∀ i x y, xs[i]? = some x → ys[i]? = some y → EqN X n x y (k i) H) → RcN X op (n + 1) (.ref l) (.ref c) b H)
    (h : ∀ i, i < Rs.length → i < Qs.length → EqM X n (nth Rs i).b (nth Qs i).b (k i)) : RcM X op (n + 1) (tT X.K Rs).b (tT X.K Qs).b b := fun S H x y sm ⟨a, vs, e1, h1, h2⟩ ⟨c, ws, e2, g1, g2⟩ => by
  subst e1 e2
  exact hrc (SqT.of (sm _ _ h1)) (SqT.of (sm _ _ g1)) h2.length g2.length fun i x y hx hy => h i (h2.nth hx).1 (g2.nth hy).1 S H x y sm (h2.nth hx).2 (g2.nth hy).2
theorem En.tupEq {α : Type} [DecidableEq α] {g : α → MP} (h : En X n g) (xs ys : List α) : RcM X .Eq (n + 1) (tT X.K (xs.map g)).b (tT X.K (ys.map g)).b (decide (xs = ys)) := by
  refine rcm_tup (fun i => decide (xs[i]? = ys[i]?)) (fun {l c vs ws H} h1 h2 l1 l2 hh => ?_) fun i hi hj => ?_
  · have := RcN.tupEq h1 h2 hh
    rw [l1, l2, List.length_map, List.length_map, all_eqT] at this
    exact this
  · have hi : i < xs.length := by simpa using hi
    have hj : i < ys.length := by simpa using hj
    rw [nth_map hi, nth_map hj, List.getElem?_eq_getElem hi, List.getElem?_eq_getElem hj]
    have e := h.eq xs[i] ys[i]
    simpa using e
theorem En.tup {α : Type} [DecidableEq α] {g : α → MP} (h : En X n g) : En X (n + 1) (fun xs : List α => tT X.K (xs.map g)) where
  eq := fun xs ys => (h.tupEq xs ys).eqM (fun _ _ _ ⟨a, _, e, _⟩ => ⟨a, e⟩) (fun _ _ _ ⟨a, _, e, _⟩ => ⟨a, e⟩) fun S H v sm ⟨a, vs, e1, h1, h2⟩ ⟨c, ws, e2, g1, g2⟩ => by
    subst e1
    cases e2
    rw [h1] at g1
    cases g1
    exact decide_eq_true (allM_inj h.inj h2 g2)
  inj := fun S v xs ys ⟨a, vs, e1, h1, h2⟩ ⟨c, ws, e2, g1, g2⟩ => by
    subst e1
    cases e2
    rw [h1] at g1
    cases g1
    exact allM_inj h.inj h2 g2
theorem En.lst {α : Type} [DecidableEq α] {g : α → MP} (h : En X n g) : En X (n + 1) (fun xs : List α => tL X.K (xs.map g)) where
  eq := fun xs ys => RcM.eqM (fun S H x y sm ⟨a, vs, e1, h1, h2⟩ ⟨c, ws, e2, g1, g2⟩ => Enc.lst h.eq xs ys S H x y sm ⟨a, vs, e1, sm _ _ h1, h2⟩ ⟨c, ws, e2, sm _ _ g1, g2⟩) (fun _ _ _ ⟨a, _, e, _⟩ => ⟨a, e⟩) (fun _ _ _ ⟨a, _, e, _⟩ => ⟨a, e⟩) fun S H v sm ⟨a, vs, e1, h1, h2⟩ ⟨c, ws, e2, g1, g2⟩ => by
    subst e1
    cases e2
    rw [h1] at g1
    cases g1
    exact decide_eq_true (allM_inj h.inj h2 g2)
  inj := fun S v xs ys ⟨a, vs, e1, h1, h2⟩ ⟨c, ws, e2, g1, g2⟩ => by
    subst e1
    cases e2
    rw [h1] at g1
    cases g1
    exact allM_inj h.inj h2 g2
def fPair {α β : Type} (K : PySem.W.Frag) (f : α → MP) (g : β → MP) (q : α × β) : MP := tT K [f q.1, g q.2]
theorem En.pair {α β : Type} [DecidableEq α] [DecidableEq β] {f : α → MP} {g : β → MP} {m : Nat} (h : En X n f) (h' : En X m g) : En X (max n m + 1) (fPair X.K f g) where
  eq := fun q r => by
    refine RcM.eqM (rcm_tup (Rs := [f q.1, g q.2]) (Qs := [f r.1, g r.2]) (fun i => if i = 0 then decide (q.1 = r.1) else decide (q.2 = r.2)) (fun {l c vs ws H} h1 h2 l1 l2 hh => ?_) fun i hi hj => ?_) (fun _ _ _ ⟨a, _, e, _⟩ => ⟨a, e⟩) (fun _ _ _ ⟨a, _, e, _⟩ => ⟨a, e⟩) fun S H v sm ⟨a, vs, e1, h1, h2⟩ ⟨c, ws, e2, g1, g2⟩ => ?_
    · have := RcN.tupEq h1 h2 hh
      rw [l1, l2] at this
      have e : ((List.range (min [f q.1, g q.2].length [f r.1, g r.2].length)).all (fun i => if i = 0 then decide (q.1 = r.1) else decide (q.2 = r.2)) && [f q.1, g q.2].length == [f r.1, g r.2].length) = decide (q = r) := by
        show ((decide (q.1 = r.1) && (decide (q.2 = r.2) && true)) && true) = decide (q = r)
        rw [Bool.and_true, Bool.and_true]
        by_cases e1 : q.1 = r.1 <;> by_cases e2 : q.2 = r.2 <;> simp [e1, e2, Prod.ext_iff]
      rw [e] at this
      exact this
    · have hi : i < 2 := hi
      match i, hi with
      | 0, _ => exact (h.eq q.1 r.1).mono (Nat.le_max_left _ _)
      | 1, _ => exact (h'.eq q.2 r.2).mono (Nat.le_max_right _ _)
    · subst e1
      cases e2
      rw [h1] at g1
      cases g1
      match vs, h2, g2 with
      | [u, w], h2, g2 => exact decide_eq_true (Prod.ext (h.inj S u _ _ h2.1 g2.1) (h'.inj S w _ _ h2.2.1 g2.2.1))
  inj := fun S v q r ⟨a, vs, e1, h1, h2⟩ ⟨c, ws, e2, g1, g2⟩ => by
    subst e1
    cases e2
    rw [h1] at g1
    cases g1
    match vs, h2, g2 with
    | [u, w], h2, g2 => exact Prod.ext (h.inj S u _ _ h2.1 g2.1) (h'.inj S w _ _ h2.2.1 g2.2.1)
end
end OT
namespace OT
open PySem PySem.Spec PyProof.Rows L2 NdefX
section
variable {X : Cx} {B : Bs} {Γ : Gm} {O O' : Om} {e a b c o l : Expr} {es : List Expr} {p p2 pos pos' apos : Pos} {R R' R1 : BP} {D : Ends} {rest body els : List Stmt} {x m f : Str} {C : Addr} {k : Nat} {ps : List Str} {Dt : Type} {As : Dt → List BP} {out : Dt → Out} {kk : Bool}
end
end OT
namespace OT
open PySem PySem.Spec PyProof.Rows L2 NdefX
def EX {ι : Type} (X : Cx) (B : Bs) (Γ : Gm) (O : Om) (e : Expr) (P : ι → Prop) (R : ι → MP) (Os : ι → Om) : Prop := ∀ S H σ, Stt B Γ O S H σ → ∀ Q : VK, (∀ i v S' H', P i → Stt B Γ (Os i) S' H' σ → Same S S' → (R i).R S' v → Q v H') → wE X e σ H Q
section
variable {X : Cx} {B : Bs} {Γ : Gm} {O O' : Om} {e a b c o l : Expr} {es : List Expr} {p p2 pos pos' apos p1 : Pos} {D : Ends} {rest body els : List Stmt} {x m f nm : Str} {ι κ : Type} {P : ι → Prop} {R : ι → MP} {Os : ι → Om}
end
end OT
namespace OT
open PySem PySem.Spec PyProof.Rows L2 NdefX
section
variable {X : Cx} {B : Bs} {Γ : Gm} {O O' : Om} {e a b c o l : Expr} {es elts : List Expr} {p p2 pos pos' apos tpos : Pos} {D : Ends} {rest body els : List Stmt} {x m f nm : Str} {Rs Qs : List MP} {kk : Nat}
end
end OT
namespace OT
open PySem PySem.Spec PyProof.Rows L2 NdefX
def picked2 (k : Nat → Bool) (n1 : Nat → Nat) (k1 : Nat → Nat → Bool) (R : Nat → Nat → MP) : Nat → List MP
  | 0 => []
  | n + 1 => picked2 k n1 k1 R n ++ (if k n = true then picked (k1 n) (R n) (n1 n) else [])
section
variable {X : Cx} {B : Bs} {Γ : Gm} {O O' : Om} {p pos pos' : Pos} {D : Ends}
end
end OT
namespace OT
open PySem PySem.Spec PyProof.Rows L2 NdefX
def mEx (a C : Addr) (d : Option Addr) : MO := ⟨fun _ o => o = exo a C d, fun _ h => h⟩
def mExd (d : Addr) (fs : List (Str × MP)) : MO := ⟨fun S o => ∃ ws, o = exd d ws ∧ FldR fs S ws, fun e ⟨ws, h1, h2⟩ => ⟨ws, h1, h2.up e⟩⟩
def spEx {D : Type} (C : Addr) (As : D → List BP) (ok : D → Prop) (fs : D → List (Str × MP)) : Sp := fun vs H Q _ => ∃ d a H1 ws S, ok d ∧ vs = .ref a :: ws ∧ H = upd H1 a (exo a C none) ∧ H1 a = none ∧ Same S H1 ∧ AllR (As d) S H1 ws ∧
  ∀ x us S' H', Stp S H1 S' H' → H1 x = none → x ≠ a → S' x = none → S' a = none → H' a = some (exo a C (some x)) → H' x = some (exd x us) → FldR (fs d) S' us → Q .non H'
section
variable {X : Cx} {B : Bs} {Γ : Gm} {O O' : Om} {e a b c o : Expr} {es : List Expr} {p pos pos' apos : Pos} {R : MP} {D : Ends} {rest body els : List Stmt} {x m fl nm : Str} {C q : Addr}
theorem Stt.swap {u v : Addr × MO} {S H : Hp} {σ : L2.St} (t : Stt B Γ (u :: v :: O) S H σ) : Stt B Γ (v :: u :: O) S H σ := by
  have pm : (u :: v :: O).Perm (v :: u :: O) := List.Perm.swap _ _ _
  exact t.sub_ (fun z hz => pm.mem_iff.mpr hz) ((pm.map (fun z : Addr × MO => z.1)).nodup_iff.mp t.nd)
theorem s_ost1 (T : OexC X.K C) (hno : PySem.W.findIn X.K (.ref C) fl = some none) (he : EJ X B Γ ((q, mEx q C none) :: O') e R.b) (ho : EJ X B Γ ((q, mEx q C none) :: O') o (tR q).b) (h : ∀ d, SJ X B Γ ((q, mEx q C (some d)) :: (d, mExd d [(fl, R)]) :: O') rest D)
    (hs : swapsWith e (some (.Attribute o fl pos')) pos.line X.env = pure false := by rfl) : SJ X B Γ ((q, mEx q C none) :: O') (.Assign [.Attribute o fl pos'] e pos :: rest) D :=
  SJ.cons fun S H σ st => ⟨_, ps_ost pe_w pe_w hs, he S H σ st _ fun y S1 H1 s1 r1 => ho S1 H1 σ (st.step s1) _ fun w S2 H2 s2 r2 => by
    have t := (st.step s1).step s2
    obtain ⟨g1, g2, u, g3, rfl⟩ := t.own _ List.mem_cons_self
    refine ⟨q, C, r2, T, hno, .inl ⟨g3, fun dx n1 ne => h dx S2 _ σ ?_⟩⟩
    have t1 := t.add (M := mExd dx [(fl, R)]) (o := exd dx [(fl, y)]) n1 ⟨_, rfl, rfl, R.up s2.s r1, trivial⟩
    have t2 := t1.swap
    exact t2.mut rfl⟩
theorem s_ost2 {d : Addr} {fs : List (Str × MP)} (T : OexC X.K C) (hno : PySem.W.findIn X.K (.ref C) fl = some none) (he : EJ X B Γ ((q, mEx q C (some d)) :: (d, mExd d fs) :: O') e R.b) (ho : EJ X B Γ ((q, mEx q C (some d)) :: (d, mExd d fs) :: O') o (tR q).b) (h : SJ X B Γ ((q, mEx q C (some d)) :: (d, mExd d ((fl, R) :: fs)) :: O') rest D)
    (hl : fs.length ≤ 900 := by exact Nat.le_of_ble_eq_true rfl) (hs : swapsWith e (some (.Attribute o fl pos')) pos.line X.env = pure false := by rfl) : SJ X B Γ ((q, mEx q C (some d)) :: (d, mExd d fs) :: O') (.Assign [.Attribute o fl pos'] e pos :: rest) D :=
  SJ.cons fun S H σ st => ⟨_, ps_ost pe_w pe_w hs, he S H σ st _ fun y S1 H1 s1 r1 => ho S1 H1 σ (st.step s1) _ fun w S2 H2 s2 r2 => by
    have t := (st.step s1).step s2
    obtain ⟨g1, g2, u, g3, rfl⟩ := t.own _ List.mem_cons_self
    obtain ⟨f1, f2, u2, f3, ws, rfl, f4⟩ := t.own _ (List.mem_cons_of_mem _ List.mem_cons_self)
    refine ⟨q, C, r2, T, hno, .inr ⟨d, ws, g3, f3, by rw [f4.len]; exact hl, h S2 _ σ ?_⟩⟩
    have t3 := t.swap.mut (M' := mExd d ((fl, R) :: fs)) (o := exd d ((fl, y) :: ws)) ⟨_, rfl, rfl, R.up s2.s r1, f4⟩
    exact t3.swap⟩
end
def bAny : BP := ⟨fun _ _ _ => True, fun _ _ _ => trivial⟩
theorem EJ.any {X : Cx} {B : Bs} {Γ : Gm} {O : Om} {e : Expr} {R : BP} (h : EJ X B Γ O e R) : EJ X B Γ O e bAny := h.imp fun _ _ _ _ => trivial
theorem NX.xmade {B : Bs} {Γ : Gm} {C a x : Addr} {fs : List (Str × MP)} {Q : VK} (hQ : ∀ x us S' H', Stp B.S B.H S' H' → B.H x = none → x ≠ a → S' x = none → S' a = none → H' a = some (exo a C (some x)) → H' x = some (exd x us) → FldR fs S' us → Q .non H') :
    NX B Γ [(a, mEx a C (some x)), (x, mExd x fs)] (fun _ H' => Q .non H') := fun S H σ t => by
  obtain ⟨g1, g2, u, g3, rfl⟩ := t.own _ List.mem_cons_self
  obtain ⟨f1, f2, u2, f3, ws, rfl, f4⟩ := t.own _ (List.mem_cons_of_mem _ List.mem_cons_self)
  have ne : x ≠ a := by
    have := t.nd
    rw [List.map_cons, List.map_cons] at this
    exact fun z => (List.nodup_cons.mp this).1 (by subst z; exact List.mem_cons_self)
  exact hQ x ws S H t.st f2 ne f1 g1 g3 f3 f4
section
variable {P : Program} {w : World} {K : PySem.W.Frag} {mg : Str → Option Value} {base : Heap}
theorem xi_gen {D : Type} {C f : Addr} {fd : FuncData} {F : NF} {ps : List Str} {k : Nat} {As : D → List BP} {ok : D → Prop} {fs : D → List (Str × MP)} {arg : Expr} {rest : List Stmt} {p0 p1 apos cpos pos : Pos} {ar : Arg} (W : XI P K mg C f fd F) (Sc : NScope ("self" :: (ps ++ [("__class__" : Str)])) ("self" :: ps) ["__class__"] F.scope)
    (hB : F.body = .Expr (.Call (.Attribute (.Call (.Name "super" p0) [] [] p1) "__init__" apos) [arg] [] cpos) pos :: rest) (hp : (F.params.posonlyargs ++ F.params.args).head? = some ar) (ha : ar.arg = "self") (hks : F.scope.names.lookup ("super" : Str) = some .globalImplicit) (hl : ∀ d, (As d).length = ps.length)
    (hb : ∀ (A : Around) (outer : List Env) (s : Shared) (H0 H1 S : Hp) (Q : VK) (E : XK) (d : D) (a : Addr), Room k (A.deeper (envF F f s.heap.objs.size)) → ok d → (∀ x us S' H', Stp S H1 S' H' → H1 x = none → x ≠ a → S' x = none → S' a = none → H' a = some (exo a C (some x)) → H' x = some (exd x us) → FldR (fs d) S' us → Q .non H') →
      EJ (ncx (L2.CX P w) P w K mg base ("self" :: (ps ++ [("__class__" : Str)])) F f A outer s H0 E) ⟨S, H1, .yes⟩ (some (tR a) :: ((As d).map (fun b => some (b.at_ H1)) ++ [some (tR C)])) [(a, mEx a C none)] arg bAny ∧
      SJ (ncx (L2.CX P w) P w K mg base ("self" :: (ps ++ [("__class__" : Str)])) F f A outer s H0 E) ⟨S, H1, .yes⟩ (some (tR a) :: ((As d).map (fun b => some (b.at_ H1)) ++ [some (tR C)])) [(a, mEx a C none)] rest { nx := fun _ H' => Q .non H', rt := Q })
    (hst : ∀ env : Env, starEach [arg] env = (false, eval arg env) :: starEach [] env)
    (hsw : ∀ env : Env, swapsWith (.Call (.Attribute (.Call (.Name "super" p0) [] [] p1) "__init__" apos) [arg] [] cpos) none pos.line env = pure false)
    (he : ∀ env : Env, ∃ pl, eval (.Call (.Attribute (.Call (.Name "super" p0) [] [] p1) "__init__" apos) [arg] [] cpos) env = (do
      let ov ← attributeBase (.Call (.Name "super" p0) [] [] p1) "__init__" env (eval (.Call (.Name "super" p0) [] [] p1) env)
      standAt apos.atName
      let (f, first) ← holding [ov] (getMethod ov "__init__" pl)
      callWith cpos f first (backTo cpos (starEach [arg] env)) [])) :
    FnOk P w K mg base (L2.CX P w) (k + 1) f fd ("self" :: ps) (spEx C As ok fs) := by
  refine xi_ok (k := k) W Sc (fun vs H Q E h => ?_) hB hp ha hks (fun A outer s H vs Q E hr h => ?_) hst hsw he
  · obtain ⟨d, a, H1, ws, S, _, rfl, _, _, _, r, _⟩ := h
    rw [List.length_cons, r.length, hl, List.length_cons]
  · obtain ⟨d, a, H1, ws, S, hok, rfl, rfl, n1, sm, r, q⟩ := h
    refine ⟨a, ws, rfl, upd_same, ?_⟩
    obtain ⟨h1, h2⟩ := hb A outer s (upd H1 a (exo a C none)) H1 S Q E d a hr hok q
    have st : Stt ⟨S, H1, .yes⟩ (some (tR a) :: ((As d).map (fun b => some (b.at_ H1)) ++ [some (tR C)])) [(a, mEx a C none)] S (upd H1 a (exo a C none)) (startF ("self" :: (ps ++ [("__class__" : Str)])) (.ref a :: ws) [some (.ref C)]) := by
      have s1 := Stp.own (o := exo a C none) sm n1
      have hlen := r.length
      have e0 : startF ("self" :: (ps ++ [("__class__" : Str)])) (.ref a :: ws) [some (.ref C)] = some (.ref a) :: (ws.map some ++ [some (.ref C)]) := by
        unfold startF
        have : (("self" : Str) :: (ps ++ [("__class__" : Str)])).length - (V.ref a :: ws).length - [some (V.ref C)].length = 0 := by
          rw [List.length_cons, List.length_cons, List.length_append, hlen, hl]
          simp
        rw [this]
        rfl
      rw [e0]
      have key : ∀ {As : List BP} {ws : List V}, AllR As S H1 ws → ∀ (i : Nat) (R : MP), (As.map (fun b => some (b.at_ H1)) ++ [some (tR C)])[i]? = some (some R) → ∃ v, (ws.map some ++ [some (V.ref C)])[i]? = some (some v) ∧ R.R S v := by
        intro As
        induction As with
        | nil => intro ws h i R e; cases ws with
          | nil => cases i with
            | zero =>
              have e2 : tR C = R := Option.some.inj (Option.some.inj e)
              subst e2
              exact ⟨_, rfl, rfl⟩
            | succ i => simp at e
          | cons _ _ => exact h.elim
        | cons b As ih => intro ws h i R e; cases ws with
          | nil => exact h.elim
          | cons v ws => cases i with
            | zero =>
              have e2 : b.at_ H1 = R := Option.some.inj (Option.some.inj e)
              subst e2
              exact ⟨v, rfl, h.1⟩
            | succ i => exact ih h.2 i R e
      refine ⟨s1, fun i R e => ?_, ?_, fun z hz => ?_, by show [a].Nodup; simp, trivial⟩
      · cases i with
        | zero =>
          have e2 : tR a = R := Option.some.inj (Option.some.inj e)
          subst e2
          exact ⟨_, rfl, rfl⟩
        | succ i => exact key r i R e
      · rw [List.length_cons, List.length_cons, List.length_append, List.length_append, List.length_map, List.length_map, hlen]
        rfl
      · rcases List.mem_cons.mp hz with z1 | hz
        · subst z1
          exact ⟨sm.free n1, n1, _, upd_same, rfl⟩
        · cases hz
    refine ⟨_, pa_cons pe_w pa_nil (hst _), h1 S _ _ st _ fun v S1 H1' s1 _ => ⟨(by show 1 ≤ 1000; decide), ?_, h2 S1 H1' _ (st.step s1)⟩⟩
    obtain ⟨_, _, u, g3, rfl⟩ := (st.step s1).own _ List.mem_cons_self
    exact g3
end
section
variable {X : Cx} {B : Bs} {Γ : Gm} {O : Om} {e : Expr} {es : List Expr} {p pos pos' : Pos} {Ds : Ends} {rest : List Stmt} {x : Str} {C : Addr} {k : Nat} {ps : List Str} {W : WX} {D : Type} {As : D → List BP} {ok : D → Prop} {fs : D → List (Str × MP)}
end
end OT
namespace K01
open PySem PySem.Spec PyProof.Rows L2 OT
def top (i : Nat) : Stmt := PySem.Challenge.pw_onethrow_k01_errors_by_class.main.body.getD i (.Pass ⟨0, 0, 0, 0⟩)
abbrev s__wall : Stmt := top 0
abbrev s_is_name : Stmt := top 22
abbrev s_is_word : Stmt := top 23
abbrev s_check_names : Stmt := top 24
abbrev s_check_pairs : Stmt := top 25
abbrev s_closed : Stmt := top 26
abbrev s_Order_init : Stmt := inClass (top 27) 0
abbrev s_Order_contains : Stmt := inClass (top 27) 4
abbrev s_Order_iter : Stmt := inClass (top 27) 5
abbrev s_Order_len : Stmt := inClass (top 27) 6
abbrev s_Order_eq : Stmt := inClass (top 27) 7
abbrev s_Order_str : Stmt := inClass (top 27) 8
abbrev s_Order_below : Stmt := inClass (top 27) 9
abbrev s_Order_pairs : Stmt := inClass (top 27) 10
abbrev s_Order_covers : Stmt := inClass (top 27) 11
abbrev s_Order_ups : Stmt := inClass (top 27) 12
abbrev s_Order_turned : Stmt := inClass (top 27) 13
abbrev s_Order_part : Stmt := inClass (top 27) 14
abbrev s_strict_pairs : Stmt := top 28
abbrev s_cover_pairs : Stmt := top 29
abbrev s_common : Stmt := top 32
abbrev s_is_integer : Stmt := top 33
abbrev s_Ratio_init : Stmt := inClass (top 34) 0
abbrev s_Ratio_add : Stmt := inClass (top 34) 3
abbrev s_Ratio_sub : Stmt := inClass (top 34) 4
abbrev s_Ratio_neg : Stmt := inClass (top 34) 5
abbrev s_Ratio_mul : Stmt := inClass (top 34) 6
abbrev s_Ratio_eq : Stmt := inClass (top 34) 7
abbrev s_Ratio_bool : Stmt := inClass (top 34) 8
abbrev s_Ratio_str : Stmt := inClass (top 34) 9
abbrev s_Ratio_quotient : Stmt := inClass (top 34) 10
abbrev s_Ratio_under : Stmt := inClass (top 34) 11
abbrev s_l_pool : Stmt := top 36
abbrev s_l_take : Stmt := top 37
abbrev s_l_cell : Stmt := top 38
abbrev s_l_kinds : Stmt := top 39
abbrev s_l_simple : Stmt := top 40
abbrev s_l_listed : Stmt := top 41
abbrev s_l_made : Stmt := top 42
abbrev s_law : Stmt := top 43
abbrev s_BadNumber_init : Stmt := inClass (top 3) 0
abbrev s_BadText_init : Stmt := inClass (top 4) 0
abbrev s_BadName_init : Stmt := inClass (top 5) 0
abbrev s_DuplicateName_init : Stmt := inClass (top 6) 0
abbrev s_UnknownName_init : Stmt := inClass (top 7) 0
abbrev s_Ring_init : Stmt := inClass (top 8) 0
abbrev s_BadShares_init : Stmt := inClass (top 9) 0
abbrev s_UnlikeOrders_init : Stmt := inClass (top 10) 0
abbrev s_NotRising_init : Stmt := inClass (top 11) 0
abbrev s_NoThrow_init : Stmt := inClass (top 12) 0
abbrev s_HasRing_init : Stmt := inClass (top 13) 0
abbrev s_NoRing_init : Stmt := inClass (top 14) 0
abbrev s_NothingToUndo_init : Stmt := inClass (top 15) 0
abbrev s_Order_chain : Stmt := inClass (top 27) 1
abbrev s_Order_crown : Stmt := inClass (top 27) 2
abbrev s_Order_read : Stmt := inClass (top 27) 3
abbrev s_Ratio_whole : Stmt := inClass (top 34) 1
abbrev s_Ratio_read : Stmt := inClass (top 34) 2
def d__wall : He.DefD := ⟨("_wall", none), "_wall", "_wall", defArgs s__wall, defBody s__wall, defScope s__wall, [], []⟩
def d_is_name : He.DefD := ⟨("is_name", none), "is_name", "is_name", defArgs s_is_name, defBody s_is_name, defScope s_is_name, [], []⟩
def d_is_word : He.DefD := ⟨("is_word", none), "is_word", "is_word", defArgs s_is_word, defBody s_is_word, defScope s_is_word, [], []⟩
def d_check_names : He.DefD := ⟨("check_names", none), "check_names", "check_names", defArgs s_check_names, defBody s_check_names, defScope s_check_names, [], []⟩
def d_check_pairs : He.DefD := ⟨("check_pairs", none), "check_pairs", "check_pairs", defArgs s_check_pairs, defBody s_check_pairs, defScope s_check_pairs, [], []⟩
def d_closed : He.DefD := ⟨("closed", none), "closed", "closed", defArgs s_closed, defBody s_closed, defScope s_closed, [], []⟩
def d_Order_init : He.DefD := ⟨("Order", some "__init__"), "__init__", "Order.__init__", defArgs s_Order_init, defBody s_Order_init, defScope s_Order_init, [], []⟩
def d_Order_contains : He.DefD := ⟨("Order", some "__contains__"), "__contains__", "Order.__contains__", defArgs s_Order_contains, defBody s_Order_contains, defScope s_Order_contains, [], []⟩
def d_Order_iter : He.DefD := ⟨("Order", some "__iter__"), "__iter__", "Order.__iter__", defArgs s_Order_iter, defBody s_Order_iter, defScope s_Order_iter, [], []⟩
def d_Order_len : He.DefD := ⟨("Order", some "__len__"), "__len__", "Order.__len__", defArgs s_Order_len, defBody s_Order_len, defScope s_Order_len, [], []⟩
def d_Order_eq : He.DefD := ⟨("Order", some "__eq__"), "__eq__", "Order.__eq__", defArgs s_Order_eq, defBody s_Order_eq, defScope s_Order_eq, [], []⟩
def d_Order_str : He.DefD := ⟨("Order", some "__str__"), "__str__", "Order.__str__", defArgs s_Order_str, defBody s_Order_str, defScope s_Order_str, [], []⟩
def d_Order_below : He.DefD := ⟨("Order", some "below"), "below", "Order.below", defArgs s_Order_below, defBody s_Order_below, defScope s_Order_below, [], []⟩
def d_Order_pairs : He.DefD := ⟨("Order", some "pairs"), "pairs", "Order.pairs", defArgs s_Order_pairs, defBody s_Order_pairs, defScope s_Order_pairs, [], []⟩
def d_Order_covers : He.DefD := ⟨("Order", some "covers"), "covers", "Order.covers", defArgs s_Order_covers, defBody s_Order_covers, defScope s_Order_covers, [], []⟩
def d_Order_ups : He.DefD := ⟨("Order", some "ups"), "ups", "Order.ups", defArgs s_Order_ups, defBody s_Order_ups, defScope s_Order_ups, [], []⟩
def d_Order_turned : He.DefD := ⟨("Order", some "turned"), "turned", "Order.turned", defArgs s_Order_turned, defBody s_Order_turned, defScope s_Order_turned, [], []⟩
def d_Order_part : He.DefD := ⟨("Order", some "part"), "part", "Order.part", defArgs s_Order_part, defBody s_Order_part, defScope s_Order_part, [], []⟩
def d_strict_pairs : He.DefD := ⟨("strict_pairs", none), "strict_pairs", "strict_pairs", defArgs s_strict_pairs, defBody s_strict_pairs, defScope s_strict_pairs, [], []⟩
def d_cover_pairs : He.DefD := ⟨("cover_pairs", none), "cover_pairs", "cover_pairs", defArgs s_cover_pairs, defBody s_cover_pairs, defScope s_cover_pairs, [], []⟩
def d_common : He.DefD := ⟨("common", none), "common", "common", defArgs s_common, defBody s_common, defScope s_common, [], []⟩
def d_is_integer : He.DefD := ⟨("is_integer", none), "is_integer", "is_integer", defArgs s_is_integer, defBody s_is_integer, defScope s_is_integer, [], []⟩
def d_Ratio_init : He.DefD := ⟨("Ratio", some "__init__"), "__init__", "Ratio.__init__", defArgs s_Ratio_init, defBody s_Ratio_init, defScope s_Ratio_init, [], []⟩
def d_Ratio_add : He.DefD := ⟨("Ratio", some "__add__"), "__add__", "Ratio.__add__", defArgs s_Ratio_add, defBody s_Ratio_add, defScope s_Ratio_add, [], []⟩
def d_Ratio_sub : He.DefD := ⟨("Ratio", some "__sub__"), "__sub__", "Ratio.__sub__", defArgs s_Ratio_sub, defBody s_Ratio_sub, defScope s_Ratio_sub, [], []⟩
def d_Ratio_neg : He.DefD := ⟨("Ratio", some "__neg__"), "__neg__", "Ratio.__neg__", defArgs s_Ratio_neg, defBody s_Ratio_neg, defScope s_Ratio_neg, [], []⟩
def d_Ratio_mul : He.DefD := ⟨("Ratio", some "__mul__"), "__mul__", "Ratio.__mul__", defArgs s_Ratio_mul, defBody s_Ratio_mul, defScope s_Ratio_mul, [], []⟩
def d_Ratio_eq : He.DefD := ⟨("Ratio", some "__eq__"), "__eq__", "Ratio.__eq__", defArgs s_Ratio_eq, defBody s_Ratio_eq, defScope s_Ratio_eq, [], []⟩
def d_Ratio_bool : He.DefD := ⟨("Ratio", some "__bool__"), "__bool__", "Ratio.__bool__", defArgs s_Ratio_bool, defBody s_Ratio_bool, defScope s_Ratio_bool, [], []⟩
def d_Ratio_str : He.DefD := ⟨("Ratio", some "__str__"), "__str__", "Ratio.__str__", defArgs s_Ratio_str, defBody s_Ratio_str, defScope s_Ratio_str, [], []⟩
def d_Ratio_quotient : He.DefD := ⟨("Ratio", some "quotient"), "quotient", "Ratio.quotient", defArgs s_Ratio_quotient, defBody s_Ratio_quotient, defScope s_Ratio_quotient, [], []⟩
def d_Ratio_under : He.DefD := ⟨("Ratio", some "under"), "under", "Ratio.under", defArgs s_Ratio_under, defBody s_Ratio_under, defScope s_Ratio_under, [], []⟩
def d_l_pool : He.DefD := ⟨("_law_pool", none), "_law_pool", "_law_pool", defArgs s_l_pool, defBody s_l_pool, defScope s_l_pool, [], []⟩
def d_l_take : He.DefD := ⟨("_law_take", none), "_law_take", "_law_take", defArgs s_l_take, defBody s_l_take, defScope s_l_take, [], []⟩
def d_l_cell : He.DefD := ⟨("_law_cell", none), "_law_cell", "_law_cell", defArgs s_l_cell, defBody s_l_cell, defScope s_l_cell, [], []⟩
def d_l_kinds : He.DefD := ⟨("_law_kinds", none), "_law_kinds", "_law_kinds", defArgs s_l_kinds, defBody s_l_kinds, defScope s_l_kinds, [], []⟩
def d_l_simple : He.DefD := ⟨("_law_simple", none), "_law_simple", "_law_simple", defArgs s_l_simple, defBody s_l_simple, defScope s_l_simple, [], []⟩
def d_l_listed : He.DefD := ⟨("_law_listed", none), "_law_listed", "_law_listed", defArgs s_l_listed, defBody s_l_listed, defScope s_l_listed, [], []⟩
def d_l_made : He.DefD := ⟨("_law_made", none), "_law_made", "_law_made", defArgs s_l_made, defBody s_l_made, defScope s_l_made, [], []⟩
def d_law : He.DefD := ⟨("law", none), "law", "law", defArgs s_law, defBody s_law, defScope s_law, [], []⟩
def e_BadNumber : ErrD := ⟨"BadNumber", "BadNumber.__init__", defArgs s_BadNumber_init, defBody s_BadNumber_init, defScope s_BadNumber_init, ["n"]⟩
def e_BadText : ErrD := ⟨"BadText", "BadText.__init__", defArgs s_BadText_init, defBody s_BadText_init, defScope s_BadText_init, ["at"]⟩
def e_BadName : ErrD := ⟨"BadName", "BadName.__init__", defArgs s_BadName_init, defBody s_BadName_init, defScope s_BadName_init, ["name"]⟩
def e_DuplicateName : ErrD := ⟨"DuplicateName", "DuplicateName.__init__", defArgs s_DuplicateName_init, defBody s_DuplicateName_init, defScope s_DuplicateName_init, ["name"]⟩
def e_UnknownName : ErrD := ⟨"UnknownName", "UnknownName.__init__", defArgs s_UnknownName_init, defBody s_UnknownName_init, defScope s_UnknownName_init, ["name"]⟩
def e_Ring : ErrD := ⟨"Ring", "Ring.__init__", defArgs s_Ring_init, defBody s_Ring_init, defScope s_Ring_init, ["names"]⟩
def e_BadShares : ErrD := ⟨"BadShares", "BadShares.__init__", defArgs s_BadShares_init, defBody s_BadShares_init, defScope s_BadShares_init, ["total"]⟩
def e_UnlikeOrders : ErrD := ⟨"UnlikeOrders", "UnlikeOrders.__init__", defArgs s_UnlikeOrders_init, defBody s_UnlikeOrders_init, defScope s_UnlikeOrders_init, ["first", "second"]⟩
def e_NotRising : ErrD := ⟨"NotRising", "NotRising.__init__", defArgs s_NotRising_init, defBody s_NotRising_init, defScope s_NotRising_init, ["low", "high", "names"]⟩
def e_NoThrow : ErrD := ⟨"NoThrow", "NoThrow.__init__", defArgs s_NoThrow_init, defBody s_NoThrow_init, defScope s_NoThrow_init, []⟩
def e_HasRing : ErrD := ⟨"HasRing", "HasRing.__init__", defArgs s_HasRing_init, defBody s_HasRing_init, defScope s_HasRing_init, ["names"]⟩
def e_NoRing : ErrD := ⟨"NoRing", "NoRing.__init__", defArgs s_NoRing_init, defBody s_NoRing_init, defScope s_NoRing_init, []⟩
def e_NothingToUndo : ErrD := ⟨"NothingToUndo", "NothingToUndo.__init__", defArgs s_NothingToUndo_init, defBody s_NothingToUndo_init, defScope s_NothingToUndo_init, []⟩
def c_Order_chain : CmD := ⟨"Order", "chain", "Order.chain", defArgs s_Order_chain, defBody s_Order_chain, defScope s_Order_chain⟩
def c_Order_crown : CmD := ⟨"Order", "crown", "Order.crown", defArgs s_Order_crown, defBody s_Order_crown, defScope s_Order_crown⟩
def c_Order_read : CmD := ⟨"Order", "read", "Order.read", defArgs s_Order_read, defBody s_Order_read, defScope s_Order_read⟩
def c_Ratio_whole : CmD := ⟨"Ratio", "whole", "Ratio.whole", defArgs s_Ratio_whole, defBody s_Ratio_whole, defScope s_Ratio_whole⟩
def c_Ratio_read : CmD := ⟨"Ratio", "read", "Ratio.read", defArgs s_Ratio_read, defBody s_Ratio_read, defScope s_Ratio_read⟩
def fn : List He.DefD := [d__wall, d_is_name, d_is_word, d_check_names, d_check_pairs, d_closed, d_Order_init, d_Order_contains, d_Order_iter, d_Order_len, d_Order_eq, d_Order_str, d_Order_below, d_Order_pairs, d_Order_covers, d_Order_ups, d_Order_turned, d_Order_part, d_strict_pairs, d_cover_pairs, d_common, d_is_integer, d_Ratio_init, d_Ratio_add, d_Ratio_sub, d_Ratio_neg, d_Ratio_mul, d_Ratio_eq, d_Ratio_bool, d_Ratio_str, d_Ratio_quotient, d_Ratio_under, d_l_pool, d_l_take, d_l_cell, d_l_kinds, d_l_simple, d_l_listed, d_l_made, d_law]
def er : List ErrD := [e_BadNumber, e_BadText, e_BadName, e_DuplicateName, e_UnknownName, e_Ring, e_BadShares, e_UnlikeOrders, e_NotRising, e_NoThrow, e_HasRing, e_NoRing, e_NothingToUndo]
def cm : List CmD := [c_Order_chain, c_Order_crown, c_Order_read, c_Ratio_whole, c_Ratio_read]
def fa : List He.Fa := [.glo "_wall",
  .glo "is_name",
  .glo "is_word",
  .glo "check_names",
  .glo "check_pairs",
  .glo "closed",
  .meth "Order" "__init__",
  .meth "Order" "__contains__",
  .meth "Order" "__iter__",
  .meth "Order" "__len__",
  .meth "Order" "__eq__",
  .meth "Order" "__str__",
  .meth "Order" "below",
  .meth "Order" "pairs",
  .meth "Order" "covers",
  .meth "Order" "ups",
  .meth "Order" "turned",
  .meth "Order" "part",
  .glo "strict_pairs",
  .glo "cover_pairs",
  .glo "common",
  .glo "is_integer",
  .meth "Ratio" "__init__",
  .meth "Ratio" "__add__",
  .meth "Ratio" "__sub__",
  .meth "Ratio" "__neg__",
  .meth "Ratio" "__mul__",
  .meth "Ratio" "__eq__",
  .meth "Ratio" "__bool__",
  .meth "Ratio" "__str__",
  .meth "Ratio" "quotient",
  .meth "Ratio" "under",
  .glo "_law_pool",
  .glo "_law_take",
  .glo "_law_cell",
  .glo "_law_kinds",
  .glo "_law_simple",
  .glo "_law_listed",
  .glo "_law_made",
  .glo "law",
  .glo "Order",
  .cls "Order",
  .mkr "Order",
  .noat "Order" "names",
  .noat "Order" "above",
  .glo "Ratio",
  .cls "Ratio",
  .mkr "Ratio",
  .noat "Ratio" "top",
  .noat "Ratio" "bottom",
  .free "ValueError",
  .free "abs",
  .free "all",
  .free "any",
  .free "bool",
  .free "classmethod",
  .free "enumerate",
  .free "int",
  .free "isinstance",
  .free "iter",
  .free "len",
  .free "list",
  .free "range",
  .free "sorted",
  .free "str",
  .free "super",
  .free "tuple",
  .str "LETTERS" "abcdefghijklmnopqrstuvwxyz",
  .str "SIGNS" "abcdefghijklmnopqrstuvwxyz0123456789",
  .int "MOST_NAMES" 8,
  .int "MOST_LETTERS" 8,
  .int "MOST_CROWN" 4,
  .int "MOST_DIGITS" 30,
  .exm "BadNumber" "BadNumber" true,
  .exm "BadNumber" "BadText" false,
  .exm "BadNumber" "BadName" false,
  .exm "BadNumber" "DuplicateName" false,
  .exm "BadNumber" "UnknownName" false,
  .exm "BadNumber" "Ring" false,
  .exm "BadNumber" "BadShares" false,
  .exm "BadNumber" "UnlikeOrders" false,
  .exm "BadNumber" "NotRising" false,
  .exm "BadNumber" "NoThrow" false,
  .exm "BadNumber" "HasRing" false,
  .exm "BadNumber" "NoRing" false,
  .exm "BadNumber" "NothingToUndo" false,
  .exm "BadText" "BadNumber" false,
  .exm "BadText" "BadText" true,
  .exm "BadText" "BadName" false,
  .exm "BadText" "DuplicateName" false,
  .exm "BadText" "UnknownName" false,
  .exm "BadText" "Ring" false,
  .exm "BadText" "BadShares" false,
  .exm "BadText" "UnlikeOrders" false,
  .exm "BadText" "NotRising" false,
  .exm "BadText" "NoThrow" false,
  .exm "BadText" "HasRing" false,
  .exm "BadText" "NoRing" false,
  .exm "BadText" "NothingToUndo" false,
  .exm "BadName" "BadNumber" false,
  .exm "BadName" "BadText" false,
  .exm "BadName" "BadName" true,
  .exm "BadName" "DuplicateName" false,
  .exm "BadName" "UnknownName" false,
  .exm "BadName" "Ring" false,
  .exm "BadName" "BadShares" false,
  .exm "BadName" "UnlikeOrders" false,
  .exm "BadName" "NotRising" false,
  .exm "BadName" "NoThrow" false,
  .exm "BadName" "HasRing" false,
  .exm "BadName" "NoRing" false,
  .exm "BadName" "NothingToUndo" false,
  .exm "DuplicateName" "BadNumber" false,
  .exm "DuplicateName" "BadText" false,
  .exm "DuplicateName" "BadName" false,
  .exm "DuplicateName" "DuplicateName" true,
  .exm "DuplicateName" "UnknownName" false,
  .exm "DuplicateName" "Ring" false,
  .exm "DuplicateName" "BadShares" false,
  .exm "DuplicateName" "UnlikeOrders" false,
  .exm "DuplicateName" "NotRising" false,
  .exm "DuplicateName" "NoThrow" false,
  .exm "DuplicateName" "HasRing" false,
  .exm "DuplicateName" "NoRing" false,
  .exm "DuplicateName" "NothingToUndo" false,
  .exm "UnknownName" "BadNumber" false,
  .exm "UnknownName" "BadText" false,
  .exm "UnknownName" "BadName" false,
  .exm "UnknownName" "DuplicateName" false,
  .exm "UnknownName" "UnknownName" true,
  .exm "UnknownName" "Ring" false,
  .exm "UnknownName" "BadShares" false,
  .exm "UnknownName" "UnlikeOrders" false,
  .exm "UnknownName" "NotRising" false,
  .exm "UnknownName" "NoThrow" false,
  .exm "UnknownName" "HasRing" false,
  .exm "UnknownName" "NoRing" false,
  .exm "UnknownName" "NothingToUndo" false,
  .exm "Ring" "BadNumber" false,
  .exm "Ring" "BadText" false,
  .exm "Ring" "BadName" false,
  .exm "Ring" "DuplicateName" false,
  .exm "Ring" "UnknownName" false,
  .exm "Ring" "Ring" true,
  .exm "Ring" "BadShares" false,
  .exm "Ring" "UnlikeOrders" false,
  .exm "Ring" "NotRising" false,
  .exm "Ring" "NoThrow" false,
  .exm "Ring" "HasRing" false,
  .exm "Ring" "NoRing" false,
  .exm "Ring" "NothingToUndo" false,
  .exm "BadShares" "BadNumber" false,
  .exm "BadShares" "BadText" false,
  .exm "BadShares" "BadName" false,
  .exm "BadShares" "DuplicateName" false,
  .exm "BadShares" "UnknownName" false,
  .exm "BadShares" "Ring" false,
  .exm "BadShares" "BadShares" true,
  .exm "BadShares" "UnlikeOrders" false,
  .exm "BadShares" "NotRising" false,
  .exm "BadShares" "NoThrow" false,
  .exm "BadShares" "HasRing" false,
  .exm "BadShares" "NoRing" false,
  .exm "BadShares" "NothingToUndo" false,
  .exm "UnlikeOrders" "BadNumber" false,
  .exm "UnlikeOrders" "BadText" false,
  .exm "UnlikeOrders" "BadName" false,
  .exm "UnlikeOrders" "DuplicateName" false,
  .exm "UnlikeOrders" "UnknownName" false,
  .exm "UnlikeOrders" "Ring" false,
  .exm "UnlikeOrders" "BadShares" false,
  .exm "UnlikeOrders" "UnlikeOrders" true,
  .exm "UnlikeOrders" "NotRising" false,
  .exm "UnlikeOrders" "NoThrow" false,
  .exm "UnlikeOrders" "HasRing" false,
  .exm "UnlikeOrders" "NoRing" false,
  .exm "UnlikeOrders" "NothingToUndo" false,
  .exm "NotRising" "BadNumber" false,
  .exm "NotRising" "BadText" false,
  .exm "NotRising" "BadName" false,
  .exm "NotRising" "DuplicateName" false,
  .exm "NotRising" "UnknownName" false,
  .exm "NotRising" "Ring" false,
  .exm "NotRising" "BadShares" false,
  .exm "NotRising" "UnlikeOrders" false,
  .exm "NotRising" "NotRising" true,
  .exm "NotRising" "NoThrow" false,
  .exm "NotRising" "HasRing" false,
  .exm "NotRising" "NoRing" false,
  .exm "NotRising" "NothingToUndo" false,
  .exm "NoThrow" "BadNumber" false,
  .exm "NoThrow" "BadText" false,
  .exm "NoThrow" "BadName" false,
  .exm "NoThrow" "DuplicateName" false,
  .exm "NoThrow" "UnknownName" false,
  .exm "NoThrow" "Ring" false,
  .exm "NoThrow" "BadShares" false,
  .exm "NoThrow" "UnlikeOrders" false,
  .exm "NoThrow" "NotRising" false,
  .exm "NoThrow" "NoThrow" true,
  .exm "NoThrow" "HasRing" false,
  .exm "NoThrow" "NoRing" false,
  .exm "NoThrow" "NothingToUndo" false,
  .exm "HasRing" "BadNumber" false,
  .exm "HasRing" "BadText" false,
  .exm "HasRing" "BadName" false,
  .exm "HasRing" "DuplicateName" false,
  .exm "HasRing" "UnknownName" false,
  .exm "HasRing" "Ring" false,
  .exm "HasRing" "BadShares" false,
  .exm "HasRing" "UnlikeOrders" false,
  .exm "HasRing" "NotRising" false,
  .exm "HasRing" "NoThrow" false,
  .exm "HasRing" "HasRing" true,
  .exm "HasRing" "NoRing" false,
  .exm "HasRing" "NothingToUndo" false,
  .exm "NoRing" "BadNumber" false,
  .exm "NoRing" "BadText" false,
  .exm "NoRing" "BadName" false,
  .exm "NoRing" "DuplicateName" false,
  .exm "NoRing" "UnknownName" false,
  .exm "NoRing" "Ring" false,
  .exm "NoRing" "BadShares" false,
  .exm "NoRing" "UnlikeOrders" false,
  .exm "NoRing" "NotRising" false,
  .exm "NoRing" "NoThrow" false,
  .exm "NoRing" "HasRing" false,
  .exm "NoRing" "NoRing" true,
  .exm "NoRing" "NothingToUndo" false,
  .exm "NothingToUndo" "BadNumber" false,
  .exm "NothingToUndo" "BadText" false,
  .exm "NothingToUndo" "BadName" false,
  .exm "NothingToUndo" "DuplicateName" false,
  .exm "NothingToUndo" "UnknownName" false,
  .exm "NothingToUndo" "Ring" false,
  .exm "NothingToUndo" "BadShares" false,
  .exm "NothingToUndo" "UnlikeOrders" false,
  .exm "NothingToUndo" "NotRising" false,
  .exm "NothingToUndo" "NoThrow" false,
  .exm "NothingToUndo" "HasRing" false,
  .exm "NothingToUndo" "NoRing" false,
  .exm "NothingToUndo" "NothingToUndo" true,
  .glo "ThrowError",
  .exm "BadNumber" "ThrowError" true,
  .exm "BadText" "ThrowError" true,
  .exm "BadName" "ThrowError" true,
  .exm "DuplicateName" "ThrowError" true,
  .exm "UnknownName" "ThrowError" true,
  .exm "Ring" "ThrowError" true,
  .exm "BadShares" "ThrowError" true,
  .exm "UnlikeOrders" "ThrowError" true,
  .exm "NotRising" "ThrowError" true,
  .exm "NoThrow" "ThrowError" true,
  .exm "HasRing" "ThrowError" true,
  .exm "NoRing" "ThrowError" true,
  .exm "NothingToUndo" "ThrowError" true]
def ex (K : PySem.W.Frag) : Bool := PySem.W.selfFirst K (He.ga K "Order") && (He.eqO (PySem.W.findIn K (.ref (He.ga K "Order")) "__ne__") (some (some (.builtin "object.__ne__"))) && (decide (PySem.W.mroIn K (He.ga K "Order") (.type "object") = some true) && (He.eqO (PySem.W.findIn K (.ref (He.ga K "Order")) "__format__") (some (some (.builtin "object.__format__"))) && (He.eqO (PySem.W.findIn K (.ref (He.ga K "Order")) "__class__") (some (some (.builtin "object.__class__"))) && (decide (PySem.W.kitOne K (.type "int") (.ref (He.ga K "Order")) = some false) && (PySem.W.notFirst K (He.ga K "Order") (.type "int") && (decide (PySem.W.kitOne K (.type "str") (.ref (He.ga K "Order")) = some false) && (PySem.W.notFirst K (He.ga K "Order") (.type "str") && (decide (PySem.W.kitOne K (.type "bool") (.ref (He.ga K "Order")) = some false) && (PySem.W.notFirst K (He.ga K "Order") (.type "bool") && (decide (PySem.W.kitOne K (.type "NoneType") (.ref (He.ga K "Order")) = some false) && (PySem.W.notFirst K (He.ga K "Order") (.type "NoneType") && (decide (PySem.W.kitOne K (.type "list") (.ref (He.ga K "Order")) = some false) && (PySem.W.notFirst K (He.ga K "Order") (.type "list") && (decide (PySem.W.kitOne K (.type "tuple") (.ref (He.ga K "Order")) = some false) && (PySem.W.notFirst K (He.ga K "Order") (.type "tuple") && (decide (PySem.W.kitOne K (.type "dict") (.ref (He.ga K "Order")) = some false) && (PySem.W.notFirst K (He.ga K "Order") (.type "dict") && (PySem.W.selfFirst K (He.ga K "Ratio") && (He.eqO (PySem.W.findIn K (.ref (He.ga K "Ratio")) "__ne__") (some (some (.builtin "object.__ne__"))) && (decide (PySem.W.mroIn K (He.ga K "Ratio") (.type "object") = some true) && (He.eqO (PySem.W.findIn K (.ref (He.ga K "Ratio")) "__format__") (some (some (.builtin "object.__format__"))) && (He.eqO (PySem.W.findIn K (.ref (He.ga K "Ratio")) "__class__") (some (some (.builtin "object.__class__"))) && (decide (PySem.W.kitOne K (.type "int") (.ref (He.ga K "Ratio")) = some false) && (PySem.W.notFirst K (He.ga K "Ratio") (.type "int") && (decide (PySem.W.kitOne K (.type "str") (.ref (He.ga K "Ratio")) = some false) && (PySem.W.notFirst K (He.ga K "Ratio") (.type "str") && (decide (PySem.W.kitOne K (.type "bool") (.ref (He.ga K "Ratio")) = some false) && (PySem.W.notFirst K (He.ga K "Ratio") (.type "bool") && (decide (PySem.W.kitOne K (.type "NoneType") (.ref (He.ga K "Ratio")) = some false) && (PySem.W.notFirst K (He.ga K "Ratio") (.type "NoneType") && (decide (PySem.W.kitOne K (.type "list") (.ref (He.ga K "Ratio")) = some false) && (PySem.W.notFirst K (He.ga K "Ratio") (.type "list") && (decide (PySem.W.kitOne K (.type "tuple") (.ref (He.ga K "Ratio")) = some false) && (PySem.W.notFirst K (He.ga K "Ratio") (.type "tuple") && (decide (PySem.W.kitOne K (.type "dict") (.ref (He.ga K "Ratio")) = some false) && (PySem.W.notFirst K (He.ga K "Ratio") (.type "dict") && (decide (PySem.W.mroIn K (He.ga K "BadNumber") (.type "object") = some true) && (He.eqO (PySem.W.findIn K (.ref (He.ga K "BadNumber")) "__class__") (some (some (.builtin "object.__class__"))) && (decide (PySem.W.kitOne K (.ref (He.ga K "BadNumber")) (.type "ValueError") = some true) && (decide (PySem.W.mroIn K (He.ga K "BadText") (.type "object") = some true) && (He.eqO (PySem.W.findIn K (.ref (He.ga K "BadText")) "__class__") (some (some (.builtin "object.__class__"))) && (decide (PySem.W.kitOne K (.ref (He.ga K "BadText")) (.type "ValueError") = some true) && (decide (PySem.W.mroIn K (He.ga K "BadName") (.type "object") = some true) && (He.eqO (PySem.W.findIn K (.ref (He.ga K "BadName")) "__class__") (some (some (.builtin "object.__class__"))) && (decide (PySem.W.kitOne K (.ref (He.ga K "BadName")) (.type "ValueError") = some true) && (decide (PySem.W.mroIn K (He.ga K "DuplicateName") (.type "object") = some true) && (He.eqO (PySem.W.findIn K (.ref (He.ga K "DuplicateName")) "__class__") (some (some (.builtin "object.__class__"))) && (decide (PySem.W.kitOne K (.ref (He.ga K "DuplicateName")) (.type "ValueError") = some true) && (decide (PySem.W.mroIn K (He.ga K "UnknownName") (.type "object") = some true) && (He.eqO (PySem.W.findIn K (.ref (He.ga K "UnknownName")) "__class__") (some (some (.builtin "object.__class__"))) && (decide (PySem.W.kitOne K (.ref (He.ga K "UnknownName")) (.type "ValueError") = some true) && (decide (PySem.W.mroIn K (He.ga K "Ring") (.type "object") = some true) && (He.eqO (PySem.W.findIn K (.ref (He.ga K "Ring")) "__class__") (some (some (.builtin "object.__class__"))) && (decide (PySem.W.kitOne K (.ref (He.ga K "Ring")) (.type "ValueError") = some true) && (decide (PySem.W.mroIn K (He.ga K "BadShares") (.type "object") = some true) && (He.eqO (PySem.W.findIn K (.ref (He.ga K "BadShares")) "__class__") (some (some (.builtin "object.__class__"))) && (decide (PySem.W.kitOne K (.ref (He.ga K "BadShares")) (.type "ValueError") = some true) && (decide (PySem.W.mroIn K (He.ga K "UnlikeOrders") (.type "object") = some true) && (He.eqO (PySem.W.findIn K (.ref (He.ga K "UnlikeOrders")) "__class__") (some (some (.builtin "object.__class__"))) && (decide (PySem.W.kitOne K (.ref (He.ga K "UnlikeOrders")) (.type "ValueError") = some true) && (decide (PySem.W.mroIn K (He.ga K "NotRising") (.type "object") = some true) && (He.eqO (PySem.W.findIn K (.ref (He.ga K "NotRising")) "__class__") (some (some (.builtin "object.__class__"))) && (decide (PySem.W.kitOne K (.ref (He.ga K "NotRising")) (.type "ValueError") = some true) && (decide (PySem.W.mroIn K (He.ga K "NoThrow") (.type "object") = some true) && (He.eqO (PySem.W.findIn K (.ref (He.ga K "NoThrow")) "__class__") (some (some (.builtin "object.__class__"))) && (decide (PySem.W.kitOne K (.ref (He.ga K "NoThrow")) (.type "ValueError") = some true) && (decide (PySem.W.mroIn K (He.ga K "HasRing") (.type "object") = some true) && (He.eqO (PySem.W.findIn K (.ref (He.ga K "HasRing")) "__class__") (some (some (.builtin "object.__class__"))) && (decide (PySem.W.kitOne K (.ref (He.ga K "HasRing")) (.type "ValueError") = some true) && (decide (PySem.W.mroIn K (He.ga K "NoRing") (.type "object") = some true) && (He.eqO (PySem.W.findIn K (.ref (He.ga K "NoRing")) "__class__") (some (some (.builtin "object.__class__"))) && (decide (PySem.W.kitOne K (.ref (He.ga K "NoRing")) (.type "ValueError") = some true) && (decide (PySem.W.mroIn K (He.ga K "NothingToUndo") (.type "object") = some true) && (He.eqO (PySem.W.findIn K (.ref (He.ga K "NothingToUndo")) "__class__") (some (some (.builtin "object.__class__"))) && (decide (PySem.W.kitOne K (.ref (He.ga K "NothingToUndo")) (.type "ValueError") = some true) && (He.eqO (PySem.W.specialIn K (.builtin "object.__class__") "__get__") (some (some (.builtin "getset_descriptor.__get__"))) && (decide (PySem.W.takesIn K (.builtin "object.__class__") = some true)))))))))))))))))))))))))))))))))))))))))))))))))))))))))))))))))))))))))))))))
abbrev R : PySem.W.OpenRow := PySem.W.OpenLaw.row PySem.Challenge.rw_onethrow_k01_errors_by_class
abbrev hk : PySem.W.Hook := hookO 5 fa fn er cm ex
def ob (s : PySem.W.SharedT) : AlO := obsOG 5 fa fn er cm ex (HandSHeadRun.getT s)
theorem ob_eq (s : PySem.W.SharedT) : ob s = hk.obs s.abs := obsOG_eq (HandSHeadRun.getT_eq s)
def loose : List Str := [("_wall" : Str), ("ThrowError" : Str), ("BadNumber" : Str), ("BadText" : Str), ("BadName" : Str), ("DuplicateName" : Str), ("UnknownName" : Str), ("Ring" : Str), ("BadShares" : Str), ("UnlikeOrders" : Str), ("NotRising" : Str), ("NoThrow" : Str), ("HasRing" : Str), ("NoRing" : Str), ("NothingToUndo" : Str), ("LETTERS" : Str), ("SIGNS" : Str), ("MOST_NAMES" : Str), ("MOST_LETTERS" : Str), ("MOST_CROWN" : Str), ("is_name" : Str), ("is_word" : Str), ("check_names" : Str), ("check_pairs" : Str), ("closed" : Str), ("Order" : Str), ("strict_pairs" : Str), ("cover_pairs" : Str), ("MOST_DIGITS" : Str), ("common" : Str), ("is_integer" : Str), ("Ratio" : Str), ("_law_pool" : Str), ("_law_take" : Str), ("_law_cell" : Str), ("_law_kinds" : Str), ("_law_simple" : Str), ("_law_listed" : Str), ("_law_made" : Str)]
theorem run (w : World) : HandSHeadRun.RunEq R (PySem.W.view R.prog [43]) hk ob 60000 loose w := by
  intro os
  kernel_rfl
structure Ct (P : Program) (K : PySem.W.Frag) (mg : Str → Option Value) : Prop where
  s : SaysO fa fn er cm ex K
  g : ∃ h : Heap, K.In h ∧ h.Ns mainGlobals mg
  file : (P.main.file : Str) = "/claim/cut.py"
  top : (P.main.scope.names.lookup ("super" : Str)).isSome = false
section
variable {P : Program} {w : World} {K : PySem.W.Frag} {mg : Str → Option Value} {base : Heap}
theorem fd_is_name (c : Ct P K mg) : ∃ fd, FnS K "is_name" "is_name" s_is_name (He.ga K "is_name") fd := c.s.d.def_ 1 (d := d_is_name) rfl
theorem sc_is_name : FnScope ["text", "sign"] ["text"] (defScope s_is_name) := ⟨rfl, rfl, rfl, by decide +kernel, rfl, by decide +kernel, by decide +kernel⟩
theorem bd_is_name {fd} (F : FnS K "is_name" "is_name" s_is_name (He.ga K "is_name") fd) : Binds K fd ["text"] [] := F.bindsN fun _ _ _ _ _ _ us hl => match us, hl with | [_], _ => rfl
theorem fd_check_names (c : Ct P K mg) : ∃ fd, FnS K "check_names" "check_names" s_check_names (He.ga K "check_names") fd := c.s.d.def_ 3 (d := d_check_names) rfl
theorem sc_check_names : FnScope ["names", "at", "name"] ["names"] (defScope s_check_names) := ⟨rfl, rfl, rfl, by decide +kernel, rfl, by decide +kernel, by decide +kernel⟩
theorem bd_check_names {fd} (F : FnS K "check_names" "check_names" s_check_names (He.ga K "check_names") fd) : Binds K fd ["names"] [] := F.bindsN fun _ _ _ _ _ _ us hl => match us, hl with | [_], _ => rfl
theorem fd_check_pairs (c : Ct P K mg) : ∃ fd, FnS K "check_pairs" "check_pairs" s_check_pairs (He.ga K "check_pairs") fd := c.s.d.def_ 4 (d := d_check_pairs) rfl
theorem sc_check_pairs : FnScope ["names", "pairs", "low", "high", "name"] ["names", "pairs"] (defScope s_check_pairs) := ⟨rfl, rfl, rfl, by decide +kernel, rfl, by decide +kernel, by decide +kernel⟩
theorem bd_check_pairs {fd} (F : FnS K "check_pairs" "check_pairs" s_check_pairs (He.ga K "check_pairs") fd) : Binds K fd ["names", "pairs"] [] := F.bindsN fun _ _ _ _ _ _ us hl => match us, hl with | [_, _], _ => rfl
theorem fd_closed (c : Ct P K mg) : ∃ fd, FnS K "closed" "closed" s_closed (He.ga K "closed") fd := c.s.d.def_ 5 (d := d_closed) rfl
theorem sc_closed : FnScope ["names", "pairs", "above", "name", "low", "high", "middle"] ["names", "pairs"] (defScope s_closed) := ⟨rfl, rfl, rfl, by decide +kernel, rfl, by decide +kernel, by decide +kernel⟩
theorem bd_closed {fd} (F : FnS K "closed" "closed" s_closed (He.ga K "closed") fd) : Binds K fd ["names", "pairs"] [] := F.bindsN fun _ _ _ _ _ _ us hl => match us, hl with | [_, _], _ => rfl
theorem fd_Order_init (c : Ct P K mg) : ∃ fd, FnS K "__init__" "Order.__init__" s_Order_init (He.ma K (He.ga K "Order") "__init__") fd := c.s.d.def_ 6 (d := d_Order_init) rfl
theorem sc_Order_init : FnScope ["self", "names", "pairs", "above", "round_names", "low", "high"] ["self", "names", "pairs"] (defScope s_Order_init) := ⟨rfl, rfl, rfl, by decide +kernel, rfl, by decide +kernel, by decide +kernel⟩
theorem bd_Order_init {fd} (F : FnS K "__init__" "Order.__init__" s_Order_init (He.ma K (He.ga K "Order") "__init__") fd) : Binds K fd ["self", "names", "pairs"] [] := F.bindsN fun _ _ _ _ _ _ us hl => match us, hl with | [_, _, _], _ => rfl
theorem fd_Order_eq (c : Ct P K mg) : ∃ fd, FnS K "__eq__" "Order.__eq__" s_Order_eq (He.ma K (He.ga K "Order") "__eq__") fd := c.s.d.def_ 10 (d := d_Order_eq) rfl
theorem sc_Order_eq : FnScope ["self", "other"] ["self", "other"] (defScope s_Order_eq) := ⟨rfl, rfl, rfl, by decide +kernel, rfl, by decide +kernel, by decide +kernel⟩
theorem bd_Order_eq {fd} (F : FnS K "__eq__" "Order.__eq__" s_Order_eq (He.ma K (He.ga K "Order") "__eq__") fd) : Binds K fd ["self", "other"] [] := F.bindsN fun _ _ _ _ _ _ us hl => match us, hl with | [_, _], _ => rfl
theorem fd_common (c : Ct P K mg) : ∃ fd, FnS K "common" "common" s_common (He.ga K "common") fd := c.s.d.def_ 20 (d := d_common) rfl
theorem sc_common : FnScope ["a", "b", "first", "second"] ["a", "b"] (defScope s_common) := ⟨rfl, rfl, rfl, by decide +kernel, rfl, by decide +kernel, by decide +kernel⟩
theorem bd_common {fd} (F : FnS K "common" "common" s_common (He.ga K "common") fd) : Binds K fd ["a", "b"] [] := F.bindsN fun _ _ _ _ _ _ us hl => match us, hl with | [_, _], _ => rfl
theorem fd_Ratio_init (c : Ct P K mg) : ∃ fd, FnS K "__init__" "Ratio.__init__" s_Ratio_init (He.ma K (He.ga K "Ratio") "__init__") fd := c.s.d.def_ 22 (d := d_Ratio_init) rfl
theorem sc_Ratio_init : FnScope ["self", "top", "bottom", "divisor"] ["self", "top", "bottom"] (defScope s_Ratio_init) := ⟨rfl, rfl, rfl, by decide +kernel, rfl, by decide +kernel, by decide +kernel⟩
theorem bd_Ratio_init {fd} (F : FnS K "__init__" "Ratio.__init__" s_Ratio_init (He.ma K (He.ga K "Ratio") "__init__") fd) : Binds K fd ["self", "top", "bottom"] [] := F.bindsN fun _ _ _ _ _ _ us hl => match us, hl with | [_, _, _], _ => rfl
theorem fd_Ratio_eq (c : Ct P K mg) : ∃ fd, FnS K "__eq__" "Ratio.__eq__" s_Ratio_eq (He.ma K (He.ga K "Ratio") "__eq__") fd := c.s.d.def_ 27 (d := d_Ratio_eq) rfl
theorem sc_Ratio_eq : FnScope ["self", "other"] ["self", "other"] (defScope s_Ratio_eq) := ⟨rfl, rfl, rfl, by decide +kernel, rfl, by decide +kernel, by decide +kernel⟩
theorem bd_Ratio_eq {fd} (F : FnS K "__eq__" "Ratio.__eq__" s_Ratio_eq (He.ma K (He.ga K "Ratio") "__eq__") fd) : Binds K fd ["self", "other"] [] := F.bindsN fun _ _ _ _ _ _ us hl => match us, hl with | [_, _], _ => rfl
theorem fd_l_pool (c : Ct P K mg) : ∃ fd, FnS K "_law_pool" "_law_pool" s_l_pool (He.ga K "_law_pool") fd := c.s.d.def_ 32 (d := d_l_pool) rfl
theorem sc_l_pool : FnScope ["_law_cell_here"] ["_law_cell_here"] (defScope s_l_pool) := ⟨rfl, rfl, rfl, by decide +kernel, rfl, by decide +kernel, by decide +kernel⟩
theorem bd_l_pool {fd} (F : FnS K "_law_pool" "_law_pool" s_l_pool (He.ga K "_law_pool") fd) : Binds K fd ["_law_cell_here"] [] := F.bindsN fun _ _ _ _ _ _ us hl => match us, hl with | [_], _ => rfl
theorem fd_l_take (c : Ct P K mg) : ∃ fd, FnS K "_law_take" "_law_take" s_l_take (He.ga K "_law_take") fd := c.s.d.def_ 33 (d := d_l_take) rfl
theorem sc_l_take : FnScope ["_law_pool_here", "_law_limit", "_law_drawn", "_law_mixed"] ["_law_pool_here", "_law_limit"] (defScope s_l_take) := ⟨rfl, rfl, rfl, by decide +kernel, rfl, by decide +kernel, by decide +kernel⟩
theorem bd_l_take {fd} (F : FnS K "_law_take" "_law_take" s_l_take (He.ga K "_law_take") fd) : Binds K fd ["_law_pool_here", "_law_limit"] [] := F.bindsN fun _ _ _ _ _ _ us hl => match us, hl with | [_, _], _ => rfl
theorem fd_l_cell (c : Ct P K mg) : ∃ fd, FnS K "_law_cell" "_law_cell" s_l_cell (He.ga K "_law_cell") fd := c.s.d.def_ 34 (d := d_l_cell) rfl
theorem sc_l_cell : FnScope ["_law_script", "_law_k"] ["_law_script", "_law_k"] (defScope s_l_cell) := ⟨rfl, rfl, rfl, by decide +kernel, rfl, by decide +kernel, by decide +kernel⟩
theorem bd_l_cell {fd} (F : FnS K "_law_cell" "_law_cell" s_l_cell (He.ga K "_law_cell") fd) : Binds K fd ["_law_script", "_law_k"] [] := F.bindsN fun _ _ _ _ _ _ us hl => match us, hl with | [_, _], _ => rfl
theorem fd_l_kinds (c : Ct P K mg) : ∃ fd, FnS K "_law_kinds" "_law_kinds" s_l_kinds (He.ga K "_law_kinds") fd := c.s.d.def_ 35 (d := d_l_kinds) rfl
theorem sc_l_kinds : FnScope ["_law_e", "_law_flags"] ["_law_e"] (defScope s_l_kinds) := ⟨rfl, rfl, rfl, by decide +kernel, rfl, by decide +kernel, by decide +kernel⟩
theorem bd_l_kinds {fd} (F : FnS K "_law_kinds" "_law_kinds" s_l_kinds (He.ga K "_law_kinds") fd) : Binds K fd ["_law_e"] [] := F.bindsN fun _ _ _ _ _ _ us hl => match us, hl with | [_], _ => rfl
theorem fd_l_simple (c : Ct P K mg) : ∃ fd, FnS K "_law_simple" "_law_simple" s_l_simple (He.ga K "_law_simple") fd := c.s.d.def_ 36 (d := d_l_simple) rfl
theorem sc_l_simple : FnScope ["_law_which", "_law_n", "_law_name", "_law_e"] ["_law_which", "_law_n", "_law_name"] (defScope s_l_simple) := ⟨rfl, rfl, rfl, by decide +kernel, rfl, by decide +kernel, by decide +kernel⟩
theorem bd_l_simple {fd} (F : FnS K "_law_simple" "_law_simple" s_l_simple (He.ga K "_law_simple") fd) : Binds K fd ["_law_which", "_law_n", "_law_name"] [] := F.bindsN fun _ _ _ _ _ _ us hl => match us, hl with | [_, _, _], _ => rfl
theorem fd_l_listed (c : Ct P K mg) : ∃ fd, FnS K "_law_listed" "_law_listed" s_l_listed (He.ga K "_law_listed") fd := c.s.d.def_ 37 (d := d_l_listed) rfl
theorem sc_l_listed : FnScope ["_law_name", "_law_told"] ["_law_name"] (defScope s_l_listed) := ⟨rfl, rfl, rfl, by decide +kernel, rfl, by decide +kernel, by decide +kernel⟩
theorem bd_l_listed {fd} (F : FnS K "_law_listed" "_law_listed" s_l_listed (He.ga K "_law_listed") fd) : Binds K fd ["_law_name"] [] := F.bindsN fun _ _ _ _ _ _ us hl => match us, hl with | [_], _ => rfl
theorem fd_l_made (c : Ct P K mg) : ∃ fd, FnS K "_law_made" "_law_made" s_l_made (He.ga K "_law_made") fd := c.s.d.def_ 38 (d := d_l_made) rfl
theorem sc_l_made : FnScope ["_law_which", "_law_n", "_law_name", "_law_names", "_law_e"] ["_law_which", "_law_n", "_law_name", "_law_names"] (defScope s_l_made) := ⟨rfl, rfl, rfl, by decide +kernel, rfl, by decide +kernel, by decide +kernel⟩
theorem bd_l_made {fd} (F : FnS K "_law_made" "_law_made" s_l_made (He.ga K "_law_made") fd) : Binds K fd ["_law_which", "_law_n", "_law_name", "_law_names"] [] := F.bindsN fun _ _ _ _ _ _ us hl => match us, hl with | [_, _, _, _], _ => rfl
theorem fd_law (c : Ct P K mg) : ∃ fd, FnS K "law" "law" s_law (He.ga K "law") fd := c.s.d.def_ 39 (d := d_law) rfl
theorem sc_law : FnScope ["_law_script", "_law_pool_here", "_law_n", "_law_name", "_law_which", "_law_names", "_law_e", "_law_same", "_law_k"] ["_law_script"] (defScope s_law) := ⟨rfl, rfl, rfl, by decide +kernel, rfl, by decide +kernel, by decide +kernel⟩
theorem ck_Order_crown (c : Ct P K mg) : CmOk K c_Order_crown := let h := c.s.cm c_Order_crown (by simp [cm]); CmD.all h.1 h.2
theorem fd_Order_crown (c : Ct P K mg) : ∃ fd, FnS K "crown" "Order.crown" s_Order_crown (cmFn K "Order" "crown") fd := (ck_Order_crown c).fn
theorem sc_Order_crown : FnScope ["cls", "size", "lows", "at", "highs", "pairs"] ["cls", "size"] (defScope s_Order_crown) := ⟨rfl, rfl, rfl, by decide +kernel, rfl, by decide +kernel, by decide +kernel⟩
theorem bd_Order_crown {fd} (F : FnS K "crown" "Order.crown" s_Order_crown (cmFn K "Order" "crown") fd) : Binds K fd ["cls", "size"] [] := F.bindsN fun _ _ _ _ _ _ us hl => match us, hl with | [_, _], _ => rfl
theorem er_BadNumber (c : Ct P K mg) : ErrOk P K mg e_BadNumber := let ⟨_, X, G⟩ := c.g; let h := c.s.er e_BadNumber (by simp [er]); ErrD.all X G h.1 h.2 c.file c.top
theorem er_BadText (c : Ct P K mg) : ErrOk P K mg e_BadText := let ⟨_, X, G⟩ := c.g; let h := c.s.er e_BadText (by simp [er]); ErrD.all X G h.1 h.2 c.file c.top
theorem er_BadName (c : Ct P K mg) : ErrOk P K mg e_BadName := let ⟨_, X, G⟩ := c.g; let h := c.s.er e_BadName (by simp [er]); ErrD.all X G h.1 h.2 c.file c.top
theorem er_DuplicateName (c : Ct P K mg) : ErrOk P K mg e_DuplicateName := let ⟨_, X, G⟩ := c.g; let h := c.s.er e_DuplicateName (by simp [er]); ErrD.all X G h.1 h.2 c.file c.top
theorem er_UnknownName (c : Ct P K mg) : ErrOk P K mg e_UnknownName := let ⟨_, X, G⟩ := c.g; let h := c.s.er e_UnknownName (by simp [er]); ErrD.all X G h.1 h.2 c.file c.top
theorem er_Ring (c : Ct P K mg) : ErrOk P K mg e_Ring := let ⟨_, X, G⟩ := c.g; let h := c.s.er e_Ring (by simp [er]); ErrD.all X G h.1 h.2 c.file c.top
theorem er_BadShares (c : Ct P K mg) : ErrOk P K mg e_BadShares := let ⟨_, X, G⟩ := c.g; let h := c.s.er e_BadShares (by simp [er]); ErrD.all X G h.1 h.2 c.file c.top
theorem er_UnlikeOrders (c : Ct P K mg) : ErrOk P K mg e_UnlikeOrders := let ⟨_, X, G⟩ := c.g; let h := c.s.er e_UnlikeOrders (by simp [er]); ErrD.all X G h.1 h.2 c.file c.top
theorem er_NotRising (c : Ct P K mg) : ErrOk P K mg e_NotRising := let ⟨_, X, G⟩ := c.g; let h := c.s.er e_NotRising (by simp [er]); ErrD.all X G h.1 h.2 c.file c.top
theorem er_NoThrow (c : Ct P K mg) : ErrOk P K mg e_NoThrow := let ⟨_, X, G⟩ := c.g; let h := c.s.er e_NoThrow (by simp [er]); ErrD.all X G h.1 h.2 c.file c.top
theorem er_HasRing (c : Ct P K mg) : ErrOk P K mg e_HasRing := let ⟨_, X, G⟩ := c.g; let h := c.s.er e_HasRing (by simp [er]); ErrD.all X G h.1 h.2 c.file c.top
theorem er_NoRing (c : Ct P K mg) : ErrOk P K mg e_NoRing := let ⟨_, X, G⟩ := c.g; let h := c.s.er e_NoRing (by simp [er]); ErrD.all X G h.1 h.2 c.file c.top
theorem er_NothingToUndo (c : Ct P K mg) : ErrOk P K mg e_NothingToUndo := let ⟨_, X, G⟩ := c.g; let h := c.s.er e_NothingToUndo (by simp [er]); ErrD.all X G h.1 h.2 c.file c.top
theorem glo_is_name (c : Ct P K mg) : mg "is_name" = some (.ref (He.ga K "is_name")) := let ⟨_, X, G⟩ := c.g; He.glo_ok X G (c.s.d.fact 1 (f := .glo "is_name") rfl)
theorem glo_check_names (c : Ct P K mg) : mg "check_names" = some (.ref (He.ga K "check_names")) := let ⟨_, X, G⟩ := c.g; He.glo_ok X G (c.s.d.fact 3 (f := .glo "check_names") rfl)
theorem glo_check_pairs (c : Ct P K mg) : mg "check_pairs" = some (.ref (He.ga K "check_pairs")) := let ⟨_, X, G⟩ := c.g; He.glo_ok X G (c.s.d.fact 4 (f := .glo "check_pairs") rfl)
theorem glo_closed (c : Ct P K mg) : mg "closed" = some (.ref (He.ga K "closed")) := let ⟨_, X, G⟩ := c.g; He.glo_ok X G (c.s.d.fact 5 (f := .glo "closed") rfl)
theorem meth_Order_eq (c : Ct P K mg) : Meth K (He.ga K "Order") "__eq__" (He.ma K (He.ga K "Order") "__eq__") := He.meth_ok (c.s.d.fact 10 (f := .meth "Order" "__eq__") rfl)
theorem glo_common (c : Ct P K mg) : mg "common" = some (.ref (He.ga K "common")) := let ⟨_, X, G⟩ := c.g; He.glo_ok X G (c.s.d.fact 20 (f := .glo "common") rfl)
theorem meth_Ratio_eq (c : Ct P K mg) : Meth K (He.ga K "Ratio") "__eq__" (He.ma K (He.ga K "Ratio") "__eq__") := He.meth_ok (c.s.d.fact 27 (f := .meth "Ratio" "__eq__") rfl)
theorem glo_l_pool (c : Ct P K mg) : mg "_law_pool" = some (.ref (He.ga K "_law_pool")) := let ⟨_, X, G⟩ := c.g; He.glo_ok X G (c.s.d.fact 32 (f := .glo "_law_pool") rfl)
theorem glo_l_take (c : Ct P K mg) : mg "_law_take" = some (.ref (He.ga K "_law_take")) := let ⟨_, X, G⟩ := c.g; He.glo_ok X G (c.s.d.fact 33 (f := .glo "_law_take") rfl)
theorem glo_l_cell (c : Ct P K mg) : mg "_law_cell" = some (.ref (He.ga K "_law_cell")) := let ⟨_, X, G⟩ := c.g; He.glo_ok X G (c.s.d.fact 34 (f := .glo "_law_cell") rfl)
theorem glo_l_kinds (c : Ct P K mg) : mg "_law_kinds" = some (.ref (He.ga K "_law_kinds")) := let ⟨_, X, G⟩ := c.g; He.glo_ok X G (c.s.d.fact 35 (f := .glo "_law_kinds") rfl)
theorem glo_l_simple (c : Ct P K mg) : mg "_law_simple" = some (.ref (He.ga K "_law_simple")) := let ⟨_, X, G⟩ := c.g; He.glo_ok X G (c.s.d.fact 36 (f := .glo "_law_simple") rfl)
theorem glo_l_listed (c : Ct P K mg) : mg "_law_listed" = some (.ref (He.ga K "_law_listed")) := let ⟨_, X, G⟩ := c.g; He.glo_ok X G (c.s.d.fact 37 (f := .glo "_law_listed") rfl)
theorem glo_l_made (c : Ct P K mg) : mg "_law_made" = some (.ref (He.ga K "_law_made")) := let ⟨_, X, G⟩ := c.g; He.glo_ok X G (c.s.d.fact 38 (f := .glo "_law_made") rfl)
theorem glo_law (c : Ct P K mg) : mg "law" = some (.ref (He.ga K "law")) := let ⟨_, X, G⟩ := c.g; He.glo_ok X G (c.s.d.fact 39 (f := .glo "law") rfl)
theorem glo_Order (c : Ct P K mg) : mg "Order" = some (.ref (He.ga K "Order")) := let ⟨_, X, G⟩ := c.g; He.glo_ok X G (c.s.d.fact 40 (f := .glo "Order") rfl)
theorem cls_Order (c : Ct P K mg) : Cls K (He.ga K "Order") := He.cls_ok (c.s.d.fact 41 (f := .cls "Order") rfl)
theorem mkr_Order (c : Ct P K mg) : Mk K (He.ga K "Order") (He.ma K (He.ga K "Order") "__init__") := He.mkr_ok (c.s.d.fact 42 (f := .mkr "Order") rfl)
theorem noat_Order_names (c : Ct P K mg) : NoAttr K (He.ga K "Order") "names" := He.noat_ok (c.s.d.fact 43 (f := .noat "Order" "names") rfl)
theorem noat_Order_above (c : Ct P K mg) : NoAttr K (He.ga K "Order") "above" := He.noat_ok (c.s.d.fact 44 (f := .noat "Order" "above") rfl)
theorem glo_Ratio (c : Ct P K mg) : mg "Ratio" = some (.ref (He.ga K "Ratio")) := let ⟨_, X, G⟩ := c.g; He.glo_ok X G (c.s.d.fact 45 (f := .glo "Ratio") rfl)
theorem cls_Ratio (c : Ct P K mg) : Cls K (He.ga K "Ratio") := He.cls_ok (c.s.d.fact 46 (f := .cls "Ratio") rfl)
theorem mkr_Ratio (c : Ct P K mg) : Mk K (He.ga K "Ratio") (He.ma K (He.ga K "Ratio") "__init__") := He.mkr_ok (c.s.d.fact 47 (f := .mkr "Ratio") rfl)
theorem noat_Ratio_top (c : Ct P K mg) : NoAttr K (He.ga K "Ratio") "top" := He.noat_ok (c.s.d.fact 48 (f := .noat "Ratio" "top") rfl)
theorem noat_Ratio_bottom (c : Ct P K mg) : NoAttr K (He.ga K "Ratio") "bottom" := He.noat_ok (c.s.d.fact 49 (f := .noat "Ratio" "bottom") rfl)
theorem free_ValueError (c : Ct P K mg) : mg "ValueError" = none := let ⟨_, X, G⟩ := c.g; He.free_ok X G (c.s.d.fact 50 (f := .free "ValueError") rfl)
theorem free_abs (c : Ct P K mg) : mg "abs" = none := let ⟨_, X, G⟩ := c.g; He.free_ok X G (c.s.d.fact 51 (f := .free "abs") rfl)
theorem free_all (c : Ct P K mg) : mg "all" = none := let ⟨_, X, G⟩ := c.g; He.free_ok X G (c.s.d.fact 52 (f := .free "all") rfl)
theorem free_any (c : Ct P K mg) : mg "any" = none := let ⟨_, X, G⟩ := c.g; He.free_ok X G (c.s.d.fact 53 (f := .free "any") rfl)
theorem free_enumerate (c : Ct P K mg) : mg "enumerate" = none := let ⟨_, X, G⟩ := c.g; He.free_ok X G (c.s.d.fact 56 (f := .free "enumerate") rfl)
theorem free_int (c : Ct P K mg) : mg "int" = none := let ⟨_, X, G⟩ := c.g; He.free_ok X G (c.s.d.fact 57 (f := .free "int") rfl)
theorem free_isinstance (c : Ct P K mg) : mg "isinstance" = none := let ⟨_, X, G⟩ := c.g; He.free_ok X G (c.s.d.fact 58 (f := .free "isinstance") rfl)
theorem free_len (c : Ct P K mg) : mg "len" = none := let ⟨_, X, G⟩ := c.g; He.free_ok X G (c.s.d.fact 60 (f := .free "len") rfl)
theorem free_list (c : Ct P K mg) : mg "list" = none := let ⟨_, X, G⟩ := c.g; He.free_ok X G (c.s.d.fact 61 (f := .free "list") rfl)
theorem free_range (c : Ct P K mg) : mg "range" = none := let ⟨_, X, G⟩ := c.g; He.free_ok X G (c.s.d.fact 62 (f := .free "range") rfl)
theorem free_sorted (c : Ct P K mg) : mg "sorted" = none := let ⟨_, X, G⟩ := c.g; He.free_ok X G (c.s.d.fact 63 (f := .free "sorted") rfl)
theorem free_tuple (c : Ct P K mg) : mg "tuple" = none := let ⟨_, X, G⟩ := c.g; He.free_ok X G (c.s.d.fact 66 (f := .free "tuple") rfl)
theorem str_LETTERS (c : Ct P K mg) : ∃ t, mg "LETTERS" = some (.str "abcdefghijklmnopqrstuvwxyz" t) := let ⟨_, X, G⟩ := c.g; He.str_ok X G (c.s.d.fact 67 (f := .str "LETTERS" "abcdefghijklmnopqrstuvwxyz") rfl)
theorem str_SIGNS (c : Ct P K mg) : ∃ t, mg "SIGNS" = some (.str "abcdefghijklmnopqrstuvwxyz0123456789" t) := let ⟨_, X, G⟩ := c.g; He.str_ok X G (c.s.d.fact 68 (f := .str "SIGNS" "abcdefghijklmnopqrstuvwxyz0123456789") rfl)
theorem int_MOST_NAMES (c : Ct P K mg) : ∃ t, mg "MOST_NAMES" = some (.int 8 t) := let ⟨_, X, G⟩ := c.g; He.int_ok X G (c.s.d.fact 69 (f := .int "MOST_NAMES" 8) rfl)
theorem int_MOST_LETTERS (c : Ct P K mg) : ∃ t, mg "MOST_LETTERS" = some (.int 8 t) := let ⟨_, X, G⟩ := c.g; He.int_ok X G (c.s.d.fact 70 (f := .int "MOST_LETTERS" 8) rfl)
theorem int_MOST_CROWN (c : Ct P K mg) : ∃ t, mg "MOST_CROWN" = some (.int 4 t) := let ⟨_, X, G⟩ := c.g; He.int_ok X G (c.s.d.fact 71 (f := .int "MOST_CROWN" 4) rfl)
theorem exm_BadNumber_BadNumber (c : Ct P K mg) : PySem.W.exmOne K (.ref (He.ga K "BadNumber")) (.ref (He.ga K "BadNumber")) = some true := He.exm_ok (c.s.d.fact 73 (f := .exm "BadNumber" "BadNumber" true) rfl)
theorem exm_BadNumber_BadText (c : Ct P K mg) : PySem.W.exmOne K (.ref (He.ga K "BadNumber")) (.ref (He.ga K "BadText")) = some false := He.exm_ok (c.s.d.fact 74 (f := .exm "BadNumber" "BadText" false) rfl)
theorem exm_BadNumber_BadName (c : Ct P K mg) : PySem.W.exmOne K (.ref (He.ga K "BadNumber")) (.ref (He.ga K "BadName")) = some false := He.exm_ok (c.s.d.fact 75 (f := .exm "BadNumber" "BadName" false) rfl)
theorem exm_BadNumber_DuplicateName (c : Ct P K mg) : PySem.W.exmOne K (.ref (He.ga K "BadNumber")) (.ref (He.ga K "DuplicateName")) = some false := He.exm_ok (c.s.d.fact 76 (f := .exm "BadNumber" "DuplicateName" false) rfl)
theorem exm_BadNumber_UnknownName (c : Ct P K mg) : PySem.W.exmOne K (.ref (He.ga K "BadNumber")) (.ref (He.ga K "UnknownName")) = some false := He.exm_ok (c.s.d.fact 77 (f := .exm "BadNumber" "UnknownName" false) rfl)
theorem exm_BadNumber_Ring (c : Ct P K mg) : PySem.W.exmOne K (.ref (He.ga K "BadNumber")) (.ref (He.ga K "Ring")) = some false := He.exm_ok (c.s.d.fact 78 (f := .exm "BadNumber" "Ring" false) rfl)
theorem exm_BadNumber_BadShares (c : Ct P K mg) : PySem.W.exmOne K (.ref (He.ga K "BadNumber")) (.ref (He.ga K "BadShares")) = some false := He.exm_ok (c.s.d.fact 79 (f := .exm "BadNumber" "BadShares" false) rfl)
theorem exm_BadNumber_UnlikeOrders (c : Ct P K mg) : PySem.W.exmOne K (.ref (He.ga K "BadNumber")) (.ref (He.ga K "UnlikeOrders")) = some false := He.exm_ok (c.s.d.fact 80 (f := .exm "BadNumber" "UnlikeOrders" false) rfl)
theorem exm_BadNumber_NotRising (c : Ct P K mg) : PySem.W.exmOne K (.ref (He.ga K "BadNumber")) (.ref (He.ga K "NotRising")) = some false := He.exm_ok (c.s.d.fact 81 (f := .exm "BadNumber" "NotRising" false) rfl)
theorem exm_BadNumber_NoThrow (c : Ct P K mg) : PySem.W.exmOne K (.ref (He.ga K "BadNumber")) (.ref (He.ga K "NoThrow")) = some false := He.exm_ok (c.s.d.fact 82 (f := .exm "BadNumber" "NoThrow" false) rfl)
theorem exm_BadNumber_HasRing (c : Ct P K mg) : PySem.W.exmOne K (.ref (He.ga K "BadNumber")) (.ref (He.ga K "HasRing")) = some false := He.exm_ok (c.s.d.fact 83 (f := .exm "BadNumber" "HasRing" false) rfl)
theorem exm_BadNumber_NoRing (c : Ct P K mg) : PySem.W.exmOne K (.ref (He.ga K "BadNumber")) (.ref (He.ga K "NoRing")) = some false := He.exm_ok (c.s.d.fact 84 (f := .exm "BadNumber" "NoRing" false) rfl)
theorem exm_BadNumber_NothingToUndo (c : Ct P K mg) : PySem.W.exmOne K (.ref (He.ga K "BadNumber")) (.ref (He.ga K "NothingToUndo")) = some false := He.exm_ok (c.s.d.fact 85 (f := .exm "BadNumber" "NothingToUndo" false) rfl)
theorem exm_BadText_BadNumber (c : Ct P K mg) : PySem.W.exmOne K (.ref (He.ga K "BadText")) (.ref (He.ga K "BadNumber")) = some false := He.exm_ok (c.s.d.fact 86 (f := .exm "BadText" "BadNumber" false) rfl)
theorem exm_BadText_BadText (c : Ct P K mg) : PySem.W.exmOne K (.ref (He.ga K "BadText")) (.ref (He.ga K "BadText")) = some true := He.exm_ok (c.s.d.fact 87 (f := .exm "BadText" "BadText" true) rfl)
theorem exm_BadText_BadName (c : Ct P K mg) : PySem.W.exmOne K (.ref (He.ga K "BadText")) (.ref (He.ga K "BadName")) = some false := He.exm_ok (c.s.d.fact 88 (f := .exm "BadText" "BadName" false) rfl)
theorem exm_BadText_DuplicateName (c : Ct P K mg) : PySem.W.exmOne K (.ref (He.ga K "BadText")) (.ref (He.ga K "DuplicateName")) = some false := He.exm_ok (c.s.d.fact 89 (f := .exm "BadText" "DuplicateName" false) rfl)
theorem exm_BadText_UnknownName (c : Ct P K mg) : PySem.W.exmOne K (.ref (He.ga K "BadText")) (.ref (He.ga K "UnknownName")) = some false := He.exm_ok (c.s.d.fact 90 (f := .exm "BadText" "UnknownName" false) rfl)
theorem exm_BadText_Ring (c : Ct P K mg) : PySem.W.exmOne K (.ref (He.ga K "BadText")) (.ref (He.ga K "Ring")) = some false := He.exm_ok (c.s.d.fact 91 (f := .exm "BadText" "Ring" false) rfl)
theorem exm_BadText_BadShares (c : Ct P K mg) : PySem.W.exmOne K (.ref (He.ga K "BadText")) (.ref (He.ga K "BadShares")) = some false := He.exm_ok (c.s.d.fact 92 (f := .exm "BadText" "BadShares" false) rfl)
theorem exm_BadText_UnlikeOrders (c : Ct P K mg) : PySem.W.exmOne K (.ref (He.ga K "BadText")) (.ref (He.ga K "UnlikeOrders")) = some false := He.exm_ok (c.s.d.fact 93 (f := .exm "BadText" "UnlikeOrders" false) rfl)
theorem exm_BadText_NotRising (c : Ct P K mg) : PySem.W.exmOne K (.ref (He.ga K "BadText")) (.ref (He.ga K "NotRising")) = some false := He.exm_ok (c.s.d.fact 94 (f := .exm "BadText" "NotRising" false) rfl)
theorem exm_BadText_NoThrow (c : Ct P K mg) : PySem.W.exmOne K (.ref (He.ga K "BadText")) (.ref (He.ga K "NoThrow")) = some false := He.exm_ok (c.s.d.fact 95 (f := .exm "BadText" "NoThrow" false) rfl)
theorem exm_BadText_HasRing (c : Ct P K mg) : PySem.W.exmOne K (.ref (He.ga K "BadText")) (.ref (He.ga K "HasRing")) = some false := He.exm_ok (c.s.d.fact 96 (f := .exm "BadText" "HasRing" false) rfl)
theorem exm_BadText_NoRing (c : Ct P K mg) : PySem.W.exmOne K (.ref (He.ga K "BadText")) (.ref (He.ga K "NoRing")) = some false := He.exm_ok (c.s.d.fact 97 (f := .exm "BadText" "NoRing" false) rfl)
theorem exm_BadText_NothingToUndo (c : Ct P K mg) : PySem.W.exmOne K (.ref (He.ga K "BadText")) (.ref (He.ga K "NothingToUndo")) = some false := He.exm_ok (c.s.d.fact 98 (f := .exm "BadText" "NothingToUndo" false) rfl)
theorem exm_BadName_BadNumber (c : Ct P K mg) : PySem.W.exmOne K (.ref (He.ga K "BadName")) (.ref (He.ga K "BadNumber")) = some false := He.exm_ok (c.s.d.fact 99 (f := .exm "BadName" "BadNumber" false) rfl)
theorem exm_BadName_BadText (c : Ct P K mg) : PySem.W.exmOne K (.ref (He.ga K "BadName")) (.ref (He.ga K "BadText")) = some false := He.exm_ok (c.s.d.fact 100 (f := .exm "BadName" "BadText" false) rfl)
theorem exm_BadName_BadName (c : Ct P K mg) : PySem.W.exmOne K (.ref (He.ga K "BadName")) (.ref (He.ga K "BadName")) = some true := He.exm_ok (c.s.d.fact 101 (f := .exm "BadName" "BadName" true) rfl)
theorem exm_BadName_DuplicateName (c : Ct P K mg) : PySem.W.exmOne K (.ref (He.ga K "BadName")) (.ref (He.ga K "DuplicateName")) = some false := He.exm_ok (c.s.d.fact 102 (f := .exm "BadName" "DuplicateName" false) rfl)
theorem exm_BadName_UnknownName (c : Ct P K mg) : PySem.W.exmOne K (.ref (He.ga K "BadName")) (.ref (He.ga K "UnknownName")) = some false := He.exm_ok (c.s.d.fact 103 (f := .exm "BadName" "UnknownName" false) rfl)
theorem exm_BadName_Ring (c : Ct P K mg) : PySem.W.exmOne K (.ref (He.ga K "BadName")) (.ref (He.ga K "Ring")) = some false := He.exm_ok (c.s.d.fact 104 (f := .exm "BadName" "Ring" false) rfl)
theorem exm_BadName_BadShares (c : Ct P K mg) : PySem.W.exmOne K (.ref (He.ga K "BadName")) (.ref (He.ga K "BadShares")) = some false := He.exm_ok (c.s.d.fact 105 (f := .exm "BadName" "BadShares" false) rfl)
theorem exm_BadName_UnlikeOrders (c : Ct P K mg) : PySem.W.exmOne K (.ref (He.ga K "BadName")) (.ref (He.ga K "UnlikeOrders")) = some false := He.exm_ok (c.s.d.fact 106 (f := .exm "BadName" "UnlikeOrders" false) rfl)
theorem exm_BadName_NotRising (c : Ct P K mg) : PySem.W.exmOne K (.ref (He.ga K "BadName")) (.ref (He.ga K "NotRising")) = some false := He.exm_ok (c.s.d.fact 107 (f := .exm "BadName" "NotRising" false) rfl)
theorem exm_BadName_NoThrow (c : Ct P K mg) : PySem.W.exmOne K (.ref (He.ga K "BadName")) (.ref (He.ga K "NoThrow")) = some false := He.exm_ok (c.s.d.fact 108 (f := .exm "BadName" "NoThrow" false) rfl)
theorem exm_BadName_HasRing (c : Ct P K mg) : PySem.W.exmOne K (.ref (He.ga K "BadName")) (.ref (He.ga K "HasRing")) = some false := He.exm_ok (c.s.d.fact 109 (f := .exm "BadName" "HasRing" false) rfl)
theorem exm_BadName_NoRing (c : Ct P K mg) : PySem.W.exmOne K (.ref (He.ga K "BadName")) (.ref (He.ga K "NoRing")) = some false := He.exm_ok (c.s.d.fact 110 (f := .exm "BadName" "NoRing" false) rfl)
theorem exm_BadName_NothingToUndo (c : Ct P K mg) : PySem.W.exmOne K (.ref (He.ga K "BadName")) (.ref (He.ga K "NothingToUndo")) = some false := He.exm_ok (c.s.d.fact 111 (f := .exm "BadName" "NothingToUndo" false) rfl)
theorem exm_DuplicateName_BadNumber (c : Ct P K mg) : PySem.W.exmOne K (.ref (He.ga K "DuplicateName")) (.ref (He.ga K "BadNumber")) = some false := He.exm_ok (c.s.d.fact 112 (f := .exm "DuplicateName" "BadNumber" false) rfl)
theorem exm_DuplicateName_BadText (c : Ct P K mg) : PySem.W.exmOne K (.ref (He.ga K "DuplicateName")) (.ref (He.ga K "BadText")) = some false := He.exm_ok (c.s.d.fact 113 (f := .exm "DuplicateName" "BadText" false) rfl)
theorem exm_DuplicateName_BadName (c : Ct P K mg) : PySem.W.exmOne K (.ref (He.ga K "DuplicateName")) (.ref (He.ga K "BadName")) = some false := He.exm_ok (c.s.d.fact 114 (f := .exm "DuplicateName" "BadName" false) rfl)
theorem exm_DuplicateName_DuplicateName (c : Ct P K mg) : PySem.W.exmOne K (.ref (He.ga K "DuplicateName")) (.ref (He.ga K "DuplicateName")) = some true := He.exm_ok (c.s.d.fact 115 (f := .exm "DuplicateName" "DuplicateName" true) rfl)
theorem exm_DuplicateName_UnknownName (c : Ct P K mg) : PySem.W.exmOne K (.ref (He.ga K "DuplicateName")) (.ref (He.ga K "UnknownName")) = some false := He.exm_ok (c.s.d.fact 116 (f := .exm "DuplicateName" "UnknownName" false) rfl)
theorem exm_DuplicateName_Ring (c : Ct P K mg) : PySem.W.exmOne K (.ref (He.ga K "DuplicateName")) (.ref (He.ga K "Ring")) = some false := He.exm_ok (c.s.d.fact 117 (f := .exm "DuplicateName" "Ring" false) rfl)
theorem exm_DuplicateName_BadShares (c : Ct P K mg) : PySem.W.exmOne K (.ref (He.ga K "DuplicateName")) (.ref (He.ga K "BadShares")) = some false := He.exm_ok (c.s.d.fact 118 (f := .exm "DuplicateName" "BadShares" false) rfl)
theorem exm_DuplicateName_UnlikeOrders (c : Ct P K mg) : PySem.W.exmOne K (.ref (He.ga K "DuplicateName")) (.ref (He.ga K "UnlikeOrders")) = some false := He.exm_ok (c.s.d.fact 119 (f := .exm "DuplicateName" "UnlikeOrders" false) rfl)
theorem exm_DuplicateName_NotRising (c : Ct P K mg) : PySem.W.exmOne K (.ref (He.ga K "DuplicateName")) (.ref (He.ga K "NotRising")) = some false := He.exm_ok (c.s.d.fact 120 (f := .exm "DuplicateName" "NotRising" false) rfl)
theorem exm_DuplicateName_NoThrow (c : Ct P K mg) : PySem.W.exmOne K (.ref (He.ga K "DuplicateName")) (.ref (He.ga K "NoThrow")) = some false := He.exm_ok (c.s.d.fact 121 (f := .exm "DuplicateName" "NoThrow" false) rfl)
theorem exm_DuplicateName_HasRing (c : Ct P K mg) : PySem.W.exmOne K (.ref (He.ga K "DuplicateName")) (.ref (He.ga K "HasRing")) = some false := He.exm_ok (c.s.d.fact 122 (f := .exm "DuplicateName" "HasRing" false) rfl)
theorem exm_DuplicateName_NoRing (c : Ct P K mg) : PySem.W.exmOne K (.ref (He.ga K "DuplicateName")) (.ref (He.ga K "NoRing")) = some false := He.exm_ok (c.s.d.fact 123 (f := .exm "DuplicateName" "NoRing" false) rfl)
theorem exm_DuplicateName_NothingToUndo (c : Ct P K mg) : PySem.W.exmOne K (.ref (He.ga K "DuplicateName")) (.ref (He.ga K "NothingToUndo")) = some false := He.exm_ok (c.s.d.fact 124 (f := .exm "DuplicateName" "NothingToUndo" false) rfl)
theorem exm_UnknownName_BadNumber (c : Ct P K mg) : PySem.W.exmOne K (.ref (He.ga K "UnknownName")) (.ref (He.ga K "BadNumber")) = some false := He.exm_ok (c.s.d.fact 125 (f := .exm "UnknownName" "BadNumber" false) rfl)
theorem exm_UnknownName_BadText (c : Ct P K mg) : PySem.W.exmOne K (.ref (He.ga K "UnknownName")) (.ref (He.ga K "BadText")) = some false := He.exm_ok (c.s.d.fact 126 (f := .exm "UnknownName" "BadText" false) rfl)
theorem exm_UnknownName_BadName (c : Ct P K mg) : PySem.W.exmOne K (.ref (He.ga K "UnknownName")) (.ref (He.ga K "BadName")) = some false := He.exm_ok (c.s.d.fact 127 (f := .exm "UnknownName" "BadName" false) rfl)
theorem exm_UnknownName_DuplicateName (c : Ct P K mg) : PySem.W.exmOne K (.ref (He.ga K "UnknownName")) (.ref (He.ga K "DuplicateName")) = some false := He.exm_ok (c.s.d.fact 128 (f := .exm "UnknownName" "DuplicateName" false) rfl)
theorem exm_UnknownName_UnknownName (c : Ct P K mg) : PySem.W.exmOne K (.ref (He.ga K "UnknownName")) (.ref (He.ga K "UnknownName")) = some true := He.exm_ok (c.s.d.fact 129 (f := .exm "UnknownName" "UnknownName" true) rfl)
theorem exm_UnknownName_Ring (c : Ct P K mg) : PySem.W.exmOne K (.ref (He.ga K "UnknownName")) (.ref (He.ga K "Ring")) = some false := He.exm_ok (c.s.d.fact 130 (f := .exm "UnknownName" "Ring" false) rfl)
theorem exm_UnknownName_BadShares (c : Ct P K mg) : PySem.W.exmOne K (.ref (He.ga K "UnknownName")) (.ref (He.ga K "BadShares")) = some false := He.exm_ok (c.s.d.fact 131 (f := .exm "UnknownName" "BadShares" false) rfl)
theorem exm_UnknownName_UnlikeOrders (c : Ct P K mg) : PySem.W.exmOne K (.ref (He.ga K "UnknownName")) (.ref (He.ga K "UnlikeOrders")) = some false := He.exm_ok (c.s.d.fact 132 (f := .exm "UnknownName" "UnlikeOrders" false) rfl)
theorem exm_UnknownName_NotRising (c : Ct P K mg) : PySem.W.exmOne K (.ref (He.ga K "UnknownName")) (.ref (He.ga K "NotRising")) = some false := He.exm_ok (c.s.d.fact 133 (f := .exm "UnknownName" "NotRising" false) rfl)
theorem exm_UnknownName_NoThrow (c : Ct P K mg) : PySem.W.exmOne K (.ref (He.ga K "UnknownName")) (.ref (He.ga K "NoThrow")) = some false := He.exm_ok (c.s.d.fact 134 (f := .exm "UnknownName" "NoThrow" false) rfl)
theorem exm_UnknownName_HasRing (c : Ct P K mg) : PySem.W.exmOne K (.ref (He.ga K "UnknownName")) (.ref (He.ga K "HasRing")) = some false := He.exm_ok (c.s.d.fact 135 (f := .exm "UnknownName" "HasRing" false) rfl)
theorem exm_UnknownName_NoRing (c : Ct P K mg) : PySem.W.exmOne K (.ref (He.ga K "UnknownName")) (.ref (He.ga K "NoRing")) = some false := He.exm_ok (c.s.d.fact 136 (f := .exm "UnknownName" "NoRing" false) rfl)
theorem exm_UnknownName_NothingToUndo (c : Ct P K mg) : PySem.W.exmOne K (.ref (He.ga K "UnknownName")) (.ref (He.ga K "NothingToUndo")) = some false := He.exm_ok (c.s.d.fact 137 (f := .exm "UnknownName" "NothingToUndo" false) rfl)
theorem exm_Ring_BadNumber (c : Ct P K mg) : PySem.W.exmOne K (.ref (He.ga K "Ring")) (.ref (He.ga K "BadNumber")) = some false := He.exm_ok (c.s.d.fact 138 (f := .exm "Ring" "BadNumber" false) rfl)
theorem exm_Ring_BadText (c : Ct P K mg) : PySem.W.exmOne K (.ref (He.ga K "Ring")) (.ref (He.ga K "BadText")) = some false := He.exm_ok (c.s.d.fact 139 (f := .exm "Ring" "BadText" false) rfl)
theorem exm_Ring_BadName (c : Ct P K mg) : PySem.W.exmOne K (.ref (He.ga K "Ring")) (.ref (He.ga K "BadName")) = some false := He.exm_ok (c.s.d.fact 140 (f := .exm "Ring" "BadName" false) rfl)
theorem exm_Ring_DuplicateName (c : Ct P K mg) : PySem.W.exmOne K (.ref (He.ga K "Ring")) (.ref (He.ga K "DuplicateName")) = some false := He.exm_ok (c.s.d.fact 141 (f := .exm "Ring" "DuplicateName" false) rfl)
theorem exm_Ring_UnknownName (c : Ct P K mg) : PySem.W.exmOne K (.ref (He.ga K "Ring")) (.ref (He.ga K "UnknownName")) = some false := He.exm_ok (c.s.d.fact 142 (f := .exm "Ring" "UnknownName" false) rfl)
theorem exm_Ring_Ring (c : Ct P K mg) : PySem.W.exmOne K (.ref (He.ga K "Ring")) (.ref (He.ga K "Ring")) = some true := He.exm_ok (c.s.d.fact 143 (f := .exm "Ring" "Ring" true) rfl)
theorem exm_Ring_BadShares (c : Ct P K mg) : PySem.W.exmOne K (.ref (He.ga K "Ring")) (.ref (He.ga K "BadShares")) = some false := He.exm_ok (c.s.d.fact 144 (f := .exm "Ring" "BadShares" false) rfl)
theorem exm_Ring_UnlikeOrders (c : Ct P K mg) : PySem.W.exmOne K (.ref (He.ga K "Ring")) (.ref (He.ga K "UnlikeOrders")) = some false := He.exm_ok (c.s.d.fact 145 (f := .exm "Ring" "UnlikeOrders" false) rfl)
theorem exm_Ring_NotRising (c : Ct P K mg) : PySem.W.exmOne K (.ref (He.ga K "Ring")) (.ref (He.ga K "NotRising")) = some false := He.exm_ok (c.s.d.fact 146 (f := .exm "Ring" "NotRising" false) rfl)
theorem exm_Ring_NoThrow (c : Ct P K mg) : PySem.W.exmOne K (.ref (He.ga K "Ring")) (.ref (He.ga K "NoThrow")) = some false := He.exm_ok (c.s.d.fact 147 (f := .exm "Ring" "NoThrow" false) rfl)
theorem exm_Ring_HasRing (c : Ct P K mg) : PySem.W.exmOne K (.ref (He.ga K "Ring")) (.ref (He.ga K "HasRing")) = some false := He.exm_ok (c.s.d.fact 148 (f := .exm "Ring" "HasRing" false) rfl)
theorem exm_Ring_NoRing (c : Ct P K mg) : PySem.W.exmOne K (.ref (He.ga K "Ring")) (.ref (He.ga K "NoRing")) = some false := He.exm_ok (c.s.d.fact 149 (f := .exm "Ring" "NoRing" false) rfl)
theorem exm_Ring_NothingToUndo (c : Ct P K mg) : PySem.W.exmOne K (.ref (He.ga K "Ring")) (.ref (He.ga K "NothingToUndo")) = some false := He.exm_ok (c.s.d.fact 150 (f := .exm "Ring" "NothingToUndo" false) rfl)
theorem exm_BadShares_BadNumber (c : Ct P K mg) : PySem.W.exmOne K (.ref (He.ga K "BadShares")) (.ref (He.ga K "BadNumber")) = some false := He.exm_ok (c.s.d.fact 151 (f := .exm "BadShares" "BadNumber" false) rfl)
theorem exm_BadShares_BadText (c : Ct P K mg) : PySem.W.exmOne K (.ref (He.ga K "BadShares")) (.ref (He.ga K "BadText")) = some false := He.exm_ok (c.s.d.fact 152 (f := .exm "BadShares" "BadText" false) rfl)
theorem exm_BadShares_BadName (c : Ct P K mg) : PySem.W.exmOne K (.ref (He.ga K "BadShares")) (.ref (He.ga K "BadName")) = some false := He.exm_ok (c.s.d.fact 153 (f := .exm "BadShares" "BadName" false) rfl)
theorem exm_BadShares_DuplicateName (c : Ct P K mg) : PySem.W.exmOne K (.ref (He.ga K "BadShares")) (.ref (He.ga K "DuplicateName")) = some false := He.exm_ok (c.s.d.fact 154 (f := .exm "BadShares" "DuplicateName" false) rfl)
theorem exm_BadShares_UnknownName (c : Ct P K mg) : PySem.W.exmOne K (.ref (He.ga K "BadShares")) (.ref (He.ga K "UnknownName")) = some false := He.exm_ok (c.s.d.fact 155 (f := .exm "BadShares" "UnknownName" false) rfl)
theorem exm_BadShares_Ring (c : Ct P K mg) : PySem.W.exmOne K (.ref (He.ga K "BadShares")) (.ref (He.ga K "Ring")) = some false := He.exm_ok (c.s.d.fact 156 (f := .exm "BadShares" "Ring" false) rfl)
theorem exm_BadShares_BadShares (c : Ct P K mg) : PySem.W.exmOne K (.ref (He.ga K "BadShares")) (.ref (He.ga K "BadShares")) = some true := He.exm_ok (c.s.d.fact 157 (f := .exm "BadShares" "BadShares" true) rfl)
theorem exm_BadShares_UnlikeOrders (c : Ct P K mg) : PySem.W.exmOne K (.ref (He.ga K "BadShares")) (.ref (He.ga K "UnlikeOrders")) = some false := He.exm_ok (c.s.d.fact 158 (f := .exm "BadShares" "UnlikeOrders" false) rfl)
theorem exm_BadShares_NotRising (c : Ct P K mg) : PySem.W.exmOne K (.ref (He.ga K "BadShares")) (.ref (He.ga K "NotRising")) = some false := He.exm_ok (c.s.d.fact 159 (f := .exm "BadShares" "NotRising" false) rfl)
theorem exm_BadShares_NoThrow (c : Ct P K mg) : PySem.W.exmOne K (.ref (He.ga K "BadShares")) (.ref (He.ga K "NoThrow")) = some false := He.exm_ok (c.s.d.fact 160 (f := .exm "BadShares" "NoThrow" false) rfl)
theorem exm_BadShares_HasRing (c : Ct P K mg) : PySem.W.exmOne K (.ref (He.ga K "BadShares")) (.ref (He.ga K "HasRing")) = some false := He.exm_ok (c.s.d.fact 161 (f := .exm "BadShares" "HasRing" false) rfl)
theorem exm_BadShares_NoRing (c : Ct P K mg) : PySem.W.exmOne K (.ref (He.ga K "BadShares")) (.ref (He.ga K "NoRing")) = some false := He.exm_ok (c.s.d.fact 162 (f := .exm "BadShares" "NoRing" false) rfl)
theorem exm_BadShares_NothingToUndo (c : Ct P K mg) : PySem.W.exmOne K (.ref (He.ga K "BadShares")) (.ref (He.ga K "NothingToUndo")) = some false := He.exm_ok (c.s.d.fact 163 (f := .exm "BadShares" "NothingToUndo" false) rfl)
theorem exm_UnlikeOrders_BadNumber (c : Ct P K mg) : PySem.W.exmOne K (.ref (He.ga K "UnlikeOrders")) (.ref (He.ga K "BadNumber")) = some false := He.exm_ok (c.s.d.fact 164 (f := .exm "UnlikeOrders" "BadNumber" false) rfl)
theorem exm_UnlikeOrders_BadText (c : Ct P K mg) : PySem.W.exmOne K (.ref (He.ga K "UnlikeOrders")) (.ref (He.ga K "BadText")) = some false := He.exm_ok (c.s.d.fact 165 (f := .exm "UnlikeOrders" "BadText" false) rfl)
theorem exm_UnlikeOrders_BadName (c : Ct P K mg) : PySem.W.exmOne K (.ref (He.ga K "UnlikeOrders")) (.ref (He.ga K "BadName")) = some false := He.exm_ok (c.s.d.fact 166 (f := .exm "UnlikeOrders" "BadName" false) rfl)
theorem exm_UnlikeOrders_DuplicateName (c : Ct P K mg) : PySem.W.exmOne K (.ref (He.ga K "UnlikeOrders")) (.ref (He.ga K "DuplicateName")) = some false := He.exm_ok (c.s.d.fact 167 (f := .exm "UnlikeOrders" "DuplicateName" false) rfl)
theorem exm_UnlikeOrders_UnknownName (c : Ct P K mg) : PySem.W.exmOne K (.ref (He.ga K "UnlikeOrders")) (.ref (He.ga K "UnknownName")) = some false := He.exm_ok (c.s.d.fact 168 (f := .exm "UnlikeOrders" "UnknownName" false) rfl)
theorem exm_UnlikeOrders_Ring (c : Ct P K mg) : PySem.W.exmOne K (.ref (He.ga K "UnlikeOrders")) (.ref (He.ga K "Ring")) = some false := He.exm_ok (c.s.d.fact 169 (f := .exm "UnlikeOrders" "Ring" false) rfl)
theorem exm_UnlikeOrders_BadShares (c : Ct P K mg) : PySem.W.exmOne K (.ref (He.ga K "UnlikeOrders")) (.ref (He.ga K "BadShares")) = some false := He.exm_ok (c.s.d.fact 170 (f := .exm "UnlikeOrders" "BadShares" false) rfl)
theorem exm_UnlikeOrders_UnlikeOrders (c : Ct P K mg) : PySem.W.exmOne K (.ref (He.ga K "UnlikeOrders")) (.ref (He.ga K "UnlikeOrders")) = some true := He.exm_ok (c.s.d.fact 171 (f := .exm "UnlikeOrders" "UnlikeOrders" true) rfl)
theorem exm_UnlikeOrders_NotRising (c : Ct P K mg) : PySem.W.exmOne K (.ref (He.ga K "UnlikeOrders")) (.ref (He.ga K "NotRising")) = some false := He.exm_ok (c.s.d.fact 172 (f := .exm "UnlikeOrders" "NotRising" false) rfl)
theorem exm_UnlikeOrders_NoThrow (c : Ct P K mg) : PySem.W.exmOne K (.ref (He.ga K "UnlikeOrders")) (.ref (He.ga K "NoThrow")) = some false := He.exm_ok (c.s.d.fact 173 (f := .exm "UnlikeOrders" "NoThrow" false) rfl)
theorem exm_UnlikeOrders_HasRing (c : Ct P K mg) : PySem.W.exmOne K (.ref (He.ga K "UnlikeOrders")) (.ref (He.ga K "HasRing")) = some false := He.exm_ok (c.s.d.fact 174 (f := .exm "UnlikeOrders" "HasRing" false) rfl)
theorem exm_UnlikeOrders_NoRing (c : Ct P K mg) : PySem.W.exmOne K (.ref (He.ga K "UnlikeOrders")) (.ref (He.ga K "NoRing")) = some false := He.exm_ok (c.s.d.fact 175 (f := .exm "UnlikeOrders" "NoRing" false) rfl)
theorem exm_UnlikeOrders_NothingToUndo (c : Ct P K mg) : PySem.W.exmOne K (.ref (He.ga K "UnlikeOrders")) (.ref (He.ga K "NothingToUndo")) = some false := He.exm_ok (c.s.d.fact 176 (f := .exm "UnlikeOrders" "NothingToUndo" false) rfl)
theorem exm_NotRising_BadNumber (c : Ct P K mg) : PySem.W.exmOne K (.ref (He.ga K "NotRising")) (.ref (He.ga K "BadNumber")) = some false := He.exm_ok (c.s.d.fact 177 (f := .exm "NotRising" "BadNumber" false) rfl)
theorem exm_NotRising_BadText (c : Ct P K mg) : PySem.W.exmOne K (.ref (He.ga K "NotRising")) (.ref (He.ga K "BadText")) = some false := He.exm_ok (c.s.d.fact 178 (f := .exm "NotRising" "BadText" false) rfl)
theorem exm_NotRising_BadName (c : Ct P K mg) : PySem.W.exmOne K (.ref (He.ga K "NotRising")) (.ref (He.ga K "BadName")) = some false := He.exm_ok (c.s.d.fact 179 (f := .exm "NotRising" "BadName" false) rfl)
theorem exm_NotRising_DuplicateName (c : Ct P K mg) : PySem.W.exmOne K (.ref (He.ga K "NotRising")) (.ref (He.ga K "DuplicateName")) = some false := He.exm_ok (c.s.d.fact 180 (f := .exm "NotRising" "DuplicateName" false) rfl)
theorem exm_NotRising_UnknownName (c : Ct P K mg) : PySem.W.exmOne K (.ref (He.ga K "NotRising")) (.ref (He.ga K "UnknownName")) = some false := He.exm_ok (c.s.d.fact 181 (f := .exm "NotRising" "UnknownName" false) rfl)
theorem exm_NotRising_Ring (c : Ct P K mg) : PySem.W.exmOne K (.ref (He.ga K "NotRising")) (.ref (He.ga K "Ring")) = some false := He.exm_ok (c.s.d.fact 182 (f := .exm "NotRising" "Ring" false) rfl)
theorem exm_NotRising_BadShares (c : Ct P K mg) : PySem.W.exmOne K (.ref (He.ga K "NotRising")) (.ref (He.ga K "BadShares")) = some false := He.exm_ok (c.s.d.fact 183 (f := .exm "NotRising" "BadShares" false) rfl)
theorem exm_NotRising_UnlikeOrders (c : Ct P K mg) : PySem.W.exmOne K (.ref (He.ga K "NotRising")) (.ref (He.ga K "UnlikeOrders")) = some false := He.exm_ok (c.s.d.fact 184 (f := .exm "NotRising" "UnlikeOrders" false) rfl)
theorem exm_NotRising_NotRising (c : Ct P K mg) : PySem.W.exmOne K (.ref (He.ga K "NotRising")) (.ref (He.ga K "NotRising")) = some true := He.exm_ok (c.s.d.fact 185 (f := .exm "NotRising" "NotRising" true) rfl)
theorem exm_NotRising_NoThrow (c : Ct P K mg) : PySem.W.exmOne K (.ref (He.ga K "NotRising")) (.ref (He.ga K "NoThrow")) = some false := He.exm_ok (c.s.d.fact 186 (f := .exm "NotRising" "NoThrow" false) rfl)
theorem exm_NotRising_HasRing (c : Ct P K mg) : PySem.W.exmOne K (.ref (He.ga K "NotRising")) (.ref (He.ga K "HasRing")) = some false := He.exm_ok (c.s.d.fact 187 (f := .exm "NotRising" "HasRing" false) rfl)
theorem exm_NotRising_NoRing (c : Ct P K mg) : PySem.W.exmOne K (.ref (He.ga K "NotRising")) (.ref (He.ga K "NoRing")) = some false := He.exm_ok (c.s.d.fact 188 (f := .exm "NotRising" "NoRing" false) rfl)
theorem exm_NotRising_NothingToUndo (c : Ct P K mg) : PySem.W.exmOne K (.ref (He.ga K "NotRising")) (.ref (He.ga K "NothingToUndo")) = some false := He.exm_ok (c.s.d.fact 189 (f := .exm "NotRising" "NothingToUndo" false) rfl)
theorem exm_NoThrow_BadNumber (c : Ct P K mg) : PySem.W.exmOne K (.ref (He.ga K "NoThrow")) (.ref (He.ga K "BadNumber")) = some false := He.exm_ok (c.s.d.fact 190 (f := .exm "NoThrow" "BadNumber" false) rfl)
theorem exm_NoThrow_BadText (c : Ct P K mg) : PySem.W.exmOne K (.ref (He.ga K "NoThrow")) (.ref (He.ga K "BadText")) = some false := He.exm_ok (c.s.d.fact 191 (f := .exm "NoThrow" "BadText" false) rfl)
theorem exm_NoThrow_BadName (c : Ct P K mg) : PySem.W.exmOne K (.ref (He.ga K "NoThrow")) (.ref (He.ga K "BadName")) = some false := He.exm_ok (c.s.d.fact 192 (f := .exm "NoThrow" "BadName" false) rfl)
theorem exm_NoThrow_DuplicateName (c : Ct P K mg) : PySem.W.exmOne K (.ref (He.ga K "NoThrow")) (.ref (He.ga K "DuplicateName")) = some false := He.exm_ok (c.s.d.fact 193 (f := .exm "NoThrow" "DuplicateName" false) rfl)
theorem exm_NoThrow_UnknownName (c : Ct P K mg) : PySem.W.exmOne K (.ref (He.ga K "NoThrow")) (.ref (He.ga K "UnknownName")) = some false := He.exm_ok (c.s.d.fact 194 (f := .exm "NoThrow" "UnknownName" false) rfl)
theorem exm_NoThrow_Ring (c : Ct P K mg) : PySem.W.exmOne K (.ref (He.ga K "NoThrow")) (.ref (He.ga K "Ring")) = some false := He.exm_ok (c.s.d.fact 195 (f := .exm "NoThrow" "Ring" false) rfl)
theorem exm_NoThrow_BadShares (c : Ct P K mg) : PySem.W.exmOne K (.ref (He.ga K "NoThrow")) (.ref (He.ga K "BadShares")) = some false := He.exm_ok (c.s.d.fact 196 (f := .exm "NoThrow" "BadShares" false) rfl)
theorem exm_NoThrow_UnlikeOrders (c : Ct P K mg) : PySem.W.exmOne K (.ref (He.ga K "NoThrow")) (.ref (He.ga K "UnlikeOrders")) = some false := He.exm_ok (c.s.d.fact 197 (f := .exm "NoThrow" "UnlikeOrders" false) rfl)
theorem exm_NoThrow_NotRising (c : Ct P K mg) : PySem.W.exmOne K (.ref (He.ga K "NoThrow")) (.ref (He.ga K "NotRising")) = some false := He.exm_ok (c.s.d.fact 198 (f := .exm "NoThrow" "NotRising" false) rfl)
theorem exm_NoThrow_NoThrow (c : Ct P K mg) : PySem.W.exmOne K (.ref (He.ga K "NoThrow")) (.ref (He.ga K "NoThrow")) = some true := He.exm_ok (c.s.d.fact 199 (f := .exm "NoThrow" "NoThrow" true) rfl)
theorem exm_NoThrow_HasRing (c : Ct P K mg) : PySem.W.exmOne K (.ref (He.ga K "NoThrow")) (.ref (He.ga K "HasRing")) = some false := He.exm_ok (c.s.d.fact 200 (f := .exm "NoThrow" "HasRing" false) rfl)
theorem exm_NoThrow_NoRing (c : Ct P K mg) : PySem.W.exmOne K (.ref (He.ga K "NoThrow")) (.ref (He.ga K "NoRing")) = some false := He.exm_ok (c.s.d.fact 201 (f := .exm "NoThrow" "NoRing" false) rfl)
theorem exm_NoThrow_NothingToUndo (c : Ct P K mg) : PySem.W.exmOne K (.ref (He.ga K "NoThrow")) (.ref (He.ga K "NothingToUndo")) = some false := He.exm_ok (c.s.d.fact 202 (f := .exm "NoThrow" "NothingToUndo" false) rfl)
theorem exm_HasRing_BadNumber (c : Ct P K mg) : PySem.W.exmOne K (.ref (He.ga K "HasRing")) (.ref (He.ga K "BadNumber")) = some false := He.exm_ok (c.s.d.fact 203 (f := .exm "HasRing" "BadNumber" false) rfl)
theorem exm_HasRing_BadText (c : Ct P K mg) : PySem.W.exmOne K (.ref (He.ga K "HasRing")) (.ref (He.ga K "BadText")) = some false := He.exm_ok (c.s.d.fact 204 (f := .exm "HasRing" "BadText" false) rfl)
theorem exm_HasRing_BadName (c : Ct P K mg) : PySem.W.exmOne K (.ref (He.ga K "HasRing")) (.ref (He.ga K "BadName")) = some false := He.exm_ok (c.s.d.fact 205 (f := .exm "HasRing" "BadName" false) rfl)
theorem exm_HasRing_DuplicateName (c : Ct P K mg) : PySem.W.exmOne K (.ref (He.ga K "HasRing")) (.ref (He.ga K "DuplicateName")) = some false := He.exm_ok (c.s.d.fact 206 (f := .exm "HasRing" "DuplicateName" false) rfl)
theorem exm_HasRing_UnknownName (c : Ct P K mg) : PySem.W.exmOne K (.ref (He.ga K "HasRing")) (.ref (He.ga K "UnknownName")) = some false := He.exm_ok (c.s.d.fact 207 (f := .exm "HasRing" "UnknownName" false) rfl)
theorem exm_HasRing_Ring (c : Ct P K mg) : PySem.W.exmOne K (.ref (He.ga K "HasRing")) (.ref (He.ga K "Ring")) = some false := He.exm_ok (c.s.d.fact 208 (f := .exm "HasRing" "Ring" false) rfl)
theorem exm_HasRing_BadShares (c : Ct P K mg) : PySem.W.exmOne K (.ref (He.ga K "HasRing")) (.ref (He.ga K "BadShares")) = some false := He.exm_ok (c.s.d.fact 209 (f := .exm "HasRing" "BadShares" false) rfl)
theorem exm_HasRing_UnlikeOrders (c : Ct P K mg) : PySem.W.exmOne K (.ref (He.ga K "HasRing")) (.ref (He.ga K "UnlikeOrders")) = some false := He.exm_ok (c.s.d.fact 210 (f := .exm "HasRing" "UnlikeOrders" false) rfl)
theorem exm_HasRing_NotRising (c : Ct P K mg) : PySem.W.exmOne K (.ref (He.ga K "HasRing")) (.ref (He.ga K "NotRising")) = some false := He.exm_ok (c.s.d.fact 211 (f := .exm "HasRing" "NotRising" false) rfl)
theorem exm_HasRing_NoThrow (c : Ct P K mg) : PySem.W.exmOne K (.ref (He.ga K "HasRing")) (.ref (He.ga K "NoThrow")) = some false := He.exm_ok (c.s.d.fact 212 (f := .exm "HasRing" "NoThrow" false) rfl)
theorem exm_HasRing_HasRing (c : Ct P K mg) : PySem.W.exmOne K (.ref (He.ga K "HasRing")) (.ref (He.ga K "HasRing")) = some true := He.exm_ok (c.s.d.fact 213 (f := .exm "HasRing" "HasRing" true) rfl)
theorem exm_HasRing_NoRing (c : Ct P K mg) : PySem.W.exmOne K (.ref (He.ga K "HasRing")) (.ref (He.ga K "NoRing")) = some false := He.exm_ok (c.s.d.fact 214 (f := .exm "HasRing" "NoRing" false) rfl)
theorem exm_HasRing_NothingToUndo (c : Ct P K mg) : PySem.W.exmOne K (.ref (He.ga K "HasRing")) (.ref (He.ga K "NothingToUndo")) = some false := He.exm_ok (c.s.d.fact 215 (f := .exm "HasRing" "NothingToUndo" false) rfl)
theorem exm_NoRing_BadNumber (c : Ct P K mg) : PySem.W.exmOne K (.ref (He.ga K "NoRing")) (.ref (He.ga K "BadNumber")) = some false := He.exm_ok (c.s.d.fact 216 (f := .exm "NoRing" "BadNumber" false) rfl)
theorem exm_NoRing_BadText (c : Ct P K mg) : PySem.W.exmOne K (.ref (He.ga K "NoRing")) (.ref (He.ga K "BadText")) = some false := He.exm_ok (c.s.d.fact 217 (f := .exm "NoRing" "BadText" false) rfl)
theorem exm_NoRing_BadName (c : Ct P K mg) : PySem.W.exmOne K (.ref (He.ga K "NoRing")) (.ref (He.ga K "BadName")) = some false := He.exm_ok (c.s.d.fact 218 (f := .exm "NoRing" "BadName" false) rfl)
theorem exm_NoRing_DuplicateName (c : Ct P K mg) : PySem.W.exmOne K (.ref (He.ga K "NoRing")) (.ref (He.ga K "DuplicateName")) = some false := He.exm_ok (c.s.d.fact 219 (f := .exm "NoRing" "DuplicateName" false) rfl)
theorem exm_NoRing_UnknownName (c : Ct P K mg) : PySem.W.exmOne K (.ref (He.ga K "NoRing")) (.ref (He.ga K "UnknownName")) = some false := He.exm_ok (c.s.d.fact 220 (f := .exm "NoRing" "UnknownName" false) rfl)
theorem exm_NoRing_Ring (c : Ct P K mg) : PySem.W.exmOne K (.ref (He.ga K "NoRing")) (.ref (He.ga K "Ring")) = some false := He.exm_ok (c.s.d.fact 221 (f := .exm "NoRing" "Ring" false) rfl)
theorem exm_NoRing_BadShares (c : Ct P K mg) : PySem.W.exmOne K (.ref (He.ga K "NoRing")) (.ref (He.ga K "BadShares")) = some false := He.exm_ok (c.s.d.fact 222 (f := .exm "NoRing" "BadShares" false) rfl)
theorem exm_NoRing_UnlikeOrders (c : Ct P K mg) : PySem.W.exmOne K (.ref (He.ga K "NoRing")) (.ref (He.ga K "UnlikeOrders")) = some false := He.exm_ok (c.s.d.fact 223 (f := .exm "NoRing" "UnlikeOrders" false) rfl)
theorem exm_NoRing_NotRising (c : Ct P K mg) : PySem.W.exmOne K (.ref (He.ga K "NoRing")) (.ref (He.ga K "NotRising")) = some false := He.exm_ok (c.s.d.fact 224 (f := .exm "NoRing" "NotRising" false) rfl)
theorem exm_NoRing_NoThrow (c : Ct P K mg) : PySem.W.exmOne K (.ref (He.ga K "NoRing")) (.ref (He.ga K "NoThrow")) = some false := He.exm_ok (c.s.d.fact 225 (f := .exm "NoRing" "NoThrow" false) rfl)
theorem exm_NoRing_HasRing (c : Ct P K mg) : PySem.W.exmOne K (.ref (He.ga K "NoRing")) (.ref (He.ga K "HasRing")) = some false := He.exm_ok (c.s.d.fact 226 (f := .exm "NoRing" "HasRing" false) rfl)
theorem exm_NoRing_NoRing (c : Ct P K mg) : PySem.W.exmOne K (.ref (He.ga K "NoRing")) (.ref (He.ga K "NoRing")) = some true := He.exm_ok (c.s.d.fact 227 (f := .exm "NoRing" "NoRing" true) rfl)
theorem exm_NoRing_NothingToUndo (c : Ct P K mg) : PySem.W.exmOne K (.ref (He.ga K "NoRing")) (.ref (He.ga K "NothingToUndo")) = some false := He.exm_ok (c.s.d.fact 228 (f := .exm "NoRing" "NothingToUndo" false) rfl)
theorem exm_NothingToUndo_BadNumber (c : Ct P K mg) : PySem.W.exmOne K (.ref (He.ga K "NothingToUndo")) (.ref (He.ga K "BadNumber")) = some false := He.exm_ok (c.s.d.fact 229 (f := .exm "NothingToUndo" "BadNumber" false) rfl)
theorem exm_NothingToUndo_BadText (c : Ct P K mg) : PySem.W.exmOne K (.ref (He.ga K "NothingToUndo")) (.ref (He.ga K "BadText")) = some false := He.exm_ok (c.s.d.fact 230 (f := .exm "NothingToUndo" "BadText" false) rfl)
theorem exm_NothingToUndo_BadName (c : Ct P K mg) : PySem.W.exmOne K (.ref (He.ga K "NothingToUndo")) (.ref (He.ga K "BadName")) = some false := He.exm_ok (c.s.d.fact 231 (f := .exm "NothingToUndo" "BadName" false) rfl)
theorem exm_NothingToUndo_DuplicateName (c : Ct P K mg) : PySem.W.exmOne K (.ref (He.ga K "NothingToUndo")) (.ref (He.ga K "DuplicateName")) = some false := He.exm_ok (c.s.d.fact 232 (f := .exm "NothingToUndo" "DuplicateName" false) rfl)
theorem exm_NothingToUndo_UnknownName (c : Ct P K mg) : PySem.W.exmOne K (.ref (He.ga K "NothingToUndo")) (.ref (He.ga K "UnknownName")) = some false := He.exm_ok (c.s.d.fact 233 (f := .exm "NothingToUndo" "UnknownName" false) rfl)
theorem exm_NothingToUndo_Ring (c : Ct P K mg) : PySem.W.exmOne K (.ref (He.ga K "NothingToUndo")) (.ref (He.ga K "Ring")) = some false := He.exm_ok (c.s.d.fact 234 (f := .exm "NothingToUndo" "Ring" false) rfl)
theorem exm_NothingToUndo_BadShares (c : Ct P K mg) : PySem.W.exmOne K (.ref (He.ga K "NothingToUndo")) (.ref (He.ga K "BadShares")) = some false := He.exm_ok (c.s.d.fact 235 (f := .exm "NothingToUndo" "BadShares" false) rfl)
theorem exm_NothingToUndo_UnlikeOrders (c : Ct P K mg) : PySem.W.exmOne K (.ref (He.ga K "NothingToUndo")) (.ref (He.ga K "UnlikeOrders")) = some false := He.exm_ok (c.s.d.fact 236 (f := .exm "NothingToUndo" "UnlikeOrders" false) rfl)
theorem exm_NothingToUndo_NotRising (c : Ct P K mg) : PySem.W.exmOne K (.ref (He.ga K "NothingToUndo")) (.ref (He.ga K "NotRising")) = some false := He.exm_ok (c.s.d.fact 237 (f := .exm "NothingToUndo" "NotRising" false) rfl)
theorem exm_NothingToUndo_NoThrow (c : Ct P K mg) : PySem.W.exmOne K (.ref (He.ga K "NothingToUndo")) (.ref (He.ga K "NoThrow")) = some false := He.exm_ok (c.s.d.fact 238 (f := .exm "NothingToUndo" "NoThrow" false) rfl)
theorem exm_NothingToUndo_HasRing (c : Ct P K mg) : PySem.W.exmOne K (.ref (He.ga K "NothingToUndo")) (.ref (He.ga K "HasRing")) = some false := He.exm_ok (c.s.d.fact 239 (f := .exm "NothingToUndo" "HasRing" false) rfl)
theorem exm_NothingToUndo_NoRing (c : Ct P K mg) : PySem.W.exmOne K (.ref (He.ga K "NothingToUndo")) (.ref (He.ga K "NoRing")) = some false := He.exm_ok (c.s.d.fact 240 (f := .exm "NothingToUndo" "NoRing" false) rfl)
theorem exm_NothingToUndo_NothingToUndo (c : Ct P K mg) : PySem.W.exmOne K (.ref (He.ga K "NothingToUndo")) (.ref (He.ga K "NothingToUndo")) = some true := He.exm_ok (c.s.d.fact 241 (f := .exm "NothingToUndo" "NothingToUndo" true) rfl)
theorem glo_ThrowError (c : Ct P K mg) : mg "ThrowError" = some (.ref (He.ga K "ThrowError")) := let ⟨_, X, G⟩ := c.g; He.glo_ok X G (c.s.d.fact 242 (f := .glo "ThrowError") rfl)
theorem exm_BadNumber_ThrowError (c : Ct P K mg) : PySem.W.exmOne K (.ref (He.ga K "BadNumber")) (.ref (He.ga K "ThrowError")) = some true := He.exm_ok (c.s.d.fact 243 (f := .exm "BadNumber" "ThrowError" true) rfl)
theorem exm_BadText_ThrowError (c : Ct P K mg) : PySem.W.exmOne K (.ref (He.ga K "BadText")) (.ref (He.ga K "ThrowError")) = some true := He.exm_ok (c.s.d.fact 244 (f := .exm "BadText" "ThrowError" true) rfl)
theorem exm_BadName_ThrowError (c : Ct P K mg) : PySem.W.exmOne K (.ref (He.ga K "BadName")) (.ref (He.ga K "ThrowError")) = some true := He.exm_ok (c.s.d.fact 245 (f := .exm "BadName" "ThrowError" true) rfl)
theorem exm_DuplicateName_ThrowError (c : Ct P K mg) : PySem.W.exmOne K (.ref (He.ga K "DuplicateName")) (.ref (He.ga K "ThrowError")) = some true := He.exm_ok (c.s.d.fact 246 (f := .exm "DuplicateName" "ThrowError" true) rfl)
theorem exm_UnknownName_ThrowError (c : Ct P K mg) : PySem.W.exmOne K (.ref (He.ga K "UnknownName")) (.ref (He.ga K "ThrowError")) = some true := He.exm_ok (c.s.d.fact 247 (f := .exm "UnknownName" "ThrowError" true) rfl)
theorem exm_Ring_ThrowError (c : Ct P K mg) : PySem.W.exmOne K (.ref (He.ga K "Ring")) (.ref (He.ga K "ThrowError")) = some true := He.exm_ok (c.s.d.fact 248 (f := .exm "Ring" "ThrowError" true) rfl)
theorem exm_BadShares_ThrowError (c : Ct P K mg) : PySem.W.exmOne K (.ref (He.ga K "BadShares")) (.ref (He.ga K "ThrowError")) = some true := He.exm_ok (c.s.d.fact 249 (f := .exm "BadShares" "ThrowError" true) rfl)
theorem exm_UnlikeOrders_ThrowError (c : Ct P K mg) : PySem.W.exmOne K (.ref (He.ga K "UnlikeOrders")) (.ref (He.ga K "ThrowError")) = some true := He.exm_ok (c.s.d.fact 250 (f := .exm "UnlikeOrders" "ThrowError" true) rfl)
theorem exm_NotRising_ThrowError (c : Ct P K mg) : PySem.W.exmOne K (.ref (He.ga K "NotRising")) (.ref (He.ga K "ThrowError")) = some true := He.exm_ok (c.s.d.fact 251 (f := .exm "NotRising" "ThrowError" true) rfl)
theorem exm_NoThrow_ThrowError (c : Ct P K mg) : PySem.W.exmOne K (.ref (He.ga K "NoThrow")) (.ref (He.ga K "ThrowError")) = some true := He.exm_ok (c.s.d.fact 252 (f := .exm "NoThrow" "ThrowError" true) rfl)
theorem exm_HasRing_ThrowError (c : Ct P K mg) : PySem.W.exmOne K (.ref (He.ga K "HasRing")) (.ref (He.ga K "ThrowError")) = some true := He.exm_ok (c.s.d.fact 253 (f := .exm "HasRing" "ThrowError" true) rfl)
theorem exm_NoRing_ThrowError (c : Ct P K mg) : PySem.W.exmOne K (.ref (He.ga K "NoRing")) (.ref (He.ga K "ThrowError")) = some true := He.exm_ok (c.s.d.fact 254 (f := .exm "NoRing" "ThrowError" true) rfl)
theorem exm_NothingToUndo_ThrowError (c : Ct P K mg) : PySem.W.exmOne K (.ref (He.ga K "NothingToUndo")) (.ref (He.ga K "ThrowError")) = some true := He.exm_ok (c.s.d.fact 255 (f := .exm "NothingToUndo" "ThrowError" true) rfl)
theorem mo_Order (c : Ct P K mg) : PySem.W.mroIn K (He.ga K "Order") (.type "object") = some true := of_decide_eq_true (He.ba (He.ba (He.ba c.s.ex).2).2).1
theorem cc_Order (c : Ct P K mg) : PySem.W.findIn K (.ref (He.ga K "Order")) "__class__" = some (some (.builtin "object.__class__")) := He.eqO_ok (He.ba (He.ba (He.ba (He.ba (He.ba c.s.ex).2).2).2).2).1
theorem mo_Ratio (c : Ct P K mg) : PySem.W.mroIn K (He.ga K "Ratio") (.type "object") = some true := of_decide_eq_true (He.ba (He.ba (He.ba (He.ba (He.ba (He.ba (He.ba (He.ba (He.ba (He.ba (He.ba (He.ba (He.ba (He.ba (He.ba (He.ba (He.ba (He.ba (He.ba (He.ba (He.ba (He.ba c.s.ex).2).2).2).2).2).2).2).2).2).2).2).2).2).2).2).2).2).2).2).2).2).1
theorem cc_Ratio (c : Ct P K mg) : PySem.W.findIn K (.ref (He.ga K "Ratio")) "__class__" = some (some (.builtin "object.__class__")) := He.eqO_ok (He.ba (He.ba (He.ba (He.ba (He.ba (He.ba (He.ba (He.ba (He.ba (He.ba (He.ba (He.ba (He.ba (He.ba (He.ba (He.ba (He.ba (He.ba (He.ba (He.ba (He.ba (He.ba (He.ba (He.ba c.s.ex).2).2).2).2).2).2).2).2).2).2).2).2).2).2).2).2).2).2).2).2).2).2).2).1
theorem mo_BadNumber (c : Ct P K mg) : PySem.W.mroIn K (He.ga K "BadNumber") (.type "object") = some true := of_decide_eq_true (He.ba (He.ba (He.ba (He.ba (He.ba (He.ba (He.ba (He.ba (He.ba (He.ba (He.ba (He.ba (He.ba (He.ba (He.ba (He.ba (He.ba (He.ba (He.ba (He.ba (He.ba (He.ba (He.ba (He.ba (He.ba (He.ba (He.ba (He.ba (He.ba (He.ba (He.ba (He.ba (He.ba (He.ba (He.ba (He.ba (He.ba (He.ba (He.ba c.s.ex).2).2).2).2).2).2).2).2).2).2).2).2).2).2).2).2).2).2).2).2).2).2).2).2).2).2).2).2).2).2).2).2).2).2).2).2).2).2).1
theorem cc_BadNumber (c : Ct P K mg) : PySem.W.findIn K (.ref (He.ga K "BadNumber")) "__class__" = some (some (.builtin "object.__class__")) := He.eqO_ok (He.ba (He.ba (He.ba (He.ba (He.ba (He.ba (He.ba (He.ba (He.ba (He.ba (He.ba (He.ba (He.ba (He.ba (He.ba (He.ba (He.ba (He.ba (He.ba (He.ba (He.ba (He.ba (He.ba (He.ba (He.ba (He.ba (He.ba (He.ba (He.ba (He.ba (He.ba (He.ba (He.ba (He.ba (He.ba (He.ba (He.ba (He.ba (He.ba (He.ba c.s.ex).2).2).2).2).2).2).2).2).2).2).2).2).2).2).2).2).2).2).2).2).2).2).2).2).2).2).2).2).2).2).2).2).2).2).2).2).2).2).2).1
theorem kv_BadNumber (c : Ct P K mg) : PySem.W.kitOne K (.ref (He.ga K "BadNumber")) (.type "ValueError") = some true := of_decide_eq_true (He.ba (He.ba (He.ba (He.ba (He.ba (He.ba (He.ba (He.ba (He.ba (He.ba (He.ba (He.ba (He.ba (He.ba (He.ba (He.ba (He.ba (He.ba (He.ba (He.ba (He.ba (He.ba (He.ba (He.ba (He.ba (He.ba (He.ba (He.ba (He.ba (He.ba (He.ba (He.ba (He.ba (He.ba (He.ba (He.ba (He.ba (He.ba (He.ba (He.ba (He.ba c.s.ex).2).2).2).2).2).2).2).2).2).2).2).2).2).2).2).2).2).2).2).2).2).2).2).2).2).2).2).2).2).2).2).2).2).2).2).2).2).2).2).2).1
theorem mo_BadText (c : Ct P K mg) : PySem.W.mroIn K (He.ga K "BadText") (.type "object") = some true := of_decide_eq_true (He.ba (He.ba (He.ba (He.ba (He.ba (He.ba (He.ba (He.ba (He.ba (He.ba (He.ba (He.ba (He.ba (He.ba (He.ba (He.ba (He.ba (He.ba (He.ba (He.ba (He.ba (He.ba (He.ba (He.ba (He.ba (He.ba (He.ba (He.ba (He.ba (He.ba (He.ba (He.ba (He.ba (He.ba (He.ba (He.ba (He.ba (He.ba (He.ba (He.ba (He.ba (He.ba c.s.ex).2).2).2).2).2).2).2).2).2).2).2).2).2).2).2).2).2).2).2).2).2).2).2).2).2).2).2).2).2).2).2).2).2).2).2).2).2).2).2).2).2).1
theorem cc_BadText (c : Ct P K mg) : PySem.W.findIn K (.ref (He.ga K "BadText")) "__class__" = some (some (.builtin "object.__class__")) := He.eqO_ok (He.ba (He.ba (He.ba (He.ba (He.ba (He.ba (He.ba (He.ba (He.ba (He.ba (He.ba (He.ba (He.ba (He.ba (He.ba (He.ba (He.ba (He.ba (He.ba (He.ba (He.ba (He.ba (He.ba (He.ba (He.ba (He.ba (He.ba (He.ba (He.ba (He.ba (He.ba (He.ba (He.ba (He.ba (He.ba (He.ba (He.ba (He.ba (He.ba (He.ba (He.ba (He.ba (He.ba c.s.ex).2).2).2).2).2).2).2).2).2).2).2).2).2).2).2).2).2).2).2).2).2).2).2).2).2).2).2).2).2).2).2).2).2).2).2).2).2).2).2).2).2).2).1
theorem kv_BadText (c : Ct P K mg) : PySem.W.kitOne K (.ref (He.ga K "BadText")) (.type "ValueError") = some true := of_decide_eq_true (He.ba (He.ba (He.ba (He.ba (He.ba (He.ba (He.ba (He.ba (He.ba (He.ba (He.ba (He.ba (He.ba (He.ba (He.ba (He.ba (He.ba (He.ba (He.ba (He.ba (He.ba (He.ba (He.ba (He.ba (He.ba (He.ba (He.ba (He.ba (He.ba (He.ba (He.ba (He.ba (He.ba (He.ba (He.ba (He.ba (He.ba (He.ba (He.ba (He.ba (He.ba (He.ba (He.ba (He.ba c.s.ex).2).2).2).2).2).2).2).2).2).2).2).2).2).2).2).2).2).2).2).2).2).2).2).2).2).2).2).2).2).2).2).2).2).2).2).2).2).2).2).2).2).2).2).1
theorem mo_BadName (c : Ct P K mg) : PySem.W.mroIn K (He.ga K "BadName") (.type "object") = some true := of_decide_eq_true (He.ba (He.ba (He.ba (He.ba (He.ba (He.ba (He.ba (He.ba (He.ba (He.ba (He.ba (He.ba (He.ba (He.ba (He.ba (He.ba (He.ba (He.ba (He.ba (He.ba (He.ba (He.ba (He.ba (He.ba (He.ba (He.ba (He.ba (He.ba (He.ba (He.ba (He.ba (He.ba (He.ba (He.ba (He.ba (He.ba (He.ba (He.ba (He.ba (He.ba (He.ba (He.ba (He.ba (He.ba (He.ba c.s.ex).2).2).2).2).2).2).2).2).2).2).2).2).2).2).2).2).2).2).2).2).2).2).2).2).2).2).2).2).2).2).2).2).2).2).2).2).2).2).2).2).2).2).2).2).1
theorem cc_BadName (c : Ct P K mg) : PySem.W.findIn K (.ref (He.ga K "BadName")) "__class__" = some (some (.builtin "object.__class__")) := He.eqO_ok (He.ba (He.ba (He.ba (He.ba (He.ba (He.ba (He.ba (He.ba (He.ba (He.ba (He.ba (He.ba (He.ba (He.ba (He.ba (He.ba (He.ba (He.ba (He.ba (He.ba (He.ba (He.ba (He.ba (He.ba (He.ba (He.ba (He.ba (He.ba (He.ba (He.ba (He.ba (He.ba (He.ba (He.ba (He.ba (He.ba (He.ba (He.ba (He.ba (He.ba (He.ba (He.ba (He.ba (He.ba (He.ba (He.ba c.s.ex).2).2).2).2).2).2).2).2).2).2).2).2).2).2).2).2).2).2).2).2).2).2).2).2).2).2).2).2).2).2).2).2).2).2).2).2).2).2).2).2).2).2).2).2).2).1
theorem kv_BadName (c : Ct P K mg) : PySem.W.kitOne K (.ref (He.ga K "BadName")) (.type "ValueError") = some true := of_decide_eq_true (He.ba (He.ba (He.ba (He.ba (He.ba (He.ba (He.ba (He.ba (He.ba (He.ba (He.ba (He.ba (He.ba (He.ba (He.ba (He.ba (He.ba (He.ba (He.ba (He.ba (He.ba (He.ba (He.ba (He.ba (He.ba (He.ba (He.ba (He.ba (He.ba (He.ba (He.ba (He.ba (He.ba (He.ba (He.ba (He.ba (He.ba (He.ba (He.ba (He.ba (He.ba (He.ba (He.ba (He.ba (He.ba (He.ba (He.ba c.s.ex).2).2).2).2).2).2).2).2).2).2).2).2).2).2).2).2).2).2).2).2).2).2).2).2).2).2).2).2).2).2).2).2).2).2).2).2).2).2).2).2).2).2).2).2).2).2).1
theorem mo_DuplicateName (c : Ct P K mg) : PySem.W.mroIn K (He.ga K "DuplicateName") (.type "object") = some true := of_decide_eq_true (He.ba (He.ba (He.ba (He.ba (He.ba (He.ba (He.ba (He.ba (He.ba (He.ba (He.ba (He.ba (He.ba (He.ba (He.ba (He.ba (He.ba (He.ba (He.ba (He.ba (He.ba (He.ba (He.ba (He.ba (He.ba (He.ba (He.ba (He.ba (He.ba (He.ba (He.ba (He.ba (He.ba (He.ba (He.ba (He.ba (He.ba (He.ba (He.ba (He.ba (He.ba (He.ba (He.ba (He.ba (He.ba (He.ba (He.ba (He.ba c.s.ex).2).2).2).2).2).2).2).2).2).2).2).2).2).2).2).2).2).2).2).2).2).2).2).2).2).2).2).2).2).2).2).2).2).2).2).2).2).2).2).2).2).2).2).2).2).2).2).1
theorem cc_DuplicateName (c : Ct P K mg) : PySem.W.findIn K (.ref (He.ga K "DuplicateName")) "__class__" = some (some (.builtin "object.__class__")) := He.eqO_ok (He.ba (He.ba (He.ba (He.ba (He.ba (He.ba (He.ba (He.ba (He.ba (He.ba (He.ba (He.ba (He.ba (He.ba (He.ba (He.ba (He.ba (He.ba (He.ba (He.ba (He.ba (He.ba (He.ba (He.ba (He.ba (He.ba (He.ba (He.ba (He.ba (He.ba (He.ba (He.ba (He.ba (He.ba (He.ba (He.ba (He.ba (He.ba (He.ba (He.ba (He.ba (He.ba (He.ba (He.ba (He.ba (He.ba (He.ba (He.ba (He.ba c.s.ex).2).2).2).2).2).2).2).2).2).2).2).2).2).2).2).2).2).2).2).2).2).2).2).2).2).2).2).2).2).2).2).2).2).2).2).2).2).2).2).2).2).2).2).2).2).2).2).2).1
theorem kv_DuplicateName (c : Ct P K mg) : PySem.W.kitOne K (.ref (He.ga K "DuplicateName")) (.type "ValueError") = some true := of_decide_eq_true (He.ba (He.ba (He.ba (He.ba (He.ba (He.ba (He.ba (He.ba (He.ba (He.ba (He.ba (He.ba (He.ba (He.ba (He.ba (He.ba (He.ba (He.ba (He.ba (He.ba (He.ba (He.ba (He.ba (He.ba (He.ba (He.ba (He.ba (He.ba (He.ba (He.ba (He.ba (He.ba (He.ba (He.ba (He.ba (He.ba (He.ba (He.ba (He.ba (He.ba (He.ba (He.ba (He.ba (He.ba (He.ba (He.ba (He.ba (He.ba (He.ba (He.ba c.s.ex).2).2).2).2).2).2).2).2).2).2).2).2).2).2).2).2).2).2).2).2).2).2).2).2).2).2).2).2).2).2).2).2).2).2).2).2).2).2).2).2).2).2).2).2).2).2).2).2).2).1
theorem mo_UnknownName (c : Ct P K mg) : PySem.W.mroIn K (He.ga K "UnknownName") (.type "object") = some true := of_decide_eq_true (He.ba (He.ba (He.ba (He.ba (He.ba (He.ba (He.ba (He.ba (He.ba (He.ba (He.ba (He.ba (He.ba (He.ba (He.ba (He.ba (He.ba (He.ba (He.ba (He.ba (He.ba (He.ba (He.ba (He.ba (He.ba (He.ba (He.ba (He.ba (He.ba (He.ba (He.ba (He.ba (He.ba (He.ba (He.ba (He.ba (He.ba (He.ba (He.ba (He.ba (He.ba (He.ba (He.ba (He.ba (He.ba (He.ba (He.ba (He.ba (He.ba (He.ba (He.ba c.s.ex).2).2).2).2).2).2).2).2).2).2).2).2).2).2).2).2).2).2).2).2).2).2).2).2).2).2).2).2).2).2).2).2).2).2).2).2).2).2).2).2).2).2).2).2).2).2).2).2).2).2).1
theorem cc_UnknownName (c : Ct P K mg) : PySem.W.findIn K (.ref (He.ga K "UnknownName")) "__class__" = some (some (.builtin "object.__class__")) := He.eqO_ok (He.ba (He.ba (He.ba (He.ba (He.ba (He.ba (He.ba (He.ba (He.ba (He.ba (He.ba (He.ba (He.ba (He.ba (He.ba (He.ba (He.ba (He.ba (He.ba (He.ba (He.ba (He.ba (He.ba (He.ba (He.ba (He.ba (He.ba (He.ba (He.ba (He.ba (He.ba (He.ba (He.ba (He.ba (He.ba (He.ba (He.ba (He.ba (He.ba (He.ba (He.ba (He.ba (He.ba (He.ba (He.ba (He.ba (He.ba (He.ba (He.ba (He.ba (He.ba (He.ba c.s.ex).2).2).2).2).2).2).2).2).2).2).2).2).2).2).2).2).2).2).2).2).2).2).2).2).2).2).2).2).2).2).2).2).2).2).2).2).2).2).2).2).2).2).2).2).2).2).2).2).2).2).2).1
theorem kv_UnknownName (c : Ct P K mg) : PySem.W.kitOne K (.ref (He.ga K "UnknownName")) (.type "ValueError") = some true := of_decide_eq_true (He.ba (He.ba (He.ba (He.ba (He.ba (He.ba (He.ba (He.ba (He.ba (He.ba (He.ba (He.ba (He.ba (He.ba (He.ba (He.ba (He.ba (He.ba (He.ba (He.ba (He.ba (He.ba (He.ba (He.ba (He.ba (He.ba (He.ba (He.ba (He.ba (He.ba (He.ba (He.ba (He.ba (He.ba (He.ba (He.ba (He.ba (He.ba (He.ba (He.ba (He.ba (He.ba (He.ba (He.ba (He.ba (He.ba (He.ba (He.ba (He.ba (He.ba (He.ba (He.ba (He.ba c.s.ex).2).2).2).2).2).2).2).2).2).2).2).2).2).2).2).2).2).2).2).2).2).2).2).2).2).2).2).2).2).2).2).2).2).2).2).2).2).2).2).2).2).2).2).2).2).2).2).2).2).2).2).2).1
theorem mo_Ring (c : Ct P K mg) : PySem.W.mroIn K (He.ga K "Ring") (.type "object") = some true := of_decide_eq_true (He.ba (He.ba (He.ba (He.ba (He.ba (He.ba (He.ba (He.ba (He.ba (He.ba (He.ba (He.ba (He.ba (He.ba (He.ba (He.ba (He.ba (He.ba (He.ba (He.ba (He.ba (He.ba (He.ba (He.ba (He.ba (He.ba (He.ba (He.ba (He.ba (He.ba (He.ba (He.ba (He.ba (He.ba (He.ba (He.ba (He.ba (He.ba (He.ba (He.ba (He.ba (He.ba (He.ba (He.ba (He.ba (He.ba (He.ba (He.ba (He.ba (He.ba (He.ba (He.ba (He.ba (He.ba c.s.ex).2).2).2).2).2).2).2).2).2).2).2).2).2).2).2).2).2).2).2).2).2).2).2).2).2).2).2).2).2).2).2).2).2).2).2).2).2).2).2).2).2).2).2).2).2).2).2).2).2).2).2).2).2).1
theorem cc_Ring (c : Ct P K mg) : PySem.W.findIn K (.ref (He.ga K "Ring")) "__class__" = some (some (.builtin "object.__class__")) := He.eqO_ok (He.ba (He.ba (He.ba (He.ba (He.ba (He.ba (He.ba (He.ba (He.ba (He.ba (He.ba (He.ba (He.ba (He.ba (He.ba (He.ba (He.ba (He.ba (He.ba (He.ba (He.ba (He.ba (He.ba (He.ba (He.ba (He.ba (He.ba (He.ba (He.ba (He.ba (He.ba (He.ba (He.ba (He.ba (He.ba (He.ba (He.ba (He.ba (He.ba (He.ba (He.ba (He.ba (He.ba (He.ba (He.ba (He.ba (He.ba (He.ba (He.ba (He.ba (He.ba (He.ba (He.ba (He.ba (He.ba c.s.ex).2).2).2).2).2).2).2).2).2).2).2).2).2).2).2).2).2).2).2).2).2).2).2).2).2).2).2).2).2).2).2).2).2).2).2).2).2).2).2).2).2).2).2).2).2).2).2).2).2).2).2).2).2).2).1
theorem kv_Ring (c : Ct P K mg) : PySem.W.kitOne K (.ref (He.ga K "Ring")) (.type "ValueError") = some true := of_decide_eq_true (He.ba (He.ba (He.ba (He.ba (He.ba (He.ba (He.ba (He.ba (He.ba (He.ba (He.ba (He.ba (He.ba (He.ba (He.ba (He.ba (He.ba (He.ba (He.ba (He.ba (He.ba (He.ba (He.ba (He.ba (He.ba (He.ba (He.ba (He.ba (He.ba (He.ba (He.ba (He.ba (He.ba (He.ba (He.ba (He.ba (He.ba (He.ba (He.ba (He.ba (He.ba (He.ba (He.ba (He.ba (He.ba (He.ba (He.ba (He.ba (He.ba (He.ba (He.ba (He.ba (He.ba (He.ba (He.ba (He.ba c.s.ex).2).2).2).2).2).2).2).2).2).2).2).2).2).2).2).2).2).2).2).2).2).2).2).2).2).2).2).2).2).2).2).2).2).2).2).2).2).2).2).2).2).2).2).2).2).2).2).2).2).2).2).2).2).2).2).1
theorem mo_BadShares (c : Ct P K mg) : PySem.W.mroIn K (He.ga K "BadShares") (.type "object") = some true := of_decide_eq_true (He.ba (He.ba (He.ba (He.ba (He.ba (He.ba (He.ba (He.ba (He.ba (He.ba (He.ba (He.ba (He.ba (He.ba (He.ba (He.ba (He.ba (He.ba (He.ba (He.ba (He.ba (He.ba (He.ba (He.ba (He.ba (He.ba (He.ba (He.ba (He.ba (He.ba (He.ba (He.ba (He.ba (He.ba (He.ba (He.ba (He.ba (He.ba (He.ba (He.ba (He.ba (He.ba (He.ba (He.ba (He.ba (He.ba (He.ba (He.ba (He.ba (He.ba (He.ba (He.ba (He.ba (He.ba (He.ba (He.ba (He.ba c.s.ex).2).2).2).2).2).2).2).2).2).2).2).2).2).2).2).2).2).2).2).2).2).2).2).2).2).2).2).2).2).2).2).2).2).2).2).2).2).2).2).2).2).2).2).2).2).2).2).2).2).2).2).2).2).2).2).2).1
theorem cc_BadShares (c : Ct P K mg) : PySem.W.findIn K (.ref (He.ga K "BadShares")) "__class__" = some (some (.builtin "object.__class__")) := He.eqO_ok (He.ba (He.ba (He.ba (He.ba (He.ba (He.ba (He.ba (He.ba (He.ba (He.ba (He.ba (He.ba (He.ba (He.ba (He.ba (He.ba (He.ba (He.ba (He.ba (He.ba (He.ba (He.ba (He.ba (He.ba (He.ba (He.ba (He.ba (He.ba (He.ba (He.ba (He.ba (He.ba (He.ba (He.ba (He.ba (He.ba (He.ba (He.ba (He.ba (He.ba (He.ba (He.ba (He.ba (He.ba (He.ba (He.ba (He.ba (He.ba (He.ba (He.ba (He.ba (He.ba (He.ba (He.ba (He.ba (He.ba (He.ba (He.ba c.s.ex).2).2).2).2).2).2).2).2).2).2).2).2).2).2).2).2).2).2).2).2).2).2).2).2).2).2).2).2).2).2).2).2).2).2).2).2).2).2).2).2).2).2).2).2).2).2).2).2).2).2).2).2).2).2).2).2).2).1
theorem kv_BadShares (c : Ct P K mg) : PySem.W.kitOne K (.ref (He.ga K "BadShares")) (.type "ValueError") = some true := of_decide_eq_true (He.ba (He.ba (He.ba (He.ba (He.ba (He.ba (He.ba (He.ba (He.ba (He.ba (He.ba (He.ba (He.ba (He.ba (He.ba (He.ba (He.ba (He.ba (He.ba (He.ba (He.ba (He.ba (He.ba (He.ba (He.ba (He.ba (He.ba (He.ba (He.ba (He.ba (He.ba (He.ba (He.ba (He.ba (He.ba (He.ba (He.ba (He.ba (He.ba (He.ba (He.ba (He.ba (He.ba (He.ba (He.ba (He.ba (He.ba (He.ba (He.ba (He.ba (He.ba (He.ba (He.ba (He.ba (He.ba (He.ba (He.ba (He.ba (He.ba c.s.ex).2).2).2).2).2).2).2).2).2).2).2).2).2).2).2).2).2).2).2).2).2).2).2).2).2).2).2).2).2).2).2).2).2).2).2).2).2).2).2).2).2).2).2).2).2).2).2).2).2).2).2).2).2).2).2).2).2).2).1
theorem mo_UnlikeOrders (c : Ct P K mg) : PySem.W.mroIn K (He.ga K "UnlikeOrders") (.type "object") = some true := of_decide_eq_true (He.ba (He.ba (He.ba (He.ba (He.ba (He.ba (He.ba (He.ba (He.ba (He.ba (He.ba (He.ba (He.ba (He.ba (He.ba (He.ba (He.ba (He.ba (He.ba (He.ba (He.ba (He.ba (He.ba (He.ba (He.ba (He.ba (He.ba (He.ba (He.ba (He.ba (He.ba (He.ba (He.ba (He.ba (He.ba (He.ba (He.ba (He.ba (He.ba (He.ba (He.ba (He.ba (He.ba (He.ba (He.ba (He.ba (He.ba (He.ba (He.ba (He.ba (He.ba (He.ba (He.ba (He.ba (He.ba (He.ba (He.ba (He.ba (He.ba (He.ba c.s.ex).2).2).2).2).2).2).2).2).2).2).2).2).2).2).2).2).2).2).2).2).2).2).2).2).2).2).2).2).2).2).2).2).2).2).2).2).2).2).2).2).2).2).2).2).2).2).2).2).2).2).2).2).2).2).2).2).2).2).2).1
theorem cc_UnlikeOrders (c : Ct P K mg) : PySem.W.findIn K (.ref (He.ga K "UnlikeOrders")) "__class__" = some (some (.builtin "object.__class__")) := He.eqO_ok (He.ba (He.ba (He.ba (He.ba (He.ba (He.ba (He.ba (He.ba (He.ba (He.ba (He.ba (He.ba (He.ba (He.ba (He.ba (He.ba (He.ba (He.ba (He.ba (He.ba (He.ba (He.ba (He.ba (He.ba (He.ba (He.ba (He.ba (He.ba (He.ba (He.ba (He.ba (He.ba (He.ba (He.ba (He.ba (He.ba (He.ba (He.ba (He.ba (He.ba (He.ba (He.ba (He.ba (He.ba (He.ba (He.ba (He.ba (He.ba (He.ba (He.ba (He.ba (He.ba (He.ba (He.ba (He.ba (He.ba (He.ba (He.ba (He.ba (He.ba (He.ba c.s.ex).2).2).2).2).2).2).2).2).2).2).2).2).2).2).2).2).2).2).2).2).2).2).2).2).2).2).2).2).2).2).2).2).2).2).2).2).2).2).2).2).2).2).2).2).2).2).2).2).2).2).2).2).2).2).2).2).2).2).2).2).1
theorem kv_UnlikeOrders (c : Ct P K mg) : PySem.W.kitOne K (.ref (He.ga K "UnlikeOrders")) (.type "ValueError") = some true := of_decide_eq_true (He.ba (He.ba (He.ba (He.ba (He.ba (He.ba (He.ba (He.ba (He.ba (He.ba (He.ba (He.ba (He.ba (He.ba (He.ba (He.ba (He.ba (He.ba (He.ba (He.ba (He.ba (He.ba (He.ba (He.ba (He.ba (He.ba (He.ba (He.ba (He.ba (He.ba (He.ba (He.ba (He.ba (He.ba (He.ba (He.ba (He.ba (He.ba (He.ba (He.ba (He.ba (He.ba (He.ba (He.ba (He.ba (He.ba (He.ba (He.ba (He.ba (He.ba (He.ba (He.ba (He.ba (He.ba (He.ba (He.ba (He.ba (He.ba (He.ba (He.ba (He.ba (He.ba c.s.ex).2).2).2).2).2).2).2).2).2).2).2).2).2).2).2).2).2).2).2).2).2).2).2).2).2).2).2).2).2).2).2).2).2).2).2).2).2).2).2).2).2).2).2).2).2).2).2).2).2).2).2).2).2).2).2).2).2).2).2).2).2).1
theorem mo_NotRising (c : Ct P K mg) : PySem.W.mroIn K (He.ga K "NotRising") (.type "object") = some true := of_decide_eq_true (He.ba (He.ba (He.ba (He.ba (He.ba (He.ba (He.ba (He.ba (He.ba (He.ba (He.ba (He.ba (He.ba (He.ba (He.ba (He.ba (He.ba (He.ba (He.ba (He.ba (He.ba (He.ba (He.ba (He.ba (He.ba (He.ba (He.ba (He.ba (He.ba (He.ba (He.ba (He.ba (He.ba (He.ba (He.ba (He.ba (He.ba (He.ba (He.ba (He.ba (He.ba (He.ba (He.ba (He.ba (He.ba (He.ba (He.ba (He.ba (He.ba (He.ba (He.ba (He.ba (He.ba (He.ba (He.ba (He.ba (He.ba (He.ba (He.ba (He.ba (He.ba (He.ba (He.ba c.s.ex).2).2).2).2).2).2).2).2).2).2).2).2).2).2).2).2).2).2).2).2).2).2).2).2).2).2).2).2).2).2).2).2).2).2).2).2).2).2).2).2).2).2).2).2).2).2).2).2).2).2).2).2).2).2).2).2).2).2).2).2).2).2).1
theorem cc_NotRising (c : Ct P K mg) : PySem.W.findIn K (.ref (He.ga K "NotRising")) "__class__" = some (some (.builtin "object.__class__")) := He.eqO_ok (He.ba (He.ba (He.ba (He.ba (He.ba (He.ba (He.ba (He.ba (He.ba (He.ba (He.ba (He.ba (He.ba (He.ba (He.ba (He.ba (He.ba (He.ba (He.ba (He.ba (He.ba (He.ba (He.ba (He.ba (He.ba (He.ba (He.ba (He.ba (He.ba (He.ba (He.ba (He.ba (He.ba (He.ba (He.ba (He.ba (He.ba (He.ba (He.ba (He.ba (He.ba (He.ba (He.ba (He.ba (He.ba (He.ba (He.ba (He.ba (He.ba (He.ba (He.ba (He.ba (He.ba (He.ba (He.ba (He.ba (He.ba (He.ba (He.ba (He.ba (He.ba (He.ba (He.ba (He.ba c.s.ex).2).2).2).2).2).2).2).2).2).2).2).2).2).2).2).2).2).2).2).2).2).2).2).2).2).2).2).2).2).2).2).2).2).2).2).2).2).2).2).2).2).2).2).2).2).2).2).2).2).2).2).2).2).2).2).2).2).2).2).2).2).2).2).1
theorem kv_NotRising (c : Ct P K mg) : PySem.W.kitOne K (.ref (He.ga K "NotRising")) (.type "ValueError") = some true := of_decide_eq_true (He.ba (He.ba (He.ba (He.ba (He.ba (He.ba (He.ba (He.ba (He.ba (He.ba (He.ba (He.ba (He.ba (He.ba (He.ba (He.ba (He.ba (He.ba (He.ba (He.ba (He.ba (He.ba (He.ba (He.ba (He.ba (He.ba (He.ba (He.ba (He.ba (He.ba (He.ba (He.ba (He.ba (He.ba (He.ba (He.ba (He.ba (He.ba (He.ba (He.ba (He.ba (He.ba (He.ba (He.ba (He.ba (He.ba (He.ba (He.ba (He.ba (He.ba (He.ba (He.ba (He.ba (He.ba (He.ba (He.ba (He.ba (He.ba (He.ba (He.ba (He.ba (He.ba (He.ba (He.ba (He.ba c.s.ex).2).2).2).2).2).2).2).2).2).2).2).2).2).2).2).2).2).2).2).2).2).2).2).2).2).2).2).2).2).2).2).2).2).2).2).2).2).2).2).2).2).2).2).2).2).2).2).2).2).2).2).2).2).2).2).2).2).2).2).2).2).2).2).2).1
theorem mo_NoThrow (c : Ct P K mg) : PySem.W.mroIn K (He.ga K "NoThrow") (.type "object") = some true := of_decide_eq_true (He.ba (He.ba (He.ba (He.ba (He.ba (He.ba (He.ba (He.ba (He.ba (He.ba (He.ba (He.ba (He.ba (He.ba (He.ba (He.ba (He.ba (He.ba (He.ba (He.ba (He.ba (He.ba (He.ba (He.ba (He.ba (He.ba (He.ba (He.ba (He.ba (He.ba (He.ba (He.ba (He.ba (He.ba (He.ba (He.ba (He.ba (He.ba (He.ba (He.ba (He.ba (He.ba (He.ba (He.ba (He.ba (He.ba (He.ba (He.ba (He.ba (He.ba (He.ba (He.ba (He.ba (He.ba (He.ba (He.ba (He.ba (He.ba (He.ba (He.ba (He.ba (He.ba (He.ba (He.ba (He.ba (He.ba c.s.ex).2).2).2).2).2).2).2).2).2).2).2).2).2).2).2).2).2).2).2).2).2).2).2).2).2).2).2).2).2).2).2).2).2).2).2).2).2).2).2).2).2).2).2).2).2).2).2).2).2).2).2).2).2).2).2).2).2).2).2).2).2).2).2).2).2).1
theorem cc_NoThrow (c : Ct P K mg) : PySem.W.findIn K (.ref (He.ga K "NoThrow")) "__class__" = some (some (.builtin "object.__class__")) := He.eqO_ok (He.ba (He.ba (He.ba (He.ba (He.ba (He.ba (He.ba (He.ba (He.ba (He.ba (He.ba (He.ba (He.ba (He.ba (He.ba (He.ba (He.ba (He.ba (He.ba (He.ba (He.ba (He.ba (He.ba (He.ba (He.ba (He.ba (He.ba (He.ba (He.ba (He.ba (He.ba (He.ba (He.ba (He.ba (He.ba (He.ba (He.ba (He.ba (He.ba (He.ba (He.ba (He.ba (He.ba (He.ba (He.ba (He.ba (He.ba (He.ba (He.ba (He.ba (He.ba (He.ba (He.ba (He.ba (He.ba (He.ba (He.ba (He.ba (He.ba (He.ba (He.ba (He.ba (He.ba (He.ba (He.ba (He.ba (He.ba c.s.ex).2).2).2).2).2).2).2).2).2).2).2).2).2).2).2).2).2).2).2).2).2).2).2).2).2).2).2).2).2).2).2).2).2).2).2).2).2).2).2).2).2).2).2).2).2).2).2).2).2).2).2).2).2).2).2).2).2).2).2).2).2).2).2).2).2).2).1
theorem kv_NoThrow (c : Ct P K mg) : PySem.W.kitOne K (.ref (He.ga K "NoThrow")) (.type "ValueError") = some true := of_decide_eq_true (He.ba (He.ba (He.ba (He.ba (He.ba (He.ba (He.ba (He.ba (He.ba (He.ba (He.ba (He.ba (He.ba (He.ba (He.ba (He.ba (He.ba (He.ba (He.ba (He.ba (He.ba (He.ba (He.ba (He.ba (He.ba (He.ba (He.ba (He.ba (He.ba (He.ba (He.ba (He.ba (He.ba (He.ba (He.ba (He.ba (He.ba (He.ba (He.ba (He.ba (He.ba (He.ba (He.ba (He.ba (He.ba (He.ba (He.ba (He.ba (He.ba (He.ba (He.ba (He.ba (He.ba (He.ba (He.ba (He.ba (He.ba (He.ba (He.ba (He.ba (He.ba (He.ba (He.ba (He.ba (He.ba (He.ba (He.ba (He.ba c.s.ex).2).2).2).2).2).2).2).2).2).2).2).2).2).2).2).2).2).2).2).2).2).2).2).2).2).2).2).2).2).2).2).2).2).2).2).2).2).2).2).2).2).2).2).2).2).2).2).2).2).2).2).2).2).2).2).2).2).2).2).2).2).2).2).2).2).2).2).1
theorem mo_HasRing (c : Ct P K mg) : PySem.W.mroIn K (He.ga K "HasRing") (.type "object") = some true := of_decide_eq_true (He.ba (He.ba (He.ba (He.ba (He.ba (He.ba (He.ba (He.ba (He.ba (He.ba (He.ba (He.ba (He.ba (He.ba (He.ba (He.ba (He.ba (He.ba (He.ba (He.ba (He.ba (He.ba (He.ba (He.ba (He.ba (He.ba (He.ba (He.ba (He.ba (He.ba (He.ba (He.ba (He.ba (He.ba (He.ba (He.ba (He.ba (He.ba (He.ba (He.ba (He.ba (He.ba (He.ba (He.ba (He.ba (He.ba (He.ba (He.ba (He.ba (He.ba (He.ba (He.ba (He.ba (He.ba (He.ba (He.ba (He.ba (He.ba (He.ba (He.ba (He.ba (He.ba (He.ba (He.ba (He.ba (He.ba (He.ba (He.ba (He.ba c.s.ex).2).2).2).2).2).2).2).2).2).2).2).2).2).2).2).2).2).2).2).2).2).2).2).2).2).2).2).2).2).2).2).2).2).2).2).2).2).2).2).2).2).2).2).2).2).2).2).2).2).2).2).2).2).2).2).2).2).2).2).2).2).2).2).2).2).2).2).2).1
theorem cc_HasRing (c : Ct P K mg) : PySem.W.findIn K (.ref (He.ga K "HasRing")) "__class__" = some (some (.builtin "object.__class__")) := He.eqO_ok (He.ba (He.ba (He.ba (He.ba (He.ba (He.ba (He.ba (He.ba (He.ba (He.ba (He.ba (He.ba (He.ba (He.ba (He.ba (He.ba (He.ba (He.ba (He.ba (He.ba (He.ba (He.ba (He.ba (He.ba (He.ba (He.ba (He.ba (He.ba (He.ba (He.ba (He.ba (He.ba (He.ba (He.ba (He.ba (He.ba (He.ba (He.ba (He.ba (He.ba (He.ba (He.ba (He.ba (He.ba (He.ba (He.ba (He.ba (He.ba (He.ba (He.ba (He.ba (He.ba (He.ba (He.ba (He.ba (He.ba (He.ba (He.ba (He.ba (He.ba (He.ba (He.ba (He.ba (He.ba (He.ba (He.ba (He.ba (He.ba (He.ba (He.ba c.s.ex).2).2).2).2).2).2).2).2).2).2).2).2).2).2).2).2).2).2).2).2).2).2).2).2).2).2).2).2).2).2).2).2).2).2).2).2).2).2).2).2).2).2).2).2).2).2).2).2).2).2).2).2).2).2).2).2).2).2).2).2).2).2).2).2).2).2).2).2).2).1
theorem kv_HasRing (c : Ct P K mg) : PySem.W.kitOne K (.ref (He.ga K "HasRing")) (.type "ValueError") = some true := of_decide_eq_true (He.ba (He.ba (He.ba (He.ba (He.ba (He.ba (He.ba (He.ba (He.ba (He.ba (He.ba (He.ba (He.ba (He.ba (He.ba (He.ba (He.ba (He.ba (He.ba (He.ba (He.ba (He.ba (He.ba (He.ba (He.ba (He.ba (He.ba (He.ba (He.ba (He.ba (He.ba (He.ba (He.ba (He.ba (He.ba (He.ba (He.ba (He.ba (He.ba (He.ba (He.ba (He.ba (He.ba (He.ba (He.ba (He.ba (He.ba (He.ba (He.ba (He.ba (He.ba (He.ba (He.ba (He.ba (He.ba (He.ba (He.ba (He.ba (He.ba (He.ba (He.ba (He.ba (He.ba (He.ba (He.ba (He.ba (He.ba (He.ba (He.ba (He.ba (He.ba c.s.ex).2).2).2).2).2).2).2).2).2).2).2).2).2).2).2).2).2).2).2).2).2).2).2).2).2).2).2).2).2).2).2).2).2).2).2).2).2).2).2).2).2).2).2).2).2).2).2).2).2).2).2).2).2).2).2).2).2).2).2).2).2).2).2).2).2).2).2).2).2).2).1
theorem mo_NoRing (c : Ct P K mg) : PySem.W.mroIn K (He.ga K "NoRing") (.type "object") = some true := of_decide_eq_true (He.ba (He.ba (He.ba (He.ba (He.ba (He.ba (He.ba (He.ba (He.ba (He.ba (He.ba (He.ba (He.ba (He.ba (He.ba (He.ba (He.ba (He.ba (He.ba (He.ba (He.ba (He.ba (He.ba (He.ba (He.ba (He.ba (He.ba (He.ba (He.ba (He.ba (He.ba (He.ba (He.ba (He.ba (He.ba (He.ba (He.ba (He.ba (He.ba (He.ba (He.ba (He.ba (He.ba (He.ba (He.ba (He.ba (He.ba (He.ba (He.ba (He.ba (He.ba (He.ba (He.ba (He.ba (He.ba (He.ba (He.ba (He.ba (He.ba (He.ba (He.ba (He.ba (He.ba (He.ba (He.ba (He.ba (He.ba (He.ba (He.ba (He.ba (He.ba (He.ba c.s.ex).2).2).2).2).2).2).2).2).2).2).2).2).2).2).2).2).2).2).2).2).2).2).2).2).2).2).2).2).2).2).2).2).2).2).2).2).2).2).2).2).2).2).2).2).2).2).2).2).2).2).2).2).2).2).2).2).2).2).2).2).2).2).2).2).2).2).2).2).2).2).2).1
theorem cc_NoRing (c : Ct P K mg) : PySem.W.findIn K (.ref (He.ga K "NoRing")) "__class__" = some (some (.builtin "object.__class__")) := He.eqO_ok (He.ba (He.ba (He.ba (He.ba (He.ba (He.ba (He.ba (He.ba (He.ba (He.ba (He.ba (He.ba (He.ba (He.ba (He.ba (He.ba (He.ba (He.ba (He.ba (He.ba (He.ba (He.ba (He.ba (He.ba (He.ba (He.ba (He.ba (He.ba (He.ba (He.ba (He.ba (He.ba (He.ba (He.ba (He.ba (He.ba (He.ba (He.ba (He.ba (He.ba (He.ba (He.ba (He.ba (He.ba (He.ba (He.ba (He.ba (He.ba (He.ba (He.ba (He.ba (He.ba (He.ba (He.ba (He.ba (He.ba (He.ba (He.ba (He.ba (He.ba (He.ba (He.ba (He.ba (He.ba (He.ba (He.ba (He.ba (He.ba (He.ba (He.ba (He.ba (He.ba (He.ba c.s.ex).2).2).2).2).2).2).2).2).2).2).2).2).2).2).2).2).2).2).2).2).2).2).2).2).2).2).2).2).2).2).2).2).2).2).2).2).2).2).2).2).2).2).2).2).2).2).2).2).2).2).2).2).2).2).2).2).2).2).2).2).2).2).2).2).2).2).2).2).2).2).2).2).1
theorem kv_NoRing (c : Ct P K mg) : PySem.W.kitOne K (.ref (He.ga K "NoRing")) (.type "ValueError") = some true := of_decide_eq_true (He.ba (He.ba (He.ba (He.ba (He.ba (He.ba (He.ba (He.ba (He.ba (He.ba (He.ba (He.ba (He.ba (He.ba (He.ba (He.ba (He.ba (He.ba (He.ba (He.ba (He.ba (He.ba (He.ba (He.ba (He.ba (He.ba (He.ba (He.ba (He.ba (He.ba (He.ba (He.ba (He.ba (He.ba (He.ba (He.ba (He.ba (He.ba (He.ba (He.ba (He.ba (He.ba (He.ba (He.ba (He.ba (He.ba (He.ba (He.ba (He.ba (He.ba (He.ba (He.ba (He.ba (He.ba (He.ba (He.ba (He.ba (He.ba (He.ba (He.ba (He.ba (He.ba (He.ba (He.ba (He.ba (He.ba (He.ba (He.ba (He.ba (He.ba (He.ba (He.ba (He.ba (He.ba c.s.ex).2).2).2).2).2).2).2).2).2).2).2).2).2).2).2).2).2).2).2).2).2).2).2).2).2).2).2).2).2).2).2).2).2).2).2).2).2).2).2).2).2).2).2).2).2).2).2).2).2).2).2).2).2).2).2).2).2).2).2).2).2).2).2).2).2).2).2).2).2).2).2).2).2).1
theorem mo_NothingToUndo (c : Ct P K mg) : PySem.W.mroIn K (He.ga K "NothingToUndo") (.type "object") = some true := of_decide_eq_true (He.ba (He.ba (He.ba (He.ba (He.ba (He.ba (He.ba (He.ba (He.ba (He.ba (He.ba (He.ba (He.ba (He.ba (He.ba (He.ba (He.ba (He.ba (He.ba (He.ba (He.ba (He.ba (He.ba (He.ba (He.ba (He.ba (He.ba (He.ba (He.ba (He.ba (He.ba (He.ba (He.ba (He.ba (He.ba (He.ba (He.ba (He.ba (He.ba (He.ba (He.ba (He.ba (He.ba (He.ba (He.ba (He.ba (He.ba (He.ba (He.ba (He.ba (He.ba (He.ba (He.ba (He.ba (He.ba (He.ba (He.ba (He.ba (He.ba (He.ba (He.ba (He.ba (He.ba (He.ba (He.ba (He.ba (He.ba (He.ba (He.ba (He.ba (He.ba (He.ba (He.ba (He.ba (He.ba c.s.ex).2).2).2).2).2).2).2).2).2).2).2).2).2).2).2).2).2).2).2).2).2).2).2).2).2).2).2).2).2).2).2).2).2).2).2).2).2).2).2).2).2).2).2).2).2).2).2).2).2).2).2).2).2).2).2).2).2).2).2).2).2).2).2).2).2).2).2).2).2).2).2).2).2).2).1
theorem cc_NothingToUndo (c : Ct P K mg) : PySem.W.findIn K (.ref (He.ga K "NothingToUndo")) "__class__" = some (some (.builtin "object.__class__")) := He.eqO_ok (He.ba (He.ba (He.ba (He.ba (He.ba (He.ba (He.ba (He.ba (He.ba (He.ba (He.ba (He.ba (He.ba (He.ba (He.ba (He.ba (He.ba (He.ba (He.ba (He.ba (He.ba (He.ba (He.ba (He.ba (He.ba (He.ba (He.ba (He.ba (He.ba (He.ba (He.ba (He.ba (He.ba (He.ba (He.ba (He.ba (He.ba (He.ba (He.ba (He.ba (He.ba (He.ba (He.ba (He.ba (He.ba (He.ba (He.ba (He.ba (He.ba (He.ba (He.ba (He.ba (He.ba (He.ba (He.ba (He.ba (He.ba (He.ba (He.ba (He.ba (He.ba (He.ba (He.ba (He.ba (He.ba (He.ba (He.ba (He.ba (He.ba (He.ba (He.ba (He.ba (He.ba (He.ba (He.ba (He.ba c.s.ex).2).2).2).2).2).2).2).2).2).2).2).2).2).2).2).2).2).2).2).2).2).2).2).2).2).2).2).2).2).2).2).2).2).2).2).2).2).2).2).2).2).2).2).2).2).2).2).2).2).2).2).2).2).2).2).2).2).2).2).2).2).2).2).2).2).2).2).2).2).2).2).2).2).2).2).1
theorem kv_NothingToUndo (c : Ct P K mg) : PySem.W.kitOne K (.ref (He.ga K "NothingToUndo")) (.type "ValueError") = some true := of_decide_eq_true (He.ba (He.ba (He.ba (He.ba (He.ba (He.ba (He.ba (He.ba (He.ba (He.ba (He.ba (He.ba (He.ba (He.ba (He.ba (He.ba (He.ba (He.ba (He.ba (He.ba (He.ba (He.ba (He.ba (He.ba (He.ba (He.ba (He.ba (He.ba (He.ba (He.ba (He.ba (He.ba (He.ba (He.ba (He.ba (He.ba (He.ba (He.ba (He.ba (He.ba (He.ba (He.ba (He.ba (He.ba (He.ba (He.ba (He.ba (He.ba (He.ba (He.ba (He.ba (He.ba (He.ba (He.ba (He.ba (He.ba (He.ba (He.ba (He.ba (He.ba (He.ba (He.ba (He.ba (He.ba (He.ba (He.ba (He.ba (He.ba (He.ba (He.ba (He.ba (He.ba (He.ba (He.ba (He.ba (He.ba (He.ba c.s.ex).2).2).2).2).2).2).2).2).2).2).2).2).2).2).2).2).2).2).2).2).2).2).2).2).2).2).2).2).2).2).2).2).2).2).2).2).2).2).2).2).2).2).2).2).2).2).2).2).2).2).2).2).2).2).2).2).2).2).2).2).2).2).2).2).2).2).2).2).2).2).2).2).2).2).2).2).1
theorem ins_Order (c : Ct P K mg) : InsT K (He.ga K "Order") := ⟨cls_Order c, cc_Order c, He.eqO_ok (He.ba (He.ba (He.ba (He.ba (He.ba (He.ba (He.ba (He.ba (He.ba (He.ba (He.ba (He.ba (He.ba (He.ba (He.ba (He.ba (He.ba (He.ba (He.ba (He.ba (He.ba (He.ba (He.ba (He.ba (He.ba (He.ba (He.ba (He.ba (He.ba (He.ba (He.ba (He.ba (He.ba (He.ba (He.ba (He.ba (He.ba (He.ba (He.ba (He.ba (He.ba (He.ba (He.ba (He.ba (He.ba (He.ba (He.ba (He.ba (He.ba (He.ba (He.ba (He.ba (He.ba (He.ba (He.ba (He.ba (He.ba (He.ba (He.ba (He.ba (He.ba (He.ba (He.ba (He.ba (He.ba (He.ba (He.ba (He.ba (He.ba (He.ba (He.ba (He.ba (He.ba (He.ba (He.ba (He.ba (He.ba (He.ba c.s.ex).2).2).2).2).2).2).2).2).2).2).2).2).2).2).2).2).2).2).2).2).2).2).2).2).2).2).2).2).2).2).2).2).2).2).2).2).2).2).2).2).2).2).2).2).2).2).2).2).2).2).2).2).2).2).2).2).2).2).2).2).2).2).2).2).2).2).2).2).2).2).2).2).2).2).2).2).2).1, of_decide_eq_true (He.ba (He.ba (He.ba (He.ba (He.ba (He.ba (He.ba (He.ba (He.ba (He.ba (He.ba (He.ba (He.ba (He.ba (He.ba (He.ba (He.ba (He.ba (He.ba (He.ba (He.ba (He.ba (He.ba (He.ba (He.ba (He.ba (He.ba (He.ba (He.ba (He.ba (He.ba (He.ba (He.ba (He.ba (He.ba (He.ba (He.ba (He.ba (He.ba (He.ba (He.ba (He.ba (He.ba (He.ba (He.ba (He.ba (He.ba (He.ba (He.ba (He.ba (He.ba (He.ba (He.ba (He.ba (He.ba (He.ba (He.ba (He.ba (He.ba (He.ba (He.ba (He.ba (He.ba (He.ba (He.ba (He.ba (He.ba (He.ba (He.ba (He.ba (He.ba (He.ba (He.ba (He.ba (He.ba (He.ba (He.ba (He.ba c.s.ex).2).2).2).2).2).2).2).2).2).2).2).2).2).2).2).2).2).2).2).2).2).2).2).2).2).2).2).2).2).2).2).2).2).2).2).2).2).2).2).2).2).2).2).2).2).2).2).2).2).2).2).2).2).2).2).2).2).2).2).2).2).2).2).2).2).2).2).2).2).2).2).2).2).2).2).2).2).2, mo_Order c⟩
theorem kit_Order (c : Ct P K mg) : PySem.W.kitOne K (.ref (He.ga K "Order")) (.ref (He.ga K "Order")) = some true := by unfold PySem.W.kitOne; simp
theorem ins_Ratio (c : Ct P K mg) : InsT K (He.ga K "Ratio") := ⟨cls_Ratio c, cc_Ratio c, He.eqO_ok (He.ba (He.ba (He.ba (He.ba (He.ba (He.ba (He.ba (He.ba (He.ba (He.ba (He.ba (He.ba (He.ba (He.ba (He.ba (He.ba (He.ba (He.ba (He.ba (He.ba (He.ba (He.ba (He.ba (He.ba (He.ba (He.ba (He.ba (He.ba (He.ba (He.ba (He.ba (He.ba (He.ba (He.ba (He.ba (He.ba (He.ba (He.ba (He.ba (He.ba (He.ba (He.ba (He.ba (He.ba (He.ba (He.ba (He.ba (He.ba (He.ba (He.ba (He.ba (He.ba (He.ba (He.ba (He.ba (He.ba (He.ba (He.ba (He.ba (He.ba (He.ba (He.ba (He.ba (He.ba (He.ba (He.ba (He.ba (He.ba (He.ba (He.ba (He.ba (He.ba (He.ba (He.ba (He.ba (He.ba (He.ba (He.ba c.s.ex).2).2).2).2).2).2).2).2).2).2).2).2).2).2).2).2).2).2).2).2).2).2).2).2).2).2).2).2).2).2).2).2).2).2).2).2).2).2).2).2).2).2).2).2).2).2).2).2).2).2).2).2).2).2).2).2).2).2).2).2).2).2).2).2).2).2).2).2).2).2).2).2).2).2).2).2).2).1, of_decide_eq_true (He.ba (He.ba (He.ba (He.ba (He.ba (He.ba (He.ba (He.ba (He.ba (He.ba (He.ba (He.ba (He.ba (He.ba (He.ba (He.ba (He.ba (He.ba (He.ba (He.ba (He.ba (He.ba (He.ba (He.ba (He.ba (He.ba (He.ba (He.ba (He.ba (He.ba (He.ba (He.ba (He.ba (He.ba (He.ba (He.ba (He.ba (He.ba (He.ba (He.ba (He.ba (He.ba (He.ba (He.ba (He.ba (He.ba (He.ba (He.ba (He.ba (He.ba (He.ba (He.ba (He.ba (He.ba (He.ba (He.ba (He.ba (He.ba (He.ba (He.ba (He.ba (He.ba (He.ba (He.ba (He.ba (He.ba (He.ba (He.ba (He.ba (He.ba (He.ba (He.ba (He.ba (He.ba (He.ba (He.ba (He.ba (He.ba c.s.ex).2).2).2).2).2).2).2).2).2).2).2).2).2).2).2).2).2).2).2).2).2).2).2).2).2).2).2).2).2).2).2).2).2).2).2).2).2).2).2).2).2).2).2).2).2).2).2).2).2).2).2).2).2).2).2).2).2).2).2).2).2).2).2).2).2).2).2).2).2).2).2).2).2).2).2).2).2).2, mo_Ratio c⟩
theorem kit_Ratio (c : Ct P K mg) : PySem.W.kitOne K (.ref (He.ga K "Ratio")) (.ref (He.ga K "Ratio")) = some true := by unfold PySem.W.kitOne; simp
end
end K01
namespace OW
open PySem PySem.Spec PyProof.Rows L2 OT

structure Ord where
  names : List Str
  above : List (Str × List Str)
deriving DecidableEq
structure Rt where
  top : Int
  bottom : Int
deriving DecidableEq
inductive Er where
  | badNumber (n : Int)
  | badNumberR (q : Rt)
  | badText (n : Int)
  | badName (s : Str)
  | dup (s : Str)
  | unknown (s : Str)
  | ring (l : List Str)
  | badShares (q : Rt)
  | unlike (a b : Ord)
  | notRising (a b : Str) (l : List Str)
  | noThrow
  | hasRing (l : List Str)
  | noRing
  | nothing

abbrev Wp (α : Type) := (α → Prop) → (Er → Prop) → Prop
namespace W
abbrev ret {α : Type} (a : α) : Wp α := fun Q _ => Q a
abbrev bind {α β : Type} (w : Wp α) (k : α → Wp β) : Wp β := fun Q E => w (fun a => k a Q E) E
abbrev grd {α : Type} (P : Prop) (a : α) : Wp α := fun Q _ => P ∧ Q a
abbrev any {α : Type} (P : α → Prop) : Wp α := fun Q _ => ∀ a, P a → Q a
abbrev bad {α : Type} (x : Er) : Wp α := fun _ E => E x
def run {α : Type} (w : Wp α) (Z : Er → Prop) (p : α → Prop) : Prop := w p Z
def lt {α : Type} (a : α) (p : α → Prop) : Prop := p a
def ite (b : Bool) (p q : Prop) : Prop := (b = true → p) ∧ (b = false → q)
def jn {τ : Type} (k : τ → Prop) (p : (τ → Prop) → Prop) : Prop := p k
def loop {α τ : Type} (b : α → τ → (τ → Prop) → Prop) (k : τ → Prop) : List α → τ → Prop
  | [], s => k s
  | x :: xs, s => b x s fun s' => loop b k xs s'
def whileN {τ : Type} (Z : Er → Prop) (c : τ → Wp Bool) (b : τ → (τ → Prop) → Prop) (k : τ → Prop) : Nat → τ → Prop
  | 0, _ => False
  | n + 1, s => c s (fun t => ite t (b s fun s' => whileN Z c b k n s') (k s)) Z
def whil {τ : Type} (Z : Er → Prop) (c : τ → Wp Bool) (b : τ → (τ → Prop) → Prop) (k : τ → Prop) (s : τ) : Prop := ∃ n, whileN Z c b k n s
end W

structure OP where
  R : Hp → Hp → List Addr → V → Prop
  fr : ∀ {S S' H H' : Hp} {A : List Addr} {v : V}, Same S S' → (∀ a ∈ A, H' a = H a) → R S H A v → R S' H' A v
abbrev Om := List (V × OP)
def OwnL (S H : Hp) : Om → List Addr → Prop
  | [], A => A = []
  | x :: O, A => ∃ A1 A2, A = A1 ++ A2 ∧ x.2.R S H A1 x.1 ∧ OwnL S H O A2
theorem OwnL.fr {S S' H H' : Hp} (e : Same S S') : ∀ {O : Om} {A : List Addr}, (∀ a ∈ A, H' a = H a) → OwnL S H O A → OwnL S' H' O A
  | [], _, _, h => h
  | x :: O, _, hA, ⟨A1, A2, z, h2, h3⟩ => by
    subst z
    exact ⟨A1, A2, rfl, x.2.fr e (fun a ha => hA a (List.mem_append_left _ ha)) h2, OwnL.fr e (fun a ha => hA a (List.mem_append_right _ ha)) h3⟩
theorem OwnL.perm {S H : Hp} {O O' : Om} (p : O.Perm O') : ∀ {A : List Addr}, OwnL S H O A → ∃ A', A.Perm A' ∧ OwnL S H O' A' := by
  induction p with
  | nil => exact fun h => ⟨_, .refl _, h⟩
  | cons x _ ih =>
    rintro A ⟨A1, A2, rfl, h2, h3⟩
    obtain ⟨A', p', h'⟩ := ih h3
    exact ⟨A1 ++ A', p'.append_left _, A1, A', rfl, h2, h'⟩
  | swap x y l =>
    rintro A ⟨A1, A2, rfl, h2, A3, A4, rfl, h4, h5⟩
    refine ⟨A3 ++ (A1 ++ A4), ?_, A3, A1 ++ A4, rfl, h4, A1, A4, rfl, h2, h5⟩
    rw [← List.append_assoc, ← List.append_assoc]
    exact List.perm_append_comm.append_right _
  | trans _ _ ih1 ih2 =>
    intro A h
    obtain ⟨A1, p1, h1⟩ := ih1 h
    obtain ⟨A2, p2, h2⟩ := ih2 h1
    exact ⟨A2, p1.trans p2, h2⟩
theorem OwnL.sub {S H : Hp} {O O' : Om} (p : O'.Sublist O) : ∀ {A : List Addr}, OwnL S H O A → ∃ A', A'.Sublist A ∧ OwnL S H O' A' := by
  induction p with
  | slnil => exact fun h => ⟨_, .refl _, h⟩
  | cons x _ ih =>
    rintro A ⟨A1, A2, rfl, h2, h3⟩
    obtain ⟨A', p', h'⟩ := ih h3
    exact ⟨A', p'.trans (List.sublist_append_right _ _), h'⟩
  | cons_cons x _ ih =>
    rintro A ⟨A1, A2, rfl, h2, h3⟩
    obtain ⟨A', p', h'⟩ := ih h3
    exact ⟨A1 ++ A', p'.append_left _, A1, A', rfl, h2, h'⟩
theorem OwnL.append {S H : Hp} : ∀ {O O' : Om} {A A' : List Addr}, OwnL S H O A → OwnL S H O' A' → OwnL S H (O ++ O') (A ++ A')
  | [], _, _, _, h, h' => by cases h; exact h'
  | x :: O, _, _, _, ⟨A1, A2, e, h2, h3⟩, h' => ⟨A1, A2 ++ _, by rw [e, List.append_assoc], h2, OwnL.append h3 h'⟩
theorem OwnL.split {S H : Hp} : ∀ {O O' : Om} {A : List Addr}, OwnL S H (O ++ O') A → ∃ A1 A2, A = A1 ++ A2 ∧ OwnL S H O A1 ∧ OwnL S H O' A2
  | [], _, A, h => ⟨[], A, rfl, rfl, h⟩
  | x :: O, _, _, ⟨A1, A2, e, h2, h3⟩ => by
    obtain ⟨A3, A4, e2, h4, h5⟩ := OwnL.split h3
    exact ⟨A1 ++ A3, A4, by rw [e, e2, List.append_assoc], ⟨A1, A3, rfl, h2, h4⟩, h5⟩
structure Stt (B : Bs) (Γ : Gm) (O : Om) (S H : Hp) (σ : L2.St) : Prop where
  st : Stp B.S B.H S H
  slot : ∀ (i : Nat) (R : MP), Γ[i]? = some (some R) → ∃ v, σ[i]? = some (some v) ∧ R.R S v
  len : σ.length = Γ.length
  own : ∃ A : List Addr, A.Nodup ∧ (∀ a ∈ A, S a = none ∧ B.H a = none ∧ H a ≠ none) ∧ OwnL S H O A
  gh : B.P.R S
section
variable {B : Bs} {Γ : Gm} {O O' : Om} {S H S' H' : Hp} {σ : L2.St}
theorem Stt.sub (t : Stt B Γ O S H σ) : Same S H := t.st.i
theorem Stt.step (t : Stt B Γ O S H σ) (e : Stp S H S' H') : Stt B Γ O S' H' σ where
  st := t.st.trans e
  slot := fun i R h => let ⟨v, h1, h2⟩ := t.slot i R h; ⟨v, h1, R.up e.s h2⟩
  len := t.len
  own := by
    obtain ⟨A, nd, hA, h⟩ := t.own
    have eq : ∀ a ∈ A, H' a = H a := fun a ha => by
      cases z : H a with
      | none => exact absurd z (hA a ha).2.2
      | some o => exact e.h a o z
    exact ⟨A, nd, fun a ha => ⟨e.fr a (hA a ha).1 (hA a ha).2.2, (hA a ha).2.1, by rw [eq a ha]; exact (hA a ha).2.2⟩, h.fr e.s eq⟩
  gh := B.P.up e.s t.gh
theorem Stt.perm (t : Stt B Γ O S H σ) (p : O.Perm O') : Stt B Γ O' S H σ := by
  obtain ⟨A, nd, hA, h⟩ := t.own
  obtain ⟨A', p', h'⟩ := h.perm p
  exact ⟨t.st, t.slot, t.len, ⟨A', p'.nodup_iff.mp nd, fun a ha => hA a (p'.mem_iff.mpr ha), h'⟩, t.gh⟩
theorem Stt.drop (t : Stt B Γ O S H σ) (p : O'.Sublist O) : Stt B Γ O' S H σ := by
  obtain ⟨A, nd, hA, h⟩ := t.own
  obtain ⟨A', p', h'⟩ := h.sub p
  exact ⟨t.st, t.slot, t.len, ⟨A', p'.nodup nd, fun a ha => hA a (p'.subset ha), h'⟩, t.gh⟩
theorem Stt.set {i : Nat} {R : MP} {v : V} (t : Stt B Γ O S H σ) (h : R.R S v) (hi : i < Γ.length) : Stt B (Γ.set i (some R)) O S H (σ.set i (some v)) where
  st := t.st
  slot := fun j Q e => by
    by_cases q : i = j
    · subst q
      rw [List.getElem?_set_self (by exact hi)] at e
      have e2 : R = Q := Option.some.inj (Option.some.inj e)
      subst e2
      exact ⟨v, by rw [List.getElem?_set_self (by rw [t.len]; exact hi)], h⟩
    · rw [List.getElem?_set_ne q] at e
      obtain ⟨w, h1, h2⟩ := t.slot j Q e
      exact ⟨w, by rw [List.getElem?_set_ne q]; exact h1, h2⟩
  len := by rw [List.length_set, List.length_set]; exact t.len
  own := t.own
  gh := t.gh
theorem Stt.forget {Γ' : Gm} (t : Stt B Γ O S H σ) (h : Gle Γ' Γ) : Stt B Γ' O S H σ :=
  ⟨t.st, fun i R e => t.slot i R (h.get i R e), t.len.trans h.len.symm, t.own, t.gh⟩
theorem Stt.ghost {G : Gho} (t : Stt B Γ O S H σ) (g : G.R S) : Stt (B.add G) Γ O S H σ := ⟨t.st, t.slot, t.len, t.own, t.gh, g⟩
theorem Stt.plain {G : Gho} (t : Stt (B.add G) Γ O S H σ) : Stt B Γ O S H σ := ⟨t.st, t.slot, t.len, t.own, t.gh.1⟩
theorem Stt.add {p : Addr} {o : HO} {P : OP} (t : Stt B Γ O S H σ) (hp : H p = none) (hm : P.R S (upd H p o) [p] (.ref p)) : Stt B Γ ((.ref p, P) :: O) S (upd H p o) σ where
  st := t.st.trans (Stp.own t.sub hp)
  slot := t.slot
  len := t.len
  own := by
    obtain ⟨A, nd, hA, h⟩ := t.own
    have np : p ∉ A := fun z => (hA p z).2.2 hp
    refine ⟨p :: A, List.nodup_cons.mpr ⟨np, nd⟩, fun a ha => ?_, [p], A, rfl, hm, h.fr (Same.refl _) fun a ha => upd_ne (fun z => np (by rw [← z]; exact ha))⟩
    rcases List.mem_cons.mp ha with e | ha
    · subst e
      exact ⟨t.sub.free hp, t.st.h.free hp, by rw [upd_same]; simp⟩
    · rw [upd_ne (fun z => np (by rw [← z]; exact ha))]
      exact hA a ha
  gh := t.gh
theorem Stt.mut {v : V} {P P' : OP} (t : Stt B Γ ((v, P) :: O) S H σ)
    (h : ∀ A, A.Nodup → (∀ a ∈ A, S a = none ∧ H a ≠ none) → P.R S H A v → ∃ A', A'.Nodup ∧ (∀ a ∈ A', S a = none ∧ H' a ≠ none ∧ (a ∈ A ∨ H a = none)) ∧ (∀ a, a ∉ A → H a ≠ none → H' a = H a) ∧ P'.R S H' A' v) : Stt B Γ ((v, P') :: O) S H' σ := by
  obtain ⟨A, nd, hA, A1, A2, e, h2, h3⟩ := t.own
  subst e
  obtain ⟨n1, n2, n3⟩ := List.nodup_append.mp nd
  obtain ⟨A', q1, q2, q3, q4⟩ := h A1 n1 (fun a ha => ⟨(hA a (List.mem_append_left _ ha)).1, (hA a (List.mem_append_left _ ha)).2.2⟩) h2
  have keep : ∀ a o, H a = some o → a ∉ A1 → H' a = some o := fun a o z hn => by rw [q3 a hn (by rw [z]; simp)]; exact z
  refine ⟨⟨t.st.s, fun a o z => keep a o (t.sub a o z) (fun hm => ?_), fun a o z => keep a o (t.st.h a o z) (fun hm => ?_), t.st.fr⟩, t.slot, t.len, ⟨A' ++ A2, ?_, fun a ha => ?_, A', A2, rfl, q4, h3.fr (Same.refl _) fun a ha => ?_⟩, t.gh⟩
  · have := (hA a (List.mem_append_left _ hm)).1
    rw [z] at this
    cases this
  · have := (hA a (List.mem_append_left _ hm)).2.1
    rw [z] at this
    cases this
  · refine List.nodup_append.mpr ⟨q1, n2, fun a ha b hb z => ?_⟩
    subst z
    rcases (q2 a ha).2.2 with z | z
    · exact n3 a z a hb rfl
    · exact (hA a (List.mem_append_right _ hb)).2.2 z
  · rcases List.mem_append.mp ha with z | z
    · refine ⟨(q2 a z).1, ?_, (q2 a z).2.1⟩
      rcases (q2 a z).2.2 with y | y
      · exact (hA a (List.mem_append_left _ y)).2.1
      · exact t.st.h.free y
    · have y := hA a (List.mem_append_right _ z)
      exact ⟨y.1, y.2.1, by rw [q3 a (fun q => n3 a q a z rfl) y.2.2]; exact y.2.2⟩
  · exact q3 a (fun q => n3 a q a ha rfl) (hA a (List.mem_append_right _ ha)).2.2
def cut (S H : Hp) (A : List Addr) : Hp := fun a => if a ∈ A then H a else S a
theorem cut_in {A : List Addr} {a : Addr} (h : a ∈ A) : cut S H A a = H a := if_pos h
theorem cut_out {A : List Addr} {a : Addr} (h : a ∉ A) : cut S H A a = S a := if_neg h
theorem cut_same {A : List Addr} (h : ∀ a ∈ A, S a = none) : Same S (cut S H A) := fun a o z => by
  by_cases q : a ∈ A
  · rw [h a q] at z; cases z
  · rw [cut_out q]; exact z
structure FrzD (D : List Addr) (H H' : Hp) : Prop where
  out : ∀ a, a ∉ D → H' a = H a
  at_ : ∀ d ∈ D, ∃ od u, H d = some u ∧ H' d = some (.frz od u)
theorem FrzD.nil {H : Hp} : FrzD [] H H := ⟨fun _ _ => rfl, fun _ h => by cases h⟩
structure FrzA (A D : List Addr) (H H' : Hp) : Prop where
  out : ∀ a ∈ A, a ∉ D → H' a = H a
  at_ : ∀ d ∈ D, ∃ od u, H d = some u ∧ H' d = some (.frz od u)
theorem FrzD.a {A D : List Addr} {H H' : Hp} (h : FrzD D H H') : FrzA A D H H' := ⟨fun a _ ha => h.out a ha, h.at_⟩
def Stl (P : OP) (M : MP) : Prop := ∀ S H A v, P.R S H A v → A.Nodup → (∀ a ∈ A, S a = none) → ∃ D : List Addr, D.Nodup ∧ (∀ d ∈ D, d ∈ A ∧ ∃ u, H d = some u ∧ Mut (some u)) ∧ ∀ H', FrzA A D H H' → M.R (cut S H' A) v
theorem Stt.settle {v : V} {P : OP} {M : MP} (t : Stt B Γ ((v, P) :: O) S H σ) (h : Stl P M) :
    ∃ D : List Addr, D.Nodup ∧ (∀ d ∈ D, ∃ u, H d = some u ∧ Mut (some u)) ∧ ∀ H', FrzD D H H' → ∃ S', Same S S' ∧ Stt B Γ O S' H' σ ∧ M.R S' v := by
  obtain ⟨A, nd, hA, A1, A2, e, h2, h3⟩ := t.own
  subst e
  obtain ⟨n1, n2, n3⟩ := List.nodup_append.mp nd
  have s1 : ∀ a ∈ A1, S a = none := fun a ha => (hA a (List.mem_append_left _ ha)).1
  obtain ⟨D, d1, d2, d3⟩ := h S H A1 v h2 n1 s1
  refine ⟨D, d1, fun d hd => (d2 d hd).2, fun H' hf => ⟨cut S H' A1, cut_same s1, ?_, d3 H' hf.a⟩⟩
  have sS : Same S (cut S H' A1) := cut_same s1
  have keep : ∀ a, a ∉ A1 → H' a = H a := fun a ha => hf.out a fun hd => ha (d2 a hd).1
  have isS : ∀ a, H a ≠ none → H' a ≠ none := fun a ha => by
    by_cases q : a ∈ D
    · obtain ⟨od, u, _, z⟩ := hf.at_ a q
      rw [z]; simp
    · rw [hf.out a q]; exact ha
  refine ⟨⟨t.st.s.trans sS, fun a o z => ?_, fun a o z => ?_, fun a z1 z2 => ?_⟩, fun i R e => ?_, t.len, ⟨A2, n2, fun a ha => ?_, h3.fr sS fun a ha => keep a fun q => n3 a q a ha rfl⟩, B.P.up sS t.gh⟩
  · by_cases q : a ∈ A1
    · rw [cut_in q] at z; exact z
    · rw [cut_out q] at z; rw [keep a q]; exact t.sub a o z
  · rw [keep a fun q => ?_]
    · exact t.st.h a o z
    · have := (hA a (List.mem_append_left _ q)).2.1
      rw [z] at this
      cases this
  · have q : a ∉ A1 := fun q => z2 (hA a (List.mem_append_left _ q)).2.1
    rw [cut_out q]
    exact t.st.fr a z1 z2
  · obtain ⟨w, g1, g2⟩ := t.slot i R e
    exact ⟨w, g1, R.up sS g2⟩
  · have y := hA a (List.mem_append_right _ ha)
    have q : a ∉ A1 := fun q => n3 a q a ha rfl
    exact ⟨by rw [cut_out q]; exact y.1, y.2.1, isS a y.2.2⟩
end
end OW
namespace OW
open PySem PySem.Spec PyProof.Rows L2 OT

section
variable (X : Cx) (B : Bs) (Γ : Gm) (O : Om) (Z : Er → Prop)
def GW {α : Type} (e : Expr) (f : α → MP) (Os : α → V → Om) (w : Wp α) : Prop := ∀ S H σ, Stt B Γ O S H σ → ∀ (P : α → Prop) (Q : VK), w P Z → (∀ a v S' H', P a → Same S S' → Stt B Γ (Os a v) S' H' σ → (f a).R S' v → Q v H') → wE X e σ H Q
abbrev EW {α : Type} (e : Expr) (f : α → MP) (w : Wp α) : Prop := GW X B Γ O Z e f (fun _ _ => O) w
def tAny : MP := ⟨fun _ _ => True, fun _ _ => trivial⟩
abbrev NW {α : Type} (e : Expr) (f : α → OP) (w : Wp α) : Prop := GW X B Γ O Z e (fun _ => tAny) (fun a v => (v, f a) :: O) w
def RW {α : Type} (N : Om) (e : Expr) (b : α → BP) (w : Wp α) : Prop := (∀ x ∈ N, x ∈ O) ∧ ∀ S H σ, Stt B Γ O S H σ → ∀ (P : α → Prop) (Q : VK), w P Z → (∀ a v S' H', P a → Same S S' → Stt B Γ O S' H' σ → (∀ Γ2 O2 S2 H2 σ2, Same S' S2 → Stt B Γ2 O2 S2 H2 σ2 → (∀ x ∈ N, x ∈ O2) → (b a).R S2 H2 v) → Q v H') → wE X e σ H Q
def RN {α : Type} (e : Expr) (b : α → BP) (w : Wp α) : Prop := ∀ S H σ, Stt B Γ O S H σ → ∀ (P : α → Prop) (Q : VK), w P Z → (∀ a v S' H', P a → Same S S' → Stt B Γ O S' H' σ → (b a).R S' H' v → Q v H') → wE X e σ H Q
def TW (e : Expr) (w : Wp Bool) : Prop := ∀ S H σ, Stt B Γ O S H σ → ∀ (P : Bool → Prop) (Q : Bool → Hp → Prop), w P Z → (∀ a S' H', P a → Same S S' → Stt B Γ O S' H' σ → Q a H') → wT X e σ H Q
inductive AA where
  | b (R : BP)
  | t (v : V)
def AllA : List AA → Hp → Hp → List V → Prop
  | [], _, _, [] => True
  | .b R :: r, S, H, v :: vs => R.R S H v ∧ AllA r S H vs
  | .t u :: r, S, H, v :: vs => v = u ∧ AllA r S H vs
  | _, _, _, _ => False
def AW {τ : Type} (N : Om) (es : List Expr) (F : τ → List AA) (w : Wp τ) : Prop := (∀ x ∈ N, x ∈ O) ∧ ∀ S H σ, Stt B Γ O S H σ → ∀ (P : τ → Prop) (Q : List V → Hp → Prop), w P Z → (∀ a vs S' H', P a → Same S S' → Stt B Γ O S' H' σ → (∀ Γ2 O2 S2 H2 σ2, Same S' S2 → Stt B Γ2 O2 S2 H2 σ2 → (∀ x ∈ N, x ∈ O2) → AllA (F a) S2 H2 vs) → Q vs H') → wA X es σ H Q
def SW (body : List Stmt) (D : Ends) (p : Prop) : Prop := p → ∀ S H σ, Stt B Γ O S H σ → wB X body D σ H
def At {τ : Type} (Gs : τ → Gm) (Os : τ → Om) (k : τ → Prop) : L2.St → Hp → Prop := fun σ H => ∃ s S, k s ∧ Stt B (Gs s) (Os s) S H σ
end
section
variable {X : Cx} {B : Bs} {Γ : Gm} {O N N' : Om} {Z : Er → Prop} {e a b c : Expr} {es : List Expr} {pos pos' : Pos} {D : Ends} {rest body els : List Stmt} {α β γ : Type}
theorem EW.imp {f : α → MP} {g : β → MP} {w : Wp α} (h : EW X B Γ O Z e f w) (k : α → β) (i : ∀ a S v, (f a).R S v → (g (k a)).R S v) : EW X B Γ O Z e g (W.bind w fun a => W.ret (k a)) :=
  fun S H σ st P Q q n => h S H σ st _ Q q fun a v S' H' p s t r => n (k a) v S' H' p s t (i a S' v r)
theorem EW.r {f : α → MP} {g : α → BP} {w : Wp α} (h : EW X B Γ O Z e f w) (i : ∀ a S H v, Same S H → (f a).R S v → (g a).R S H v) : RW X B Γ O Z [] e g w :=
  ⟨(fun _ h => by cases h), fun S H σ st P Q q n => h S H σ st P Q q fun a v S' H' p s t r => n a v S' H' p s t fun Γ2 O2 S2 H2 σ2 s2 t2 _ => i a S2 H2 v t2.sub ((f a).up s2 r)⟩
theorem RW.rn {f : α → BP} {w : Wp α} (h : RW X B Γ O Z N e f w) : RN X B Γ O Z e f w := fun S H σ st P Q q n => h.2 S H σ st P Q q fun a v S' H' p s t r => n a v S' H' p s t (r _ _ S' H' _ (Same.refl _) t h.1)
theorem EW.now {f : α → MP} {x : α} {t : TE} (h : PE X e t) (q : ∀ S H σ, Stt B Γ O S H σ → ∃ v, (f x).R S v ∧ ∀ Q : VK, Q v H → t σ H Q) : EW X B Γ O Z e f (W.ret x) :=
  fun S H σ st P Q p n => let ⟨v, h1, h2⟩ := q S H σ st; ⟨t, h, h2 Q (n x v S H p (Same.refl _) st h1)⟩
theorem w_var (i : Nat) {f : α → MP} {v : α} {x : Str} (hG : Γ[i]? = some (some (f v)) := by rfl) (hN : X.N[i]? = some x := by rfl) (hv : Vis X.env.scope x := by first | exact Or.inl rfl | exact Or.inr (Or.inl rfl) | exact Or.inr (Or.inr rfl))
    (hd : (x == ("__debug__" : Str)) = false := by decide) (hcd : (x == ("__classdict__" : Str)) = false := by decide) : EW X B Γ O Z (.Name x pos) f (W.ret v) :=
  EW.now (pe_var hN hv hd hcd) fun S H σ st => let ⟨u, h1, h2⟩ := st.slot i _ hG; ⟨u, h2, fun Q q => ⟨u, h1, q⟩⟩
theorem r_lent (i : Nat) {f : α → BP} {v : α} {x : Str} (hG : Γ[i]? = some (some ((f v).at_ B.H)) := by rfl) (hN : X.N[i]? = some x := by rfl) (hv : Vis X.env.scope x := by first | exact Or.inl rfl | exact Or.inr (Or.inl rfl) | exact Or.inr (Or.inr rfl))
    (hd : (x == ("__debug__" : Str)) = false := by decide) (hcd : (x == ("__classdict__" : Str)) = false := by decide) : RW X B Γ O Z [] (.Name x pos) f (W.ret v) :=
  ⟨(fun _ h => by cases h), fun S H σ st P Q p n => by
    obtain ⟨u, h1, h2⟩ := st.slot i _ hG
    exact ⟨_, pe_var hN hv hd hcd, u, h1, n v u S H p (Same.refl _) st fun Γ2 O2 S2 H2 σ2 s2 t2 _ => (f v).up s2 t2.st.h h2⟩⟩
def Lend (P : OP) (b : BP) : Prop := ∀ S H A v, P.R S H A v → ∀ H', (∀ a ∈ A, H' a = H a) → Same S H' → b.R S H' v
theorem OwnL.at_ {S H : Hp} {x : V × OP} : ∀ {O : Om} {A : List Addr}, x ∈ O → OwnL S H O A → ∃ A1, (∀ a ∈ A1, a ∈ A) ∧ x.2.R S H A1 x.1
  | [], _, e, _ => by cases e
  | y :: O, _, e, ⟨A1, A2, z, h2, h3⟩ => by
    subst z
    rcases List.mem_cons.mp e with e | e
    · subst e
      exact ⟨A1, fun a ha => List.mem_append_left _ ha, h2⟩
    · obtain ⟨A3, g2, g3⟩ := OwnL.at_ e h3
      exact ⟨A3, fun a ha => List.mem_append_right _ (g2 a ha), g3⟩
theorem Stt.at_ {x : V × OP} {S H : Hp} {σ : L2.St} (t : Stt B Γ O S H σ) (h : x ∈ O) : ∃ A, x.2.R S H A x.1 := by
  obtain ⟨A, _, _, q⟩ := t.own
  obtain ⟨A1, _, h2⟩ := q.at_ h
  exact ⟨A1, h2⟩
theorem mem_at {x : V × OP} {k : Nat} (h : O[k]? = some x) : x ∈ O := List.mem_of_getElem? h
theorem r_own (k : Nat) (i : Nat) {f : α → BP} {v : α} {u : V} {P : OP} {x : Str} (hl : Lend P (f v)) (hG : Γ[i]? = some (some (tV u)) := by rfl) (hO : O[k]? = some (u, P) := by rfl) (hN : X.N[i]? = some x := by rfl) (hv : Vis X.env.scope x := by first | exact Or.inl rfl | exact Or.inr (Or.inl rfl) | exact Or.inr (Or.inr rfl))
    (hd : (x == ("__debug__" : Str)) = false := by decide) (hcd : (x == ("__classdict__" : Str)) = false := by decide) : RW X B Γ O Z [(u, P)] (.Name x pos) f (W.ret v) :=
  ⟨(fun y h => by rw [List.mem_singleton] at h; subst h; exact mem_at hO), fun S H σ st P' Q p n => by
    obtain ⟨u', h1, h2⟩ := st.slot i _ hG
    have h2' : u' = u := h2
    subst h2'
    refine ⟨_, pe_var hN hv hd hcd, u', h1, n v u' S H p (Same.refl _) st fun Γ2 O2 S2 H2 σ2 s2 t2 hn => ?_⟩
    obtain ⟨A', g2⟩ := t2.at_ (hn _ (List.mem_singleton.mpr rfl))
    exact hl S2 H2 A' _ g2 H2 (fun _ _ => rfl) t2.sub⟩
theorem w_int {i : Int} {j} : EW X B Γ O Z (.Constant (.int i) j pos) tI (W.ret i) := EW.now pe_int fun _ _ _ _ => ⟨_, rfl, fun _ q => q⟩
theorem w_bl {i : Bool} {j} : EW X B Γ O Z (.Constant (.bool i) j pos) tB (W.ret i) := EW.now pe_bl fun _ _ _ _ => ⟨_, rfl, fun _ q => q⟩
theorem w_str {i : Str} {j} : EW X B Γ O Z (.Constant (.str i) j pos) tS (W.ret i) := EW.now pe_str fun _ _ _ _ => ⟨_, rfl, fun _ q => q⟩
abbrev tU (_ : Unit) : MP := tN
theorem w_globI {x : Str} {i : Int} (hm : ∃ t, X.mg x = some (.int i t)) (hg : Gl X x := by rfl) (hd : (x == ("__debug__" : Str)) = false := by decide) : EW X B Γ O Z (.Name x pos) tI (W.ret i) := by
  obtain ⟨t, hm⟩ := hm
  exact EW.now (pe_glob hg hm (v := .int i) ⟨t, rfl⟩ hd) fun _ _ _ _ => ⟨_, rfl, fun _ q => q⟩
theorem w_globS {x : Str} {i : Str} (hm : ∃ t, X.mg x = some (.str i t)) (hg : Gl X x := by rfl) (hd : (x == ("__debug__" : Str)) = false := by decide) : EW X B Γ O Z (.Name x pos) tS (W.ret i) := by
  obtain ⟨t, hm⟩ := hm
  exact EW.now (pe_glob hg hm (v := .str i) ⟨t, rfl⟩ hd) fun _ _ _ _ => ⟨_, rfl, fun _ q => q⟩
theorem w_cls {x : Str} {C : Addr} (hm : X.mg x = some (.ref C)) (hg : Gl X x := by rfl) (hd : (x == ("__debug__" : Str)) = false := by decide) : EW X B Γ O Z (.Name x pos) (fun _ : Unit => tR C) (W.ret ()) :=
  EW.now (pe_glob hg hm (v := .ref C) rfl hd) fun _ _ _ _ => ⟨_, rfl, fun _ q => q⟩
theorem w_op2 {op : Operator} {r : R2} {f : α → MP} {g : β → MP} {h : γ → MP} {wa : Wp α} {wb : Wp β} (wc : α → β → Wp γ) (ho : OpR X (binaryOp op) r) (ha : EW X B Γ O Z a f wa) (hb : EW X B Γ O Z b g wb)
    (hr : ∀ x y S H u v, Same S H → (f x).R S u → (g y).R S v → ∀ (P : γ → Prop) (Q : VK), wc x y P Z → (∀ c t S' H', P c → Stp S H S' H' → (h c).R S' t → Q t H') → r u v H Q) : EW X B Γ O Z (.BinOp a op b pos) h (W.bind wa fun x => W.bind wb fun y => wc x y) :=
  fun S H σ st P Q p n => ⟨_, pe_op ho pe_w pe_w, ha S H σ st _ _ p fun x u S1 H1 p1 s1 t1 r1 => hb S1 H1 σ t1 _ _ p1 fun y v S2 H2 p2 s2 t2 r2 =>
    hr x y S2 H2 u v t2.sub ((f x).up s2 r1) r2 P Q p2 fun c t S3 H3 p3 s3 r3 => n c t S3 H3 p3 ((s1.trans s2).trans s3.s) (t2.step s3) r3⟩
theorem w_cmp2 {op : CmpOp} {r : R2} {f : α → MP} {g : β → MP} {wa : Wp α} {wb : Wp β} (k : α → β → Bool) (ho : OpR X (compareOp op) r) (ha : EW X B Γ O Z a f wa) (hb : EW X B Γ O Z b g wb) (hm : behindInMarks op b = false)
    (hr : ∀ x y S H u v, Same S H → (f x).R S u → (g y).R S v → ∀ (Q : VK), (∀ S' H', Stp S H S' H' → Q (.bl (k x y)) H') → r u v H Q) : EW X B Γ O Z (.Compare a [op] [b] pos) tB (W.bind wa fun x => W.bind wb fun y => W.ret (k x y)) :=
  fun S H σ st P Q p n => ⟨_, pe_cmpR ho pe_w pe_w hm, ha S H σ st _ _ p fun x u S1 H1 p1 s1 t1 r1 => hb S1 H1 σ t1 _ _ p1 fun y v S2 H2 p2 s2 t2 r2 =>
    hr x y S2 H2 u v t2.sub ((f x).up s2 r1) r2 Q fun S3 H3 s3 => n _ _ S3 H3 p2 ((s1.trans s2).trans s3.s) (t2.step s3) rfl⟩
theorem t_cmp2 {op : CmpOp} {r : R2} {f : α → MP} {g : β → MP} {wa : Wp α} {wb : Wp β} (k : α → β → Bool) (ho : OpR X (compareOp op) r) (ha : EW X B Γ O Z a f wa) (hb : EW X B Γ O Z b g wb) (hm : behindInMarks op b = false)
    (hr : ∀ x y S H u v, Same S H → (f x).R S u → (g y).R S v → ∀ (Q : VK), (∀ S' H', Stp S H S' H' → Q (.bl (k x y)) H') → r u v H Q) : TW X B Γ O Z (.Compare a [op] [b] pos) (W.bind wa fun x => W.bind wb fun y => W.ret (k x y)) :=
  fun S H σ st P Q p n => ⟨_, pt_cmpR ho pe_w pe_w hm, ha S H σ st _ _ p fun x u S1 H1 p1 s1 t1 r1 => hb S1 H1 σ t1 _ _ p1 fun y v S2 H2 p2 s2 t2 r2 =>
    hr x y S2 H2 u v t2.sub ((f x).up s2 r1) r2 _ fun S3 H3 s3 => ⟨_, rfl, n _ S3 H3 p2 ((s1.trans s2).trans s3.s) (t2.step s3)⟩⟩
theorem w_cmpR {op : CmpOp} {r : R2} {f : α → BP} {g : β → BP} {wa : Wp α} {wb : Wp β} (k : α → β → Bool) (ho : OpR X (compareOp op) r) (ha : RW X B Γ O Z N a f wa) (hb : RN X B Γ O Z b g wb) (hm : behindInMarks op b = false)
    (hr : ∀ x y S H u v, Same S H → (f x).R S H u → (g y).R S H v → ∀ (Q : VK), (∀ S' H', Stp S H S' H' → Q (.bl (k x y)) H') → r u v H Q) : EW X B Γ O Z (.Compare a [op] [b] pos) tB (W.bind wa fun x => W.bind wb fun y => W.ret (k x y)) :=
  fun S H σ st P Q p n => ⟨_, pe_cmpR ho pe_w pe_w hm, ha.2 S H σ st _ _ p fun x u S1 H1 p1 s1 t1 r1 => hb S1 H1 σ t1 _ _ p1 fun y v S2 H2 p2 s2 t2 r2 =>
    hr x y S2 H2 u v t2.sub (r1 _ _ S2 H2 _ s2 t2 ha.1) r2 Q fun S3 H3 s3 => n _ _ S3 H3 p2 ((s1.trans s2).trans s3.s) (t2.step s3) rfl⟩
theorem t_cmpR {op : CmpOp} {r : R2} {f : α → BP} {g : β → BP} {wa : Wp α} {wb : Wp β} (k : α → β → Bool) (ho : OpR X (compareOp op) r) (ha : RW X B Γ O Z N a f wa) (hb : RN X B Γ O Z b g wb) (hm : behindInMarks op b = false)
    (hr : ∀ x y S H u v, Same S H → (f x).R S H u → (g y).R S H v → ∀ (Q : VK), (∀ S' H', Stp S H S' H' → Q (.bl (k x y)) H') → r u v H Q) : TW X B Γ O Z (.Compare a [op] [b] pos) (W.bind wa fun x => W.bind wb fun y => W.ret (k x y)) :=
  fun S H σ st P Q p n => ⟨_, pt_cmpR ho pe_w pe_w hm, ha.2 S H σ st _ _ p fun x u S1 H1 p1 s1 t1 r1 => hb S1 H1 σ t1 _ _ p1 fun y v S2 H2 p2 s2 t2 r2 =>
    hr x y S2 H2 u v t2.sub (r1 _ _ S2 H2 _ s2 t2 ha.1) r2 _ fun S3 H3 s3 => ⟨_, rfl, n _ S3 H3 p2 ((s1.trans s2).trans s3.s) (t2.step s3)⟩⟩
theorem w_un {op : UnaryOp} {r : V → Hp → VK → Prop} {f : α → MP} {g : β → MP} {wa : Wp α} (k : α → β) (ho : UnR X (unaryOp op) r) (ha : EW X B Γ O Z a f wa)
    (hr : ∀ x S H u, Same S H → (f x).R S u → ∀ (Q : VK), (∀ t S' H', Stp S H S' H' → (g (k x)).R S' t → Q t H') → r u H Q) : EW X B Γ O Z (.UnaryOp op a pos) g (W.bind wa fun x => W.ret (k x)) :=
  fun S H σ st P Q p n => ⟨_, pe_un ho pe_w, ha S H σ st _ _ p fun x u S1 H1 p1 s1 t1 r1 => hr x S1 H1 u t1.sub r1 Q fun t S3 H3 s3 r3 => n _ t S3 H3 p1 (s1.trans s3.s) (t1.step s3) r3⟩
section
variable {wa wb : Wp Int}
abbrev W.o2 (wa wb : Wp Int) {γ : Type} (k : Int → Int → Wp γ) : Wp γ := W.bind wa fun x => W.bind wb fun y => k x y
theorem w_add (ha : EW X B Γ O Z a tI wa) (hb : EW X B Γ O Z b tI wb) : EW X B Γ O Z (.BinOp a .Add b pos) tI (W.bind wa fun x => W.bind wb fun y => W.ret (x + y)) :=
  w_op2 _ op_add ha hb fun x y S H u v sm h1 h2 P Q p n => ⟨x, y, h1, h2, n _ _ S H p (Stp.refl sm) rfl⟩
theorem w_sub (ha : EW X B Γ O Z a tI wa) (hb : EW X B Γ O Z b tI wb) : EW X B Γ O Z (.BinOp a .Sub b pos) tI (W.bind wa fun x => W.bind wb fun y => W.ret (x - y)) :=
  w_op2 _ op_sub ha hb fun x y S H u v sm h1 h2 P Q p n => ⟨x, y, h1, h2, n _ _ S H p (Stp.refl sm) rfl⟩
def DivOk (j : Int) : Prop := j ≠ 0 ∧ j.natAbs.log2 < 9000
theorem w_fdiv (ha : EW X B Γ O Z a tI wa) (hb : EW X B Γ O Z b tI wb) : EW X B Γ O Z (.BinOp a .FloorDiv b pos) tI (W.bind wa fun x => W.bind wb fun y => W.grd (DivOk y) (x.fdiv y)) :=
  w_op2 (r := rI (fun _ j => j ≠ 0 ∧ j.natAbs.log2 < 9000) fun i j => .int (i.fdiv j)) _ (opI fun _ _ _ _ _ _ _ hc q => floordiv_int hc.1 q (.inl (PyProof.noPylong_of_log2 hc.2))) ha hb fun x y S H u v sm h1 h2 P Q p n => ⟨x, y, h1, h2, p.1, n _ _ S H p.2 (Stp.refl sm) rfl⟩
theorem w_mod (ha : EW X B Γ O Z a tI wa) (hb : EW X B Γ O Z b tI wb) : EW X B Γ O Z (.BinOp a .Mod b pos) tI (W.bind wa fun x => W.bind wb fun y => W.grd (y ≠ 0) (x.fmod y)) :=
  w_op2 _ op_modN ha hb fun x y S H u v sm h1 h2 P Q p n => ⟨x, y, h1, h2, p.1, n _ _ S H p.2 (Stp.refl sm) rfl⟩
theorem w_pow (ha : EW X B Γ O Z a tI wa) (hb : EW X B Γ O Z b tI wb) : EW X B Γ O Z (.BinOp a .Pow b pos) tI (W.bind wa fun x => W.bind wb fun y => W.grd (CPow x y) (x ^ y.toNat)) :=
  w_op2 _ op_pow ha hb fun x y S H u v sm h1 h2 P Q p n => ⟨x, y, h1, h2, p.1, n _ _ S H p.2 (Stp.refl sm) rfl⟩
theorem w_neg (ha : EW X B Γ O Z a tI wa) : EW X B Γ O Z (.UnaryOp .USub a pos) tI (W.bind wa fun x => W.ret (-x)) := w_un _ un_neg ha fun x S H u sm h1 Q k => ⟨x, h1, k _ S H (Stp.refl sm) rfl⟩
theorem t_lt (ha : EW X B Γ O Z a tI wa) (hb : EW X B Γ O Z b tI wb) : TW X B Γ O Z (.Compare a [.Lt] [b] pos) (W.bind wa fun x => W.bind wb fun y => W.ret (decide (x < y))) :=
  t_cmp2 _ op_lt ha hb (nomark _) fun x y S H u v sm h1 h2 Q k => ⟨x, y, h1, h2, k S H (Stp.refl sm)⟩
theorem t_gt (ha : EW X B Γ O Z a tI wa) (hb : EW X B Γ O Z b tI wb) : TW X B Γ O Z (.Compare a [.Gt] [b] pos) (W.bind wa fun x => W.bind wb fun y => W.ret (decide (y < x))) :=
  t_cmp2 _ op_gt ha hb (nomark _) fun x y S H u v sm h1 h2 Q k => ⟨x, y, h1, h2, k S H (Stp.refl sm)⟩
end
theorem t_val {w : Wp Bool} (h : EW X B Γ O Z e tB w) (he : ∀ whole, isTrue e X.env whole = (do let v ← whole; standAt e.pos; holding [v] (truthy v)) := by intro _; rfl) : TW X B Γ O Z e w :=
  fun S H σ st P Q p n => ⟨_, pt_val pe_w he, h S H σ st P _ p fun a v S' H' p1 s1 t1 r1 => ⟨a, r1, n a S' H' p1 s1 t1⟩⟩
theorem t_not {w : Wp Bool} (h : TW X B Γ O Z e w) : TW X B Γ O Z (.UnaryOp .Not e pos) (W.bind w fun x => W.ret (!x)) :=
  fun S H σ st P Q p n => ⟨_, pt_not pt_w, h S H σ st _ _ p fun a S' H' p1 s1 t1 => n (!a) S' H' p1 s1 t1⟩
abbrev W.sel {α : Type} (b : Bool) (w w' : Wp α) : Wp α := fun Q E => W.ite b (w Q E) (w' Q E)
def TC (X : Cx) (B : Bs) (Γ : Gm) (O : Om) (Z : Er → Prop) (e : Expr) (w : Wp Bool) : Prop := ∀ S H σ, Stt B Γ O S H σ → ∀ (P : Bool → Prop) (Q : Bool → Hp → Prop), w P Z → (∀ a S' H', P a → Same S S' → Stt B Γ O S' H' σ → Q a H') → ∃ t, PW X e t ∧ t σ H Q
theorem tc_and1 {w : Wp Bool} (h : TW X B Γ O Z a w) : TC X B Γ O Z (.BoolOp .And [a] pos) w := fun S H σ st P Q p n => ⟨_, pw_and1 pt_w, h S H σ st P Q p n⟩
theorem tc_or1 {w : Wp Bool} (h : TW X B Γ O Z a w) : TC X B Γ O Z (.BoolOp .Or [a] pos) w := fun S H σ st P Q p n => ⟨_, pw_or1 pt_w, h S H σ st P Q p n⟩
theorem tc_and {w w' : Wp Bool} (h : TW X B Γ O Z a w) (h2 : TC X B Γ O Z (.BoolOp .And (b :: es) pos) w') : TC X B Γ O Z (.BoolOp .And (a :: b :: es) pos) (W.bind w fun x => W.sel x w' (W.ret false)) := fun S H σ st P Q p n =>
  ⟨_, pw_and pt_w pw_w, h S H σ st _ _ p fun x S1 H1 p1 s1 t1 => by
    cases x with
    | true => exact iteT (h2 S1 H1 σ t1 P Q (p1.1 rfl) fun y S2 H2 p2 s2 t2 => n y S2 H2 p2 (s1.trans s2) t2)
    | false => exact iteF (n false S1 H1 (p1.2 rfl) s1 t1)⟩
theorem tc_or {w w' : Wp Bool} (h : TW X B Γ O Z a w) (h2 : TC X B Γ O Z (.BoolOp .Or (b :: es) pos) w') : TC X B Γ O Z (.BoolOp .Or (a :: b :: es) pos) (W.bind w fun x => W.sel x (W.ret true) w') := fun S H σ st P Q p n =>
  ⟨_, pw_or pt_w pw_w, h S H σ st _ _ p fun x S1 H1 p1 s1 t1 => by
    cases x with
    | false => exact iteF (h2 S1 H1 σ t1 P Q (p1.2 rfl) fun y S2 H2 p2 s2 t2 => n y S2 H2 p2 (s1.trans s2) t2)
    | true => exact iteT (n true S1 H1 (p1.1 rfl) s1 t1)⟩
theorem tc_orP {x y : Bool} (h : TW X B Γ O Z a (W.ret x)) (h2 : TC X B Γ O Z (.BoolOp .Or (b :: es) pos) (W.ret y)) : TC X B Γ O Z (.BoolOp .Or (a :: b :: es) pos) (W.ret (x || y)) := fun S H σ st P Q p n =>
  tc_or h h2 S H σ st P Q (by cases x with | true => exact ⟨fun _ => p, fun z => nomatch z⟩ | false => exact ⟨fun z => (nomatch z), fun _ => p⟩) n
theorem TC.t {w : Wp Bool} (h : TC X B Γ O Z e w) : TW X B Γ O Z e w := fun S H σ st P Q p n => let ⟨t, h1, h2⟩ := h S H σ st P Q p n; ⟨t, h1.pt, h2⟩
theorem w_one {op} {f : α → MP} {w : Wp α} (h : EW X B Γ O Z a f w) : EW X B Γ O Z (.BoolOp op [a] pos) f w := fun S H σ st P Q p n => ⟨_, pe_one pe_w, h S H σ st P Q p n⟩
theorem w_and {w w' : Wp Bool} (h : EW X B Γ O Z a tB w) (h2 : EW X B Γ O Z (.BoolOp .And (b :: es) pos) tB w') : EW X B Γ O Z (.BoolOp .And (a :: b :: es) pos) tB (W.bind w fun x => W.sel x w' (W.ret false)) := fun S H σ st P Q p n =>
  ⟨_, pe_and pe_w pe_w, h S H σ st _ _ p fun x v S1 H1 p1 s1 t1 r1 => ⟨x, r1, by
    cases x with
    | true => exact iteT (h2 S1 H1 σ t1 P Q (p1.1 rfl) fun y v S2 H2 p2 s2 t2 r2 => n y v S2 H2 p2 (s1.trans s2) t2 r2)
    | false => exact iteF (n false _ S1 H1 (p1.2 rfl) s1 t1 rfl)⟩⟩
theorem w_andP {x y : Bool} (h : EW X B Γ O Z a tB (W.ret x)) (h2 : EW X B Γ O Z (.BoolOp .And (b :: es) pos) tB (W.ret y)) : EW X B Γ O Z (.BoolOp .And (a :: b :: es) pos) tB (W.ret (x && y)) := fun S H σ st P Q p n =>
  w_and h h2 S H σ st P Q (by cases x with | true => exact ⟨fun _ => p, fun z => nomatch z⟩ | false => exact ⟨fun z => (nomatch z), fun _ => p⟩) n
theorem a_nil : AW X B Γ O Z [] [] (fun _ : Unit => []) (W.ret ()) := ⟨(fun _ h => by cases h), fun S H σ st P Q p n => ⟨_, pa_nil, n () [] S H p (Same.refl _) st fun _ _ _ _ _ _ _ _ => trivial⟩⟩
theorem a_cons {f : α → MP} {F : β → List AA} {w : Wp α} {w' : Wp β} (h : EW X B Γ O Z e f w) (hr : AW X B Γ O Z N es F w') (hs : starEach (e :: es) X.env = (false, eval e X.env) :: starEach es X.env := by rfl) : AW X B Γ O Z N (e :: es) (fun q : α × β => .b (f q.1).b :: F q.2) (W.bind w fun x => W.bind w' fun y => W.ret (x, y)) := ⟨hr.1, fun S H σ st P Q p n =>
  ⟨_, pa_cons pe_w pa_w hs, h S H σ st _ _ p fun x v S1 H1 p1 s1 t1 r1 => hr.2 S1 H1 σ t1 _ _ p1 fun y vs S2 H2 p2 s2 t2 r2 => n (x, y) (v :: vs) S2 H2 p2 (s1.trans s2) t2 fun Γ3 O3 S3 H3 σ3 s3 t3 hn => ⟨(f x).up (s2.trans s3) r1, r2 _ _ S3 H3 _ s3 t3 hn⟩⟩⟩
theorem a_consR {f : α → BP} {F : β → List AA} {w : Wp α} {w' : Wp β} (h : RW X B Γ O Z N' e f w) (hr : AW X B Γ O Z N es F w') (hs : starEach (e :: es) X.env = (false, eval e X.env) :: starEach es X.env := by rfl) : AW X B Γ O Z (N' ++ N) (e :: es) (fun q : α × β => .b (f q.1) :: F q.2) (W.bind w fun x => W.bind w' fun y => W.ret (x, y)) :=
  ⟨(fun x hx => (List.mem_append.mp hx).elim (h.1 x) (hr.1 x)), fun S H σ st P Q p n =>
  ⟨_, pa_cons pe_w pa_w hs, h.2 S H σ st _ _ p fun x v S1 H1 p1 s1 t1 r1 => hr.2 S1 H1 σ t1 _ _ p1 fun y vs S2 H2 p2 s2 t2 r2 => n (x, y) (v :: vs) S2 H2 p2 (s1.trans s2) t2 fun Γ3 O3 S3 H3 σ3 s3 t3 hn => ⟨r1 _ _ S3 H3 _ (s2.trans s3) t3 (fun z hz => hn z (List.mem_append_left _ hz)), r2 _ _ S3 H3 _ s3 t3 (fun z hz => hn z (List.mem_append_right _ hz))⟩⟩⟩
theorem a_consT (i : Nat) {u : V} {x : Str} {F : β → List AA} {w' : Wp β} (hr : AW X B Γ O Z N es F w') (hG : Γ[i]? = some (some (tV u)) := by rfl) (hN : X.N[i]? = some x := by rfl) (hv : Vis X.env.scope x := by first | exact Or.inl rfl | exact Or.inr (Or.inl rfl) | exact Or.inr (Or.inr rfl))
    (hd : (x == ("__debug__" : Str)) = false := by decide) (hcd : (x == ("__classdict__" : Str)) = false := by decide) (hs : starEach (.Name x pos :: es) X.env = (false, eval (.Name x pos) X.env) :: starEach es X.env := by rfl) : AW X B Γ O Z N (.Name x pos :: es) (fun q : β => .t u :: F q) w' := ⟨hr.1, fun S H σ st P Q p n => by
  obtain ⟨u', h1, h2⟩ := st.slot i _ hG
  have h2' : u' = u := h2
  subst h2'
  exact ⟨_, pa_cons (pe_var hN hv hd hcd) pa_w hs, u', h1, hr.2 S H σ st _ _ p fun y vs S2 H2 p2 s2 t2 r2 => n y (u' :: vs) S2 H2 p2 s2 t2 fun Γ3 O3 S3 H3 σ3 s3 t3 hn => ⟨rfl, r2 _ _ S3 H3 _ s3 t3 hn⟩⟩⟩
theorem frz_all {X : Cx} : ∀ (D : List Addr) {pins : List (Addr × Obj)} {σ : L2.St} {H : Hp} {s : Shared}, Inv X pins σ H s → D.Nodup → (∀ d ∈ D, ∃ u, H d = some u ∧ Mut (some u)) → ∃ H', FrzD D H H' ∧ Inv X pins σ H' s
  | [], _, _, H, _, I, _, _ => ⟨H, .nil, I⟩
  | d :: D, _, _, H, _, I, nd, h => by
    obtain ⟨n1, n2⟩ := List.nodup_cons.mp nd
    obtain ⟨u, hu, mu⟩ := h d List.mem_cons_self
    obtain ⟨od, I2⟩ := I.lock hu mu
    obtain ⟨H', f, I3⟩ := frz_all D I2 n2 fun e he => by
      obtain ⟨w, hw, mw⟩ := h e (List.mem_cons_of_mem _ he)
      exact ⟨w, by rw [upd_ne (fun z => n1 (by rw [← z]; exact he))]; exact hw, mw⟩
    refine ⟨H', ⟨fun a ha => ?_, fun e he => ?_⟩, I3⟩
    · rw [f.out a (fun z => ha (List.mem_cons_of_mem _ z)), upd_ne (fun z => ha (by rw [z]; exact List.mem_cons_self))]
    · rcases List.mem_cons.mp he with z | he
      · subst z
        refine ⟨od, u, hu, ?_⟩
        rw [f.out _ n1, upd_same]
      · obtain ⟨od', w, h1, h2⟩ := f.at_ e he
        rw [upd_ne (fun z => n1 (by rw [← z]; exact he))] at h1
        exact ⟨od', w, h1, h2⟩
theorem pe_frzs {t : TE} (h : PE X e t) : PE X e (fun σ H Q => t σ H fun v H' => ∃ D : List Addr, D.Nodup ∧ (∀ d ∈ D, ∃ u, H' d = some u ∧ Mut (some u)) ∧ ∀ H2, FrzD D H' H2 → Q v H2) := ⟨fun pins s σ H Q I q =>
  thn (h.run pins s σ H _ I q) fun w s' ⟨v, H', I', r, D, nd, mu, q'⟩ => by
    obtain ⟨H2, f, I2⟩ := frz_all D I' nd mu
    exact ⟨v, _, I2, r, q' H2 f⟩⟩
theorem pss_frzs {t : TS} {st : List Stmt} (h : PSs X st t) : PSs X st (fun E σ H => ∃ D : List Addr, D.Nodup ∧ (∀ d ∈ D, ∃ u, H d = some u ∧ Mut (some u)) ∧ ∀ H2, FrzD D H H2 → t E σ H2) := ⟨fun pins s σ H E I ⟨D, nd, mu, q⟩ => by
  obtain ⟨H2, f, I2⟩ := frz_all D I nd mu
  exact h.run pins s σ _ E I2 (q H2 f)⟩
theorem NW.settle {f : α → OP} {g : α → MP} {w : Wp α} (h : NW X B Γ O Z e f w) (hs : ∀ a, Stl (f a) (g a)) : EW X B Γ O Z e g w := fun S H σ st P Q p n =>
  ⟨_, pe_frzs pe_w, h S H σ st P _ p fun a v S1 H1 p1 s1 t1 _ => by
    obtain ⟨D, h1, h2, h3⟩ := t1.settle (hs a)
    refine ⟨D, h1, h2, fun H2 hf => ?_⟩
    obtain ⟨S2, s2, t2, r2⟩ := h3 H2 hf
    exact n a _ S2 H2 p1 (s1.trans s2) t2 r2⟩
theorem s_nil {τ : Type} {Gs : τ → Gm} {Os : τ → Om} {k : τ → Prop} (s : τ) (hD : D.nx = At B Gs Os k := by rfl) (g : Gle (Gs s) Γ := by exact Gle.rfl') (ho : O = Os s := by rfl) : SW X B Γ O [] D (k s) := fun p S H σ t => ⟨_, pss_nil, by
  show D.nx σ H
  rw [hD]
  exact ⟨s, S, p, by rw [← ho]; exact t.forget g⟩⟩
theorem s_cons {st : Stmt} {p : Prop} (h : p → ∀ S H σ, Stt B Γ O S H σ → wS X st { D with nx := wB X rest D } σ H) : SW X B Γ O (st :: rest) D p := fun q S H σ t => ⟨_, pss_cons ps_w pb_w, h q S H σ t⟩
theorem s_set {i : Nat} {x : Str} {f : α → MP} {w w' : Wp α} {p : α → Prop} (he : EW X B Γ O Z e f w') (h : ∀ a, SW X B (Γ.set i (some (f a))) O rest D (p a)) (hw : w' = w := by rfl) (hi : X.N[i]? = some x := by rfl) (hl : i < Γ.length := by exact Nat.le_of_ble_eq_true rfl) (hN : X.N.Nodup := by assumption)
    (hx : Loc X.env.scope x := by first | exact Or.inl rfl | exact Or.inr rfl) (hs : swapsWith e (some (.Name x pos')) pos.line X.env = pure false := by rfl) (hf : X.fn x = true ∨ X.env.scope.names.lookup x = some .local := by first | exact .inl rfl | exact .inr rfl | assumption) :
    SW X B Γ O (.Assign [.Name x pos'] e pos :: rest) D (W.run w Z p) :=
  s_cons fun q S H σ st => ⟨_, ps_set hN hi hx pe_w hs hf, he S H σ st p _ (hw ▸ q) fun a v S1 H1 p1 s1 t1 r1 => h a p1 S1 H1 _ (t1.set r1 hl)⟩
theorem s_setV {i : Nat} {x : Str} {f : α → MP} {v : α} {p : α → Prop} (he : EW X B Γ O Z e f (W.ret v)) (h : ∀ a, a = v → SW X B (Γ.set i (some (f a))) O rest D (p a)) (hi : X.N[i]? = some x := by rfl) (hl : i < Γ.length := by exact Nat.le_of_ble_eq_true rfl) (hN : X.N.Nodup := by assumption)
    (hx : Loc X.env.scope x := by first | exact Or.inl rfl | exact Or.inr rfl) (hs : swapsWith e (some (.Name x pos')) pos.line X.env = pure false := by rfl) (hf : X.fn x = true ∨ X.env.scope.names.lookup x = some .local := by first | exact .inl rfl | exact .inr rfl | assumption) :
    SW X B Γ O (.Assign [.Name x pos'] e pos :: rest) D (W.lt v p) :=
  s_cons fun q S H σ st => ⟨_, ps_set hN hi hx pe_w hs hf, he S H σ st (fun a => a = v) _ rfl fun a u S1 H1 p1 s1 t1 r1 => h a p1 (by rw [p1]; exact q) S1 H1 _ (t1.set r1 hl)⟩
theorem s_setN {i : Nat} {x : Str} {f : α → OP} {w w' : Wp α} {p : α → Prop} (he : NW X B Γ O Z e f w') (h : ∀ a v, SW X B (Γ.set i (some (tV v))) ((v, f a) :: O) rest D (p a)) (hw : w' = w := by rfl) (hi : X.N[i]? = some x := by rfl) (hl : i < Γ.length := by exact Nat.le_of_ble_eq_true rfl) (hN : X.N.Nodup := by assumption)
    (hx : Loc X.env.scope x := by first | exact Or.inl rfl | exact Or.inr rfl) (hs : swapsWith e (some (.Name x pos')) pos.line X.env = pure false := by rfl) (hf : X.fn x = true ∨ X.env.scope.names.lookup x = some .local := by first | exact .inl rfl | exact .inr rfl | assumption) :
    SW X B Γ O (.Assign [.Name x pos'] e pos :: rest) D (W.run w Z p) :=
  s_cons fun q S H σ st => ⟨_, ps_set hN hi hx pe_w hs hf, he S H σ st p _ (hw ▸ q) fun a v S1 H1 p1 s1 t1 r1 => h a v p1 S1 H1 _ (t1.set rfl hl)⟩
theorem s_if {w w' : Wp Bool} {p q : Prop} (hc : TW X B Γ O Z c w') (h1 : SW X B Γ O body { D with nx := wB X rest D } p) (h2 : SW X B Γ O els { D with nx := wB X rest D } q) (hw : w' = w := by rfl) : SW X B Γ O (.If c body els pos :: rest) D (W.run w Z fun b => W.ite b p q) :=
  s_cons fun hp S H σ st => ⟨_, ps_if pt_w pb_w pb_w, hc S H σ st _ _ (hw ▸ hp) fun b S1 H1 p1 s1 t1 => by
    cases b with
    | true => exact iteT (h1 (p1.1 rfl) S1 H1 σ t1)
    | false => exact iteF (h2 (p1.2 rfl) S1 H1 σ t1)⟩
theorem s_skip {D' : Ends} {p : Prop} (h : SW X B Γ O rest D' p) (hD : D.nx = wB X rest D' := by rfl) : SW X B Γ O [] D p := fun hp S H σ t => ⟨_, pss_nil, by show D.nx σ H; rw [hD]; exact h hp S H σ t⟩
theorem s_ifJ {τ : Type} (Gs : τ → Gm) (Os : τ → Om) {k : τ → Prop} {w w' : Wp Bool} {p q : (τ → Prop) → Prop} (hc : TW X B Γ O Z c w') (h1 : SW X B Γ O body { D with nx := At B Gs Os k } (p k)) (h2 : SW X B Γ O els { D with nx := At B Gs Os k } (q k)) (h : ∀ s, SW X B (Gs s) (Os s) rest D (k s)) (hw : w' = w := by rfl) :
    SW X B Γ O (.If c body els pos :: rest) D (W.jn k fun k => W.run w Z fun b => W.ite b (p k) (q k)) :=
  s_cons fun hp S H σ st => ⟨_, ps_if pt_w (pss_weak pb_w) (pss_weak pb_w), hc S H σ st _ _ (hw ▸ hp) fun b S1 H1 p1 s1 t1 => by
    have fin : ∀ σ H, At B Gs Os k σ H → wB X rest D σ H := fun σ H ⟨s, S', hk, t⟩ => h s hk S' H σ t
    cases b with
    | true => exact iteT ⟨{ D with nx := At B Gs Os k }, fin, rfl, rfl, rfl, h1 (p1.1 rfl) S1 H1 σ t1⟩
    | false => exact iteF ⟨{ D with nx := At B Gs Os k }, fin, rfl, rfl, rfl, h2 (p1.2 rfl) S1 H1 σ t1⟩⟩
theorem s_ret {f : α → MP} {w w' : Wp α} {p : α → Prop} (he : EW X B Γ O Z e f w') (h : ∀ a v S H σ, p a → Stt B Γ O S H σ → (f a).R S v → D.rt v H) (hw : w' = w := by rfl) : SW X B Γ O (.Return (some e) pos :: rest) D (W.run w Z p) :=
  s_cons fun q S H σ st => ⟨_, ps_ret pe_w, he S H σ st p _ (hw ▸ q) fun a v S1 H1 p1 s1 t1 r1 => h a v S1 H1 σ p1 t1 r1⟩
theorem s_retN {f : α → OP} {w w' : Wp α} {p : α → Prop} (he : NW X B Γ O Z e f w') (h : ∀ a v S H σ, p a → Stt B Γ ((v, f a) :: O) S H σ → D.rt v H) (hw : w' = w := by rfl) : SW X B Γ O (.Return (some e) pos :: rest) D (W.run w Z p) :=
  s_cons fun q S H σ st => ⟨_, ps_ret pe_w, he S H σ st p _ (hw ▸ q) fun a v S1 H1 p1 s1 t1 r1 => h a v S1 H1 σ p1 t1⟩
theorem s_expr {f : α → MP} {Os : α → V → Om} {w w' : Wp α} {p : α → Prop} (he : GW X B Γ O Z e f Os w') (h : ∀ a v, SW X B Γ (Os a v) rest D (p a)) (hw : w' = w := by rfl) (hs : swapsWith e none pos.line X.env = pure false := by rfl) : SW X B Γ O (.Expr e pos :: rest) D (W.run w Z p) :=
  s_cons fun q S H σ st => ⟨_, ps_expr pe_w hs, he S H σ st p _ (hw ▸ q) fun a v S1 H1 p1 s1 t1 r1 => h a v p1 S1 H1 σ t1⟩
theorem front_perm {x : V × OP} : ∀ {O : Om} (k : Nat), O[k]? = some x → O.Perm (x :: O.eraseIdx k)
  | [], k, h => by simp at h
  | y :: O, 0, h => by
    have e : y = x := by simpa using h
    subst e
    exact .refl _
  | y :: O, k + 1, h => by
    have e : O[k]? = some x := by simpa using h
    exact ((front_perm k e).cons y).trans (.swap _ _ _)
def frontO (k : Nat) (O : Om) : Om := match O[k]? with
  | some x => x :: O.eraseIdx k
  | none => O
theorem SW.out (k : Nat) {p : Prop} (h : SW X B Γ (O.eraseIdx k) body D p) : SW X B Γ O body D p := fun hp S H σ t => h hp S H σ (t.drop (List.eraseIdx_sublist _ _))
theorem SW.le {Γ' : Gm} {p : Prop} (h : SW X B Γ' O body D p) (g : Gle Γ' Γ) : SW X B Γ O body D p := fun hp S H σ t => h hp S H σ (t.forget g)
theorem SW.settle {i : Nat} {v : V} {P : OP} {M : MP} {p : Prop} (hs : Stl P M) (h : SW X B (Γ.set i (some M)) O body D p) (hv : Γ[i]? = some (some (tV v)) := by rfl) (hl : i < Γ.length := by exact Nat.le_of_ble_eq_true rfl) : SW X B Γ ((v, P) :: O) body D p := fun hp S H σ t => by
  obtain ⟨F, h1, h2, h3⟩ := t.settle hs
  refine ⟨_, pss_frzs pb_w, F, h1, h2, fun H2 hf => ?_⟩
  obtain ⟨S2, s2, t2, r2⟩ := h3 H2 hf
  obtain ⟨v', e1, e0⟩ := t.slot i _ hv
  have e0' : v' = v := e0
  subst e0'
  have e2 : σ.set i (some v') = σ := by
    apply List.ext_getElem?
    intro j
    by_cases q : i = j
    · subst q
      rw [List.getElem?_set_self (by rw [t.len]; exact hl), e1]
    · rw [List.getElem?_set_ne q]
  have t3 := t2.set r2 hl
  rw [e2] at t3
  exact h hp S2 H2 σ t3
end
end OW
namespace OW
open PySem PySem.Spec PyProof.Rows L2 OT

def MP.o (m : MP) : OP := ⟨fun S _ A v => A = [] ∧ m.R S v, fun e _ h => ⟨h.1, m.up e h.2⟩⟩
theorem stl_m {m : MP} : Stl (MP.o m) m := fun S H A v ⟨h1, h2⟩ nd hA => ⟨[], .nil, (fun _ h => by cases h), fun H' _ => by subst h1; exact h2⟩
theorem lend_m {m : MP} : Lend (MP.o m) m.b := fun S H A v ⟨h1, h2⟩ H' _ _ => h2
def AllO : List OP → Hp → Hp → List Addr → List V → Prop
  | [], _, _, A, [] => A = []
  | P :: Ps, S, H, A, v :: vs => ∃ A1 A2, A = A1 ++ A2 ∧ P.R S H A1 v ∧ AllO Ps S H A2 vs
  | _, _, _, _, _ => False
theorem AllO.fr : ∀ {Ps : List OP} {S S' H H' : Hp} {A : List Addr} {vs : List V}, Same S S' → (∀ a ∈ A, H' a = H a) → AllO Ps S H A vs → AllO Ps S' H' A vs
  | [], _, _, _, _, _, [], _, _, h => h
  | [], _, _, _, _, _, _ :: _, _, _, h => h.elim
  | _ :: _, _, _, _, _, _, [], _, _, h => h.elim
  | P :: Ps, _, _, _, _, _, v :: vs, e, hA, ⟨A1, A2, z, h1, h2⟩ => by
    subst z
    exact ⟨A1, A2, rfl, P.fr e (fun a ha => hA a (List.mem_append_left _ ha)) h1, AllO.fr e (fun a ha => hA a (List.mem_append_right _ ha)) h2⟩
theorem AllO.length : ∀ {Ps : List OP} {S H : Hp} {A : List Addr} {vs : List V}, AllO Ps S H A vs → vs.length = Ps.length
  | [], _, _, _, [], _ => rfl
  | [], _, _, _, _ :: _, h => h.elim
  | _ :: _, _, _, _, [], h => h.elim
  | P :: Ps, _, _, _, v :: vs, ⟨A1, A2, _, _, h⟩ => congrArg Nat.succ (AllO.length h)
theorem AllO.ofM {S H : Hp} : ∀ {Rs : List MP} {vs : List V}, AllM Rs S vs → AllO (Rs.map MP.o) S H [] vs
  | [], [], _ => rfl
  | [], _ :: _, h => h.elim
  | _ :: _, [], h => h.elim
  | R :: Rs, v :: vs, h => ⟨[], [], rfl, ⟨rfl, h.1⟩, AllO.ofM h.2⟩
theorem AllO.append {S H : Hp} : ∀ {Ps Qs : List OP} {A A' : List Addr} {vs ws : List V}, AllO Ps S H A vs → AllO Qs S H A' ws → AllO (Ps ++ Qs) S H (A ++ A') (vs ++ ws)
  | [], _, _, _, [], _, h, h' => by cases h; exact h'
  | [], _, _, _, _ :: _, _, h, _ => h.elim
  | _ :: _, _, _, _, [], _, h, _ => h.elim
  | P :: Ps, _, _, _, v :: vs, _, ⟨A1, A2, z, h1, h2⟩, h' => ⟨A1, A2 ++ _, by rw [z, List.append_assoc], h1, AllO.append h2 h'⟩
def oL (Ps : List OP) : OP := ⟨fun S H A v => ∃ p vs A', v = .ref p ∧ A = p :: A' ∧ H p = some (.lst vs) ∧ AllO Ps S H A' vs,
  fun {S S' H H' A v} e hA ⟨p, vs, A', h1, h2, h3, h4⟩ => ⟨p, vs, A', h1, h2, by rw [hA p (by rw [h2]; exact List.mem_cons_self)]; exact h3, h4.fr e fun a ha => hA a (by rw [h2]; exact List.mem_cons_of_mem _ ha)⟩⟩
abbrev oLs {α : Type} (f : α → MP) (xs : List α) : OP := oL (xs.map fun x => MP.o (f x))
abbrev tLs {α : Type} (K : PySem.W.Frag) (f : α → MP) (xs : List α) : MP := tL K (xs.map f)
abbrev tTs {α : Type} (K : PySem.W.Frag) (f : α → MP) (xs : List α) : MP := tT K (xs.map f)
theorem AllM.toR {S H : Hp} : ∀ {Rs : List MP} {vs : List V}, AllM Rs S vs → AllR (Rs.map MP.b) S H vs
  | [], [], _ => trivial
  | [], _ :: _, h => h.elim
  | _ :: _, [], h => h.elim
  | R :: Rs, v :: vs, h => ⟨h.1, AllM.toR h.2⟩
theorem AllM.toB {α : Type} {f : α → MP} {S H : Hp} {xs : List α} {vs : List V} (h : AllM (xs.map f) S vs) : AllR (xs.map fun x => (f x).b) S H vs := by
  have := AllM.toR (H := H) h
  rw [List.map_map] at this
  exact this
theorem AllR.toM {α : Type} {f : α → MP} {S H : Hp} {xs : List α} {vs : List V} (h : AllR (xs.map fun x => (f x).b) S H vs) : AllM (xs.map f) S vs := by
  refine AllM.ofR (H := H) ?_
  rw [List.map_map]
  exact h
theorem AllO.ofS {α : Type} {f : α → MP} {S H : Hp} {xs : List α} {vs : List V} (h : AllM (xs.map f) S vs) : AllO (xs.map fun x => MP.o (f x)) S H [] vs := by
  have := AllO.ofM (H := H) h
  rw [List.map_map] at this
  exact this
def bLB (Rs : List BP) : BP := ⟨fun S H v => ∃ a vs, v = .ref a ∧ H a = some (.lst vs) ∧ AllR Rs S H vs, fun e e' ⟨a, vs, h1, h2, h3⟩ => ⟨a, vs, h1, e' _ _ h2, h3.up e e'⟩⟩
def bTB (Rs : List BP) : BP := ⟨fun S H v => ∃ a vs, v = .ref a ∧ H a = some (.tup vs) ∧ AllR Rs S H vs, fun e e' ⟨a, vs, h1, h2, h3⟩ => ⟨a, vs, h1, e' _ _ h2, h3.up e e'⟩⟩
def bQB (K : PySem.W.Frag) (Rs : List BP) : BP := ⟨fun S H v => ∃ a vs, v = .ref a ∧ (SqL K H a vs ∨ SqT K H a vs) ∧ AllR Rs S H vs, fun e e' ⟨a, vs, h1, h2, h3⟩ => ⟨a, vs, h1, h2.elim (fun h => .inl (e'.seq h)) (fun h => .inr (Same.tup e' h)), h3.up e e'⟩⟩
abbrev rL {α : Type} (f : α → MP) (xs : List α) : BP := bLB (xs.map fun x => (f x).b)
abbrev rT {α : Type} (f : α → MP) (xs : List α) : BP := bTB (xs.map fun x => (f x).b)
abbrev rQ {α : Type} (K : PySem.W.Frag) (f : α → MP) (xs : List α) : BP := bQB K (xs.map fun x => (f x).b)
theorem bL_q {K : PySem.W.Frag} {Rs : List BP} {S H : Hp} {v : V} (h : (bLB Rs).R S H v) : (bQB K Rs).R S H v := let ⟨a, vs, h1, h2, h3⟩ := h; ⟨a, vs, h1, .inl (SqL.of h2), h3⟩
theorem bT_q {K : PySem.W.Frag} {Rs : List BP} {S H : Hp} {v : V} (h : (bTB Rs).R S H v) : (bQB K Rs).R S H v := let ⟨a, vs, h1, h2, h3⟩ := h; ⟨a, vs, h1, .inr (SqT.of h2), h3⟩
theorem lend_items {S H H' : Hp} {α : Type} {F : α → OP} {G : α → BP} (hl : ∀ x, Lend (F x) (G x)) (sm : Same S H') : ∀ {xs : List α} {A : List Addr} {vs : List V}, (∀ a ∈ A, H' a = H a) → AllO (xs.map F) S H A vs → AllR (xs.map G) S H' vs
  | [], _, [], _, _ => trivial
  | [], _, _ :: _, _, h => h.elim
  | _ :: _, _, [], _, h => h.elim
  | x :: xs, _, v :: vs, hA, ⟨A1, A2, z, h1, h2⟩ => by
    subst z
    exact ⟨hl x S H A1 v h1 H' (fun a ha => hA a (List.mem_append_left _ ha)) sm, lend_items hl sm (fun a ha => hA a (List.mem_append_right _ ha)) h2⟩
theorem lend_L {α : Type} {F : α → OP} {G : α → BP} {xs : List α} (hl : ∀ x, Lend (F x) (G x)) : Lend (oL (xs.map F)) (bLB (xs.map G)) := fun S H A v ⟨p, vs, A', h1, h2, h3, h4⟩ H' hA sm =>
  ⟨p, vs, h1, by rw [hA p (by rw [h2]; exact List.mem_cons_self)]; exact h3, lend_items hl sm (fun a ha => hA a (by rw [h2]; exact List.mem_cons_of_mem _ ha)) h4⟩
theorem lend_Ls {α : Type} {f : α → MP} {xs : List α} : Lend (oLs f xs) (rL f xs) := lend_L fun _ => lend_m
theorem cut_le {S H : Hp} {A A' : List Addr} (h : ∀ a ∈ A, a ∈ A') (hA : ∀ a ∈ A', S a = none) : Same (cut S H A) (cut S H A') := fun a o z => by
  by_cases q : a ∈ A
  · rw [cut_in q] at z
    rw [cut_in (h a q)]
    exact z
  · rw [cut_out q] at z
    by_cases q' : a ∈ A'
    · rw [hA a q'] at z; cases z
    · rw [cut_out q']; exact z
theorem stl_items {α : Type} {F : α → OP} {M : α → MP} (h : ∀ x, Stl (F x) (M x)) {S H : Hp} : ∀ {xs : List α} {A : List Addr} {vs : List V}, AllO (xs.map F) S H A vs → A.Nodup → (∀ a ∈ A, S a = none) →
    ∃ D : List Addr, D.Nodup ∧ (∀ d ∈ D, d ∈ A ∧ ∃ u, H d = some u ∧ Mut (some u)) ∧ ∀ H', FrzA A D H H' → AllM (xs.map M) (cut S H' A) vs
  | [], _, [], z, _, _ => ⟨[], .nil, (fun _ h => by cases h), fun _ _ => trivial⟩
  | [], _, _ :: _, z, _, _ => z.elim
  | _ :: _, _, [], z, _, _ => z.elim
  | x :: xs, _, v :: vs, ⟨A1, A2, z, h1, h2⟩, nd, hA => by
    subst z
    obtain ⟨n1, n2, n3⟩ := List.nodup_append.mp nd
    obtain ⟨D1, d1, d2, d3⟩ := h x S H A1 v h1 n1 fun a ha => hA a (List.mem_append_left _ ha)
    obtain ⟨D2, e1, e2, e3⟩ := stl_items h h2 n2 fun a ha => hA a (List.mem_append_right _ ha)
    refine ⟨D1 ++ D2, List.nodup_append.mpr ⟨d1, e1, fun a ha b hb => n3 a (d2 a ha).1 b (e2 b hb).1⟩, fun d hd => ?_, fun H' hf => ⟨?_, ?_⟩⟩
    · rcases List.mem_append.mp hd with q | q
      · exact ⟨List.mem_append_left _ (d2 d q).1, (d2 d q).2⟩
      · exact ⟨List.mem_append_right _ (e2 d q).1, (e2 d q).2⟩
    · refine (M x).up (cut_le (fun a ha => List.mem_append_left _ ha) hA) (d3 H' ⟨fun a ha hn => hf.out a (List.mem_append_left _ ha) fun q => ?_, fun d hd => hf.at_ d (List.mem_append_left _ hd)⟩)
      rcases List.mem_append.mp q with q | q
      · exact hn q
      · exact n3 a ha a (e2 a q).1 rfl
    · refine AllM.up (cut_le (fun a ha => List.mem_append_right _ ha) hA) (e3 H' ⟨fun a ha hn => hf.out a (List.mem_append_right _ ha) fun q => ?_, fun d hd => hf.at_ d (List.mem_append_right _ hd)⟩)
      rcases List.mem_append.mp q with q | q
      · exact n3 a (d2 a q).1 a ha rfl
      · exact hn q
theorem stl_L {K : PySem.W.Frag} {α : Type} {F : α → OP} {M : α → MP} {xs : List α} (h : ∀ x, Stl (F x) (M x)) : Stl (oL (xs.map F)) (tL K (xs.map M)) := fun S H A v ⟨p, vs, A', h1, h2, h3, h4⟩ nd hA => by
  subst h2
  obtain ⟨n1, n2⟩ := List.nodup_cons.mp nd
  obtain ⟨D, d1, d2, d3⟩ := stl_items h h4 n2 fun a ha => hA a (List.mem_cons_of_mem _ ha)
  refine ⟨D, d1, fun d hd => ⟨List.mem_cons_of_mem _ (d2 d hd).1, (d2 d hd).2⟩, fun H' hf => ⟨p, vs, h1, ?_, ?_⟩⟩
  · rw [cut_in List.mem_cons_self, hf.out p List.mem_cons_self fun q => n1 (d2 p q).1]
    exact h3
  · exact AllM.up (cut_le (fun a ha => List.mem_cons_of_mem _ ha) hA) (d3 H' ⟨fun a ha hn => hf.out a (List.mem_cons_of_mem _ ha) hn, hf.at_⟩)
theorem stl_Ls {K : PySem.W.Frag} {α : Type} {f : α → MP} {xs : List α} : Stl (oLs f xs) (tLs K f xs) := stl_L fun _ => stl_m
theorem tLs_b {K : PySem.W.Frag} {α : Type} {f : α → MP} {xs : List α} {S H : Hp} {v : V} (sm : Same S H) (h : (tLs K f xs).R S v) : (rL f xs).R S H v := let ⟨a, vs, h1, h2, h3⟩ := h; ⟨a, vs, h1, sm _ _ h2, AllM.toB h3⟩
theorem tTs_b {K : PySem.W.Frag} {α : Type} {f : α → MP} {xs : List α} {S H : Hp} {v : V} (sm : Same S H) (h : (tTs K f xs).R S v) : (rT f xs).R S H v := let ⟨a, vs, h1, h2, h3⟩ := h; ⟨a, vs, h1, sm _ _ h2, AllM.toB h3⟩
section
variable {X : Cx} {B : Bs} {Γ : Gm} {O N N' : Om} {Z : Er → Prop} {e a b c : Expr} {es : List Expr} {p p2 pos pos' : Pos} {D : Ends} {rest body els : List Stmt} {α β γ : Type} {x : Str}
theorem RW.imp {f g : α → BP} {w : Wp α} (h : RW X B Γ O Z N e f w) (i : ∀ a S H v, Same S H → (f a).R S H v → (g a).R S H v) : RW X B Γ O Z N e g w := ⟨h.1, fun S H σ st P Q p n => h.2 S H σ st P Q p fun a v S' H' p1 s1 t1 r1 => n a v S' H' p1 s1 t1 fun Γ2 O2 S2 H2 σ2 s2 t2 hn => i a S2 H2 v t2.sub (r1 Γ2 O2 S2 H2 σ2 s2 t2 hn)⟩
theorem RW.now {f : α → BP} {w : Wp α} (h : RW X B Γ O Z N e f w) : ∀ S H σ, Stt B Γ O S H σ → ∀ (P : α → Prop) (Q : VK), w P Z → (∀ a v S' H', P a → Same S S' → Stt B Γ O S' H' σ → (f a).R S' H' v → (∀ S2 H2, Same S' S2 → Stt B Γ O S2 H2 σ → (f a).R S2 H2 v) → Q v H') → wE X e σ H Q := fun S H σ st P Q p n => h.2 S H σ st P Q p fun a v S' H' p1 s1 t1 r1 => n a v S' H' p1 s1 t1 (r1 _ _ S' H' _ (Same.refl _) t1 h.1) fun S2 H2 s2 t2 => r1 _ _ S2 H2 _ s2 t2 h.1
variable {f : α → MP}
theorem EW.rl {w : Wp (List α)} (h : EW X B Γ O Z e (tLs X.K f) w) : RW X B Γ O Z [] e (rL f) w := h.r fun _ _ _ _ sm r => tLs_b sm r
theorem EW.rt {w : Wp (List α)} (h : EW X B Γ O Z e (tTs X.K f) w) : RW X B Γ O Z [] e (rT f) w := h.r fun _ _ _ _ sm r => tTs_b sm r
theorem RW.q {w : Wp (List α)} (h : RW X B Γ O Z N e (rL f) w) : RW X B Γ O Z N e (rQ X.K f) w := h.imp fun _ _ _ _ _ r => bL_q r
theorem RW.tq {w : Wp (List α)} (h : RW X B Γ O Z N e (rT f) w) : RW X B Γ O Z N e (rQ X.K f) w := h.imp fun _ _ _ _ _ r => bT_q r
theorem AllA.m {Rs : List MP} {S H : Hp} : ∀ {vs : List V}, AllA (Rs.map fun R => .b R.b) S H vs → AllM Rs S vs := by
  induction Rs with
  | nil => intro vs h; cases vs with
    | nil => exact trivial
    | cons _ _ => exact h.elim
  | cons R Rs ih => intro vs h; cases vs with
    | nil => exact h.elim
    | cons v vs => exact ⟨h.1, ih h.2⟩
theorem w_tup {k} {τ : Type} {F : τ → List MP} {w : Wp τ} (h : AW X B Γ O Z N es (fun t => (F t).map fun R => .b R.b) w) (hz : ∀ t, (F t).length ≤ 1000 := by intro _; exact Nat.le_of_ble_eq_true rfl) : EW X B Γ O Z (.Tuple es k pos) (fun t => tT X.K (F t)) w := fun S H σ st P Q p n =>
  ⟨_, pe_tup pa_w, h.2 S H σ st P _ p fun t vs S1 H1 p1 s1 t1 r1 => by
    have r := AllA.m (r1 _ _ S1 H1 _ (Same.refl _) t1 h.1)
    refine ⟨by rw [r.length]; exact Nat.le_trans (hz t) (by decide), fun q hq => ?_⟩
    have s2 := Stp.put (o := .tup vs) t1.sub hq
    exact n t _ _ _ p1 (s1.trans s2.s) (t1.step s2) ⟨q, vs, rfl, upd_same, r.up s2.s⟩⟩
theorem n_lst {τ : Type} {F : τ → List MP} {w : Wp τ} (h : AW X B Γ O Z N es (fun t => (F t).map fun R => .b R.b) w) (hz : ∀ t, (F t).length ≤ 1000 := by intro _; exact Nat.le_of_ble_eq_true rfl) : NW X B Γ O Z (.List es pos) (fun t => oL ((F t).map MP.o)) w := fun S H σ st P Q p n =>
  ⟨_, pe_lst pa_w, h.2 S H σ st P _ p fun t vs S1 H1 p1 s1 t1 r1 => by
    have r := AllA.m (r1 _ _ S1 H1 _ (Same.refl _) t1 h.1)
    refine ⟨by rw [r.length]; exact Nat.le_trans (hz t) (by decide), fun q hq => ?_⟩
    exact n t _ _ _ p1 s1 (t1.add (P := oL ((F t).map MP.o)) hq ⟨q, vs, [], rfl, rfl, upd_same, AllO.ofM r⟩) trivial⟩
abbrev W.get {α : Type} (xs : List α) (i : Int) : Wp α := fun Q _ => ∃ x, atI xs i = some x ∧ Q x
theorem AllR.get : ∀ {Rs : List BP} {S H : Hp} {vs : List V} {i : Nat} {R : BP}, AllR Rs S H vs → Rs[i]? = some R → ∃ v, vs[i]? = some v ∧ R.R S H v
  | [], _, _, _, _, _, _, e => by simp at e
  | _ :: _, _, _, [], _, _, h, _ => h.elim
  | Q :: Rs, _, _, v :: vs, 0, R, h, e => by
    simp at e; subst e; exact ⟨v, rfl, h.1⟩
  | Q :: Rs, _, _, v :: vs, i + 1, R, h, e => by
    have e2 : Rs[i]? = some R := by simpa using e
    obtain ⟨w, h1, h2⟩ := AllR.get h.2 e2
    exact ⟨w, by simpa using h1, h2⟩
theorem atI_map {g : α → β} {xs : List α} {i : Int} {x : α} (h : atI xs i = some x) : atI (xs.map g) i = some (g x) := by
  unfold atI at h ⊢
  rw [List.length_map]
  cases e : ixN xs.length i with
  | none => rw [e] at h; cases h
  | some j =>
    rw [e] at h
    show (xs.map g)[j]? = _
    have h' : xs[j]? = some x := h
    rw [List.getElem?_map, h']
    rfl
theorem atI_get {Rs : List BP} {S H : Hp} {vs : List V} {i : Int} {R : BP} (h : AllR Rs S H vs) (e : atI Rs i = some R) : ∃ v, atI vs i = some v ∧ R.R S H v := by
  unfold atI at e ⊢
  rw [h.length]
  cases q : ixN Rs.length i with
  | none => rw [q] at e; cases e
  | some j =>
    rw [q] at e
    exact AllR.get h e
def rIxQ (K : PySem.W.Frag) : R2 := fun x y H Q => ∃ p vs i v, x = .ref p ∧ y = .int i ∧ (SqL K H p vs ∨ SqT K H p vs) ∧ atI vs i = some v ∧ Q v H
theorem ix_q : IxR X (rIxQ X.K) := fun va sl pins s σ H x y v u Q I rx ry hz hss => by
  obtain ⟨p, vs, i, v, e1, e2, h2, h3, q⟩ := hz
  rcases h2 with h2 | h2
  · exact ix_list va sl pins s σ H _ _ _ _ Q I rx ry ⟨p, vs, i, v, e1, e2, h2, h3, q⟩ hss
  · exact ix_tup va sl pins s σ H _ _ _ _ Q I rx ry ⟨p, vs, i, v, e1, e2, h2, h3, q⟩ hss
theorem w_ix {wa : Wp (List α)} {wb : Wp Int} (ha : RW X B Γ O Z N a (rQ X.K f) wa) (hb : EW X B Γ O Z b tI wb) (hs : PlainIx b := by exact fun _ _ => rfl) : EW X B Γ O Z (.Subscript a b pos) f (W.bind wa fun xs => W.bind wb fun i => W.get xs i) := fun S H σ st P Q p n =>
  ⟨_, pe_ix ix_q pe_w pe_w hs, ha.now S H σ st _ _ p fun xs u S1 H1 p1 s1 t1 _ r1 => hb S1 H1 σ t1 _ _ p1 fun i v S2 H2 p2 s2 t2 r2 => by
    obtain ⟨x, hx, px⟩ := p2
    obtain ⟨q, vs, rfl, h2, h3⟩ := r1 S2 H2 s2 t2
    cases r2
    obtain ⟨y, h4, h5⟩ := atI_get h3 (atI_map (g := fun x => (f x).b) hx)
    exact ⟨q, vs, i, y, rfl, rfl, h2, h4, n x y S2 H2 px (s1.trans s2) t2 h5⟩⟩
theorem AllA.two {R R' : BP} {S H : Hp} {vs : List V} (h : AllA [.b R, .b R'] S H vs) : ∃ v w, vs = [v, w] ∧ R.R S H v ∧ R'.R S H w := match vs, h with
  | [v, w], h => ⟨v, w, rfl, h.1, h.2.1⟩
  | [], h => h.elim
  | [_], h => h.2.elim
  | _ :: _ :: _ :: _, h => h.2.2.elim
def AnsV (r : List V → Hp → VK → Prop) (b : α → BP) (g : β → MP) (k : α → Wp β) (Z : Er → Prop) : Prop := ∀ x S H v, Same S H → (b x).R S H v → ∀ (P : β → Prop) (Q : VK), k x P Z → (∀ y t S' H', P y → Stp S H S' H' → (g y).R S' t → Q t H') → r [v] H Q
def AnsN (r : List V → Hp → VK → Prop) (b : α → BP) (g : β → OP) (k : α → Wp β) (Z : Er → Prop) : Prop := ∀ x S H v, Same S H → (b x).R S H v → ∀ (P : β → Prop) (Q : VK), k x P Z → (∀ y p o, P y → H p = none → (g y).R S (upd H p o) [p] (.ref p) → Q (.ref p) (upd H p o)) → r [v] H Q
section
variable {g : β → MP} {go : β → OP} {bb : α → BP} {k : α → Wp β} {w : Wp α} {r : List V → Hp → VK → Prop}
theorem w_callB1 {id : String} (ha : RN X B Γ O Z e bb w) (hc : CallR X (.builtin id) r) (hv : bootBuiltins x = some (.builtin id)) (hq : AnsV r bb g k Z) (hm : X.mg x = none) (hg : Gl X x := by rfl) (hn : x ≠ "__name__" := by decide) (hdb : (x == ("__debug__" : Str)) = false := by decide)
    (he : starEach [e] X.env = (false, eval e X.env) :: starEach [] X.env := by rfl) : EW X B Γ O Z (.Call (.Name x p) [e] [] pos) g (W.bind w k) := fun S H σ st P Q p n =>
  ⟨_, pe_callB hc hg hm hv (pa_cons pe_w pa_nil he) hn hdb he rfl, ha S H σ st _ _ p fun y u S1 H1 p1 s1 t1 r1 => hq y S1 H1 u t1.sub r1 P Q p1 fun y' t S' H' p' s' r' => n y' t S' H' p' (s1.trans s'.s) (t1.step s') r'⟩
theorem w_callTy1 {T : String} (ha : RN X B Γ O Z e bb w) (hc : CallR X (.type T) r) (hv : bootBuiltins x = some (.type T)) (hq : AnsV r bb g k Z) (hm : X.mg x = none) (hg : Gl X x := by rfl) (hn : x ≠ "__name__" := by decide) (hdb : (x == ("__debug__" : Str)) = false := by decide)
    (he : starEach [e] X.env = (false, eval e X.env) :: starEach [] X.env := by rfl) : EW X B Γ O Z (.Call (.Name x p) [e] [] pos) g (W.bind w k) := fun S H σ st P Q p n =>
  ⟨_, pe_callTy hc hg hm hv (pa_cons pe_w pa_nil he) hn hdb he rfl, ha S H σ st _ _ p fun y u S1 H1 p1 s1 t1 r1 => hq y S1 H1 u t1.sub r1 P Q p1 fun y' t S' H' p' s' r' => n y' t S' H' p' (s1.trans s'.s) (t1.step s') r'⟩
theorem n_callB1 {id : String} (ha : RN X B Γ O Z e bb w) (hc : CallR X (.builtin id) r) (hv : bootBuiltins x = some (.builtin id)) (hq : AnsN r bb go k Z) (hm : X.mg x = none) (hg : Gl X x := by rfl) (hn : x ≠ "__name__" := by decide) (hdb : (x == ("__debug__" : Str)) = false := by decide)
    (he : starEach [e] X.env = (false, eval e X.env) :: starEach [] X.env := by rfl) : NW X B Γ O Z (.Call (.Name x p) [e] [] pos) go (W.bind w k) := fun S H σ st P Q p n =>
  ⟨_, pe_callB hc hg hm hv (pa_cons pe_w pa_nil he) hn hdb he rfl, ha S H σ st _ _ p fun y u S1 H1 p1 s1 t1 r1 => hq y S1 H1 u t1.sub r1 P Q p1 fun y' q o p' hq' r' => n y' _ S1 _ p' s1 (t1.add hq' r') trivial⟩
theorem n_callTy1 {T : String} (ha : RN X B Γ O Z e bb w) (hc : CallR X (.type T) r) (hv : bootBuiltins x = some (.type T)) (hq : AnsN r bb go k Z) (hm : X.mg x = none) (hg : Gl X x := by rfl) (hn : x ≠ "__name__" := by decide) (hdb : (x == ("__debug__" : Str)) = false := by decide)
    (he : starEach [e] X.env = (false, eval e X.env) :: starEach [] X.env := by rfl) : NW X B Γ O Z (.Call (.Name x p) [e] [] pos) go (W.bind w k) := fun S H σ st P Q p n =>
  ⟨_, pe_callTy hc hg hm hv (pa_cons pe_w pa_nil he) hn hdb he rfl, ha S H σ st _ _ p fun y u S1 H1 p1 s1 t1 r1 => hq y S1 H1 u t1.sub r1 P Q p1 fun y' q o p' hq' r' => n y' _ S1 _ p' s1 (t1.add hq' r') trivial⟩
end
theorem EW.rb {w : Wp α} (h : EW X B Γ O Z e f w) : RW X B Γ O Z [] e (fun a => (f a).b) w := h.r fun _ _ _ _ _ r => r
theorem w_len {w : Wp (List α)} (hm : X.mg "len" = none) (ha : RN X B Γ O Z e (rQ X.K f) w) (hg : Gl X "len" := by rfl) (he : starEach [e] X.env = (false, eval e X.env) :: starEach [] X.env := by rfl) : EW X B Γ O Z (.Call (.Name "len" p) [e] [] pos) tI (W.bind w fun xs => W.ret (xs.length : Int)) :=
  w_callB1 ha call_len_seq (by decide +kernel) (fun xs S H v sm ⟨q, ws, e1, h1, h2⟩ P Q p n => ⟨q, ws, by rw [e1], h1, n _ _ S H p (Stp.refl sm) (by rw [h2.length, List.length_map]; rfl)⟩) hm hg (by decide) (by decide) he
theorem w_abs {w : Wp Int} (hm : X.mg "abs" = none) (ha : EW X B Γ O Z e tI w) (hg : Gl X "abs" := by rfl) (he : starEach [e] X.env = (false, eval e X.env) :: starEach [] X.env := by rfl) : EW X B Γ O Z (.Call (.Name "abs" p) [e] [] pos) tI (W.bind w fun i => W.ret (i.natAbs : Int)) :=
  w_callB1 ha.rb.rn call_abs (by decide +kernel) (fun i S H v sm h P Q p n => by cases h; exact ⟨i, rfl, n _ _ S H p (Stp.refl sm) (by rw [abs_ite]; rfl)⟩) hm hg (by decide) (by decide) he
theorem w_intI {w : Wp Int} (hm : X.mg "int" = none) (ha : EW X B Γ O Z e tI w) (hg : Gl X "int" := by rfl) (he : starEach [e] X.env = (false, eval e X.env) :: starEach [] X.env := by rfl) : EW X B Γ O Z (.Call (.Name "int" p) [e] [] pos) tI w :=
  w_callTy1 (k := fun i => W.ret i) ha.rb.rn call_int1 (by decide +kernel) (fun i S H v sm h P Q p n => by cases h; exact .inl ⟨i, rfl, n _ _ S H p (Stp.refl sm) rfl⟩) hm hg (by decide) (by decide) he
theorem w_tuple {w : Wp (List α)} (hm : X.mg "tuple" = none) (ha : RN X B Γ O Z e (rL f) w) (hg : Gl X "tuple" := by rfl) (he : starEach [e] X.env = (false, eval e X.env) :: starEach [] X.env := by rfl) : EW X B Γ O Z (.Call (.Name "tuple" p) [e] [] pos) (tTs X.K f) w :=
  w_callTy1 (k := fun i => W.ret i) ha call_tuple_of (by decide +kernel) (fun xs S H v sm ⟨q, ws, e1, h1, h2⟩ P Q p n => ⟨q, ws, by rw [e1], .inl ⟨SqL.of h1, fun l hl => by
    have s2 := Stp.put (o := .tup ws) sm hl
    exact n xs _ _ _ p s2 ⟨l, ws, rfl, upd_same, AllM.up s2.s (AllR.toM h2)⟩⟩⟩) hm hg (by decide) (by decide) he
theorem w_any {w : Wp (List Bool)} (hm : X.mg "any" = none) (ha : RN X B Γ O Z e (rL OT.tB) w) (hg : Gl X "any" := by rfl) (hc : X.calm = true := by rfl) (he : starEach [e] X.env = (false, eval e X.env) :: starEach [] X.env := by rfl) : EW X B Γ O Z (.Call (.Name "any" p) [e] [] pos) tB (W.bind w fun bs => W.ret (bs.any id)) :=
  w_callB1 ha (cr_any hc) (by decide +kernel) (fun bs S H v sm ⟨q, ws, e1, h1, h2⟩ P Q p n => ⟨q, bs, by rw [e1], bls_of (AllR.toM h2) ▸ SqL.of h1, n _ _ S H p (Stp.refl sm) rfl⟩) hm hg (by decide) (by decide) he
theorem w_all {w : Wp (List Bool)} (hm : X.mg "all" = none) (ha : RN X B Γ O Z e (rL OT.tB) w) (hg : Gl X "all" := by rfl) (hc : X.calm = true := by rfl) (he : starEach [e] X.env = (false, eval e X.env) :: starEach [] X.env := by rfl) : EW X B Γ O Z (.Call (.Name "all" p) [e] [] pos) tB (W.bind w fun bs => W.ret (bs.all id)) :=
  w_callB1 ha (cr_all hc) (by decide +kernel) (fun bs S H v sm ⟨q, ws, e1, h1, h2⟩ P Q p n => ⟨q, bs, by rw [e1], bls_of (AllR.toM h2) ▸ SqL.of h1, n _ _ S H p (Stp.refl sm) rfl⟩) hm hg (by decide) (by decide) he
end
end OW
namespace OW
open PySem PySem.Spec PyProof.Rows L2 OT

def tRat (K : PySem.W.Frag) (q : Rt) : MP := tO (He.ga K "Ratio") [("top", tI q.top), ("bottom", tI q.bottom)]
def tZs {α : Type} (K : PySem.W.Frag) (f : α → MP) (xs : List α) : MP := ⟨fun S v => ∃ a ob vs, v = .ref a ∧ S a = some (.frz ob (.tup vs)) ∧ ob.dict = none ∧ ob.cls = .type "tuple" ∧ AllM (xs.map f) S vs, fun e ⟨a, ob, vs, h0, h1, h2, h4, h3⟩ => ⟨a, ob, vs, h0, e _ _ h1, h2, h4, h3.up e⟩⟩
def tDs {α : Type} (f : α → MP) (kvs : List (Str × α)) : MP := tD (kvs.map fun q => (.inr q.1, f q.2))
def tOrd (K : PySem.W.Frag) (o : Ord) : MP := tO (He.ga K "Order") [("names", tZs K tS o.names), ("above", tDs (tTs K tS) o.above)]
def Er.info (K : PySem.W.Frag) : Er → Str × List (Str × MP)
  | .badNumber n => ("BadNumber", [("n", tI n)])
  | .badNumberR q => ("BadNumber", [("n", tRat K q)])
  | .badText n => ("BadText", [("at", tI n)])
  | .badName s => ("BadName", [("name", tS s)])
  | .dup s => ("DuplicateName", [("name", tS s)])
  | .unknown s => ("UnknownName", [("name", tS s)])
  | .ring l => ("Ring", [("names", tLs K tS l)])
  | .badShares q => ("BadShares", [("total", tRat K q)])
  | .unlike a b => ("UnlikeOrders", [("second", tOrd K b), ("first", tOrd K a)])
  | .notRising a b l => ("NotRising", [("names", tLs K tS l), ("high", tS b), ("low", tS a)])
  | .noThrow => ("NoThrow", [])
  | .hasRing l => ("HasRing", [("names", tLs K tS l)])
  | .noRing => ("NoRing", [])
  | .nothing => ("NothingToUndo", [])
def xF (C : Addr) (fs : List (Str × MP)) : XP := ⟨fun S c d => c = .ref C ∧ (fs = [] ∨ ∃ a ws, d = some a ∧ S a = some (.xd ws) ∧ FldR fs S ws), fun {S S' c d} e ⟨h1, h⟩ => ⟨h1, h.imp id fun ⟨a, ws, h2, h3, h4⟩ => ⟨a, ws, h2, e _ _ h3, h4.up e⟩⟩⟩
def xEr (K : PySem.W.Frag) (x : Er) : XP := xF (He.ga K (x.info K).1) (x.info K).2
def minus (H : Hp) (A : List Addr) : Hp := fun a => if a ∈ A then none else H a
theorem minus_in {H : Hp} {A : List Addr} {a : Addr} (h : a ∈ A) : minus H A a = none := if_pos h
theorem minus_out {H : Hp} {A : List Addr} {a : Addr} (h : a ∉ A) : minus H A a = H a := if_neg h
theorem minus_same {H : Hp} {A : List Addr} : Same (minus H A) H := fun a o z => by
  by_cases q : a ∈ A
  · rw [minus_in q] at z; cases z
  · rw [minus_out q] at z; exact z
inductive AP where
  | b (R : BP)
  | o (P : OP)
def ArgR : List AP → Hp → Hp → Hp → List Addr → List V → Prop
  | [], _, _, _, A, [] => A = []
  | .b R :: r, S, L, H, A, v :: vs => R.R S L v ∧ ArgR r S L H A vs
  | .o P :: r, S, L, H, A, v :: vs => ∃ A1 A2, A = A1 ++ A2 ∧ P.R S H A1 v ∧ ArgR r S L H A2 vs
  | _, _, _, _, _, _ => False
def mutO : List AP → List V → List OP → Om
  | .o _ :: r, v :: vs, M :: Ms => (v, M) :: mutO r vs Ms
  | .b _ :: r, _ :: vs, Ms => mutO r vs Ms
  | _, _, _ => []
def ownP : List AP → List OP
  | [] => []
  | .o P :: r => P :: ownP r
  | .b _ :: r => ownP r
inductive RP where
  | v (R : MP)
  | o (P : OP)
def RP.post (r : RP) (B : Bs) (O : Om) (v : V) (S H : Hp) : Prop := match r with
  | .v R => Stt B [] O S H [] ∧ R.R S v
  | .o P => Stt B [] ((v, P) :: O) S H []
structure Pro (K : PySem.W.Frag) (As : List AP) {ρ : Type} (w : Wp ρ) (res : ρ → RP) (Ms : ρ → List OP) (vs : List V) (H : Hp) (Q : VK) (E : XK) (S : Hp) (A : List Addr) (P : ρ → Prop) (Z : Er → Prop) : Prop where
  sm : Same S H
  nd : A.Nodup
  fr : ∀ a ∈ A, S a = none ∧ H a ≠ none
  ar : ArgR As S (minus H A) H A vs
  w : w P Z
  q : ∀ r v S' H', P r → (res r).post ⟨S, minus H A, .yes⟩ (mutO As vs (Ms r)) v S' H' → Q v H'
  x : ∀ x c d S' H', Z x → Stt ⟨S, minus H A, .yes⟩ [] (mutO As vs (ownP As)) S' H' [] → (xEr K x).R S' c d → E c d H'
def spW {D ρ : Type} (K : PySem.W.Frag) (As : D → List AP) (w : D → Wp ρ) (res : ρ → RP) (Ms : ρ → List OP) : Sp := fun vs H Q E => ∃ d S A P Z, Pro K (As d) (w d) res Ms vs H Q E S A P Z
structure Hd (X : Cx) (B : Bs) (Γ : Gm) (O : Om) (Z : Er → Prop) (W : WX) : Prop where
  tk : Takes X W
  go : ∀ x, Z x → ∀ c d S H σ, Stt B Γ O S H σ → (xEr X.K x).R S c d → W c d σ H
section
variable {P : Program} {w : World} {K : PySem.W.Frag} {mg : Str → Option Value} {base : Heap} {x qual : Str} {params : Arguments} {body : List Stmt} {scope : Scope} {kws : List (Str × V)} {f : Addr} {fd : FuncData}
theorem ArgR.length : ∀ {As : List AP} {S L H : Hp} {A : List Addr} {vs : List V}, ArgR As S L H A vs → vs.length = As.length
  | [], _, _, _, _, [], _ => rfl
  | [], _, _, _, _, _ :: _, h => h.elim
  | .b _ :: _, _, _, _, _, [], h => h.elim
  | .o _ :: _, _, _, _, _, [], h => h.elim
  | .b R :: r, _, _, _, _, v :: vs, h => congrArg Nat.succ (ArgR.length h.2)
  | .o P :: r, _, _, _, _, v :: vs, ⟨_, _, _, _, h⟩ => congrArg Nat.succ (ArgR.length h)
theorem ArgR.own : ∀ {As : List AP} {S L H : Hp} {A : List Addr} {vs : List V}, ArgR As S L H A vs → OwnL S H (mutO As vs (ownP As)) A
  | [], _, _, _, _, [], h => h
  | [], _, _, _, _, _ :: _, h => h.elim
  | .b _ :: _, _, _, _, _, [], h => h.elim
  | .o _ :: _, _, _, _, _, [], h => h.elim
  | .b R :: r, _, _, _, _, v :: vs, h => ArgR.own (As := r) h.2
  | .o P :: r, _, _, _, _, v :: vs, ⟨A1, A2, e, h1, h2⟩ => ⟨A1, A2, e, h1, ArgR.own h2⟩
def gm1 : List AP → List V → Hp → Gm
  | .b R :: r, _ :: vs, L => some (R.at_ L) :: gm1 r vs L
  | .o _ :: r, v :: vs, L => some (tV v) :: gm1 r vs L
  | _, _, _ => []
theorem gm1_len : ∀ {As : List AP} {S L H : Hp} {A : List Addr} {vs : List V}, ArgR As S L H A vs → (gm1 As vs L).length = As.length
  | [], _, _, _, _, [], _ => rfl
  | [], _, _, _, _, _ :: _, h => h.elim
  | .b _ :: _, _, _, _, _, [], h => h.elim
  | .o _ :: _, _, _, _, _, [], h => h.elim
  | .b R :: r, _, _, _, _, v :: vs, h => congrArg Nat.succ (gm1_len (As := r) h.2)
  | .o P :: r, _, _, _, _, v :: vs, ⟨_, _, _, _, h⟩ => congrArg Nat.succ (gm1_len h)
theorem gm1_slot {n : Nat} : ∀ {As : List AP} {S L H : Hp} {A : List Addr} {vs : List V}, ArgR As S L H A vs → ∀ (i : Nat) (R : MP), (gm1 As vs L ++ List.replicate n none)[i]? = some (some R) → ∃ v, (vs.map some ++ List.replicate n none)[i]? = some (some v) ∧ R.R S v
  | [], _, _, _, _, [], _, i, R, e => by
    have e2 : (List.replicate n (none : Option MP))[i]? = some (some R) := e
    have := List.mem_of_getElem? e2
    rw [List.mem_replicate] at this
    cases this.2
  | [], _, _, _, _, _ :: _, h, _, _, _ => h.elim
  | .b _ :: _, _, _, _, _, [], h, _, _, _ => h.elim
  | .o _ :: _, _, _, _, _, [], h, _, _, _ => h.elim
  | .b Q :: r, _, _, _, _, v :: vs, h, 0, R, e => by
    have e2 : Q.at_ _ = R := Option.some.inj (Option.some.inj e)
    subst e2
    exact ⟨v, rfl, h.1⟩
  | .b Q :: r, _, _, _, _, v :: vs, h, i + 1, R, e => gm1_slot (As := r) h.2 i R e
  | .o Q :: r, _, _, _, _, v :: vs, ⟨_, _, _, _, h⟩, 0, R, e => by
    have e2 : tV v = R := Option.some.inj (Option.some.inj e)
    subst e2
    exact ⟨v, rfl, rfl⟩
  | .o Q :: r, _, _, _, _, v :: vs, ⟨_, _, _, _, h⟩, i + 1, R, e => gm1_slot h i R e
theorem stt1 {N : List Str} {As : List AP} {S H : Hp} {A : List Addr} {vs : List V} (sm : Same S H) (nd : A.Nodup) (fr : ∀ a ∈ A, S a = none ∧ H a ≠ none) (h : ArgR As S (minus H A) H A vs) :
    Stt ⟨S, minus H A, .yes⟩ (gm1 As vs (minus H A) ++ List.replicate (N.length - As.length) none) (mutO As vs (ownP As)) S H (start N vs) where
  st := ⟨Same.refl _, sm, minus_same, fun _ h _ => h⟩
  slot := fun i R e => by
    unfold L2.start
    rw [h.length]
    exact gm1_slot h i R e
  len := by
    unfold L2.start
    rw [List.length_append, List.length_append, List.length_map, List.length_replicate, List.length_replicate, h.length, gm1_len h]
  own := ⟨A, nd, fun a ha => ⟨(fr a ha).1, minus_in ha, (fr a ha).2⟩, h.own⟩
  gh := trivial
theorem Stt.bare {B : Bs} {Γ : Gm} {O : Om} {S H : Hp} {σ : L2.St} (t : Stt B Γ O S H σ) : Stt B [] O S H [] := ⟨t.st, (fun i R e => by simp at e), rfl, t.own, t.gh⟩
structure Fin {ρ : Type} (B : Bs) (res : ρ → RP) (Os : ρ → Om) (P : ρ → Prop) (Q : VK) : Prop where
  go : ∀ r v S H, P r → (res r).post B (Os r) v S H → Q v H
theorem fun_ok {D ρ : Type} {As : D → List AP} {wp : D → Wp ρ} {res : ρ → RP} {Ms : ρ → List OP} {N ps : List Str} {k : Nat} (F : FunD K x qual params body scope [] kws f fd) (Sc : FnScope N ps scope) (hl : ∀ d, (As d).length = ps.length)
    (hb : ∀ (cdv : Value) (A : Around) (outer : List Env) (s : Shared) (H0 L S : Hp) (Q : VK) (E : XK) (d : D) (vs : List V) (Pp : ρ → Prop) (Z : Er → Prop), vs.length = ps.length → Room k (A.deeper (envOfC qual scope s.heap.objs.size f cdv)) →
      Fin ⟨S, L, .yes⟩ res (fun r => mutO (As d) vs (Ms r)) Pp Q →
      (∀ Γ O, (mutO (As d) vs (ownP (As d))).Sublist O → Hd (cxOf (L2.CX P w) P w K mg base N qual scope f cdv A outer s H0 E) ⟨S, L, .yes⟩ Γ O Z (fun c d _ H => E c d H)) →
      SW (cxOf (L2.CX P w) P w K mg base N qual scope f cdv A outer s H0 E) ⟨S, L, .yes⟩ (gm1 (As d) vs L ++ List.replicate (N.length - (As d).length) none) (mutO (As d) vs (ownP (As d))) body { nx := fun _ H' => Q .non H', rt := Q } (wp d Pp Z)) : FnOk P w K mg base (L2.CX P w) (k + 1) f fd ps (spW K As wp res Ms) := by
  refine F.ok Sc (fun vs H Q E h => ?_) (fun cdv A outer s H vs Q E hr h => ?_)
  · obtain ⟨d, S, A, Pp, Z, h⟩ := h
    rw [h.ar.length, hl]
  · obtain ⟨d, S, A', Pp, Z, h⟩ := h
    refine hb cdv A outer s H (minus H A') S Q E d vs Pp Z (by rw [h.ar.length, hl]) hr ⟨h.q⟩ (fun Γ O hs => ⟨tk_cx, fun x hx c dd S' H' σ t r => h.x x c dd S' H' hx (t.drop hs).bare r⟩) h.w S H _ (stt1 h.sm h.nd h.fr h.ar)
end
def ArgM : List AA → List AP → Om → Prop
  | [], [], [] => True
  | .b R :: r, .b R' :: r', M => R = R' ∧ ArgM r r' M
  | .t v :: r, .o P :: r', m :: M => m = (v, P) ∧ ArgM r r' M
  | _, _, _ => False
def zipO : Om → List OP → Om
  | m :: M, P :: Ps => (m.1, P) :: zipO M Ps
  | _, _ => []
theorem ArgM.zip {Ps : List OP} {S H : Hp} : ∀ {as : List AA} {As : List AP} {M : Om} {vs : List V}, ArgM as As M → AllA as S H vs → mutO As vs Ps = zipO M Ps := by
  intro as
  induction as generalizing Ps with
  | nil =>
    intro As M vs h g
    cases As with
    | nil => cases M with
      | nil => rfl
      | cons _ _ => exact h.elim
    | cons a As => cases a <;> exact h.elim
  | cons a as ih =>
    intro As M vs h g
    cases a with
    | b R =>
      cases vs with
      | nil => exact g.elim
      | cons v vs =>
        cases As with
        | nil => exact h.elim
        | cons a As =>
          cases a with
          | b R' => exact (ih h.2 g.2 : mutO As vs _ = _)
          | o P => exact h.elim
    | t u =>
      cases vs with
      | nil => exact g.elim
      | cons v vs =>
        cases As with
        | nil => exact h.elim
        | cons a As =>
          cases a with
          | b R' => exact h.elim
          | o P =>
            cases M with
            | nil => exact h.elim
            | cons m M =>
              cases Ps with
              | nil => rfl
              | cons Q Ps =>
                show (v, Q) :: mutO As vs Ps = (m.1, Q) :: zipO M Ps
                rw [ih h.2 g.2, h.1, g.1]
theorem ArgM.own {S H : Hp} : ∀ {as : List AA} {As : List AP} {M : Om} {vs : List V}, ArgM as As M → AllA as S H vs → mutO As vs (ownP As) = M := by
  intro as
  induction as with
  | nil =>
    intro As M vs h g
    cases As with
    | nil => cases M with
      | nil => rfl
      | cons _ _ => exact h.elim
    | cons a As => cases a <;> exact h.elim
  | cons a as ih =>
    intro As M vs h g
    cases a with
    | b R =>
      cases vs with
      | nil => exact g.elim
      | cons v vs =>
        cases As with
        | nil => exact h.elim
        | cons a As =>
          cases a with
          | b R' => exact (ih h.2 g.2 : mutO As vs _ = _)
          | o P => exact h.elim
    | t u =>
      cases vs with
      | nil => exact g.elim
      | cons v vs =>
        cases As with
        | nil => exact h.elim
        | cons a As =>
          cases a with
          | b R' => exact h.elim
          | o P =>
            cases M with
            | nil => exact h.elim
            | cons m M =>
              show (v, P) :: mutO As vs (ownP As) = m :: M
              rw [ih h.2 g.2, h.1, g.1]
theorem ArgM.args {S L H : Hp} : ∀ {as : List AA} {As : List AP} {M : Om} {vs : List V} {A : List Addr}, ArgM as As M → AllA as S L vs → OwnL S H M A → ArgR As S L H A vs := by
  intro as
  induction as with
  | nil =>
    intro As M vs A h g k
    cases As with
    | nil => cases M with
      | nil => cases vs with
        | nil => exact k
        | cons _ _ => exact g.elim
      | cons _ _ => exact h.elim
    | cons a As => cases a <;> exact h.elim
  | cons a as ih =>
    intro As M vs A h g k
    cases a with
    | b R =>
      cases vs with
      | nil => exact g.elim
      | cons v vs =>
        cases As with
        | nil => exact h.elim
        | cons a As =>
          cases a with
          | b R' => exact ⟨h.1 ▸ g.1, ih h.2 g.2 k⟩
          | o P => exact h.elim
    | t u =>
      cases vs with
      | nil => exact g.elim
      | cons v vs =>
        cases As with
        | nil => exact h.elim
        | cons a As =>
          cases a with
          | b R' => exact h.elim
          | o P =>
            cases M with
            | nil => exact h.elim
            | cons m M =>
              obtain ⟨A1, A2, e, k1, k2⟩ := k
              have h1 := h.1
              subst h1
              have g1 : v = u := g.1
              subst g1
              exact ⟨A1, A2, e, k1, ih h.2 g.2 k2⟩
section
variable {X : Cx} {B : Bs} {Γ : Gm} {O N : Om} {Z : Er → Prop} {e a b c o : Expr} {es : List Expr} {p p2 pos pos' apos : Pos} {Ds : Ends} {rest body els : List Stmt} {α β γ : Type} {x m : Str} {Wx : WX}
theorem Stt.call {M R : Om} {S H : Hp} {σ : L2.St} (t : Stt B Γ (M ++ R) S H σ) : ∃ A, A.Nodup ∧ (∀ a ∈ A, S a = none ∧ H a ≠ none) ∧ OwnL S H M A ∧ Stt B Γ R S (minus H A) σ ∧ ∀ O' S' H', Stt ⟨S, minus H A, .yes⟩ [] O' S' H' [] → Stt B Γ (O' ++ R) S' H' σ := by
  obtain ⟨A, nd, hA, h⟩ := t.own
  obtain ⟨A1, A2, e, h1, h2⟩ := h.split
  subst e
  obtain ⟨n1, n2, n3⟩ := List.nodup_append.mp nd
  have o2 : ∀ a ∈ A2, a ∉ A1 := fun a ha q => n3 a q a ha rfl
  have st1 : Stp B.S B.H S (minus H A1) := ⟨t.st.s, fun a o z => ?_, fun a o z => ?_, t.st.fr⟩
  · have t1 : Stt B Γ R S (minus H A1) σ := ⟨st1, t.slot, t.len, ⟨A2, n2, fun a ha => ?_, h2.fr (Same.refl _) fun a ha => minus_out (o2 a ha)⟩, t.gh⟩
    · refine ⟨A1, n1, fun a ha => ⟨(hA a (List.mem_append_left _ ha)).1, (hA a (List.mem_append_left _ ha)).2.2⟩, h1, t1, fun O' S' H' t2 => ?_⟩
      obtain ⟨A', nd', hA', h'⟩ := t2.own
      have keep : ∀ a ∈ A2, H' a = minus H A1 a := fun a ha => by
        cases z : minus H A1 a with
        | none => rw [minus_out (o2 a ha)] at z; exact absurd z (hA a (List.mem_append_right _ ha)).2.2
        | some o => exact t2.st.h a o z
      refine ⟨st1.trans t2.st, fun i Q e => ?_, t.len, ⟨A' ++ A2, ?_, fun a ha => ?_, h'.append (h2.fr t2.st.s fun a ha => by rw [keep a ha, minus_out (o2 a ha)])⟩, B.P.up t2.st.s t.gh⟩
      · obtain ⟨v, g1, g2⟩ := t.slot i Q e
        exact ⟨v, g1, Q.up t2.st.s g2⟩
      · refine List.nodup_append.mpr ⟨nd', n2, fun a ha b hb z => ?_⟩
        subst z
        have := (hA' a ha).2.1
        rw [show (⟨S, minus H A1, Gho.yes⟩ : Bs).H a = minus H A1 a from rfl, minus_out (o2 a hb)] at this
        exact (hA a (List.mem_append_right _ hb)).2.2 this
      · rcases List.mem_append.mp ha with q | q
        · exact ⟨(hA' a q).1, st1.h.free (hA' a q).2.1, (hA' a q).2.2⟩
        · have y := hA a (List.mem_append_right _ q)
          refine ⟨t2.st.fr a y.1 ?_, y.2.1, ?_⟩
          · show minus H A1 a ≠ none
            rw [minus_out (o2 a q)]; exact y.2.2
          · rw [keep a q, minus_out (o2 a q)]; exact y.2.2
    · have y := hA a (List.mem_append_right _ ha)
      exact ⟨y.1, y.2.1, by rw [minus_out (o2 a ha)]; exact y.2.2⟩
  · rw [minus_out fun q => ?_]
    · exact t.sub a o z
    · have := (hA a (List.mem_append_left _ q)).1
      rw [z] at this
      cases this
  · rw [minus_out fun q => ?_]
    · exact t.st.h a o z
    · have := (hA a (List.mem_append_left _ q)).2.1
      rw [z] at this
      cases this
section
variable {τ D ρ : Type} {As : D → List AP} {wp : D → Wp ρ} {res : ρ → RP} {Ms : ρ → List OP} {F : τ → List AA} {M R : Om} {w : Wp τ}
theorem call_go (hd : Hd X B Γ O Z Wx) (d : D) {as : List AA} (hA : ArgM as (As d) M) (hp : O.Perm (M ++ R)) (hN : ∀ x ∈ N, x ∈ R) {S H : Hp} {σ : L2.St} (t : Stt B Γ O S H σ) {vs : List V} (hv : ∀ Γ2 O2 S2 H2 σ2, Same S S2 → Stt B Γ2 O2 S2 H2 σ2 → (∀ x ∈ N, x ∈ O2) → AllA as S2 H2 vs)
    {P : ρ → Prop} {Q : VK} (hw : wp d P Z) (hQ : ∀ r v S' H', P r → Same S S' → (match res r with | .v Rr => Stt B Γ (zipO M (Ms r) ++ R) S' H' σ ∧ Rr.R S' v | .o Pr => Stt B Γ ((v, Pr) :: (zipO M (Ms r) ++ R)) S' H' σ) → Q v H') : spW X.K As wp res Ms vs H Q (WE Wx σ) := by
  obtain ⟨A, nd, fr, ow, t1, back⟩ := (t.perm hp).call
  have g := hv _ _ S (minus H A) _ (Same.refl _) t1 hN
  refine ⟨d, S, A, P, Z, t.sub, nd, fr, hA.args g ow, hw, fun r v S' H' p h => ?_, fun x c dd S' H' hx h r => ?_⟩
  · rw [hA.zip g] at h
    refine hQ r v S' H' p ?_ ?_
    · cases q : res r with
      | v Rr => rw [q] at h; exact h.1.st.s
      | o Pr => rw [q] at h; exact Stp.s (Stt.st h)
    · cases q : res r with
      | v Rr => rw [q] at h; exact ⟨back _ _ _ h.1, h.2⟩
      | o Pr => rw [q] at h; exact back _ _ _ h
  · rw [hA.own g] at h
    exact hd.go x hx c dd S' H' σ ((back _ _ _ h).perm hp.symm) r
variable {k : Nat} {ps : List Str} {C : Addr}
theorem c_call {f : ρ → MP} (G : GF X.prog X.w X.K X.mg X.base x k ps (spW X.K As wp res Ms)) (hr : Room k X.A) (hd : Hd X B Γ O Z Wx) (d : τ → D) (ha : AW X B Γ O Z N (e :: es) F w) (hA : ∀ t, ArgM (F t) (As (d t)) M) (hp : O.Perm (M ++ R)) (hN : ∀ x ∈ N, x ∈ R) (hf : ∀ r, res r = .v (f r) := by intro _; rfl)
    (hg : Gl X x := by rfl) (hdb : (x == ("__debug__" : Str)) = false := by decide) (he : starEach (e :: es) X.env = (false, eval e X.env) :: starEach es X.env := by rfl) (hpl : (backTo pos (starEach es X.env)).any (·.1) = false := by rfl) : GW X B Γ O Z (.Call (.Name x p) (e :: es) [] pos) f (fun r _ => zipO M (Ms r) ++ R) (W.bind w fun t => wp (d t)) := by
  obtain ⟨g, fd, G, hm, hk, hb⟩ := G
  intro S H σ st P Q p n
  refine ⟨_, pe_callSD G hr hg hm hk hb .nil (fun σ => passAt hd.tk σ) pa_w hdb he hpl, ha.2 S H σ st _ _ p fun t vs S1 H1 p1 s1 t1 r1 => ?_⟩
  show spW X.K As wp res Ms (vs ++ []) H1 Q (WE Wx σ)
  rw [List.append_nil]
  refine call_go hd (d t) (hA t) hp hN t1 r1 p1 fun r v S' H' p2 s2 h => ?_
  rw [hf r] at h
  exact n r v S' H' p2 (s1.trans s2) h.1 h.2
theorem c_callN {f : ρ → OP} (G : GF X.prog X.w X.K X.mg X.base x k ps (spW X.K As wp res Ms)) (hr : Room k X.A) (hd : Hd X B Γ O Z Wx) (d : τ → D) (ha : AW X B Γ O Z N (e :: es) F w) (hA : ∀ t, ArgM (F t) (As (d t)) M) (hp : O.Perm (M ++ R)) (hN : ∀ x ∈ N, x ∈ R) (hf : ∀ r, res r = .o (f r) := by intro _; rfl)
    (hg : Gl X x := by rfl) (hdb : (x == ("__debug__" : Str)) = false := by decide) (he : starEach (e :: es) X.env = (false, eval e X.env) :: starEach es X.env := by rfl) (hpl : (backTo pos (starEach es X.env)).any (·.1) = false := by rfl) : GW X B Γ O Z (.Call (.Name x p) (e :: es) [] pos) (fun _ => tAny) (fun r v => (v, f r) :: (zipO M (Ms r) ++ R)) (W.bind w fun t => wp (d t)) := by
  obtain ⟨g, fd, G, hm, hk, hb⟩ := G
  intro S H σ st P Q p n
  refine ⟨_, pe_callSD G hr hg hm hk hb .nil (fun σ => passAt hd.tk σ) pa_w hdb he hpl, ha.2 S H σ st _ _ p fun t vs S1 H1 p1 s1 t1 r1 => ?_⟩
  show spW X.K As wp res Ms (vs ++ []) H1 Q (WE Wx σ)
  rw [List.append_nil]
  refine call_go hd (d t) (hA t) hp hN t1 r1 p1 fun r v S' H' p2 s2 h => ?_
  rw [hf r] at h
  exact n r v S' H' p2 (s1.trans s2) h trivial
theorem GW.back {f : α → MP} {O' : Om} {w : Wp α} (h : GW X B Γ O Z e f (fun _ _ => O') w) (hp : O'.Perm O) : EW X B Γ O Z e f w := fun S H σ st P Q p n => h S H σ st P Q p fun a v S' H' p1 s1 t1 r1 => n a v S' H' p1 s1 (t1.perm hp) r1
end
end
end OW
namespace OW
open PySem PySem.Spec PyProof.Rows L2 OT NdefX

def FldO : List (Str × OP) → Hp → Hp → List Addr → List (Str × V) → Prop
  | [], _, _, A, [] => A = []
  | (f, P) :: Ps, S, H, A, (g, v) :: vs => f = g ∧ ∃ A1 A2, A = A1 ++ A2 ∧ P.R S H A1 v ∧ FldO Ps S H A2 vs
  | _, _, _, _, _ => False
theorem FldO.fr : ∀ {Ps : List (Str × OP)} {S S' H H' : Hp} {A : List Addr} {vs : List (Str × V)}, Same S S' → (∀ a ∈ A, H' a = H a) → FldO Ps S H A vs → FldO Ps S' H' A vs
  | [], _, _, _, _, _, [], _, _, h => h
  | [], _, _, _, _, _, _ :: _, _, _, h => h.elim
  | _ :: _, _, _, _, _, _, [], _, _, h => h.elim
  | (f, P) :: Ps, _, _, _, _, _, (g, v) :: vs, e, hA, ⟨h0, A1, A2, z, h1, h2⟩ => by
    subst z
    exact ⟨h0, A1, A2, rfl, P.fr e (fun a ha => hA a (List.mem_append_left _ ha)) h1, FldO.fr e (fun a ha => hA a (List.mem_append_right _ ha)) h2⟩
theorem FldO.len : ∀ {Ps : List (Str × OP)} {S H : Hp} {A : List Addr} {vs : List (Str × V)}, FldO Ps S H A vs → vs.length = Ps.length
  | [], _, _, _, [], _ => rfl
  | [], _, _, _, _ :: _, h => h.elim
  | _ :: _, _, _, _, [], h => h.elim
  | _ :: Ps, _, _, _, _ :: vs, ⟨_, _, _, _, _, h⟩ => congrArg Nat.succ (FldO.len h)
def oI (C : Addr) (Ps : List (Str × OP)) : OP := ⟨fun S H A v => ∃ x dx fs A', v = .ref x ∧ A = x :: dx :: A' ∧ H x = some (.ins C dx fs) ∧ H dx = some (.own x) ∧ FldO Ps S H A' fs,
  fun {S S' H H' A v} e hA ⟨x, dx, fs, A', h1, h2, h3, h4, h5⟩ => ⟨x, dx, fs, A', h1, h2, by rw [hA x (by rw [h2]; simp)]; exact h3, by rw [hA dx (by rw [h2]; simp)]; exact h4, h5.fr e fun a ha => hA a (by rw [h2]; exact List.mem_cons_of_mem _ (List.mem_cons_of_mem _ ha))⟩⟩
def StlF : List (Str × OP) → List (Str × MP) → Prop
  | [], [] => True
  | (f, P) :: Ps, (g, M) :: Ms => f = g ∧ Stl P M ∧ StlF Ps Ms
  | _, _ => False
theorem stl_flds {S H : Hp} : ∀ {Ps : List (Str × OP)} {Ms : List (Str × MP)} {A : List Addr} {vs : List (Str × V)}, StlF Ps Ms → FldO Ps S H A vs → A.Nodup → (∀ a ∈ A, S a = none) →
    ∃ D : List Addr, D.Nodup ∧ (∀ d ∈ D, d ∈ A ∧ ∃ u, H d = some u ∧ Mut (some u)) ∧ ∀ H', FrzA A D H H' → FldR Ms (cut S H' A) vs
  | [], [], _, [], _, z, _, _ => ⟨[], .nil, (fun _ h => by cases h), fun _ _ => trivial⟩
  | [], [], _, _ :: _, _, z, _, _ => z.elim
  | [], _ :: _, _, _, h, _, _, _ => h.elim
  | _ :: _, [], _, _, h, _, _, _ => h.elim
  | _ :: _, _ :: _, _, [], _, z, _, _ => z.elim
  | (f, P) :: Ps, (g, M) :: Ms, _, (j, v) :: vs, h, ⟨e0, A1, A2, z, h1, h2⟩, nd, hA => by
    subst z
    obtain ⟨n1, n2, n3⟩ := List.nodup_append.mp nd
    obtain ⟨D1, d1, d2, d3⟩ := h.2.1 S H A1 v h1 n1 fun a ha => hA a (List.mem_append_left _ ha)
    obtain ⟨D2, e1, e2, e3⟩ := stl_flds h.2.2 h2 n2 fun a ha => hA a (List.mem_append_right _ ha)
    refine ⟨D1 ++ D2, List.nodup_append.mpr ⟨d1, e1, fun a ha b hb => n3 a (d2 a ha).1 b (e2 b hb).1⟩, fun d hd => ?_, fun H' hf => ⟨h.1.symm.trans e0, ?_, ?_⟩⟩
    · rcases List.mem_append.mp hd with q | q
      · exact ⟨List.mem_append_left _ (d2 d q).1, (d2 d q).2⟩
      · exact ⟨List.mem_append_right _ (e2 d q).1, (e2 d q).2⟩
    · refine M.up (cut_le (fun a ha => List.mem_append_left _ ha) hA) (d3 H' ⟨fun a ha hn => hf.out a (List.mem_append_left _ ha) fun q => ?_, fun d hd => hf.at_ d (List.mem_append_left _ hd)⟩)
      rcases List.mem_append.mp q with q | q
      · exact hn q
      · exact n3 a ha a (e2 a q).1 rfl
    · refine FldR.up (cut_le (fun a ha => List.mem_append_right _ ha) hA) (e3 H' ⟨fun a ha hn => hf.out a (List.mem_append_right _ ha) fun q => ?_, fun d hd => hf.at_ d (List.mem_append_right _ hd)⟩)
      rcases List.mem_append.mp q with q | q
      · exact n3 a (d2 a q).1 a ha rfl
      · exact hn q
theorem stl_I {C : Addr} {Ps : List (Str × OP)} {Ms : List (Str × MP)} (h : StlF Ps Ms) : Stl (oI C Ps) (tO C Ms) := fun S H A v ⟨x, dx, fs, A', h1, h2, h3, h4, h5⟩ nd hA => by
  subst h2
  obtain ⟨n1, nd1⟩ := List.nodup_cons.mp nd
  obtain ⟨n2, nd2⟩ := List.nodup_cons.mp nd1
  have s3 : ∀ a ∈ A', a ∈ x :: dx :: A' := fun a ha => List.mem_cons_of_mem _ (List.mem_cons_of_mem _ ha)
  obtain ⟨D, d1, d2, d3⟩ := stl_flds h h5 nd2 fun a ha => hA a (s3 a ha)
  refine ⟨D, d1, fun d hd => ⟨s3 d (d2 d hd).1, (d2 d hd).2⟩, fun H' hf => ⟨x, dx, fs, h1, ?_, ?_, ?_⟩⟩
  · rw [cut_in List.mem_cons_self, hf.out x List.mem_cons_self fun q => n1 (List.mem_cons_of_mem _ (d2 x q).1)]
    exact h3
  · rw [cut_in (List.mem_cons_of_mem _ List.mem_cons_self), hf.out dx (List.mem_cons_of_mem _ List.mem_cons_self) fun q => n2 (d2 dx q).1]
    exact h4
  · exact FldR.up (cut_le s3 hA) (d3 H' ⟨fun a ha hn => hf.out a (s3 a ha) hn, hf.at_⟩)
section
variable {X : Cx} {B : Bs} {Γ : Gm} {O N N' : Om} {Z : Er → Prop} {e a b c o : Expr} {es : List Expr} {p p2 pos pos' apos : Pos} {D : Ends} {rest body els : List Stmt} {α β γ : Type} {x m nm fl : Str} {Wx : WX} {C : Addr}
theorem Stt.addM {S H : Hp} {σ : L2.St} {M : MP} {v : V} (t : Stt B Γ O S H σ) (h : M.R S v) : Stt B Γ ((v, MP.o M) :: O) S H σ := ⟨t.st, t.slot, t.len, let ⟨A, nd, hA, q⟩ := t.own; ⟨A, nd, hA, [], A, rfl, ⟨rfl, h⟩, q⟩, t.gh⟩
theorem EW.n {f : α → MP} {w : Wp α} (h : EW X B Γ O Z e f w) : NW X B Γ O Z e (fun a => MP.o (f a)) w := fun S H σ st P Q p n => h S H σ st P Q p fun a v S' H' p1 s1 t1 r1 => n a v S' H' p1 s1 (t1.addM r1) trivial
theorem w_fld {τ : Type} {F : τ → List (Str × MP)} {g : β → MP} {w : Wp τ} (k : τ → β) (cl : Cls X.K C) (n : NoAttr X.K C fl) (he : EW X B Γ O Z o (fun t => tO C (F t)) w) (hf : ∀ t, (F t).lookup fl = some (g (k t)) := by intro _; rfl) (hb : attributeBase o fl X.env (eval o X.env) = eval o X.env := by rfl) : EW X B Γ O Z (.Attribute o fl pos) g (W.bind w fun t => W.ret (k t)) := fun S H σ st P Q p nn =>
  ⟨_, pe_fld pe_w hb, he S H σ st _ _ p fun t v S1 H1 p1 s1 t1 ⟨q, dx, fs, h1, h2, h3, h4⟩ => by
    obtain ⟨u, h5, h6⟩ := h4.get (hf t)
    exact ⟨q, C, dx, fs, u, h1, t1.sub _ _ h2, cl, n, h5, nn _ u S1 H1 p1 s1 t1 h6⟩⟩
theorem FldO.put {f : Str} {R : OP} {v : V} {S H : Hp} {B : List Addr} : ∀ {Rs : List (Str × OP)} {A : List Addr} {vs : List (Str × V)}, FldO Rs S H A vs → Rs.lookup f = Option.none → R.R S H B v → FldO (Rs ++ [(f, R)]) S H (A ++ B) (putF f v vs)
  | [], A, [], e, _, h => by
    cases e
    exact ⟨rfl, B, [], by simp, h, rfl⟩
  | [], _, _ :: _, h, _, _ => h.elim
  | _ :: _, _, [], h, _, _ => h.elim
  | (g, Q) :: Rs, A, (g', w) :: vs, ⟨e0, A1, A2, z, h1, h2⟩, e, hv => by
    subst e0
    rw [List.lookup_cons] at e
    have ne : ¬ g = f := fun z => by
      subst z
      simp at e
    have e' : Rs.lookup f = Option.none := by
      cases q : (f == g) with
      | true => rw [q] at e; cases e
      | false => rw [q] at e; exact e
    show FldO ((g, Q) :: (Rs ++ [(f, R)])) S H (A ++ B) (if g = f then _ else (g, w) :: putF f v vs)
    rw [if_neg ne]
    exact ⟨rfl, A1, A2 ++ B, by rw [z, List.append_assoc], h1, FldO.put h2 e' hv⟩
theorem Stt.join {u v : V} {P R R' : OP} {S H H' : Hp} {σ : L2.St} (t : Stt B Γ ((u, P) :: (v, R) :: O) S H σ)
    (h : ∀ A1 A2, (A1 ++ A2).Nodup → (∀ a ∈ A1 ++ A2, S a = none ∧ H a ≠ none) → P.R S H A1 u → R.R S H A2 v → ∃ A', A'.Nodup ∧ (∀ a ∈ A', a ∈ A1 ++ A2) ∧ (∀ a ∈ A', H' a ≠ none) ∧ (∀ a, a ∉ A2 → H' a = H a) ∧ R'.R S H' A' v) : Stt B Γ ((v, R') :: O) S H' σ := by
  obtain ⟨A, nd, hA, A1, A3, e, h2, A2, A4, e2, h4, h5⟩ := t.own
  subst e2
  subst e
  have hm : ∀ a ∈ A1 ++ A2, a ∈ A1 ++ (A2 ++ A4) := fun a ha => by
    rcases List.mem_append.mp ha with q | q
    · exact List.mem_append_left _ q
    · exact List.mem_append_right _ (List.mem_append_left _ q)
  have nd' := nd
  rw [← List.append_assoc] at nd'
  obtain ⟨n1, n2, n3⟩ := List.nodup_append.mp nd'
  obtain ⟨A', q0, q1, q2, q3, q4⟩ := h A1 A2 n1 (fun a ha => ⟨(hA a (hm a ha)).1, (hA a (hm a ha)).2.2⟩) h2 h4
  have o2 : ∀ a o, H a = some o → a ∉ A2 → H' a = some o := fun a o z hn => by rw [q3 a hn]; exact z
  refine ⟨⟨t.st.s, fun a o z => o2 a o (t.sub a o z) (fun q => ?_), fun a o z => o2 a o (t.st.h a o z) (fun q => ?_), t.st.fr⟩, t.slot, t.len, ⟨A' ++ A4, ?_, fun a ha => ?_, A', A4, rfl, q4, h5.fr (Same.refl _) fun a ha => q3 a fun q => n3 a (List.mem_append_right _ q) a ha rfl⟩, t.gh⟩
  · have := (hA a (hm a (List.mem_append_right _ q))).1
    rw [z] at this; cases this
  · have := (hA a (hm a (List.mem_append_right _ q))).2.1
    rw [z] at this; cases this
  · exact List.nodup_append.mpr ⟨q0, n2, fun a ha b hb => n3 a (q1 a ha) b hb⟩
  · rcases List.mem_append.mp ha with q | q
    · have y := hA a (hm a (q1 a q))
      exact ⟨y.1, y.2.1, q2 a q⟩
    · have y := hA a (List.mem_append_right _ (List.mem_append_right _ q))
      exact ⟨y.1, y.2.1, by rw [q3 a fun z => n3 a (List.mem_append_right _ z) a q rfl]; exact y.2.2⟩
theorem s_fld {i : Nat} {u : V} {Ps : List (Str × OP)} {F : α → OP} {w w' : Wp α} {q : α → Prop} (cl : Cls X.K C) (n : NoAttr X.K C fl) (he : NW X B Γ ((u, oI C Ps) :: O) Z e F w') (h : ∀ a, SW X B Γ ((u, oI C (Ps ++ [(fl, F a)])) :: O) rest D (q a)) (hw : w' = w := by rfl)
    (hG : Γ[i]? = some (some (tV u)) := by rfl) (hN : X.N[i]? = some nm := by rfl) (hl : Ps.lookup fl = none := by first | rfl | decide +kernel) (hz : Ps.length < 100 := by exact Nat.le_of_ble_eq_true rfl) (hv : Vis X.env.scope nm := by first | exact Or.inl rfl | exact Or.inr (Or.inl rfl) | exact Or.inr (Or.inr rfl))
    (hd : (nm == ("__debug__" : Str)) = false := by decide) (hcd : (nm == ("__classdict__" : Str)) = false := by decide)
    (hs : swapsWith e (some (.Attribute (.Name nm p) fl pos')) pos.line X.env = pure false := by rfl) : SW X B Γ ((u, oI C Ps) :: O) (.Assign [.Attribute (.Name nm p) fl pos'] e pos :: rest) D (W.run w Z q) :=
  s_cons fun hq S H σ st => ⟨_, ps_fld (pe_var hN hv hd hcd) pe_w hs, he S H σ st q _ (hw ▸ hq) fun a v S1 H1 p1 s1 t1 r1 => by
    obtain ⟨u', g1, g2⟩ := t1.slot i _ hG
    have g2' : u' = u := g2
    subst g2'
    obtain ⟨A, y, dx, fs, A', e1, e2, e3, e4, e5⟩ := t1.at_ (x := (u', oI C Ps)) (List.mem_cons_of_mem _ List.mem_cons_self)
    have e1' : u' = .ref y := e1
    subst e1'
    refine ⟨_, g1, y, C, dx, fs, rfl, e3, cl, n, by rw [e5.len]; omega, h a p1 S1 _ σ (t1.join fun A1 A2 nd hA h1 h2 => ?_)⟩
    obtain ⟨y', dx', fs', A3, f1, f2, f3, f4, f5⟩ := h2
    cases f1
    subst f2
    rw [e3] at f3
    have f3' := Option.some.inj f3
    injection f3' with k1 k2 k3
    subst k2
    subst k3
    have nin : ∀ z ∈ A1 ++ (y :: dx :: A3), z ∈ A1 → z ≠ y := fun z _ hz q => by
      subst q
      exact (List.nodup_append.mp nd).2.2 z hz z List.mem_cons_self rfl
    have n2 := (List.nodup_append.mp nd).2.1
    have ny : ∀ z ∈ A3, z ≠ y := fun z hz q => (List.nodup_cons.mp n2).1 (by rw [← q]; exact List.mem_cons_of_mem _ hz)
    have ndx : dx ≠ y := fun q => (List.nodup_cons.mp n2).1 (by rw [← q]; exact List.mem_cons_self)
    have pm : (y :: dx :: (A3 ++ A1)).Perm (A1 ++ (y :: dx :: A3)) := by
      have : (y :: dx :: (A3 ++ A1)) = (y :: dx :: A3) ++ A1 := rfl
      rw [this]
      exact List.perm_append_comm
    refine ⟨y :: dx :: (A3 ++ A1), pm.nodup_iff.mpr nd, fun z hz => pm.mem_iff.mp hz, fun z hz => ?_, fun z hz => upd_ne fun q => hz (by rw [q]; exact List.mem_cons_self), y, dx, putF fl v fs, A3 ++ A1, rfl, rfl, upd_same, by rw [upd_ne ndx]; exact f4, ?_⟩
    · by_cases q : z = y
      · rw [q, upd_same]; simp
      · rw [upd_ne q]
        refine (hA z ?_).2
        rcases List.mem_cons.mp hz with z1 | hz
        · exact absurd z1 q
        · rcases List.mem_cons.mp hz with z1 | hz
          · subst z1; exact List.mem_append_right _ (List.mem_cons_of_mem _ List.mem_cons_self)
          · rcases List.mem_append.mp hz with z1 | z1
            · exact List.mem_append_right _ (List.mem_cons_of_mem _ (List.mem_cons_of_mem _ z1))
            · exact List.mem_append_left _ z1
    · exact FldO.put (f5.fr (Same.refl _) fun z hz => upd_ne (ny z hz)) hl ((F a).fr (Same.refl _) (fun z hz => upd_ne (nin z (List.mem_append_left _ hz) hz)) h1)⟩
theorem Stt.born {S H : Hp} {σ : L2.St} {y dy : Addr} (t : Stt B Γ O S H σ) (ny : H y = none) (ndy : H dy = none) (ne : dy ≠ y) : Stt B Γ ((.ref y, oI C []) :: O) S (upd (upd H dy (.own y)) y (.ins C dy [])) σ := by
  have ny1 : upd H dy (.own y) y = none := by rw [upd_ne (Ne.symm ne)]; exact ny
  have s1 : Stp S H S (upd H dy (.own y)) := Stp.own t.sub ndy
  have s2 : Stp S (upd H dy (.own y)) S (upd (upd H dy (.own y)) y (.ins C dy [])) := Stp.own s1.i ny1
  have t2 := t.step (s1.trans s2)
  obtain ⟨A, nd, hA, h⟩ := t.own
  have n1 : y ∉ A := fun q => (hA y q).2.2 ny
  have n2 : dy ∉ A := fun q => (hA dy q).2.2 ndy
  have keep : ∀ a ∈ A, upd (upd H dy (.own y)) y (.ins C dy []) a = H a := fun a ha => by
    rw [upd_ne (fun q => n1 (by rw [← q]; exact ha)), upd_ne (fun q => n2 (by rw [← q]; exact ha))]
  refine ⟨t2.st, t2.slot, t2.len, ⟨y :: dy :: A, List.nodup_cons.mpr ⟨fun q => ?_, List.nodup_cons.mpr ⟨n2, nd⟩⟩, fun a ha => ?_, [y, dy], A, rfl, ⟨y, dy, [], [], rfl, rfl, upd_same, by rw [upd_ne ne, upd_same], rfl⟩, h.fr (Same.refl _) keep⟩, t2.gh⟩
  · rcases List.mem_cons.mp q with q | q
    · exact ne q.symm
    · exact n1 q
  · rcases List.mem_cons.mp ha with q | ha
    · subst q
      exact ⟨t.sub.free ny, t.st.h.free ny, by rw [upd_same]; simp⟩
    · rcases List.mem_cons.mp ha with q | ha
      · subst q
        exact ⟨t.sub.free ndy, t.st.h.free ndy, by rw [upd_ne ne, upd_same]; simp⟩
      · rw [keep a ha]
        exact hA a ha
section
variable {τ Dt ρ : Type} {As : Dt → List AP} {wp : Dt → Wp ρ} {res : ρ → RP} {Ms : ρ → List OP} {F : τ → List AA} {w : Wp τ} {k : Nat} {ps : List Str}
theorem Hd.drop {y : V × OP} (h : Hd X B Γ O Z Wx) : Hd X B Γ (y :: O) Z Wx := ⟨h.tk, fun x hx c d S H σ t r => h.go x hx c d S H σ (t.drop (List.sublist_cons_self _ _)) r⟩
theorem n_make {f : ρ → OP} (G : GC X.prog X.w X.K X.mg X.base x C k ps (spW X.K As wp res Ms)) (hr : Room (k + 1) X.A) (hd : Hd X B Γ O Z Wx) (d : τ → Dt) (ha : AW X B Γ O Z N (e :: es) F w) (hA : ∀ t u, ArgM (.t u :: F t) (As (d t)) [(u, oI C [])]) (hf : ∀ r, res r = .v tN := by intro _; rfl) (hM : ∀ r, Ms r = [f r] := by intro _; rfl)
    (hg : Gl X x := by rfl) (hdb : (x == ("__debug__" : Str)) = false := by decide) (he : starEach (e :: es) X.env = (false, eval e X.env) :: starEach es X.env := by rfl) (hpl : (backTo pos (starEach es X.env)).any (·.1) = false := by rfl) : NW X B Γ O Z (.Call (.Name x p) (e :: es) [] pos) f (W.bind w fun t => wp (d t)) := by
  obtain ⟨g, fd, G, Mk, hm, hb⟩ := G
  intro S H σ st P Q p n
  refine ⟨_, pe_makeS Mk G hr hg hm hb (fun σ => passAt hd.tk σ) pa_w hdb he hpl, ha.2 S H σ st _ _ p fun t vs S1 H1 p1 s1 t1 r1 => fun y dy ny ndy ne => ?_⟩
  have t2 := t1.born (C := C) ny ndy ne
  refine call_go (N := N) (vs := .ref y :: vs) (M := [(.ref y, oI C [])]) (R := O) hd.drop (d t) (hA t (.ref y)) (.refl _) ha.1 t2 (fun Γ2 O2 S2 H2 σ2 s2 t3 hn => ⟨rfl, r1 Γ2 O2 S2 H2 σ2 s2 t3 hn⟩) p1 fun r v S' H' p2 s2 h => ?_
  rw [hf r, hM r] at h
  exact ⟨h.2, n r _ S' H' p2 (s1.trans s2) h.1 trivial⟩
theorem n_makeL {i : Nat} {f : ρ → OP} {y : Str} (G : GC X.prog X.w X.K X.mg X.base y C k ps (spW X.K As wp res Ms)) (hr : Room (k + 1) X.A) (hd : Hd X B Γ O Z Wx) (d : τ → Dt) (ha : AW X B Γ O Z N (e :: es) F w) (hA : ∀ t u, ArgM (.t u :: F t) (As (d t)) [(u, oI C [])]) (hf : ∀ r, res r = .v tN := by intro _; rfl) (hM : ∀ r, Ms r = [f r] := by intro _; rfl)
    (hG : Γ[i]? = some (some (tR C)) := by rfl) (hN : X.N[i]? = some x := by rfl) (hv : Vis X.env.scope x := by first | exact Or.inl rfl | exact Or.inr (Or.inl rfl) | exact Or.inr (Or.inr rfl)) (hcd : (x == ("__classdict__" : Str)) = false := by decide)
    (hdb : (x == ("__debug__" : Str)) = false := by decide) (he : starEach (e :: es) X.env = (false, eval e X.env) :: starEach es X.env := by rfl) (hpl : (backTo pos (starEach es X.env)).any (·.1) = false := by rfl) : NW X B Γ O Z (.Call (.Name x p) (e :: es) [] pos) f (W.bind w fun t => wp (d t)) := by
  obtain ⟨g, fd, G, Mk, hm, hb⟩ := G
  intro S H σ st P Q p n
  refine ⟨_, pe_makeL Mk G hr hN hv hb (fun σ => passAt hd.tk σ) pa_w hdb hcd he hpl, ?_, ha.2 S H σ st _ _ p fun t vs S1 H1 p1 s1 t1 r1 => fun y dy ny ndy ne => ?_⟩
  · obtain ⟨v, h1, h2⟩ := st.slot i _ hG
    cases h2
    exact h1
  have t2 := t1.born (C := C) ny ndy ne
  refine call_go (N := N) (vs := .ref y :: vs) (M := [(.ref y, oI C [])]) (R := O) hd.drop (d t) (hA t (.ref y)) (.refl _) ha.1 t2 (fun Γ2 O2 S2 H2 σ2 s2 t3 hn => ⟨rfl, r1 Γ2 O2 S2 H2 σ2 s2 t3 hn⟩) p1 fun r v S' H' p2 s2 h => ?_
  rw [hf r, hM r] at h
  exact ⟨h.2, n r _ S' H' p2 (s1.trans s2) h.1 trivial⟩
def InsB (C : Addr) (m : Str) (b : BP) : Prop := ∀ S H v, Same S H → b.R S H v → ∃ a dx fs, v = .ref a ∧ H a = some (.ins C dx fs) ∧ fs.lookup m = none
theorem ins_tO {Rs : List (Str × MP)} (h : Rs.lookup m = none := by first | rfl | decide +kernel) : InsB C m (tO C Rs).b := fun S H v sm ⟨a, dx, fs, h1, h2, _, h4⟩ => ⟨a, dx, fs, h1, sm _ _ h2, h4.none h⟩
variable {bo : α → BP} {wo : Wp α} {M R : Om}
end
end
end OW
namespace OW
open PySem PySem.Spec PyProof.Rows L2 OT NdefX
section
variable {X : Cx} {B : Bs} {Γ : Gm} {O N N' : Om} {Z : Er → Prop} {e a b c o l : Expr} {es : List Expr} {p p2 pos pos' apos : Pos} {D : Ends} {rest body els : List Stmt} {α β γ τ : Type} {x m nm fl : Str} {Wx : WX} {C : Addr} {Rs : List MP}
def GJ (X : Cx) (B : Bs) (O : Om) (tg : Expr) (R : MP) (Γ Γ' : Gm) (js : List Nat) : Prop := ∀ S H σ v, Stt B Γ O S H σ → R.R S v → ∀ Q : L2.St → Hp → Prop, (∀ σ', Stt B Γ' O S H σ' → OT.Wp js σ σ' → Q σ' H) → wG X tg v σ H Q
theorem g_name {j : Nat} {R : MP} {Γ' : Gm} (hi : X.N[j]? = some x := by rfl) (hG : Γ.set j (some R) = Γ' := by rfl) (hl : j < Γ.length := by exact Nat.le_of_ble_eq_true rfl) (hN : X.N.Nodup := by assumption) (hx : Loc X.env.scope x := by first | exact Or.inl rfl | exact Or.inr rfl)
    (hf : X.fn x = true ∨ X.env.scope.names.lookup x = some .local := by first | exact .inl rfl | exact .inr rfl | assumption) : GJ X B O (.Name x pos) R Γ Γ' [j] := fun S H σ v t r Q q =>
  ⟨_, pg_name hN hi hx hf, q _ (hG ▸ t.set r hl) ⟨fun i hi => List.getElem?_set_ne (fun z => hi (by rw [z]; exact List.mem_singleton.mpr rfl)), List.length_set⟩⟩
def GJs (X : Cx) (B : Bs) (O : Om) (ts : List Expr) (Rs : List MP) (Γ Γ' : Gm) (js : List Nat) : Prop := ∀ S H σ vs, Stt B Γ O S H σ → AllM Rs S vs → ∀ Q : L2.St → Hp → Prop, (∀ σ', Stt B Γ' O S H σ' → OT.Wp js σ σ' → Q σ' H) → ∃ t, PGs X ts t ∧ t vs σ H Q
theorem gs_nil : GJs X B O [] [] Γ Γ [] := fun S H σ vs t r Q q => ⟨_, pgs_nil, by
  cases vs with
  | nil => exact ⟨rfl, q σ t ⟨fun _ _ => rfl, rfl⟩⟩
  | cons _ _ => exact r.elim⟩
theorem gs_cons {tg : Expr} {ts : List Expr} {R : MP} {Γ1 Γ' : Gm} {js ks : List Nat} (h : GJ X B O tg R Γ Γ1 js) (h2 : GJs X B O ts Rs Γ1 Γ' ks) (ha : (assignEach (tg :: ts) X.env).map (·.2) = assign tg X.env :: (assignEach ts X.env).map (·.2) := by rfl) : GJs X B O (tg :: ts) (R :: Rs) Γ Γ' (js ++ ks) := fun S H σ vs t r Q q =>
  match vs, r with
  | v :: vs, r => ⟨_, pgs_cons pg_w pgs_w ha, v, vs, rfl, h S H σ v t r.1 _ fun σ1 t1 w1 => h2 S H σ1 vs t1 r.2 Q fun σ2 t2 w2 => q σ2 t2 ⟨fun i hi => (w2.at_ i fun z => hi (List.mem_append_right _ z)).trans (w1.at_ i fun z => hi (List.mem_append_left _ z)), w2.len.trans w1.len⟩⟩
theorem g_tup {ts : List Expr} {k} {n : Nat} {Γ' : Gm} {js : List Nat} (h : GJs X B O ts Rs Γ Γ' js) (hz : Rs.length = n := by rfl) (hc : X.calm = true := by rfl) (hn : (assignEach ts X.env).length = n := by rfl) (hst : (assignEach ts X.env).findIdx? (·.1) = none := by rfl) : GJ X B O (.Tuple ts k pos) (tT X.K Rs) Γ Γ' js := fun S H σ v t ⟨a, vs, hv, h1, h2⟩ Q q =>
  ⟨_, pg_tup hc pgs_w hn hst, a, vs, hv, SqT.of (t.sub _ _ h1), by rw [h2.length, hz], h S H σ vs t h2 Q q⟩
theorem g_lst {ts : List Expr} {k} {n : Nat} {Γ' : Gm} {js : List Nat} (h : GJs X B O ts Rs Γ Γ' js) (hz : Rs.length = n := by rfl) (hc : X.calm = true := by rfl) (hn : (assignEach ts X.env).length = n := by rfl) (hst : (assignEach ts X.env).findIdx? (·.1) = none := by rfl) : GJ X B O (.Tuple ts k pos) (tL X.K Rs) Γ Γ' js := fun S H σ v t ⟨a, vs, hv, h1, h2⟩ Q q =>
  ⟨_, pg_lst hc pgs_w hn hst, a, vs, hv, SqL.of (t.sub _ _ h1), by rw [h2.length, hz], h S H σ vs t h2 Q q⟩
theorem s_unpack {tg : Expr} {f : α → MP} {w w' : Wp α} {q : α → Prop} {Γ' : α → Gm} {js : List Nat} (he : EW X B Γ O Z e f w') (hg : ∀ a, GJ X B O tg (f a) Γ (Γ' a) js) (h : ∀ a, SW X B (Γ' a) O rest D (q a)) (hw : w' = w := by rfl) (hs : swapsWithSole [tg] e pos.line X.env = pure false := by rfl) (hsw : swappedStores [tg] e X.env = pure none := by rfl)
    (h1 : (assignEach [tg] X.env).map (·.2) = [assign tg X.env] := by rfl) : SW X B Γ O (.Assign [tg] e pos :: rest) D (W.run w Z q) :=
  s_cons fun hq S H σ st => ⟨_, ps_asg pe_w pg_w hs hsw h1, he S H σ st q _ (hw ▸ hq) fun a v S1 H1 p1 s1 t1 r1 => hg a S1 H1 σ v t1 r1 _ fun σ' t w => h a p1 S1 H1 σ' t⟩
theorem s_par {i j : Nat} {x y : Str} {f : α → MP} {g : β → MP} {w w' : Wp (α × β)} {wa : Wp α} {wb : Wp β} {q : α × β → Prop} {px py pt : Pos} {kt k2 pt2} (ha : EW X B Γ O Z a f wa) (hb : EW X B Γ O Z b g wb) (h : ∀ t : α × β, SW X B ((Γ.set i (some (f t.1))).set j (some (g t.2))) O rest D (q t)) (hw : (W.bind wa fun x => W.bind wb fun y => W.ret (x, y)) = w := by rfl)
    (hi : X.N[i]? = some x := by rfl) (hj : X.N[j]? = some y := by rfl) (hl : i < Γ.length := by exact Nat.le_of_ble_eq_true rfl) (hl2 : j < Γ.length := by exact Nat.le_of_ble_eq_true rfl) (hij : i ≠ j := by decide) (hN : X.N.Nodup := by assumption) (hc : X.calm = true := by rfl)
    (hx : X.env.scope.names.lookup x = some .local := by rfl) (hy : X.env.scope.names.lookup y = some .local := by rfl) (hs1 : starEach [a, b] X.env = (false, eval a X.env) :: starEach [b] X.env := by rfl) (hs2 : starEach [b] X.env = (false, eval b X.env) :: starEach [] X.env := by rfl)
    (hsw : swappedStores [.Tuple [.Name x px, .Name y py] kt pt] (.Tuple [a, b] k2 pt2) X.env = pure (some [x, y]) := by rfl)
    (hs : swapsWithSole [.Tuple [.Name x px, .Name y py] kt pt] (.Tuple [a, b] k2 pt2) pos.line X.env = pure false := by rfl) : SW X B Γ O (.Assign [.Tuple [.Name x px, .Name y py] kt pt] (.Tuple [a, b] k2 pt2) pos :: rest) D (W.run w Z q) :=
  s_cons fun hq S H σ st => ⟨_, ps_par hc hN hi hj hij hx hy (pa_cons pe_w (pa_cons pe_w pa_nil hs2) hs1) hsw hs, ha S H σ st _ _ (by rw [← hw] at hq; exact hq) fun u v S1 H1 p1 s1 t1 r1 => hb S1 H1 σ t1 _ _ p1 fun u2 v2 S2 H2 p2 s2 t2 r2 => ⟨v, v2, rfl, h (u, u2) p2 S2 H2 _ ((t2.set ((f u).up s2 r1) hl).set r2 (by rw [List.length_set]; exact hl2))⟩⟩
def IW (X : Cx) (B : Bs) (Γ : Gm) (O : Om) (Z : Er → Prop) (N : Om) (tg it : Expr) (f : α → MP) (w : Wp (List α)) : Prop := (∀ x ∈ N, x ∈ O) ∧ ∀ S H σ, Stt B Γ O S H σ → ∀ (P : List α → Prop) (Rk : It → Hp → Prop), w P Z →
  (∀ xs (J : It) (G : Gho) S' H', P xs → Same S S' → Stt B Γ O S' H' σ → G.R S' → (∀ Γ2 O2 S2 H2 σ2, Stt (B.add G) Γ2 O2 S2 H2 σ2 → (∀ q ∈ N, q ∈ O2) → J.stop xs.length H2 ∧ ∀ i (h : i < xs.length), J.go i H2 ∧ ∀ y H3, J.yld i H2 y H3 → ∃ S3, Stp S2 H2 S3 H3 ∧ (f xs[i]).R S3 y) → Rk J H') → wI X tg it σ H Rk
variable {f : α → MP}
theorem i_lst {tg : Expr} {w : Wp (List α)} (he : RW X B Γ O Z N l (rL f) w) : IW X B Γ O Z N tg l f w := ⟨he.1, fun S H σ st P Rk p k =>
  ⟨_, pi_list pe_w, he.2 S H σ st P _ p fun xs u S1 H1 p1 s1 t1 r1 => by
    obtain ⟨q, vs, rfl, h2, h3⟩ := r1 _ _ S1 H1 _ (Same.refl _) t1 he.1
    refine ⟨q, rfl, ⟨vs, SqL.of h2⟩, k xs (Itl X.K q) ⟨fun S => Same S1 S, fun e h => h.trans e⟩ S1 H1 p1 s1 t1 (Same.refl _) fun Γ2 O2 S2 H2 σ2 t hn => ?_⟩
    obtain ⟨q', ws, e, h4, h5⟩ := r1 Γ2 O2 S2 H2 σ2 t.gh.2 t.plain hn
    cases e
    have h4' : SqL X.K H2 q ws := SqL.of h4
    refine ⟨⟨ws, h4', by rw [h5.length, List.length_map]; exact Nat.le_refl _⟩, fun i hi => ?_⟩
    obtain ⟨y, h6, h7⟩ := AllR.get h5 (i := i) (R := (f xs[i]).b) (by simp [hi])
    refine ⟨⟨ws, y, h4', h6⟩, fun y' H3 ⟨e, hy⟩ => ?_⟩
    subst e
    have := hy ws h4'
    rw [h6] at this
    cases this
    exact ⟨S2, Stp.refl t.sub, h7⟩⟩⟩
theorem i_tup {tg : Expr} {w : Wp (List α)} (he : RW X B Γ O Z N l (rT f) w) : IW X B Γ O Z N tg l f w := ⟨he.1, fun S H σ st P Rk p k =>
  ⟨_, pi_tup pe_w, he.2 S H σ st P _ p fun xs u S1 H1 p1 s1 t1 r1 => by
    obtain ⟨q, vs, rfl, h2, h3⟩ := r1 _ _ S1 H1 _ (Same.refl _) t1 he.1
    refine ⟨q, rfl, ⟨vs, SqT.of h2⟩, k xs (Itt X.K q) ⟨fun S => Same S1 S, fun e h => h.trans e⟩ S1 H1 p1 s1 t1 (Same.refl _) fun Γ2 O2 S2 H2 σ2 t hn => ?_⟩
    obtain ⟨q', ws, e, h4, h5⟩ := r1 Γ2 O2 S2 H2 σ2 t.gh.2 t.plain hn
    cases e
    have h4' : SqT X.K H2 q ws := SqT.of h4
    refine ⟨⟨ws, h4', by rw [h5.length, List.length_map]; exact Nat.le_refl _⟩, fun i hi => ?_⟩
    obtain ⟨y, h6, h7⟩ := AllR.get h5 (i := i) (R := (f xs[i]).b) (by simp [hi])
    refine ⟨⟨ws, y, h4', h6⟩, fun y' H3 ⟨e, hy⟩ => ?_⟩
    subst e
    have := hy ws h4'
    rw [h6] at this
    cases this
    exact ⟨S2, Stp.refl t.sub, h7⟩⟩⟩
def RgOk (n : Int) : Prop := -(2 ^ 62) ≤ n ∧ n < 2 ^ 62
def rng (m n : Int) : List Int := (List.range (n - m).toNat).map fun i : Nat => m + (i : Int)
theorem i_range1 {tg : Expr} {w : Wp Int} (hm : X.mg "range" = none) (he : EW X B Γ O Z a tI w) (hg : Gl X "range" := by rfl) (hs : starEach [a] X.env = [(false, eval a X.env)] := by rfl) : IW X B Γ O Z [] tg (.Call (.Name "range" p) [a] [] pos) tI (W.bind w fun n => W.grd (RgOk n) (rng 0 n)) := ⟨(fun _ h => by cases h), fun S H σ st P Rk p k =>
  ⟨_, pi_range1 hg hm (pa_cons pe_w pa_nil hs) hs, he S H σ st _ _ p fun n u S1 H1 p1 s1 t1 r1 => by
    cases r1
    refine ⟨n, rfl, p1.1.1, p1.1.2, k _ (Itr 0 n.toNat) .yes S1 H1 p1.2 s1 t1 trivial fun Γ2 O2 S2 H2 σ2 t _ => ?_⟩
    have hl : (rng 0 n).length = n.toNat := by simp [rng]
    refine ⟨Nat.le_of_eq hl.symm, fun i hi => ⟨Nat.lt_of_lt_of_eq hi hl, fun y H3 ⟨e, hy⟩ => ?_⟩⟩
    subst e
    refine ⟨S2, Stp.refl t.sub, ?_⟩
    rw [hy]
    show V.int _ = V.int _
    congr 1
    simp [rng]⟩⟩
def sgs (z : Str) : List Str := z.cps.toList.map fun c => (⟨#[c]⟩ : Str)
theorem i_str {tg : Expr} {w : Wp Str} (he : EW X B Γ O Z l tS w) : IW X B Γ O Z [] tg l tS (W.bind w fun z => W.ret (sgs z)) := ⟨(fun _ h => by cases h), fun S H σ st P Rk p k =>
  ⟨_, pi_str pe_w, he S H σ st _ _ p fun z v S1 H1 p1 s1 t1 r1 => by
    cases r1
    refine ⟨z, rfl, k _ (Its z) .yes S1 H1 p1 s1 t1 trivial fun Γ2 O2 S2 H2 σ2 t _ => ?_⟩
    have hl : (sgs z).length = z.length := by simp [sgs]; rfl
    refine ⟨Nat.le_of_eq hl.symm, fun i hi => ⟨Nat.lt_of_lt_of_eq hi hl, fun y H3 ⟨e, c, hc, hy⟩ => ?_⟩⟩
    subst e
    refine ⟨S2, Stp.refl t.sub, ?_⟩
    rw [hy]
    show V.str _ = V.str _
    have h2 : z.cps.toList[i]? = some c := by rw [Array.getElem?_toList]; exact hc
    obtain ⟨h3, h4⟩ := List.getElem?_eq_some_iff.mp h2
    congr 1
    simp [sgs, ← h4]⟩⟩
theorem s_for {tg it : Expr} (Gs : τ → Gm) (Os : τ → Om) (s0 : τ) {w w' : Wp (List α)} {bd : α → τ → (τ → Prop) → Prop} {k : τ → Prop} (hi : IW X B Γ O Z N tg it f w') (Γ' : α → τ → Gm) (js : List Nat)
    (hg : ∀ (G : Gho) x s, GJ X (B.add G) (Os s) tg (f x) (Gs s) (Γ' x s) js) (hb : ∀ (G : Gho) x s kn, SW X (B.add G) (Γ' x s) (Os s) body { D with nx := At (B.add G) Gs Os kn, ct := At (B.add G) Gs Os kn, bk := wB X rest D } (bd x s kn)) (hd : ∀ s, SW X B (Gs s) (Os s) rest D (k s)) (hp : PassesOwn (model X.prog X.w) X.A X.env X.xe) (hneed : ∀ s, ∀ q ∈ N, q ∈ Os s := by intro _ _ h; cases h)
    (hw : w' = w := by rfl) (hc : X.calm = true := by rfl) (gl : Gle (Gs s0) Γ := by exact Gle.rfl') (ho : O = Os s0 := by rfl)
    (hs : ∀ x, foldedSetIterable it X.env x = pure x := by intro _; rfl) : SW X B Γ O (.For tg it body [] pos :: rest) D (W.run w Z fun xs => W.loop bd k xs s0) :=
  s_cons fun hq S H σ st => ⟨_, ps_for hp hc pi_w pg_w pb_w hs, hi.2 S H σ st _ _ (hw ▸ hq) fun xs J G S1 H1 p1 s1 t1 g1 hJ => by
    refine ⟨fun i m σ H => m = xs.length - i ∧ i ≤ xs.length ∧ At (B.add G) Gs Os (fun s => W.loop bd k (xs.drop i) s) σ H, ⟨xs.length, by simp, Nat.zero_le _, s0, S1, p1, by rw [← ho]; exact (t1.ghost g1).forget gl⟩, ?_⟩
    rintro i m σ2 H2 ⟨rfl, hin, s, S2, hP, t⟩
    obtain ⟨j1, j2⟩ := hJ _ _ _ _ _ t (hneed s)
    by_cases hlt : i < xs.length
    · obtain ⟨go, yl⟩ := j2 i hlt
      rw [List.drop_eq_getElem_cons hlt] at hP
      refine .inr ⟨go, At (B.add G) Gs Os (fun s => W.loop bd k (xs.drop (i + 1)) s), fun σ' H' p => ⟨xs.length - (i + 1), by omega, rfl, hlt, p⟩, fun y H3 hy => ?_⟩
      obtain ⟨S3, s3, r3⟩ := yl y H3 hy
      exact hg G xs[i] s S3 H3 σ2 y (t.step s3) r3 _ fun σ' t' _ => hb G xs[i] s _ hP S3 H3 σ' t'
    · have e : i = xs.length := by omega
      subst e
      rw [List.drop_length] at hP
      exact .inl ⟨j1, hd s hP S2 H2 σ2 t.plain⟩⟩
theorem s_while (Gs : τ → Gm) (Os : τ → Om) (s0 : τ) {wc wc' : τ → Wp Bool} {bd : τ → (τ → Prop) → Prop} {k : τ → Prop} (hc : ∀ s, TW X B (Gs s) (Os s) Z c (wc' s)) (hb : ∀ s kn, SW X B (Gs s) (Os s) body { D with nx := At B Gs Os kn, ct := At B Gs Os kn, bk := wB X rest D } (bd s kn)) (hd : ∀ s, SW X B (Gs s) (Os s) rest D (k s)) (hp : PassesOwn (model X.prog X.w) X.A X.env X.xe)
    (hw : wc' = wc := by rfl) (gl : Gle (Gs s0) Γ := by exact Gle.rfl') (ho : O = Os s0 := by rfl) : SW X B Γ O (.While c body [] pos :: rest) D (W.whil Z wc bd k s0) :=
  s_cons fun ⟨n0, hq⟩ S H σ st => ⟨_, ps_while hp pt_w pb_w, fun n σ H => At B Gs Os (fun s => W.whileN Z wc bd k n s) σ H, ⟨n0, s0, S, hq, by rw [← ho]; exact st.forget gl⟩, fun n σ H ⟨s, S, h1, t⟩ => by
    subst hw
    cases n with
    | zero => exact h1.elim
    | succ n =>
      refine hc s S H σ t _ _ h1 fun b S1 H1 p1 s1 t1 => ?_
      cases b with
      | true => exact iteT ⟨At B Gs Os (fun s => W.whileN Z wc' bd k n s), fun σ' H' p => ⟨n, Nat.lt_succ_self _, p⟩, hb s _ (p1.1 rfl) S1 H1 σ t1⟩
      | false => exact iteF (hd s (p1.2 rfl) S1 H1 σ t1)⟩
def BlkJ (X : Cx) (scope : Scope) (P : Cx → Prop) : Prop := ∀ (s : Shared) (H : Hp) (C : Addr) (cl : List (Str × Addr)) (fp : List Addr), P (X.blk s H scope (compEnvC scope cl C X.env) fp)
def IfsW (X : Cx) (B : Bs) (Γ : Gm) (O : Om) (Z : Er → Prop) (ifs : List Expr) (w : Wp Bool) : Prop := ∀ S H σ, Stt B Γ O S H σ → ∀ (P : Bool → Prop) (Q : Bool → Hp → Prop), w P Z → (∀ b S' H', P b → Same S S' → Stt B Γ O S' H' σ → Q b H') → ∃ t, PTs X ifs t ∧ t σ H Q
theorem if_none : IfsW X B Γ O Z [] (W.ret true) := fun S H σ st P Q p n => ⟨_, pts_nil, n true S H p (Same.refl _) st⟩
theorem if_one {w : Wp Bool} (h : TW X B Γ O Z c w) : IfsW X B Γ O Z [c] w := fun S H σ st P Q p n => ⟨_, pts_one pt_w, h S H σ st P Q p n⟩
theorem Stt.wiped {S H : Hp} {σ : L2.St} {vs : List Nat} (t : Stt B Γ O S H σ) (h : ∀ v ∈ vs, ∀ R, Γ[v]? ≠ some (some R)) : Stt B Γ O S H (L2.wipe σ vs) := by
  refine ⟨t.st, fun i R e => ?_, by rw [L2.wipe_length]; exact t.len, t.own, t.gh⟩
  obtain ⟨v, h1, h2⟩ := t.slot i R e
  refine ⟨v, ?_, h2⟩
  rw [(wipe_wp σ vs).at_ i fun z => h i z R e]
  exact h1
def W.comp {α β : Type} (c : α → Wp Bool) (g : α → Wp β) : List α → Wp (List β)
  | [], Q, _ => Q []
  | x :: xs, Q, E => c x (fun t => W.ite t (g x (fun y => W.comp c g xs (fun ys => Q (y :: ys)) E) E) (W.comp c g xs Q E)) E
abbrev W.nox {α : Type} (w : Wp α) : Wp α := fun Q _ => w Q fun _ => False
abbrev E0 : Er → Prop := fun _ => False
def W.compG {α β : Type} (c : α → Wp Bool) (g : α → Wp β) (xs : List α) : Wp (List β) := fun Q _ => xs.length ≤ 100000 ∧ W.comp c g xs Q E0
theorem Stt.mix {B : Bs} {Γ1 Γ2 : Gm} {O1 O2 : Om} {S1 S2 H1 H2 : Hp} {σ1 σ2 : L2.St} (t : Stt B Γ1 O1 S1 H1 σ1) (t' : Stt B Γ2 O2 S2 H2 σ2) (e : Same S1 S2) : Stt B Γ1 O2 S2 H2 σ1 := ⟨t'.st, fun i R h => let ⟨v, h1, h2⟩ := t.slot i R h; ⟨v, h1, R.up e h2⟩, t.len, t'.own, t'.gh⟩
theorem Stt.push {S H : Hp} {σ : L2.St} {v : V} {q : Addr} {P : OP} {Ps : List OP} {acc : List V} (t : Stt B Γ ((v, P) :: (.ref q, oL Ps) :: O) S H σ) (hq : H q = some (.lst acc)) : Stt B Γ ((.ref q, oL (Ps ++ [P])) :: O) S (upd H q (.lst (acc ++ [v]))) σ :=
  t.join fun A1 A2 nd hA h1 h2 => by
    obtain ⟨q', vs, A3, f1, f2, f3, f4⟩ := h2
    cases f1
    subst f2
    rw [hq] at f3
    cases f3
    obtain ⟨n1, n2, n3⟩ := List.nodup_append.mp nd
    have o1 : ∀ z ∈ A1, z ≠ q := fun z hz w => n3 z hz q List.mem_cons_self w
    have o3 : ∀ z ∈ A3, z ≠ q := fun z hz w => (List.nodup_cons.mp n2).1 (by rw [← w]; exact hz)
    have pm : (q :: (A3 ++ A1)).Perm (A1 ++ (q :: A3)) := by
      have : q :: (A3 ++ A1) = (q :: A3) ++ A1 := rfl
      rw [this]
      exact List.perm_append_comm
    refine ⟨q :: (A3 ++ A1), pm.nodup_iff.mpr nd, fun z hz => pm.mem_iff.mp hz, fun z hz => ?_, fun z hz => upd_ne fun w => hz (by rw [w]; exact List.mem_cons_self), q, _, A3 ++ A1, rfl, rfl, upd_same, ?_⟩
    · by_cases w : z = q
      · rw [w, upd_same]; simp
      · rw [upd_ne w]
        refine (hA z ?_).2
        rcases List.mem_cons.mp hz with y | y
        · exact absurd y w
        · rcases List.mem_append.mp y with y | y
          · exact List.mem_append_right _ (List.mem_cons_of_mem _ y)
          · exact List.mem_append_left _ y
    · exact (f4.fr (Same.refl _) fun z hz => upd_ne (o3 z hz)).append ⟨A1, [], by simp, P.fr (Same.refl _) (fun z hz => upd_ne (o1 z hz)) h1, rfl⟩
theorem own_last {x : V × OP} : (O ++ [x]).Perm (x :: O) := List.perm_append_comm
theorem lc_go {tg it elt : Expr} {ifs : List Expr} {scope : Scope} {own : List (Str × Nat)} {F : β → OP} {wc : α → Wp Bool} {wg : α → Wp β} {w : Wp (List α)} (Γw : Gm) (hi : IW X B Γ O Z N tg it f w) (hw : ∀ v ∈ own.map (·.2), ∀ R, Γw[v]? ≠ some (some R)) (gl : Gle Γw Γ) (Γ' : α → Gm) (js : List Nat) (hjs : ∀ j ∈ js, j ∈ own.map (·.2))
    (hb : ∀ (G : Gho) (m : V × OP) x, BlkJ X scope (fun Y => GJ Y (B.add G) (O ++ [m]) tg (f x) Γw (Γ' x) js ∧ IfsW Y (B.add G) (Γ' x) (O ++ [m]) E0 ifs (wc x) ∧ NW Y (B.add G) (Γ' x) (O ++ [m]) E0 elt F (wg x)))
    {wk : List α → Wp (List β)} (hk : ∀ xs P, wk xs P Z → W.compG wc wg xs P Z) {S H : Hp} {σ : L2.St} (st : Stt B Γ O S H σ) {P : List β → Prop} {Q : VK} (p : W.bind w wk P Z) (q : ∀ ys v S' H', P ys → Same S S' → Stt B Γ ((v, oL (ys.map F)) :: O) S' H' σ → Q v H') :
    tLc (wI X tg it) (fun v σ H Q => ∀ s H0 C cl fp, wG (X.blk s H0 scope (compEnvC scope cl C X.env) fp) tg v σ H Q) (fun σ H Q => ∀ s H0 C cl fp, ∃ t, PTs (X.blk s H0 scope (compEnvC scope cl C X.env) fp) ifs t ∧ t σ H Q) (fun σ H Q => ∀ s H0 C cl fp, wE (X.blk s H0 scope (compEnvC scope cl C X.env) fp) elt σ H Q) (own.map (·.2)) σ H Q := by
  refine hi.2 S H σ st _ _ p fun xs J G S1 H1 p1 s1 t1 g1 hJ D hD => ?_
  obtain ⟨hz, p1⟩ := hk xs P p1
  have base : Stt (B.add G) Γ O S1 H1 σ := t1.ghost g1
  refine ⟨fun i m H2 => m = xs.length - i ∧ i ≤ xs.length ∧ ∃ S2 ys, ys.length ≤ i ∧ Stt (B.add G) Γw (O ++ [(.ref D, oL (ys.map F))]) S2 H2 (L2.wipe σ (own.map (·.2))) ∧ Same S1 S2 ∧ W.comp wc wg (xs.drop i) (fun zs => P (ys ++ zs)) E0, ⟨xs.length, by simp, Nat.zero_le _, S1, [], Nat.le_refl _, ?_, Same.refl _, p1⟩, ?_⟩
  · exact (((base.forget gl).wiped hw).add hD (P := oL (([] : List β).map F)) ⟨D, [], [], rfl, rfl, upd_same, rfl⟩).perm own_last.symm
  · rintro i m H2 ⟨rfl, hin, S2, ys, hy, t, s2, pc⟩
    obtain ⟨j1, j2⟩ := hJ _ _ _ _ _ t (fun q hq => List.mem_append_left _ (hi.1 q hq))
    by_cases hlt : i < xs.length
    · obtain ⟨go, yl⟩ := j2 i hlt
      rw [List.drop_eq_getElem_cons hlt] at pc
      refine .inr ⟨go, fun H' => ∃ S2 ys, ys.length ≤ i + 1 ∧ Stt (B.add G) Γw (O ++ [(.ref D, oL (ys.map F))]) S2 H' (L2.wipe σ (own.map (·.2))) ∧ Same S1 S2 ∧ W.comp wc wg (xs.drop (i + 1)) (fun zs => P (ys ++ zs)) E0, fun H' h => ⟨xs.length - (i + 1), by omega, rfl, hlt, h⟩, fun y H3 hyy s H0 C cl fp => ?_⟩
      obtain ⟨S3, s3, r3⟩ := yl y H3 hyy
      have hB := hb G (.ref D, oL (ys.map F)) xs[i]
      refine (hB s H0 C cl fp).1 S3 H3 _ y (t.step s3) r3 _ fun σ' t' w => ⟨?_, fun s' H0' C' cl' fp' => ?_⟩
      · rw [w.wipe hjs]
        exact (wipe_wp σ _).wipe fun _ z => z
      · refine (hB s' H0' C' cl' fp').2.1 S3 H3 σ' t' _ _ pc fun b S4 H4 p4 s4 t4 => ?_
        cases b with
        | true =>
          refine iteT fun s2' H02 C2 cl2 fp2 => (hB s2' H02 C2 cl2 fp2).2.2 S4 H4 σ' t4 _ _ (p4.1 rfl) fun z v S5 H5 p5 s5 t5 _ => ?_
          have t6 := (t.step s3).mix (t5.perm (own_last.cons _)) (s4.trans s5)
          obtain ⟨A, q', vs, A', e1, e2, e3, e4⟩ := t6.at_ (x := (.ref D, oL (ys.map F))) (List.mem_cons_of_mem _ List.mem_cons_self)
          cases e1
          refine ⟨vs, e3, ?_, S5, ys ++ [z], ?_, ?_, ((s2.trans s3.s).trans s4).trans s5, ?_⟩
          · rw [e4.length, List.length_map]
            exact Nat.lt_of_le_of_lt (Nat.le_trans hy (Nat.le_trans (Nat.le_of_lt hlt) hz)) (by decide)
          · rw [List.length_append]
            exact Nat.succ_le_succ hy
          · have t7 := t6.push e3
            rw [List.map_append]
            exact t7.perm own_last.symm
          · have : (fun zs => P (ys ++ [z] ++ zs)) = fun zs => P (ys ++ (z :: zs)) := by funext zs; rw [List.append_assoc]; rfl
            rw [this]
            exact p5
        | false => exact iteF ⟨S4, ys, Nat.le_succ_of_le hy, (t.step s3).mix t4 s4, (s2.trans s3.s).trans s4, p4.2 rfl⟩
    · have e : i = xs.length := by omega
      subst e
      rw [List.drop_length] at pc
      have pc' : P (ys ++ []) := pc
      rw [List.append_nil] at pc'
      exact .inl ⟨j1, q ys (.ref D) S2 H2 pc' (s1.trans s2) (t1.mix (t.plain.perm own_last) s2)⟩
theorem n_comp {tg it elt : Expr} {ifs : List Expr} {scope : Scope} (own : List (Str × Nat)) {F : β → OP} {wc : α → Wp Bool} {wg : α → Wp β} {w : Wp (List α)} (Γw : Gm) (hi : IW X B Γ O Z N tg it f w) (Γ' : α → Gm) (js : List Nat)
    (hb : ∀ (G : Gho) (m : V × OP) x, BlkJ X scope (fun Y => GJ Y (B.add G) (O ++ [m]) tg (f x) Γw (Γ' x) js ∧ IfsW Y (B.add G) (Γ' x) (O ++ [m]) E0 ifs (wc x) ∧ NW Y (B.add G) (Γ' x) (O ++ [m]) E0 elt F (wg x))) {wk : List α → Wp (List β)} (hk : ∀ xs P, wk xs P Z → W.compG wc wg xs P Z)
    (hjs : ∀ j ∈ js, j ∈ own.map (·.2) := by decide) (hw : noneAt Γw (own.map (·.2)) = true := by rfl) (gl : Gle Γw Γ := by exact Gle.rfl') (ok : blkB X.N X.env.scope scope own = true := by kernel_rfl) (hN : X.N.Nodup := by assumption) (hc : X.calm = true := by rfl) (hs : ∀ x, foldedSetIterable it X.env x = pure x := by intro _; rfl) :
    NW X B Γ O Z (.ListComp elt [⟨tg, it, ifs, 0⟩] scope pos) (fun ys => oL (ys.map F)) (W.bind w wk) := fun S H σ st P Q p n =>
  ⟨_, pe_lc hc hN pi_w (blk_by ok) (fun s H C cl fp => ⟨fun pins s' σ H' v u Q I r h => pg_w.run pins s' σ H' v u Q I r (h s H C cl fp)⟩) (fun s H C cl fp => ⟨fun pins s' σ H' Q I h => let ⟨_, h1, h2⟩ := h s H C cl fp; h1.run pins s' σ H' Q I h2⟩)
    (fun s H C cl fp => ⟨fun pins s' σ H' Q I h => pe_w.run pins s' σ H' Q I (h s H C cl fp)⟩) hs, lc_go Γw hi (noneAt_ok hw) gl Γ' js hjs hb hk st p fun ys v S' H' p1 s1 t1 => n ys v S' H' p1 s1 t1 trivial⟩
theorem hd0 : Hd X B Γ O E0 (fun _ _ _ _ => False) := ⟨tk_no, fun _ h => h.elim⟩
end
end OW
namespace OW
theorem Hd.add {X : L2.Cx} {B : OT.Bs} {Γ : OT.Gm} {O : Om} {Z : Er → Prop} {Wx : L2.WX} {G : OT.Gho} (h : Hd X B Γ O Z Wx) : Hd X (B.add G) Γ O Z Wx := ⟨h.tk, fun x hx c d S H σ t r => h.go x hx c d S H σ t.plain r⟩
end OW
namespace OW
open PySem PySem.Spec PyProof.Rows L2 OT NdefX
section
variable {κ α β : Type} [DecidableEq κ]
def dget (kvs : List (κ × α)) (k : κ) : Option α := (kvs.find? fun q => decide (q.1 = k)).map (·.2)
def dput : List (κ × α) → κ → α → List (κ × α)
  | [], k, v => [(k, v)]
  | q :: r, k, v => if q.1 = k then (q.1, v) :: r else q :: dput r k v
theorem dput_keys {k : κ} {v : α} : ∀ {r : List (κ × α)}, (dput r k v).map (·.1) = if k ∈ r.map (·.1) then r.map (·.1) else r.map (·.1) ++ [k]
  | [] => by simp [dput]
  | q :: r => by
    unfold dput
    by_cases e : q.1 = k
    · simp [e]
    · rw [if_neg e, List.map_cons, dput_keys]
      by_cases h : k ∈ r.map (·.1)
      · simp [h]
      · have e2 : ¬ k = q.1 := fun z => e z.symm
        simp [h, e2]
theorem dput_nodup {k : κ} {v : α} {r : List (κ × α)} (h : (r.map (·.1)).Nodup) : ((dput r k v).map (·.1)).Nodup := by
  rw [dput_keys]
  split
  · exact h
  · rename_i hk
    refine List.nodup_append.mpr ⟨h, by simp, fun a ha b hb => ?_⟩
    rw [List.mem_singleton] at hb
    subst hb
    exact fun z => hk (z ▸ ha)
theorem dput_len {k : κ} {v : α} : ∀ {r : List (κ × α)}, (dput r k v).length ≤ r.length + 1
  | [] => Nat.le_refl _
  | q :: r => by
    unfold dput
    split
    · simp
    · have := dput_len (k := k) (v := v) (r := r)
      simp only [List.length_cons]
      omega
def dhas (kvs : List (κ × α)) (k : κ) : Bool := kvs.any fun q => decide (q.1 = k)
end
def KvO : List (Key × OP) → Hp → Hp → List Addr → List (Key × V) → Prop
  | [], _, _, A, [] => A = []
  | (k, P) :: Ps, S, H, A, (j, v) :: vs => k = j ∧ ∃ A1 A2, A = A1 ++ A2 ∧ P.R S H A1 v ∧ KvO Ps S H A2 vs
  | _, _, _, _, _ => False
theorem KvO.fr : ∀ {Ps : List (Key × OP)} {S S' H H' : Hp} {A : List Addr} {vs : List (Key × V)}, Same S S' → (∀ a ∈ A, H' a = H a) → KvO Ps S H A vs → KvO Ps S' H' A vs
  | [], _, _, _, _, _, [], _, _, h => h
  | [], _, _, _, _, _, _ :: _, _, _, h => h.elim
  | _ :: _, _, _, _, _, _, [], _, _, h => h.elim
  | (f, P) :: Ps, _, _, _, _, _, (g, v) :: vs, e, hA, ⟨h0, A1, A2, z, h1, h2⟩ => by
    subst z
    exact ⟨h0, A1, A2, rfl, P.fr e (fun a ha => hA a (List.mem_append_left _ ha)) h1, KvO.fr e (fun a ha => hA a (List.mem_append_right _ ha)) h2⟩
theorem KvO.len : ∀ {Ps : List (Key × OP)} {S H : Hp} {A : List Addr} {vs : List (Key × V)}, KvO Ps S H A vs → vs.length = Ps.length
  | [], _, _, _, [], _ => rfl
  | [], _, _, _, _ :: _, h => h.elim
  | _ :: _, _, _, _, [], h => h.elim
  | _ :: Ps, _, _, _, _ :: vs, ⟨_, _, _, _, _, h⟩ => congrArg Nat.succ (KvO.len h)
def KvR : List (Key × BP) → Hp → Hp → List (Key × V) → Prop
  | [], _, _, [] => True
  | (k, R) :: Rs, S, H, (j, v) :: vs => k = j ∧ R.R S H v ∧ KvR Rs S H vs
  | _, _, _, _ => False
theorem KvR.up : ∀ {Rs : List (Key × BP)} {S S' H H' : Hp} {vs : List (Key × V)}, Same S S' → Same H H' → KvR Rs S H vs → KvR Rs S' H' vs
  | [], _, _, _, _, [], _, _, _ => trivial
  | [], _, _, _, _, _ :: _, _, _, h => h.elim
  | _ :: _, _, _, _, _, [], _, _, h => h.elim
  | (_, R) :: Rs, _, _, _, _, (_, v) :: vs, e, e', h => ⟨h.1, R.up e e' h.2.1, KvR.up e e' h.2.2⟩
def oD (Ps : List (Key × OP)) : OP := ⟨fun S H A v => ∃ p vs A', v = .ref p ∧ A = p :: A' ∧ H p = some (.dK vs) ∧ (List.map (fun z : Key × V => z.1) vs).Nodup ∧ KvO Ps S H A' vs,
  fun {S S' H H' A v} e hA ⟨p, vs, A', h1, h2, h3, nk, h4⟩ => ⟨p, vs, A', h1, h2, by rw [hA p (by rw [h2]; exact List.mem_cons_self)]; exact h3, nk, h4.fr e fun a ha => hA a (by rw [h2]; exact List.mem_cons_of_mem _ ha)⟩⟩
def bDB (Rs : List (Key × BP)) : BP := ⟨fun S H v => ∃ a vs, v = .ref a ∧ Rd H a (.dK vs) ∧ KvR Rs S H vs, fun e e' ⟨a, vs, h1, h2, h3⟩ => ⟨a, vs, h1, h2.elim (fun h => .inl (e' _ _ h)) (fun ⟨o, h⟩ => .inr ⟨o, e' _ _ h⟩), h3.up e e'⟩⟩
abbrev kS (k : Str) : Key := .inr k
abbrev oDn {α : Type} (F : α → OP) (kvs : List (Str × α)) : OP := oD (kvs.map fun q => (kS q.1, F q.2))
abbrev oDs {α : Type} (f : α → MP) (kvs : List (Str × α)) : OP := oDn (fun x => MP.o (f x)) kvs
abbrev rDn {α : Type} (G : α → BP) (kvs : List (Str × α)) : BP := bDB (kvs.map fun q => (kS q.1, G q.2))
abbrev rD {α : Type} (f : α → MP) (kvs : List (Str × α)) : BP := rDn (fun x => (f x).b) kvs
section
variable {α : Type} {F : α → OP} {M : α → MP} {G : α → BP}
theorem stl_kvs (h : ∀ x, Stl (F x) (M x)) {S H : Hp} : ∀ {xs : List (Str × α)} {A : List Addr} {vs : List (Key × V)}, KvO (xs.map fun q => (kS q.1, F q.2)) S H A vs → A.Nodup → (∀ a ∈ A, S a = none) →
    ∃ D : List Addr, D.Nodup ∧ (∀ d ∈ D, d ∈ A ∧ ∃ u, H d = some u ∧ Mut (some u)) ∧ ∀ H', FrzA A D H H' → KvM (xs.map fun q => (kS q.1, M q.2)) (cut S H' A) vs
  | [], _, [], z, _, _ => ⟨[], .nil, (fun _ h => by cases h), fun _ _ => trivial⟩
  | [], _, _ :: _, z, _, _ => z.elim
  | _ :: _, _, [], z, _, _ => z.elim
  | x :: xs, _, (j, v) :: vs, ⟨e0, A1, A2, z, h1, h2⟩, nd, hA => by
    subst z
    obtain ⟨n1, n2, n3⟩ := List.nodup_append.mp nd
    obtain ⟨D1, d1, d2, d3⟩ := h x.2 S H A1 v h1 n1 fun a ha => hA a (List.mem_append_left _ ha)
    obtain ⟨D2, e1, e2, e3⟩ := stl_kvs h h2 n2 fun a ha => hA a (List.mem_append_right _ ha)
    refine ⟨D1 ++ D2, List.nodup_append.mpr ⟨d1, e1, fun a ha b hb => n3 a (d2 a ha).1 b (e2 b hb).1⟩, fun d hd => ?_, fun H' hf => ⟨e0, ?_, ?_⟩⟩
    · rcases List.mem_append.mp hd with q | q
      · exact ⟨List.mem_append_left _ (d2 d q).1, (d2 d q).2⟩
      · exact ⟨List.mem_append_right _ (e2 d q).1, (e2 d q).2⟩
    · refine (M x.2).up (cut_le (fun a ha => List.mem_append_left _ ha) hA) (d3 H' ⟨fun a ha hn => hf.out a (List.mem_append_left _ ha) fun q => ?_, fun d hd => hf.at_ d (List.mem_append_left _ hd)⟩)
      rcases List.mem_append.mp q with q | q
      · exact hn q
      · exact n3 a ha a (e2 a q).1 rfl
    · refine KvM.up (cut_le (fun a ha => List.mem_append_right _ ha) hA) (e3 H' ⟨fun a ha hn => hf.out a (List.mem_append_right _ ha) fun q => ?_, fun d hd => hf.at_ d (List.mem_append_right _ hd)⟩)
      rcases List.mem_append.mp q with q | q
      · exact n3 a (d2 a q).1 a ha rfl
      · exact hn q
theorem stl_D (h : ∀ x, Stl (F x) (M x)) {kvs : List (Str × α)} : Stl (oDn F kvs) (tDs M kvs) := fun S H A v ⟨p, vs, A', h1, h2, h3, nk, h4⟩ nd hA => by
  subst h2
  obtain ⟨n1, n2⟩ := List.nodup_cons.mp nd
  obtain ⟨D, d1, d2, d3⟩ := stl_kvs h h4 n2 fun a ha => hA a (List.mem_cons_of_mem _ ha)
  refine ⟨p :: D, List.nodup_cons.mpr ⟨fun q => n1 (d2 p q).1, d1⟩, fun d hd => ?_, fun H' hf => ?_⟩
  · rcases List.mem_cons.mp hd with q | q
    · subst q
      exact ⟨List.mem_cons_self, _, h3, trivial⟩
    · exact ⟨List.mem_cons_of_mem _ (d2 d q).1, (d2 d q).2⟩
  · obtain ⟨od, u, g1, g2⟩ := hf.at_ p List.mem_cons_self
    rw [h3] at g1
    cases g1
    refine ⟨p, od, vs, h1, by rw [cut_in List.mem_cons_self]; exact g2, ?_⟩
    exact KvM.up (cut_le (fun a ha => List.mem_cons_of_mem _ ha) hA) (d3 H' ⟨fun a ha hn => hf.out a (List.mem_cons_of_mem _ ha) fun q => (List.mem_cons.mp q).elim (fun z => n1 (by rw [← z]; exact ha)) hn, fun d hd => hf.at_ d (List.mem_cons_of_mem _ hd)⟩)
theorem stl_Ds {f : α → MP} {kvs : List (Str × α)} : Stl (oDs f kvs) (tDs f kvs) := stl_D fun _ => stl_m
theorem lend_kvs (hl : ∀ x, Lend (F x) (G x)) {S H H' : Hp} (sm : Same S H') : ∀ {xs : List (Str × α)} {A : List Addr} {vs : List (Key × V)}, (∀ a ∈ A, H' a = H a) → KvO (xs.map fun q => (kS q.1, F q.2)) S H A vs → KvR (xs.map fun q => (kS q.1, G q.2)) S H' vs
  | [], _, [], _, _ => trivial
  | [], _, _ :: _, _, h => h.elim
  | _ :: _, _, [], _, h => h.elim
  | x :: xs, _, (j, v) :: vs, hA, ⟨e0, A1, A2, z, h1, h2⟩ => by
    subst z
    exact ⟨e0, hl x.2 S H A1 v h1 H' (fun a ha => hA a (List.mem_append_left _ ha)) sm, lend_kvs hl sm (fun a ha => hA a (List.mem_append_right _ ha)) h2⟩
theorem lend_D (hl : ∀ x, Lend (F x) (G x)) {kvs : List (Str × α)} : Lend (oDn F kvs) (rDn G kvs) := fun S H A v ⟨p, vs, A', h1, h2, h3, nk, h4⟩ H' hA sm =>
  ⟨p, vs, h1, .inl (by rw [hA p (by rw [h2]; exact List.mem_cons_self)]; exact h3), lend_kvs hl sm (fun a ha => hA a (by rw [h2]; exact List.mem_cons_of_mem _ ha)) h4⟩
theorem lend_Ds {f : α → MP} {kvs : List (Str × α)} : Lend (oDs f kvs) (rD f kvs) := lend_D fun _ => lend_m
theorem KvM.toB {f : α → MP} {S H : Hp} : ∀ {xs : List (Str × α)} {vs : List (Key × V)}, KvM (xs.map fun q => (kS q.1, f q.2)) S vs → KvR (xs.map fun q => (kS q.1, (f q.2).b)) S H vs
  | [], [], _ => trivial
  | [], _ :: _, h => h.elim
  | _ :: _, [], h => h.elim
  | x :: xs, (j, v) :: vs, h => ⟨h.1, h.2.1, KvM.toB h.2.2⟩
theorem tDs_b {f : α → MP} {kvs : List (Str × α)} {S H : Hp} {v : V} (sm : Same S H) (h : (tDs f kvs).R S v) : (rD f kvs).R S H v := let ⟨a, od, vs, h1, h2, h3⟩ := h; ⟨a, vs, h1, .inr ⟨od, sm _ _ h2⟩, KvM.toB h3⟩
theorem KvR.get {S H : Hp} {k : Str} : ∀ {xs : List (Str × α)} {vs : List (Key × V)}, KvR (xs.map fun q => (kS q.1, G q.2)) S H vs → match dget xs k with
    | some x => ∃ v, valV vs (kS k) = some v ∧ (G x).R S H v
    | none => valV vs (kS k) = none
  | [], [], _ => rfl
  | [], _ :: _, h => h.elim
  | _ :: _, [], h => h.elim
  | (j, x) :: xs, (j', v) :: vs, h => by
    obtain ⟨e0, h1, h2⟩ := h
    have e0' : j' = kS j := e0.symm
    subst e0'
    by_cases e : j = k
    · subst e
      have e1 : dget ((j, x) :: xs) j = some x := by simp [dget, List.find?_cons]
      rw [e1, valV_pos rfl]
      exact ⟨v, rfl, h1⟩
    · have e1 : dget ((j, x) :: xs) k = dget xs k := by simp [dget, List.find?_cons, e]
      rw [e1, valV_neg (fun q => e (Sum.inr.inj q))]
      exact KvR.get h2
theorem KvR.some {S H : Hp} {k : Str} {x : α} {xs : List (Str × α)} {vs : List (Key × V)} (h : KvR (xs.map fun q => (kS q.1, G q.2)) S H vs) (e : dget xs k = .some x) : ∃ v, valV vs (kS k) = .some v ∧ (G x).R S H v := by
  have := h.get (k := k)
  rw [e] at this
  exact this
theorem dhas_get {κ : Type} [DecidableEq κ] {xs : List (κ × α)} {k : κ} : dhas xs k = (dget xs k).isSome := by
  unfold dhas dget
  induction xs with
  | nil => rfl
  | cons a xs ih =>
    rw [List.any_cons, List.find?_cons]
    by_cases e : a.1 = k
    · simp [e]
    · simp only [e, decide_false, Bool.false_or]
      exact ih
theorem KvR.has {S H : Hp} {k : Str} {xs : List (Str × α)} {vs : List (Key × V)} (h : KvR (xs.map fun q => (kS q.1, G q.2)) S H vs) : (valV vs (kS k)).isSome = dhas xs k := by
  have := h.get (k := k)
  rw [dhas_get]
  cases e : dget xs k with
  | none => rw [e] at this; rw [this] <;> rfl
  | some R => rw [e] at this; obtain ⟨v, h1, _⟩ := this; rw [h1] <;> rfl
end
section
variable {X : Cx} {B : Bs} {Γ : Gm} {O N N' : Om} {Z : Er → Prop} {e a b c o l : Expr} {es : List Expr} {p p2 pos pos' apos : Pos} {D : Ends} {rest body els : List Stmt} {α β γ τ : Type} {x m nm fl : Str} {f : α → MP} {G : α → BP} {F : α → OP}
theorem EW.rd {w : Wp (List (Str × α))} (h : EW X B Γ O Z e (tDs f) w) : RW X B Γ O Z [] e (rD f) w := h.r fun _ _ _ _ sm r => tDs_b sm r
abbrev W.getD {α : Type} (kvs : List (Str × α)) (k : Str) : Wp α := fun Q _ => ∃ x, dget kvs k = some x ∧ Q x
theorem w_dget {wa : Wp (List (Str × α))} {wb : Wp Str} (hr : Room 0 X.A) (ha : RW X B Γ O Z N a (rD f) wa) (hb : EW X B Γ O Z b tS wb) (hs : NoSl b := by exact fun _ _ => rfl) : EW X B Γ O Z (.Subscript a b pos) f (W.bind wa fun d => W.bind wb fun k => W.getD d k) := fun S H σ st P Q p n =>
  ⟨_, pe_dget (by have := hr.units; omega) pe_w pe_w hs, ha.now S H σ st _ _ p fun d u S1 H1 p1 s1 t1 _ r1 => hb S1 H1 σ t1 _ _ p1 fun k v S2 H2 p2 s2 t2 r2 => by
    obtain ⟨x, hx, px⟩ := p2
    obtain ⟨q, vs, rfl, h2, h3⟩ := r1 S2 H2 s2 t2
    obtain ⟨y, h4, h5⟩ := KvR.some (G := fun x => (f x).b) h3 hx
    have r2' : v = kV (kS k) := r2
    exact ⟨q, y, rfl, .inl ⟨vs, kS k, h2, r2', h4.symm⟩, n x y S2 H2 px (s1.trans s2) t2 h5⟩⟩
theorem rn_dget {wa : Wp (List (Str × α))} {wb : Wp Str} (hr : Room 0 X.A) (ha : RW X B Γ O Z N a (rDn G) wa) (hb : EW X B Γ O Z b tS wb) (hs : NoSl b := by exact fun _ _ => rfl) : RN X B Γ O Z (.Subscript a b pos) G (W.bind wa fun d => W.bind wb fun k => W.getD d k) := fun S H σ st P Q p n =>
  ⟨_, pe_dget (by have := hr.units; omega) pe_w pe_w hs, ha.now S H σ st _ _ p fun d u S1 H1 p1 s1 t1 _ r1 => hb S1 H1 σ t1 _ _ p1 fun k v S2 H2 p2 s2 t2 r2 => by
    obtain ⟨x, hx, px⟩ := p2
    obtain ⟨q, vs, rfl, h2, h3⟩ := r1 S2 H2 s2 t2
    obtain ⟨y, h4, h5⟩ := h3.some hx
    have r2' : v = kV (kS k) := r2
    exact ⟨q, y, rfl, .inl ⟨vs, kS k, h2, r2', h4.symm⟩, n x y S2 H2 px (s1.trans s2) t2 h5⟩⟩
theorem go_in {wa : Wp Str} {wb : Wp (List (Str × α))} (ha : EW X B Γ O Z a tS wa) (hb : RN X B Γ O Z b (rDn G) wb) {S H : Hp} {σ : L2.St} (st : Stt B Γ O S H σ) {P : Bool → Prop} {Q : VK} {k : Bool → Bool} (p : W.bind wa (fun i => W.bind wb fun d => W.ret (k (dhas d i))) P Z) (n : ∀ b S' H', P b → Same S S' → Stt B Γ O S' H' σ → Q (.bl b) H') :
    wE X a σ H fun y H1 => wE X b σ H1 fun x H2 => ∃ q ov, x = .ref q ∧ DGet H2 q y ov ∧ Q (.bl (k ov.isSome)) H2 :=
  ha S H σ st _ _ p fun i u S1 H1 p1 s1 t1 r1 => hb S1 H1 σ t1 _ _ p1 fun d v S2 H2 p2 s2 t2 r2 => by
    obtain ⟨q, vs, e, h2, h3⟩ := r2
    have r1' : u = kV (kS i) := r1
    refine ⟨q, _, e, .inl ⟨vs, kS i, h2, r1', rfl⟩, ?_⟩
    rw [h3.has]
    exact n _ S2 H2 p2 (s1.trans s2) t2
theorem w_din {wa : Wp Str} {wb : Wp (List (Str × α))} (hr : Room 0 X.A) (ha : EW X B Γ O Z a tS wa) (hb : RN X B Γ O Z b (rDn G) wb) (hmk : behindInMarks .In b = false := by rfl) : EW X B Γ O Z (.Compare a [.In] [b] pos) tB (W.bind wa fun i => W.bind wb fun d => W.ret (dhas d i)) := fun S H σ st P Q p n =>
  ⟨_, pe_cmp (pc_din (by have := hr.units; omega) pe_w pe_w) hmk, go_in (k := id) ha hb st p fun b S' H' p s t => n b _ S' H' p s t rfl⟩
theorem t_din {wa : Wp Str} {wb : Wp (List (Str × α))} (hr : Room 0 X.A) (ha : EW X B Γ O Z a tS wa) (hb : RN X B Γ O Z b (rDn G) wb) (hmk : behindInMarks .In b = false := by rfl) : TW X B Γ O Z (.Compare a [.In] [b] pos) (W.bind wa fun i => W.bind wb fun d => W.ret (dhas d i)) := fun S H σ st P Q p n =>
  ⟨_, pt_cmp (pc_din (by have := hr.units; omega) pe_w pe_w) hmk, go_in (k := id) (Q := fun v H' => ∃ b, v = .bl b ∧ Q b H') ha hb st p fun b S' H' p s t => ⟨_, rfl, n b S' H' p s t⟩⟩
theorem n_listD {w : Wp (List (Str × α))} (hm : X.mg "list" = none) (ha : RN X B Γ O Z e (rDn G) w) (hc : X.calm = true := by rfl) (hg : Gl X "list" := by rfl) (he : starEach [e] X.env = (false, eval e X.env) :: starEach [] X.env := by rfl) : NW X B Γ O Z (.Call (.Name "list" p) [e] [] pos) (oLs tS) (W.bind w fun d => W.ret (d.map (·.1))) :=
  n_callTy1 ha (call_listD hc) (by decide +kernel) (fun d S H v sm ⟨q, ws, e1, h1, h2⟩ P Q p n => ⟨q, ws, by rw [e1], h1, fun l hl => n _ l _ p hl ⟨l, _, [], rfl, rfl, upd_same, AllO.ofS (by
    have key : ∀ {d : List (Str × α)} {ws : List (Key × V)}, KvR (d.map fun q => (kS q.1, G q.2)) S H ws → AllM ((d.map (·.1)).map tS) S (ws.map fun kv => kV kv.1) := by
      intro d
      induction d with
      | nil => intro ws h; cases ws with
        | nil => exact trivial
        | cons _ _ => exact h.elim
      | cons a d ih => intro ws h; cases ws with
        | nil => exact h.elim
        | cons b ws => exact ⟨by show kV b.1 = V.str a.1; rw [← h.1]; rfl, ih h.2.2⟩
    exact key h2)⟩⟩) hm hg (by decide) (by decide) he
theorem i_keys {tg : Expr} {w : Wp (List (Str × α))} (he : EW X B Γ O Z l (tDs f) w) : IW X B Γ O Z [] tg l tS (W.bind w fun d => W.ret (d.map (·.1))) := ⟨(fun _ h => by cases h), fun S H σ st P Rk p kk =>
  ⟨_, pi_keys pe_w, he S H σ st _ _ p fun d v S1 H1 p1 s1 t1 ⟨q, od, vs, e1, h1, h2⟩ => by
    refine ⟨q, od, e1, .inl ⟨vs, t1.sub _ _ h1, kk _ (Itk q od vs) ⟨fun T => T q = some (.frz od (.dK vs)) ∧ KvM (List.map (fun z : Str × α => (kS z.1, f z.2)) d) T vs, fun e h => ⟨e _ _ h.1, KvM.up e h.2⟩⟩ S1 H1 p1 s1 t1 ⟨h1, h2⟩ fun Γ2 O2 S2 H2 σ2 t _ => ?_⟩⟩
    have g1 := t.sub _ _ t.gh.2.1
    have g2 : KvM (d.map fun q => (kS q.1, f q.2)) S2 vs := t.gh.2.2
    have hl : vs.length = (d.map (·.1)).length := by rw [g2.len, List.length_map, List.length_map]
    refine ⟨⟨g1, Nat.le_of_eq hl⟩, fun i hi => ⟨⟨g1, Nat.lt_of_lt_of_eq hi hl.symm⟩, fun y H3 ⟨e, j, w, hj, hy⟩ => ?_⟩⟩
    subst e
    refine ⟨S2, Stp.refl t.sub, ?_⟩
    obtain ⟨R, hR, _⟩ := g2.at_ hj
    rw [List.getElem?_map] at hR
    have hi2 : i < d.length := by simpa using hi
    rw [List.getElem?_eq_getElem hi2] at hR
    have e3 : kS (d[i]).1 = j := by
      have := Option.some.inj hR
      exact congrArg Prod.fst this
    rw [hy, ← e3]
    show V.str _ = V.str _
    congr 1
    simp⟩⟩
end
end OW
namespace OW
open PySem PySem.Spec PyProof.Rows L2 OT NdefX
theorem putK_eq {v : V} {k : Key} : ∀ {vs : List (Key × V)}, (vs.map (·.1)).Nodup → putK vs k v = dput vs k v
  | [], _ => rfl
  | q :: r, nd => by
    have nd' : q.1 ∉ r.map (·.1) ∧ (r.map (·.1)).Nodup := List.nodup_cons.mp nd
    have ih := putK_eq (v := v) (k := k) nd'.2
    unfold dput
    by_cases e : q.1 = k
    · rw [if_pos e]
      unfold putK
      rw [if_pos (by simp [e]), List.map_cons, if_pos e]
      congr 1
      refine (List.map_congr_left fun z hz => ?_).trans (List.map_id _)
      have : z.1 ≠ k := fun y => nd'.1 (by rw [e, ← y]; exact List.mem_map_of_mem (f := fun z : Key × V => z.1) hz)
      simp [this]
    · rw [if_neg e, ← ih]
      unfold putK
      by_cases h : (r.any fun kv => decide (kv.1 = k)) = true
      · have h' : ((q :: r).any fun kv => decide (kv.1 = k)) = true := by rw [List.any_cons, h]; simp
        rw [if_pos h, if_pos h', List.map_cons, if_neg e]
      · have h' : ¬ ((q :: r).any fun kv => decide (kv.1 = k)) = true := by
          rw [List.any_cons]
          simpa [e] using h
        rw [if_neg h, if_neg h']
        rfl
section
variable {α : Type} {F : α → OP}
theorem KvO.put {S H : Hp} {k : Str} {x : α} {v : V} {A' : List Addr} (hv : (F x).R S H A' v) : ∀ {xs : List (Str × α)} {A : List Addr} {vs : List (Key × V)}, KvO (xs.map fun q => (kS q.1, F q.2)) S H A vs → (A ++ A').Nodup →
    ∃ A2 : List Addr, A2.Nodup ∧ (∀ a ∈ A2, a ∈ A ++ A') ∧ KvO ((dput xs k x).map fun q => (kS q.1, F q.2)) S H A2 (dput vs (kS k) v)
  | [], A, [], z, nd => by
    cases z
    exact ⟨A', by simpa using nd, fun a ha => by simpa using ha, rfl, A', [], by simp, hv, rfl⟩
  | [], _, _ :: _, z, _ => z.elim
  | _ :: _, _, [], z, _ => z.elim
  | (j, y) :: xs, A, (j', w) :: vs, ⟨e0, A1, A2, z, h1, h2⟩, nd => by
    have e0' : j' = kS j := e0.symm
    subst e0'
    subst z
    have n0 : (A1 ++ (A2 ++ A')).Nodup := by rw [← List.append_assoc]; exact nd
    obtain ⟨n1, n2, n3⟩ := List.nodup_append.mp n0
    by_cases e : j = k
    · subst e
      have d1 : dput ((j, y) :: xs) j x = (j, x) :: xs := by simp [dput]
      have d2 : dput ((kS j, w) :: vs) (kS j) v = (kS j, v) :: vs := by simp [dput]
      rw [d1, d2]
      refine ⟨A' ++ A2, List.perm_append_comm.nodup_iff.mp n2, fun a ha => ?_, rfl, A', A2, rfl, hv, h2⟩
      rcases List.mem_append.mp ha with q | q
      · exact List.mem_append_right _ q
      · exact List.mem_append_left _ (List.mem_append_right _ q)
    · obtain ⟨A3, m1, m2, m3⟩ := KvO.put hv h2 n2
      have d1 : dput ((j, y) :: xs) k x = (j, y) :: dput xs k x := by simp [dput, e]
      have d2 : dput ((kS j, w) :: vs) (kS k) v = (kS j, w) :: dput vs (kS k) v := by
        have : ¬ (kS j = kS k) := fun q => e (Sum.inr.inj q)
        simp [dput, this]
      rw [d1, d2]
      refine ⟨A1 ++ A3, List.nodup_append.mpr ⟨n1, m1, fun a ha b hb => n3 a ha b (m2 b hb)⟩, fun a ha => ?_, rfl, A1, A3, rfl, h1, m3⟩
      rcases List.mem_append.mp ha with q | q
      · exact List.mem_append_left _ (List.mem_append_left _ q)
      · rcases List.mem_append.mp (m2 a q) with y | y
        · exact List.mem_append_left _ (List.mem_append_right _ y)
        · exact List.mem_append_right _ y
end
section
variable {X : Cx} {B : Bs} {Γ : Gm} {O N N' : Om} {Z : Er → Prop} {e a b c o l ix : Expr} {es : List Expr} {p p1 p2 pos pos' apos : Pos} {D : Ends} {rest body els : List Stmt} {α β γ τ : Type} {x m nm fl : Str} {f : α → MP} {G : α → BP} {F : α → OP}
theorem Stt.pushD {S H : Hp} {σ : L2.St} {v : V} {q : Addr} {x : α} {k : Str} {kvs : List (Str × α)} {vs : List (Key × V)} (t : Stt B Γ ((v, F x) :: (.ref q, oDn F kvs) :: O) S H σ) (hq : H q = some (.dK vs)) : Stt B Γ ((.ref q, oDn F (dput kvs k x)) :: O) S (upd H q (.dK (putK vs (kS k) v))) σ :=
  t.join fun A1 A2 nd hA h1 h2 => by
    obtain ⟨q', ws, A3, f1, f2, f3, nk, f4⟩ := h2
    cases f1
    subst f2
    rw [hq] at f3
    cases f3
    obtain ⟨n1, n2, n3⟩ := List.nodup_append.mp nd
    obtain ⟨n4, n5⟩ := List.nodup_cons.mp n2
    have o1 : ∀ z ∈ A1, z ≠ q := fun z hz w => n3 z hz q List.mem_cons_self w
    have o3 : ∀ z ∈ A3, z ≠ q := fun z hz w => n4 (by rw [← w]; exact hz)
    obtain ⟨A4, m1, m2, m3⟩ := KvO.put (k := k) ((F x).fr (Same.refl _) (fun z hz => upd_ne (o := .dK (putK vs (kS k) v)) (o1 z hz)) h1) (f4.fr (Same.refl _) fun z hz => upd_ne (o := .dK (putK vs (kS k) v)) (o3 z hz)) (List.nodup_append.mpr ⟨n5, n1, fun a ha b hb z => n3 b hb a (List.mem_cons_of_mem _ ha) z.symm⟩)
    have m4 : ∀ z ∈ A4, z ≠ q := fun z hz => (List.mem_append.mp (m2 z hz)).elim (o3 z) (o1 z)
    refine ⟨q :: A4, List.nodup_cons.mpr ⟨fun z => m4 q z rfl, m1⟩, fun z hz => ?_, fun z hz => ?_, fun z hz => upd_ne fun w => hz (by rw [w]; exact List.mem_cons_self), q, _, A4, rfl, rfl, upd_same, ?_, ?_⟩
    · rcases List.mem_cons.mp hz with y | y
      · subst y; exact List.mem_append_right _ List.mem_cons_self
      · rcases List.mem_append.mp (m2 z y) with y | y
        · exact List.mem_append_right _ (List.mem_cons_of_mem _ y)
        · exact List.mem_append_left _ y
    · by_cases w : z = q
      · rw [w, upd_same]; simp
      · rw [upd_ne w]
        rcases List.mem_cons.mp hz with y | y
        · exact absurd y w
        · refine (hA z ?_).2
          rcases List.mem_append.mp (m2 z y) with y | y
          · exact List.mem_append_right _ (List.mem_cons_of_mem _ y)
          · exact List.mem_append_left _ y
    · rw [putK_eq nk]
      exact dput_nodup nk
    · rw [← putK_eq nk] at m3
      exact m3
def VW (X : Cx) (B : Bs) (Γ : Gm) (O : Om) (e : Expr) (f : α → MP) (x : α) : Prop := ∀ S H σ, Stt B Γ O S H σ → ∃ v, (f x).R S v ∧ ∀ Q : VK, Q v H → wE X e σ H Q
theorem v_var (i : Nat) {f : α → MP} {v : α} {x : Str} (hG : Γ[i]? = some (some (f v)) := by rfl) (hN : X.N[i]? = some x := by rfl) (hv : Vis X.env.scope x := by first | exact Or.inl rfl | exact Or.inr (Or.inl rfl) | exact Or.inr (Or.inr rfl))
    (hd : (x == ("__debug__" : Str)) = false := by decide) (hcd : (x == ("__classdict__" : Str)) = false := by decide) : VW X B Γ O (.Name x pos) f v := fun S H σ st => let ⟨u, h1, h2⟩ := st.slot i _ hG; ⟨u, h2, fun Q q => ⟨_, pe_var hN hv hd hcd, u, h1, q⟩⟩
theorem VW.w {f : α → MP} {x : α} (h : VW X B Γ O e f x) : EW X B Γ O Z e f (W.ret x) := fun S H σ st P Q p n => let ⟨v, h1, h2⟩ := h S H σ st; h2 Q (n x v S H p (Same.refl _) st h1)
theorem KvO.upd {S H : Hp} {k : Str} {x : α} : ∀ {xs : List (Str × α)} {A : List Addr} {vs : List (Key × V)}, KvO (xs.map fun q => (kS q.1, F q.2)) S H A vs → A.Nodup → dget xs k = some x →
    ∃ v Ai, valV vs (kS k) = some v ∧ (∀ a ∈ Ai, a ∈ A) ∧ Ai.Nodup ∧ (F x).R S H Ai v ∧ ∀ H' x', (∀ a ∈ A, a ∉ Ai → H' a = H a) → (F x').R S H' Ai v → KvO ((dput xs k x').map fun q => (kS q.1, F q.2)) S H' A vs
  | [], _, [], _, _, e => by simp [dget] at e
  | [], _, _ :: _, z, _, _ => z.elim
  | _ :: _, _, [], z, _, _ => z.elim
  | (j, y) :: xs, A, (j', w) :: vs, ⟨e0, A1, A2, z, h1, h2⟩, nd, e => by
    have e0' : j' = kS j := e0.symm
    subst e0'
    subst z
    obtain ⟨n1, n2, n3⟩ := List.nodup_append.mp nd
    by_cases ek : j = k
    · subst ek
      have e1 : dget ((j, y) :: xs) j = some y := by simp [dget, List.find?_cons]
      rw [e1] at e
      cases e
      refine ⟨w, A1, valV_pos rfl, fun a ha => List.mem_append_left _ ha, n1, h1, fun H' x' hH hx => ?_⟩
      have d1 : dput ((j, x) :: xs) j x' = (j, x') :: xs := by simp [dput]
      rw [d1]
      exact ⟨rfl, A1, A2, rfl, hx, h2.fr (Same.refl _) fun a ha => hH a (List.mem_append_right _ ha) fun q => n3 a q a ha rfl⟩
    · have e1 : dget ((j, y) :: xs) k = dget xs k := by simp [dget, List.find?_cons, ek]
      rw [e1] at e
      obtain ⟨v, Ai, g1, g2, g3, g4, g5⟩ := KvO.upd h2 n2 e
      refine ⟨v, Ai, by rw [valV_neg (fun q => ek (Sum.inr.inj q))]; exact g1, fun a ha => List.mem_append_right _ (g2 a ha), g3, g4, fun H' x' hH hx => ?_⟩
      have d1 : dput ((j, y) :: xs) k x' = (j, y) :: dput xs k x' := by simp [dput, ek]
      rw [d1]
      exact ⟨rfl, A1, A2, rfl, (F y).fr (Same.refl _) (fun a ha => hH a (List.mem_append_left _ ha) fun q => n3 a ha a (g2 a q) rfl) h1, g5 H' x' (fun a ha hn => hH a (List.mem_append_right _ ha) hn) hx⟩
theorem s_dput2 {i : Nat} {u : V} {kvs : List (Str × List (Str × α))} {w wa : Wp α} {j k : Str} {q : List (Str × α) → α → Prop} {ix2 : Expr} {p3 : Pos} (hr : Room 0 X.A) (he : EW X B Γ ((u, oDn (fun d => oDs f d) kvs) :: O) Z e f wa) (hj : VW X B Γ ((u, oDn (fun d => oDs f d) kvs) :: O) ix tS j) (hk : VW X B Γ ((u, oDn (fun d => oDs f d) kvs) :: O) ix2 tS k)
    (h : ∀ a d, SW X B Γ ((u, oDn (fun d => oDs f d) (dput kvs j (dput d k a))) :: O) rest D (q d a)) (hw : wa = w := by rfl)
    (hG : Γ[i]? = some (some (tV u)) := by rfl) (hN : X.N[i]? = some nm := by rfl) (hv : Vis X.env.scope nm := by first | exact Or.inl rfl | exact Or.inr (Or.inl rfl) | exact Or.inr (Or.inr rfl))
    (hd : (nm == ("__debug__" : Str)) = false := by decide) (hcd : (nm == ("__classdict__" : Str)) = false := by decide) (hns : NoSl ix := by exact fun _ _ => rfl) (hs : swapsWith e (some (.Subscript (.Subscript (.Name nm p1) ix p3) ix2 pos')) pos.line X.env = pure false := by rfl) :
    SW X B Γ ((u, oDn (fun d => oDs f d) kvs) :: O) (.Assign [.Subscript (.Subscript (.Name nm p1) ix p3) ix2 pos'] e pos :: rest) D (W.run w Z fun a => ∃ d, dget kvs j = some d ∧ d.length < 100000 ∧ q d a) :=
  s_cons fun hq S H σ st => ⟨_, ps_dput (by have := hr.units; omega) (pe_dget (by have := hr.units; omega) (pe_var hN hv hd hcd) pe_w hns) pe_w pe_w hs, he S H σ st _ _ (hw ▸ hq) fun a v S1 H1 p1 s1 t1 r1 => by
    obtain ⟨d, hd1, hd2, p1⟩ := p1
    obtain ⟨u', g1, g2⟩ := t1.slot i _ hG
    have g2' : u' = u := g2
    subst g2'
    obtain ⟨jv, r2, hj2⟩ := hj S1 H1 σ t1
    have r2' : jv = kV (kS j) := r2
    subst r2'
    obtain ⟨A, nd, hA, A1, A2, ea, h2, h3⟩ := t1.own
    subst ea
    have n1 := (List.nodup_append.mp nd).1
    obtain ⟨y, vs, A', e1, e2, e3, nk, e4⟩ := h2
    have e1' : u' = .ref y := e1
    subst e1'
    subst e2
    obtain ⟨n4, n5⟩ := List.nodup_cons.mp n1
    obtain ⟨iv, Ai, f1, f2, f3, f4, f5⟩ := KvO.upd e4 n5 hd1
    obtain ⟨z, ws, A3, i1, i2, i3, nk2, i4⟩ := f4
    subst i1
    subst i2
    refine ⟨_, g1, hj2 _ ⟨y, .ref z, rfl, .inl ⟨vs, kS j, .inl e3, rfl, f1.symm⟩, ?_⟩⟩
    obtain ⟨kv, r3, hk2⟩ := hk S1 H1 σ t1
    have r3' : kv = kV (kS k) := r3
    subst r3'
    refine hk2 _ ⟨z, _, rfl, .inl ⟨ws, kS k, i3, rfl, by rw [i4.len, List.length_map]; exact Nat.lt_trans hd2 (by decide), rfl⟩, h a d p1 S1 _ σ (t1.mut fun B0 b1 b2 b3 => ?_)⟩
    obtain ⟨y', vs', A5, c1, c2, c3, c4, c5⟩ := b3
    cases c1
    subst c2
    rw [e3] at c3
    cases c3
    obtain ⟨m4, m5⟩ := List.nodup_cons.mp b1
    obtain ⟨iv', Ai', q1, q2, q3, q4, q5⟩ := KvO.upd c5 m5 hd1
    rw [f1] at q1
    cases q1
    obtain ⟨z', ws', A6, k1, k2, k3, k4, k5⟩ := q4
    cases k1
    subst k2
    rw [i3] at k3
    cases k3
    obtain ⟨m6, m7⟩ := List.nodup_cons.mp q3
    have zy : z ≠ y := fun w => m4 (by rw [← w]; exact q2 z List.mem_cons_self)
    refine ⟨y :: A5, b1, fun b hb => ⟨(b2 b hb).1, ?_, .inl hb⟩, fun b hb _ => upd_ne fun w => hb (by rw [w]; exact List.mem_cons_of_mem _ (q2 z List.mem_cons_self)), y, vs, A5, rfl, rfl, by rw [upd_ne (Ne.symm zy)]; exact e3, nk, ?_⟩
    · by_cases w : b = z
      · rw [w, upd_same]; simp
      · rw [upd_ne w]; exact (b2 b hb).2
    · refine q5 _ _ (fun b hb hn => upd_ne fun w => hn (by rw [w]; exact List.mem_cons_self)) ?_
      have r1' : (MP.o (f a)).R S1 (upd H1 z (.dK (putK ws (kS k) v))) [] v := ⟨rfl, r1⟩
      obtain ⟨A7, y1, y2, y3⟩ := KvO.put (F := fun x => MP.o (f x)) (k := k) r1' (k5.fr (Same.refl _) fun b hb => upd_ne (o := .dK (putK ws (kS k) v)) fun w => m6 (by rw [← w]; exact hb)) (by simpa using m7)
      have hA6 : A6 = [] := by
        have : ∀ {xs : List (Str × α)} {A : List Addr} {us : List (Key × V)} {S H : Hp}, KvO (xs.map fun q => (kS q.1, MP.o (f q.2))) S H A us → A = [] := by
          intro xs
          induction xs with
          | nil => intro A us S H h; cases us with
            | nil => exact h
            | cons _ _ => exact h.elim
          | cons a xs ih => intro A us S H h; cases us with
            | nil => exact h.elim
            | cons b us =>
              obtain ⟨_, B1, B2, eb, hb, hc⟩ := h
              rw [eb, hb.1, ih hc]
              rfl
        exact this k5
      subst hA6
      have hA7 : A7 = [] := by
        cases A7 with
        | nil => rfl
        | cons b bs => have := y2 b List.mem_cons_self; simp at this
      subst hA7
      refine ⟨z, _, [], rfl, rfl, upd_same, ?_, ?_⟩
      · rw [putK_eq k4]
        exact dput_nodup k4
      · rw [← putK_eq k4] at y3
        exact y3⟩
end
end OW
namespace OW
open PySem PySem.Spec PyProof.Rows L2 OT NdefX
section
variable {X : Cx} {B : Bs} {Γ : Gm} {O N N' : Om} {Z : Er → Prop} {e a b c o l ix : Expr} {es : List Expr} {p p1 p2 pos pos' apos : Pos} {D : Ends} {rest body els : List Stmt} {α β γ τ : Type} {x m nm fl : Str} {f : α → MP} {G : α → BP} {F : α → OP}
theorem s_append {i : Nat} {u : V} {xs : List α} {w w' : Wp α} {q : α → Prop} (he : NW X B Γ ((u, oL (xs.map F)) :: O) Z e F w') (h : ∀ a, SW X B Γ ((u, oL ((xs ++ [a]).map F)) :: O) rest D (q a)) (hw : (W.bind w' fun a => W.grd (xs.length < 100000) a) = w := by rfl)
    (hG : Γ[i]? = some (some (tV u)) := by rfl) (hN : X.N[i]? = some nm := by rfl)
    (hv : Vis X.env.scope nm := by first | exact Or.inl rfl | exact Or.inr (Or.inl rfl) | exact Or.inr (Or.inr rfl)) (hd : (nm == ("__debug__" : Str)) = false := by decide) (hcd : (nm == ("__classdict__" : Str)) = false := by decide)
    (hbase : attributeBase (.Name nm p1) "append" X.env (eval (.Name nm p1) X.env) = eval (.Name nm p1) X.env := by rfl)
    (hfew : ((backTo pos (starEach [e] X.env)).all (fun x => !x.1) && (backToKw pos (keywordEach [] X.env)).all (fun x => x.1.isSome)
      && decide ([e].length + ([] : List Keyword).length + (if ([] : List Keyword).isEmpty then 0 else 1) < 30)) = true := by rfl)
    (hline : (apos.endLine == pos.line) = true := by rfl) (hs : starEach [e] X.env = (false, eval e X.env) :: starEach [] X.env := by rfl) (hplain : (backTo pos (starEach [] X.env)).any (·.1) = false := by rfl)
    (hsw : swapsWith (.Call (.Attribute (.Name nm p1) "append" apos) [e] [] pos) none pos'.line X.env = pure false := by rfl) : SW X B Γ ((u, oL (xs.map F)) :: O) (.Expr (.Call (.Attribute (.Name nm p1) "append" apos) [e] [] pos) pos' :: rest) D (W.run w Z q) :=
  s_cons fun hq S H σ st => ⟨_, ps_expr (pe_bm PySem.F.plainAttrs_list PySem.F.slot_list_append PySem.F.type_list_append mt_append (pe_var hN hv hd hcd) (pa_cons pe_w pa_nil hs) hbase hfew hline hs hplain) hsw, by
    obtain ⟨v, h1, h2⟩ := st.slot i _ hG
    have h2' : v = u := h2
    subst h2'
    obtain ⟨A, y, vs, A', e1, e2, e3, e4⟩ := st.at_ (x := (v, oL (xs.map F))) List.mem_cons_self
    have e1' : v = .ref y := e1
    subst e1'
    refine ⟨_, h1, .inl ⟨rfl, vs, .inl (.inl e3)⟩, he S H σ st _ _ (by rw [← hw] at hq; exact hq) fun a w S1 H1 p1 s1 t1 _ => ?_⟩
    obtain ⟨A, y', vs, A', e1, e2, e3, e4⟩ := t1.at_ (x := (.ref y, oL (xs.map F))) (List.mem_cons_of_mem _ List.mem_cons_self)
    cases e1
    have t2 := t1.push e3
    refine ⟨y, vs, w, rfl, rfl, e3, ?_, h a p1.2 S1 _ σ ?_⟩
    · rw [e4.length, List.length_map]
      exact Nat.lt_trans p1.1 (by decide)
    · rw [List.map_append]
      exact t2⟩
def OW1 (X : Cx) (B : Bs) (Γ : Gm) (O : Om) (Z : Er → Prop) (oe : Option Expr) (w : Wp (Option Int)) : Prop := ∀ S H σ, Stt B Γ O S H σ → ∀ (P : Option Int → Prop) (Q : Option Int → Hp → Prop), w P Z → (∀ a S' H', P a → Same S S' → Stt B Γ O S' H' σ → Q a H') → ∃ t, PO X oe t ∧ t σ H Q
theorem o_none : OW1 X B Γ O Z none (W.ret none) := fun S H σ st P Q p n => ⟨_, po_none, n none S H p (Same.refl _) st⟩
theorem o_some {w : Wp Int} (h : EW X B Γ O Z e tI w) : OW1 X B Γ O Z (some e) (W.bind w fun i => W.ret (some i)) := fun S H σ st P Q p n => ⟨_, po_some pe_w, h S H σ st _ _ p fun i v S' H' p1 s1 t1 r1 => ⟨i, r1, n _ S' H' p1 s1 t1⟩⟩
abbrev W.cut3 {α β : Type} (wa : Wp α) (wl wu : Wp (Option Int)) (k : α → Option Int → Option Int → Wp β) : Wp β := W.bind wa fun xs => W.bind wl fun lo => W.bind wu fun hi => k xs lo hi
theorem cut_map {g : α → β} (xs : List α) (lo hi : Option Int) : OT.cut (xs.map g) lo hi = (OT.cut xs lo hi).map g := by
  unfold OT.cut
  rw [List.length_map, ← List.map_drop, ← List.map_take]
def rSlQ (K : PySem.W.Frag) : V → Option Int → Option Int → Hp → VK → Prop := fun x lo hi H Q => rSlL K x lo hi H Q ∨ rSlA K x lo hi H Q
theorem r_sl {lo hi : Option Expr} {wa : Wp (List α)} {wl wu : Wp (Option Int)} (h : RW X B Γ O Z N a (rQ X.K f) wa) (hl : OW1 X B Γ O Z lo wl) (hu : OW1 X B Γ O Z hi wu) : RW X B Γ O Z N (.Subscript a (.Slice lo hi none p2) pos) (rQ X.K f) (W.cut3 wa wl wu fun xs lo hi => W.ret (OT.cut xs lo hi)) := ⟨h.1, fun S H σ st P Q p n =>
  ⟨_, pe_slice (sl_list.or sl_tupA) pe_w po_w po_w, h.2 S H σ st _ _ p fun xs u S1 H1 p1 s1 t1 r1 => hl S1 H1 σ t1 _ _ p1 fun i S2 H2 p2 s2 t2 => hu S2 H2 σ t2 _ _ p2 fun j S3 H3 p3 s3 t3 => by
    obtain ⟨q, vs, e0, h2, h3⟩ := r1 _ _ S3 H3 _ (s2.trans s3) t3 h.1
    subst e0
    have m3 := AllR.toM h3
    have hc : AllM ((OT.cut xs i j).map f) S3 (cutV vs i j) := by rw [← cut_map]; exact m3.cut
    rcases h2 with h2 | h2
    · refine .inl ⟨q, vs, rfl, h2, fun l hl => ?_⟩
      have s4 := Stp.put (o := .lst (cutV vs i j)) t3.sub hl
      exact n _ _ _ _ p3 (((s1.trans s2).trans s3).trans s4.s) (t3.step s4) fun Γ5 O5 S5 H5 σ5 s5 t5 _ => ⟨l, _, rfl, .inl (SqL.of (t5.sub _ _ (s5 _ _ upd_same))), AllM.toB (hc.up (s4.s.trans s5))⟩
    · refine .inr ⟨q, vs, rfl, h2, fun hw => n _ _ S3 H3 p3 ((s1.trans s2).trans s3) t3 fun Γ5 O5 S5 H5 σ5 s5 t5 hn => ?_, fun _ l hl => ?_⟩
      · have e1 : OT.cut xs i j = xs := by
          have hl : vs.length = xs.length := by rw [m3.length, List.length_map]
          unfold OT.cut
          rw [← hl, hw.1, hw.2, hl]
          simp
        rw [e1]
        exact r1 _ _ S5 H5 _ ((s2.trans s3).trans s5) t5 hn
      · have s4 := Stp.put (o := .tup (cutV vs i j)) t3.sub hl
        exact n _ _ _ _ p3 (((s1.trans s2).trans s3).trans s4.s) (t3.step s4) fun Γ5 O5 S5 H5 σ5 s5 t5 _ => ⟨l, _, rfl, .inr (SqT.of (t5.sub _ _ (s5 _ _ upd_same))), AllM.toB (hc.up (s4.s.trans s5))⟩⟩⟩
theorem n_cat {wa wb : Wp (List α)} (ha : RW X B Γ O Z N a (rL f) wa) (hb : RW X B Γ O Z N' b (rL f) wb) : NW X B Γ O Z (.BinOp a .Add b pos) (oLs f) (W.bind wa fun xs => W.bind wb fun ys => W.grd (xs.length + ys.length ≤ 100000) (xs ++ ys)) := fun S H σ st P Q p n =>
  ⟨_, pe_op op_cat pe_w pe_w, ha.now S H σ st _ _ p fun xs u S1 H1 p1 s1 t1 _ r1 => hb.now S1 H1 σ t1 _ _ p1 fun ys v S2 H2 p2 s2 t2 r2 _ => by
    obtain ⟨q, vs, rfl, h2, h3⟩ := r1 S2 H2 s2 t2
    obtain ⟨q', ws, rfl, h4, h5⟩ := r2
    have m3 := AllR.toM h3
    have m5 := AllR.toM h5
    refine ⟨q, q', vs, ws, rfl, rfl, h2, h4, by rw [m3.length, m5.length, List.length_map, List.length_map]; exact Nat.le_trans p2.1 (by decide), fun l hl => ?_⟩
    refine n _ _ S2 _ p2.2 (s1.trans s2) (t2.add (P := oLs f (xs ++ ys)) hl ⟨l, _, [], rfl, rfl, upd_same, AllO.ofS ?_⟩) trivial
    rw [List.map_append]
    exact m3.append m5⟩
theorem inS_val {x : Str} {xs : List Str} : inV (.str x) (xs.map V.str) = decide (x ∈ xs) := by
  unfold inV
  rw [Bool.eq_iff_iff, List.any_eq_true, decide_eq_true_eq]
  constructor
  · rintro ⟨z, hz, e⟩
    obtain ⟨w, hw, rfl⟩ := List.mem_map.mp hz
    have : w = x := by simpa [eqV] using e
    exact this ▸ hw
  · intro h
    exact ⟨.str x, List.mem_map.mpr ⟨x, h, rfl⟩, by simp [eqV]⟩
theorem flat_strs {xs : List Str} : (xs.map V.str).all flatV = true := List.all_eq_true.mpr (fun z hz => by obtain ⟨w, _, rfl⟩ := List.mem_map.mp hz; rfl)
section
variable {wa : Wp Str} {wb : Wp (List Str)}
theorem in_go {neg : Bool} {x : Str} {xs : List Str} {S H : Hp} {u v : V} (sm : Same S H) (h1 : (tS x).b.R S H u) (h2 : (rQ X.K tS xs).R S H v) {Q : VK} (q : ∀ S' H', Stp S H S' H' → Q (.bl (if neg then !decide (x ∈ xs) else decide (x ∈ xs))) H') : rIn X.K neg u v H Q := by
  obtain ⟨p, vs, e2, h2, h3⟩ := h2
  have e1 : u = .str x := h1
  subst e1
  have e3 := strs_of (AllR.toM h3)
  subst e3
  refine ⟨p, _, e2, h2, rfl, flat_strs, ?_⟩
  rw [inS_val]
  exact q S H (Stp.refl sm)
theorem t_inS (ha : EW X B Γ O Z a tS wa) (hb : RN X B Γ O Z b (rQ X.K tS) wb) (hmk : behindInMarks .In b = false := by rfl) : TW X B Γ O Z (.Compare a [.In] [b] pos) (W.bind wa fun x => W.bind wb fun xs => W.ret (decide (x ∈ xs))) :=
  t_cmpR _ op_in_seq ha.rb hb hmk fun x y S H u v sm h1 h2 Q q => in_go (neg := false) sm h1 h2 q
theorem t_ninS (ha : EW X B Γ O Z a tS wa) (hb : RN X B Γ O Z b (rQ X.K tS) wb) (hmk : behindInMarks .NotIn b = false := by rfl) : TW X B Γ O Z (.Compare a [.NotIn] [b] pos) (W.bind wa fun x => W.bind wb fun xs => W.ret (!decide (x ∈ xs))) :=
  t_cmpR _ op_notIn_seq ha.rb hb hmk fun x y S H u v sm h1 h2 Q q => in_go (neg := true) sm h1 h2 q
end
section
variable {g : β → MP} {wa : Wp α} {wb : Wp β}
def PlainV (f : α → MP) (k : α → V) : Prop := ∀ a S v, (f a).R S v → v = k a
theorem pl_I : PlainV tI V.int := fun _ _ _ h => h
theorem pl_S : PlainV tS V.str := fun _ _ _ h => h
theorem w_eqV {ka : α → V} {kb : β → V} (k : α → β → Bool) (pa : PlainV f ka) (pb : PlainV g kb) (ha : EW X B Γ O Z a f wa) (hb : EW X B Γ O Z b g wb) (hk : ∀ x y, decide (ka x = kb y) = k x y) (hs : ∀ x y, scal (ka x) (kb y) = true := by intro _ _; rfl) : EW X B Γ O Z (.Compare a [.Eq] [b] pos) OT.tB (W.bind wa fun x => W.bind wb fun y => W.ret (k x y)) :=
  w_cmp2 _ op_eq ha hb (nomark _) fun x y S H u v sm h1 h2 Q q => by
    cases pa _ _ _ h1; cases pb _ _ _ h2
    exact ⟨hs _ _, by rw [hk]; exact q S H (Stp.refl sm)⟩
theorem w_neV {ka : α → V} {kb : β → V} (k : α → β → Bool) (pa : PlainV f ka) (pb : PlainV g kb) (ha : EW X B Γ O Z a f wa) (hb : EW X B Γ O Z b g wb) (hk : ∀ x y, decide (ka x = kb y) = k x y) (hs : ∀ x y, scal (ka x) (kb y) = true := by intro _ _; rfl) : EW X B Γ O Z (.Compare a [.NotEq] [b] pos) OT.tB (W.bind wa fun x => W.bind wb fun y => W.ret (!k x y)) :=
  w_cmp2 _ op_ne ha hb (nomark _) fun x y S H u v sm h1 h2 Q q => by
    cases pa _ _ _ h1; cases pb _ _ _ h2
    exact ⟨hs _ _, by rw [hk]; exact q S H (Stp.refl sm)⟩
theorem t_eqV {ka : α → V} {kb : β → V} (k : α → β → Bool) (pa : PlainV f ka) (pb : PlainV g kb) (ha : EW X B Γ O Z a f wa) (hb : EW X B Γ O Z b g wb) (hk : ∀ x y, decide (ka x = kb y) = k x y) (hs : ∀ x y, scal (ka x) (kb y) = true := by intro _ _; rfl) : TW X B Γ O Z (.Compare a [.Eq] [b] pos) (W.bind wa fun x => W.bind wb fun y => W.ret (k x y)) :=
  t_cmp2 _ op_eq ha hb (nomark _) fun x y S H u v sm h1 h2 Q q => by
    cases pa _ _ _ h1; cases pb _ _ _ h2
    exact ⟨hs _ _, by rw [hk]; exact q S H (Stp.refl sm)⟩
theorem t_neV {ka : α → V} {kb : β → V} (k : α → β → Bool) (pa : PlainV f ka) (pb : PlainV g kb) (ha : EW X B Γ O Z a f wa) (hb : EW X B Γ O Z b g wb) (hk : ∀ x y, decide (ka x = kb y) = k x y) (hs : ∀ x y, scal (ka x) (kb y) = true := by intro _ _; rfl) : TW X B Γ O Z (.Compare a [.NotEq] [b] pos) (W.bind wa fun x => W.bind wb fun y => W.ret (!k x y)) :=
  t_cmp2 _ op_ne ha hb (nomark _) fun x y S H u v sm h1 h2 Q q => by
    cases pa _ _ _ h1; cases pb _ _ _ h2
    exact ⟨hs _ _, by rw [hk]; exact q S H (Stp.refl sm)⟩
theorem dI (x y : Int) : decide (V.int x = V.int y) = decide (x = y) := by
  by_cases h : x = y
  · subst h; simp
  · rw [decide_eq_false h, decide_eq_false fun z => h (by injection z)]
theorem dS (x y : Str) : decide (V.str x = V.str y) = decide (x = y) := by
  by_cases h : x = y
  · subst h; simp
  · rw [decide_eq_false h, decide_eq_false fun z => h (by injection z)]
theorem w_eqI {wa wb : Wp Int} (ha : EW X B Γ O Z a tI wa) (hb : EW X B Γ O Z b tI wb) : EW X B Γ O Z (.Compare a [.Eq] [b] pos) OT.tB (W.bind wa fun x => W.bind wb fun y => W.ret (decide (x = y))) := w_eqV _ pl_I pl_I ha hb dI
theorem t_eqI {wa wb : Wp Int} (ha : EW X B Γ O Z a tI wa) (hb : EW X B Γ O Z b tI wb) : TW X B Γ O Z (.Compare a [.Eq] [b] pos) (W.bind wa fun x => W.bind wb fun y => W.ret (decide (x = y))) := t_eqV _ pl_I pl_I ha hb dI
theorem t_neI {wa wb : Wp Int} (ha : EW X B Γ O Z a tI wa) (hb : EW X B Γ O Z b tI wb) : TW X B Γ O Z (.Compare a [.NotEq] [b] pos) (W.bind wa fun x => W.bind wb fun y => W.ret (!decide (x = y))) := t_neV _ pl_I pl_I ha hb dI
theorem w_eqS {wa wb : Wp Str} (ha : EW X B Γ O Z a tS wa) (hb : EW X B Γ O Z b tS wb) : EW X B Γ O Z (.Compare a [.Eq] [b] pos) OT.tB (W.bind wa fun x => W.bind wb fun y => W.ret (decide (x = y))) := w_eqV _ pl_S pl_S ha hb dS
theorem w_neS {wa wb : Wp Str} (ha : EW X B Γ O Z a tS wa) (hb : EW X B Γ O Z b tS wb) : EW X B Γ O Z (.Compare a [.NotEq] [b] pos) OT.tB (W.bind wa fun x => W.bind wb fun y => W.ret (!decide (x = y))) := w_neV _ pl_S pl_S ha hb dS
theorem t_eqS {wa wb : Wp Str} (ha : EW X B Γ O Z a tS wa) (hb : EW X B Γ O Z b tS wb) : TW X B Γ O Z (.Compare a [.Eq] [b] pos) (W.bind wa fun x => W.bind wb fun y => W.ret (decide (x = y))) := t_eqV _ pl_S pl_S ha hb dS
end
section
variable {n : Nat} [DecidableEq α] {wa wb : Wp α} {ba bb : α → BP}
structure Cmp (X : Cx) (n : Nat) (b b' : α → BP) : Prop where
  eq : ∀ x y, RcM X .Eq n (b x) (b' y) (decide (x = y))
  ne : ∀ x y, RcM X .NotEq n (b x) (b' y) (!decide (x = y))
theorem rcN_go {op : CmpOp} {k : α → α → Bool} (h : ∀ x y, RcM X op n (ba x) (bb y) (k x y)) : ∀ x y S H u v, Same S H → (ba x).R S H u → (bb y).R S H v → ∀ (Q : VK), (∀ S' H', Stp S H S' H' → Q (.bl (k x y)) H') → rRcN X op n u v H Q := fun x y S H u v sm h1 h2 Q q => ⟨_, h x y S H u v sm h1 h2, fun H' e => q S H' (Stp.ext sm e)⟩
theorem w_eqM (h : Cmp X n ba bb) (hr : Room n X.A) (ha : RW X B Γ O Z N a ba wa) (hb : RN X B Γ O Z b bb wb) : EW X B Γ O Z (.Compare a [.Eq] [b] pos) OT.tB (W.bind wa fun x => W.bind wb fun y => W.ret (decide (x = y))) := w_cmpR _ (op_eqN hr) ha hb (nomark _) (rcN_go h.eq)
theorem t_neM (h : Cmp X n ba bb) (hr : Room n X.A) (ha : RW X B Γ O Z N a ba wa) (hb : RN X B Γ O Z b bb wb) : TW X B Γ O Z (.Compare a [.NotEq] [b] pos) (W.bind wa fun x => W.bind wb fun y => W.ret (!decide (x = y))) := t_cmpR _ (op_neN hr) ha hb (nomark _) (rcN_go h.ne)
theorem rL_bL {f : α → MP} {xs : List α} {S H : Hp} {v : V} (h : (rL f xs).R S H v) : (bL X.K (xs.map f)).R S H v := let ⟨a, vs, h1, h2, h3⟩ := h; ⟨a, vs, h1, h2, AllR.toM h3⟩
theorem cmp_L (h : En X n f) : Cmp X (n + 1) (rL f) (rL f) := ⟨fun xs ys S H x y sm h1 h2 => Enc.lst h.eq xs ys S H x y sm (rL_bL h1) (rL_bL h2), fun xs ys S H x y sm h1 h2 => Enc.lstNe h.eq xs ys S H x y sm (rL_bL h1) (rL_bL h2)⟩
end
end
end OW
namespace OW
open PySem PySem.Spec PyProof.Rows L2 OT NdefX
section
variable {X : Cx} {B : Bs} {Γ : Gm} {O N N' : Om} {Z : Er → Prop} {e a b c o l ix : Expr} {es : List Expr} {p p1 p2 pos pos' apos : Pos} {D : Ends} {rest body els : List Stmt} {α β γ τ : Type} {x m nm fl : Str} {f : α → MP} {G : α → BP} {F : α → OP} {Wx : WX} {C : Addr} {k : Nat} {ps : List Str}
theorem s_raise1 {w w' : Wp α} {ka : α → V} (er : α → Er) (G : GE X.prog X.w X.K X.mg X.base x (He.ga X.K x) k ps (spE1 (He.ga X.K x) fl)) (hr : Room (k + 1) X.A) (hd : Hd X B Γ O Z Wx) (he : EW X B Γ O Z e f w') (pf : PlainV f ka) (hi : ∀ y, (er y).info X.K = (x, [(fl, f y)]) := by intro _; rfl) (hw : w' = w := by rfl)
    (hg : Gl X x := by rfl) (hc : X.calm = true := by rfl) (hdb : (x == ("__debug__" : Str)) = false := by decide) (hs : starEach [e] X.env = (false, eval e X.env) :: starEach [] X.env := by rfl) (hpl : (backTo pos (starEach [] X.env)).any (·.1) = false := by rfl) :
    SW X B Γ O (.Raise (some (.Call (.Name x p) [e] [] pos)) none pos' :: rest) D (W.run w Z fun y => fmtOk (ka y) ∧ Z (er y)) := by
  obtain ⟨g, fd, G, T, iC, tI, hm, hb⟩ := G
  refine s_cons fun hq S H σ st => ⟨_, ps_raise hc hd.tk (pmk_oex T iC tI G hr hb .nil passL hg hm (pa_cons pe_w pa_nil hs) hdb hs hpl), he S H σ st _ _ (hw ▸ hq) fun y v S1 H1 p1 s1 t1 r1 => ?_⟩
  have ev := pf _ _ _ r1
  refine ⟨(by show 1 ≤ 1000; decide), fun a na => ⟨a, H1, v, rfl, rfl, na, ev ▸ p1.1, fun d nd ne => ⟨rfl, d, [(fl, v)], upd_same, ?_, nd, ?_⟩⟩⟩
  · rw [upd_ne ne, upd_same]
  · have e2 : upd (del (upd (upd (upd H1 a (exo a (He.ga X.K x) none)) d (exd d [(fl, v)])) a (exo a (He.ga X.K x) (some d))) a) d (.xd [(fl, v)]) = upd H1 d (.xd [(fl, v)]) := by
      funext b
      by_cases h1 : b = d
      · rw [h1, upd_same, upd_same]
      · rw [upd_ne h1, upd_ne h1]
        by_cases h2 : b = a
        · rw [h2, del_same, na]
        · rw [del_ne h2, upd_ne h2, upd_ne h1, upd_ne h2]
    rw [e2]
    have s2 := Stp.put (o := .xd [(fl, v)]) t1.sub nd
    refine hd.go (er y) p1.2 _ _ (upd S1 d (.xd [(fl, v)])) _ σ (t1.step s2) ?_
    unfold xEr
    rw [hi y]
    exact ⟨rfl, .inr ⟨d, _, rfl, upd_same, rfl, (f y).up s2.s r1, trivial⟩⟩
theorem s_raiseG {Dt : Type} {As : Dt → List BP} {ok : Dt → Prop} {fs : Dt → List (Str × MP)} {F : τ → List AA} {w w' : Wp τ} (er : τ → Er) (G : GE X.prog X.w X.K X.mg X.base x (He.ga X.K x) k ps (spEx (He.ga X.K x) As ok fs)) (hr : Room (k + 1) X.A) (hd : Hd X B Γ O Z Wx) (d : τ → Dt) (ha : AW X B Γ O Z N (e :: es) F w') (hA : ∀ t, F t = (As (d t)).map AA.b := by intro _; rfl) (hi : ∀ t, (er t).info X.K = (x, fs (d t)) := by intro _; rfl) (hw : w' = w := by rfl)
    (hl : ∀ t, (As (d t)).length ≤ 1000 := by intro _; exact Nat.le_of_ble_eq_true rfl) (hg : Gl X x := by rfl) (hc : X.calm = true := by rfl) (hdb : (x == ("__debug__" : Str)) = false := by decide) (hs : starEach (e :: es) X.env = (false, eval e X.env) :: starEach es X.env := by rfl) (hpl : (backTo pos (starEach es X.env)).any (·.1) = false := by rfl) :
    SW X B Γ O (.Raise (some (.Call (.Name x p) (e :: es) [] pos)) none pos' :: rest) D (W.run w Z fun t => ok (d t) ∧ Z (er t)) := by
  obtain ⟨g, fd, G, T, iC, tI, hm, hb⟩ := G
  refine s_cons fun hq S H σ st => ⟨_, ps_raise hc hd.tk (pmk_oex T iC tI G hr hb .nil passL hg hm pa_w hdb hs hpl), ha.2 S H σ st _ _ (hw ▸ hq) fun t vs S1 H1 p1 s1 t1 r1 => ?_⟩
  have r2 := r1 _ _ S1 H1 _ (Same.refl _) t1 ha.1
  rw [hA t] at r2
  have r3 : AllR (As (d t)) S1 H1 vs := by
    have : ∀ {Rs : List BP} {vs : List V}, AllA (Rs.map AA.b) S1 H1 vs → AllR Rs S1 H1 vs := by
      intro Rs
      induction Rs with
      | nil => intro vs h; cases vs with
        | nil => exact trivial
        | cons _ _ => exact h.elim
      | cons R Rs ih => intro vs h; cases vs with
        | nil => exact h.elim
        | cons v vs => exact ⟨h.1, ih h.2⟩
    exact this r2
  refine ⟨by rw [r3.length]; exact hl t, fun a na => ⟨d t, a, H1, vs, S1, p1.1, by rw [List.append_nil], rfl, na, t1.sub, r3, fun x us S' H' sp n1 ne g1 g2 g3 g4 g5 => ⟨rfl, x, us, g3, g4, n1, ?_⟩⟩⟩
  have e1 : Same S' (upd S' x (.xd us)) := fun b v z => by rw [upd_ne (ne_of_none z g1)]; exact z
  have s2 : Stp S1 H1 (upd S' x (.xd us)) (upd (del H' a) x (.xd us)) := by
    refine ⟨sp.s.trans e1, fun b v z => ?_, fun b v z => ?_, fun b z1 z2 => ?_⟩
    · by_cases y : b = x
      · subst y; rw [upd_same] at z ⊢; exact z
      · rw [upd_ne y] at z ⊢
        rw [del_ne (fun y => by subst y; rw [g2] at z; cases z)]
        exact sp.i b v z
    · rw [upd_ne (ne_of_none z n1), del_ne (ne_of_none z na)]
      exact sp.h b v z
    · rw [upd_ne (fun y => by subst y; exact z2 n1)]
      exact sp.fr b z1 z2
  refine hd.go (er t) p1.2 _ _ _ _ σ (t1.step s2) ?_
  unfold xEr
  rw [hi t]
  exact ⟨rfl, .inr ⟨x, us, rfl, upd_same, g5.up e1⟩⟩
end
section
variable {P : Program} {w : World} {K : PySem.W.Frag} {mg : Str → Option Value} {base : Heap} {k : Nat} {ps : List Str}
theorem def_ok {D ρ : Type} {As : D → List AP} {wp : D → Wp ρ} {res : ρ → RP} {Ms : ρ → List OP} {N : List Str} {x q : Str} {s : Stmt} {f : Addr} {fd : FuncData} (F : FnS K x q s f fd) (Sc : FnScope N ps (defScope s)) (Gs : D → List V → Hp → Gm) (Os : D → List V → Om) (Us : D → List V → ρ → Om)
    (hb : ∀ (cdv : Value) (A : Around) (outer : List Env) (s' : Shared) (H0 L S : Hp) (Q : VK) (E : XK) (d : D) (vs : List V) (Pp : ρ → Prop) (Z : Er → Prop), vs.length = ps.length → N.Nodup → Room k (A.deeper (envOfC q (defScope s) s'.heap.objs.size f cdv)) →
      Fin ⟨S, L, .yes⟩ res (Us d vs) Pp Q →
      (∀ Γ O, (Os d vs).Sublist O → Hd (cxOf (L2.CX P w) P w K mg base N q (defScope s) f cdv A outer s' H0 E) ⟨S, L, .yes⟩ Γ O Z (fun c d _ H => E c d H)) →
      SW (cxOf (L2.CX P w) P w K mg base N q (defScope s) f cdv A outer s' H0 E) ⟨S, L, .yes⟩ (Gs d vs L) (Os d vs) (defBody s) { nx := fun _ H' => Q .non H', rt := Q } (wp d Pp Z))
    (hl : ∀ d, (As d).length = ps.length := by intro _; rfl) (hG : ∀ d vs L, vs.length = ps.length → gm1 (As d) vs L ++ List.replicate (N.length - (As d).length) none = Gs d vs L) (hO : ∀ d vs, vs.length = ps.length → mutO (As d) vs (ownP (As d)) = Os d vs) (hU : ∀ d vs r, vs.length = ps.length → mutO (As d) vs (Ms r) = Us d vs r) : FnOk P w K mg base (L2.CX P w) (k + 1) f fd ps (spW K As wp res Ms) :=
  fun_ok F Sc hl fun cdv A outer s' H0 L S Q E d vs Pp Z hv hr fin hd => by
    rw [hG d vs L hv, hO d vs hv]
    rw [hO d vs hv] at hd
    exact hb cdv A outer s' H0 L S Q E d vs Pp Z hv Sc.nd hr ⟨fun r v S' H' p h => fin.go r v S' H' p (by show (res r).post _ (mutO (As d) vs (Ms r)) _ _ _; rw [hU d vs r hv]; exact h)⟩ hd
end
section
variable {X : Cx} {B : Bs} {Γ : Gm} {O : Om} {Z : Er → Prop} {e : Expr} {pos : Pos} {D : Ends} {rest : List Stmt} {α ρ : Type} {res : ρ → RP} {Os : ρ → Om} {P : ρ → Prop} {Q : VK}
theorem f_ret {f : ρ → MP} {w w' : Wp ρ} (F : Fin B res Os P Q) (he : EW X B Γ O Z e f w') (hw : w' = w := by rfl) (hO : ∀ r, Os r = [] := by intro _; rfl) (hf : ∀ r, res r = .v (f r) := by intro _; rfl) (hD : D.rt = Q := by rfl) : SW X B Γ O (.Return (some e) pos :: rest) D (W.run w Z P) :=
  s_ret he (fun a v S H σ p t r => by rw [hD]; refine F.go a v S H p ?_; rw [hf a, hO a]; exact ⟨(t.drop (List.nil_sublist _)).bare, r⟩) hw
theorem f_retN {f : ρ → OP} {w w' : Wp ρ} (F : Fin B res Os P Q) (he : NW X B Γ O Z e f w') (hw : w' = w := by rfl) (hO : ∀ r, Os r = [] := by intro _; rfl) (hf : ∀ r, res r = .o (f r) := by intro _; rfl) (hD : D.rt = Q := by rfl) : SW X B Γ O (.Return (some e) pos :: rest) D (W.run w Z P) :=
  s_retN he (fun a v S H σ p t => by rw [hD]; refine F.go a v S H p ?_; rw [hf a, hO a]; exact (t.drop ((List.nil_sublist _).cons_cons _)).bare) hw
theorem f_retO {f : ρ → OP} {i k : Nat} {u : V} {r : ρ} {x : Str} {p : Pos} (F : Fin B res Os P Q) (hl : O[k]? = some (u, f r) := by rfl) (hG : Γ[i]? = some (some (tV u)) := by rfl) (hN : X.N[i]? = some x := by rfl) (hv : Vis X.env.scope x := by first | exact Or.inl rfl | exact Or.inr (Or.inl rfl) | exact Or.inr (Or.inr rfl))
    (hd : (x == ("__debug__" : Str)) = false := by decide) (hcd : (x == ("__classdict__" : Str)) = false := by decide) (hO : ∀ r, Os r = [] := by intro _; rfl) (hf : ∀ r, res r = .o (f r) := by intro _; rfl) (hD : D.rt = Q := by rfl) : SW X B Γ O (.Return (some (.Name x p)) pos :: rest) D (P r) :=
  s_cons fun q S H σ st => by
    obtain ⟨u', h1, h2⟩ := st.slot i _ hG
    have h2' : u' = u := h2
    subst h2'
    refine ⟨_, ps_ret (pe_var hN hv hd hcd), u', h1, ?_⟩
    show D.rt u' H
    rw [hD]
    refine F.go r u' S H q ?_
    rw [hf r, hO r]
    exact ((st.perm (front_perm k hl)).drop ((List.nil_sublist _).cons_cons _)).bare
theorem f_end {r : ρ} {f : ρ → MP} (F : Fin B res Os P Q) (hO : ∀ r, Os r = [] := by intro _; rfl) (hf : res r = .v tN := by rfl) (hD : D.nx = fun _ H' => Q .non H' := by rfl) : SW X B Γ O [] D (P r) := fun q S H σ st => ⟨_, pss_nil, by
  show D.nx σ H
  rw [hD]
  refine F.go r .non S H q ?_
  rw [hf, hO r]
  exact ⟨(st.drop (List.nil_sublist _)).bare, rfl⟩⟩
theorem f_init {r : ρ} {u : V} {Pi : OP} (F : Fin B res Os P Q) (hO : Os r = [(u, Pi)] := by rfl) (hf : res r = .v tN := by rfl) (hD : D.nx = fun _ H' => Q .non H' := by rfl) : SW X B Γ ((u, Pi) :: O) [] D (P r) := fun q S H σ st => ⟨_, pss_nil, by
  show D.nx σ H
  rw [hD]
  refine F.go r .non S H q ?_
  rw [hf, hO]
  exact ⟨(st.drop ((List.nil_sublist _).cons_cons _)).bare, rfl⟩⟩
end
end OW
namespace OW
open PySem PySem.Spec PyProof.Rows L2 OT NdefX
abbrev tP2 {α β : Type} (K : PySem.W.Frag) (f : α → MP) (g : β → MP) (q : α × β) : MP := tT K [f q.1, g q.2]
abbrev tP3 {α β γ : Type} (K : PySem.W.Frag) (f : α → MP) (g : β → MP) (h : γ → MP) (q : α × β × γ) : MP := tT K [f q.1, g q.2.1, h q.2.2]
abbrev tP4 {α β γ δ : Type} (K : PySem.W.Frag) (f : α → MP) (g : β → MP) (h : γ → MP) (i : δ → MP) (q : α × β × γ × δ) : MP := tT K [f q.1, g q.2.1, h q.2.2.1, i q.2.2.2]
section
variable {X : Cx} {B : Bs} {Γ : Gm} {O N N' : Om} {Z : Er → Prop} {e a b c o : Expr} {es : List Expr} {p p2 pos pos' apos : Pos} {Ds : Ends} {rest body els : List Stmt} {α β γ : Type} {x m : Str} {Wx : WX}
section
variable {τ D ρ : Type} {As : D → List AP} {wp : D → Wp ρ} {res : ρ → RP} {Ms : ρ → List OP} {F : τ → List AA} {M R : Om} {w : Wp τ} {k : Nat} {ps : List Str} {C : Addr} {bo : α → BP} {wo : Wp α}
theorem w_fn {f : ρ → MP} (G : GF X.prog X.w X.K X.mg X.base x k ps (spW X.K As wp res Ms)) (hr : Room k X.A) (hd : Hd X B Γ O Z Wx) (d : τ → D) (ha : AW X B Γ O Z N (e :: es) F w) (hA : ∀ t, ArgM (F t) (As (d t)) []) (hf : ∀ r, res r = .v (f r) := by intro _; rfl)
    (hg : Gl X x := by rfl) (hdb : (x == ("__debug__" : Str)) = false := by decide) (he : starEach (e :: es) X.env = (false, eval e X.env) :: starEach es X.env := by rfl) (hpl : (backTo pos (starEach es X.env)).any (·.1) = false := by rfl) : EW X B Γ O Z (.Call (.Name x p) (e :: es) [] pos) f (W.bind w fun t => wp (d t)) :=
  c_call (M := []) (R := O) G hr hd d ha hA (.refl _) ha.1 hf hg hdb he hpl
theorem n_fn {f : ρ → OP} (G : GF X.prog X.w X.K X.mg X.base x k ps (spW X.K As wp res Ms)) (hr : Room k X.A) (hd : Hd X B Γ O Z Wx) (d : τ → D) (ha : AW X B Γ O Z N (e :: es) F w) (hA : ∀ t, ArgM (F t) (As (d t)) []) (hf : ∀ r, res r = .o (f r) := by intro _; rfl)
    (hg : Gl X x := by rfl) (hdb : (x == ("__debug__" : Str)) = false := by decide) (he : starEach (e :: es) X.env = (false, eval e X.env) :: starEach es X.env := by rfl) (hpl : (backTo pos (starEach es X.env)).any (·.1) = false := by rfl) : NW X B Γ O Z (.Call (.Name x p) (e :: es) [] pos) f (W.bind w fun t => wp (d t)) :=
  c_callN (M := []) (R := O) G hr hd d ha hA (.refl _) ha.1 hf hg hdb he hpl
end
theorem s_setNV {D : Ends} {i : Nat} {x : Str} {f : α → OP} {v : α} {p : α → Prop} (he : NW X B Γ O Z e f (W.ret v)) (h : ∀ u a, a = v → SW X B (Γ.set i (some (tV u))) ((u, f a) :: O) rest D (p a)) (hi : X.N[i]? = some x := by rfl) (hl : i < Γ.length := by exact Nat.le_of_ble_eq_true rfl) (hN : X.N.Nodup := by assumption)
    (hx : Loc X.env.scope x := by first | exact Or.inl rfl | exact Or.inr rfl) (hs : swapsWith e (some (.Name x pos')) pos.line X.env = pure false := by rfl) (hf : X.fn x = true ∨ X.env.scope.names.lookup x = some .local := by first | exact .inl rfl | exact .inr rfl | assumption) :
    SW X B Γ O (.Assign [.Name x pos'] e pos :: rest) D (W.lt v p) :=
  s_cons fun q S H σ st => ⟨_, ps_set hN hi hx pe_w hs hf, he S H σ st (fun a => a = v) _ rfl fun a u S1 H1 p1 s1 t1 r1 => h u a p1 (by rw [p1]; exact q) S1 H1 _ (t1.set rfl hl)⟩
end
end OW
namespace OW
open PySem PySem.Spec PyProof.Rows L2 OT NdefX
section
variable {X : Cx} {B : Bs} {Γ : Gm} {O N N' : Om} {Z : Er → Prop} {e a b c o l : Expr} {es : List Expr} {p p2 pos pos' apos : Pos} {Ds : Ends} {rest body els : List Stmt} {α β γ : Type} {x m : Str} {Wx : WX} {f : α → MP}
theorem NW.imp {F : α → OP} {g : β → OP} {w : Wp α} (h : NW X B Γ O Z e F w) (k : α → β) (i : ∀ a, F a = g (k a)) : NW X B Γ O Z e g (W.bind w fun a => W.ret (k a)) := fun S H σ st P Q p n => h S H σ st _ Q p fun a v S' H' p1 s1 t1 r1 => n (k a) v S' H' p1 s1 (by have t2 : Stt B Γ ((v, F a) :: O) S' H' σ := t1; rw [i a] at t2; exact t2) trivial
theorem n_nil : NW X B Γ O Z (.List [] pos) (oLs f) (W.ret []) := NW.imp (n_lst (F := fun _ : Unit => []) a_nil) (g := oLs f) (fun _ => []) fun _ => rfl
theorem i_lentQ {tg : Expr} (i : Nat) {xs : List α} (hG : Γ[i]? = some (some ((rQ X.K f xs).at_ B.H)) := by rfl) (hN : X.N[i]? = some x := by rfl) (hv : Vis X.env.scope x := by first | exact Or.inl rfl | exact Or.inr (Or.inl rfl) | exact Or.inr (Or.inr rfl))
    (hd : (x == ("__debug__" : Str)) = false := by decide) (hcd : (x == ("__classdict__" : Str)) = false := by decide) : IW X B Γ O Z [] tg (.Name x pos) f (W.ret xs) := ⟨(fun _ h => by cases h), fun S H σ st P Rk p k => by
  obtain ⟨v, h1, q, vs, e0, h2, h3⟩ := st.slot i _ hG
  subst e0
  have m3 := AllR.toM h3
  rcases h2 with h2 | h2
  · refine ⟨_, pi_list (pe_var hN hv hd hcd), _, h1, q, rfl, ⟨vs, st.st.h.seq h2⟩, k xs (Itl X.K q) ⟨fun S => AllM (xs.map f) S vs, fun e h => h.up e⟩ S H p (Same.refl _) st m3 fun Γ2 O2 S2 H2 σ2 t _ => ?_⟩
    have g1 := t.st.h.seq h2
    have g2 : AllM (xs.map f) S2 vs := t.gh.2
    refine ⟨⟨vs, g1, by rw [g2.length, List.length_map]; exact Nat.le_refl _⟩, fun i hi => ?_⟩
    obtain ⟨y, h6, h7⟩ := g2.get (i := i) (R := f xs[i]) (by simp [hi])
    refine ⟨⟨vs, y, g1, h6⟩, fun y' H3 ⟨e, hy⟩ => ?_⟩
    subst e
    have := hy vs g1
    rw [h6] at this
    cases this
    exact ⟨S2, Stp.refl t.sub, h7⟩
  · refine ⟨_, pi_tup (pe_var hN hv hd hcd), _, h1, q, rfl, ⟨vs, Same.tup st.st.h h2⟩, k xs (Itt X.K q) ⟨fun S => AllM (xs.map f) S vs, fun e h => h.up e⟩ S H p (Same.refl _) st m3 fun Γ2 O2 S2 H2 σ2 t _ => ?_⟩
    have g1 := Same.tup t.st.h h2
    have g2 : AllM (xs.map f) S2 vs := t.gh.2
    refine ⟨⟨vs, g1, by rw [g2.length, List.length_map]; exact Nat.le_refl _⟩, fun i hi => ?_⟩
    obtain ⟨y, h6, h7⟩ := g2.get (i := i) (R := f xs[i]) (by simp [hi])
    refine ⟨⟨vs, y, g1, h6⟩, fun y' H3 ⟨e, hy⟩ => ?_⟩
    subst e
    have := hy vs g1
    rw [h6] at this
    cases this
    exact ⟨S2, Stp.refl t.sub, h7⟩⟩
end
end OW
namespace OW
open PySem PySem.Spec PyProof.Rows L2 OT NdefX
section
variable {X : Cx} {B : Bs} {Γ : Gm} {O N N' : Om} {Z : Er → Prop} {e a b c o l ix : Expr} {es : List Expr} {p p1 p2 pos pos' apos : Pos} {D : Ends} {rest body els : List Stmt} {α β γ τ : Type} {x m nm fl : Str} {f : α → MP} {G : α → BP} {F : α → OP}
theorem comp_plain {c : α → Bool} {g : α → β} {E : Er → Prop} : ∀ {xs : List α} {Q : List β → Prop}, Q ((xs.filter c).map g) → W.comp (fun x => W.ret (c x)) (fun x => W.ret (g x)) xs Q E
  | [], Q, h => h
  | x :: xs, Q, h => by
    show W.ite (c x) (W.comp _ _ xs (fun ys => Q (g x :: ys)) E) (W.comp _ _ xs Q E)
    cases e : c x with
    | true =>
      refine ⟨fun _ => comp_plain (Q := fun ys => Q (g x :: ys)) ?_, (fun z => by cases z)⟩
      rw [List.filter_cons, e] at h
      exact h
    | false =>
      refine ⟨(fun z => by cases z), fun _ => comp_plain ?_⟩
      rw [List.filter_cons, e] at h
      exact h
abbrev W.compP {α β : Type} (c : α → Bool) (g : α → β) (xs : List α) : Wp (List β) := W.grd (xs.length ≤ 100000) ((xs.filter c).map g)
theorem hk_plain {c : α → Bool} {g : α → β} : ∀ xs P, W.compP c g xs P Z → W.compG (fun x => W.ret (c x)) (fun x => W.ret (g x)) xs P Z := fun xs P h => ⟨h.1, comp_plain h.2⟩
theorem hk_id {wc : α → Wp Bool} {wg : α → Wp β} : ∀ xs P, W.compG wc wg xs P Z → W.compG wc wg xs P Z := fun _ _ h => h
theorem chain_go {wa wb : Wp Int} {k : Int} (ha : EW X B Γ O Z a tI wa) (hb : EW X B Γ O Z b tI wb) (hc : EW X B Γ O Z c tI (W.ret k)) {S H : Hp} {σ : L2.St} (st : Stt B Γ O S H σ) {P : Bool → Prop} {Q : VK} (p : W.bind wa (fun x => W.bind wb fun y => W.ret (decide (x ≤ y) && decide (y ≤ k))) P Z) (n : ∀ b S' H', P b → Same S S' → Stt B Γ O S' H' σ → Q (.bl b) H') :
    tChain (rI0 fun i j => .bl (decide (i ≤ j))) (rI0 fun i j => .bl (decide (i ≤ j))) (wE X a) (wE X b) (wE X c) σ H Q :=
  ha S H σ st _ _ p fun i u S1 H1 p1 s1 t1 r1 => hb S1 H1 σ t1 _ _ p1 fun j v S2 H2 p2 s2 t2 r2 => by
    cases r1
    cases r2
    refine ⟨i, j, rfl, rfl, _, rfl, ?_⟩
    by_cases h : i ≤ j
    · rw [if_pos (decide_eq_true h)]
      refine hc S2 H2 σ t2 (fun z => z = k) _ rfl fun z w S3 H3 p3 s3 t3 r3 => ?_
      cases r3
      subst p3
      refine ⟨j, z, rfl, rfl, ?_⟩
      have := n _ S3 H3 p2 ((s1.trans s2).trans s3) t3
      rw [decide_eq_true h, Bool.true_and] at this
      exact this
    · rw [if_neg (by simpa using h)]
      have := n _ S2 H2 p2 (s1.trans s2) t2
      rw [decide_eq_false h, Bool.false_and] at this
      exact this
theorem t_chain {wa wb : Wp Int} {k : Int} (ha : EW X B Γ O Z a tI wa) (hb : EW X B Γ O Z b tI wb) (hc : EW X B Γ O Z c tI (W.ret k)) (hm : lastMarks [.LtE, .LtE] [b, c] = false := by with_unfolding_all rfl) : TW X B Γ O Z (.Compare a [.LtE, .LtE] [b, c] pos) (W.bind wa fun x => W.bind wb fun y => W.ret (decide (x ≤ y) && decide (y ≤ k))) := fun S H σ st P Q p n =>
  ⟨_, pt_chain op_le op_le pe_w pe_w pe_w hm, chain_go ha hb hc st (Q := fun v H' => ∃ b, v = .bl b ∧ Q b H') p fun b S' H' p s t => ⟨_, rfl, n b S' H' p s t⟩⟩
theorem w_lenS {w : Wp Str} (hm : X.mg "len" = none) (ha : EW X B Γ O Z e tS w) (hg : Gl X "len" := by rfl) (he : starEach [e] X.env = (false, eval e X.env) :: starEach [] X.env := by rfl) : EW X B Γ O Z (.Call (.Name "len" p) [e] [] pos) tI (W.bind w fun z => W.grd (z.length ≤ 100000) (z.length : Int)) :=
  w_callB1 ha.rb.rn call_len_str (by decide +kernel) (fun z S H v sm h P Q p n => by cases h; exact ⟨z, rfl, Nat.le_trans p.1 (by decide), n _ _ S H p.2 (Stp.refl sm) rfl⟩) hm hg (by decide) (by decide) he
abbrev W.getS (z : Str) (i : Int) : Wp Str := fun Q _ => z.length ≤ 100000 ∧ ∃ c, atI z.cps.toList i = some c ∧ Q ⟨#[c]⟩
theorem w_ixS {wa : Wp Str} {wb : Wp Int} (ha : EW X B Γ O Z a tS wa) (hb : EW X B Γ O Z b tI wb) (hs : PlainIx b := by exact fun _ _ => rfl) : EW X B Γ O Z (.Subscript a b pos) tS (W.bind wa fun z => W.bind wb fun i => W.getS z i) := fun S H σ st P Q p n =>
  ⟨_, pe_ix ix_str pe_w pe_w hs, ha S H σ st _ _ p fun z u S1 H1 p1 s1 t1 r1 => hb S1 H1 σ t1 _ _ p1 fun i v S2 H2 p2 s2 t2 r2 => by
    cases r1
    cases r2
    obtain ⟨hz, c, hc, pc⟩ := p2
    exact ⟨z, i, c, rfl, rfl, Nat.le_trans hz (by decide), hc, n _ _ S2 H2 pc (s1.trans s2) t2 rfl⟩⟩
def sgin (y z : Str) : Bool := decide (y.cps.toList.headD 0 ∈ z.cps.toList)
theorem one_sign {y : Str} (h : y.length = 1) : y = ⟨#[y.cps.toList.headD 0]⟩ := by
  obtain ⟨⟨l⟩⟩ := y
  have h' : l.length = 1 := h
  match l, h' with
  | [c], _ => rfl
abbrev W.sg (y z : Str) (neg : Bool) : Wp Bool := W.grd (y.length = 1) (neg.xor (sgin y z))
section
variable {wa wb : Wp Str}
theorem w_inSign (ha : EW X B Γ O Z a tS wa) (hb : EW X B Γ O Z b tS wb) (hmk : behindInMarks .In b = false := by rfl) : EW X B Γ O Z (.Compare a [.In] [b] pos) OT.tB (W.bind wa fun y => W.bind wb fun z => W.grd (y.length = 1) (sgin y z)) := fun S H σ st P Q p n =>
  ⟨_, pe_cmpR op_in_sign pe_w pe_w hmk, ha S H σ st _ _ p fun y u S1 H1 p1 s1 t1 r1 => hb S1 H1 σ t1 _ _ p1 fun z v S2 H2 p2 s2 t2 r2 => ⟨_, z, (show u = .str y from r1).trans (congrArg V.str (one_sign p2.1)), r2, n _ _ S2 H2 p2.2 (s1.trans s2) t2 rfl⟩⟩
theorem t_ninSign (ha : EW X B Γ O Z a tS wa) (hb : EW X B Γ O Z b tS wb) (hmk : behindInMarks .NotIn b = false := by rfl) : TW X B Γ O Z (.Compare a [.NotIn] [b] pos) (W.bind wa fun y => W.bind wb fun z => W.grd (y.length = 1) (!sgin y z)) := fun S H σ st P Q p n =>
  ⟨_, pt_cmpR op_notIn_sign pe_w pe_w hmk, ha S H σ st _ _ p fun y u S1 H1 p1 s1 t1 r1 => hb S1 H1 σ t1 _ _ p1 fun z v S2 H2 p2 s2 t2 r2 => ⟨_, z, (show u = .str y from r1).trans (congrArg V.str (one_sign p2.1)), r2, _, rfl, n _ S2 H2 p2.2 (s1.trans s2) t2⟩⟩
end
end
def sle (a b : Str) : Bool := !ltCps b.cps.toList a.cps.toList
theorem ltCps_asym : ∀ {a b : List Nat}, ltCps a b = true → ltCps b a = false
  | [], [], h => by simp [ltCps] at h
  | [], _ :: _, _ => rfl
  | _ :: _, [], h => by simp [ltCps] at h
  | x :: a, y :: b, h => by
    simp only [ltCps, Bool.or_eq_true, decide_eq_true_eq, Bool.and_eq_true, beq_iff_eq] at h
    simp only [ltCps, Bool.or_eq_false_iff, decide_eq_false_iff_not, Bool.and_eq_false_iff]
    rcases h with h | ⟨h1, h2⟩
    · exact ⟨by omega, .inl (by simp; omega)⟩
    · exact ⟨by omega, .inr (ltCps_asym h2)⟩
theorem ltCps_tri : ∀ {a b : List Nat}, ltCps a b = false → ltCps b a = false → a = b
  | [], [], _, _ => rfl
  | [], _ :: _, h, _ => by simp [ltCps] at h
  | _ :: _, [], _, h => by simp [ltCps] at h
  | x :: a, y :: b, h, h' => by
    simp only [ltCps, Bool.or_eq_false_iff, decide_eq_false_iff_not, Bool.and_eq_false_iff] at h h'
    have e : x = y := by omega
    subst e
    have h1 := h.2.resolve_left (by simp)
    have h2 := h'.2.resolve_left (by simp)
    rw [ltCps_tri h1 h2]
theorem ltCps_trans : ∀ {a b c : List Nat}, ltCps a b = true → ltCps b c = true → ltCps a c = true
  | [], [], _, h, _ => by simp [ltCps] at h
  | [], _ :: _, [], _, h => by simp [ltCps] at h
  | [], _ :: _, _ :: _, _, _ => rfl
  | _ :: _, [], _, h, _ => by simp [ltCps] at h
  | _ :: _, _ :: _, [], _, h => by simp [ltCps] at h
  | x :: a, y :: b, z :: c, h, h' => by
    simp only [ltCps, Bool.or_eq_true, decide_eq_true_eq, Bool.and_eq_true, beq_iff_eq] at h h' ⊢
    rcases h with h | ⟨h1, h2⟩
    · rcases h' with h' | ⟨h3, h4⟩
      · exact .inl (by omega)
      · exact .inl (by omega)
    · rcases h' with h' | ⟨h3, h4⟩
      · exact .inl (by omega)
      · exact .inr ⟨by omega, ltCps_trans h2 h4⟩
theorem str_ext {a b : Str} (h : a.cps.toList = b.cps.toList) : a = b := by
  obtain ⟨⟨l⟩⟩ := a
  obtain ⟨⟨k⟩⟩ := b
  have : l = k := h
  rw [this]
theorem sle_total (a b : Str) : sle a b = true ∨ sle b a = true := by
  unfold sle
  cases h : ltCps b.cps.toList a.cps.toList with
  | false => exact .inl rfl
  | true => exact .inr (by rw [ltCps_asym h]; rfl)
theorem sle_anti {a b : Str} (h : sle a b = true) (h' : sle b a = true) : a = b := by
  unfold sle at h h'
  exact str_ext (ltCps_tri (by simpa using h') (by simpa using h))
theorem sle_trans {a b c : Str} (h : sle a b = true) (h' : sle b c = true) : sle a c = true := by
  unfold sle at *
  cases q : ltCps c.cps.toList a.cps.toList with
  | false => rfl
  | true =>
    exfalso
    have h1 : ltCps b.cps.toList a.cps.toList = false := by simpa using h
    have h2 : ltCps c.cps.toList b.cps.toList = false := by simpa using h'
    cases q2 : ltCps a.cps.toList b.cps.toList with
    | true => rw [ltCps_trans q q2] at h2; cases h2
    | false =>
      have e := ltCps_tri q2 h1
      rw [e] at q
      rw [q] at h2
      cases h2
def srt (xs : List Str) : List Str := xs.mergeSort sle
theorem srt_perm (xs : List Str) : (srt xs).Perm xs := List.mergeSort_perm xs sle
theorem srt_sorted (xs : List Str) : (srt xs).Pairwise (fun a b => sle a b = true) := List.pairwise_mergeSort (le := sle) (fun a b c h h' => sle_trans h h') (fun a b => by rcases sle_total a b with h | h <;> simp [h]) xs
theorem pairwise_unique : ∀ {xs ys : List Str}, xs.Perm ys → xs.Pairwise (fun a b => sle a b = true) → ys.Pairwise (fun a b => sle a b = true) → xs = ys
  | [], ys, p, _, _ => by rw [List.nil_perm.mp p]
  | x :: xs, [], p, _, _ => by simp at p
  | x :: xs, y :: ys, p, h1, h2 => by
    obtain ⟨a1, a2⟩ := List.pairwise_cons.mp h1
    obtain ⟨b1, b2⟩ := List.pairwise_cons.mp h2
    have e : x = y := by
      have m1 : x ∈ y :: ys := p.mem_iff.mp List.mem_cons_self
      have m2 : y ∈ x :: xs := p.mem_iff.mpr List.mem_cons_self
      rcases List.mem_cons.mp m1 with q | q
      · exact q
      · rcases List.mem_cons.mp m2 with q2 | q2
        · exact q2.symm
        · exact sle_anti (a1 y q2) (b1 x q)
    subst e
    rw [pairwise_unique (List.Perm.cons_inv p) a2 b2]
theorem risingS_pw : ∀ {l : List Str} {p : Str}, risingS p l = true → (p :: l).Pairwise (fun a b => sle a b = true)
  | [], p, _ => by simp
  | x :: l, p, h => by
    have h' : sle p x = true ∧ risingS x l = true := by
      unfold risingS at h
      exact ⟨(Bool.and_eq_true _ _ ▸ h).1, (Bool.and_eq_true _ _ ▸ h).2⟩
    have ih := risingS_pw h'.2
    refine List.pairwise_cons.mpr ⟨fun y hy => ?_, ih⟩
    rcases List.mem_cons.mp hy with q | q
    · rw [q]; exact h'.1
    · exact sle_trans h'.1 ((List.pairwise_cons.mp ih).1 y q)
theorem sortedS_pw {l : List Str} (h : sortedS l = true) : l.Pairwise (fun a b => sle a b = true) := by
  cases l with
  | nil => simp
  | cons p l => exact risingS_pw h
theorem srt_unique {xs zs : List Str} (p : zs.Perm xs) (h : sortedS zs = true) : zs = srt xs := pairwise_unique (p.trans (srt_perm xs).symm) (sortedS_pw h) (srt_sorted xs)
section
variable {X : Cx} {B : Bs} {Γ : Gm} {O N N' : Om} {Z : Er → Prop} {e : Expr} {p pos : Pos}
theorem n_sortedS {w : Wp (List Str)} (hm : X.mg "sorted" = none) (ha : RN X B Γ O Z e (rL tS) w) (hg : Gl X "sorted" := by rfl) (he : starEach [e] X.env = (false, eval e X.env) :: starEach [] X.env := by rfl) : NW X B Γ O Z (.Call (.Name "sorted" p) [e] [] pos) (oLs tS) (W.bind w fun xs => W.grd (xs.length < 64) (srt xs)) :=
  n_callB1 ha cr_sortedS (by decide +kernel) (fun xs S H v sm ⟨q, ws, e1, h1, h2⟩ P Q p n => by
    have e3 := strs_of (AllR.toM h2)
    subst e3
    refine ⟨q, xs, by rw [e1], SqL.of h1, p.1, fun zs l h3 h4 hl => ?_⟩
    rw [srt_unique h3 h4]
    exact n _ l _ p.2 hl ⟨l, _, [], rfl, rfl, upd_same, AllO.ofS (of_strs _)⟩) hm hg (by decide) (by decide) he
end
end OW
namespace OW
open PySem PySem.Spec PyProof.Rows L2 OT NdefX
section
variable {X : Cx} {B : Bs} {Γ : Gm} {O N N' : Om} {Z : Er → Prop} {p p1 p2 pos pos' apos : Pos} {D : Ends} {rest body els : List Stmt} {α β γ τ : Type} {f : α → MP}
theorem s_setLc {i : Nat} {y : Str} {py : Pos} {tg it elt : Expr} {ifs : List Expr} {scope : Scope} (own : List (Str × Nat)) {F : β → OP} {wc : α → Wp Bool} {wg : α → Wp β} {w : Wp (List α)} (Γw : Gm) (hi : IW X B Γ O Z N tg it f w) (Γ' : α → Gm) (js : List Nat)
    (hb : ∀ (G : Gho) (m : V × OP) x, BlkJ X scope (fun Y => GJ Y (B.add G) (O ++ [m]) tg (f x) Γw (Γ' x) js ∧ IfsW Y (B.add G) (Γ' x) (O ++ [m]) E0 ifs (wc x) ∧ NW Y (B.add G) (Γ' x) (O ++ [m]) E0 elt F (wg x))) {wk : List α → Wp (List β)} (hk : ∀ xs P, wk xs P Z → W.compG wc wg xs P Z) {q : List β → Prop} {w' : Wp (List β)}
    (h : ∀ ys u, SW X B (Γ.set i (some (tV u))) ((u, oL (ys.map F)) :: O) rest D (q ys)) (hw' : W.bind w wk = w' := by rfl)
    (hsw : swapsWith (.ListComp elt [⟨tg, it, ifs, 0⟩] scope pos) (some (.Name y py)) pos'.line X.env = pure true := by exact sw_true rfl rfl rfl (by decide +kernel))
    (hjs : ∀ j ∈ js, j ∈ own.map (·.2) := by decide) (hw : noneAt Γw (own.map (·.2)) = true := by rfl) (gl : Gle Γw Γ := by exact Gle.rfl') (hy : X.N[i]? = some y := by rfl) (hl : i < Γ.length := by exact Nat.le_of_ble_eq_true rfl) (hyl : X.env.scope.names.lookup y = some .local := by rfl) (ok : blkB X.N X.env.scope scope own = true := by kernel_rfl) (hN : X.N.Nodup := by assumption) (hc : X.calm = true := by rfl) (hs : ∀ x, foldedSetIterable it X.env x = pure x := by intro _; rfl) :
    SW X B Γ O (.Assign [.Name y py] (.ListComp elt [⟨tg, it, ifs, 0⟩] scope pos) pos' :: rest) D (W.run w' Z q) :=
  s_cons fun hq S H σ st => ⟨_, ps_setLc hc hN hy hyl hsw pi_w (blk_by ok) (fun s H C cl fp => ⟨fun pins s' σ H' v u Q I r h => pg_w.run pins s' σ H' v u Q I r (h s H C cl fp)⟩) (fun s H C cl fp => ⟨fun pins s' σ H' Q I h => let ⟨_, h1, h2⟩ := h s H C cl fp; h1.run pins s' σ H' Q I h2⟩)
    (fun s H C cl fp => ⟨fun pins s' σ H' Q I h => pe_w.run pins s' σ H' Q I (h s H C cl fp)⟩) hs, lc_go Γw hi (noneAt_ok hw) gl Γ' js hjs hb hk st (by rw [← hw'] at hq; exact hq) fun ys v S1 H1 p1 s1 t1 => h ys v p1 S1 H1 _ (t1.set rfl hl)⟩
end
end OW
namespace OW
open PySem PySem.Spec PyProof.Rows L2 OT NdefX
section
variable {X : Cx}
theorem sw_trueD {kx vx : Expr} {gs : List Comprehension} {scope : Scope} {pos py : Pos} {y : Str} {l : Nat} {env : Env} (hk : env.scope.kind = .function) (hy : env.scope.names.lookup y = some .local) (hl : (py.line == pos.line) = true)
    (ha : (scope.names.any fun (n, k) => n == y && (k == .local || k == .cell)) = false) : swapsWith (.DictComp kx vx gs scope pos) (some (.Name y py)) l env = pure true := by
  have ky : env.kindOf y = some .local := hy
  have hb : env.blockKind = .function := by unfold Env.blockKind; rw [hk]; rfl
  unfold swapsWith
  simp only [hb, ky, ha, Expr.pos, hl]
  rfl
theorem ps_setDc {i : Nat} {y : Str} {py : Pos} {kx vx tg iter : Expr} {ifs : List Expr} {scope : Scope} {own : List (Str × Nat)} {pos spos : Pos} {wi : TI} {g : TG} {tt : TT} {tk tv : TE} (hc : X.calm = true) (hN : X.N.Nodup) (hy : X.N[i]? = some y) (hyl : X.env.scope.names.lookup y = some .local)
    (hsw : swapsWith (.DictComp kx vx [⟨tg, iter, ifs, 0⟩] scope pos) (some (.Name y py)) spos.line X.env = pure true) (hi : PI X tg iter wi) (ok : BlkOk X.N X.env.scope scope own)
    (hg : ∀ (s : Shared) (H : Hp) (C : Addr) (cl : List (Str × Addr)) (fp : List Addr), PG (X.blk s H scope (compEnvC scope cl C X.env) fp) tg g) (ht : ∀ (s : Shared) (H : Hp) (C : Addr) (cl : List (Str × Addr)) (fp : List Addr), PTs (X.blk s H scope (compEnvC scope cl C X.env) fp) ifs tt)
    (hk : ∀ (s : Shared) (H : Hp) (C : Addr) (cl : List (Str × Addr)) (fp : List Addr), PE (X.blk s H scope (compEnvC scope cl C X.env) fp) kx tk)
    (he : ∀ (s : Shared) (H : Hp) (C : Addr) (cl : List (Str × Addr)) (fp : List Addr), PE (X.blk s H scope (compEnvC scope cl C X.env) fp) vx tv) (hs : ∀ x, foldedSetIterable iter X.env x = pure x := by intro _; rfl) :
    PS X (.Assign [.Name y py] (.DictComp kx vx [⟨tg, iter, ifs, 0⟩] scope pos) spos) (tAsg (tDc wi g tt tk tv (own.map (·.2))) (gName i)) := by
  refine ⟨fun pins s σ H D I h => ?_⟩
  rw [exec_Assign_Name_used _ _ _ _ hsw]
  refine wpAny_bind (wpAny_standAt (wpAny_bind ?_))
  show wpAny _ X.A (do let _ ← comprehension (.DictComp kx vx [⟨tg, iter, ifs, 0⟩] scope pos) scope X.env (firstIterPos [⟨tg, iter, ifs, 0⟩] pos) newDict false (eval iter X.env) (some (assign (.Name y py) X.env))) _ _ s
  have h : tDc wi g tt tk tv (own.map (·.2)) σ H (fun x H1 => gName i x σ H1 D.nx) := h
  refine wpAny_bind (thn (dc_core (Qf := fun _ s' => SP X pins D .next s') hc hN I hi ok hg ht hk he hs h fun L C s' m H' I' q hn f => ?_) fun _ s' hq => wpAny_pure (wpAny_pure hq))
  show wpAny _ _ (assign (.Name y py) X.env (.ref L)) _ _ _
  refine wpAny_assign_Name (store_ok2 (v := V.ref L) I' hN hy (.inl hyl) rfl (fun s2 I2 ⟨a, sb, ha⟩ => ?_) (.inr hyl))
  obtain ⟨f0, f1, f2, f3, f4, f5⟩ := f
  have haC : C ≠ a := by
    rcases ha with z | z
    · rw [z]; exact f1
    · exact fun e => f4 y a z e.symm
  refine ⟨m, hn.sameBut sb haC, fun h3 sb3 => ?_⟩
  exact ⟨_, H', I2.turned (t' := s2.toks) (fun b o hb e => (sb3.2 b hb).trans e) f0 f1 f3 f4 f5, q⟩
end
section
variable {X : Cx} {B : Bs} {Γ : Gm} {O N N' : Om} {Z : Er → Prop} {p p1 p2 pos pos' apos : Pos} {D : Ends} {rest body els : List Stmt} {α β γ τ : Type} {f : α → MP}
def W.dcomp {α β : Type} (c : α → Wp Bool) (k : α → Wp Str) (v : α → Wp β) : List α → List (Str × β) → Wp (List (Str × β))
  | [], d, Q, _ => Q d
  | x :: xs, d, Q, E => c x (fun t => W.ite t (k x (fun key => v x (fun y => W.dcomp c k v xs (dput d key y) Q E) E) E) (W.dcomp c k v xs d Q E)) E
def W.dcompG {α β : Type} (c : α → Wp Bool) (k : α → Wp Str) (v : α → Wp β) (xs : List α) : Wp (List (Str × β)) := fun Q _ => xs.length ≤ 100000 ∧ W.dcomp c k v xs [] Q E0
def dcol {α β : Type} (c : α → Bool) (k : α → Str) (v : α → β) : List α → List (Str × β) → List (Str × β)
  | [], d => d
  | x :: xs, d => if c x = true then dcol c k v xs (dput d (k x) (v x)) else dcol c k v xs d
theorem dcomp_plain {c : α → Bool} {k : α → Str} {v : α → β} {E : Er → Prop} {Q : List (Str × β) → Prop} : ∀ {xs : List α} {d : List (Str × β)}, Q (dcol c k v xs d) → W.dcomp (fun x => W.ret (c x)) (fun x => W.ret (k x)) (fun x => W.ret (v x)) xs d Q E
  | [], d, h => h
  | x :: xs, d, h => by
    show W.ite (c x) _ _
    unfold dcol at h
    cases e : c x with
    | true =>
      rw [e] at h
      exact ⟨fun _ => dcomp_plain (by simpa using h), (fun z => by cases z)⟩
    | false =>
      rw [e] at h
      exact ⟨(fun z => by cases z), fun _ => dcomp_plain (by simpa using h)⟩
abbrev W.dcompP {α β : Type} (c : α → Bool) (k : α → Str) (v : α → β) (xs : List α) : Wp (List (Str × β)) := W.grd (xs.length ≤ 100000) (dcol c k v xs [])
theorem hk_dplain {c : α → Bool} {k : α → Str} {v : α → β} : ∀ xs P, W.dcompP c k v xs P Z → W.dcompG (fun x => W.ret (c x)) (fun x => W.ret (k x)) (fun x => W.ret (v x)) xs P Z := fun xs P h => ⟨h.1, dcomp_plain h.2⟩
theorem hk_did {c : α → Wp Bool} {k : α → Wp Str} {v : α → Wp β} : ∀ xs P, W.dcompG c k v xs P Z → W.dcompG c k v xs P Z := fun _ _ h => h
theorem dc_go {tg it kx vx : Expr} {ifs : List Expr} {scope : Scope} {own : List (Str × Nat)} {F : β → OP} {wc : α → Wp Bool} {wy : α → Wp Str} {wg : α → Wp β} {w : Wp (List α)} (Γw : Gm) (hi : IW X B Γ O Z N tg it f w) (hw : ∀ v ∈ own.map (·.2), ∀ R, Γw[v]? ≠ some (some R)) (gl : Gle Γw Γ) (Γ' : α → Gm) (js : List Nat) (hjs : ∀ j ∈ js, j ∈ own.map (·.2))
    (hb : ∀ (G : Gho) (m : V × OP) x, BlkJ X scope (fun Y => GJ Y (B.add G) (O ++ [m]) tg (f x) Γw (Γ' x) js ∧ IfsW Y (B.add G) (Γ' x) (O ++ [m]) E0 ifs (wc x) ∧ EW Y (B.add G) (Γ' x) (O ++ [m]) E0 kx tS (wy x) ∧ NW Y (B.add G) (Γ' x) (O ++ [m]) E0 vx F (wg x)))
    {wk : List α → Wp (List (Str × β))} (hk : ∀ xs P, wk xs P Z → W.dcompG wc wy wg xs P Z) {S H : Hp} {σ : L2.St} (st : Stt B Γ O S H σ) {P : List (Str × β) → Prop} {Q : VK} (p : W.bind w wk P Z) (q : ∀ ys v S' H', P ys → Same S S' → Stt B Γ ((v, oDn F ys) :: O) S' H' σ → Q v H') :
    tDc (wI X tg it) (fun v σ H Q => ∀ s H0 C cl fp, wG (X.blk s H0 scope (compEnvC scope cl C X.env) fp) tg v σ H Q) (fun σ H Q => ∀ s H0 C cl fp, ∃ t, PTs (X.blk s H0 scope (compEnvC scope cl C X.env) fp) ifs t ∧ t σ H Q) (fun σ H Q => ∀ s H0 C cl fp, wE (X.blk s H0 scope (compEnvC scope cl C X.env) fp) kx σ H Q) (fun σ H Q => ∀ s H0 C cl fp, wE (X.blk s H0 scope (compEnvC scope cl C X.env) fp) vx σ H Q) (own.map (·.2)) σ H Q := by
  refine hi.2 S H σ st _ _ p fun xs J G S1 H1 p1 s1 t1 g1 hJ D hD => ?_
  obtain ⟨hz, p1⟩ := hk xs P p1
  have base : Stt (B.add G) Γ O S1 H1 σ := t1.ghost g1
  refine ⟨fun i m H2 => m = xs.length - i ∧ i ≤ xs.length ∧ ∃ S2 ys, ys.length ≤ i ∧ Stt (B.add G) Γw (O ++ [(.ref D, oDn F ys)]) S2 H2 (L2.wipe σ (own.map (·.2))) ∧ Same S1 S2 ∧ W.dcomp wc wy wg (xs.drop i) ys P E0, ⟨xs.length, by simp, Nat.zero_le _, S1, [], Nat.le_refl _, ?_, Same.refl _, p1⟩, ?_⟩
  · exact (((base.forget gl).wiped hw).add hD (P := oDn F []) ⟨D, [], [], rfl, rfl, upd_same, .nil, rfl⟩).perm own_last.symm
  · rintro i m H2 ⟨rfl, hin, S2, ys, hy, t, s2, pc⟩
    obtain ⟨j1, j2⟩ := hJ _ _ _ _ _ t (fun q hq => List.mem_append_left _ (hi.1 q hq))
    by_cases hlt : i < xs.length
    · obtain ⟨go, yl⟩ := j2 i hlt
      rw [List.drop_eq_getElem_cons hlt] at pc
      refine .inr ⟨go, fun H' => ∃ S2 ys, ys.length ≤ i + 1 ∧ Stt (B.add G) Γw (O ++ [(.ref D, oDn F ys)]) S2 H' (L2.wipe σ (own.map (·.2))) ∧ Same S1 S2 ∧ W.dcomp wc wy wg (xs.drop (i + 1)) ys P E0, fun H' h => ⟨xs.length - (i + 1), by omega, rfl, hlt, h⟩, fun y H3 hyy s H0 C cl fp => ?_⟩
      obtain ⟨S3, s3, r3⟩ := yl y H3 hyy
      have hB := hb G (.ref D, oDn F ys) xs[i]
      refine (hB s H0 C cl fp).1 S3 H3 _ y (t.step s3) r3 _ fun σ' t' w => ⟨?_, fun s' H0' C' cl' fp' => ?_⟩
      · rw [w.wipe hjs]
        exact (wipe_wp σ _).wipe fun _ z => z
      · refine (hB s' H0' C' cl' fp').2.1 S3 H3 σ' t' _ _ pc fun b S4 H4 p4 s4 t4 => ?_
        cases b with
        | true =>
          refine iteT fun s2' H02 C2 cl2 fp2 => (hB s2' H02 C2 cl2 fp2).2.2.1 S4 H4 σ' t4 _ _ (p4.1 rfl) fun key kv S5 H5 p5 s5 t5 r5 => fun s6' H06 C6 cl6 fp6 => (hB s6' H06 C6 cl6 fp6).2.2.2 S5 H5 σ' t5 _ _ p5 fun z v S6 H6 p6 s6 t6 _ => ?_
          have t7 := (t.step s3).mix (t6.perm (own_last.cons _)) ((s4.trans s5).trans s6)
          obtain ⟨A, q', vs, A', e1, e2, e3, nk, e4⟩ := t7.at_ (x := (.ref D, oDn F ys)) (List.mem_cons_of_mem _ List.mem_cons_self)
          cases e1
          refine ⟨vs, kS key, r5, e3, ?_, S6, dput ys key z, ?_, ?_, (((s2.trans s3.s).trans s4).trans s5).trans s6, p6⟩
          · rw [e4.len, List.length_map]
            exact Nat.lt_of_le_of_lt (Nat.le_trans hy (Nat.le_trans (Nat.le_of_lt hlt) hz)) (by decide)
          · exact Nat.le_trans dput_len (Nat.succ_le_succ hy)
          · exact (t7.pushD e3).perm own_last.symm
        | false => exact iteF ⟨S4, ys, Nat.le_succ_of_le hy, (t.step s3).mix t4 s4, (s2.trans s3.s).trans s4, p4.2 rfl⟩
    · have e : i = xs.length := by omega
      subst e
      rw [List.drop_length] at pc
      exact .inl ⟨j1, q ys (.ref D) S2 H2 pc (s1.trans s2) (t1.mix (t.plain.perm own_last) s2)⟩
theorem n_dcomp {tg it kx vx : Expr} {ifs : List Expr} {scope : Scope} (own : List (Str × Nat)) {F : β → OP} {wc : α → Wp Bool} {wy : α → Wp Str} {wg : α → Wp β} {w : Wp (List α)} (Γw : Gm) (hi : IW X B Γ O Z N tg it f w) (Γ' : α → Gm) (js : List Nat)
    (hb : ∀ (G : Gho) (m : V × OP) x, BlkJ X scope (fun Y => GJ Y (B.add G) (O ++ [m]) tg (f x) Γw (Γ' x) js ∧ IfsW Y (B.add G) (Γ' x) (O ++ [m]) E0 ifs (wc x) ∧ EW Y (B.add G) (Γ' x) (O ++ [m]) E0 kx tS (wy x) ∧ NW Y (B.add G) (Γ' x) (O ++ [m]) E0 vx F (wg x)))
    {wk : List α → Wp (List (Str × β))} (hk : ∀ xs P, wk xs P Z → W.dcompG wc wy wg xs P Z)
    (hjs : ∀ j ∈ js, j ∈ own.map (·.2) := by decide) (hw : noneAt Γw (own.map (·.2)) = true := by rfl) (gl : Gle Γw Γ := by exact Gle.rfl') (ok : blkB X.N X.env.scope scope own = true := by kernel_rfl) (hN : X.N.Nodup := by assumption) (hc : X.calm = true := by rfl) (hs : ∀ x, foldedSetIterable it X.env x = pure x := by intro _; rfl) :
    NW X B Γ O Z (.DictComp kx vx [⟨tg, it, ifs, 0⟩] scope pos) (oDn F) (W.bind w wk) := fun S H σ st P Q p n =>
  ⟨_, pe_dc hc hN pi_w (blk_by ok) (fun s H C cl fp => ⟨fun pins s' σ H' v u Q I r h => pg_w.run pins s' σ H' v u Q I r (h s H C cl fp)⟩) (fun s H C cl fp => ⟨fun pins s' σ H' Q I h => let ⟨_, h1, h2⟩ := h s H C cl fp; h1.run pins s' σ H' Q I h2⟩)
    (fun s H C cl fp => ⟨fun pins s' σ H' Q I h => pe_w.run pins s' σ H' Q I (h s H C cl fp)⟩) (fun s H C cl fp => ⟨fun pins s' σ H' Q I h => pe_w.run pins s' σ H' Q I (h s H C cl fp)⟩) hs, dc_go Γw hi (noneAt_ok hw) gl Γ' js hjs hb hk st p fun ys v S' H' p1 s1 t1 => n ys v S' H' p1 s1 t1 trivial⟩
theorem s_setDc {i : Nat} {y : Str} {py : Pos} {tg it kx vx : Expr} {ifs : List Expr} {scope : Scope} (own : List (Str × Nat)) {F : β → OP} {wc : α → Wp Bool} {wy : α → Wp Str} {wg : α → Wp β} {w : Wp (List α)} (Γw : Gm) (hi : IW X B Γ O Z N tg it f w) (Γ' : α → Gm) (js : List Nat)
    (hb : ∀ (G : Gho) (m : V × OP) x, BlkJ X scope (fun Y => GJ Y (B.add G) (O ++ [m]) tg (f x) Γw (Γ' x) js ∧ IfsW Y (B.add G) (Γ' x) (O ++ [m]) E0 ifs (wc x) ∧ EW Y (B.add G) (Γ' x) (O ++ [m]) E0 kx tS (wy x) ∧ NW Y (B.add G) (Γ' x) (O ++ [m]) E0 vx F (wg x)))
    {wk : List α → Wp (List (Str × β))} (hk : ∀ xs P, wk xs P Z → W.dcompG wc wy wg xs P Z) {q : List (Str × β) → Prop} {w' : Wp (List (Str × β))}
    (h : ∀ ys u, SW X B (Γ.set i (some (tV u))) ((u, oDn F ys) :: O) rest D (q ys)) (hw' : W.bind w wk = w' := by rfl)
    (hsw : swapsWith (.DictComp kx vx [⟨tg, it, ifs, 0⟩] scope pos) (some (.Name y py)) pos'.line X.env = pure true := by exact sw_trueD rfl rfl rfl (by decide +kernel))
    (hjs : ∀ j ∈ js, j ∈ own.map (·.2) := by decide) (hw : noneAt Γw (own.map (·.2)) = true := by rfl) (gl : Gle Γw Γ := by exact Gle.rfl') (hy : X.N[i]? = some y := by rfl) (hl : i < Γ.length := by exact Nat.le_of_ble_eq_true rfl) (hyl : X.env.scope.names.lookup y = some .local := by rfl) (ok : blkB X.N X.env.scope scope own = true := by kernel_rfl) (hN : X.N.Nodup := by assumption) (hc : X.calm = true := by rfl) (hs : ∀ x, foldedSetIterable it X.env x = pure x := by intro _; rfl) :
    SW X B Γ O (.Assign [.Name y py] (.DictComp kx vx [⟨tg, it, ifs, 0⟩] scope pos) pos' :: rest) D (W.run w' Z q) :=
  s_cons fun hq S H σ st => ⟨_, ps_setDc hc hN hy hyl hsw pi_w (blk_by ok) (fun s H C cl fp => ⟨fun pins s' σ H' v u Q I r h => pg_w.run pins s' σ H' v u Q I r (h s H C cl fp)⟩) (fun s H C cl fp => ⟨fun pins s' σ H' Q I h => let ⟨_, h1, h2⟩ := h s H C cl fp; h1.run pins s' σ H' Q I h2⟩)
    (fun s H C cl fp => ⟨fun pins s' σ H' Q I h => pe_w.run pins s' σ H' Q I (h s H C cl fp)⟩) (fun s H C cl fp => ⟨fun pins s' σ H' Q I h => pe_w.run pins s' σ H' Q I (h s H C cl fp)⟩) hs, dc_go Γw hi (noneAt_ok hw) gl Γ' js hjs hb hk st (by rw [← hw'] at hq; exact hq) fun ys v S1 H1 p1 s1 t1 => h ys v p1 S1 H1 _ (t1.set rfl hl)⟩
theorem n_d1 {kx vx : Expr} {k : Str} {g : β → MP} {wb : Wp β} (ha : ∀ m, VW X B Γ (O ++ [m]) kx tS k) (hb : ∀ m, EW X B Γ (O ++ [m]) Z vx g wb) : NW X B Γ O Z (.Dict [some kx] [vx] pos) (oDs g) (W.bind wb fun y => W.ret [(k, y)]) := fun S H σ st P Q p n =>
  ⟨_, pe_disp (pps_cons pe_w pe_w pps_nil) (by rfl) (by rfl) (fun z => by cases z) (Nat.le_of_ble_eq_true rfl), fun q hq => by
    have t1 := (st.add (P := oDs g ([] : List (Str × β))) hq ⟨q, [], [], rfl, rfl, upd_same, .nil, rfl⟩).perm own_last.symm
    obtain ⟨kv, r1, h1⟩ := ha _ S _ σ t1
    refine h1 _ (hb _ S _ σ t1 _ _ p fun y v S2 H2 p2 s2 t2 r2 => ?_)
    have t3 := (t2.perm own_last).addM r2
    obtain ⟨A, q', vs, A', e1, e2, e3, nk, e4⟩ := t3.at_ (x := (.ref q, oDs g ([] : List (Str × β)))) (List.mem_cons_of_mem _ List.mem_cons_self)
    cases e1
    have hvs : vs = [] := by
      have := e4.len
      simpa using this
    subst hvs
    have r1' : kv = kV (kS k) := r1
    subst r1'
    exact ⟨e3, [(kS k, v)], rfl, Nat.le_of_ble_eq_true rfl, n _ _ S2 _ p2 s2 (t3.pushD (F := fun x => MP.o (g x)) (k := k) e3) trivial⟩⟩
end
end OW
namespace OW
open PySem PySem.Spec PyProof.Rows L2 OT NdefX
def ItE (sq : Hp → List V → Prop) (k : Int) : It :=
  ⟨fun i H => ∃ (xs : List V) (x : V), sq H xs ∧ xs[i]? = some x, fun i H v H' => ∃ T x, v = .ref T ∧ H T = none ∧ H' = upd H T (.tup [.int (k + (i : Nat)), x]) ∧ ∀ xs, sq H xs → xs[i]? = some x, fun i H => ∃ xs : List V, sq H xs ∧ xs.length = i⟩
theorem turn_enumD {P : Program} {w : World} {K : PySem.W.Frag} {elts : List Expr} {kk : Nat} {tpos : Pos} {sq : Hp → List V → Prop} {k : Int} {St : List Value → Nat → Heap → Prop} {tn0 : Nat → Heap → Prop} (a e it : Addr)
    (hobj : ∀ i h, tn0 i h → ∃ o, h.get? it = some o ∧ ∀ v, o.data ≠ .cell v)
    (hkeep : ∀ i h h', tn0 i h → (∀ o, h.get? it = some o → h'.get? it = some o) → tn0 i h')
    (hD : ∀ (X : Cx), X.prog = P → X.w = w → X.K = K → X.calm = true → ∀ (i : Nat) (pins : List (Addr × Obj)) (s : Shared) (σ : L2.St) (H : Hp) (xs : List V), Inv X pins σ H s → tn0 i s.heap → sq H xs →
      ∃ its : List Value, Vals xs its ∧ (∀ ys, sq H ys → ys = xs) ∧ St its i s.heap ∧ Draws P w X.A.in1 it [it, a] its.length (fun j v => its[j]? = some v) (St its) ∧ (∀ h, St its (i + 1) h → tn0 (i + 1) h) ∧ ∃ o, s.heap.get? a = some o ∧ o.cls ≠ .type "enumerate") :
    Turn P w K (.Tuple elts kk tpos) (ItE sq k) [e, it] e (fun i h => (∃ old, IsEnum h e it (k + ((i : Nat) : Int)) old) ∧ tn0 i h ∧ e ≠ it) where
  mem := by simp
  obj := fun i h st b hb => by
    obtain ⟨⟨old, he⟩, ht, _⟩ := st
    have e' : b = e ∨ b = it := by simpa using hb
    rcases e' with z | z
    · rw [z]; exact ⟨_, he, fun v q => nomatch q⟩
    · rw [z]; exact hobj i h ht
  keep := fun i h h' st k => let ⟨⟨old, he⟩, hi, hne⟩ := st; ⟨⟨old, k e (by simp) _ he⟩, hkeep i h h' hi fun o q => k it (by simp) o q, hne⟩
  item := by
    intro X hP hw hK hc i pins s σ H E I hf st hg
    obtain ⟨⟨old, he⟩, hit, hne⟩ := st
    obtain ⟨xs, x, hq, hx⟩ := hg
    obtain ⟨its, rv, inj, hst, D, hnx, oa, ha, hca⟩ := hD X hP hw hK hc i pins s σ H xs I hit hq
    subst hP hw hK
    obtain ⟨u, hu, ru⟩ := rv.get hx
    have hel : e < s.heap.objs.size := Heap.lt_size he
    have hil : it < s.heap.objs.size := by obtain ⟨o, q, _⟩ := hobj _ _ hit; exact Heap.lt_size q
    have hlt : i < its.length := by
      rcases Nat.lt_or_ge i its.length with q | q
      · exact q
      · rw [List.getElem?_eq_none q] at hu; cases hu
    have hef : e ∉ [it, a] := by
      intro q
      have e' : e = it ∨ e = a := by simpa using q
      rcases e' with z | z
      · exact hne z
      · rw [← z, he] at ha
        exact hca (by cases ha; rfl)
    refine wpAny_pyNext_enum_itemC D he hst hlt hne hef fun x' h' tk hPx ho hst' hT hsz hk => ?_
    have ex : x' = u := by
      have : some x' = some u := hPx.symm.trans hu
      cases this; rfl
    subst ex
    refine ⟨_, rfl, wpAny_letOwnedTupleGo_enum (s := { s with heap := h', toks := tk + 1 }) ho fun h'' he' sb => ?_⟩
    have hT2 : h''.get? s.heap.objs.size = some { cls := .type "tuple", data := .seq #[.int (k + (i : Nat)) tk, x'] } := (sb.2 _ (Nat.ne_of_gt hel)).trans hT
    have new : ObjOk X.prog X.w (upd H s.heap.objs.size (.tup [.int (k + (i : Nat)), x])) h'' s.heap.objs.size (.tup [.int (k + (i : Nat)), x]) :=
      ⟨by show 2 ≤ sizeLine; decide, [.int (k + (i : Nat)) tk, x'], .cons ⟨_, rfl⟩ (.cons ru .nil), ⟨_, hT2, rfl, _, rfl⟩⟩
    have I1 : Inv X pins σ (upd H s.heap.objs.size (.tup [.int (k + (i : Nat)), x])) { s with heap := h'', toks := tk + 1 } :=
      I.turnedNew (ch := [e, it]) (fun b ob hb q => (sb.2 b (fun z => hb (by simp [z]))).trans (hk b ob (fun z => hb (by simp [z])) (fun z => hb (by simp [z])) q)) hf (Nat.le_refl _) new
    refine ⟨.ref s.heap.objs.size, _, I1, rfl, ⟨_, x, rfl, I.hok.fresh (Nat.le_refl _), rfl, fun ys hy => by rw [inj ys hy]; exact hx⟩, ⟨⟨x', ?_⟩, hnx _ (D.frame _ _ _ hst' fun b hb o q => (sb.2 b fun z => hef (by rw [← z]; exact hb)).trans q), hne⟩, fun b hb => ?_⟩
    · have e1 : k + ((i + 1 : Nat) : Int) = k + (i : Int) + 1 := by omega
      rw [e1]; exact he'
    · have hb' : b < s.heap.objs.size := by
        have e' : b = e ∨ b = it := by simpa using hb
        rcases e' with z | z
        · rw [z]; exact hel
        · rw [z]; exact hil
      rw [upd_ne (Nat.ne_of_lt hb')]
      exact (hf b hb).1
  done := by
    intro X hP hw hK hc i pins s σ H E I hf st hg
    obtain ⟨⟨old, he⟩, hit, hne⟩ := st
    obtain ⟨xs, hq, hx⟩ := hg
    obtain ⟨its, rv, inj, hst, D, hnx, _⟩ := hD X hP hw hK hc i pins s σ H xs I hit hq
    subst hP hw hK
    obtain ⟨f0, f1, f2, f3, f4, f5⟩ := hf it (by simp)
    have hl := rv.length
    have hi : i = its.length := by omega
    rw [hi] at hst
    exact wpAny_pyNext_enum_endD D he hst fun h' eb => ⟨rfl, I.turned (t' := s.toks) (fun b o hb q => eb b o hb q) f0 f1 f3 f4 f5⟩
  self := fun A i s Q E st h => let ⟨⟨_, he⟩, _⟩ := st; wpAny_pyIter_enum he h
theorem turn_enumL {P : Program} {w : World} {K : PySem.W.Frag} {elts : List Expr} {kk : Nat} {tpos : Pos} {k : Int} (a e it : Addr) :
    Turn P w K (.Tuple elts kk tpos) (ItE (fun H xs => SqL K H a xs) k) [e, it] e (fun i h => (∃ old, IsEnum h e it (k + ((i : Nat) : Int)) old) ∧ h.IsListIter it a i ∧ e ≠ it) :=
  turn_enumD (St := fun its i h => h.IsListIter it a i ∧ h.IsList a its.toArray) a e it (fun i h ⟨o, ho, _, hd⟩ => ⟨o, ho, fun v q => by rw [hd] at q; cases q⟩) (fun i h h' t k => t.at k) fun X hP hw hK hc i pins s σ H xs I ht hq => by
    subst hP hw hK
    obtain ⟨its, rv, p, hz⟩ := I.list hq
    have pl := p.isList
    refine ⟨its, rv, fun ys hy => I.list_inj hy hq, ⟨ht, pl⟩, ?_, fun h z => z.1, ?_⟩
    · have ne : a ≠ it := by
        obtain ⟨o, h1, h2, _⟩ := ht
        obtain ⟨o', h3, h4, _⟩ := pl
        intro z
        rw [z, h1] at h3
        cases h3
        rw [h2] at h4
        exact absurd h4 (by decide)
      have := Draws.list (prog := X.prog) (w := X.w) (A := X.A.in1) (show X.A.in1.handled = none from I.ok.hd hc) it a ne its.toArray
      simpa using this
    · obtain ⟨o', h3, h4, _⟩ := pl
      exact ⟨o', h3, by rw [h4]; decide⟩
theorem turn_enumT {P : Program} {w : World} {K : PySem.W.Frag} {elts : List Expr} {kk : Nat} {tpos : Pos} {k : Int} (a e it : Addr) :
    Turn P w K (.Tuple elts kk tpos) (ItE (fun H xs => SqT K H a xs) k) [e, it] e (fun i h => (∃ old, IsEnum h e it (k + ((i : Nat) : Int)) old) ∧ h.IsTupleIter it a i ∧ e ≠ it) :=
  turn_enumD (St := fun its i h => h.IsTupleIter it a i ∧ h.IsTuple a its.toArray) a e it (fun i h ⟨o, ho, _, hd⟩ => ⟨o, ho, fun v q => by rw [hd] at q; cases q⟩) (fun i h h' t k => t.at k) fun X hP hw hK hc i pins s σ H xs I ht hq => by
    subst hP hw hK
    obtain ⟨its, rv, p, hz⟩ := I.tuple hq
    have pl : s.heap.IsTuple a its.toArray := p
    refine ⟨its, rv, fun ys hy => I.tuple_inj hy hq, ⟨ht, pl⟩, ?_, fun h z => z.1, ?_⟩
    · have ne : a ≠ it := by
        obtain ⟨o, h1, h2, _⟩ := ht
        obtain ⟨o', h3, h4, _⟩ := pl
        intro z
        rw [z, h1] at h3
        cases h3
        rw [h2] at h4
        exact absurd h4 (by decide)
      have := Draws.tuple (prog := X.prog) (w := X.w) (A := X.A.in1) (show X.A.in1.handled = none from I.ok.hd hc) it a ne its.toArray
      simpa using this
    · obtain ⟨o', h3, h4, _⟩ := pl
      exact ⟨o', h3, by rw [h4]; decide⟩
set_option maxHeartbeats 1000000 in
theorem meets_enum1 {v : Value} {o : Obj} {H : Heap → Prop} (B : Begins v o H) :
    Meets (Builtin.«enumerate.__new__» ⟨[.type "enumerate", v], []⟩) (fun _ R s => H s.heap ∧
      R (.ok (.ret (.ref (s.heap.push o).objs.size))) { s with heap := (s.heap.push o).push { cls := .type "enumerate", data := .fields #[.none, .bool false, .ref s.heap.objs.size, rawInt 0, .none, .none] } }) :=
  .of_wp fun prog w A R s h => by
    obtain ⟨hp, g, d, tk, os⟩ := s; obtain ⟨h1, h⟩ := h
    have hsub := sub_enumerate
    have q1 : ∀ {A' : Around} {E : Value → Shared → Prop} {Q : Value → Shared → Prop}, Q (.ref hp.objs.size) ⟨hp.push o, g, d, tk, os⟩ → wpAny (model prog w) A' (pyIter v) Q E ⟨hp, g, d, tk, os⟩ :=
      fun q => B.iter prog w _ _ ⟨hp, g, d, tk, os⟩ _ h1 q
    wp_walk using q1
    refine wpAny_stack_any fun st => wpAny_pure ?_
    split
    · rename_i c _ _ _ _ _
      cases (c == Value.type "enumerate")
      · wp_walk using q1
        exact ⟨_, rfl, h⟩
      · wp_walk using q1
        exact ⟨_, rfl, h⟩
    · wp_walk using q1
      exact ⟨_, rfl, h⟩
theorem enum_begins1 {prog : Program} {w : World} {A : Around} {E : Value → Shared → Prop} {s : Shared} {v : Value} {o : Obj} {H : Heap → Prop} {Q : Value → Shared → Prop} (B : Begins v o H) (h1 : H s.heap)
    (h : ∀ h', IsEnum h' (s.heap.objs.size + 1) s.heap.objs.size 0 .none → h'.get? s.heap.objs.size = some o → h'.objs.size = s.heap.objs.size + 2 →
      (∀ b o, s.heap.get? b = some o → h'.get? b = some o) → Q (.ref (s.heap.objs.size + 1)) { s with heap := h' }) :
    wpAny (model prog w) A (call (.type "enumerate") [v]) Q E s := by
  refine callType_new F.called_enumerate (by decide) (F.typeCall_enumerate_1 _) (F.newCall_enumerate_1 _) (fun obj => F.args_object_init_2 obj _) F.entry_enumerate_new
    (meets_enum1 B) ⟨h1, ?_⟩
  have hz : (s.heap.push o).objs.size = s.heap.objs.size + 1 := Heap.size_push ..
  show _ ∧ _
  rw [hz]
  have he : IsEnum ((s.heap.push o).push { cls := .type "enumerate", data := .fields #[.none, .bool false, .ref s.heap.objs.size, rawInt 0, .none, .none] }) (s.heap.objs.size + 1) s.heap.objs.size 0 .none := by
    have := Heap.get?_push_size (s.heap.push o) (o := { cls := .type "enumerate", data := .fields #[.none, .bool false, .ref s.heap.objs.size, rawInt 0, .none, .none] }) rfl
    rw [hz] at this; exact this
  refine ⟨⟨_, he, rfl⟩, h _ he (Heap.get?_push_of_some _ (Heap.get?_push_size _ B.free)) (by rw [Heap.size_push, hz]) fun b o x => Heap.get?_push_of_some _ (Heap.get?_push_of_some _ x)⟩
def enJ (K : PySem.W.Frag) (a : Addr) (k : Int) (H : Hp) (R : It → Hp → Prop) : Prop := ∃ xs, (SqL K H a xs ∧ R (ItE (fun H xs => SqL K H a xs) k) H) ∨ (SqT K H a xs ∧ R (ItE (fun H xs => SqT K H a xs) k) H)
def iEn1 (K : PySem.W.Frag) (ta : TA) : TI := fun σ H R => ta σ H fun vs H1 => ∃ a, vs = [.ref a] ∧ enJ K a 0 H1 R
def iEn2 (K : PySem.W.Frag) (ta : TA) : TI := fun σ H R => ta σ H fun vs H1 => ∃ a k, vs = [.ref a, .int k] ∧ -(2 ^ 63) ≤ k ∧ k < 2 ^ 63 ∧ enJ K a k H1 R
section
variable {X : Cx} {e b : Expr} {te tb : TE} {p pos tpos : Pos} {elts : List Expr} {kk : Nat}
theorem pin_go {pins : List (Addr × Obj)} {σ : L2.St} {H : Hp} {s : Shared} {R : It → Hp → Prop} {h' : Heap} {k : Int} {J : It} {tn0 : Nat → Heap → Prop} (I : Inv X pins σ H s)
    (he : IsEnum h' (s.heap.objs.size + 1) s.heap.objs.size k .none) (ht : tn0 0 h') (hk : ∀ b o, s.heap.get? b = some o → h'.get? b = some o)
    (T : Turn X.prog X.w X.K (.Tuple elts kk tpos) J [s.heap.objs.size + 1, s.heap.objs.size] (s.heap.objs.size + 1) (fun i h => (∃ old, IsEnum h (s.heap.objs.size + 1) s.heap.objs.size (k + ((i : Nat) : Int)) old) ∧ tn0 i h ∧ s.heap.objs.size + 1 ≠ s.heap.objs.size)) (q : R J H) :
    PIE X pins σ (.Tuple elts kk tpos) R (.ref (s.heap.objs.size + 1)) { s with heap := h' } := by
  have I2 : Inv X pins σ H { s with heap := h' } := I.kept (t' := s.toks) hk
  refine ⟨s.heap.objs.size + 1, [s.heap.objs.size + 1, s.heap.objs.size], _, _, H, rfl, I2, T, ⟨⟨.none, by simpa using he⟩, ht, Nat.succ_ne_self _⟩, fun b hb => ?_, q⟩
  have e' : b = s.heap.objs.size + 1 ∨ b = s.heap.objs.size := by simpa using hb
  have hle : s.heap.objs.size ≤ b := by
    rcases e' with z | z
    · rw [z]; exact Nat.le_add_right _ _
    · rw [z]; exact Nat.le_refl _
  exact I.fpOk hle (I.hok.fresh hle)
theorem pi_en1 {ta : TA} (hg : Gl X "enumerate") (hm : X.mg "enumerate" = none) (ha : PA X [e] ta) (hs : starEach [e] X.env = [(false, eval e X.env)] := by rfl) :
    PI X (.Tuple elts kk tpos) (.Call (.Name "enumerate" p) [e] [] pos) (iEn1 X.K ta) := by
  refine ⟨fun pins s σ H R I h => ?_⟩
  refine Call_ (ld_blt I hg hm boot_enumerate (PyProof.Rows.callWith_type1 (thn (ha.run pos pins s σ H _ I h) fun us s1 ⟨vs, H1, I1, r1, q1⟩ => ?_) hs rfl))
  obtain ⟨a, ex, xs, q⟩ := q1
  subst ex
  cases r1 with
  | cons r rr =>
    cases rr
    cases r
    rcases q with ⟨hq, q⟩ | ⟨hq, q⟩
    · obtain ⟨its, rv, p', hz⟩ := I1.list hq
      exact enum_begins1 (begins_list a its.toArray) p'.isList fun h' he hit hsz hk => wpAny_pyIter_enum he (pin_go I1 he ⟨_, hit, rfl, rfl⟩ hk (turn_enumL _ _ _) q)
    · obtain ⟨its, rv, p', hz⟩ := I1.tuple hq
      exact enum_begins1 (begins_tuple a its.toArray) p' fun h' he hit hsz hk => wpAny_pyIter_enum he (pin_go I1 he ⟨_, hit, rfl, rfl⟩ hk (turn_enumT _ _ _) q)
end
section
variable {X : Cx} {B : Bs} {Γ : Gm} {O N N' : Om} {Z : Er → Prop} {e a b c o l : Expr} {es elts : List Expr} {p p2 pos pos' apos tpos : Pos} {α β γ τ : Type} {f : α → MP} {kk : Nat}
def enm {α : Type} (k : Int) (xs : List α) : List (Int × α) := (List.range xs.length).zip xs |>.map fun q => (k + (q.1 : Int), q.2)
theorem enm_len {k : Int} {xs : List α} : (enm k xs).length = xs.length := by simp [enm]
theorem enm_get {k : Int} {xs : List α} {i : Nat} (h : i < xs.length) (h' : i < (enm k xs).length) : (enm k xs)[i] = (k + (i : Int), xs[i]) := by simp [enm]
def Sqk (K : PySem.W.Frag) (t : Bool) (a : Addr) (H : Hp) (xs : List V) : Prop := if t = true then SqL K H a xs else SqT K H a xs
def QW (X : Cx) (B : Bs) (Γ : Gm) (O : Om) (Z : Er → Prop) (N : Om) (e : Expr) (f : α → MP) (w : Wp (List α)) : Prop := (∀ x ∈ N, x ∈ O) ∧ ∀ S H σ, Stt B Γ O S H σ → ∀ (P : List α → Prop) (Q : VK), w P Z →
  (∀ xs q t S' H', P xs → Same S S' → Stt B Γ O S' H' σ → (∀ Γ2 O2 S2 H2 σ2, Same S' S2 → Stt B Γ2 O2 S2 H2 σ2 → (∀ x ∈ N, x ∈ O2) → ∃ ws, Sqk X.K t q H2 ws ∧ AllM (xs.map f) S2 ws) → Q (.ref q) H') → wE X e σ H Q
theorem q_lent (i : Nat) {x : Str} {xs : List α} (hG : Γ[i]? = some (some ((rQ X.K f xs).at_ B.H)) := by rfl) (hN : X.N[i]? = some x := by rfl) (hv : Vis X.env.scope x := by first | exact Or.inl rfl | exact Or.inr (Or.inl rfl) | exact Or.inr (Or.inr rfl))
    (hd : (x == ("__debug__" : Str)) = false := by decide) (hcd : (x == ("__classdict__" : Str)) = false := by decide) : QW X B Γ O Z [] (.Name x pos) f (W.ret xs) := ⟨(fun _ h => by cases h), fun S H σ st P Q p n => by
  obtain ⟨v, h1, q, vs, e0, h2, h3⟩ := st.slot i _ hG
  subst e0
  have m3 := AllR.toM h3
  refine ⟨_, pe_var hN hv hd hcd, _, h1, ?_⟩
  rcases h2 with h2 | h2
  · exact n xs q true S H p (Same.refl _) st fun Γ2 O2 S2 H2 σ2 s2 t2 _ => ⟨vs, t2.st.h.seq h2, m3.up s2⟩
  · exact n xs q false S H p (Same.refl _) st fun Γ2 O2 S2 H2 σ2 s2 t2 _ => ⟨vs, Same.tup t2.st.h h2, m3.up s2⟩⟩
theorem en_go {k : Int} {xs : List α} {q : Addr} {t : Bool} {S1 H1 : Hp} {σ : L2.St} {Rk : It → Hp → Prop} (t1 : Stt B Γ O S1 H1 σ)
    (r1 : ∀ Γ2 O2 S2 H2 σ2, Same S1 S2 → Stt B Γ2 O2 S2 H2 σ2 → (∀ x ∈ N, x ∈ O2) → ∃ ws, Sqk X.K t q H2 ws ∧ AllM (xs.map f) S2 ws) (hN : ∀ x ∈ N, x ∈ O)
    (k1 : ∀ (J : It) (G : Gho), G.R S1 → (∀ Γ2 O2 S2 H2 σ2, Stt (B.add G) Γ2 O2 S2 H2 σ2 → (∀ q ∈ N, q ∈ O2) → J.stop (enm k xs).length H2 ∧ ∀ i (h : i < (enm k xs).length), J.go i H2 ∧ ∀ y H3, J.yld i H2 y H3 → ∃ S3, Stp S2 H2 S3 H3 ∧ (tP2 X.K tI f (enm k xs)[i]).R S3 y) → Rk J H1) :
    enJ X.K q k H1 Rk := by
  obtain ⟨vs, h2, h3⟩ := r1 _ _ S1 H1 _ (Same.refl _) t1 hN
  refine ⟨vs, ?_⟩
  have go : Rk (ItE (Sqk X.K t q) k) H1 := by
    refine k1 _ ⟨fun S => Same S1 S, fun e h => h.trans e⟩ (Same.refl _) fun Γ2 O2 S2 H2 σ2 t hn => ?_
    obtain ⟨ws, h4, h5⟩ := r1 _ _ _ _ _ t.gh.2 t.plain hn
    refine ⟨⟨ws, h4, by rw [h5.length, List.length_map, enm_len]⟩, fun i hi => ?_⟩
    have hi' : i < xs.length := by rw [enm_len] at hi; exact hi
    obtain ⟨y, h6, h7⟩ := h5.get (i := i) (R := f xs[i]) (by simp [hi'])
    refine ⟨⟨ws, y, h4, h6⟩, fun v H3 ⟨T, x, e1, e2, e3, e4⟩ => ?_⟩
    have e5 := e4 ws h4
    rw [h6] at e5
    cases e5
    subst e1 e3
    have s2 := Stp.put (o := .tup [.int (k + (i : Nat)), y]) t.sub e2
    refine ⟨_, s2, T, _, rfl, upd_same, ?_⟩
    rw [enm_get hi']
    exact ⟨rfl, (f xs[i]).up s2.s h7, trivial⟩
  cases t with
  | true => exact .inl ⟨h2, go⟩
  | false => exact .inr ⟨h2, go⟩
theorem i_en1 {w : Wp (List α)} (hm : X.mg "enumerate" = none) (he : QW X B Γ O Z N l f w) (hg : Gl X "enumerate" := by rfl) (hs : starEach [l] X.env = [(false, eval l X.env)] := by rfl) :
    IW X B Γ O Z N (.Tuple elts kk tpos) (.Call (.Name "enumerate" p) [l] [] pos) (tP2 X.K tI f) (W.bind w fun xs => W.ret (enm 0 xs)) := ⟨he.1, fun S H σ st P Rk p k =>
  ⟨_, pi_en1 hg hm (pa_cons pe_w pa_nil hs) hs, he.2 S H σ st _ _ p fun xs q t S1 H1 p1 s1 t1 r1 => ⟨q, rfl, en_go t1 r1 he.1 fun J G g hJ => k _ J G S1 H1 p1 s1 t1 g hJ⟩⟩⟩
end
end OW
namespace OW
open PySem PySem.Spec PyProof.Rows L2 OT NdefX
section
variable {X : Cx} {B : Bs} {Γ : Gm} {O N N1 : Om} {Z : Er → Prop} {p p1 p2 pos pos' apos : Pos} {D : Ends} {rest body els : List Stmt} {α β γ τ : Type} {f : α → MP} {f1 : γ → MP}
def W.compA {γ β : Type} (c : γ → Wp Bool) (g : γ → Wp β) : List γ → List β → Wp (List β)
  | [], acc, Q, _ => Q acc
  | x :: xs, acc, Q, E => c x (fun t => W.ite t (g x (fun y => acc.length < 100000 ∧ W.compA c g xs (acc ++ [y]) Q E) E) (W.compA c g xs acc Q E)) E
def W.comp2 {α β γ : Type} (c : α → Wp Bool) (wi : α → Wp (List γ)) (c1 : α → γ → Wp Bool) (g : α → γ → Wp β) : List α → List β → Wp (List β)
  | [], acc, Q, _ => Q acc
  | x :: xs, acc, Q, E => c x (fun t => W.ite t (wi x (fun zs => W.compA (c1 x) (g x) zs acc (fun acc' => W.comp2 c wi c1 g xs acc' Q E) E) E) (W.comp2 c wi c1 g xs acc Q E)) E
abbrev W.comp2G {α β γ : Type} (c : α → Wp Bool) (wi : α → Wp (List γ)) (c1 : α → γ → Wp Bool) (g : α → γ → Wp β) (xs : List α) : Wp (List β) := fun Q _ => W.comp2 c wi c1 g xs [] Q E0
end
end OW
namespace OW
open PySem PySem.Spec PyProof.Rows L2 OT NdefX
section
variable {prog : Program} {w : World} {A : Around} {E : Value → Shared → Prop} {s : Shared}
theorem tup_collect {l : Addr} {vs : List Value} {Q : List Value → Shared → Prop} (hl : s.heap.IsTuple l vs.toArray) (hsz : vs.length ≤ sizeLine)
    (h : Q vs { s with heap := (s.heap.push (seqObj "list" #[] 0)).update s.heap.objs.size (Obj.mapSeq (· ++ vs.toArray)) }) : wpAny (model prog w) A (collect (.ref l)) Q E s := by
  obtain ⟨o, ho, hc, n, hd⟩ := id hl
  have ho' : (s.heap.push (seqObj "list" #[] 0)).get? l = some o := Heap.get?_push_of_some _ ho
  unfold collect
  refine wpAny_bind (wpAny_runValue (codeAny_builtin entry_proto_collect' (wpAny_bind (wpAny_newList (wpAny_pure ⟨Code.quiet_builtin _ (by decide +kernel), codeAny_builtin entry_list_iadd' ?_⟩)))))
  show wpAny _ _ (Builtin.List.listExtendWith (.ref s.heap.objs.size) (.ref l) (.ref s.heap.objs.size)) _ _ _
  unfold Builtin.List.listExtendWith
  refine wpAny_bind (wpAny_typeOf (T := "tuple") ⟨o, ho', hc⟩ ?_)
  have e2 : (Value.type "tuple" == Value.type "tuple") = true := by rfl
  rw [if_pos (by rw [e2]; simp)]
  refine wpAny_bind (listItems_at ho' hd (wpAny_bind (listItems_at (xs := #[]) (n := 0) (Heap.get?_push_size _ rfl) rfl ?_)))
  rw [if_neg (by simp)]
  refine wpAny_bind (listUpdate_at (xs := #[]) (n := 0) (Heap.get?_push_size _ rfl) rfl (wpAny_pure ?_) (Nat.zero_le _) (by simp; omega))
  refine wpAny_bind (wpAny_load (get?_update_seq (Heap.get?_push_size _ rfl) _) ?_)
  show wpAny _ _ (pure ((#[] : Array Value) ++ vs.toArray).toList) Q E _
  have e3 : ((#[] : Array Value) ++ vs.toArray).toList = vs := by simp
  rw [e3]
  exact wpAny_pure h
theorem tup_sorted {l : Addr} {vs : List Value} {ss : List Str} {Q : Value → Shared → Prop} (hl : s.heap.IsTuple l vs.toArray) (hS : StrsAre vs ss) (h64 : vs.length < 64)
    (h : ∀ (out : Array Value) (ss' : List Str), StrsAre out.toList ss' → ss'.Perm ss → sortedS ss' = true → Q (.ref (s.heap.objs.size + 1)) { s with heap := sortedAll s.heap vs out }) : wpAny (model prog w) A (call (.builtin "sorted") [.ref l]) Q E s := by
  refine Calls.call_function_entry kind_sorted plain_sorted entry_sorted (args_sorted1 _) ?_
  unfold Builtin.«sorted»
  refine wpAny_bind (m := checkCount "sorted" 1 1 _) (wpAny_pure (wpAny_bind (tup_collect hl (small64 h64) (wpAny_bind (wpAny_newList ?_)))))
  generalize e0 : (s.heap.push (seqObj "list" #[] 0)).update s.heap.objs.size (Obj.mapSeq (· ++ vs.toArray)) = h0
  have hz : h0.objs.size = s.heap.objs.size + 1 := by rw [← e0, Heap.size_update, size_push']
  have hL : (h0.push (seqObj "list" vs.toArray 0)).get? (s.heap.objs.size + 1) = some (seqObj "list" vs.toArray 0) := by rw [← hz]; exact Heap.get?_push_size _ rfl
  show wpAny _ _ _ _ _ { s with heap := h0.push (seqObj "list" vs.toArray 0) }
  rw [hz]
  refine wpAny_bind (wpAny_holding (wpAny_call_entry slot_list_sort ⟨_, hL, rfl⟩ entry_list_sort (list_sort_treeK strKind_oneLt hL hS.keysOf (fun v₁ v₂ rest e => keyKind_strs (by rw [← e]; exact hS)) h64 fun st' a1 a2 => ⟨_, rfl, wpAny_pure ⟨_, rfl, ?_⟩⟩) (args_list_sort _)))
  obtain ⟨ss', h1, h2, h3⟩ := sorted_out_str hS a1 a2
  have := h _ ss' h1 h2 h3
  unfold sortedAll at this
  rw [← e0]
  exact this
end
section
variable {X : Cx}
def rSortedT (K : PySem.W.Frag) : List V → Hp → VK → Prop := fun vs H Q => ∃ (a : Addr) (xs : List Str), vs = [V.ref a] ∧ SqT K H a (xs.map V.str) ∧ xs.length < 64 ∧ ∀ (ys : List Str) (p : Addr), ys.Perm xs → sortedS ys = true → H p = none → Q (.ref p) (upd H p (.lst (ys.map V.str)))
theorem cr_sortedST : CallR X (.builtin "sorted") (rSortedT X.K) := by
  intro pins s σ H vs us Q I r h
  obtain ⟨a, xs, rfl, hs, h64, q⟩ := h
  obtain ⟨its, rv, hl, _⟩ := I.tuple hs
  rw [Vals.ref1 r]
  have l0 := rv.length
  rw [List.length_map] at l0
  refine tup_sorted hl rv.strs (by rw [← l0]; exact h64) fun out ys h1 h2 h3 => ?_
  obtain ⟨ep, he⟩ := PyProof.Rows.sortedAll_at s.heap its out
  have l1 : (ys.map V.str).length ≤ sizeLine := by rw [List.length_map, h2.length_eq]; exact small64 h64
  exact ⟨.ref _, upd H (s.heap.objs.size + 1) (.lst (ys.map V.str)), I.laid (t' := s.toks) (fun _ _ => PyProof.Rows.sortedAll_old) (Nat.le_succ _) ⟨l1, out.toList, ep, vals_of_strs h1, he⟩, rfl, q ys _ h2 h3 (I.hok.fresh (Nat.le_succ _))⟩
end
section
variable {X : Cx} {B : Bs} {Γ : Gm} {O N N' : Om} {Z : Er → Prop} {e : Expr} {p pos : Pos}
theorem n_sortedSQ {w : Wp (List Str)} (hm : X.mg "sorted" = none) (ha : RN X B Γ O Z e (rQ X.K tS) w) (hg : Gl X "sorted" := by rfl) (he : starEach [e] X.env = (false, eval e X.env) :: starEach [] X.env := by rfl) : NW X B Γ O Z (.Call (.Name "sorted" p) [e] [] pos) (oLs tS) (W.bind w fun xs => W.grd (xs.length < 64) (srt xs)) :=
  n_callB1 ha (cr_sortedS.or cr_sortedST) (by decide +kernel) (fun xs S H v sm ⟨q, ws, e1, h1, h2⟩ P Q p n => by
    have e3 := strs_of (AllR.toM h2)
    subst e3
    rcases h1 with h1 | h1
    · refine .inl ⟨q, xs, by rw [e1], h1, p.1, fun zs l h3 h4 hl => ?_⟩
      rw [srt_unique h3 h4]
      exact n _ l _ p.2 hl ⟨l, _, [], rfl, rfl, upd_same, AllO.ofS (of_strs _)⟩
    · refine .inr ⟨q, xs, by rw [e1], h1, p.1, fun zs l h3 h4 hl => ?_⟩
      rw [srt_unique h3 h4]
      exact n _ l _ p.2 hl ⟨l, _, [], rfl, rfl, upd_same, AllO.ofS (of_strs _)⟩) hm hg (by decide) (by decide) he
end
end OW
namespace OW
open PySem PySem.Spec PyProof.Rows L2 OT NdefX
theorem FldO.get {f : Str} {P : OP} {S H : Hp} : ∀ {Ps : List (Str × OP)} {A : List Addr} {vs : List (Str × V)}, FldO Ps S H A vs → Ps.lookup f = some P → ∃ v A', vs.lookup f = some v ∧ (∀ a ∈ A', a ∈ A) ∧ P.R S H A' v
  | [], _, _, _, e => by cases e
  | _ :: _, _, [], h, _ => h.elim
  | (g, R) :: Ps, A, (g', v) :: vs, h, e => by
    obtain ⟨e0, A1, A2, z, h1, h2⟩ := h
    have e0' : g = g' := e0
    subst e0'
    subst z
    rw [List.lookup_cons] at e ⊢
    cases q : f == g with
    | true =>
      rw [q] at e
      cases e
      exact ⟨v, A1, rfl, fun a ha => List.mem_append_left _ ha, h1⟩
    | false =>
      rw [q] at e
      obtain ⟨w, A', k1, k2, k3⟩ := FldO.get h2 e
      exact ⟨w, A', k1, fun a ha => List.mem_append_right _ (k2 a ha), k3⟩
section
variable {X : Cx} {B : Bs} {Γ : Gm} {O : Om} {Z : Er → Prop} {p pos : Pos} {α : Type} {fl nm : Str} {C : Addr}
theorem w_fldO (k i : Nat) {u : V} {Ps : List (Str × OP)} {g : α → MP} {v : α} (cl : Cls X.K C) (n : NoAttr X.K C fl) (hO : O[k]? = some (u, oI C Ps) := by rfl) (hf : Ps.lookup fl = some (MP.o (g v)) := by first | rfl | decide +kernel) (hG : Γ[i]? = some (some (tV u)) := by rfl) (hN : X.N[i]? = some nm := by rfl) (hv : Vis X.env.scope nm := by first | exact Or.inl rfl | exact Or.inr (Or.inl rfl) | exact Or.inr (Or.inr rfl))
    (hd : (nm == ("__debug__" : Str)) = false := by decide) (hcd : (nm == ("__classdict__" : Str)) = false := by decide) (hb : attributeBase (.Name nm p) fl X.env (eval (.Name nm p) X.env) = eval (.Name nm p) X.env := by rfl) : EW X B Γ O Z (.Attribute (.Name nm p) fl pos) g (W.ret v) := fun S H σ st P Q pp nn =>
  ⟨_, pe_fld (pe_var hN hv hd hcd) hb, by
    obtain ⟨u', h1, h2⟩ := st.slot i _ hG
    have h2' : u' = u := h2
    subst h2'
    obtain ⟨A, y, dx, fs, A', e1, e2, e3, e4, e5⟩ := st.at_ (x := (u', oI C Ps)) (List.mem_of_getElem? hO)
    have e1' : u' = .ref y := e1
    subst e1'
    obtain ⟨w, A2, k1, k2, k3⟩ := e5.get hf
    exact ⟨_, h1, y, C, dx, fs, w, rfl, e3, cl, n, k1, nn v w S H pp (Same.refl _) st k3.2⟩⟩
end
theorem bQ_eq {K : PySem.W.Frag} {α : Type} {f : α → MP} {xs : List α} {S H : Hp} {v : V} (h : (rQ K f xs).R S H v) : (OT.bQ K (xs.map f)).R S H v := by
  obtain ⟨a, vs, h1, h2, h3⟩ := h
  exact ⟨a, vs, h1, h2, AllR.toM h3⟩
end OW
namespace OW
open PySem PySem.Spec PySem.W PyProof.Rows L2 OT
section
variable {prog : Program} {w : World} {κ : Type} [DecidableEq κ] {knd : KeyKind prog w κ} {A : Around} {E : Value → Shared → Prop}
theorem pairs_loop {nm : String} {a b : Addr} {oa ob : Obj} {es es' : Array DictEntry} {ep ep' : Nat} {ka kb : List (κ × Value)} {f : κ → Bool} {J : Shared → Prop} {Q : Bool → Shared → Prop} (ha : (a == sysModules) = false) (hb : (b == sysModules) = false)
    (hda : oa.data = .dict es ep) (hdb : ob.data = .dict es' ep') (hka : KeysOf knd es) (hkb : KeysOf knd es') (hpa : Pairs knd es.toList ka) (hpb : Pairs knd es'.toList kb) (ga : ∀ s, J s → s.heap.get? a = some oa) (gb : ∀ s, J s → s.heap.get? b = some ob)
    (turn : ∀ k v y, (k, v) ∈ ka → valueAt kb k = some y → ∀ s, J s → wpAny (model prog w) A (eqBool v y) (fun r s' => r = f k ∧ J s') E s)
    (fin : ∀ s, J s → Q (ka.length == kb.length && ka.all fun p => (valueAt kb p.1).isSome && f p.1) s) {s : Shared} (j0 : J s) : wpAny (model prog w) A (Builtin.Dict.samePairs nm a b) Q E s := by
  have la : ka.length = es.size := by rw [← hpa.length]; exact Array.length_toList
  have lb : kb.length = es'.size := by rw [← hpb.length]; exact Array.length_toList
  have look : ∀ k, findBy knd.is es' k = valueAt kb k := fun k => by
    rw [← hpb.find k]
    clear lb hpb hkb hdb
    obtain ⟨l⟩ := es'
    simp [findBy]
  unfold Builtin.Dict.samePairs Builtin.Dict.showsAll
  rw [if_neg (by rw [ha]; exact Bool.false_ne_true), if_neg (by rw [hb]; exact Bool.false_ne_true)]
  refine wpAny_bind (wpAny_pure (wpAny_bind (wpAny_pure (wpAny_bind (wpAny_dictEntries (ga s j0) hda ?_)))))
  dsimp only
  refine wpAny_bind (wpAny_dictEntries (gb s j0) hdb ?_)
  by_cases hz : es.size = es'.size
  case neg =>
    rw [if_pos (by simpa using hz)]
    have hf := fin s j0
    rw [la, lb, show (es.size == es'.size) = false from by simpa using hz, Bool.false_and] at hf
    exact wpAny_bind (wpAny_rule (wpAny_pure hf))
  rw [if_neg (by rw [hz]; simp)]
  have fin' : ∀ s, J s → Q (ka.all fun p => (valueAt kb p.1).isSome && f p.1) s := fun s j => by
    have := fin s j
    rw [la, lb, show (es.size == es'.size) = true from by simpa using hz, Bool.true_and] at this
    exact this
  refine wpAny_bind (wpAny_dictEpoch (ga s j0) hda (wpAny_bind ?_))
  rw [Std.Legacy.Range.forIn_eq_forIn_range']
  simp only [Std.Legacy.Range.size, Nat.sub_zero, Nat.add_sub_cancel, Nat.div_one]
  refine wpAny_forIn_list _ (fun rest q s' => J s' ∧ q = (none, ()) ∧ ∃ i, rest = List.range' i (es.size - i) ∧ i ≤ es.size ∧ ∀ s, J s → Q ((ka.drop i).all fun p => (valueAt kb p.1).isSome && f p.1) s) _ ?_ ?_ _ _ ⟨j0, rfl, 0, by simp, Nat.zero_le _, fun s j => fin' s j⟩
  · rintro x rest q s' ⟨j1, rfl, i, hr, hi, fi⟩
    have hlt : i < es.size := by
      rcases Nat.lt_or_ge i es.size with h | h
      · exact h
      · rw [Nat.sub_eq_zero_of_le h] at hr; simp at hr
    have hs1 : es.size - i = (es.size - (i + 1)) + 1 := by omega
    rw [hs1, List.range'_succ] at hr
    injection hr with hx hrest
    subst hx
    have hlt' : x < ka.length := by rw [la]; exact hlt
    obtain ⟨k, v, hkv⟩ : ∃ k v, ka[x] = (k, v) := ⟨_, _, rfl⟩
    have hmem : (k, v) ∈ ka := by rw [← hkv]; exact List.getElem_mem hlt'
    have hdrop : ka.drop x = (k, v) :: ka.drop (x + 1) := by rw [← hkv]; exact List.drop_eq_getElem_cons hlt'
    rw [hdrop, List.all_cons] at fi
    obtain ⟨hkey, hval⟩ := hpa.get? (i := x) (e := es[x]) (k := k) (v := v) (by rw [Array.getElem?_toList]; exact Array.getElem?_eq_getElem hlt) (by rw [List.getElem?_eq_getElem hlt', hkv])
    obtain ⟨k', hk', hh⟩ := hka es[x] (Array.getElem_mem hlt)
    rw [knd.inj _ _ _ hk' hkey] at hh
    refine wpAny_bind (wpAny_dictEntries (ga s' j1) hda ?_)
    rw [Array.getElem?_eq_getElem hlt]
    show wpAny _ _ (holding [es[x].key, es[x].val] _ >>= _) _ _ _
    rw [hh]
    refine wpAny_bind (wpAny_holding (wpAny_bind (wpAny_dictFind_of hkey (gb s' j1) hdb hkb ?_)))
    cases hj : es'.findIdx? fun e => knd.is k e.key with
    | none =>
      have hn : valueAt kb k = none := by rw [← look k, findBy_of_findIdx?, hj]
      rw [hn] at fi
      refine wpAny_pure ?_
      show wpAny _ _ (if (!false) = true then _ else _) _ _ _
      rw [if_pos (by decide)]
      exact wpAny_pure (wpAny_pure (by simpa using fi s' j1))
    | some j =>
      obtain ⟨hjl, _, _⟩ := Array.findIdx?_eq_some_iff_getElem.mp hj
      have hv : valueAt kb k = some es'[j].val := by
        rw [← look k, findBy_of_findIdx?, hj]
        simp [Array.getElem?_eq_getElem hjl]
      rw [hv] at fi
      refine wpAny_bind (wpAny_dictEntries (gb s' j1) hdb ?_)
      rw [Array.getElem?_eq_getElem hjl]
      refine wpAny_holding ?_
      rw [hval]
      refine wpAny_mono (turn k v _ hmem hv s' j1) (fun r s2 ⟨er, j2⟩ => ?_) fun _ _ z => z
      subst er
      cases e : f k with
      | false =>
        show wpAny _ _ (if (!false) = true then _ else _) _ _ _
        rw [if_pos (by decide)]
        exact wpAny_pure (wpAny_pure (by simpa [e] using fi s2 j2))
      | true =>
        show wpAny _ _ (if (!true) = true then _ else _) _ _ _
        rw [if_neg (by decide)]
        refine wpAny_bind (wpAny_dictEpoch (ga s2 j2) hda ?_)
        rw [if_neg (by simp)]
        exact wpAny_pure ⟨j2, rfl, x + 1, hrest, hlt, fun s j => by simpa [e] using fi s j⟩
  · rintro q s' ⟨j1, rfl, i, hr, hi, fi⟩
    have hin : i = es.size := by
      rcases Nat.lt_or_ge i es.size with h | h
      · have hs1 : es.size - i = (es.size - (i + 1)) + 1 := by omega
        rw [hs1, List.range'_succ] at hr; exact nomatch hr
      · exact Nat.le_antisymm hi h
    rw [hin, ← la, List.drop_length] at fi
    exact wpAny_pure (fi s' j1)
end
section
variable {X : Cx}
theorem RcN.dictEq {n : Nat} {a b : Addr} {oa ob : Obj} {ks ls : List (Key × V)} {f : Key → Bool} {H : Hp} {r : Bool} (ha : H a = some (.frz oa (.dK ks))) (hb : H b = some (.frz ob (.dK ls))) (h : (ks.map (·.1)).Nodup → ∀ p ∈ ks, ∀ y, valV ls p.1 = some y → EqN X n p.2 y (f p.1) H) (hr : (ks.map (·.1)).Nodup → (ks.length == ls.length && ks.all fun p => (valV ls p.1).isSome && f p.1) = r) :
    RcN X .Eq (n + 1) (.ref a) (.ref b) r H := fun A pins s σ H0 u v e0 sb I rx ry => by
  cases rx
  cases ry
  obtain ⟨s1, g1, x1, es, ep, va, d1, z1, kv1, m1⟩ := I.frzK (e0 _ _ ha)
  obtain ⟨s2, g2, x2, es', ep', vb, d2, z2, kv2, m2⟩ := I.frzK (e0 _ _ hb)
  have ta := m1.dictOf.typeIs
  have tb := m2.dictOf.typeIs
  obtain ⟨o1, fs1, h1, _, e1, k1, p1, nd0⟩ := m1
  rw [g1] at h1
  cases h1
  obtain ⟨rfl, _⟩ := dict_ep d1 e1
  obtain ⟨o2, fs2, h2, _, e2, k2, p2, _⟩ := m2
  rw [g2] at h2
  cases h2
  obtain ⟨rfl, _⟩ := dict_ep d2 e2
  refine wpAny_richCompare_same_room (op := .Eq) ta tb PySem.F.slot_dict_eq (wpAny_call_entry PySem.F.slot_dict_eq ta PySem.F.entry_dict_eq ?_ (PySem.F.args_dict_eq_2 _ _)) sb.room.units0
  show wpAny _ _ (Builtin.Dict.dictSlotArgs "__eq__" ⟨[.ref a, .ref b], []⟩ >>= _) _ _ s
  refine wpAny_bind ?_
  unfold Builtin.Dict.dictSlotArgs
  refine wpAny_bind (wpAny_notOrdered_dict ta ?_)
  show wpAny _ _ (pure (Value.ref a, Value.ref b)) _ _ s
  refine wpAny_pure (wpAny_bind (wpAny_isInstance (T := "dict") tb PySem.F.sub_dict_dict ?_))
  simp only [Bool.not_true, Bool.false_eq_true, if_false]
  refine wpAny_bind (wpAny_pure (wpAny_bind (wpAny_pure ?_)))
  have l1 : ks.length = va.length := Paired.length kv1
  have nd : (ks.map (·.1)).Nodup := by
    have : ∀ {ks : List (Key × V)} {va : List (Key × Value)}, KV ks va → va.map (·.1) = ks.map (·.1) := by
      intro ks va kv
      unfold KV at kv
      induction kv with
      | nil => rfl
      | cons hh t ih => rw [List.map_cons, List.map_cons, ih, hh.1]
    rw [← this kv1]
    exact nd0
  have l2 : ls.length = vb.length := Paired.length kv2
  have look : ∀ k, (valueAt vb k).isSome = (valV ls k).isSome := fun k => by
    have rr : RelO (valV ls k) (valueAt vb k) := kv2.val k
    cases q : valV ls k with
    | none => rw [q] at rr; rw [rr.none_of]; rfl
    | some y =>
      rw [q] at rr
      obtain ⟨z, hz, _⟩ := rr.some_of
      rw [hz]; rfl
  have tot : ∀ {ks : List (Key × V)} {va : List (Key × Value)}, KV ks va → (va.all fun p => (valueAt vb p.1).isSome && f p.1) = ks.all fun p => (valV ls p.1).isSome && f p.1 := by
    intro ks va kv
    unfold KV at kv
    induction kv with
    | nil => rfl
    | @cons p q ps qs hh t ih =>
      rw [List.all_cons, List.all_cons, ih, ← hh.1, look]
  refine wpAny_bind (pairs_loop (f := f) (J := fun s' => ∃ H1, Inv X pins σ H1 s' ∧ Ext H0 H1) s1 s2 d1 d2 k1 k2 p1 p2 (fun s' ⟨H1, I1, e1⟩ => (I1.frzK (e1 _ _ (e0 _ _ ha))).2.1) (fun s' ⟨H1, I1, e1⟩ => (I1.frzK (e1 _ _ (e0 _ _ hb))).2.1) (fun k v y hm hy s' ⟨H1, I1, e1⟩ => ?_) (fun s' hj => ?_) ⟨H0, I, Ext.rfl'⟩)
  · have hk : ∃ p ∈ ks, p.1 = k ∧ RelV p.2 v := by
      have : ∀ {ks : List (Key × V)} {va : List (Key × Value)}, KV ks va → (k, v) ∈ va → ∃ p ∈ ks, p.1 = k ∧ RelV p.2 v := by
        intro ks va kv
        unfold KV at kv
        induction kv with
        | nil => intro h; cases h
        | @cons p q ps qs hh t ih =>
          intro h
          rcases List.mem_cons.mp h with z | z
          · subst z
            exact ⟨p, List.mem_cons_self, hh.1, hh.2⟩
          · obtain ⟨p', m, r⟩ := ih z
            exact ⟨p', List.mem_cons_of_mem _ m, r⟩
      exact this kv1 hm
    obtain ⟨p, hp, rfl, rv⟩ := hk
    have rr : RelO (valV ls p.1) (valueAt vb p.1) := kv2.val p.1
    rw [hy] at rr
    cases q : valV ls p.1 with
    | none => rw [q] at rr; exact nomatch rr.none_of
    | some y' =>
      rw [q] at rr
      obtain ⟨z, hz, rz⟩ := rr.some_of
      cases hz
      refine wpAny_mono (h nd p hp y' q A.in1 pins s' σ H1 v y (fun c o hc => e1 c o (e0 c o hc)) sb.in1 I1 rv rz) (fun r s2 ⟨er, H2, I2, e2⟩ => ⟨er, H2, I2, e1.trans e2⟩) fun _ _ z => z
  · refine wpAny_pure ⟨_, rfl, (fun x => nomatch x), ?_, hj⟩
    have hr' := hr nd
    rw [← hr', l1, l2, tot kv1]
    simp
end
section
variable {X : Cx} {α : Type} [DecidableEq α] {f : α → MP} {n : Nat}
def deq (xs ys : List (Str × α)) : Bool := xs.length == ys.length && xs.all fun p => decide (dget ys p.1 = some p.2)
theorem KvM.look {S : Hp} {k : Str} : ∀ {xs : List (Str × α)} {vs : List (Key × V)}, KvM (xs.map fun q => (kS q.1, f q.2)) S vs → (∀ x, dget xs k = some x → ∃ v, valV vs (kS k) = some v ∧ (f x).R S v) ∧ (dget xs k = none → valV vs (kS k) = none)
  | [], [], _ => ⟨(fun x h => by cases h), fun _ => rfl⟩
  | [], _ :: _, h => h.elim
  | _ :: _, [], h => h.elim
  | (j, y) :: xs, (j', w) :: vs, h => by
    obtain ⟨e, h1, h2⟩ := h
    have e' : kS j = j' := e
    subst e'
    obtain ⟨i1, i2⟩ := KvM.look (k := k) h2
    by_cases q : j = k
    · subst q
      refine ⟨fun x hx => ⟨w, valV_pos rfl, ?_⟩, fun hx => ?_⟩
      · have : y = x := by simpa [dget, List.find?_cons] using hx
        exact this ▸ h1
      · simp [dget, List.find?_cons] at hx
    · have d : dget ((j, y) :: xs) k = dget xs k := by simp [dget, List.find?_cons, q]
      have v : valV ((kS j, w) :: vs) (kS k) = valV vs (kS k) := valV_neg (fun z => q (Sum.inr.inj z))
      rw [d, v]
      exact ⟨i1, i2⟩
theorem dget_mem {xs : List (Str × α)} {p : Str × α} (nd : (xs.map (·.1)).Nodup) (h : p ∈ xs) : dget xs p.1 = some p.2 := by
  induction xs with
  | nil => cases h
  | cons a xs ih =>
    obtain ⟨n1, n2⟩ := List.nodup_cons.mp nd
    rcases List.mem_cons.mp h with z | z
    · subst z
      simp [dget, List.find?_cons]
    · have ne : a.1 ≠ p.1 := fun e => n1 (List.mem_map.mpr ⟨p, z, e.symm⟩)
      have := ih n2 z
      simpa [dget, List.find?_cons, ne] using this
theorem nodup_of_map {β γ : Type} {g : β → γ} : ∀ {l : List β}, (l.map g).Nodup → l.Nodup
  | [], _ => .nil
  | a :: l, h => by
    rw [List.map_cons] at h
    obtain ⟨n1, n2⟩ := List.nodup_cons.mp h
    exact List.nodup_cons.mpr ⟨fun q => n1 (List.mem_map.mpr ⟨a, q, rfl⟩), nodup_of_map n2⟩
theorem rcm_dict (h : En X n f) (xs ys : List (Str × α)) : RcM X .Eq (n + 1) (tDs f xs).b (tDs f ys).b (deq xs ys) := fun S H u v sm ⟨a, oa, vs, e1, h1, h2⟩ ⟨b, ob, ws, e2, g1, g2⟩ => by
  subst e1 e2
  have keys : ∀ {xs : List (Str × α)} {vs : List (Key × V)}, KvM (xs.map fun q => (kS q.1, f q.2)) S vs → vs.map (·.1) = xs.map fun q => kS q.1 := by
    intro xs
    induction xs with
    | nil => intro vs h; cases vs with
      | nil => rfl
      | cons _ _ => exact h.elim
    | cons q xs ih => intro vs h; cases vs with
      | nil => exact h.elim
      | cons w vs => rw [List.map_cons, List.map_cons, ih h.2.2, ← h.1]
  have nd' : (vs.map (·.1)).Nodup → (xs.map (·.1)).Nodup := fun nd => by
    rw [keys h2] at nd
    have : (xs.map fun q => kS q.1) = (xs.map (·.1)).map kS := by rw [List.map_map]; rfl
    rw [this] at nd
    exact nodup_of_map nd
  have mem : ∀ {xs : List (Str × α)} {vs : List (Key × V)}, KvM (xs.map fun q => (kS q.1, f q.2)) S vs → ∀ p ∈ vs, ∃ q ∈ xs, p.1 = kS q.1 ∧ (f q.2).R S p.2 := by
    intro xs
    induction xs with
    | nil => intro vs h; cases vs with
      | nil => intro p hp; cases hp
      | cons _ _ => exact h.elim
    | cons q xs ih => intro vs h; cases vs with
      | nil => exact h.elim
      | cons w vs =>
        intro p hp
        rcases List.mem_cons.mp hp with z | z
        · subst z
          exact ⟨q, List.mem_cons_self, h.1.symm, h.2.1⟩
        · obtain ⟨q', m, r⟩ := ih h.2.2 p z
          exact ⟨q', List.mem_cons_of_mem _ m, r⟩
  refine RcN.dictEq (f := fun k => match k with | .inr k => decide (dget xs k = dget ys k) | _ => false) (sm _ _ h1) (sm _ _ g1) (fun nd p hp y hy => ?_) fun nd => ?_
  · obtain ⟨q, hq, e, r⟩ := mem h2 p hp
    have d1 := dget_mem (nd' nd) hq
    rw [e] at hy ⊢
    show EqN X n p.2 y (decide (dget xs q.1 = dget ys q.1)) H
    obtain ⟨i1, i2⟩ := KvM.look (k := q.1) g2
    cases d2 : dget ys q.1 with
    | none => rw [i2 d2] at hy; cases hy
    | some z =>
      obtain ⟨y', hy', r'⟩ := i1 z d2
      rw [hy] at hy'
      cases hy'
      rw [d1]
      have := h.eq q.2 z S H p.2 y sm r r'
      simpa using this
  · have l1 : vs.length = xs.length := by have := congrArg List.length (keys h2); simpa using this
    have l2 : ws.length = ys.length := by have := congrArg List.length (keys g2); simpa using this
    unfold deq
    rw [l1, l2]
    congr 1
    have all : ∀ {as : List (Str × α)} {us : List (Key × V)}, KvM (as.map fun q => (kS q.1, f q.2)) S us → (∀ p ∈ as, dget xs p.1 = some p.2) → (us.all fun p => (valV ws p.1).isSome && (match p.1 with | .inr k => decide (dget xs k = dget ys k) | _ => false)) = as.all fun p => decide (dget ys p.1 = some p.2) := by
      intro as
      induction as with
      | nil => intro us h _; cases us with
        | nil => rfl
        | cons _ _ => exact h.elim
      | cons q as ih => intro us h hd; cases us with
        | nil => exact h.elim
        | cons w us =>
          have e : kS q.1 = w.1 := h.1
          rw [List.all_cons, List.all_cons, ih h.2.2 fun p hp => hd p (List.mem_cons_of_mem _ hp)]
          congr 1
          rw [← e]
          show ((valV ws (kS q.1)).isSome && decide (dget xs q.1 = dget ys q.1)) = _
          obtain ⟨i1, i2⟩ := KvM.look (k := q.1) g2
          rw [hd q List.mem_cons_self]
          cases d2 : dget ys q.1 with
          | none => rw [i2 d2]; rfl
          | some z =>
            obtain ⟨y', hy', _⟩ := i1 z d2
            rw [hy']
            simp [eq_comm]
    exact all h2 fun p hp => dget_mem (nd' nd) hp
end
section
variable {X : Cx} {B : Bs} {Γ : Gm} {O N N' : Om} {Z : Er → Prop} {a b : Expr} {pos : Pos} {α : Type} [DecidableEq α] {f : α → MP} {n : Nat} {wa wb : Wp (List (Str × α))}
theorem w_eqD (ha : EW X B Γ O Z a (tDs f) wa) (hb : EW X B Γ O Z b (tDs f) wb) (h : En X n f) (hr : Room (n + 1) X.A) : EW X B Γ O Z (.Compare a [.Eq] [b] pos) OT.tB (W.bind wa fun x => W.bind wb fun y => W.ret (deq x y)) := w_cmpR _ (op_eqN hr) ha.rb hb.rb.rn (nomark _) (rcN_go (rcm_dict h))
end
end OW
namespace OW
open PySem PySem.Spec PyProof.Rows L2 OT NdefX
section
variable {X : Cx} {B : Bs} {Γ : Gm} {O N N' : Om} {Z : Er → Prop} {e a b c o : Expr} {es : List Expr} {p pos pos' apos : Pos} {α β : Type} {C : Addr} {k : Nat} {ps : List Str} {Dt ρ : Type} {As : Dt → List AP} {wp : Dt → Wp ρ} {res : ρ → RP} {Ms : ρ → List OP} {bo : α → BP} {wo : Wp α}
theorem in_go0 {as : List AA} (d : Dt) (hA : ArgM as (As d) []) {S H : Hp} {σ : L2.St} (t : Stt B Γ O S H σ) {vs : List V} (hv : ∀ Γ2 O2 S2 H2 σ2, Same S S2 → Stt B Γ2 O2 S2 H2 σ2 → (∀ x ∈ O, x ∈ O2) → AllA as S2 H2 vs)
    {P : ρ → Prop} {Q : VK} {f : ρ → MP} (hf : ∀ r, res r = .v (f r)) (hw : wp d P E0) (hQ : ∀ r v S' H', P r → Same S S' → Stt B Γ O S' H' σ → (f r).R S' v → Q v H') : spW X.K As wp res Ms vs H Q (fun _ _ _ => False) :=
  call_go (X := X) (N := O) (M := []) (R := O) (hd0 (X := X) (B := B) (Γ := Γ) (O := O)) d hA (.refl _) (fun _ h => h) t hv hw fun r v S' H' p s h => by
    rw [hf r] at h
    exact hQ r v S' H' p s h.1 h.2
section
variable {wp : Dt → Wp Bool} {res : Bool → RP} {Ms : Bool → List OP} {ba : β → BP} {wa : Wp β}
theorem own_eq (d : β → α → Dt) (ha : RW X B Γ O Z N a ba wa) (hb : RW X B Γ O Z N' b bo wo) (hi : ∀ y, InsB C "__eq__" (bo y)) (hj : ∀ x, InsB C "__eq__" (ba x)) (hA : ∀ x y, ArgM [.b (ba x), .b (bo y)] (As (d x y)) []) (hf : ∀ r, res r = .v (OT.tB r))
    {S H : Hp} {σ : L2.St} (st : Stt B Γ O S H σ) {P : Bool → Prop} {Q : VK} (p : W.bind wa (fun x => W.bind wo fun y Q _ => wp (d x y) Q E0) P Z) (n : ∀ r S' H', P r → Same S S' → Stt B Γ O S' H' σ → Q (.bl r) H') :
    wE X a σ H fun u H1 => wE X b σ H1 fun v H2 => rEqOwn X.K C (spW X.K As wp res Ms) (fun _ _ _ => False) u v H2 Q := by
  refine ha.2 S H σ st _ _ p fun x u S1 H1 p1 s1 t1 r1 => hb.2 S1 H1 σ t1 _ _ p1 fun y v S2 H2 p2 s2 t2 r2 => ?_
  obtain ⟨q, dy, fs, rfl, hy, _⟩ := hi y S2 H2 v t2.sub (r2 _ _ S2 H2 _ (Same.refl _) t2 hb.1)
  obtain ⟨q2, dy2, fs2, rfl, hy2, _⟩ := hj x S2 H2 u t2.sub (r1 _ _ S2 H2 _ s2 t2 ha.1)
  refine ⟨q2, q, dy2, dy, fs2, fs, rfl, rfl, hy2, hy, in_go0 (X := X) (vs := [.ref q2, .ref q]) (d x y) (hA x y) t2 (fun Γ3 O3 S3 H3 σ3 s3 t3 hn => ⟨r1 _ _ S3 H3 _ (s2.trans s3) t3 fun z hz => hn z (ha.1 z hz), r2 _ _ S3 H3 _ s3 t3 fun z hz => hn z (hb.1 z hz), trivial⟩) hf p2 fun r v S' H' p3 s3 t3 r3 => ?_⟩
  exact ⟨r, r3, n _ S' H' p3 ((s1.trans s2).trans s3) t3⟩
theorem w_owneq (G : GM X.prog X.w X.K X.mg X.base C "__eq__" k ps (spW X.K As wp res Ms)) (hr : Room k X.A) (d : β → α → Dt) (ha : RW X B Γ O Z N a ba wa) (hb : RW X B Γ O Z N' b bo wo) (hi : ∀ y, InsB C "__eq__" (bo y)) (hj : ∀ x, InsB C "__eq__" (ba x)) (hA : ∀ x y, ArgM [.b (ba x), .b (bo y)] (As (d x y)) []) (hf : ∀ r, res r = .v (OT.tB r) := by intro _; rfl) : EW X B Γ O Z (.Compare a [.Eq] [b] pos) OT.tB (W.bind wa fun x => W.bind wo fun y Q _ => wp (d x y) Q E0) := by
  obtain ⟨g, fd, G, M, hbb⟩ := G
  exact fun S H σ st P Q p n => ⟨_, pe_cmpR (eq_own M G hr hbb pass_none) pe_w pe_w (nomark _), own_eq d ha hb hi hj hA hf st p fun r S' H' p1 s1 t1 => n r _ S' H' p1 s1 t1 rfl⟩
end
theorem w_bty {v : V} {u : Value} (hm : X.mg x = none) (hv : bootBuiltins x = some u) (r : RelV v u) (hg : Gl X x := by rfl) (hn : x ≠ "__name__" := by decide) (hd : (x == ("__debug__" : Str)) = false := by decide) : EW X B Γ O Z (.Name x pos) (fun _ : Unit => tV v) (W.ret ()) := fun S H σ st P Q p n => ⟨_, pe_bltn hg hm hv r hn hd, n () _ S H p (Same.refl _) st rfl⟩
theorem w_isi {cv : V} {t u : Value} {kk : Bool} (hm : X.mg "isinstance" = none) (ha : RW X B Γ O Z N a bo wo) (hc : EW X B Γ O Z c (fun _ : Unit => tV cv) (W.ret ())) (kc : ClsV cv u) (ty : ∀ y S H v, Same S H → (bo y).R S H v → TyX X.K H v t) (e : PySem.W.kitOne X.K t u = some kk) (hg : Gl X "isinstance" := by rfl)
    (hs : starEach [a, c] X.env = (false, eval a X.env) :: starEach [c] X.env := by rfl) (hs2 : starEach [c] X.env = (false, eval c X.env) :: starEach [] X.env := by rfl) (hpl : (backTo pos (starEach [c] X.env)).any (·.1) = false := by rfl) : EW X B Γ O Z (.Call (.Name "isinstance" p) [a, c] [] pos) OT.tB (W.bind wo fun _ => W.ret kk) := fun S H σ st P Q p n =>
  ⟨_, pe_callB call_isi hg hm (by decide +kernel) (pa_cons pe_w (pa_cons pe_w pa_nil hs2) hs) (by decide) (by decide) hs hpl, ha.2 S H σ st _ _ p fun y v S1 H1 p1 s1 t1 r1 => hc S1 H1 σ t1 (fun _ => True) _ trivial fun _ cv' S2 H2 _ s2 t2 r2 => by
    have r2' : cv' = cv := r2
    subst r2'
    exact ⟨v, cv', t, u, kk, rfl, kc, ty y S2 H2 v t2.sub (r1 _ _ S2 H2 _ s2 t2 ha.1), e, n _ _ S2 H2 p1 (s1.trans s2) t2 rfl⟩⟩
end
end OW
namespace OW
end OW
namespace OW
open PySem PySem.Spec PyProof.Rows L2 OT NdefX
section
variable {X : Cx} {B : Bs} {Γ : Gm} {O N : Om} {Z : Er → Prop} {e : Expr} {p pos pos' : Pos} {D : Ends} {rest : List Stmt} {x : Str} {Wx : WX} {k : Nat} {ps : List Str} {fs : List Str → List (Str × MP)}
theorem s_raiseL {w w' : Wp (List Str)} (er : List Str → Er) (G : GE X.prog X.w X.K X.mg X.base x (He.ga X.K x) k ps (spEx (He.ga X.K x) (fun d : List Str => [OT.bQ X.K (d.map tS)]) (fun _ => True) fs)) (hr : Room (k + 1) X.A) (hd : Hd X B Γ O Z Wx) (he : RW X B Γ O Z N e (rQ X.K tS) w') (hi : ∀ t, (er t).info X.K = (x, fs t) := by intro _; rfl) (hw : w' = w := by rfl)
    (hg : Gl X x := by rfl) (hc : X.calm = true := by rfl) (hdb : (x == ("__debug__" : Str)) = false := by decide) (hs : starEach [e] X.env = (false, eval e X.env) :: starEach [] X.env := by rfl) (hpl : (backTo pos (starEach [] X.env)).any (·.1) = false := by rfl) :
    SW X B Γ O (.Raise (some (.Call (.Name x p) [e] [] pos)) none pos' :: rest) D (W.run w Z fun t => Z (er t)) := fun hq =>
  s_raiseG (w := W.bind w' fun x => W.bind (W.ret ()) fun y => W.ret (x, y)) (fun z : List Str × Unit => er z.1) G hr hd (fun z => z.1) (a_consR (f := fun z : List Str => OT.bQ X.K (List.map tS z)) (RW.imp he fun _ _ _ _ _ h => bQ_eq h) a_nil hs) (fun _ => rfl) (fun z => hi z.1) rfl (fun _ => Nat.le_of_ble_eq_true rfl) hg hc hdb hs hpl (by
    subst hw
    have : (fun t => Z (er t)) = fun t => True ∧ Z (er t) := by funext t; simp
    rw [this] at hq
    exact hq)
end
end OW
namespace OW
open PySem PySem.Spec PyProof.Rows L2 OT NdefX
section
variable {X : Cx} {B : Bs} {Γ : Gm} {O : Om} {Z : Er → Prop} {e : Expr} {α : Type} {f : α → MP}
theorem EW.at {w' : Wp α} (w : Wp α) (h : EW X B Γ O Z e f w') (hw : w' = w := by rfl) : EW X B Γ O Z e f w := hw ▸ h
theorem TW.at {w' : Wp Bool} (w : Wp Bool) (h : TW X B Γ O Z e w') (hw : w' = w := by rfl) : TW X B Γ O Z e w := hw ▸ h
end
end OW
namespace OW
open PySem PySem.Spec PyProof.Rows L2 OT NdefX
open PySem.Builtin.Int (intBits)
def mPool : MO := ⟨fun _ o => ∃ x n b, o = .lst [.int x, .int n, .bl b], fun _ h => h⟩
theorem pool_open : ∀ S o, mPool.R S o → ∃ i : Int × Int × Bool, (mL [tI i.1, tI i.2.1, OT.tB i.2.2]).R S o := fun S o ⟨x, n, b, e⟩ => ⟨(x, n, b), _, e, rfl, rfl, rfl, trivial⟩
theorem pool_close {x n : Int} {b : Bool} : ∀ S o, (mL [tI x, tI n, OT.tB b]).R S o → mPool.R S o := fun S o ⟨vs, e, h⟩ => by
  match vs, h with
  | [u, v, t], h => exact ⟨x, n, b, by rw [e, show u = .int x from h.1, show v = .int n from h.2.1, show t = .bl b from h.2.2.1]⟩
def oPool : OP := ⟨fun S H A v => ∃ p o, v = .ref p ∧ A = [p] ∧ H p = some o ∧ mPool.R S o, fun {S S' H H' A v} e hA ⟨p, o, h1, h2, h3, h4⟩ => ⟨p, o, h1, h2, by rw [hA p (by rw [h2]; exact List.mem_cons_self)]; exact h3, h4⟩⟩
abbrev wPool (_ : Int) : Wp Unit := fun Q _ => Q ()
abbrev wTake (l : Int) : Wp Int := fun Q _ => (0 < l ∧ intBits l ≤ 9000) ∧ ∀ a, 0 ≤ a → a < l → Q a
theorem pool_sp {K : PySem.W.Frag} {vs : List V} {H : Hp} {Q : VK} {E : XK} (h : spW K (fun d : Int => [.b (tI d).b]) wPool (fun _ : Unit => .o oPool) (fun _ => []) vs H Q E) : spD (D := Int) (fun d => [bI d]) (fun _ => .new mPool) vs H Q E := by
  obtain ⟨d, S, A, P, Z, h⟩ := h
  have ar := h.ar
  match vs, ar with
  | [v], ar =>
    obtain ⟨a1, a2⟩ := ar
    have a2 : A = [] := a2
    subst a2
    refine ⟨d, S, h.sm, ⟨a1, trivial⟩, fun p o S' H' st n1 n2 h1 h2 => h.q () (.ref p) S' H' h.w ?_⟩
    exact ⟨st, (fun i R e => by simp at e), rfl, ⟨[p], by simp, fun a ha => by
      rw [List.mem_singleton] at ha
      subst ha
      exact ⟨n2, n1, by rw [h1]; simp⟩, [p], [], rfl, ⟨p, o, rfl, rfl, h1, h2⟩, rfl⟩, trivial⟩
abbrev Lim : Type := { l : Int // 0 < l ∧ intBits l ≤ 9000 }
theorem take_sp {K : PySem.W.Frag} {vs : List V} {H : Hp} {Q : VK} {E : XK} (h : spW K (fun d : Int => [.o oPool, .b (tI d).b]) wTake (fun a : Int => .v (tI a)) (fun _ => [oPool]) vs H Q E) : spM (D := Lim) (ι := Int) mPool (fun d => [bI d.1]) (fun d i => 0 ≤ i ∧ i < d.1) (fun _ i => tI i) vs H Q E := by
  obtain ⟨d, S, A, P, Z, h⟩ := h
  obtain ⟨hl, hw⟩ := h.w
  have ar := h.ar
  match vs, ar with
  | [u, v], ar =>
    obtain ⟨A1, A2, e, ⟨p, o, e1, e2, h1, h2⟩, h3, h4⟩ := ar
    have h4 : A2 = [] := h4
    subst h4 e2 e1
    subst e
    have em : minus H ([p] ++ []) = del H p := by
      funext b
      unfold minus del
      by_cases q : b = p
      · simp [q]
      · simp [q]
    have hS := (h.fr p (by simp)).1
    rw [em] at h3
    refine ⟨⟨d, hl⟩, p, S, [v], rfl, h.sm, hS, ⟨o, h1, h2⟩, ⟨h3, trivial⟩, fun i w S' H' hi st hv => h.q i w S' H' (hw i hi.1 hi.2) ⟨?_, hv⟩⟩
    obtain ⟨o', g1, g2⟩ := st.o
    have n1 : S' p = none := st.fr p hS (by rw [h1]; simp)
    refine ⟨⟨st.s, st.i, fun a z hz => ?_, fun a z1 z2 => ?_⟩, (fun i R e => by simp at e), rfl, ⟨[p], by simp, fun a ha => ?_, [p], [], rfl, ⟨p, o', rfl, rfl, g1, g2⟩, rfl⟩, trivial⟩
    · have hz : minus H ([p] ++ []) a = some z := hz
      rw [em] at hz
      by_cases q : a = p
      · rw [q, del_same] at hz; cases hz
      · rw [del_ne q] at hz
        exact st.h a z q hz
    · have z2 : minus H ([p] ++ []) a ≠ none := z2
      rw [em] at z2
      by_cases q : a = p
      · rw [q, del_same] at z2; exact absurd rfl z2
      · rw [del_ne q] at z2
        exact st.fr a z1 z2
    · rw [List.mem_singleton] at ha
      subst ha
      refine ⟨n1, ?_, by rw [g1]; simp⟩
      show minus H ([_] ++ []) _ = none
      rw [em, del_same]
end OW
namespace OW
open PySem PySem.Spec PyProof.Rows L2 OT NdefX
section
variable {X : Cx} {B : Bs} {Γ : Gm} {O : Om} {Z : Er → Prop} {e : Expr} {pos : Pos} {D : Ends} {rest : List Stmt} {α ρ : Type} {res : ρ → RP} {Os : ρ → Om} {P : ρ → Prop} {Q : VK}
end
section
variable {X : Cx} {B : Bs} {Γ : Gm} {O N : Om} {Z : Er → Prop} {e : Expr} {es : List Expr} {p p1 pos pos' apos : Pos} {D : Ends} {rest : List Stmt} {α β ρ τ Dt : Type} {As : Dt → List AP} {wp : Dt → Wp ρ} {res : ρ → RP} {Ms : ρ → List OP} {F : τ → List AA} {w : Wp τ} {k : Nat} {ps : List Str} {x nm : Str} {Wx : WX}
theorem w_fnO (i : Nat) {u : V} {P : OP} {f : ρ → MP} (G : GF X.prog X.w X.K X.mg X.base x k ps (spW X.K As wp res Ms)) (hr : Room k X.A) (hd : Hd X B Γ O Z Wx) (d : τ → Dt) (ha : AW X B Γ O Z N (e :: es) F w) (hA : ∀ t, ArgM (F t) (As (d t)) [(u, P)]) (hN : ∀ x ∈ N, x ∈ O.eraseIdx i) (hO : O[i]? = some (u, P) := by rfl) (hM : ∀ r, Ms r = [P] := by intro _; rfl) (hf : ∀ r, res r = .v (f r) := by intro _; rfl)
    (hg : Gl X x := by rfl) (hdb : (x == ("__debug__" : Str)) = false := by decide) (he : starEach (e :: es) X.env = (false, eval e X.env) :: starEach es X.env := by rfl) (hpl : (backTo pos (starEach es X.env)).any (·.1) = false := by rfl) : EW X B Γ O Z (.Call (.Name x p) (e :: es) [] pos) f (W.bind w fun t => wp (d t)) := fun S H σ st P' Q pp n =>
  c_call (M := [(u, P)]) (R := O.eraseIdx i) G hr hd d ha hA (front_perm i hO) hN hf hg hdb he hpl S H σ st P' Q pp fun a v S' H' p1 s1 t1 r1 => n a v S' H' p1 s1 (by
    have t2 : Stt B Γ (zipO [(u, P)] (Ms a) ++ List.eraseIdx O i) S' H' σ := t1
    rw [hM a] at t2
    exact t2.perm (front_perm i hO).symm) r1
abbrev W.popI {α : Type} (xs : List α) (i : Int) : Wp (α × List α) := fun Q _ => ∃ y, 0 ≤ i ∧ xs.length ≤ 100000 ∧ xs[i.toNat]? = some y ∧ Q (y, xs.eraseIdx i.toNat)
theorem AllO.erase {S H : Hp} {f : α → MP} : ∀ {xs : List α} {vs : List V} (k : Nat), AllM (xs.map f) S vs → AllM ((xs.eraseIdx k).map f) S (vs.eraseIdx k)
  | [], [], _, _ => trivial
  | [], _ :: _, _, h => h.elim
  | _ :: _, [], _, h => h.elim
  | x :: xs, v :: vs, 0, h => h.2
  | x :: xs, v :: vs, k + 1, h => ⟨h.1, AllO.erase (H := H) k h.2⟩
end
end OW
namespace OW
open PySem PySem.Spec PyProof.Rows L2 OT NdefX
section
variable {X : Cx} {B : Bs} {Γ : Gm} {O N : Om} {Z : Er → Prop} {e : Expr} {es : List Expr} {p p1 pos pos' apos : Pos} {D : Ends} {rest : List Stmt} {α β ρ τ Dt : Type} {As : Dt → List AP} {wp : Dt → Wp ρ} {res : ρ → RP} {Ms : ρ → List OP} {F : τ → List AA} {w : Wp τ} {w0 : Wp α} {P : α → OP} {k : Nat} {ps : List Str} {x nm : Str} {Wx : WX}
end
end OW
namespace OW
open PySem PySem.Spec PyProof.Rows L2 OT NdefX
def tio (t : Addr) : Obj := { cls := .type "tuple_iterator", data := .fields #[.ref t, .int 0 0] }
def ItT (t it : Addr) : HO := .ext fun h => h.get? it = some (tio t)
def rIterT (K : PySem.W.Frag) (n : Nat) : List V → Hp → VK → Prop := fun xs H Q => ∃ (t : Addr) (zs : List V), xs = [.ref t] ∧ SqT K H t zs ∧ ∀ it, H it = none → n ≤ it → Q (.ref it) (upd H it (ItT t it))
structure OwnIt (P : Program) (w : World) (K : PySem.W.Frag) (mg : Str → Option Value) (base : Heap) (C : Addr) (fl : Str) : Prop where
  run : ∃ f, Meth K C "__iter__" f ∧ ∀ (A : Around) (outer : List Env) (s : Shared) (H : Hp) (a dx t : Addr) (fs : List (Str × V)) (zs : List V), Room 1 A → Env0 P w K mg base A outer s H → H a = some (.ins C dx fs) → fs.lookup fl = some (.ref t) → SqT K H t zs →
    codeAny (model P w) A (.call (.ref f) ⟨[.ref a], []⟩) (CR (L2.CX P w) outer P w H s (fun v H' => ∃ it, v = .ref it ∧ H it = none ∧ s.heap.objs.size ≤ it ∧ H' = upd H it (ItT t it)) (fun _ _ _ => False)) s
end OW
namespace OW
open PySem PySem.Spec PyProof.Rows L2 OT NdefX
def iOwnT (K : PySem.W.Frag) (C : Addr) (fl : Str) (te : TE) : TI := fun σ H R => te σ H fun x H1 => ∃ a dx fs t zs, x = .ref a ∧ H1 a = some (.ins C dx fs) ∧ fs.lookup fl = some (.ref t) ∧ SqT K H1 t zs ∧ R (Itt K t) H1
section
variable {X : Cx} {B : Bs} {Γ : Gm} {O : Om} {Z : Er → Prop} {l : Expr} {α τ : Type} {g : α → MP} {C : Addr} {fl : Str}
end
end OW
namespace OW
open PySem PySem.Spec PyProof.Rows L2 OT NdefX
abbrev Cl := Value × Option Nat × (Addr → Value → Option Addr → TS)
def clEnds (o : Option Nat) (D : Ends) : Ends := match o with
  | none => D
  | some i => { nx := fun σ' H' => D.nx (σ'.set i none) H', rt := D.rt, bk := fun σ' H' => D.bk (σ'.set i none) H', ct := fun σ' H' => D.ct (σ'.set i none) H' }
def clSlot (o : Option Nat) (a : Addr) (σ : L2.St) : L2.St := match o with
  | none => σ
  | some i => σ.set i (some (.ref a))
def wCls (K : PySem.W.Frag) (Wout : WX) (D : Ends) : List Cl → WX
  | [] => Wout
  | c :: l => fun cls d σ H => ∃ b, PySem.W.exmOne K cls c.1 = some b ∧ (b = true → ∀ a, H a = none → c.2.2 a cls d (clEnds c.2.1 D) (clSlot c.2.1 a σ) H) ∧ (b = false → wCls K Wout D l cls d σ H)
inductive ClsOk (X : Cx) : List ExceptHandler → List Cl → Prop
  | nil : ClsOk X [] []
  | named {x n : Str} {i : Nat} {c : Value} {ts : Addr → Value → Option Addr → TS} {b₀ : Stmt} {suite : List Stmt} {np pos' : Pos} {hds : List ExceptHandler} {l : List Cl} (hc : Names X x c) (hi : X.N[i]? = some n) (hln : X.env.kindOf n = some .local)
      (hsu : ∀ (a : Addr) (oe : Obj) (cls : Value) (d : Option Addr) (pn : List (Addr × Obj)), Zc cls d oe → (∃ vs, oe.data = .fields vs) → PSs (X.suite a ((a, oe) :: pn)) (b₀ :: suite) (ts a cls d)) (r : ClsOk X hds l) :
      ClsOk X (.ExceptHandler (some (.Name x np)) (some n) (b₀ :: suite) pos' :: hds) ((c, some i, ts) :: l)
  | plain {x : Str} {c : Value} {ts : Addr → Value → Option Addr → TS} {b₀ : Stmt} {suite : List Stmt} {np pos' : Pos} {hds : List ExceptHandler} {l : List Cl} (hc : Names X x c)
      (hsu : ∀ (a : Addr) (oe : Obj) (cls : Value) (d : Option Addr) (pn : List (Addr × Obj)), Zc cls d oe → (∃ vs, oe.data = .fields vs) → PSs (X.suite a ((a, oe) :: pn)) (b₀ :: suite) (ts a cls d)) (r : ClsOk X hds l) :
      ClsOk X (.ExceptHandler (some (.Name x np)) none (b₀ :: suite) pos' :: hds) ((c, none, ts) :: l)
section
variable {X : Cx} {body : List Stmt} {h₀ : ExceptHandler} {hds : List ExceptHandler} {l : List Cl} {pos : Pos} {tb : WX → TS} {Wout : WX}
end
end OW
namespace OW
open PySem PySem.Spec PyProof.Rows L2 OT NdefX
def Er.cls : Er → Str
  | .badNumber _ => "BadNumber"
  | .badNumberR _ => "BadNumber"
  | .badText _ => "BadText"
  | .badName _ => "BadName"
  | .dup _ => "DuplicateName"
  | .unknown _ => "UnknownName"
  | .ring _ => "Ring"
  | .badShares _ => "BadShares"
  | .unlike _ _ => "UnlikeOrders"
  | .notRising _ _ _ => "NotRising"
  | .noThrow => "NoThrow"
  | .hasRing _ => "HasRing"
  | .noRing => "NoRing"
  | .nothing => "NothingToUndo"
section
variable {X : Cx} {B : Bs} {Γ : Gm} {O : Om} {Z Zb : Er → Prop} {D : Ends} {rest body : List Stmt} {Wx : WX} {done : List Str} {hds : List ExceptHandler} {pos pos' np p1 : Pos} {δ : Type} {cx n : Str} {b₀ : Stmt} {suite : List Stmt}
def HdW (X : Cx) (B : Bs) (Γ : Gm) (O : Om) (D : Ends) (Wx : WX) (Zb : Er → Prop) (done : List Str) (hds : List ExceptHandler) : Prop := ∃ l, ClsOk X hds l ∧ ∀ x cls d S H σ, Zb x → x.cls ∉ done → Stt B Γ O S H σ → (xEr X.K x).R S cls d → wCls X.K Wx D l cls d σ H
end
end OW
namespace OW
open PySem PySem.Spec PyProof.Rows L2 OT NdefX
section
variable {X X' : Cx} {B : Bs} {Γ : Gm} {O : Om} {Z : Er → Prop} {e : Expr} {D D' : Ends} {rest body : List Stmt} {α : Type} {f : α → MP}
def tOpt {α : Type} (f : α → MP) : Option α → MP
  | none => tN
  | some a => f a
end
end OW
namespace OW
open PySem PySem.Spec PyProof.Rows L2 OT NdefX
theorem Fin.add {ρ : Type} {B : Bs} {res : ρ → RP} {Os : ρ → Om} {P : ρ → Prop} {Q : VK} {G : Gho} (h : Fin B res Os P Q) : Fin (B.add G) res Os P Q := ⟨fun r v S H p q => h.go r v S H p (by
  cases e : res r with
  | v R => rw [e] at q; exact ⟨Stt.plain q.1, q.2⟩
  | o R => rw [e] at q; exact Stt.plain (G := G) q)⟩
end OW
namespace OW
open PySem PySem.Spec PyProof.Rows L2 OT NdefX
section
variable {X : Cx} {B : Bs} {Γ : Gm} {O N : Om} {Z : Er → Prop} {e r a b : Expr} {es : List Expr} {p p1 p2 pos pos' apos : Pos} {D : Ends} {rest : List Stmt} {α β τ : Type} {f : α → MP} {nm : Str}
def VU (X : Cx) (B : Bs) (Γ : Gm) (O : Om) (e : Expr) (u : V) : Prop := ∀ S H σ, Stt B Γ O S H σ → ∀ Q : VK, Q u H → wE X e σ H Q
end
section
variable {X : Cx} {B : Bs} {Γ : Gm} {O : Om} {Z : Er → Prop} {e : Expr} {es : List Expr} {p pos pos' : Pos} {D : Ends} {rest : List Stmt} {α τ : Type}
def NA (X : Cx) (B : Bs) (Γ : Gm) (O : Om) (Z : Er → Prop) (es : List Expr) (F : τ → List OP) (w : Wp τ) : Prop := ∀ S H σ, Stt B Γ O S H σ → ∀ (P : τ → Prop) (Q : List V → Hp → Prop), w P Z → (∀ t vs S' H', P t → Same S S' → vs.length = (F t).length → Stt B Γ (vs.zip (F t) ++ O) S' H' σ → Q vs H') → ∃ ta, PA X es ta ∧ ta σ H Q
end
end OW
namespace OW
open PySem PySem.Spec PyProof.Rows L2 OT NdefX
section
variable {X : Cx} {α : Type} [DecidableEq α] {f : α → MP} {n : Nat}
end
section
variable {X : Cx} {B : Bs} {Γ : Gm} {O : Om} {Z : Er → Prop} {e : Expr} {α : Type} {G : α → BP}
end
end OW
namespace OW
open PySem PySem.Spec PyProof.Rows L2 OT NdefX
section
variable {X : Cx} {pins : List (Addr × Obj)} {σ : L2.St} {A1 : Around}
end
end OW
namespace OW
open PySem PySem.Spec PyProof.Rows L2 OT NdefX
section
variable {X : Cx} {pins : List (Addr × Obj)} {σ : L2.St} {H : Hp} {s : Shared} {A : Around} {C f a dx : Addr} {fs : List (Str × V)} {k : Nat} {fd : FuncData} {ps : List Str} {sp : Sp} {E : Value → Shared → Prop} {Q : Bool → Shared → Prop} {P : Hp → Prop}

def rListT (K : PySem.W.Frag) (C : Addr) (fl : Str) (sp : Sp) : List V → Hp → VK → Prop := fun xs H Q => ∃ a dx fs t zs, xs = [.ref a] ∧ H a = some (.ins C dx fs) ∧ fs.lookup fl = some (.ref t) ∧ SqT K H t zs ∧ zs.length ≤ sizeLine ∧
  (∀ H1, Same H H1 → sp [.ref a] H1 (fun v H' => ∃ n : Int, v = .int n ∧ 0 ≤ n ∧ n ≤ 100000 ∧ Same H1 H') (fun _ _ _ => False)) ∧ ∀ q H2, H q = none → H2 q = none → Same H H2 → Q (.ref q) (upd H2 q (.lst zs))
end
section
variable {X : Cx} {B : Bs} {Γ : Gm} {O : Om} {Z : Er → Prop} {l : Expr} {α τ Dt : Type} {g : α → MP} {C : Addr} {fl : Str} {k : Nat} {ps : List Str} {As : Dt → List AP}
end
end OW
namespace OW
open PySem PySem.Spec PyProof.Rows L2 OT NdefX
inductive Dy where
  | n
  | b (x : Bool)
  | i (x : Int)
  | s (x : Str)
  | t (xs : List Dy)
  | l (xs : List Dy)
mutual
def tDy (K : PySem.W.Frag) : Dy → MP
  | .n => tN
  | .b x => OT.tB x
  | .i x => tI x
  | .s x => tS x
  | .t xs => tT K (tDys K xs)
  | .l xs => tL K (tDys K xs)
def tDys (K : PySem.W.Frag) : List Dy → List MP
  | [] => []
  | x :: xs => tDy K x :: tDys K xs
end
mutual
def Dy.dep : Dy → Nat
  | .t xs => Dy.deps xs + 1
  | .l xs => Dy.deps xs + 1
  | _ => 0
def Dy.deps : List Dy → Nat
  | [] => 0
  | x :: xs => max x.dep (Dy.deps xs)
end
theorem tDys_map (K : PySem.W.Frag) : ∀ xs : List Dy, tDys K xs = xs.map (tDy K)
  | [] => rfl
  | x :: xs => by rw [tDys, tDys_map K xs]; rfl
def EnS {α : Type} (X : Cx) (n : Nat) (f : α → BP) (x : α) : Prop := ∀ S H u v, Same S H → (f x).R S H u → (f x).R S H v → EqN X n u v true H
section
variable {X : Cx} {n : Nat}
theorem range_all (k : Nat) : (List.range k).all (fun _ => true) = true := by simp
theorem eqn_lst {l c : Addr} {vs ws : List V} {H : Hp} (h1 : SqL X.K H l vs) (h2 : SqL X.K H c ws) (hl : vs.length = ws.length) (h : ∀ (i : Nat) x y, vs[i]? = some x → ws[i]? = some y → EqN X n x y true H) : RcN X .Eq (n + 1) (.ref l) (.ref c) true H := by
  have := RcN.listEq (e := fun _ => true) h1 h2 hl h
  rwa [range_all] at this
theorem eqn_tup {l c : Addr} {vs ws : List V} {H : Hp} (h1 : SqT X.K H l vs) (h2 : SqT X.K H c ws) (hl : vs.length = ws.length) (h : ∀ (i : Nat) x y, vs[i]? = some x → ws[i]? = some y → EqN X n x y true H) : RcN X .Eq (n + 1) (.ref l) (.ref c) true H := by
  have := RcN.tupEq (e := fun _ => true) h1 h2 h
  rw [range_all, hl] at this
  simpa using this
mutual
theorem dy_eq : ∀ (x : Dy) {n : Nat}, x.dep ≤ n → ∀ S H u v, Same S H → (tDy X.K x).R S u → (tDy X.K x).R S v → EqN X n u v true H
  | .n, _, _, S, H, u, v, sm, h1, h2 => by
    have e1 : u = .non := h1
    have e2 : v = .non := h2
    subst e1 e2
    exact (EqN.flat (X := X) (H := H) (x := .non) (y := .non) rfl rfl).mono (Nat.zero_le _)
  | .b x, _, _, S, H, u, v, sm, h1, h2 => by
    have e1 : u = .bl x := h1
    have e2 : v = .bl x := h2
    subst e1 e2
    have := EqN.flat (X := X) (H := H) (x := .bl x) (y := .bl x) rfl rfl
    have e : eqV (.bl x) (.bl x) = true := by simp [eqV]
    rw [e] at this
    exact this.mono (Nat.zero_le _)
  | .i x, _, _, S, H, u, v, sm, h1, h2 => by
    have e1 : u = .int x := h1
    have e2 : v = .int x := h2
    subst e1 e2
    have := EqN.flat (X := X) (H := H) (x := .int x) (y := .int x) rfl rfl
    have e : eqV (.int x) (.int x) = true := by simp [eqV]
    rw [e] at this
    exact this.mono (Nat.zero_le _)
  | .s x, _, _, S, H, u, v, sm, h1, h2 => by
    have e1 : u = .str x := h1
    have e2 : v = .str x := h2
    subst e1 e2
    have := EqN.flat (X := X) (H := H) (x := .str x) (y := .str x) rfl rfl
    have e : eqV (.str x) (.str x) = true := by simp [eqV]
    rw [e] at this
    exact this.mono (Nat.zero_le _)
  | .t xs, n, hn, S, H, u, v, sm, h1, h2 => by
    rw [tDy] at h1 h2
    obtain ⟨a, vs, e1, h1, h3⟩ := h1
    obtain ⟨c, ws, e2, g1, g3⟩ := h2
    subst e1 e2
    rw [Dy.dep] at hn
    obtain ⟨m, rfl⟩ : ∃ m, n = m + 1 := ⟨n - 1, by omega⟩
    exact RcN.eqN (eqn_tup (SqT.of (sm _ _ h1)) (SqT.of (sm _ _ g1)) (h3.length.trans g3.length.symm) (dys_eq xs (by omega) S H vs ws sm h3 g3)) fun _ => rfl
  | .l xs, n, hn, S, H, u, v, sm, h1, h2 => by
    rw [tDy] at h1 h2
    obtain ⟨a, vs, e1, h1, h3⟩ := h1
    obtain ⟨c, ws, e2, g1, g3⟩ := h2
    subst e1 e2
    rw [Dy.dep] at hn
    obtain ⟨m, rfl⟩ : ∃ m, n = m + 1 := ⟨n - 1, by omega⟩
    exact RcN.eqN (eqn_lst (SqL.of (sm _ _ h1)) (SqL.of (sm _ _ g1)) (h3.length.trans g3.length.symm) (dys_eq xs (by omega) S H vs ws sm h3 g3)) fun _ => rfl
theorem dys_eq : ∀ (xs : List Dy) {n : Nat}, Dy.deps xs ≤ n → ∀ S H vs ws, Same S H → AllM (tDys X.K xs) S vs → AllM (tDys X.K xs) S ws → ∀ (i : Nat) x y, vs[i]? = some x → ws[i]? = some y → EqN X n x y true H
  | [], _, _, S, H, vs, ws, sm, h1, h2, i, x, y, e1, e2 => by
    rw [tDys] at h1
    have := h1.length
    have : vs = [] := List.eq_nil_of_length_eq_zero this
    subst this
    cases e1
  | z :: zs, _, hn, S, H, vs, ws, sm, h1, h2, i, x, y, e1, e2 => by
    rw [tDys] at h1 h2
    rw [Dy.deps] at hn
    match vs, ws, h1, h2 with
    | v :: vs, w :: ws, h1, h2 =>
      match i with
      | 0 =>
        cases e1
        cases e2
        exact dy_eq z (by omega) S H _ _ sm h1.1 h2.1
      | i + 1 => exact dys_eq zs (by omega) S H vs ws sm h1.2 h2.2 i x y e1 e2
end
theorem rl_dys {xs : List Dy} {S H : Hp} {v : V} (h : (rL (tDy X.K) xs).R S H v) : ∃ a vs, v = .ref a ∧ H a = some (.lst vs) ∧ AllM (tDys X.K xs) S vs := by
  obtain ⟨a, vs, h1, h2, h3⟩ := h
  exact ⟨a, vs, h1, h2, by rw [tDys_map]; exact AllR.toM h3⟩
theorem dyl_eq {xs : List Dy} (hn : Dy.deps xs ≤ n) : RcM X .Eq (n + 1) (rL (tDy X.K) xs) (rL (tDy X.K) xs) true := fun S H u v sm h1 h2 => by
  obtain ⟨a, vs, e1, k1, h3⟩ := rl_dys h1
  obtain ⟨c, ws, e2, k2, g3⟩ := rl_dys h2
  subst e1 e2
  exact eqn_lst (SqL.of k1) (SqL.of k2) (h3.length.trans g3.length.symm) (dys_eq xs hn S H vs ws sm h3 g3)
variable {B : Bs} {Γ : Gm} {O : Om} {N : Om} {Z : Er → Prop} {a b e : Expr} {pos : Pos}
theorem w_eqY (n : Nat) {wa wb : Wp (List Dy)} (hr : Room (n + 1) X.A) (ha : RW X B Γ O Z N a (rL (tDy X.K)) wa) (hb : RN X B Γ O Z b (rL (tDy X.K)) wb) : EW X B Γ O Z (.Compare a [.Eq] [b] pos) OT.tB (W.bind wa fun x => W.bind wb fun y => W.grd (x = y ∧ Dy.deps x ≤ n) true) :=
  fun S H σ st P Q p k => ⟨_, pe_cmpR (op_eqN hr) pe_w pe_w (nomark _), ha.2 S H σ st _ _ p fun x u S1 H1 p1 s1 t1 r1 => hb S1 H1 σ t1 _ _ p1 fun y v S2 H2 p2 s2 t2 r2 => by
    obtain ⟨⟨rfl, hn⟩, p2⟩ := p2
    exact ⟨_, dyl_eq hn S2 H2 u v t2.sub (r1 _ _ S2 H2 _ s2 t2 ha.1) r2, fun H' e => k _ _ S2 H' p2 (s1.trans s2) (t2.step (Stp.ext t2.sub e)) rfl⟩⟩
def DyC {α : Type} (K : PySem.W.Frag) (f : α → MP) (g : α → Dy) : Prop := ∀ a S v, (f a).R S v → (tDy K (g a)).R S v
theorem dc_str {K : PySem.W.Frag} : DyC K tS .s := fun _ _ _ h => h
theorem AllM.cv {α : Type} {K : PySem.W.Frag} {f : α → MP} {g : α → Dy} (h : DyC K f g) {S : Hp} : ∀ {xs : List α} {vs : List V}, AllM (xs.map f) S vs → AllM (tDys K (xs.map g)) S vs
  | [], [], r => by rw [List.map_nil, tDys]; exact r
  | [], _ :: _, r => r.elim
  | _ :: _, [], r => r.elim
  | x :: xs, v :: vs, r => by rw [List.map_cons, tDys]; exact ⟨h _ _ _ r.1, AllM.cv h r.2⟩
theorem dc_lst {α : Type} {K : PySem.W.Frag} {f : α → MP} {g : α → Dy} (h : DyC K f g) : DyC K (tLs K f) (fun xs => .l (xs.map g)) := fun xs S v ⟨a, vs, h1, h2, h3⟩ => by
  rw [tDy]
  exact ⟨a, vs, h1, h2, AllM.cv h h3⟩
theorem w_dy {α : Type} {f : α → MP} {g : α → Dy} {w : Wp α} (h : DyC X.K f g) (he : EW X B Γ O Z e f w) : EW X B Γ O Z e (tDy X.K) (W.bind w fun a => W.ret (g a)) := he.imp g h
end
end OW
namespace OW
open PySem PySem.Spec PyProof.Rows L2 OT NdefX
section
variable {X : Cx} {B : Bs} {Γ : Gm} {O N N' : Om} {Z : Er → Prop} {e a b c o e1 e2 : Expr} {es : List Expr} {p p1 p2 pos pos' apos : Pos} {D : Ends} {rest body els : List Stmt} {α β γ : Type} {x m nm : Str} {Wx : WX}
section
variable {τ Dt ρ : Type} {As : Dt → List AP} {wp : Dt → Wp ρ} {res : ρ → RP} {Ms : ρ → List OP} {F : τ → List AA} {w : Wp τ} {k : Nat} {ps : List Str} {C : Addr}
theorem n_cm {pl : Sem Bool} {f : ρ → OP} (G : GK X.prog X.w X.K X.mg X.base C m k ps (spW X.K As wp res Ms)) (hr : Room k X.A) (hd : Hd X B Γ O Z Wx) (d : τ → Dt) (ho : EW X B Γ O Z o (fun _ : Unit => tR C) (W.ret ())) (ha : AW X B Γ O Z N (e :: es) F w) (hA : ∀ t, ArgM (.b (tR C).b :: F t) (As (d t)) []) (hf : ∀ r, res r = .o (f r) := by intro _; rfl)
    (hst : starEach (e :: es) X.env = (false, eval e X.env) :: starEach es X.env := by rfl) (hpl : (backTo pos (starEach es X.env)).any (·.1) = false := by rfl)
    (ht : eval (.Call (.Attribute o m apos) (e :: es) [] pos) X.env = (do
      let ov ← eval o X.env
      standAt apos.atName
      let (f, first) ← holding [ov] (getMethod ov m pl)
      callWith pos f first (backTo pos (starEach (e :: es) X.env)) (backToKw pos (keywordEach [] X.env))) := by rfl) : NW X B Γ O Z (.Call (.Attribute o m apos) (e :: es) [] pos) f (W.bind w fun t => wp (d t)) := by
  obtain ⟨g, fd, p1, G, cr, cm, hb⟩ := G
  intro S H σ st P Q p n
  refine ⟨_, pe_cmethS pe_w cr cm G hr hb (fun σ => passAt hd.tk σ) pa_w hst hpl ht, ho S H σ st (fun _ => True) _ trivial fun y u S1 H1 p1 s1 t1 r1 => ⟨r1, ?_⟩⟩
  refine ha.2 S1 H1 σ t1 _ _ p fun t vs S2 H2 p2 s2 t2 r2 => ?_
  refine call_go (N := N) (M := []) (R := O) (vs := .ref C :: vs) hd (d t) (hA t) (.refl _) ha.1 t2 (fun Γ3 O3 S3 H3 σ3 s3 t3 hn => ⟨rfl, r2 _ _ S3 H3 _ s3 t3 hn⟩) p2 fun r v S' H' p3 s3 h => ?_
  rw [hf r] at h
  exact n r v S' H' p3 ((s1.trans s2).trans s3) h trivial
end

end
end OW
namespace OW
open PySem PySem.Spec PyProof.Rows L2 OT NdefX
section
variable {X : Cx} {B : Bs} {Γ : Gm} {O : Om} {Z : Er → Prop} {e v1 v2 : Expr} {es rest : List Expr} {pos : Pos}
theorem pj_w : ∀ {es : List Expr}, PJ X es (es.map (wE X))
  | [] => .nil
  | _ :: _ => .cons pe_w pj_w
def JW (X : Cx) (B : Bs) (Γ : Gm) (O : Om) (Z : Er → Prop) (es : List Expr) (w : Wp Str) : Prop := ∀ (acc : Str) (S H : Hp) (σ : L2.St), Stt B Γ O S H σ → acc.length + 100000 * es.length ≤ sizeLine → ∀ (P : Str → Prop) (Q : Str → Hp → Prop), w P Z →
  (∀ z S' H', P z → Same S S' → Stt B Γ O S' H' σ → Q (acc ++ z) H') → tJs (es.map (wE X)) acc σ H Q
theorem j_nil : JW X B Γ O Z [] (W.ret Str.empty) := fun acc S H σ st _ P Q p k => by
  have := k _ S H p (Same.refl _) st
  rw [Str.append_empty] at this
  exact this
theorem j_cons {w1 w2 : Wp Str} (h1 : EW X B Γ O Z e tS w1) (h2 : JW X B Γ O Z es w2) : JW X B Γ O Z (e :: es) (W.bind w1 fun x Q E => x.length ≤ 100000 ∧ w2 (fun y => Q (x ++ y)) E) := fun acc S H σ st hl P Q p k =>
  h1 S H σ st _ _ p fun x v S1 H1 p1 s1 t1 r1 => by
    have hl2 : (acc ++ x).length = acc.length + x.length := Str.length_append _ _
    have h3 := p1.1
    rw [List.length_cons] at hl
    refine ⟨x, r1, by omega, h2 (acc ++ x) S1 H1 σ t1 (by omega) _ _ p1.2 fun z S2 H2 p2 s2 t2 => ?_⟩
    rw [Str.append_assoc]
    exact k _ S2 H2 p2 (s1.trans s2) t2
theorem le_empty {k : Nat} (h : k ≤ 16777216) : Str.empty.length + k ≤ sizeLine := by
  have e : Str.empty.length = 0 := by decide
  rw [e, sizeLine_eq, Nat.zero_add]
  exact h
theorem w_joined {w : Wp Str} (h : JW X B Γ O Z (v1 :: v2 :: rest) w) (hl : 100000 * (v1 :: v2 :: rest).length ≤ 16777216 := by decide) : EW X B Γ O Z (.JoinedStr (v1 :: v2 :: rest) pos) tS w := fun S H σ st P Q p n =>
  ⟨_, pe_joined pj_w, h Str.empty S H σ st (le_empty hl) P _ p fun z S' H' p1 s1 t1 => by rw [Str.empty_append]; exact n z _ S' H' p1 s1 t1 rfl⟩
theorem w_fmtI {w : Wp Int} (h : EW X B Γ O Z e tI w) : EW X B Γ O Z (.FormattedValue e (-1) none pos) tS (W.bind w fun i => W.grd (i.natAbs.log2 < 1920) (toString i : Str)) := fun S H σ st P Q p n =>
  ⟨_, pe_fmt pe_w, h S H σ st _ _ p fun i v S1 H1 p1 s1 t1 r1 => .inr ⟨i, r1, p1.1, n _ _ S1 H1 p1.2 s1 t1 rfl⟩⟩
end
section
variable {X : Cx} {B : Bs} {Γ : Gm} {O : Om} {Z : Er → Prop} {e : Expr}
theorem AllM.dy2 {K : PySem.W.Frag} {S : Hp} : ∀ {xs : List Dy} {vs : List V}, AllM (xs.map (tDy K)) S vs → AllM (tDys K xs) S vs := fun h => by rw [tDys_map]; exact h
end
end OW
namespace OW
open PySem PySem.Spec PyProof.Rows L2 OT NdefX
end OW
namespace OW
open PySem PySem.Spec PyProof.Rows L2 OT NdefX
theorem law_sp {K : PySem.W.Frag} {p : List Int → Prop} {w : List Int → Wp Bool} (hw : ∀ ns : List Int, p ns → w ns (fun b => b = true) (fun _ => False)) {vs : List V} {H : Hp} {Q : VK} {E : XK}
    (h : spD (D := { ns : List Int // p ns }) (fun ns => [OT.bQ K (ns.1.map tI)]) (fun _ => .val (OT.tB true)) vs H Q E) : spW K (fun d : List Int => [.b (rQ K tI d)]) w (fun r : Bool => .v (OT.tB r)) (fun _ => []) vs H Q E := by
  obtain ⟨⟨ns, hn⟩, S, sm, ar, q⟩ := h
  have ar2 : ArgR [.b (rQ K tI ns)] S (minus H []) H [] vs := by
    obtain ⟨v, e0, a, ws, e1, e2, e3⟩ := AllR.one ar
    subst e0
    have := AllM.toR (H := H) e3
    rw [List.map_map] at this
    exact ⟨⟨a, ws, e1, e2, this⟩, rfl⟩
  refine ⟨ns, S, [], fun b => b = true, fun _ => False, ?_⟩
  exact {
    sm := sm
    nd := List.nodup_nil
    fr := fun _ h => by cases h
    ar := ar2
    w := hw ns hn
    q := fun r v S' H' e p => by
      subst e
      exact q v S' H' p.1.st p.2
    x := fun _ _ _ _ _ z => z.elim }
end OW
namespace OW
open PySem PySem.Spec PyProof.Rows L2 OT NdefX
section
variable {X : Cx} {B : Bs} {Γ : Gm} {O N N' : Om} {Z : Er → Prop} {e a b c o e1 e2 : Expr} {p p1 p2 p3 pos pos' apos : Pos} {α β : Type} {f : α → MP}
section
variable {Dt : Type} {As : Dt → List AP} {k : Nat} {ps : List Str} {C : Addr} {bo : α → BP} {wo : Wp α} {ba : β → BP} {wa : Wp β}
end
end
end OW
namespace OW
open PySem PySem.Spec PyProof.Rows L2 OT NdefX
section
variable {X : Cx} {B : Bs} {Γ : Gm} {O N N' : Om} {Z : Er → Prop} {e a b c o : Expr} {p pos pos' apos : Pos} {α β τ : Type} {f : τ → MP}
variable {Dt : Type} {As : Dt → List AP} {k : Nat} {ps : List Str} {C : Addr} {ba : β → BP} {wa : Wp β}
variable {wp : Dt → Wp Bool} {res : Bool → RP} {Ms : Bool → List OP}
end
end OW
namespace OW
open PySem PySem.Spec PyProof.Rows L2 OT NdefX
section
variable {X : Cx} {B : Bs} {Γ : Gm} {O N : Om} {Z : Er → Prop} {c : Expr} {p p2 pos : Pos} {α β : Type} {f : α → MP} {g : β → MP} {tg it : Expr}
theorem IW.re {xs : List α} {ys : List β} (h : IW X B Γ O Z N tg it f (W.ret xs)) (e : xs.map f = ys.map g) : IW X B Γ O Z N tg it g (W.ret ys) :=
  ⟨h.1, fun S H σ st P Rk p k => h.2 S H σ st (fun zs => zs = xs) Rk rfl fun zs J G S' H' ez s t gg hh => k ys J G S' H' p s t gg fun Γ2 O2 S2 H2 σ2 t2 hn => by
    subst ez
    have hl : zs.length = ys.length := by have := congrArg List.length e; simpa using this
    obtain ⟨h1, h2⟩ := hh Γ2 O2 S2 H2 σ2 t2 hn
    refine ⟨hl ▸ h1, fun i hi => ?_⟩
    obtain ⟨h3, h4⟩ := h2 i (by omega)
    refine ⟨h3, fun y H3 hy => ?_⟩
    obtain ⟨S3, h5, h6⟩ := h4 y H3 hy
    refine ⟨S3, h5, ?_⟩
    have e2 : (zs.map f)[i]? = (ys.map g)[i]? := by rw [e]
    rw [List.getElem?_map, List.getElem?_map, List.getElem?_eq_getElem (by omega), List.getElem?_eq_getElem hi] at e2
    have e3 : f zs[i] = g ys[i] := by simpa using e2
    rw [← e3]
    exact h6⟩
end
end OW
namespace OW
open PySem PySem.Spec PyProof.Rows L2 OT NdefX
section
variable {X : Cx} {B : Bs} {Γ : Gm} {O : Om} {Z : Er → Prop} {a b : Expr} {es : List Expr} {pos : Pos}
end
end OW
namespace OW
open PySem PySem.Spec PyProof.Rows L2 OT NdefX
end OW
namespace OW
open PySem PySem.Spec PyProof.Rows L2 OT NdefX
end OW
namespace OW
open PySem PySem.Spec PyProof.Rows L2 OT NdefX
structure DatE {α : Type} (K : PySem.W.Frag) (f : α → MP) (g : α → PyData) (d : Nat) : Prop where
  c : ∀ a S H v, Same S H → (f a).R S v → Dp K H v (g a)
  al : ∀ x y, PySem.W.alike (g x) (g y) = true
  dp : ∀ x, (g x).depth ≤ d
section
variable {K : PySem.W.Frag} {α β : Type} {f : α → MP} {g : α → PyData} {f2 : β → MP} {g2 : β → PyData} {d d2 : Nat}
def SrtOk (g : α → PyData) : Prop := ∀ xs : List α, PySem.W.Sortable (xs.map g)
end
def srtD {α : Type} (g : α → PyData) (xs : List α) : List α := xs.mergeSort (PySem.W.dataLe false g)
section
variable {X : Cx}
def rSortedDat (K : PySem.W.Frag) (d : Nat) : List V → Hp → VK → Prop := fun vs H Q => ∃ (a : Addr) (xs : List V) (ds : List PyData), vs = [V.ref a] ∧ SqL K H a xs ∧ DpAll K H xs ds ∧ PySem.W.AllAlike ds ∧ PySem.W.Sortable ds ∧ (∀ z ∈ ds, z.depth ≤ d) ∧ xs.length ≤ 100000 ∧
  ∀ p : Addr, H p = none → Q (.ref p) (upd H p (.lst (((xs.zip ds).mergeSort (PySem.W.dataLe false fun b : V × PyData => b.2)).map (·.1))))
variable {B : Bs} {Γ : Gm} {O N N' : Om} {Z : Er → Prop} {e : Expr} {p pos : Pos} {α : Type} {f : α → MP} {g : α → PyData} {d : Nat}
end
end OW
namespace OW
open PySem PySem.Spec PyProof.Rows L2 OT NdefX
section
variable {X : Cx} {B : Bs} {Γ : Gm} {O N N' : Om} {Z : Er → Prop} {e a b : Expr} {p pos : Pos} {α : Type} {f : α → MP}
end
end OW
namespace OW
open PySem PySem.Spec PyProof.Rows L2 OT NdefX
section
variable {X : Cx} {α ρ : Type} {f : α → MP} {h : ρ → MP} {g : ρ → PyData} {d k : Nat} {pn : Str} {wp : α → Wp ρ} {pins : List (Addr × Obj)} {σ : L2.St} {H S : Hp} {s : Shared} {fa : Addr} {fd : FuncData}
end
end OW
namespace OW
open PySem PySem.Spec PyProof.Rows L2 OT NdefX
abbrev W.sortK {α ρ : Type} (g : ρ → PyData) (wp : α → Wp ρ) (xs : List α) : Wp (List α) := fun Q _ => xs.length ≤ 100000 ∧ ∃ key : α → ρ, (∀ x ∈ xs, wp x (fun r => r = key x) E0) ∧ Q (srtD (fun x => g (key x)) xs)
section
variable {X : Cx} {α ρ : Type} {f : α → MP} {h : ρ → MP} {g : ρ → PyData} {d k : Nat} {pn : Str} {wp : α → Wp ρ}
def rSortK (fa : Addr) (f : α → MP) (g : ρ → PyData) (wp : α → Wp ρ) : List V → List V → Hp → VK → Prop := fun vs zs H Q => ∃ (a : Addr) (us : List V) (S : Hp) (xs : List α) (key : α → ρ), vs = [V.ref a] ∧ zs = [V.ref fa] ∧ H a = some (.lst us) ∧ Same S H ∧ AllM (xs.map f) S us ∧ xs.length ≤ 100000 ∧ (∀ x ∈ xs, wp x (fun r => r = key x) E0) ∧
  ∀ S' H' p, Stp S H S' H' → H' p = none → Q (.ref p) (upd H' p (.lst (((us.zip (xs.map fun x => g (key x))).mergeSort (PySem.W.dataLe false fun z : V × PyData => z.2)).map (·.1))))
variable {B : Bs} {Γ : Gm} {O N N' : Om} {Z : Er → Prop} {e : Expr} {p px kpos pos : Pos} {x : Str}
end
end OW
namespace OW
open PySem PySem.Spec PyProof.Rows L2 OT NdefX
section
variable {X : Cx} {B : Bs} {Γ : Gm} {O N N' : Om} {Z : Er → Prop} {e a b c ix : Expr} {p1 pos pos' : Pos} {D : Ends} {rest body els : List Stmt} {α β : Type} {nm : Str}
theorem s_ifK {τ : Type} (Gs : τ → Gm) (Os : τ → Om) {k : τ → Prop} {w w' : Wp Bool} {p q : (τ → Prop) → Prop} (hc : TW X B Γ O Z c w') (h1 : ∀ k : τ → Prop, SW X B Γ O body { D with nx := At B Gs Os k } (p k)) (h2 : ∀ k : τ → Prop, SW X B Γ O els { D with nx := At B Gs Os k } (q k)) (h : ∀ s, SW X B (Gs s) (Os s) rest D (k s)) (hw : w' = w := by rfl) :
    SW X B Γ O (.If c body els pos :: rest) D (W.jn k fun k => W.run w Z fun b => W.ite b (p k) (q k)) := s_ifJ Gs Os hc (h1 k) (h2 k) h hw
end
end OW
namespace OW
open PySem PySem.Spec PyProof.Rows L2 OT NdefX
section
variable {X : Cx} {B : Bs} {Γ : Gm} {O N N' : Om} {Z : Er → Prop} {e a b c o l : Expr} {p pos pos' apos cpos : Pos} {α β : Type} {C : Addr} {k : Nat} {ps : List Str} {Dt ρ : Type} {As : Dt → List AP} {wp : Dt → Wp ρ} {res : ρ → RP} {Ms : ρ → List OP} {bo : α → BP} {wo : Wp α} {ba : β → BP} {wa : Wp β}
variable {f : α → MP}
end
end OW
namespace OW
open PySem PySem.Spec PyProof.Rows L2 OT NdefX
section
variable {X : Cx} {B : Bs} {Γ : Gm} {O N N' : Om} {Z : Er → Prop} {e a b c o l : Expr} {p pos pos' apos cpos : Pos} {α β : Type} {f : α → MP}
def tListVals (te : TE) : TE := fun σ H Q => te σ H fun x H1 => ∃ (d : Addr) (kvs : List (Key × V)), x = .ref d ∧ Rd H1 d (.dK kvs) ∧ ∀ q, H1 q = none → Q (.ref q) (upd H1 q (.lst (kvs.map (·.2))))
def dmk (ps : List (Str × α)) : List (Str × α) := ps.foldl (fun d q => dput d q.1 q.2) []
end
end OW
namespace OW
open PySem PySem.Spec PyProof.Rows L2 OT NdefX
def kio (d : Addr) (n ep : Nat) : Obj := { cls := .type "dict_keyiterator", data := .fields #[.ref d, .int 0 0, .int n 0, .int ep 0] }
def ItK (d it : Addr) (n ep : Nat) : HO := .ext fun h => h.get? it = some (kio d n ep)
def rIterD (n : Nat) : List V → Hp → VK → Prop := fun xs H Q => ∃ (t : Addr) (od : Obj) (kvs : List (Key × V)), xs = [.ref t] ∧ H t = some (.frz od (.dK kvs)) ∧ ∀ it es ep, H it = none → n ≤ it → od.data = .dict es ep → Q (.ref it) (upd H it (ItK t it kvs.length ep))
structure OwnItD (P : Program) (w : World) (K : PySem.W.Frag) (mg : Str → Option Value) (base : Heap) (C : Addr) (fl : Str) : Prop where
  run : ∃ f, Meth K C "__iter__" f ∧ ∀ (A : Around) (outer : List Env) (s : Shared) (H : Hp) (a dx t : Addr) (fs : List (Str × V)) (od : Obj) (kvs : List (Key × V)), Room 1 A → Env0 P w K mg base A outer s H → H a = some (.ins C dx fs) → fs.lookup fl = some (.ref t) → H t = some (.frz od (.dK kvs)) →
    codeAny (model P w) A (.call (.ref f) ⟨[.ref a], []⟩) (CR (L2.CX P w) outer P w H s (fun v H' => ∃ it es ep, v = .ref it ∧ H it = none ∧ s.heap.objs.size ≤ it ∧ od.data = .dict es ep ∧ H' = upd H it (ItK t it kvs.length ep)) (fun _ _ _ => False)) s
def iOwnD (C : Addr) (fl : Str) (te : TE) : TI := fun σ H R => te σ H fun x H1 => ∃ a dx fs t od kvs, x = .ref a ∧ H1 a = some (.ins C dx fs) ∧ fs.lookup fl = some (.ref t) ∧ H1 t = some (.frz od (.dK kvs)) ∧ R (Itk t od kvs) H1
section
variable {X : Cx} {B : Bs} {Γ : Gm} {O : Om} {Z : Er → Prop} {l : Expr} {α τ : Type} {g : α → MP} {C : Addr} {fl : Str}
end
end OW
namespace OW
open PySem PySem.Spec PyProof.Rows L2 OT NdefX
section
variable {X : Cx} {pins : List (Addr × Obj)} {σ : L2.St} {H : Hp} {s : Shared} {A : Around} {C f a dx : Addr} {fs : List (Str × V)} {k : Nat} {fd : FuncData} {ps : List Str} {sp : Sp} {E : Value → Shared → Prop}
def rListOD (C : Addr) (fl : Str) (sp : Sp) : List V → Hp → VK → Prop := fun xs H Q => ∃ a dx fs t od kvs, xs = [.ref a] ∧ H a = some (.ins C dx fs) ∧ fs.lookup fl = some (.ref t) ∧ H t = some (.frz od (.dK kvs)) ∧ kvs.length ≤ sizeLine ∧
  (∀ H1, Same H H1 → sp [.ref a] H1 (fun v H' => ∃ n : Int, v = .int n ∧ 0 ≤ n ∧ n ≤ 100000 ∧ Same H1 H') (fun _ _ _ => False)) ∧ ∀ q H2, H q = none → H2 q = none → Same H H2 → Q (.ref q) (upd H2 q (.lst (kvs.map fun q => kV q.1)))
end
section
variable {X : Cx} {B : Bs} {Γ : Gm} {O : Om} {Z : Er → Prop} {l : Expr} {α τ Dt : Type} {g : α → MP} {C : Addr} {fl : Str} {k : Nat} {ps : List Str} {As : Dt → List AP} {p pos : Pos}
end
end OW
namespace OW
open PySem PySem.Spec PyProof.Rows L2 OT NdefX
structure Chn where
  shares : List (Str × Rt)
deriving DecidableEq
def tChn (K : PySem.W.Frag) (c : Chn) : MP := tO (He.ga K "Chance") [("shares", tDs (tRat K) c.shares)]
section
variable {X : Cx} {B : Bs} {Γ : Gm} {O N N' : Om} {Z : Er → Prop} {e a b c o l : Expr} {p pos pos' apos cpos : Pos} {α β : Type} {f : α → MP} {rest : List Stmt} {D : Ends}
def NN (f : α → MP) : Prop := ∀ a S v, (f a).R S v → v ≠ .non
variable {x : Str} {k : Nat} {ps : List Str} {fs : α → List (Str × MP)} {Wx : WX}
end
section
variable {P : Program} {w : World} {K : PySem.W.Frag} {mg : Str → Option Value} {base : Heap} {k : Nat} {ps : List Str} {sp : Sp}
theorem gf_mkA {y x q : Str} {s : Stmt} {f : Addr} (h : ∃ fd, FnS K x q s f fd) (hb : ∀ fd, FnS K x q s f fd → Binds K fd ps []) (hm : mg y = some (.ref f)) (ok : ∀ fd, FnS K x q s f fd → FnOk P w K mg base (L2.CX P w) k f fd ps sp) : GF P w K mg base y k ps sp := by
  obtain ⟨fd, F⟩ := h
  exact ⟨f, fd, ok fd F, hm, F.kp, hb fd F⟩
end
abbrev isum (l : List Int) : Int := l.sum
abbrev dvals {α : Type} (d : List (Str × α)) : List α := d.map (·.2)
end OW
namespace OT
open PySem PySem.Spec PyProof.Rows L2
def spM2 {D ι : Type} (M M2 : D → MO) (As : D → List BP) (Pm : D → ι → Prop) (Rm : D → ι → MP) : Sp := fun vs H Q _ => ∃ d p S ws, vs = .ref p :: ws ∧ Same S H ∧ S p = none ∧ (∃ o, H p = some o ∧ (M d).R S o) ∧ AllR (As d) S (del H p) ws ∧
  ∀ i v S' H', Pm d i → Stm p (M2 d) S H S' H' → (Rm d i).R S' v → Q v H'
section
variable {P : Program} {w : World} {K : PySem.W.Frag} {mg : Str → Option Value} {base : Heap} {k : Nat} {ps : List Str}
end
end OT
namespace OW
open PySem PySem.Spec PyProof.Rows L2 OT NdefX
open PySem.Builtin.Int (intBits)
def mPoolN (n : Nat) : MO := ⟨fun _ o => ∃ x b, o = .lst [.int x, .int (n : Int), .bl b], fun _ h => h⟩
def oPoolN (n : Nat) : OP := ⟨fun S H A v => ∃ p o, v = .ref p ∧ A = [p] ∧ H p = some o ∧ (mPoolN n).R S o, fun {S S' H H' A v} e hA ⟨p, o, h1, h2, h3, h4⟩ => ⟨p, o, h1, h2, by rw [hA p (by rw [h2]; exact List.mem_cons_self)]; exact h3, h4⟩⟩
abbrev wPoolN (_ : Int) : Wp Nat := fun Q _ => Q 0
abbrev wTakeN (n : Nat) (l : Int) : Wp (Int × Nat) := fun Q _ => (n < 2 ^ 40 ∧ 0 < l ∧ intBits l ≤ 9000) ∧ ∀ a, 0 ≤ a → a < l → Q (a, n + 1)
abbrev LimN : Type := { d : Nat × Int // d.1 < 2 ^ 40 ∧ 0 < d.2 ∧ intBits d.2 ≤ 9000 }
end OW
namespace OW
open PySem PySem.Spec PyProof.Rows L2 OT NdefX
section
variable {ι : Type} (X : Cx) (B : Bs) (Γ : Gm) (O : ι → Om) (Z : Er → Prop) (n : ι)
def KW {α : Type} (e : Expr) (f : α → MP) (w : Wp (α × ι)) : Prop := GW X B Γ (O n) Z e (fun q => f q.1) (fun q _ => O q.2) w
def KN {α : Type} (e : Expr) (f : α → OP) (w : Wp (α × ι)) : Prop := GW X B Γ (O n) Z e (fun _ => tAny) (fun q v => (v, f q.1) :: O q.2) w
def KQ {α : Type} (N : Om) (e : Expr) (b : α → BP) (w : Wp (α × ι)) : Prop := (∀ m, ∀ x ∈ N, x ∈ O m) ∧ ∀ S H σ, Stt B Γ (O n) S H σ → ∀ (P : α × ι → Prop) (Q : VK), w P Z → (∀ a v S' H', P a → Same S S' → Stt B Γ (O a.2) S' H' σ → (∀ Γ2 O2 S2 H2 σ2, Same S' S2 → Stt B Γ2 O2 S2 H2 σ2 → (∀ x ∈ N, x ∈ O2) → (b a.1).R S2 H2 v) → Q v H') → wE X e σ H Q
def KR {α : Type} (e : Expr) (b : α → BP) (w : Wp (α × ι)) : Prop := ∀ S H σ, Stt B Γ (O n) S H σ → ∀ (P : α × ι → Prop) (Q : VK), w P Z → (∀ a v S' H', P a → Same S S' → Stt B Γ (O a.2) S' H' σ → (b a.1).R S' H' v → Q v H') → wE X e σ H Q
def KT (e : Expr) (w : Wp (Bool × ι)) : Prop := ∀ S H σ, Stt B Γ (O n) S H σ → ∀ (P : Bool × ι → Prop) (Q : Bool → Hp → Prop), w P Z → (∀ a S' H', P a → Same S S' → Stt B Γ (O a.2) S' H' σ → Q a.1 H') → wT X e σ H Q
def KTC (e : Expr) (w : Wp (Bool × ι)) : Prop := ∀ S H σ, Stt B Γ (O n) S H σ → ∀ (P : Bool × ι → Prop) (Q : Bool → Hp → Prop), w P Z → (∀ a S' H', P a → Same S S' → Stt B Γ (O a.2) S' H' σ → Q a.1 H') → ∃ t, L2.PW X e t ∧ t σ H Q
def KA {τ : Type} (N : Om) (es : List Expr) (F : τ → List AA) (w : Wp (τ × ι)) : Prop := (∀ m, ∀ x ∈ N, x ∈ O m) ∧ ∀ S H σ, Stt B Γ (O n) S H σ → ∀ (P : τ × ι → Prop) (Q : List V → Hp → Prop), w P Z → (∀ a vs S' H', P a → Same S S' → Stt B Γ (O a.2) S' H' σ → (∀ Γ2 O2 S2 H2 σ2, Same S' S2 → Stt B Γ2 O2 S2 H2 σ2 → (∀ x ∈ N, x ∈ O2) → AllA (F a.1) S2 H2 vs) → Q vs H') → wA X es σ H Q
def KO (oe : Option Expr) (w : Wp (Option Int × ι)) : Prop := ∀ S H σ, Stt B Γ (O n) S H σ → ∀ (P : Option Int × ι → Prop) (Q : Option Int → Hp → Prop), w P Z → (∀ a S' H', P a → Same S S' → Stt B Γ (O a.2) S' H' σ → Q a.1 H') → ∃ t, PO X oe t ∧ t σ H Q
def KI {α : Type} (N : Om) (tg it : Expr) (f : α → MP) (w : Wp (List α × ι)) : Prop := (∀ m, ∀ x ∈ N, x ∈ O m) ∧ ∀ S H σ, Stt B Γ (O n) S H σ → ∀ (P : List α × ι → Prop) (Rk : It → Hp → Prop), w P Z →
  (∀ xs (J : It) (G : Gho) S' H', P xs → Same S S' → Stt B Γ (O xs.2) S' H' σ → G.R S' → (∀ Γ2 O2 S2 H2 σ2, Stt (B.add G) Γ2 O2 S2 H2 σ2 → (∀ q ∈ N, q ∈ O2) → J.stop xs.1.length H2 ∧ ∀ i (h : i < xs.1.length), J.go i H2 ∧ ∀ y H3, J.yld i H2 y H3 → ∃ S3, Stp S2 H2 S3 H3 ∧ (f xs.1[i]).R S3 y) → Rk J H') → wI X tg it σ H Rk
end
section
variable {ι : Type} {X : Cx} {B : Bs} {Γ : Gm} {O : ι → Om} {O1 N N' : Om} {Z : Er → Prop} {n : ι} {e a b c l ix : Expr} {es : List Expr} {p p1 p2 pos pos' apos : Pos} {D : Ends} {rest body els : List Stmt} {α β γ τ ρ Dt : Type} {x nm : Str} {Wx : WX} {f : α → MP} {g : β → MP}
abbrev W.cn {ι α : Type} (w : Wp α) (n : ι) : Wp (α × ι) := W.bind w fun a => W.ret (a, n)
theorem KW.nn {w : Wp (α × ι)} (h : KW X B Γ O Z n e f w) : KN X B Γ O Z n e (fun a => MP.o (f a)) w := fun S H σ st P Q p n => h S H σ st P Q p fun a v S' H' p1 s1 t1 r1 => n a v S' H' p1 s1 (t1.addM r1) trivial
section
variable {wa : Wp (Int × ι)} {wb : ι → Wp (Int × ι)}
end
section
variable {wa : Wp (α × ι)} {wb : ι → Wp (β × ι)}
end
section
variable {wa : Wp (Int × ι)} {wb : ι → Wp (Int × ι)}
end
variable {k : Nat} {ps : List Str} {C : Addr} {As : Dt → List AP} {F : τ → List AA} {w : Wp (τ × ι)}
section
variable {O : Nat → Om} {n : Nat} {w : Wp (τ × Nat)} {wp : Dt → Wp (ρ × Nat)} {res : ρ × Nat → RP} {Ms : ρ × Nat → List OP}
end
section
variable {wp : Dt → Wp ρ} {res : ρ → RP} {Ms : ρ → List OP}
end
end
end OW
namespace OW
open PySem PySem.Spec PyProof.Rows L2 OT NdefX
section
variable {ι : Type} {X : Cx} {B : Bs} {Γ : Gm} {O : ι → Om} {O1 N N' : Om} {Z : Er → Prop} {n : ι} {e a b c l ix it tg elt : Expr} {ifs : List Expr} {es : List Expr} {p p1 p2 pos pos' apos : Pos} {D : Ends} {rest body els : List Stmt} {α β γ τ ρ Dt : Type} {x nm : Str} {Wx : WX} {f : α → MP} {g : β → MP} {scope : Scope}
def KIf (X : Cx) (B : Bs) (Γ : Gm) (O : ι → Om) (Z : Er → Prop) (n : ι) (ifs : List Expr) (w : Wp (Bool × ι)) : Prop := ∀ S H σ, Stt B Γ (O n) S H σ → ∀ (P : Bool × ι → Prop) (Q : Bool → Hp → Prop), w P Z → (∀ b S' H', P b → Same S S' → Stt B Γ (O b.2) S' H' σ → Q b.1 H') → ∃ t, PTs X ifs t ∧ t σ H Q
def W.compN {ι α β : Type} (c : α → ι → Wp (Bool × ι)) (g : α → ι → Wp (β × ι)) : List α → ι → Wp (List β × ι)
  | [], n, Q, _ => Q ([], n)
  | x :: xs, n, Q, E => c x n (fun t => W.ite t.1 (g x t.2 (fun y => W.compN c g xs y.2 (fun ys => Q (y.1 :: ys.1, ys.2)) E) E) (W.compN c g xs t.2 Q E)) E
def W.compD {ι α β : Type} (c : α → ι → Wp (Bool × ι)) (g : α → ι → Wp (β × ι)) (xs : List α) (n : ι) : Wp (List β × ι) := fun Q _ => xs.length ≤ 100000 ∧ W.compN c g xs n Q E0
end
end OW
namespace OW
open PySem PySem.Spec PyProof.Rows L2 OT NdefX
section
variable {X : Cx} {B : Bs} {Γ : Gm} {O : Nat → Om} {O1 N N' : Om} {Z : Er → Prop} {n : Nat} {e a b c l ix it tg elt : Expr} {ifs : List Expr} {es : List Expr} {p p1 p2 pos pos' apos : Pos} {D : Ends} {rest body els : List Stmt} {α β γ τ ρ Dt : Type} {x nm : Str} {Wx : WX} {f : α → MP} {g : β → MP} {F : α → OP}
end
end OW
namespace OW
open PySem PySem.Spec PyProof.Rows L2 OT NdefX
section
variable {X : Cx} {B : Bs} {Γ : Gm} {O N : Om} {Z : Er → Prop} {e a b : Expr} {p p1 pos pos' apos : Pos} {α β : Type} {nm : Str} {f : α → MP}
abbrev W.toInt (a : Str) : Wp Int := fun Q _ => ∃ n, PySem.intText? a = some n ∧ a.length ≤ 640 ∧ Q n
theorem op_smul : OpR X (binaryOp .Mult) (fun x y H Q => ∃ (a : Str) (i : Int), x = .str a ∧ y = .int i ∧ MulOk a i ∧ Q (.str (Txt.mul a i)) H) := by
  intro pins s σ H x y v u Q I rx ry h
  obtain ⟨a, i, rfl, rfl, hm, q⟩ := h
  obtain ⟨t, rfl⟩ := rx
  obtain ⟨t', rfl⟩ := ry
  exact SB.mul hm fun t' k => ⟨.str (Txt.mul a i), H, I.tok _, ⟨_, rfl⟩, q⟩
theorem w_smul {wa : Wp Str} {wb : Wp Int} (ha : EW X B Γ O Z a tS wa) (hb : EW X B Γ O Z b tI wb) : EW X B Γ O Z (.BinOp a .Mult b pos) tS (W.bind wa fun x => W.bind wb fun y => W.grd (MulOk x y) (Txt.mul x y)) :=
  w_op2 _ op_smul ha hb fun x y S H u v sm h1 h2 P Q p n => ⟨x, y, h1, h2, p.1, n _ _ S H p.2 (Stp.refl sm) rfl⟩
end
end OW
namespace OW
open PySem PySem.Spec PyProof.Rows L2 OT NdefX
inductive Dz where
  | n
  | b (x : Bool)
  | i (x : Int)
  | s (x : Str)
  | t (xs : List Dz)
  | l (xs : List Dz)
  | d (xs : List (Str × Dz))
mutual
def tDz (K : PySem.W.Frag) : Dz → MP
  | .n => tN
  | .b x => OT.tB x
  | .i x => tI x
  | .s x => tS x
  | .t xs => tT K (tDzs K xs)
  | .l xs => tL K (tDzs K xs)
  | .d xs => tD (tDzd K xs)
def tDzs (K : PySem.W.Frag) : List Dz → List MP
  | [] => []
  | x :: xs => tDz K x :: tDzs K xs
def tDzd (K : PySem.W.Frag) : List (Str × Dz) → List (Key × MP)
  | [] => []
  | (k, x) :: xs => (kS k, tDz K x) :: tDzd K xs
end
mutual
def Dz.dep : Dz → Nat
  | .t xs => Dz.deps xs + 1
  | .l xs => Dz.deps xs + 1
  | .d xs => Dz.depd xs + 1
  | _ => 0
def Dz.deps : List Dz → Nat
  | [] => 0
  | x :: xs => max x.dep (Dz.deps xs)
def Dz.depd : List (Str × Dz) → Nat
  | [] => 0
  | (_, x) :: xs => max x.dep (Dz.depd xs)
end
def Dz.flat : Dz → Option V
  | .n => some .non
  | .b x => some (.bl x)
  | .i x => some (.int x)
  | .s x => some (.str x)
  | _ => none
def oand (a b : Option Bool) : Option Bool := match a, b with
  | some x, some y => some (x && y)
  | _, _ => none
mutual
def Dz.cmp : Dz → Dz → Option Bool
  | .t xs, .t ys => Dz.cmps xs ys
  | .l xs, .l ys => if xs.length = ys.length then Dz.cmps xs ys else some false
  | .d xs, .d ys => if (xs.map (·.1)).Nodup then oand (some (decide (xs.length = ys.length))) (Dz.cmpd xs ys) else none
  | .n, .t _ => some false
  | .t _, .n => some false
  | x, y => match x.flat, y.flat with
    | some u, some v => some (eqV u v)
    | _, _ => none
def Dz.cmps : List Dz → List Dz → Option Bool
  | [], [] => some true
  | [], _ :: _ => some false
  | _ :: _, [] => some false
  | x :: xs, y :: ys => oand (Dz.cmp x y) (Dz.cmps xs ys)
def Dz.cmpd : List (Str × Dz) → List (Str × Dz) → Option Bool
  | [], _ => some true
  | (k, x) :: xs, ys => oand (match dget ys k with | some y => Dz.cmp x y | none => some false) (Dz.cmpd xs ys)
end
section
variable {X : Cx} {n : Nat}
theorem KvM.keys {K : PySem.W.Frag} {S : Hp} : ∀ {xs : List (Str × Dz)} {vs : List (Key × V)}, KvM (tDzd K xs) S vs → vs.map (·.1) = xs.map fun q => kS q.1
  | [], [], _ => rfl
  | [], _ :: _, h => by rw [tDzd] at h; exact h.elim
  | (_, _) :: _, [], h => by rw [tDzd] at h; exact h.elim
  | (k, x) :: xs, w :: vs, h => by
    rw [tDzd] at h
    rw [List.map_cons, List.map_cons, KvM.keys h.2.2, ← h.1]
def geti (e : List Bool) (i : Nat) : Bool := (e[i]?).getD true


variable {B : Bs} {Γ : Gm} {O : Om} {N : Om} {Z : Er → Prop} {a b e : Expr} {pos : Pos}
def Dz.cmpl (xs ys : List Dz) : Option Bool := if xs.length = ys.length then Dz.cmps xs ys else some false
abbrev W.eqZ (n : Nat) (xs ys : List Dz) : Wp Bool := fun Q _ => ∃ r, Dz.cmpl xs ys = some r ∧ Dz.deps xs ≤ n ∧ Q r
abbrev W.neZ (n : Nat) (xs ys : List Dz) : Wp Bool := fun Q _ => ∃ r, Dz.cmpl xs ys = some r ∧ Dz.deps xs ≤ n ∧ Q (!r)
def DzC {α : Type} (K : PySem.W.Frag) (f : α → MP) (g : α → Dz) : Prop := ∀ a S v, (f a).R S v → (tDz K (g a)).R S v
end
end OW
namespace OW
open PySem PySem.Spec PySem.W PyProof.Rows L2 OT
section
variable {X : Cx}
end
section
variable {X : Cx} {α : Type} [DecidableEq α] {f : α → MP} {n : Nat}
end
section
variable {X : Cx} {B : Bs} {Γ : Gm} {O N N' : Om} {Z : Er → Prop} {a b : Expr} {pos : Pos} {α : Type} [DecidableEq α] {f : α → MP} {n : Nat} {wa wb : Wp (List (Str × α))}
end
section
variable {X : Cx} {B : Bs} {Γ : Gm} {O N N' : Om} {Z : Er → Prop} {e a b c o l ix : Expr} {es : List Expr} {p p1 p2 pos pos' apos : Pos} {D : Ends} {rest body els : List Stmt} {α β ρ τ Dt : Type} {x nm : Str} {Wx : WX} {C : Addr} {As : Dt → List AP} {wp : Dt → Wp ρ} {res : ρ → RP} {Ms : ρ → List OP} {k : Nat} {ps : List Str} {ba : α → BP} {bo : β → BP} {wa : Wp α} {wo : Wp β} {f : α → MP}
end
end OW
namespace OW
open PySem PySem.Spec PyProof.Rows L2 OT NdefX
section
variable {X : Cx} {B : Bs} {Γ : Gm} {O : Nat → Om} {O1 O2 N N' : Om} {Z : Er → Prop} {n : Nat} {e a b c l ix it tg elt : Expr} {ifs : List Expr} {es : List Expr} {p p1 p2 pos pos' apos cpos : Pos} {D : Ends} {rest body els : List Stmt} {α β γ τ ρ Dt : Type} {x nm : Str} {Wx : WX} {f : α → MP} {g : β → MP} {bb : α → BP} {go : β → OP} {r : List V → Hp → VK → Prop} {k : α → Wp β} {w : Wp (α × Nat)}
def ddrop {α : Type} (d : List (Str × α)) (k : Str) : List (Str × α) := d.filter fun q => decide (q.1 ≠ k)
end
end OW
namespace OW
open PySem PySem.Spec PyProof.Rows L2 OT NdefX

def asS (C : Addr) (d : List Str) : List AP := .b (tR C).b :: d.map fun s => .b (tS s).b
def spS {ρ : Type} (K : PySem.W.Frag) (C : Addr) (wp : List Str → Wp ρ) (res : ρ → RP) : Sp := fun vs H Q E => vs.length ≤ 101 ∧ spW K (asS C) wp res (fun _ => []) vs H Q E
def GS (P : Program) (w : World) (K : PySem.W.Frag) (mg : Str → Option Value) (base : Heap) (C : Addr) (m : Str) (k : Nat) (sp : Sp) : Prop := ∃ f p1, FnR P w K mg base (L2.CX P w) k f sp ∧ ClX.CRead K C (.type "type") ∧ ClX.CMet K C (.type "type") m p1 f
theorem argR_texts : ∀ {d : List Str} {S L H : Hp} {A : List Addr} {us : List V}, ArgR (d.map fun s => .b (tS s).b) S L H A us → A = [] ∧ AllM (d.map tS) S us
  | [], _, _, _, _, [], h => ⟨h, trivial⟩
  | [], _, _, _, _, _ :: _, h => h.elim
  | _ :: _, _, _, _, _, [], h => h.elim
  | s :: d, _, _, _, _, u :: us, h => let g := argR_texts (d := d) h.2; ⟨g.1, h.1, g.2⟩
theorem ownP_texts : ∀ d : List Str, ownP (d.map fun s => AP.b (tS s).b) = []
  | [] => rfl
  | _ :: d => ownP_texts d
theorem mutO_nil : ∀ (As : List AP) (vs : List V), mutO As vs [] = []
  | [], _ => rfl
  | .b _ :: r, [] => rfl
  | .o _ :: r, [] => rfl
  | .b _ :: r, _ :: vs => mutO_nil r vs
  | .o _ :: r, _ :: vs => rfl
theorem Stt.backR {S H S2 H2 S' H' : Hp} {G : Gho} {Γ : Gm} {O : Om} {σ : L2.St} (e : Stp S H S2 H2) (t : Stt ⟨S2, H2, G⟩ Γ O S' H' σ) : Stt ⟨S, H, G⟩ Γ O S' H' σ where
  st := e.trans t.st
  slot := t.slot
  len := t.len
  own := let ⟨A, n, h, o⟩ := t.own; ⟨A, n, fun a ha => ⟨(h a ha).1, by
    show H a = none
    have h2 : H2 a = none := (h a ha).2.1
    cases q : H a with
    | none => rfl
    | some z => exact absurd (e.h a z q) (by rw [h2]; intro y; cases y), (h a ha).2.2⟩, o⟩
  gh := t.gh
section
variable {P : Program} {w : World} {K : PySem.W.Frag} {mg : Str → Option Value} {base : Heap} {k : Nat}
theorem star_ok {ρ : Type} {C p1 : Addr} {wp : List Str → Wp ρ} {res : ρ → RP} {N : List Str} {x q pc pv : Str} {s : Stmt} {f : Addr} (h : ∃ fd, FnS K x q s f fd) (cr : ClX.CRead K C (.type "type")) (cm : ClX.CMet K C (.type "type") x p1 f) (Sc : FnScope N [pc, pv] (defScope s)) (Gs : List Str → List V → Hp → Gm)
    (hbd : ∀ fd, FnS K x q s f fd → ∀ us rest : List Value, us.length = [pc].length → bindArgs fd ⟨us ++ rest, []⟩ = (newTuple rest >>= fun t => pure ([pc].zip us ++ [(pv, t)])))
    (hb : ∀ (cdv : Value) (A : Around) (outer : List Env) (s' : Shared) (H0 L S : Hp) (Q : VK) (E : XK) (d : List Str) (vs : List V) (Pp : ρ → Prop) (Z : Er → Prop), vs.length = 2 → N.Nodup → Room k (A.deeper (envOfC q (defScope s) s'.heap.objs.size f cdv)) →
      Fin ⟨S, L, .yes⟩ res (fun _ => []) Pp Q →
      (∀ Γ O, (([] : Om)).Sublist O → Hd (cxOf (L2.CX P w) P w K mg base N q (defScope s) f cdv A outer s' H0 E) ⟨S, L, .yes⟩ Γ O Z (fun c d _ H => E c d H)) →
      SW (cxOf (L2.CX P w) P w K mg base N q (defScope s) f cdv A outer s' H0 E) ⟨S, L, .yes⟩ (Gs d vs L) [] (defBody s) { nx := fun _ H' => Q .non H', rt := Q } (wp d Pp Z))
    (hG : ∀ d vs L, vs.length = 2 → gm1 [.b (tR C).b, .b (tTs K tS d).b] vs L ++ List.replicate (N.length - 2) none = Gs d vs L) : GS P w K mg base C x (k + 1) (spS K C wp res) := by
  obtain ⟨fd, F⟩ := h
  refine ⟨f, p1, ?_, cr, cm⟩
  have hbd2 := hbd fd F
  obtain ⟨oc, od, dV, kV, doc, pm, an, cdv, ct, osl, rfl, lk, hcd, _, _⟩ := F.ex
  refine (StX.fn_star (sp := spW K (fun d : List Str => [.b (tR C).b, .b (tTs K tS d).b]) wp res (fun _ => [])) lk hcd Sc StX.cxUp hbd2 ?_).imp ?_
  · rintro A outer s0 H vs Q E hr ⟨d, S, A', Pp, Z, h⟩
    have hv : vs.length = 2 := h.ar.length
    match vs, hv, h with
    | [v0, v1], hv, h =>
    have z := hb cdv A outer s0 H (minus H A') S Q E d [v0, v1] Pp Z hv Sc.nd hr ⟨fun r v S' H' p g => h.q r v S' H' p (by rw [mutO_nil]; exact g)⟩ (fun Γ O _ => ⟨tk_cx, fun x hx c dd S' H' σ t r => h.x x c dd S' H' hx (by
      show Stt _ [] [] S' H' []
      exact (t.drop (List.nil_sublist _)).bare) r⟩) h.w
    rw [← hG d [v0, v1] _ hv] at z
    exact z S H _ (stt1 (N := N) h.sm h.nd h.fr h.ar)
  · rintro vs H Q E ⟨hl, d, S, A, Pp, Z, h⟩
    match vs, h, hl with
    | [], h, _ => exact absurd h.ar (fun q => q.elim)
    | v :: us, h, hl =>
      have a1 := h.ar.1
      obtain ⟨a2, a3⟩ := argR_texts h.ar.2
      subst a2
      have e0 : minus H [] = H := rfl
      refine ⟨[v], us, rfl, rfl, Nat.le_trans (Nat.le_of_succ_le_succ hl) (by decide), fun p hp => ?_⟩
      have st := Stp.put (o := .tup us) h.sm hp
      refine ⟨d, upd S p (.tup us), [], Pp, Z, st.i, List.nodup_nil, (fun a ha => absurd ha (List.not_mem_nil)), ?_, h.w, fun r v' S' H' pr g => ?_, fun x c dd S' H' hx g r => ?_⟩
      · exact ⟨(tR C).up st.s a1, ⟨p, us, rfl, upd_same, a3.up st.s⟩, rfl⟩
      · refine h.q r v' S' H' pr ?_
        rw [mutO_nil]
        have g2 : (res r).post ⟨upd S p (.tup us), upd H p (.tup us), .yes⟩ [] v' S' H' := g
        show (res r).post ⟨S, H, .yes⟩ [] v' S' H'
        cases q : res r with
        | v R => rw [q] at g2; exact ⟨g2.1.backR st, g2.2⟩
        | o R => rw [q] at g2; exact Stt.backR st g2
      · refine h.x x c dd S' H' hx ?_ r
        have e1 : ownP (asS C d) = [] := ownP_texts d
        rw [e1, mutO_nil]
        have g2 : Stt ⟨upd S p (.tup us), upd H p (.tup us), .yes⟩ [] [] S' H' [] := g
        exact Stt.backR st g2
end
section
variable {X : Cx} {CX : CXT} {k i : Nat} {f C p1 : Addr} {sp : Sp} {E : L2.St → XK} {x m : Str} {p pos apos : Pos} {e o : Expr} {es : List Expr} {ta : TE} {t : TA} {mc : Value}
theorem code_atR {pins : List (Addr × Obj)} {σ : L2.St} {H : Hp} {s : Shared} {Q : VK} {us : List Value} {vs : List V} (F : FnR X.prog X.w X.K X.mg X.base CX k f sp) (hr : Room k X.A) (hx : PassesAt CX X σ (E σ))
    (I : Inv X pins σ H s) (r : Vals vs us) (h : sp vs H Q (E σ)) : codeAny (model X.prog X.w) X.A (.call (.ref f) ⟨us, []⟩) (fun r s' => match r with
      | .ok (.ret v) => EP X pins σ Q v s'
      | .ok _ => False
      | .error e => X.xe e s') s := by
  refine codeAny_mono (F X.A X.stack s H us vs Q (E σ) hr I.env0 r h) fun r s' hq => ?_
  match r, hq with
  | .error e, hq => exact hx pins H s e s' I hq
  | .ok (.ret u), hq => exact I.after hq
  | .ok .next, hq => exact False.elim hq
  | .ok .brk, hq => exact False.elim hq
  | .ok .cont, hq => exact False.elim hq
theorem pe_cmethR {pl : Sem Bool} (he : PE X o ta) (r : ClX.CRead X.K C mc) (c : ClX.CMet X.K C mc m p1 f) (F : FnR X.prog X.w X.K X.mg X.base CX k f sp) (hr : Room k X.A) (hx : ∀ σ, PassesAt CX X σ (E σ)) (ha : PA X (e :: es) t)
    (hst : starEach (e :: es) X.env = (false, eval e X.env) :: starEach es X.env := by rfl) (hpl : (backTo pos (starEach es X.env)).any (·.1) = false := by rfl)
    (ht : eval (.Call (.Attribute o m apos) (e :: es) [] pos) X.env = (do
      let ov ← eval o X.env
      standAt apos.atName
      let (f, first) ← holding [ov] (getMethod ov m pl)
      callWith pos f first (backTo pos (starEach (e :: es) X.env)) (backToKw pos (keywordEach [] X.env))) := by rfl) : PE X (.Call (.Attribute o m apos) (e :: es) [] pos) (tCMethS C sp E ta t) :=
  ⟨fun pins s σ H Q I h => PySem.W.methodCall_KW (pl := pl) (thn (he.run pins s σ H _ I h) fun u s1 ⟨y, H1, I1, ry, ey, q⟩ => by
    subst ey
    obtain rfl : u = Value.ref C := ry
    refine ClX.getmethcm_ok I1 r c fun s2 I2 => ?_
    refine ClX.callwith_cm I2 (ClX.base_none I1 (Nat.le_refl _)) c.fi (thn (ha.run pos _ s2 σ H1 _ I2 q) fun us s3 ⟨vs, H2, I3, rv, q2⟩ => ⟨⟨ClX.pin_at I3, I3.kIn⟩, ?_⟩) hst hpl
    have z := wpAny_call (PySem.W.method_call (ClX.pin_at I3) (code_atR (us := .ref C :: us) (vs := .ref C :: vs) F hr (hx σ) I3 (.cons rfl rv) q2))
    exact thn z fun _ _ y => ClX.unpinE y) ht⟩
end
section
variable {X : Cx} {B : Bs} {Γ : Gm} {O N N' : Om} {Z : Er → Prop} {e a b c o e1 e2 : Expr} {es : List Expr} {p p1 p2 pos pos' apos : Pos} {D : Ends} {rest body els : List Stmt} {α β γ : Type} {x m nm : Str} {Wx : WX}
section
variable {τ ρ : Type} {wp : List Str → Wp ρ} {res : ρ → RP} {F : τ → List AA} {w : Wp τ} {k : Nat} {C : Addr}
theorem AllA.len : ∀ {as : List AA} {S H : Hp} {vs : List V}, AllA as S H vs → vs.length = as.length
  | [], _, _, [], _ => rfl
  | [], _, _, _ :: _, h => h.elim
  | .b _ :: r, _, _, [], h => h.elim
  | .t _ :: r, _, _, [], h => h.elim
  | .b _ :: r, _, _, v :: vs, h => congrArg Nat.succ (AllA.len (as := r) h.2)
  | .t _ :: r, _, _, v :: vs, h => congrArg Nat.succ (AllA.len (as := r) h.2)
theorem argM_texts (C : Addr) (d : List Str) : ArgM (.b (tR C).b :: d.map fun s => .b (tS s).b) (asS C d) [] := by
  refine ⟨rfl, ?_⟩
  induction d with
  | nil => trivial
  | cons s d ih => exact ⟨rfl, ih⟩
theorem n_star {pl : Sem Bool} {f : ρ → OP} (G : GS X.prog X.w X.K X.mg X.base C m k (spS X.K C wp res)) (hr : Room k X.A) (hd : Hd X B Γ O Z Wx) (d : τ → List Str) (ho : EW X B Γ O Z o (fun _ : Unit => tR C) (W.ret ())) (ha : AW X B Γ O Z N (e :: es) F w) (hA : ∀ t, F t = (d t).map fun s => .b (tS s).b := by intro _; rfl) (hn : ∀ t, (d t).length ≤ 100 := by intro _; exact Nat.le_of_ble_eq_true rfl) (hf : ∀ r, res r = .o (f r) := by intro _; rfl)
    (hst : starEach (e :: es) X.env = (false, eval e X.env) :: starEach es X.env := by rfl) (hpl : (backTo pos (starEach es X.env)).any (·.1) = false := by rfl)
    (ht : eval (.Call (.Attribute o m apos) (e :: es) [] pos) X.env = (do
      let ov ← eval o X.env
      standAt apos.atName
      let (f, first) ← holding [ov] (getMethod ov m pl)
      callWith pos f first (backTo pos (starEach (e :: es) X.env)) (backToKw pos (keywordEach [] X.env))) := by rfl) : NW X B Γ O Z (.Call (.Attribute o m apos) (e :: es) [] pos) f (W.bind w fun t => wp (d t)) := by
  obtain ⟨g, p1, G, cr, cm⟩ := G
  intro S H σ st P Q p n
  refine ⟨_, pe_cmethR pe_w cr cm G hr (fun σ => passAt hd.tk σ) pa_w hst hpl ht, ho S H σ st (fun _ => True) _ trivial fun y u S1 H1 p1 s1 t1 r1 => ⟨r1, ?_⟩⟩
  refine ha.2 S1 H1 σ t1 _ _ p fun t vs S2 H2 p2 s2 t2 r2 => ?_
  have hA2 : ArgM (.b (tR C).b :: F t) (asS C (d t)) [] := by rw [hA t]; exact argM_texts C (d t)
  have rr : ∀ Γ3 O3 S3 H3 σ3, Same S2 S3 → Stt B Γ3 O3 S3 H3 σ3 → (∀ x ∈ N, x ∈ O3) → AllA (.b (tR C).b :: F t) S3 H3 (.ref C :: vs) := fun Γ3 O3 S3 H3 σ3 s3 t3 hn => ⟨rfl, r2 _ _ S3 H3 _ s3 t3 hn⟩
  refine ⟨?_, call_go (As := asS C) (N := N) (M := []) (R := O) (vs := .ref C :: vs) hd (d t) hA2 (.refl _) ha.1 t2 rr p2 fun r v S' H' p3 s3 h => ?_⟩
  · have := AllA.len (rr _ _ _ _ _ (Same.refl _) t2 ha.1)
    rw [this, hA t]
    show ((d t).map _).length + 1 ≤ 101
    rw [List.length_map]
    exact Nat.succ_le_succ (hn t)
  · rw [hf r] at h
    exact n r v S' H' p3 ((s1.trans s2).trans s3) h trivial
end
end
end OW
namespace OW
open PySem PySem.Spec PyProof.Rows L2 OT NdefX
def CI (kd : Bool) (h : Heap) (it l : Addr) (k : Nat) (xs : Array Value) : Prop := match kd with
  | true => h.IsListIter it l k ∧ h.IsList l xs
  | false => h.IsTupleIter it l k ∧ h.IsTuple l xs
theorem CI.there {kd : Bool} {h : Heap} {it l : Addr} {k : Nat} {xs : Array Value} (c : CI kd h it l k xs) : ∃ o, h.get? it = some o ∧ ∀ v, o.data ≠ .cell v := by
  cases kd with
  | true => obtain ⟨⟨o, e, _, d⟩, _⟩ := c; exact ⟨o, e, fun v q => by rw [d] at q; cases q⟩
  | false => obtain ⟨⟨o, e, _, d⟩, _⟩ := c; exact ⟨o, e, fun v q => by rw [d] at q; cases q⟩
section
variable {prog : Program} {w : World} {A : Around} {E : Value → Shared → Prop} {s : Shared}
variable {z TI TO T i1 i2 l1 l2 : Addr} {d1 d2 : Bool} {k1 k2 : Nat} {xs ys : Array Value} {x y a b : Value} (D : ZipApart z TI TO i1 i2 l1 l2)
include D
end
end OW
namespace OW
open PySem PySem.Spec PyProof.Rows L2 OT NdefX
abbrev zO1 (h : Heap) (i1 i2 : Value) : Heap := h.push { cls := .type "tuple", data := .seq #[i1, i2] }
abbrev zO2 (h : Heap) (i1 i2 : Value) : Heap := (zO1 h i1 i2).push { cls := .type "tuple", data := .seq #[.none, .none] }
abbrev zO3 (h : Heap) (i1 i2 : Value) : Heap := (zO2 h i1 i2).push { cls := .type "zip", data := .fields #[.none, .bool false, .bool false, .ref h.objs.size, .ref (zO1 h i1 i2).objs.size] }
section
variable {prog : Program} {w : World} {A : Around} {E : Value → Shared → Prop} {s : Shared}
end
def Sqz (K : PySem.W.Frag) (kd : Bool) (H : Hp) (a : Addr) (xs : List V) : Prop := match kd with
  | true => SqL K H a xs
  | false => SqT K H a xs
def Itk (kd : Bool) (h : Heap) (it a : Addr) (i : Nat) : Prop := match kd with
  | true => h.IsListIter it a i
  | false => h.IsTupleIter it a i
theorem Itk.there {kd : Bool} {h : Heap} {it a : Addr} {i : Nat} (x : Itk kd h it a i) : ∃ o, h.get? it = some o ∧ ∀ v, o.data ≠ .cell v := by
  cases kd with
  | true => obtain ⟨o, e, _, d⟩ := x; exact ⟨o, e, fun v q => by rw [d] at q; cases q⟩
  | false => obtain ⟨o, e, _, d⟩ := x; exact ⟨o, e, fun v q => by rw [d] at q; cases q⟩
section
variable {X : Cx} {pins : List (Addr × Obj)} {σ : L2.St} {H : Hp} {s : Shared}
end
def Itz2 (K : PySem.W.Frag) (d1 d2 : Bool) (a b : Addr) : It :=
  ⟨fun i H => ∃ (xs ys : List V) (x y : V), Sqz K d1 H a xs ∧ Sqz K d2 H b ys ∧ xs[i]? = some x ∧ ys[i]? = some y,
    fun i H v H' => ∃ T x y, v = .ref T ∧ H T = none ∧ H' = upd H T (.tup [x, y]) ∧ (∀ xs, Sqz K d1 H a xs → xs[i]? = some x) ∧ ∀ ys, Sqz K d2 H b ys → ys[i]? = some y,
    fun i H => ∃ xs ys : List V, Sqz K d1 H a xs ∧ Sqz K d2 H b ys ∧ (xs.length ≤ i ∨ ys.length ≤ i)⟩
def Zst (d1 d2 : Bool) (a b z TI TO i1 i2 : Addr) (i : Nat) (h : Heap) : Prop := IsZip h z TI TO .none ∧ IsPair h TI (.ref i1) (.ref i2) ∧ (∃ x y, IsPair h TO x y) ∧ Itk d1 h i1 a i ∧ Itk d2 h i2 b i
end OW
namespace OW
open PySem PySem.Spec PyProof.Rows L2 OT NdefX
section
variable {X : Cx} {pins : List (Addr × Obj)} {σ : L2.St} {H : Hp} {s : Shared} {d1 d2 : Bool} {a b it : Addr} {xs ys : List V}
def Zf (K : PySem.W.Frag) (ow : Bool) (C : Addr) (fl : Str) (d1 : Bool) (H : Hp) (u : V) (a : Addr) (xs : List V) : Prop := (u = .ref a ∧ Sqz K d1 H a xs) ∨ (ow = true ∧ d1 = false ∧ ∃ o dx fs, u = .ref o ∧ H o = some (.ins C dx fs) ∧ fs.lookup fl = some (.ref a) ∧ SqT K H a xs)
end
def iZ2 (K : PySem.W.Frag) (ow : Bool) (C : Addr) (fl : Str) (ta : TA) : TI := fun σ H R => ta σ H fun vs H1 => ∃ u d1 d2 a b xs ys, vs = [u, .ref b] ∧ Zf K ow C fl d1 H1 u a xs ∧ Sqz K d2 H1 b ys ∧ R (Itz2 K d1 d2 a b) H1
end OW
namespace OW
open PySem PySem.Spec PyProof.Rows L2 OT NdefX
section
variable {X : Cx} {pins : List (Addr × Obj)} {σ : L2.St} {H : Hp} {s : Shared} {d1 d2 : Bool} {a b : Addr}
end
def tDictZ (K : PySem.W.Frag) (ow : Bool) (C : Addr) (fl : Str) (ta : TA) : TE := fun σ H Q => ta σ H fun vs H1 => ∃ (u : V) (d1 d2 : Bool) (a b : Addr) (ks : List Key) (ys : List V), vs = [u, .ref b] ∧ Zf K ow C fl d1 H1 u a (ks.map kV) ∧ Sqz K d2 H1 b ys ∧ ∀ p, H1 p = none → Q (.ref p) (upd H1 p (.dK (mergeK [] (ks.zip ys))))
end OW
namespace OW
open PySem PySem.Spec PyProof.Rows L2 OT NdefX
section
variable {X : Cx} {B : Bs} {Γ : Gm} {O N N' : Om} {Z : Er → Prop} {e a b c o l r : Expr} {es elts : List Expr} {p p2 pos pos' apos tpos pq : Pos} {α β γ τ : Type} {f : α → MP} {g : β → MP} {kk : Nat} {ow : Bool} {C : Addr} {fl : Str}
def ZW (X : Cx) (B : Bs) (Γ : Gm) (O : Om) (Z : Er → Prop) (N : Om) (ow : Bool) (C : Addr) (fl : Str) (e : Expr) (f : α → MP) (w : Wp (List α)) : Prop := (∀ x ∈ N, x ∈ O) ∧ ∀ S H σ, Stt B Γ O S H σ → ∀ (P : List α → Prop) (Q : VK), w P Z →
  (∀ xs u q t S' H', P xs → Same S S' → Stt B Γ O S' H' σ → (∀ Γ2 O2 S2 H2 σ2, Same S' S2 → Stt B Γ2 O2 S2 H2 σ2 → (∀ x ∈ N, x ∈ O2) → ∃ ws, Zf X.K ow C fl t H2 u q ws ∧ AllM (xs.map f) S2 ws) → Q u H') → wE X e σ H Q
end
end OW
namespace OW
open PySem PySem.Spec PyProof.Rows L2 OT NdefX
theorem allm_rep {f : α → MP} {S : Hp} {xs : List α} {vs : List V} (h : AllM (xs.map f) S vs) : ∀ n : Nat, AllM ((List.replicate n xs).flatten.map f) S (List.replicate n vs).flatten
  | 0 => trivial
  | n + 1 => by
    rw [List.replicate_succ, List.replicate_succ, List.flatten_cons, List.flatten_cons, List.map_append]
    exact h.append (allm_rep h n)
section
variable {X : Cx} {B : Bs} {Γ : Gm} {O N N' : Om} {Z : Er → Prop} {e a b c o l r : Expr} {es elts : List Expr} {p p2 pos pos' apos tpos pq : Pos} {α β γ τ : Type} {f : α → MP} {g : β → MP}
theorem n_rep {wa : Wp (List α)} {wb : Wp Int} (ha : RW X B Γ O Z N a (rL f) wa) (hb : EW X B Γ O Z b tI wb) : NW X B Γ O Z (.BinOp a .Mult b pos) (oLs f) (W.bind wa fun xs => W.bind wb fun n => W.grd (n ≤ 100000 ∧ -100000 ≤ n ∧ xs.length * n.toNat ≤ 100000) (List.replicate n.toNat xs).flatten) := fun S H σ st P Q p n =>
  ⟨_, pe_op op_rep pe_w pe_w, ha.now S H σ st _ _ p fun xs u S1 H1 p1 s1 t1 _ r1 => hb S1 H1 σ t1 _ _ p1 fun k v S2 H2 p2 s2 t2 r2 => by
    obtain ⟨q, vs, rfl, h2, h3⟩ := r1 S2 H2 s2 t2
    have m3 := AllR.toM h3
    obtain ⟨⟨k1, k2, k3⟩, p2⟩ := p2
    refine ⟨q, k, vs, rfl, r2, h2, by omega, by omega, ?_, fun l hl => n _ _ S2 _ p2 (s1.trans s2) (t2.add (P := oLs f (List.replicate k.toNat xs).flatten) hl ⟨l, _, [], rfl, rfl, upd_same, AllO.ofS (allm_rep m3 _)⟩) trivial⟩
    rw [m3.length, List.length_map]
    exact Nat.le_trans k3 (by decide)⟩
end
section
variable {X : Cx} {B : Bs} {Γ : Gm} {O1 : Om} {O : Nat → Om} {n : Nat} {Z : Er → Prop} {c e : Expr} {pos : Pos} {D : Ends} {rest body els : List Stmt}
end
section
variable {X : Cx} {B : Bs} {Γ : Gm} {O : Om} {Z : Er → Prop} {e : Expr}
end
end OW
namespace OW
open PySem PySem.Spec PyProof.Rows L2 OT NdefX
def oDy {α : Type} (g : α → Dy) : Option α → Dy
  | none => .n
  | some a => g a
end OW
namespace OW
open PySem PySem.Spec PyProof.Rows L2 OT NdefX
mutual
def dyz : Dy → Dz
  | .n => .n
  | .b x => .b x
  | .i x => .i x
  | .s x => .s x
  | .t xs => .t (dyzs xs)
  | .l xs => .l (dyzs xs)
def dyzs : List Dy → List Dz
  | [] => []
  | x :: xs => dyz x :: dyzs xs
end
section
variable {X : Cx} {B : Bs} {Γ : Gm} {O N N' : Om} {Z : Er → Prop} {a b e : Expr} {pos : Pos}
end
end OW
namespace OW
open PySem PySem.Spec PyProof.Rows L2 OT NdefX
section
variable {X : Cx} {C : Addr} {k : Nat} {ps : List Str} {Dt ρ : Type} {As : Dt → List AP} {wp : Dt → Wp Bool} {res : Bool → RP} {Ms : Bool → List OP}
end
end OW
namespace OW
open PySem PySem.Spec PyProof.Rows L2 OT NdefX
section
variable {X : Cx} {B : Bs} {Γ : Gm} {O N : Om} {Z : Er → Prop} {e a b : Expr} {α β : Type} {D : Ends} {body : List Stmt}
end
end OW
namespace OW
open PySem PySem.Spec PyProof.Rows L2 OT NdefX
def stp {α : Type} (xs : List α) (lo : Option Int) (k : Int) : List α := (sliceRange (sliceBounds lo none (some k) xs.length).1 (sliceBounds lo none (some k) xs.length).2.1 k).filterMap (fun i => xs[i]?)
def tStpL (K : PySem.W.Frag) (te : TE) (tl : TO) (n : Int) : TE := fun σ H Q => te σ H fun x H1 => tl σ H1 fun lo H2 => ∃ a xs, x = .ref a ∧ SqL K H2 a xs ∧ ∀ p, H2 p = none → Q (.ref p) (upd H2 p (.lst (stp xs lo n)))
section
variable {X : Cx} {B : Bs} {Γ : Gm} {O N : Om} {Z : Er → Prop} {e a : Expr} {α : Type} {f : α → MP} {p1 p3 pos : Pos} {k : Nat} {n : Int}
end
end OW
namespace OW
open PySem PySem.Spec PyProof.Rows L2 OT NdefX
section
variable {X : Cx} {B : Bs} {Γ : Gm} {O : Om} {Z : Er → Prop} {e : Expr} {α : Type}
end
section
variable {X : Cx} {B : Bs} {Γ : Gm} {O N N' : Om} {Z : Er → Prop} {a b : Expr} {pos : Pos} {α : Type} [DecidableEq α] {f : α → MP} {n : Nat} {wa wb : Wp (List (List (Str × α)))}
end
end OW
namespace OW
open PySem PySem.Spec PyProof.Rows L2 OT NdefX
section
variable {X : Cx} {B : Bs} {Γ : Gm} {O : Nat → Om} {Z : Er → Prop} {e : Expr} {α : Type} {n : Nat}
end
end OW
namespace OW
open PySem PySem.Spec PyProof.Rows L2 OT NdefX
section
variable {X : Cx} {e : Expr} {te : TE} {pos : Pos} {C : Addr} {k : Nat} {ps : List Str}
end
section
variable {X : Cx} {C : Addr} {k : Nat} {ps : List Str} {Dt : Type} {As : Dt → List AP} {wp : Dt → Wp Str} {res : Str → RP} {Ms : Str → List OP}
end
section
variable {X : Cx} {B : Bs} {Γ : Gm} {O : Om} {Z : Er → Prop} {e : Expr} {p pos pos' : Pos} {D : Ends} {rest : List Stmt} {α : Type} {f : α → MP} {x : Str} {k : Nat} {ps : List Str} {Wx : WX} {ok : α → Prop} {fs : α → List (Str × MP)}
end
end OW
namespace OW
open PySem PySem.Spec PyProof.Rows L2 OT
structure FnQ (P : Program) (w : World) (K : PySem.W.Frag) (mg : Str → Option Value) (base : Heap) (k : Nat) (f : Addr) (fd : FuncData) (ps : List Str) (sp : Sp) : Prop where
  ln : ∀ vs H Q E, sp vs H Q E → vs.length = ps.length
  go : ∀ (p : Addr × Obj) (A : Around) (outer : List Env) (s : Shared) (H : Hp) (args : Args) (us : List Value) (vs : List V) (Q : VK) (E : XK), L2H.RoomH k A → L2H.PinOk outer H s p → Env0 P w K mg base A outer s H → BindsTo s fd args (ps.zip us) → Vals vs us → sp vs H Q E →
    codeAny (model P w) A (.call (.ref f) args) (CR (L2.CX P w) outer P w H s Q E) s
def GFQ (P : Program) (w : World) (K : PySem.W.Frag) (mg : Str → Option Value) (base : Heap) (x : Str) (k : Nat) (ps : List Str) (sp : Sp) : Prop := ∃ f fd, FnQ P w K mg base k f fd ps sp ∧ mg x = some (.ref f) ∧ PySem.W.keepIn K (.ref f) = true ∧ Binds K fd ps []
section
variable {P : Program} {w : World} {K : PySem.W.Frag} {mg : Str → Option Value} {base : Heap} {k : Nat} {ps : List Str} {sp : Sp} {y x q : Str} {s : Stmt} {f : Addr}
variable {N : List Str} {fd : FuncData} {qual : Str} {params : Arguments} {body : List Stmt} {scope : Scope} {kws : List (Str × V)}
end
section
variable {X : Cx} {B : Bs} {Γ : Gm} {O : Om} {x : Str} {p pos : Pos} {e : Expr} {es : List Expr} {k : Nat} {ps : List Str} {D ρ τ : Type} {As : D → List AP} {wp : D → Wp ρ} {res : ρ → RP} {Ms : ρ → List OP} {F : τ → List AA} {w : Wp τ} {N : List (V × OP)}
end
end OW
namespace OW
open PySem PySem.Spec PyProof.Rows L2 OT NdefX
section
variable {X : Cx} {B : Bs} {Γ : Gm} {O : Om} {Z : Er → Prop} {p pos : Pos} {a b c : Expr}
def rngs (m c : Int) (n : Nat) : List Int := (List.range n).map fun i : Nat => m + c * (i : Int)
end
section
variable {X : Cx} {B : Bs} {Γ : Gm} {O : Nat → Om} {O1 : Om} {Z : Er → Prop} {n : Nat} {e ix : Expr} {nm : Str} {p1 pos pos' apos : Pos} {rest : List Stmt} {D : Ends} {α : Type}
end
end OW
namespace OW
open PySem PySem.Spec PySem.W PyProof.Rows L2 OT
abbrev kI (q : Str × Int) : Key × V := (kS q.1, .int q.2)
section
variable {P : Program} {w : World} {A : Around} {s : Shared}
end
section
variable {X : Cx}
variable {B : Bs} {Γ : Gm} {O N : Om} {Z : Er → Prop} {a b : Expr} {pos : Pos} {wa wb : Wp (List (Str × Int))}
end
section
variable {X : Cx} {B : Bs} {Γ : Gm} {O : Om} {Z : Er → Prop} {nm : Str} {p1 pos pos' apos : Pos} {rest : List Stmt} {D : Ends} {α : Type}
end
end OW
namespace PySem.W
open PySem PySem.Spec PySem.Calls PyProof.Rows
end PySem.W
namespace OW
open PySem PySem.Spec PyProof.Rows L2 OT NdefX
def rIsX (D a : Addr) : List V → Hp → VK → Prop := fun xs H Q => xs = [.ref a, .ref D] ∧ Q (.bl true) H
section
variable {X : Cx} {B : Bs} {Γ : Gm} {O : Om} {Z Zb : Er → Prop} {D : Ends} {rest body : List Stmt} {Wx : WX} {done : List Str} {hds : List ExceptHandler} {pos pos' np p p1 p2 : Pos} {δ : Type} {cx n : Str} {b₀ : Stmt} {suite : List Stmt} {c : Expr}
end
end OW
namespace OW
open PySem PySem.Spec PyProof.Rows L2 OT NdefX
section
variable {X : Cx} {B : Bs} {Γ : Gm} {O N N' : Om} {Z : Er → Prop} {a b : Expr} {pos : Pos} {α β τ : Type}
variable {Dt : Type} {As : Dt → List AP} {k : Nat} {ps : List Str} {C : Addr} {ba : β → BP} {wa : Wp β} {bo : α → BP} {wo : Wp α}
variable {wp : Dt → Wp Bool} {res : Bool → RP} {Ms : Bool → List OP}
end
end OW
namespace OW
open PySem PySem.Spec PyProof.Rows L2 OT NdefX
structure Mac where
  beginnings : Ord
  standings : Ord
  table : List (Str × Chn)
deriving DecidableEq
def tMac (K : PySem.W.Frag) (m : Mac) : MP := tO (He.ga K "Machine") [("beginnings", tOrd K m.beginnings), ("standings", tOrd K m.standings), ("table", tDs (tChn K) m.table)]
section
variable {α β : Type} {F : β → OP}
def sumF (F : β → OP) : β ⊕ V → OP
  | .inl b => F b
  | .inr v => MP.o (tV v)
def detach (kvs : List (Str × β)) (j : Str) (z : V) : List (Str × (β ⊕ V)) := kvs.map fun q => (q.1, if q.1 = j then .inr z else .inl q.2)
theorem detach_no {j : Str} {z : V} : ∀ {xs : List (Str × β)}, j ∉ xs.map (·.1) → detach xs j z = xs.map fun q => (q.1, .inl q.2)
  | [], _ => rfl
  | x :: xs, h => by
    have h1 : ¬ x.1 = j := fun e => h (by rw [← e]; exact List.mem_cons_self)
    show (x.1, if x.1 = j then _ else _) :: detach xs j z = _
    rw [if_neg h1, detach_no fun z => h (List.mem_cons_of_mem _ z)]
    rfl
theorem KvO.inl {S H : Hp} {A : List Addr} {vs : List (Key × V)} {xs : List (Str × β)} : KvO ((xs.map fun q => (q.1, (Sum.inl q.2 : β ⊕ V))).map fun q => (kS q.1, sumF F q.2)) S H A vs ↔ KvO (xs.map fun q => (kS q.1, F q.2)) S H A vs := by
  rw [List.map_map]
  rfl
theorem KvO.keysK {S H : Hp} : ∀ {xs : List (Str × β)} {A : List Addr} {vs : List (Key × V)}, KvO (xs.map fun q => (kS q.1, F q.2)) S H A vs → vs.map (·.1) = xs.map fun q => kS q.1
  | [], _, [], _ => rfl
  | [], _, _ :: _, h => h.elim
  | _ :: _, _, [], h => h.elim
  | x :: xs, A, v :: vs, ⟨e, A1, A2, _, _, h⟩ => by
    rw [List.map_cons, List.map_cons, KvO.keysK h, e]
theorem KvO.apart {S H : Hp} {j : Str} {x : β} : ∀ {xs : List (Str × β)} {A : List Addr} {vs : List (Key × V)}, KvO (xs.map fun q => (kS q.1, F q.2)) S H A vs → (vs.map (·.1)).Nodup → dget xs j = some x →
    ∃ z A1 A2, valV vs (kS j) = some z ∧ A.Perm (A1 ++ A2) ∧ (F x).R S H A1 z ∧ KvO ((detach xs j z).map fun q => (kS q.1, sumF F q.2)) S H A2 vs
  | [], _, [], _, _, e => by simp [dget] at e
  | [], _, _ :: _, z, _, _ => z.elim
  | _ :: _, _, [], z, _, _ => z.elim
  | (k, y) :: xs, A, (k', w) :: vs, ⟨e0, B1, B2, eA, h1, h2⟩, nd, e => by
    have e0' : k' = kS k := e0.symm
    subst e0' eA
    obtain ⟨n1, n2⟩ := List.nodup_cons.mp nd
    by_cases ek : k = j
    · subst ek
      have e1 : dget ((k, y) :: xs) k = some y := by simp [dget, List.find?_cons]
      rw [e1] at e
      cases e
      refine ⟨w, B1, B2, valV_pos rfl, .refl _, h1, ?_⟩
      show KvO ((kS k, sumF F (if k = k then _ else _)) :: ((detach xs k w).map fun q => (kS q.1, sumF F q.2))) S H B2 ((kS k, w) :: vs)
      rw [if_pos rfl]
      refine ⟨rfl, [], B2, rfl, ⟨rfl, rfl⟩, ?_⟩
      rw [detach_no fun z => n1 (by
        rw [KvO.keysK h2]
        obtain ⟨q, hq, e⟩ := List.mem_map.mp z
        exact List.mem_map.mpr ⟨q, hq, by rw [← e]⟩)]
      exact KvO.inl.mpr h2
    · have e1 : dget ((k, y) :: xs) j = dget xs j := by simp [dget, List.find?_cons, ek]
      rw [e1] at e
      obtain ⟨z, A1, A2, g1, g2, g3, g4⟩ := KvO.apart h2 n2 e
      refine ⟨z, A1, B1 ++ A2, ?_, ?_, g3, ?_⟩
      · rw [valV_neg (fun c => ek (by cases c; rfl))]
        exact g1
      · refine (List.Perm.append_left B1 g2).trans ?_
        rw [← List.append_assoc, ← List.append_assoc]
        exact List.Perm.append_right A2 List.perm_append_comm
      · show KvO ((kS k, sumF F (if k = j then _ else _)) :: ((detach xs j z).map fun q => (kS q.1, sumF F q.2))) S H (B1 ++ A2) ((kS k, w) :: vs)
        rw [if_neg ek]
        exact ⟨rfl, B1, A2, rfl, h1, g4⟩
theorem KvO.back {S H : Hp} {j : Str} {x : β} {z : V} {A1 : List Addr} (hx : (F x).R S H A1 z) : ∀ {xs : List (Str × β)} {A2 : List Addr} {vs : List (Key × V)}, KvO ((detach xs j z).map fun q => (kS q.1, sumF F q.2)) S H A2 vs → (vs.map (·.1)).Nodup → j ∈ xs.map (·.1) →
    ∃ A, A.Perm (A1 ++ A2) ∧ KvO ((dput xs j x).map fun q => (kS q.1, F q.2)) S H A vs
  | [], _, _, _, _, h => by cases h
  | _ :: _, _, [], z, _, _ => z.elim
  | (k, y) :: xs, A2, (k', w) :: vs, h, nd, hj => by
    have h : KvO ((kS k, sumF F (if k = j then .inr z else .inl y)) :: ((detach xs j z).map fun q => (kS q.1, sumF F q.2))) S H A2 ((k', w) :: vs) := h
    obtain ⟨e0, B1, B2, eA, h1, h2⟩ := h
    have e0' : k' = kS k := e0.symm
    subst e0' eA
    obtain ⟨n1, n2⟩ := List.nodup_cons.mp nd
    have keys : vs.map (·.1) = xs.map fun q => kS q.1 := by
      have := KvO.keysK h2
      rw [this]
      unfold detach
      rw [List.map_map]
      rfl
    by_cases ek : k = j
    · subst ek
      rw [if_pos rfl] at h1
      obtain ⟨e1, e2⟩ := h1
      have e2 : w = z := e2
      subst e1 e2
      refine ⟨A1 ++ B2, by simp, ?_⟩
      have e3 : dput ((k, y) :: xs) k x = (k, x) :: xs := by simp [dput]
      rw [e3]
      refine ⟨rfl, A1, B2, rfl, hx, ?_⟩
      rw [detach_no fun q => n1 (by
        rw [keys]
        obtain ⟨r, hr, e⟩ := List.mem_map.mp q
        exact List.mem_map.mpr ⟨r, hr, by rw [← e]⟩)] at h2
      exact KvO.inl.mp h2
    · rw [if_neg ek] at h1
      obtain ⟨A, g1, g2⟩ := KvO.back hx h2 n2 ((List.mem_cons.mp hj).resolve_left fun e => ek e.symm)
      have e3 : dput ((k, y) :: xs) j x = (k, y) :: dput xs j x := by simp [dput, ek]
      rw [e3]
      refine ⟨B1 ++ A, ?_, rfl, B1, A, rfl, h1, g2⟩
      refine (List.Perm.append_left B1 g1).trans ?_
      rw [← List.append_assoc, ← List.append_assoc]
      exact List.Perm.append_right B2 List.perm_append_comm
variable {B : Bs} {Γ : Gm} {O : Om}
theorem Stt.apart {S H : Hp} {σ : L2.St} {u : V} {kvs : List (Str × β)} {j : Str} {x : β} (t : Stt B Γ ((u, oDn F kvs) :: O) S H σ) (e : dget kvs j = some x) : ∃ z y vs, u = .ref y ∧ H y = some (.dK vs) ∧ valV vs (kS j) = some z ∧ Stt B Γ ((z, F x) :: (u, oDn (sumF F) (detach kvs j z)) :: O) S H σ := by
  obtain ⟨A, nd, hA, A1, A2, eA, ⟨y, vs, A', e1, e2, e3, nk, e4⟩, q⟩ := t.own
  obtain ⟨z, B1, B2, g1, g2, g3, g4⟩ := KvO.apart e4 nk e
  refine ⟨z, y, vs, e1, e3, g1, t.st, t.slot, t.len, ⟨B1 ++ ((y :: B2) ++ A2), ?_, ?_, B1, _, rfl, g3, y :: B2, A2, rfl, ⟨y, vs, B2, e1, rfl, e3, nk, g4⟩, q⟩, t.gh⟩
  · have p : A.Perm (B1 ++ ((y :: B2) ++ A2)) := by
      rw [eA, e2, ← List.append_assoc]
      refine List.Perm.append_right A2 ?_
      exact (List.Perm.cons y g2).trans List.perm_middle.symm
    exact p.nodup_iff.mp nd
  · intro a ha
    have p : A.Perm (B1 ++ ((y :: B2) ++ A2)) := by
      rw [eA, e2, ← List.append_assoc]
      refine List.Perm.append_right A2 ?_
      exact (List.Perm.cons y g2).trans List.perm_middle.symm
    exact hA a (p.mem_iff.mpr ha)
theorem Stt.back {S H : Hp} {σ : L2.St} {u z : V} {kvs : List (Str × β)} {j : Str} {x : β} (t : Stt B Γ ((z, F x) :: (u, oDn (sumF F) (detach kvs j z)) :: O) S H σ) (hj : j ∈ kvs.map (·.1)) : Stt B Γ ((u, oDn F (dput kvs j x)) :: O) S H σ := by
  obtain ⟨A, nd, hA, A1, A2, eA, g3, A3, A4, eA2, ⟨y, vs, A', e1, e2, e3, nk, e4⟩, q⟩ := t.own
  obtain ⟨C, c1, c2⟩ := KvO.back (F := F) (x := x) (z := z) g3 e4 nk hj
  have p : A.Perm ((y :: C) ++ A4) := by
    rw [eA, eA2, e2, ← List.append_assoc]
    refine List.Perm.append_right A4 ?_
    exact List.perm_middle.trans (List.Perm.cons y c1.symm)
  exact ⟨t.st, t.slot, t.len, ⟨(y :: C) ++ A4, p.nodup_iff.mp nd, fun a ha => hA a (p.mem_iff.mpr ha), y :: C, A4, rfl, ⟨y, vs, C, e1, rfl, e3, nk, c2⟩, q⟩, t.gh⟩
def mxF (f : α → MP) (q : Bool × List (Str × α)) : OP := if q.1 = true then oDs f q.2 else MP.o (tDs f q.2)
end
end OW
namespace OW
open PySem PySem.Spec PyProof.Rows L2 OT NdefX
section
variable {α β : Type} {F : β → OP}
end
section
variable {X : Cx} {B : Bs} {Γ : Gm} {O : Om} {Z : Er → Prop} {e a b ix ix2 : Expr} {p p1 p2 p3 p4 pos pos' apos : Pos} {D : Ends} {rest body : List Stmt} {α β : Type} {nm x : Str} {f : α → MP} {F : β → OP} {G : α → OP}
theorem SW.back {u z : V} {kvs : List (Str × β)} {j : Str} {y : β} {q : Prop} (hj : j ∈ kvs.map (·.1)) (h : SW X B Γ ((u, oDn F (dput kvs j y)) :: O) body D q) : SW X B Γ ((z, F y) :: (u, oDn (sumF F) (detach kvs j z)) :: O) body D q := fun hp S H σ t => h hp S H σ (t.back hj)
end
section
variable {X : Cx} {B : Bs} {Γ : Gm} {O : Nat → Om} {O1 : Om} {Z : Er → Prop} {n : Nat} {e r ix : Expr} {p p1 p2 pos pos' : Pos} {D : Ends} {rest : List Stmt} {α : Type} {f : α → MP}
end
def oPr (P : OP) (x : Str) : OP := ⟨fun S H A u => ∃ p v A', u = .ref p ∧ A = p :: A' ∧ H p = some (.tup [.str x, v]) ∧ P.R S H A' v, fun e hA ⟨p, v, A', h1, h2, h3, h4⟩ => ⟨p, v, A', h1, h2, by rw [hA p (by rw [h2]; exact List.mem_cons_self)]; exact h3, P.fr e (fun a ha => hA a (by rw [h2]; exact List.mem_cons_of_mem _ ha)) h4⟩⟩
def tupH (o : HO) : OP := ⟨fun S H A u => ∃ p, u = .ref p ∧ A = [p] ∧ H p = some o, fun e hA ⟨p, h1, h2, h3⟩ => ⟨p, h1, h2, by rw [hA p (by rw [h2]; exact List.mem_cons_self)]; exact h3⟩⟩
section
variable {X : Cx} {B : Bs} {Γ : Gm} {O : Om} {Z : Er → Prop} {a b e : Expr} {p pos : Pos} {α : Type} {F : α → OP}
theorem AllO.pairs {S H : Hp} : ∀ {xs : List (Str × α)} {A : List Addr} {vs : List V}, AllO (xs.map fun q => oPr (F q.2) q.1) S H A vs → A.Nodup → ∃ (ps : List Addr) (kvs : List (Key × V)) (A2 : List Addr), vs = ps.map V.ref ∧ (∀ K : PySem.W.Frag, Paired (fun p kv => SqT K H p [kV kv.1, kv.2]) ps kvs) ∧ A2.Nodup ∧ (∀ z ∈ A2, z ∈ A) ∧ KvO (xs.map fun q => (kS q.1, F q.2)) S H A2 kvs
  | [], _, [], _, _ => ⟨[], [], [], rfl, fun _ => .nil, List.nodup_nil, (fun _ h => by cases h), rfl⟩
  | [], _, _ :: _, h, _ => h.elim
  | _ :: _, _, [], h, _ => h.elim
  | x :: xs, A, v :: vs, ⟨B1, B2, eA, ⟨p, w, A', e1, e2, e3, e4⟩, h2⟩, nd => by
    subst eA e2 e1
    obtain ⟨n1, n2, n3⟩ := List.nodup_append.mp nd
    obtain ⟨ps, kvs, A2, g1, g2, g3, g4, g5⟩ := AllO.pairs h2 n2
    refine ⟨p :: ps, (kS x.1, w) :: kvs, A' ++ A2, by rw [g1]; rfl, fun K => .cons (SqT.of e3) (g2 K), List.nodup_append.mpr ⟨(List.nodup_cons.mp n1).2, g3, fun c hc d hd => n3 c (List.mem_cons_of_mem _ hc) d (g4 d hd)⟩, fun z hz => ?_, rfl, A', A2, rfl, e4, g5⟩
    rcases List.mem_append.mp hz with y | y
    · exact List.mem_append_left _ (List.mem_cons_of_mem _ y)
    · exact List.mem_append_right _ (g4 z y)
end
section
variable {X : Cx} {B : Bs} {Γ : Gm} {O : Nat → Om} {Z : Er → Prop} {n : Nat} {e : Expr} {p pos : Pos} {α : Type} {F : α → OP}
end
end OW
namespace OW
open PySem PySem.Spec PyProof.Rows L2 OT NdefX
section
variable {X : Cx} {α : Type} [DecidableEq α] {f : α → MP} {n : Nat}
end
section
variable {X : Cx} {B : Bs} {Γ : Gm} {O N N' : Om} {Z : Er → Prop} {a b : Expr} {pos : Pos} {α : Type} [DecidableEq α] {f : α → MP} {n : Nat} {wa wb : Wp (List (Str × α))} {Pg : α → α → Prop}
def dgd (Pg : α → α → Prop) (xs ys : List (Str × α)) : Prop := ∀ q ∈ xs, ∀ z, dget ys q.1 = some z → Pg q.2 z
end
section
variable {X : Cx} {α : Type} {Dt : Type} {As : Dt → List AP} {k : Nat} {ps : List Str} {C : Addr} {wp : Dt → Wp Bool} {res : Bool → RP} {Ms : Bool → List OP}
end
end OW
namespace OW
open PySem PySem.Spec PyProof.Rows L2 OT NdefX
section
variable {X : Cx} {B : Bs} {Γ : Gm} {O : Om} {Z : Er → Prop} {pos : Pos} {β : Type}
end
section
variable {X : Cx} {B : Bs} {Γ : Gm} {O N : Om} {Z : Er → Prop} {e : Expr} {α : Type} {f : α → MP}
end
section
variable {X : Cx} {B : Bs} {Γ : Gm} {O : Om} {Z : Er → Prop} {e : Expr} {pos pos' apos : Pos} {rest : List Stmt} {D : Ends} {α : Type}
end
def zTop : Dz → Dz → Bool
  | .d _, .d _ => true
  | .s _, .s _ => true
  | _, _ => false
abbrev W.neZ1 (n : Nat) (x y : Dz) : Wp Bool := fun Q _ => ∃ r, Dz.cmp x y = some r ∧ x.dep ≤ n ∧ zTop x y = true ∧ Q (!r)
section
variable {X : Cx} {B : Bs} {Γ : Gm} {O : Om} {Z : Er → Prop} {a b : Expr} {pos : Pos}
end
end OW
namespace OW
open PySem PySem.Spec PyProof.Rows L2 OT NdefX
section
variable {X X' : Cx} {B : Bs} {Γ : Gm} {O Oh : Om} {Z Zb : Er → Prop} {e : Expr} {D D' : Ends} {rest body : List Stmt} {hds : List ExceptHandler} {pos : Pos} {Wx : WX}
end
end OW
namespace OW
open PySem PySem.Spec PyProof.Rows L2 OT NdefX
section
variable {X : Cx} {α β γ : Type} {n : Nat}
end
section
variable {X : Cx} {α β γ : Type} {n : Nat}
end
section
variable {X : Cx} {B : OT.Bs} {Γ : OT.Gm} {O : OT.Om} {i1 i2 : Nat} {n1 n2 z1 z2 : Str} {j1 j3} {p1 p2 p3 p4 p5 p6 p7 : Pos}
theorem ej_two {R1 R2 : MP} (h1 : ∀ S v, R1.R S v → fmtOk v) (h2 : ∀ S v, R2.R S v → fmtOk v) (hG1 : Γ[i1]? = some (some R1)) (hG2 : Γ[i2]? = some (some R2)) (hN1 : X.N[i1]? = some n1) (hN2 : X.N[i2]? = some n2) (hv1 : Vis X.env.scope n1) (hv2 : Vis X.env.scope n2) (hz1 : z1.length ≤ 1000) (hz2 : z2.length ≤ 1000)
    (hd1 : (n1 == ("__debug__" : Str)) = false) (hcd1 : (n1 == ("__classdict__" : Str)) = false) (hd2 : (n2 == ("__debug__" : Str)) = false) (hcd2 : (n2 == ("__classdict__" : Str)) = false) :
    OT.EJ X B Γ O (.JoinedStr [.Constant (.str z1) j1 p1, .FormattedValue (.Name n1 p2) (-1) none p3, .Constant (.str z2) j3 p4, .FormattedValue (.Name n2 p5) (-1) none p6] p7) bAny := by
  intro S H σ st Q q
  obtain ⟨v1, hs1, r1⟩ := st.slot i1 R1 hG1
  obtain ⟨v2, hs2, r2⟩ := st.slot i2 R2 hG2
  refine ⟨_, pe_joined (.cons pe_str (.cons (pe_fmt (pe_var hN1 hv1 hd1 hcd1)) (.cons pe_str (.cons (pe_fmt (pe_var hN2 hv2 hd2 hcd2)) .nil)))), z1, rfl, ?_, ?_⟩
  · rw [OT.str_app, OT.str_len0, Nat.zero_add]
    exact Nat.le_trans hz1 (by decide)
  · refine fmt_one (h1 _ _ r1) (fun Q q => ⟨v1, hs1, q⟩) fun y hy => ⟨y, rfl, ?_, z2, rfl, ?_, ?_⟩
    · rw [OT.str_app, OT.str_app, OT.str_len0, Nat.zero_add]
      exact Nat.le_trans (Nat.add_le_add hz1 hy) (by decide)
    · rw [OT.str_app, OT.str_app, OT.str_app, OT.str_len0, Nat.zero_add]
      exact Nat.le_trans (Nat.add_le_add (Nat.add_le_add hz1 hy) hz2) (by decide)
    · refine fmt_one (h2 _ _ r2) (fun Q q => ⟨v2, hs2, q⟩) fun y2 hy2 => ⟨y2, rfl, ?_, q _ _ _ (Stp.refl st.sub) trivial⟩
      rw [OT.str_app, OT.str_app, OT.str_app, OT.str_app, OT.str_len0, Nat.zero_add]
      exact Nat.le_trans (Nat.add_le_add (Nat.add_le_add (Nat.add_le_add hz1 hy) hz2) hy2) (by decide)
end
section
variable {X : Cx} {B : Bs} {Γ : Gm} {O N : Om} {Z : Er → Prop} {e1 e2 e3 : Expr} {x : Str} {p pos pos' : Pos} {rest : List Stmt} {D : Ends} {k : Nat} {ps : List Str} {Wx : WX}
end
section
variable {X : Cx} {B : Bs} {Γ : Gm} {O : Nat → Om} {Z : Er → Prop} {n : Nat} {e : Expr} {p pos : Pos} {α : Type} {f : α → MP}
end
end OW
namespace OW
open PySem PySem.Spec PyProof.Rows L2 OT NdefX
def tZo (K : PySem.W.Frag) : Dz ⊕ Ord → MP
  | .inl x => tDz K x
  | .inr o => tOrd K o
def zoOk (n : Nat) : Dz ⊕ Ord → Dz ⊕ Ord → Prop
  | .inl x, .inl y => Dz.cmp x y = some true ∧ x.dep ≤ n
  | .inr a, .inr b => a = b ∧ deq a.above a.above = true
  | _, _ => False
def zosOk (n : Nat) : List (Dz ⊕ Ord) → List (Dz ⊕ Ord) → Prop
  | [], [] => True
  | x :: xs, y :: ys => zoOk n x y ∧ zosOk n xs ys
  | _, _ => False
abbrev W.eqO (n : Nat) (xs ys : List (Dz ⊕ Ord)) : Wp Bool := fun Q _ => zosOk n xs ys ∧ Q true
abbrev W.neO (n : Nat) (xs ys : List (Dz ⊕ Ord)) : Wp Bool := fun Q _ => zosOk n xs ys ∧ Q false
section
variable {X : Cx} {α Dt : Type} {C : Addr} {k : Nat} {ps : List Str}
end
section
variable {X : Cx} {B : Bs} {Γ : Gm} {O N N' : Om} {Z : Er → Prop} {a b e : Expr} {pos : Pos} {wa wb : Wp (List (Dz ⊕ Ord))}
end
section
variable {X : Cx} {C : Addr} {k : Nat} {m : MP}
end
section
variable {X : Cx} {B : Bs} {Γ : Gm} {O : Om} {Z : Er → Prop} {e1 e2 : Expr} {x : Str} {p pos pos' : Pos} {rest : List Stmt} {D : Ends} {k : Nat} {ps : List Str} {Wx : WX} {α β : Type} {f : α → MP} {g : β → MP}
end
end OW
namespace OW
open PySem PySem.Spec PyProof.Rows L2 OT NdefX
section
variable {X : Cx} {B : Bs} {Γ : Gm} {O : Om} {α : Type} {f : α → MP}
end
section
variable {X : Cx} {B : Bs} {Γ : Gm} {O : Om} {Z : Er → Prop} {e : Expr} {pos pos' : Pos} {rest : List Stmt} {D : Ends} {nm : Str} {α : Type} {f : α → MP}
end
section
variable {X : Cx} {B : Bs} {Γ : Gm} {O : Om} {Z : Er → Prop} {e : Expr} {α : Type}
end
end OW
namespace OW
open PySem PySem.Spec PyProof.Rows L2
open PySem.HandSPX (TracedZ HeldZ FlyingZ Steady)
section
variable {B h h' : Heap} {C a L : Addr} {Z : Obj → Prop} {fl : Value} {m m' : Str → Option Value} {l : List Env}
end
section
variable {M : Model} {A : Around} {E : Value → Shared → Prop} {s' : Shared} {B : Heap} {env cenv : Env} {outer l : List Env} {a L : Addr} {Z : Obj → Prop} {m : Str → Option Value}
end
abbrev blkE (X : Cx) (s : Shared) (H : Hp) (scope : Scope) (cenv : Env) (fp : List Addr) (W : WX) : Cx := (X.blk s H scope cenv fp).wish (fun u s' => XE (X.blk s H scope cenv fp) W u s')
section
variable {X : Cx} {pins : List (Addr × Obj)} {σ : L2.St} {H3 : Hp} {s3 s' : Shared} {scope : Scope} {ce : Env} {fp : List Addr} {W Wb : WX} {u : Value}
end
end OW
namespace OW
open PySem PySem.Spec PyProof.Rows L2
section
variable {X : Cx} {W Wb : WX}
end
end OW
namespace OW
open PySem PySem.Spec PyProof.Rows L2 OT NdefX
section
variable {X : Cx} {B : Bs} {Γ : Gm} {O N N' : Om} {Z : Er → Prop} {Wd : WX} {p p1 p2 pos pos' apos : Pos} {D : Ends} {rest body els : List Stmt} {α β γ τ : Type} {f : α → MP}
def W.dcompE {α β : Type} (c : α → Wp Bool) (k : α → Wp Str) (v : α → Wp β) (xs : List α) : Wp (List (Str × β)) := fun Q E => xs.length ≤ 100000 ∧ W.dcomp c k v xs [] Q E
def BlkE (X : Cx) (scope : Scope) (Wb : WX) (P : Cx → Prop) : Prop := ∀ (s : Shared) (H : Hp) (C : Addr) (cl : List (Str × Addr)) (fp : List Addr), P (blkE X s H scope (compEnvC scope cl C X.env) fp Wb)
def Gho.since (G : Gho) (S1 : Hp) : Gho := ⟨fun S => G.R S ∧ Same S1 S, fun e h => ⟨G.up e h.1, h.2.trans e⟩⟩

end
end OW
namespace OW
open PySem PySem.Spec PyProof.Rows L2
section
variable {X : Cx} {W Wb : WX}
end
open OT NdefX
section
variable {X : Cx} {B : Bs} {Γ : Gm} {O N N' : Om} {Z : Er → Prop} {Wd : WX} {p p1 p2 pos pos' apos : Pos} {D : Ends} {rest body els : List Stmt} {α β γ τ : Type} {f : α → MP}
def W.compE {α β : Type} (c : α → Wp Bool) (g : α → Wp β) (xs : List α) : Wp (List β) := fun Q E => xs.length ≤ 100000 ∧ W.comp c g xs Q E
end
end OW
namespace OW
open PySem PySem.Spec PyProof.Rows L2 OT NdefX
section
variable {X : Cx} {B : Bs} {Γ : Gm} {O N N' : Om} {Z : Er → Prop} {Wd : WX} {p p1 p2 pos pos' apos : Pos} {D : Ends} {rest body els : List Stmt} {α β γ τ : Type} {f : α → MP}
end
end OW
namespace OW
open PySem PySem.Spec PyProof.Rows L2 OT NdefX
def DzI {α : Type} (K : PySem.W.Frag) (f : α → MP) (g : α → Dz) : Prop := ∀ a S v, (tDz K (g a)).R S v → (f a).R S v
section
variable {X : Cx} {B : Bs} {Γ : Gm} {O : Om} {Z : Er → Prop} {e : Expr} {α : Type} {f : α → MP}
end
section
variable {X : Cx} {B : Bs} {Γ : Gm} {O N' : Om} {Z : Er → Prop} {e : Expr} {pos : Pos} {α Dt : Type} {C : Addr} {k : Nat} {ps : List Str} {As : Dt → List AP} {bo : α → BP} {wo : Wp α}
end
end OW
namespace OW
open PySem PySem.Spec PyProof.Rows L2
structure PGt (X : Cx) (target : Expr) (t : TG) : Prop where
  run : ∀ (pins : List (Addr × Obj)) (s : Shared) (σ : L2.St) (H : Hp) (v : V) (u : Value) (Q : L2.St → Hp → Prop), Inv X pins σ H s → RelV v u → t v σ H Q →
    wpAny (model X.prog X.w) X.A (assign target X.env u) (fun _ s' => 1 ≤ s'.toks ∧ ∃ σ' H', Inv X pins σ' H' s' ∧ Q σ' H') X.xe s
def wGt (X : Cx) (tg : Expr) : TG := fun v σ H Q => ∃ t, PGt X tg t ∧ t v σ H Q
def wET (X : Cx) (e : Expr) : TE := fun σ H Q => ∃ t, PET X e t ∧ t σ H Q
section
variable {X : Cx} {pos : Pos} {pins : List (Addr × Obj)} {σ : L2.St} {H : Hp} {s : Shared}
end
section
variable {X : Cx} {W Wb : WX}
end
open OT NdefX
section
variable (X : Cx) (B : Bs) (Γ : Gm) (O : Om) (Z : Er → Prop)
def GWt {α : Type} (e : Expr) (f : α → MP) (Os : α → V → Om) (w : Wp α) : Prop := ∀ S H σ, Stt B Γ O S H σ → ∀ (P : α → Prop) (Q : VK), w P Z → (∀ a v S' H', P a → Same S S' → Stt B Γ (Os a v) S' H' σ → (f a).R S' v → Q v H') → wET X e σ H Q
abbrev EWt {α : Type} (e : Expr) (f : α → MP) (w : Wp α) : Prop := GWt X B Γ O Z e f (fun _ _ => O) w
abbrev NWt {α : Type} (e : Expr) (f : α → OP) (w : Wp α) : Prop := GWt X B Γ O Z e (fun _ => tAny) (fun a v => (v, f a) :: O) w
end
def GJt (X : Cx) (B : Bs) (O : Om) (tg : Expr) (R : MP) (Γ Γ' : Gm) (js : List Nat) : Prop := ∀ S H σ v, Stt B Γ O S H σ → R.R S v → ∀ Q : L2.St → Hp → Prop, (∀ σ', Stt B Γ' O S H σ' → OT.Wp js σ σ' → Q σ' H) → wGt X tg v σ H Q
section
variable {X : Cx} {B : Bs} {Γ : Gm} {O N N' : Om} {Z : Er → Prop} {Wd : WX} {e a b o : Expr} {p p1 p2 pos pos' apos : Pos} {D : Ends} {rest body els : List Stmt} {α β γ τ : Type} {f : α → MP} {g : β → MP}
end
end OW
namespace OW
open PySem PySem.Spec PyProof.Rows L2 OT NdefX
structure KyT {κ : Type} (L : Hp) (ke : κ → List Key) (kf : κ → MP) : Prop where
  inj : ∀ a b, ke a = ke b → a = b
  is : ∀ a S v, (kf a).R S v → ∃ b, v = .ref b ∧ (S b = some (.tup ((ke a).map kV)) ∨ L b = some (.tup ((ke a).map kV)))
def kePr (q : Str × Str) : List Key := [kS q.1, kS q.2]
def keVs (xs : List Str) : List Key := xs.map kS
section
variable {κ α : Type} [DecidableEq κ] {ke : κ → List Key} {kf : κ → MP} {f : α → MP}
structure DpR (ke : κ → List Key) (f : α → MP) (kvs : List (κ × α)) (S : Hp) (vs : List (List Key × V)) : Prop where
  nd : (vs.map (·.1)).Nodup
  ks : vs.map (·.1) = kvs.map fun q => ke q.1
  vl : AllM (kvs.map fun q => f q.2) S (vs.map (·.2))
theorem DpR.up {kvs : List (κ × α)} {S S' : Hp} {vs : List (List Key × V)} (e : Same S S') (h : DpR ke f kvs S vs) : DpR ke f kvs S' vs := ⟨h.nd, h.ks, AllM.up e h.vl⟩
def oDp (ke : κ → List Key) (f : α → MP) (kvs : List (κ × α)) : OP := ⟨fun S H A v => ∃ p vs, v = .ref p ∧ A = [p] ∧ H p = some (.dT vs) ∧ DpR ke f kvs S vs,
  fun {S S' H H' A v} e hA ⟨p, vs, h1, h2, h3, h4⟩ => ⟨p, vs, h1, h2, by rw [hA p (by rw [h2]; exact List.mem_cons_self)]; exact h3, h4.up e⟩⟩
def bDp (ke : κ → List Key) (f : α → MP) (kvs : List (κ × α)) : BP := ⟨fun S H v => ∃ a vs, v = .ref a ∧ Rd H a (.dT vs) ∧ DpR ke f kvs S vs, fun e e' ⟨a, vs, h1, h2, h3⟩ => ⟨a, vs, h1, h2.elim (fun h => .inl (e' _ _ h)) (fun ⟨o, h⟩ => .inr ⟨o, e' _ _ h⟩), h3.up e⟩⟩
def tDp (ke : κ → List Key) (f : α → MP) (kvs : List (κ × α)) : MP := ⟨fun S v => ∃ a od vs, v = .ref a ∧ S a = some (.frz od (.dT vs)) ∧ DpR ke f kvs S vs, fun e ⟨a, od, vs, h1, h2, h3⟩ => ⟨a, od, vs, h1, e _ _ h2, h3.up e⟩⟩
theorem putK_eqG {κ : Type} [DecidableEq κ] {v : V} {k : κ} : ∀ {vs : List (κ × V)}, (vs.map (·.1)).Nodup → putK vs k v = dput vs k v
  | [], _ => rfl
  | q :: r, nd => by
    have nd' : q.1 ∉ r.map (·.1) ∧ (r.map (·.1)).Nodup := List.nodup_cons.mp nd
    have ih := putK_eqG (v := v) (k := k) nd'.2
    unfold dput
    by_cases e : q.1 = k
    · rw [if_pos e]
      unfold putK
      rw [if_pos (by simp [e]), List.map_cons, if_pos e]
      congr 1
      refine (List.map_congr_left fun z hz => ?_).trans (List.map_id _)
      have : z.1 ≠ k := fun y => nd'.1 (by rw [e, ← y]; exact List.mem_map_of_mem (f := fun z : κ × V => z.1) hz)
      simp [this]
    · rw [if_neg e, ← ih]
      unfold putK
      by_cases h : (r.any fun kv => decide (kv.1 = k)) = true
      · have h' : ((q :: r).any fun kv => decide (kv.1 = k)) = true := by rw [List.any_cons, h]; simp
        rw [if_pos h, if_pos h', List.map_cons, if_neg e]
      · have h' : ¬ ((q :: r).any fun kv => decide (kv.1 = k)) = true := by
          rw [List.any_cons]
          simpa [e] using h
        rw [if_neg h, if_neg h']
        rfl
theorem dp_put (inj : ∀ a b, ke a = ke b → a = b) {S : Hp} {k : κ} {x : α} {v : V} (hv : (f x).R S v) : ∀ {kvs : List (κ × α)} {vs : List (List Key × V)}, vs.map (·.1) = kvs.map (fun q => ke q.1) → AllM (kvs.map fun q => f q.2) S (vs.map (·.2)) →
    (dput vs (ke k) v).map (·.1) = (dput kvs k x).map (fun q => ke q.1) ∧ AllM ((dput kvs k x).map fun q => f q.2) S ((dput vs (ke k) v).map (·.2))
  | [], [], _, _ => ⟨rfl, hv, trivial⟩
  | [], _ :: _, h, _ => by cases h
  | _ :: _, [], h, _ => by cases h
  | (j, y) :: kvs, (j', w) :: vs, h, r => by
    rw [List.map_cons, List.map_cons] at h
    injection h with h1 h2
    have h1 : j' = ke j := h1
    subst h1
    by_cases e : j = k
    · subst e
      have d1 : dput ((j, y) :: kvs) j x = (j, x) :: kvs := by simp [dput]
      have d2 : dput ((ke j, w) :: vs) (ke j) v = (ke j, v) :: vs := by simp [dput]
      rw [d1, d2]
      exact ⟨by rw [List.map_cons, List.map_cons, h2], hv, r.2⟩
    · have d1 : dput ((j, y) :: kvs) k x = (j, y) :: dput kvs k x := by simp [dput, e]
      have d2 : dput ((ke j, w) :: vs) (ke k) v = (ke j, w) :: dput vs (ke k) v := by
        have : ¬ (ke j = ke k) := fun q => e (inj _ _ q)
        simp [dput, this]
      rw [d1, d2]
      obtain ⟨i1, i2⟩ := dp_put inj hv h2 r.2
      exact ⟨by rw [List.map_cons, List.map_cons, i1], r.1, i2⟩
theorem DpR.put (inj : ∀ a b, ke a = ke b → a = b) {kvs : List (κ × α)} {S : Hp} {vs : List (List Key × V)} (h : DpR ke f kvs S vs) {k : κ} {x : α} {v : V} (hv : (f x).R S v) : DpR ke f (dput kvs k x) S (putK vs (ke k) v) := by
  rw [putK_eqG h.nd]
  obtain ⟨h1, h2⟩ := dp_put inj hv h.ks h.vl
  exact ⟨dput_nodup h.nd, h1, h2⟩
end
section
variable {X : Cx} {B : Bs} {Γ : Gm} {O N N' : Om} {Z : Er → Prop} {e a b c o l ix : Expr} {es : List Expr} {p p1 p2 pos pos' apos : Pos} {D : Ends} {rest body els : List Stmt} {κ α β γ τ : Type} [DecidableEq κ] {x m nm fl : Str} {ke : κ → List Key} {kf : κ → MP} {f : α → MP}
abbrev W.getP {κ α : Type} [DecidableEq κ] (kvs : List (κ × α)) (k : κ) : Wp α := fun Q _ => ∃ x, dget kvs k = some x ∧ Q x
end
section
variable {X : Cx}
def mergeT (kvs more : List (List Key × V)) : List (List Key × V) := more.foldl (fun acc kv => putK acc kv.1 kv.2) kvs
theorem KT.merge {H : Hp} : ∀ {more : List (List Key × V)} {rs : List (List Key × Addr × Value)} {kvs : List (List Key × V)} {vs : List (List Key × Addr × Value)}, L2.KT H more rs → L2.KT H kvs vs → L2.KT H (mergeT kvs more) (storedAllH vs rs)
  | _, _, _, _, .nil, r => r
  | _, _, _, _, .cons (a := p) (b := q) h t, r => by
    obtain ⟨h1, h2, h3⟩ := h
    have := KT.merge t (L2.KT.put r p.1 h2 h3)
    rw [h1] at this
    unfold mergeT storedAllH at this ⊢
    rw [List.foldl_cons, List.foldl_cons, h1]
    exact this
end
section
variable {X : Cx} {B : Bs} {Γ : Gm} {O N N' : Om} {Z : Er → Prop} {e : Expr} {p pos : Pos} {κ α : Type} [DecidableEq κ] {ke : κ → List Key} {kf : κ → MP} {f : α → MP}
abbrev dmkG {κ α : Type} [DecidableEq κ] (ps : List (κ × α)) : List (κ × α) := ps.foldl (fun d q => dput d q.1 q.2) []
end
end OW
namespace OW
open PySem PySem.Spec PyProof.Rows L2 OT NdefX
def rRepU (K : PySem.W.Frag) : R2 := fun x y H Q => ∃ l k xs, x = .ref l ∧ y = .int k ∧ SqT K H l xs ∧ xs ≠ [] ∧ 1 ≤ k ∧ k ≤ 1000 ∧ xs.length ≤ 1000 ∧ (k = 1 → Q (.ref l) H) ∧ ∀ p, H p = none → Q (.ref p) (upd H p (.tup (List.replicate k.toNat xs).flatten))
section
variable {X : Cx} {B : Bs} {Γ : Gm} {O N N' : Om} {Z : Er → Prop} {e a b c o l r : Expr} {es elts : List Expr} {p p2 pos pos' apos tpos pq : Pos} {α β γ τ : Type} {f : α → MP} {g : β → MP}
abbrev W.repT {α : Type} (xs : List α) (n : Int) : Wp (List α) := W.grd (xs ≠ [] ∧ 1 ≤ n ∧ n ≤ 1000 ∧ xs.length ≤ 1000) (List.replicate n.toNat xs).flatten
end
section
variable {X : Cx} {B : Bs} {Γ : Gm} {O : Nat → Om} {n : Nat} {Z : Er → Prop} {a b : Expr} {pos : Pos} {α : Type} {f : α → MP}
end
end OW
namespace PySem
open Sem (wp)
section
variable {prog : Program} {w : World} {K : Type} [DecidableEq K] {knd : KeyKind prog w K} {A : Around} {E : Value → Shared → Prop} {s : Shared}
end
end PySem

namespace OW
open PySem PySem.Spec PyProof.Rows L2 OT NdefX
def tDstar (tm tk tv : TE) : TE := fun σ H Q => ∀ p, H p = none → tm σ (upd H p (.dK [])) fun m H1 => ∃ (a : Addr) (kvs : List (Key × V)), m = .ref a ∧ a ≠ p ∧ H1 p = some (.dK []) ∧ Rd H1 a (.dK kvs) ∧ kvs.length ≤ 100000 ∧
  ∀ p2, upd H1 p (.dK (mergeK [] kvs)) p2 = none → tPairs [(tk, tv)] σ (upd (upd H1 p (.dK (mergeK [] kvs))) p2 (.dK [])) fun ps H4 => ∃ x y, ps = [(x, y)] ∧ ∃ k kvs', x = kV k ∧ p2 ≠ p ∧ H4 p2 = some (.dK []) ∧ H4 p = some (.dK kvs') ∧ kvs'.length ≤ 100000 ∧
    Q (.ref p) (upd (upd H4 p2 (.dK [(k, y)])) p (.dK (putK kvs' k y)))
section
variable {B : Bs} {Γ : Gm} {O : Om} {α : Type} {f : α → MP}
end
section
variable {X : Cx} {B : Bs} {Γ : Gm} {O : Om} {Z : Er → Prop} {em kx vx : Expr} {pos : Pos} {α : Type} {f : α → MP}
end
end OW
namespace OW
open PySem PySem.Spec PyProof.Rows L2 OT NdefX
abbrev mo (z : Str × MP) : Str × OP := (z.1, MP.o z.2)
abbrev oM (C : Addr) (Fs : List (Str × MP)) : OP := oI C (Fs.map mo)
def bM (C : Addr) (Fs : List (Str × MP)) : BP := ⟨fun S H v => ∃ x dx fs, v = .ref x ∧ H x = some (.ins C dx fs) ∧ FldR Fs S fs, fun e e' ⟨x, dx, fs, h1, h2, h3⟩ => ⟨x, dx, fs, h1, e' _ _ h2, h3.up e⟩⟩
section
variable {X : Cx} {B : Bs} {Γ : Gm} {O N N' : Om} {Z : Er → Prop} {e a b c o : Expr} {es : List Expr} {p p1 p2 pos pos' apos : Pos} {D : Ends} {rest body els : List Stmt} {α β γ ρ τ Dt : Type} {x m nm fl : Str} {Wx : WX} {C : Addr} {k : Nat} {ps : List Str} {As : Dt → List AP} {wp : Dt → Wp ρ} {res : ρ → RP} {Ms : ρ → List OP} {F : τ → List AA} {w : Wp τ} {R : Om}
end
end OW
namespace OW
open PySem PySem.Spec PyProof.Rows L2 OT NdefX
section
variable {X : Cx} {B : Bs} {Γ : Gm} {O N N' : Om} {Z : Er → Prop} {e a b c o : Expr} {es : List Expr} {p p1 p2 pos pos' apos : Pos} {α β γ ρ τ Dt : Type} {x m nm fl : Str} {Wx : WX} {C : Addr} {k : Nat} {ps : List Str} {As : Dt → List AP} {wp : Dt → Wp ρ} {res : ρ → RP} {Ms : ρ → List OP} {F : τ → List AA} {w : Wp τ} {R : Om}
end
end OW
namespace OW
open PySem PySem.Spec PyProof.Rows L2 OT NdefX
structure Lb where
  beginnings : Ord
  standings : Ord
  states : List (List (Str × Chn))
def labF (K : PySem.W.Frag) (r : Lb) : List (Str × MP) := [("beginnings", tOrd K r.beginnings), ("standings", tOrd K r.standings), ("states", tLs K (tDs (tChn K)) r.states)]
abbrev oLab (K : PySem.W.Frag) (r : Lb) : OP := oM (He.ga K "Lab") (labF K r)
abbrev bLab (K : PySem.W.Frag) (r : Lb) : BP := bM (He.ga K "Lab") (labF K r)
section
variable {X : Cx} {B : Bs} {Γ : Gm} {O : Om} {Z : Er → Prop} {e : Expr} {p pos pos' : Pos} {D : Ends} {rest : List Stmt} {nm : Str}
end
end OW
namespace OW
open PySem PySem.Spec PyProof.Rows L2 OT NdefX
section
variable {X : Cx} {pins : List (Addr × Obj)} {σ : L2.St} {H : Hp} {s : Shared} {d : Addr}
def NoFz (X : Cx) (v : V) : Prop := ∀ q, v = .ref q → ∀ o w, X.H_0 q ≠ some (.frz o w)
end
section
variable {α : Type} {f : α → MP}
abbrev kvMs (f : α → MP) (kvs : List (Str × α)) : List (Key × MP) := kvs.map fun z => (kS z.1, f z.2)
def oFz (f : α → MP) (kvs : List (Str × α)) : OP := ⟨fun S H A v => ∃ p od vs, v = .ref p ∧ A = [p] ∧ H p = some (.frz od (.dK vs)) ∧ (List.map (fun z : Str × α => z.1) kvs).Nodup ∧ KvM (kvMs f kvs) S vs,
  fun {S S' H H' A v} e hA ⟨p, od, vs, h1, h2, h3, nd, h4⟩ => ⟨p, od, vs, h1, h2, by rw [hA p (by rw [h2]; exact List.mem_cons_self)]; exact h3, nd, h4.up e⟩⟩
def bFz (f : α → MP) (kvs : List (Str × α)) : BP := ⟨fun S H v => ∃ p od vs, v = .ref p ∧ H p = some (.frz od (.dK vs)) ∧ KvM (kvMs f kvs) S vs, fun e e' ⟨p, od, vs, h1, h2, h3⟩ => ⟨p, od, vs, h1, e' _ _ h2, h3.up e⟩⟩
end
section
variable {X : Cx} {B : Bs} {Γ : Gm} {O N : Om} {Z : Er → Prop} {e ix : Expr} {p p1 pos pos' : Pos} {D : Ends} {rest body : List Stmt} {α β : Type} {f : α → MP} {x nm : Str}
end
end OW
namespace OW
open PySem PySem.Spec PyProof.Rows L2 OT NdefX
section
variable {X : Cx}
def spE0 (C : Addr) : Sp := fun vs H Q _ => ∃ a H1 S, vs = [.ref a] ∧ H = upd H1 a (exo a C none) ∧ H1 a = none ∧ Same S H1 ∧ ∀ S' H', Stp S H1 S' H' → S' a = none → H' a = some (exo a C none) → Q .non H'
def tMk0 (C : Addr) (sp : Sp) : L2.St → Hp → XK → Prop := fun σ H Q => ∀ a : Addr, H a = none → sp [V.ref a] (upd H a (exo a C none)) (fun v H2 => v = V.non ∧ H2 a = some (exo a C none) ∧ Q (Value.ref C) none (del H2 a)) fun _ _ _ => False
end
section
variable {P : Program} {w : World} {K : PySem.W.Frag} {mg : Str → Option Value} {base : Heap}
theorem nx_bare {B : Bs} {Γ : Gm} {C a : Addr} {Q : VK} (hQ : ∀ S' H', Stp B.S B.H S' H' → S' a = none → H' a = some (exo a C none) → Q .non H') : OT.NX B Γ [(a, mEx a C none)] (fun _ H' => Q .non H') := fun S H σ t => by
  obtain ⟨g1, g2, u, g3, rfl⟩ := t.own _ List.mem_cons_self
  exact hQ S H t.st g1 g3
theorem xi_bare {C f : Addr} {fd : FuncData} {F : NF} {k : Nat} {arg : Expr} {p0 p1 apos cpos pos : Pos} {ar : Arg} (W : XI P K mg C f fd F) (Sc : NScope ["self", "__class__"] ["self"] ["__class__"] F.scope)
    (hB : F.body = [.Expr (.Call (.Attribute (.Call (.Name "super" p0) [] [] p1) "__init__" apos) [arg] [] cpos) pos]) (hp : (F.params.posonlyargs ++ F.params.args).head? = some ar) (ha : ar.arg = "self") (hks : F.scope.names.lookup ("super" : Str) = some .globalImplicit)
    (hb : ∀ (X : Cx) (B : Bs) (Γ : Gm) (O : OT.Om), OT.EJ X B Γ O arg bAny)
    (hst : ∀ env : Env, starEach [arg] env = (false, eval arg env) :: starEach [] env)
    (hsw : ∀ env : Env, swapsWith (.Call (.Attribute (.Call (.Name "super" p0) [] [] p1) "__init__" apos) [arg] [] cpos) none pos.line env = pure false)
    (he : ∀ env : Env, ∃ pl, eval (.Call (.Attribute (.Call (.Name "super" p0) [] [] p1) "__init__" apos) [arg] [] cpos) env = (do
      let ov ← attributeBase (.Call (.Name "super" p0) [] [] p1) "__init__" env (eval (.Call (.Name "super" p0) [] [] p1) env)
      standAt apos.atName
      let (f, first) ← holding [ov] (getMethod ov "__init__" pl)
      callWith cpos f first (backTo cpos (starEach [arg] env)) [])) :
    FnOk P w K mg base (L2.CX P w) (k + 1) f fd ["self"] (spE0 C) := by
  refine xi_ok (k := k) W Sc (fun vs H Q E h => ?_) hB hp ha hks (fun A outer s H vs Q E hr h => ?_) hst hsw he
  · obtain ⟨a, H1, S, rfl, _⟩ := h
    rfl
  · obtain ⟨a, H1, S, rfl, rfl, n1, sm, q⟩ := h
    refine ⟨a, [], rfl, upd_same, ?_⟩
    have st : OT.Stt ⟨S, H1, .yes⟩ [some (tR a), some (tR C)] [(a, mEx a C none)] S (upd H1 a (exo a C none)) (startF ["self", "__class__"] [.ref a] [some (.ref C)]) := by
      refine ⟨Stp.own (o := exo a C none) sm n1, fun i R e => ?_, rfl, fun z hz => ?_, by show [a].Nodup; simp, trivial⟩
      · match i, e with
        | 0, e =>
          have e2 : tR a = R := Option.some.inj (Option.some.inj e)
          subst e2
          exact ⟨_, rfl, rfl⟩
        | 1, e =>
          have e2 : tR C = R := Option.some.inj (Option.some.inj e)
          subst e2
          exact ⟨_, rfl, rfl⟩
        | i + 2, e => simp at e
      · rcases List.mem_cons.mp hz with z1 | hz
        · subst z1
          exact ⟨sm.free n1, n1, _, upd_same, rfl⟩
        · cases hz
    refine ⟨_, pa_cons pe_w pa_nil (hst _), hb _ _ _ _ S _ _ st _ fun v S1 H1' s1 _ => ⟨(by show 1 ≤ 1000; decide), ?_, OT.s_nil (nx_bare fun S' H' sp n g => q S' H' sp n g) S1 H1' _ (st.step s1)⟩⟩
    obtain ⟨_, _, u, g3, rfl⟩ := (st.step s1).own _ List.mem_cons_self
    exact g3
end
section
variable {X : Cx} {B : Bs} {Γ : Gm} {O : Om} {Z : Er → Prop} {p pos pos' : Pos} {D : Ends} {rest : List Stmt} {x : Str} {k : Nat} {ps : List Str} {Wx : WX}
end
end OW
namespace OW
open PySem PySem.Spec PyProof.Rows L2 OT NdefX
section
variable {X : Cx}
end
def oFzo {α : Type} (f : α → MP) (od : Obj) (vs : List (Key × V)) (kvs : List (Str × α)) : OP := ⟨fun S H A v => ∃ p, v = .ref p ∧ A = [p] ∧ H p = some (.frz od (.dK vs)) ∧ (List.map (fun z : Str × α => z.1) kvs).Nodup ∧ KvM (kvMs f kvs) S vs,
  fun {S S' H H' A v} e hA ⟨p, h1, h2, h3, nd, h4⟩ => ⟨p, h1, h2, by rw [hA p (by rw [h2]; exact List.mem_cons_self)]; exact h3, nd, h4.up e⟩⟩
section
variable {X : Cx} {B : Bs} {Γ : Gm} {O N : Om} {Z : Er → Prop} {p pos : Pos} {D : Ends} {body : List Stmt} {α : Type} {f : α → MP} {x : Str}
end
end OW
namespace OW
open PySem PySem.Spec PyProof.Rows L2 OT NdefX
section
variable {X : Cx} {B : Bs} {Γ : Gm} {O N : Om} {Z : Er → Prop} {p pos : Pos} {D : Ends} {body : List Stmt} {α : Type} {F : α → OP} {x : Str}
def VE (X : Cx) (B : Bs) (Γ : Gm) (O : Om) (e : Expr) (u : V) : Prop := ∀ S H σ, Stt B Γ O S H σ → ∀ Q : VK, (∀ S' H', Same S S' → Stt B Γ O S' H' σ → Q u H') → wE X e σ H Q
end
end OW
namespace OW
open PySem PySem.Spec PyProof.Rows L2 OT NdefX
section
variable {ι : Type} {X : Cx} {B : Bs} {Γ : Gm} {O : ι → Om} {O1 N N' : Om} {Z : Er → Prop} {n : ι} {e a b c o : Expr} {es : List Expr} {p p1 p2 pos pos' apos : Pos} {D : Ends} {rest body els : List Stmt} {α β γ τ ρ Dt : Type} {x nm m : Str} {Wx : WX} {f : α → MP} {C : Addr} {k : Nat} {ps : List Str} {As : Dt → List AP}
section
variable {F : τ → List AA} {w : Wp (τ × ι)} {wp : Dt → Wp (ρ × ι)} {res : ρ × ι → RP} {Ms : ρ × ι → List OP}
end
section
variable {wp : Dt → Wp (ρ × ι)} {res : ρ × ι → RP} {Ms : ρ × ι → List OP}
end
def W.cmpOZ (n : Nat) (neg : Bool) (x y : Option (List Dz)) : Wp Bool := fun Q _ => match x, y with
  | none, none => Q (!neg)
  | some xs, some ys => ∃ r, Dz.cmpl xs ys = some r ∧ Dz.deps xs ≤ n ∧ Q (if neg then !r else r)
  | _, _ => Q neg
end
section
variable {X : Cx} {B : Bs} {Γ : Gm} {O N : Om} {Z : Er → Prop} {p pos : Pos} {D : Ends} {body : List Stmt} {α : Type} {F : α → OP} {x : Str}
end
end OW
namespace OW
open PySem PySem.Spec PyProof.Rows L2 OT NdefX
theorem FldO.open {S H : Hp} {f : Str} {P : OP} : ∀ {Ps : List (Str × OP)} {A : List Addr} {fs : List (Str × V)} {i : Nat}, FldO Ps S H A fs → Ps[i]? = some (f, P) → ∃ v B1 B2, A.Perm (B1 ++ B2) ∧ P.R S H B1 v ∧ FldO (Ps.set i (f, MP.o (tV v))) S H B2 fs
  | [], _, _, _, _, h => by cases h
  | _ :: _, _, [], _, h, _ => h.elim
  | (g, Q) :: Ps, _, (g', w) :: fs, 0, ⟨e0, A1, A2, rfl, h1, h2⟩, h => by
    cases h
    exact ⟨w, A1, A2, .refl _, h1, e0, [], A2, rfl, ⟨rfl, rfl⟩, h2⟩
  | (g, Q) :: Ps, _, (g', w) :: fs, i + 1, ⟨e0, A1, A2, rfl, h1, h2⟩, h => by
    obtain ⟨v, B1, B2, p, k1, k2⟩ := FldO.open (i := i) h2 h
    refine ⟨v, B1, A1 ++ B2, ?_, k1, e0, A1, B2, rfl, h1, k2⟩
    refine (List.Perm.append_left A1 p).trans ?_
    rw [← List.append_assoc, ← List.append_assoc]
    exact List.Perm.append_right B2 List.perm_append_comm
section
variable {X : Cx} {B : Bs} {Γ : Gm} {O N : Om} {Z : Er → Prop} {e a b o ix : Expr} {es : List Expr} {p p1 pos pos' apos : Pos} {D : Ends} {rest body : List Stmt} {α β : Type} {nm fl f : Str} {C : Addr}
end
def FldB : List (Str × BP) → Hp → Hp → List (Str × V) → Prop
  | [], _, _, [] => True
  | (f, P) :: Ps, S, H, (g, v) :: vs => f = g ∧ P.R S H v ∧ FldB Ps S H vs
  | _, _, _, _ => False
theorem FldB.up {S S' H H' : Hp} (e : Same S S') (e' : Same H H') : ∀ {Ps : List (Str × BP)} {vs : List (Str × V)}, FldB Ps S H vs → FldB Ps S' H' vs
  | [], [], _ => trivial
  | [], _ :: _, h => h.elim
  | _ :: _, [], h => h.elim
  | (f, P) :: Ps, (g, v) :: vs, ⟨h0, h1, h2⟩ => ⟨h0, P.up e e' h1, FldB.up e e' h2⟩
def bI (C : Addr) (Fs : List (Str × BP)) : BP := ⟨fun S H v => ∃ x dx fs, v = .ref x ∧ H x = some (.ins C dx fs) ∧ FldB Fs S H fs, fun e e' ⟨x, dx, fs, h1, h2, h3⟩ => ⟨x, dx, fs, h1, e' _ _ h2, h3.up e e'⟩⟩
def LendF : List (Str × OP) → List (Str × BP) → Prop
  | [], [] => True
  | (f, P) :: Ps, (g, b) :: bs => f = g ∧ Lend P b ∧ LendF Ps bs
  | _, _ => False
section
variable {X : Cx} {B : Bs} {Γ : Gm} {O N : Om} {Z : Er → Prop} {p pos : Pos} {α β : Type} {nm fl : Str} {C : Addr}
end
end OW
namespace OW
open PySem PySem.Spec PyProof.Rows L2 OT NdefX
def tSq {α : Type} (K : PySem.W.Frag) (f : α → MP) (xs : List α) : MP := ⟨fun S v => (tLs K f xs).R S v ∨ (tTs K f xs).R S v, fun e h => h.imp (tLs K f xs |>.up e) (tTs K f xs |>.up e)⟩
section
variable {X : Cx} {B : Bs} {Γ : Gm} {O N N' : Om} {Z : Er → Prop} {e a b c o e1 e2 e3 : Expr} {es : List Expr} {p p2 p3 pos pos' apos : Pos} {D : Ends} {rest body els : List Stmt} {α β γ : Type} {x m nm fl : Str} {Wx : WX} {C : Addr} {f : α → MP} {g : β → MP}
section
variable {wa : Wp Int} {wb : Wp (List Int)}
end
end
section
variable {X : Cx} {B : Bs} {Γ : Gm} {O : Om} {Z : Er → Prop} {a b : Expr} {pos : Pos} {wa wb : Wp (Option Int)}
def vOI : Option Int → V
  | none => .non
  | some i => .int i
end
structure Tab where
  unit : Int
  things : Int
  rooms : Int
  lines : List (List Int)
  basis : List Int
  bottom : Int
abbrev oTab (K : PySem.W.Frag) (r : Tab) : OP := oI (He.ga K "Tableau") [("unit", MP.o (tI r.unit)), ("things", MP.o (tI r.things)), ("rooms", MP.o (tI r.rooms)), ("lines", oLs (tLs K tI) r.lines), ("basis", oLs tI r.basis), ("bottom", MP.o (tI r.bottom))]
abbrev bTab (K : PySem.W.Frag) (r : Tab) : BP := bI (He.ga K "Tableau") [("unit", (tI r.unit).b), ("things", (tI r.things).b), ("rooms", (tI r.rooms).b), ("lines", rL (tLs K tI) r.lines), ("basis", rL tI r.basis), ("bottom", (tI r.bottom).b)]
end OW
namespace OW
open PySem PySem.Spec PyProof.Rows L2 OT NdefX
section
variable {X : Cx} {B : Bs} {Γ : Gm} {O N N' : Om} {Z : Er → Prop} {p p2 pos pos' apos : Pos} {α β γ : Type} {x m : Str} {f : α → MP}
end
end OW
namespace OW
open PySem PySem.Spec PyProof.Rows L2 OT NdefX
def oT (Ps : List OP) : OP := ⟨fun S H A v => ∃ p vs A', v = .ref p ∧ A = p :: A' ∧ H p = some (.tup vs) ∧ AllO Ps S H A' vs,
  fun {S S' H H' A v} e hA ⟨p, vs, A', h1, h2, h3, h4⟩ => ⟨p, vs, A', h1, h2, by rw [hA p (by rw [h2]; exact List.mem_cons_self)]; exact h3, h4.fr e fun a ha => hA a (by rw [h2]; exact List.mem_cons_of_mem _ ha)⟩⟩
section
variable {X : Cx} {B : Bs} {Γ : Gm} {O N : Om} {Z : Er → Prop} {p p1 pos pos' apos : Pos} {D : Ends} {body rest : List Stmt} {es : List Expr} {e : Expr} {α β τ : Type} {F : τ → List OP} {nm x : Str} {f : α → MP} {g : β → MP}
def tSm (f : α → MP) (g : β → MP) : α ⊕ β → MP := Sum.elim f g
theorem EW.inr {w : Wp β} (h : EW X B Γ O Z e g w) : EW X B Γ O Z e (tSm f g) (W.bind w fun i => W.ret (Sum.inr i : α ⊕ β)) := EW.imp (f := g) (g := tSm f g) h Sum.inr fun _ _ _ h => h
end
end OW
namespace OW
open PySem PySem.Spec PyProof.Rows L2 OT NdefX
def tPH (L : Hp) (q : Str × Str) : MP := ⟨fun S v => ∃ b, v = .ref b ∧ (S b = some (.tup [.str q.1, .str q.2]) ∨ L b = some (.tup [.str q.1, .str q.2])), fun e ⟨b, h1, h2⟩ => ⟨b, h1, h2.imp (e _ _) id⟩⟩
def NT (P : OP) : Prop := ∀ S H A v, P.R S H A v → ∀ a ∈ A, ∀ xs, H a ≠ some (.tup xs)
theorem nt_own {S H : Hp} : ∀ {O : Om} {A : List Addr}, (∀ x ∈ O, NT x.2) → OwnL S H O A → ∀ a ∈ A, ∀ xs, H a ≠ some (.tup xs)
  | [], A, _, h, a, ha => by
    have h : A = [] := h
    subst h
    cases ha
  | x :: O, A, hn, ⟨A1, A2, e, h1, h2⟩, a, ha => by
    subst e
    rcases List.mem_append.mp ha with z | z
    · exact hn x List.mem_cons_self S H A1 x.1 h1 a z
    · exact nt_own (fun y hy => hn y (List.mem_cons_of_mem _ hy)) h2 a z
def NTf : List (Str × OP) → Prop
  | [] => True
  | (_, P) :: Ps => NT P ∧ NTf Ps
section
variable {X : Cx} {B : Bs} {Γ : Gm} {O N N' : Om} {Z : Er → Prop} {e a b o r ix e1 e2 e3 : Expr} {es : List Expr} {p p1 p2 p3 pos pos' apos cpos : Pos} {D : Ends} {rest body : List Stmt} {α β κ : Type} [DecidableEq κ] {f : α → MP} {ke : κ → List Key} {kf : κ → MP} {nm fl m : Str} {C : Addr} {k : Nat}
abbrev prD (q : Str × Str) : PyData := .tuple [.str q.1, .str q.2]
end
structure Flw where
  order : Ord
  left : List (Str × Rt)
  room : List (Str × Rt)
  amounts : List ((Str × Str) × Rt)
abbrev oFlw (K : PySem.W.Frag) (r : Flw) : OP := oI (He.ga K "Flow") [("order", MP.o (tOrd K r.order)), ("left", oDs (tRat K) r.left), ("room", oDs (tRat K) r.room), ("amounts", oDp kePr (tRat K) r.amounts)]
abbrev bFlw (K : PySem.W.Frag) (r : Flw) : BP := bI (He.ga K "Flow") [("order", (tOrd K r.order).b), ("left", rD (tRat K) r.left), ("room", rD (tRat K) r.room), ("amounts", bDp kePr (tRat K) r.amounts)]
section
variable {X : Cx} {B : Bs} {Γ : Gm} {O N : Om} {Z : Er → Prop} {e r ix ik : Expr} {p p1 pos pos' pos2 : Pos} {D : Ends} {rest : List Stmt} {α : Type} {f : α → MP} {nm : Str}
end
section
variable {X : Cx} {B : Bs} {Γ : Gm} {O : Om} {Z : Er → Prop} {a b : Expr} {pos : Pos} {wa wb : Wp (Option Str)}
def vOS : Option Str → V
  | none => .non
  | some i => .str i
end
end OW
namespace OW
open PySem PySem.Spec PyProof.Rows L2 OT NdefX
abbrev IsZipF (h : Heap) (z TI TO : Addr) (x0 : Value) (f : Bool) : Prop :=
  h.get? z = some { cls := .type "zip", dict := none, data := .fields #[x0, .bool f, .bool false, .ref TI, .ref TO], slots := #[] }
section
variable {prog : Program} {w : World} {A : Around} {E : Value → Shared → Prop} {s : Shared}
variable {z TI TO T i1 i2 l1 l2 : Addr} {d1 d2 : Bool} {k1 k2 : Nat} {xs ys : Array Value} {x y a b : Value} (D : ZipApart z TI TO i1 i2 l1 l2)
include D


def IsZq (h : Heap) (z TI TO : Addr) : Prop := IsZip h z TI TO .none ∨ ∃ (T : Addr) (f : Bool), IsZipF h z TI TO (rawInt T) f
omit D in
theorem IsZq.obj {h : Heap} (q : IsZq h z TI TO) : ∃ o, h.get? z = some o ∧ o.cls = .type "zip" ∧ ∀ v, o.data ≠ .cell v := by
  rcases q with q | ⟨T, f, q⟩
  · exact ⟨_, q, rfl, fun v e => nomatch e⟩
  · exact ⟨_, q, rfl, fun v e => nomatch e⟩
end
def Zsn (d1 d2 : Bool) (a b z TI TO i1 i2 : Addr) (i : Nat) (h : Heap) : Prop := IsZq h z TI TO ∧ IsPair h TI (.ref i1) (.ref i2) ∧ (∃ x y, IsPair h TO x y) ∧ Itk d1 h i1 a i ∧ Itk d2 h i2 b i
section
variable {X : Cx} {B : Bs} {Γ : Gm} {O N N' : Om} {Z : Er → Prop} {e a b c o l r : Expr} {es elts : List Expr} {p p2 pos pos' apos tpos pq : Pos} {α β γ τ : Type} {f : α → MP} {g : β → MP} {kk : Nat} {ow : Bool} {C : Addr} {fl nm : Str}
end
end OW
namespace OW
open PySem PySem.Spec PyProof.Rows L2 OT NdefX
def layT (H : Hp) (l : List (Addr × V × V)) : Hp := l.foldl (fun H p => upd H p.1 (.tup [p.2.1, p.2.2])) H
def FrL (q : Addr) : Hp → List (Addr × V × V) → Prop
  | _, [] => True
  | H, p :: l => H p.1 = none ∧ p.1 ≠ q ∧ FrL q (upd H p.1 (.tup [p.2.1, p.2.2])) l
section
variable {X : Cx} {pins : List (Addr × Obj)} {σ : L2.St} {A1 : Around} {d1 d2 : Bool} {a b z TI TO i1 i2 q : Addr}
abbrev zlH (H : Hp) (q : Addr) (l : List (Addr × V × V)) : Hp := upd (layT H l) q (.lst (l.map fun p => V.ref p.1))
end
def tListZ (K : PySem.W.Frag) (ow : Bool) (C : Addr) (fl : Str) (ta : TA) : TE := fun σ H Q => ta σ H fun vs H1 => ∃ (u : V) (d1 d2 : Bool) (a b : Addr) (xs ys : List V), vs = [u, .ref b] ∧ Zf K ow C fl d1 H1 u a xs ∧ Sqz K d2 H1 b ys ∧ ∀ q l, H1 q = none → FrL q H1 l → l.map (·.2) = xs.zip ys → Q (.ref q) (zlH H1 q l)
end OW
namespace OW
open PySem PySem.Spec PyProof.Rows L2 OT NdefX
section
variable {X : Cx} {B : Bs} {Γ : Gm} {O N N' : Om} {Z : Er → Prop} {l r : Expr} {p p2 pos pq : Pos} {α β : Type} {f : α → MP} {g : β → MP} {ow : Bool} {C : Addr} {fl : Str} {q : Addr}
theorem Stt.laid {σ : L2.St} : ∀ {l : List (Addr × V × V)} {xs : List α} {ys : List β} {ws1 ws2 : List V} {S H : Hp}, Stt B Γ O S H σ → FrL q H l → AllM (xs.map f) S ws1 → AllM (ys.map g) S ws2 → l.map (·.2) = ws1.zip ws2 →
    ∃ S', Same S S' ∧ Stt B Γ O S' (layT H l) σ ∧ AllM ((xs.zip ys).map (tP2 X.K f g)) S' (l.map fun p => V.ref p.1)
  | [], xs, ys, ws1, ws2, S, H, t, _, m1, m2, e => by
    refine ⟨S, Same.refl _, t, ?_⟩
    have l1 := m1.length
    have l2 := m2.length
    rw [List.length_map] at l1 l2
    have : (xs.zip ys).length = 0 := by
      have h := congrArg List.length e
      rw [List.length_map, List.length_zip] at h
      rw [List.length_zip, ← l1, ← l2]
      exact h.symm
    rw [List.eq_nil_of_length_eq_zero this]
    exact trivial
  | a :: l, xs, ys, ws1, ws2, S, H, t, ⟨h1, h2, h3⟩, m1, m2, e => by
    match xs, ws1, ys, ws2, m1, m2, e with
    | x :: xs, w1 :: ws1, y :: ys, w2 :: ws2, m1, m2, e =>
      rw [List.map_cons, List.zip_cons_cons, List.cons.injEq] at e
      obtain ⟨e1, e2⟩ := e
      have s1 := Stp.put (o := .tup [a.2.1, a.2.2]) t.sub h1
      obtain ⟨S', s2, t2, r2⟩ := Stt.laid (t.step s1) h3 (AllM.up s1.s m1.2) (AllM.up s1.s m2.2) e2
      refine ⟨S', s1.s.trans s2, t2, ?_, r2⟩
      refine ⟨a.1, [w1, w2], rfl, s2 _ _ ?_, ?_, ?_, trivial⟩
      · rw [e1]; exact upd_same
      · exact (f x).up (s1.s.trans s2) m1.1
      · exact (g y).up (s1.s.trans s2) m2.1
    | [], [], _, _, m1, m2, e => rw [List.zip_nil_left] at e; cases e
    | _ :: _, _ :: _, [], [], m1, m2, e => rw [List.zip_nil_right] at e; cases e
end
end OW
namespace OW
open PySem PySem.Spec PyProof.Rows L2 OT NdefX
section
variable {X : Cx} {pins : List (Addr × Obj)} {σ : L2.St} {H : Hp} {s : Shared} {d1 d2 : Bool} {a b : Addr}
end
def tDictZT (K : PySem.W.Frag) (ow : Bool) (C : Addr) (fl : Str) (ta : TA) : TE := fun σ H Q => ta σ H fun vs H1 => ∃ (u : V) (d1 d2 : Bool) (a b : Addr) (bs : List Addr) (ks : List (List Key)) (ys : List V), vs = [u, .ref b] ∧ Zf K ow C fl d1 H1 u a (bs.map V.ref) ∧ Paired (fun (b : Addr) (k : List Key) => H1 b = some (.tup (k.map kV))) bs ks ∧ Sqz K d2 H1 b ys ∧ ∀ p, H1 p = none → Q (.ref p) (upd H1 p (.dT (mergeT [] (ks.zip ys))))
section
variable {X : Cx} {B : Bs} {Γ : Gm} {O N N' : Om} {Z : Er → Prop} {l r e1 e2 a b : Expr} {p p1 p2 pos pq apos : Pos} {α β κ : Type} [DecidableEq κ] {ke : κ → List Key} {kf : κ → MP} {f : α → MP} {g : β → MP} {ow : Bool} {C : Addr} {fl : Str} {q : Addr}
theorem DpR.merge (inj : ∀ a b, ke a = ke b → a = b) {S : Hp} : ∀ {xs : List κ} {ys : List α} {vs : List V} {d0 : List (κ × α)} {k0 : List (List Key × V)}, AllM (ys.map f) S vs → DpR ke f d0 S k0 → DpR ke f ((xs.zip ys).foldl (fun d q => dput d q.1 q.2) d0) S (mergeT k0 ((xs.map ke).zip vs))
  | [], ys, vs, d0, k0, _, h => h
  | x :: xs, [], vs, d0, k0, m, h => by match vs, m with | [], _ => exact h
  | x :: xs, y :: ys, vs, d0, k0, m, h => by
    match vs, m with
    | v :: vs, m => exact DpR.merge inj (xs := xs) m.2 (h.put inj m.1)
end
end OW
namespace OW
open PySem PySem.Spec PyProof.Rows L2 OT NdefX
section
variable {X : Cx} {B : Bs} {Γ : Gm} {O N N' : Om} {Z : Er → Prop} {a b : Expr} {p pos apos : Pos} {kf kf' : Str × Str → MP}
def Dpr (B : Bs) (K : PySem.W.Frag) (kf : Str × Str → MP) : Prop := ∀ (Γ : Gm) (O : Om) (S H : Hp) (σ : L2.St), Stt B Γ O S H σ → ∀ q v, (kf q).R S v → Dp K H v (prD q)
abbrev pOk (q : Str × Str) : Prop := PyData.strOk q.1 = true ∧ PyData.strOk q.2 = true
theorem w_ixLt {τ β : Type} {F : τ → List MP} {w : Wp τ} {i : Int} {g : β → MP} (k : τ → β) {j} {p3 : Pos} (ha : EW X B Γ O Z a (fun t => tL X.K (F t)) w) (hi : ∀ t, atI (F t) i = some (g (k t)) := by intro _; rfl) (hs : PlainIx (.Constant (.int i) j p3) := by exact fun _ _ => rfl) : EW X B Γ O Z (.Subscript a (.Constant (.int i) j p3) pos) g (W.bind w fun t => W.ret (k t)) := fun S H σ st P Q p n =>
  ⟨_, pe_ix ix_list pe_w pe_int hs, ha S H σ st _ _ p fun t u S1 H1 p1 s1 t1 ⟨q, vs, e, h2, h3⟩ => by
    obtain ⟨y, h4, h5⟩ := atI_get (AllM.toR (H := H1) h3) (atI_map (g := MP.b) (hi t))
    exact ⟨q, vs, i, y, e, rfl, SqL.of (t1.sub _ _ h2), h4, n _ y S1 H1 p1 s1 t1 h5⟩⟩
end
end OW
namespace OW
open PySem PySem.Spec PyProof.Rows L2 OT NdefX
def StlP (P Q : OP) : Prop := ∀ S H A v, P.R S H A v → A.Nodup → (∀ a ∈ A, S a = none) → ∃ A0 A1 D : List Addr, A = A0 ++ A1 ∧ D.Nodup ∧ (∀ d ∈ D, d ∈ A1 ∧ ∃ u, H d = some u ∧ Mut (some u)) ∧ ∀ H', FrzA A D H H' → Q.R (cut S H' A1) H' A0 v
section
variable {X : Cx} {B : Bs} {Γ : Gm} {O : Om} {S H : Hp} {σ : L2.St} {body : List Stmt} {D : Ends}
end
end OW
namespace OW
open PySem PySem.Spec PyProof.Rows L2 OT NdefX
section
variable {X : Cx} {B : Bs} {Γ : Gm} {O : Om} {Z : Er → Prop} {a b : Expr} {pos : Pos} {α : Type} {f : α → MP}
end
end OW
namespace OW
open PySem PySem.Spec PyProof.Rows L2 OT NdefX
theorem call_tupleZ {X : Cx} : CallR X (.type "tuple") (fun xs H Q => ∃ p ys, xs = [.ref p] ∧ SqL X.K H p ys ∧ ∀ l ob, H l = none → ob.dict = none → ob.cls = .type "tuple" → Q (.ref l) (upd H l (.frz ob (.tup ys)))) := by
  intro pins s σ H xs us Q I r h
  obtain ⟨p, ys, rfl, hq, q⟩ := h
  obtain ⟨u, rfl, rx⟩ := vals1 r
  cases rx
  obtain ⟨its, r', pl, hz⟩ := I.list hq
  have hlen := r'.length
  refine call_tuple_list pl.isList (fun h' kp => ?_) (by simp only [List.size_toArray] <;> omega)
  have I1 : Inv X pins σ H { s with heap := h' } := I.kept (t' := s.toks) kp
  have I2 : Inv X pins σ (upd H h'.objs.size (.frz { cls := .type "tuple", data := .seq its.toArray } (.tup ys))) { s with heap := h'.push { cls := .type "tuple", data := .seq its.toArray } } :=
    I1.laid (t' := s.toks) (fun b o e => Heap.get?_push_of_some _ e) (Nat.le_refl _) (show ObjOk X.prog X.w _ _ _ (.frz _ (.tup ys)) from ⟨Heap.get?_push_size _ rfl, hz, its, r', IsTup.new _ _⟩)
  exact ⟨.ref h'.objs.size, _, I2, rfl, q _ _ (I1.hok.fresh (Nat.le_refl _)) rfl rfl⟩
section
variable {X : Cx} {B : Bs} {Γ : Gm} {O N : Om} {Z : Er → Prop} {e a b : Expr} {p pos apos : Pos} {α : Type} {f : α → MP}
theorem EW.rz {w : Wp (List α)} (h : EW X B Γ O Z e (tZs X.K f) w) : RW X B Γ O Z [] e (rQ X.K f) w := h.r fun _ S H _ sm ⟨a, ob, vs, e, h1, _, _, h3⟩ => ⟨a, vs, e, .inr (.inl (.inr ⟨ob, sm _ _ h1⟩)), by have q := AllM.toR (H := H) h3; rw [List.map_map] at q; exact q⟩
theorem i_tupZ {tg l : Expr} {w : Wp (List α)} (he : EW X B Γ O Z l (tZs X.K f) w) : IW X B Γ O Z [] tg l f w := ⟨(fun _ h => by cases h), fun S H σ st P Rk p k =>
  ⟨_, pi_tup pe_w, he S H σ st _ _ p fun xs u S1 H1 p1 s1 t1 ⟨q, ob, vs, e, h2, _, _, h3⟩ => by
    subst e
    have hT : ∀ {S2 H2 : Hp}, Same S1 S2 → Same S2 H2 → SqT X.K H2 q vs := fun a b => .inl (.inr ⟨ob, b _ _ (a _ _ h2)⟩)
    refine ⟨q, rfl, ⟨vs, hT (Same.refl _) t1.sub⟩, k xs (Itt X.K q) ⟨fun S => Same S1 S, fun e h => h.trans e⟩ S1 H1 p1 s1 t1 (Same.refl _) fun Γ2 O2 S2 H2 σ2 t hn => ?_⟩
    have s2 : Same S1 S2 := t.gh.2
    have h4' : SqT X.K H2 q vs := hT s2 t.sub
    have m2 := h3.up s2
    refine ⟨⟨vs, h4', by rw [m2.length, List.length_map]; exact Nat.le_refl _⟩, fun i hi => ?_⟩
    obtain ⟨y, h6, h7⟩ := m2.get (i := i) (R := f xs[i]) (by simp [hi])
    refine ⟨⟨vs, y, h4', h6⟩, fun y' H3 ⟨e, hy⟩ => ?_⟩
    subst e
    have := hy vs h4'
    rw [h6] at this
    cases this
    exact ⟨S2, Stp.refl t.sub, h7⟩⟩⟩
theorem w_tupleZ {w : Wp (List α)} (hm : X.mg "tuple" = none) (ha : RN X B Γ O Z e (rL f) w) (hg : Gl X "tuple" := by rfl) (he : starEach [e] X.env = (false, eval e X.env) :: starEach [] X.env := by rfl) : EW X B Γ O Z (.Call (.Name "tuple" p) [e] [] pos) (tZs X.K f) w :=
  w_callTy1 (k := fun i => W.ret i) ha call_tupleZ (by decide +kernel) (fun xs S H v sm ⟨q, ws, e1, h1, h2⟩ P Q p n => ⟨q, ws, by rw [e1], SqL.of h1, fun l ob hl hd hc => by
    have s2 := Stp.put (o := .frz ob (.tup ws)) sm hl
    exact n xs _ _ _ p s2 ⟨l, ob, ws, rfl, upd_same, hd, hc, AllM.up s2.s (AllR.toM h2)⟩⟩) hm hg (by decide) (by decide) he
def tyZ (x : V) (H : Hp) : Prop := ∃ a ob vs, x = .ref a ∧ H a = some (.frz ob (.tup vs)) ∧ ob.dict = none ∧ ob.cls = .type "tuple"
def tBMZ (r : V → List V → Hp → VK → Prop) (to : TE) (t : TA) : TE := fun σ H Q => to σ H fun x H1 => tyZ x H1 ∧ t σ H1 fun xs H2 => r x xs H2 Q
end
end OW
namespace OW
open PySem PySem.Spec PyProof.Rows L2 OT NdefX
def oNone : OP := ⟨fun S H A v => A = [] ∧ v = .non, fun _ _ h => h⟩
def bNone : BP := ⟨fun S H v => v = .non, fun _ _ h => h⟩
def oOptL {α : Type} (f : α → MP) : Option (List α) → OP
  | none => oNone
  | some l => oLs f l
def bOptL {α : Type} (f : α → MP) : Option (List α) → BP
  | none => bNone
  | some l => rL f l
section
variable {X : Cx} {B : Bs} {Γ : Gm} {O N : Om} {Z : Er → Prop} {e a b : Expr} {p pos : Pos} {D : Ends} {body : List Stmt} {α : Type} {f : α → MP} {u : V} {x : Option (List α)} {nm : Str}
end
section
variable {X : Cx} {B : Bs} {Γ : Gm} {O N N' : Om} {Z : Er → Prop} {e a b c o : Expr} {es : List Expr} {p p1 p2 pos pos' apos : Pos} {α β γ ρ τ Dt : Type} {x m nm fl : Str} {Wx : WX} {C : Addr} {k : Nat} {ps : List Str} {As : Dt → List AP} {wp : Dt → Wp ρ} {res : ρ → RP} {Ms : ρ → List OP} {F : τ → List AA} {w : Wp τ} {R : Om}
end
end OW
namespace OW
open PySem PySem.Spec PyProof.Rows L2 OT NdefX
def tVH (L : Hp) (q : List Str) : MP := ⟨fun S v => ∃ b, v = .ref b ∧ (S b = some (.tup (q.map V.str)) ∨ L b = some (.tup (q.map V.str))), fun e ⟨b, h1, h2⟩ => ⟨b, h1, h2.imp (e _ _) id⟩⟩
abbrev vsD (q : List Str) : PyData := .tuple (q.map .str)
section
variable {X : Cx} {B : Bs} {Γ : Gm} {O N N' : Om} {Z : Er → Prop} {e a b o r ix e1 e2 e3 : Expr} {es : List Expr} {p p1 p2 p3 pos pos' apos cpos : Pos} {D : Ends} {rest body : List Stmt} {α β κ : Type} [DecidableEq κ] {f : α → MP} {ke : κ → List Key} {kf : κ → MP} {nm fl m : Str} {C : Addr} {k : Nat}
theorem Stt.flatV {S H : Hp} {σ : L2.St} {c : Addr} {q : List Str} (t : Stt B Γ O S H σ) (nt : ∀ x ∈ O, NT x.2) (hb : H c = some (.tup (q.map V.str))) : ∃ S', Same S S' ∧ Stt B Γ O S' H σ ∧ (tVH B.H q).R S' (.ref c) := by
  cases e1 : S c with
  | some o =>
    have := t.sub _ _ e1
    rw [hb] at this
    cases this
    exact ⟨S, Same.refl _, t, c, rfl, .inl e1⟩
  | none =>
    cases e2 : B.H c with
    | some o =>
      have := t.st.h _ _ e2
      rw [hb] at this
      cases this
      exact ⟨S, Same.refl _, t, c, rfl, .inr e2⟩
    | none =>
      have sS : Same S (upd S c (.tup (q.map V.str))) := fun z v hz => by
        rw [upd_ne (fun w => by subst w; rw [e1] at hz; cases hz)]
        exact hz
      obtain ⟨A, nd, hA, h⟩ := t.own
      refine ⟨upd S c (.tup (q.map V.str)), sS, ⟨⟨t.st.s.trans sS, fun z v hz => ?_, t.st.h, fun z z1 z2 => ?_⟩, fun i R g => ?_, t.len, ⟨A, nd, fun z hz => ?_, h.fr sS fun _ _ => rfl⟩, B.P.up sS t.gh⟩, c, rfl, .inl upd_same⟩
      · by_cases w : z = c
        · subst w; rw [upd_same] at hz; rw [hb]; exact hz
        · rw [upd_ne w] at hz; exact t.sub z v hz
      · rw [upd_ne (fun w => z2 (by rw [w]; exact e2))]
        exact t.st.fr z z1 z2
      · obtain ⟨v, g1, g2⟩ := t.slot i R g
        exact ⟨v, g1, R.up sS g2⟩
      · have y := hA z hz
        refine ⟨?_, y.2⟩
        rw [upd_ne (fun w => nt_own nt h z hz _ (by rw [w]; exact hb))]
        exact y.1
end
end OW
namespace OW
open PySem PySem.Spec PyProof.Rows L2 OT NdefX
section
variable {X : Cx} {B : Bs} {Γ : Gm} {O N N' : Om} {Z : Er → Prop} {a b : Expr} {p pos apos : Pos}
abbrev vOk (q : List Str) : Prop := ∀ x ∈ q, PyData.strOk x = true
variable {wa : Wp (List Str)} {wb : Wp (List (List Str))}
end
end OW
namespace OW
open PySem PySem.Spec PyProof.Rows L2 OT NdefX
def tTq {α : Type} (K : PySem.W.Frag) (f : α → MP) (xs : List α) : MP := ⟨fun S v => (tTs K f xs).R S v ∨ (tZs K f xs).R S v, fun e h => h.imp (tTs K f xs |>.up e) (tZs K f xs |>.up e)⟩
def oDz {α : Type} (g : α → Dz) : Option α → Dz
  | none => .n
  | some a => g a
def tNn (_ : Unit) : MP := ⟨fun _ v => v ≠ .non, fun _ h => h⟩
def Dz.toU : Dz → Option Unit
  | .n => none
  | _ => some ()
section
variable {X : Cx} {B : Bs} {Γ : Gm} {O N : Om} {Z : Er → Prop} {e : Expr} {α : Type} {f : α → MP}
end
def hB (b : BP) : BP := ⟨fun _ H v => b.R H H v, fun _ e h => b.up e e h⟩
section
variable {X : Cx} {B : Bs} {Γ : Gm} {O N : Om} {Z : Er → Prop} {e a : Expr} {pos : Pos}
end
def zTop2 : Dz → Dz → Bool
  | .d _, .d _ => true
  | .s _, .s _ => true
  | .t _, .t _ => true
  | _, _ => false
abbrev W.neZ2 (n : Nat) (x y : Dz) : Wp Bool := fun Q _ => ∃ r, Dz.cmp x y = some r ∧ x.dep ≤ n ∧ zTop2 x y = true ∧ Q (!r)
section
variable {X : Cx} {B : Bs} {Γ : Gm} {O : Om} {Z : Er → Prop} {a b : Expr} {pos : Pos}
end
end OW
namespace OW
open PySem PySem.Spec PyProof.Rows L2 OT NdefX
def Flt (S L : Hp) : Prop := ∀ (c : Addr) (q : List Str), L c = some (.tup (q.map V.str)) → S c = L c
def spF {D ρ : Type} (K : PySem.W.Frag) (As : D → List AP) (w : D → Wp ρ) (res : ρ → RP) (Ms : ρ → List OP) : Sp := fun vs H Q E => ∃ d S A P Z, Pro K (As d) (w d) res Ms vs H Q E S A P Z ∧ Flt S (minus H A)
section
variable {B : Bs} {Γ : Gm} {O : Om}
end
section
variable {P : Program} {w : World} {K : PySem.W.Frag} {mg : Str → Option Value} {base : Heap} {x qual : Str} {params : Arguments} {body : List Stmt} {scope : Scope} {kws : List (Str × V)} {f : Addr} {fd : FuncData}
end
section
variable {P : Program} {w : World} {K : PySem.W.Frag} {mg : Str → Option Value} {base : Heap} {k : Nat} {ps : List Str}
end
section
variable {X : Cx} {B : Bs} {Γ : Gm} {O N : Om} {Z : Er → Prop} {e : Expr} {es : List Expr} {p pos : Pos} {x : Str} {Wx : WX} {τ D ρ : Type} {As : D → List AP} {wp : D → Wp ρ} {res : ρ → RP} {Ms : ρ → List OP} {F : τ → List AA} {M R : Om} {w : Wp τ}
variable {k : Nat} {ps : List Str}
end
section
variable {X : Cx} {B : Bs} {Γ : Gm} {O : Om} {Z : Er → Prop} {e : Expr} {p pos : Pos} {α : Type} {f : α → MP}
end
end OW
namespace OW
open PySem PySem.Spec PyProof.Rows L2 OT NdefX
def spDF {D : Type} (As : D → List BP) (o : Bool) : Sp := fun vs H Q E => ∃ d, AllR (As d) H H vs ∧ ∀ v S' H', (OT.tB o).R S' v → Q v H'
end OW

namespace OW
open PySem PySem.Spec PyProof.Rows L2 OT NdefX
section
variable {X : Cx} {B : Bs} {Γ : Gm} {O : Om} {Z : Er → Prop} {e : Expr} {p pos : Pos}
end
end OW
namespace OW
open PySem PySem.Spec PyProof.Rows L2 OT NdefX
end OW
namespace OW
open PySem PySem.Spec PyProof.Rows L2 OT NdefX
section
variable {X : Cx} {B : Bs} {Γ : Gm} {O : Om} {Z : Er → Prop} {a b : Expr} {pos : Pos}
end
end OW
namespace OW
open PySem PySem.Spec PyProof.Rows L2 OT NdefX
section
variable {P : Program} {w : World} {A : Around} {E : Value → Shared → Prop} {s : Shared}
abbrev IsV (P : Program) (w : World) (h : Heap) (k : List Str) (a : Addr) : Prop := IsTupleKey (strKind P w) h k a
abbrev vh (P : Program) (w : World) (k : List Str) : Int := tupleKeyHash (strKind P w) k
abbrev Vn := Addr × List Str

def vRow (P : Program) (w : World) (x : Vn) : Int × Value := (vh P w x.2, .ref x.1)
structure SV (P : Program) (w : World) (h : Heap) (a : Addr) (L : List Vn) (es : Array (Int × Value)) (ep : Nat) (t : SetTable) : Prop where
  ob : ∃ o, h.get? a = some o ∧ o.ExactSet ∧ o.data = .set es ep t
  rows : es.toList = L.map (vRow P w)
  tab : TabOk t (L.map fun x => vh P w x.2)
  nd : (L.map (·.2)).Nodup
  led : w.params.followText "set-order" = true ∨ t.led = true
  room : L.length * 5 < t.mask * 3
  few : L.length < 64
variable {a : Addr} {L : List Vn} {es : Array (Int × Value)} {ep : Nat} {t : SetTable}
theorem rows_size {es : Array (Int × Value)} {L : List Vn} (h : es.toList = L.map (vRow P w)) : es.size = L.length := by
  have := congrArg List.length h
  rwa [Array.length_toList, List.length_map] at this
theorem fits_of {n : Nat} (sz : t.place.size = n) (dm : t.dummies = #[]) (h : n ≤ t.mask) : t.fits n = true := by
  unfold SetTable.fits SetTable.fill
  rw [dm, Bool.and_eq_true, beq_iff_eq, decide_eq_true_eq]
  show t.place.size = n ∧ t.place.size + 0 ≤ t.mask
  omega
theorem SV.fits (R : SV P w s.heap a L es ep t) : t.fits es.size = true := by
  have h1 := R.tab.sz
  rw [List.length_map] at h1
  have h2 := rows_size R.rows
  have h3 := R.room
  exact fits_of (by omega) R.tab.dm (by omega)
theorem SV.whole (R : SV P w s.heap a L es ep t) : ¬ t.gaveWay = true := by
  unfold SetTable.gaveWay
  rw [mask_odd R.tab.mok]
  decide
end
end OW
namespace OW
open PySem PySem.Spec PyProof.Rows L2 OT NdefX
section
variable {P : Program} {w : World} {A : Around} {E : Value → Shared → Prop} {s : Shared} {a : Addr} {L : List Vn} {es : Array (Int × Value)} {ep : Nat} {t : SetTable}
end
end OW
namespace OW
open PySem PySem.Spec PyProof.Rows L2 OT NdefX
structure SetOfV (xs L : List Vn) : Prop where
  sub : ∀ x ∈ L, x ∈ xs
  all : ∀ x ∈ xs, x.2 ∈ L.map (·.2)
  len : L.length ≤ xs.length
theorem SetOfV.more {xs L L' : List Vn} {x : Vn} (g : SetOfV xs L) (pm : L'.Perm (x :: L)) : SetOfV (xs ++ [x]) L' := ⟨fun y hy => by
  rcases List.mem_cons.mp (pm.mem_iff.mp hy) with e | hy
  · exact List.mem_append_right _ (List.mem_singleton.mpr e)
  · exact List.mem_append_left _ (g.sub y hy), fun y hy => by
  refine (pm.map (·.2)).mem_iff.mpr ?_
  rcases List.mem_append.mp hy with hy | hy
  · exact List.mem_cons_of_mem _ (g.all y hy)
  · rw [List.mem_singleton.mp hy]; exact .head _, by rw [pm.length_eq, List.length_append]; exact Nat.succ_le_succ g.len⟩
section
variable {P : Program} {w : World} {A : Around} {E : Value → Shared → Prop} {s : Shared}
theorem SV.keep {h h' : Heap} {a : Addr} {L : List Vn} {es : Array (Int × Value)} {ep : Nat} {t : SetTable} (R : SV P w h a L es ep t) (e : ∀ o, h.get? a = some o → h'.get? a = some o) : SV P w h' a L es ep t := by
  obtain ⟨o, ho, r⟩ := R.ob
  exact { R with ob := ⟨o, e o ho, r⟩ }
def setObj0 (w : World) : Obj := { cls := .type "set", dict := none, data := .set #[] 0 (.fresh 0 0 (!w.params.followText "set-order")) }
theorem SV.empty {h : Heap} {a : Addr} (ho : h.get? a = some (setObj0 w)) : SV P w h a [] #[] 0 (.fresh 0 0 (!w.params.followText "set-order")) where
  ob := ⟨_, ho, ⟨rfl, rfl, rfl⟩, rfl⟩
  rows := rfl
  tab := ⟨.nil, rfl, rfl, .inl rfl, fun x hx => (by cases hx), fun i h j hi => (by simp at hi)⟩
  nd := .nil
  led := by
    show _ ∨ (!w.params.followText "set-order") = true
    cases w.params.followText "set-order"
    · exact .inr rfl
    · exact .inl rfl
  room := by
    show 0 * 5 < 7 * 3
    decide
  few := by
    show 0 < 64
    decide
end
end OW
namespace OW
open PySem PySem.Spec PyProof.Rows L2 OT NdefX
section
variable {P : Program} {w : World} {A : Around} {E : Value → Shared → Prop} {s : Shared} {a : Addr} {L : List Vn} {es : Array (Int × Value)} {ep : Nat} {t : SetTable}
end
end OW
namespace OW
open PySem PySem.Spec PyProof.Rows L2 OT NdefX
def SetVO (P : Program) (w : World) (a : Addr) (L : List Vn) : HO := .ext fun h => ∃ es ep t, SV P w h a L es ep t
section
variable {X : Cx}
def rSetV (K : PySem.W.Frag) (P : Program) (w : World) : List V → Hp → VK → Prop := fun xs H Q => ∃ (l : Addr) (ks : List Vn), xs = [V.ref l] ∧ SqL K H l (ks.map fun x => V.ref x.1) ∧ (∀ x ∈ ks, SqT K H x.1 (x.2.map V.str)) ∧ ks.length < 64 ∧
  ∀ a L, H a = none → SetOfV ks L → (L.map (·.2)).Nodup → Q (.ref a) (upd H a (SetVO P w a L))
def rSortV (K : PySem.W.Frag) (P : Program) (w : World) : List V → Hp → VK → Prop := fun vs H Q => ∃ (a : Addr) (L : List Vn), vs = [V.ref a] ∧ H a = some (SetVO P w a L) ∧ (∀ x ∈ L, SqT K H x.1 (x.2.map V.str)) ∧ (∀ x ∈ L, x.2 ≠ []) ∧
  ∀ (L' : List Vn) (p : Addr), L'.Perm L → H p = none → Q (.ref p) (upd H p (.lst ((L'.mergeSort (PySem.W.dataLe false fun x : Vn => vsD x.2)).map fun x => V.ref x.1)))
end
def W.setV (xs : List (List Str)) : Wp (List (List Str)) := fun Q _ => (xs.length < 64 ∧ ∀ x ∈ xs, x ≠ []) ∧ ∀ ys : List (List Str), ys.Nodup → (∀ y, y ∈ ys ↔ y ∈ xs) → Q (srtD vsD ys)
section
variable {X : Cx} {B : Bs} {Γ : Gm} {O : Om} {Z : Er → Prop} {e : Expr} {p p2 q pos : Pos}
end
end OW
namespace OW
open PySem PySem.Spec PyProof.Rows L2 OT NdefX
def rDClearT : V → List V → Hp → VK → Prop := fun x vs H Q => ∃ (a : Addr) (kvs : List (List Key × V)), x = .ref a ∧ vs = [] ∧ H a = some (.dT kvs) ∧ Q .non (upd H a (.dT []))
section
variable {X : Cx} {o : Expr} {to : TE} {apos cpos : Pos}
end
section
variable {X : Cx} {B : Bs} {Γ : Gm} {O : Om} {Z : Er → Prop} {nm : Str} {p1 pos pos' apos : Pos} {rest : List Stmt} {D : Ends} {α κ : Type} [DecidableEq κ] {ke : κ → List Key}
end
end OW
namespace OW
open PySem PySem.Spec PyProof.Rows L2 OT NdefX
end OW
namespace OW
open PySem PySem.Spec PyProof.Rows L2 OT NdefX
section
variable {X : Cx} {B : Bs} {Γ : Gm} {O : Om} {body : List Stmt} {D : Ends} {α : Type} {f : α → MP} {u : V} {xs : List α} {q : Prop}
end
end OW
namespace OW
open PySem PySem.Spec PyProof.Rows L2 OT NdefX
section
variable {X : Cx} {B : Bs} {Γ : Gm} {O : Om} {Z : Er → Prop} {body : List Stmt} {D : Ends} {α β : Type} {F : β → OP} {f : α → MP} {pos : Pos}
theorem SW.apart {u : V} {kvs : List (Str × β)} {j : Str} {q : β → Prop} (h : ∀ x z, dget kvs j = some x → SW X B Γ ((z, F x) :: (u, oDn (sumF F) (detach kvs j z)) :: O) body D (q x)) : SW X B Γ ((u, oDn F kvs) :: O) body D (∃ x, dget kvs j = some x ∧ q x) := fun ⟨x, e, hq⟩ S H σ st => by
  obtain ⟨z, y, vs, a1, a2, a3, t2⟩ := st.apart e
  exact h x z e hq S H σ t2
end
end OW
namespace OW
open PySem PySem.Spec PyProof.Rows L2 OT NdefX
def W.pop0 {α : Type} (xs : List α) : Wp (α × List α) := fun Q _ => ∃ a, xs[xs.length - 1]? = some a ∧ Q (a, xs.dropLast)
section
variable {X : Cx} {B : Bs} {Γ : Gm} {O : Om} {Z : Er → Prop} {α : Type} {nm : Str} {p1 pos apos : Pos}
theorem AllO.dropLast {S H : Hp} {f : α → MP} : ∀ {xs : List α} {vs : List V}, AllM (xs.map f) S vs → AllM (xs.dropLast.map f) S vs.dropLast
  | [], [], _ => trivial
  | [], _ :: _, h => h.elim
  | _ :: _, [], h => h.elim
  | [x], [v], _ => trivial
  | [x], _ :: _ :: _, h => h.2.elim
  | _ :: _ :: _, [_], h => h.2.elim
  | x :: y :: xs, v :: w :: vs, h => ⟨h.1, AllO.dropLast (H := H) (xs := y :: xs) (vs := w :: vs) h.2⟩
end
end OW
namespace OW
open PySem PySem.Spec PyProof.Rows L2 OT NdefX
def ltS (x y : Str) : Bool := decide (x.cps.toList < y.cps.toList)
section
variable {X : Cx} {B : Bs} {Γ : Gm} {O : Om} {Z : Er → Prop} {a b : Expr} {pos : Pos} {wa wb : Wp Str}
end
section
variable {X : Cx}
def rLtDat (K : PySem.W.Frag) (d : Nat) : R2 := fun x y H Q => ∃ da db, Dp K H x da ∧ Dp K H y db ∧ PySem.W.alike da db = true ∧ da ≠ .none ∧ da.depth ≤ d ∧ Q (.bl (PySem.W.dataLt da db)) H
variable {B : Bs} {Γ : Gm} {O : Om} {Z : Er → Prop} {a b : Expr} {pos : Pos} {α : Type} {f : α → MP} {g : α → PyData} {d : Nat} {wa wb : Wp α}
end
section
variable {K : PySem.W.Frag} {α β γ : Type} {f1 : α → MP} {g1 : α → PyData} {f2 : β → MP} {g2 : β → PyData} {f3 : γ → MP} {g3 : γ → PyData} {d1 d2 d3 : Nat}
end
end OW
namespace OW
open PySem PySem.Spec PyProof.Rows L2 OT NdefX
def once (xs : List Str) : List Str := xs.foldl (fun a x => if a.any (· == x) then a else a ++ [x]) []
section
variable {prog : Program} {w : World} {A : Around} {E : Value → Shared → Prop} {s : Shared}
def setObjL (led : Bool) : Obj := { cls := .type "set", dict := none, data := .set #[] 0 (.fresh 0 0 led) }
end
section
variable {X : Cx}
def SetSO (P : Program) (w : World) (a : Addr) (xs : List Str) : HO := .ext fun h => h.SetOf (PySem.strKind P w) a (fun y => xs.any (· == y)) (once xs).length
def rSetX (K : PySem.W.Frag) (P : Program) (w : World) : List V → Hp → VK → Prop := fun vs H Q => ∃ (l : Addr) (xs : List Str), vs = [V.ref l] ∧ (SqL K H l (xs.map V.str) ∨ SqT K H l (xs.map V.str)) ∧ xs.length < 4000 ∧ ∀ a, H a = none → Q (.ref a) (upd H a (SetSO P w a xs))
def rLenX (P : Program) (w : World) : List V → Hp → VK → Prop := fun vs H Q => ∃ (a : Addr) (xs : List Str), vs = [V.ref a] ∧ H a = some (SetSO P w a xs) ∧ xs.length < 4000 ∧ Q (.int (once xs).length) H
variable {B : Bs} {Γ : Gm} {O : Om} {Z : Er → Prop} {e : Expr} {p p2 q pos : Pos}
end
end OW
namespace OW
open PySem PySem.Spec PyProof.Rows L2 OT NdefX
section
variable {X : Cx} {B : Bs} {Γ : Gm} {O : Om} {Z : Er → Prop} {e : Expr} {α : Type} {f : α → MP} {n : Nat}
end
end OW
namespace OW
open PySem PySem.Spec PyProof.Rows L2 OT NdefX
section
variable {K : PySem.W.Frag} {α : Type} {f : α → MP}
end
section
variable {X : Cx} {B : Bs} {Γ : Gm} {O : Om} {D : Ends} {body : List Stmt} {α : Type} {f : α → MP} {u : V} {q : Prop}
end
end OW
namespace HT
open PySem PySem.Spec PyProof.Rows
section
variable {prog : Program} {w : World} {A : Around} {E : Value → Shared → Prop} {s : Shared}
end
end HT
namespace L2
open PySem PySem.Spec PyProof.Rows
section
variable {X : Cx}
def tRevT (K : PySem.W.Frag) (te : TE) : TE := fun σ H Q => te σ H fun x H1 => ∃ a xs, x = .ref a ∧ SqT K H1 a xs ∧ ∀ p, H1 p = none → Q (.ref p) (upd H1 p (.tup xs.reverse))
end
end L2
namespace OW
open PySem PySem.Spec PyProof.Rows L2 OT NdefX
section
variable {X : Cx} {B : Bs} {Γ : Gm} {O N : Om} {Z : Er → Prop} {e : Expr} {p1 p2 p3 pos : Pos} {α : Type} {f : α → MP}
end
end OW
namespace OW
open PySem PySem.Spec PyProof.Rows L2 OT NdefX
section
variable {X : Cx} {B : Bs} {Γ : Gm} {O N N' : Om} {Z : Er → Prop} {a b : Expr} {p pos apos : Pos}
variable {wa : Wp (Str × Str)} {wb : Wp (List (Str × Str))}
end
end OW
namespace L2
open PySem PySem.Spec PyProof.Rows
section
variable {X : Cx}
def tRevL0 (K : PySem.W.Frag) (te : TE) : TE := fun σ H Q => te σ H fun x H1 => ∃ a xs, x = .ref a ∧ SqL K H1 a xs ∧ ∀ p, H1 p = none → Q (.ref p) (upd H1 p (.lst (xs.drop 1).reverse))
end
end L2
namespace OW
open PySem PySem.Spec PyProof.Rows L2 OT NdefX
section
variable {X : Cx} {B : Bs} {Γ : Gm} {O N : Om} {Z : Er → Prop} {e : Expr} {p0 p1 p2 p3 pos : Pos} {α : Type} {f : α → MP}
end
end OW
namespace OW
open PySem PySem.Spec PyProof.Rows L2 OT NdefX
section
variable {X : Cx} {B : Bs} {Γ : Gm} {O N : Om} {Z : Er → Prop} {e : Expr} {α β : Type} {f : α → MP} {g : β → MP} {pos : Pos}
def oneOf3 (K : PySem.W.Frag) (f : α → MP) (xs ys : List α) (u : V) (i : _root_.Fin 3) : MP := ([tLs K f xs, tV u, tTs K f xs] : List MP).get i
theorem EW.known {w : Wp α} {x : α} (h : EW X B Γ O Z e f w) : EW X B Γ O Z e (fun _ : Unit => f x) (fun Q E => w (fun a => a = x ∧ Q ()) E) :=
  fun S H σ st P Q p n => h S H σ st _ Q p fun a v S' H' ⟨ea, pa⟩ s t r => by
    subst ea
    exact n () v S' H' pa s t r
end
end OW
namespace OW
open PySem PySem.Spec PyProof.Rows L2 OT NdefX
def keyV (v : Value) : Str := match v with | .str k _ => k | _ => Str.empty
def keyT (e : Int × Value) : Str := keyV e.2
def GoodT (w : World) (e : Int × Value) : Prop := ∃ k tk, e.2 = Value.str k tk ∧ e.1 = hashStr w k

def SetRT (w : World) (h : Heap) (a : Addr) (S : Str → Bool) (n : Nat) : Prop :=
  ∃ o es ep t, h.get? a = some o ∧ o.ExactSet ∧ o.data = .set es ep t ∧ (∀ e ∈ es.toList, GoodT w e) ∧ (es.toList.map keyT).Nodup ∧ (∀ k, S k = true ↔ k ∈ es.toList.map keyT) ∧
    es.size < scanBound ∧ t.fits es.size = true ∧ es.size = n ∧ Ris t.place.toList ∧ (w.params.followText "set-order" = true ∨ t.led = true)

section
variable {P : Program} {w : World} {h h' : Heap} {a : Addr} {S : Str → Bool} {n : Nat}

theorem SetRT.congr {S' : Str → Bool} (R : SetRT w h a S n) (e : ∀ k, S' k = S k) : SetRT w h a S' n := by
  have q : S' = S := funext e
  rw [q]; exact R
end

section
variable {P : Program} {w : World} {A : Around} {E : Value → Shared → Prop} {s : Shared} {a : Addr} {S : Str → Bool} {n : Nat}







end
section
variable {P : Program} {w : World} {A : Around} {E : Value → Shared → Prop} {s : Shared} {a : Addr} {S : Str → Bool} {n : Nat}
end
section
variable {X : Cx}
def SetTO (w : World) (a : Addr) (xs : List Str) : HO := .ext fun h => ∃ c, c ≤ xs.length ∧ SetRT w h a (fun j => decide (j ∈ xs)) c
def rSetT' (K : PySem.W.Frag) (w : World) : List V → Hp → VK → Prop := fun vs H Q => ∃ (l : Addr) (xs : List Str), vs = [V.ref l] ∧ (SqL K H l (xs.map V.str) ∨ SqT K H l (xs.map V.str)) ∧ xs.length < 64 ∧ ∀ a, H a = none → Q (.ref a) (upd H a (SetTO w a xs))
def rSortT' (w : World) : List V → Hp → VK → Prop := fun vs H Q => ∃ (a : Addr) (xs : List Str), vs = [V.ref a] ∧ H a = some (SetTO w a xs) ∧ xs.length < 64 ∧
  ∀ (p : Addr), H p = none → Q (.ref p) (upd H p (.lst ((srt (once xs)).map V.str)))
variable {B : Bs} {Γ : Gm} {O : Om} {Z : Er → Prop} {e : Expr} {p p2 q pos : Pos}
end
end OW
namespace OW
open PySem PySem.Spec PyProof.Rows L2 OT NdefX
theorem bool_shape {b : Bool} {v : Value} (h : (match v with | .bool c => c == b | _ => false) = true) : v = .bool b := by
  cases v <;> simp_all
section
variable {P : Program} {w : World} {A : Around} {E : Value → Shared → Prop} {s : Shared}
theorem hash_b {k : Bool} {v : Value} {Q : Int → Shared → Prop} (e : v = .bool k) (h : Q (reduceHash (if k then 1 else 0)) { s with toks := s.toks + 1 }) : wpAny (model P w) A (PySem.pyHash v) Q E s := by
  subst e
  refine PySem.W.pyHash_slot (T := "bool") rfl F.slot_bool_hash entry_int_hash (args_int_hash _) (beq_builtin_none _) (.inl rfl) ?_
  cases k
  · exact (show wpAny _ _ (do ret (← mkInt 0)) _ _ s from wpAny_bind (wpAny_mkInt (wpAny_pure ⟨_, _, rfl, h⟩)))
  · exact (show wpAny _ _ (do ret (← mkInt 1)) _ _ s from wpAny_bind (wpAny_mkInt (wpAny_pure ⟨_, _, rfl, h⟩)))
theorem eq_b {a b : Bool} {u v : Value} {Q : Bool → Shared → Prop} (e1 : u = .bool a) (e2 : v = .bool b) (h : Q (decide (a = b)) s) : wpAny (model P w) A (PySem.eqBool u v) Q E s := by
  subst e1 e2
  refine PySem.SeqAt.EqAt.bool_bool a b _ _ _ _ ?_
  have e : (a == b) = decide (a = b) := by cases a <;> cases b <;> rfl
  rw [e]; exact h
end
def bKind (P : Program) (w : World) : PySem.KeyKind P w Bool where
  is := fun b v => match v with | .bool c => c == b | _ => false
  hash := fun b => reduceHash (if b then 1 else 0)
  inj := fun v a b ha hb => by
    have e1 := bool_shape ha
    have e2 := bool_shape hb
    rw [e1] at e2
    injection e2
  byValue := fun k v h => by rw [bool_shape h]; rfl
  pyHash := fun hv h => hash_b (bool_shape hv) h
  eqBool := fun hu hv h => eq_b (bool_shape hu) (bool_shape hv) h
  «strs» := fun k x t v h => by cases h
section
variable {P : Program} {w : World} {H : Hp} {h : Heap} {a : Addr}
end
abbrev Bd : Type := (Bool × Bool) × Addr × V
def kyB (q : Bool × Bool) : List Bool := [q.1, q.2]
abbrev BdR : List Bd → List (List Bool × Addr × Value) → Prop := Paired fun p q => q.1 = kyB p.1 ∧ q.2.1 = p.2.1 ∧ RelV p.2.2 q.2.2
section
variable {P : Program} {w : World} {A : Around} {E : Value → Shared → Prop}
end
def tBd (trs : List (TE × TE)) (ti : TE) : TE := fun σ H Q => ∀ d, H d = none → tPairs trs σ (upd H d (.dT [])) fun ps H2 => H2 d = some (.dT []) ∧ ∃ kvs : List Bd, ps = kvs.map (fun x => (V.ref x.2.1, x.2.2)) ∧ kvs.length ≤ 15 ∧ (kvs.map (·.1)).Nodup ∧
  (∀ x ∈ kvs, H2 x.2.1 = some (.tup [.bl x.1.1, .bl x.1.2])) ∧ ∀ ob, ti σ (upd H2 d ob) fun y H4 => ∃ b x, y = V.ref b ∧ H4 b = some (.tup [.bl x.1.1, .bl x.1.2]) ∧ H4 d = some ob ∧ (∀ x ∈ kvs, H4 x.2.1 = some (.tup [.bl x.1.1, .bl x.1.2])) ∧ x ∈ kvs ∧ Q x.2.2 H4
def BdO (P : Program) (w : World) (d : Addr) (xs : List (List Bool × Addr × Value)) : HO := .ext fun h => ∃ o es ep, h.get? d = some o ∧ o.ExactDict ∧ o.data = .dict es ep ∧ es.toList = xs.map (entryOfKey (tupleKind (bKind P w)))
def oJk : OP := ⟨fun S H A v => ∃ p, v = .ref p ∧ A = [p], fun {S S' H H' A v} e hA h => h⟩
def pick4 {α : Type} (q : Bool × Bool) (a b c d : α) : α := if q.1 then (if q.2 then a else b) else (if q.2 then c else d)
section
variable {X : Cx} {B : Bs} {Γ : Gm} {O : Om} {Z : Er → Prop} {α : Type} {f : α → MP} {k1 k2 k3 k4 e1 e2 e3 e4 ix : Expr} {pos dpos : Pos} {w1 w2 w3 w4 : Wp α} {q : Bool × Bool}
end
end OW
namespace OW
open PySem PySem.Spec PyProof.Rows L2 OT NdefX
def oOptD {α : Type} (f : α → MP) : Option (List (Str × α)) → OP
  | none => oNone
  | some l => oDs f l
def bOptD {α : Type} (f : α → MP) : Option (List (Str × α)) → BP
  | none => bNone
  | some l => rD f l
section
variable {X : Cx} {B : Bs} {Γ : Gm} {O N : Om} {Z : Er → Prop} {e a b : Expr} {p pos : Pos} {D : Ends} {body : List Stmt} {α : Type} {f : α → MP} {u : V} {x : Option (List (Str × α))} {nm : Str}
end
section
variable {K : PySem.W.Frag} {α : Type} {f : α → MP}
end
section
variable {X : Cx} {B : Bs} {Γ : Gm} {O : Om} {Z : Er → Prop} {e : Expr} {nm : Str} {p1 p3 pos' apos cpos : Pos} {rest : List Stmt} {D : Ends} {α : Type} {f : α → MP}
end
section
variable {X : Cx} {B : Bs} {Γ : Gm} {O : Om} {Z : Er → Prop} {e : Expr} {α : Type} {f : α → MP}
end
end OW
namespace PySem
open Sem (wp)
section
variable {prog : Program} {w : World} {A : Around} {E : Value → Shared → Prop} {s : Shared}
end
end PySem
namespace OW
open PySem PySem.Spec PyProof.Rows L2 OT NdefX
def tKstar (tk tv tm : TE) : TE := fun σ H Q => ∀ p, H p = none → tPairs [(tk, tv)] σ (upd H p (.dK [])) fun ps H1 => ∃ x y, ps = [(x, y)] ∧ ∃ k, x = kV k ∧ H1 p = some (.dK []) ∧
  tm σ (upd H1 p (.dK [(k, y)])) fun m H2 => ∃ (a : Addr) (kvs kvs' : List (Key × V)), m = .ref a ∧ a ≠ p ∧ H2 p = some (.dK kvs') ∧ kvs'.length ≤ 100000 ∧ Rd H2 a (.dK kvs) ∧ kvs.length ≤ 100000 ∧ Q (.ref p) (upd H2 p (.dK (mergeK kvs' kvs)))
def tStars (t1 t2 : TE) : TE := fun σ H Q => ∀ p, H p = none → t1 σ (upd H p (.dK [])) fun m H1 => ∃ (a : Addr) (kvs : List (Key × V)), m = .ref a ∧ a ≠ p ∧ H1 p = some (.dK []) ∧ Rd H1 a (.dK kvs) ∧ kvs.length ≤ 100000 ∧
  t2 σ (upd H1 p (.dK (mergeK [] kvs))) fun m H2 => ∃ (a : Addr) (kvs kvs' : List (Key × V)), m = .ref a ∧ a ≠ p ∧ H2 p = some (.dK kvs') ∧ kvs'.length ≤ 100000 ∧ Rd H2 a (.dK kvs) ∧ kvs.length ≤ 100000 ∧ Q (.ref p) (upd H2 p (.dK (mergeK kvs' kvs)))
section
variable {X : Cx} {B : Bs} {Γ : Gm} {O : Om} {Z : Er → Prop} {em em2 kx vx : Expr} {pos : Pos} {α : Type} {f : α → MP}
def dmg {α : Type} (a b : List (Str × α)) : List (Str × α) := b.foldl (fun d q => dput d q.1 q.2) a
end
end OW
namespace OW
open PySem PySem.Spec PyProof.Rows L2 OT NdefX
section
variable {X : Cx} {B : Bs} {Γ : Gm} {O N N' : Om} {Z : Er → Prop} {a b : Expr} {p pos apos : Pos}
def lsD (q : List Str) : PyData := .list (q.map PyData.str)
variable {wa : Wp (List Str)} {wb : Wp (List (List Str))}
end
end OW
namespace OW
open PySem PySem.Spec PyProof.Rows L2 OT NdefX
section
variable {X : Cx} {B : Bs} {Γ : Gm} {O : Nat → Om} {O1 : Om} {Z : Er → Prop} {n : Nat} {e ix ix2 : Expr} {p1 p3 pos pos' : Pos} {D : Ends} {rest : List Stmt} {α : Type} {nm : Str} {f : α → MP}
end
end OW
namespace OW
open PySem PySem.Spec PyProof.Rows L2 OT NdefX
section
variable {X : Cx} {B : Bs} {Γ : Gm} {O : Om} {Z : Er → Prop} {e : Expr} {α β : Type} {f : α → MP} {F : α → OP} {g : β → MP}
def W.nev {α β : Type} (w : Wp α) : Wp β := fun _ E => w (fun _ => False) E
theorem EW.never {w : Wp α} (h : EW X B Γ O Z e f w) : EW X B Γ O Z e g (W.nev w) := fun S H σ st P Q p n => h S H σ st (fun _ => False) Q p fun a v S1 H1 p1 _ _ _ => p1.elim
theorem NW.never {w : Wp α} (h : NW X B Γ O Z e F w) : EW X B Γ O Z e g (W.nev w) := fun S H σ st P Q p n => h S H σ st (fun _ => False) Q p fun a v S1 H1 p1 _ _ _ => p1.elim
end
end OW
namespace OW
open PySem PySem.Spec PyProof.Rows L2 OT NdefX
abbrev oLL {α : Type} (f : α → MP) (xs : List (List α)) : OP := oL (xs.map fun d => oLs f d)
abbrev bLL {α : Type} (f : α → MP) (xs : List (List α)) : BP := bLB (xs.map fun d => rL f d)
section
variable {X : Cx}
def rEqD (K : PySem.W.Frag) : R2 := fun x y H Q => ∃ d e, Dp K H x d ∧ Dp K H y e ∧ SeqAt.shaped d = true ∧ SeqAt.shaped e = true ∧ Q (.bl (PyData.eqv d e)) H
def rNeD (K : PySem.W.Frag) : R2 := fun x y H Q => ∃ d e, Dp K H x d ∧ Dp K H y e ∧ SeqAt.shaped d = true ∧ SeqAt.shaped e = true ∧ Q (.bl (!PyData.eqv d e)) H
end
section
variable {X : Cx} {B : Bs} {Γ : Gm} {O N N' : Om} {Z : Er → Prop} {a b : Expr} {p p1 p2 pos pos' apos : Pos} {α : Type} {f : α → MP} {rest : List Stmt} {D : Ends} {nm nm2 : Str}
section
variable {wa : Wp (List Str)} {wb : Wp (List (List Str))}
end
section
variable {wa wb : Wp (List (List Str))}
end
end
end OW
namespace OW
open PySem PySem.Spec PyProof.Rows L2 OT NdefX
section
variable {X : Cx} {α : Type} {f : α → MP} {n : Nat} {ok : α → Prop}
abbrev ordsOk (xs : List (List Ord)) : Prop := ∀ r ∈ xs, ∀ o ∈ r, deq o.above o.above = true
end
section
variable {X : Cx} {B : Bs} {Γ : Gm} {O N N' : Om} {Z : Er → Prop} {a b e : Expr} {pos : Pos} {wa wb : Wp (List (List Ord))}
end
end OW
namespace OW
open PySem PySem.Spec PyProof.Rows L2 OT NdefX
section
variable {X : Cx} {B : Bs} {Γ : Gm} {O : Nat → Om} {N N' : Om} {Z : Er → Prop} {n : Nat} {o e : Expr} {es : List Expr} {pos apos : Pos} {α τ ρ Dt : Type} {m : Str} {Wx : WX} {C : Addr} {k : Nat} {ps : List Str} {O1 : Om} {As : Dt → List AP} {wp : Dt → Wp ρ} {res : ρ → RP} {Ms : ρ → List OP} {F : τ → List AA} {bo : α → BP} {wo : Wp α} {w : Wp (τ × Nat)}
end
end OW
namespace OW
open PySem PySem.Spec PyProof.Rows L2 OT NdefX
section
variable {X : Cx} {e : Expr} {es : List Expr} {ta : TA} {p pos : Pos}
theorem un_keep {pins : List (Addr × Obj)} {σ : L2.St} {H1 H2 : Hp} {hp hp2 h2 : Heap} {g1 g2 : Array GenState} {d1 d2 : Drawn} {t1 t2 : Nat} {os1 os2 : OsState} {a C : Addr} (I1 : L2.Inv X pins σ H1 ⟨hp, g1, d1, t1, os1⟩)
    (ha : hp.objs.size ≤ a) (k : ∀ b o, hp.get? b = some o → hp2.get? b = some o) (un : Un (frs X.stack) [] (upd H1 a (exo a C none)) H2 hp2 h2) (hok : HOk X.prog X.w H2 h2) (ho : os2 = os1) (hb : AllBare g2) : L2.Inv X pins σ H2 ⟨h2, g2, d2, t2, os2⟩ := by
  have hn : H1 a = none := I1.hok.fresh ha
  have nha : ∀ {b : Addr} {o : Obj}, hp.get? b = some o → b ≠ a := fun {b o} z => Nat.ne_of_lt (Nat.lt_of_lt_of_le (Heap.lt_size z) ha)
  have up : ∀ {b : Addr}, b ≠ a → H1 b = none → upd H1 a (exo a C none) b = none := fun {b} hb n => by rw [upd_ne hb]; exact n
  have U : Un (frs X.stack) [] H1 H2 hp h2 := {
    keep := fun b o z n hf hx => un.keep b o (k b o z) (up (nha z) n) hf hx
    slot := fun b o z n hf hx => un.slot b o (k b o z) (up (nha z) n) hf hx
    free := fun b o z n hx => un.free b o (k b o z) (up (nha z) n) hx
    there := fun b o z hx => un.there b o (k b o z) hx
    tups := fun b xs z => un.tups b xs (by rw [upd_ne (ne_of_none z hn)]; exact z)
    frzs := fun b o v z => un.frzs b o v (by rw [upd_ne (ne_of_none z hn)]; exact z)
    tbls := fun b ps z => un.tbls b ps (by rw [upd_ne (ne_of_none z hn)]; exact z) }
  exact I1.call' (ch := []) ho U hok hb (fun b z => absurd z (by simp))
def tMkV (C : Addr) (sp : Sp) (ta : TA) : TE := fun σ H Q => ta σ H fun vs H1 => vs.length ≤ 1000 ∧ ∀ a, H1 a = none → sp (.ref a :: vs) (upd H1 a (exo a C none)) (fun v H2 => v = .non ∧ Q (.ref a) H2) (fun _ _ _ => False)
def tMkV0 (C : Addr) (sp : Sp) : TE := fun σ H Q => ∀ a : Addr, H a = none → sp [V.ref a] (upd H a (exo a C none)) (fun v H2 => v = V.non ∧ Q (.ref a) H2) fun _ _ _ => False
theorem pe_oex {CX : CXT} {x : Str} {C fI : Addr} {k : Nat} {fd : FuncData} {ps : List Str} {sp : Sp} (T : OexC X.K C) (iC : PySem.W.findIn X.K (.ref C) "__init__" = some (some (.ref fI))) (tI : PySem.W.typeIn X.K (.ref fI) = some (.type "function"))
    (F1 : FnOk X.prog X.w X.K X.mg X.base CX k fI fd ps sp) (hr : Room (k + 1) X.A) (hb : L2.Binds X.K fd ps []) (hx : Passes CX X (fun _ _ _ => False)) (hg : Gl X x) (hm : X.mg x = some (.ref C)) (ha : PA X (e :: es) ta)
    (hdb : (x == ("__debug__" : Str)) = false := by decide) (he : starEach (e :: es) X.env = (false, eval e X.env) :: starEach es X.env := by rfl) (hpl : (backTo pos (starEach es X.env)).any (·.1) = false := by rfl) :
    PE X (.Call (.Name x p) (e :: es) [] pos) (tMkV C sp ta) := by
  refine ⟨fun pins s σ H Q I h => ?_⟩
  obtain ⟨nm, q, N, bs, bm, sn, sub, ab, col, dd, k0, k1, k2, k3, k5, hC, hbm⟩ := T.cls
  refine wpAny_Call_Name_kw (ld_glob I hg hm ?_ hdb)
  refine PySem.W.callWith_K (h₀ := X.base) I.ok.mod.kin T.kC (thn (ha.run pos pins s σ H _ I h) fun us s1 ⟨vs, H1, I1, r1, hz, q1⟩ => ⟨I1.kIn, ?_⟩) he hpl
  show wpAny _ _ (call (.ref C) us) _ _ _
  obtain ⟨hp, g, dr, tk, os⟩ := s1
  have hsz : hp.objs.size ≤ hp.objs.size + 1 := Nat.le_succ _
  have hn : H1 (hp.objs.size + 1) = none := I1.hok.fresh hsz
  have hq := q1 (hp.objs.size + 1) hn
  have kk : ∀ b o, hp.get? b = some o → ((hp.push (PySem.W.kdv_tup us)).push (PySem.HandSPX.excO C hp.objs.size)).get? b = some o := fun b o e => Heap.get?_push_of_some _ (Heap.get?_push_of_some _ e)
  have hget : ((hp.push (PySem.W.kdv_tup us)).push (PySem.HandSPX.excO C hp.objs.size)).get? (hp.objs.size + 1) = some (PySem.HandSPX.excO C hp.objs.size) := by heap_get
  have I2 : L2.Inv X pins σ (upd H1 (hp.objs.size + 1) (exo (hp.objs.size + 1) C none)) ⟨(hp.push (PySem.W.kdv_tup us)).push (PySem.HandSPX.excO C hp.objs.size), g, dr, tk, os⟩ :=
    I1.laid (t' := tk) (a := hp.objs.size + 1) (o := exo (hp.objs.size + 1) C none) (h' := (hp.push (PySem.W.kdv_tup us)).push (PySem.HandSPX.excO C hp.objs.size)) kk hsz (exo_ok hget)
  have r2 : Vals (V.ref (hp.objs.size + 1) :: vs) (Value.ref (hp.objs.size + 1) :: us) := .cons rfl r1
  have hl : ((Value.ref (hp.objs.size + 1) :: us) ++ []).length = ps.length := by
    rw [List.append_nil]
    have e := r2.length
    rw [F1.len _ _ _ _ hq] at e
    exact e.symm
  have hus : us.length ≤ sizeLine := by
    rw [← Paired.length r1, sizeLine_eq]
    omega
  refine wpAny_call (PySem.HandSPX.call_own F.excBase_ValueError (fun Y => PySem.HandSPX.refsVE_contains Y bm hbm) (I1.kIn _ _ hC) (PySem.W.looks_findIn I1.kIn iC) (fun self => PySem.W.bind_fn I1.kIn self tI) hus
    (codeAny_mono (F1.run _ X.stack _ _ ⟨Value.ref (hp.objs.size + 1) :: us, []⟩ (Value.ref (hp.objs.size + 1) :: us) _ _ (fun _ _ _ => False) (hr.make C us []) (I2.env0.make C us []) (by have := hb _ (Value.ref (hp.objs.size + 1) :: us) I2.kIn hl; rwa [List.append_nil] at this) r2 hq) fun r s' hq' => ?_))
  cases r with
  | error er => exact hx pins σ _ _ er s' I2 hq'
  | ok fl =>
    cases fl with
    | ret u =>
      obtain ⟨v, H2, os2, bare2, un2, hok2, rv, ev, q2⟩ := hq'
      subst ev
      obtain ⟨h2, g2, d2, t2, os'⟩ := s'
      exact ⟨rv, .ref (hp.objs.size + 1), H2, un_keep I1 hsz kk un2 hok2 os2 bare2, rfl, q2⟩
    | next => exact False.elim hq'
    | brk => exact False.elim hq'
    | cont => exact False.elim hq'
theorem pe_ox0 {CX : CXT} {x : Str} {C fI : Addr} {k : Nat} {fd : FuncData} {ps : List Str} {sp : Sp} (T : OexC X.K C) (iC : PySem.W.findIn X.K (.ref C) "__init__" = some (some (.ref fI))) (tI : PySem.W.typeIn X.K (.ref fI) = some (.type "function"))
    (F1 : FnOk X.prog X.w X.K X.mg X.base CX k fI fd ps sp) (hr : Room (k + 1) X.A) (hb : L2.Binds X.K fd ps []) (hx : Passes CX X (fun _ _ _ => False)) (hg : Gl X x) (hm : X.mg x = some (.ref C))
    (hdb : (x == ("__debug__" : Str)) = false := by decide) : PE X (.Call (.Name x p) [] [] pos) (tMkV0 C sp) := by
  refine ⟨fun pins s σ H Q I h => ?_⟩
  obtain ⟨nm, q, N, bs, bm, sn, sub, ab, col, dd, k0, k1, k2, k3, k5, hC, hbm⟩ := T.cls
  refine wpAny_Call_Name_kw (ld_glob I hg hm ?_ hdb)
  refine PySem.W.callWith_K0 (K := X.K) I.kIn T.kC ?_
  show wpAny _ _ (call (.ref C) []) _ _ _
  obtain ⟨hp, g, dr, tk, os⟩ := s
  have hsz : hp.objs.size ≤ hp.objs.size + 1 := Nat.le_succ _
  have hq := h (hp.objs.size + 1) (I.hok.fresh hsz)
  have kk : ∀ b o, hp.get? b = some o → ((hp.push (PySem.W.kdv_tup [])).push (PySem.HandSPX.excO C hp.objs.size)).get? b = some o := fun b o e => Heap.get?_push_of_some _ (Heap.get?_push_of_some _ e)
  have hget : ((hp.push (PySem.W.kdv_tup [])).push (PySem.HandSPX.excO C hp.objs.size)).get? (hp.objs.size + 1) = some (PySem.HandSPX.excO C hp.objs.size) := by heap_get
  have I2 := I.laid (t' := tk) (a := hp.objs.size + 1) (o := exo (hp.objs.size + 1) C none) (h' := (hp.push (PySem.W.kdv_tup [])).push (PySem.HandSPX.excO C hp.objs.size)) kk hsz (exo_ok hget)
  have r2 : Vals [V.ref (hp.objs.size + 1)] [Value.ref (hp.objs.size + 1)] := .cons rfl .nil
  have hl : ([Value.ref (hp.objs.size + 1)] ++ []).length = ps.length := by
    have e := F1.len _ _ _ _ hq
    exact e
  refine wpAny_call (PySem.HandSPX.call_own F.excBase_ValueError (fun Y => PySem.HandSPX.refsVE_contains Y bm hbm) (I.kIn _ _ hC) (PySem.W.looks_findIn I.kIn iC) (fun self => PySem.W.bind_fn I.kIn self tI) (Nat.zero_le _)
    (codeAny_mono (F1.run _ X.stack _ _ ⟨[Value.ref (hp.objs.size + 1)], []⟩ [Value.ref (hp.objs.size + 1)] _ _ (fun _ _ _ => False) (hr.make C [] []) (I2.env0.make C [] []) (hb _ [Value.ref (hp.objs.size + 1)] I2.kIn hl) r2 hq) fun r s' hq' => ?_))
  cases r with
  | error er => exact hx pins σ _ _ er s' I2 hq'
  | ok fl =>
    cases fl with
    | ret u =>
      obtain ⟨v, H2, os2, bare2, un2, hok2, rv, ev, q2⟩ := hq'
      subst ev
      obtain ⟨h2, g2, d2, t2, os'⟩ := s'
      exact ⟨rv, .ref (hp.objs.size + 1), H2, un_keep I hsz kk un2 hok2 os2 bare2, rfl, q2⟩
    | next => exact False.elim hq'
    | brk => exact False.elim hq'
    | cont => exact False.elim hq'
def ErF (fs : List (Str × MP)) (S : Hp) (d : Option Addr) : Prop := (fs = [] ∧ d = none) ∨ ∃ b us, d = some b ∧ S b = some (exd b us) ∧ FldR fs S us
theorem ErF.up {fs : List (Str × MP)} {S S' : Hp} {d : Option Addr} (e : Same S S') (h : ErF fs S d) : ErF fs S' d := h.imp id fun ⟨b, us, h1, h2, h3⟩ => ⟨b, us, h1, e _ _ h2, h3.up e⟩
def tErr (K : PySem.W.Frag) (x : Er) : MP := ⟨fun S v => ∃ a d, v = .ref a ∧ S a = some (exo a (He.ga K (x.info K).1) d) ∧ ErF (x.info K).2 S d, fun e ⟨a, d, h1, h2, h3⟩ => ⟨a, d, h1, e _ _ h2, h3.up e⟩⟩
end
structure XisC (K : PySem.W.Frag) (C : Addr) : Prop extends XfC K C where
  ca : PySem.W.findIn K (.ref C) "__class__" = some (some (.builtin "object.__class__"))
  sp : PySem.W.specialIn K (.builtin "object.__class__") "__get__" = some (some (.builtin "getset_descriptor.__get__"))
  tk : PySem.W.takesIn K (.builtin "object.__class__") = some true
  mo : PySem.W.mroIn K C (.type "object") = some true
theorem exo_inst {P : Program} {w : World} {H : Hp} {h : Heap} {a C : Addr} {d : Option Addr} (hok : HOk P w H h) (he : H a = some (exo a C d)) (hd : d = none ∨ ∃ b us, d = some b ∧ H b = some (exd b us)) : ∃ ox od, PySem.W.InstAt h a ox C od := by
  obtain ⟨t1, ho⟩ := exo_at hok he
  rcases hd with rfl | ⟨b, us, rfl, hb⟩
  · exact ⟨_, none, ho, rfl, rfl, trivial⟩
  · obtain ⟨mA, hns, _⟩ := exd_at hok hb
    obtain ⟨o, es, ep, hg, _⟩ := hns
    exact ⟨_, some o, ho, rfl, rfl, hg⟩
def rIsV (K : PySem.W.Frag) : List V → Hp → VK → Prop := fun xs H Q => ∃ (a C : Addr) (d : Option Addr) (c : V) (cv : Value) (b : Bool), xs = [.ref a, c] ∧ H a = some (exo a C d) ∧ (d = none ∨ ∃ b us, d = some b ∧ H b = some (exd b us)) ∧ XisC K C ∧ (∀ u, RelV c u → u = cv) ∧ PySem.W.kitOne K (.ref C) cv = some b ∧ Q (.bl b) H
theorem call_isV {X : Cx} : CallR X (.builtin "isinstance") (rIsV X.K) := by
  intro pins s σ H xs us Q I r h
  obtain ⟨a, C, d, c, cv, b, rfl, ha, hd, T, hcv, e, q⟩ := h
  cases r with
  | cons rx rr =>
    cases rr with
    | cons rt rr =>
      cases rr
      cases rx
      have ec := hcv _ rt
      subst ec
      obtain ⟨ox, od, J⟩ := exo_inst I.hok ha hd
      obtain ⟨cdD, hcD, _⟩ := PySem.W.any_some T.hdC
      exact PySem.W.kia_one (PySem.W.kitx_exc (by rw [hcD]; rfl) T.ga T.gg T.exC T.ca T.sp T.tk T.mo) I.kIn J e (fun z => nomatch z) fun tk => ⟨.bl b, H, I.kept (t' := tk) fun _ _ z => z, rfl, q⟩
theorem kit_exm {K : PySem.W.Frag} {A B : Addr} {b : Bool} (h : PySem.W.exmOne K (.ref A) (.ref B) = some b) (hn : A ≠ B) : PySem.W.kitOne K (.ref A) (.ref B) = some b := by
  have e1 : ((Value.ref A == Value.ref B) = true) → False := fun z => hn (Value.ref.inj (beq_iff_eq.mp z))
  unfold PySem.W.kitOne
  rw [if_neg fun z => e1 z]
  unfold PySem.W.exmOne at h
  split at h
  · exact h
  · cases h
theorem kit_exmT {K : PySem.W.Frag} {A B : Addr} (h : PySem.W.exmOne K (.ref A) (.ref B) = some true) : PySem.W.kitOne K (.ref A) (.ref B) = some true := by
  unfold PySem.W.kitOne
  split
  · rfl
  · unfold PySem.W.exmOne at h
    split at h
    · exact h
    · cases h
theorem kit_self {K : PySem.W.Frag} {A : Addr} : PySem.W.kitOne K (.ref A) (.ref A) = some true := by unfold PySem.W.kitOne; simp
theorem ga_ne {K : PySem.W.Frag} {A B : Addr} (h1 : PySem.W.exmOne K (.ref A) (.ref A) = some true) (h2 : PySem.W.exmOne K (.ref A) (.ref B) = some false) : A ≠ B := fun z => by
  subst z
  rw [h1] at h2
  cases h2
section
variable {X : Cx} {B : Bs} {Γ : Gm} {O : Om} {Z : Er → Prop} {a c e e1 e2 e3 : Expr} {es : List Expr} {p p1 p2 pos : Pos} {α τ : Type} {f : α → MP} {x fl nm : Str} {k : Nat} {ps : List Str} {N : Om}
theorem tErr_in {x : Er} {S H : Hp} {v : V} (s : Same S H) (h : (tErr X.K x).R S v) : ∃ a d, v = .ref a ∧ H a = some (exo a (He.ga X.K (x.info X.K).1) d) ∧ (d = none ∨ ∃ b us, d = some b ∧ H b = some (exd b us)) := by
  obtain ⟨a, d, h1, h2, h3⟩ := h
  exact ⟨a, d, h1, s _ _ h2, h3.imp (·.2) fun ⟨b, us, g1, g2, _⟩ => ⟨b, us, g1, s _ _ g2⟩⟩
theorem w_isE {we : Wp Er} {cv : Value} {cf : Unit → MP} (res : Er → Bool) (hm : X.mg "isinstance" = none) (he : EW X B Γ O Z a (tErr X.K) we) (hc : EW X B Γ O Z c cf (W.ret ())) (hcv : ∀ S v, (cf ()).R S v → ∀ u, RelV v u → u = cv)
    (hx : ∀ x : Er, XisC X.K (He.ga X.K (x.info X.K).1) ∧ PySem.W.kitOne X.K (.ref (He.ga X.K (x.info X.K).1)) cv = some (res x)) (hg : Gl X "isinstance" := by rfl)
    (hs : starEach [a, c] X.env = (false, eval a X.env) :: starEach [c] X.env := by rfl) (hs2 : starEach [c] X.env = (false, eval c X.env) :: starEach [] X.env := by rfl) (hpl : (backTo pos (starEach [c] X.env)).any (·.1) = false := by rfl) :
    EW X B Γ O Z (.Call (.Name "isinstance" p) [a, c] [] pos) OT.tB (W.bind we fun x => W.ret (res x)) := fun S H σ st P Q pp n =>
  ⟨_, pe_callB call_isV hg hm (by decide +kernel) (pa_cons pe_w (pa_cons pe_w pa_nil hs2) hs) (by decide) (by decide) hs hpl,
    he S H σ st _ _ pp fun x v S1 H1 p1 s1 t1 r1 => hc S1 H1 σ t1 (fun _ => True) _ trivial fun _ u S2 H2 _ s2 t2 r2 => by
    obtain ⟨b, d, ev, h2, h3⟩ := tErr_in t2.sub ((tErr X.K x).up s2 r1)
    subst ev
    exact ⟨b, _, d, u, cv, _, rfl, h2, h3, (hx x).1, hcv _ _ r2, (hx x).2, n _ _ S2 H2 p1 (s1.trans s2) t2 rfl⟩⟩
def tXv (K : PySem.W.Frag) (f : Str) (te : TE) : TE := fun σ H Q => te σ H fun x H1 => ∃ (a C b : Addr) (us : List (Str × V)) (v : V), x = .ref a ∧ XfC K C ∧ PySem.W.findIn K (.ref C) f = some none ∧ H1 a = some (exo a C (some b)) ∧ H1 b = some (exd b us) ∧ us.lookup f = some v ∧ Q v H1
theorem pe_xv {te : TE} {n : Str} (he : PE X e te) (hb : attributeBase e n X.env (eval e X.env) = eval e X.env := by rfl) : PE X (.Attribute e n pos) (tXv X.K n te) := by
  refine ⟨fun pins s σ H Q I h => ?_⟩
  refine attr_of hb (thn (he.run pins s σ H _ I h) fun u s1 hh => ?_)
  obtain ⟨x, H1, I1, rx, a, C, b, us, v, rfl, T, hno, ha, hb2, l, q⟩ := hh
  obtain rfl : u = Value.ref a := rx
  obtain ⟨t1, ho⟩ := exo_at I1.hok ha
  obtain ⟨mA, hns, hr⟩ := exd_at I1.hok hb2
  obtain ⟨od, ho2, hl⟩ := lookIn_ns hns
  obtain ⟨u, hu, ru⟩ := RelO.some_of (v := v) (o := mA n) (by rw [← l]; exact hr n)
  have J : PySem.W.InstAt s1.heap a _ C (some od) := ⟨ho, rfl, rfl, ho2⟩
  exact HandSPX.exc_get I1.kIn J T.ga T.gg T.exC (PySem.W.findObj_own T.hdC hno rfl (by rw [hl, hu])) (handed_of ru) ⟨v, H1, I1.tok _, ru, q⟩
def W.as {α β : Type} (w : Wp Er) (dec : α → Er) (v : α → β) : Wp β := W.bind w fun x Q _ => ∃ y, x = dec y ∧ Q (v y)
theorem w_xv {β : Type} {we : Wp Er} {g : β → MP} (dec : α → Er) (v : α → β) {cx : Str} (T : XfC X.K (He.ga X.K cx)) (hno : PySem.W.findIn X.K (.ref (He.ga X.K cx)) fl = some none) (he : EW X B Γ O Z e (tErr X.K) we)
    (hi : ∀ y, ((dec y).info X.K).1 = cx := by intro _; rfl) (hR : ∀ y, ((dec y).info X.K).2.lookup fl = some (g (v y)) := by intro _; rfl) (hb : attributeBase e fl X.env (eval e X.env) = eval e X.env := by rfl) :
    EW X B Γ O Z (.Attribute e fl pos) g (W.as we dec v) := fun S H σ st P Q pp n =>
  ⟨_, pe_xv pe_w hb, he S H σ st _ _ pp fun x u S1 H1 p1 s1 t1 r1 => by
    obtain ⟨y, rfl, p2⟩ := p1
    obtain ⟨a, d, rfl, h2, h3⟩ := r1
    rcases h3 with ⟨h3, _⟩ | ⟨b, us, rfl, h4, h5⟩
    · have := hR y
      rw [h3] at this
      cases this
    · obtain ⟨w, h6, h7⟩ := h5.get (hR y)
      rw [hi y] at h2
      exact ⟨a, _, b, us, w, rfl, T, hno, t1.sub _ _ h2, t1.sub _ _ h4, h6, n (v y) w S1 H1 p2 s1 t1 h7⟩⟩
theorem w_mkE1 {w : Wp α} {ka : α → V} (er : α → Er) (G : GE X.prog X.w X.K X.mg X.base x (He.ga X.K x) k ps (spE1 (He.ga X.K x) fl)) (hr : Room (k + 1) X.A) (he : EW X B Γ O Z e f w) (pf : PlainV f ka) (hi : ∀ y, (er y).info X.K = (x, [(fl, f y)]) := by intro _; rfl)
    (hg : Gl X x := by rfl) (hdb : (x == ("__debug__" : Str)) = false := by decide) (hs : starEach [e] X.env = (false, eval e X.env) :: starEach [] X.env := by rfl) (hpl : (backTo pos (starEach [] X.env)).any (·.1) = false := by rfl) :
    EW X B Γ O Z (.Call (.Name x p) [e] [] pos) (tErr X.K) (W.bind w fun y => W.grd (fmtOk (ka y)) (er y)) := fun S H σ st P Q pp n => by
  obtain ⟨g, fd, G, T, iC, tI, hm, hb⟩ := G
  refine ⟨_, pe_oex T iC tI G hr hb passL hg hm (pa_cons pe_w pa_nil hs) hdb hs hpl, he S H σ st _ _ pp fun y v S1 H1 p1 s1 t1 r1 => ?_⟩
  have ev := pf _ _ _ r1
  refine ⟨(by show 1 ≤ 1000; decide), fun a na => ⟨a, H1, v, rfl, rfl, na, ev ▸ p1.1, fun d nd ne => ⟨rfl, ?_⟩⟩⟩
  have s2 := Stp.put (o := exd d [(fl, v)]) t1.sub nd
  have na2 : upd H1 d (exd d [(fl, v)]) a = none := by rw [upd_ne (Ne.symm ne)]; exact na
  have s3 := Stp.put (o := exo a (He.ga X.K x) (some d)) s2.i na2
  have e2 : upd (upd (upd H1 a (exo a (He.ga X.K x) none)) d (exd d [(fl, v)])) a (exo a (He.ga X.K x) (some d)) = upd (upd H1 d (exd d [(fl, v)])) a (exo a (He.ga X.K x) (some d)) := by
    funext b
    by_cases h1 : b = a
    · rw [h1, upd_same, upd_same]
    · rw [upd_ne h1, upd_ne h1]
      by_cases h2 : b = d
      · rw [h2, upd_same, upd_same]
      · rw [upd_ne h2, upd_ne h2, upd_ne h1]
  rw [e2]
  refine n (er y) _ _ _ p1.2 ((s1.trans s2.s).trans s3.s) ((t1.step s2).step s3) ⟨a, some d, rfl, ?_, .inr ⟨d, [(fl, v)], rfl, ?_, ?_⟩⟩
  · rw [hi y, upd_same]
  · rw [upd_ne ne, upd_same]
  · rw [hi y]
    exact ⟨rfl, (f y).up (s2.s.trans s3.s) r1, trivial⟩
theorem w_mkEG {Dt : Type} {As : Dt → List BP} {ok : Dt → Prop} {fs : Dt → List (Str × MP)} {F : τ → List AA} {w : Wp τ} (er : τ → Er) (G : GE X.prog X.w X.K X.mg X.base x (He.ga X.K x) k ps (spEx (He.ga X.K x) As ok fs)) (hr : Room (k + 1) X.A) (d : τ → Dt) (ha : AW X B Γ O Z N (e :: es) F w) (hA : ∀ t, F t = (As (d t)).map AA.b := by intro _; rfl) (hi : ∀ t, (er t).info X.K = (x, fs (d t)) := by intro _; rfl)
    (hl : ∀ t, (As (d t)).length ≤ 1000 := by intro _; exact Nat.le_of_ble_eq_true rfl) (hg : Gl X x := by rfl) (hdb : (x == ("__debug__" : Str)) = false := by decide) (hs : starEach (e :: es) X.env = (false, eval e X.env) :: starEach es X.env := by rfl) (hpl : (backTo pos (starEach es X.env)).any (·.1) = false := by rfl) :
    EW X B Γ O Z (.Call (.Name x p) (e :: es) [] pos) (tErr X.K) (W.bind w fun t => W.grd (ok (d t)) (er t)) := fun S H σ st P Q pp n => by
  obtain ⟨g, fd, G, T, iC, tI, hm, hb⟩ := G
  refine ⟨_, pe_oex T iC tI G hr hb passL hg hm pa_w hdb hs hpl, ha.2 S H σ st _ _ pp fun t vs S1 H1 p1 s1 t1 r1 => ?_⟩
  have r2 := r1 _ _ S1 H1 _ (Same.refl _) t1 ha.1
  rw [hA t] at r2
  have r3 : AllR (As (d t)) S1 H1 vs := by
    have : ∀ {Rs : List BP} {vs : List V}, AllA (Rs.map AA.b) S1 H1 vs → AllR Rs S1 H1 vs := by
      intro Rs
      induction Rs with
      | nil => intro vs h; cases vs with
        | nil => exact trivial
        | cons _ _ => exact h.elim
      | cons R Rs ih => intro vs h; cases vs with
        | nil => exact h.elim
        | cons v vs => exact ⟨h.1, ih h.2⟩
    exact this r2
  refine ⟨by rw [r3.length]; exact hl t, fun a na => ⟨d t, a, H1, vs, S1, p1.1, rfl, rfl, na, t1.sub, r3, fun y us S' H' sp n1 ne g1 g2 g3 g4 g5 => ⟨rfl, ?_⟩⟩⟩
  have e1 : Same S' (upd (upd S' y (exd y us)) a (exo a (He.ga X.K x) (some y))) := fun b v z => by rw [upd_ne (ne_of_none z g2), upd_ne (ne_of_none z g1)]; exact z
  have s2 : Stp S1 H1 (upd (upd S' y (exd y us)) a (exo a (He.ga X.K x) (some y))) H' := by
    refine ⟨sp.s.trans e1, fun b v z => ?_, sp.h, fun b z1 z2 => ?_⟩
    · by_cases q : b = a
      · subst q; rw [upd_same] at z; cases z; exact g3
      · rw [upd_ne q] at z
        by_cases q2 : b = y
        · subst q2; rw [upd_same] at z; cases z; exact g4
        · rw [upd_ne q2] at z
          exact sp.i b v z
    · have q : b ≠ a := fun q => z2 (by rw [q]; exact na)
      have q2 : b ≠ y := fun q => z2 (by rw [q]; exact n1)
      rw [upd_ne q, upd_ne q2]
      exact sp.fr b z1 z2
  refine n (er t) _ _ _ p1.2 (s1.trans s2.s) (t1.step s2) ⟨a, some y, rfl, ?_, .inr ⟨y, us, rfl, ?_, ?_⟩⟩
  · rw [hi t, upd_same]
  · rw [upd_ne ne, upd_same]
  · rw [hi t]
    exact g5.up e1
theorem w_mkE0 (er : Er) (G : GE X.prog X.w X.K X.mg X.base x (He.ga X.K x) k ps (spE0 (He.ga X.K x))) (hr : Room (k + 1) X.A) (hi : er.info X.K = (x, []) := by rfl) (hg : Gl X x := by rfl) (hdb : (x == ("__debug__" : Str)) = false := by decide) :
    EW X B Γ O Z (.Call (.Name x p) [] [] pos) (tErr X.K) (W.ret er) := fun S H σ st P Q pp n => by
  obtain ⟨g, fd, G, T, iC, tI, hm, hb⟩ := G
  refine ⟨_, pe_ox0 T iC tI G hr hb passL hg hm hdb, fun a na => ⟨a, H, S, rfl, rfl, na, st.sub, fun S' H' sp g1 g2 => ⟨rfl, ?_⟩⟩⟩
  have e1 : Same S' (upd S' a (exo a (He.ga X.K x) none)) := fun b v z => by rw [upd_ne (ne_of_none z g1)]; exact z
  have s2 : Stp S H (upd S' a (exo a (He.ga X.K x) none)) H' := by
    refine ⟨sp.s.trans e1, fun b v z => ?_, sp.h, fun b z1 z2 => ?_⟩
    · by_cases q : b = a
      · subst q; rw [upd_same] at z; cases z; exact g2
      · rw [upd_ne q] at z
        exact sp.i b v z
    · have q : b ≠ a := fun q => z2 (by rw [q]; exact na)
      rw [upd_ne q]
      exact sp.fr b z1 z2
  refine n er _ _ _ pp s2.s (st.step s2) ⟨a, none, rfl, ?_, .inl ⟨?_, rfl⟩⟩
  · rw [hi, upd_same]
  · rw [hi]
theorem tv_ref {C : Addr} : ∀ S v, (tV (.ref C)).R S v → ∀ u, RelV v u → u = .ref C := fun S v h u r => by
  cases (show v = .ref C from h)
  exact r
theorem tv_ty {T : String} : ∀ S v, (tV (.ty T)).R S v → ∀ u, RelV v u → u = .type T := fun S v h u r => by
  cases (show v = .ty T from h)
  exact r
variable {ok : α → Prop} {fs : α → List (Str × MP)} {β : Type} {g : β → MP}
theorem w_mkEV {w : Wp α} (er : α → Er) (G : GE X.prog X.w X.K X.mg X.base x (He.ga X.K x) k ps (spEx (He.ga X.K x) (fun d : α => [(f d).b]) ok fs)) (hr : Room (k + 1) X.A) (he : EW X B Γ O Z e f w) (hi : ∀ t, (er t).info X.K = (x, fs t) := by intro _; rfl)
    (hg : Gl X x := by rfl) (hdb : (x == ("__debug__" : Str)) = false := by decide) (hs : starEach [e] X.env = (false, eval e X.env) :: starEach [] X.env := by rfl) (hpl : (backTo pos (starEach [] X.env)).any (·.1) = false := by rfl) :
    EW X B Γ O Z (.Call (.Name x p) [e] [] pos) (tErr X.K) (W.bind w fun l => W.grd (ok l) (er l)) :=
  w_mkEG (fun z : α × Unit => er z.1) G hr (fun z => z.1) (a_cons he a_nil hs) (fun _ => rfl) (fun z => hi z.1) (fun _ => Nat.le_of_ble_eq_true rfl) hg hdb hs hpl
theorem w_mkEL {w : Wp (List Str)} {ok : List Str → Prop} {fs : List Str → List (Str × MP)} (er : List Str → Er) (G : GE X.prog X.w X.K X.mg X.base x (He.ga X.K x) k ps (spEx (He.ga X.K x) (fun d : List Str => [OT.bQ X.K (d.map tS)]) ok fs)) (hr : Room (k + 1) X.A) (he : RW X B Γ O Z N e (rQ X.K tS) w) (hi : ∀ t, (er t).info X.K = (x, fs t) := by intro _; rfl)
    (hg : Gl X x := by rfl) (hdb : (x == ("__debug__" : Str)) = false := by decide) (hs : starEach [e] X.env = (false, eval e X.env) :: starEach [] X.env := by rfl) (hpl : (backTo pos (starEach [] X.env)).any (·.1) = false := by rfl) :
    EW X B Γ O Z (.Call (.Name x p) [e] [] pos) (tErr X.K) (W.bind w fun l => W.grd (ok l) (er l)) :=
  w_mkEG (fun z : List Str × Unit => er z.1) G hr (fun z => z.1) (a_consR (f := fun z : List Str => OT.bQ X.K (List.map tS z)) (RW.imp he fun _ _ _ _ _ h => bQ_eq h) a_nil hs) (fun _ => rfl) (fun z => hi z.1) (fun _ => Nat.le_of_ble_eq_true rfl) hg hdb hs hpl
theorem w_mkE2 {w1 : Wp α} {w2 : Wp β} {ok : α × β → Prop} {fs : α × β → List (Str × MP)} (er : α → β → Er) (G : GE X.prog X.w X.K X.mg X.base x (He.ga X.K x) k ps (spEx (He.ga X.K x) (fun d : α × β => [(f d.1).b, (g d.2).b]) ok fs)) (hr : Room (k + 1) X.A) (ha : EW X B Γ O Z e1 f w1) (hb : EW X B Γ O Z e2 g w2) (hi : ∀ d : α × β, (er d.1 d.2).info X.K = (x, fs d) := by intro _; rfl)
    (hg : Gl X x := by rfl) (hdb : (x == ("__debug__" : Str)) = false := by decide) (hs1 : starEach [e1, e2] X.env = (false, eval e1 X.env) :: starEach [e2] X.env := by rfl) (hs2 : starEach [e2] X.env = (false, eval e2 X.env) :: starEach [] X.env := by rfl) (hpl : (backTo pos (starEach [e2] X.env)).any (·.1) = false := by rfl) :
    EW X B Γ O Z (.Call (.Name x p) [e1, e2] [] pos) (tErr X.K) (W.bind w1 fun a => W.bind w2 fun b => W.grd (ok (a, b)) (er a b)) :=
  w_mkEG (fun z : α × β × Unit => er z.1 z.2.1) G hr (fun z => (z.1, z.2.1)) (a_cons ha (a_cons hb a_nil hs2) hs1) (fun _ => rfl) (fun z => hi (z.1, z.2.1)) (fun _ => Nat.le_of_ble_eq_true rfl) hg hdb hs1 hpl
theorem w_mkE3 {w1 w2 : Wp Str} {w3 : Wp (List Str)} {ok : Str × Str × List Str → Prop} {fs : Str × Str × List Str → List (Str × MP)} (er : Str → Str → List Str → Er) (G : GE X.prog X.w X.K X.mg X.base x (He.ga X.K x) k ps (spEx (He.ga X.K x) (fun d : Str × Str × List Str => [(tS d.1).b, (tS d.2.1).b, OT.bQ X.K (d.2.2.map tS)]) ok fs)) (hr : Room (k + 1) X.A)
    (ha : EW X B Γ O Z e1 tS w1) (hb : EW X B Γ O Z e2 tS w2) (hc3 : RW X B Γ O Z N e3 (rQ X.K tS) w3) (hi : ∀ d : Str × Str × List Str, (er d.1 d.2.1 d.2.2).info X.K = (x, fs d) := by intro _; rfl)
    (hg : Gl X x := by rfl) (hdb : (x == ("__debug__" : Str)) = false := by decide) (hs1 : starEach [e1, e2, e3] X.env = (false, eval e1 X.env) :: starEach [e2, e3] X.env := by rfl) (hs2 : starEach [e2, e3] X.env = (false, eval e2 X.env) :: starEach [e3] X.env := by rfl) (hs3 : starEach [e3] X.env = (false, eval e3 X.env) :: starEach [] X.env := by rfl) (hpl : (backTo pos (starEach [e2, e3] X.env)).any (·.1) = false := by rfl) :
    EW X B Γ O Z (.Call (.Name x p) [e1, e2, e3] [] pos) (tErr X.K) (W.bind w1 fun a => W.bind w2 fun b => W.bind w3 fun l => W.grd (ok (a, b, l)) (er a b l)) :=
  w_mkEG (fun z : Str × Str × List Str × Unit => er z.1 z.2.1 z.2.2.1) G hr (fun z => (z.1, z.2.1, z.2.2.1)) (a_cons ha (a_cons hb (a_consR (f := fun z : List Str => OT.bQ X.K (List.map tS z)) (RW.imp hc3 fun _ _ _ _ _ h => bQ_eq h) a_nil hs3) hs2) hs1) (fun _ => rfl) (fun z => hi (z.1, z.2.1, z.2.2.1)) (fun _ => Nat.le_of_ble_eq_true rfl) hg hdb hs1 hpl
end
end OW
namespace OW
open PySem L2
section
variable {α β τ : Type}
theorem W.loop_pre {b : α → τ → (τ → Prop) → Prop} {k : τ → Prop} (I : List α → τ → Prop) (xs : List α) (h : ∀ pre x post s (K : τ → Prop), xs = pre ++ x :: post → I pre s → (∀ s', I (pre ++ [x]) s' → K s') → b x s K) (hk : ∀ s, I xs s → k s) (s : τ) (h0 : I [] s) : W.loop b k xs s := by
  have go : ∀ (post pre : List α) (s : τ), xs = pre ++ post → I pre s → W.loop b k post s := by
    intro post
    induction post with
    | nil => intro pre s e i; rw [List.append_nil] at e; subst e; exact hk s i
    | cons x post ih =>
      intro pre s e i
      exact h pre x post s _ e i fun s' i' => ih (pre ++ [x]) s' (by rw [e]; simp) i'
  exact go xs [] s rfl h0
theorem W.loop_inv {b : α → τ → (τ → Prop) → Prop} {k : τ → Prop} (I : τ → Prop) (xs : List α) (h : ∀ x ∈ xs, ∀ s (K : τ → Prop), I s → (∀ s', I s' → K s') → b x s K) (hk : ∀ s, I s → k s) (s : τ) (h0 : I s) : W.loop b k xs s :=
  W.loop_pre (fun _ => I) xs (fun pre x post s K e i kk => h x (by rw [e]; simp) s K i kk) hk s h0
theorem W.ite_intro {b : Bool} {p q : Prop} (h1 : b = true → p) (h2 : b = false → q) : W.ite b p q := ⟨h1, h2⟩
theorem W.ite_of {b : Bool} {p q : Prop} (h : if b then p else q) : W.ite b p q := by
  cases b
  · exact ⟨(fun e => by cases e), fun _ => h⟩
  · exact ⟨fun _ => h, (fun e => by cases e)⟩
theorem W.comp_plain {c : α → Wp Bool} {g : α → Wp β} {E : Er → Prop} (cb : α → Bool) (gb : α → β) {Q : List β → Prop} : ∀ (xs : List α), (∀ x ∈ xs, ∀ P : Bool → Prop, P (cb x) → c x P E) → (∀ x ∈ xs, cb x = true → ∀ P : β → Prop, P (gb x) → g x P E) → Q ((xs.filter cb).map gb) → W.comp c g xs Q E := by
  intro xs
  induction xs generalizing Q with
  | nil => exact fun _ _ h => h
  | cons x xs ih =>
    intro h1 h2 h
    refine h1 x List.mem_cons_self _ (W.ite_intro (fun e => ?_) fun e => ?_)
    · refine h2 x List.mem_cons_self e _ (ih (fun y hy => h1 y (List.mem_cons_of_mem _ hy)) (fun y hy => h2 y (List.mem_cons_of_mem _ hy)) ?_)
      rw [List.filter_cons, if_pos e, List.map_cons] at h
      exact h
    · refine ih (fun y hy => h1 y (List.mem_cons_of_mem _ hy)) (fun y hy => h2 y (List.mem_cons_of_mem _ hy)) ?_
      rw [List.filter_cons, if_neg (by rw [e]; decide)] at h
      exact h
theorem W.compG_plain {c : α → Wp Bool} {g : α → Wp β} {E : Er → Prop} (cb : α → Bool) (gb : α → β) {Q : List β → Prop} (xs : List α) (hl : xs.length ≤ 100000) (h1 : ∀ x ∈ xs, ∀ P : Bool → Prop, P (cb x) → c x P E0) (h2 : ∀ x ∈ xs, cb x = true → ∀ P : β → Prop, P (gb x) → g x P E0) (h : Q ((xs.filter cb).map gb)) : W.compG c g xs Q E := ⟨hl, W.comp_plain cb gb xs h1 h2 h⟩
theorem filter_tt (xs : List α) : xs.filter (fun _ => true) = xs := by simp
variable {κ : Type} [DecidableEq κ]
theorem dget_dput {k j : κ} {v : α} : ∀ {r : List (κ × α)}, dget (dput r k v) j = if j = k then some v else dget r j
  | [] => by
    unfold dput dget
    by_cases e : j = k
    · simp [e]
    · simp [e, Ne.symm e]
  | q :: r => by
    have ih := dget_dput (k := k) (j := j) (v := v) (r := r)
    unfold dget at ih ⊢
    unfold dput
    by_cases e : q.1 = k
    · rw [if_pos e]
      by_cases e2 : j = k
      · simp [e, e2]
      · have : q.1 ≠ j := fun z => e2 (by rw [← z, e])
        simp [e2, this]
    · rw [if_neg e]
      by_cases e3 : q.1 = j
      · have : j ≠ k := fun z => e (by rw [e3, z])
        simp [e3, this]
      · rw [List.find?_cons, List.find?_cons]
        simp only [e3, decide_false]
        exact ih
theorem dget_some {k : κ} : ∀ {r : List (κ × α)}, k ∈ r.map (·.1) → ∃ v, dget r k = some v
  | [], h => by simp at h
  | q :: r, h => by
    unfold dget
    by_cases e : q.1 = k
    · exact ⟨q.2, by simp [e]⟩
    · rw [List.map_cons, List.mem_cons] at h
      rcases h with h | h
      · exact absurd h.symm e
      · obtain ⟨v, hv⟩ := dget_some h
        unfold dget at hv
        exact ⟨v, by rw [List.find?_cons]; simp only [e, decide_false]; exact hv⟩
theorem dget_in {k : κ} {v : α} : ∀ {r : List (κ × α)}, dget r k = some v → (k, v) ∈ r
  | [], h => by simp [dget] at h
  | q :: r, h => by
    unfold dget at h
    by_cases e : q.1 = k
    · simp [e] at h
      subst h
      subst e
      exact List.mem_cons_self
    · rw [List.find?_cons] at h
      simp only [e, decide_false] at h
      exact List.mem_cons_of_mem _ (dget_in h)
theorem dget_key {k : κ} {v : α} {r : List (κ × α)} (h : dget r k = some v) : k ∈ r.map (·.1) := List.mem_map_of_mem (f := (·.1)) (dget_in h)
theorem dput_keys_of {k : κ} {v : α} {r : List (κ × α)} (h : k ∈ r.map (·.1)) : (dput r k v).map (·.1) = r.map (·.1) := by rw [dput_keys, if_pos h]
theorem dput_new {k : κ} {v : α} : ∀ {r : List (κ × α)}, k ∉ r.map (·.1) → dput r k v = r ++ [(k, v)]
  | [], _ => rfl
  | q :: r, h => by
    rw [List.map_cons, List.mem_cons] at h
    unfold dput
    rw [if_neg (fun e => h (.inl e.symm)), dput_new fun z => h (.inr z)]
    rfl
theorem dhas_iff {k : κ} {r : List (κ × α)} : dhas r k = true ↔ k ∈ r.map (·.1) := by
  unfold dhas
  rw [List.any_eq_true]
  constructor
  · rintro ⟨q, h1, h2⟩
    rw [← of_decide_eq_true h2]
    exact List.mem_map_of_mem (f := (·.1)) h1
  · intro h
    obtain ⟨q, h1, h2⟩ := List.mem_map.mp h
    exact ⟨q, h1, decide_eq_true h2⟩
theorem dput_has {k j : κ} {v : α} {r : List (κ × α)} : j ∈ (dput r k v).map (·.1) ↔ j = k ∨ j ∈ r.map (·.1) := by
  rw [dput_keys]
  by_cases e : k ∈ r.map (·.1)
  · rw [if_pos e]
    exact ⟨.inr, fun h => h.elim (fun z => z ▸ e) id⟩
  · rw [if_neg e, List.mem_append, List.mem_singleton]
    exact ⟨fun h => h.symm, fun h => h.symm⟩
theorem dput_nd {k : κ} {v : α} {r : List (κ × α)} (h : (r.map (·.1)).Nodup) : ((dput r k v).map (·.1)).Nodup := by
  rw [dput_keys]
  by_cases e : k ∈ r.map (·.1)
  · rw [if_pos e]; exact h
  · rw [if_neg e]
    refine List.nodup_append.mpr ⟨h, by simp, fun a ha b hb z => ?_⟩
    rw [List.mem_singleton] at hb
    subst hb
    subst z
    exact e ha
theorem dcol_new {v : Str → β} : ∀ (xs : List Str) (d : List (Str × β)), xs.Nodup → (∀ x ∈ xs, x ∉ d.map (·.1)) → dcol (fun _ => true) (fun x => x) v xs d = d ++ xs.map fun x => (x, v x)
  | [], d, _, _ => by simp [dcol]
  | x :: xs, d, hn, hd => by
    obtain ⟨h1, h2⟩ := List.nodup_cons.mp hn
    unfold dcol
    rw [if_pos rfl, dput_new (hd x List.mem_cons_self), dcol_new xs _ h2 fun y hy => ?_]
    · simp
    · rw [List.map_append, List.mem_append]
      rintro (z | z)
      · exact hd y (List.mem_cons_of_mem _ hy) z
      · simp at z
        subst z
        exact h1 hy
theorem dget_map {v : Str → β} {k : Str} {xs : List Str} (h : k ∈ xs) : dget (xs.map fun x => (x, v x)) k = some (v k) := by
  induction xs with
  | nil => cases h
  | cons x xs ih =>
    unfold dget
    by_cases e : x = k
    · simp [e]
    · rw [List.map_cons, List.find?_cons]
      simp only [e, decide_false]
      exact ih ((List.mem_cons.mp h).elim (fun z => absurd z.symm e) id)
theorem nodup_len [DecidableEq α] : ∀ {l m : List α}, l.Nodup → (∀ x ∈ l, x ∈ m) → l.length ≤ m.length
  | [], _, _, _ => Nat.zero_le _
  | x :: l, m, hn, hs => by
    obtain ⟨h1, h2⟩ := List.nodup_cons.mp hn
    have hx := hs x List.mem_cons_self
    have := nodup_len (l := l) (m := m.erase x) h2 fun y hy => (List.mem_erase_of_ne (fun z => h1 (by rw [← z]; exact hy))).mpr (hs y (List.mem_cons_of_mem _ hy))
    rw [List.length_erase_of_mem hx] at this
    have h3 : 0 < m.length := List.length_pos_of_mem hx
    rw [List.length_cons]
    omega
end
inductive Rch (ps : List (Str × Str)) : Str → Str → Prop where
  | refl (x : Str) : Rch ps x x
  | step {x y z : Str} : (x, y) ∈ ps → Rch ps y z → Rch ps x z
theorem Rch.trans {ps : List (Str × Str)} {x y z : Str} (h : Rch ps x y) (h' : Rch ps y z) : Rch ps x z := by
  induction h with
  | refl => exact h'
  | step e _ ih => exact .step e (ih h')
theorem Rch.one {ps : List (Str × Str)} {x y : Str} (h : (x, y) ∈ ps) : Rch ps x y := .step h (.refl _)
theorem Rch.in {ps : List (Str × Str)} {ns : List Str} (hp : ∀ q ∈ ps, q.1 ∈ ns ∧ q.2 ∈ ns) {x y : Str} (h : Rch ps x y) (hx : x ∈ ns) : y ∈ ns := by
  induction h with
  | refl => exact hx
  | step e _ ih => exact ih (hp _ e).2
theorem Rch.low {ps : List (Str × Str)} {ns : List Str} (hp : ∀ q ∈ ps, q.1 ∈ ns ∧ q.2 ∈ ns) {x y : Str} (h : Rch ps x y) (hy : y ∈ ns) : x ∈ ns := by
  induction h with
  | refl => exact hy
  | step e _ ih => exact (hp _ e).1
def R2 (st : List (Str × List (Str × Bool))) (x y : Str) : Prop := ∃ d, dget st x = some d ∧ y ∈ d.map (·.1)
structure WF2 (ns : List Str) (st : List (Str × List (Str × Bool))) : Prop where
  keys : st.map (·.1) = ns
  row : ∀ x d, dget st x = some d → (d.map (·.1)).Nodup ∧ ∀ y ∈ d.map (·.1), y ∈ ns
section
variable {ns : List Str} {st : List (Str × List (Str × Bool))} {x y : Str}
theorem WF2.get (h : WF2 ns st) (hx : x ∈ ns) : ∃ d, dget st x = some d := dget_some (by rw [h.keys]; exact hx)
theorem WF2.len (h : WF2 ns st) {d : List (Str × Bool)} (e : dget st x = some d) : d.length ≤ ns.length := by
  have := nodup_len (h.row x d e).1 (h.row x d e).2
  rwa [List.length_map] at this
theorem WF2.put (h : WF2 ns st) {d : List (Str × Bool)} (e : dget st x = some d) (hy : y ∈ ns) : WF2 ns (dput st x (dput d y true)) ∧ ∀ a b, R2 (dput st x (dput d y true)) a b ↔ R2 st a b ∨ (a = x ∧ b = y) := by
  have hk := dget_key e
  refine ⟨⟨by rw [dput_keys_of hk, h.keys], fun a d' e' => ?_⟩, fun a b => ?_⟩
  · rw [dget_dput] at e'
    by_cases q : a = x
    · rw [if_pos q] at e'
      cases e'
      refine ⟨dput_nd (h.row x d e).1, fun z hz => ?_⟩
      rcases dput_has.mp hz with z | z
      · subst z; exact hy
      · exact (h.row x d e).2 _ z
    · rw [if_neg q] at e'
      exact h.row a d' e'
  · unfold R2
    rw [dget_dput]
    by_cases q : a = x
    · subst q
      rw [if_pos rfl]
      constructor
      · rintro ⟨d', e', hb⟩
        cases e'
        rcases dput_has.mp hb with z | z
        · exact .inr ⟨rfl, z⟩
        · exact .inl ⟨d, e, z⟩
      · rintro (⟨d', e', hb⟩ | ⟨_, hb⟩)
        · rw [e] at e'; cases e'
          exact ⟨_, rfl, dput_has.mpr (.inr hb)⟩
        · exact ⟨_, rfl, dput_has.mpr (.inl hb)⟩
    · rw [if_neg q]
      exact ⟨.inl, fun z => z.elim id fun z => absurd z.1 q⟩
end
end OW
namespace OW
open PySem L2
def Rk (ps : List (Str × Str)) : Nat → Str → Str → Prop
  | 0, x, y => x = y
  | k + 1, x, y => Rk ps k x y ∨ ∃ z, (x, z) ∈ ps ∧ Rk ps k z y
section
variable {ps : List (Str × Str)} {ns : List Str} {x y : Str}
end
def RL (st : List (Str × List Str)) (x y : Str) : Prop := ∃ l, dget st x = some l ∧ y ∈ l
structure WFL (ns : List Str) (st : List (Str × List Str)) : Prop where
  keys : st.map (·.1) = ns
  row : ∀ x l, dget st x = some l → l.Nodup ∧ ∀ y ∈ l, y ∈ ns
section
variable {ns : List Str} {st : List (Str × List Str)} {x z : Str}
end
end OW
namespace OW
open PySem L2
section
variable {α β : Type}
theorem enm_cons (k : Int) (x : α) (xs : List α) : enm k (x :: xs) = (k, x) :: enm (k + 1) xs := by
  unfold enm
  rw [List.length_cons, List.range_succ_eq_map, List.zip_cons_cons, List.map_cons, List.zip_map_left, List.map_map]
  simp [Function.comp_def, Prod.map]
  intro a b _
  omega
theorem cut_take (xs : List α) (k : Nat) : OT.cut xs none (some (k : Int)) = xs.take k := by
  unfold OT.cut
  rw [HT.sIx_none, HT.sIx_nat]
  simp only [List.drop_zero, Nat.sub_zero]
  by_cases h : k ≤ xs.length
  · rw [Nat.min_eq_left h]
  · rw [Nat.min_eq_right (by omega), List.take_length, List.take_of_length_le (by omega)]
theorem atI_nat {xs : List α} {k : Nat} {x : α} (h : xs[k]? = some x) : atI xs (k : Int) = some x := by
  have hk : k < xs.length := (List.getElem?_eq_some_iff.mp h).1
  unfold atI ixN
  rw [if_pos (by omega), if_pos (by omega)]
  simpa using h
theorem W.dcomp_plain' {c : α → Wp Bool} {k : α → Wp Str} {v : α → Wp β} {E : Er → Prop} (kb : α → Str) (vb : α → β) {Q : List (Str × β) → Prop} : ∀ (xs : List α) (d : List (Str × β)), (∀ x ∈ xs, ∀ P : Bool → Prop, P true → c x P E) → (∀ x ∈ xs, ∀ P : Str → Prop, P (kb x) → k x P E) → (∀ x ∈ xs, ∀ P : β → Prop, P (vb x) → v x P E) → Q (dcol (fun _ => true) kb vb xs d) → W.dcomp c k v xs d Q E
  | [], d, _, _, _, h => h
  | x :: xs, d, h0, h1, h2, h => by
    refine h0 x List.mem_cons_self _ (W.ite_intro (fun _ => ?_) fun e => by cases e)
    refine h1 x List.mem_cons_self _ (h2 x List.mem_cons_self _ ?_)
    refine W.dcomp_plain' kb vb xs _ (fun y hy => h0 y (List.mem_cons_of_mem _ hy)) (fun y hy => h1 y (List.mem_cons_of_mem _ hy)) (fun y hy => h2 y (List.mem_cons_of_mem _ hy)) ?_
    unfold dcol at h
    rw [if_pos rfl] at h
    exact h
theorem perm_of_nodup [DecidableEq α] : ∀ {l m : List α}, l.Nodup → m.Nodup → (∀ x, x ∈ l ↔ x ∈ m) → l.Perm m := fun {l m} h1 h2 h => by
  rw [List.perm_iff_count]
  intro a
  rw [h1.count, h2.count]
  by_cases e : a ∈ l
  · rw [if_pos e, if_pos ((h a).mp e)]
  · rw [if_neg e, if_neg fun z => e ((h a).mpr z)]
end
theorem srt_congr {l m : List Str} (h : l.Perm m) : srt l = srt m := pairwise_unique (((srt_perm l).trans h).trans (srt_perm m).symm) (srt_sorted l) (srt_sorted m)
theorem srt_len (l : List Str) : (srt l).length = l.length := (srt_perm l).length_eq
theorem srt_mem {l : List Str} {x : Str} : x ∈ srt l ↔ x ∈ l := (srt_perm l).mem_iff
theorem srt_nodup {l : List Str} (h : l.Nodup) : (srt l).Nodup := (srt_perm l).nodup_iff.mpr h
def lET : Str := "abcdefghijklmnopqrstuvwxyz"
def sIG : Str := "abcdefghijklmnopqrstuvwxyz0123456789"
def isNm (t : Str) : Bool := if (t = ("" : Str)) ∨ 8 < t.length ∨ sgin ⟨#[t.cps.toList.headD 0]⟩ lET = false then false else (sgs t).all fun s => sgin s sIG
def goN : List Str → List Str → Option Er
  | _, [] => none
  | pre, x :: xs => if isNm x = false then some (.badName x) else if x ∈ pre then some (.dup x) else goN (pre ++ [x]) xs
def chkN (ns : List Str) : Option Er := if ns.length < 1 ∨ 8 < ns.length then some (.badNumber (ns.length : Int)) else goN [] ns
def chkP (ns : List Str) : List (Str × Str) → Option Er
  | [] => none
  | q :: ps => if q.1 ∉ ns then some (.unknown q.1) else if q.2 ∉ ns then some (.unknown q.2) else chkP ns ps
theorem goN_none : ∀ {xs pre : List Str}, goN pre xs = none → pre.Nodup → (pre ++ xs).Nodup
  | [], pre, _, h => by rw [List.append_nil]; exact h
  | x :: xs, pre, h, hn => by
    unfold goN at h
    by_cases e : isNm x = false
    · rw [if_pos e] at h; cases h
    · rw [if_neg e] at h
      by_cases e2 : x ∈ pre
      · rw [if_pos e2] at h; cases h
      · rw [if_neg e2] at h
        have := goN_none h (List.nodup_append.mpr ⟨hn, by simp, fun a ha b hb z => by rw [List.mem_singleton] at hb; subst hb; subst z; exact e2 ha⟩)
        rw [List.append_assoc] at this
        exact this
theorem chkN_none {ns : List Str} (h : chkN ns = none) : ns.Nodup ∧ 1 ≤ ns.length ∧ ns.length ≤ 8 := by
  unfold chkN at h
  by_cases e : ns.length < 1 ∨ 8 < ns.length
  · rw [if_pos e] at h; cases h
  · rw [if_neg e] at h
    have := goN_none h List.nodup_nil
    rw [List.nil_append] at this
    exact ⟨this, by omega, by omega⟩
theorem chkP_none {ns : List Str} : ∀ {ps : List (Str × Str)}, chkP ns ps = none → ∀ q ∈ ps, q.1 ∈ ns ∧ q.2 ∈ ns
  | [], _, q, hq => by cases hq
  | p :: ps, h, q, hq => by
    unfold chkP at h
    by_cases e : p.1 ∉ ns
    · rw [if_pos e] at h; cases h
    · rw [if_neg e] at h
      by_cases e2 : p.2 ∉ ns
      · rw [if_pos e2] at h; cases h
      · rw [if_neg e2] at h
        rcases List.mem_cons.mp hq with z | z
        · subst z; exact ⟨Classical.not_not.mp e, Classical.not_not.mp e2⟩
        · exact chkP_none h q z
def Rnd (ps : List (Str × Str)) (x : Str) : Prop := ∃ y, y ≠ x ∧ Rch ps x y ∧ Rch ps y x
open Classical in
noncomputable def rnd (ns : List Str) (ps : List (Str × Str)) : List Str := ns.filter fun x => decide (Rnd ps x)
open Classical in
noncomputable def upOf (ns : List Str) (ps : List (Str × Str)) (x : Str) : List Str := srt (ns.filter fun y => decide (Rch ps x y))
noncomputable def ordOf (ns : List Str) (ps : List (Str × Str)) : Ord := ⟨srt ns, (srt ns).map fun x => (x, upOf ns ps x)⟩
noncomputable def ini (ns : List Str) (ps : List (Str × Str)) : Except Er Ord := match chkN ns with
  | some e => .error e
  | none => match chkP ns ps with
    | some e => .error e
    | none => if rnd ns ps = [] then .ok (ordOf ns ps) else .error (.ring (srt (rnd ns ps)))
def endsX {α : Type} (Q : α → Prop) (E : Er → Prop) : Except Er α → Prop
  | .ok a => Q a
  | .error e => E e
theorem fmtI {n : Nat} (h : n ≤ 100000) : OT.fmtOk (V.int (n : Int)) := by
  show (n : Int).natAbs.log2 < 1920
  rw [Int.natAbs_natCast]
  by_cases e : n = 0
  · subst e; decide
  · rw [Nat.log2_lt e]
    have : n < 2 ^ 17 := by omega
    exact Nat.lt_of_lt_of_le this (Nat.pow_le_pow_right (by decide) (by decide))
end OW
namespace OW
open PySem L2
theorem bits_small {l : Int} (h0 : 0 ≤ l) (h1 : l ≤ 1000000) : Builtin.Int.intBits l ≤ 9000 := by
  unfold Builtin.Int.intBits
  by_cases e : l = 0
  · subst e; decide
  · have e2 : (l == 0) = false := by simpa using e
    rw [e2]
    have h2 : l.natAbs ≠ 0 := by omega
    have h3 : l.natAbs.log2 < 20 := by
      rw [Nat.log2_lt h2]
      have : l.natAbs ≤ 1000000 := by omega
      omega
    show l.natAbs.log2 + 1 ≤ 9000
    omega
theorem take_ok {l : Int} {Q : Int → Prop} (h0 : 0 < l) (h1 : l ≤ 1000000) (h : ∀ a, 0 ≤ a → a < l → Q a) : (0 < l ∧ Builtin.Int.intBits l ≤ 9000) ∧ ∀ a, 0 ≤ a → a < l → Q a := ⟨⟨h0, bits_small (by omega) h1⟩, h⟩
section
variable {α : Type}
theorem getI_ok {xs : List α} {i : Int} {Q : α → Prop} (h0 : 0 ≤ i) (h1 : i < (xs.length : Int)) (h : ∀ x, xs[i.toNat]? = some x → Q x) : ∃ x, atI xs i = some x ∧ Q x := by
  have hlt : i.toNat < xs.length := by omega
  have e : i = ((i.toNat : Nat) : Int) := by omega
  have e2 := OW.atI_nat (List.getElem?_eq_getElem hlt)
  rw [← e] at e2
  exact ⟨xs[i.toNat], e2, h _ (List.getElem?_eq_getElem hlt)⟩
theorem takeget_ok {xs : List α} {n : Int} {Q : α → Prop} {E : Er → Prop} (hn : n = (xs.length : Int)) (h0 : 0 < xs.length) (h1 : xs.length ≤ 100000) (h : ∀ x ∈ xs, Q x) : (W.bind (wTake n) fun z => W.get xs z) Q E := by
  subst hn
  exact take_ok (by omega) (by omega) fun a ha hb => getI_ok ha hb fun x hx => h x (List.mem_of_getElem? hx)
theorem rng_mem {m n x : Int} : x ∈ rng m n ↔ m ≤ x ∧ x < n := by
  unfold rng
  rw [List.mem_map]
  constructor
  · rintro ⟨a, h1, rfl⟩
    rw [List.mem_range] at h1
    omega
  · rintro ⟨h1, h2⟩
    exact ⟨(x - m).toNat, by rw [List.mem_range]; omega, by omega⟩
end

theorem ini_ok {ns : List Str} {ps : List (Str × Str)} (h1 : chkN ns = none) (h2 : chkP ns ps = none) (h3 : rnd ns ps = []) : ini ns ps = .ok (ordOf ns ps) := by
  unfold ini
  rw [h1, h2]
  simp only [if_pos h3]
end OW
namespace OW
open PySem L2
section
variable {α β γ : Type}
end
def Acy (r : Str → Nat) (ps : List (Str × Str)) : Prop := ∀ q ∈ ps, q.1 = q.2 ∨ r q.1 < r q.2
section
variable {ps ps' : List (Str × Str)} {ns ns' : List Str} {x y : Str} {r : Str → Nat}
theorem Rch.rank (h : Acy r ps) (z : Rch ps x y) : x = y ∨ r x < r y := by
  induction z with
  | refl => exact .inl rfl
  | step e _ ih =>
    rcases h _ e with h1 | h1
    · dsimp only at h1
      rw [h1]; exact ih
    · dsimp only at h1
      rcases ih with h2 | h2
      · rw [← h2]; exact .inr h1
      · exact .inr (Nat.lt_trans h1 h2)
theorem Rch.anti (h : Acy r ps) (z : Rch ps x y) (z' : Rch ps y x) : x = y := by
  rcases z.rank h with e | e
  · exact e
  · rcases z'.rank h with e' | e'
    · exact e'.symm
    · omega
theorem rnd_anti (h : ∀ x y, Rch ps x y → Rch ps y x → x = y) : rnd ns ps = [] := by
  classical
  unfold rnd
  rw [List.filter_eq_nil_iff]
  intro x _ hx
  obtain ⟨y, h1, h2, h3⟩ := of_decide_eq_true hx
  exact h1 (h _ _ h2 h3).symm
theorem ordOf_perm (h : ns.Perm ns') : ordOf ns ps = ordOf ns' ps := by
  unfold ordOf
  rw [srt_congr h]
  congr 1
  refine List.map_congr_left fun x _ => ?_
  have : upOf ns ps x = upOf ns' ps x := srt_congr (h.filter _)
  rw [this]
noncomputable def spr (ns : List Str) (ps : List (Str × Str)) : List (Str × Str) := (srt ns).flatMap fun low => ((upOf ns ps low).filter fun high => !decide (high = low)).map fun high => (low, high)
def Nb (ps : List (Str × Str)) (q : Str × Str) : Prop := ¬ ∃ z, z ≠ q.1 ∧ z ≠ q.2 ∧ Rch ps q.1 z ∧ Rch ps z q.2
open Classical in
noncomputable def cvs (ns : List Str) (ps : List (Str × Str)) : List (Str × Str) := (spr ns ps).filter fun q => decide (Nb ps q)
theorem deq_refl (hn : ns.Nodup) : deq (ordOf ns ps).above (ordOf ns ps).above = true := by
  unfold deq
  simp only [beq_self_eq_true, Bool.true_and, List.all_eq_true]
  intro p hp
  obtain ⟨x, hx, rfl⟩ := List.mem_map.mp hp
  exact decide_eq_true (dget_map hx)
theorem goN_good : ∀ {xs pre : List Str}, (pre ++ xs).Nodup → (∀ x ∈ xs, isNm x = true) → goN pre xs = none
  | [], _, _, _ => rfl
  | x :: xs, pre, hn, h => by
    unfold goN
    rw [if_neg (by rw [h x List.mem_cons_self]; decide), if_neg (fun z => (List.nodup_append.mp hn).2.2 x z x List.mem_cons_self rfl)]
    exact goN_good (by rw [List.append_assoc]; exact hn) fun y hy => h y (List.mem_cons_of_mem _ hy)
theorem chkN_good (hn : ns.Nodup) (h1 : 1 ≤ ns.length) (h2 : ns.length ≤ 8) (h : ∀ x ∈ ns, isNm x = true) : chkN ns = none := by
  unfold chkN
  rw [if_neg (by omega)]
  exact goN_good hn h
theorem chkP_good : ∀ {ps : List (Str × Str)}, (∀ q ∈ ps, q.1 ∈ ns ∧ q.2 ∈ ns) → chkP ns ps = none
  | [], _ => rfl
  | p :: ps, h => by
    have h1 := h p List.mem_cons_self
    unfold chkP
    rw [if_neg (fun z => z h1.1), if_neg (fun z => z h1.2)]
    exact chkP_good fun q hq => h q (List.mem_cons_of_mem _ hq)
theorem ini_good (hn : ns.Nodup) (h1 : 1 ≤ ns.length) (h2 : ns.length ≤ 8) (h : ∀ x ∈ ns, isNm x = true) (hp : ∀ q ∈ ps, q.1 ∈ ns ∧ q.2 ∈ ns) (ha : ∀ x y, Rch ps x y → Rch ps y x → x = y) : ini ns ps = .ok (ordOf ns ps) :=
  OW.ini_ok (chkN_good hn h1 h2 h) (chkP_good hp) (rnd_anti ha)
end
end OW
namespace OW
open PySem L2
theorem ite_f {b : Bool} {p q : Prop} (hb : b = false) (h : q) : W.ite b p q := ⟨(fun z => by rw [hb] at z; cases z), fun _ => h⟩
theorem ite_t {b : Bool} {p q : Prop} (hb : b = true) (h : p) : W.ite b p q := ⟨fun _ => h, (fun z => by rw [hb] at z; cases z)⟩
section
variable {α β : Type}
end
def rv (ps : List (Str × Str)) : List (Str × Str) := ps.map fun q => (q.2, q.1)
section
variable {ps ps' : List (Str × Str)} {ns ns' : List Str} {x y : Str}
def cutP (nm : List Str) (l : List (Str × Str)) : List (Str × Str) := l.filter fun q => decide (q.1 ∈ nm) && decide (q.2 ∈ nm)
end
def sets (l : List Str) : List (List Str) := l.foldl (fun st n => st ++ st.map fun r => r ++ [n]) [[]]
def IsUp (ps : List (Str × Str)) (r : List Str) : Prop := ∀ low ∈ r, ∀ high, Rch ps low high → high ∈ r
def rkD (q : Int × List Str) : PyData := PyData.tuple [PyData.int q.1, (fun xs : List Str => PyData.tuple (xs.map PyData.str)) q.2]
open Classical in
noncomputable def upSets (ns : List Str) (ps : List (Str × Str)) : List (List Str) := (sets (srt ns)).filter fun r => decide (IsUp ps r)
noncomputable def upsOf (ns : List Str) (ps : List (Str × Str)) : List (List Str) := srtD (fun r : List Str => rkD ((r.length : Int), r)) (upSets ns ps)
end OW
namespace OW
open PySem L2
theorem isNm_len {t : Str} (h : isNm t = true) : t.length ≤ 8 := by
  unfold isNm at h
  by_cases e : (t = ("" : Str)) ∨ 8 < t.length ∨ sgin ⟨#[t.cps.toList.headD 0]⟩ lET = false
  · rw [if_pos e] at h; cases h
  · exact Nat.le_of_not_lt fun z => e (.inr (.inl z))
structure Gd (ns : List Str) : Prop where
  nd : ns.Nodup
  l1 : 1 ≤ ns.length
  l8 : ns.length ≤ 8
  nm : ∀ x ∈ ns, isNm x = true
theorem Gd.sz {ns : List Str} (g : Gd ns) : ∀ x ∈ ns, x.length ≤ 8 := fun x hx => isNm_len (g.nm x hx)
theorem Gd.perm {ns ns' : List Str} (g : Gd ns) (h : ns'.Perm ns) : Gd ns' := ⟨h.nodup_iff.mpr g.nd, by rw [h.length_eq]; exact g.l1, by rw [h.length_eq]; exact g.l8, fun x hx => g.nm x (h.mem_iff.mp hx)⟩
structure Pd (ns : List Str) (ps : List (Str × Str)) : Prop where
  mem : ∀ q ∈ ps, q.1 ∈ ns ∧ q.2 ∈ ns
  anti : ∀ x y, Rch ps x y → Rch ps y x → x = y
section
variable {ns nm : List Str} {ps ps' : List (Str × Str)}
theorem Pd.perm (h : Pd ns ps) (hq : nm.Perm ns) : Pd nm ps := ⟨fun q z => ⟨hq.mem_iff.mpr (h.mem q z).1, hq.mem_iff.mpr (h.mem q z).2⟩, h.anti⟩
end
def goPt (ns : List Str) : List Str → List Str → Option Er
  | _, [] => none
  | pre, x :: xs => if x ∈ pre then some (.dup x) else if x ∉ ns then some (.unknown x) else goPt ns (pre ++ [x]) xs
def chkPt (ns nm : List Str) : Option Er := if nm = [] then some (.badNumber 0) else goPt ns [] nm
end OW
namespace OW
open PySem L2
def wt (m : Nat) (l : List Str) : Nat := (l.map fun z : Str => z.length).sum + l.length * m
def isWd (t : Str) : Bool := !decide (t = ("" : Str)) && !(([(" " : Str), (";" : Str), ("<" : Str)].map fun s => sgin s t).any id)
def goR : Int → List Str → List (Str × Str) → Except Er (List (Str × Str))
  | _, [], acc => .ok acc
  | k, p :: ps, acc => match Txt.split p (" < " : Str) with
    | [a, b] => if isWd a && isWd b then goR (k + 1) ps (acc ++ [(a, b)]) else .error (.badText k)
    | _ => .error (.badText k)
def readF (text : Str) : Except Er (List Str × List (Str × Str)) :=
  match Txt.split text ("; " : Str) with
  | [] => .error (.badText 0)
  | p :: ps => if (Txt.split p (" " : Str)).all isWd then (match goR 1 ps [] with | .ok l => .ok (Txt.split p (" " : Str), l) | .error e => .error e) else .error (.badText 0)
def textOf (ns : List Str) (ps : List (Str × Str)) : Str := Txt.join ("; " : Str) (Txt.join (" " : Str) ns :: ps.map fun q => q.1 ++ (" < " : Str) ++ q.2)
end OW
namespace OW
open PySem
open PySem.Builtin.Int (intBits)
open OT (Fit mulOk)
def rt (q : Rat) : Rt := ⟨q.num, (q.den : Int)⟩
def rsum (l : List Rat) : Rat := l.foldl (· + ·) 0
def wg (d : List (Str × Int)) (x : Str) : Int := (dget d x).getD 0
def sm (d : List (Str × Int)) : Int := isum (dvals d)
def ms (d : List (Str × Int)) (row : List Str) : Int := isum (row.map (wg d))
theorem isum_cons (x : Int) (l : List Int) : isum (x :: l) = x + isum l := by simp [isum]
theorem isum_perm {l m : List Int} (h : l.Perm m) : isum l = isum m := by
  induction h with
  | nil => rfl
  | cons x _ ih => rw [isum_cons, isum_cons, ih]
  | swap x y l => simp only [isum_cons]; omega
  | trans _ _ a b => exact a.trans b
theorem ms_perm {d : List (Str × Int)} {r s : List Str} (h : r.Perm s) : ms d r = ms d s := isum_perm (h.map _)
theorem ms_cons {d : List (Str × Int)} {x : Str} {r : List Str} : ms d (x :: r) = wg d x + ms d r := by simp [ms]
theorem ms_nn {d : List (Str × Int)} (h : ∀ x, 0 ≤ wg d x) : ∀ r : List Str, 0 ≤ ms d r
  | [] => by simp [ms]
  | x :: r => by have := ms_nn h r; have := h x; rw [ms_cons]; omega
theorem ms_le {d : List (Str × Int)} (h : ∀ x, 0 ≤ wg d x) {r s : List Str} (z : r.Sublist s) : ms d r ≤ ms d s := by
  induction z with
  | slnil => exact Int.le_refl _
  | cons a _ ih => rw [ms_cons]; have := h a; omega
  | cons_cons a _ ih => rw [ms_cons, ms_cons]; omega
theorem wg_cons {k : Str} {v : Int} {d : List (Str × Int)} {x : Str} : wg ((k, v) :: d) x = if x = k then v else wg d x := by
  unfold wg dget
  rw [List.find?_cons]
  by_cases h : x = k
  · subst h; simp
  · have h' : ¬ k = x := fun z => h z.symm
    simp [h, h']
theorem ms_congr {d d' : List (Str × Int)} {r : List Str} (h : ∀ x ∈ r, wg d x = wg d' x) : ms d r = ms d' r := by
  unfold ms
  rw [List.map_congr_left h]
theorem sm_ms : ∀ {d : List (Str × Int)}, (d.map (·.1)).Nodup → sm d = ms d (d.map (·.1))
  | [], _ => rfl
  | (k, v) :: d, h => by
    have h1 := List.nodup_cons.mp h
    have ih := sm_ms h1.2
    show isum (v :: dvals d) = ms ((k, v) :: d) (k :: d.map (·.1))
    rw [isum_cons, ms_cons, wg_cons, if_pos rfl]
    have : ms ((k, v) :: d) (d.map (·.1)) = ms d (d.map (·.1)) := ms_congr fun x hx => by
      rw [wg_cons, if_neg]
      rintro rfl
      exact h1.1 hx
    rw [this, ← ih]
    rfl
structure Wd (m : Int) (ns : List Str) (d : List (Str × Int)) : Prop where
  keys : d.map (·.1) = ns
  nn : ∀ x, 0 ≤ wg d x
  pos : 0 < sm d
  le : sm d ≤ m
theorem Wd.sm {m : Int} {ns : List Str} {d : List (Str × Int)} (h : Wd m ns d) (hn : ns.Nodup) : OW.sm d = ms d ns := by
  have := sm_ms (d := d) (by rw [h.keys]; exact hn)
  rwa [h.keys] at this
def chn (d : List (Str × Int)) : Chn := ⟨((srt (d.map (·.1))).filter fun x => decide (0 < wg d x)).map fun x => (x, rt (Rat.divInt (wg d x) (sm d)))⟩
def scl (f : Int) (d : List (Str × Int)) : List (Str × Int) := d.map fun q => (q.1, f * q.2)
def barr (ups : List (List Str)) (l h : List (Str × Int)) : Option (List Str) := ups.find? fun row => decide (ms h row * sm l < ms l row * sm h)
theorem Wd.part {m : Int} {ns r : List Str} {d : List (Str × Int)} (w : Wd m ns d) (hn : ns.Nodup) (hr : r.Sublist (srt ns)) : 0 ≤ ms d r ∧ ms d r ≤ OW.sm d := by
  refine ⟨ms_nn w.nn r, ?_⟩
  rw [w.sm hn, ← ms_perm (srt_perm ns)]
  exact ms_le w.nn hr
end OW
namespace K01
open PySem PySem.Spec PyProof.Rows L2
section
open OT
open PySem.Builtin.Int (intBits)
variable {P : Program} {w : World} {K : PySem.W.Frag} {mg : Str → Option Value} {base : Heap}
theorem old_pool (c : Ct P K mg) : GF P w K mg base "_law_pool" 1 ["_law_cell_here"] (spD (D := Int) (fun d => [bI d]) fun _ => .new OW.mPool) := by
  refine gf_mk (fd_l_pool c) (fun _ F => bd_l_pool F) (glo_l_pool c) fun fd F => def_ok F sc_l_pool (fun d _ => [some (tI d)]) ?_
  rintro cdv A outer s H S Q E x hr nd k
  exact s_retNew ((n_lst (Rs := [tI x, tI 0, tB _]) (a_cons (e_var 0) (a_cons e_int (a_cons (e_ge (e_var 0) (e_pow e_int e_int ⟨by decide, by decide, by decide⟩)) a_nil)))).imp OW.pool_close) fun p o S' H' st n1 n2 h1 h2 => k p o S' H' st n1 n2 h1 h2
theorem old_take (c : Ct P K mg) : GF P w K mg base "_law_take" 1 ["_law_pool_here", "_law_limit"] (spM (D := OW.Lim) (ι := Int) OW.mPool (fun d => [bI d.1]) (fun d i => 0 ≤ i ∧ i < d.1) fun _ i => tI i) := by
  refine gf_mk (fd_l_take c) (fun _ F => bd_l_take F) (glo_l_take c) fun fd F => defM_ok F sc_l_take (fun d p _ => [some (tR p), some (tI d.1), none, none]) ?_
  rintro cdv A outer s H0 H S Q E ⟨l, hl, hz⟩ p hr nd k
  refine SJ.openO OW.pool_open fun i => ?_
  obtain ⟨x, n, b⟩ := i
  have hl0 : l ≠ 0 := by omega
  have hmod : ∀ z : Int, 0 ≤ z.fmod l ∧ z.fmod l < l := fun z => by
    rw [Int.fmod_eq_emod_of_nonneg _ (by omega)]
    exact ⟨Int.emod_nonneg _ hl0, Int.emod_lt_of_pos _ hl⟩
  refine s_setix (i := 0) (j := 1) (R := tI (n + 1)) (e_add (e_ixL (e_lst_own 0 List.mem_cons_self) e_int rfl) e_int) e_int ?_ rfl rfl
  refine s_if (t_val (e_ixL (e_lst_own 0 List.mem_cons_self) e_int rfl)) (fun hk => ?_) fun hk => ?_
  · refine s_set (i := 2) (R := tI (x.fmod l)) (e_mod (e_intI (free_int c) (e_ixL (e_lst_own 0 List.mem_cons_self) e_int rfl)) (e_var 1) hl0) ?_
    refine s_setix (i := 0) (j := 0) (R := tI (x.fdiv l)) (e_fdiv (e_intI (free_int c) (e_ixL (e_lst_own 0 List.mem_cons_self) e_int rfl)) (e_var 1) hl0 (log2_lt_of_bits hz (by decide))) e_int ?_ rfl rfl
    exact s_retM (P := fun i => i = x.fmod l) (R := tI) (EJ.mi (e_var 2)) fun j v S' H' σ hj t hv => k j v S' H' σ _ (by rw [hj]; exact hmod x) (t.closeO OW.pool_close) hv
  · refine s_skip ?_
    refine s_set (i := 3) (R := tI ((x * 7919 + (n + 1) * 104729 + 13).fmod 2147483647)) (e_mod (e_intI (free_int c) (e_add (e_add (e_mul (e_ixL (e_lst_own 0 List.mem_cons_self) e_int rfl) e_int (.of_right (by decide))) (e_mul (e_ixL (e_lst_own 0 List.mem_cons_self) e_int rfl) e_int (.of_right (by decide)))) e_int)) e_int (by decide)) ?_
    refine s_retM (P := fun i => ∃ z : Int, i = z.fmod l) (R := tI) ((EJ.mi (e_mod (e_fdiv (e_intI (free_int c) (e_mod (e_pow (e_var 3) e_int ⟨by decide, by decide, ?_⟩) e_int (by decide))) e_int (by decide) (by decide)) (e_var 1) hl0)).imp fun i hi => ⟨i, ⟨_, hi⟩, rfl⟩) fun j v S' H' σ ⟨z, hj⟩ t hv => k j v S' H' σ _ (by rw [hj]; exact hmod z) (t.closeO OW.pool_close) hv
    rw [Int.fmod_eq_emod_of_nonneg _ (by decide)]
    omega
end
section
variable {P : Program} {w : World} {K : PySem.W.Frag} {mg : Str → Option Value} {base : Heap}
abbrev w_l_pool (d : Int) := OW.wPool d
abbrev w_l_take (d : Int) := OW.wTake d
theorem ok_l_pool (c : Ct P K mg) : OT.GF P w K mg base "_law_pool" 1 ["_law_cell_here"] (OW.spW K (fun d : Int => [.b (OT.tI d).b]) (fun d => w_l_pool d) (fun _ : Unit => .o OW.oPool) (fun _ => [])) :=
  let ⟨f, fd, F, r⟩ := old_pool c
  ⟨f, fd, F.imp fun _ _ _ _ h => OW.pool_sp h, r⟩
theorem ok_l_take (c : Ct P K mg) : OT.GF P w K mg base "_law_take" 1 ["_law_pool_here", "_law_limit"] (OW.spW K (fun d : Int => [.o OW.oPool, .b (OT.tI d).b]) (fun d => w_l_take d) (fun a : Int => .v (OT.tI a)) (fun _ => [OW.oPool])) :=
  let ⟨f, fd, F, r⟩ := old_take c
  ⟨f, fd, F.imp fun _ _ _ _ h => OW.take_sp h, r⟩
end

open OW
open OT hiding At BlkJ GJ GJs Om Stt TW Wp a_cons a_nil cut dcol def_ok fun_ok n_list n_lst s_if s_nil s_set s_skip t_val
section
variable {P : Program} {w : World} {K : PySem.W.Frag} {mg : Str → Option Value} {base : Heap}
theorem ok_BadNumber (c : Ct P K mg) : GE P w K mg base "BadNumber" (He.ga K "BadNumber") 1 ["self", "n"] (spE1 (He.ga K "BadNumber") "n") := by
  have z := er_BadNumber c
  obtain ⟨fd, F, W, b1, b2, b3, b4, b5, b6⟩ := z.xi
  have hsc : NdefX.NScope ["self", "n", "__class__"] ["self", "n"] ["__class__"] F.scope := by
    rw [b2]
    exact NdefX.nscope_by (by decide +kernel)
  refine ge_mk (xi_one W hsc b1 (by rw [b3]; rfl) rfl (by rw [b2]; rfl) (z.no "n" (by simp [e_BadNumber])) (by decide) (by decide) ?_ (fun _ => rfl) (fun _ => rfl) (fun _ => ⟨_, rfl⟩) (fun _ => rfl)) W.T z.ini z.fn z.mgx (XI.binds W b6 ?_)
  · intro X hN hv σ H v Q hs ho h
    exact fmt_pre (i := 1) (by rw [hN]; rfl) hv (by decide +kernel) (by decide) (by decide) hs ho h
  · intro kV doc pm an ct us hl
    rw [b3]
    exact match us, hl with | [_, _], _ => rfl
theorem ok_BadText (c : Ct P K mg) : GE P w K mg base "BadText" (He.ga K "BadText") 1 ["self", "at"] (spE1 (He.ga K "BadText") "at") := by
  have z := er_BadText c
  obtain ⟨fd, F, W, b1, b2, b3, b4, b5, b6⟩ := z.xi
  have hsc : NdefX.NScope ["self", "at", "__class__"] ["self", "at"] ["__class__"] F.scope := by
    rw [b2]
    exact NdefX.nscope_by (by decide +kernel)
  refine ge_mk (xi_one W hsc b1 (by rw [b3]; rfl) rfl (by rw [b2]; rfl) (z.no "at" (by simp [e_BadText])) (by decide) (by decide) ?_ (fun _ => rfl) (fun _ => rfl) (fun _ => ⟨_, rfl⟩) (fun _ => rfl)) W.T z.ini z.fn z.mgx (XI.binds W b6 ?_)
  · intro X hN hv σ H v Q hs ho h
    exact fmt_post (i := 1) (by rw [hN]; rfl) hv (by decide +kernel) (by decide) (by decide) hs ho h
  · intro kV doc pm an ct us hl
    rw [b3]
    exact match us, hl with | [_, _], _ => rfl
theorem ok_BadName (c : Ct P K mg) : GE P w K mg base "BadName" (He.ga K "BadName") 1 ["self", "name"] (spE1 (He.ga K "BadName") "name") := by
  have z := er_BadName c
  obtain ⟨fd, F, W, b1, b2, b3, b4, b5, b6⟩ := z.xi
  have hsc : NdefX.NScope ["self", "name", "__class__"] ["self", "name"] ["__class__"] F.scope := by
    rw [b2]
    exact NdefX.nscope_by (by decide +kernel)
  refine ge_mk (xi_one W hsc b1 (by rw [b3]; rfl) rfl (by rw [b2]; rfl) (z.no "name" (by simp [e_BadName])) (by decide) (by decide) ?_ (fun _ => rfl) (fun _ => rfl) (fun _ => ⟨_, rfl⟩) (fun _ => rfl)) W.T z.ini z.fn z.mgx (XI.binds W b6 ?_)
  · intro X hN hv σ H v Q hs ho h
    exact fmt_pre (i := 1) (by rw [hN]; rfl) hv (by decide +kernel) (by decide) (by decide) hs ho h
  · intro kV doc pm an ct us hl
    rw [b3]
    exact match us, hl with | [_, _], _ => rfl
theorem ok_DuplicateName (c : Ct P K mg) : GE P w K mg base "DuplicateName" (He.ga K "DuplicateName") 1 ["self", "name"] (spE1 (He.ga K "DuplicateName") "name") := by
  have z := er_DuplicateName c
  obtain ⟨fd, F, W, b1, b2, b3, b4, b5, b6⟩ := z.xi
  have hsc : NdefX.NScope ["self", "name", "__class__"] ["self", "name"] ["__class__"] F.scope := by
    rw [b2]
    exact NdefX.nscope_by (by decide +kernel)
  refine ge_mk (xi_one W hsc b1 (by rw [b3]; rfl) rfl (by rw [b2]; rfl) (z.no "name" (by simp [e_DuplicateName])) (by decide) (by decide) ?_ (fun _ => rfl) (fun _ => rfl) (fun _ => ⟨_, rfl⟩) (fun _ => rfl)) W.T z.ini z.fn z.mgx (XI.binds W b6 ?_)
  · intro X hN hv σ H v Q hs ho h
    exact fmt_pre (i := 1) (by rw [hN]; rfl) hv (by decide +kernel) (by decide) (by decide) hs ho h
  · intro kV doc pm an ct us hl
    rw [b3]
    exact match us, hl with | [_, _], _ => rfl
theorem ok_UnknownName (c : Ct P K mg) : GE P w K mg base "UnknownName" (He.ga K "UnknownName") 1 ["self", "name"] (spE1 (He.ga K "UnknownName") "name") := by
  have z := er_UnknownName c
  obtain ⟨fd, F, W, b1, b2, b3, b4, b5, b6⟩ := z.xi
  have hsc : NdefX.NScope ["self", "name", "__class__"] ["self", "name"] ["__class__"] F.scope := by
    rw [b2]
    exact NdefX.nscope_by (by decide +kernel)
  refine ge_mk (xi_one W hsc b1 (by rw [b3]; rfl) rfl (by rw [b2]; rfl) (z.no "name" (by simp [e_UnknownName])) (by decide) (by decide) ?_ (fun _ => rfl) (fun _ => rfl) (fun _ => ⟨_, rfl⟩) (fun _ => rfl)) W.T z.ini z.fn z.mgx (XI.binds W b6 ?_)
  · intro X hN hv σ H v Q hs ho h
    exact fmt_pre (i := 1) (by rw [hN]; rfl) hv (by decide +kernel) (by decide) (by decide) hs ho h
  · intro kV doc pm an ct us hl
    rw [b3]
    exact match us, hl with | [_, _], _ => rfl
theorem ok_Ring (c : Ct P K mg) : GE P w K mg base "Ring" (He.ga K "Ring") 3 ["self", "names"] (spEx (He.ga K "Ring") (fun d : List Str => [OT.bQ K (d.map tS)]) (fun _ => True) (fun d => [("names", tLs K tS d)])) := by
  have z := er_Ring c
  obtain ⟨fd, F, W, b1, b2, b3, b4, b5, b6⟩ := z.xi
  have hsc : NdefX.NScope ["self", "names", "__class__"] ["self", "names"] ["__class__"] F.scope := by
    rw [b2]
    exact NdefX.nscope_by (by decide +kernel)
  refine ge_mk (xi_gen (ps := ["names"]) W hsc b1 (by rw [b3]; rfl) rfl (by rw [b2]; rfl) (fun _ => rfl) ?_ (fun _ => rfl) (fun _ => rfl) (fun _ => ⟨_, rfl⟩)) W.T z.ini z.fn z.mgx (XI.binds W b6 ?_)
  · intro A outer s H0 H1 S Q E d a hr _ q
    obtain ⟨bo, pa, scp⟩ := F
    cases b2
    cases b3
    refine ⟨OT.EJ.any OT.e_str, ?_⟩
    refine OT.s_ost1 W.T (z.no "names" (by simp [e_Ring])) (OT.NJ.settleL (OT.n_list (free_list c) (OT.e_seqV 1))) (OT.e_var 0) fun x => ?_
    exact OT.s_nil (OT.NX.xmade q)
  · intro kV doc pm an ct us hl
    rw [b3]
    exact match us, hl with | [_, _], _ => rfl
theorem ok_BadShares (c : Ct P K mg) : GE P w K mg base "BadShares" (He.ga K "BadShares") 3 ["self", "total"] (spEx (He.ga K "BadShares") (fun d : Rt => [((tRat K) d).b]) (fun _ => True) (fun d => [("total", (tRat K) d)])) := by
  have z := er_BadShares c
  obtain ⟨fd, F, W, b1, b2, b3, b4, b5, b6⟩ := z.xi
  have hsc : NdefX.NScope ["self", "total", "__class__"] ["self", "total"] ["__class__"] F.scope := by
    rw [b2]
    exact NdefX.nscope_by (by decide +kernel)
  refine ge_mk (xi_gen (ps := ["total"]) W hsc b1 (by rw [b3]; rfl) rfl (by rw [b2]; rfl) (fun _ => rfl) ?_ (fun _ => rfl) (fun _ => rfl) (fun _ => ⟨_, rfl⟩)) W.T z.ini z.fn z.mgx (XI.binds W b6 ?_)
  · intro A outer s H0 H1 S Q E d a hr _ q
    obtain ⟨bo, pa, scp⟩ := F
    cases b2
    cases b3
    refine ⟨OT.EJ.any OT.e_str, ?_⟩
    refine OT.s_ost1 W.T (z.no "total" (by simp [e_BadShares])) (OT.e_var 1) (OT.e_var 0) fun x => ?_
    exact OT.s_nil (OT.NX.xmade q)
  · intro kV doc pm an ct us hl
    rw [b3]
    exact match us, hl with | [_, _], _ => rfl
theorem ok_UnlikeOrders (c : Ct P K mg) : GE P w K mg base "UnlikeOrders" (He.ga K "UnlikeOrders") 3 ["self", "first", "second"] (spEx (He.ga K "UnlikeOrders") (fun d : Ord × Ord => [(tOrd K d.1).b, (tOrd K d.2).b]) (fun _ => True) (fun d => [("second", tOrd K d.2), ("first", tOrd K d.1)])) := by
  have z := er_UnlikeOrders c
  obtain ⟨fd, F, W, b1, b2, b3, b4, b5, b6⟩ := z.xi
  have hsc : NdefX.NScope ["self", "first", "second", "__class__"] ["self", "first", "second"] ["__class__"] F.scope := by
    rw [b2]
    exact NdefX.nscope_by (by decide +kernel)
  refine ge_mk (xi_gen (ps := ["first", "second"]) W hsc b1 (by rw [b3]; rfl) rfl (by rw [b2]; rfl) (fun _ => rfl) ?_ (fun _ => rfl) (fun _ => rfl) (fun _ => ⟨_, rfl⟩)) W.T z.ini z.fn z.mgx (XI.binds W b6 ?_)
  · intro A outer s H0 H1 S Q E d a hr _ q
    obtain ⟨bo, pa, scp⟩ := F
    cases b2
    cases b3
    refine ⟨OT.EJ.any OT.e_str, ?_⟩
    refine OT.s_ost1 W.T (z.no "first" (by simp [e_UnlikeOrders])) (OT.e_var 1) (OT.e_var 0) fun x => ?_
    refine OT.s_ost2 W.T (z.no "second" (by simp [e_UnlikeOrders])) (OT.e_var 2) (OT.e_var 0) ?_
    exact OT.s_nil (OT.NX.xmade q)
  · intro kV doc pm an ct us hl
    rw [b3]
    exact match us, hl with | [_, _, _], _ => rfl
theorem ok_NotRising (c : Ct P K mg) : GE P w K mg base "NotRising" (He.ga K "NotRising") 3 ["self", "low", "high", "names"] (spEx (He.ga K "NotRising") (fun d : Str × Str × List Str => [(tS d.1).b, (tS d.2.1).b, OT.bQ K (d.2.2.map tS)]) (fun d => d.1.length ≤ 100000 ∧ d.2.1.length ≤ 100000) (fun d => [("names", tLs K tS d.2.2), ("high", tS d.2.1), ("low", tS d.1)])) := by
  have z := er_NotRising c
  obtain ⟨fd, F, W, b1, b2, b3, b4, b5, b6⟩ := z.xi
  have hsc : NdefX.NScope ["self", "low", "high", "names", "__class__"] ["self", "low", "high", "names"] ["__class__"] F.scope := by
    rw [b2]
    exact NdefX.nscope_by (by decide +kernel)
  refine ge_mk (xi_gen (ps := ["low", "high", "names"]) W hsc b1 (by rw [b3]; rfl) rfl (by rw [b2]; rfl) (fun _ => rfl) ?_ (fun _ => rfl) (fun _ => rfl) (fun _ => ⟨_, rfl⟩)) W.T z.ini z.fn z.mgx (XI.binds W b6 ?_)
  · intro A outer s H0 H1 S Q E d a hr hok q
    obtain ⟨bo, pa, scp⟩ := F
    cases b2
    cases b3
    refine ⟨ej_two (i1 := 2) (i2 := 1) (R1 := (tS d.2.1).b.at_ H1) (R2 := (tS d.1).b.at_ H1) (fun S v h => by cases (show v = .str d.2.1 from h); exact hok.2) (fun S v h => by cases (show v = .str d.1 from h); exact hok.1) rfl rfl rfl rfl (by first | exact Or.inl rfl | exact Or.inr (Or.inl rfl) | exact Or.inr (Or.inr rfl)) (by first | exact Or.inl rfl | exact Or.inr (Or.inl rfl) | exact Or.inr (Or.inr rfl)) (by decide +kernel) (by decide +kernel) (by decide) (by decide) (by decide) (by decide), ?_⟩
    refine OT.s_ost1 W.T (z.no "low" (by simp [e_NotRising])) (OT.e_var 1) (OT.e_var 0) fun x => ?_
    refine OT.s_ost2 W.T (z.no "high" (by simp [e_NotRising])) (OT.e_var 2) (OT.e_var 0) ?_
    refine OT.s_ost2 W.T (z.no "names" (by simp [e_NotRising])) (OT.NJ.settleL (OT.n_list (free_list c) (OT.e_seqV 3))) (OT.e_var 0) ?_
    exact OT.s_nil (OT.NX.xmade q)
  · intro kV doc pm an ct us hl
    rw [b3]
    exact match us, hl with | [_, _, _, _], _ => rfl
theorem ok_NoThrow (c : Ct P K mg) : GE P w K mg base "NoThrow" (He.ga K "NoThrow") 3 ["self"] (spE0 (He.ga K "NoThrow")) := by
  have z := er_NoThrow c
  obtain ⟨fd, F, W, b1, b2, b3, b4, b5, b6⟩ := z.xi
  have hsc : NdefX.NScope ["self", "__class__"] ["self"] ["__class__"] F.scope := by
    rw [b2]
    exact NdefX.nscope_by (by decide +kernel)
  refine ge_mk (xi_bare W hsc b1 (by rw [b3]; rfl) rfl (by rw [b2]; rfl) (fun _ _ _ _ => OT.EJ.any OT.e_str) (fun _ => rfl) (fun _ => rfl) (fun _ => ⟨_, rfl⟩)) W.T z.ini z.fn z.mgx (XI.binds W b6 ?_)
  intro kV doc pm an ct us hl
  rw [b3]
  exact match us, hl with | [_], _ => rfl
theorem ok_HasRing (c : Ct P K mg) : GE P w K mg base "HasRing" (He.ga K "HasRing") 3 ["self", "names"] (spEx (He.ga K "HasRing") (fun d : List Str => [OT.bQ K (d.map tS)]) (fun _ => True) (fun d => [("names", tLs K tS d)])) := by
  have z := er_HasRing c
  obtain ⟨fd, F, W, b1, b2, b3, b4, b5, b6⟩ := z.xi
  have hsc : NdefX.NScope ["self", "names", "__class__"] ["self", "names"] ["__class__"] F.scope := by
    rw [b2]
    exact NdefX.nscope_by (by decide +kernel)
  refine ge_mk (xi_gen (ps := ["names"]) W hsc b1 (by rw [b3]; rfl) rfl (by rw [b2]; rfl) (fun _ => rfl) ?_ (fun _ => rfl) (fun _ => rfl) (fun _ => ⟨_, rfl⟩)) W.T z.ini z.fn z.mgx (XI.binds W b6 ?_)
  · intro A outer s H0 H1 S Q E d a hr _ q
    obtain ⟨bo, pa, scp⟩ := F
    cases b2
    cases b3
    refine ⟨OT.EJ.any OT.e_str, ?_⟩
    refine OT.s_ost1 W.T (z.no "names" (by simp [e_HasRing])) (OT.NJ.settleL (OT.n_list (free_list c) (OT.e_seqV 1))) (OT.e_var 0) fun x => ?_
    exact OT.s_nil (OT.NX.xmade q)
  · intro kV doc pm an ct us hl
    rw [b3]
    exact match us, hl with | [_, _], _ => rfl
theorem ok_NoRing (c : Ct P K mg) : GE P w K mg base "NoRing" (He.ga K "NoRing") 3 ["self"] (spE0 (He.ga K "NoRing")) := by
  have z := er_NoRing c
  obtain ⟨fd, F, W, b1, b2, b3, b4, b5, b6⟩ := z.xi
  have hsc : NdefX.NScope ["self", "__class__"] ["self"] ["__class__"] F.scope := by
    rw [b2]
    exact NdefX.nscope_by (by decide +kernel)
  refine ge_mk (xi_bare W hsc b1 (by rw [b3]; rfl) rfl (by rw [b2]; rfl) (fun _ _ _ _ => OT.EJ.any OT.e_str) (fun _ => rfl) (fun _ => rfl) (fun _ => ⟨_, rfl⟩)) W.T z.ini z.fn z.mgx (XI.binds W b6 ?_)
  intro kV doc pm an ct us hl
  rw [b3]
  exact match us, hl with | [_], _ => rfl
theorem ok_NothingToUndo (c : Ct P K mg) : GE P w K mg base "NothingToUndo" (He.ga K "NothingToUndo") 3 ["self"] (spE0 (He.ga K "NothingToUndo")) := by
  have z := er_NothingToUndo c
  obtain ⟨fd, F, W, b1, b2, b3, b4, b5, b6⟩ := z.xi
  have hsc : NdefX.NScope ["self", "__class__"] ["self"] ["__class__"] F.scope := by
    rw [b2]
    exact NdefX.nscope_by (by decide +kernel)
  refine ge_mk (xi_bare W hsc b1 (by rw [b3]; rfl) rfl (by rw [b2]; rfl) (fun _ _ _ _ => OT.EJ.any OT.e_str) (fun _ => rfl) (fun _ => rfl) (fun _ => ⟨_, rfl⟩)) W.T z.ini z.fn z.mgx (XI.binds W b6 ?_)
  intro kV doc pm an ct us hl
  rw [b3]
  exact match us, hl with | [_], _ => rfl
theorem xis (c : Ct P K mg) : ∀ x : Er, XisC K (He.ga K (x.info K).1)
  | .badNumber _ => ⟨(er_BadNumber c).xf, cc_BadNumber c, (ins_Order c).hn, (ins_Order c).htk, mo_BadNumber c⟩
  | .badNumberR _ => ⟨(er_BadNumber c).xf, cc_BadNumber c, (ins_Order c).hn, (ins_Order c).htk, mo_BadNumber c⟩
  | .badText _ => ⟨(er_BadText c).xf, cc_BadText c, (ins_Order c).hn, (ins_Order c).htk, mo_BadText c⟩
  | .badName _ => ⟨(er_BadName c).xf, cc_BadName c, (ins_Order c).hn, (ins_Order c).htk, mo_BadName c⟩
  | .dup _ => ⟨(er_DuplicateName c).xf, cc_DuplicateName c, (ins_Order c).hn, (ins_Order c).htk, mo_DuplicateName c⟩
  | .unknown _ => ⟨(er_UnknownName c).xf, cc_UnknownName c, (ins_Order c).hn, (ins_Order c).htk, mo_UnknownName c⟩
  | .ring _ => ⟨(er_Ring c).xf, cc_Ring c, (ins_Order c).hn, (ins_Order c).htk, mo_Ring c⟩
  | .badShares _ => ⟨(er_BadShares c).xf, cc_BadShares c, (ins_Order c).hn, (ins_Order c).htk, mo_BadShares c⟩
  | .unlike _ _ => ⟨(er_UnlikeOrders c).xf, cc_UnlikeOrders c, (ins_Order c).hn, (ins_Order c).htk, mo_UnlikeOrders c⟩
  | .notRising _ _ _ => ⟨(er_NotRising c).xf, cc_NotRising c, (ins_Order c).hn, (ins_Order c).htk, mo_NotRising c⟩
  | .noThrow => ⟨(er_NoThrow c).xf, cc_NoThrow c, (ins_Order c).hn, (ins_Order c).htk, mo_NoThrow c⟩
  | .hasRing _ => ⟨(er_HasRing c).xf, cc_HasRing c, (ins_Order c).hn, (ins_Order c).htk, mo_HasRing c⟩
  | .noRing => ⟨(er_NoRing c).xf, cc_NoRing c, (ins_Order c).hn, (ins_Order c).htk, mo_NoRing c⟩
  | .nothing => ⟨(er_NothingToUndo c).xf, cc_NothingToUndo c, (ins_Order c).hn, (ins_Order c).htk, mo_NothingToUndo c⟩
def is_NothingToUndo : Er → Bool
  | .nothing => true
  | _ => false
theorem kx_NothingToUndo (c : Ct P K mg) : ∀ x : Er, PySem.W.kitOne K (.ref (He.ga K (x.info K).1)) (.ref (He.ga K "NothingToUndo")) = some (is_NothingToUndo x)
  | .badNumber _ => kit_exm (exm_BadNumber_NothingToUndo c) (ga_ne (exm_BadNumber_BadNumber c) (exm_BadNumber_NothingToUndo c))
  | .badNumberR _ => kit_exm (exm_BadNumber_NothingToUndo c) (ga_ne (exm_BadNumber_BadNumber c) (exm_BadNumber_NothingToUndo c))
  | .badText _ => kit_exm (exm_BadText_NothingToUndo c) (ga_ne (exm_BadText_BadText c) (exm_BadText_NothingToUndo c))
  | .badName _ => kit_exm (exm_BadName_NothingToUndo c) (ga_ne (exm_BadName_BadName c) (exm_BadName_NothingToUndo c))
  | .dup _ => kit_exm (exm_DuplicateName_NothingToUndo c) (ga_ne (exm_DuplicateName_DuplicateName c) (exm_DuplicateName_NothingToUndo c))
  | .unknown _ => kit_exm (exm_UnknownName_NothingToUndo c) (ga_ne (exm_UnknownName_UnknownName c) (exm_UnknownName_NothingToUndo c))
  | .ring _ => kit_exm (exm_Ring_NothingToUndo c) (ga_ne (exm_Ring_Ring c) (exm_Ring_NothingToUndo c))
  | .badShares _ => kit_exm (exm_BadShares_NothingToUndo c) (ga_ne (exm_BadShares_BadShares c) (exm_BadShares_NothingToUndo c))
  | .unlike _ _ => kit_exm (exm_UnlikeOrders_NothingToUndo c) (ga_ne (exm_UnlikeOrders_UnlikeOrders c) (exm_UnlikeOrders_NothingToUndo c))
  | .notRising _ _ _ => kit_exm (exm_NotRising_NothingToUndo c) (ga_ne (exm_NotRising_NotRising c) (exm_NotRising_NothingToUndo c))
  | .noThrow => kit_exm (exm_NoThrow_NothingToUndo c) (ga_ne (exm_NoThrow_NoThrow c) (exm_NoThrow_NothingToUndo c))
  | .hasRing _ => kit_exm (exm_HasRing_NothingToUndo c) (ga_ne (exm_HasRing_HasRing c) (exm_HasRing_NothingToUndo c))
  | .noRing => kit_exm (exm_NoRing_NothingToUndo c) (ga_ne (exm_NoRing_NoRing c) (exm_NoRing_NothingToUndo c))
  | .nothing => kit_self
def is_NoRing : Er → Bool
  | .noRing => true
  | _ => false
theorem kx_NoRing (c : Ct P K mg) : ∀ x : Er, PySem.W.kitOne K (.ref (He.ga K (x.info K).1)) (.ref (He.ga K "NoRing")) = some (is_NoRing x)
  | .badNumber _ => kit_exm (exm_BadNumber_NoRing c) (ga_ne (exm_BadNumber_BadNumber c) (exm_BadNumber_NoRing c))
  | .badNumberR _ => kit_exm (exm_BadNumber_NoRing c) (ga_ne (exm_BadNumber_BadNumber c) (exm_BadNumber_NoRing c))
  | .badText _ => kit_exm (exm_BadText_NoRing c) (ga_ne (exm_BadText_BadText c) (exm_BadText_NoRing c))
  | .badName _ => kit_exm (exm_BadName_NoRing c) (ga_ne (exm_BadName_BadName c) (exm_BadName_NoRing c))
  | .dup _ => kit_exm (exm_DuplicateName_NoRing c) (ga_ne (exm_DuplicateName_DuplicateName c) (exm_DuplicateName_NoRing c))
  | .unknown _ => kit_exm (exm_UnknownName_NoRing c) (ga_ne (exm_UnknownName_UnknownName c) (exm_UnknownName_NoRing c))
  | .ring _ => kit_exm (exm_Ring_NoRing c) (ga_ne (exm_Ring_Ring c) (exm_Ring_NoRing c))
  | .badShares _ => kit_exm (exm_BadShares_NoRing c) (ga_ne (exm_BadShares_BadShares c) (exm_BadShares_NoRing c))
  | .unlike _ _ => kit_exm (exm_UnlikeOrders_NoRing c) (ga_ne (exm_UnlikeOrders_UnlikeOrders c) (exm_UnlikeOrders_NoRing c))
  | .notRising _ _ _ => kit_exm (exm_NotRising_NoRing c) (ga_ne (exm_NotRising_NotRising c) (exm_NotRising_NoRing c))
  | .noThrow => kit_exm (exm_NoThrow_NoRing c) (ga_ne (exm_NoThrow_NoThrow c) (exm_NoThrow_NoRing c))
  | .hasRing _ => kit_exm (exm_HasRing_NoRing c) (ga_ne (exm_HasRing_HasRing c) (exm_HasRing_NoRing c))
  | .noRing => kit_self
  | .nothing => kit_exm (exm_NothingToUndo_NoRing c) (ga_ne (exm_NothingToUndo_NothingToUndo c) (exm_NothingToUndo_NoRing c))
def is_NoThrow : Er → Bool
  | .noThrow => true
  | _ => false
theorem kx_NoThrow (c : Ct P K mg) : ∀ x : Er, PySem.W.kitOne K (.ref (He.ga K (x.info K).1)) (.ref (He.ga K "NoThrow")) = some (is_NoThrow x)
  | .badNumber _ => kit_exm (exm_BadNumber_NoThrow c) (ga_ne (exm_BadNumber_BadNumber c) (exm_BadNumber_NoThrow c))
  | .badNumberR _ => kit_exm (exm_BadNumber_NoThrow c) (ga_ne (exm_BadNumber_BadNumber c) (exm_BadNumber_NoThrow c))
  | .badText _ => kit_exm (exm_BadText_NoThrow c) (ga_ne (exm_BadText_BadText c) (exm_BadText_NoThrow c))
  | .badName _ => kit_exm (exm_BadName_NoThrow c) (ga_ne (exm_BadName_BadName c) (exm_BadName_NoThrow c))
  | .dup _ => kit_exm (exm_DuplicateName_NoThrow c) (ga_ne (exm_DuplicateName_DuplicateName c) (exm_DuplicateName_NoThrow c))
  | .unknown _ => kit_exm (exm_UnknownName_NoThrow c) (ga_ne (exm_UnknownName_UnknownName c) (exm_UnknownName_NoThrow c))
  | .ring _ => kit_exm (exm_Ring_NoThrow c) (ga_ne (exm_Ring_Ring c) (exm_Ring_NoThrow c))
  | .badShares _ => kit_exm (exm_BadShares_NoThrow c) (ga_ne (exm_BadShares_BadShares c) (exm_BadShares_NoThrow c))
  | .unlike _ _ => kit_exm (exm_UnlikeOrders_NoThrow c) (ga_ne (exm_UnlikeOrders_UnlikeOrders c) (exm_UnlikeOrders_NoThrow c))
  | .notRising _ _ _ => kit_exm (exm_NotRising_NoThrow c) (ga_ne (exm_NotRising_NotRising c) (exm_NotRising_NoThrow c))
  | .noThrow => kit_self
  | .hasRing _ => kit_exm (exm_HasRing_NoThrow c) (ga_ne (exm_HasRing_HasRing c) (exm_HasRing_NoThrow c))
  | .noRing => kit_exm (exm_NoRing_NoThrow c) (ga_ne (exm_NoRing_NoRing c) (exm_NoRing_NoThrow c))
  | .nothing => kit_exm (exm_NothingToUndo_NoThrow c) (ga_ne (exm_NothingToUndo_NothingToUndo c) (exm_NothingToUndo_NoThrow c))
def is_BadNumber : Er → Bool
  | .badNumber _ => true
  | .badNumberR _ => true
  | _ => false
theorem kx_BadNumber (c : Ct P K mg) : ∀ x : Er, PySem.W.kitOne K (.ref (He.ga K (x.info K).1)) (.ref (He.ga K "BadNumber")) = some (is_BadNumber x)
  | .badNumber _ => kit_self
  | .badNumberR _ => kit_self
  | .badText _ => kit_exm (exm_BadText_BadNumber c) (ga_ne (exm_BadText_BadText c) (exm_BadText_BadNumber c))
  | .badName _ => kit_exm (exm_BadName_BadNumber c) (ga_ne (exm_BadName_BadName c) (exm_BadName_BadNumber c))
  | .dup _ => kit_exm (exm_DuplicateName_BadNumber c) (ga_ne (exm_DuplicateName_DuplicateName c) (exm_DuplicateName_BadNumber c))
  | .unknown _ => kit_exm (exm_UnknownName_BadNumber c) (ga_ne (exm_UnknownName_UnknownName c) (exm_UnknownName_BadNumber c))
  | .ring _ => kit_exm (exm_Ring_BadNumber c) (ga_ne (exm_Ring_Ring c) (exm_Ring_BadNumber c))
  | .badShares _ => kit_exm (exm_BadShares_BadNumber c) (ga_ne (exm_BadShares_BadShares c) (exm_BadShares_BadNumber c))
  | .unlike _ _ => kit_exm (exm_UnlikeOrders_BadNumber c) (ga_ne (exm_UnlikeOrders_UnlikeOrders c) (exm_UnlikeOrders_BadNumber c))
  | .notRising _ _ _ => kit_exm (exm_NotRising_BadNumber c) (ga_ne (exm_NotRising_NotRising c) (exm_NotRising_BadNumber c))
  | .noThrow => kit_exm (exm_NoThrow_BadNumber c) (ga_ne (exm_NoThrow_NoThrow c) (exm_NoThrow_BadNumber c))
  | .hasRing _ => kit_exm (exm_HasRing_BadNumber c) (ga_ne (exm_HasRing_HasRing c) (exm_HasRing_BadNumber c))
  | .noRing => kit_exm (exm_NoRing_BadNumber c) (ga_ne (exm_NoRing_NoRing c) (exm_NoRing_BadNumber c))
  | .nothing => kit_exm (exm_NothingToUndo_BadNumber c) (ga_ne (exm_NothingToUndo_NothingToUndo c) (exm_NothingToUndo_BadNumber c))
def is_BadText : Er → Bool
  | .badText _ => true
  | _ => false
theorem kx_BadText (c : Ct P K mg) : ∀ x : Er, PySem.W.kitOne K (.ref (He.ga K (x.info K).1)) (.ref (He.ga K "BadText")) = some (is_BadText x)
  | .badNumber _ => kit_exm (exm_BadNumber_BadText c) (ga_ne (exm_BadNumber_BadNumber c) (exm_BadNumber_BadText c))
  | .badNumberR _ => kit_exm (exm_BadNumber_BadText c) (ga_ne (exm_BadNumber_BadNumber c) (exm_BadNumber_BadText c))
  | .badText _ => kit_self
  | .badName _ => kit_exm (exm_BadName_BadText c) (ga_ne (exm_BadName_BadName c) (exm_BadName_BadText c))
  | .dup _ => kit_exm (exm_DuplicateName_BadText c) (ga_ne (exm_DuplicateName_DuplicateName c) (exm_DuplicateName_BadText c))
  | .unknown _ => kit_exm (exm_UnknownName_BadText c) (ga_ne (exm_UnknownName_UnknownName c) (exm_UnknownName_BadText c))
  | .ring _ => kit_exm (exm_Ring_BadText c) (ga_ne (exm_Ring_Ring c) (exm_Ring_BadText c))
  | .badShares _ => kit_exm (exm_BadShares_BadText c) (ga_ne (exm_BadShares_BadShares c) (exm_BadShares_BadText c))
  | .unlike _ _ => kit_exm (exm_UnlikeOrders_BadText c) (ga_ne (exm_UnlikeOrders_UnlikeOrders c) (exm_UnlikeOrders_BadText c))
  | .notRising _ _ _ => kit_exm (exm_NotRising_BadText c) (ga_ne (exm_NotRising_NotRising c) (exm_NotRising_BadText c))
  | .noThrow => kit_exm (exm_NoThrow_BadText c) (ga_ne (exm_NoThrow_NoThrow c) (exm_NoThrow_BadText c))
  | .hasRing _ => kit_exm (exm_HasRing_BadText c) (ga_ne (exm_HasRing_HasRing c) (exm_HasRing_BadText c))
  | .noRing => kit_exm (exm_NoRing_BadText c) (ga_ne (exm_NoRing_NoRing c) (exm_NoRing_BadText c))
  | .nothing => kit_exm (exm_NothingToUndo_BadText c) (ga_ne (exm_NothingToUndo_NothingToUndo c) (exm_NothingToUndo_BadText c))
def is_BadName : Er → Bool
  | .badName _ => true
  | _ => false
theorem kx_BadName (c : Ct P K mg) : ∀ x : Er, PySem.W.kitOne K (.ref (He.ga K (x.info K).1)) (.ref (He.ga K "BadName")) = some (is_BadName x)
  | .badNumber _ => kit_exm (exm_BadNumber_BadName c) (ga_ne (exm_BadNumber_BadNumber c) (exm_BadNumber_BadName c))
  | .badNumberR _ => kit_exm (exm_BadNumber_BadName c) (ga_ne (exm_BadNumber_BadNumber c) (exm_BadNumber_BadName c))
  | .badText _ => kit_exm (exm_BadText_BadName c) (ga_ne (exm_BadText_BadText c) (exm_BadText_BadName c))
  | .badName _ => kit_self
  | .dup _ => kit_exm (exm_DuplicateName_BadName c) (ga_ne (exm_DuplicateName_DuplicateName c) (exm_DuplicateName_BadName c))
  | .unknown _ => kit_exm (exm_UnknownName_BadName c) (ga_ne (exm_UnknownName_UnknownName c) (exm_UnknownName_BadName c))
  | .ring _ => kit_exm (exm_Ring_BadName c) (ga_ne (exm_Ring_Ring c) (exm_Ring_BadName c))
  | .badShares _ => kit_exm (exm_BadShares_BadName c) (ga_ne (exm_BadShares_BadShares c) (exm_BadShares_BadName c))
  | .unlike _ _ => kit_exm (exm_UnlikeOrders_BadName c) (ga_ne (exm_UnlikeOrders_UnlikeOrders c) (exm_UnlikeOrders_BadName c))
  | .notRising _ _ _ => kit_exm (exm_NotRising_BadName c) (ga_ne (exm_NotRising_NotRising c) (exm_NotRising_BadName c))
  | .noThrow => kit_exm (exm_NoThrow_BadName c) (ga_ne (exm_NoThrow_NoThrow c) (exm_NoThrow_BadName c))
  | .hasRing _ => kit_exm (exm_HasRing_BadName c) (ga_ne (exm_HasRing_HasRing c) (exm_HasRing_BadName c))
  | .noRing => kit_exm (exm_NoRing_BadName c) (ga_ne (exm_NoRing_NoRing c) (exm_NoRing_BadName c))
  | .nothing => kit_exm (exm_NothingToUndo_BadName c) (ga_ne (exm_NothingToUndo_NothingToUndo c) (exm_NothingToUndo_BadName c))
def is_DuplicateName : Er → Bool
  | .dup _ => true
  | _ => false
theorem kx_DuplicateName (c : Ct P K mg) : ∀ x : Er, PySem.W.kitOne K (.ref (He.ga K (x.info K).1)) (.ref (He.ga K "DuplicateName")) = some (is_DuplicateName x)
  | .badNumber _ => kit_exm (exm_BadNumber_DuplicateName c) (ga_ne (exm_BadNumber_BadNumber c) (exm_BadNumber_DuplicateName c))
  | .badNumberR _ => kit_exm (exm_BadNumber_DuplicateName c) (ga_ne (exm_BadNumber_BadNumber c) (exm_BadNumber_DuplicateName c))
  | .badText _ => kit_exm (exm_BadText_DuplicateName c) (ga_ne (exm_BadText_BadText c) (exm_BadText_DuplicateName c))
  | .badName _ => kit_exm (exm_BadName_DuplicateName c) (ga_ne (exm_BadName_BadName c) (exm_BadName_DuplicateName c))
  | .dup _ => kit_self
  | .unknown _ => kit_exm (exm_UnknownName_DuplicateName c) (ga_ne (exm_UnknownName_UnknownName c) (exm_UnknownName_DuplicateName c))
  | .ring _ => kit_exm (exm_Ring_DuplicateName c) (ga_ne (exm_Ring_Ring c) (exm_Ring_DuplicateName c))
  | .badShares _ => kit_exm (exm_BadShares_DuplicateName c) (ga_ne (exm_BadShares_BadShares c) (exm_BadShares_DuplicateName c))
  | .unlike _ _ => kit_exm (exm_UnlikeOrders_DuplicateName c) (ga_ne (exm_UnlikeOrders_UnlikeOrders c) (exm_UnlikeOrders_DuplicateName c))
  | .notRising _ _ _ => kit_exm (exm_NotRising_DuplicateName c) (ga_ne (exm_NotRising_NotRising c) (exm_NotRising_DuplicateName c))
  | .noThrow => kit_exm (exm_NoThrow_DuplicateName c) (ga_ne (exm_NoThrow_NoThrow c) (exm_NoThrow_DuplicateName c))
  | .hasRing _ => kit_exm (exm_HasRing_DuplicateName c) (ga_ne (exm_HasRing_HasRing c) (exm_HasRing_DuplicateName c))
  | .noRing => kit_exm (exm_NoRing_DuplicateName c) (ga_ne (exm_NoRing_NoRing c) (exm_NoRing_DuplicateName c))
  | .nothing => kit_exm (exm_NothingToUndo_DuplicateName c) (ga_ne (exm_NothingToUndo_NothingToUndo c) (exm_NothingToUndo_DuplicateName c))
def is_UnknownName : Er → Bool
  | .unknown _ => true
  | _ => false
theorem kx_UnknownName (c : Ct P K mg) : ∀ x : Er, PySem.W.kitOne K (.ref (He.ga K (x.info K).1)) (.ref (He.ga K "UnknownName")) = some (is_UnknownName x)
  | .badNumber _ => kit_exm (exm_BadNumber_UnknownName c) (ga_ne (exm_BadNumber_BadNumber c) (exm_BadNumber_UnknownName c))
  | .badNumberR _ => kit_exm (exm_BadNumber_UnknownName c) (ga_ne (exm_BadNumber_BadNumber c) (exm_BadNumber_UnknownName c))
  | .badText _ => kit_exm (exm_BadText_UnknownName c) (ga_ne (exm_BadText_BadText c) (exm_BadText_UnknownName c))
  | .badName _ => kit_exm (exm_BadName_UnknownName c) (ga_ne (exm_BadName_BadName c) (exm_BadName_UnknownName c))
  | .dup _ => kit_exm (exm_DuplicateName_UnknownName c) (ga_ne (exm_DuplicateName_DuplicateName c) (exm_DuplicateName_UnknownName c))
  | .unknown _ => kit_self
  | .ring _ => kit_exm (exm_Ring_UnknownName c) (ga_ne (exm_Ring_Ring c) (exm_Ring_UnknownName c))
  | .badShares _ => kit_exm (exm_BadShares_UnknownName c) (ga_ne (exm_BadShares_BadShares c) (exm_BadShares_UnknownName c))
  | .unlike _ _ => kit_exm (exm_UnlikeOrders_UnknownName c) (ga_ne (exm_UnlikeOrders_UnlikeOrders c) (exm_UnlikeOrders_UnknownName c))
  | .notRising _ _ _ => kit_exm (exm_NotRising_UnknownName c) (ga_ne (exm_NotRising_NotRising c) (exm_NotRising_UnknownName c))
  | .noThrow => kit_exm (exm_NoThrow_UnknownName c) (ga_ne (exm_NoThrow_NoThrow c) (exm_NoThrow_UnknownName c))
  | .hasRing _ => kit_exm (exm_HasRing_UnknownName c) (ga_ne (exm_HasRing_HasRing c) (exm_HasRing_UnknownName c))
  | .noRing => kit_exm (exm_NoRing_UnknownName c) (ga_ne (exm_NoRing_NoRing c) (exm_NoRing_UnknownName c))
  | .nothing => kit_exm (exm_NothingToUndo_UnknownName c) (ga_ne (exm_NothingToUndo_NothingToUndo c) (exm_NothingToUndo_UnknownName c))
def is_Ring : Er → Bool
  | .ring _ => true
  | _ => false
theorem kx_Ring (c : Ct P K mg) : ∀ x : Er, PySem.W.kitOne K (.ref (He.ga K (x.info K).1)) (.ref (He.ga K "Ring")) = some (is_Ring x)
  | .badNumber _ => kit_exm (exm_BadNumber_Ring c) (ga_ne (exm_BadNumber_BadNumber c) (exm_BadNumber_Ring c))
  | .badNumberR _ => kit_exm (exm_BadNumber_Ring c) (ga_ne (exm_BadNumber_BadNumber c) (exm_BadNumber_Ring c))
  | .badText _ => kit_exm (exm_BadText_Ring c) (ga_ne (exm_BadText_BadText c) (exm_BadText_Ring c))
  | .badName _ => kit_exm (exm_BadName_Ring c) (ga_ne (exm_BadName_BadName c) (exm_BadName_Ring c))
  | .dup _ => kit_exm (exm_DuplicateName_Ring c) (ga_ne (exm_DuplicateName_DuplicateName c) (exm_DuplicateName_Ring c))
  | .unknown _ => kit_exm (exm_UnknownName_Ring c) (ga_ne (exm_UnknownName_UnknownName c) (exm_UnknownName_Ring c))
  | .ring _ => kit_self
  | .badShares _ => kit_exm (exm_BadShares_Ring c) (ga_ne (exm_BadShares_BadShares c) (exm_BadShares_Ring c))
  | .unlike _ _ => kit_exm (exm_UnlikeOrders_Ring c) (ga_ne (exm_UnlikeOrders_UnlikeOrders c) (exm_UnlikeOrders_Ring c))
  | .notRising _ _ _ => kit_exm (exm_NotRising_Ring c) (ga_ne (exm_NotRising_NotRising c) (exm_NotRising_Ring c))
  | .noThrow => kit_exm (exm_NoThrow_Ring c) (ga_ne (exm_NoThrow_NoThrow c) (exm_NoThrow_Ring c))
  | .hasRing _ => kit_exm (exm_HasRing_Ring c) (ga_ne (exm_HasRing_HasRing c) (exm_HasRing_Ring c))
  | .noRing => kit_exm (exm_NoRing_Ring c) (ga_ne (exm_NoRing_NoRing c) (exm_NoRing_Ring c))
  | .nothing => kit_exm (exm_NothingToUndo_Ring c) (ga_ne (exm_NothingToUndo_NothingToUndo c) (exm_NothingToUndo_Ring c))
def is_HasRing : Er → Bool
  | .hasRing _ => true
  | _ => false
theorem kx_HasRing (c : Ct P K mg) : ∀ x : Er, PySem.W.kitOne K (.ref (He.ga K (x.info K).1)) (.ref (He.ga K "HasRing")) = some (is_HasRing x)
  | .badNumber _ => kit_exm (exm_BadNumber_HasRing c) (ga_ne (exm_BadNumber_BadNumber c) (exm_BadNumber_HasRing c))
  | .badNumberR _ => kit_exm (exm_BadNumber_HasRing c) (ga_ne (exm_BadNumber_BadNumber c) (exm_BadNumber_HasRing c))
  | .badText _ => kit_exm (exm_BadText_HasRing c) (ga_ne (exm_BadText_BadText c) (exm_BadText_HasRing c))
  | .badName _ => kit_exm (exm_BadName_HasRing c) (ga_ne (exm_BadName_BadName c) (exm_BadName_HasRing c))
  | .dup _ => kit_exm (exm_DuplicateName_HasRing c) (ga_ne (exm_DuplicateName_DuplicateName c) (exm_DuplicateName_HasRing c))
  | .unknown _ => kit_exm (exm_UnknownName_HasRing c) (ga_ne (exm_UnknownName_UnknownName c) (exm_UnknownName_HasRing c))
  | .ring _ => kit_exm (exm_Ring_HasRing c) (ga_ne (exm_Ring_Ring c) (exm_Ring_HasRing c))
  | .badShares _ => kit_exm (exm_BadShares_HasRing c) (ga_ne (exm_BadShares_BadShares c) (exm_BadShares_HasRing c))
  | .unlike _ _ => kit_exm (exm_UnlikeOrders_HasRing c) (ga_ne (exm_UnlikeOrders_UnlikeOrders c) (exm_UnlikeOrders_HasRing c))
  | .notRising _ _ _ => kit_exm (exm_NotRising_HasRing c) (ga_ne (exm_NotRising_NotRising c) (exm_NotRising_HasRing c))
  | .noThrow => kit_exm (exm_NoThrow_HasRing c) (ga_ne (exm_NoThrow_NoThrow c) (exm_NoThrow_HasRing c))
  | .hasRing _ => kit_self
  | .noRing => kit_exm (exm_NoRing_HasRing c) (ga_ne (exm_NoRing_NoRing c) (exm_NoRing_HasRing c))
  | .nothing => kit_exm (exm_NothingToUndo_HasRing c) (ga_ne (exm_NothingToUndo_NothingToUndo c) (exm_NothingToUndo_HasRing c))
def is_BadShares : Er → Bool
  | .badShares _ => true
  | _ => false
theorem kx_BadShares (c : Ct P K mg) : ∀ x : Er, PySem.W.kitOne K (.ref (He.ga K (x.info K).1)) (.ref (He.ga K "BadShares")) = some (is_BadShares x)
  | .badNumber _ => kit_exm (exm_BadNumber_BadShares c) (ga_ne (exm_BadNumber_BadNumber c) (exm_BadNumber_BadShares c))
  | .badNumberR _ => kit_exm (exm_BadNumber_BadShares c) (ga_ne (exm_BadNumber_BadNumber c) (exm_BadNumber_BadShares c))
  | .badText _ => kit_exm (exm_BadText_BadShares c) (ga_ne (exm_BadText_BadText c) (exm_BadText_BadShares c))
  | .badName _ => kit_exm (exm_BadName_BadShares c) (ga_ne (exm_BadName_BadName c) (exm_BadName_BadShares c))
  | .dup _ => kit_exm (exm_DuplicateName_BadShares c) (ga_ne (exm_DuplicateName_DuplicateName c) (exm_DuplicateName_BadShares c))
  | .unknown _ => kit_exm (exm_UnknownName_BadShares c) (ga_ne (exm_UnknownName_UnknownName c) (exm_UnknownName_BadShares c))
  | .ring _ => kit_exm (exm_Ring_BadShares c) (ga_ne (exm_Ring_Ring c) (exm_Ring_BadShares c))
  | .badShares _ => kit_self
  | .unlike _ _ => kit_exm (exm_UnlikeOrders_BadShares c) (ga_ne (exm_UnlikeOrders_UnlikeOrders c) (exm_UnlikeOrders_BadShares c))
  | .notRising _ _ _ => kit_exm (exm_NotRising_BadShares c) (ga_ne (exm_NotRising_NotRising c) (exm_NotRising_BadShares c))
  | .noThrow => kit_exm (exm_NoThrow_BadShares c) (ga_ne (exm_NoThrow_NoThrow c) (exm_NoThrow_BadShares c))
  | .hasRing _ => kit_exm (exm_HasRing_BadShares c) (ga_ne (exm_HasRing_HasRing c) (exm_HasRing_BadShares c))
  | .noRing => kit_exm (exm_NoRing_BadShares c) (ga_ne (exm_NoRing_NoRing c) (exm_NoRing_BadShares c))
  | .nothing => kit_exm (exm_NothingToUndo_BadShares c) (ga_ne (exm_NothingToUndo_NothingToUndo c) (exm_NothingToUndo_BadShares c))
def is_NotRising : Er → Bool
  | .notRising _ _ _ => true
  | _ => false
theorem kx_NotRising (c : Ct P K mg) : ∀ x : Er, PySem.W.kitOne K (.ref (He.ga K (x.info K).1)) (.ref (He.ga K "NotRising")) = some (is_NotRising x)
  | .badNumber _ => kit_exm (exm_BadNumber_NotRising c) (ga_ne (exm_BadNumber_BadNumber c) (exm_BadNumber_NotRising c))
  | .badNumberR _ => kit_exm (exm_BadNumber_NotRising c) (ga_ne (exm_BadNumber_BadNumber c) (exm_BadNumber_NotRising c))
  | .badText _ => kit_exm (exm_BadText_NotRising c) (ga_ne (exm_BadText_BadText c) (exm_BadText_NotRising c))
  | .badName _ => kit_exm (exm_BadName_NotRising c) (ga_ne (exm_BadName_BadName c) (exm_BadName_NotRising c))
  | .dup _ => kit_exm (exm_DuplicateName_NotRising c) (ga_ne (exm_DuplicateName_DuplicateName c) (exm_DuplicateName_NotRising c))
  | .unknown _ => kit_exm (exm_UnknownName_NotRising c) (ga_ne (exm_UnknownName_UnknownName c) (exm_UnknownName_NotRising c))
  | .ring _ => kit_exm (exm_Ring_NotRising c) (ga_ne (exm_Ring_Ring c) (exm_Ring_NotRising c))
  | .badShares _ => kit_exm (exm_BadShares_NotRising c) (ga_ne (exm_BadShares_BadShares c) (exm_BadShares_NotRising c))
  | .unlike _ _ => kit_exm (exm_UnlikeOrders_NotRising c) (ga_ne (exm_UnlikeOrders_UnlikeOrders c) (exm_UnlikeOrders_NotRising c))
  | .notRising _ _ _ => kit_self
  | .noThrow => kit_exm (exm_NoThrow_NotRising c) (ga_ne (exm_NoThrow_NoThrow c) (exm_NoThrow_NotRising c))
  | .hasRing _ => kit_exm (exm_HasRing_NotRising c) (ga_ne (exm_HasRing_HasRing c) (exm_HasRing_NotRising c))
  | .noRing => kit_exm (exm_NoRing_NotRising c) (ga_ne (exm_NoRing_NoRing c) (exm_NoRing_NotRising c))
  | .nothing => kit_exm (exm_NothingToUndo_NotRising c) (ga_ne (exm_NothingToUndo_NothingToUndo c) (exm_NothingToUndo_NotRising c))
def is_UnlikeOrders : Er → Bool
  | .unlike _ _ => true
  | _ => false
theorem kx_UnlikeOrders (c : Ct P K mg) : ∀ x : Er, PySem.W.kitOne K (.ref (He.ga K (x.info K).1)) (.ref (He.ga K "UnlikeOrders")) = some (is_UnlikeOrders x)
  | .badNumber _ => kit_exm (exm_BadNumber_UnlikeOrders c) (ga_ne (exm_BadNumber_BadNumber c) (exm_BadNumber_UnlikeOrders c))
  | .badNumberR _ => kit_exm (exm_BadNumber_UnlikeOrders c) (ga_ne (exm_BadNumber_BadNumber c) (exm_BadNumber_UnlikeOrders c))
  | .badText _ => kit_exm (exm_BadText_UnlikeOrders c) (ga_ne (exm_BadText_BadText c) (exm_BadText_UnlikeOrders c))
  | .badName _ => kit_exm (exm_BadName_UnlikeOrders c) (ga_ne (exm_BadName_BadName c) (exm_BadName_UnlikeOrders c))
  | .dup _ => kit_exm (exm_DuplicateName_UnlikeOrders c) (ga_ne (exm_DuplicateName_DuplicateName c) (exm_DuplicateName_UnlikeOrders c))
  | .unknown _ => kit_exm (exm_UnknownName_UnlikeOrders c) (ga_ne (exm_UnknownName_UnknownName c) (exm_UnknownName_UnlikeOrders c))
  | .ring _ => kit_exm (exm_Ring_UnlikeOrders c) (ga_ne (exm_Ring_Ring c) (exm_Ring_UnlikeOrders c))
  | .badShares _ => kit_exm (exm_BadShares_UnlikeOrders c) (ga_ne (exm_BadShares_BadShares c) (exm_BadShares_UnlikeOrders c))
  | .unlike _ _ => kit_self
  | .notRising _ _ _ => kit_exm (exm_NotRising_UnlikeOrders c) (ga_ne (exm_NotRising_NotRising c) (exm_NotRising_UnlikeOrders c))
  | .noThrow => kit_exm (exm_NoThrow_UnlikeOrders c) (ga_ne (exm_NoThrow_NoThrow c) (exm_NoThrow_UnlikeOrders c))
  | .hasRing _ => kit_exm (exm_HasRing_UnlikeOrders c) (ga_ne (exm_HasRing_HasRing c) (exm_HasRing_UnlikeOrders c))
  | .noRing => kit_exm (exm_NoRing_UnlikeOrders c) (ga_ne (exm_NoRing_NoRing c) (exm_NoRing_UnlikeOrders c))
  | .nothing => kit_exm (exm_NothingToUndo_UnlikeOrders c) (ga_ne (exm_NothingToUndo_NothingToUndo c) (exm_NothingToUndo_UnlikeOrders c))
theorem kx_ThrowError (c : Ct P K mg) : ∀ x : Er, PySem.W.kitOne K (.ref (He.ga K (x.info K).1)) (.ref (He.ga K "ThrowError")) = some true
  | .badNumber _ => kit_exmT (exm_BadNumber_ThrowError c)
  | .badNumberR _ => kit_exmT (exm_BadNumber_ThrowError c)
  | .badText _ => kit_exmT (exm_BadText_ThrowError c)
  | .badName _ => kit_exmT (exm_BadName_ThrowError c)
  | .dup _ => kit_exmT (exm_DuplicateName_ThrowError c)
  | .unknown _ => kit_exmT (exm_UnknownName_ThrowError c)
  | .ring _ => kit_exmT (exm_Ring_ThrowError c)
  | .badShares _ => kit_exmT (exm_BadShares_ThrowError c)
  | .unlike _ _ => kit_exmT (exm_UnlikeOrders_ThrowError c)
  | .notRising _ _ _ => kit_exmT (exm_NotRising_ThrowError c)
  | .noThrow => kit_exmT (exm_NoThrow_ThrowError c)
  | .hasRing _ => kit_exmT (exm_HasRing_ThrowError c)
  | .noRing => kit_exmT (exm_NoRing_ThrowError c)
  | .nothing => kit_exmT (exm_NothingToUndo_ThrowError c)
theorem kx_ValueError (c : Ct P K mg) : ∀ x : Er, PySem.W.kitOne K (.ref (He.ga K (x.info K).1)) (.type "ValueError") = some true
  | .badNumber _ => kv_BadNumber c
  | .badNumberR _ => kv_BadNumber c
  | .badText _ => kv_BadText c
  | .badName _ => kv_BadName c
  | .dup _ => kv_DuplicateName c
  | .unknown _ => kv_UnknownName c
  | .ring _ => kv_Ring c
  | .badShares _ => kv_BadShares c
  | .unlike _ _ => kv_UnlikeOrders c
  | .notRising _ _ _ => kv_NotRising c
  | .noThrow => kv_NoThrow c
  | .hasRing _ => kv_HasRing c
  | .noRing => kv_NoRing c
  | .nothing => kv_NothingToUndo c
def w_common (a0 : Int) (b0 : Int) (Q : Int → Prop) (E : Er → Prop) : Prop :=
  W.run (W.ret ((a0.natAbs : Int), (b0.natAbs : Int))) E fun t =>
  W.whil E (fun st : Int × Int => W.ret (!decide (st.2 = (0 : Int)))) (fun st kn =>
    W.run (W.bind (W.grd (st.2 ≠ 0) ((st.1).fmod st.2)) fun z => W.ret (st.2, z)) E fun t_1 =>
  kn (t_1.1, t_1.2))
    (fun st => W.run (W.ret st.1) E Q) (t.1, t.2)
theorem ok_common (c : Ct P K mg) : GF P w K mg base "common" 1 ["a", "b"] (spW K (fun d : Int × Int => [.b (tI d.1).b, .b (tI d.2).b]) (fun d => w_common d.1 d.2) (fun r : Int => .v (tI r)) (fun _ => [])) := by
  refine gf_mkA (fd_common c) (fun _ F => bd_common F) (glo_common c) fun fd F => def_ok F sc_common (fun d vs L => [some (tI d.1), some (tI d.2), none, none]) (fun _ _ => []) (fun _ _ _ => []) ?_ (by intro _; rfl) (fun d vs L hv => match vs, hv with | [_, _], _ => rfl) (fun d vs hv => match vs, hv with | [_, _], _ => rfl) (fun d vs r hv => match vs, hv with | [_, _], _ => rfl)
  rintro cdv A outer s' H0 L S Q0 E0' ⟨a0, b0⟩ vs Q E hv nd hr fin hdQ
  have tk := (hdQ [] _ (List.Sublist.refl _)).tk
  have hd : ∀ Γ O, Hd _ _ Γ O E _ := fun Γ O => hdQ Γ O (List.nil_sublist _)
  have po : PassesOwn (model P w) _ _ _ := @own_cx P w K mg base "common" (defScope s_common) (He.ga K "common") ["a", "b", "first", "second"] cdv A outer s' H0 E0'
  show SW _ _ _ _ _ _ (w_common a0 b0 Q E)
  unfold w_common
  refine s_par (w' := fun _ _ => True) (i := 2) (j := 3) (f := tI) (g := tI) (w_abs (free_abs c) (w_var 0 (f := tI) (v := a0))) (w_abs (free_abs c) (w_var 1 (f := tI) (v := b0))) fun t => ?_
  refine s_while (fun st : Int × Int => [some (tI a0), some (tI b0), some (tI st.1), some (tI st.2)]) (fun st : Int × Int => []) (t.1, t.2) (fun st => (t_neI (w_var 3 (f := tI) (v := st.2)) (w_int (i := 0)))) (fun st kn => ?_) (fun st => ?_) po (gl := by exact ⟨rfl, rfl, rfl, rfl, trivial⟩)
  · refine s_par (w' := fun _ _ => True) (i := 2) (j := 3) (f := tI) (g := tI) (w_var 3 (f := tI) (v := st.2)) (w_mod (w_var 2 (f := tI) (v := st.1)) (w_var 3 (f := tI) (v := st.2))) fun t_1 => ?_
    exact s_nil (k := _) (t_1.1, t_1.2) (g := by exact ⟨rfl, rfl, rfl, rfl, trivial⟩)
  · exact f_ret (f := tI) fin (w_var 2 (f := tI) (v := st.1))
def w_Ratio_init (top : Int) (bottom : Int) (Q : Rt → Prop) (E : Er → Prop) : Prop :=
  W.run (W.ret (decide (bottom = (0 : Int)))) E fun b => W.ite b
    (W.run (W.ret (0 : Int)) E fun z => fmtOk (V.int z) ∧ E (.badNumber z))
    (W.run (w_common top bottom) E fun divisor =>
  W.jn (fun st : Int => W.run (W.grd (DivOk st) ((top).fdiv st)) E fun top_1 =>
  W.run (W.grd (DivOk st) ((bottom).fdiv st)) E fun bottom_1 =>
  Q (OW.Rt.mk top_1 bottom_1)) fun kj => W.run (W.ret (decide (bottom < (0 : Int)))) E fun b => W.ite b (W.lt (-divisor) fun divisor_1 : Int =>
  kj divisor_1) (kj divisor))
theorem ok_Ratio_init (c : Ct P K mg) : GC P w K mg base "Ratio" (He.ga K "Ratio") 3 ["self", "top", "bottom"] (spW K (fun d : Int × Int => [.o (oI (He.ga K "Ratio") []), .b (tI d.1).b, .b (tI d.2).b]) (fun d => w_Ratio_init d.1 d.2) (fun _ : Rt => .v tN) (fun r => [(fun r : Rt => oI (He.ga K "Ratio") [("top", MP.o (tI r.top)), ("bottom", MP.o (tI r.bottom))]) r])) := by
  refine gc_mk (fd_Ratio_init c) (fun _ F => bd_Ratio_init F) (mkr_Ratio c) (glo_Ratio c) fun fd F => def_ok F sc_Ratio_init (fun d vs L => [some (tV (vs.headD .non)), some (tI d.1), some (tI d.2), none]) (fun _ vs => [((vs.headD .non), oI (He.ga K "Ratio") [])]) (fun _ vs r => [((vs.headD .non), (fun r : Rt => oI (He.ga K "Ratio") [("top", MP.o (tI r.top)), ("bottom", MP.o (tI r.bottom))]) r)]) ?_ (by intro _; rfl) (fun d vs L hv => match vs, hv with | [_, _, _], _ => rfl) (fun d vs hv => match vs, hv with | [_, _, _], _ => rfl) (fun d vs r hv => match vs, hv with | [_, _, _], _ => rfl)
  rintro cdv A outer s' H0 L S Q0 E0' ⟨top, bottom⟩ vs Q E hv nd hr fin hdQ
  have tk := (hdQ [] _ (List.Sublist.refl _)).tk
  have hd := hdQ
  have po : PassesOwn (model P w) _ _ _ := @own_cx P w K mg base "Ratio.__init__" (defScope s_Ratio_init) (He.ma K (He.ga K "Ratio") "__init__") ["self", "top", "bottom", "divisor"] cdv A outer s' H0 E0'
  show SW _ _ _ _ _ _ (w_Ratio_init top bottom Q E)
  unfold w_Ratio_init
  refine s_if (t_eqI (w_var 2 (f := tI) (v := bottom)) (w_int (i := 0))) ?_ ?_
  · exact s_raise1 (fun z => Er.badNumber z) (ok_BadNumber c) (hr.mono (by decide)) (hd _ _ (by walk_at "osub")) (w_int (i := 0)) pl_I
  · refine s_skip ?_
    refine s_set (i := 3) (f := tI) (w_fn (f := tI) (ok_common c) (hr.mono (by decide)) (hd _ _ (by walk_at "osub")) (fun t => (t.1, t.2.1)) (a_cons (w_var 1 (f := tI) (v := top)) (a_cons (w_var 2 (f := tI) (v := bottom)) a_nil)) (fun _ => ⟨rfl, rfl, trivial⟩)) fun divisor => ?_
    refine s_ifK (fun st : Int => [some (tV (vs.headD .non)), some (tI top), some (tI bottom), some (tI st)]) (fun st : Int => [((vs.headD .non), oI (He.ga K "Ratio") [])]) (t_lt (w_var 2 (f := tI) (v := bottom)) (w_int (i := 0))) (fun kj => ?_) (fun kj => ?_) (fun st => ?_)
    · refine s_setV (Z := E) (i := 3) (f := tI) (v := (-divisor)) (w_neg (w_var 3 (f := tI) (v := divisor))) fun divisor_1 hq_divisor_1 => ?_
      exact s_nil (k := _) divisor_1 (g := by exact ⟨rfl, rfl, rfl, rfl, trivial⟩)
    · exact s_nil (k := _) divisor (g := by exact ⟨rfl, rfl, rfl, rfl, trivial⟩)
    · refine s_fld (i := 0) (F := (fun y => MP.o (tI y))) (cls_Ratio c) (noat_Ratio_top c) (EW.n (w_fdiv (w_var 1 (f := tI) (v := top)) (w_var 3 (f := tI) (v := st)))) fun top_1 => ?_
      refine s_fld (i := 0) (F := (fun y => MP.o (tI y))) (cls_Ratio c) (noat_Ratio_bottom c) (EW.n (w_fdiv (w_var 2 (f := tI) (v := bottom)) (w_var 3 (f := tI) (v := st)))) fun bottom_1 => ?_
      exact f_init (r := OW.Rt.mk top_1 bottom_1) fin
def w_Ratio_eq (self : Rt) (other : Rt) (Q : Bool → Prop) (E : Er → Prop) : Prop :=
  W.run (W.ret (true && ((decide (self.top = other.top)) && (decide (self.bottom = other.bottom))))) E Q
theorem ok_Ratio_eq (c : Ct P K mg) : GM P w K mg base (He.ga K "Ratio") "__eq__" 1 ["self", "other"] (spW K (fun d : Rt × Rt => [.b ((tRat K) d.1).b, .b ((tRat K) d.2).b]) (fun d => w_Ratio_eq d.1 d.2) (fun r : Bool => .v (OT.tB r)) (fun _ => [])) := by
  refine gm_mk (fd_Ratio_eq c) (fun _ F => bd_Ratio_eq F) (meth_Ratio_eq c) fun fd F => def_ok F sc_Ratio_eq (fun d vs L => [some ((tRat K) d.1), some ((tRat K) d.2)]) (fun _ _ => []) (fun _ _ _ => []) ?_ (by intro _; rfl) (fun d vs L hv => match vs, hv with | [_, _], _ => rfl) (fun d vs hv => match vs, hv with | [_, _], _ => rfl) (fun d vs r hv => match vs, hv with | [_, _], _ => rfl)
  rintro cdv A outer s' H0 L S Q0 E0' ⟨self, other⟩ vs Q E hv nd hr fin hdQ
  have tk := (hdQ [] _ (List.Sublist.refl _)).tk
  have hd : ∀ Γ O, Hd _ _ Γ O E _ := fun Γ O => hdQ Γ O (List.nil_sublist _)
  have po : PassesOwn (model P w) _ _ _ := @own_cx P w K mg base "Ratio.__eq__" (defScope s_Ratio_eq) (He.ma K (He.ga K "Ratio") "__eq__") ["self", "other"] cdv A outer s' H0 E0'
  show SW _ _ _ _ _ _ (w_Ratio_eq self other Q E)
  unfold w_Ratio_eq
  exact f_ret (f := OT.tB) fin (w_andP (EW.at (W.ret true) (w_isi (free_isinstance c) (EW.rb (w_var 1 (f := (tRat K)) (v := other))) (w_cls (glo_Ratio c)) (.own _) (fun _ => (ins_Ratio c).ty) (kit_Ratio c))) (w_andP (EW.at (W.ret (decide (self.top = other.top))) (w_eqI (w_fld (F := fun z : Rt => [("top", tI z.top), ("bottom", tI z.bottom)]) (g := tI) (fun z : Rt => z.top) (cls_Ratio c) (noat_Ratio_top c) (w_var 0 (f := (tRat K)) (v := self))) (w_fld (F := fun z : Rt => [("top", tI z.top), ("bottom", tI z.bottom)]) (g := tI) (fun z : Rt => z.top) (cls_Ratio c) (noat_Ratio_top c) (w_var 1 (f := (tRat K)) (v := other))))) (w_one (EW.at (W.ret (decide (self.bottom = other.bottom))) (w_eqI (w_fld (F := fun z : Rt => [("top", tI z.top), ("bottom", tI z.bottom)]) (g := tI) (fun z : Rt => z.bottom) (cls_Ratio c) (noat_Ratio_bottom c) (w_var 0 (f := (tRat K)) (v := self))) (w_fld (F := fun z : Rt => [("top", tI z.top), ("bottom", tI z.bottom)]) (g := tI) (fun z : Rt => z.bottom) (cls_Ratio c) (noat_Ratio_bottom c) (w_var 1 (f := (tRat K)) (v := other))))))))
def w_is_name (text : Str) (Q : Bool → Prop) (E : Er → Prop) : Prop :=
  W.run (W.sel (decide (text = ("" : Str))) (W.ret true) (W.bind (W.bind (W.grd (text.length ≤ 100000) (text.length : Int)) fun z => W.ret (decide (8 < z))) fun z_2 => W.sel z_2 (W.ret true) (W.bind (W.getS text (0 : Int)) fun z_1 => W.grd (z_1.length = 1) (!sgin z_1 ("abcdefghijklmnopqrstuvwxyz" : Str))))) E fun b => W.ite b
    (W.run (W.ret false) E Q)
    (W.run (W.bind (W.compG (fun _ : Str => W.ret true) (fun sign : Str => W.grd (sign.length = 1) (sgin sign ("abcdefghijklmnopqrstuvwxyz0123456789" : Str))) (sgs text)) fun z_3 => W.ret (z_3.all id)) E Q)
theorem ok_is_name (c : Ct P K mg) : GF P w K mg base "is_name" 1 ["text"] (spW K (fun d : Str => [.b (tS d).b]) (fun d => w_is_name d) (fun r : Bool => .v (OT.tB r)) (fun _ => [])) := by
  refine gf_mkA (fd_is_name c) (fun _ F => bd_is_name F) (glo_is_name c) fun fd F => def_ok F sc_is_name (fun d vs L => [some (tS d), none]) (fun _ _ => []) (fun _ _ _ => []) ?_ (by intro _; rfl) (fun d vs L hv => match vs, hv with | [_], _ => rfl) (fun d vs hv => match vs, hv with | [_], _ => rfl) (fun d vs r hv => match vs, hv with | [_], _ => rfl)
  rintro cdv A outer s' H0 L S Q0 E0' text vs Q E hv nd hr fin hdQ
  have tk := (hdQ [] _ (List.Sublist.refl _)).tk
  have hd : ∀ Γ O, Hd _ _ Γ O E _ := fun Γ O => hdQ Γ O (List.nil_sublist _)
  have po : PassesOwn (model P w) _ _ _ := @own_cx P w K mg base "is_name" (defScope s_is_name) (He.ga K "is_name") ["text", "sign"] cdv A outer s' H0 E0'
  show SW _ _ _ _ _ _ (w_is_name text Q E)
  unfold w_is_name
  refine s_if (TC.t (tc_or (TW.at (W.ret (decide (text = ("" : Str)))) (t_eqS (w_var 0 (f := tS) (v := text)) (w_str (i := ("" : Str))))) (tc_or (t_gt (w_lenS (free_len c) (w_var 0 (f := tS) (v := text))) (w_globI (int_MOST_LETTERS c))) (tc_or1 (t_ninSign (w_ixS (w_var 0 (f := tS) (v := text)) (w_int (i := 0))) (w_globS (str_LETTERS c))))))) ?_ ?_
  · exact f_ret (f := OT.tB) fin (w_bl (i := false))
  · refine s_skip ?_
    exact f_ret (f := OT.tB) fin (w_all (free_all c) (RW.rn (EW.rl (NW.settle (g := (tLs K OT.tB)) (n_comp [("sign", 1)] (F := (fun y => MP.o (OT.tB y))) (f := tS) [some (tS text), none] (i_str (w_var 0 (f := tS) (v := text))) (fun sign => [some (tS text), some (tS sign)]) [1] (fun G m sign s2 H2 C2 cl2 fp2 => ⟨(g_name (j := 1)), if_none, (EW.n (w_inSign (w_var 1 (f := tS) (v := sign)) (w_globS (str_SIGNS c))))⟩) hk_id (gl := by exact ⟨rfl, trivial⟩)) fun _ => stl_Ls))))
def w_check_names (names : (List Str)) (Q : Unit → Prop) (E : Er → Prop) : Prop :=
  W.run (W.ret (!(decide ((1 : Int) ≤ (names.length : Int)) && decide ((names.length : Int) ≤ 8)))) E fun b => W.ite b
    (W.run (W.ret (names.length : Int)) E fun z => fmtOk (V.int z) ∧ E (.badNumber z))
    (W.run (W.ret (enm 0 names)) E fun xs => W.loop (fun q (st : Unit) kn =>
    W.run (W.bind (w_is_name q.2) fun z_1 => W.ret (!z_1)) E fun b => W.ite b
    (W.run (W.ret q.2) E fun z_2 => fmtOk (V.str z_2) ∧ E (.badName z_2))
    (W.run (W.ret (decide (q.2 ∈ (OT.cut names none (some q.1))))) E fun b => W.ite b
    (W.run (W.ret q.2) E fun z_3 => fmtOk (V.str z_3) ∧ E (.dup z_3))
    (kn ())))
    (fun st : Unit => Q ()) xs ())
theorem ok_check_names (c : Ct P K mg) : GF P w K mg base "check_names" 3 ["names"] (spW K (fun d : (List Str) => [.b (rQ K tS d)]) (fun d => w_check_names d) (fun r : Unit => .v (tU r)) (fun _ => [])) := by
  refine gf_mkA (fd_check_names c) (fun _ F => bd_check_names F) (glo_check_names c) fun fd F => def_ok F sc_check_names (fun d vs L => [some ((rQ K tS d).at_ L), none, none]) (fun _ _ => []) (fun _ _ _ => []) ?_ (by intro _; rfl) (fun d vs L hv => match vs, hv with | [_], _ => rfl) (fun d vs hv => match vs, hv with | [_], _ => rfl) (fun d vs r hv => match vs, hv with | [_], _ => rfl)
  rintro cdv A outer s' H0 L S Q0 E0' names vs Q E hv nd hr fin hdQ
  have tk := (hdQ [] _ (List.Sublist.refl _)).tk
  have hd : ∀ Γ O, Hd _ _ Γ O E _ := fun Γ O => hdQ Γ O (List.nil_sublist _)
  have po : PassesOwn (model P w) _ _ _ := @own_cx P w K mg base "check_names" (defScope s_check_names) (He.ga K "check_names") ["names", "at", "name"] cdv A outer s' H0 E0'
  show SW _ _ _ _ _ _ (w_check_names names Q E)
  unfold w_check_names
  refine s_if (t_not (t_chain (w_int (i := 1)) (w_len (free_len c) (f := tS) (RW.rn (r_lent 0 (f := rQ K tS) (v := names)))) (w_globI (int_MOST_NAMES c)))) ?_ ?_
  · exact s_raise1 (fun z => Er.badNumber z) (ok_BadNumber c) (hr.mono (by decide)) (hd _ _) (w_len (free_len c) (f := tS) (RW.rn (r_lent 0 (f := rQ K tS) (v := names)))) pl_I
  · refine s_skip ?_
    refine s_for (f := (tP2 K tI tS)) (fun st : Unit => [some ((rQ K tS names).at_ L), none, none]) (fun st : Unit => []) () (i_en1 (free_enumerate c) (f := tS) (q_lent 0 (f := tS) (xs := names))) (fun q (st : Unit) => [some ((rQ K tS names).at_ L), some (tI q.1), some (tS q.2)]) [1, 2] (fun G q st => (g_tup (gs_cons (g_name (j := 1)) (gs_cons (g_name (j := 2)) gs_nil)))) (fun G q st kn => ?_) (fun st => ?_) po (gl := by exact ⟨rfl, trivial⟩)
    · refine s_if (t_not (t_val (w_fn (f := OT.tB) (ok_is_name c) (hr.mono (by decide)) (Hd.add (hd _ _)) (fun t => t.1) (a_cons (w_var 2 (f := tS) (v := q.2)) a_nil) (fun _ => ⟨rfl, trivial⟩)))) ?_ ?_
      · exact s_raise1 (fun z => Er.badName z) (ok_BadName c) (hr.mono (by decide)) (Hd.add (hd _ _)) (w_var 2 (f := tS) (v := q.2)) pl_S
      · refine s_skip ?_
        refine s_if (t_inS (w_var 2 (f := tS) (v := q.2)) (RW.rn (r_sl (r_lent 0 (f := rQ K tS) (v := names)) o_none (o_some (w_var 1 (f := tI) (v := q.1)))))) ?_ ?_
        · exact s_raise1 (fun z => Er.dup z) (ok_DuplicateName c) (hr.mono (by decide)) (Hd.add (hd _ _)) (w_var 2 (f := tS) (v := q.2)) pl_S
        · refine s_skip ?_
          exact s_nil (k := _) () (g := by exact ⟨rfl, trivial⟩)
    · exact f_end (f := tU) (r := ()) fin
def w_check_pairs (names : (List Str)) (pairs : (List (Str × Str))) (Q : Unit → Prop) (E : Er → Prop) : Prop :=
  W.run (W.ret pairs) E fun xs => W.loop (fun q (st : Unit) kn =>
    W.run (W.ret [q.1, q.2]) E fun xs => W.loop (fun name (st_1 : Unit) kn_1 =>
    W.run (W.ret (!decide (name ∈ names))) E fun b => W.ite b
    (W.run (W.ret name) E fun z => fmtOk (V.str z) ∧ E (.unknown z))
    (kn_1 ()))
    (fun st_1 : Unit => kn ()) xs ())
    (fun st : Unit => Q ()) xs ()
theorem ok_check_pairs (c : Ct P K mg) : GF P w K mg base "check_pairs" 3 ["names", "pairs"] (spW K (fun d : (List Str) × (List (Str × Str)) => [.b (rQ K tS d.1), .b (rQ K (tP2 K tS tS) d.2)]) (fun d => w_check_pairs d.1 d.2) (fun r : Unit => .v (tU r)) (fun _ => [])) := by
  refine gf_mkA (fd_check_pairs c) (fun _ F => bd_check_pairs F) (glo_check_pairs c) fun fd F => def_ok F sc_check_pairs (fun d vs L => [some ((rQ K tS d.1).at_ L), some ((rQ K (tP2 K tS tS) d.2).at_ L), none, none, none]) (fun _ _ => []) (fun _ _ _ => []) ?_ (by intro _; rfl) (fun d vs L hv => match vs, hv with | [_, _], _ => rfl) (fun d vs hv => match vs, hv with | [_, _], _ => rfl) (fun d vs r hv => match vs, hv with | [_, _], _ => rfl)
  rintro cdv A outer s' H0 L S Q0 E0' ⟨names, pairs⟩ vs Q E hv nd hr fin hdQ
  have tk := (hdQ [] _ (List.Sublist.refl _)).tk
  have hd : ∀ Γ O, Hd _ _ Γ O E _ := fun Γ O => hdQ Γ O (List.nil_sublist _)
  have po : PassesOwn (model P w) _ _ _ := @own_cx P w K mg base "check_pairs" (defScope s_check_pairs) (He.ga K "check_pairs") ["names", "pairs", "low", "high", "name"] cdv A outer s' H0 E0'
  show SW _ _ _ _ _ _ (w_check_pairs names pairs Q E)
  unfold w_check_pairs
  refine s_for (f := (tP2 K tS tS)) (fun st : Unit => [some ((rQ K tS names).at_ L), some ((rQ K (tP2 K tS tS) pairs).at_ L), none, none, none]) (fun st : Unit => []) () (i_lentQ 1 (f := (tP2 K tS tS)) (xs := pairs)) (fun q (st : Unit) => [some ((rQ K tS names).at_ L), some ((rQ K (tP2 K tS tS) pairs).at_ L), some (tS q.1), some (tS q.2), none]) [2, 3] (fun G q st => (g_tup (gs_cons (g_name (j := 2)) (gs_cons (g_name (j := 3)) gs_nil)))) (fun G q st kn => ?_) (fun st => ?_) po (gl := by exact ⟨rfl, rfl, trivial⟩)
  · refine s_for (f := tS) (fun st_1 : Unit => [some ((rQ K tS names).at_ L), some ((rQ K (tP2 K tS tS) pairs).at_ L), some (tS q.1), some (tS q.2), none]) (fun st_1 : Unit => []) () (i_tup (EW.rt (EW.imp (f := (tP2 K tS tS)) (g := tTs K tS) (EW.imp (f := fun z : Str × Str × Unit => tT K ((fun z : Str × Str × Unit => [tS z.1, tS z.2.1]) z)) (w_tup (F := fun z : Str × Str × Unit => [tS z.1, tS z.2.1]) (a_cons (w_var 2 (f := tS) (v := q.1)) (a_cons (w_var 3 (f := tS) (v := q.2)) a_nil))) (fun z => (z.1, z.2.1)) fun _ _ _ h => h) (fun z => [z.1, z.2]) fun _ _ _ h => h))) (fun name (st_1 : Unit) => [some ((rQ K tS names).at_ L), some ((rQ K (tP2 K tS tS) pairs).at_ L), some (tS q.1), some (tS q.2), some (tS name)]) [4] (fun G name st_1 => (g_name (j := 4))) (fun G name st_1 kn_1 => ?_) (fun st_1 => ?_) po (gl := by exact ⟨rfl, rfl, rfl, rfl, trivial⟩)
    · refine s_if (t_ninS (w_var 4 (f := tS) (v := name)) (RW.rn (r_lent 0 (f := rQ K tS) (v := names)))) ?_ ?_
      · exact s_raise1 (fun z => Er.unknown z) (ok_UnknownName c) (hr.mono (by decide)) (Hd.add (Hd.add (hd _ _))) (w_var 4 (f := tS) (v := name)) pl_S
      · refine s_skip ?_
        exact s_nil (k := _) () (g := by exact ⟨rfl, rfl, rfl, rfl, trivial⟩)
    · exact s_nil (k := _) () (g := by exact ⟨rfl, rfl, trivial⟩)
  · exact f_end (f := tU) (r := ()) fin
def w_closed (names : (List Str)) (pairs : (List (Str × Str))) (Q : (List (Str × (List (Str × Bool)))) → Prop) (E : Er → Prop) : Prop :=
  W.run (W.dcompP (fun _ : Str => true) (fun name : Str => name) (fun name : Str => [(name, true)]) names) E fun above =>
  W.run (W.ret pairs) E fun xs => W.loop (fun q (st : (List (Str × (List (Str × Bool))))) kn =>
    W.run (W.ret true) E fun a0 => ∃ dd, dget st q.1 = some dd ∧ dd.length < 100000 ∧ (
  kn (dput st q.1 (dput dd q.2 a0))))
    (fun st : (List (Str × (List (Str × Bool)))) => W.run (W.ret names) E fun xs => W.loop (fun middle (st_1 : (List (Str × (List (Str × Bool))))) kn_1 =>
    W.run (W.ret names) E fun xs => W.loop (fun low (st_2 : (List (Str × (List (Str × Bool))))) kn_2 =>
    W.jn (fun st_3 : (List (Str × (List (Str × Bool)))) => kn_2 st_3) fun kj => W.run (W.bind (W.getD st_2 low) fun z => W.ret (dhas z middle)) E fun b => W.ite b (W.run (W.bind (W.getD st_2 middle) fun z_1 => W.ret (z_1.map (·.1))) E fun xs => W.loop (fun high (st_4 : (List (Str × (List (Str × Bool))))) kn_3 =>
    W.run (W.ret true) E fun a0_1 => ∃ dd_1, dget st_4 low = some dd_1 ∧ dd_1.length < 100000 ∧ (
  kn_3 (dput st_4 low (dput dd_1 high a0_1))))
    (fun st_4 : (List (Str × (List (Str × Bool)))) => kj st_4) xs st_2) (kj st_2))
    (fun st_2 : (List (Str × (List (Str × Bool)))) => kn_1 st_2) xs st_1)
    (fun st_1 : (List (Str × (List (Str × Bool)))) => Q st_1) xs st) xs above
theorem ok_closed (c : Ct P K mg) : GF P w K mg base "closed" 1 ["names", "pairs"] (spW K (fun d : (List Str) × (List (Str × Str)) => [.b (rQ K tS d.1), .b (rQ K (tP2 K tS tS) d.2)]) (fun d => w_closed d.1 d.2) (fun r : (List (Str × (List (Str × Bool)))) => .o ((oDn (fun d => oDs OT.tB d)) r)) (fun _ => [])) := by
  refine gf_mkA (fd_closed c) (fun _ F => bd_closed F) (glo_closed c) fun fd F => def_ok F sc_closed (fun d vs L => [some ((rQ K tS d.1).at_ L), some ((rQ K (tP2 K tS tS) d.2).at_ L), none, none, none, none, none]) (fun _ _ => []) (fun _ _ _ => []) ?_ (by intro _; rfl) (fun d vs L hv => match vs, hv with | [_, _], _ => rfl) (fun d vs hv => match vs, hv with | [_, _], _ => rfl) (fun d vs r hv => match vs, hv with | [_, _], _ => rfl)
  rintro cdv A outer s' H0 L S Q0 E0' ⟨names, pairs⟩ vs Q E hv nd hr fin hdQ
  have tk := (hdQ [] _ (List.Sublist.refl _)).tk
  have hd : ∀ Γ O, Hd _ _ Γ O E _ := fun Γ O => hdQ Γ O (List.nil_sublist _)
  have po : PassesOwn (model P w) _ _ _ := @own_cx P w K mg base "closed" (defScope s_closed) (He.ga K "closed") ["names", "pairs", "above", "name", "low", "high", "middle"] cdv A outer s' H0 E0'
  show SW _ _ _ _ _ _ (w_closed names pairs Q E)
  unfold w_closed
  refine s_setDc (i := 2) [("name", 3)] (F := (oDs OT.tB)) (f := tS) [some ((rQ K tS names).at_ L), some ((rQ K (tP2 K tS tS) pairs).at_ L), none, none, none, none, none] (i_lentQ 0 (f := tS) (xs := names)) (fun name => [some ((rQ K tS names).at_ L), some ((rQ K (tP2 K tS tS) pairs).at_ L), none, some (tS name), none, none, none]) [3] (fun G m name s2 H2 C2 cl2 fp2 => ⟨(g_name (j := 3)), if_none, (w_var 3 (f := tS) (v := name)), (n_d1 (g := OT.tB) (fun m => (v_var 3 (f := tS) (v := name))) (fun m => (w_bl (i := true))))⟩) (hk_dplain (c := fun _ : Str => true) (k := fun name : Str => name) (v := fun name : Str => [(name, true)])) (fun above u_above => ?_) (gl := ⟨rfl, rfl, trivial⟩)
  refine s_for (f := (tP2 K tS tS)) (fun st : (List (Str × (List (Str × Bool)))) => [some ((rQ K tS names).at_ L), some ((rQ K (tP2 K tS tS) pairs).at_ L), some (tV u_above), none, none, none, none]) (fun st : (List (Str × (List (Str × Bool)))) => [(u_above, (oDn (fun d => oDs OT.tB d)) st)]) above (i_lentQ 1 (f := (tP2 K tS tS)) (xs := pairs)) (fun q (st : (List (Str × (List (Str × Bool))))) => [some ((rQ K tS names).at_ L), some ((rQ K (tP2 K tS tS) pairs).at_ L), some (tV u_above), none, some (tS q.1), some (tS q.2), none]) [4, 5] (fun G q st => (g_tup (gs_cons (g_name (j := 4)) (gs_cons (g_name (j := 5)) gs_nil)))) (fun G q st kn => ?_) (fun st => ?_) po (gl := by exact ⟨rfl, rfl, rfl, trivial⟩)
  · refine s_dput2 (i := 2) (f := OT.tB) (hr.mono (by decide)) (w_bl (i := true)) (v_var 4 (f := tS) (v := q.1)) (v_var 5 (f := tS) (v := q.2)) fun a0 dd => ?_
    exact s_nil (k := _) (dput st q.1 (dput dd q.2 a0)) (g := by exact ⟨rfl, rfl, rfl, trivial⟩)
  · refine s_for (f := tS) (fun st_1 : (List (Str × (List (Str × Bool)))) => [some ((rQ K tS names).at_ L), some ((rQ K (tP2 K tS tS) pairs).at_ L), some (tV u_above), none, none, none, none]) (fun st_1 : (List (Str × (List (Str × Bool)))) => [(u_above, (oDn (fun d => oDs OT.tB d)) st_1)]) st (i_lentQ 0 (f := tS) (xs := names)) (fun middle (st_1 : (List (Str × (List (Str × Bool))))) => [some ((rQ K tS names).at_ L), some ((rQ K (tP2 K tS tS) pairs).at_ L), some (tV u_above), none, none, none, some (tS middle)]) [6] (fun G middle st_1 => (g_name (j := 6))) (fun G middle st_1 kn_1 => ?_) (fun st_1 => ?_) po (gl := by exact ⟨rfl, rfl, rfl, trivial⟩)
    · refine s_for (f := tS) (fun st_2 : (List (Str × (List (Str × Bool)))) => [some ((rQ K tS names).at_ L), some ((rQ K (tP2 K tS tS) pairs).at_ L), some (tV u_above), none, none, none, some (tS middle)]) (fun st_2 : (List (Str × (List (Str × Bool)))) => [(u_above, (oDn (fun d => oDs OT.tB d)) st_2)]) st_1 (i_lentQ 0 (f := tS) (xs := names)) (fun low (st_2 : (List (Str × (List (Str × Bool))))) => [some ((rQ K tS names).at_ L), some ((rQ K (tP2 K tS tS) pairs).at_ L), some (tV u_above), none, some (tS low), none, some (tS middle)]) [4] (fun G low st_2 => (g_name (j := 4))) (fun G low st_2 kn_2 => ?_) (fun st_2 => ?_) po (gl := by exact ⟨rfl, rfl, rfl, rfl, trivial⟩)
      · refine s_ifK (fun st_3 : (List (Str × (List (Str × Bool)))) => [some ((rQ K tS names).at_ L), some ((rQ K (tP2 K tS tS) pairs).at_ L), some (tV u_above), none, some (tS low), none, some (tS middle)]) (fun st_3 : (List (Str × (List (Str × Bool)))) => [(u_above, (oDn (fun d => oDs OT.tB d)) st_3)]) (t_din (hr.mono (by decide)) (w_var 6 (f := tS) (v := middle)) (rn_dget (G := fun d => rD OT.tB d) (hr.mono (by decide)) (r_own 0 2 (f := rDn (fun d => rD OT.tB d)) (v := st_2) (lend_D fun _ => lend_Ds)) (w_var 4 (f := tS) (v := low)))) (fun kj => ?_) (fun kj => ?_) (fun st_3 => ?_)
        · refine s_for (f := tS) (fun st_4 : (List (Str × (List (Str × Bool)))) => [some ((rQ K tS names).at_ L), some ((rQ K (tP2 K tS tS) pairs).at_ L), some (tV u_above), none, some (tS low), none, some (tS middle)]) (fun st_4 : (List (Str × (List (Str × Bool)))) => [(u_above, (oDn (fun d => oDs OT.tB d)) st_4)]) st_2 (i_lst (f := tS) (EW.rl (NW.settle (g := (tLs K tS)) (n_listD (free_list c) (rn_dget (G := fun d => rD OT.tB d) (hr.mono (by decide)) (r_own 0 2 (f := rDn (fun d => rD OT.tB d)) (v := st_2) (lend_D fun _ => lend_Ds)) (w_var 6 (f := tS) (v := middle)))) fun _ => stl_Ls))) (fun high (st_4 : (List (Str × (List (Str × Bool))))) => [some ((rQ K tS names).at_ L), some ((rQ K (tP2 K tS tS) pairs).at_ L), some (tV u_above), none, some (tS low), some (tS high), some (tS middle)]) [5] (fun G high st_4 => (g_name (j := 5))) (fun G high st_4 kn_3 => ?_) (fun st_4 => ?_) po (gl := by exact ⟨rfl, rfl, rfl, rfl, rfl, trivial⟩)
          · refine s_dput2 (i := 2) (f := OT.tB) (hr.mono (by decide)) (w_bl (i := true)) (v_var 4 (f := tS) (v := low)) (v_var 5 (f := tS) (v := high)) fun a0_1 dd_1 => ?_
            exact s_nil (k := _) (dput st_4 low (dput dd_1 high a0_1)) (g := by exact ⟨rfl, rfl, rfl, rfl, rfl, trivial⟩)
          · exact s_nil (k := _) st_4 (g := by exact ⟨rfl, rfl, rfl, rfl, rfl, trivial⟩)
        · exact s_nil (k := _) st_2 (g := by exact ⟨rfl, rfl, rfl, rfl, rfl, trivial⟩)
        · exact s_nil (k := _) st_3 (g := by exact ⟨rfl, rfl, rfl, rfl, trivial⟩)
      · exact s_nil (k := _) st_2 (g := by exact ⟨rfl, rfl, rfl, trivial⟩)
    · exact f_retO (i := 2) (k := 0) (f := (oDn (fun d => oDs OT.tB d))) (r := st_1) fin
def w_strict_pairs (above : (List (Str × (List Str)))) (Q : (List (Str × Str)) → Prop) (E : Er → Prop) : Prop :=
  W.run (W.bind (W.grd ((above.map (·.1)).length < 64) (srt (above.map (·.1)))) fun z => W.comp2G (fun _ : Str => W.ret true) (fun low : Str => W.getD above low) (fun (low : Str) (high : Str) => W.ret (!decide (high = low))) (fun (low : Str) (high : Str) => W.ret (low, high)) z) E Q
def w_cover_pairs (above : (List (Str × (List Str)))) (Q : (List (Str × Str)) → Prop) (E : Er → Prop) : Prop :=
  W.lt ([] : (List (Str × Str))) fun found : (List (Str × Str)) =>
  W.run (w_strict_pairs above) E fun xs => W.loop (fun q (st : (List (Str × Str))) kn =>
    W.run (W.bind (W.getD above q.1) fun z_1 => W.compG (fun name : Str => W.sel (!decide (name ∈ [q.1, q.2])) (W.bind (W.getD above name) fun z => W.ret (decide (q.2 ∈ z))) (W.ret false)) (fun name : Str => W.ret name) z_1) E fun between =>
  W.jn (fun st_1 : (List (Str × Str)) => kn st_1) fun kj => W.run (W.ret (decide (between = ([] : (List Str))))) E fun b => W.ite b (W.run (W.grd (st.length < 100000) (q.1, q.2)) E fun a0 =>
  kj (st ++ [a0])) (kj st))
    (fun st : (List (Str × Str)) => Q st) xs found
def w_Order_init (names : (List Str)) (pairs : (List (Str × Str))) (Q : Ord → Prop) (E : Er → Prop) : Prop :=
  W.run (w_check_names names) E fun _ =>
  W.run (w_check_pairs names pairs) E fun _ =>
  W.run (w_closed names pairs) E fun above =>
  W.run (W.compG (fun low : Str => W.bind (W.bind (W.bind (W.getD above low) fun z_2 => W.ret (z_2.map (·.1))) fun z_4 => W.compG (fun _ : Str => W.ret true) (fun high : Str => W.sel (!decide (high = low)) (W.bind (W.getD above high) fun z_3 => W.ret (dhas z_3 low)) (W.ret false)) z_4) fun z_5 => W.ret (z_5.any id)) (fun low : Str => W.ret low) names) E fun round_names =>
  W.run (W.ret (!decide (round_names = ([] : (List Str))))) E fun b => W.ite b
    (W.run (W.grd (round_names.length < 64) (srt round_names)) E fun z_6 => E (.ring z_6))
    (W.run (W.grd (names.length < 64) (srt names)) E fun names_1 =>
  W.run (W.dcompG (fun _ : Str => W.ret true) (fun low_1 : Str => W.ret low_1) (fun low_1 : Str => W.bind (W.bind (W.getD above low_1) fun z_7 => W.ret (z_7.map (·.1))) fun z_8 => W.grd (z_8.length < 64) (srt z_8)) names_1) E fun above_1 =>
  Q (OW.Ord.mk names_1 above_1))
theorem ok_Order_init (c : Ct P K mg) : GC P w K mg base "Order" (He.ga K "Order") 5 ["self", "names", "pairs"] (spW K (fun d : (List Str) × (List (Str × Str)) => [.o (oI (He.ga K "Order") []), .b (rQ K tS d.1), .b (rQ K (tP2 K tS tS) d.2)]) (fun d => w_Order_init d.1 d.2) (fun _ : Ord => .v tN) (fun r => [(fun r : Ord => oI (He.ga K "Order") [("names", MP.o (tZs K tS r.names)), ("above", oDs (tTs K tS) r.above)]) r])) := by
  refine gc_mk (fd_Order_init c) (fun _ F => bd_Order_init F) (mkr_Order c) (glo_Order c) fun fd F => def_ok F sc_Order_init (fun d vs L => [some (tV (vs.headD .non)), some ((rQ K tS d.1).at_ L), some ((rQ K (tP2 K tS tS) d.2).at_ L), none, none, none, none]) (fun _ vs => [((vs.headD .non), oI (He.ga K "Order") [])]) (fun _ vs r => [((vs.headD .non), (fun r : Ord => oI (He.ga K "Order") [("names", MP.o (tZs K tS r.names)), ("above", oDs (tTs K tS) r.above)]) r)]) ?_ (by intro _; rfl) (fun d vs L hv => match vs, hv with | [_, _, _], _ => rfl) (fun d vs hv => match vs, hv with | [_, _, _], _ => rfl) (fun d vs r hv => match vs, hv with | [_, _, _], _ => rfl)
  rintro cdv A outer s' H0 L S Q0 E0' ⟨names, pairs⟩ vs Q E hv nd hr fin hdQ
  have tk := (hdQ [] _ (List.Sublist.refl _)).tk
  have hd := hdQ
  have po : PassesOwn (model P w) _ _ _ := @own_cx P w K mg base "Order.__init__" (defScope s_Order_init) (He.ma K (He.ga K "Order") "__init__") ["self", "names", "pairs", "above", "round_names", "low", "high"] cdv A outer s' H0 E0'
  show SW _ _ _ _ _ _ (w_Order_init names pairs Q E)
  unfold w_Order_init
  refine s_expr (w_fn (f := tU) (ok_check_names c) (hr.mono (by decide)) (hd _ _ (by walk_at "osub")) (fun t => t.1) (a_consR (r_lent 1 (f := rQ K tS) (v := names)) a_nil) (fun _ => ⟨rfl, trivial⟩)) fun _ _ => ?_
  refine s_expr (w_fn (f := tU) (ok_check_pairs c) (hr.mono (by decide)) (hd _ _ (by walk_at "osub")) (fun t => (t.1, t.2.1)) (a_consR (r_lent 1 (f := rQ K tS) (v := names)) (a_consR (r_lent 2 (f := rQ K (tP2 K tS tS)) (v := pairs)) a_nil)) (fun _ => ⟨rfl, rfl, trivial⟩)) fun _ _ => ?_
  refine s_set (i := 3) (f := (tDs (tDs OT.tB))) (NW.settle (g := (tDs (tDs OT.tB))) (n_fn (f := (oDn (fun d => oDs OT.tB d))) (ok_closed c) (hr.mono (by decide)) (hd _ _ (by walk_at "osub")) (fun t => (t.1, t.2.1)) (a_consR (r_lent 1 (f := rQ K tS) (v := names)) (a_consR (r_lent 2 (f := rQ K (tP2 K tS tS)) (v := pairs)) a_nil)) (fun _ => ⟨rfl, rfl, trivial⟩)) fun _ => (stl_D fun _ => stl_Ds)) fun above => ?_
  refine s_setLc (i := 4) [("low", 5)] (F := (fun y => MP.o (tS y))) (f := tS) [some (tV (vs.headD .non)), some ((rQ K tS names).at_ L), some ((rQ K (tP2 K tS tS) pairs).at_ L), some ((tDs (tDs OT.tB)) above), none, none, none] (i_lentQ 1 (f := tS) (xs := names)) (fun low => [some (tV (vs.headD .non)), some ((rQ K tS names).at_ L), some ((rQ K (tP2 K tS tS) pairs).at_ L), some ((tDs (tDs OT.tB)) above), none, some (tS low), none]) [5] (fun G m low s2 H2 C2 cl2 fp2 => ⟨(g_name (j := 5)), (if_one (t_val (w_any (free_any c) (RW.rn (EW.rl (NW.settle (g := (tLs K OT.tB)) (n_comp [("high", 6)] (F := (fun y => MP.o (OT.tB y))) (f := tS) [some (tV (vs.headD .non)), some ((rQ K tS names).at_ L), some ((rQ K (tP2 K tS tS) pairs).at_ L), some ((tDs (tDs OT.tB)) above), none, some (tS low), none] (i_keys (f := OT.tB) (w_dget (f := (tDs OT.tB)) (hr.mono (by decide)) (EW.rd (w_var 3 (f := (tDs (tDs OT.tB))) (v := above))) (w_var 5 (f := tS) (v := low)))) (fun high => [some (tV (vs.headD .non)), some ((rQ K tS names).at_ L), some ((rQ K (tP2 K tS tS) pairs).at_ L), some ((tDs (tDs OT.tB)) above), none, some (tS low), some (tS high)]) [6] (fun G m high s2 H2 C2 cl2 fp2 => ⟨(g_name (j := 6)), if_none, (EW.n (w_and (EW.at (W.ret (!decide (high = low))) (w_neS (w_var 6 (f := tS) (v := high)) (w_var 5 (f := tS) (v := low)))) (w_one (w_din (hr.mono (by decide)) (w_var 5 (f := tS) (v := low)) (RW.rn (EW.rd (w_dget (f := (tDs OT.tB)) (hr.mono (by decide)) (EW.rd (w_var 3 (f := (tDs (tDs OT.tB))) (v := above))) (w_var 6 (f := tS) (v := high)))))))))⟩) hk_id (gl := by exact ⟨rfl, rfl, rfl, rfl, rfl, trivial⟩)) fun _ => stl_Ls)))))), (EW.n (w_var 5 (f := tS) (v := low)))⟩) hk_id (fun round_names u_round_names => ?_) (gl := ⟨rfl, rfl, rfl, rfl, trivial⟩)
  refine SW.settle (i := 4) (M := (tLs K tS) round_names) stl_Ls ?_
  refine s_if (t_neM (cmp_L en_str) (hr.mono (by decide)) (EW.rl (w_var 4 (f := (tLs K tS)) (v := round_names))) (RW.rn (EW.rl (NW.settle (g := (tLs K tS)) (n_nil (f := tS)) fun _ => stl_Ls)))) ?_ ?_
  · exact s_raiseL (fun z => Er.ring z) (ok_Ring c) (hr.mono (by decide)) (hd _ _ (by walk_at "osub")) (RW.q (EW.rl (NW.settle (g := (tLs K tS)) (n_sortedS (free_sorted c) (RW.rn (EW.rl (w_var 4 (f := (tLs K tS)) (v := round_names))))) fun _ => stl_Ls)))
  · refine s_skip ?_
    refine s_fld (i := 0) (F := (fun y => MP.o ((tZs K tS) y))) (cls_Order c) (noat_Order_names c) (EW.n (w_tupleZ (free_tuple c) (f := tS) (RW.rn (EW.rl (NW.settle (g := (tLs K tS)) (n_sortedSQ (free_sorted c) (RW.rn (r_lent 1 (f := rQ K tS) (v := names)))) fun _ => stl_Ls))))) fun names_1 => ?_
    refine s_fld (i := 0) (F := (oDs (tTs K tS))) (cls_Order c) (noat_Order_above c) (n_dcomp [("low", 5)] (F := (fun y => MP.o ((tTs K tS) y))) (f := tS) [some (tV (vs.headD .non)), some ((rQ K tS names).at_ L), some ((rQ K (tP2 K tS tS) pairs).at_ L), some ((tDs (tDs OT.tB)) above), some ((tLs K tS) round_names), none, none] (i_tupZ (f := tS) (w_fldO 0 0 (g := (tZs K tS)) (v := names_1) (cls_Order c) (noat_Order_names c))) (fun low_1 => [some (tV (vs.headD .non)), some ((rQ K tS names).at_ L), some ((rQ K (tP2 K tS tS) pairs).at_ L), some ((tDs (tDs OT.tB)) above), some ((tLs K tS) round_names), some (tS low_1), none]) [5] (fun G m low_1 s2 H2 C2 cl2 fp2 => ⟨(g_name (j := 5)), if_none, (w_var 5 (f := tS) (v := low_1)), (EW.n (w_tuple (free_tuple c) (f := tS) (RW.rn (EW.rl (NW.settle (g := (tLs K tS)) (n_sortedS (free_sorted c) (RW.rn (EW.rl (NW.settle (g := (tLs K tS)) (n_listD (free_list c) (RW.rn (EW.rd (w_dget (f := (tDs OT.tB)) (hr.mono (by decide)) (EW.rd (w_var 3 (f := (tDs (tDs OT.tB))) (v := above))) (w_var 5 (f := tS) (v := low_1)))))) fun _ => stl_Ls)))) fun _ => stl_Ls)))))⟩) hk_did (gl := by exact ⟨rfl, rfl, rfl, rfl, rfl, trivial⟩)) fun above_1 => ?_
    exact f_init (r := OW.Ord.mk names_1 above_1) fin
def w_Order_eq (self : Ord) (other : Ord) (Q : Bool → Prop) (E : Er → Prop) : Prop :=
  W.run (W.ret (true && (deq self.above other.above))) E Q
theorem ok_Order_eq (c : Ct P K mg) : GM P w K mg base (He.ga K "Order") "__eq__" 3 ["self", "other"] (spW K (fun d : Ord × Ord => [.b ((tOrd K) d.1).b, .b ((tOrd K) d.2).b]) (fun d => w_Order_eq d.1 d.2) (fun r : Bool => .v (OT.tB r)) (fun _ => [])) := by
  refine gm_mk (fd_Order_eq c) (fun _ F => bd_Order_eq F) (meth_Order_eq c) fun fd F => def_ok F sc_Order_eq (fun d vs L => [some ((tOrd K) d.1), some ((tOrd K) d.2)]) (fun _ _ => []) (fun _ _ _ => []) ?_ (by intro _; rfl) (fun d vs L hv => match vs, hv with | [_, _], _ => rfl) (fun d vs hv => match vs, hv with | [_, _], _ => rfl) (fun d vs r hv => match vs, hv with | [_, _], _ => rfl)
  rintro cdv A outer s' H0 L S Q0 E0' ⟨self, other⟩ vs Q E hv nd hr fin hdQ
  have tk := (hdQ [] _ (List.Sublist.refl _)).tk
  have hd : ∀ Γ O, Hd _ _ Γ O E _ := fun Γ O => hdQ Γ O (List.nil_sublist _)
  have po : PassesOwn (model P w) _ _ _ := @own_cx P w K mg base "Order.__eq__" (defScope s_Order_eq) (He.ma K (He.ga K "Order") "__eq__") ["self", "other"] cdv A outer s' H0 E0'
  show SW _ _ _ _ _ _ (w_Order_eq self other Q E)
  unfold w_Order_eq
  exact f_ret (f := OT.tB) fin (w_andP (EW.at (W.ret true) (w_isi (free_isinstance c) (EW.rb (w_var 1 (f := (tOrd K)) (v := other))) (w_cls (glo_Order c)) (.own _) (fun _ => (ins_Order c).ty) (kit_Order c))) (w_one (EW.at (W.ret (deq self.above other.above)) (w_eqD (f := (tTs K tS)) (n := 1) (w_fld (F := fun z : Ord => [("names", (tZs K tS) z.names), ("above", (tDs (tTs K tS)) z.above)]) (g := (tDs (tTs K tS))) (fun z : Ord => z.above) (cls_Order c) (noat_Order_above c) (w_var 0 (f := (tOrd K)) (v := self))) (w_fld (F := fun z : Ord => [("names", (tZs K tS) z.names), ("above", (tDs (tTs K tS)) z.above)]) (g := (tDs (tTs K tS))) (fun z : Ord => z.above) (cls_Order c) (noat_Order_above c) (w_var 1 (f := (tOrd K)) (v := other))) (En.tup en_str) (hr.mono (by decide))))))
theorem ck_Order_chain (c : Ct P K mg) : CmOk K c_Order_chain := let h := c.s.cm c_Order_chain (by simp [cm]); CmD.all h.1 h.2
theorem fd_Order_chain (c : Ct P K mg) : ∃ fd, FnS K "chain" "Order.chain" s_Order_chain (cmFn K "Order" "chain") fd := (ck_Order_chain c).fn
theorem sc_Order_chain : FnScope ["cls", "names", "at"] ["cls", "names"] (defScope s_Order_chain) := ⟨rfl, rfl, rfl, by decide +kernel, rfl, by decide +kernel, by decide +kernel⟩
theorem bs_Order_chain {fd} (F : FnS K "chain" "Order.chain" s_Order_chain (cmFn K "Order" "chain") fd) : ∀ us rest : List Value, us.length = [("cls" : Str)].length → bindArgs fd ⟨us ++ rest, []⟩ = (newTuple rest >>= fun t => pure ([("cls" : Str)].zip us ++ [(("names" : Str), t)])) := by
  intro us rest h
  obtain ⟨oc, od, dV, kV, doc, pm, an, cdv, ct, osl, e0, lk, hcd, hdV, hkV⟩ := F.ex
  subst e0
  obtain rfl : dV = Value.none := hdV.elim (fun h => h.2) (fun h => absurd rfl h.1)
  exact StX.bind_star1 (B := fun l => bindArgs _ ⟨l, []⟩) (p1 := "cls") (pv := "names") (fun _ => rfl) (fun _ _ _ => rfl) us rest h
def w_Order_chain (names : (List Str)) (Q : Ord → Prop) (E : Er → Prop) : Prop :=
  W.run (W.bind (W.bind (W.grd (RgOk ((names.length : Int) - (1 : Int))) (rng 0 ((names.length : Int) - (1 : Int)))) fun z_2 => W.compG (fun _ : Int => W.ret true) (fun at0 : Int => W.bind (W.get names at0) fun z => W.bind (W.get names (at0 + (1 : Int))) fun z_1 => W.ret (z, z_1)) z_2) fun z_3 => w_Order_init names z_3) E Q
theorem ok_Order_chain (c : Ct P K mg) : GS P w K mg base (He.ga K "Order") "chain" 7 (spS K (He.ga K "Order") w_Order_chain (fun r : Ord => .o ((fun r : Ord => oI (He.ga K "Order") [("names", MP.o (tZs K tS r.names)), ("above", oDs (tTs K tS) r.above)]) r))) := by
  refine star_ok (fd_Order_chain c) (ck_Order_chain c).rd (ck_Order_chain c).cm sc_Order_chain (fun d vs L => [some (tR (He.ga K "Order")), some ((tTs K tS) d), none]) (fun _ F => bs_Order_chain F) ?_ (fun d vs L hv => match vs, hv with | [_, _], _ => rfl)
  rintro cdv A outer s' H0 L S Q0 E0' names vs Q E hv nd hr fin hdQ
  have tk := (hdQ [] _ (List.Sublist.refl _)).tk
  have hd : ∀ Γ O, Hd _ _ Γ O E _ := fun Γ O => hdQ Γ O (List.nil_sublist _)
  have po : PassesOwn (model P w) _ _ _ := @own_cx P w K mg base "Order.chain" (defScope s_Order_chain) (cmFn K "Order" "chain") ["cls", "names", "at"] cdv A outer s' H0 E0'
  show SW _ _ _ _ _ _ (w_Order_chain names Q E)
  unfold w_Order_chain
  exact f_retN (f := (fun r : Ord => oI (He.ga K "Order") [("names", MP.o (tZs K tS r.names)), ("above", oDs (tTs K tS) r.above)])) fin (n_makeL (i := 0) (f := (fun r : Ord => oI (He.ga K "Order") [("names", MP.o (tZs K tS r.names)), ("above", oDs (tTs K tS) r.above)])) (ok_Order_init c) (hr.mono (by decide)) (hd _ _) (fun t => (t.1, t.2.1)) (a_consR (RW.tq (EW.rt (w_var 1 (f := (tTs K tS)) (v := names)))) (a_consR (RW.q (EW.rl (NW.settle (g := (tLs K (tP2 K tS tS))) (n_comp [("at", 2)] (F := (fun y => MP.o ((tP2 K tS tS) y))) (f := tI) [some (tR (He.ga K "Order")), some ((tTs K tS) names), none] (i_range1 (free_range c) (w_sub (w_len (free_len c) (f := tS) (RW.rn (RW.tq (EW.rt (w_var 1 (f := (tTs K tS)) (v := names)))))) (w_int (i := 1)))) (fun at0 => [some (tR (He.ga K "Order")), some ((tTs K tS) names), some (tI at0)]) [2] (fun G m at0 s2 H2 C2 cl2 fp2 => ⟨(g_name (j := 2)), if_none, (EW.n (EW.imp (f := fun z : Str × Str × Unit => tT K ((fun z : Str × Str × Unit => [tS z.1, tS z.2.1]) z)) (w_tup (F := fun z : Str × Str × Unit => [tS z.1, tS z.2.1]) (a_cons (w_ix (f := tS) (RW.tq (EW.rt (w_var 1 (f := (tTs K tS)) (v := names)))) (w_var 2 (f := tI) (v := at0))) (a_cons (w_ix (f := tS) (RW.tq (EW.rt (w_var 1 (f := (tTs K tS)) (v := names)))) (w_add (w_var 2 (f := tI) (v := at0)) (w_int (i := 1)))) a_nil))) (fun z => (z.1, z.2.1)) fun _ _ _ h => h))⟩) hk_id (gl := by exact ⟨rfl, rfl, trivial⟩)) fun _ => stl_Ls))) a_nil)) (fun _ _ => ⟨rfl, rfl, rfl, trivial⟩))
def w_Order_crown (size : Int) (Q : Ord → Prop) (E : Er → Prop) : Prop :=
  W.run (W.ret (!(decide ((2 : Int) ≤ size) && decide (size ≤ 4)))) E fun b => W.ite b
    (W.run (W.ret size) E fun z => fmtOk (V.int z) ∧ E (.badNumber z))
    (W.run (W.bind (W.grd (RgOk size) (rng 0 size)) fun z_3 => W.compG (fun _ : Int => W.ret true) (fun at0 : Int => W.bind (W.ret ("a" : Str)) fun z_2 Q E => z_2.length ≤ 100000 ∧ (W.bind (W.grd ((at0 + (1 : Int)).natAbs.log2 < 1920) (toString (at0 + (1 : Int)) : Str)) fun z_1 Q E => z_1.length ≤ 100000 ∧ (W.ret Str.empty) (fun y => Q (z_1 ++ y)) E) (fun y => Q (z_2 ++ y)) E) z_3) E fun lows =>
  W.run (W.bind (W.grd (RgOk size) (rng 0 size)) fun z_6 => W.compG (fun _ : Int => W.ret true) (fun at0_1 : Int => W.bind (W.ret ("b" : Str)) fun z_5 Q E => z_5.length ≤ 100000 ∧ (W.bind (W.grd ((at0_1 + (1 : Int)).natAbs.log2 < 1920) (toString (at0_1 + (1 : Int)) : Str)) fun z_4 Q E => z_4.length ≤ 100000 ∧ (W.ret Str.empty) (fun y => Q (z_4 ++ y)) E) (fun y => Q (z_5 ++ y)) E) z_6) E fun highs =>
  W.run (W.bind (W.grd (RgOk size) (rng 0 size)) fun z_9 => W.compG (fun _ : Int => W.ret true) (fun at0_2 : Int => W.bind (W.get lows at0_2) fun z_7 => W.bind (W.get highs at0_2) fun z_8 => W.ret (z_7, z_8)) z_9) E fun pairs =>
  W.run (W.bind (W.grd (lows.length + highs.length ≤ 100000) (lows ++ highs)) fun z_15 => W.bind (W.bind (W.bind (W.grd (RgOk size) (rng 0 size)) fun z_13 => W.compG (fun _ : Int => W.ret true) (fun at0_3 : Int => W.bind (W.bind (W.grd (size ≠ 0) (((at0_3 + (1 : Int))).fmod size)) fun z_10 => W.get lows z_10) fun z_11 => W.bind (W.get highs at0_3) fun z_12 => W.ret (z_11, z_12)) z_13) fun z_14 => W.grd (pairs.length + z_14.length ≤ 100000) (pairs ++ z_14)) fun z_16 => w_Order_init z_15 z_16) E Q)
theorem ok_Order_crown (c : Ct P K mg) : GK P w K mg base (He.ga K "Order") "crown" 7 ["cls", "size"] (spW K (fun d : Int => [.b (tR (He.ga K "Order")).b, .b (tI d).b]) (fun d => w_Order_crown d) (fun r : Ord => .o ((fun r : Ord => oI (He.ga K "Order") [("names", MP.o (tZs K tS r.names)), ("above", oDs (tTs K tS) r.above)]) r)) (fun _ => [])) := by
  refine gk_mk (fd_Order_crown c) (fun _ F => bd_Order_crown F) (ck_Order_crown c).rd (ck_Order_crown c).cm fun fd F => def_ok F sc_Order_crown (fun d vs L => [some (tR (He.ga K "Order")), some (tI d), none, none, none, none]) (fun _ _ => []) (fun _ _ _ => []) ?_ (by intro _; rfl) (fun d vs L hv => match vs, hv with | [_, _], _ => rfl) (fun d vs hv => match vs, hv with | [_, _], _ => rfl) (fun d vs r hv => match vs, hv with | [_, _], _ => rfl)
  rintro cdv A outer s' H0 L S Q0 E0' size vs Q E hv nd hr fin hdQ
  have tk := (hdQ [] _ (List.Sublist.refl _)).tk
  have hd : ∀ Γ O, Hd _ _ Γ O E _ := fun Γ O => hdQ Γ O (List.nil_sublist _)
  have po : PassesOwn (model P w) _ _ _ := @own_cx P w K mg base "Order.crown" (defScope s_Order_crown) (cmFn K "Order" "crown") ["cls", "size", "lows", "at", "highs", "pairs"] cdv A outer s' H0 E0'
  show SW _ _ _ _ _ _ (w_Order_crown size Q E)
  unfold w_Order_crown
  refine s_if (t_not (t_chain (w_int (i := 2)) (w_var 1 (f := tI) (v := size)) (w_globI (int_MOST_CROWN c)))) ?_ ?_
  · exact s_raise1 (fun z => Er.badNumber z) (ok_BadNumber c) (hr.mono (by decide)) (hd _ _) (w_var 1 (f := tI) (v := size)) pl_I
  · refine s_skip ?_
    refine s_set (i := 2) (f := (tLs K tS)) (NW.settle (g := (tLs K tS)) (n_comp [("at", 3)] (F := (fun y => MP.o (tS y))) (f := tI) [some (tR (He.ga K "Order")), some (tI size), none, none, none, none] (i_range1 (free_range c) (w_var 1 (f := tI) (v := size))) (fun at0 => [some (tR (He.ga K "Order")), some (tI size), none, some (tI at0), none, none]) [3] (fun G m at0 s2 H2 C2 cl2 fp2 => ⟨(g_name (j := 3)), if_none, (EW.n (w_joined (j_cons (w_str (i := ("a" : Str))) (j_cons (w_fmtI (w_add (w_var 3 (f := tI) (v := at0)) (w_int (i := 1)))) j_nil))))⟩) hk_id (gl := by exact ⟨rfl, rfl, trivial⟩)) fun _ => stl_Ls) fun lows => ?_
    refine s_set (i := 4) (f := (tLs K tS)) (NW.settle (g := (tLs K tS)) (n_comp [("at", 3)] (F := (fun y => MP.o (tS y))) (f := tI) [some (tR (He.ga K "Order")), some (tI size), some ((tLs K tS) lows), none, none, none] (i_range1 (free_range c) (w_var 1 (f := tI) (v := size))) (fun at0_1 => [some (tR (He.ga K "Order")), some (tI size), some ((tLs K tS) lows), some (tI at0_1), none, none]) [3] (fun G m at0_1 s2 H2 C2 cl2 fp2 => ⟨(g_name (j := 3)), if_none, (EW.n (w_joined (j_cons (w_str (i := ("b" : Str))) (j_cons (w_fmtI (w_add (w_var 3 (f := tI) (v := at0_1)) (w_int (i := 1)))) j_nil))))⟩) hk_id (gl := by exact ⟨rfl, rfl, rfl, trivial⟩)) fun _ => stl_Ls) fun highs => ?_
    refine s_setLc (i := 5) [("at", 3)] (F := (fun y => MP.o ((tP2 K tS tS) y))) (f := tI) [some (tR (He.ga K "Order")), some (tI size), some ((tLs K tS) lows), none, some ((tLs K tS) highs), none] (i_range1 (free_range c) (w_var 1 (f := tI) (v := size))) (fun at0_2 => [some (tR (He.ga K "Order")), some (tI size), some ((tLs K tS) lows), some (tI at0_2), some ((tLs K tS) highs), none]) [3] (fun G m at0_2 s2 H2 C2 cl2 fp2 => ⟨(g_name (j := 3)), if_none, (EW.n (EW.imp (f := fun z : Str × Str × Unit => tT K ((fun z : Str × Str × Unit => [tS z.1, tS z.2.1]) z)) (w_tup (F := fun z : Str × Str × Unit => [tS z.1, tS z.2.1]) (a_cons (w_ix (f := tS) (RW.q (EW.rl (w_var 2 (f := (tLs K tS)) (v := lows)))) (w_var 3 (f := tI) (v := at0_2))) (a_cons (w_ix (f := tS) (RW.q (EW.rl (w_var 4 (f := (tLs K tS)) (v := highs)))) (w_var 3 (f := tI) (v := at0_2))) a_nil))) (fun z => (z.1, z.2.1)) fun _ _ _ h => h))⟩) hk_id (fun pairs u_pairs => ?_) (gl := ⟨rfl, rfl, rfl, rfl, trivial⟩)
    refine SW.settle (i := 5) (M := (tLs K (tP2 K tS tS)) pairs) stl_Ls ?_
    exact f_retN (f := (fun r : Ord => oI (He.ga K "Order") [("names", MP.o (tZs K tS r.names)), ("above", oDs (tTs K tS) r.above)])) fin (n_makeL (i := 0) (f := (fun r : Ord => oI (He.ga K "Order") [("names", MP.o (tZs K tS r.names)), ("above", oDs (tTs K tS) r.above)])) (ok_Order_init c) (hr.mono (by decide)) (hd _ _) (fun t => (t.1, t.2.1)) (a_consR (RW.q (EW.rl (NW.settle (g := (tLs K tS)) (n_cat (f := tS) (EW.rl (w_var 2 (f := (tLs K tS)) (v := lows))) (EW.rl (w_var 4 (f := (tLs K tS)) (v := highs)))) fun _ => stl_Ls))) (a_consR (RW.q (EW.rl (NW.settle (g := (tLs K (tP2 K tS tS))) (n_cat (f := (tP2 K tS tS)) (EW.rl (w_var 5 (f := (tLs K (tP2 K tS tS))) (v := pairs))) (EW.rl (NW.settle (g := (tLs K (tP2 K tS tS))) (n_comp [("at", 3)] (F := (fun y => MP.o ((tP2 K tS tS) y))) (f := tI) [some (tR (He.ga K "Order")), some (tI size), some ((tLs K tS) lows), none, some ((tLs K tS) highs), some ((tLs K (tP2 K tS tS)) pairs)] (i_range1 (free_range c) (w_var 1 (f := tI) (v := size))) (fun at0_3 => [some (tR (He.ga K "Order")), some (tI size), some ((tLs K tS) lows), some (tI at0_3), some ((tLs K tS) highs), some ((tLs K (tP2 K tS tS)) pairs)]) [3] (fun G m at0_3 s2 H2 C2 cl2 fp2 => ⟨(g_name (j := 3)), if_none, (EW.n (EW.imp (f := fun z : Str × Str × Unit => tT K ((fun z : Str × Str × Unit => [tS z.1, tS z.2.1]) z)) (w_tup (F := fun z : Str × Str × Unit => [tS z.1, tS z.2.1]) (a_cons (w_ix (f := tS) (RW.q (EW.rl (w_var 2 (f := (tLs K tS)) (v := lows)))) (w_mod (w_add (w_var 3 (f := tI) (v := at0_3)) (w_int (i := 1))) (w_var 1 (f := tI) (v := size)))) (a_cons (w_ix (f := tS) (RW.q (EW.rl (w_var 4 (f := (tLs K tS)) (v := highs)))) (w_var 3 (f := tI) (v := at0_3))) a_nil))) (fun z => (z.1, z.2.1)) fun _ _ _ h => h))⟩) hk_id (gl := by exact ⟨rfl, rfl, rfl, rfl, rfl, trivial⟩)) fun _ => stl_Ls))) fun _ => stl_Ls))) a_nil)) (fun _ _ => ⟨rfl, rfl, rfl, trivial⟩))
def w_l_cell (script : (List Int)) (k : Int) (Q : Int → Prop) (E : Er → Prop) : Prop :=
  W.run (W.ret (decide (k < (script.length : Int)))) E fun b => W.ite b
    (W.run (W.get script k) E Q)
    (W.run (W.ret (0 : Int)) E Q)
theorem ok_l_cell (c : Ct P K mg) : GF P w K mg base "_law_cell" 1 ["_law_script", "_law_k"] (spW K (fun d : (List Int) × Int => [.b (rQ K tI d.1), .b (tI d.2).b]) (fun d => w_l_cell d.1 d.2) (fun r : Int => .v (tI r)) (fun _ => [])) := by
  refine gf_mkA (fd_l_cell c) (fun _ F => bd_l_cell F) (glo_l_cell c) fun fd F => def_ok F sc_l_cell (fun d vs L => [some ((rQ K tI d.1).at_ L), some (tI d.2)]) (fun _ _ => []) (fun _ _ _ => []) ?_ (by intro _; rfl) (fun d vs L hv => match vs, hv with | [_, _], _ => rfl) (fun d vs hv => match vs, hv with | [_, _], _ => rfl) (fun d vs r hv => match vs, hv with | [_, _], _ => rfl)
  rintro cdv A outer s' H0 L S Q0 E0' ⟨script, k⟩ vs Q E hv nd hr fin hdQ
  have tk := (hdQ [] _ (List.Sublist.refl _)).tk
  have hd : ∀ Γ O, Hd _ _ Γ O E _ := fun Γ O => hdQ Γ O (List.nil_sublist _)
  have po : PassesOwn (model P w) _ _ _ := @own_cx P w K mg base "_law_cell" (defScope s_l_cell) (He.ga K "_law_cell") ["_law_script", "_law_k"] cdv A outer s' H0 E0'
  show SW _ _ _ _ _ _ (w_l_cell script k Q E)
  unfold w_l_cell
  refine s_if (t_lt (w_var 1 (f := tI) (v := k)) (w_len (free_len c) (f := tI) (RW.rn (r_lent 0 (f := rQ K tI) (v := script))))) ?_ ?_
  · exact f_ret (f := tI) fin (w_ix (f := tI) (r_lent 0 (f := rQ K tI) (v := script)) (w_var 1 (f := tI) (v := k)))
  · refine s_skip ?_
    exact f_ret (f := tI) fin (w_int (i := 0))
def w_l_kinds (e : Er) (Q : (List Bool) → Prop) (E : Er → Prop) : Prop :=
  W.lt [(is_BadNumber e), (is_BadText e), (is_BadName e)] fun flags : (List Bool) =>
  W.run (W.grd (flags.length + [(is_DuplicateName e), (is_UnknownName e), (is_Ring e)].length ≤ 100000) (flags ++ [(is_DuplicateName e), (is_UnknownName e), (is_Ring e)])) E fun flags_1 =>
  W.run (W.grd (flags_1.length + [(is_BadShares e), (is_UnlikeOrders e), (is_NotRising e)].length ≤ 100000) (flags_1 ++ [(is_BadShares e), (is_UnlikeOrders e), (is_NotRising e)])) E fun flags_2 =>
  W.run (W.grd (flags_2.length + [(is_NoThrow e), (is_HasRing e), (is_NoRing e)].length ≤ 100000) (flags_2 ++ [(is_NoThrow e), (is_HasRing e), (is_NoRing e)])) E fun flags_3 =>
  W.run (W.grd (flags_3.length + [(is_NothingToUndo e)].length ≤ 100000) (flags_3 ++ [(is_NothingToUndo e)])) E Q
theorem ok_l_kinds (c : Ct P K mg) : GF P w K mg base "_law_kinds" 1 ["_law_e"] (spW K (fun d : Er => [.b ((tErr K) d).b]) (fun d => w_l_kinds d) (fun r : (List Bool) => .o ((oLs OT.tB) r)) (fun _ => [])) := by
  refine gf_mkA (fd_l_kinds c) (fun _ F => bd_l_kinds F) (glo_l_kinds c) fun fd F => def_ok F sc_l_kinds (fun d vs L => [some ((tErr K) d), none]) (fun _ _ => []) (fun _ _ _ => []) ?_ (by intro _; rfl) (fun d vs L hv => match vs, hv with | [_], _ => rfl) (fun d vs hv => match vs, hv with | [_], _ => rfl) (fun d vs r hv => match vs, hv with | [_], _ => rfl)
  rintro cdv A outer s' H0 L S Q0 E0' e vs Q E hv nd hr fin hdQ
  have tk := (hdQ [] _ (List.Sublist.refl _)).tk
  have hd : ∀ Γ O, Hd _ _ Γ O E _ := fun Γ O => hdQ Γ O (List.nil_sublist _)
  have po : PassesOwn (model P w) _ _ _ := @own_cx P w K mg base "_law_kinds" (defScope s_l_kinds) (He.ga K "_law_kinds") ["_law_e", "_law_flags"] cdv A outer s' H0 E0'
  show SW _ _ _ _ _ _ (w_l_kinds e Q E)
  unfold w_l_kinds
  refine s_setV (Z := E) (i := 1) (f := (tLs K OT.tB)) (v := [(is_BadNumber e), (is_BadText e), (is_BadName e)]) (NW.settle (g := (tLs K OT.tB)) (NW.imp (n_lst (F := fun z : Bool × Bool × Bool × Unit => [OT.tB z.1, OT.tB z.2.1, OT.tB z.2.2.1]) (a_cons (EW.at (W.ret (is_BadNumber e)) (w_isE (cv := .ref (He.ga K "BadNumber")) is_BadNumber (free_isinstance c) (w_var 0 (f := (tErr K)) (v := e)) (w_cls (er_BadNumber c).mgx) tv_ref (fun x => ⟨xis c x, kx_BadNumber c x⟩))) (a_cons (EW.at (W.ret (is_BadText e)) (w_isE (cv := .ref (He.ga K "BadText")) is_BadText (free_isinstance c) (w_var 0 (f := (tErr K)) (v := e)) (w_cls (er_BadText c).mgx) tv_ref (fun x => ⟨xis c x, kx_BadText c x⟩))) (a_cons (EW.at (W.ret (is_BadName e)) (w_isE (cv := .ref (He.ga K "BadName")) is_BadName (free_isinstance c) (w_var 0 (f := (tErr K)) (v := e)) (w_cls (er_BadName c).mgx) tv_ref (fun x => ⟨xis c x, kx_BadName c x⟩))) a_nil)))) (g := oLs OT.tB) (fun z => [z.1, z.2.1, z.2.2.1]) fun _ => rfl) fun _ => stl_Ls) fun flags hq_flags => ?_
  refine s_set (i := 1) (f := (tLs K OT.tB)) (NW.settle (g := (tLs K OT.tB)) (n_cat (f := OT.tB) (EW.rl (w_var 1 (f := (tLs K OT.tB)) (v := flags))) (EW.rl (NW.settle (g := (tLs K OT.tB)) (NW.imp (n_lst (F := fun z : Bool × Bool × Bool × Unit => [OT.tB z.1, OT.tB z.2.1, OT.tB z.2.2.1]) (a_cons (EW.at (W.ret (is_DuplicateName e)) (w_isE (cv := .ref (He.ga K "DuplicateName")) is_DuplicateName (free_isinstance c) (w_var 0 (f := (tErr K)) (v := e)) (w_cls (er_DuplicateName c).mgx) tv_ref (fun x => ⟨xis c x, kx_DuplicateName c x⟩))) (a_cons (EW.at (W.ret (is_UnknownName e)) (w_isE (cv := .ref (He.ga K "UnknownName")) is_UnknownName (free_isinstance c) (w_var 0 (f := (tErr K)) (v := e)) (w_cls (er_UnknownName c).mgx) tv_ref (fun x => ⟨xis c x, kx_UnknownName c x⟩))) (a_cons (EW.at (W.ret (is_Ring e)) (w_isE (cv := .ref (He.ga K "Ring")) is_Ring (free_isinstance c) (w_var 0 (f := (tErr K)) (v := e)) (w_cls (er_Ring c).mgx) tv_ref (fun x => ⟨xis c x, kx_Ring c x⟩))) a_nil)))) (g := oLs OT.tB) (fun z => [z.1, z.2.1, z.2.2.1]) fun _ => rfl) fun _ => stl_Ls))) fun _ => stl_Ls) fun flags_1 => ?_
  refine s_set (i := 1) (f := (tLs K OT.tB)) (NW.settle (g := (tLs K OT.tB)) (n_cat (f := OT.tB) (EW.rl (w_var 1 (f := (tLs K OT.tB)) (v := flags_1))) (EW.rl (NW.settle (g := (tLs K OT.tB)) (NW.imp (n_lst (F := fun z : Bool × Bool × Bool × Unit => [OT.tB z.1, OT.tB z.2.1, OT.tB z.2.2.1]) (a_cons (EW.at (W.ret (is_BadShares e)) (w_isE (cv := .ref (He.ga K "BadShares")) is_BadShares (free_isinstance c) (w_var 0 (f := (tErr K)) (v := e)) (w_cls (er_BadShares c).mgx) tv_ref (fun x => ⟨xis c x, kx_BadShares c x⟩))) (a_cons (EW.at (W.ret (is_UnlikeOrders e)) (w_isE (cv := .ref (He.ga K "UnlikeOrders")) is_UnlikeOrders (free_isinstance c) (w_var 0 (f := (tErr K)) (v := e)) (w_cls (er_UnlikeOrders c).mgx) tv_ref (fun x => ⟨xis c x, kx_UnlikeOrders c x⟩))) (a_cons (EW.at (W.ret (is_NotRising e)) (w_isE (cv := .ref (He.ga K "NotRising")) is_NotRising (free_isinstance c) (w_var 0 (f := (tErr K)) (v := e)) (w_cls (er_NotRising c).mgx) tv_ref (fun x => ⟨xis c x, kx_NotRising c x⟩))) a_nil)))) (g := oLs OT.tB) (fun z => [z.1, z.2.1, z.2.2.1]) fun _ => rfl) fun _ => stl_Ls))) fun _ => stl_Ls) fun flags_2 => ?_
  refine s_set (i := 1) (f := (tLs K OT.tB)) (NW.settle (g := (tLs K OT.tB)) (n_cat (f := OT.tB) (EW.rl (w_var 1 (f := (tLs K OT.tB)) (v := flags_2))) (EW.rl (NW.settle (g := (tLs K OT.tB)) (NW.imp (n_lst (F := fun z : Bool × Bool × Bool × Unit => [OT.tB z.1, OT.tB z.2.1, OT.tB z.2.2.1]) (a_cons (EW.at (W.ret (is_NoThrow e)) (w_isE (cv := .ref (He.ga K "NoThrow")) is_NoThrow (free_isinstance c) (w_var 0 (f := (tErr K)) (v := e)) (w_cls (er_NoThrow c).mgx) tv_ref (fun x => ⟨xis c x, kx_NoThrow c x⟩))) (a_cons (EW.at (W.ret (is_HasRing e)) (w_isE (cv := .ref (He.ga K "HasRing")) is_HasRing (free_isinstance c) (w_var 0 (f := (tErr K)) (v := e)) (w_cls (er_HasRing c).mgx) tv_ref (fun x => ⟨xis c x, kx_HasRing c x⟩))) (a_cons (EW.at (W.ret (is_NoRing e)) (w_isE (cv := .ref (He.ga K "NoRing")) is_NoRing (free_isinstance c) (w_var 0 (f := (tErr K)) (v := e)) (w_cls (er_NoRing c).mgx) tv_ref (fun x => ⟨xis c x, kx_NoRing c x⟩))) a_nil)))) (g := oLs OT.tB) (fun z => [z.1, z.2.1, z.2.2.1]) fun _ => rfl) fun _ => stl_Ls))) fun _ => stl_Ls) fun flags_3 => ?_
  exact f_retN (f := (oLs OT.tB)) fin (n_cat (f := OT.tB) (EW.rl (w_var 1 (f := (tLs K OT.tB)) (v := flags_3))) (EW.rl (NW.settle (g := (tLs K OT.tB)) (NW.imp (n_lst (F := fun z : Bool × Unit => [OT.tB z.1]) (a_cons (EW.at (W.ret (is_NothingToUndo e)) (w_isE (cv := .ref (He.ga K "NothingToUndo")) is_NothingToUndo (free_isinstance c) (w_var 0 (f := (tErr K)) (v := e)) (w_cls (er_NothingToUndo c).mgx) tv_ref (fun x => ⟨xis c x, kx_NothingToUndo c x⟩))) a_nil)) (g := oLs OT.tB) (fun z => [z.1]) fun _ => rfl) fun _ => stl_Ls)))
def w_l_simple (which : Int) (n : Int) (name : Str) (Q : (Er × Bool) → Prop) (E : Er → Prop) : Prop :=
  W.run (W.ret (decide (which = (0 : Int)))) E fun b => W.ite b
    (W.run (W.grd (fmtOk (V.int n)) (Er.badNumber n)) E fun e =>
  W.run (W.bind (W.bind (W.as (W.ret e) (fun z : Int => Er.badNumber z) (fun z : Int => z)) fun z => W.ret (decide (z = n))) fun z_1 => W.ret (e, z_1)) E Q)
    (W.run (W.ret (decide (which = (1 : Int)))) E fun b => W.ite b
    (W.run (W.grd (fmtOk (V.int n)) (Er.badText n)) E fun e_1 =>
  W.run (W.bind (W.bind (W.as (W.ret e_1) (fun z : Int => Er.badText z) (fun z : Int => z)) fun z_2 => W.ret (decide (z_2 = n))) fun z_3 => W.ret (e_1, z_3)) E Q)
    (W.run (W.ret (decide (which = (2 : Int)))) E fun b => W.ite b
    (W.run (W.grd (fmtOk (V.str name)) (Er.badName name)) E fun e_2 =>
  W.run (W.bind (W.bind (W.as (W.ret e_2) (fun z : Str => Er.badName z) (fun z : Str => z)) fun z_4 => W.ret (decide (z_4 = name))) fun z_5 => W.ret (e_2, z_5)) E Q)
    (W.run (W.ret (decide (which = (3 : Int)))) E fun b => W.ite b
    (W.run (W.grd (fmtOk (V.str name)) (Er.dup name)) E fun e_3 =>
  W.run (W.bind (W.bind (W.as (W.ret e_3) (fun z : Str => Er.dup z) (fun z : Str => z)) fun z_6 => W.ret (decide (z_6 = name))) fun z_7 => W.ret (e_3, z_7)) E Q)
    (W.run (W.grd (fmtOk (V.str name)) (Er.unknown name)) E fun e_4 =>
  W.run (W.bind (W.bind (W.as (W.ret e_4) (fun z : Str => Er.unknown z) (fun z : Str => z)) fun z_8 => W.ret (decide (z_8 = name))) fun z_9 => W.ret (e_4, z_9)) E Q))))
theorem ok_l_simple (c : Ct P K mg) : GF P w K mg base "_law_simple" 3 ["_law_which", "_law_n", "_law_name"] (spW K (fun d : Int × Int × Str => [.b (tI d.1).b, .b (tI d.2.1).b, .b (tS d.2.2).b]) (fun d => w_l_simple d.1 d.2.1 d.2.2) (fun r : (Er × Bool) => .v ((fun q : (Er × Bool) => tL K [(tErr K) q.1, OT.tB q.2]) r)) (fun _ => [])) := by
  refine gf_mkA (fd_l_simple c) (fun _ F => bd_l_simple F) (glo_l_simple c) fun fd F => def_ok F sc_l_simple (fun d vs L => [some (tI d.1), some (tI d.2.1), some (tS d.2.2), none]) (fun _ _ => []) (fun _ _ _ => []) ?_ (by intro _; rfl) (fun d vs L hv => match vs, hv with | [_, _, _], _ => rfl) (fun d vs hv => match vs, hv with | [_, _, _], _ => rfl) (fun d vs r hv => match vs, hv with | [_, _, _], _ => rfl)
  rintro cdv A outer s' H0 L S Q0 E0' ⟨which, n, name⟩ vs Q E hv nd hr fin hdQ
  have tk := (hdQ [] _ (List.Sublist.refl _)).tk
  have hd : ∀ Γ O, Hd _ _ Γ O E _ := fun Γ O => hdQ Γ O (List.nil_sublist _)
  have po : PassesOwn (model P w) _ _ _ := @own_cx P w K mg base "_law_simple" (defScope s_l_simple) (He.ga K "_law_simple") ["_law_which", "_law_n", "_law_name", "_law_e"] cdv A outer s' H0 E0'
  show SW _ _ _ _ _ _ (w_l_simple which n name Q E)
  unfold w_l_simple
  refine s_if (t_eqI (w_var 0 (f := tI) (v := which)) (w_int (i := 0))) ?_ ?_
  · refine s_set (i := 3) (f := (tErr K)) (w_mkE1 (fun z => Er.badNumber z) (ok_BadNumber c) (hr.mono (by decide)) (w_var 1 (f := tI) (v := n)) pl_I) fun e => ?_
    exact f_ret (f := (fun q : (Er × Bool) => tL K [(tErr K) q.1, OT.tB q.2])) fin (NW.settle (f := fun q : (Er × Bool) => oL ([(tErr K) q.1, OT.tB q.2].map MP.o)) (g := (fun q : (Er × Bool) => tL K [(tErr K) q.1, OT.tB q.2])) (NW.imp (n_lst (F := fun z : Er × Bool × Unit => [(tErr K) z.1, OT.tB z.2.1]) (a_cons (w_var 3 (f := (tErr K)) (v := e)) (a_cons (w_eqI (w_xv (g := tI) (fun z : Int => Er.badNumber z) (fun z : Int => z) (cx := "BadNumber") (er_BadNumber c).xf ((er_BadNumber c).no "n" (by simp [e_BadNumber])) (w_var 3 (f := (tErr K)) (v := e))) (w_var 1 (f := tI) (v := n))) a_nil))) (fun z => (z.1, z.2.1)) fun _ => rfl) fun _ => (stl_L (M := fun m => m) fun _ => stl_m))
  · refine s_skip ?_
    refine s_if (t_eqI (w_var 0 (f := tI) (v := which)) (w_int (i := 1))) ?_ ?_
    · refine s_set (i := 3) (f := (tErr K)) (w_mkE1 (fun z => Er.badText z) (ok_BadText c) (hr.mono (by decide)) (w_var 1 (f := tI) (v := n)) pl_I) fun e_1 => ?_
      exact f_ret (f := (fun q : (Er × Bool) => tL K [(tErr K) q.1, OT.tB q.2])) fin (NW.settle (f := fun q : (Er × Bool) => oL ([(tErr K) q.1, OT.tB q.2].map MP.o)) (g := (fun q : (Er × Bool) => tL K [(tErr K) q.1, OT.tB q.2])) (NW.imp (n_lst (F := fun z : Er × Bool × Unit => [(tErr K) z.1, OT.tB z.2.1]) (a_cons (w_var 3 (f := (tErr K)) (v := e_1)) (a_cons (w_eqI (w_xv (g := tI) (fun z : Int => Er.badText z) (fun z : Int => z) (cx := "BadText") (er_BadText c).xf ((er_BadText c).no "at" (by simp [e_BadText])) (w_var 3 (f := (tErr K)) (v := e_1))) (w_var 1 (f := tI) (v := n))) a_nil))) (fun z => (z.1, z.2.1)) fun _ => rfl) fun _ => (stl_L (M := fun m => m) fun _ => stl_m))
    · refine s_skip ?_
      refine s_if (t_eqI (w_var 0 (f := tI) (v := which)) (w_int (i := 2))) ?_ ?_
      · refine s_set (i := 3) (f := (tErr K)) (w_mkE1 (fun z => Er.badName z) (ok_BadName c) (hr.mono (by decide)) (w_var 2 (f := tS) (v := name)) pl_S) fun e_2 => ?_
        exact f_ret (f := (fun q : (Er × Bool) => tL K [(tErr K) q.1, OT.tB q.2])) fin (NW.settle (f := fun q : (Er × Bool) => oL ([(tErr K) q.1, OT.tB q.2].map MP.o)) (g := (fun q : (Er × Bool) => tL K [(tErr K) q.1, OT.tB q.2])) (NW.imp (n_lst (F := fun z : Er × Bool × Unit => [(tErr K) z.1, OT.tB z.2.1]) (a_cons (w_var 3 (f := (tErr K)) (v := e_2)) (a_cons (w_eqS (w_xv (g := tS) (fun z : Str => Er.badName z) (fun z : Str => z) (cx := "BadName") (er_BadName c).xf ((er_BadName c).no "name" (by simp [e_BadName])) (w_var 3 (f := (tErr K)) (v := e_2))) (w_var 2 (f := tS) (v := name))) a_nil))) (fun z => (z.1, z.2.1)) fun _ => rfl) fun _ => (stl_L (M := fun m => m) fun _ => stl_m))
      · refine s_skip ?_
        refine s_if (t_eqI (w_var 0 (f := tI) (v := which)) (w_int (i := 3))) ?_ ?_
        · refine s_set (i := 3) (f := (tErr K)) (w_mkE1 (fun z => Er.dup z) (ok_DuplicateName c) (hr.mono (by decide)) (w_var 2 (f := tS) (v := name)) pl_S) fun e_3 => ?_
          exact f_ret (f := (fun q : (Er × Bool) => tL K [(tErr K) q.1, OT.tB q.2])) fin (NW.settle (f := fun q : (Er × Bool) => oL ([(tErr K) q.1, OT.tB q.2].map MP.o)) (g := (fun q : (Er × Bool) => tL K [(tErr K) q.1, OT.tB q.2])) (NW.imp (n_lst (F := fun z : Er × Bool × Unit => [(tErr K) z.1, OT.tB z.2.1]) (a_cons (w_var 3 (f := (tErr K)) (v := e_3)) (a_cons (w_eqS (w_xv (g := tS) (fun z : Str => Er.dup z) (fun z : Str => z) (cx := "DuplicateName") (er_DuplicateName c).xf ((er_DuplicateName c).no "name" (by simp [e_DuplicateName])) (w_var 3 (f := (tErr K)) (v := e_3))) (w_var 2 (f := tS) (v := name))) a_nil))) (fun z => (z.1, z.2.1)) fun _ => rfl) fun _ => (stl_L (M := fun m => m) fun _ => stl_m))
        · refine s_skip ?_
          refine s_set (i := 3) (f := (tErr K)) (w_mkE1 (fun z => Er.unknown z) (ok_UnknownName c) (hr.mono (by decide)) (w_var 2 (f := tS) (v := name)) pl_S) fun e_4 => ?_
          exact f_ret (f := (fun q : (Er × Bool) => tL K [(tErr K) q.1, OT.tB q.2])) fin (NW.settle (f := fun q : (Er × Bool) => oL ([(tErr K) q.1, OT.tB q.2].map MP.o)) (g := (fun q : (Er × Bool) => tL K [(tErr K) q.1, OT.tB q.2])) (NW.imp (n_lst (F := fun z : Er × Bool × Unit => [(tErr K) z.1, OT.tB z.2.1]) (a_cons (w_var 3 (f := (tErr K)) (v := e_4)) (a_cons (w_eqS (w_xv (g := tS) (fun z : Str => Er.unknown z) (fun z : Str => z) (cx := "UnknownName") (er_UnknownName c).xf ((er_UnknownName c).no "name" (by simp [e_UnknownName])) (w_var 3 (f := (tErr K)) (v := e_4))) (w_var 2 (f := tS) (v := name))) a_nil))) (fun z => (z.1, z.2.1)) fun _ => rfl) fun _ => (stl_L (M := fun m => m) fun _ => stl_m))
def w_l_listed (name : Str) (Q : Bool → Prop) (E : Er → Prop) : Prop :=
  W.run (W.bind (W.as (W.grd True (Er.ring [(("a" : Str), name).1, (("a" : Str), name).2])) (fun z : List Str => Er.ring z) (fun z : List Str => z)) fun z => W.bind (W.as (W.grd True (Er.hasRing [(("a" : Str), name).1, (("a" : Str), name).2])) (fun z : List Str => Er.hasRing z) (fun z : List Str => z)) fun z_1 => W.bind (W.as (W.grd (("a" : Str).length ≤ 100000 ∧ ("b" : Str).length ≤ 100000) (Er.notRising ("a" : Str) ("b" : Str) [(("a" : Str), name).1, (("a" : Str), name).2])) (fun z : Str × Str × List Str => Er.notRising z.1 z.2.1 z.2.2) (fun z : Str × Str × List Str => z.2.2)) fun z_2 => W.ret [z, z_1, z_2]) E fun told =>
  W.run (W.bind (W.grd ((3 : Int) ≤ 100000 ∧ -100000 ≤ (3 : Int) ∧ [[("a" : Str), name]].length * (3 : Int).toNat ≤ 100000) (List.replicate (3 : Int).toNat [[("a" : Str), name]]).flatten) fun z_3 => W.ret (decide (told = z_3))) E Q
theorem ok_l_listed (c : Ct P K mg) : GF P w K mg base "_law_listed" 5 ["_law_name"] (spW K (fun d : Str => [.b (tS d).b]) (fun d => w_l_listed d) (fun r : Bool => .v (OT.tB r)) (fun _ => [])) := by
  refine gf_mkA (fd_l_listed c) (fun _ F => bd_l_listed F) (glo_l_listed c) fun fd F => def_ok F sc_l_listed (fun d vs L => [some (tS d), none]) (fun _ _ => []) (fun _ _ _ => []) ?_ (by intro _; rfl) (fun d vs L hv => match vs, hv with | [_], _ => rfl) (fun d vs hv => match vs, hv with | [_], _ => rfl) (fun d vs r hv => match vs, hv with | [_], _ => rfl)
  rintro cdv A outer s' H0 L S Q0 E0' name vs Q E hv nd hr fin hdQ
  have tk := (hdQ [] _ (List.Sublist.refl _)).tk
  have hd : ∀ Γ O, Hd _ _ Γ O E _ := fun Γ O => hdQ Γ O (List.nil_sublist _)
  have po : PassesOwn (model P w) _ _ _ := @own_cx P w K mg base "_law_listed" (defScope s_l_listed) (He.ga K "_law_listed") ["_law_name", "_law_told"] cdv A outer s' H0 E0'
  show SW _ _ _ _ _ _ (w_l_listed name Q E)
  unfold w_l_listed
  refine s_set (i := 1) (f := (tLs K (tLs K tS))) (NW.settle (g := (tLs K (tLs K tS))) (NW.imp (n_lst (F := fun z : (List Str) × (List Str) × (List Str) × Unit => [(tLs K tS) z.1, (tLs K tS) z.2.1, (tLs K tS) z.2.2.1]) (a_cons (w_xv (g := (tLs K tS)) (fun z : List Str => Er.ring z) (fun z : List Str => z) (cx := "Ring") (er_Ring c).xf ((er_Ring c).no "names" (by simp [e_Ring])) (w_mkEL (fun z => Er.ring z) (ok_Ring c) (hr.mono (by decide)) (RW.tq (EW.rt (EW.imp (f := (tP2 K tS tS)) (g := (tTs K tS)) (EW.imp (f := fun z : Str × Str × Unit => tT K ((fun z : Str × Str × Unit => [tS z.1, tS z.2.1]) z)) (w_tup (F := fun z : Str × Str × Unit => [tS z.1, tS z.2.1]) (a_cons (w_str (i := ("a" : Str))) (a_cons (w_var 0 (f := tS) (v := name)) a_nil))) (fun z => (z.1, z.2.1)) fun _ _ _ h => h) (fun z => [z.1, z.2]) fun _ _ _ h => h))))) (a_cons (w_xv (g := (tLs K tS)) (fun z : List Str => Er.hasRing z) (fun z : List Str => z) (cx := "HasRing") (er_HasRing c).xf ((er_HasRing c).no "names" (by simp [e_HasRing])) (w_mkEL (fun z => Er.hasRing z) (ok_HasRing c) (hr.mono (by decide)) (RW.tq (EW.rt (EW.imp (f := (tP2 K tS tS)) (g := (tTs K tS)) (EW.imp (f := fun z : Str × Str × Unit => tT K ((fun z : Str × Str × Unit => [tS z.1, tS z.2.1]) z)) (w_tup (F := fun z : Str × Str × Unit => [tS z.1, tS z.2.1]) (a_cons (w_str (i := ("a" : Str))) (a_cons (w_var 0 (f := tS) (v := name)) a_nil))) (fun z => (z.1, z.2.1)) fun _ _ _ h => h) (fun z => [z.1, z.2]) fun _ _ _ h => h))))) (a_cons (w_xv (g := (tLs K tS)) (fun z : Str × Str × List Str => Er.notRising z.1 z.2.1 z.2.2) (fun z : Str × Str × List Str => z.2.2) (cx := "NotRising") (er_NotRising c).xf ((er_NotRising c).no "names" (by simp [e_NotRising])) (w_mkE3 (fun a b l => Er.notRising a b l) (ok_NotRising c) (hr.mono (by decide)) (w_str (i := ("a" : Str))) (w_str (i := ("b" : Str))) (RW.tq (EW.rt (EW.imp (f := (tP2 K tS tS)) (g := (tTs K tS)) (EW.imp (f := fun z : Str × Str × Unit => tT K ((fun z : Str × Str × Unit => [tS z.1, tS z.2.1]) z)) (w_tup (F := fun z : Str × Str × Unit => [tS z.1, tS z.2.1]) (a_cons (w_str (i := ("a" : Str))) (a_cons (w_var 0 (f := tS) (v := name)) a_nil))) (fun z => (z.1, z.2.1)) fun _ _ _ h => h) (fun z => [z.1, z.2]) fun _ _ _ h => h))))) a_nil)))) (g := oLs (tLs K tS)) (fun z => [z.1, z.2.1, z.2.2.1]) fun _ => rfl) fun _ => stl_Ls) fun told => ?_
  exact f_ret (f := OT.tB) fin (w_eqM (cmp_L (En.lst en_str)) (hr.mono (by decide)) (EW.rl (w_var 1 (f := (tLs K (tLs K tS))) (v := told))) (RW.rn (EW.rl (NW.settle (g := (tLs K (tLs K tS))) (n_rep (f := (tLs K tS)) (EW.rl (NW.settle (g := (tLs K (tLs K tS))) (NW.imp (n_lst (F := fun z : (List Str) × Unit => [(tLs K tS) z.1]) (a_cons (NW.settle (g := (tLs K tS)) (NW.imp (n_lst (F := fun z : Str × Str × Unit => [tS z.1, tS z.2.1]) (a_cons (w_str (i := ("a" : Str))) (a_cons (w_var 0 (f := tS) (v := name)) a_nil))) (g := oLs tS) (fun z => [z.1, z.2.1]) fun _ => rfl) fun _ => stl_Ls) a_nil)) (g := oLs (tLs K tS)) (fun z => [z.1]) fun _ => rfl) fun _ => stl_Ls)) (w_int (i := 3))) fun _ => stl_Ls))))
def w_l_made (which : Int) (n : Int) (name : Str) (names : (List Str)) (Q : (Er × Bool) → Prop) (E : Er → Prop) : Prop :=
  W.run (W.ret (decide (which < (5 : Int)))) E fun b => W.ite b
    (W.run (w_l_simple which n name) E Q)
    (W.run (W.ret (decide (which = (5 : Int)))) E fun b => W.ite b
    (W.run (W.grd True (Er.ring names)) E fun e =>
  W.run (W.bind (W.bind (W.as (W.ret e) (fun z : List Str => Er.ring z) (fun z : List Str => z)) fun z => W.ret (decide (z = [("a" : Str), name]))) fun z_1 => W.ret (e, z_1)) E Q)
    (W.run (W.ret (decide (which = (6 : Int)))) E fun b => W.ite b
    (W.run (W.bind (w_Ratio_init n (7 : Int)) fun z_2 => W.grd True (Er.badShares z_2)) E fun e_1 =>
  W.run (W.bind (W.bind (W.as (W.ret e_1) (fun z : Rt => Er.badShares z) (fun z : Rt => z)) fun z_3 => W.bind (w_Ratio_init n (7 : Int)) fun z_4 => fun Q _ => w_Ratio_eq z_3 z_4 Q E0) fun z_5 => W.ret (e_1, z_5)) E Q)
    (W.run (W.ret (decide (which = (7 : Int)))) E fun b => W.ite b
    (W.run (W.bind (w_Order_chain [("a" : Str), ("b" : Str)]) fun z_6 => W.bind (w_Order_crown (2 : Int)) fun z_7 => W.grd True (Er.unlike z_6 z_7)) E fun e_2 =>
  W.run (W.bind (W.bind (W.bind (W.as (W.ret e_2) (fun z : Ord × Ord => Er.unlike z.1 z.2) (fun z : Ord × Ord => z.1)) fun z_8 => W.bind (w_Order_chain [("a" : Str), ("b" : Str)]) fun z_9 => fun Q _ => w_Order_eq z_8 z_9 Q E0) fun z_12 => W.sel z_12 (W.bind (W.as (W.ret e_2) (fun z : Ord × Ord => Er.unlike z.1 z.2) (fun z : Ord × Ord => z.2)) fun z_10 => W.bind (w_Order_crown (2 : Int)) fun z_11 => fun Q _ => w_Order_eq z_10 z_11 Q E0) (W.ret false)) fun z_13 => W.ret (e_2, z_13)) E Q)
    (W.run (W.ret (decide (which = (8 : Int)))) E fun b => W.ite b
    (W.run (W.grd (name.length ≤ 100000 ∧ ("b" : Str).length ≤ 100000) (Er.notRising name ("b" : Str) names)) E fun e_3 =>
  W.run (W.bind (W.bind (W.bind (W.bind (W.as (W.ret e_3) (fun z : Str × Str × List Str => Er.notRising z.1 z.2.1 z.2.2) (fun z : Str × Str × List Str => z.1)) fun z_14 => W.ret (Dy.s z_14)) fun z_17 => W.bind (W.bind (W.as (W.ret e_3) (fun z : Str × Str × List Str => Er.notRising z.1 z.2.1 z.2.2) (fun z : Str × Str × List Str => z.2.1)) fun z_15 => W.ret (Dy.s z_15)) fun z_18 => W.bind (W.bind (W.as (W.ret e_3) (fun z : Str × Str × List Str => Er.notRising z.1 z.2.1 z.2.2) (fun z : Str × Str × List Str => z.2.2)) fun z_16 => W.ret ((fun xs : (List Str) => Dy.l (xs.map Dy.s)) z_16)) fun z_19 => W.ret [z_17, z_18, z_19]) fun z_20 => W.grd (z_20 = [(Dy.s name), (Dy.s ("b" : Str)), ((fun xs : (List Str) => Dy.l (xs.map Dy.s)) [("a" : Str), name])] ∧ Dy.deps z_20 ≤ 3) true) fun z_21 => W.ret (e_3, z_21)) E Q)
    (W.run (W.ret (decide (which = (9 : Int)))) E fun b => W.ite b
    (W.run (W.ret (Er.noThrow, true)) E Q)
    (W.run (W.ret (decide (which = (10 : Int)))) E fun b => W.ite b
    (W.run (W.grd True (Er.hasRing names)) E fun e_4 =>
  W.run (W.bind (W.bind (W.as (W.ret e_4) (fun z : List Str => Er.hasRing z) (fun z : List Str => z)) fun z_22 => W.ret (decide (z_22 = [("a" : Str), name]))) fun z_23 => W.ret (e_4, z_23)) E Q)
    (W.run (W.bind (W.get [Er.noRing, Er.nothing] (which - (11 : Int))) fun z_24 => W.ret (z_24, true)) E Q)))))))
theorem ok_l_made (c : Ct P K mg) : GF P w K mg base "_law_made" 8 ["_law_which", "_law_n", "_law_name", "_law_names"] (spW K (fun d : Int × Int × Str × (List Str) => [.b (tI d.1).b, .b (tI d.2.1).b, .b (tS d.2.2.1).b, .b (rL tS d.2.2.2)]) (fun d => w_l_made d.1 d.2.1 d.2.2.1 d.2.2.2) (fun r : (Er × Bool) => .v ((fun q : (Er × Bool) => tL K [(tErr K) q.1, OT.tB q.2]) r)) (fun _ => [])) := by
  refine gf_mkA (fd_l_made c) (fun _ F => bd_l_made F) (glo_l_made c) fun fd F => def_ok F sc_l_made (fun d vs L => [some (tI d.1), some (tI d.2.1), some (tS d.2.2.1), some ((rL tS d.2.2.2).at_ L), none]) (fun _ _ => []) (fun _ _ _ => []) ?_ (by intro _; rfl) (fun d vs L hv => match vs, hv with | [_, _, _, _], _ => rfl) (fun d vs hv => match vs, hv with | [_, _, _, _], _ => rfl) (fun d vs r hv => match vs, hv with | [_, _, _, _], _ => rfl)
  rintro cdv A outer s' H0 L S Q0 E0' ⟨which, n, name, names⟩ vs Q E hv nd hr fin hdQ
  have tk := (hdQ [] _ (List.Sublist.refl _)).tk
  have hd : ∀ Γ O, Hd _ _ Γ O E _ := fun Γ O => hdQ Γ O (List.nil_sublist _)
  have po : PassesOwn (model P w) _ _ _ := @own_cx P w K mg base "_law_made" (defScope s_l_made) (He.ga K "_law_made") ["_law_which", "_law_n", "_law_name", "_law_names", "_law_e"] cdv A outer s' H0 E0'
  show SW _ _ _ _ _ _ (w_l_made which n name names Q E)
  unfold w_l_made
  refine s_if (t_lt (w_var 0 (f := tI) (v := which)) (w_int (i := 5))) ?_ ?_
  · exact f_ret (f := (fun q : (Er × Bool) => tL K [(tErr K) q.1, OT.tB q.2])) fin (w_fn (f := (fun q : (Er × Bool) => tL K [(tErr K) q.1, OT.tB q.2])) (ok_l_simple c) (hr.mono (by decide)) (hd _ _) (fun t => (t.1, t.2.1, t.2.2.1)) (a_cons (w_var 0 (f := tI) (v := which)) (a_cons (w_var 1 (f := tI) (v := n)) (a_cons (w_var 2 (f := tS) (v := name)) a_nil))) (fun _ => ⟨rfl, rfl, rfl, trivial⟩))
  · refine s_skip ?_
    refine s_if (t_eqI (w_var 0 (f := tI) (v := which)) (w_int (i := 5))) ?_ ?_
    · refine s_set (i := 4) (f := (tErr K)) (w_mkEL (fun z => Er.ring z) (ok_Ring c) (hr.mono (by decide)) (RW.q (r_lent 3 (f := rL tS) (v := names)))) fun e => ?_
      exact f_ret (f := (fun q : (Er × Bool) => tL K [(tErr K) q.1, OT.tB q.2])) fin (NW.settle (f := fun q : (Er × Bool) => oL ([(tErr K) q.1, OT.tB q.2].map MP.o)) (g := (fun q : (Er × Bool) => tL K [(tErr K) q.1, OT.tB q.2])) (NW.imp (n_lst (F := fun z : Er × Bool × Unit => [(tErr K) z.1, OT.tB z.2.1]) (a_cons (w_var 4 (f := (tErr K)) (v := e)) (a_cons (w_eqM (cmp_L en_str) (hr.mono (by decide)) (EW.rl (w_xv (g := (tLs K tS)) (fun z : List Str => Er.ring z) (fun z : List Str => z) (cx := "Ring") (er_Ring c).xf ((er_Ring c).no "names" (by simp [e_Ring])) (w_var 4 (f := (tErr K)) (v := e)))) (RW.rn (EW.rl (NW.settle (g := (tLs K tS)) (NW.imp (n_lst (F := fun z : Str × Str × Unit => [tS z.1, tS z.2.1]) (a_cons (w_str (i := ("a" : Str))) (a_cons (w_var 2 (f := tS) (v := name)) a_nil))) (g := oLs tS) (fun z => [z.1, z.2.1]) fun _ => rfl) fun _ => stl_Ls)))) a_nil))) (fun z => (z.1, z.2.1)) fun _ => rfl) fun _ => (stl_L (M := fun m => m) fun _ => stl_m))
    · refine s_skip ?_
      refine s_if (t_eqI (w_var 0 (f := tI) (v := which)) (w_int (i := 6))) ?_ ?_
      · refine s_set (i := 4) (f := (tErr K)) (w_mkEV (f := (tRat K)) (fun z => Er.badShares z) (ok_BadShares c) (hr.mono (by decide)) (NW.settle (f := (fun r : Rt => oI (He.ga K "Ratio") [("top", MP.o (tI r.top)), ("bottom", MP.o (tI r.bottom))])) (g := (tRat K)) (n_make (f := (fun r : Rt => oI (He.ga K "Ratio") [("top", MP.o (tI r.top)), ("bottom", MP.o (tI r.bottom))])) (ok_Ratio_init c) (hr.mono (by decide)) (hd _ _) (fun t => (t.1, t.2.1)) (a_cons (w_var 1 (f := tI) (v := n)) (a_cons (w_int (i := 7)) a_nil)) (fun _ _ => ⟨rfl, rfl, rfl, trivial⟩)) fun _ => (stl_I ⟨rfl, stl_m, rfl, stl_m, trivial⟩))) fun e_1 => ?_
        exact f_ret (f := (fun q : (Er × Bool) => tL K [(tErr K) q.1, OT.tB q.2])) fin (NW.settle (f := fun q : (Er × Bool) => oL ([(tErr K) q.1, OT.tB q.2].map MP.o)) (g := (fun q : (Er × Bool) => tL K [(tErr K) q.1, OT.tB q.2])) (NW.imp (n_lst (F := fun z : Er × Bool × Unit => [(tErr K) z.1, OT.tB z.2.1]) (a_cons (w_var 4 (f := (tErr K)) (v := e_1)) (a_cons (w_owneq (ok_Ratio_eq c) (hr.mono (by decide)) (fun x y => (x, y)) (EW.rb (w_xv (g := (tRat K)) (fun z : Rt => Er.badShares z) (fun z : Rt => z) (cx := "BadShares") (er_BadShares c).xf ((er_BadShares c).no "total" (by simp [e_BadShares])) (w_var 4 (f := (tErr K)) (v := e_1)))) (EW.rb (NW.settle (f := (fun r : Rt => oI (He.ga K "Ratio") [("top", MP.o (tI r.top)), ("bottom", MP.o (tI r.bottom))])) (g := (tRat K)) (n_make (f := (fun r : Rt => oI (He.ga K "Ratio") [("top", MP.o (tI r.top)), ("bottom", MP.o (tI r.bottom))])) (ok_Ratio_init c) (hr.mono (by decide)) (hd _ _) (fun t => (t.1, t.2.1)) (a_cons (w_var 1 (f := tI) (v := n)) (a_cons (w_int (i := 7)) a_nil)) (fun _ _ => ⟨rfl, rfl, rfl, trivial⟩)) fun _ => (stl_I ⟨rfl, stl_m, rfl, stl_m, trivial⟩))) (fun _ => ins_tO) (fun _ => ins_tO) (fun _ _ => ⟨rfl, rfl, trivial⟩)) a_nil))) (fun z => (z.1, z.2.1)) fun _ => rfl) fun _ => (stl_L (M := fun m => m) fun _ => stl_m))
      · refine s_skip ?_
        refine s_if (t_eqI (w_var 0 (f := tI) (v := which)) (w_int (i := 7))) ?_ ?_
        · refine s_set (i := 4) (f := (tErr K)) (w_mkE2 (f := tOrd K) (g := tOrd K) (fun a b => Er.unlike a b) (ok_UnlikeOrders c) (hr.mono (by decide)) (NW.settle (f := (fun r : Ord => oI (He.ga K "Order") [("names", MP.o (tZs K tS r.names)), ("above", oDs (tTs K tS) r.above)])) (g := (tOrd K)) (n_star (f := (fun r : Ord => oI (He.ga K "Order") [("names", MP.o (tZs K tS r.names)), ("above", oDs (tTs K tS) r.above)])) (ok_Order_chain c) (hr.mono (by decide)) (hd _ _) (fun t => [t.1, t.2.1]) (w_cls (glo_Order c)) (a_cons (w_str (i := ("a" : Str))) (a_cons (w_str (i := ("b" : Str))) a_nil))) fun _ => (stl_I ⟨rfl, stl_m, rfl, stl_Ds, trivial⟩)) (NW.settle (f := (fun r : Ord => oI (He.ga K "Order") [("names", MP.o (tZs K tS r.names)), ("above", oDs (tTs K tS) r.above)])) (g := (tOrd K)) (n_cm (f := (fun r : Ord => oI (He.ga K "Order") [("names", MP.o (tZs K tS r.names)), ("above", oDs (tTs K tS) r.above)])) (ok_Order_crown c) (hr.mono (by decide)) (hd _ _) (fun t => t.1) (w_cls (glo_Order c)) (a_cons (w_int (i := 2)) a_nil) (fun _ => ⟨rfl, rfl, trivial⟩)) fun _ => (stl_I ⟨rfl, stl_m, rfl, stl_Ds, trivial⟩))) fun e_2 => ?_
          exact f_ret (f := (fun q : (Er × Bool) => tL K [(tErr K) q.1, OT.tB q.2])) fin (NW.settle (f := fun q : (Er × Bool) => oL ([(tErr K) q.1, OT.tB q.2].map MP.o)) (g := (fun q : (Er × Bool) => tL K [(tErr K) q.1, OT.tB q.2])) (NW.imp (n_lst (F := fun z : Er × Bool × Unit => [(tErr K) z.1, OT.tB z.2.1]) (a_cons (w_var 4 (f := (tErr K)) (v := e_2)) (a_cons (w_and (w_owneq (ok_Order_eq c) (hr.mono (by decide)) (fun x y => (x, y)) (EW.rb (w_xv (g := (tOrd K)) (fun z : Ord × Ord => Er.unlike z.1 z.2) (fun z : Ord × Ord => z.1) (cx := "UnlikeOrders") (er_UnlikeOrders c).xf ((er_UnlikeOrders c).no "first" (by simp [e_UnlikeOrders])) (w_var 4 (f := (tErr K)) (v := e_2)))) (EW.rb (NW.settle (f := (fun r : Ord => oI (He.ga K "Order") [("names", MP.o (tZs K tS r.names)), ("above", oDs (tTs K tS) r.above)])) (g := (tOrd K)) (n_star (f := (fun r : Ord => oI (He.ga K "Order") [("names", MP.o (tZs K tS r.names)), ("above", oDs (tTs K tS) r.above)])) (ok_Order_chain c) (hr.mono (by decide)) (hd _ _) (fun t => [t.1, t.2.1]) (w_cls (glo_Order c)) (a_cons (w_str (i := ("a" : Str))) (a_cons (w_str (i := ("b" : Str))) a_nil))) fun _ => (stl_I ⟨rfl, stl_m, rfl, stl_Ds, trivial⟩))) (fun _ => ins_tO) (fun _ => ins_tO) (fun _ _ => ⟨rfl, rfl, trivial⟩)) (w_one (w_owneq (ok_Order_eq c) (hr.mono (by decide)) (fun x y => (x, y)) (EW.rb (w_xv (g := (tOrd K)) (fun z : Ord × Ord => Er.unlike z.1 z.2) (fun z : Ord × Ord => z.2) (cx := "UnlikeOrders") (er_UnlikeOrders c).xf ((er_UnlikeOrders c).no "second" (by simp [e_UnlikeOrders])) (w_var 4 (f := (tErr K)) (v := e_2)))) (EW.rb (NW.settle (f := (fun r : Ord => oI (He.ga K "Order") [("names", MP.o (tZs K tS r.names)), ("above", oDs (tTs K tS) r.above)])) (g := (tOrd K)) (n_cm (f := (fun r : Ord => oI (He.ga K "Order") [("names", MP.o (tZs K tS r.names)), ("above", oDs (tTs K tS) r.above)])) (ok_Order_crown c) (hr.mono (by decide)) (hd _ _) (fun t => t.1) (w_cls (glo_Order c)) (a_cons (w_int (i := 2)) a_nil) (fun _ => ⟨rfl, rfl, trivial⟩)) fun _ => (stl_I ⟨rfl, stl_m, rfl, stl_Ds, trivial⟩))) (fun _ => ins_tO) (fun _ => ins_tO) (fun _ _ => ⟨rfl, rfl, trivial⟩)))) a_nil))) (fun z => (z.1, z.2.1)) fun _ => rfl) fun _ => (stl_L (M := fun m => m) fun _ => stl_m))
        · refine s_skip ?_
          refine s_if (t_eqI (w_var 0 (f := tI) (v := which)) (w_int (i := 8))) ?_ ?_
          · refine s_set (i := 4) (f := (tErr K)) (w_mkE3 (fun a b l => Er.notRising a b l) (ok_NotRising c) (hr.mono (by decide)) (w_var 2 (f := tS) (v := name)) (w_str (i := ("b" : Str))) (RW.q (r_lent 3 (f := rL tS) (v := names)))) fun e_3 => ?_
            exact f_ret (f := (fun q : (Er × Bool) => tL K [(tErr K) q.1, OT.tB q.2])) fin (NW.settle (f := fun q : (Er × Bool) => oL ([(tErr K) q.1, OT.tB q.2].map MP.o)) (g := (fun q : (Er × Bool) => tL K [(tErr K) q.1, OT.tB q.2])) (NW.imp (n_lst (F := fun z : Er × Bool × Unit => [(tErr K) z.1, OT.tB z.2.1]) (a_cons (w_var 4 (f := (tErr K)) (v := e_3)) (a_cons (w_eqY 3 (hr.mono (by decide)) (EW.rl (NW.settle (g := (tLs K (tDy K))) (NW.imp (n_lst (F := fun z : Dy × Dy × Dy × Unit => [(tDy K) z.1, (tDy K) z.2.1, (tDy K) z.2.2.1]) (a_cons (w_dy (g := Dy.s) dc_str (w_xv (g := tS) (fun z : Str × Str × List Str => Er.notRising z.1 z.2.1 z.2.2) (fun z : Str × Str × List Str => z.1) (cx := "NotRising") (er_NotRising c).xf ((er_NotRising c).no "low" (by simp [e_NotRising])) (w_var 4 (f := (tErr K)) (v := e_3)))) (a_cons (w_dy (g := Dy.s) dc_str (w_xv (g := tS) (fun z : Str × Str × List Str => Er.notRising z.1 z.2.1 z.2.2) (fun z : Str × Str × List Str => z.2.1) (cx := "NotRising") (er_NotRising c).xf ((er_NotRising c).no "high" (by simp [e_NotRising])) (w_var 4 (f := (tErr K)) (v := e_3)))) (a_cons (w_dy (g := (fun xs : (List Str) => Dy.l (xs.map Dy.s))) (dc_lst dc_str) (w_xv (g := (tLs K tS)) (fun z : Str × Str × List Str => Er.notRising z.1 z.2.1 z.2.2) (fun z : Str × Str × List Str => z.2.2) (cx := "NotRising") (er_NotRising c).xf ((er_NotRising c).no "names" (by simp [e_NotRising])) (w_var 4 (f := (tErr K)) (v := e_3)))) a_nil)))) (g := oLs (tDy K)) (fun z => [z.1, z.2.1, z.2.2.1]) fun _ => rfl) fun _ => stl_Ls)) (RW.rn (EW.rl (NW.settle (g := (tLs K (tDy K))) (NW.imp (n_lst (F := fun z : Dy × Dy × Dy × Unit => [(tDy K) z.1, (tDy K) z.2.1, (tDy K) z.2.2.1]) (a_cons (w_dy (g := Dy.s) dc_str (w_var 2 (f := tS) (v := name))) (a_cons (w_dy (g := Dy.s) dc_str (w_str (i := ("b" : Str)))) (a_cons (w_dy (g := (fun xs : (List Str) => Dy.l (xs.map Dy.s))) (dc_lst dc_str) (NW.settle (g := (tLs K tS)) (NW.imp (n_lst (F := fun z : Str × Str × Unit => [tS z.1, tS z.2.1]) (a_cons (w_str (i := ("a" : Str))) (a_cons (w_var 2 (f := tS) (v := name)) a_nil))) (g := oLs tS) (fun z => [z.1, z.2.1]) fun _ => rfl) fun _ => stl_Ls)) a_nil)))) (g := oLs (tDy K)) (fun z => [z.1, z.2.1, z.2.2.1]) fun _ => rfl) fun _ => stl_Ls)))) a_nil))) (fun z => (z.1, z.2.1)) fun _ => rfl) fun _ => (stl_L (M := fun m => m) fun _ => stl_m))
          · refine s_skip ?_
            refine s_if (t_eqI (w_var 0 (f := tI) (v := which)) (w_int (i := 9))) ?_ ?_
            · exact f_ret (f := (fun q : (Er × Bool) => tL K [(tErr K) q.1, OT.tB q.2])) fin (NW.settle (f := fun q : (Er × Bool) => oL ([(tErr K) q.1, OT.tB q.2].map MP.o)) (g := (fun q : (Er × Bool) => tL K [(tErr K) q.1, OT.tB q.2])) (NW.imp (n_lst (F := fun z : Er × Bool × Unit => [(tErr K) z.1, OT.tB z.2.1]) (a_cons (w_mkE0 Er.noThrow (ok_NoThrow c) (hr.mono (by decide))) (a_cons (w_bl (i := true)) a_nil))) (fun z => (z.1, z.2.1)) fun _ => rfl) fun _ => (stl_L (M := fun m => m) fun _ => stl_m))
            · refine s_skip ?_
              refine s_if (t_eqI (w_var 0 (f := tI) (v := which)) (w_int (i := 10))) ?_ ?_
              · refine s_set (i := 4) (f := (tErr K)) (w_mkEL (fun z => Er.hasRing z) (ok_HasRing c) (hr.mono (by decide)) (RW.q (r_lent 3 (f := rL tS) (v := names)))) fun e_4 => ?_
                exact f_ret (f := (fun q : (Er × Bool) => tL K [(tErr K) q.1, OT.tB q.2])) fin (NW.settle (f := fun q : (Er × Bool) => oL ([(tErr K) q.1, OT.tB q.2].map MP.o)) (g := (fun q : (Er × Bool) => tL K [(tErr K) q.1, OT.tB q.2])) (NW.imp (n_lst (F := fun z : Er × Bool × Unit => [(tErr K) z.1, OT.tB z.2.1]) (a_cons (w_var 4 (f := (tErr K)) (v := e_4)) (a_cons (w_eqM (cmp_L en_str) (hr.mono (by decide)) (EW.rl (w_xv (g := (tLs K tS)) (fun z : List Str => Er.hasRing z) (fun z : List Str => z) (cx := "HasRing") (er_HasRing c).xf ((er_HasRing c).no "names" (by simp [e_HasRing])) (w_var 4 (f := (tErr K)) (v := e_4)))) (RW.rn (EW.rl (NW.settle (g := (tLs K tS)) (NW.imp (n_lst (F := fun z : Str × Str × Unit => [tS z.1, tS z.2.1]) (a_cons (w_str (i := ("a" : Str))) (a_cons (w_var 2 (f := tS) (v := name)) a_nil))) (g := oLs tS) (fun z => [z.1, z.2.1]) fun _ => rfl) fun _ => stl_Ls)))) a_nil))) (fun z => (z.1, z.2.1)) fun _ => rfl) fun _ => (stl_L (M := fun m => m) fun _ => stl_m))
              · refine s_skip ?_
                exact f_ret (f := (fun q : (Er × Bool) => tL K [(tErr K) q.1, OT.tB q.2])) fin (NW.settle (f := fun q : (Er × Bool) => oL ([(tErr K) q.1, OT.tB q.2].map MP.o)) (g := (fun q : (Er × Bool) => tL K [(tErr K) q.1, OT.tB q.2])) (NW.imp (n_lst (F := fun z : Er × Bool × Unit => [(tErr K) z.1, OT.tB z.2.1]) (a_cons (w_ix (f := (tErr K)) (RW.q (EW.rl (NW.settle (g := (tLs K (tErr K))) (NW.imp (n_lst (F := fun z : Er × Er × Unit => [(tErr K) z.1, (tErr K) z.2.1]) (a_cons (w_mkE0 Er.noRing (ok_NoRing c) (hr.mono (by decide))) (a_cons (w_mkE0 Er.nothing (ok_NothingToUndo c) (hr.mono (by decide))) a_nil))) (g := oLs (tErr K)) (fun z => [z.1, z.2.1]) fun _ => rfl) fun _ => stl_Ls))) (w_sub (w_var 0 (f := tI) (v := which)) (w_int (i := 11)))) (a_cons (w_bl (i := true)) a_nil))) (fun z => (z.1, z.2.1)) fun _ => rfl) fun _ => (stl_L (M := fun m => m) fun _ => stl_m))
def w_law (script : (List Int)) (Q : Bool → Prop) (E : Er → Prop) : Prop :=
  W.run (W.bind (w_l_cell script (0 : Int)) fun z => w_l_pool z) E fun pool_here =>
  W.run (W.bind (W.bind (W.bind (w_l_take (40 : Int)) fun z_1 => W.ret (z_1 - (9 : Int))) fun z_4 => W.bind (W.bind (w_l_cell script (1 : Int)) fun z_2 => W.bind (W.grd (CPow (10 : Int) (40 : Int)) ((10 : Int) ^ ((40 : Int)).toNat)) fun z_3 => W.grd (z_3 ≠ 0) ((z_2).fmod z_3)) fun z_5 => W.ret [z_4, z_5, (-(1 : Int))]) fun z_6 => W.bind (w_l_take (3 : Int)) fun z_7 => W.get z_6 z_7) E fun n =>
  W.run (W.bind (W.bind (W.grd (MulOk ("9" : Str) (40 : Int)) (Txt.mul ("9" : Str) (40 : Int))) fun z_8 => W.ret [("" : Str), ("b" : Str), ("abcdefgh" : Str), ("X" : Str), ("a b" : Str), z_8]) fun z_9 => W.bind (w_l_take (6 : Int)) fun z_10 => W.get z_9 z_10) E fun name =>
  W.run (W.bind (w_l_listed name) fun z_11 => W.ret (!z_11)) E fun b => W.ite b
    (W.run (W.ret false) E Q)
    (W.run (W.grd (RgOk (13 : Int)) (rng 0 (13 : Int))) E fun xs => W.loop (fun which (st : Unit) kn =>
    W.lt [("a" : Str), name] fun names : (List Str) =>
  W.run (w_l_made which n name names) E fun t =>
  W.run (W.grd (names.length < 100000) ("c" : Str)) E fun a0 =>
  W.run (W.sel (!t.2) (W.ret true) (W.bind (w_l_kinds t.1) fun z_13 => W.bind (W.bind (W.grd (RgOk (13 : Int)) (rng 0 (13 : Int))) fun z_12 => W.compP (fun _ : Int => true) (fun k : Int => decide (k = which)) z_12) fun z_14 => W.ret (!decide (z_13 = z_14)))) E fun b => W.ite b
    (W.run (W.ret false) E Q)
    (W.run (W.ret ((!true) || (!true))) E fun b => W.ite b
    (W.run (W.ret false) E Q)
    (W.run (W.sel (is_Ring t.1) (W.bind (W.as (W.ret t.1) (fun z : List Str => Er.ring z) (fun z : List Str => z)) fun z_15 => W.ret (!decide (z_15 = [("a" : Str), name]))) (W.ret false)) E fun b => W.ite b
    (W.run (W.ret false) E Q)
    (W.run (W.sel (is_NotRising t.1) (W.bind (W.as (W.ret t.1) (fun z : Str × Str × List Str => Er.notRising z.1 z.2.1 z.2.2) (fun z : Str × Str × List Str => z.2.2)) fun z_16 => W.ret (!decide (z_16 = [("a" : Str), name]))) (W.ret false)) E fun b => W.ite b
    (W.run (W.ret false) E Q)
    (W.run (W.sel (is_HasRing t.1) (W.bind (W.as (W.ret t.1) (fun z : List Str => Er.hasRing z) (fun z : List Str => z)) fun z_17 => W.ret (!decide (z_17 = [("a" : Str), name]))) (W.ret false)) E fun b => W.ite b
    (W.run (W.ret false) E Q)
    (W.run (W.sel (decide (which < (9 : Int))) (W.bind (W.bind (w_l_made which n name [("a" : Str), name]) fun z_18 => W.ret z_18.2) fun z_19 => W.ret (!z_19)) (W.ret false)) E fun b => W.ite b
    (W.run (W.ret false) E Q)
    (kn ())))))))
    (fun st : Unit => W.run (W.ret true) E Q) xs ())
theorem ok_law {fd : FuncData} (c : Ct P K mg) (F : FnS K "law" "law" s_law (He.ga K "law") fd) : FnOk P w K mg base (L2.CX P w) 9 (He.ga K "law") fd ["_law_script"] (spW K (fun d : (List Int) => [.b (rQ K tI d)]) (fun d => w_law d) (fun r : Bool => .v (OT.tB r)) (fun _ => [])) := by
  refine  def_ok F sc_law (fun d vs L => [some ((rQ K tI d).at_ L), none, none, none, none, none, none, none, none]) (fun _ _ => []) (fun _ _ _ => []) ?_ (by intro _; rfl) (fun d vs L hv => match vs, hv with | [_], _ => rfl) (fun d vs hv => match vs, hv with | [_], _ => rfl) (fun d vs r hv => match vs, hv with | [_], _ => rfl)
  rintro cdv A outer s' H0 L S Q0 E0' script vs Q E hv nd hr fin hdQ
  have tk := (hdQ [] _ (List.Sublist.refl _)).tk
  have hd : ∀ Γ O, Hd _ _ Γ O E _ := fun Γ O => hdQ Γ O (List.nil_sublist _)
  have po : PassesOwn (model P w) _ _ _ := @own_cx P w K mg base "law" (defScope s_law) (He.ga K "law") ["_law_script", "_law_pool_here", "_law_n", "_law_name", "_law_which", "_law_names", "_law_e", "_law_same", "_law_k"] cdv A outer s' H0 E0'
  show SW _ _ _ _ _ _ (w_law script Q E)
  unfold w_law
  refine s_setN (i := 1) (f := (fun _ : Unit => oPool)) (n_fn (f := (fun _ : Unit => oPool)) (ok_l_pool c) (hr.mono (by decide)) (hd _ _) (fun t => t.1) (a_cons (w_fn (f := tI) (ok_l_cell c) (hr.mono (by decide)) (hd _ _) (fun t => (t.1, t.2.1)) (a_consR (r_lent 0 (f := rQ K tI) (v := script)) (a_cons (w_int (i := 0)) a_nil)) (fun _ => ⟨rfl, rfl, trivial⟩)) a_nil) (fun _ => ⟨rfl, trivial⟩)) fun pool_here u_pool_here => ?_
  refine s_set (i := 2) (f := tI) (w_ix (f := tI) (RW.q (EW.rl (NW.settle (g := (tLs K tI)) (NW.imp (n_lst (F := fun z : Int × Int × Int × Unit => [tI z.1, tI z.2.1, tI z.2.2.1]) (a_cons (w_sub (w_fnO 0 (f := tI) (ok_l_take c) (hr.mono (by decide)) (hd _ _) (fun t => t.1) (a_consT 1 (a_cons (w_int (i := 40)) a_nil)) (fun _ => ⟨rfl, rfl, trivial⟩) (by walk_at "oneed")) (w_int (i := 9))) (a_cons (w_mod (w_intI (free_int c) (w_fn (f := tI) (ok_l_cell c) (hr.mono (by decide)) (hd _ _) (fun t => (t.1, t.2.1)) (a_consR (r_lent 0 (f := rQ K tI) (v := script)) (a_cons (w_int (i := 1)) a_nil)) (fun _ => ⟨rfl, rfl, trivial⟩))) (w_pow (w_int (i := 10)) (w_int (i := 40)))) (a_cons (w_neg (w_int (i := 1))) a_nil)))) (g := oLs tI) (fun z => [z.1, z.2.1, z.2.2.1]) fun _ => rfl) fun _ => stl_Ls))) (w_fnO 0 (f := tI) (ok_l_take c) (hr.mono (by decide)) (hd _ _) (fun t => t.1) (a_consT 1 (a_cons (w_int (i := 3)) a_nil)) (fun _ => ⟨rfl, rfl, trivial⟩) (by walk_at "oneed"))) fun n => ?_
  refine s_set (i := 3) (f := tS) (w_ix (f := tS) (RW.q (EW.rl (NW.settle (g := (tLs K tS)) (NW.imp (n_lst (F := fun z : Str × Str × Str × Str × Str × Str × Unit => [tS z.1, tS z.2.1, tS z.2.2.1, tS z.2.2.2.1, tS z.2.2.2.2.1, tS z.2.2.2.2.2.1]) (a_cons (w_str (i := ("" : Str))) (a_cons (w_str (i := ("b" : Str))) (a_cons (w_str (i := ("abcdefgh" : Str))) (a_cons (w_str (i := ("X" : Str))) (a_cons (w_str (i := ("a b" : Str))) (a_cons (w_smul (w_str (i := ("9" : Str))) (w_int (i := 40))) a_nil))))))) (g := oLs tS) (fun z => [z.1, z.2.1, z.2.2.1, z.2.2.2.1, z.2.2.2.2.1, z.2.2.2.2.2.1]) fun _ => rfl) fun _ => stl_Ls))) (w_fnO 0 (f := tI) (ok_l_take c) (hr.mono (by decide)) (hd _ _) (fun t => t.1) (a_consT 1 (a_cons (w_int (i := 6)) a_nil)) (fun _ => ⟨rfl, rfl, trivial⟩) (by walk_at "oneed"))) fun name => ?_
  refine s_if (t_not (t_val (w_fn (f := OT.tB) (ok_l_listed c) (hr.mono (by decide)) (hd _ _) (fun t => t.1) (a_cons (w_var 3 (f := tS) (v := name)) a_nil) (fun _ => ⟨rfl, trivial⟩)))) ?_ ?_
  · exact f_ret (f := OT.tB) fin (w_bl (i := false))
  · refine s_skip ?_
    refine s_for (f := tI) (fun st : Unit => [some ((rQ K tI script).at_ L), some (tV u_pool_here), some (tI n), some (tS name), none, none, none, none, none]) (fun st : Unit => [(u_pool_here, oPool)]) () (i_range1 (free_range c) (w_int (i := 13))) (fun which (st : Unit) => [some ((rQ K tI script).at_ L), some (tV u_pool_here), some (tI n), some (tS name), some (tI which), none, none, none, none]) [4] (fun G which st => (g_name (j := 4))) (fun G which st kn => ?_) (fun st => ?_) po (gl := by exact ⟨rfl, rfl, rfl, rfl, trivial⟩)
    · refine s_setNV (Z := E) (i := 5) (f := (oLs tS)) (v := [("a" : Str), name]) (NW.imp (n_lst (F := fun z : Str × Str × Unit => [tS z.1, tS z.2.1]) (a_cons (w_str (i := ("a" : Str))) (a_cons (w_var 3 (f := tS) (v := name)) a_nil))) (g := oLs tS) (fun z => [z.1, z.2.1]) fun _ => rfl) fun u_names names hq_names => ?_
      refine s_unpack (f := (fun q : (Er × Bool) => tL K [(tErr K) q.1, OT.tB q.2])) (Γ' := fun t => [some ((rQ K tI script).at_ L), some (tV u_pool_here), some (tI n), some (tS name), some (tI which), some (tV u_names), some ((tErr K) t.1), some (OT.tB t.2), none]) (js := [6, 7]) (w_fn (f := (fun q : (Er × Bool) => tL K [(tErr K) q.1, OT.tB q.2])) (ok_l_made c) (hr.mono (by decide)) (Hd.add (hd _ _)) (fun t => (t.1, t.2.1, t.2.2.1, t.2.2.2.1)) (a_cons (w_var 4 (f := tI) (v := which)) (a_cons (w_var 2 (f := tI) (v := n)) (a_cons (w_var 3 (f := tS) (v := name)) (a_consR (r_own 0 5 (f := rL tS) (v := names) lend_Ls) a_nil)))) (fun _ => ⟨rfl, rfl, rfl, rfl, trivial⟩)) (fun t => (g_lst (gs_cons (g_name (j := 6)) (gs_cons (g_name (j := 7)) gs_nil)))) fun t => ?_
      refine s_append (i := 5) (F := fun y => MP.o (tS y)) (EW.n (w_str (i := ("c" : Str)))) fun a0 => ?_
      refine s_if (TC.t (tc_or (TW.at (W.ret (!t.2)) (t_not (t_val (w_var 7 (f := OT.tB) (v := t.2))))) (tc_or1 (t_neM (cmp_L en_bool) (hr.mono (by decide)) (EW.rl (NW.settle (g := (tLs K OT.tB)) (n_fn (f := (oLs OT.tB)) (ok_l_kinds c) (hr.mono (by decide)) (Hd.add (hd _ _)) (fun t => t.1) (a_cons (w_var 6 (f := (tErr K)) (v := t.1)) a_nil) (fun _ => ⟨rfl, trivial⟩)) fun _ => stl_Ls)) (RW.rn (EW.rl (NW.settle (g := (tLs K OT.tB)) (n_comp [("_law_k", 8)] (F := (fun y => MP.o (OT.tB y))) (f := tI) [some ((rQ K tI script).at_ L), some (tV u_pool_here), some (tI n), some (tS name), some (tI which), some (tV u_names), some ((tErr K) t.1), some (OT.tB t.2), none] (i_range1 (free_range c) (w_int (i := 13))) (fun k => [some ((rQ K tI script).at_ L), some (tV u_pool_here), some (tI n), some (tS name), some (tI which), some (tV u_names), some ((tErr K) t.1), some (OT.tB t.2), some (tI k)]) [8] (fun G m k s2 H2 C2 cl2 fp2 => ⟨(g_name (j := 8)), if_none, (EW.n (w_eqI (w_var 8 (f := tI) (v := k)) (w_var 4 (f := tI) (v := which))))⟩) (hk_plain (c := fun _ : Int => true) (g := fun k : Int => decide (k = which))) (gl := by exact ⟨rfl, rfl, rfl, rfl, rfl, rfl, rfl, rfl, trivial⟩)) fun _ => stl_Ls))))))) ?_ ?_
      · exact f_ret (f := OT.tB) (OW.Fin.add fin) (w_bl (i := false))
      · refine s_skip ?_
        refine s_if (TC.t (tc_orP (TW.at (W.ret (!true)) (t_not (t_val (EW.at (W.ret true) (w_isE (cv := .ref (He.ga K "ThrowError")) (fun _ => true) (free_isinstance c) (w_var 6 (f := (tErr K)) (v := t.1)) (w_cls (glo_ThrowError c)) tv_ref (fun x => ⟨xis c x, kx_ThrowError c x⟩)))))) (tc_or1 (TW.at (W.ret (!true)) (t_not (t_val (EW.at (W.ret true) (w_isE (cv := .type "ValueError") (fun _ => true) (free_isinstance c) (w_var 6 (f := (tErr K)) (v := t.1)) (w_bty (v := .ty "ValueError") (free_ValueError c) (by decide +kernel) rfl) tv_ty (fun x => ⟨xis c x, kx_ValueError c x⟩))))))))) ?_ ?_
        · exact f_ret (f := OT.tB) (OW.Fin.add fin) (w_bl (i := false))
        · refine s_skip ?_
          refine s_if (TC.t (tc_and (TW.at (W.ret (is_Ring t.1)) (t_val (EW.at (W.ret (is_Ring t.1)) (w_isE (cv := .ref (He.ga K "Ring")) is_Ring (free_isinstance c) (w_var 6 (f := (tErr K)) (v := t.1)) (w_cls (er_Ring c).mgx) tv_ref (fun x => ⟨xis c x, kx_Ring c x⟩))))) (tc_and1 (t_neM (cmp_L en_str) (hr.mono (by decide)) (EW.rl (w_xv (g := (tLs K tS)) (fun z : List Str => Er.ring z) (fun z : List Str => z) (cx := "Ring") (er_Ring c).xf ((er_Ring c).no "names" (by simp [e_Ring])) (w_var 6 (f := (tErr K)) (v := t.1)))) (RW.rn (EW.rl (NW.settle (g := (tLs K tS)) (NW.imp (n_lst (F := fun z : Str × Str × Unit => [tS z.1, tS z.2.1]) (a_cons (w_str (i := ("a" : Str))) (a_cons (w_var 3 (f := tS) (v := name)) a_nil))) (g := oLs tS) (fun z => [z.1, z.2.1]) fun _ => rfl) fun _ => stl_Ls))))))) ?_ ?_
          · exact f_ret (f := OT.tB) (OW.Fin.add fin) (w_bl (i := false))
          · refine s_skip ?_
            refine s_if (TC.t (tc_and (TW.at (W.ret (is_NotRising t.1)) (t_val (EW.at (W.ret (is_NotRising t.1)) (w_isE (cv := .ref (He.ga K "NotRising")) is_NotRising (free_isinstance c) (w_var 6 (f := (tErr K)) (v := t.1)) (w_cls (er_NotRising c).mgx) tv_ref (fun x => ⟨xis c x, kx_NotRising c x⟩))))) (tc_and1 (t_neM (cmp_L en_str) (hr.mono (by decide)) (EW.rl (w_xv (g := (tLs K tS)) (fun z : Str × Str × List Str => Er.notRising z.1 z.2.1 z.2.2) (fun z : Str × Str × List Str => z.2.2) (cx := "NotRising") (er_NotRising c).xf ((er_NotRising c).no "names" (by simp [e_NotRising])) (w_var 6 (f := (tErr K)) (v := t.1)))) (RW.rn (EW.rl (NW.settle (g := (tLs K tS)) (NW.imp (n_lst (F := fun z : Str × Str × Unit => [tS z.1, tS z.2.1]) (a_cons (w_str (i := ("a" : Str))) (a_cons (w_var 3 (f := tS) (v := name)) a_nil))) (g := oLs tS) (fun z => [z.1, z.2.1]) fun _ => rfl) fun _ => stl_Ls))))))) ?_ ?_
            · exact f_ret (f := OT.tB) (OW.Fin.add fin) (w_bl (i := false))
            · refine s_skip ?_
              refine s_if (TC.t (tc_and (TW.at (W.ret (is_HasRing t.1)) (t_val (EW.at (W.ret (is_HasRing t.1)) (w_isE (cv := .ref (He.ga K "HasRing")) is_HasRing (free_isinstance c) (w_var 6 (f := (tErr K)) (v := t.1)) (w_cls (er_HasRing c).mgx) tv_ref (fun x => ⟨xis c x, kx_HasRing c x⟩))))) (tc_and1 (t_neM (cmp_L en_str) (hr.mono (by decide)) (EW.rl (w_xv (g := (tLs K tS)) (fun z : List Str => Er.hasRing z) (fun z : List Str => z) (cx := "HasRing") (er_HasRing c).xf ((er_HasRing c).no "names" (by simp [e_HasRing])) (w_var 6 (f := (tErr K)) (v := t.1)))) (RW.rn (EW.rl (NW.settle (g := (tLs K tS)) (NW.imp (n_lst (F := fun z : Str × Str × Unit => [tS z.1, tS z.2.1]) (a_cons (w_str (i := ("a" : Str))) (a_cons (w_var 3 (f := tS) (v := name)) a_nil))) (g := oLs tS) (fun z => [z.1, z.2.1]) fun _ => rfl) fun _ => stl_Ls))))))) ?_ ?_
              · exact f_ret (f := OT.tB) (OW.Fin.add fin) (w_bl (i := false))
              · refine s_skip ?_
                refine s_if (TC.t (tc_and (TW.at (W.ret (decide (which < (9 : Int)))) (t_lt (w_var 4 (f := tI) (v := which)) (w_int (i := 9)))) (tc_and1 (t_not (t_val (w_ixLt (F := fun q : (Er × Bool) => [(tErr K) q.1, OT.tB q.2]) (g := OT.tB) (fun z => z.2) (w_fn (f := (fun q : (Er × Bool) => tL K [(tErr K) q.1, OT.tB q.2])) (ok_l_made c) (hr.mono (by decide)) (Hd.add (hd _ _)) (fun t => (t.1, t.2.1, t.2.2.1, t.2.2.2.1)) (a_cons (w_var 4 (f := tI) (v := which)) (a_cons (w_var 2 (f := tI) (v := n)) (a_cons (w_var 3 (f := tS) (v := name)) (a_consR (EW.rl (NW.settle (g := (tLs K tS)) (NW.imp (n_lst (F := fun z : Str × Str × Unit => [tS z.1, tS z.2.1]) (a_cons (w_str (i := ("a" : Str))) (a_cons (w_var 3 (f := tS) (v := name)) a_nil))) (g := oLs tS) (fun z => [z.1, z.2.1]) fun _ => rfl) fun _ => stl_Ls)) a_nil)))) (fun _ => ⟨rfl, rfl, rfl, rfl, trivial⟩)))))))) ?_ ?_
                · exact f_ret (f := OT.tB) (OW.Fin.add fin) (w_bl (i := false))
                · refine s_skip ?_
                  refine SW.out 0 ?_
                  exact s_nil (k := _) () (g := by exact ⟨rfl, rfl, rfl, rfl, trivial⟩)
    · exact f_ret (f := OT.tB) fin (w_bl (i := true))
end
end K01
namespace K01
open PySem L2 OW
theorem closed_ok {ns : List Str} {ps : List (Str × Str)} {Q : List (Str × List (Str × Bool)) → Prop} {E : Er → Prop} (hn : ns.Nodup) (hl : ns.length ≤ 1000) (hp : ∀ q ∈ ps, q.1 ∈ ns ∧ q.2 ∈ ns) (h : ∀ st, WF2 ns st → (∀ x y, x ∈ ns → (R2 st x y ↔ Rch ps x y)) → Q st) : w_closed ns ps Q E := by
  unfold w_closed
  refine ⟨by omega, ?_⟩
  rw [dcol_new ns [] hn (by simp), List.nil_append]
  have hget : ∀ x ∈ ns, dget (ns.map fun x => (x, [(x, true)])) x = some [(x, true)] := fun x hx => dget_map hx
  refine W.loop_pre (fun pre st => WF2 ns st ∧ ∀ x y, x ∈ ns → (R2 st x y ↔ x = y ∨ (x, y) ∈ pre)) ps ?_ ?_ _ ?_
  · rintro pre q post s K e ⟨w, r⟩ k
    have hq := hp q (by rw [e]; simp)
    obtain ⟨d, hd⟩ := w.get hq.1
    obtain ⟨w2, r2⟩ := w.put hd hq.2
    refine ⟨d, hd, by have := w.len hd; omega, k _ ⟨w2, fun x y hx => ?_⟩⟩
    rw [r2, r x y hx, List.mem_append, List.mem_singleton, or_assoc]
    refine or_congr Iff.rfl (or_congr Iff.rfl ?_)
    exact ⟨fun z => by rw [z.1, z.2], fun z => by rw [← z]; exact ⟨rfl, rfl⟩⟩
  · rintro st ⟨w0, r0⟩
    refine W.loop_pre (fun pre st => WF2 ns st ∧ (∀ x y, x ∈ ns → R2 st x y → Rch ps x y) ∧ (∀ x ∈ ns, R2 st x x) ∧ (∀ q ∈ ps, R2 st q.1 q.2) ∧ ∀ m ∈ pre, ∀ x y, R2 st x m → R2 st m y → R2 st x y) ns ?_ ?_ st ?_
    · rintro pre m post s K e ⟨w, so, re, pa, tr⟩ k
      have hm : m ∈ ns := by rw [e]; simp
      have inn : ∀ x y, R2 s x y → x ∈ ns := fun x y ⟨d, h1, h2⟩ => by
        have := dget_key h1
        rwa [w.keys] at this
      refine W.loop_pre (fun pre st => WF2 ns st ∧ ∀ x y, R2 st x y ↔ R2 s x y ∨ (x ∈ pre ∧ R2 s x m ∧ R2 s m y)) ns ?_ ?_ s ?_
      · rintro pre2 low post2 s2 K2 e2 ⟨w2, r2⟩ k2
        have hlow : low ∈ ns := by rw [e2]; simp
        obtain ⟨d, hd⟩ := w2.get hlow
        refine ⟨d, hd, W.ite_intro (fun hb => ?_) fun hb => ?_⟩
        · have hlm : R2 s low m := by
            have z : R2 s2 low m := ⟨d, hd, dhas_iff.mp hb⟩
            rcases (r2 _ _).mp z with z | z
            · exact z
            · exact z.2.1
          obtain ⟨dm, hdm⟩ := w2.get hm
          have hrow : ∀ y, y ∈ dm.map (·.1) ↔ R2 s m y := fun y => by
            constructor
            · intro z
              rcases (r2 _ _).mp (⟨dm, hdm, z⟩ : R2 s2 m y) with z | z
              · exact z
              · exact z.2.2
            · intro z
              obtain ⟨d', h1, h2⟩ := (r2 m y).mpr (.inl z)
              rw [hdm] at h1
              cases h1
              exact h2
          refine ⟨dm, hdm, ?_⟩
          refine W.loop_pre (fun pre3 st => WF2 ns st ∧ ∀ x y, R2 st x y ↔ R2 s2 x y ∨ (x = low ∧ y ∈ pre3)) (dm.map (·.1)) ?_ ?_ s2 ?_
          · rintro pre3 high post3 s4 K3 e3 ⟨w4, r4⟩ k3
            obtain ⟨d4, hd4⟩ := w4.get hlow
            have hh : high ∈ ns := (w2.row m dm hdm).2 _ (by rw [e3]; simp)
            obtain ⟨w5, r5⟩ := w4.put hd4 hh
            refine ⟨d4, hd4, by have := w4.len hd4; omega, k3 _ ⟨w5, fun x y => ?_⟩⟩
            rw [r5, r4, List.mem_append, List.mem_singleton, or_assoc]
            refine or_congr Iff.rfl ?_
            constructor
            · rintro (z | z)
              · exact ⟨z.1, .inl z.2⟩
              · exact ⟨z.1, .inr z.2⟩
            · rintro ⟨z1, z2 | z2⟩
              · exact .inl ⟨z1, z2⟩
              · exact .inr ⟨z1, z2⟩
          · rintro s5 ⟨w5, r5⟩
            refine k2 s5 ⟨w5, fun x y => ?_⟩
            rw [r5, r2, List.mem_append, List.mem_singleton, hrow]
            constructor
            · rintro ((z | z) | z)
              · exact .inl z
              · exact .inr ⟨.inl z.1, z.2⟩
              · exact .inr ⟨.inr z.1, by rw [z.1]; exact hlm, z.2⟩
            · rintro (z | ⟨z1 | z1, z2⟩)
              · exact .inl (.inl z)
              · exact .inl (.inr ⟨z1, z2⟩)
              · exact .inr ⟨z1, z2.2⟩
          · exact ⟨w2, fun x y => by simp⟩
        · have hlm : ¬ R2 s low m := fun z => by
            obtain ⟨d', h1, h2⟩ := (r2 low m).mpr (.inl z)
            rw [hd] at h1
            cases h1
            rw [dhas_iff.mpr h2] at hb
            cases hb
          refine k2 s2 ⟨w2, fun x y => ?_⟩
          rw [r2, List.mem_append, List.mem_singleton]
          constructor
          · rintro (z | z)
            · exact .inl z
            · exact .inr ⟨.inl z.1, z.2⟩
          · rintro (z | ⟨z1 | z1, z2⟩)
            · exact .inl z
            · exact .inr ⟨z1, z2⟩
            · rw [z1] at z2; exact absurd z2.1 hlm
      · rintro s2 ⟨w2, r2⟩
        have r3 : ∀ x y, R2 s2 x y ↔ R2 s x y ∨ (R2 s x m ∧ R2 s m y) := fun x y => by
          rw [r2]
          exact or_congr Iff.rfl ⟨fun z => z.2, fun z => ⟨inn _ _ z.1, z⟩⟩
        refine k s2 ⟨w2, fun x y hx z => ?_, fun x hx => (r3 x x).mpr (.inl (re x hx)), fun q hq => (r3 _ _).mpr (.inl (pa q hq)), fun m' hm' x y h1 h2 => ?_⟩
        · rcases (r3 _ _).mp z with z | z
          · exact so _ _ hx z
          · exact (so _ _ hx z.1).trans (so _ _ hm z.2)
        · refine (r3 _ _).mpr ?_
          rw [r3] at h1 h2
          rcases List.mem_append.mp hm' with q | q
          · rcases h1 with h1 | h1 <;> rcases h2 with h2 | h2
            · exact .inl (tr m' q _ _ h1 h2)
            · exact .inr ⟨tr m' q _ _ h1 h2.1, h2.2⟩
            · exact .inr ⟨h1.1, tr m' q _ _ h1.2 h2⟩
            · exact .inr ⟨h1.1, h2.2⟩
          · rw [List.mem_singleton] at q
            subst q
            exact .inr ⟨h1.elim id (·.1), h2.elim id (·.2)⟩
      · exact ⟨w, fun x y => by simp⟩
    · rintro st ⟨w, so, re, pa, tr⟩
      refine h st w fun x y hx => ⟨so x y hx, fun z => ?_⟩
      induction z with
      | refl => exact re _ hx
      | step e _ ih => exact tr _ (hp _ e).2 _ _ (pa _ e) (ih (hp _ e).2)
    · refine ⟨w0, fun x y hx z => ?_, fun x hx => (r0 x x hx).mpr (.inl rfl), fun q hq => (r0 _ _ (hp q hq).1).mpr (.inr hq), fun _ z => by cases z⟩
      rcases (r0 x y hx).mp z with z | z
      · subst z; exact .refl _
      · exact .one z
  · refine ⟨⟨by simp [Function.comp_def], fun x d e => ?_⟩, fun x y hx => ?_⟩
    · have hx := dget_key e
      simp only [List.map_map, Function.comp_def, List.map_id'] at hx
      rw [hget x hx] at e
      cases e
      exact ⟨by simp, fun y hy => by simp at hy; subst hy; exact hx⟩
    · unfold OW.R2
      rw [hget x hx]
      simp
      exact eq_comm
end K01
namespace K01
open PySem L2 OW
end K01
namespace K01
open PySem L2 OW
theorem fmtL {s : Str} (h : s.length ≤ 100000) : OT.fmtOk (V.str s) := h
theorem is_name_ok {t : Str} {Q : Bool → Prop} {E : Er → Prop} (hl : t.length ≤ 100000) (h : Q (isNm t)) : w_is_name t Q E := by
  unfold w_is_name
  show W.ite _ _ _
  unfold isNm at h
  by_cases e1 : t = ("" : Str)
  · rw [if_pos (.inl e1)] at h
    rw [decide_eq_true e1]
    exact ⟨fun _ => ⟨fun _ => h, (fun z => by cases z)⟩, (fun z => by cases z)⟩
  rw [decide_eq_false e1]
  refine ⟨(fun z => by cases z), fun _ => ⟨by omega, ?_⟩⟩
  show W.ite _ _ _
  by_cases e2 : 8 < t.length
  · rw [if_pos (.inr (.inl e2))] at h
    rw [decide_eq_true (by omega)]
    exact ⟨fun _ => ⟨fun _ => h, (fun z => by cases z)⟩, (fun z => by cases z)⟩
  rw [decide_eq_false (by omega)]
  refine ⟨(fun z => by cases z), fun _ => ⟨by omega, ?_⟩⟩
  obtain ⟨⟨l⟩⟩ := t
  match l, e1, e2 with
  | [], e1, _ => exact absurd rfl e1
  | c :: l, e1, e2 =>
    refine ⟨c, atI_nat (k := 0) rfl, rfl, W.ite_of ?_⟩
    have e0 : (Str.mk (c :: l).toArray).cps.toList.headD 0 = c := rfl
    rw [e0] at h
    by_cases e3 : sgin ⟨#[c]⟩ lET = false
    · rw [if_pos (.inr (.inr e3))] at h
      have e3' : sgin ⟨#[c]⟩ ("abcdefghijklmnopqrstuvwxyz" : Str) = false := e3
      rw [e3']
      exact h
    · rw [if_neg (fun z => z.elim e1 fun z => z.elim e2 e3)] at h
      have e3' : sgin ⟨#[c]⟩ ("abcdefghijklmnopqrstuvwxyz" : Str) = true := Bool.not_eq_false _ |>.mp e3
      rw [e3']
      refine W.compG_plain (E := E) (fun _ => true) (fun s => sgin s sIG) (sgs (Str.mk (c :: l).toArray)) ?_ (fun x _ P hP => hP) (fun x hx _ P hP => ?_) ?_
      · have : (sgs (Str.mk (c :: l).toArray)).length = (Str.mk (c :: l).toArray).length := by simp [sgs]; rfl
        exact Nat.le_trans (Nat.le_of_eq this) (Nat.le_trans hl (by decide))
      · refine ⟨?_, hP⟩
        unfold sgs at hx
        obtain ⟨d, _, rfl⟩ := List.mem_map.mp hx
        rfl
      · rw [filter_tt]
        show Q (List.all _ id)
        rw [List.all_map]
        exact h
theorem check_names_ok {ns : List Str} {Q : Unit → Prop} {E : Er → Prop} (hl : ns.length ≤ 99990) (hs : ∀ x ∈ ns, x.length ≤ 100000) (h : match chkN ns with | some e => E e | none => Q ()) : w_check_names ns Q E := by
  unfold w_check_names
  unfold chkN at h
  refine W.ite_intro (fun hb => ?_) fun hb => ?_
  · have : ns.length < 1 ∨ 8 < ns.length := by simp at hb; omega
    rw [if_pos this] at h
    exact ⟨fmtI (by omega), h⟩
  · have : ¬ (ns.length < 1 ∨ 8 < ns.length) := by simp at hb; omega
    rw [if_neg this] at h
    have go : ∀ (post pre : List Str), ns = pre ++ post → (match goN pre post with | some e => E e | none => Q ()) → W.loop (fun q (st : Unit) kn =>
        W.run (W.bind (w_is_name q.2) fun z_1 => W.ret !z_1) E fun b => W.ite b
        (W.run (W.ret q.2) E fun z_2 => OT.fmtOk (V.str z_2) ∧ E (.badName z_2))
        (W.run (W.ret (decide (q.2 ∈ (OT.cut ns none (some q.1))))) E fun b => W.ite b
        (W.run (W.ret q.2) E fun z_3 => OT.fmtOk (V.str z_3) ∧ E (.dup z_3))
        (kn ()))) (fun st : Unit => Q ()) (enm (pre.length : Int) post) () := by
      intro post
      induction post with
      | nil => exact fun pre _ h => h
      | cons x post ih =>
        intro pre e h
        have hx := hs x (by rw [e]; simp)
        unfold goN at h
        rw [enm_cons]
        refine is_name_ok hx (W.ite_intro (fun hb => ?_) fun hb => ?_)
        · have : isNm x = false := by simpa using hb
          rw [if_pos this] at h
          exact ⟨fmtL hx, h⟩
        · have : ¬ isNm x = false := by simpa using hb
          rw [if_neg this] at h
          have ec : OT.cut ns none (some (pre.length : Int)) = pre := by rw [cut_take, e, List.take_left]
          refine W.ite_intro (fun hb => ?_) fun hb => ?_
          · have hb : decide (x ∈ OT.cut ns none (some (pre.length : Int))) = true := hb
            rw [ec] at hb
            rw [if_pos (of_decide_eq_true hb)] at h
            exact ⟨fmtL hx, h⟩
          · have hb : decide (x ∈ OT.cut ns none (some (pre.length : Int))) = false := hb
            rw [ec] at hb
            rw [if_neg (of_decide_eq_false hb)] at h
            have := ih (pre ++ [x]) (by rw [e]; simp) h
            rw [List.length_append] at this
            exact this
    exact go ns [] rfl h
theorem check_pairs_ok {ns : List Str} {ps : List (Str × Str)} {Q : Unit → Prop} {E : Er → Prop} (hs : ∀ q ∈ ps, q.1.length ≤ 100000 ∧ q.2.length ≤ 100000) (h : match chkP ns ps with | some e => E e | none => Q ()) : w_check_pairs ns ps Q E := by
  unfold w_check_pairs
  show W.loop _ _ ps ()
  induction ps with
  | nil => exact h
  | cons q ps ih =>
    unfold chkP at h
    have hq := hs q List.mem_cons_self
    refine W.ite_intro (fun hb => ?_) fun hb => ?_
    · have hb : (!decide (q.1 ∈ ns)) = true := hb
      rw [if_pos (by simpa using hb)] at h
      exact ⟨fmtL hq.1, h⟩
    · have hb : (!decide (q.1 ∈ ns)) = false := hb
      rw [if_neg (by simpa using hb)] at h
      refine W.ite_intro (fun hb => ?_) fun hb => ?_
      · have hb : (!decide (q.2 ∈ ns)) = true := hb
        rw [if_pos (by simpa using hb)] at h
        exact ⟨fmtL hq.2, h⟩
      · have hb : (!decide (q.2 ∈ ns)) = false := hb
        rw [if_neg (by simpa using hb)] at h
        exact ih (fun p hp => hs p (List.mem_cons_of_mem _ hp)) h
open Classical in
theorem init_ok {ns : List Str} {ps : List (Str × Str)} {Q : Ord → Prop} {E : Er → Prop} (hl : ns.length ≤ 99990) (hs : ∀ x ∈ ns, x.length ≤ 100000) (hs2 : ∀ q ∈ ps, q.1.length ≤ 100000 ∧ q.2.length ≤ 100000) (h : endsX Q E (ini ns ps)) : w_Order_init ns ps Q E := by
  unfold w_Order_init
  unfold ini at h
  refine check_names_ok hl hs ?_
  cases e1 : chkN ns with
  | some e => rw [e1] at h; exact h
  | none =>
    rw [e1] at h
    refine check_pairs_ok hs2 ?_
    cases e2 : chkP ns ps with
    | some e => rw [e2] at h; exact h
    | none =>
      rw [e2] at h
      obtain ⟨hn, hn1, hn8⟩ := chkN_none e1
      have hp := chkP_none e2
      refine closed_ok hn (by omega) hp fun st w r => ?_
      have mem : ∀ x ∈ ns, ∀ d, dget st x = some d → ∀ y, y ∈ d.map (·.1) ↔ Rch ps x y := fun x hx d hd y => by
        rw [← r x y hx]
        exact ⟨fun z => ⟨d, hd, z⟩, fun ⟨d', h1, h2⟩ => by rw [hd] at h1; cases h1; exact h2⟩
      refine W.compG_plain (fun x => decide (Rnd ps x)) id ns (by omega) (fun low hlow P hP => ?_) (fun x _ _ P hP => hP) ?_
      · obtain ⟨d, hd⟩ := w.get hlow
        refine ⟨d, hd, W.compG_plain (fun _ => true) (fun high => !decide (high = low) && decide (Rch ps high low)) (d.map (·.1)) ?_ (fun x _ P hP => hP) (fun high hh _ P hP => ?_) ?_⟩
        · have := w.len hd
          rw [List.length_map]
          omega
        · have hi : high ∈ ns := (w.row _ _ hd).2 _ hh
          refine W.ite_intro (fun hb => ?_) fun hb => ?_
          · obtain ⟨d2, hd2⟩ := w.get hi
            refine ⟨d2, hd2, ?_⟩
            have : dhas d2 low = decide (Rch ps high low) := by
              rw [Bool.eq_iff_iff, dhas_iff, mem high hi d2 hd2, decide_eq_true_iff]
            show P (dhas d2 low)
            rw [this]
            rw [hb] at hP
            exact hP
          · rw [hb] at hP
            exact hP
        · show P (List.any _ id)
          rw [filter_tt, List.any_map]
          have : ((d.map (·.1)).any (id ∘ fun high => !decide (high = low) && decide (Rch ps high low))) = decide (Rnd ps low) := by
            rw [Bool.eq_iff_iff, List.any_eq_true, decide_eq_true_iff]
            constructor
            · rintro ⟨y, h1, h2⟩
              simp at h2
              exact ⟨y, h2.1, (mem low hlow d hd y).mp h1, h2.2⟩
            · rintro ⟨y, h1, h2, h3⟩
              exact ⟨y, (mem low hlow d hd y).mpr h2, by simp [h1, h3]⟩
          rw [this]
          exact hP
      · rw [List.map_id]
        show W.ite (!decide (rnd ns ps = [])) _ _
        have hrl : (rnd ns ps).length ≤ ns.length := List.length_filter_le _ _
        refine W.ite_intro (fun hb => ?_) fun hb => ?_
        · have : ¬ rnd ns ps = [] := by simpa using hb
          rw [if_neg this] at h
          exact ⟨by show (rnd ns ps).length < 64; omega, h⟩
        · have : rnd ns ps = [] := by simpa using hb
          rw [if_pos this] at h
          refine ⟨by omega, by rw [srt_len]; omega, ?_⟩
          refine W.dcomp_plain' (fun x => x) (fun x => upOf ns ps x) (srt ns) [] (fun _ _ P hP => hP) (fun _ _ P hP => hP) (fun x hx P hP => ?_) ?_
          · have hx := srt_mem.mp hx
            obtain ⟨d, hd⟩ := w.get hx
            have hlen := w.len hd
            refine ⟨d, hd, by rw [List.length_map]; omega, ?_⟩
            have : srt (d.map (·.1)) = upOf ns ps x := srt_congr (perm_of_nodup (w.row x d hd).1 (hn.filter _) fun y => by
              rw [mem x hx d hd, List.mem_filter, decide_eq_true_iff]
              exact ⟨fun z => ⟨z.in hp hx, z⟩, fun z => z.2⟩)
            rw [this]
            exact hP
          · rw [dcol_new (srt ns) [] (srt_nodup hn) (by simp), List.nil_append]
            exact h
end K01
namespace K01
open PySem L2 OW
def mENU : List Str := [("a" : Str), ("b" : Str), ("c" : Str), ("x1" : Str), ("x10" : Str), ("y" : Str), ("abcdefgh" : Str), ("d9" : Str)]
end K01
namespace K01
open PySem L2 OW
theorem l_cell_ok {script : List Int} {k : Int} {Q : Int → Prop} {E : Er → Prop} (h0 : 0 ≤ k) (h : ∀ z, Q z) : w_l_cell script k Q E := by
  unfold w_l_cell
  refine W.ite_intro (fun hb => ?_) fun _ => h 0
  exact getI_ok h0 (of_decide_eq_true hb) fun x _ => h x
section
variable {ns : List Str} {ps : List (Str × Str)} {E : Er → Prop}
def Tab (ns : List Str) (ps : List (Str × Str)) (st : List (Str × List Str)) : Prop := WFL ns st ∧ ∀ x y, x ∈ ns → (RL st x y ↔ Rch ps x y)
end
end K01
namespace K01
open PySem L2 OW
section
variable {ns nm : List Str} {ps ps' : List (Str × Str)} {E : Er → Prop}
theorem mkO {ns' : List Str} {Q : OW.Ord → Prop} (g : Gd ns) (p : Pd ns ps) (h1 : ns'.Perm ns) (h : Q (ordOf ns ps)) : w_Order_init ns' ps Q E := by
  have g' := g.perm h1
  have p' := p.perm h1
  have z : ∀ x ∈ ns', x.length ≤ 100000 := fun x hx => Nat.le_trans (g'.sz x hx) (by decide)
  refine init_ok (by have := g'.l8; omega) z (fun q hq => ⟨z _ (p'.mem q hq).1, z _ (p'.mem q hq).2⟩) ?_
  rw [ini_good g'.nd g'.l1 g'.l8 g'.nm p'.mem p'.anti]
  show Q (ordOf ns' ps)
  rw [ordOf_perm h1]
  exact h
end
end K01
namespace K01
open PySem L2 OW
open PySem.Builtin.Int (intBits)
open OT (Fit mulOk)
section
variable {E : Er → Prop}
theorem common_ok {a b : Int} {Q : Int → Prop} (h : Q (Int.gcd a b : Int)) : w_common a b Q E := by
  unfold w_common
  refine ⟨b.natAbs + 1, ?_⟩
  have go : ∀ (n x y : Nat), y ≤ n → Q (Nat.gcd x y : Int) → W.whileN E (fun st : Int × Int => W.ret (!decide (st.2 = (0 : Int)))) (fun st kn =>
      W.run (W.bind (W.grd (st.2 ≠ 0) ((st.1).fmod st.2)) fun z => W.ret (st.2, z)) E fun t_1 => kn (t_1.1, t_1.2))
      (fun st => W.run (W.ret st.1) E Q) (n + 1) ((x : Int), (y : Int)) := by
    intro n
    induction n with
    | zero =>
      intro x y hy hq
      obtain rfl : y = 0 := by omega
      refine ite_f rfl ?_
      rw [Nat.gcd_zero_right] at hq
      exact hq
    | succ n ih =>
      intro x y hy hq
      show W.ite (!decide ((y : Int) = 0)) _ _
      refine W.ite_intro (fun hb => ?_) fun hb => ?_
      · have hy0 : y ≠ 0 := by simpa using hb
        refine ⟨by show (y : Int) ≠ 0; omega, ?_⟩
        show W.whileN E _ _ _ (n + 1) ((y : Int), (x : Int).fmod (y : Int))
        rw [OT.fmod_nat]
        exact ih y (x % y) (by have := Nat.mod_lt x (Nat.pos_of_ne_zero hy0); omega) (by rw [OT.gcd_step]; exact hq)
      · have hy0 : y = 0 := by simpa using hb
        subst hy0
        rw [Nat.gcd_zero_right] at hq
        exact hq
  exact go _ _ _ (Nat.le_refl _) h
theorem ratio_ok {a b : Int} {Q : Rt → Prop} (hb : b ≠ 0) (hz : intBits b ≤ 9000) (h : Q (rt (Rat.divInt a b))) : w_Ratio_init a b Q E := by
  unfold w_Ratio_init
  refine ite_f (decide_eq_false hb) (common_ok ?_)
  have hd : DivOk (OT.gs a b) := ⟨OT.gs_ne hb, OT.log2_lt_of_bits (OT.bits_gs hb hz) (by decide)⟩
  have e : rt (Rat.divInt a b) = ⟨a.fdiv (OT.gs a b), b.fdiv (OT.gs a b)⟩ := by rw [OT.top_ok hb, OT.bot_ok hb]; rfl
  rw [e] at h
  have go : ∀ g : Int, g = OT.gs a b → DivOk g ∧ DivOk g ∧ Q ⟨a.fdiv g, b.fdiv g⟩ := by rintro g rfl; exact ⟨hd, hd, h⟩
  refine W.ite_intro (fun hb => ?_) fun hb => ?_
  · exact go (-(Int.gcd a b : Int)) (by unfold OT.gs; rw [if_pos (of_decide_eq_true hb)])
  · exact go (Int.gcd a b : Int) (by unfold OT.gs; rw [if_neg (of_decide_eq_false hb)])
end
end K01
namespace K01
open PySem L2 OW
open PySem.Builtin.Int (intBits)
open OT (Fit mulOk)
theorem run_mk {α : Type} {w : Wp α} {p : α → Prop} {E : Er → Prop} (h : w p E) : W.run w E p := h
theorem run_bd {α β : Type} {w : Wp α} {f : α → Wp β} {E : Er → Prop} {Q : β → Prop} (h : w (fun x => f x Q E) E) : W.run (W.bind w f) E Q := h
theorem bd_mk {α β : Type} {w : Wp α} {f : α → Wp β} {E : Er → Prop} {Q : β → Prop} (h : w (fun x => f x Q E) E) : W.bind w f Q E := h
section
variable {E : Er → Prop} {α β : Type} {dec : α → Er} {v : α → β} {Q : β → Prop} {x : Er} {y : α} {p : Prop}
theorem as_ret (e : x = dec y) (h : Q (v y)) : W.as (W.ret x) dec v Q E := ⟨y, e, h⟩
theorem as_grd (hp : p) (e : x = dec y) (h : Q (v y)) : W.as (W.grd p x) dec v Q E := ⟨hp, y, e, h⟩
end
def cA : List Str := [("a" : Str), ("b" : Str)]
def cAp : List (Str × Str) := [(("a" : Str), ("b" : Str))]
def cB : List Str := [("a1" : Str), ("a2" : Str), ("b1" : Str), ("b2" : Str)]
def cBp : List (Str × Str) := [(("a1" : Str), ("b1" : Str)), (("a2" : Str), ("b2" : Str)), (("a2" : Str), ("b1" : Str)), (("a1" : Str), ("b2" : Str))]
def rk (x : Str) : Nat := if x = ("b" : Str) ∨ x = ("b1" : Str) ∨ x = ("b2" : Str) then 1 else 0
theorem gA : Gd cA := ⟨by decide +kernel, by decide, by decide, by decide +kernel⟩
theorem gB : Gd cB := ⟨by decide +kernel, by decide, by decide, by decide +kernel⟩
theorem pA : Pd cA cAp := ⟨by decide +kernel, fun x y a b => Rch.anti (r := rk) (by unfold Acy; decide +kernel) a b⟩
theorem pB : Pd cB cBp := ⟨by decide +kernel, fun x y a b => Rch.anti (r := rk) (by unfold Acy; decide +kernel) a b⟩
theorem chain_ok {Q : OW.Ord → Prop} {E : Er → Prop} (h : Q (ordOf cA cAp)) : w_Order_chain cA Q E := by
  unfold w_Order_chain
  have e : rng 0 ((cA.length : Int) - 1) = [0] := by decide
  rw [e]
  refine run_bd (bd_mk ⟨by unfold OW.RgOk; decide, ?_⟩)
  refine W.compG_plain (E := E) (fun _ => true) (fun _ : Int => (("a" : Str), ("b" : Str))) [0] (by decide) (fun _ _ _ hP => hP) (fun k hk _ P hP => ?_) (mkO gA pA (.refl _) h)
  rw [List.mem_singleton] at hk
  subst hk
  refine bd_mk (w := W.get cA 0) ⟨("a" : Str), rfl, ?_⟩
  exact bd_mk (w := W.get cA 1) ⟨("b" : Str), rfl, hP⟩
theorem r2 : rng 0 (2 : Int) = [0, 1] := by decide
theorem crown_ok {Q : OW.Ord → Prop} {E : Er → Prop} (h : Q (ordOf cB cBp)) : w_Order_crown 2 Q E := by
  unfold w_Order_crown
  refine run_mk (ite_f rfl ?_)
  rw [r2]
  have ok2 : OW.RgOk 2 := by unfold OW.RgOk; decide
  have sgn : ∀ (z : Str) {k : Int}, k ∈ ([0, 1] : List Int) → z.length ≤ 100 → ∀ P : Str → Prop, P (z ++ ((toString (k + 1) : Str) ++ Str.empty)) → (W.bind (W.ret z) fun z_2 Q E => z_2.length ≤ 100000 ∧ (W.bind (W.grd ((k + (1 : Int)).natAbs.log2 < 1920) (toString (k + (1 : Int)) : Str)) fun z_1 Q E => z_1.length ≤ 100000 ∧ (W.ret Str.empty) (fun y => Q (z_1 ++ y)) E) (fun y => Q (z_2 ++ y)) E) P E0 := fun z k hk hz P hP => by
    simp only [List.mem_cons, List.not_mem_nil, or_false] at hk
    rcases hk with rfl | rfl
    · exact bd_mk ⟨by show z.length ≤ 100000; omega, by decide, by decide, hP⟩
    · exact bd_mk ⟨by show z.length ≤ 100000; omega, by decide, by decide, hP⟩
  refine run_bd ⟨ok2, W.compG_plain (E := E) (fun _ => true) (fun k : Int => ("a" : Str) ++ ((toString (k + 1) : Str) ++ Str.empty)) [0, 1] (by decide) (fun _ _ _ hP => hP) (fun k hk _ P hP => sgn _ hk (by decide) P hP) ?_⟩
  refine run_bd ⟨ok2, W.compG_plain (E := E) (fun _ => true) (fun k : Int => ("b" : Str) ++ ((toString (k + 1) : Str) ++ Str.empty)) [0, 1] (by decide) (fun _ _ _ hP => hP) (fun k hk _ P hP => sgn _ hk (by decide) P hP) ?_⟩
  have e1 : ((([0, 1] : List Int).filter fun _ => true).map fun k : Int => ("a" : Str) ++ ((toString (k + 1) : Str) ++ Str.empty)) = [("a1" : Str), ("a2" : Str)] := by decide +kernel
  have e2 : ((([0, 1] : List Int).filter fun _ => true).map fun k : Int => ("b" : Str) ++ ((toString (k + 1) : Str) ++ Str.empty)) = [("b1" : Str), ("b2" : Str)] := by decide +kernel
  rw [e1, e2]
  refine run_bd ⟨ok2, W.compG_plain (E := E) (fun _ => true) (fun k : Int => if k = 0 then (("a1" : Str), ("b1" : Str)) else (("a2" : Str), ("b2" : Str))) [0, 1] (by decide) (fun _ _ _ hP => hP) (fun k hk _ P hP => ?_) ?_⟩
  · simp only [List.mem_cons, List.not_mem_nil, or_false] at hk
    rcases hk with rfl | rfl
    · refine bd_mk ⟨("a1" : Str), rfl, ?_⟩
      exact bd_mk ⟨("b1" : Str), rfl, hP⟩
    · refine bd_mk ⟨("a2" : Str), rfl, ?_⟩
      exact bd_mk ⟨("b2" : Str), rfl, hP⟩
  refine run_bd ⟨by decide, bd_mk (bd_mk (bd_mk ⟨ok2, W.compG_plain (E := E) (fun _ => true) (fun k : Int => if k = 0 then (("a2" : Str), ("b1" : Str)) else (("a1" : Str), ("b2" : Str))) [0, 1] (by decide) (fun _ _ _ hP => hP) (fun k hk _ P hP => ?_) ⟨by decide, mkO gB pB (.refl _) h⟩⟩))⟩
  simp only [List.mem_cons, List.not_mem_nil, or_false] at hk
  rcases hk with rfl | rfl
  · refine bd_mk (bd_mk ⟨by decide, ("a2" : Str), rfl, ?_⟩)
    exact bd_mk ⟨("b1" : Str), rfl, hP⟩
  · refine bd_mk (bd_mk ⟨by decide, ("a1" : Str), rfl, ?_⟩)
    exact bd_mk ⟨("b2" : Str), rfl, hP⟩
theorem oeq_ref {ns : List Str} {ps : List (Str × Str)} {Q : Bool → Prop} {E : Er → Prop} (hn : ns.Nodup) (h : Q true) : w_Order_eq (ordOf ns ps) (ordOf ns ps) Q E := by
  unfold w_Order_eq
  show Q (true && deq _ _)
  rw [deq_refl hn]
  exact h
theorem req_ref {q : Rt} {Q : Bool → Prop} {E : Er → Prop} (h : Q true) : w_Ratio_eq q q Q E := by
  unfold w_Ratio_eq
  show Q (true && (decide (q.top = q.top) && decide (q.bottom = q.bottom)))
  simpa using h
def due (which n : Int) (name : Str) (e : Er) : Prop :=
  (which = 0 ∧ e = .badNumber n) ∨ (which = 1 ∧ e = .badText n) ∨ (which = 2 ∧ e = .badName name) ∨ (which = 3 ∧ e = .dup name) ∨ (which = 4 ∧ e = .unknown name) ∨ (which = 5 ∧ e = .ring [("a" : Str), name]) ∨ (which = 6 ∧ ∃ q, e = .badShares q) ∨ (which = 7 ∧ ∃ a b, e = .unlike a b) ∨
  (which = 8 ∧ e = .notRising name ("b" : Str) [("a" : Str), name]) ∨ (which = 9 ∧ e = .noThrow) ∨ (which = 10 ∧ e = .hasRing [("a" : Str), name]) ∨ (which = 11 ∧ e = .noRing) ∨ (which = 12 ∧ e = .nothing)
theorem made_ok {which n : Int} {name : Str} {Q : Er × Bool → Prop} {E : Er → Prop} (h0 : 0 ≤ which) (h1 : which < 13) (hf : OT.fmtOk (V.int n)) (hl : name.length ≤ 100000) (h : ∀ e, due which n name e → Q (e, true)) : w_l_made which n name [("a" : Str), name] Q E := by
  have c : which = 0 ∨ which = 1 ∨ which = 2 ∨ which = 3 ∨ which = 4 ∨ which = 5 ∨ which = 6 ∨ which = 7 ∨ which = 8 ∨ which = 9 ∨ which = 10 ∨ which = 11 ∨ which = 12 := by omega
  have fs : OT.fmtOk (V.str name) := hl
  unfold w_l_made
  unfold w_l_simple
  rcases c with rfl | rfl | rfl | rfl | rfl | rfl | rfl | rfl | rfl | rfl | rfl | rfl | rfl
  · refine run_mk (ite_t rfl (run_mk (run_mk (ite_t rfl (run_mk ⟨hf, run_bd (bd_mk (as_ret (y := n) rfl ?_))⟩)))))
    show Q (Er.badNumber n, decide (n = n))
    rw [decide_eq_true rfl]
    exact h _ (by unfold due; simp)
  · refine run_mk (ite_t rfl (run_mk (run_mk (ite_f rfl (run_mk (ite_t rfl (run_mk ⟨hf, run_bd (bd_mk (as_ret (y := n) rfl ?_))⟩)))))))
    show Q (Er.badText n, decide (n = n))
    rw [decide_eq_true rfl]
    exact h _ (by unfold due; simp)
  · refine run_mk (ite_t rfl (run_mk (run_mk (ite_f rfl (run_mk (ite_f rfl (run_mk (ite_t rfl (run_mk ⟨fs, run_bd (bd_mk (as_ret (y := name) rfl ?_))⟩)))))))))
    show Q (Er.badName name, decide (name = name))
    rw [decide_eq_true rfl]
    exact h _ (by unfold due; simp)
  · refine run_mk (ite_t rfl (run_mk (run_mk (ite_f rfl (run_mk (ite_f rfl (run_mk (ite_f rfl (run_mk (ite_t rfl (run_mk ⟨fs, run_bd (bd_mk (as_ret (y := name) rfl ?_))⟩)))))))))))
    show Q (Er.dup name, decide (name = name))
    rw [decide_eq_true rfl]
    exact h _ (by unfold due; simp)
  · refine run_mk (ite_t rfl (run_mk (run_mk (ite_f rfl (run_mk (ite_f rfl (run_mk (ite_f rfl (run_mk (ite_f rfl (run_mk ⟨fs, run_bd (bd_mk (as_ret (y := name) rfl ?_))⟩)))))))))))
    show Q (Er.unknown name, decide (name = name))
    rw [decide_eq_true rfl]
    exact h _ (by unfold due; simp)
  · refine run_mk (ite_f rfl (run_mk (ite_t rfl (run_mk ⟨trivial, run_bd (bd_mk (as_ret (y := [("a" : Str), name]) rfl ?_))⟩))))
    show Q (_, decide ([("a" : Str), name] = [("a" : Str), name]))
    rw [decide_eq_true rfl]
    exact h _ (by unfold due; simp)
  · refine run_mk (ite_f rfl (run_mk (ite_f rfl (run_mk (ite_t rfl (run_bd (ratio_ok (by decide) (by decide) ⟨trivial, run_bd (bd_mk (as_ret (y := rt (Rat.divInt n 7)) rfl (bd_mk (ratio_ok (by decide) (by decide) (req_ref ?_)))))⟩)))))))
    exact h _ (by unfold due; simp)
  · refine run_mk (ite_f rfl ?_)
    refine run_mk (ite_f rfl ?_)
    refine run_mk (ite_f rfl ?_)
    refine run_mk (ite_t rfl ?_)
    refine run_bd (chain_ok (bd_mk (crown_ok ⟨trivial, ?_⟩)))
    refine run_bd (bd_mk ?_)
    refine bd_mk (as_ret (y := (ordOf cA cAp, ordOf cB cBp)) rfl ?_)
    refine bd_mk (chain_ok ?_)
    refine oeq_ref gA.nd (ite_t rfl ?_)
    refine bd_mk (as_ret (y := (ordOf cA cAp, ordOf cB cBp)) rfl ?_)
    refine bd_mk (crown_ok ?_)
    refine oeq_ref gB.nd ?_
    exact h _ (by unfold due; simp)
  · refine run_mk (ite_f rfl ?_)
    refine run_mk (ite_f rfl ?_)
    refine run_mk (ite_f rfl ?_)
    refine run_mk (ite_f rfl ?_)
    refine run_mk (ite_t rfl ?_)
    refine run_mk ⟨⟨hl, by decide⟩, ?_⟩
    refine run_bd (bd_mk (bd_mk (bd_mk ?_)))
    refine as_ret (y := (name, ("b" : Str), [("a" : Str), name])) rfl ?_
    refine bd_mk (bd_mk ?_)
    refine as_ret (y := (name, ("b" : Str), [("a" : Str), name])) rfl ?_
    refine bd_mk (bd_mk ?_)
    refine as_ret (y := (name, ("b" : Str), [("a" : Str), name])) rfl ?_
    refine ⟨⟨rfl, ?_⟩, ?_⟩
    · simp [Dy.deps, Dy.dep]
    · exact h _ (by unfold due; simp)
  · refine run_mk (ite_f rfl (run_mk (ite_f rfl (run_mk (ite_f rfl (run_mk (ite_f rfl (run_mk (ite_f rfl (run_mk (ite_t rfl ?_)))))))))))
    exact h _ (by unfold due; simp)
  · refine run_mk (ite_f rfl (run_mk (ite_f rfl (run_mk (ite_f rfl (run_mk (ite_f rfl (run_mk (ite_f rfl (run_mk (ite_f rfl (run_mk (ite_t rfl (run_mk ⟨trivial, run_bd (bd_mk (as_ret (y := [("a" : Str), name]) rfl ?_))⟩))))))))))))))
    show Q (_, decide ([("a" : Str), name] = [("a" : Str), name]))
    rw [decide_eq_true rfl]
    exact h _ (by unfold due; simp)
  · refine run_mk (ite_f rfl (run_mk (ite_f rfl (run_mk (ite_f rfl (run_mk (ite_f rfl (run_mk (ite_f rfl (run_mk (ite_f rfl (run_mk (ite_f rfl (run_bd ⟨_, rfl, ?_⟩))))))))))))))
    exact h _ (by unfold due; simp)
  · refine run_mk (ite_f rfl (run_mk (ite_f rfl (run_mk (ite_f rfl (run_mk (ite_f rfl (run_mk (ite_f rfl (run_mk (ite_f rfl (run_mk (ite_f rfl (run_bd ⟨_, rfl, ?_⟩))))))))))))))
    exact h _ (by unfold due; simp)
theorem kinds_ok {which n : Int} {name : Str} {e : Er} {Q : List Bool → Prop} {E : Er → Prop} (d : due which n name e) (h : Q ((rng 0 13).map fun k => decide (k = which))) : w_l_kinds e Q E := by
  have r13 : rng 0 (13 : Int) = [0, 1, 2, 3, 4, 5, 6, 7, 8, 9, 10, 11, 12] := by decide
  rw [r13] at h
  unfold w_l_kinds
  unfold due at d
  rcases d with ⟨rfl, rfl⟩ | ⟨rfl, rfl⟩ | ⟨rfl, rfl⟩ | ⟨rfl, rfl⟩ | ⟨rfl, rfl⟩ | ⟨rfl, rfl⟩ | ⟨rfl, q, rfl⟩ | ⟨rfl, a, b, rfl⟩ | ⟨rfl, rfl⟩ | ⟨rfl, rfl⟩ | ⟨rfl, rfl⟩ | ⟨rfl, rfl⟩ | ⟨rfl, rfl⟩ <;> exact ⟨by show 6 ≤ 100000; decide, by show 9 ≤ 100000; decide, by show 12 ≤ 100000; decide, by show 13 ≤ 100000; decide, h⟩
end K01
namespace K01
open PySem L2 OW
open PySem.Builtin.Int (intBits)
open OT (Fit mulOk)
theorem fmt_of {n : Int} (h : n.natAbs < 2 ^ 200) : OT.fmtOk (V.int n) := by
  show n.natAbs.log2 < 1920
  by_cases e : n.natAbs = 0
  · rw [e]; decide
  · exact (Nat.log2_lt e).mpr (Nat.lt_of_lt_of_le h (Nat.pow_le_pow_right (by decide) (by decide)))
theorem listed_ok {name : Str} {Q : Bool → Prop} {E : Er → Prop} (h : Q true) : w_l_listed name Q E := by
  unfold w_l_listed
  refine run_bd (as_grd (y := [("a" : Str), name]) trivial rfl ?_)
  refine bd_mk (as_grd (y := [("a" : Str), name]) trivial rfl ?_)
  refine bd_mk (as_grd (y := (("a" : Str), ("b" : Str), [("a" : Str), name])) ⟨by decide, by decide⟩ rfl ?_)
  refine run_bd ⟨⟨by decide, by decide, by show 1 * 3 ≤ 100000; decide⟩, ?_⟩
  show Q (decide (_ = _))
  rw [decide_eq_true (show [[("a" : Str), name], [("a" : Str), name], [("a" : Str), name]] = (List.replicate (3 : Int).toNat [[("a" : Str), name]]).flatten from rfl)]
  exact h
theorem pure_law (script : List Int) (hh : script.length ≤ 63 ∧ ∀ z ∈ script, Builtin.Int.intBits z ≤ 1048576) : w_law script (fun b => b = true) (fun _ => False) := by
  unfold w_law
  refine run_bd (l_cell_ok (by decide) fun z => ?_)
  have p40 : (10 : Int) ^ ((40 : Int)).toNat = 10000000000000000000000000000000000000000 := by decide +kernel
  refine run_bd (bd_mk (bd_mk (bd_mk (take_ok (by decide) (by decide) fun a a0 a1 => ?_))))
  refine bd_mk (bd_mk (l_cell_ok (by decide) fun z1 => bd_mk ⟨by unfold CPow; decide +kernel, ?_⟩))
  rw [p40]
  refine ⟨by decide, ?_⟩
  have b1 := Int.fmod_nonneg_of_pos z1 (show (0 : Int) < 10000000000000000000000000000000000000000 by decide)
  have b2 := Int.fmod_lt_of_pos z1 (show (0 : Int) < 10000000000000000000000000000000000000000 by decide)
  refine takeget_ok (xs := [a - 9, z1.fmod 10000000000000000000000000000000000000000, -1]) rfl (by show 0 < 3; decide) (by show 3 ≤ 100000; decide) fun n hn => ?_
  have hf : OT.fmtOk (V.int n) := by
    refine fmt_of ?_
    have : (10000000000000000000000000000000000000000 : Nat) < 2 ^ 200 := by decide +kernel
    simp only [List.mem_cons, List.not_mem_nil, or_false] at hn
    rcases hn with rfl | rfl | rfl <;> omega
  refine run_bd (bd_mk ⟨by unfold MulOk; decide +kernel, ?_⟩)
  refine takeget_ok (xs := [("" : Str), ("b" : Str), ("abcdefgh" : Str), ("X" : Str), ("a b" : Str), Txt.mul ("9" : Str) (40 : Int)]) rfl (by decide) (by decide) fun name hname => ?_
  have hl : name.length ≤ 100000 := by
    have : ∀ y ∈ [("" : Str), ("b" : Str), ("abcdefgh" : Str), ("X" : Str), ("a b" : Str), Txt.mul ("9" : Str) (40 : Int)], y.length ≤ 100000 := by decide +kernel
    exact this name hname
  refine run_bd (listed_ok (ite_f rfl ?_))
  refine run_mk ⟨by unfold OW.RgOk; decide, ?_⟩
  refine W.loop_inv (fun _ : Unit => True) (rng 0 (13 : Int)) (fun x hx st K _ kk => ?_) (fun _ _ => rfl) _ trivial
  obtain ⟨x0, x1⟩ := rng_mem.mp hx
  refine run_mk (made_ok x0 x1 hf hl fun e d => ?_)
  refine run_mk ⟨by show 2 < 100000; decide, ?_⟩
  refine run_mk (ite_f rfl (bd_mk (kinds_ok d ?_)))
  refine bd_mk (bd_mk ⟨by unfold OW.RgOk; decide, by show (rng 0 (13 : Int)).length ≤ 100000; decide, ?_⟩)
  have ek : ((rng 0 (13 : Int)).filter fun _ => true).map (fun k : Int => decide (k = x)) = (rng 0 13).map fun k => decide (k = x) := by rw [filter_tt]
  refine ite_f ?_ ?_
  · rw [ek, decide_eq_true rfl]
    rfl
  refine run_mk (ite_f rfl ?_)
  have d0 := d
  have fin : (W.run (W.sel (decide (x < (9 : Int))) (W.bind (W.bind (w_l_made x n name [("a" : Str), name]) fun z_18 => W.ret z_18.2) fun z_19 => W.ret (!z_19)) (W.ret false)) (fun _ => False) fun b => W.ite b
      (W.run (W.ret false) (fun _ => False) (fun b => b = true)) (K ())) := by
    refine run_mk (W.ite_intro (fun _ => bd_mk (bd_mk (made_ok x0 x1 hf hl fun e2 _ => ite_f rfl (kk () trivial)))) fun _ => ite_f rfl (kk () trivial))
  unfold due at d
  have dt : (!decide ([("a" : Str), name] = [("a" : Str), name])) = false := by rw [decide_eq_true rfl]; rfl
  rcases d with ⟨rfl, rfl⟩ | ⟨rfl, rfl⟩ | ⟨rfl, rfl⟩ | ⟨rfl, rfl⟩ | ⟨rfl, rfl⟩ | ⟨rfl, rfl⟩ | ⟨rfl, q, rfl⟩ | ⟨rfl, a', b', rfl⟩ | ⟨rfl, rfl⟩ | ⟨rfl, rfl⟩ | ⟨rfl, rfl⟩ | ⟨rfl, rfl⟩ | ⟨rfl, rfl⟩
  iterate 5 exact run_mk (ite_f rfl (ite_f rfl (run_mk (ite_f rfl (ite_f rfl (run_mk (ite_f rfl (ite_f rfl fin))))))))
  · exact run_mk (ite_t rfl (bd_mk (as_ret (y := [("a" : Str), name]) rfl (ite_f dt (run_mk (ite_f rfl (ite_f rfl (run_mk (ite_f rfl (ite_f rfl fin)))))))))) 
  · exact run_mk (ite_f rfl (ite_f rfl (run_mk (ite_f rfl (ite_f rfl (run_mk (ite_f rfl (ite_f rfl fin))))))))
  · exact run_mk (ite_f rfl (ite_f rfl (run_mk (ite_f rfl (ite_f rfl (run_mk (ite_f rfl (ite_f rfl fin))))))))
  · exact run_mk (ite_f rfl (ite_f rfl (run_mk (ite_t rfl (bd_mk (as_ret (y := (name, ("b" : Str), [("a" : Str), name])) rfl (ite_f dt (run_mk (ite_f rfl (ite_f rfl fin)))))))))) 
  · exact run_mk (ite_f rfl (ite_f rfl (run_mk (ite_f rfl (ite_f rfl (run_mk (ite_f rfl (ite_f rfl fin))))))))
  · exact run_mk (ite_f rfl (ite_f rfl (run_mk (ite_f rfl (ite_f rfl (run_mk (ite_t rfl (bd_mk (as_ret (y := [("a" : Str), name]) rfl (ite_f dt fin)))))))))) 
  · exact run_mk (ite_f rfl (ite_f rfl (run_mk (ite_f rfl (ite_f rfl (run_mk (ite_f rfl (ite_f rfl fin))))))))
  · exact run_mk (ite_f rfl (ite_f rfl (run_mk (ite_f rfl (ite_f rfl (run_mk (ite_f rfl (ite_f rfl fin))))))))
end K01
open PySem PySem.W PySem.Calls PyProof.Rows in
theorem PySem.Challenge.cw_onethrow_k01_errors_by_class_holds : PySem.Challenge.rw_onethrow_k01_errors_by_class.Holds := by
  w_on; o_law
  refine HandSHeadRun.head_any (r := (PySem.W.OpenLaw.row PySem.Challenge.rw_onethrow_k01_errors_by_class)) (q := view (PySem.W.OpenLaw.row PySem.Challenge.rw_onethrow_k01_errors_by_class).prog [43]) (H := K01.hk) (ob := K01.ob) (M := 60000) (loose := K01.loose) (d := HandSHeadRun.topDef (PySem.W.OpenLaw.row PySem.Challenge.rw_onethrow_k01_errors_by_class).prog 43) (kwd := []) K01.ob_eq
    (by kernel_rfl) (fun s => by kernel_rfl) K01.run (by kernel_rfl) (by kernel_rfl) (by kernel_rfl) (by rfl) (by first | assumption | decide +kernel) (by decide +kernel) ⟨rfl, rfl, rfl, rfl, rfl, by decide +kernel⟩ ?hw ?hc
  case hw => w_witness2
  case hc =>
    refine OT.walk_ofEB (l := PySem.Challenge.rw_onethrow_k01_errors_by_class) (n := 63) (k := 9) (x := "_law_script") rfl (by decide) (by kernel_rfl) ⟨rfl, by decide, by decide⟩ ?F
    intro w mg fa h Y G hmg0
    obtain ⟨K, KX, c⟩ := Y
    have hmg : mg ("law" : PySem.Str) = some (.ref fa) := by
      have e : (HandSHeadRun.topDef (PySem.W.OpenLaw.row PySem.Challenge.rw_onethrow_k01_errors_by_class).prog 43).name = ("law" : PySem.Str) := by kernel_rfl
      rw [← e]
      exact hmg0
    have ct : K01.Ct (PySem.Challenge.rw_onethrow_k01_errors_by_class).prog K mg := ⟨c, ⟨h, KX, G⟩, by kernel_rfl, by kernel_rfl⟩
    obtain ⟨fd, F⟩ := K01.fd_law ct
    have e := hmg.symm.trans (K01.glo_law ct)
    cases e
    have b := L2.FunD.bindsA (ps := ["_law_script"]) F fun _ _ _ _ _ _ us hl => match us, hl with | [_], _ => rfl
    exact ⟨K, fd, KX, fun s v => b s [v] rfl, fun base _ _ => (K01.ok_law ct F).imp fun _ _ _ _ q => OW.law_sp K01.pure_law q⟩
