import PyProof.Rows.All
import Wide.All
import OpenK.AllK
import Wide.FinOn
import HandS.ForMost
import HandS.Wide
import HandS.Exc
import HandS.WordsExc
import HandS.Defaults
import HandS.ExcOwn
import HandS.CallSlots
import HandS.IsInst
import HandS.ExcInit
import HandS.Nested
import HandS.ClsMeth
import KE.KExcSuper
import HandS.ExcField
import HandS.FStr
import HandS.HeadHook2
import KE.KStateDown
import HandS.Head0
import HandS.Head1
import HandS.Head2
import HandS.HeadEnd
import HandS.HeadHook1
import HandS.EndBits
import HandS.NoneIn
import HandS.OwnEq
import PyProof.NeKinds
import PyProof.Rows.Range3
import KE.IntBitsLaws
import HandS.Text
import HandS.Iter
import HandS.TupAny
import HandS.Dict
import HandS.DictComp
import HandS.More
import HandS.TupLe
import KE.GoesEnum
import HandS.DictEq
import HandS.IterVal
import HandS.OwnIter
import HandS.Style
import HandS.Star
import KE.KCallOwn
import KE.SortData
import KE.SortKeyHeap
import HandS.SortKw
import HandS.ListItems
import KE.KDictList
import PyProof.StrBlock2
import HandS.Zip
import KE.KDictZip
import PyProof.SliceList
import KE.KFmtOwn
import HandS.HotCalls
import HandS.Finally
import HandS.ExcIs
import KE.KExcIs
import KE.GoesRaise
import HandS.ReplaceLit
import HandS.TupLen
import KE.KDictPairs
import HandS.TupMul
import PyProof.DictUpdate
import PyProof.DictDisplay
import HandS.Records
import HandS.Conv
import KE.KItemsList
import HandS.Deep
import PyProof.Claim2
import HandS.Strs
import HandS.TupSets
import KE.KDictKeyed
import KE.DataCmp
import KE.KRevSl
import PyProof.Rows.TupDisplay
import Wide.Seal
import PyProof.EqKinds
import PyProof.EqLayable
import PyProof.Fits
import PySem.Challenge.RW_onethrow_k62_shares_dealt
set_option Elab.async false
set_option linter.all false
set_option maxRecDepth 100000
set_option maxHeartbeats 0
local macro_rules | `(tactic| walk_at "osub") => `(tactic| first | exact List.nil_sublist _ | exact List.Sublist.refl _ | (apply List.Sublist.cons; walk_at "osub") | (apply List.Sublist.cons_cons; walk_at "osub"))
local macro_rules | `(tactic| walk_at "omem") => `(tactic| first | exact List.mem_cons_self | (apply List.mem_cons_of_mem; walk_at "omem"))
local macro_rules | `(tactic| walk_at "oneed") => `(tactic| (intro q hq; first | (cases hq; done) | (rcases List.mem_cons.mp hq with hq | hq; (rw [hq]; show _ ∈ (_ :: _ : List _); walk_at "omem"); revert hq; revert q; walk_at "oneed")))
namespace OT
open PySem PySem.Spec PyProof.Rows L2

section
variable {X : Cx}
def wE (X : Cx) (e : Expr) : TE := fun σ H Q => ∃ t, PE X e t ∧ t σ H Q
def wT (X : Cx) (e : Expr) : TT := fun σ H Q => ∃ t, PT X e t ∧ t σ H Q
def wA (X : Cx) (es : List Expr) : TA := fun σ H Q => ∃ t, PA X es t ∧ t σ H Q
def wS (X : Cx) (st : Stmt) : TS := fun D σ H => ∃ t, PS X st t ∧ t D σ H
def wB (X : Cx) (st : List Stmt) : TS := fun D σ H => ∃ t, PSs X st t ∧ t D σ H
def wG (X : Cx) (tg : Expr) : TG := fun v σ H Q => ∃ t, PG X tg t ∧ t v σ H Q
def wI (X : Cx) (tg it : Expr) : TI := fun σ H R => ∃ t, PI X tg it t ∧ t σ H R
theorem pe_w {e : Expr} : PE X e (wE X e) := ⟨fun pins s σ H Q I ⟨_, h, q⟩ => h.run pins s σ H Q I q⟩
theorem pt_w {e : Expr} : PT X e (wT X e) := ⟨fun pins s σ H Q I ⟨_, h, q⟩ => h.run pins s σ H Q I q⟩
theorem pa_w {es : List Expr} : PA X es (wA X es) := ⟨fun pos pins s σ H Q I ⟨_, h, q⟩ => h.run pos pins s σ H Q I q⟩
theorem ps_w {st : Stmt} : PS X st (wS X st) := ⟨fun pins s σ H D I ⟨_, h, q⟩ => h.run pins s σ H D I q⟩
theorem pb_w {st : List Stmt} : PSs X st (wB X st) := ⟨fun pins s σ H D I ⟨_, h, q⟩ => h.run pins s σ H D I q⟩
theorem pg_w {e : Expr} : PG X e (wG X e) := ⟨fun pins s σ H v u Q I r ⟨_, h, q⟩ => h.run pins s σ H v u Q I r q⟩
theorem pi_w {tg e : Expr} : PI X tg e (wI X tg e) := ⟨fun pins s σ H R I ⟨_, h, q⟩ => h.run pins s σ H R I q⟩
end

structure MP where
  R : Hp → V → Prop
  up : ∀ {S S' : Hp} {v : V}, Same S S' → R S v → R S' v
structure BP where
  R : Hp → Hp → V → Prop
  up : ∀ {S S' H H' : Hp} {v : V}, Same S S' → Same H H' → R S H v → R S' H' v
structure MO where
  R : Hp → HO → Prop
  up : ∀ {S S' : Hp} {o : HO}, Same S S' → R S o → R S' o
structure XP where
  R : Hp → Value → Option Addr → Prop
  up : ∀ {S S' : Hp} {c : Value} {d : Option Addr}, Same S S' → R S c d → R S' c d
def MP.b (m : MP) : BP := ⟨fun S _ v => m.R S v, fun e _ h => m.up e h⟩
def BP.at_ (m : BP) (H : Hp) : MP := ⟨fun S v => m.R S H v, fun e h => m.up e (Same.refl H) h⟩
def MO.pub (m : MO) : MP := ⟨fun S v => ∃ p o, v = .ref p ∧ S p = some o ∧ m.R S o, fun {S S' v} e ⟨p, o, h1, h2, h3⟩ => ⟨p, o, h1, e p o h2, m.up e h3⟩⟩
def MO.b (m : MO) : BP := ⟨fun S H v => ∃ p o, v = .ref p ∧ H p = some o ∧ m.R S o, fun {S S' H H' v} e e' ⟨p, o, h1, h2, h3⟩ => ⟨p, o, h1, e' p o h2, m.up e h3⟩⟩

structure Stp (S H S' H' : Hp) : Prop where
  s : Same S S'
  i : Same S' H'
  h : Same H H'
  fr : ∀ a, S a = none → H a ≠ none → S' a = none
theorem Stp.refl {S H : Hp} (i : Same S H) : Stp S H S H := ⟨Same.refl _, i, Same.refl _, fun _ h _ => h⟩
theorem Stp.trans {S H S1 H1 S2 H2 : Hp} (a : Stp S H S1 H1) (b : Stp S1 H1 S2 H2) : Stp S H S2 H2 :=
  ⟨a.s.trans b.s, b.i, a.h.trans b.h, fun x h1 h2 => b.fr x (a.fr x h1 h2) (by
    cases e : H x with
    | none => exact absurd e h2
    | some o => rw [a.h x o e]; simp)⟩
theorem Stp.put {S H : Hp} (i : Same S H) {p : Addr} {o : HO} (hp : H p = none) : Stp S H (upd S p o) (upd H p o) where
  s := fun a u e => by rw [upd_ne (ne_of_none (i a u e) hp)]; exact e
  i := fun a u e => by
    by_cases q : a = p
    · subst q; rw [upd_same] at e ⊢; exact e
    · rw [upd_ne q] at e ⊢; exact i a u e
  h := fun a u e => by rw [upd_ne (ne_of_none e hp)]; exact e
  fr := fun a h1 h2 => by
    by_cases q : a = p
    · subst q; exact absurd hp h2
    · rw [upd_ne q]; exact h1
theorem Stp.own {S H : Hp} (i : Same S H) {p : Addr} {o : HO} (hp : H p = none) : Stp S H S (upd H p o) where
  s := Same.refl _
  i := fun a u e => by rw [upd_ne (ne_of_none (i a u e) hp)]; exact i a u e
  h := fun a u e => by rw [upd_ne (ne_of_none e hp)]; exact e
  fr := fun a h1 _ => h1
structure Gho where
  R : Hp → Prop
  up : ∀ {S S' : Hp}, Same S S' → R S → R S'
structure Bs where
  S : Hp
  H : Hp
  P : Gho
def Bs.add (B : Bs) (G : Gho) : Bs := ⟨B.S, B.H, ⟨fun S => B.P.R S ∧ G.R S, fun e h => ⟨B.P.up e h.1, G.up e h.2⟩⟩⟩
def Gho.yes : Gho := ⟨fun _ => True, fun _ h => h⟩
abbrev Gm := List (Option MP)
abbrev Om := List (Addr × MO)
structure Stt (B : Bs) (Γ : Gm) (O : Om) (S H : Hp) (σ : L2.St) : Prop where
  st : Stp B.S B.H S H
  slot : ∀ (i : Nat) (R : MP), Γ[i]? = some (some R) → ∃ v, σ[i]? = some (some v) ∧ R.R S v
  len : σ.length = Γ.length
  own : ∀ q ∈ O, S q.1 = none ∧ B.H q.1 = none ∧ ∃ o, H q.1 = some o ∧ q.2.R S o
  nd : (O.map (·.1)).Nodup
  gh : B.P.R S
section
variable {B : Bs} {Γ : Gm} {O : Om} {S H S' H' : Hp} {σ : L2.St}
theorem Stt.step (t : Stt B Γ O S H σ) (e : Stp S H S' H') : Stt B Γ O S' H' σ where
  st := t.st.trans e
  slot := fun i R h => let ⟨v, h1, h2⟩ := t.slot i R h; ⟨v, h1, R.up e.s h2⟩
  len := t.len
  own := fun q hq => by
    obtain ⟨h1, h2, o, h3, h4⟩ := t.own q hq
    exact ⟨e.fr _ h1 (by rw [h3]; simp), h2, o, e.h _ _ h3, q.2.up e.s h4⟩
  nd := t.nd
  gh := B.P.up e.s t.gh
theorem Stt.sub (t : Stt B Γ O S H σ) : Same S H := t.st.i
theorem Stt.set {i : Nat} {R : MP} {v : V} (t : Stt B Γ O S H σ) (h : R.R S v) (hi : i < Γ.length) : Stt B (Γ.set i (some R)) O S H (σ.set i (some v)) where
  st := t.st
  slot := fun j Q e => by
    by_cases q : i = j
    · subst q
      rw [List.getElem?_set_self (by exact hi)] at e
      have e2 : R = Q := Option.some.inj (Option.some.inj e)
      subst e2
      exact ⟨v, by rw [List.getElem?_set_self (by rw [t.len]; exact hi)], h⟩
    · rw [List.getElem?_set_ne q] at e
      obtain ⟨w, h1, h2⟩ := t.slot j Q e
      exact ⟨w, by rw [List.getElem?_set_ne q]; exact h1, h2⟩
  len := by rw [List.length_set, List.length_set]; exact t.len
  own := t.own
  nd := t.nd
  gh := t.gh
theorem Stt.forget {Γ' : Gm} (t : Stt B Γ O S H σ) (hl : Γ'.length = Γ.length) (h : ∀ (i : Nat) (R : MP), Γ'[i]? = some (some R) → Γ[i]? = some (some R)) : Stt B Γ' O S H σ :=
  ⟨t.st, fun i R e => t.slot i R (h i R e), t.len.trans hl.symm, t.own, t.nd, t.gh⟩
theorem Stt.add {p : Addr} {o : HO} {M : MO} (t : Stt B Γ O S H σ) (hp : H p = none) (hm : M.R S o) : Stt B Γ ((p, M) :: O) S (upd H p o) σ where
  st := t.st.trans (Stp.own t.sub hp)
  slot := t.slot
  len := t.len
  own := fun q hq => by
    rcases List.mem_cons.mp hq with e | hq
    · subst e
      exact ⟨t.sub.free hp, t.st.h.free hp, o, upd_same, hm⟩
    · obtain ⟨h1, h2, u, h3, h4⟩ := t.own q hq
      exact ⟨h1, h2, u, by rw [upd_ne (ne_of_none h3 hp)]; exact h3, h4⟩
  nd := by
    rw [List.map_cons]
    refine List.nodup_cons.mpr ⟨fun hm => ?_, t.nd⟩
    obtain ⟨q, hq, e⟩ := List.mem_map.mp hm
    obtain ⟨_, _, u, h3, _⟩ := t.own q hq
    have e2 : q.1 = p := e
    rw [e2, hp] at h3
    cases h3
  gh := t.gh
end

section
variable (X : Cx) (B : Bs) (Γ : Gm) (O : Om)
def EJ (e : Expr) (R : BP) : Prop := ∀ S H σ, Stt B Γ O S H σ → ∀ Q : VK, (∀ v S' H', Stp S H S' H' → R.R S' H' v → Q v H') → wE X e σ H Q
def NJ (e : Expr) (M : MO) : Prop := ∀ S H σ, Stt B Γ O S H σ → ∀ Q : VK, (∀ p o S' H', Stp S H S' H' → H p = none → S' p = none → H' p = some o → M.R S' o → Q (.ref p) H') → wE X e σ H Q
def TJ (e : Expr) (b : Bool) : Prop := ∀ S H σ, Stt B Γ O S H σ → ∀ Q : Bool → Hp → Prop, (∀ S' H', Stp S H S' H' → Q b H') → wT X e σ H Q
def AllR : List BP → Hp → Hp → List V → Prop
  | [], _, _, [] => True
  | R :: Rs, S, H, v :: vs => R.R S H v ∧ AllR Rs S H vs
  | _, _, _, _ => False
def AJ (es : List Expr) (Rs : List BP) : Prop := ∀ S H σ, Stt B Γ O S H σ → ∀ Q : List V → Hp → Prop, (∀ vs S' H', Stp S H S' H' → AllR Rs S' H' vs → Q vs H') → wA X es σ H Q
def SJ (body : List Stmt) (D : Ends) : Prop := ∀ S H σ, Stt B Γ O S H σ → wB X body D σ H
def NX (N : L2.St → Hp → Prop) : Prop := ∀ S H σ, Stt B Γ O S H σ → N σ H
end
theorem AllR.up : ∀ {Rs : List BP} {S S' H H' : Hp} {vs : List V}, Same S S' → Same H H' → AllR Rs S H vs → AllR Rs S' H' vs
  | [], _, _, _, _, [], _, _, _ => trivial
  | [], _, _, _, _, _ :: _, _, _, h => h.elim
  | _ :: _, _, _, _, _, [], _, _, h => h.elim
  | R :: Rs, _, _, _, _, v :: vs, e, e', h => ⟨R.up e e' h.1, AllR.up e e' h.2⟩
theorem AllR.length : ∀ {Rs : List BP} {S H : Hp} {vs : List V}, AllR Rs S H vs → vs.length = Rs.length
  | [], _, _, [], _ => rfl
  | [], _, _, _ :: _, h => h.elim
  | _ :: _, _, _, [], h => h.elim
  | R :: Rs, _, _, v :: vs, h => congrArg Nat.succ (AllR.length h.2)

def tV (v : V) : MP := ⟨fun _ w => w = v, fun _ h => h⟩
abbrev tI (i : Int) : MP := tV (.int i)
abbrev tB (b : Bool) : MP := tV (.bl b)
abbrev tS (x : Str) : MP := tV (.str x)
abbrev tN : MP := tV .non
abbrev tR (p : Addr) : MP := tV (.ref p)
abbrev bI (i : Int) : BP := (tI i).b
abbrev bB (b : Bool) : BP := (tB b).b
abbrev bS (x : Str) : BP := (tS x).b
abbrev bN : BP := tN.b

section
variable {X : Cx} {B : Bs} {Γ : Gm} {O : Om} {e a b c : Expr} {es : List Expr} {pos pos' : Pos} {R R' : BP} {D : Ends} {rest body els : List Stmt}

theorem EJ.of {t : TE} (h : PE X e t) (q : ∀ S H σ, Stt B Γ O S H σ → ∀ Q : VK, (∀ v S' H', Stp S H S' H' → R.R S' H' v → Q v H') → t σ H Q) : EJ X B Γ O e R :=
  fun S H σ st Q k => ⟨t, h, q S H σ st Q k⟩
theorem EJ.now {t : TE} (h : PE X e t) (q : ∀ S H σ, Stt B Γ O S H σ → ∃ v, R.R S H v ∧ ∀ Q : VK, Q v H → t σ H Q) : EJ X B Γ O e R :=
  EJ.of h fun S H σ st Q k => let ⟨v, h1, h2⟩ := q S H σ st; h2 Q (k v S H (Stp.refl st.sub) h1)
theorem EJ.imp (h : EJ X B Γ O e R) (i : ∀ S H v, R.R S H v → R'.R S H v) : EJ X B Γ O e R' := fun S H σ st Q k => h S H σ st Q fun v S' H' s r => k v S' H' s (i _ _ _ r)
theorem e_var (i : Nat) {R : MP} {x : Str} (hG : Γ[i]? = some (some R) := by rfl) (hN : X.N[i]? = some x := by rfl) (hv : Vis X.env.scope x := by first | exact Or.inl rfl | exact Or.inr (Or.inl rfl) | exact Or.inr (Or.inr rfl))
    (hd : (x == ("__debug__" : Str)) = false := by decide) (hcd : (x == ("__classdict__" : Str)) = false := by decide) : EJ X B Γ O (.Name x pos) R.b :=
  EJ.now (pe_var hN hv hd hcd) fun S H σ st => let ⟨v, h1, h2⟩ := st.slot i R hG; ⟨v, h2, fun Q q => ⟨v, h1, q⟩⟩
theorem e_own (i : Nat) {p : Addr} {M : MO} {x : Str} (hG : Γ[i]? = some (some (tR p))) (hO : (p, M) ∈ O) (hN : X.N[i]? = some x := by rfl) (hv : Vis X.env.scope x := by first | exact Or.inl rfl | exact Or.inr (Or.inl rfl) | exact Or.inr (Or.inr rfl))
    (hd : (x == ("__debug__" : Str)) = false := by decide) (hcd : (x == ("__classdict__" : Str)) = false := by decide) : EJ X B Γ O (.Name x pos) M.b :=
  EJ.now (pe_var hN hv hd hcd) fun S H σ st => by
    obtain ⟨v, h1, h2⟩ := st.slot i (tR p) hG
    obtain ⟨_, _, o, h3, h4⟩ := st.own _ hO
    exact ⟨v, ⟨p, o, h2, h3, h4⟩, fun Q q => ⟨v, h1, q⟩⟩
theorem e_int {i : Int} {j} : EJ X B Γ O (.Constant (.int i) j pos) (bI i) := EJ.now pe_int fun _ _ _ _ => ⟨_, rfl, fun _ q => q⟩
theorem e_str {i : Str} {j} : EJ X B Γ O (.Constant (.str i) j pos) (bS i) := EJ.now pe_str fun _ _ _ _ => ⟨_, rfl, fun _ q => q⟩
theorem e_op2 {op : Operator} {r : R2} {Ra Rb : BP} (ho : OpR X (binaryOp op) r) (ha : EJ X B Γ O a Ra) (hb : EJ X B Γ O b Rb)
    (hr : ∀ S H x y, Same S H → Ra.R S H x → Rb.R S H y → ∀ Q : VK, (∀ v S' H', Stp S H S' H' → R.R S' H' v → Q v H') → r x y H Q) : EJ X B Γ O (.BinOp a op b pos) R :=
  EJ.of (pe_op ho pe_w pe_w) fun S H σ st Q k => ha S H σ st _ fun x S1 H1 s1 r1 => hb S1 H1 σ (st.step s1) _ fun y S2 H2 s2 r2 =>
    hr S2 H2 x y s2.i (Ra.up s2.s s2.h r1) r2 Q fun v S3 H3 s3 r3 => k v S3 H3 ((s1.trans s2).trans s3) r3
theorem e_cmp2 {op : CmpOp} {r : R2} {Ra Rb : BP} (ho : OpR X (compareOp op) r) (ha : EJ X B Γ O a Ra) (hb : EJ X B Γ O b Rb) (hm : behindInMarks op b = false)
    (hr : ∀ S H x y, Same S H → Ra.R S H x → Rb.R S H y → ∀ Q : VK, (∀ v S' H', Stp S H S' H' → R.R S' H' v → Q v H') → r x y H Q) : EJ X B Γ O (.Compare a [op] [b] pos) R :=
  EJ.of (pe_cmpR ho pe_w pe_w hm) fun S H σ st Q k => ha S H σ st _ fun x S1 H1 s1 r1 => hb S1 H1 σ (st.step s1) _ fun y S2 H2 s2 r2 =>
    hr S2 H2 x y s2.i (Ra.up s2.s s2.h r1) r2 Q fun v S3 H3 s3 r3 => k v S3 H3 ((s1.trans s2).trans s3) r3
section
variable {i j : Int}
theorem e_add (ha : EJ X B Γ O a (bI i)) (hb : EJ X B Γ O b (bI j)) : EJ X B Γ O (.BinOp a .Add b pos) (bI (i + j)) :=
  e_op2 op_add ha hb fun S H x y sm h1 h2 Q k => ⟨i, j, h1, h2, k _ S H (Stp.refl sm) rfl⟩
theorem e_mul (ha : EJ X B Γ O a (bI i)) (hb : EJ X B Γ O b (bI j)) (hc : IntMulOk i j) : EJ X B Γ O (.BinOp a .Mult b pos) (bI (i * j)) :=
  e_op2 (r := rI (fun i j => IntMulOk i j) fun i j => .int (i * j)) (opI fun _ _ _ _ _ _ _ hc q => mul_int q hc) ha hb fun S H x y sm h1 h2 Q k => ⟨i, j, h1, h2, hc, k _ S H (Stp.refl sm) rfl⟩
theorem e_fdiv (ha : EJ X B Γ O a (bI i)) (hb : EJ X B Γ O b (bI j)) (h0 : j ≠ 0) (hc : j.natAbs.log2 < 9000) : EJ X B Γ O (.BinOp a .FloorDiv b pos) (bI (i.fdiv j)) :=
  e_op2 (r := rI (fun _ j => j ≠ 0 ∧ j.natAbs.log2 < 9000) fun i j => .int (i.fdiv j)) (opI fun _ _ _ _ _ _ _ hc q => floordiv_int hc.1 q (.inl (PyProof.noPylong_of_log2 hc.2))) ha hb fun S H x y sm h1 h2 Q k => ⟨i, j, h1, h2, ⟨h0, hc⟩, k _ S H (Stp.refl sm) rfl⟩
theorem e_mod (ha : EJ X B Γ O a (bI i)) (hb : EJ X B Γ O b (bI j)) (h0 : j ≠ 0) : EJ X B Γ O (.BinOp a .Mod b pos) (bI (i.fmod j)) :=
  e_op2 op_modN ha hb fun S H x y sm h1 h2 Q k => ⟨i, j, h1, h2, h0, k _ S H (Stp.refl sm) rfl⟩
theorem e_pow (ha : EJ X B Γ O a (bI i)) (hb : EJ X B Γ O b (bI j)) (h0 : CPow i j) : EJ X B Γ O (.BinOp a .Pow b pos) (bI (i ^ j.toNat)) :=
  e_op2 op_pow ha hb fun S H x y sm h1 h2 Q k => ⟨i, j, h1, h2, h0, k _ S H (Stp.refl sm) rfl⟩
theorem e_ge (ha : EJ X B Γ O a (bI i)) (hb : EJ X B Γ O b (bI j)) : EJ X B Γ O (.Compare a [.GtE] [b] pos) (bB (decide (j ≤ i))) :=
  e_cmp2 op_ge ha hb (nomark _) fun S H x y sm h1 h2 Q k => ⟨i, j, h1, h2, k _ S H (Stp.refl sm) rfl⟩
end
theorem t_val {k : Bool} (h : EJ X B Γ O e (bB k)) (he : ∀ whole, isTrue e X.env whole = (do let v ← whole; standAt e.pos; holding [v] (truthy v)) := by intro _; rfl) : TJ X B Γ O e k :=
  fun S H σ st Q q => ⟨_, pt_val pe_w he, h S H σ st _ fun v S' H' s r => ⟨k, r, q S' H' s⟩⟩
def TW (X : Cx) (B : Bs) (Γ : Gm) (O : Om) (e : Expr) (b : Bool) : Prop := ∀ S H σ, Stt B Γ O S H σ → ∀ Q : Bool → Hp → Prop, (∀ S' H', Stp S H S' H' → Q b H') → ∃ t, PW X e t ∧ t σ H Q
theorem pw_w {e : Expr} : PW X e (fun σ H Q => ∃ t, PW X e t ∧ t σ H Q) := ⟨fun wh pins s σ H Q I ⟨_, h, q⟩ => h.run wh pins s σ H Q I q⟩
theorem a_nil : AJ X B Γ O [] [] := fun S H σ st Q q => ⟨_, pa_nil, q [] S H (Stp.refl st.sub) trivial⟩
theorem a_cons {Rs : List BP} (h : EJ X B Γ O e R) (hr : AJ X B Γ O es Rs) (hs : starEach (e :: es) X.env = (false, eval e X.env) :: starEach es X.env := by rfl) : AJ X B Γ O (e :: es) (R :: Rs) := fun S H σ st Q q =>
  ⟨_, pa_cons pe_w pa_w hs, h S H σ st _ fun v S1 H1 s1 r1 => hr S1 H1 σ (st.step s1) _ fun vs S2 H2 s2 r2 => q (v :: vs) S2 H2 (s1.trans s2) ⟨R.up s2.s s2.h r1, r2⟩⟩
theorem s_nil (h : NX B Γ O D.nx) : SJ X B Γ O [] D := fun S H σ st => ⟨_, pss_nil, h S H σ st⟩
theorem SJ.cons {st : Stmt} (h : ∀ S H σ, Stt B Γ O S H σ → wS X st { D with nx := wB X rest D } σ H) : SJ X B Γ O (st :: rest) D := fun S H σ t => ⟨_, pss_cons ps_w pb_w, h S H σ t⟩
theorem s_set {i : Nat} {x : Str} {R : MP} {Γ' : Gm} (he : EJ X B Γ O e R.b) (h : SJ X B Γ' O rest D) (hi : X.N[i]? = some x := by rfl) (hG : Γ.set i (some R) = Γ' := by rfl) (hl : i < Γ.length := by exact Nat.le_of_ble_eq_true rfl) (hN : X.N.Nodup := by assumption)
    (hx : Loc X.env.scope x := by first | exact Or.inl rfl | exact Or.inr rfl) (hs : swapsWith e (some (.Name x pos')) pos.line X.env = pure false := by rfl) (hf : X.fn x = true ∨ X.env.scope.names.lookup x = some .local := by first | exact .inl rfl | exact .inr rfl | assumption) :
    SJ X B Γ O (.Assign [.Name x pos'] e pos :: rest) D :=
  SJ.cons fun S H σ st => ⟨_, ps_set hN hi hx pe_w hs hf, he S H σ st _ fun v S1 H1 s1 r1 => h S1 H1 _ (hG ▸ (st.step s1).set r1 hl)⟩
theorem s_if {k : Bool} (hc : TJ X B Γ O c k) (h1 : k = true → SJ X B Γ O body { D with nx := wB X rest D }) (h2 : k = false → SJ X B Γ O els { D with nx := wB X rest D }) : SJ X B Γ O (.If c body els pos :: rest) D :=
  SJ.cons fun S H σ st => ⟨_, ps_if pt_w pb_w pb_w, hc S H σ st _ fun S1 H1 s1 => by
    cases k with
    | true => exact iteT (h1 rfl S1 H1 σ (st.step s1))
    | false => exact iteF (h2 rfl S1 H1 σ (st.step s1))⟩
end
end OT
namespace OT
open PySem PySem.Spec PyProof.Rows L2

inductive Out where
  | val (R : MP)
  | new (M : MO)
  | err (X : XP)
def Out.thn (o : Out) (S H : Hp) (Q : VK) (E : XK) : Prop := match o with
  | .val R => ∀ v S' H', Stp S H S' H' → R.R S' v → Q v H'
  | .new M => ∀ p o S' H', Stp S H S' H' → H p = none → S' p = none → H' p = some o → M.R S' o → Q (.ref p) H'
  | .err X => ∀ c d S' H', Stp S H S' H' → X.R S' c d → E c d H'
def XJ (X : Cx) (B : Bs) (Γ : Gm) (O : Om) (W : WX) (e : Expr) (P : XP) : Prop := ∀ S H σ, Stt B Γ O S H σ → (∀ c d S' H', Stp S H S' H' → P.R S' c d → W c d σ H') → ∀ Q : VK, wE X e σ H Q
def Out.J (o : Out) (X : Cx) (B : Bs) (Γ : Gm) (O : Om) (W : WX) (e : Expr) : Prop := match o with
  | .val R => EJ X B Γ O e R.b
  | .new M => NJ X B Γ O e M
  | .err P => XJ X B Γ O W e P
theorem Out.j {o : Out} {X : Cx} {B : Bs} {Γ : Gm} {O : Om} {W : WX} {e : Expr} (h : ∀ S H σ, Stt B Γ O S H σ → ∀ Q : VK, o.thn S H Q (WE W σ) → wE X e σ H Q) : o.J X B Γ O W e := by
  cases o with
  | val R => exact fun S H σ st Q k => h S H σ st Q k
  | new M => exact fun S H σ st Q k => h S H σ st Q k
  | err P => exact fun S H σ st k Q => h S H σ st Q k
theorem Out.thn.later {o : Out} {S H S1 H1 : Hp} {Q : VK} {E : XK} (h : o.thn S H Q E) (s : Stp S H S1 H1) : o.thn S1 H1 Q E := by
  cases o with
  | val R => exact fun v S' H' s' r => h v S' H' (s.trans s') r
  | new M => exact fun p o S' H' s' n1 n2 h1 h2 => h p o S' H' (s.trans s') (s.h.free n1) n2 h1 h2
  | err P => exact fun c d S' H' s' r => h c d S' H' (s.trans s') r

def SpO (As : List BP) (o : Out) : Sp := fun vs H Q E => ∃ S, Same S H ∧ AllR As S H vs ∧ o.thn S H Q E
def spD {D : Type} (As : D → List BP) (out : D → Out) : Sp := fun vs H Q E => ∃ d, SpO (As d) (out d) vs H Q E
def SpI (C : Addr) (As : List BP) (o : Out) : Sp := fun vs H Q E => ∃ x dx H1 ws S, vs = .ref x :: ws ∧ H = upd (upd H1 dx (.own x)) x (.ins C dx []) ∧ H1 x = none ∧ H1 dx = none ∧ dx ≠ x ∧ Same S H1 ∧ AllR As S H1 ws ∧
  o.thn S H1 (fun v H' => v = .ref x → Q .non H') E
def spN {D : Type} (C : Addr) (As : D → List BP) (out : D → Out) : Sp := fun vs H Q E => ∃ d, SpI C (As d) (out d) vs H Q E

section
variable (P : Program) (w : World) (K : PySem.W.Frag) (mg : Str → Option Value) (base : Heap)
def GF (x : Str) (k : Nat) (ps : List Str) (sp : Sp) : Prop := ∃ f fd, FnOk P w K mg base (L2.CX P w) k f fd ps sp ∧ mg x = some (.ref f) ∧ PySem.W.keepIn K (.ref f) = true ∧ Binds K fd ps []
def GM (C : Addr) (m : Str) (k : Nat) (ps : List Str) (sp : Sp) : Prop := ∃ f fd, FnOk P w K mg base (L2.CX P w) k f fd ps sp ∧ Meth K C m f ∧ Binds K fd ps []
def GC (x : Str) (C : Addr) (k : Nat) (ps : List Str) (sp : Sp) : Prop := ∃ f fd, FnOk P w K mg base (L2.CX P w) k f fd ps sp ∧ Mk K C f ∧ mg x = some (.ref C) ∧ Binds K fd ps []
end
section
variable {X : Cx} {CX : CXT} {k : Nat} {f C : Addr} {fd : FuncData} {ps : List Str} {sp : Sp} {E : L2.St → XK} {x m : Str} {p pos apos : Pos} {e o : Expr} {es : List Expr} {ta : TE} {t : TA}
theorem run_at {pins : List (Addr × Obj)} {σ : L2.St} {H : Hp} {s : Shared} {Q : VK} {us : List Value} {vs : List V} (F : FnOk X.prog X.w X.K X.mg X.base CX k f fd ps sp) (hr : Room k X.A) (hb : Binds X.K fd ps []) (hx : PassesAt CX X σ (E σ))
    (I : Inv X pins σ H s) (r : Vals vs us) (h : sp vs H Q (E σ)) : wpAny (model X.prog X.w) X.A (call (.ref f) us) (EP X pins σ Q) X.xe s :=
  run_fnSD F hr hb .nil hx I r (by rw [List.append_nil]; exact h)
theorem run_makeS {pins : List (Addr × Obj)} {σ : L2.St} {H : Hp} {s : Shared} {Q : VK} {us : List Value} {vs : List V} (M : Mk X.K C f) (F : FnOk X.prog X.w X.K X.mg X.base CX k f fd ps sp) (hr : Room (k + 1) X.A) (hb : Binds X.K fd ps [])
    (hx : PassesAt CX X σ (E σ)) (I : Inv X pins σ H s) (r : Vals vs us)
    (h : ∀ x dx, H x = none → H dx = none → dx ≠ x → sp (.ref x :: vs) (upd (upd H dx (.own x)) x (.ins C dx [])) (fun v H2 => v = .non ∧ Q (.ref x) H2) (E σ)) :
    wpAny (model X.prog X.w) X.A (call (.ref C) us) (EP X pins σ Q) X.xe s := by
  have hq := h (s.heap.objs.size + 1) s.heap.objs.size (I.hok.fresh (Nat.le_succ _)) (I.hok.fresh (Nat.le_refl _)) (Nat.ne_of_lt (Nat.lt_succ_self _))
  have I2 := Inv.made (C := C) I
  have r2 : Vals (V.ref (s.heap.objs.size + 1) :: vs) (Value.ref (s.heap.objs.size + 1) :: us) := .cons rfl r
  have hl : (Value.ref (s.heap.objs.size + 1) :: us ++ []).length = ps.length := by
    rw [List.append_nil]
    have e := r2.length
    rw [F.len _ _ _ _ hq] at e
    exact e.symm
  refine wpAny_call (make_map (f := f) I.kIn M.makes M.init (beq_iff_eq.mp M.fn) (codeAny_mono (F.run _ X.stack _ _ ⟨Value.ref (s.heap.objs.size + 1) :: us, []⟩ (Value.ref (s.heap.objs.size + 1) :: us) _ _ (E σ) (hr.make C us [])
    (I2.env0.make C us []) (by have := hb _ (Value.ref (s.heap.objs.size + 1) :: us) I2.kIn hl; rw [List.append_nil] at this; exact this) r2 hq) fun r s' hq' => ?_))
  cases r with
  | error e => exact hx pins _ _ e s' I2 hq'
  | ok fl =>
    cases fl with
    | ret u =>
      obtain ⟨v, H', I3, rv, ev, q3⟩ := I2.after hq'
      subst ev
      exact ⟨rv, ⟨V.ref (s.heap.objs.size + 1), H', I3, rfl, q3⟩⟩
    | next => exact False.elim hq'
    | brk => exact False.elim hq'
    | cont => exact False.elim hq'
def tMakeS (C : Addr) (sp : Sp) (E : L2.St → XK) (t : TA) : TE := fun σ H Q => t σ H fun vs H1 => ∀ x dx, H1 x = none → H1 dx = none → dx ≠ x →
  sp (.ref x :: vs) (upd (upd H1 dx (.own x)) x (.ins C dx [])) (fun v H2 => v = .non ∧ Q (.ref x) H2) (E σ)
theorem pe_makeS (M : Mk X.K C f) (F : FnOk X.prog X.w X.K X.mg X.base CX k f fd ps sp) (hr : Room (k + 1) X.A) (hg : Gl X x) (hm : X.mg x = some (.ref C)) (hb : Binds X.K fd ps []) (hx : ∀ σ, PassesAt CX X σ (E σ))
    (ha : PA X (e :: es) t) (hdb : (x == ("__debug__" : Str)) = false := by decide) (he : starEach (e :: es) X.env = (false, eval e X.env) :: starEach es X.env := by rfl) (hpl : (backTo pos (starEach es X.env)).any (·.1) = false := by rfl) :
    PE X (.Call (.Name x p) (e :: es) [] pos) (tMakeS C sp E t) := by
  refine ⟨fun pins s σ H Q I h => ?_⟩
  refine wpAny_Call_Name_kw (ld_glob I hg hm ?_ hdb)
  refine PySem.W.callWith_K (h₀ := X.base) I.ok.mod.kin M.kp (thn (ha.run pos pins s σ H _ I h) fun us s1 ⟨vs, H1, I1, r, q⟩ => ⟨I1.kIn, ?_⟩) he hpl
  exact run_makeS M F hr hb (hx σ) I1 r q
def tMethSX (C : Addr) (m : Str) (sp : Sp) (E : L2.St → XK) (ta : TE) (t : TA) : TE := fun σ H Q => ta σ H fun x H1 => ∃ a dx fs, x = .ref a ∧ H1 a = some (.ins C dx fs) ∧ fs.lookup m = none ∧ t σ H1 fun vs H2 => sp (x :: vs) H2 Q (E σ)
theorem pe_methS' {pl : Sem Bool} (ho : PE X o ta) (c : Cls X.K C) (hm : Meth X.K C m f) (F : FnOk X.prog X.w X.K X.mg X.base CX k f fd ps sp) (hr : Room k X.A) (hb : Binds X.K fd ps []) (hx : ∀ σ, PassesAt CX X σ (E σ)) (ha : PA X (e :: es) t)
    (hst : starEach (e :: es) X.env = (false, eval e X.env) :: starEach es X.env := by rfl) (hpl : (backTo pos (starEach es X.env)).any (·.1) = false := by rfl)
    (ht : eval (.Call (.Attribute o m apos) (e :: es) [] pos) X.env = (do
      let ov ← eval o X.env
      standAt apos.atName
      let (f, first) ← holding [ov] (getMethod ov m pl)
      callWith pos f first (backTo pos (starEach (e :: es) X.env)) (backToKw pos (keywordEach [] X.env))) := by rfl) : PE X (.Call (.Attribute o m apos) (e :: es) [] pos) (tMethSX C m sp E ta t) :=
  ⟨fun pins s σ H Q I h => PySem.W.methodCall_KW (pl := pl) (thn (ho.run pins s σ H _ I h) fun u s1 ⟨y, H1, I1, ry, a, dx, fs, ey, ea, l, q⟩ => by
    subst ey
    obtain rfl : u = Value.ref a := ry
    exact getmeth_ok I1 ea c hm l (PySem.W.callWith_K (first := [.ref a]) (h₀ := X.base) I.ok.mod.kin hm.kp (thn (ha.run pos pins s1 σ H1 _ I1 q) fun us s2 ⟨vs, H2, I2, r, q2⟩ => ⟨I2.kIn, run_at (us := .ref a :: us) (vs := .ref a :: vs) F hr hb (hx σ) I2 (.cons rfl r) q2⟩) hst hpl)) ht⟩
end
section
variable {X : Cx} {B : Bs} {Γ : Gm} {O : Om} {e a b c o : Expr} {es : List Expr} {p pos pos' apos : Pos} {R R' : BP} {Ds : Ends} {rest body els : List Stmt} {x m f : Str} {C : Addr} {k : Nat} {ps : List Str} {W : WX} {D : Type} {As : D → List BP} {out : D → Out}

def tIns (C : Addr) (m : Str) (R : BP) : Prop := ∀ S H v, R.R S H v → Same S H → ∃ a dx fs, v = .ref a ∧ H a = some (.ins C dx fs) ∧ fs.lookup m = none
theorem e_callB {id : String} {r : List V → Hp → VK → Prop} {Rs : List BP} (hc : CallR X (.builtin id) r) (hm : X.mg x = none) (hv : bootBuiltins x = some (.builtin id)) (ha : AJ X B Γ O (e :: es) Rs)
    (hq : ∀ S H vs, Same S H → AllR Rs S H vs → ∀ Q : VK, (∀ v S' H', Stp S H S' H' → R.R S' H' v → Q v H') → r vs H Q) (hg : Gl X x := by rfl) (hn : x ≠ "__name__" := by decide) (hdb : (x == ("__debug__" : Str)) = false := by decide)
    (he : starEach (e :: es) X.env = (false, eval e X.env) :: starEach es X.env := by rfl) (hpl : (backTo pos (starEach es X.env)).any (·.1) = false := by rfl) : EJ X B Γ O (.Call (.Name x p) (e :: es) [] pos) R :=
  EJ.of (pe_callB hc hg hm hv pa_w hn hdb he hpl) fun S H σ st Q q => ha S H σ st _ fun vs S1 H1 s1 r1 => hq S1 H1 vs s1.i r1 Q fun v S' H' s r => q v S' H' (s1.trans s) r
theorem e_callTy {T : String} {r : List V → Hp → VK → Prop} {Rs : List BP} (hc : CallR X (.type T) r) (hm : X.mg x = none) (hv : bootBuiltins x = some (.type T)) (ha : AJ X B Γ O (e :: es) Rs)
    (hq : ∀ S H vs, Same S H → AllR Rs S H vs → ∀ Q : VK, (∀ v S' H', Stp S H S' H' → R.R S' H' v → Q v H') → r vs H Q) (hg : Gl X x := by rfl) (hn : x ≠ "__name__" := by decide) (hdb : (x == ("__debug__" : Str)) = false := by decide)
    (he : starEach (e :: es) X.env = (false, eval e X.env) :: starEach es X.env := by rfl) (hpl : (backTo pos (starEach es X.env)).any (·.1) = false := by rfl) : EJ X B Γ O (.Call (.Name x p) (e :: es) [] pos) R :=
  EJ.of (pe_callTy hc hg hm hv pa_w hn hdb he hpl) fun S H σ st Q q => ha S H σ st _ fun vs S1 H1 s1 r1 => hq S1 H1 vs s1.i r1 Q fun v S' H' s r => q v S' H' (s1.trans s) r
theorem AllR.one {S H : Hp} {vs : List V} (h : AllR [R] S H vs) : ∃ v, vs = [v] ∧ R.R S H v := match vs, h with
  | [v], h => ⟨v, rfl, h.1⟩
  | [], h => h.elim
  | _ :: _ :: _, h => h.2.elim
theorem e_abs {i : Int} (hm : X.mg "abs" = none) (ha : EJ X B Γ O e (bI i)) (hg : Gl X "abs" := by rfl) (hs : starEach [e] X.env = (false, eval e X.env) :: starEach [] X.env := by rfl) : EJ X B Γ O (.Call (.Name "abs" p) [e] [] pos) (bI (if i < 0 then -i else i)) :=
  e_callB call_abs hm (by decide +kernel) (a_cons ha a_nil hs) (fun S H vs sm r Q q => by
    obtain ⟨v, rfl, h⟩ := r.one
    cases h
    exact ⟨i, rfl, q _ S H (Stp.refl sm) rfl⟩) hg (by decide) (by decide) hs rfl
theorem e_intI {i : Int} (hm : X.mg "int" = none) (ha : EJ X B Γ O e (bI i)) (hg : Gl X "int" := by rfl) (hs : starEach [e] X.env = (false, eval e X.env) :: starEach [] X.env := by rfl) : EJ X B Γ O (.Call (.Name "int" p) [e] [] pos) (bI i) :=
  e_callTy call_int1 hm (by decide +kernel) (a_cons ha a_nil hs) (fun S H vs sm r Q q => by
    obtain ⟨v, rfl, h⟩ := r.one
    cases h
    exact .inl ⟨i, rfl, q _ S H (Stp.refl sm) rfl⟩) hg (by decide) (by decide) hs rfl

def FldR : List (Str × MP) → Hp → List (Str × V) → Prop
  | [], _, [] => True
  | (f, R) :: Rs, S, (g, v) :: vs => f = g ∧ R.R S v ∧ FldR Rs S vs
  | _, _, _ => False
theorem FldR.up : ∀ {Rs : List (Str × MP)} {S S' : Hp} {vs : List (Str × V)}, Same S S' → FldR Rs S vs → FldR Rs S' vs
  | [], _, _, [], _, _ => trivial
  | [], _, _, _ :: _, _, h => h.elim
  | _ :: _, _, _, [], _, h => h.elim
  | (_, R) :: Rs, _, _, (_, v) :: vs, e, h => ⟨h.1, R.up e h.2.1, FldR.up e h.2.2⟩
theorem FldR.get : ∀ {Rs : List (Str × MP)} {S : Hp} {vs : List (Str × V)} {f : Str} {R : MP}, FldR Rs S vs → Rs.lookup f = some R → ∃ v, vs.lookup f = some v ∧ R.R S v
  | [], _, [], _, _, _, h => by cases h
  | [], _, _ :: _, _, _, h, _ => h.elim
  | _ :: _, _, [], _, _, h, _ => h.elim
  | (g, Q) :: Rs, S, (g', v) :: vs, f, R, h, e => by
    obtain ⟨rfl, h1, h2⟩ := h
    rw [List.lookup_cons] at e ⊢
    cases q : (f == g) with
    | true =>
      rw [q] at e
      cases e
      exact ⟨v, rfl, h1⟩
    | false =>
      rw [q] at e
      exact FldR.get h2 e
theorem FldR.none : ∀ {Rs : List (Str × MP)} {S : Hp} {vs : List (Str × V)} {f : Str}, FldR Rs S vs → Rs.lookup f = none → vs.lookup f = none
  | [], _, [], _, _, _ => rfl
  | [], _, _ :: _, _, h, _ => h.elim
  | _ :: _, _, [], _, h, _ => h.elim
  | (g, Q) :: Rs, S, (g', v) :: vs, f, h, e => by
    obtain ⟨rfl, h1, h2⟩ := h
    rw [List.lookup_cons] at e ⊢
    cases q : (f == g) with
    | true =>
      rw [q] at e
      cases e
    | false =>
      rw [q] at e
      exact FldR.none h2 e
def tO (C : Addr) (Rs : List (Str × MP)) : MP := ⟨fun S v => ∃ a dx fs, v = .ref a ∧ S a = some (.ins C dx fs) ∧ S dx = some (.own a) ∧ FldR Rs S fs,
  fun {S S' v} e ⟨a, dx, fs, h1, h2, h3, h4⟩ => ⟨a, dx, fs, h1, e _ _ h2, e _ _ h3, h4.up e⟩⟩
theorem tO.ins {Rs : List (Str × MP)} (h : Rs.lookup m = none := by first | rfl | decide +kernel) : tIns C m (tO C Rs).b := fun S H v ⟨a, dx, fs, h1, h2, _, h4⟩ sm => ⟨a, dx, fs, h1, sm _ _ h2, h4.none h⟩

def mIns (C dx : Addr) (Rs : List (Str × MP)) : MO := ⟨fun S o => ∃ fs, o = .ins C dx fs ∧ FldR Rs S fs, fun e ⟨fs, h1, h2⟩ => ⟨fs, h1, h2.up e⟩⟩
def mOwn (x : Addr) : MO := ⟨fun _ o => o = .own x, fun _ h => h⟩
theorem NX.made {x dx : Addr} {Rs : List (Str × MP)} {O' : Om} {Q : VK} {E : XK} (hQ : (Out.val (tO C Rs)).thn B.S B.H (fun v H' => v = .ref x → Q .non H') E) : NX B Γ ((x, mIns C dx Rs) :: (dx, mOwn x) :: O') (fun _ H' => Q .non H') := fun S H σ t => by
  obtain ⟨h3, h3', o, h4, fs, rfl, h5⟩ := t.own _ List.mem_cons_self
  obtain ⟨g3, g3', u, g4, rfl⟩ := t.own _ (List.mem_cons_of_mem _ List.mem_cons_self)
  have ne : dx ≠ x := by
    have := t.nd
    rw [List.map_cons, List.map_cons] at this
    exact fun z => (List.nodup_cons.mp this).1 (by subst z; exact List.mem_cons_self)
  have s1 : Same S (upd (upd S dx (.own x)) x (.ins C dx fs)) := fun a u z => by
    rw [upd_ne (ne_of_none z h3), upd_ne (ne_of_none z g3)]
    exact z
  refine hQ (.ref x) (upd (upd S dx (.own x)) x (.ins C dx fs)) H ⟨t.st.s.trans s1, fun a u z => ?_, t.st.h, fun a z1 z2 => ?_⟩ ⟨x, dx, fs, rfl, upd_same, by rw [upd_ne ne, upd_same], h5.up s1⟩ rfl
  · by_cases q : a = x
    · subst q; rw [upd_same] at z; cases z; exact h4
    · rw [upd_ne q] at z
      by_cases q : a = dx
      · subst q; rw [upd_same] at z; cases z; exact g4
      · rw [upd_ne q] at z; exact t.sub a u z
  · rw [upd_ne (fun y => by subst y; exact z2 h3'), upd_ne (fun y => by subst y; exact z2 g3')]
    exact t.st.fr a z1 z2
end

section
variable {P : Program} {w : World} {K : PySem.W.Frag} {mg : Str → Option Value} {base : Heap} {x qual : Str} {params : Arguments} {body : List Stmt} {scope : Scope} {kws : List (Str × V)} {f : Addr} {fd : FuncData}
theorem tk_cx {N : List Str} {cd : Value} {A : Around} {outer : List Env} {s : Shared} {H : Hp} {E : XK} : Takes (cxOf (L2.CX P w) P w K mg base N qual scope f cd A outer s H E) (fun c d _ H => E c d H) := takes_of rfl rfl rfl rfl
theorem own_cx {N : List Str} {cd : Value} {A : Around} {outer : List Env} {s : Shared} {H : Hp} {E : XK} : PassesOwn (model P w) (cxOf (L2.CX P w) P w K mg base N qual scope f cd A outer s H E).A (cxOf (L2.CX P w) P w K mg base N qual scope f cd A outer s H E).env (cxOf (L2.CX P w) P w K mg base N qual scope f cd A outer s H E).xe :=
  passes_of (K := fun e s'' => L2.CX P w outer H s E e s'') rfl
theorem pass_none {X : Cx} : Passes (L2.CX X.prog X.w) X E0 := passL
def gm0 (N : List Str) (As : List BP) (H0 : Hp) : Gm := As.map (fun a => some (a.at_ H0)) ++ List.replicate (N.length - As.length) none
theorem slot0 : ∀ {As : List BP} {S H : Hp} {vs : List V}, AllR As S H vs → ∀ (n : Nat) (i : Nat) (R : MP), (As.map (fun a => some (a.at_ H)) ++ List.replicate n none)[i]? = some (some R) → ∃ v, (vs.map some ++ List.replicate n none)[i]? = some (some v) ∧ R.R S v
  | [], _, _, [], _, n, i, R, e => by
    rw [List.map_nil, List.nil_append] at e
    have := List.mem_of_getElem? e
    rw [List.mem_replicate] at this
    cases this.2
  | [], _, _, _ :: _, h, _, _, _, _ => h.elim
  | _ :: _, _, _, [], h, _, _, _, _ => h.elim
  | A :: As, S, H, v :: vs, h, n, i, R, e => by
    cases i with
    | zero =>
      have e2 : A.at_ H = R := Option.some.inj (Option.some.inj e)
      subst e2
      exact ⟨v, rfl, h.1⟩
    | succ i => exact slot0 h.2 n i R e
theorem stt0 {N : List Str} {As : List BP} {S H : Hp} {vs : List V} (sm : Same S H) (h : AllR As S H vs) : Stt ⟨S, H, .yes⟩ (gm0 N As H) [] S H (start N vs) where
  st := Stp.refl sm
  slot := fun i R e => by
    unfold L2.start
    rw [h.length]
    exact slot0 h _ i R e
  len := by
    unfold L2.start gm0
    rw [List.length_append, List.length_append, List.length_map, List.length_map, List.length_replicate, List.length_replicate, h.length]
  own := fun q hq => by cases hq
  nd := List.nodup_nil
  gh := trivial
theorem fun_ok {D : Type} {As : D → List BP} {out : D → Out} {N ps : List Str} {k : Nat} (F : FunD K x qual params body scope [] kws f fd) (Sc : FnScope N ps scope) (hl : ∀ d, (As d).length = ps.length)
    (hb : ∀ (cdv : Value) (A : Around) (outer : List Env) (s : Shared) (H S : Hp) (Q : VK) (E : XK) (d : D), Room k (A.deeper (envOfC qual scope s.heap.objs.size f cdv)) → (out d).thn S H Q E →
      SJ (cxOf (L2.CX P w) P w K mg base N qual scope f cdv A outer s H E) ⟨S, H, .yes⟩ (gm0 N (As d) H) [] body { nx := fun _ H' => Q .non H', rt := Q }) : FnOk P w K mg base (L2.CX P w) (k + 1) f fd ps (spD As out) := by
  refine F.ok Sc (fun vs H Q E h => ?_) (fun cdv A outer s H vs Q E hr h => ?_)
  · obtain ⟨d, S, _, r, _⟩ := h
    rw [r.length, hl]
  · obtain ⟨d, S, sm, r, q⟩ := h
    exact hb cdv A outer s H S Q E d hr q S H _ (stt0 sm r)
end
end OT
namespace OT
open PySem PySem.Spec PyProof.Rows L2

def AllM : List MP → Hp → List V → Prop
  | [], _, [] => True
  | R :: Rs, S, v :: vs => R.R S v ∧ AllM Rs S vs
  | _, _, _ => False
theorem AllM.up : ∀ {Rs : List MP} {S S' : Hp} {vs : List V}, Same S S' → AllM Rs S vs → AllM Rs S' vs
  | [], _, _, [], _, _ => trivial
  | [], _, _, _ :: _, _, h => h.elim
  | _ :: _, _, _, [], _, h => h.elim
  | R :: Rs, _, _, v :: vs, e, h => ⟨R.up e h.1, AllM.up e h.2⟩
theorem AllM.length : ∀ {Rs : List MP} {S : Hp} {vs : List V}, AllM Rs S vs → vs.length = Rs.length
  | [], _, [], _ => rfl
  | [], _, _ :: _, h => h.elim
  | _ :: _, _, [], h => h.elim
  | R :: Rs, _, v :: vs, h => congrArg Nat.succ (AllM.length h.2)
theorem AllM.get : ∀ {Rs : List MP} {S : Hp} {vs : List V} {i : Nat} {R : MP}, AllM Rs S vs → Rs[i]? = some R → ∃ v, vs[i]? = some v ∧ R.R S v
  | [], _, _, _, _, _, e => by simp at e
  | _ :: _, _, [], _, _, h, _ => h.elim
  | Q :: Rs, _, v :: vs, 0, R, h, e => by
    simp at e; subst e; exact ⟨v, rfl, h.1⟩
  | Q :: Rs, _, v :: vs, i + 1, R, h, e => by
    have e2 : Rs[i]? = some R := by simpa using e
    obtain ⟨w, h1, h2⟩ := AllM.get h.2 e2
    exact ⟨w, by simpa using h1, h2⟩
theorem AllM.got : ∀ {Rs : List MP} {S : Hp} {vs : List V} {i : Nat} {v : V}, AllM Rs S vs → vs[i]? = some v → ∃ R, Rs[i]? = some R ∧ R.R S v
  | _, _, [], _, _, _, e => by simp at e
  | [], _, _ :: _, _, _, h, _ => h.elim
  | Q :: Rs, _, w :: vs, 0, v, h, e => by
    simp at e; subst e; exact ⟨Q, rfl, h.1⟩
  | Q :: Rs, _, w :: vs, i + 1, v, h, e => by
    have e2 : vs[i]? = some v := by simpa using e
    obtain ⟨R, h1, h2⟩ := AllM.got h.2 e2
    exact ⟨R, by simpa using h1, h2⟩
theorem AllM.set {R : MP} {v : V} : ∀ {Rs : List MP} {S : Hp} {vs : List V} (i : Nat), AllM Rs S vs → R.R S v → AllM (Rs.set i R) S (vs.set i v)
  | [], _, [], _, _, _ => trivial
  | [], _, _ :: _, _, h, _ => h.elim
  | _ :: _, _, [], _, h, _ => h.elim
  | Q :: Rs, _, w :: vs, 0, h, hv => ⟨hv, h.2⟩
  | Q :: Rs, _, w :: vs, i + 1, h, hv => ⟨h.1, AllM.set i h.2 hv⟩
theorem AllM.ofR : ∀ {Rs : List MP} {S H : Hp} {vs : List V}, AllR (Rs.map MP.b) S H vs → AllM Rs S vs
  | [], _, _, [], _ => trivial
  | [], _, _, _ :: _, h => h.elim
  | _ :: _, _, _, [], h => h.elim
  | R :: Rs, _, _, v :: vs, h => ⟨h.1, AllM.ofR h.2⟩
theorem Same.tup {K : PySem.W.Frag} {H H' : Hp} {a : Addr} {xs : List V} (e : Same H H') (h : SqT K H a xs) : SqT K H' a xs := by
  rcases h with (h | ⟨o, h⟩) | h
  · exact .inl (.inl (e _ _ h))
  · exact .inl (.inr ⟨o, e _ _ h⟩)
  · exact .inr h
def tL (K : PySem.W.Frag) (Rs : List MP) : MP := ⟨fun S v => ∃ a vs, v = .ref a ∧ S a = some (.lst vs) ∧ AllM Rs S vs, fun e ⟨a, vs, h1, h2, h3⟩ => ⟨a, vs, h1, e _ _ h2, h3.up e⟩⟩
def bL (K : PySem.W.Frag) (Rs : List MP) : BP := ⟨fun S H v => ∃ a vs, v = .ref a ∧ H a = some (.lst vs) ∧ AllM Rs S vs, fun e e' ⟨a, vs, h1, h2, h3⟩ => ⟨a, vs, h1, e' _ _ h2, h3.up e⟩⟩
def tT (K : PySem.W.Frag) (Rs : List MP) : MP := ⟨fun S v => ∃ a vs, v = .ref a ∧ S a = some (.tup vs) ∧ AllM Rs S vs, fun e ⟨a, vs, h1, h2, h3⟩ => ⟨a, vs, h1, e _ _ h2, h3.up e⟩⟩
def mL (Rs : List MP) : MO := ⟨fun S o => ∃ vs, o = .lst vs ∧ AllM Rs S vs, fun e ⟨vs, h1, h2⟩ => ⟨vs, h1, h2.up e⟩⟩
def bQ (K : PySem.W.Frag) (Rs : List MP) : BP := ⟨fun S H v => ∃ a vs, v = .ref a ∧ (SqL K H a vs ∨ SqT K H a vs) ∧ AllM Rs S vs, fun e e' ⟨a, vs, h1, h2, h3⟩ => ⟨a, vs, h1, h2.elim (fun h => .inl (e'.seq h)) (fun h => .inr (Same.tup e' h)), h3.up e⟩⟩

section
variable {X : Cx} {B : Bs} {Γ : Gm} {O : Om} {e a b c o l : Expr} {es : List Expr} {p pos pos' apos : Pos} {R R' : BP} {D : Ends} {rest body els : List Stmt} {x m f : Str} {Rs : List MP}
theorem EJ.impS (h : EJ X B Γ O e R) (i : ∀ S H v, Same S H → R.R S H v → R'.R S H v) : EJ X B Γ O e R' := fun S H σ st Q k => h S H σ st Q fun v S' H' s r => k v S' H' s (i _ _ _ s.i r)
theorem EJ.lent (h : EJ X B Γ O e (tL X.K Rs).b) : EJ X B Γ O e (bL X.K Rs) := h.impS fun S H v sm ⟨a, vs, h1, h2, h3⟩ => ⟨a, vs, h1, sm _ _ h2, h3⟩
theorem EJ.lentO (h : EJ X B Γ O e (mL Rs).b) : EJ X B Γ O e (bL X.K Rs) := h.imp fun S H v ⟨p, o, h1, h2, vs, h3, h4⟩ => ⟨p, vs, h1, h3 ▸ h2, h4⟩
theorem e_lst_own (i : Nat) {p : Addr} {x : Str} (hO : (p, mL Rs) ∈ O) (hG : Γ[i]? = some (some (tR p)) := by rfl) (hN : X.N[i]? = some x := by rfl) (hv : Vis X.env.scope x := by first | exact Or.inl rfl | exact Or.inr (Or.inl rfl) | exact Or.inr (Or.inr rfl))
    (hd : (x == ("__debug__" : Str)) = false := by decide) (hcd : (x == ("__classdict__" : Str)) = false := by decide) : EJ X B Γ O (.Name x pos) (bL X.K Rs) := (e_own i hG hO hN hv hd hcd).lentO
theorem n_lst (h : AJ X B Γ O es (Rs.map MP.b)) (hz : Rs.length ≤ 1000 := by exact Nat.le_of_ble_eq_true rfl) : NJ X B Γ O (.List es pos) (mL Rs) := fun S H σ st Q q =>
  ⟨_, pe_lst pa_w, h S H σ st _ fun vs S1 H1 s1 r1 => by
    have r := AllM.ofR r1
    refine ⟨by rw [r.length]; exact Nat.le_trans hz (by decide), fun p hp => ?_⟩
    have s2 := Stp.own (o := .lst vs) s1.i hp
    exact q p _ _ _ (s1.trans s2) (s1.h.free hp) (s1.i.free hp) upd_same ⟨vs, rfl, r⟩⟩
theorem e_ixL {i : Int} {R : MP} (h : EJ X B Γ O a (bL X.K Rs)) (hi : EJ X B Γ O b (bI i)) (hg : atI Rs i = some R) (hs : PlainIx b := by exact fun _ _ => rfl) : EJ X B Γ O (.Subscript a b pos) R.b :=
  EJ.of (pe_ix ix_list pe_w pe_w hs) fun S H σ st Q q => h S H σ st _ fun v S1 H1 s1 r1 => hi S1 H1 σ (st.step s1) _ fun w S2 H2 s2 r2 => by
    obtain ⟨p, vs, rfl, h2, h3⟩ := (bL X.K Rs).up s2.s s2.h r1
    cases r2
    unfold atI at hg
    cases hn : ixN Rs.length i with
    | none => rw [hn] at hg; cases hg
    | some j =>
      rw [hn] at hg
      obtain ⟨v, h4, h5⟩ := h3.get hg
      refine ⟨p, vs, i, v, rfl, rfl, SqL.of h2, ?_, q v S2 H2 (s1.trans s2) h5⟩
      unfold atI
      rw [h3.length, hn]
      exact h4
def Gle : Gm → Gm → Prop
  | [], [] => True
  | none :: r, _ :: r' => Gle r r'
  | some R :: r, some R' :: r' => R = R' ∧ Gle r r'
  | _, _ => False
theorem Gle.len : ∀ {G G' : Gm}, Gle G G' → G.length = G'.length
  | [], [], _ => rfl
  | none :: r, _ :: r', h => congrArg Nat.succ (Gle.len (G := r) (G' := r') h)
  | some R :: r, some R' :: r', h => congrArg Nat.succ (Gle.len (G := r) (G' := r') h.2)
  | some _ :: _, none :: _, h => h.elim
  | [], _ :: _, h => h.elim
  | none :: _, [], h => h.elim
  | some _ :: _, [], h => h.elim
theorem Gle.get : ∀ {G G' : Gm}, Gle G G' → ∀ (i : Nat) (R : MP), G[i]? = some (some R) → G'[i]? = some (some R)
  | [], [], _, _, _, e => e
  | none :: r, _ :: r', h, 0, R, e => by simp at e
  | none :: r, _ :: r', h, i + 1, R, e => by
    have e2 : r[i]? = some (some R) := by simpa using e
    have := Gle.get (G := r) (G' := r') h i R e2
    simpa using this
  | some R :: r, some R' :: r', h, 0, Q, e => by
    have h1 := h.1
    subst h1
    exact e
  | some R :: r, some R' :: r', h, i + 1, Q, e => by
    have e2 : r[i]? = some (some Q) := by simpa using e
    have := Gle.get (G := r) (G' := r') h.2 i Q e2
    simpa using this
  | some _ :: _, none :: _, h, _, _, _ => h.elim
  | [], _ :: _, h, _, _, _ => h.elim
  | none :: _, [], h, _, _, _ => h.elim
  | some _ :: _, [], h, _, _, _ => h.elim
theorem Stt.le {Γ' : Gm} {S H : Hp} {σ : L2.St} (t : Stt B Γ O S H σ) (h : Gle Γ' Γ) : Stt B Γ' O S H σ := t.forget h.len h.get
theorem SJ.le {Γ' : Gm} (h : SJ X B Γ' O body D) (g : Gle Γ' Γ) : SJ X B Γ O body D := fun S H σ t => h S H σ (t.le g)
def At {β : Type} (B : Bs) (Gs : β → Gm) (Os : β → Om) (P : β → Prop) : L2.St → Hp → Prop := fun σ H => ∃ s S, P s ∧ Stt B (Gs s) (Os s) S H σ
theorem Gle.rfl' {G : Gm} : Gle G G := by
  induction G with
  | nil => exact trivial
  | cons a r ih =>
    cases a with
    | none => exact ih
    | some _ => exact ⟨rfl, ih⟩
theorem s_skip {D' : Ends} (h : SJ X B Γ O rest D') (hD : D.nx = wB X rest D' := by rfl) : SJ X B Γ O [] D := s_nil fun S H σ t => by rw [hD]; exact h S H σ t
theorem pss_weak {t : TS} {st : List Stmt} (h : PSs X st t) : PSs X st (fun D σ H => ∃ D' : Ends, (∀ σ H, D'.nx σ H → D.nx σ H) ∧ D'.rt = D.rt ∧ D'.bk = D.bk ∧ D'.ct = D.ct ∧ t D' σ H) := ⟨fun pins s σ H D I ⟨D', h1, h2, h3, h4, q⟩ => by
  refine wpAny_mono (h.run pins s σ H D' I q) (fun fl s' z => ?_) fun _ _ z => z
  cases fl with
  | next => obtain ⟨σ', H', J, q⟩ := z; exact ⟨σ', H', J, h1 _ _ q⟩
  | ret u => obtain ⟨v, σ', H', J, rv, q⟩ := z; exact ⟨v, σ', H', J, rv, h2 ▸ q⟩
  | brk => obtain ⟨σ', H', J, q⟩ := z; exact ⟨σ', H', J, h3 ▸ q⟩
  | cont => obtain ⟨σ', H', J, q⟩ := z; exact ⟨σ', H', J, h4 ▸ q⟩⟩
structure Wp (js : List Nat) (σ σ' : L2.St) : Prop where
  at_ : ∀ (i : Nat), i ∉ js → σ'[i]? = σ[i]?
  len : σ'.length = σ.length
theorem Wp.wipe {js vs : List Nat} {σ σ' : L2.St} (w : Wp js σ σ') (h : ∀ j ∈ js, j ∈ vs) : L2.wipe σ' vs = L2.wipe σ vs := by
  have key : ∀ (vs : List Nat) (σ : L2.St) (i : Nat), (L2.wipe σ vs)[i]? = if i ∈ vs then (if i < σ.length then some none else none) else σ[i]? := by
    intro vs σ
    induction vs with
    | nil => intro i; simp [L2.wipe]
    | cons v vs ih =>
      intro i
      show ((L2.wipe σ vs).set v none)[i]? = _
      by_cases e : v = i
      · subst e
        rw [List.getElem?_set]
        simp [L2.wipe_length]
      · rw [List.getElem?_set_ne e, ih]
        have : (i ∈ v :: vs) ↔ i ∈ vs := by
          rw [List.mem_cons]
          exact ⟨fun z => z.elim (fun z => absurd z.symm e) id, .inr⟩
        simp only [this]
  apply List.ext_getElem?
  intro i
  rw [key, key]
  by_cases hi : i ∈ vs
  · rw [if_pos hi, if_pos hi, w.len]
  · rw [if_neg hi, if_neg hi]
    exact w.at_ i fun z => hi (h i z)
def GJ (X : Cx) (B : Bs) (O : Om) (tg : Expr) (R : MP) (Γ Γ' : Gm) (js : List Nat) : Prop := ∀ S H σ v, Stt B Γ O S H σ → R.R S v → ∀ Q : L2.St → Hp → Prop, (∀ σ', Stt B Γ' O S H σ' → Wp js σ σ' → Q σ' H) → wG X tg v σ H Q
def GJs (X : Cx) (B : Bs) (O : Om) (ts : List Expr) (Rs : List MP) (Γ Γ' : Gm) (js : List Nat) : Prop := ∀ S H σ vs, Stt B Γ O S H σ → AllM Rs S vs → ∀ Q : L2.St → Hp → Prop, (∀ σ', Stt B Γ' O S H σ' → Wp js σ σ' → Q σ' H) → ∃ t, PGs X ts t ∧ t vs σ H Q
theorem pgs_w {ts : List Expr} : PGs X ts (fun vs σ H Q => ∃ t, PGs X ts t ∧ t vs σ H Q) := ⟨fun pins s σ H vs us Q I r ⟨_, h, q⟩ => h.run pins s σ H vs us Q I r q⟩
def IJ (X : Cx) (B : Bs) (Γ : Gm) (O : Om) (tg it : Expr) (need : Om) (n : Nat) (item : Nat → MP) : Prop := ∀ S H σ, Stt B Γ O S H σ → ∀ Rk : It → Hp → Prop,
  (∀ (J : It) (G : Gho) S' H', Stp S H S' H' → G.R S' → (∀ Γ2 O2 S2 H2 σ2, Stt (B.add G) Γ2 O2 S2 H2 σ2 → (∀ q ∈ need, q ∈ O2) → J.stop n H2 ∧ ∀ i, i < n → J.go i H2 ∧ ∀ y H3, J.yld i H2 y H3 → ∃ S3, Stp S2 H2 S3 H3 ∧ (item i).R S3 y) → Rk J H') → wI X tg it σ H Rk
def MP.gh (R : MP) (v : V) : Gho := ⟨fun S => R.R S v, fun e h => R.up e h⟩
def LstS (B : Bs) (K : PySem.W.Frag) (R : MP) (Rs : List MP) : Prop := ∀ S H v, Stp B.S B.H S H → R.R S v → ∃ a vs, v = .ref a ∧ SqL K H a vs ∧ AllM Rs S vs
def TupS (B : Bs) (K : PySem.W.Frag) (R : MP) (Rs : List MP) : Prop := ∀ S H v, Stp B.S B.H S H → R.R S v → ∃ a vs, v = .ref a ∧ SqT K H a vs ∧ AllM Rs S vs
def nth (Rs : List MP) (i : Nat) : MP := Rs.getD i tN
theorem nth_get {Rs : List MP} {i : Nat} (h : i < Rs.length) : Rs[i]? = some (nth Rs i) := by unfold nth; simp [List.getD, h]
def BlkJ (X : Cx) (scope : Scope) (P : Cx → Prop) : Prop := ∀ (s : Shared) (H : Hp) (C : Addr) (cl : List (Str × Addr)) (fp : List Addr), P (X.blk s H scope (compEnvC scope cl C X.env) fp)
def picked (k : Nat → Bool) (R : Nat → MP) (n : Nat) : List MP := ((List.range n).filter k).map R
def IfsJ (X : Cx) (B : Bs) (Γ : Gm) (O : Om) (ifs : List Expr) (k : Bool) : Prop := ∀ S H σ, Stt B Γ O S H σ → ∀ Q : Bool → Hp → Prop, (∀ S' H', Stp S H S' H' → Q k H') → ∃ t, PTs X ifs t ∧ t σ H Q
theorem Stt.mut {S H : Hp} {σ : L2.St} {p : Addr} {M M' : MO} {o : HO} (t : Stt B Γ ((p, M) :: O) S H σ) (h : M'.R S o) : Stt B Γ ((p, M') :: O) S (upd H p o) σ := by
  obtain ⟨h3, h3', _, _, _⟩ := t.own _ List.mem_cons_self
  have nx : ∀ q ∈ O, q.1 ≠ p := fun q hq z => by
    have := t.nd
    rw [List.map_cons] at this
    exact (List.nodup_cons.mp this).1 (List.mem_map.mpr ⟨q, hq, z⟩)
  refine ⟨⟨t.st.s, fun a u z => ?_, fun a u z => ?_, t.st.fr⟩, t.slot, t.len, fun q hq => ?_, t.nd, t.gh⟩
  · have : a ≠ p := fun y => by subst y; rw [h3] at z; cases z
    rw [upd_ne this]
    exact t.sub a u z
  · have : a ≠ p := fun y => by subst y; rw [h3'] at z; cases z
    rw [upd_ne this]
    exact t.st.h a u z
  · rcases List.mem_cons.mp hq with z | hq
    · subst z
      exact ⟨h3, h3', _, upd_same, h⟩
    · obtain ⟨g1, g2, u, g3, g4⟩ := t.own q (List.mem_cons_of_mem _ hq)
      exact ⟨g1, g2, u, by rw [upd_ne (nx q hq)]; exact g3, g4⟩
theorem wipe_wp (σ : L2.St) (vs : List Nat) : Wp vs σ (L2.wipe σ vs) := by
  refine ⟨fun i hi => ?_, L2.wipe_length σ vs⟩
  induction vs with
  | nil => rfl
  | cons w vs ih =>
    show ((L2.wipe σ vs).set w none)[i]? = _
    rw [List.getElem?_set_ne (fun z => hi (by rw [z]; exact List.mem_cons_self)), ih fun z => hi (List.mem_cons_of_mem _ z)]
def EM {ι : Type} (X : Cx) (B : Bs) (Γ : Gm) (O : Om) (e : Expr) (P : ι → Prop) (R : ι → MP) : Prop := ∀ S H σ, Stt B Γ O S H σ → ∀ Q : VK, (∀ i v S' H', P i → Stt B Γ O S' H' σ → Same S S' → (R i).R S' v → Q v H') → wE X e σ H Q
theorem EJ.mv {R : MP} (h : EJ X B Γ O e R.b) : EM X B Γ O e (fun _ : Unit => True) (fun _ => R) := fun S H σ st Q q => h S H σ st Q fun v S' H' s r => q () v S' H' trivial (st.step s) s.s r
theorem EM.imp {ι κ : Type} {P : ι → Prop} {R : ι → MP} {P' : κ → Prop} {R' : κ → MP} (h : EM X B Γ O e P R) (i : ∀ i, P i → ∃ j, P' j ∧ R i = R' j) : EM X B Γ O e P' R' := fun S H σ st Q q => h S H σ st Q fun k v S' H' hk t s r => by
  obtain ⟨j, h1, h2⟩ := i k hk
  exact q j v S' H' h1 t s (h2 ▸ r)
theorem s_retM {ι : Type} {P : ι → Prop} {R : ι → MP} (he : EM X B Γ O e P R) (h : ∀ j v S H σ, P j → Stt B Γ O S H σ → (R j).R S v → D.rt v H) : SJ X B Γ O (.Return (some e) pos :: rest) D :=
  SJ.cons fun S H σ st => ⟨_, ps_ret pe_w, he S H σ st _ fun j v S1 H1 hj t s r => h j v S1 H1 σ hj t r⟩
theorem EJ.mi {i : Int} (h : EJ X B Γ O e (bI i)) : EM X B Γ O e (fun j => j = i) tI := h.mv.imp fun _ _ => ⟨i, rfl, rfl⟩
end
end OT
namespace OT
open PySem PySem.Spec PyProof.Rows L2
section
variable {X : Cx} {CX : CXT} {k : Nat} {f C : Addr} {fd : FuncData} {ps : List Str} {sp : Sp} {E : XK}
theorem run_own {pins : List (Addr × Obj)} {σ : L2.St} {H : Hp} {s : Shared} {Q : VK} {us : List Value} {vs : List V} (F : FnOk X.prog X.w X.K X.mg X.base CX k f fd ps sp) (hr : Room k X.A) (hb : Binds X.K fd ps []) (hx : Passes CX X E)
    (I : Inv X pins σ H s) (r : Vals vs us) (h : sp vs H Q E) : wpAny (model X.prog X.w) X.A (call (.ref f) us) (EP X pins σ Q) X.xe s :=
  run_fn F hr hb .nil hx I r (by rw [List.append_nil]; exact h)
def rOwn2 (C : Addr) (sp : Sp) (E : XK) : R2 := fun x y H Q => ∃ a b dx dy fs gs, x = .ref a ∧ y = .ref b ∧ H a = some (.ins C dx fs) ∧ H b = some (.ins C dy gs) ∧ sp [x, y] H Q E
theorem cmpBack_of {Q : Value → Shared → Prop} {v : V} {u : Value} {s' : Shared} (r : RelV v u) (h : Q u s') : PySem.W.CmpBack Q u s' := by
  cases v with
  | non => cases r; exact h
  | bl _ => cases r; exact h
  | int _ => obtain ⟨t, rfl⟩ := r; exact h
  | str _ => obtain ⟨t, rfl⟩ := r; exact h
  | byt _ => obtain ⟨t, rfl⟩ := r; exact h
  | flt _ => obtain ⟨t, rfl⟩ := r; exact h
  | ref _ => cases r; exact h
  | ty _ => cases r; exact h
theorem op_own {op : Operator} (M : Meth X.K C (PySem.dunder op.info.2) f) (hc : PySem.W.selfFirst X.K C = true) (F : FnOk X.prog X.w X.K X.mg X.base CX k f fd ps sp) (hr : Room k X.A) (hb : Binds X.K fd ps []) (hx : Passes CX X E) :
    OpR X (binaryOp op) (rOwn2 C sp E) := by
  intro pins s σ H x y v u Q I rx ry h
  obtain ⟨a, b, dx, dy, fs, gs, rfl, rfl, ha, hb', hs⟩ := h
  cases rx
  cases ry
  obtain ⟨mA, J, _⟩ := ins_get I.hok ha
  obtain ⟨mB, J', _⟩ := ins_get I.hok hb'
  obtain ⟨od, J, _⟩ := J.look
  obtain ⟨od', J', _⟩ := J'.look
  obtain ⟨m, hF⟩ := I.fr
  refine PySem.W.binop_K hF I.ok.mod.kin J J'.type hc M.at_ M.fn ?_
  exact thn (run_own (vs := [V.ref a, V.ref b]) F hr hb hx I (.cons rfl (.cons rfl .nil)) hs) fun w s' hw => by
    obtain ⟨z, H', I', rz, q⟩ := hw
    exact cmpBack_of rz ⟨z, H', I', rz, q⟩
def rOwn1 (C : Addr) (sp : Sp) (E : XK) : V → Hp → VK → Prop := fun x H Q => ∃ a dx fs, x = .ref a ∧ H a = some (.ins C dx fs) ∧ sp [x] H Q E
theorem tru_own (M : Meth X.K C "__bool__" f) (F : FnOk X.prog X.w X.K X.mg X.base CX k f fd ps sp) (hr : Room k X.A) (hb : Binds X.K fd ps []) (hx : Passes CX X E) :
    TruR X (fun x H Q => ∃ a dx fs, x = .ref a ∧ H a = some (.ins C dx fs) ∧ sp [x] H (fun v H' => ∃ b, v = .bl b ∧ Q b H') E) := by
  intro pins s σ H x v Q I rx h
  obtain ⟨a, dx, fs, rfl, ha, hs⟩ := h
  cases rx
  obtain ⟨mA, J, _⟩ := ins_get I.hok ha
  obtain ⟨od, J, _⟩ := J.look
  obtain ⟨m, hF⟩ := I.fr
  refine PySem.W.truthy_K hF I.ok.mod.kin J M.at_ M.fn ?_
  exact thn (run_own (vs := [V.ref a]) F hr hb hx I (.cons rfl .nil) hs) fun w s' hw => by
    obtain ⟨z, H', I', rz, b, rfl, q⟩ := hw
    cases rz
    exact ⟨H', I', q⟩
def rInOwn (C : Addr) (sp : Sp) (E : XK) (neg : Bool) : R2 := fun x y H Q => ∃ a dx fs, y = .ref a ∧ H a = some (.ins C dx fs) ∧ sp [y, x] H (fun v H' => ∃ b, v = .bl b ∧ Q (.bl (if neg then !b else b)) H') E
def rEqOwn (K : PySem.W.Frag) (C : Addr) (sp : Sp) (E : XK) : R2 := fun x y H Q => ∃ a b dx dy fs gs, x = .ref a ∧ y = .ref b ∧ H a = some (.ins C dx fs) ∧ H b = some (.ins C dy gs) ∧ sp [x, y] H (fun v H' => ∃ b, v = .bl b ∧ Q (.bl b) H') E
theorem ne_own (M : Meth X.K C "__eq__" f) (hn : PySem.W.findIn X.K (.ref C) "__ne__" = some (some (.builtin "object.__ne__"))) (ho : PySem.W.mroIn X.K C (.type "object") = some true) (F : FnOk X.prog X.w X.K X.mg X.base CX k f fd ps sp) (hr : Room (k + 1) X.A) (hb : Binds X.K fd ps []) (hx : Passes CX X E) :
    OpR X (compareOp .NotEq) (fun x y H Q => ∃ a b dx dy fs gs, x = .ref a ∧ y = .ref b ∧ H a = some (.ins C dx fs) ∧ H b = some (.ins C dy gs) ∧ sp [x, y] H (fun v H' => ∃ b, v = .bl b ∧ Q (.bl (!b)) H') E) := by
  intro pins s σ H x y v u Q I rx ry h
  obtain ⟨a, b, dx, dy, fs, gs, rfl, rfl, ha, hb', hs⟩ := h
  cases rx
  cases ry
  obtain ⟨mA, J, _⟩ := ins_get I.hok ha
  obtain ⟨mB, J', _⟩ := ins_get I.hok hb'
  obtain ⟨od, J, _⟩ := J.look
  obtain ⟨od', J', _⟩ := J'.look
  obtain ⟨m, hF⟩ := I.fr
  have KX := I.kIn
  have sub : PySem.W.Looks (model X.prog X.w) s.heap (isInstance (.ref a) (.type "object")) true := J.type.andThen (PySem.W.looks_mroIn KX ho)
  have hl := F.len _ _ _ _ hs
  have inner : wpAny (model X.prog X.w) X.A.in1 (call (.ref f) [.ref a, .ref b]) (fun v s' => ∃ c H', v = .bool c ∧ Inv X pins σ H' s' ∧ Q (.bl (!c)) H') X.xe s := by
    refine wpAny_call (codeAny_mono (F.run X.A.in1 X.stack s H ⟨[.ref a, .ref b], []⟩ [.ref a, .ref b] [.ref a, .ref b] _ E hr.in1 I.env0.in1 (by
      have := hb s [.ref a, .ref b] KX (by simpa using hl)
      simpa using this) (.cons rfl (.cons rfl .nil)) hs) fun r s' hq => ?_)
    cases r with
    | error e => exact hx pins σ H s e s' I hq
    | ok fl =>
      cases fl with
      | ret w =>
        obtain ⟨z, H', I', rz, c, rfl, q⟩ := I.after hq
        cases rz
        exact ⟨c, H', rfl, I', q⟩
      | next => exact False.elim hq
      | brk => exact False.elim hq
      | cont => exact False.elim hq
  have S := PySem.F.cmp_object.ne
  have hu1 : X.A.in1.units < cLine := hr.in1.units0
  have one : wpAny (model X.prog X.w) X.A (tryCompare (.ref a) "__ne__" (.ref b)) (fun r s' => ∃ v, r = some v ∧ EP X pins σ Q v s') X.xe s := by
    unfold tryCompare
    simp only [callSpecialIfBound?, bindSpecialIfBound?]
    have fin : wpAny (model X.prog X.w) X.A (call (.builtin "object.__ne__") ([.ref a] ++ [.ref b])) (fun v s' => ∃ c H', v = .bool (!c) ∧ Inv X pins σ H' s' ∧ Q (.bl (!c)) H') X.xe s := by
      refine wpAny_call (codeAny_call_builtin S.plain PySem.F.cmpEntry_ne (@PySem.W.check_slot (model X.prog X.w) _ _ s "object.__ne__" "object" "__ne__" (.ref a) [.ref b] [] _ PySem.F.cmpKind_ne PySem.F.cmpSplit_ne sub (PySem.F.cmpArgs_ne _ _) ?_))
      unfold Builtin.«object.__ne__»
      refine wpAny_bind (wpAny_pure ?_)
      refine wpAny_bind (wpAny_cRoomFor hu1 ?_)
      refine wpAny_bind (PySem.W.ifBound_K KX J M.at_ M.fn (thn inner fun v s' ⟨c, H', e, I', q⟩ => ?_))
      subst e
      refine wpAny_bind (wpAny_truthy_bool ?_)
      exact wpAny_pure ⟨c, H', rfl, I', q⟩
    have fin2 : ∀ {kk : Option Value → Sem (Option Value)}, (∀ b, kk (some (.bool b)) = pure (some (.bool b))) → wpAny (model X.prog X.w) X.A (call (.builtin "object.__ne__") ([.ref a] ++ [.ref b]) >>= fun v => pure (some v)) (fun r s' => wpAny (model X.prog X.w) X.A (kk r) (fun r s' => ∃ v, r = some v ∧ EP X pins σ Q v s') X.xe s') X.xe s := fun {kk} hk =>
      wpAny_bind (wpAny_mono fin (fun v s' ⟨c, H', e, I', q⟩ => wpAny_pure (by subst e; rw [hk]; exact wpAny_pure ⟨_, rfl, .bl (!c), H', I', rfl, q⟩)) fun _ _ h' => h')
    refine wpAny_bind ?_
    refine wpAny_holding (wpAny_bind (wpAny_bind (wpAny_bind (J.type.here ((PySem.W.looks_findIn KX hn).here ?_)))))
    refine wpAny_bind (wpAny_askSetting (wpAny_ite ?_))
    simp only [S.bind]
    split
    · exact wpAny_bind (wpAny_pure (wpAny_pure (fin2 fun _ => rfl)))
    · exact wpAny_tryCatch (wpAny_bind (wpAny_pure (wpAny_pure (fin2 fun _ => rfl))))
  show wpAny _ _ (richCompare .NotEq (.ref a) (.ref b)) _ _ _
  unfold richCompare
  simp only [oneThing_ref]
  refine wpAny_holding (wpAny_bind (wpAny_cRoomFor hr.units0 ?_))
  refine wpAny_bind (J.type.here (wpAny_bind (J'.type.here ?_)))
  rw [if_neg (by simp)]
  refine wpAny_bind (wpAny_pure ?_)
  simp only [Bool.false_eq_true, if_false]
  refine wpAny_bind (wpAny_mono one (fun r s' z => ?_) fun _ _ e => e)
  obtain ⟨v, rfl, hq⟩ := z
  exact wpAny_pure hq
end
end OT
namespace OT
open PySem PySem.Spec PyProof.Rows L2 NdefX

structure XI (P : Program) (K : PySem.W.Frag) (mg : Str → Option Value) (C f : Addr) (fd : FuncData) (F : NF) : Prop where
  lk : ∃ oc od osl, K.lookup f = some ⟨oc, od, .func fd, osl⟩
  eq : ∃ dV kV doc pm an ct, fd = PySem.W.fnX F.name F.qual F.params F.body F.scope F.cl dV kV doc pm an (.ref F.c) ct
  cd : PySem.W.codeIn K (.ref F.c) F.qual = true
  code : ∃ ccl cdd vs ccs file tf, K.lookup F.c = some ⟨ccl, cdd, .fields vs, ccs⟩ ∧ vs[2]? = some (.str file tf) ∧ ((P.main.file : Str) == file) = true
  cell : ∃ cc cl cld csl, F.cl = [(("__class__" : Str), cc)] ∧ K.lookup cc = some ⟨cl, cld, .cell (some (.ref C)), csl⟩
  T : OexC K C
  mro : PySem.W.mroIn K C (.ref C) = some true
  sup : PySem.W.ks_superIn K C C "__init__" = some (some (.builtin "ValueError.__init__"))
  opq : PySem.W.nsIn K cStatics "thirdparty.any" = some none
  sub : PySem.W.subIn K (.ref C) (.type "ValueError") = some true
  mgs : mg "super" = none
  top : (P.main.scope.names.lookup ("super" : Str)).isSome = false
theorem boot_super : bootBuiltins "super" = some (.type "super") := by decide +kernel
section
variable {P : Program} {w : World} {K : PySem.W.Frag} {mg : Str → Option Value} {base : Heap}
theorem xi_ok {CX : CXT} {C f : Addr} {fd : FuncData} {F : NF} {N ps' : List Str} {self : Str} {k : Nat} {sp : Sp} {arg : Expr} {rest : List Stmt} {p0 p1 apos cpos pos : Pos} {ar : Arg} (W : XI P K mg C f fd F) (S : NScope N (self :: ps') ["__class__"] F.scope) (len : ∀ vs H Q E, sp vs H Q E → vs.length = (self :: ps').length)
    (hB : F.body = .Expr (.Call (.Attribute (.Call (.Name "super" p0) [] [] p1) "__init__" apos) [arg] [] cpos) pos :: rest) (hp : (F.params.posonlyargs ++ F.params.args).head? = some ar) (ha : ar.arg = self) (hks : F.scope.names.lookup ("super" : Str) = some .globalImplicit)
    (hbody : ∀ (A : Around) (outer : List Env) (s : Shared) (H : Hp) (vs : List V) (Q : VK) (E : XK), Room k (A.deeper (envF F f s.heap.objs.size)) → sp vs H Q E → ∃ a vs', vs = .ref a :: vs' ∧ H a = some (exo a C none) ∧
      wA (ncx CX P w K mg base N F f A outer s H E) [arg] (startF N vs [some (.ref C)]) H fun ws H1 => ws.length ≤ 1000 ∧ H1 a = some (exo a C none) ∧ wB (ncx CX P w K mg base N F f A outer s H E) rest { nx := fun _ H' => Q .non H', rt := Q } (startF N vs [some (.ref C)]) H1)
    (hst : ∀ env : Env, starEach [arg] env = (false, eval arg env) :: starEach [] env)
    (hsw : ∀ env : Env, swapsWith (.Call (.Attribute (.Call (.Name "super" p0) [] [] p1) "__init__" apos) [arg] [] cpos) none pos.line env = pure false)
    (he : ∀ env : Env, ∃ pl, eval (.Call (.Attribute (.Call (.Name "super" p0) [] [] p1) "__init__" apos) [arg] [] cpos) env = (do
      let ov ← attributeBase (.Call (.Name "super" p0) [] [] p1) "__init__" env (eval (.Call (.Name "super" p0) [] [] p1) env)
      standAt apos.atName
      let (f, first) ← holding [ov] (getMethod ov "__init__" pl)
      callWith cpos f first (backTo cpos (starEach [arg] env)) [])) :
    FnOk P w K mg base CX (k + 1) f fd (self :: ps') sp := by
  refine ⟨len, fun A outer s H args us vs Q E hr e0 hb r hsp => ?_⟩
  have hl := len _ _ _ _ hsp
  obtain ⟨oc, od, osl, lk⟩ := W.lk
  obtain ⟨dV, kV, doc, pm, an, ct, rfl⟩ := W.eq
  obtain ⟨cc, clc, cld, csl, ecl, lc⟩ := W.cell
  obtain ⟨ccl, cdd, cvs, ccs, file, tf, lcode, hv2, hfile⟩ := W.code
  have KX : K.In s.heap := e0.mod.kin.keeps fun b o e => (e0.bs b o e).1
  have KB : ∀ {b o}, K.lookup b = some o → base.get? b = some o := fun {b o} e => e0.mod.kin b o e
  have lim : s.heap.NoLimit := e0.mod.nolimit.keeps fun b o e => (e0.bs b o e).1
  refine ks_codeAny_call_defAt (fd := PySem.W.fnX F.name F.qual F.params F.body F.scope F.cl dV kV doc pm an (.ref F.c) ct) (body := F.body) hr.depth (KX _ _ lk) rfl lim (PySem.W.codeRec_of KX W.cd) rfl hb (fun y hy => S.nocell y hy) (fun y hy => S.par y.1 (List.of_mem_zip hy).1) (fun h₁ hns kp => ?_) S.co S.gen S.kind
  have CA : CellsAt F.cl ["__class__"] [some (.ref C)] s.heap H := by
    refine ⟨rfl, fun y c hc => ?_, fun x y c h1 h2 => ?_, fun i y hi => ?_⟩
    · rw [ecl] at hc
      have : c = cc := by
        rw [List.lookup_cons] at hc
        split at hc
        · exact (Option.some.inj hc).symm
        · cases hc
      subst this
      exact ⟨(e0.bs _ _ (KB lc)).2, _, _, (e0.bs _ _ (KB lc)).1, rfl⟩
    · rw [ecl] at h1 h2
      have key : ∀ {z : Str}, List.lookup z [(("__class__" : Str), cc)] = some c → z = "__class__" := fun {z} q => by
        by_cases e : z = "__class__"
        · exact e
        · have e2 : (z == ("__class__" : Str)) = false := by simpa using e
          rw [List.lookup_cons, e2] at q
          cases q
      rw [key h1, key h2]
    · cases i with
      | zero =>
        have : y = "__class__" := by simpa using hi.symm
        subst this
        refine ⟨cc, by rw [ecl]; simp, fun v hv => ?_⟩
        have : v = .ref C := by simpa using hv.symm
        subst this
        exact ⟨.ref C, rfl, _, (e0.bs _ _ (KB lc)).1, rfl⟩
      | succ i => simp at hi
  have I : Inv (ncx CX P w K mg base N F f A outer s H E) [] (startF N vs [some (.ref C)]) H { s with heap := h₁, toks := s.toks + ((self :: ps').zip us).length } := inv_startN S hr.hd e0 hl r CA hns kp
  obtain ⟨a, vs', rfl, hHa, hq⟩ := hbody A outer s H vs Q E (hr.deeper _) hsp
  obtain ⟨ta, hta, hq⟩ := hq
  show PySem.wpAt (model P w) (A.deeper (envF F f s.heap.objs.size)) (.func F.body (envF F f s.heap.objs.size)) (execs F.body (envF F f s.heap.objs.size)) _ _ _
  rw [show execs F.body (envF F f s.heap.objs.size) = execs (.Expr (.Call (.Attribute (.Call (.Name "super" p0) [] [] p1) "__init__" apos) [arg] [] cpos) pos :: rest) (envF F f s.heap.objs.size) by rw [hB]]
  refine ks_wpAt_execs_cons (ks_wpAt_Expr_any ?_ (by simp [interactive, S.kind]) (hsw _))
  obtain ⟨pl, he⟩ := he (envF F f s.heap.objs.size)
  refine ks_wpAt_MethodCall (pl := pl) ?_ he
  have hN0 : N[0]? = some self := by
    have q := S.pre
    cases N with
    | nil => simp at q
    | cons n N =>
      have q2 : n = self := by
        have := congrArg (fun l : List Str => l[0]?) q
        simpa using this
      rw [q2]
      rfl
  obtain ⟨t1, hoa⟩ := exo_at I.hok hHa
  obtain ⟨nm, qn, Nn, bs, bm, sn, sub, ab, col, dd, k0, k1, k2, k3, k5, hC, hbm⟩ := W.T.cls
  have K1 := I.kIn
  have IA : PySem.W.InstAt h₁ a { cls := .ref C, dict := none, data := .fields #[.ref t1, .none, .none, .none, .bool false, .none] } C none := ⟨hoa, rfl, rfl, trivial⟩
  have hcd : ∃ cd, PySem.W.clsIn K C = some cd := by
    unfold PySem.W.clsIn
    rw [hC]
    exact ⟨_, rfl⟩
  obtain ⟨cd, hcd⟩ := hcd
  have hsup : PySem.W.alongIn K "__init__" ((cd.mro.dropWhile (· != .ref C)).drop 1) = some (some (.builtin "ValueError.__init__")) := by
    have q := W.sup
    unfold PySem.W.ks_superIn at q
    rw [hcd] at q
    exact q
  obtain ⟨mb, hb1, hb2⟩ := I.mod.blt
  obtain ⟨mm, hnn, hloc⟩ := I.loc
  have hself : mm self = some (.ref a) := by
    obtain ⟨u, ru, l⟩ := hloc 0 self (.ref a) hN0 rfl (.inl (S.par self List.mem_cons_self))
    cases ru
    have kl : F.scope.names.lookup self = some .local := S.par self List.mem_cons_self
    rcases l with ⟨_, hm⟩ | ⟨hk', _⟩
    · exact hm
    · have hk2 : F.scope.names.lookup self = some .cell ∨ F.scope.names.lookup self = some .free := hk'
      rw [kl] at hk2
      rcases hk2 with z | z <;> cases z
  refine ks_wpAt_super_base (env := envF F f s.heap.objs.size) hks (S.frk _ List.mem_cons_self) (by decide +kernel) rfl (K1 _ _ lk) rfl hp rfl (K1 _ _ lcode) rfl hv2 hfile W.top ?_
  refine PySem.W.ks_loadName_global S.kind hks (Calls.loadGlobal_builtin (env := envF F f s.heap.objs.size) (I.mod.glob.keeps I.bk) W.mgs (hb1.keeps I.bk) ((hb2 _ (by decide)).trans boot_super) ⟨rfl, ?_⟩)
  refine wpAny_loadName_free S.kind (S.frk _ List.mem_cons_self) (by show F.cl.lookup _ = _; rw [ecl]; simp) ⟨_, K1 _ _ lc, rfl⟩ ?_
  refine wpAny_loadName_local S.kind (by rw [ha]; exact S.par self List.mem_cons_self) hnn (by rw [ha]; exact hself) ?_
  refine ks_wpAny_isType_cls (K1 _ _ hC) rfl ⟨rfl, ?_⟩
  have hno := PySem.W.looks_opaque (M := model P w) (C := C) K1 W.opq
  have hmr : PySem.W.Looks (model P w) h₁ (mroOf (.ref C)) cd.mro := (PySem.W.looks_clsIn K1 hcd).andThen .now
  refine ks_wpAny_call_super (K1 _ _ hC) rfl hoa rfl (fun c z => by cases z) (PySem.W.looks_mroIn K1 W.mro) fun h2 hso k2 => ?_
  have I2 : Inv (ncx CX P w K mg base N F f A outer s H E) [] (startF N (.ref a :: vs') [some (.ref C)]) H ⟨h2, s.gens, s.drawn, s.toks + ((self :: ps').zip us).length, s.os⟩ := I.kept (t' := s.toks + ((self :: ps').zip us).length) k2
  have K2 := I2.kIn
  have hsubL : PySem.W.Looks (model P w) h₁ (isSubtype (.ref C) (.type "ValueError")) true := PySem.W.looks_subIn (K := K) K1 W.sub
  have hinst : PySem.W.Looks (model P w) h₁ (isInstance (.ref a) (.type "ValueError")) true := IA.type.andThen hsubL
  refine PySem.W.kxs_getMethod PySem.W.kxs_ValueError hso (hno.keeps k2) (hmr.keeps k2) rfl K2 hsup (hinst.keeps k2) (PySem.W.ks_ne K1 IA hcd) (by decide +kernel) ?_
  have I3 : Inv (ncx CX P w K mg base N F f A outer s H E) [(h2.objs.size, PySem.W.kxs_mw "ValueError.__init__" a)] (startF N (.ref a :: vs') [some (.ref C)]) H ⟨h2.push (PySem.W.kxs_mw "ValueError.__init__" a), s.gens, s.drawn, s.toks + ((self :: ps').zip us).length + 1, s.os⟩ :=
    ClX.pin_new (s := ⟨h2, s.gens, s.drawn, s.toks + ((self :: ps').zip us).length, s.os⟩) (t' := s.toks + ((self :: ps').zip us).length + 1) I2 (fun b u e => Heap.get?_push_of_some _ e) (Nat.le_refl _) (Heap.get?_push_at rfl rfl) (fun v z => by cases z)
  rw [show backTo cpos (starEach [arg] (envF F f s.heap.objs.size)) = backTo cpos ((false, eval arg (envF F f s.heap.objs.size)) :: starEach [] (envF F f s.heap.objs.size)) by rw [hst]]
  refine PySem.W.kxs_callWith (i := "ValueError.__init__") (x := a) rfl (PySem.Calls.evalArgs_plain ?_)
  have run := hta.run cpos _ _ _ _ _ I3 hq
  rw [show backTo cpos (starEach [arg] (ncx CX P w K mg base N F f A outer s H E).env) = backTo cpos ((false, eval arg (envF F f s.heap.objs.size)) :: starEach [] (envF F f s.heap.objs.size)) by rw [hst]; rfl] at run
  refine thn run fun ws' s4 hw => ?_
  obtain ⟨ws, H1, I4, rws, hwl, hH1a, hrest⟩ := hw
  refine ⟨ClX.pin_at I4, ?_⟩
  have I5 := ClX.unpin I4
  obtain ⟨t5, ho5⟩ := exo_at I5.hok hH1a
  obtain ⟨h5, g5, d5, tk5, os5⟩ := s4
  have K5 : K.In h5 := I5.kIn
  have hu5 : h5.get? h2.objs.size = some (PySem.W.kxs_mw "ValueError.__init__" a) := ClX.pin_at I4
  have FB := PySem.F.excBase_ValueError
  refine wpAny_call (codeAny_of_tree ?_)
  show wpAny _ (A.deeper (envF F f s.heap.objs.size)).in1 (callAny (.ref h2.objs.size) ⟨[] ++ ws', []⟩) _ _ _
  simp only [callAny]
  refine wpAny_bind (wpAny_load hu5 ?_)
  simp only [PySem.W.kxs_mw, show (Value.type "method-wrapper" == Value.type "method" || Value.type "method-wrapper" == Value.type "builtin_function_or_method" || Value.type "method-wrapper" == Value.type "method-wrapper") = true by decide, if_true]
  refine PySem.W.KFB.if_so (by decide) ?_
  refine wpAny_bind (PySem.W.check_bound_init FB.toExcCallFacts (K5 _ _ hC) ho5 rfl ?_)
  refine wpAny_bind (wpAny_pure (wpAny_pure ?_))
  refine ⟨plainId_quiet FB.init.plain _, codeAny_builtin FB.initEntry ?_⟩
  refine PySem.W.exc_init_tree (cls := .ref C) (t0 := t5) (dv := none) (c2 := .none) (c3 := .none) (b4 := .bool false) ho5 (by rw [List.nil_append, ← Paired.length rws]; exact Nat.le_trans hwl (by decide)) fun h6 k6 e6 _ => ?_
  have I6 : Inv (ncx CX P w K mg base N F f A outer s H E) [] (startF N (.ref a :: vs') [some (.ref C)]) H1 ⟨h6, g5, d5, tk5, os5⟩ := by
    have J := I5.write (t' := tk5) (x := a) (e := a) (o := exo a C none) (by rw [hH1a]; exact True.intro) (.inl rfl) k6 ⟨_, e6⟩ (exo_ok e6)
    have eu : upd H1 a (exo a C none) = H1 := by
      funext b
      by_cases hb : b = a
      · rw [hb, upd_same, hH1a]
      · rw [upd_ne hb]
    rw [eu] at J
    exact J
  refine wpAt_of_wpAny (wpAny_mono (pb_w.run [] _ _ H1 _ I6 hrest) (fun fl s' hs => ?_) fun e s' hs => hs)
  have fin : ∀ {σ' : L2.St} {H' : Hp} {v : V} {u : Value}, Inv (ncx CX P w K mg base N F f A outer s H E) [] σ' H' s' → L2.RelV v u → Q v H' → CE outer P w H s Q u s' :=
    fun {σ' H' v u} J rv q => ⟨v, H', J.os, J.bare, J.base, J.hok, rv, q⟩
  cases fl with
  | ret u =>
    obtain ⟨v, σ', H', J, rv, q⟩ := hs
    exact fin J rv q
  | next =>
    obtain ⟨σ', H', J, q⟩ := hs
    exact fin (v := V.non) (u := Value.none) J rfl q
  | brk =>
    obtain ⟨_, _, _, q⟩ := hs
    exact False.elim q
  | cont =>
    obtain ⟨_, _, _, q⟩ := hs
    exact False.elim q
end
end OT
namespace OT
open PySem PySem.Spec PyProof.Rows L2 NdefX

def fmtOk : V → Prop
  | .int i => i.natAbs.log2 < 1920
  | .str y => y.length ≤ 100000
  | _ => False
def xE (C : Addr) (fs : List (Str × MP)) : XP := ⟨fun S c d => c = .ref C ∧ ∃ a ws, d = some a ∧ S a = some (.xd ws) ∧ FldR fs S ws, fun {S S' c d} e ⟨h1, a, ws, h2, h3, h4⟩ => ⟨h1, a, ws, h2, e _ _ h3, h4.up e⟩⟩
def spE1 (C : Addr) (fl : Str) : Sp := fun vs H Q _ => ∃ a H1 y, vs = [.ref a, y] ∧ H = upd H1 a (exo a C none) ∧ H1 a = none ∧ fmtOk y ∧ ∀ d, H1 d = none → d ≠ a → Q .non (upd (upd H d (exd d [(fl, y)])) a (exo a C (some d)))
section
variable (P : Program) (w : World) (K : PySem.W.Frag) (mg : Str → Option Value) (base : Heap)
def GE (x : Str) (C : Addr) (k : Nat) (ps : List Str) (sp : Sp) : Prop := ∃ f fd, FnOk P w K mg base (L2.CX P w) k f fd ps sp ∧ OexC K C ∧ PySem.W.findIn K (.ref C) "__init__" = some (some (.ref f)) ∧ PySem.W.typeIn K (.ref f) = some (.type "function") ∧ mg x = some (.ref C) ∧ Binds K fd ps []
end
theorem str_app (a b : Str) : (a ++ b).length = a.length + b.length := by
  show (a.cps ++ b.cps).size = _
  rw [Array.size_append] <;> rfl
theorem str_len0 : (Str.empty).length = 0 := rfl
theorem fmt_one {v : V} {te : TE} {σ : L2.St} {H : Hp} {Q : VK} (ho : fmtOk v) (ht : ∀ Q : VK, Q v H → te σ H Q) (h : ∀ y : Str, y.length ≤ 100000 → Q (.str y) H) : tFmt te σ H Q := by
  refine ht _ ?_
  cases v with
  | int i =>
    have ho2 : i.natAbs.log2 < 1920 := ho
    exact .inr ⟨i, rfl, ho2, h _ (Nat.le_trans (int_text_len_1921 ho2) (by decide))⟩
  | str y =>
    have ho2 : y.length ≤ 100000 := ho
    exact .inl ⟨y, rfl, Nat.le_trans ho2 (by decide), h y ho2⟩
  | _ => exact ho.elim
theorem fmt_pre {X : Cx} {n : Str} {i : Nat} {z : Str} {j} {p1 p2 p3 p4 : Pos} (hN : X.N[i]? = some n) (hv : Vis X.env.scope n) (hz : z.length ≤ 1000) (hd : (n == ("__debug__" : Str)) = false) (hcd : (n == ("__classdict__" : Str)) = false) {σ : L2.St} {H : Hp} {v : V} {Q : VK} (hs : σ[i]? = some (some v)) (ho : fmtOk v) (h : ∀ y : Str, Q (.str y) H) :
    wE X (.JoinedStr [.FormattedValue (.Name n p1) (-1) none p2, .Constant (.str z) j p3] p4) σ H Q := by
  refine ⟨_, pe_joined (.cons (pe_fmt (pe_var hN hv hd hcd)) (.cons pe_str .nil)), ?_⟩
  refine fmt_one ho (fun Q q => ⟨v, hs, q⟩) fun y hy => ⟨y, rfl, ?_, z, rfl, ?_, h _⟩
  · rw [str_app, str_len0, Nat.zero_add]
    exact Nat.le_trans hy (by decide)
  · rw [str_app, str_app, str_len0, Nat.zero_add]
    exact Nat.le_trans (Nat.add_le_add hy hz) (by decide)
section
variable {P : Program} {w : World} {K : PySem.W.Frag} {mg : Str → Option Value} {base : Heap}
theorem xi_one {C f : Addr} {fd : FuncData} {F : NF} {fl n : Str} {arg : Expr} {p0 p1 p2 p3 p4 apos cpos pos pos2 : Pos} {ar : Arg} (W : XI P K mg C f fd F) (S : NScope ["self", n, "__class__"] ["self", n] ["__class__"] F.scope)
    (hB : F.body = [.Expr (.Call (.Attribute (.Call (.Name "super" p0) [] [] p1) "__init__" apos) [arg] [] cpos) pos, .Assign [.Attribute (.Name "self" p2) fl p3] (.Name n p4) pos2]) (hp : (F.params.posonlyargs ++ F.params.args).head? = some ar) (ha : ar.arg = "self") (hks : F.scope.names.lookup ("super" : Str) = some .globalImplicit)
    (hno : PySem.W.findIn K (.ref C) fl = some none) (hd : (n == ("__debug__" : Str)) = false) (hcd : (n == ("__classdict__" : Str)) = false)
    (harg : ∀ (X : Cx), X.N = (["self", n, "__class__"] : List Str) → Vis X.env.scope n → ∀ (σ : L2.St) (H : Hp) (v : V) (Q : VK), σ[1]? = some (some v) → fmtOk v → (∀ y : Str, Q (.str y) H) → wE X arg σ H Q)
    (hst : ∀ env : Env, starEach [arg] env = (false, eval arg env) :: starEach [] env)
    (hsw : ∀ env : Env, swapsWith (.Call (.Attribute (.Call (.Name "super" p0) [] [] p1) "__init__" apos) [arg] [] cpos) none pos.line env = pure false)
    (he : ∀ env : Env, ∃ pl, eval (.Call (.Attribute (.Call (.Name "super" p0) [] [] p1) "__init__" apos) [arg] [] cpos) env = (do
      let ov ← attributeBase (.Call (.Name "super" p0) [] [] p1) "__init__" env (eval (.Call (.Name "super" p0) [] [] p1) env)
      standAt apos.atName
      let (f, first) ← holding [ov] (getMethod ov "__init__" pl)
      callWith cpos f first (backTo cpos (starEach [arg] env)) []))
    (hsw2 : ∀ env : Env, swapsWith (.Name n p4) (some (.Attribute (.Name "self" p2) fl p3)) pos2.line env = pure false) :
    FnOk P w K mg base (L2.CX P w) 1 f fd ["self", n] (spE1 C fl) := by
  refine xi_ok (k := 0) W S (fun vs H Q E h => ?_) hB hp ha hks (fun A outer s H vs Q E hr h => ?_) hst hsw he
  · obtain ⟨a, H1, y, rfl, _⟩ := h
    rfl
  · obtain ⟨a, H1, y, rfl, rfl, n1, ok, q⟩ := h
    have hv : Vis F.scope n := .inl (S.par n (by simp))
    have hvs : Vis F.scope "self" := .inl (S.par "self" (by simp))
    refine ⟨a, [y], rfl, upd_same, _, pa_cons pe_w pa_nil (hst _), ?_⟩
    refine harg _ rfl hv _ _ y _ rfl ok fun z => ⟨(by show 1 ≤ 1000; decide), upd_same, ?_⟩
    refine ⟨_, pss_one (ps_ost (pe_var (i := 0) rfl hvs (by decide) (by decide)) (pe_var (i := 1) rfl hv hd hcd) (hsw2 _)), y, rfl, .ref a, rfl, a, C, rfl, W.T, hno, .inl ⟨upd_same, fun d hd hne => ?_⟩⟩
    exact q d (by rw [upd_ne hne] at hd; exact hd) hne
end
section
variable {X : Cx} {B : Bs} {Γ : Gm} {O : Om} {e a b c o : Expr} {es : List Expr} {p pos pos' apos : Pos} {R : MP} {D : Ends} {rest body els : List Stmt} {x m fl : Str} {C : Addr} {k : Nat} {ps : List Str} {W : WX}
structure SuJ (X : Cx) (su : List Stmt) (D : Ends) (σ : L2.St) (H : Hp) (a : Addr) (cls : Value) (d : Option Addr) : Prop where
  go : ∀ (oe : Obj) (pn : List (Addr × Obj)), Zc cls d oe → (∃ vs, oe.data = .fields vs) → wB (X.suite a ((a, oe) :: pn)) su D σ H
end
end OT
namespace OT
open PySem PySem.Spec PyProof.Rows L2 NdefX
section
variable {X : Cx} {CX : CXT} {k i : Nat} {f C p1 : Addr} {fd : FuncData} {ps : List Str} {sp : Sp} {E : L2.St → XK} {x m : Str} {p pos apos : Pos} {e o : Expr} {es : List Expr} {ta : TE} {t : TA} {mc : Value}
theorem code_at {pins : List (Addr × Obj)} {σ : L2.St} {H : Hp} {s : Shared} {Q : VK} {us : List Value} {vs : List V} (F : FnOk X.prog X.w X.K X.mg X.base CX k f fd ps sp) (hr : Room k X.A) (hb : Binds X.K fd ps []) (hx : PassesAt CX X σ (E σ))
    (I : Inv X pins σ H s) (r : Vals vs us) (h : sp vs H Q (E σ)) : codeAny (model X.prog X.w) X.A (.call (.ref f) ⟨us, []⟩) (fun r s' => match r with
      | .ok (.ret v) => EP X pins σ Q v s'
      | .ok _ => False
      | .error e => X.xe e s') s := by
  have hl : (us ++ []).length = ps.length := by rw [List.append_nil, ← r.length]; exact F.len _ _ _ _ h
  refine codeAny_mono (F.run X.A X.stack s H ⟨us, []⟩ us vs Q (E σ) hr I.env0 (by have := hb s us I.kIn hl; rw [List.append_nil] at this; exact this) r h) fun r s' hq => ?_
  match r, hq with
  | .error e, hq => exact hx pins H s e s' I hq
  | .ok (.ret u), hq => exact I.after hq
  | .ok .next, hq => exact False.elim hq
  | .ok .brk, hq => exact False.elim hq
  | .ok .cont, hq => exact False.elim hq
def tCMethS (C : Addr) (sp : Sp) (E : L2.St → XK) (ta : TE) (t : TA) : TE := fun σ H Q => ta σ H fun x H1 => x = .ref C ∧ t σ H1 fun vs H2 => sp (.ref C :: vs) H2 Q (E σ)
theorem pe_cmethS {pl : Sem Bool} (he : PE X o ta) (r : ClX.CRead X.K C mc) (c : ClX.CMet X.K C mc m p1 f) (F : FnOk X.prog X.w X.K X.mg X.base CX k f fd ps sp) (hr : Room k X.A) (hb : Binds X.K fd ps []) (hx : ∀ σ, PassesAt CX X σ (E σ)) (ha : PA X (e :: es) t)
    (hst : starEach (e :: es) X.env = (false, eval e X.env) :: starEach es X.env := by rfl) (hpl : (backTo pos (starEach es X.env)).any (·.1) = false := by rfl)
    (ht : eval (.Call (.Attribute o m apos) (e :: es) [] pos) X.env = (do
      let ov ← eval o X.env
      standAt apos.atName
      let (f, first) ← holding [ov] (getMethod ov m pl)
      callWith pos f first (backTo pos (starEach (e :: es) X.env)) (backToKw pos (keywordEach [] X.env))) := by rfl) : PE X (.Call (.Attribute o m apos) (e :: es) [] pos) (tCMethS C sp E ta t) :=
  ⟨fun pins s σ H Q I h => PySem.W.methodCall_KW (pl := pl) (thn (he.run pins s σ H _ I h) fun u s1 ⟨y, H1, I1, ry, ey, q⟩ => by
    subst ey
    obtain rfl : u = Value.ref C := ry
    refine ClX.getmethcm_ok I1 r c fun s2 I2 => ?_
    refine ClX.callwith_cm I2 (ClX.base_none I1 (Nat.le_refl _)) c.fi (thn (ha.run pos _ s2 σ H1 _ I2 q) fun us s3 ⟨vs, H2, I3, rv, q2⟩ => ⟨⟨ClX.pin_at I3, I3.kIn⟩, ?_⟩) hst hpl
    have z := wpAny_call (PySem.W.method_call (ClX.pin_at I3) (code_at (us := .ref C :: us) (vs := .ref C :: vs) F hr hb (hx σ) I3 (.cons rfl rv) q2))
    exact thn z fun _ _ y => ClX.unpinE y) ht⟩
theorem pe_makeL (M : Mk X.K C f) (F : FnOk X.prog X.w X.K X.mg X.base CX k f fd ps sp) (hr : Room (k + 1) X.A) (hN : X.N[i]? = some x) (hv : Vis X.env.scope x) (hb : Binds X.K fd ps []) (hx : ∀ σ, PassesAt CX X σ (E σ))
    (ha : PA X (e :: es) t) (hdb : (x == ("__debug__" : Str)) = false := by decide) (hcd : (x == ("__classdict__" : Str)) = false := by decide) (he : starEach (e :: es) X.env = (false, eval e X.env) :: starEach es X.env := by rfl) (hpl : (backTo pos (starEach es X.env)).any (·.1) = false := by rfl) :
    PE X (.Call (.Name x p) (e :: es) [] pos) (fun σ H Q => σ[i]? = some (some (.ref C)) ∧ tMakeS C sp E t σ H Q) := by
  refine ⟨fun pins s σ H Q I ⟨hs, h⟩ => ?_⟩
  refine wpAny_Call_Name_kw (thn ((pe_var (pos := p) hN hv hdb hcd).run pins s σ H (fun v H1 => v = .ref C ∧ H1 = H) I ⟨.ref C, hs, rfl, rfl⟩) fun u s1 ⟨v, H1, I1, r1, e1, e2⟩ => ?_)
  subst e1 e2
  cases r1
  exact PySem.W.callWith_K (h₀ := X.base) I.ok.mod.kin M.kp (thn (ha.run pos pins s1 σ _ _ I1 h) fun us s2 ⟨vs, H2, I2, r, q⟩ => ⟨I2.kIn, run_makeS M F hr hb (hx σ) I2 r q⟩) he hpl
end
def GK (P : Program) (w : World) (K : PySem.W.Frag) (mg : Str → Option Value) (base : Heap) (C : Addr) (m : Str) (k : Nat) (ps : List Str) (sp : Sp) : Prop := ∃ f fd p1, FnOk P w K mg base (L2.CX P w) k f fd ps sp ∧ ClX.CRead K C (.type "type") ∧ ClX.CMet K C (.type "type") m p1 f ∧ Binds K fd ps []
section
variable {X : Cx} {B : Bs} {Γ : Gm} {O : Om} {e a b c o : Expr} {es : List Expr} {p pos pos' apos : Pos} {R R' : BP} {Ds : Ends} {rest body els : List Stmt} {x m f : Str} {C : Addr} {k : Nat} {ps : List Str} {W : WX} {D : Type} {As : D → List BP} {out : D → Out}
theorem tO.at_ {Rs : List (Str × MP)} {S H : Hp} {v : V} (h : (tO C Rs).b.R S H v) (sm : Same S H) : ∃ a dx fs, v = .ref a ∧ H a = some (.ins C dx fs) := let ⟨a, dx, fs, h1, h2, _⟩ := h; ⟨a, dx, fs, h1, sm _ _ h2⟩
def XP.gh (P : XP) (c : Value) (d : Option Addr) : Gho := ⟨fun S => P.R S c d, fun e h => P.up e h⟩
end
end OT
namespace OT
open PySem PySem.Spec PyProof.Rows L2 NdefX

structure ErrD where
  x : Str
  qual : Str
  params : Arguments
  body : List Stmt
  scope : Scope
  flds : List Str
abbrev FnE : Type := Option (Str × Str × Arguments × FuncBody × Scope × Addr × Addr)
def fnE (K : PySem.W.Frag) (f : Addr) : FnE := match K.lookup f with
  | some ⟨_, _, .func fd, _⟩ => some (fd.name, fd.qualname, fd.params, fd.body, fd.scope, fd.globals, fd.builtins)
  | _ => none
def ErrD.val (d : ErrD) : FnE := some ("__init__", d.qual, d.params, .stmts d.body, d.scope, mainGlobals, builtinsNs)
def oexB (K : PySem.W.Frag) (C : Addr) : Bool := match K.lookup C with
  | some ⟨.type t, _, .cls cd, sl⟩ => (match cd.mro, sl.toList with
    | .ref C' :: bm, [_, _, _, _, some (.builtin n), _] => decide (t = "type") && (decide (C' = C) && (decide (n = "ValueError.__new__") && (!cd.hasDel && (cd.hasDict && PySem.HandSPX.refsVE bm))))
    | _, _ => false)
  | _ => false
theorem oexB_ok {K : PySem.W.Frag} {C : Addr} (q : oexB K C = true) : ∃ nm qn N bs bm sn sub ab col dd k0 k1 k2 k3 k5, K.lookup C = some (excClassObj nm qn C N bs bm true sn sub ab col dd k0 k1 k2 k3 k5 "ValueError.__new__") ∧ PySem.HandSPX.refsVE bm = true := by
  unfold oexB at q
  split at q
  · rename_i t dd cd sl ho
    split at q
    · rename_i C' bm k0 k1 k2 k3 n k5 hm hs
      simp only [Bool.and_eq_true, decide_eq_true_eq, Bool.not_eq_true'] at q
      obtain ⟨rfl, rfl, rfl, hdel, hdi, ht⟩ := q
      obtain ⟨nm, bs, mro, ns, qn, hd, sn, sub, ab, col, del⟩ := cd
      dsimp only at hm hdel hdi
      subst hm hdel hdi
      have hsl : sl = #[k0, k1, k2, k3, some (.builtin "ValueError.__new__"), k5] := by
        obtain ⟨l⟩ := sl
        simp only at hs
        rw [hs]
      subst hsl
      exact ⟨nm, qn, ns, bs, bm, sn, sub, ab, col, dd, k0, k1, k2, k3, k5, ho, ht⟩
    · cases q
  · cases q
def initOf (K : PySem.W.Frag) (x : Str) : Addr := He.ma K (He.ga K x) "__init__"
def cloB (K : PySem.W.Frag) (C f : Addr) : Bool := match K.lookup f with
  | some ⟨_, _, .func fd, _⟩ => (match fd.closure, fd.code with
    | [(nm, cc)], .ref c => decide (nm = "__class__") && ((match K.lookup cc with
      | some ⟨_, _, .cell (some (.ref D)), _⟩ => decide (D = C)
      | _ => false) && (PySem.W.codeIn K (.ref c) fd.qualname && (match K.lookup c with
      | some ⟨_, _, .fields vs, _⟩ => (match ((vs : Array Value)[2]? : Option Value) with
        | some (.str file _) => decide (file = "/claim/cut.py")
        | _ => false)
      | _ => false)))
    | _, _ => false)
  | _ => false
theorem cloB_ok {K : PySem.W.Frag} {C f : Addr} (q : cloB K C f = true) : ∃ oc od osl fd cc c, K.lookup f = some ⟨oc, od, .func fd, osl⟩ ∧ fd.closure = [(("__class__" : Str), cc)] ∧ fd.code = .ref c ∧ (∃ cl cld csl, K.lookup cc = some ⟨cl, cld, .cell (some (.ref C)), csl⟩) ∧ PySem.W.codeIn K (.ref c) fd.qualname = true ∧
    ∃ ccl cdd vs ccs tf, K.lookup c = some ⟨ccl, cdd, .fields vs, ccs⟩ ∧ vs[2]? = some (.str "/claim/cut.py" tf) := by
  unfold cloB at q
  split at q
  · rename_i oc od fd osl hl
    split at q
    · rename_i nm cc c h1 h2
      obtain ⟨e1, q1⟩ := He.ba q
      obtain ⟨e2, q2⟩ := He.ba q1
      obtain ⟨e3, q3⟩ := He.ba q2
      clear q q1 q2
      have e1 := of_decide_eq_true e1
      subst e1
      split at e2
      · rename_i cl cld D csl hcc
        have e2 := of_decide_eq_true e2
        subst e2
        split at q3
        · rename_i ccl cdd vs ccs hc
          split at q3
          · rename_i file tf hv
            have q4 := of_decide_eq_true q3
            subst q4
            exact ⟨oc, od, osl, fd, cc, c, hl, h1, h2, ⟨_, _, _, hcc⟩, e3, _, _, _, _, _, hc, hv⟩
          · cases q3
        · cases q3
      · cases e2
    · cases q
  · cases q
def dfl0 (K : PySem.W.Frag) (f : Addr) : Bool := match K.lookup f with
  | some ⟨_, _, .func fd, _⟩ => decide (fd.defaults = .none)
  | _ => false
theorem dfl0_ok {K : PySem.W.Frag} {f : Addr} {oc od osl} {fd : FuncData} (h : dfl0 K f = true) (lk : K.lookup f = some ⟨oc, od, .func fd, osl⟩) : fd.defaults = .none := by
  unfold dfl0 at h
  rw [lk] at h
  exact of_decide_eq_true h
def ErrD.ok (K : PySem.W.Frag) (d : ErrD) : Bool :=
  He.eqO (PySem.W.nsIn K mainGlobals d.x) (some (some (.ref (He.ga K d.x)))) && (He.eqO (PySem.W.findIn K (.ref (He.ga K d.x)) "__init__") (some (some (.ref (initOf K d.x)))) && (decide (PySem.W.typeIn K (.ref (initOf K d.x)) = some (.type "function")) && (cloB K (He.ga K d.x) (initOf K d.x) && (oexB K (He.ga K d.x) &&
  (He.eqO (PySem.W.findIn K (.ref (He.ga K d.x)) "__setattr__") (some (some (.builtin "object.__setattr__"))) && (decide (PySem.W.subIn K (.ref (He.ga K d.x)) (.type "BaseException") = some true) && (decide (PySem.W.typeIn K (.ref (He.ga K d.x)) = some (.type "type")) && (PySem.W.keepIn K (.ref (He.ga K d.x)) &&
  (decide (PySem.W.mroIn K (He.ga K d.x) (.ref (He.ga K d.x)) = some true) && (He.eqO (PySem.W.ks_superIn K (He.ga K d.x) (He.ga K d.x) "__init__") (some (some (.builtin "ValueError.__init__"))) && (He.eqO (PySem.W.nsIn K cStatics "thirdparty.any") (some none) && (decide (PySem.W.subIn K (.ref (He.ga K d.x)) (.type "ValueError") = some true) &&
  (He.eqO (PySem.W.nsIn K mainGlobals "super") (some none) && (xfB K (He.ga K d.x) && (dfl0 K (initOf K d.x) && d.flds.all fun f => He.eqO (PySem.W.findIn K (.ref (He.ga K d.x)) f) (some none))))))))))))))))
structure ErrOk (P : Program) (K : PySem.W.Frag) (mg : Str → Option Value) (d : ErrD) : Prop where
  mgx : mg d.x = some (.ref (He.ga K d.x))
  xi : ∃ fd F, XI P K mg (He.ga K d.x) (initOf K d.x) fd F ∧ F.body = d.body ∧ F.scope = d.scope ∧ F.params = d.params ∧ F.name = "__init__" ∧ F.qual = d.qual ∧ fd.defaults = .none
  ini : PySem.W.findIn K (.ref (He.ga K d.x)) "__init__" = some (some (.ref (initOf K d.x)))
  fn : PySem.W.typeIn K (.ref (initOf K d.x)) = some (.type "function")
  xf : XfC K (He.ga K d.x)
  no : ∀ f ∈ d.flds, PySem.W.findIn K (.ref (He.ga K d.x)) f = some none
theorem ErrD.all {P : Program} {K : PySem.W.Frag} {h : Heap} {mg : Str → Option Value} {d : ErrD} (X : K.In h) (G : h.Ns mainGlobals mg) (e : fnE K (initOf K d.x) = d.val) (c : d.ok K = true) (hfile : (P.main.file : Str) = "/claim/cut.py") (htop : (P.main.scope.names.lookup ("super" : Str)).isSome = false) : ErrOk P K mg d := by
  unfold ErrD.ok at c
  obtain ⟨c1, c⟩ := He.ba c
  obtain ⟨c2, c⟩ := He.ba c
  obtain ⟨c3, c⟩ := He.ba c
  obtain ⟨c4, c⟩ := He.ba c
  obtain ⟨c5, c⟩ := He.ba c
  obtain ⟨c6, c⟩ := He.ba c
  obtain ⟨c7, c⟩ := He.ba c
  obtain ⟨c8, c⟩ := He.ba c
  obtain ⟨c9, c⟩ := He.ba c
  obtain ⟨c10, c⟩ := He.ba c
  obtain ⟨c11, c⟩ := He.ba c
  obtain ⟨c12, c⟩ := He.ba c
  obtain ⟨c13, c⟩ := He.ba c
  obtain ⟨c14, c⟩ := He.ba c
  obtain ⟨c15, c⟩ := He.ba c
  obtain ⟨c17, c16⟩ := He.ba c
  obtain ⟨oc, od, osl, fd, cc, cd, lk, hclo, hcode, hcell, hcd, ccl, cdd, vs, ccs, tf, hc, hv⟩ := cloB_ok c4
  unfold fnE at e
  rw [lk] at e
  obtain ⟨n1, n2, n3, n4, n5, n6, n7, n8, n9, n10, n11, n12, n13, n14, n15⟩ := fd
  have e2 : (some (n1, n2, n3, n4, n5, n6, n15) : FnE) = some (("__init__" : Str), d.qual, d.params, FuncBody.stmts d.body, d.scope, mainGlobals, builtinsNs) := e
  simp only [Option.some.injEq, Prod.mk.injEq] at e2
  obtain ⟨h1, h2, h3, h4, h5, h6, h8⟩ := e2
  dsimp only at hclo hcode hcd
  subst h1 h2 h3 h4 h5 h6 h8 hclo hcode
  refine ⟨PySem.W.mg_of X G (He.eqO_ok c1), ⟨_, ⟨"__init__", d.qual, d.params, d.body, d.scope, [("__class__", cc)], cd⟩, ⟨⟨oc, od, osl, lk⟩, ⟨n8, n9, n10, n11, n12, n14, rfl⟩, hcd, ⟨ccl, cdd, vs, ccs, "/claim/cut.py", tf, hc, hv, ?_⟩, ?_, ?_, of_decide_eq_true c10, He.eqO_ok c11, He.eqO_ok c12, of_decide_eq_true c13, PySem.W.mg_none_of X G (He.eqO_ok c14), htop⟩, rfl, rfl, rfl, rfl, rfl, dfl0_ok c17 lk⟩,
    He.eqO_ok c2, of_decide_eq_true c3, xfB_ok c15, fun f hf => He.eqO_ok (List.all_eq_true.mp c16 f hf)⟩
  · rw [hfile]
    decide +kernel
  · obtain ⟨cl, cld, csl, hcc⟩ := hcell
    exact ⟨cc, cl, cld, csl, rfl, hcc⟩
  · exact ⟨oexB_ok c5, He.eqO_ok c6, of_decide_eq_true c7, of_decide_eq_true c8, c9⟩
structure CmD where
  x : Str
  m : Str
  qual : Str
  params : Arguments
  body : List Stmt
  scope : Scope
def cmRec (K : PySem.W.Frag) (x m : Str) : Addr := He.ma K (He.ga K x) m
def cmFn (K : PySem.W.Frag) (x m : Str) : Addr := match PySem.W.recIn K (cmRec K x m) "classmethod" with
  | some (.ref g :: _) => g
  | _ => 0
def fnWa (K : PySem.W.Frag) (f : Addr) : He.FnW := match K.lookup f with
  | some ⟨_, _, .func fd, _⟩ => some (fd.name, fd.qualname, fd.params, fd.body, fd.scope, fd.globals, fd.closure, fd.builtins)
  | _ => none
def CmD.val (d : CmD) : He.FnW := some (d.m, d.qual, d.params, .stmts d.body, d.scope, mainGlobals, [], builtinsNs)
def isGetB (r : Option PySem.W.CFound) (p C : Addr) : Bool := match r with
  | some (.get (.builtin id) (.ref p') .none (.ref C')) => decide (id = "classmethod.__get__") && (decide (p' = p) && decide (C' = C))
  | _ => false
theorem isGetB_ok {r : Option PySem.W.CFound} {p C : Addr} (h : isGetB r p C = true) : r = some (.get (.builtin "classmethod.__get__") (.ref p) .none (.ref C)) := by
  unfold isGetB at h
  split at h
  · obtain ⟨h1, h⟩ := He.ba h
    obtain ⟨h2, h3⟩ := He.ba h
    rw [of_decide_eq_true h1, of_decide_eq_true h2, of_decide_eq_true h3]
  · cases h
def recB (K : PySem.W.Frag) (p g : Addr) : Bool := match PySem.W.recIn K p "classmethod" with
  | some (.ref g' :: _) => decide (g' = g)
  | _ => false
theorem recB_ok {K : PySem.W.Frag} {p g : Addr} (h : recB K p g = true) : ∃ rest, PySem.W.recIn K p "classmethod" = some (.ref g :: rest) := by
  unfold recB at h
  split at h
  · rename_i g' rest e
    rw [e, of_decide_eq_true h]
    exact ⟨rest, rfl⟩
  · cases h
def fnPlainB (K : PySem.W.Frag) (f : Addr) (q : Str) : Bool := match K.lookup f with
  | some ⟨_, _, .func fd, _⟩ => PySem.W.codeIn K fd.code q && He.dflB K fd.defaults []
  | _ => false
def CmD.ok (K : PySem.W.Frag) (d : CmD) : Bool := PySem.W.readsIn K (He.ga K d.x) (.type "type") && (He.eqO (PySem.W.specialIn K (.ref (He.ga K d.x)) "__getattribute__") (some (some (.builtin "type.__getattribute__"))) &&
  (isGetB (PySem.W.findCls K (.ref (He.ga K d.x)) (.type "type") d.m) (cmRec K d.x d.m) (He.ga K d.x) && (recB K (cmRec K d.x d.m) (cmFn K d.x d.m) && (PySem.W.fnIn K (cmFn K d.x d.m) && (PySem.W.keepIn K (.ref (cmFn K d.x d.m)) && fnPlainB K (cmFn K d.x d.m) d.qual)))))
structure CmOk (K : PySem.W.Frag) (d : CmD) : Prop where
  rd : ClX.CRead K (He.ga K d.x) (.type "type")
  cm : ClX.CMet K (He.ga K d.x) (.type "type") d.m (cmRec K d.x d.m) (cmFn K d.x d.m)
  fn : ∃ fd, FunD K d.m d.qual d.params d.body d.scope [] [] (cmFn K d.x d.m) fd
theorem CmD.all {K : PySem.W.Frag} {d : CmD} (e : fnWa K (cmFn K d.x d.m) = d.val) (c : d.ok K = true) : CmOk K d := by
  unfold CmD.ok at c
  obtain ⟨c1, c⟩ := He.ba c
  obtain ⟨c2, c⟩ := He.ba c
  obtain ⟨c3, c⟩ := He.ba c
  obtain ⟨c4, c⟩ := He.ba c
  obtain ⟨c5, c⟩ := He.ba c
  obtain ⟨c6, c7⟩ := He.ba c
  refine ⟨⟨c1, He.eqO_ok c2⟩, ⟨isGetB_ok c3, recB_ok c4, c5⟩, ?_⟩
  unfold fnPlainB at c7
  unfold fnWa at e
  split at c7
  · rename_i oc od fd osl lk
    rw [lk] at e
    obtain ⟨n1, n2, n3, n4, n5, n6, n7, n8, n9, n10, n11, n12, n13, n14, n15⟩ := fd
    have e2 : (some (n1, n2, n3, n4, n5, n6, n7, n15) : He.FnW) = some (d.m, d.qual, d.params, FuncBody.stmts d.body, d.scope, mainGlobals, [], builtinsNs) := e
    simp only [Option.some.injEq, Prod.mk.injEq] at e2
    obtain ⟨h1, h2, h3, h4, h5, h6, h7, h8⟩ := e2
    subst h1 h2 h3 h4 h5 h6 h7 h8
    obtain ⟨k1, k2⟩ := He.ba c7
    exact ⟨_, ⟨oc, od, n8, n9, n10, n11, n12, n13, n14, osl, rfl, lk, k1, He.dflB_ok k2, .inl rfl⟩, c6⟩
  · cases c7
def asO (g : Addr → Option Obj) : Nat → List Addr
  | 0 => [mainGlobals, cStatics]
  | n + 1 => He.growD g (asO g n)
abbrev AlO : Type := He.AlD × (List FnE × (List He.FnW × Bool))
def obsO (fa : List He.Fa) (fn : List He.DefD) (er : List ErrD) (cm : List CmD) (ex : PySem.W.Frag → Bool) (K : PySem.W.Frag) : AlO := (He.obsD fa fn K, er.map (fun d => fnE K (initOf K d.x)), cm.map (fun d => fnWa K (cmFn K d.x d.m)), (er.all fun d => d.ok K) && ((cm.all fun d => d.ok K) && ex K))
def valO (fn : List He.DefD) (er : List ErrD) (cm : List CmD) : AlO := (He.valD fn, er.map ErrD.val, cm.map CmD.val, true)
def obsOG (n : Nat) (fa : List He.Fa) (fn : List He.DefD) (er : List ErrD) (cm : List CmD) (ex : PySem.W.Frag → Bool) (g : Addr → Option Obj) : AlO := obsO fa fn er cm ex (He.frG g (asO g n))
structure SaysO (fa : List He.Fa) (fn : List He.DefD) (er : List ErrD) (cm : List CmD) (ex : PySem.W.Frag → Bool) (K : PySem.W.Frag) : Prop where
  d : He.SaysD fa fn K
  er : ∀ d ∈ er, fnE K (initOf K d.x) = d.val ∧ d.ok K = true
  cm : ∀ d ∈ cm, fnWa K (cmFn K d.x d.m) = d.val ∧ d.ok K = true
  ex : ex K = true
theorem map_all {α β : Type} {f g : α → β} : ∀ {l : List α}, l.map f = l.map g → ∀ a ∈ l, f a = g a
  | [], _, _, h => by cases h
  | b :: l, e, a, h => by
    rw [List.map_cons, List.map_cons] at e
    injection e with e1 e2
    rcases List.mem_cons.mp h with rfl | h
    · exact e1
    · exact map_all e2 a h
theorem saysO_of {fa : List He.Fa} {fn : List He.DefD} {er : List ErrD} {cm : List CmD} {ex : PySem.W.Frag → Bool} {K : PySem.W.Frag} (e : obsO fa fn er cm ex K = valO fn er cm) : SaysO fa fn er cm ex K := by
  have e1 : He.obsD fa fn K = He.valD fn := congrArg (fun z : AlO => z.1) e
  have e2 : er.map (fun d => fnE K (initOf K d.x)) = er.map ErrD.val := congrArg (fun z : AlO => z.2.1) e
  have e4 : cm.map (fun d => fnWa K (cmFn K d.x d.m)) = cm.map CmD.val := congrArg (fun z : AlO => z.2.2.1) e
  have e3 : ((er.all fun d => d.ok K) && ((cm.all fun d => d.ok K) && ex K)) = true := congrArg (fun z : AlO => z.2.2.2) e
  obtain ⟨h1, h2⟩ := He.ba e3
  obtain ⟨h2, h3⟩ := He.ba h2
  exact ⟨e1, fun d hd => ⟨map_all e2 d hd, List.all_eq_true.mp h1 d hd⟩, fun d hd => ⟨map_all e4 d hd, List.all_eq_true.mp h2 d hd⟩, h3⟩
def hookO (n : Nat) (fa : List He.Fa) (fn : List He.DefD) (er : List ErrD) (cm : List CmD) (ex : PySem.W.Frag → Bool) : PySem.W.Hook where
  α := AlO
  obs := fun s => obsOG n fa fn er cm ex s.heap.get?
  val := fun _ => valO fn er cm
  says := fun _ h => ∃ K : PySem.W.Frag, K.In h ∧ SaysO fa fn er cm ex K
  of := fun _ _ e => ⟨_, He.frG_in, saysO_of e⟩
  keeps := fun _ _ _ ⟨K, hK, c⟩ k => ⟨K, PySem.W.Frag.In.keeps hK k, c⟩
theorem walk_ofEB {l : PySem.W.OpenLaw} {n k : Nat} {q : Program} {loose : List Str} {XP : (Str → Option Value) → Heap → Prop} {YP : World → Heap → Prop} {d : DefRec} {x : Str}
    (hn : l.most = some n) (hn2 : n ≤ sizeLine) (hdf : d.params.defaults = []) (hr : Room k callerA)
    (F : ∀ (w : World) (mg : Str → Option Value) (fa : Addr) (h : Heap), YP w h → h.Ns mainGlobals mg → mg d.name = some (.ref fa) →
      ∃ (K : PySem.W.Frag) (fd : FuncData), K.In h ∧ (∀ (s : Shared) (u : Value), BindsTo s fd ⟨[u], []⟩ [(x, u)]) ∧
        ∀ base : Heap, K.In base → base.Ns mainGlobals mg → FnOk l.prog w K mg base (L2.CX l.prog w) k fa fd [x] (spD (D := { ns : List Int // ns.length ≤ n ∧ ∀ z ∈ ns, Builtin.Int.intBits z ≤ 1048576 }) (fun ns => [bQ K (ns.1.map tI)]) fun _ => .val (tB true))) :
    PySem.W.WalkO q loose XP YP l.row.toRowW d [] (fun f vs => PySem.call f vs) := by
  refine Att.attach_callB hn hdf fun w s₀ s₁ mg mb fa o pm cd doc a vs ns G Y ho hd hcd hmg hobj hints hlen hbits hg => ?_
  obtain ⟨K, fd, KX, hb, hF⟩ := F w mg fa _ Y G.T.g hmg
  refine law_call KX G.T.g G.T.b G.T.builtins G.T.nolimit hg hobj hints (Nat.le_trans hlen hn2) hr hF hb (fun H hO hS => ?_) fun H e s' z => ?_
  · refine ⟨⟨ns, hlen, hbits⟩, (fun _ => none), (fun _ _ z => nomatch z), ⟨⟨a, _, rfl, .inl hS, ?_⟩, trivial⟩, fun v S' H' _ r => r⟩
    have : ∀ l : List Int, AllM (l.map tI) (fun _ => none) (l.map V.int) := fun l => by
      induction l with
      | nil => exact trivial
      | cons z l ih => exact ⟨rfl, ih⟩
    exact this ns
  · obtain ⟨_, _, _, _, _, _, _, _, _, _, _, _, zz⟩ := z
    exact zz.elim
end OT
namespace OT
open PySem PySem.Spec PyProof.Rows L2 NdefX
section
variable {P : Program} {w : World} {K : PySem.W.Frag} {mg : Str → Option Value} {base : Heap} {k : Nat} {ps : List Str} {sp : Sp}
abbrev FnS (K : PySem.W.Frag) (x q : Str) (s : Stmt) (f : Addr) (fd : FuncData) : Prop := FunD K x q (defArgs s) (defBody s) (defScope s) [] [] f fd
theorem gf_mk {x q : Str} {s : Stmt} {f : Addr} (h : ∃ fd, FnS K x q s f fd) (hb : ∀ fd, FnS K x q s f fd → Binds K fd ps []) (hm : mg x = some (.ref f)) (ok : ∀ fd, FnS K x q s f fd → FnOk P w K mg base (L2.CX P w) k f fd ps sp) : GF P w K mg base x k ps sp := by
  obtain ⟨fd, F⟩ := h
  exact ⟨f, fd, ok fd F, hm, F.kp, hb fd F⟩
theorem gm_mk {x q : Str} {s : Stmt} {C f : Addr} (h : ∃ fd, FnS K x q s f fd) (hb : ∀ fd, FnS K x q s f fd → Binds K fd ps []) (hm : Meth K C x f) (ok : ∀ fd, FnS K x q s f fd → FnOk P w K mg base (L2.CX P w) k f fd ps sp) : GM P w K mg base C x k ps sp := by
  obtain ⟨fd, F⟩ := h
  exact ⟨f, fd, ok fd F, hm, hb fd F⟩
theorem gc_mk {c x q : Str} {s : Stmt} {C f : Addr} (h : ∃ fd, FnS K x q s f fd) (hb : ∀ fd, FnS K x q s f fd → Binds K fd ps []) (hm : Mk K C f) (hg : mg c = some (.ref C)) (ok : ∀ fd, FnS K x q s f fd → FnOk P w K mg base (L2.CX P w) k f fd ps sp) : GC P w K mg base c C k ps sp := by
  obtain ⟨fd, F⟩ := h
  exact ⟨f, fd, ok fd F, hm, hg, hb fd F⟩
theorem gk_mk {x q : Str} {s : Stmt} {C f p1 : Addr} (h : ∃ fd, FnS K x q s f fd) (hb : ∀ fd, FnS K x q s f fd → Binds K fd ps []) (hr : ClX.CRead K C (.type "type")) (hc : ClX.CMet K C (.type "type") x p1 f) (ok : ∀ fd, FnS K x q s f fd → FnOk P w K mg base (L2.CX P w) k f fd ps sp) : GK P w K mg base C x k ps sp := by
  obtain ⟨fd, F⟩ := h
  exact ⟨f, fd, p1, ok fd F, hr, hc, hb fd F⟩
theorem XI.binds {C f : Addr} {fd : FuncData} {F : NF} (W : XI P K mg C f fd F) (h0 : fd.defaults = .none)
    (hb : ∀ (kV doc pm : Value) (an : Option Addr) (ct : Value) (us : List Value), us.length = ps.length → bindArgs (PySem.W.fnX F.name F.qual F.params F.body F.scope F.cl .none kV doc pm an (.ref F.c) ct) ⟨us, []⟩ = pure (ps.zip us)) : Binds K fd ps [] := by
  obtain ⟨dV, kV, doc, pm, an, ct, rfl⟩ := W.eq
  have e : dV = .none := h0
  subst e
  exact .all (hb kV doc pm an ct)
theorem ge_mk {x : Str} {C f : Addr} {fd : FuncData} (ok : FnOk P w K mg base (L2.CX P w) k f fd ps sp) (T : OexC K C) (iC : PySem.W.findIn K (.ref C) "__init__" = some (some (.ref f))) (tI : PySem.W.typeIn K (.ref f) = some (.type "function")) (hm : mg x = some (.ref C)) (hb : Binds K fd ps []) : GE P w K mg base x C k ps sp := ⟨f, fd, ok, T, iC, tI, hm, hb⟩
theorem def_ok {D : Type} {As : D → List BP} {out : D → Out} {N : List Str} {x q : Str} {s : Stmt} {f : Addr} {fd : FuncData} (F : FnS K x q s f fd) (Sc : FnScope N ps (defScope s)) (Gs : D → Hp → Gm)
    (hb : ∀ (cdv : Value) (A : Around) (outer : List Env) (s' : Shared) (H S : Hp) (Q : VK) (E : XK) (d : D), Room k (A.deeper (envOfC q (defScope s) s'.heap.objs.size f cdv)) → N.Nodup → (out d).thn S H Q E →
      SJ (cxOf (L2.CX P w) P w K mg base N q (defScope s) f cdv A outer s' H E) ⟨S, H, .yes⟩ (Gs d H) [] (defBody s) { nx := fun _ H' => Q .non H', rt := Q })
    (hl : ∀ d, (As d).length = ps.length := by intro _; rfl) (hG : ∀ d H, gm0 N (As d) H = Gs d H := by intro _ _; rfl) : FnOk P w K mg base (L2.CX P w) (k + 1) f fd ps (spD As out) :=
  fun_ok F Sc hl fun cdv A outer s' H S Q E d hr q => by
    rw [hG d H]
    exact hb cdv A outer s' H S Q E d hr Sc.nd q
end
end OT
namespace OT
open PySem PySem.SeqAt PyProof.Rows L2
open AutoSeq1 (wpAny_loadPart')
open MeetsSeq MeetsSeq2 MeetsSeq3 SeqRoads2
section
variable {prog : Program} {w : World} {A : Around} {R : Result → Shared → Prop} {E : Value → Shared → Prop}
def Two (prog : Program) (w : World) (A : Around) (E : Value → Shared → Prop) (l b : Addr) (N : Nat) (e : Nat → Bool) (I : Shared → Prop) : Prop :=
  ∀ s, I s → ∃ (items items2 : Array Value) (n n2 : Nat) (dd dd2 : Option Addr) (sl sl2 : Array (Option Value)), s.heap.get? l = some { cls := .type "list", dict := dd, data := .seq items n, slots := sl } ∧ s.heap.get? b = some { cls := .type "list", dict := dd2, data := .seq items2 n2, slots := sl2 } ∧ items.size = N ∧ items2.size = N ∧
    ∀ i (h1 : i < items.size) (h2 : i < items2.size), wpAny (model prog w) A.in1 (eqBool items[i] items2[i]) (fun r s' => r = e i ∧ I s') E s
theorem drop_range {N i : Nat} (h : i < N) : (List.range N).drop i = i :: (List.range N).drop (i + 1) := by simp [List.drop_eq_getElem_cons, h]
theorem eq_loopB (l b : Addr) (N : Nat) (e : Nat → Bool) (I : Shared → Prop) (hl : Two prog w A (fun e s' => R (.error e) s') l b N e I) (k : Nat) :
    ∀ i : Nat, N - i = k → i ≤ N → (∀ s, I s → R (.ok (.ret (.bool (((List.range N).drop i).all e)))) s) → ∀ s, I s →
      wpAny (model prog w) A.in1 (Builtin.«list.__eq__.loop» ⟨[.ref l, .ref b, rawInt i, rawInt 2], []⟩) (GQ.FinOf prog w A R) (fun e s' => R (.error e) s') s := by
  induction k with
  | zero =>
    intro i hk hi fin s h
    obtain ⟨items, items2, n, n2, dd, dd2, sl, sl2, hl1, hb1, hs1, hs2, _⟩ := hl _ h
    have hR := fin s h
    have hd : (List.range N).drop i = [] := by simp; omega
    rw [hd] at hR
    obtain ⟨hp, g, d, tk, os⟩ := s
    wp_walk using wpAny_loadPart' hl1, wpAny_loadPart' hb1
    have hi1 : items[((i : Nat) : Int).toNat]? = none := by simp; omega
    have hi2 : items2[((i : Nat) : Int).toNat]? = none := by simp; omega
    rw [hi1, hi2]
    wp_walk using wpAny_loadPart' hl1, wpAny_loadPart' hb1
    show R (.ok (.ret (.bool (items.size == items2.size)))) _
    rw [hs1, hs2]
    simpa using hR
  | succ k ih =>
    intro i hk hi fin s h
    obtain ⟨items, items2, n, n2, dd, dd2, sl, sl2, hl1, hb1, hs1, hs2, turn⟩ := hl _ h
    have hlt : i < items.size := by omega
    have hlt2 : i < items2.size := by omega
    have ht := turn i hlt hlt2
    obtain ⟨hp, g, d, tk, os⟩ := s
    wp_walk using wpAny_loadPart' hl1, wpAny_loadPart' hb1
    have hi1 : items[((i : Nat) : Int).toNat]? = some items[i] := by simp [hlt]
    have hi2 : items2[((i : Nat) : Int).toNat]? = some items2[i] := by simp [hlt2]
    have hc : ((i : Int) + 1) = ((i + 1 : Nat) : Int) := by omega
    rw [hi1, hi2]
    refine wpAny_bind (wpAny_mono ht (fun r s2 h2 => ?_) fun _ _ x => x)
    obtain ⟨hr, h2⟩ := h2
    subst hr
    have hdr := drop_range (N := N) (i := i) (by omega)
    cases he : e i with
    | true =>
      have hrec := ih (i + 1) (by omega) (by omega) (fun s hs => by
        have := fin s hs
        rw [hdr, List.all_cons, he] at this
        simpa using this) s2 h2
      obtain ⟨hp2, g2, d2, tk2, os2⟩ := s2
      wp_walk
      rw [hc]
      exact ⟨plainId_quiet plain_eq_loop _, codeAny_builtin entry_eq_loop (by
        rw [Around.under_plainId plain_eq_loop _]
        exact hrec)⟩
    | false =>
      have hR := fin s2 h2
      rw [hdr, List.all_cons, he] at hR
      obtain ⟨items, items2, n, n2, dd, dd2, sl, sl2, hl1, hb1, hs1, hs2, _⟩ := hl _ h2
      have hlt : i < items.size := by omega
      have hlt2 : i < items2.size := by omega
      have hi1 : items[((i : Nat) : Int).toNat]? = some items[i] := by simp [hlt]
      have hi2 : items2[((i : Nat) : Int).toNat]? = some items2[i] := by simp [hlt2]
      obtain ⟨hp2, g2, d2, tk2, os2⟩ := s2
      wp_walk using wpAny_loadPart' hl1, wpAny_loadPart' hb1
      rw [hi1, hi2]
      wp_walk
      simpa using hR
theorem ne_loopB (l b : Addr) (N : Nat) (e : Nat → Bool) (I : Shared → Prop) (hl : Two prog w A (fun e s' => R (.error e) s') l b N e I) (k : Nat) :
    ∀ i : Nat, N - i = k → i ≤ N → (∀ s, I s → R (.ok (.ret (.bool (!((List.range N).drop i).all e)))) s) → ∀ s, I s →
      wpAny (model prog w) A.in1 (Builtin.«list.__eq__.loop» ⟨[.ref l, .ref b, rawInt i, rawInt 3], []⟩) (GQ.FinOf prog w A R) (fun e s' => R (.error e) s') s := by
  induction k with
  | zero =>
    intro i hk hi fin s h
    obtain ⟨items, items2, n, n2, dd, dd2, sl, sl2, hl1, hb1, hs1, hs2, _⟩ := hl _ h
    have hR := fin s h
    have hd : (List.range N).drop i = [] := by simp; omega
    rw [hd] at hR
    obtain ⟨hp, g, d, tk, os⟩ := s
    wp_walk using wpAny_loadPart' hl1, wpAny_loadPart' hb1
    have hi1 : items[((i : Nat) : Int).toNat]? = none := by simp; omega
    have hi2 : items2[((i : Nat) : Int).toNat]? = none := by simp; omega
    rw [hi1, hi2]
    wp_walk using wpAny_loadPart' hl1, wpAny_loadPart' hb1
    show R (.ok (.ret (.bool (items.size != items2.size)))) _
    rw [hs1, hs2]
    simpa using hR
  | succ k ih =>
    intro i hk hi fin s h
    obtain ⟨items, items2, n, n2, dd, dd2, sl, sl2, hl1, hb1, hs1, hs2, turn⟩ := hl _ h
    have hlt : i < items.size := by omega
    have hlt2 : i < items2.size := by omega
    have ht := turn i hlt hlt2
    obtain ⟨hp, g, d, tk, os⟩ := s
    wp_walk using wpAny_loadPart' hl1, wpAny_loadPart' hb1
    have hi1 : items[((i : Nat) : Int).toNat]? = some items[i] := by simp [hlt]
    have hi2 : items2[((i : Nat) : Int).toNat]? = some items2[i] := by simp [hlt2]
    have hc : ((i : Int) + 1) = ((i + 1 : Nat) : Int) := by omega
    rw [hi1, hi2]
    refine wpAny_bind (wpAny_mono ht (fun r s2 h2 => ?_) fun _ _ x => x)
    obtain ⟨hr, h2⟩ := h2
    subst hr
    have hdr := drop_range (N := N) (i := i) (by omega)
    cases he : e i with
    | true =>
      have hrec := ih (i + 1) (by omega) (by omega) (fun s hs => by
        have := fin s hs
        rw [hdr, List.all_cons, he] at this
        simpa using this) s2 h2
      obtain ⟨hp2, g2, d2, tk2, os2⟩ := s2
      wp_walk
      rw [hc]
      exact ⟨plainId_quiet plain_eq_loop _, codeAny_builtin entry_eq_loop (by
        rw [Around.under_plainId plain_eq_loop _]
        exact hrec)⟩
    | false =>
      have hR := fin s2 h2
      rw [hdr, List.all_cons, he] at hR
      obtain ⟨items, items2, n, n2, dd, dd2, sl, sl2, hl1, hb1, hs1, hs2, _⟩ := hl _ h2
      have hlt : i < items.size := by omega
      have hlt2 : i < items2.size := by omega
      have hi1 : items[((i : Nat) : Int).toNat]? = some items[i] := by simp [hlt]
      have hi2 : items2[((i : Nat) : Int).toNat]? = some items2[i] := by simp [hlt2]
      obtain ⟨hp2, g2, d2, tk2, os2⟩ := s2
      wp_walk using wpAny_loadPart' hl1, wpAny_loadPart' hb1
      rw [hi1, hi2]
      wp_walk
      simpa using hR
theorem list_eqB (l b : Addr) (N : Nat) (e : Nat → Bool) (I : Shared → Prop) (hl : Two prog w A (fun e s' => R (.error e) s') l b N e I) (fin : ∀ s, I s → R (.ok (.ret (.bool ((List.range N).all e)))) s) {s : Shared} (h : I s) :
    wpAny (model prog w) A.in1 (Builtin.«list.__eq__» ⟨[.ref l, .ref b], []⟩) (GQ.FinOf prog w A R) (fun e s' => R (.error e) s') s := by
  obtain ⟨items, items2, n, n2, dd, dd2, sl, sl2, hl1, hb1, hs1, hs2, _⟩ := hl _ h
  have hrec := eq_loopB (A := A) (R := R) l b N e I hl _ 0 rfl (Nat.zero_le _) (by simpa using fin) s h
  obtain ⟨hp, g, d, tk, os⟩ := s
  have f3 := AutoSeq1.sub_list_list
  have hne : ¬ (items.size != items2.size) = true := by simp [hs1, hs2]
  wp_walk using wpAny_loadPart' hl1, wpAny_loadPart' hb1
  exact ⟨plainId_quiet plain_eq_loop _, codeAny_builtin entry_eq_loop (by
    rw [Around.under_plainId plain_eq_loop _]
    exact hrec)⟩
theorem list_neB (l b : Addr) (N : Nat) (e : Nat → Bool) (I : Shared → Prop) (hl : Two prog w A (fun e s' => R (.error e) s') l b N e I) (fin : ∀ s, I s → R (.ok (.ret (.bool (!(List.range N).all e)))) s) {s : Shared} (h : I s) :
    wpAny (model prog w) A.in1 (Builtin.«list.__ne__» ⟨[.ref l, .ref b], []⟩) (GQ.FinOf prog w A R) (fun e s' => R (.error e) s') s := by
  obtain ⟨items, items2, n, n2, dd, dd2, sl, sl2, hl1, hb1, hs1, hs2, _⟩ := hl _ h
  have hrec := ne_loopB (A := A) (R := R) l b N e I hl _ 0 rfl (Nat.zero_le _) (by simpa using fin) s h
  obtain ⟨hp, g, d, tk, os⟩ := s
  have f3 := AutoSeq1.sub_list_list
  have hne : ¬ (items.size != items2.size) = true := by simp [hs1, hs2]
  wp_walk using wpAny_loadPart' hl1, wpAny_loadPart' hb1
  exact ⟨plainId_quiet plain_eq_loop _, codeAny_builtin entry_eq_loop (by
    rw [Around.under_plainId plain_eq_loop _]
    exact hrec)⟩
def One (prog : Program) (w : World) (A : Around) (E : Value → Shared → Prop) (l : Addr) (x : Value) (N : Nat) (e : Nat → Bool) (I : Shared → Prop) : Prop :=
  ∀ s, I s → ∃ (items : Array Value) (n : Nat) (dd : Option Addr) (sl : Array (Option Value)), s.heap.get? l = some { cls := .type "list", dict := dd, data := .seq items n, slots := sl } ∧ items.size = N ∧
    ∀ i (h1 : i < items.size), wpAny (model prog w) A.in1 (eqBool items[i] x) (fun r s' => r = e i ∧ I s') E s
end
section
variable {X : Cx}
def EqN (X : Cx) (n : Nat) (x y : V) (b : Bool) (H : Hp) : Prop := ∀ (A : Around) (pins : List (Addr × Obj)) (s : Shared) (σ : L2.St) (H0 : Hp) (u v : Value), Ext H H0 → Sub X n A → Inv X pins σ H0 s → RelV x u → RelV y v →
  wpAny (model X.prog X.w) A (eqBool u v) (fun r s' => r = b ∧ ∃ H', Inv X pins σ H' s' ∧ Ext H0 H') X.xe s
def RcN (X : Cx) (op : CmpOp) (n : Nat) (x y : V) (b : Bool) (H : Hp) : Prop := ∀ (A : Around) (pins : List (Addr × Obj)) (s : Shared) (σ : L2.St) (H0 : Hp) (u v : Value), Ext H H0 → Sub X n A → Inv X pins σ H0 s → RelV x u → RelV y v →
  wpAny (model X.prog X.w) A (richCompare op u v) (fun r s' => r = .bool b ∧ ∃ H', Inv X pins σ H' s' ∧ Ext H0 H') X.xe s
theorem EqN.mono {n m : Nat} {x y : V} {b : Bool} {H : Hp} (h : EqN X n x y b H) (hn : n ≤ m) : EqN X m x y b H := fun A pins s σ H0 u v e sb => h A pins s σ H0 u v e (sb.mono hn)
theorem EqN.ext {n : Nat} {x y : V} {b : Bool} {H H' : Hp} (h : EqN X n x y b H) (e : Ext H H') : EqN X n x y b H' := fun A pins s σ H0 u v e2 sb => h A pins s σ H0 u v (e.trans e2) sb
theorem EqN.flat {x y : V} {H : Hp} (fx : flatV x = true) (fy : flatV y = true) : EqN X 0 x y (eqV x y) H := fun A pins s σ H0 u v _ sb I rx ry =>
  eqAt_V (A := A) (s := s) rx ry fx fy X.prog X.w X.xe _ ⟨rfl, H0, I, Ext.rfl'⟩
theorem EqN.same {a : Addr} {H : Hp} : EqN X 0 (.ref a) (.ref a) true H := fun A pins s σ H0 u v _ sb I rx ry => by
  cases rx
  cases ry
  exact SeqAt.EqAt.same (A := A) (s := s) (.ref a) X.prog X.w X.xe _ ⟨rfl, H0, I, Ext.rfl'⟩
theorem RcN.eqN {n : Nat} {a c : Addr} {b : Bool} {H : Hp} (h : RcN X .Eq n (.ref a) (.ref c) b H) (hs : a = c → b = true) : EqN X n (.ref a) (.ref c) b H := fun A pins s σ H0 u v e sb I rx ry => by
  by_cases hab : a = c
  · rw [hs hab]
    subst hab
    exact EqN.same (X := X) A pins s σ H0 u v Ext.rfl' (sb.mono (Nat.zero_le _)) I rx ry
  · cases rx
    cases ry
    refine GQ.eqBool_refG hab (wpAny_mono (h A pins s σ H0 _ _ e sb I rfl rfl) (fun r s' q => ?_) fun _ _ x => x)
    obtain ⟨hr', q⟩ := q
    exact ⟨b, hr', rfl, q⟩
theorem two_of {n : Nat} {A : Around} {l b : Addr} {xs ys : List V} {e : Nat → Bool} {H : Hp} {pins : List (Addr × Obj)} {σ : L2.St} (hl : SqL X.K H l xs) (hb : SqL X.K H b ys) (hlen : xs.length = ys.length) (sb : Sub X (n + 1) A)
    (h : ∀ i x y, xs[i]? = some x → ys[i]? = some y → EqN X n x y (e i) H) : Two X.prog X.w A X.xe l b xs.length e (fun s => ∃ H1, Inv X pins σ H1 s ∧ Ext H H1) := by
  rintro s ⟨H1, I1, e1⟩
  obtain ⟨its, r, ⟨o, k, g, c, d, dt⟩, z⟩ := I1.list (hl.ext e1)
  obtain ⟨its2, r2, ⟨o2, k2, g2, c2, d2, dt2⟩, z2⟩ := I1.list (hb.ext e1)
  obtain ⟨oc, od, odt, osl⟩ := o
  obtain ⟨oc2, od2, odt2, osl2⟩ := o2
  dsimp only at c d dt c2 d2 dt2
  subst c d dt c2 d2 dt2
  refine ⟨its.toArray, its2.toArray, k, k2, _, _, osl, osl2, g, g2, by rw [List.size_toArray, ← r.length], by rw [List.size_toArray, ← r2.length, hlen], fun i h1 h2 => ?_⟩
  have g1 : its[i]? = some its.toArray[i] := by
    have h1' : i < its.length := by simpa using h1
    rw [List.getElem?_eq_getElem h1'] <;> simp
  have g2 : its2[i]? = some its2.toArray[i] := by
    have h2' : i < its2.length := by simpa using h2
    rw [List.getElem?_eq_getElem h2'] <;> simp
  have k1 : i < xs.length := by rw [r.length]; simpa using h1
  have k2 : i < ys.length := by rw [r2.length]; simpa using h2
  obtain ⟨u, hu, ru⟩ := r.get (List.getElem?_eq_getElem k1)
  obtain ⟨v, hv, rv⟩ := r2.get (List.getElem?_eq_getElem k2)
  rw [g1] at hu
  rw [g2] at hv
  rw [Option.some.inj hu, Option.some.inj hv]
  refine wpAny_mono (h i _ _ (List.getElem?_eq_getElem k1) (List.getElem?_eq_getElem k2) A.in1 pins s σ H1 u v e1 sb.in1 I1 ru rv) (fun r s2 q => ?_) fun _ _ x => x
  obtain ⟨hr, H2, I2, e2⟩ := q
  exact ⟨hr, H2, I2, e1.trans e2⟩
theorem plainL_typ {s : Shared} {a : Addr} {its : Array Value} (h : PlainL s.heap a its) : s.TypeIs (.ref a) "list" := by
  obtain ⟨o, k, g, c, _⟩ := h
  exact ⟨o, g, c⟩
theorem RcN.listEq {n : Nat} {l b : Addr} {xs ys : List V} {e : Nat → Bool} {H : Hp} (hl : SqL X.K H l xs) (hb : SqL X.K H b ys) (hlen : xs.length = ys.length) (h : ∀ i x y, xs[i]? = some x → ys[i]? = some y → EqN X n x y (e i) H) :
    RcN X .Eq (n + 1) (.ref l) (.ref b) ((List.range xs.length).all e) H := fun A pins s σ H0 u v e0 sb I rx ry => by
  cases rx
  cases ry
  obtain ⟨_, _, p1, _⟩ := I.list (hl.ext e0)
  obtain ⟨_, _, p2, _⟩ := I.list (hb.ext e0)
  refine wpAny_richCompare_same_room (op := .Eq) (plainL_typ p1) (plainL_typ p2) F.slot_list_eq (GQ.call_here F.slot_list_eq (plainL_typ p1) F.entry_list_eq (F.args_list_eq_2 _ _) ?_) sb.room.units0
  exact list_eqB (R := wants (fun v s' => v ≠ .notImplemented ∧ v = .bool ((List.range xs.length).all e) ∧ ∃ H', Inv X pins σ H' s' ∧ Ext H0 H') X.xe) l b xs.length e (fun s => ∃ H1, Inv X pins σ H1 s ∧ Ext H0 H1) (two_of (hl.ext e0) (hb.ext e0) hlen sb fun i x y h1 h2 => (h i x y h1 h2).ext e0) (fun s' q => ⟨(fun x => nomatch x), rfl, q⟩) ⟨H0, I, Ext.rfl'⟩
theorem RcN.listNe {n : Nat} {l b : Addr} {xs ys : List V} {e : Nat → Bool} {H : Hp} (hl : SqL X.K H l xs) (hb : SqL X.K H b ys) (hlen : xs.length = ys.length) (h : ∀ i x y, xs[i]? = some x → ys[i]? = some y → EqN X n x y (e i) H) :
    RcN X .NotEq (n + 1) (.ref l) (.ref b) (!(List.range xs.length).all e) H := fun A pins s σ H0 u v e0 sb I rx ry => by
  cases rx
  cases ry
  obtain ⟨_, _, p1, _⟩ := I.list (hl.ext e0)
  obtain ⟨_, _, p2, _⟩ := I.list (hb.ext e0)
  refine wpAny_richCompare_same_room (op := .NotEq) (plainL_typ p1) (plainL_typ p2) F.slot_list_ne (GQ.call_here F.slot_list_ne (plainL_typ p1) F.entry_list_ne (F.args_list_ne_2 _ _) ?_) sb.room.units0
  exact list_neB (R := wants (fun v s' => v ≠ .notImplemented ∧ v = .bool (!(List.range xs.length).all e) ∧ ∃ H', Inv X pins σ H' s' ∧ Ext H0 H') X.xe) l b xs.length e (fun s => ∃ H1, Inv X pins σ H1 s ∧ Ext H0 H1) (two_of (hl.ext e0) (hb.ext e0) hlen sb fun i x y h1 h2 => (h i x y h1 h2).ext e0) (fun s' q => ⟨(fun x => nomatch x), rfl, q⟩) ⟨H0, I, Ext.rfl'⟩
theorem RcN.listEqL {l b : Addr} {xs ys : List V} {H : Hp} (hl : SqL X.K H l xs) (hb : SqL X.K H b ys) (hlen : xs.length ≠ ys.length) : RcN X .Eq 1 (.ref l) (.ref b) false H := fun A pins s σ H0 u v e0 sb I rx ry => by
  cases rx
  cases ry
  obtain ⟨its, r, p1, _⟩ := I.list (hl.ext e0)
  obtain ⟨its2, r2, p2, _⟩ := I.list (hb.ext e0)
  exact RcAt.lists_lengths p1.isList p2.isList (by rw [List.size_toArray, List.size_toArray, ← r.length, ← r2.length]; simpa using hlen) sb.room.units0 X.prog X.w X.xe _ ⟨rfl, H0, I, Ext.rfl'⟩
theorem RcN.listNeL {l b : Addr} {xs ys : List V} {H : Hp} (hl : SqL X.K H l xs) (hb : SqL X.K H b ys) (hlen : xs.length ≠ ys.length) : RcN X .NotEq 1 (.ref l) (.ref b) true H := fun A pins s σ H0 u v e0 sb I rx ry => by
  cases rx
  cases ry
  obtain ⟨its, r, p1, _⟩ := I.list (hl.ext e0)
  obtain ⟨its2, r2, p2, _⟩ := I.list (hb.ext e0)
  exact RcNeAt.lists_lengths p1.isList p2.isList (by rw [List.size_toArray, List.size_toArray, ← r.length, ← r2.length]; simpa using hlen) sb.room.units0 X.prog X.w X.xe _ ⟨rfl, H0, I, Ext.rfl'⟩
def rInN (X : Cx) (n : Nat) (neg : Bool) : R2 := fun x y H Q => ∃ l xs e, y = .ref l ∧ SqL X.K H l xs ∧ (∀ i z, xs[i]? = some z → EqN X n z x (e i) H) ∧ ∀ H', Ext H H' → Q (.bl (neg.xor ((List.range xs.length).any e))) H'
def rRcN (X : Cx) (op : CmpOp) (n : Nat) : R2 := fun x y H Q => ∃ b, RcN X op n x y b H ∧ ∀ H', Ext H H' → Q (.bl b) H'
theorem op_neN {n : Nat} (hr : Room n X.A) : OpR X (compareOp .NotEq) (rRcN X .NotEq n) := by
  intro pins s σ H x y v u Q I rx ry hq
  obtain ⟨b, h, q⟩ := hq
  show wpAny (model X.prog X.w) X.A (richCompare .NotEq v u) (EP X pins σ Q) X.xe s
  refine wpAny_mono (h X.A pins s σ H v u Ext.rfl' ⟨hr, rfl⟩ I rx ry) (fun r s' z => ?_) fun _ _ x => x
  obtain ⟨rfl, H', I', e⟩ := z
  exact ⟨.bl b, H', I', rfl, q H' e⟩
end
end OT
namespace OT
open PySem PySem.Spec PyProof.Rows L2 NdefX
theorem Stp.ext {S H H' : Hp} (sm : Same S H) (e : Ext H H') : Stp S H S H' := ⟨Same.refl _, sm.trans e, e, fun _ h _ => h⟩
def EqM (X : Cx) (n : Nat) (R1 R2 : BP) (b : Bool) : Prop := ∀ S H x y, Same S H → R1.R S H x → R2.R S H y → EqN X n x y b H
def RcM (X : Cx) (op : CmpOp) (n : Nat) (R1 R2 : BP) (b : Bool) : Prop := ∀ S H x y, Same S H → R1.R S H x → R2.R S H y → RcN X op n x y b H
theorem EqM.mono {X : Cx} {n m : Nat} {R1 R2 : BP} {b : Bool} (h : EqM X n R1 R2 b) (hn : n ≤ m) : EqM X m R1 R2 b := fun S H x y sm h1 h2 => (h S H x y sm h1 h2).mono hn
theorem eqm_val {X : Cx} {v w : V} (fv : flatV v = true) (fw : flatV w = true) : EqM X 0 (tV v).b (tV w).b (eqV v w) := fun S H x y sm h1 h2 => by
  cases h1
  cases h2
  exact EqN.flat fv fw
theorem RcM.eqM {X : Cx} {n : Nat} {R1 R2 : BP} {b : Bool} (h : RcM X .Eq n R1 R2 b) (hr : ∀ S H x, R1.R S H x → ∃ a, x = .ref a) (hr2 : ∀ S H x, R2.R S H x → ∃ a, x = .ref a) (hs : ∀ S H x, Same S H → R1.R S H x → R2.R S H x → b = true) : EqM X n R1 R2 b := fun S H x y sm h1 h2 => by
  obtain ⟨a, rfl⟩ := hr S H x h1
  obtain ⟨c, rfl⟩ := hr2 S H y h2
  exact (h S H _ _ sm h1 h2).eqN fun e => by
    subst e
    exact hs S H _ sm h1 h2
section
variable {X : Cx} {B : Bs} {Γ : Gm} {O : Om} {e a b c o l : Expr} {es : List Expr} {p pos pos' apos : Pos} {R R' R1 R2 : BP} {D : Ends} {rest body els : List Stmt} {x m f : Str} {Rs Qs : List MP} {n : Nat} {kk : Bool}
theorem AllM.nth {S : Hp} {vs : List V} {i : Nat} {v : V} (h : AllM Rs S vs) (hv : vs[i]? = some v) : i < Rs.length ∧ (nth Rs i).R S v := by
  obtain ⟨R, h1, h2⟩ := h.got hv
  have hl : i < Rs.length := by
    rcases Nat.lt_or_ge i Rs.length with z | z
    · exact z
    · rw [List.getElem?_eq_none z] at h1; cases h1
  refine ⟨hl, ?_⟩
  rw [nth_get hl] at h1
  cases h1
  exact h2
theorem rcm_lst (k : Nat → Bool) (hl : Rs.length = Qs.length) (h : ∀ i, i < Rs.length → EqM X n (nth Rs i).b (nth Qs i).b (k i)) : RcM X .Eq (n + 1) (bL X.K Rs) (bL X.K Qs) ((List.range Rs.length).all k) := fun S H x y sm ⟨a, vs, e1, h1, h2⟩ ⟨b, ws, e2, g1, g2⟩ => by
  subst e1 e2
  rw [← h2.length]
  exact RcN.listEq (SqL.of h1) (SqL.of g1) (by rw [h2.length, g2.length, hl]) fun i x y hx hy => h i (h2.nth hx).1 S H x y sm (h2.nth hx).2 (g2.nth hy).2
theorem rcm_lstL (hl : Rs.length ≠ Qs.length) : RcM X .Eq 1 (bL X.K Rs) (bL X.K Qs) false := fun S H x y sm ⟨a, vs, e1, h1, h2⟩ ⟨b, ws, e2, g1, g2⟩ => by
  subst e1 e2
  exact RcN.listEqL (SqL.of h1) (SqL.of g1) (by rw [h2.length, g2.length]; exact hl)
theorem RcN.mono {op : CmpOp} {n m : Nat} {x y : V} {b : Bool} {H : Hp} (h : RcN X op n x y b H) (hn : n ≤ m) : RcN X op m x y b H := fun A pins s σ H0 u v e sb => h A pins s σ H0 u v e (sb.mono hn)
theorem RcM.mono {op : CmpOp} {m : Nat} (h : RcM X op n R1 R2 kk) (hn : n ≤ m) : RcM X op m R1 R2 kk := fun S H x y sm h1 h2 => (h S H x y sm h1 h2).mono hn
def Enc {α : Type} [DecidableEq α] (X : Cx) (n : Nat) (f : α → MP) : Prop := ∀ x y, EqM X n (f x).b (f y).b (decide (x = y))
theorem enc_int : Enc X 0 tI := fun x y S H v w sm h1 h2 => by
  have := eqm_val (X := X) (v := .int x) (w := .int y) rfl rfl S H v w sm h1 h2
  have e : eqV (.int x) (.int y) = decide (x = y) := by
    show (x == y) = _
    by_cases h : x = y <;> simp [h]
  rw [e] at this
  exact this
theorem nth_map {α : Type} {f : α → MP} {xs : List α} {i : Nat} (h : i < xs.length) : nth (xs.map f) i = f xs[i] := by unfold nth; simp [List.getD, h]
theorem all_eq {α : Type} [DecidableEq α] (xs ys : List α) (hl : xs.length = ys.length) : ((List.range xs.length).all fun i => decide (xs[i]? = ys[i]?)) = decide (xs = ys) := by
  rw [Bool.eq_iff_iff, List.all_eq_true]
  simp only [decide_eq_true_eq, List.mem_range]
  constructor
  · intro h
    apply List.ext_getElem?
    intro i
    rcases Nat.lt_or_ge i xs.length with z | z
    · exact h i z
    · rw [List.getElem?_eq_none z, List.getElem?_eq_none (hl ▸ z)]
  · rintro rfl i _
    rfl
theorem Enc.lst {α : Type} [DecidableEq α] {g : α → MP} (h : Enc X n g) (xs ys : List α) : RcM X .Eq (n + 1) (bL X.K (xs.map g)) (bL X.K (ys.map g)) (decide (xs = ys)) := by
  by_cases hl : xs.length = ys.length
  · have := rcm_lst (X := X) (Rs := xs.map g) (Qs := ys.map g) (n := n) (fun i => decide (xs[i]? = ys[i]?)) (by simpa using hl) (fun i hi => by
      have hi : i < xs.length := by simpa using hi
      have hj : i < ys.length := hl ▸ hi
      rw [nth_map hi, nth_map hj, List.getElem?_eq_getElem hi, List.getElem?_eq_getElem hj]
      have e := h xs[i] ys[i]
      simpa using e)
    rw [List.length_map, all_eq xs ys hl] at this
    exact this
  · have e : decide (xs = ys) = false := decide_eq_false fun z => hl (by rw [z])
    rw [e]
    exact (rcm_lstL (by simpa using hl)).mono (Nat.le_add_left _ _)
structure InsT (K : PySem.W.Frag) (C : Addr) : Prop where
  cl : Cls K C
  ha : PySem.W.findIn K (.ref C) "__class__" = some (some (.builtin "object.__class__"))
  hn : PySem.W.specialIn K (.builtin "object.__class__") "__get__" = some (some (.builtin "getset_descriptor.__get__"))
  htk : PySem.W.takesIn K (.builtin "object.__class__") = some true
  hm : PySem.W.mroIn K C (.type "object") = some true
theorem InsT.ty {K : PySem.W.Frag} {C : Addr} {Ra : List (Str × MP)} (h : InsT K C) : ∀ S H v, Same S H → (tO C Ra).b.R S H v → TyX K H v (.ref C) := fun S H v sm r => by
  obtain ⟨a, dx, fs, rfl, hp⟩ := tO.at_ r sm
  exact .base (.ins hp h.cl h.ha h.hn h.htk h.hm)
theorem s_setix {i j : Nat} {q : Addr} {nm : Str} {R : MP} {Rs' : List MP} {O' : Om} {k : Int} {p1 p2 : Pos} {ix : Expr} (he : EJ X B Γ ((q, mL Rs) :: O') e R.b) (hi : EJ X B Γ ((q, mL Rs) :: O') ix (bI k)) (h : SJ X B Γ ((q, mL Rs') :: O') rest D)
    (hj : ixN Rs.length k = some j) (hR : Rs.set j R = Rs') (hG : Γ[i]? = some (some (tR q)) := by rfl) (hN : X.N[i]? = some nm := by rfl)
    (hv : Vis X.env.scope nm := by first | exact Or.inl rfl | exact Or.inr (Or.inl rfl) | exact Or.inr (Or.inr rfl)) (hd : (nm == ("__debug__" : Str)) = false := by decide) (hcd : (nm == ("__classdict__" : Str)) = false := by decide)
    (hs : swapsWithSole [.Subscript (.Name nm p1) ix p2] e pos.line X.env = pure false := by rfl) (hw : swappedStores [.Subscript (.Name nm p1) ix p2] e X.env = pure none := by rfl)
    (h1 : (assignEach [.Subscript (.Name nm p1) ix p2] X.env).map (·.2) = [assign (.Subscript (.Name nm p1) ix p2) X.env] := by rfl)
    (ha : ∀ v, assign (.Subscript (.Name nm p1) ix p2) X.env v = (do
      let ov ← holding [v] (eval (.Name nm p1) X.env)
      let iv ← holding [v, ov] (eval ix X.env)
      standAt p2
      holding [v, ov, iv] (setItem ov iv v)
      release [v, ov, iv] []) := by intro _; rfl) : SJ X B Γ ((q, mL Rs) :: O') (.Assign [.Subscript (.Name nm p1) ix p2] e pos :: rest) D :=
  SJ.cons fun S H σ st => ⟨_, ps_asg pe_w (pg_sub (pe_var hN hv hd hcd) pe_w set_list ha) hs hw h1, he S H σ st _ fun v S1 H1 s1 r1 => by
    have t := st.step s1
    obtain ⟨w, h1, h2⟩ := t.slot i _ hG
    cases h2
    refine ⟨_, h1, hi S1 H1 σ t _ fun u S2 H2 s2 r2 => ?_⟩
    cases r2
    have t2 := t.step s2
    obtain ⟨_, _, o, h3, vs, rfl, h4⟩ := t2.own _ List.mem_cons_self
    refine ⟨q, vs, k, j, rfl, rfl, h3, by rw [h4.length]; exact hj, h S2 _ σ (t2.mut ⟨_, rfl, ?_⟩)⟩
    rw [← hR]
    exact h4.set j (R.up s2.s r1)⟩
end
structure Stm (p : Addr) (M : MO) (S H S' H' : Hp) : Prop where
  s : Same S S'
  i : Same S' H'
  h : ∀ a o, a ≠ p → H a = some o → H' a = some o
  fr : ∀ a, S a = none → H a ≠ none → S' a = none
  o : ∃ o, H' p = some o ∧ M.R S' o
def spM {D ι : Type} (M : MO) (As : D → List BP) (Pm : D → ι → Prop) (Rm : D → ι → MP) : Sp := fun vs H Q _ => ∃ d p S ws, vs = .ref p :: ws ∧ Same S H ∧ S p = none ∧ (∃ o, H p = some o ∧ M.R S o) ∧ AllR (As d) S (del H p) ws ∧
  ∀ i v S' H', Pm d i → Stm p M S H S' H' → (Rm d i).R S' v → Q v H'
section
variable {P : Program} {w : World} {K : PySem.W.Frag} {mg : Str → Option Value} {base : Heap} {k : Nat} {ps : List Str}
end
section
variable {X : Cx} {B : Bs} {Γ : Gm} {O : Om} {e a b c o l : Expr} {es : List Expr} {p pos pos' apos p1 : Pos} {D : Ends} {rest body els : List Stmt} {x nm : Str} {k : Nat} {ps : List Str} {W : WX} {Ix ι : Type} {M : MO} {As : Ix → List BP} {Pm : Ix → ι → Prop} {Rm : Ix → ι → MP}
theorem SJ.openO {ι : Type} {M : MO} {Ms : ι → MO} {q : Addr} (hM : ∀ S o, M.R S o → ∃ i, (Ms i).R S o) (h : ∀ i, SJ X B Γ ((q, Ms i) :: O) body D) : SJ X B Γ ((q, M) :: O) body D := fun S H σ t => by
  obtain ⟨g1, g2, o, g3, g4⟩ := t.own _ List.mem_cons_self
  obtain ⟨i, hi⟩ := hM S o g4
  refine h i S H σ ⟨t.st, t.slot, t.len, fun z hz => ?_, t.nd, t.gh⟩
  rcases List.mem_cons.mp hz with e | hz
  · subst e; exact ⟨g1, g2, o, g3, hi⟩
  · exact t.own z (List.mem_cons_of_mem _ hz)
theorem Stt.closeO {M M' : MO} {q : Addr} {S H : Hp} {σ : L2.St} (t : Stt B Γ ((q, M) :: O) S H σ) (hM : ∀ S o, M.R S o → M'.R S o) : Stt B Γ ((q, M') :: O) S H σ := by
  refine ⟨t.st, t.slot, t.len, fun z hz => ?_, t.nd, t.gh⟩
  rcases List.mem_cons.mp hz with e | hz
  · subst e
    obtain ⟨g1, g2, o, g3, g4⟩ := t.own _ List.mem_cons_self
    exact ⟨g1, g2, o, g3, hM _ _ g4⟩
  · exact t.own z (List.mem_cons_of_mem _ hz)
end
end OT
namespace OT
open PySem PySem.Spec PyProof.Rows L2 NdefX
section
variable {X : Cx} {CX : CXT} {k n : Nat} {f C : Addr} {fd : FuncData} {ps : List Str} {sp : Sp} {E : XK}
def flatTy : V → Option String
  | .non => some "NoneType"
  | .bl _ => some "bool"
  | .int _ => some "int"
  | .str _ => some "str"
  | _ => none
end
section
variable {X : Cx} {B : Bs} {Γ : Gm} {O : Om} {e a b c o : Expr} {es : List Expr} {p pos pos' apos : Pos} {R R' : BP} {Ds : Ends} {rest body els : List Stmt} {x m f : Str} {C : Addr} {k : Nat} {ps : List Str} {W : WX} {D : Type} {As : D → List BP} {out : D → Out}
end
end OT
namespace OT
open PySem
open PySem.Builtin.Int (intBits)
theorem abs_ite (i : Int) : (if i < 0 then -i else i) = (i.natAbs : Int) := by split <;> omega
theorem fmod_nat (x y : Nat) : (x : Int).fmod (y : Int) = ((x % y : Nat) : Int) := by
  rw [Int.fmod_eq_emod_of_nonneg _ (Int.natCast_nonneg y)]
  exact (Int.natCast_emod x y).symm
theorem gcd_step (x y : Nat) : Nat.gcd y (x % y) = Nat.gcd x y := by
  rw [Nat.gcd_comm y, ← Nat.gcd_rec, Nat.gcd_comm]
theorem log2_lt_of_bits {i : Int} {n : Nat} (h : intBits i ≤ n) (hn : 0 < n) : i.natAbs.log2 < n := by
  unfold Builtin.Int.intBits at h
  by_cases hi : i = 0
  · subst hi; simpa using hn
  · rw [if_neg (by simpa using hi)] at h; omega
def gs (a b : Int) : Int := if b < 0 then -(Int.gcd a b : Int) else Int.gcd a b
theorem gcd_pos {a b : Int} (hb : b ≠ 0) : 0 < Int.gcd a b := Int.gcd_pos_of_ne_zero_right a hb
theorem gs_ne {a b : Int} (hb : b ≠ 0) : gs a b ≠ 0 := by
  have := gcd_pos (a := a) hb
  unfold gs
  split <;> omega
theorem gs_dvd_l (a b : Int) : gs a b ∣ a := by
  unfold gs
  split
  · exact Int.neg_dvd.mpr (Int.gcd_dvd_left _ _)
  · exact Int.gcd_dvd_left _ _
theorem gs_dvd_r (a b : Int) : gs a b ∣ b := by
  unfold gs
  split
  · exact Int.neg_dvd.mpr (Int.gcd_dvd_right _ _)
  · exact Int.gcd_dvd_right _ _
theorem top_ok {a b : Int} (hb : b ≠ 0) : a.fdiv (gs a b) = (Rat.divInt a b).num := by
  rw [Int.fdiv_eq_ediv_of_dvd (gs_dvd_l a b), Rat.num_divInt, Int.gcd_comm]
  unfold gs
  have g := Int.gcd_comm a b
  rcases Int.lt_trichotomy b 0 with h | h | h
  · rw [if_pos h, Int.sign_eq_neg_one_of_neg h, g, Int.ediv_neg, Int.neg_mul, Int.one_mul, Int.neg_ediv_of_dvd (Int.gcd_dvd_right b a)]
  · exact absurd h hb
  · rw [if_neg (by omega), Int.sign_eq_one_of_pos h, g, Int.one_mul]
theorem bot_ok {a b : Int} (hb : b ≠ 0) : b.fdiv (gs a b) = ((Rat.divInt a b).den : Int) := by
  rw [Int.fdiv_eq_ediv_of_dvd (gs_dvd_r a b), Rat.den_divInt, if_neg hb]
  unfold gs
  have g := Int.gcd_comm a b
  rcases Int.lt_trichotomy b 0 with h | h | h
  · rw [if_pos h, g, Int.ediv_neg, ← Int.neg_ediv_of_dvd (Int.gcd_dvd_left b a), Int.natCast_ediv]
    congr 1
    omega
  · exact absurd h hb
  · rw [if_neg (by omega), g, Int.natCast_ediv]
    congr 1
    omega
theorem bits_gs {a b : Int} {n : Nat} (hb : b ≠ 0) (h : intBits b ≤ n) : intBits (gs a b) ≤ n := by
  refine intBits_le_of_natAbs ?_ h
  have h2 : (gs a b).natAbs ∣ b.natAbs := Int.natAbs_dvd_natAbs.mpr (gs_dvd_r a b)
  exact Nat.le_of_dvd (by omega) h2
def Fit (n : Nat) (q : Rat) : Prop := intBits q.num ≤ n ∧ intBits (q.den : Int) ≤ n
theorem fit_divInt {a b : Int} {n : Nat} (hb : b ≠ 0) (h1 : intBits a ≤ n) (h2 : intBits b ≤ n) : Fit n (Rat.divInt a b) := by
  refine ⟨?_, ?_⟩
  · rw [← top_ok hb]; exact intBits_fdiv_le h1
  · rw [← bot_ok hb]; exact intBits_fdiv_le h2
theorem den_ne (q : Rat) : (q.den : Int) ≠ 0 := by have := q.den_pos; omega
theorem rat_add (q r : Rat) : Rat.divInt (q.num * r.den + r.num * q.den) (q.den * r.den) = q + r := by
  have := Rat.divInt_add_divInt q.num r.num (den_ne q) (den_ne r)
  rw [Rat.num_divInt_den, Rat.num_divInt_den] at this
  exact this.symm
theorem rat_sub (q r : Rat) : Rat.divInt (q.num * r.den - r.num * q.den) (q.den * r.den) = q - r := by
  have := Rat.divInt_sub_divInt q.num r.num (den_ne q) (den_ne r)
  rw [Rat.num_divInt_den, Rat.num_divInt_den] at this
  exact this.symm
theorem rat_neg (q : Rat) : Rat.divInt (-q.num) q.den = -q := by
  have := Rat.neg_divInt q.num q.den
  rw [Rat.num_divInt_den] at this
  exact this.symm
theorem den_mul_ne (q r : Rat) : (q.den : Int) * r.den ≠ 0 := Int.mul_ne_zero (den_ne q) (den_ne r)
theorem Fit.neg {n : Nat} {q : Rat} (h : Fit n q) : Fit n (-q) := by
  rw [← rat_neg]
  exact fit_divInt (den_ne q) (intBits_neg_le h.1) h.2
theorem mulOk {a b : Int} {m n : Nat} (ha : intBits a ≤ m) (hb : intBits b ≤ n) (h : m + n ≤ 134217728 := by omega) : IntMulOk a b := IntMulOk.of_le ha hb h
end OT
namespace OT
open PySem PySem.Spec PyProof.Rows L2 NdefX
section
variable {X : Cx} {B : Bs} {Γ : Gm} {O O' : Om} {e a b c o l : Expr} {es : List Expr} {p pos pos' apos : Pos} {R R' : BP} {D : Ends} {rest body els : List Stmt} {x m f : Str}
theorem s_retNew {M : MO} (he : NJ X B Γ O e M) (h : ∀ p o S H, Stp B.S B.H S H → B.H p = none → S p = none → H p = some o → M.R S o → D.rt (.ref p) H) : SJ X B Γ O (.Return (some e) pos :: rest) D :=
  SJ.cons fun S H σ st => ⟨_, ps_ret pe_w, he S H σ st _ fun p o S1 H1 s1 n1 n2 h1 h2 => h p o S1 H1 (st.st.trans s1) (st.st.h.free n1) n2 h1 h2⟩
theorem NJ.imp {M M' : MO} (h : NJ X B Γ O e M) (i : ∀ S o, M.R S o → M'.R S o) : NJ X B Γ O e M' := fun S H σ st Q q => h S H σ st Q fun p o S1 H1 s1 n1 n2 h1 h2 => q p o S1 H1 s1 n1 n2 h1 (i _ _ h2)
theorem Stt.sub_ {S H : Hp} {σ : L2.St} (t : Stt B Γ O S H σ) (h : ∀ q ∈ O', q ∈ O) (hn : (O'.map (·.1)).Nodup) : Stt B Γ O' S H σ := ⟨t.st, t.slot, t.len, fun q hq => t.own q (h q hq), hn, t.gh⟩
def blkB (N : List Str) (sc scope : Scope) (own : List (Str × Nat)) : Bool :=
  decide (scope.kind = .function) && (scope.names.all (fun y => decide (scope.names.lookup y.1 = some y.2)) && (own.all (fun q => decide (N[q.2]? = some q.1)) &&
  (scope.names.all (fun y => !decide (y.2 = .free) || (decide (sc.names.lookup y.1 = some .cell) || decide (sc.names.lookup y.1 = some .free))) &&
  scope.names.all (fun y => !(decide (y.2 = .local) || decide (y.2 = .cell)) || (decide (y.1 ∈ own.map (·.1)) || !decide (y.1 ∈ N))))))
theorem blk_by {N : List Str} {sc scope : Scope} {own : List (Str × Nat)} (h : blkB N sc scope own = true) : BlkOk N sc scope own := by
  unfold blkB at h
  simp only [Bool.and_eq_true, decide_eq_true_eq, List.all_eq_true, Bool.or_eq_true, Bool.not_eq_true', decide_eq_false_iff_not] at h
  obtain ⟨h1, h2, h3, h4, h5⟩ := h
  refine ⟨h1, h2, h3, fun y hy e => (h4 y hy).resolve_left (fun z => z e), fun y hy e => ?_⟩
  rcases h5 y hy with z | z
  · exact absurd e (by
      rw [Bool.or_eq_false_iff, decide_eq_false_iff_not, decide_eq_false_iff_not] at z
      exact fun e => e.elim z.1 z.2)
  · exact z
def noneAt (G : Gm) (vs : List Nat) : Bool := vs.all fun v => match G[v]? with
  | some (some _) => false
  | _ => true
theorem noneAt_ok {G : Gm} {vs : List Nat} (h : noneAt G vs = true) : ∀ v ∈ vs, ∀ R, G[v]? ≠ some (some R) := fun v hv R e => by
  have := List.all_eq_true.mp h v hv
  rw [e] at this
  cases this
theorem tk_no {X : Cx} : Takes X (fun _ _ _ _ => False) := fun u s' ⟨a, B, sI, pins, σ, H, cls, d, e, I, nb, up, sky, na, os, ag, w⟩ => w.elim
structure CJ (X : Cx) (B : Bs) (Γ : Gm) (O : Om) (ex : Expr) (k : Bool) : Prop where
  e : EJ X B Γ O ex (bB k)
  t : TJ X B Γ O ex k
section
variable {n : Nat} {kk : Bool} {R1 R2 : BP} {Rs : List MP} {C : Addr} {k : Nat} {ps : List Str} {Dt : Type} {As : Dt → List BP} {out : Dt → Out}
end
end
end OT
namespace OT
open PySem PySem.Spec PyProof.Rows L2 NdefX
section
variable {X : Cx} {B : Bs} {Γ : Gm} {O O' : Om} {e a b c o l : Expr} {es : List Expr} {p p2 pos pos' apos : Pos} {R R' : BP} {D : Ends} {rest body els : List Stmt} {x m f : Str} {Rs Qs : List MP}
def OJ (X : Cx) (B : Bs) (Γ : Gm) (O : Om) (oe : Option Expr) (v : Option Int) : Prop := ∀ S H σ, Stt B Γ O S H σ → ∀ Q : Option Int → Hp → Prop, (∀ S' H', Stp S H S' H' → Q v H') → ∃ t, PO X oe t ∧ t σ H Q
def cut {α : Type} (xs : List α) (lo hi : Option Int) : List α := (xs.drop (HT.sIx xs.length 0 lo)).take (HT.sIx xs.length xs.length hi - HT.sIx xs.length 0 lo)
theorem AllM.take : ∀ {Rs : List MP} {S : Hp} {vs : List V} (n : Nat), AllM Rs S vs → AllM (Rs.take n) S (vs.take n)
  | _, _, _, 0, h => trivial
  | [], _, [], _ + 1, _ => trivial
  | [], _, _ :: _, _ + 1, h => h.elim
  | _ :: _, _, [], _ + 1, h => h.elim
  | _ :: Rs, _, _ :: vs, n + 1, h => ⟨h.1, AllM.take (Rs := Rs) (vs := vs) n h.2⟩
def signs (z : Str) : List MP := z.cps.toList.map fun c => tS ⟨#[c]⟩
end
end OT
namespace OT
open PySem PySem.Spec PyProof.Rows L2 NdefX
section
variable {α : Type}
def vget (kvs : List (Key × α)) (k : Key) : Option α := (kvs.find? fun kv => decide (kv.1 = k)).map (·.2)
def vput (kvs : List (Key × α)) (k : Key) (v : α) : List (Key × α) := if (kvs.any fun kv => decide (kv.1 = k)) = true then kvs.map (fun kv => if kv.1 = k then (kv.1, v) else kv) else kvs ++ [(k, v)]
end
def KvM : List (Key × MP) → Hp → List (Key × V) → Prop
  | [], _, [] => True
  | (k, R) :: Rs, S, (j, v) :: vs => k = j ∧ R.R S v ∧ KvM Rs S vs
  | _, _, _ => False
theorem KvM.up : ∀ {Rs : List (Key × MP)} {S S' : Hp} {vs : List (Key × V)}, Same S S' → KvM Rs S vs → KvM Rs S' vs
  | [], _, _, [], _, _ => trivial
  | [], _, _, _ :: _, _, h => h.elim
  | _ :: _, _, _, [], _, h => h.elim
  | (_, R) :: Rs, _, _, (_, v) :: vs, e, h => ⟨h.1, R.up e h.2.1, KvM.up e h.2.2⟩
theorem KvM.get : ∀ {Rs : List (Key × MP)} {S : Hp} {vs : List (Key × V)} {k : Key}, KvM Rs S vs → match vget Rs k with
    | some R => ∃ v, valV vs k = some v ∧ R.R S v
    | none => valV vs k = none
  | [], _, [], _, _ => rfl
  | [], _, _ :: _, _, h => h.elim
  | _ :: _, _, [], _, h => h.elim
  | (j, R) :: Rs, S, (j', v) :: vs, k, h => by
    obtain ⟨rfl, h1, h2⟩ := h
    by_cases e : j = k
    · have e1 : vget ((j, R) :: Rs) k = some R := by simp [vget, List.find?_cons, e]
      rw [e1, valV_pos e]
      exact ⟨v, rfl, h1⟩
    · have e1 : vget ((j, R) :: Rs) k = vget Rs k := by simp [vget, List.find?_cons, e]
      rw [e1, valV_neg e]
      exact KvM.get h2
theorem KvM.some {Rs : List (Key × MP)} {S : Hp} {vs : List (Key × V)} {k : Key} {R : MP} (h : KvM Rs S vs) (e : vget Rs k = .some R) : ∃ v, valV vs k = .some v ∧ R.R S v := by
  have := h.get (k := k)
  rw [e] at this
  exact this
theorem KvM.isSome {Rs : List (Key × MP)} {S : Hp} {vs : List (Key × V)} {k : Key} (h : KvM Rs S vs) : (valV vs k).isSome = (vget Rs k).isSome := by
  have := h.get (k := k)
  cases e : vget Rs k with
  | none => rw [e] at this; rw [this] <;> rfl
  | some R => rw [e] at this; obtain ⟨v, h1, _⟩ := this; rw [h1] <;> rfl
def mD (Rs : List (Key × MP)) : MO := ⟨fun S o => ∃ vs, o = .dK vs ∧ KvM Rs S vs, fun e ⟨vs, h1, h2⟩ => ⟨vs, h1, h2.up e⟩⟩
def tD (Rs : List (Key × MP)) : MP := ⟨fun S v => ∃ a od vs, v = .ref a ∧ S a = some (.frz od (.dK vs)) ∧ KvM Rs S vs, fun e ⟨a, od, vs, h1, h2, h3⟩ => ⟨a, od, vs, h1, e _ _ h2, h3.up e⟩⟩
def bD (Rs : List (Key × MP)) : BP := ⟨fun S H v => ∃ a vs, v = .ref a ∧ Rd H a (.dK vs) ∧ KvM Rs S vs, fun e e' ⟨a, vs, h1, h2, h3⟩ => ⟨a, vs, h1, h2.elim (fun h => .inl (e' _ _ h)) (fun ⟨o, h⟩ => .inr ⟨o, e' _ _ h⟩), h3.up e⟩⟩
section
variable {X : Cx} {B : Bs} {Γ : Gm} {O O' : Om} {e a b c o l : Expr} {es : List Expr} {p p2 pos pos' apos : Pos} {R R' : BP} {D : Ends} {rest body els : List Stmt} {x m f : Str} {Rs : List (Key × MP)} {k : Key}
def dcol (k : Nat → Bool) (kf : Nat → Key) (R : Nat → MP) : Nat → List (Key × MP)
  | 0 => []
  | n + 1 => if k n = true then vput (dcol k kf R n) (kf n) (R n) else dcol k kf R n
end
end OT
namespace OT
open PySem PySem.SeqAt PyProof.Rows L2
open AutoSeq1 (wpAny_loadPart')
open MeetsSeq MeetsSeq2 MeetsSeq3 SeqRoads2
section
variable {prog : Program} {w : World} {A : Around} {R : Result → Shared → Prop} {E : Value → Shared → Prop}
theorem tuple_eqB (l b : Addr) (items items2 : Array Value) (n n2 : Nat) (dd dd2 : Option Addr) (sl sl2 : Array (Option Value)) (e : Nat → Bool) (I : Shared → Prop)
    (turn : ∀ i (h1 : i < items.size) (h2 : i < items2.size) s, I s → wpAny (model prog w) A.in1 (eqBool items[i] items2[i]) (fun r s' => r = e i ∧ I s') (fun e s' => R (.error e) s') s)
    (fin : ∀ s, I s → R (.ok (.ret (.bool ((List.range (min items.size items2.size)).all e && items.size == items2.size)))) s) {s : Shared} (hl1 : s.heap.get? l = some { cls := .type "tuple", dict := dd, data := .seq items n, slots := sl }) (hb1 : s.heap.get? b = some { cls := .type "tuple", dict := dd2, data := .seq items2 n2, slots := sl2 }) (h : I s) :
    wpAny (model prog w) A.in1 (Builtin.«tuple.__eq__» ⟨[.ref l, .ref b], []⟩) (GQ.FinOf prog w A R) (fun e s' => R (.error e) s') s := by
  have f2 := AutoSeq1.sub_tuple_tuple
  have hZ : (items.toList.zip items2.toList).length = min items.size items2.size := by simp
  have h0 := h
  obtain ⟨hp, g, d, tk, os⟩ := s
  wp_walk using wpAny_loadPart' hl1, wpAny_loadPart' hb1, wpAny_forIn_list _ (fun rest b s' => b.1 = none ∧ I s' ∧ ∃ i, rest = (items.toList.zip items2.toList).drop i ∧ ∀ s, I s → R (.ok (.ret (.bool (((List.range (min items.size items2.size)).drop i).all e && items.size == items2.size)))) s) _
  case turn =>
    rintro ⟨y, x⟩ rest b s' ⟨hb', hI, i, hz, hR⟩
    have hlt : i < (items.toList.zip items2.toList).length := by
      rcases Nat.lt_or_ge i (items.toList.zip items2.toList).length with h' | h'
      · exact h'
      · rw [List.drop_of_length_le h'] at hz; cases hz
    have hm : i < min items.size items2.size := hZ ▸ hlt
    have h1 : i < items.size := Nat.lt_of_lt_of_le hm (Nat.min_le_left _ _)
    have h2 : i < items2.size := Nat.lt_of_lt_of_le hm (Nat.min_le_right _ _)
    rw [List.drop_eq_getElem_cons hlt] at hz
    injection hz with hyx hrest
    have hy : y = items[i] := by have := congrArg Prod.fst hyx; simpa using this
    have hx : x = items2[i] := by have := congrArg Prod.snd hyx; simpa using this
    subst hy hx
    have hd : (List.range (min items.size items2.size)).drop i = i :: (List.range (min items.size items2.size)).drop (i + 1) := drop_range hm
    rw [hd, List.all_cons] at hR
    refine wpAny_bind (wpAny_mono (turn i h1 h2 s' hI) (fun r s2 q2 => ?_) fun _ _ x => x)
    obtain ⟨hr, q2⟩ := q2
    subst hr
    cases hy : e i with
    | true =>
      rw [hy] at hR
      wp_walk
      exact ⟨rfl, q2, i + 1, hrest, by simpa using hR⟩
    | false =>
      rw [hy] at hR
      wp_walk
      simpa using hR s2 q2
  case fin =>
    rintro ⟨b1, b2⟩ s' ⟨hb', hI, i, hz, hR⟩
    simp only at hb'
    subst hb'
    have hge : min items.size items2.size ≤ i := by
      rcases Nat.lt_or_ge i (items.toList.zip items2.toList).length with h' | h'
      · rw [List.drop_eq_getElem_cons h'] at hz; cases hz
      · exact hZ ▸ h'
    rw [List.drop_of_length_le (by simpa using hge)] at hR
    wp_walk
    simpa [Builtin.Tuple.tupleCompareSizes] using hR s' hI
  case h =>
    exact ⟨rfl, h0, 0, rfl, by simpa using fin⟩
theorem tuple_neB (l b : Addr) (items items2 : Array Value) (n n2 : Nat) (dd dd2 : Option Addr) (sl sl2 : Array (Option Value)) (e : Nat → Bool) (I : Shared → Prop)
    (turn : ∀ i (h1 : i < items.size) (h2 : i < items2.size) s, I s → wpAny (model prog w) A.in1 (eqBool items[i] items2[i]) (fun r s' => r = e i ∧ I s') (fun e s' => R (.error e) s') s)
    (fin : ∀ s, I s → R (.ok (.ret (.bool (!((List.range (min items.size items2.size)).all e && items.size == items2.size))))) s) {s : Shared} (hl1 : s.heap.get? l = some { cls := .type "tuple", dict := dd, data := .seq items n, slots := sl }) (hb1 : s.heap.get? b = some { cls := .type "tuple", dict := dd2, data := .seq items2 n2, slots := sl2 }) (h : I s) :
    wpAny (model prog w) A.in1 (Builtin.«tuple.__ne__» ⟨[.ref l, .ref b], []⟩) (GQ.FinOf prog w A R) (fun e s' => R (.error e) s') s := by
  have f2 := AutoSeq1.sub_tuple_tuple
  have hZ : (items.toList.zip items2.toList).length = min items.size items2.size := by simp
  have h0 := h
  obtain ⟨hp, g, d, tk, os⟩ := s
  wp_walk using wpAny_loadPart' hl1, wpAny_loadPart' hb1, wpAny_forIn_list _ (fun rest b s' => b.1 = none ∧ I s' ∧ ∃ i, rest = (items.toList.zip items2.toList).drop i ∧ ∀ s, I s → R (.ok (.ret (.bool (!(((List.range (min items.size items2.size)).drop i).all e && items.size == items2.size))))) s) _
  case turn =>
    rintro ⟨y, x⟩ rest b s' ⟨hb', hI, i, hz, hR⟩
    have hlt : i < (items.toList.zip items2.toList).length := by
      rcases Nat.lt_or_ge i (items.toList.zip items2.toList).length with h' | h'
      · exact h'
      · rw [List.drop_of_length_le h'] at hz; cases hz
    have hm : i < min items.size items2.size := hZ ▸ hlt
    have h1 : i < items.size := Nat.lt_of_lt_of_le hm (Nat.min_le_left _ _)
    have h2 : i < items2.size := Nat.lt_of_lt_of_le hm (Nat.min_le_right _ _)
    rw [List.drop_eq_getElem_cons hlt] at hz
    injection hz with hyx hrest
    have hy : y = items[i] := by have := congrArg Prod.fst hyx; simpa using this
    have hx : x = items2[i] := by have := congrArg Prod.snd hyx; simpa using this
    subst hy hx
    have hd : (List.range (min items.size items2.size)).drop i = i :: (List.range (min items.size items2.size)).drop (i + 1) := drop_range hm
    rw [hd, List.all_cons] at hR
    refine wpAny_bind (wpAny_mono (turn i h1 h2 s' hI) (fun r s2 q2 => ?_) fun _ _ x => x)
    obtain ⟨hr, q2⟩ := q2
    subst hr
    cases hy : e i with
    | true =>
      rw [hy] at hR
      wp_walk
      exact ⟨rfl, q2, i + 1, hrest, by simpa using hR⟩
    | false =>
      rw [hy] at hR
      wp_walk
      simpa using hR s2 q2
  case fin =>
    rintro ⟨b1, b2⟩ s' ⟨hb', hI, i, hz, hR⟩
    simp only at hb'
    subst hb'
    have hge : min items.size items2.size ≤ i := by
      rcases Nat.lt_or_ge i (items.toList.zip items2.toList).length with h' | h'
      · rw [List.drop_eq_getElem_cons h'] at hz; cases hz
      · exact hZ ▸ h'
    rw [List.drop_of_length_le (by simpa using hge)] at hR
    wp_walk
    simpa [Builtin.Tuple.tupleCompareSizes, bne] using hR s' hI
  case h =>
    exact ⟨rfl, h0, 0, rfl, by simpa using fin⟩
end
section
variable {X : Cx}
theorem RcN.tupEq {n : Nat} {l b : Addr} {xs ys : List V} {e : Nat → Bool} {H : Hp} (hl : SqT X.K H l xs) (hb : SqT X.K H b ys) (h : ∀ i x y, xs[i]? = some x → ys[i]? = some y → EqN X n x y (e i) H) :
    RcN X .Eq (n + 1) (.ref l) (.ref b) (((List.range (min xs.length ys.length)).all e && xs.length == ys.length)) H := fun A pins s σ H0 u v e0 sb I rx ry => by
  cases rx
  cases ry
  obtain ⟨its, r, p1, _⟩ := I.tuple (SqT.ext hl e0)
  obtain ⟨its2, r2, p2, _⟩ := I.tuple (SqT.ext hb e0)
  have lx : xs.length = its.toArray.size := by rw [List.size_toArray, ← r.length]
  have ly : ys.length = its2.toArray.size := by rw [List.size_toArray, ← r2.length]
  have tt1 := p1.typeIs
  have tt2 := p2.typeIs
  obtain ⟨⟨cls, dd, data, sl⟩, ho, hc, k, hd⟩ := p1
  obtain ⟨⟨cls2, dd2, data2, sl2⟩, ho2, hc2, k2, hd2⟩ := p2
  dsimp only at hc hd hc2 hd2
  subst hc hd hc2 hd2
  refine wpAny_richCompare_same_room (op := .Eq) tt1 tt2 F.slot_tuple_eq (GQ.call_here F.slot_tuple_eq tt1 F.entry_tuple_eq (F.args_tuple_eq_2 _ _) ?_) sb.room.units0
  refine tuple_eqB (R := wants (fun v s' => v ≠ .notImplemented ∧ v = .bool (((List.range (min xs.length ys.length)).all e && xs.length == ys.length)) ∧ ∃ H', Inv X pins σ H' s' ∧ Ext H0 H') X.xe) l b its.toArray its2.toArray k k2 dd dd2 sl sl2 e (fun s => ∃ H1, Inv X pins σ H1 s ∧ Ext H0 H1) ?_ (fun s' q => ⟨(fun x => nomatch x), by rw [lx, ly], q⟩) ho ho2 ⟨H0, I, Ext.rfl'⟩
  rintro i h1 h2 s' ⟨H1, I1, e1⟩
  have g1 : its[i]? = some its.toArray[i] := by
    have h1' : i < its.length := by simpa using h1
    rw [List.getElem?_eq_getElem h1'] <;> simp
  have g2 : its2[i]? = some its2.toArray[i] := by
    have h2' : i < its2.length := by simpa using h2
    rw [List.getElem?_eq_getElem h2'] <;> simp
  have k1 : i < xs.length := by rw [lx]; exact h1
  have k2 : i < ys.length := by rw [ly]; exact h2
  obtain ⟨u, hu, ru⟩ := r.get (List.getElem?_eq_getElem k1)
  obtain ⟨v, hv, rv⟩ := r2.get (List.getElem?_eq_getElem k2)
  rw [g1] at hu
  rw [g2] at hv
  rw [Option.some.inj hu, Option.some.inj hv]
  refine wpAny_mono (h i _ _ (List.getElem?_eq_getElem k1) (List.getElem?_eq_getElem k2) A.in1 pins s' σ H1 u v (e0.trans e1) sb.in1 I1 ru rv) (fun r s2 q => ?_) fun _ _ x => x
  obtain ⟨hr, H2, I2, e2⟩ := q
  exact ⟨hr, H2, I2, e1.trans e2⟩
theorem RcN.tupNe {n : Nat} {l b : Addr} {xs ys : List V} {e : Nat → Bool} {H : Hp} (hl : SqT X.K H l xs) (hb : SqT X.K H b ys) (h : ∀ i x y, xs[i]? = some x → ys[i]? = some y → EqN X n x y (e i) H) :
    RcN X .NotEq (n + 1) (.ref l) (.ref b) (!((List.range (min xs.length ys.length)).all e && xs.length == ys.length)) H := fun A pins s σ H0 u v e0 sb I rx ry => by
  cases rx
  cases ry
  obtain ⟨its, r, p1, _⟩ := I.tuple (SqT.ext hl e0)
  obtain ⟨its2, r2, p2, _⟩ := I.tuple (SqT.ext hb e0)
  have lx : xs.length = its.toArray.size := by rw [List.size_toArray, ← r.length]
  have ly : ys.length = its2.toArray.size := by rw [List.size_toArray, ← r2.length]
  have tt1 := p1.typeIs
  have tt2 := p2.typeIs
  obtain ⟨⟨cls, dd, data, sl⟩, ho, hc, k, hd⟩ := p1
  obtain ⟨⟨cls2, dd2, data2, sl2⟩, ho2, hc2, k2, hd2⟩ := p2
  dsimp only at hc hd hc2 hd2
  subst hc hd hc2 hd2
  refine wpAny_richCompare_same_room (op := .NotEq) tt1 tt2 F.slot_tuple_ne (GQ.call_here F.slot_tuple_ne tt1 F.entry_tuple_ne (F.args_tuple_ne_2 _ _) ?_) sb.room.units0
  refine tuple_neB (R := wants (fun v s' => v ≠ .notImplemented ∧ v = .bool (!((List.range (min xs.length ys.length)).all e && xs.length == ys.length)) ∧ ∃ H', Inv X pins σ H' s' ∧ Ext H0 H') X.xe) l b its.toArray its2.toArray k k2 dd dd2 sl sl2 e (fun s => ∃ H1, Inv X pins σ H1 s ∧ Ext H0 H1) ?_ (fun s' q => ⟨(fun x => nomatch x), by rw [lx, ly], q⟩) ho ho2 ⟨H0, I, Ext.rfl'⟩
  rintro i h1 h2 s' ⟨H1, I1, e1⟩
  have g1 : its[i]? = some its.toArray[i] := by
    have h1' : i < its.length := by simpa using h1
    rw [List.getElem?_eq_getElem h1'] <;> simp
  have g2 : its2[i]? = some its2.toArray[i] := by
    have h2' : i < its2.length := by simpa using h2
    rw [List.getElem?_eq_getElem h2'] <;> simp
  have k1 : i < xs.length := by rw [lx]; exact h1
  have k2 : i < ys.length := by rw [ly]; exact h2
  obtain ⟨u, hu, ru⟩ := r.get (List.getElem?_eq_getElem k1)
  obtain ⟨v, hv, rv⟩ := r2.get (List.getElem?_eq_getElem k2)
  rw [g1] at hu
  rw [g2] at hv
  rw [Option.some.inj hu, Option.some.inj hv]
  refine wpAny_mono (h i _ _ (List.getElem?_eq_getElem k1) (List.getElem?_eq_getElem k2) A.in1 pins s' σ H1 u v (e0.trans e1) sb.in1 I1 ru rv) (fun r s2 q => ?_) fun _ _ x => x
  obtain ⟨hr, H2, I2, e2⟩ := q
  exact ⟨hr, H2, I2, e1.trans e2⟩
end
end OT
namespace OT
open PySem PySem.Spec PyProof.Rows L2 NdefX
section
variable {X : Cx} {B : Bs} {Γ : Gm} {O O' : Om} {e a b c o l : Expr} {es : List Expr} {p p2 pos pos' apos : Pos} {R R' : BP} {D : Ends} {rest body els : List Stmt} {x m f : Str} {Rs Qs : List MP} {n : Nat}
structure En {α : Type} [DecidableEq α] (X : Cx) (n : Nat) (f : α → MP) : Prop where
  eq : Enc X n f
  inj : ∀ S v x y, (f x).R S v → (f y).R S v → x = y
theorem en_int : En X 0 tI := ⟨enc_int, fun S v x y h1 h2 => by have := (show v = .int x from h1).symm.trans h2; injection this⟩
theorem allM_inj {α : Type} {g : α → MP} (hg : ∀ S v x y, (g x).R S v → (g y).R S v → x = y) {S : Hp} : ∀ {xs ys : List α} {vs : List V}, AllM (xs.map g) S vs → AllM (ys.map g) S vs → xs = ys
  | [], [], _, _, _ => rfl
  | [], _ :: _, [], _, h => h.elim
  | [], _ :: _, _ :: _, h, _ => h.elim
  | _ :: _, [], [], h, _ => h.elim
  | _ :: _, [], _ :: _, _, h => h.elim
  | _ :: _, _ :: _, [], h, _ => h.elim
  | x :: xs, y :: ys, v :: vs, h, h' => by rw [hg S v x y h.1 h'.1, allM_inj hg h.2 h'.2]
theorem rcm_tup {op : CmpOp} (k : Nat → Bool) {b : Bool} (hrc : ∀ {l c : Addr} {xs ys : List V} {H : Hp}, SqT X.K H l xs → SqT X.K H c ys → xs.length = Rs.length → ys.length = Qs.length → (∀ i x y, xs[i]? = some x → ys[i]? = some y → EqN X n x y (k i) H) → RcN X op (n + 1) (.ref l) (.ref c) b H)
    (h : ∀ i, i < Rs.length → i < Qs.length → EqM X n (nth Rs i).b (nth Qs i).b (k i)) : RcM X op (n + 1) (tT X.K Rs).b (tT X.K Qs).b b := fun S H x y sm ⟨a, vs, e1, h1, h2⟩ ⟨c, ws, e2, g1, g2⟩ => by
  subst e1 e2
  exact hrc (SqT.of (sm _ _ h1)) (SqT.of (sm _ _ g1)) h2.length g2.length fun i x y hx hy => h i (h2.nth hx).1 (g2.nth hy).1 S H x y sm (h2.nth hx).2 (g2.nth hy).2
theorem En.lst {α : Type} [DecidableEq α] {g : α → MP} (h : En X n g) : En X (n + 1) (fun xs : List α => tL X.K (xs.map g)) where
  eq := fun xs ys => RcM.eqM (fun S H x y sm ⟨a, vs, e1, h1, h2⟩ ⟨c, ws, e2, g1, g2⟩ => Enc.lst h.eq xs ys S H x y sm ⟨a, vs, e1, sm _ _ h1, h2⟩ ⟨c, ws, e2, sm _ _ g1, g2⟩) (fun _ _ _ ⟨a, _, e, _⟩ => ⟨a, e⟩) (fun _ _ _ ⟨a, _, e, _⟩ => ⟨a, e⟩) fun S H v sm ⟨a, vs, e1, h1, h2⟩ ⟨c, ws, e2, g1, g2⟩ => by
    subst e1
    cases e2
    rw [h1] at g1
    cases g1
    exact decide_eq_true (allM_inj h.inj h2 g2)
  inj := fun S v xs ys ⟨a, vs, e1, h1, h2⟩ ⟨c, ws, e2, g1, g2⟩ => by
    subst e1
    cases e2
    rw [h1] at g1
    cases g1
    exact allM_inj h.inj h2 g2
def fPair {α β : Type} (K : PySem.W.Frag) (f : α → MP) (g : β → MP) (q : α × β) : MP := tT K [f q.1, g q.2]
theorem En.pair {α β : Type} [DecidableEq α] [DecidableEq β] {f : α → MP} {g : β → MP} {m : Nat} (h : En X n f) (h' : En X m g) : En X (max n m + 1) (fPair X.K f g) where
  eq := fun q r => by
    refine RcM.eqM (rcm_tup (Rs := [f q.1, g q.2]) (Qs := [f r.1, g r.2]) (fun i => if i = 0 then decide (q.1 = r.1) else decide (q.2 = r.2)) (fun {l c vs ws H} h1 h2 l1 l2 hh => ?_) fun i hi hj => ?_) (fun _ _ _ ⟨a, _, e, _⟩ => ⟨a, e⟩) (fun _ _ _ ⟨a, _, e, _⟩ => ⟨a, e⟩) fun S H v sm ⟨a, vs, e1, h1, h2⟩ ⟨c, ws, e2, g1, g2⟩ => ?_
    · have := RcN.tupEq h1 h2 hh
      rw [l1, l2] at this
      have e : ((List.range (min [f q.1, g q.2].length [f r.1, g r.2].length)).all (fun i => if i = 0 then decide (q.1 = r.1) else decide (q.2 = r.2)) && [f q.1, g q.2].length == [f r.1, g r.2].length) = decide (q = r) := by
        show ((decide (q.1 = r.1) && (decide (q.2 = r.2) && true)) && true) = decide (q = r)
        rw [Bool.and_true, Bool.and_true]
        by_cases e1 : q.1 = r.1 <;> by_cases e2 : q.2 = r.2 <;> simp [e1, e2, Prod.ext_iff]
      rw [e] at this
      exact this
    · have hi : i < 2 := hi
      match i, hi with
      | 0, _ => exact (h.eq q.1 r.1).mono (Nat.le_max_left _ _)
      | 1, _ => exact (h'.eq q.2 r.2).mono (Nat.le_max_right _ _)
    · subst e1
      cases e2
      rw [h1] at g1
      cases g1
      match vs, h2, g2 with
      | [u, w], h2, g2 => exact decide_eq_true (Prod.ext (h.inj S u _ _ h2.1 g2.1) (h'.inj S w _ _ h2.2.1 g2.2.1))
  inj := fun S v q r ⟨a, vs, e1, h1, h2⟩ ⟨c, ws, e2, g1, g2⟩ => by
    subst e1
    cases e2
    rw [h1] at g1
    cases g1
    match vs, h2, g2 with
    | [u, w], h2, g2 => exact Prod.ext (h.inj S u _ _ h2.1 g2.1) (h'.inj S w _ _ h2.2.1 g2.2.1)
end
end OT
namespace OT
open PySem PySem.Spec PyProof.Rows L2 NdefX
section
variable {X : Cx} {B : Bs} {Γ : Gm} {O O' : Om} {e a b c o l : Expr} {es : List Expr} {p p2 pos pos' apos : Pos} {R R' R1 : BP} {D : Ends} {rest body els : List Stmt} {x m f : Str} {C : Addr} {k : Nat} {ps : List Str} {Dt : Type} {As : Dt → List BP} {out : Dt → Out} {kk : Bool}
end
end OT
namespace OT
open PySem PySem.Spec PyProof.Rows L2 NdefX
def EX {ι : Type} (X : Cx) (B : Bs) (Γ : Gm) (O : Om) (e : Expr) (P : ι → Prop) (R : ι → MP) (Os : ι → Om) : Prop := ∀ S H σ, Stt B Γ O S H σ → ∀ Q : VK, (∀ i v S' H', P i → Stt B Γ (Os i) S' H' σ → Same S S' → (R i).R S' v → Q v H') → wE X e σ H Q
section
variable {X : Cx} {B : Bs} {Γ : Gm} {O O' : Om} {e a b c o l : Expr} {es : List Expr} {p p2 pos pos' apos p1 : Pos} {D : Ends} {rest body els : List Stmt} {x m f nm : Str} {ι κ : Type} {P : ι → Prop} {R : ι → MP} {Os : ι → Om}
end
end OT
namespace OT
open PySem PySem.Spec PyProof.Rows L2 NdefX
section
variable {X : Cx} {B : Bs} {Γ : Gm} {O O' : Om} {e a b c o l : Expr} {es elts : List Expr} {p p2 pos pos' apos tpos : Pos} {D : Ends} {rest body els : List Stmt} {x m f nm : Str} {Rs Qs : List MP} {kk : Nat}
end
end OT
namespace OT
open PySem PySem.Spec PyProof.Rows L2 NdefX
def picked2 (k : Nat → Bool) (n1 : Nat → Nat) (k1 : Nat → Nat → Bool) (R : Nat → Nat → MP) : Nat → List MP
  | 0 => []
  | n + 1 => picked2 k n1 k1 R n ++ (if k n = true then picked (k1 n) (R n) (n1 n) else [])
section
variable {X : Cx} {B : Bs} {Γ : Gm} {O O' : Om} {p pos pos' : Pos} {D : Ends}
end
end OT
namespace OT
open PySem PySem.Spec PyProof.Rows L2 NdefX
def mEx (a C : Addr) (d : Option Addr) : MO := ⟨fun _ o => o = exo a C d, fun _ h => h⟩
def mExd (d : Addr) (fs : List (Str × MP)) : MO := ⟨fun S o => ∃ ws, o = exd d ws ∧ FldR fs S ws, fun e ⟨ws, h1, h2⟩ => ⟨ws, h1, h2.up e⟩⟩
def spEx {D : Type} (C : Addr) (As : D → List BP) (ok : D → Prop) (fs : D → List (Str × MP)) : Sp := fun vs H Q _ => ∃ d a H1 ws S, ok d ∧ vs = .ref a :: ws ∧ H = upd H1 a (exo a C none) ∧ H1 a = none ∧ Same S H1 ∧ AllR (As d) S H1 ws ∧
  ∀ x us S' H', Stp S H1 S' H' → H1 x = none → x ≠ a → S' x = none → S' a = none → H' a = some (exo a C (some x)) → H' x = some (exd x us) → FldR (fs d) S' us → Q .non H'
section
variable {X : Cx} {B : Bs} {Γ : Gm} {O O' : Om} {e a b c o : Expr} {es : List Expr} {p pos pos' apos : Pos} {R : MP} {D : Ends} {rest body els : List Stmt} {x m fl nm : Str} {C q : Addr}
theorem Stt.swap {u v : Addr × MO} {S H : Hp} {σ : L2.St} (t : Stt B Γ (u :: v :: O) S H σ) : Stt B Γ (v :: u :: O) S H σ := by
  have pm : (u :: v :: O).Perm (v :: u :: O) := List.Perm.swap _ _ _
  exact t.sub_ (fun z hz => pm.mem_iff.mpr hz) ((pm.map (fun z : Addr × MO => z.1)).nodup_iff.mp t.nd)
theorem s_ost1 (T : OexC X.K C) (hno : PySem.W.findIn X.K (.ref C) fl = some none) (he : EJ X B Γ ((q, mEx q C none) :: O') e R.b) (ho : EJ X B Γ ((q, mEx q C none) :: O') o (tR q).b) (h : ∀ d, SJ X B Γ ((q, mEx q C (some d)) :: (d, mExd d [(fl, R)]) :: O') rest D)
    (hs : swapsWith e (some (.Attribute o fl pos')) pos.line X.env = pure false := by rfl) : SJ X B Γ ((q, mEx q C none) :: O') (.Assign [.Attribute o fl pos'] e pos :: rest) D :=
  SJ.cons fun S H σ st => ⟨_, ps_ost pe_w pe_w hs, he S H σ st _ fun y S1 H1 s1 r1 => ho S1 H1 σ (st.step s1) _ fun w S2 H2 s2 r2 => by
    have t := (st.step s1).step s2
    obtain ⟨g1, g2, u, g3, rfl⟩ := t.own _ List.mem_cons_self
    refine ⟨q, C, r2, T, hno, .inl ⟨g3, fun dx n1 ne => h dx S2 _ σ ?_⟩⟩
    have t1 := t.add (M := mExd dx [(fl, R)]) (o := exd dx [(fl, y)]) n1 ⟨_, rfl, rfl, R.up s2.s r1, trivial⟩
    have t2 := t1.swap
    exact t2.mut rfl⟩
end
def bAny : BP := ⟨fun _ _ _ => True, fun _ _ _ => trivial⟩
theorem EJ.any {X : Cx} {B : Bs} {Γ : Gm} {O : Om} {e : Expr} {R : BP} (h : EJ X B Γ O e R) : EJ X B Γ O e bAny := h.imp fun _ _ _ _ => trivial
theorem NX.xmade {B : Bs} {Γ : Gm} {C a x : Addr} {fs : List (Str × MP)} {Q : VK} (hQ : ∀ x us S' H', Stp B.S B.H S' H' → B.H x = none → x ≠ a → S' x = none → S' a = none → H' a = some (exo a C (some x)) → H' x = some (exd x us) → FldR fs S' us → Q .non H') :
    NX B Γ [(a, mEx a C (some x)), (x, mExd x fs)] (fun _ H' => Q .non H') := fun S H σ t => by
  obtain ⟨g1, g2, u, g3, rfl⟩ := t.own _ List.mem_cons_self
  obtain ⟨f1, f2, u2, f3, ws, rfl, f4⟩ := t.own _ (List.mem_cons_of_mem _ List.mem_cons_self)
  have ne : x ≠ a := by
    have := t.nd
    rw [List.map_cons, List.map_cons] at this
    exact fun z => (List.nodup_cons.mp this).1 (by subst z; exact List.mem_cons_self)
  exact hQ x ws S H t.st f2 ne f1 g1 g3 f3 f4
section
variable {P : Program} {w : World} {K : PySem.W.Frag} {mg : Str → Option Value} {base : Heap}
theorem xi_gen {D : Type} {C f : Addr} {fd : FuncData} {F : NF} {ps : List Str} {k : Nat} {As : D → List BP} {ok : D → Prop} {fs : D → List (Str × MP)} {arg : Expr} {rest : List Stmt} {p0 p1 apos cpos pos : Pos} {ar : Arg} (W : XI P K mg C f fd F) (Sc : NScope ("self" :: (ps ++ [("__class__" : Str)])) ("self" :: ps) ["__class__"] F.scope)
    (hB : F.body = .Expr (.Call (.Attribute (.Call (.Name "super" p0) [] [] p1) "__init__" apos) [arg] [] cpos) pos :: rest) (hp : (F.params.posonlyargs ++ F.params.args).head? = some ar) (ha : ar.arg = "self") (hks : F.scope.names.lookup ("super" : Str) = some .globalImplicit) (hl : ∀ d, (As d).length = ps.length)
    (hb : ∀ (A : Around) (outer : List Env) (s : Shared) (H0 H1 S : Hp) (Q : VK) (E : XK) (d : D) (a : Addr), Room k (A.deeper (envF F f s.heap.objs.size)) → ok d → (∀ x us S' H', Stp S H1 S' H' → H1 x = none → x ≠ a → S' x = none → S' a = none → H' a = some (exo a C (some x)) → H' x = some (exd x us) → FldR (fs d) S' us → Q .non H') →
      EJ (ncx (L2.CX P w) P w K mg base ("self" :: (ps ++ [("__class__" : Str)])) F f A outer s H0 E) ⟨S, H1, .yes⟩ (some (tR a) :: ((As d).map (fun b => some (b.at_ H1)) ++ [some (tR C)])) [(a, mEx a C none)] arg bAny ∧
      SJ (ncx (L2.CX P w) P w K mg base ("self" :: (ps ++ [("__class__" : Str)])) F f A outer s H0 E) ⟨S, H1, .yes⟩ (some (tR a) :: ((As d).map (fun b => some (b.at_ H1)) ++ [some (tR C)])) [(a, mEx a C none)] rest { nx := fun _ H' => Q .non H', rt := Q })
    (hst : ∀ env : Env, starEach [arg] env = (false, eval arg env) :: starEach [] env)
    (hsw : ∀ env : Env, swapsWith (.Call (.Attribute (.Call (.Name "super" p0) [] [] p1) "__init__" apos) [arg] [] cpos) none pos.line env = pure false)
    (he : ∀ env : Env, ∃ pl, eval (.Call (.Attribute (.Call (.Name "super" p0) [] [] p1) "__init__" apos) [arg] [] cpos) env = (do
      let ov ← attributeBase (.Call (.Name "super" p0) [] [] p1) "__init__" env (eval (.Call (.Name "super" p0) [] [] p1) env)
      standAt apos.atName
      let (f, first) ← holding [ov] (getMethod ov "__init__" pl)
      callWith cpos f first (backTo cpos (starEach [arg] env)) [])) :
    FnOk P w K mg base (L2.CX P w) (k + 1) f fd ("self" :: ps) (spEx C As ok fs) := by
  refine xi_ok (k := k) W Sc (fun vs H Q E h => ?_) hB hp ha hks (fun A outer s H vs Q E hr h => ?_) hst hsw he
  · obtain ⟨d, a, H1, ws, S, _, rfl, _, _, _, r, _⟩ := h
    rw [List.length_cons, r.length, hl, List.length_cons]
  · obtain ⟨d, a, H1, ws, S, hok, rfl, rfl, n1, sm, r, q⟩ := h
    refine ⟨a, ws, rfl, upd_same, ?_⟩
    obtain ⟨h1, h2⟩ := hb A outer s (upd H1 a (exo a C none)) H1 S Q E d a hr hok q
    have st : Stt ⟨S, H1, .yes⟩ (some (tR a) :: ((As d).map (fun b => some (b.at_ H1)) ++ [some (tR C)])) [(a, mEx a C none)] S (upd H1 a (exo a C none)) (startF ("self" :: (ps ++ [("__class__" : Str)])) (.ref a :: ws) [some (.ref C)]) := by
      have s1 := Stp.own (o := exo a C none) sm n1
      have hlen := r.length
      have e0 : startF ("self" :: (ps ++ [("__class__" : Str)])) (.ref a :: ws) [some (.ref C)] = some (.ref a) :: (ws.map some ++ [some (.ref C)]) := by
        unfold startF
        have : (("self" : Str) :: (ps ++ [("__class__" : Str)])).length - (V.ref a :: ws).length - [some (V.ref C)].length = 0 := by
          rw [List.length_cons, List.length_cons, List.length_append, hlen, hl]
          simp
        rw [this]
        rfl
      rw [e0]
      have key : ∀ {As : List BP} {ws : List V}, AllR As S H1 ws → ∀ (i : Nat) (R : MP), (As.map (fun b => some (b.at_ H1)) ++ [some (tR C)])[i]? = some (some R) → ∃ v, (ws.map some ++ [some (V.ref C)])[i]? = some (some v) ∧ R.R S v := by
        intro As
        induction As with
        | nil => intro ws h i R e; cases ws with
          | nil => cases i with
            | zero =>
              have e2 : tR C = R := Option.some.inj (Option.some.inj e)
              subst e2
              exact ⟨_, rfl, rfl⟩
            | succ i => simp at e
          | cons _ _ => exact h.elim
        | cons b As ih => intro ws h i R e; cases ws with
          | nil => exact h.elim
          | cons v ws => cases i with
            | zero =>
              have e2 : b.at_ H1 = R := Option.some.inj (Option.some.inj e)
              subst e2
              exact ⟨v, rfl, h.1⟩
            | succ i => exact ih h.2 i R e
      refine ⟨s1, fun i R e => ?_, ?_, fun z hz => ?_, by show [a].Nodup; simp, trivial⟩
      · cases i with
        | zero =>
          have e2 : tR a = R := Option.some.inj (Option.some.inj e)
          subst e2
          exact ⟨_, rfl, rfl⟩
        | succ i => exact key r i R e
      · rw [List.length_cons, List.length_cons, List.length_append, List.length_append, List.length_map, List.length_map, hlen]
        rfl
      · rcases List.mem_cons.mp hz with z1 | hz
        · subst z1
          exact ⟨sm.free n1, n1, _, upd_same, rfl⟩
        · cases hz
    refine ⟨_, pa_cons pe_w pa_nil (hst _), h1 S _ _ st _ fun v S1 H1' s1 _ => ⟨(by show 1 ≤ 1000; decide), ?_, h2 S1 H1' _ (st.step s1)⟩⟩
    obtain ⟨_, _, u, g3, rfl⟩ := (st.step s1).own _ List.mem_cons_self
    exact g3
end
section
variable {X : Cx} {B : Bs} {Γ : Gm} {O : Om} {e : Expr} {es : List Expr} {p pos pos' : Pos} {Ds : Ends} {rest : List Stmt} {x : Str} {C : Addr} {k : Nat} {ps : List Str} {W : WX} {D : Type} {As : D → List BP} {ok : D → Prop} {fs : D → List (Str × MP)}
end
end OT
namespace K62
open PySem PySem.Spec PyProof.Rows L2 OT
def top (i : Nat) : Stmt := PySem.Challenge.pw_onethrow_k62_shares_dealt.main.body.getD i (.Pass ⟨0, 0, 0, 0⟩)
abbrev s__wall : Stmt := top 0
abbrev s_common : Stmt := top 8
abbrev s_is_integer : Stmt := top 9
abbrev s_Ratio_init : Stmt := inClass (top 10) 0
abbrev s_Ratio_add : Stmt := inClass (top 10) 3
abbrev s_Ratio_sub : Stmt := inClass (top 10) 4
abbrev s_Ratio_neg : Stmt := inClass (top 10) 5
abbrev s_Ratio_mul : Stmt := inClass (top 10) 6
abbrev s_Ratio_eq : Stmt := inClass (top 10) 7
abbrev s_Ratio_bool : Stmt := inClass (top 10) 8
abbrev s_Ratio_str : Stmt := inClass (top 10) 9
abbrev s_Ratio_quotient : Stmt := inClass (top 10) 10
abbrev s_Ratio_under : Stmt := inClass (top 10) 11
abbrev s_total : Stmt := top 11
abbrev s_dealt : Stmt := top 13
abbrev s_l_cell : Stmt := top 15
abbrev s_l_pool : Stmt := top 16
abbrev s_l_take : Stmt := top 17
abbrev s_l_frac : Stmt := top 18
abbrev s_l_add : Stmt := top 19
abbrev s_l_mul : Stmt := top 20
abbrev s_l_of : Stmt := top 21
abbrev s_l_row : Stmt := top 22
abbrev s_l_sum : Stmt := top 23
abbrev s_l_scaled : Stmt := top 24
abbrev s_l_less : Stmt := top 25
abbrev s_l_due : Stmt := top 26
abbrev s_l_told : Stmt := top 27
abbrev s_law : Stmt := top 28
abbrev s_BadNumber_init : Stmt := inClass (top 3) 0
abbrev s_BadText_init : Stmt := inClass (top 4) 0
abbrev s_BadShares_init : Stmt := inClass (top 5) 0
abbrev s_Ratio_whole : Stmt := inClass (top 10) 1
abbrev s_Ratio_read : Stmt := inClass (top 10) 2
def d__wall : He.DefD := ⟨("_wall", none), "_wall", "_wall", defArgs s__wall, defBody s__wall, defScope s__wall, [], []⟩
def d_common : He.DefD := ⟨("common", none), "common", "common", defArgs s_common, defBody s_common, defScope s_common, [], []⟩
def d_is_integer : He.DefD := ⟨("is_integer", none), "is_integer", "is_integer", defArgs s_is_integer, defBody s_is_integer, defScope s_is_integer, [], []⟩
def d_Ratio_init : He.DefD := ⟨("Ratio", some "__init__"), "__init__", "Ratio.__init__", defArgs s_Ratio_init, defBody s_Ratio_init, defScope s_Ratio_init, [], []⟩
def d_Ratio_add : He.DefD := ⟨("Ratio", some "__add__"), "__add__", "Ratio.__add__", defArgs s_Ratio_add, defBody s_Ratio_add, defScope s_Ratio_add, [], []⟩
def d_Ratio_sub : He.DefD := ⟨("Ratio", some "__sub__"), "__sub__", "Ratio.__sub__", defArgs s_Ratio_sub, defBody s_Ratio_sub, defScope s_Ratio_sub, [], []⟩
def d_Ratio_neg : He.DefD := ⟨("Ratio", some "__neg__"), "__neg__", "Ratio.__neg__", defArgs s_Ratio_neg, defBody s_Ratio_neg, defScope s_Ratio_neg, [], []⟩
def d_Ratio_mul : He.DefD := ⟨("Ratio", some "__mul__"), "__mul__", "Ratio.__mul__", defArgs s_Ratio_mul, defBody s_Ratio_mul, defScope s_Ratio_mul, [], []⟩
def d_Ratio_eq : He.DefD := ⟨("Ratio", some "__eq__"), "__eq__", "Ratio.__eq__", defArgs s_Ratio_eq, defBody s_Ratio_eq, defScope s_Ratio_eq, [], []⟩
def d_Ratio_bool : He.DefD := ⟨("Ratio", some "__bool__"), "__bool__", "Ratio.__bool__", defArgs s_Ratio_bool, defBody s_Ratio_bool, defScope s_Ratio_bool, [], []⟩
def d_Ratio_str : He.DefD := ⟨("Ratio", some "__str__"), "__str__", "Ratio.__str__", defArgs s_Ratio_str, defBody s_Ratio_str, defScope s_Ratio_str, [], []⟩
def d_Ratio_quotient : He.DefD := ⟨("Ratio", some "quotient"), "quotient", "Ratio.quotient", defArgs s_Ratio_quotient, defBody s_Ratio_quotient, defScope s_Ratio_quotient, [], []⟩
def d_Ratio_under : He.DefD := ⟨("Ratio", some "under"), "under", "Ratio.under", defArgs s_Ratio_under, defBody s_Ratio_under, defScope s_Ratio_under, [], []⟩
def d_total : He.DefD := ⟨("total", none), "total", "total", defArgs s_total, defBody s_total, defScope s_total, [], []⟩
def d_dealt : He.DefD := ⟨("dealt", none), "dealt", "dealt", defArgs s_dealt, defBody s_dealt, defScope s_dealt, [], []⟩
def d_l_cell : He.DefD := ⟨("_law_cell", none), "_law_cell", "_law_cell", defArgs s_l_cell, defBody s_l_cell, defScope s_l_cell, [], []⟩
def d_l_pool : He.DefD := ⟨("_law_pool", none), "_law_pool", "_law_pool", defArgs s_l_pool, defBody s_l_pool, defScope s_l_pool, [], []⟩
def d_l_take : He.DefD := ⟨("_law_take", none), "_law_take", "_law_take", defArgs s_l_take, defBody s_l_take, defScope s_l_take, [], []⟩
def d_l_frac : He.DefD := ⟨("_law_frac", none), "_law_frac", "_law_frac", defArgs s_l_frac, defBody s_l_frac, defScope s_l_frac, [], []⟩
def d_l_add : He.DefD := ⟨("_law_add", none), "_law_add", "_law_add", defArgs s_l_add, defBody s_l_add, defScope s_l_add, [], []⟩
def d_l_mul : He.DefD := ⟨("_law_mul", none), "_law_mul", "_law_mul", defArgs s_l_mul, defBody s_l_mul, defScope s_l_mul, [], []⟩
def d_l_of : He.DefD := ⟨("_law_of", none), "_law_of", "_law_of", defArgs s_l_of, defBody s_l_of, defScope s_l_of, [], []⟩
def d_l_row : He.DefD := ⟨("_law_row", none), "_law_row", "_law_row", defArgs s_l_row, defBody s_l_row, defScope s_l_row, [], []⟩
def d_l_sum : He.DefD := ⟨("_law_sum", none), "_law_sum", "_law_sum", defArgs s_l_sum, defBody s_l_sum, defScope s_l_sum, [], []⟩
def d_l_scaled : He.DefD := ⟨("_law_scaled", none), "_law_scaled", "_law_scaled", defArgs s_l_scaled, defBody s_l_scaled, defScope s_l_scaled, [], []⟩
def d_l_less : He.DefD := ⟨("_law_less", none), "_law_less", "_law_less", defArgs s_l_less, defBody s_l_less, defScope s_l_less, [], []⟩
def d_l_due : He.DefD := ⟨("_law_due", none), "_law_due", "_law_due", defArgs s_l_due, defBody s_l_due, defScope s_l_due, [], []⟩
def d_l_told : He.DefD := ⟨("_law_told", none), "_law_told", "_law_told", defArgs s_l_told, defBody s_l_told, defScope s_l_told, [], []⟩
def d_law : He.DefD := ⟨("law", none), "law", "law", defArgs s_law, defBody s_law, defScope s_law, [], []⟩
def e_BadNumber : ErrD := ⟨"BadNumber", "BadNumber.__init__", defArgs s_BadNumber_init, defBody s_BadNumber_init, defScope s_BadNumber_init, ["n"]⟩
def e_BadText : ErrD := ⟨"BadText", "BadText.__init__", defArgs s_BadText_init, defBody s_BadText_init, defScope s_BadText_init, ["at"]⟩
def e_BadShares : ErrD := ⟨"BadShares", "BadShares.__init__", defArgs s_BadShares_init, defBody s_BadShares_init, defScope s_BadShares_init, ["total"]⟩
def c_Ratio_whole : CmD := ⟨"Ratio", "whole", "Ratio.whole", defArgs s_Ratio_whole, defBody s_Ratio_whole, defScope s_Ratio_whole⟩
def c_Ratio_read : CmD := ⟨"Ratio", "read", "Ratio.read", defArgs s_Ratio_read, defBody s_Ratio_read, defScope s_Ratio_read⟩
def fn : List He.DefD := [d_common, d_Ratio_init, d_Ratio_add, d_Ratio_sub, d_Ratio_eq, d_Ratio_bool, d_Ratio_under, d_total, d_dealt, d_l_cell, d_l_pool, d_l_take, d_l_frac, d_l_add, d_l_mul, d_l_of, d_l_row, d_l_sum, d_l_scaled, d_l_less, d_l_due, d_l_told, d_law]
def er : List ErrD := [e_BadNumber, e_BadText, e_BadShares]
def cm : List CmD := [c_Ratio_whole]
def fa : List He.Fa := [.glo "common",
  .meth "Ratio" "__add__",
  .meth "Ratio" "__sub__",
  .meth "Ratio" "__eq__",
  .meth "Ratio" "__bool__",
  .meth "Ratio" "under",
  .glo "total",
  .glo "dealt",
  .glo "_law_cell",
  .glo "_law_pool",
  .glo "_law_take",
  .glo "_law_frac",
  .glo "_law_add",
  .glo "_law_mul",
  .glo "_law_of",
  .glo "_law_row",
  .glo "_law_sum",
  .glo "_law_scaled",
  .glo "_law_less",
  .glo "_law_due",
  .glo "_law_told",
  .glo "law",
  .glo "Ratio",
  .cls "Ratio",
  .mkr "Ratio",
  .noat "Ratio" "top",
  .noat "Ratio" "bottom",
  .free "abs",
  .free "bool",
  .free "int",
  .free "isinstance",
  .free "len",
  .free "list",
  .free "max",
  .free "min",
  .free "range",
  .free "tuple",
  .exm "BadNumber" "BadShares" false,
  .exm "BadText" "BadShares" false,
  .exm "BadShares" "BadShares" true]
def ex (K : PySem.W.Frag) : Bool := PySem.W.selfFirst K (He.ga K "Ratio") && (He.eqO (PySem.W.findIn K (.ref (He.ga K "Ratio")) "__ne__") (some (some (.builtin "object.__ne__"))) && (decide (PySem.W.mroIn K (He.ga K "Ratio") (.type "object") = some true) && (He.eqO (PySem.W.findIn K (.ref (He.ga K "Ratio")) "__class__") (some (some (.builtin "object.__class__"))) && (He.eqO (PySem.W.specialIn K (.builtin "object.__class__") "__get__") (some (some (.builtin "getset_descriptor.__get__"))) && (decide (PySem.W.takesIn K (.builtin "object.__class__") = some true))))))
abbrev R : PySem.W.OpenRow := PySem.W.OpenLaw.row PySem.Challenge.rw_onethrow_k62_shares_dealt
def obsA (as : List Addr) (fa : List He.Fa) (fn : List He.DefD) (er : List ErrD) (cm : List CmD) (ex : PySem.W.Frag → Bool) (g : Addr → Option Obj) : AlO := obsO fa fn er cm ex (He.frG g as)
def hookA (as : List Addr) (fa : List He.Fa) (fn : List He.DefD) (er : List ErrD) (cm : List CmD) (ex : PySem.W.Frag → Bool) : PySem.W.Hook where
  α := AlO
  obs := fun s => obsA as fa fn er cm ex s.heap.get?
  val := fun _ => valO fn er cm
  says := fun _ h => ∃ K : PySem.W.Frag, K.In h ∧ SaysO fa fn er cm ex K
  of := fun _ _ e => ⟨_, He.frG_in, saysO_of e⟩
  keeps := fun _ _ _ ⟨K, hK, c⟩ k => ⟨K, PySem.W.Frag.In.keeps hK k, c⟩
theorem obsA_eq {as : List Addr} {fa : List He.Fa} {fn : List He.DefD} {er : List ErrD} {cm : List CmD} {ex : PySem.W.Frag → Bool} {g : Addr → Option Obj} {s : PySem.Shared} (h : ∀ a, g a = s.heap.get? a) : obsA as fa fn er cm ex g = (hookA as fa fn er cm ex).obs s := by
  have e : g = s.heap.get? := funext h
  rw [e] <;> rfl
def places : List Addr := [3, 2, 31, 53, 74, 95, 104, 209, 220, 225, 232, 239, 246, 253, 260, 267, 274, 281, 288, 293, 300, 305, 310, 315, 30, 52, 73, 94, 103, 208, 219, 224, 231, 238, 245, 252, 259, 266, 273, 280, 287, 292, 299, 304, 309, 314, 50, 71, 92, 123, 132, 150, 157, 178, 185, 206, 49, 38, 70, 59, 91, 80, 122, 130, 149, 156, 177, 184, 205, 129]
abbrev hk : PySem.W.Hook := hookA places fa fn er cm ex
def ob (s : PySem.W.SharedT) : AlO := obsA places fa fn er cm ex (HandSHeadRun.getT s)
theorem ob_eq (s : PySem.W.SharedT) : ob s = hk.obs s.abs := obsA_eq (HandSHeadRun.getT_eq s)
def loose : List Str := [("_wall" : Str), ("ThrowError" : Str), ("BadNumber" : Str), ("BadText" : Str), ("BadShares" : Str), ("MOST_DIGITS" : Str), ("common" : Str), ("is_integer" : Str), ("Ratio" : Str), ("total" : Str), ("dealt" : Str), ("_law_cell" : Str), ("_law_pool" : Str), ("_law_take" : Str), ("_law_frac" : Str), ("_law_add" : Str), ("_law_mul" : Str), ("_law_of" : Str), ("_law_row" : Str), ("_law_sum" : Str), ("_law_scaled" : Str), ("_law_less" : Str), ("_law_due" : Str), ("_law_told" : Str)]
theorem run (w : World) : HandSHeadRun.RunEq R (PySem.W.view R.prog [28]) hk ob 60000 loose w := by
  intro os
  kernel_rfl
structure Ct (P : Program) (K : PySem.W.Frag) (mg : Str → Option Value) : Prop where
  s : SaysO fa fn er cm ex K
  g : ∃ h : Heap, K.In h ∧ h.Ns mainGlobals mg
  file : (P.main.file : Str) = "/claim/cut.py"
  top : (P.main.scope.names.lookup ("super" : Str)).isSome = false
section
variable {P : Program} {w : World} {K : PySem.W.Frag} {mg : Str → Option Value} {base : Heap}
theorem fd_common (c : Ct P K mg) : ∃ fd, FnS K "common" "common" s_common (He.ga K "common") fd := c.s.d.def_ 0 (d := d_common) rfl
theorem sc_common : FnScope ["a", "b", "first", "second"] ["a", "b"] (defScope s_common) := ⟨rfl, rfl, rfl, by decide +kernel, rfl, by decide +kernel, by decide +kernel⟩
theorem bd_common {fd} (F : FnS K "common" "common" s_common (He.ga K "common") fd) : Binds K fd ["a", "b"] [] := F.bindsN fun _ _ _ _ _ _ us hl => match us, hl with | [_, _], _ => rfl
theorem fd_Ratio_init (c : Ct P K mg) : ∃ fd, FnS K "__init__" "Ratio.__init__" s_Ratio_init (He.ma K (He.ga K "Ratio") "__init__") fd := c.s.d.def_ 1 (d := d_Ratio_init) rfl
theorem sc_Ratio_init : FnScope ["self", "top", "bottom", "divisor"] ["self", "top", "bottom"] (defScope s_Ratio_init) := ⟨rfl, rfl, rfl, by decide +kernel, rfl, by decide +kernel, by decide +kernel⟩
theorem bd_Ratio_init {fd} (F : FnS K "__init__" "Ratio.__init__" s_Ratio_init (He.ma K (He.ga K "Ratio") "__init__") fd) : Binds K fd ["self", "top", "bottom"] [] := F.bindsN fun _ _ _ _ _ _ us hl => match us, hl with | [_, _, _], _ => rfl
theorem fd_Ratio_add (c : Ct P K mg) : ∃ fd, FnS K "__add__" "Ratio.__add__" s_Ratio_add (He.ma K (He.ga K "Ratio") "__add__") fd := c.s.d.def_ 2 (d := d_Ratio_add) rfl
theorem sc_Ratio_add : FnScope ["self", "other"] ["self", "other"] (defScope s_Ratio_add) := ⟨rfl, rfl, rfl, by decide +kernel, rfl, by decide +kernel, by decide +kernel⟩
theorem bd_Ratio_add {fd} (F : FnS K "__add__" "Ratio.__add__" s_Ratio_add (He.ma K (He.ga K "Ratio") "__add__") fd) : Binds K fd ["self", "other"] [] := F.bindsN fun _ _ _ _ _ _ us hl => match us, hl with | [_, _], _ => rfl
theorem fd_Ratio_sub (c : Ct P K mg) : ∃ fd, FnS K "__sub__" "Ratio.__sub__" s_Ratio_sub (He.ma K (He.ga K "Ratio") "__sub__") fd := c.s.d.def_ 3 (d := d_Ratio_sub) rfl
theorem sc_Ratio_sub : FnScope ["self", "other"] ["self", "other"] (defScope s_Ratio_sub) := ⟨rfl, rfl, rfl, by decide +kernel, rfl, by decide +kernel, by decide +kernel⟩
theorem bd_Ratio_sub {fd} (F : FnS K "__sub__" "Ratio.__sub__" s_Ratio_sub (He.ma K (He.ga K "Ratio") "__sub__") fd) : Binds K fd ["self", "other"] [] := F.bindsN fun _ _ _ _ _ _ us hl => match us, hl with | [_, _], _ => rfl
theorem fd_Ratio_eq (c : Ct P K mg) : ∃ fd, FnS K "__eq__" "Ratio.__eq__" s_Ratio_eq (He.ma K (He.ga K "Ratio") "__eq__") fd := c.s.d.def_ 4 (d := d_Ratio_eq) rfl
theorem sc_Ratio_eq : FnScope ["self", "other"] ["self", "other"] (defScope s_Ratio_eq) := ⟨rfl, rfl, rfl, by decide +kernel, rfl, by decide +kernel, by decide +kernel⟩
theorem bd_Ratio_eq {fd} (F : FnS K "__eq__" "Ratio.__eq__" s_Ratio_eq (He.ma K (He.ga K "Ratio") "__eq__") fd) : Binds K fd ["self", "other"] [] := F.bindsN fun _ _ _ _ _ _ us hl => match us, hl with | [_, _], _ => rfl
theorem fd_Ratio_bool (c : Ct P K mg) : ∃ fd, FnS K "__bool__" "Ratio.__bool__" s_Ratio_bool (He.ma K (He.ga K "Ratio") "__bool__") fd := c.s.d.def_ 5 (d := d_Ratio_bool) rfl
theorem sc_Ratio_bool : FnScope ["self"] ["self"] (defScope s_Ratio_bool) := ⟨rfl, rfl, rfl, by decide +kernel, rfl, by decide +kernel, by decide +kernel⟩
theorem bd_Ratio_bool {fd} (F : FnS K "__bool__" "Ratio.__bool__" s_Ratio_bool (He.ma K (He.ga K "Ratio") "__bool__") fd) : Binds K fd ["self"] [] := F.bindsN fun _ _ _ _ _ _ us hl => match us, hl with | [_], _ => rfl
theorem fd_Ratio_under (c : Ct P K mg) : ∃ fd, FnS K "under" "Ratio.under" s_Ratio_under (He.ma K (He.ga K "Ratio") "under") fd := c.s.d.def_ 6 (d := d_Ratio_under) rfl
theorem sc_Ratio_under : FnScope ["self", "other"] ["self", "other"] (defScope s_Ratio_under) := ⟨rfl, rfl, rfl, by decide +kernel, rfl, by decide +kernel, by decide +kernel⟩
theorem bd_Ratio_under {fd} (F : FnS K "under" "Ratio.under" s_Ratio_under (He.ma K (He.ga K "Ratio") "under") fd) : Binds K fd ["self", "other"] [] := F.bindsN fun _ _ _ _ _ _ us hl => match us, hl with | [_, _], _ => rfl
theorem fd_total (c : Ct P K mg) : ∃ fd, FnS K "total" "total" s_total (He.ga K "total") fd := c.s.d.def_ 7 (d := d_total) rfl
theorem sc_total : FnScope ["ratios", "found", "ratio"] ["ratios"] (defScope s_total) := ⟨rfl, rfl, rfl, by decide +kernel, rfl, by decide +kernel, by decide +kernel⟩
theorem bd_total {fd} (F : FnS K "total" "total" s_total (He.ga K "total") fd) : Binds K fd ["ratios"] [] := F.bindsN fun _ _ _ _ _ _ us hl => match us, hl with | [_], _ => rfl
theorem fd_dealt (c : Ct P K mg) : ∃ fd, FnS K "dealt" "dealt" s_dealt (He.ga K "dealt") fd := c.s.d.def_ 8 (d := d_dealt) rfl
theorem sc_dealt : FnScope ["first", "second", "thing", "share", "found", "at", "left", "part"] ["first", "second"] (defScope s_dealt) := ⟨rfl, rfl, rfl, by decide +kernel, rfl, by decide +kernel, by decide +kernel⟩
theorem bd_dealt {fd} (F : FnS K "dealt" "dealt" s_dealt (He.ga K "dealt") fd) : Binds K fd ["first", "second"] [] := F.bindsN fun _ _ _ _ _ _ us hl => match us, hl with | [_, _], _ => rfl
theorem fd_l_cell (c : Ct P K mg) : ∃ fd, FnS K "_law_cell" "_law_cell" s_l_cell (He.ga K "_law_cell") fd := c.s.d.def_ 9 (d := d_l_cell) rfl
theorem sc_l_cell : FnScope ["_law_script", "_law_k"] ["_law_script", "_law_k"] (defScope s_l_cell) := ⟨rfl, rfl, rfl, by decide +kernel, rfl, by decide +kernel, by decide +kernel⟩
theorem bd_l_cell {fd} (F : FnS K "_law_cell" "_law_cell" s_l_cell (He.ga K "_law_cell") fd) : Binds K fd ["_law_script", "_law_k"] [] := F.bindsN fun _ _ _ _ _ _ us hl => match us, hl with | [_, _], _ => rfl
theorem fd_l_pool (c : Ct P K mg) : ∃ fd, FnS K "_law_pool" "_law_pool" s_l_pool (He.ga K "_law_pool") fd := c.s.d.def_ 10 (d := d_l_pool) rfl
theorem sc_l_pool : FnScope ["_law_cell_here"] ["_law_cell_here"] (defScope s_l_pool) := ⟨rfl, rfl, rfl, by decide +kernel, rfl, by decide +kernel, by decide +kernel⟩
theorem bd_l_pool {fd} (F : FnS K "_law_pool" "_law_pool" s_l_pool (He.ga K "_law_pool") fd) : Binds K fd ["_law_cell_here"] [] := F.bindsN fun _ _ _ _ _ _ us hl => match us, hl with | [_], _ => rfl
theorem fd_l_take (c : Ct P K mg) : ∃ fd, FnS K "_law_take" "_law_take" s_l_take (He.ga K "_law_take") fd := c.s.d.def_ 11 (d := d_l_take) rfl
theorem sc_l_take : FnScope ["_law_pool_here", "_law_limit", "_law_digit", "_law_made"] ["_law_pool_here", "_law_limit"] (defScope s_l_take) := ⟨rfl, rfl, rfl, by decide +kernel, rfl, by decide +kernel, by decide +kernel⟩
theorem bd_l_take {fd} (F : FnS K "_law_take" "_law_take" s_l_take (He.ga K "_law_take") fd) : Binds K fd ["_law_pool_here", "_law_limit"] [] := F.bindsN fun _ _ _ _ _ _ us hl => match us, hl with | [_, _], _ => rfl
theorem fd_l_frac (c : Ct P K mg) : ∃ fd, FnS K "_law_frac" "_law_frac" s_l_frac (He.ga K "_law_frac") fd := c.s.d.def_ 12 (d := d_l_frac) rfl
theorem sc_l_frac : FnScope ["_law_top", "_law_bottom", "_law_one", "_law_other"] ["_law_top", "_law_bottom"] (defScope s_l_frac) := ⟨rfl, rfl, rfl, by decide +kernel, rfl, by decide +kernel, by decide +kernel⟩
theorem bd_l_frac {fd} (F : FnS K "_law_frac" "_law_frac" s_l_frac (He.ga K "_law_frac") fd) : Binds K fd ["_law_top", "_law_bottom"] [] := F.bindsN fun _ _ _ _ _ _ us hl => match us, hl with | [_, _], _ => rfl
theorem fd_l_add (c : Ct P K mg) : ∃ fd, FnS K "_law_add" "_law_add" s_l_add (He.ga K "_law_add") fd := c.s.d.def_ 13 (d := d_l_add) rfl
theorem sc_l_add : FnScope ["_law_one", "_law_other"] ["_law_one", "_law_other"] (defScope s_l_add) := ⟨rfl, rfl, rfl, by decide +kernel, rfl, by decide +kernel, by decide +kernel⟩
theorem bd_l_add {fd} (F : FnS K "_law_add" "_law_add" s_l_add (He.ga K "_law_add") fd) : Binds K fd ["_law_one", "_law_other"] [] := F.bindsN fun _ _ _ _ _ _ us hl => match us, hl with | [_, _], _ => rfl
theorem fd_l_mul (c : Ct P K mg) : ∃ fd, FnS K "_law_mul" "_law_mul" s_l_mul (He.ga K "_law_mul") fd := c.s.d.def_ 14 (d := d_l_mul) rfl
theorem sc_l_mul : FnScope ["_law_one", "_law_other"] ["_law_one", "_law_other"] (defScope s_l_mul) := ⟨rfl, rfl, rfl, by decide +kernel, rfl, by decide +kernel, by decide +kernel⟩
theorem bd_l_mul {fd} (F : FnS K "_law_mul" "_law_mul" s_l_mul (He.ga K "_law_mul") fd) : Binds K fd ["_law_one", "_law_other"] [] := F.bindsN fun _ _ _ _ _ _ us hl => match us, hl with | [_, _], _ => rfl
theorem fd_l_of (c : Ct P K mg) : ∃ fd, FnS K "_law_of" "_law_of" s_l_of (He.ga K "_law_of") fd := c.s.d.def_ 15 (d := d_l_of) rfl
theorem sc_l_of : FnScope ["_law_ratio"] ["_law_ratio"] (defScope s_l_of) := ⟨rfl, rfl, rfl, by decide +kernel, rfl, by decide +kernel, by decide +kernel⟩
theorem bd_l_of {fd} (F : FnS K "_law_of" "_law_of" s_l_of (He.ga K "_law_of") fd) : Binds K fd ["_law_ratio"] [] := F.bindsN fun _ _ _ _ _ _ us hl => match us, hl with | [_], _ => rfl
theorem fd_l_row (c : Ct P K mg) : ∃ fd, FnS K "_law_row" "_law_row" s_l_row (He.ga K "_law_row") fd := c.s.d.def_ 16 (d := d_l_row) rfl
theorem sc_l_row : FnScope ["_law_pool_here", "_law_things", "_law_found", "_law_k", "_law_share"] ["_law_pool_here"] (defScope s_l_row) := ⟨rfl, rfl, rfl, by decide +kernel, rfl, by decide +kernel, by decide +kernel⟩
theorem bd_l_row {fd} (F : FnS K "_law_row" "_law_row" s_l_row (He.ga K "_law_row") fd) : Binds K fd ["_law_pool_here"] [] := F.bindsN fun _ _ _ _ _ _ us hl => match us, hl with | [_], _ => rfl
theorem fd_l_sum (c : Ct P K mg) : ∃ fd, FnS K "_law_sum" "_law_sum" s_l_sum (He.ga K "_law_sum") fd := c.s.d.def_ 17 (d := d_l_sum) rfl
theorem sc_l_sum : FnScope ["_law_rows", "_law_whole", "_law_thing", "_law_share"] ["_law_rows"] (defScope s_l_sum) := ⟨rfl, rfl, rfl, by decide +kernel, rfl, by decide +kernel, by decide +kernel⟩
theorem bd_l_sum {fd} (F : FnS K "_law_sum" "_law_sum" s_l_sum (He.ga K "_law_sum") fd) : Binds K fd ["_law_rows"] [] := F.bindsN fun _ _ _ _ _ _ us hl => match us, hl with | [_], _ => rfl
theorem fd_l_scaled (c : Ct P K mg) : ∃ fd, FnS K "_law_scaled" "_law_scaled" s_l_scaled (He.ga K "_law_scaled") fd := c.s.d.def_ 18 (d := d_l_scaled) rfl
theorem sc_l_scaled : FnScope ["_law_rows", "_law_whole", "_law_top", "_law_thing", "_law_share"] ["_law_rows", "_law_whole"] (defScope s_l_scaled) := ⟨rfl, rfl, rfl, by decide +kernel, rfl, by decide +kernel, by decide +kernel⟩
theorem bd_l_scaled {fd} (F : FnS K "_law_scaled" "_law_scaled" s_l_scaled (He.ga K "_law_scaled") fd) : Binds K fd ["_law_rows", "_law_whole"] [] := F.bindsN fun _ _ _ _ _ _ us hl => match us, hl with | [_, _], _ => rfl
theorem fd_l_less (c : Ct P K mg) : ∃ fd, FnS K "_law_less" "_law_less" s_l_less (He.ga K "_law_less") fd := c.s.d.def_ 19 (d := d_l_less) rfl
theorem sc_l_less : FnScope ["_law_one", "_law_other"] ["_law_one", "_law_other"] (defScope s_l_less) := ⟨rfl, rfl, rfl, by decide +kernel, rfl, by decide +kernel, by decide +kernel⟩
theorem bd_l_less {fd} (F : FnS K "_law_less" "_law_less" s_l_less (He.ga K "_law_less") fd) : Binds K fd ["_law_one", "_law_other"] [] := F.bindsN fun _ _ _ _ _ _ us hl => match us, hl with | [_, _], _ => rfl
theorem fd_l_due (c : Ct P K mg) : ∃ fd, FnS K "_law_due" "_law_due" s_l_due (He.ga K "_law_due") fd := c.s.d.def_ 20 (d := d_l_due) rfl
theorem sc_l_due : FnScope ["_law_first", "_law_second", "_law_left", "_law_right", "_law_row_here", "_law_found", "_law_turn", "_law_part", "_law_side"] ["_law_first", "_law_second"] (defScope s_l_due) := ⟨rfl, rfl, rfl, by decide +kernel, rfl, by decide +kernel, by decide +kernel⟩
theorem bd_l_due {fd} (F : FnS K "_law_due" "_law_due" s_l_due (He.ga K "_law_due") fd) : Binds K fd ["_law_first", "_law_second"] [] := F.bindsN fun _ _ _ _ _ _ us hl => match us, hl with | [_, _], _ => rfl
theorem fd_l_told (c : Ct P K mg) : ∃ fd, FnS K "_law_told" "_law_told" s_l_told (He.ga K "_law_told") fd := c.s.d.def_ 21 (d := d_l_told) rfl
theorem sc_l_told : FnScope ["_law_first", "_law_second", "_law_one", "_law_other", "_law_share", "e"] ["_law_first", "_law_second"] (defScope s_l_told) := ⟨rfl, rfl, rfl, by decide +kernel, rfl, by decide +kernel, by decide +kernel⟩
theorem bd_l_told {fd} (F : FnS K "_law_told" "_law_told" s_l_told (He.ga K "_law_told") fd) : Binds K fd ["_law_first", "_law_second"] [] := F.bindsN fun _ _ _ _ _ _ us hl => match us, hl with | [_, _], _ => rfl
theorem fd_law (c : Ct P K mg) : ∃ fd, FnS K "law" "law" s_law (He.ga K "law") fd := c.s.d.def_ 22 (d := d_law) rfl
theorem sc_law : FnScope ["_law_script", "_law_k", "_law_pool_here", "_law_first", "_law_second", "_law_due_here", "_law_passed", "_law_thing", "_law_share", "_law_row_here", "_law_kept"] ["_law_script"] (defScope s_law) := ⟨rfl, rfl, rfl, by decide +kernel, rfl, by decide +kernel, by decide +kernel⟩
theorem ck_Ratio_whole (c : Ct P K mg) : CmOk K c_Ratio_whole := let h := c.s.cm c_Ratio_whole (by simp [cm]); CmD.all h.1 h.2
theorem fd_Ratio_whole (c : Ct P K mg) : ∃ fd, FnS K "whole" "Ratio.whole" s_Ratio_whole (cmFn K "Ratio" "whole") fd := (ck_Ratio_whole c).fn
theorem sc_Ratio_whole : FnScope ["cls", "n"] ["cls", "n"] (defScope s_Ratio_whole) := ⟨rfl, rfl, rfl, by decide +kernel, rfl, by decide +kernel, by decide +kernel⟩
theorem bd_Ratio_whole {fd} (F : FnS K "whole" "Ratio.whole" s_Ratio_whole (cmFn K "Ratio" "whole") fd) : Binds K fd ["cls", "n"] [] := F.bindsN fun _ _ _ _ _ _ us hl => match us, hl with | [_, _], _ => rfl
theorem er_BadNumber (c : Ct P K mg) : ErrOk P K mg e_BadNumber := let ⟨_, X, G⟩ := c.g; let h := c.s.er e_BadNumber (by simp [er]); ErrD.all X G h.1 h.2 c.file c.top
theorem er_BadShares (c : Ct P K mg) : ErrOk P K mg e_BadShares := let ⟨_, X, G⟩ := c.g; let h := c.s.er e_BadShares (by simp [er]); ErrD.all X G h.1 h.2 c.file c.top
theorem glo_common (c : Ct P K mg) : mg "common" = some (.ref (He.ga K "common")) := let ⟨_, X, G⟩ := c.g; He.glo_ok X G (c.s.d.fact 0 (f := .glo "common") rfl)
theorem meth_Ratio_add (c : Ct P K mg) : Meth K (He.ga K "Ratio") "__add__" (He.ma K (He.ga K "Ratio") "__add__") := He.meth_ok (c.s.d.fact 1 (f := .meth "Ratio" "__add__") rfl)
theorem meth_Ratio_sub (c : Ct P K mg) : Meth K (He.ga K "Ratio") "__sub__" (He.ma K (He.ga K "Ratio") "__sub__") := He.meth_ok (c.s.d.fact 2 (f := .meth "Ratio" "__sub__") rfl)
theorem meth_Ratio_eq (c : Ct P K mg) : Meth K (He.ga K "Ratio") "__eq__" (He.ma K (He.ga K "Ratio") "__eq__") := He.meth_ok (c.s.d.fact 3 (f := .meth "Ratio" "__eq__") rfl)
theorem meth_Ratio_bool (c : Ct P K mg) : Meth K (He.ga K "Ratio") "__bool__" (He.ma K (He.ga K "Ratio") "__bool__") := He.meth_ok (c.s.d.fact 4 (f := .meth "Ratio" "__bool__") rfl)
theorem meth_Ratio_under (c : Ct P K mg) : Meth K (He.ga K "Ratio") "under" (He.ma K (He.ga K "Ratio") "under") := He.meth_ok (c.s.d.fact 5 (f := .meth "Ratio" "under") rfl)
theorem glo_total (c : Ct P K mg) : mg "total" = some (.ref (He.ga K "total")) := let ⟨_, X, G⟩ := c.g; He.glo_ok X G (c.s.d.fact 6 (f := .glo "total") rfl)
theorem glo_dealt (c : Ct P K mg) : mg "dealt" = some (.ref (He.ga K "dealt")) := let ⟨_, X, G⟩ := c.g; He.glo_ok X G (c.s.d.fact 7 (f := .glo "dealt") rfl)
theorem glo_l_cell (c : Ct P K mg) : mg "_law_cell" = some (.ref (He.ga K "_law_cell")) := let ⟨_, X, G⟩ := c.g; He.glo_ok X G (c.s.d.fact 8 (f := .glo "_law_cell") rfl)
theorem glo_l_pool (c : Ct P K mg) : mg "_law_pool" = some (.ref (He.ga K "_law_pool")) := let ⟨_, X, G⟩ := c.g; He.glo_ok X G (c.s.d.fact 9 (f := .glo "_law_pool") rfl)
theorem glo_l_take (c : Ct P K mg) : mg "_law_take" = some (.ref (He.ga K "_law_take")) := let ⟨_, X, G⟩ := c.g; He.glo_ok X G (c.s.d.fact 10 (f := .glo "_law_take") rfl)
theorem glo_l_frac (c : Ct P K mg) : mg "_law_frac" = some (.ref (He.ga K "_law_frac")) := let ⟨_, X, G⟩ := c.g; He.glo_ok X G (c.s.d.fact 11 (f := .glo "_law_frac") rfl)
theorem glo_l_add (c : Ct P K mg) : mg "_law_add" = some (.ref (He.ga K "_law_add")) := let ⟨_, X, G⟩ := c.g; He.glo_ok X G (c.s.d.fact 12 (f := .glo "_law_add") rfl)
theorem glo_l_mul (c : Ct P K mg) : mg "_law_mul" = some (.ref (He.ga K "_law_mul")) := let ⟨_, X, G⟩ := c.g; He.glo_ok X G (c.s.d.fact 13 (f := .glo "_law_mul") rfl)
theorem glo_l_of (c : Ct P K mg) : mg "_law_of" = some (.ref (He.ga K "_law_of")) := let ⟨_, X, G⟩ := c.g; He.glo_ok X G (c.s.d.fact 14 (f := .glo "_law_of") rfl)
theorem glo_l_row (c : Ct P K mg) : mg "_law_row" = some (.ref (He.ga K "_law_row")) := let ⟨_, X, G⟩ := c.g; He.glo_ok X G (c.s.d.fact 15 (f := .glo "_law_row") rfl)
theorem glo_l_sum (c : Ct P K mg) : mg "_law_sum" = some (.ref (He.ga K "_law_sum")) := let ⟨_, X, G⟩ := c.g; He.glo_ok X G (c.s.d.fact 16 (f := .glo "_law_sum") rfl)
theorem glo_l_scaled (c : Ct P K mg) : mg "_law_scaled" = some (.ref (He.ga K "_law_scaled")) := let ⟨_, X, G⟩ := c.g; He.glo_ok X G (c.s.d.fact 17 (f := .glo "_law_scaled") rfl)
theorem glo_l_less (c : Ct P K mg) : mg "_law_less" = some (.ref (He.ga K "_law_less")) := let ⟨_, X, G⟩ := c.g; He.glo_ok X G (c.s.d.fact 18 (f := .glo "_law_less") rfl)
theorem glo_l_due (c : Ct P K mg) : mg "_law_due" = some (.ref (He.ga K "_law_due")) := let ⟨_, X, G⟩ := c.g; He.glo_ok X G (c.s.d.fact 19 (f := .glo "_law_due") rfl)
theorem glo_l_told (c : Ct P K mg) : mg "_law_told" = some (.ref (He.ga K "_law_told")) := let ⟨_, X, G⟩ := c.g; He.glo_ok X G (c.s.d.fact 20 (f := .glo "_law_told") rfl)
theorem glo_law (c : Ct P K mg) : mg "law" = some (.ref (He.ga K "law")) := let ⟨_, X, G⟩ := c.g; He.glo_ok X G (c.s.d.fact 21 (f := .glo "law") rfl)
theorem glo_Ratio (c : Ct P K mg) : mg "Ratio" = some (.ref (He.ga K "Ratio")) := let ⟨_, X, G⟩ := c.g; He.glo_ok X G (c.s.d.fact 22 (f := .glo "Ratio") rfl)
theorem cls_Ratio (c : Ct P K mg) : Cls K (He.ga K "Ratio") := He.cls_ok (c.s.d.fact 23 (f := .cls "Ratio") rfl)
theorem mkr_Ratio (c : Ct P K mg) : Mk K (He.ga K "Ratio") (He.ma K (He.ga K "Ratio") "__init__") := He.mkr_ok (c.s.d.fact 24 (f := .mkr "Ratio") rfl)
theorem noat_Ratio_top (c : Ct P K mg) : NoAttr K (He.ga K "Ratio") "top" := He.noat_ok (c.s.d.fact 25 (f := .noat "Ratio" "top") rfl)
theorem noat_Ratio_bottom (c : Ct P K mg) : NoAttr K (He.ga K "Ratio") "bottom" := He.noat_ok (c.s.d.fact 26 (f := .noat "Ratio" "bottom") rfl)
theorem free_abs (c : Ct P K mg) : mg "abs" = none := let ⟨_, X, G⟩ := c.g; He.free_ok X G (c.s.d.fact 27 (f := .free "abs") rfl)
theorem free_bool (c : Ct P K mg) : mg "bool" = none := let ⟨_, X, G⟩ := c.g; He.free_ok X G (c.s.d.fact 28 (f := .free "bool") rfl)
theorem free_int (c : Ct P K mg) : mg "int" = none := let ⟨_, X, G⟩ := c.g; He.free_ok X G (c.s.d.fact 29 (f := .free "int") rfl)
theorem free_isinstance (c : Ct P K mg) : mg "isinstance" = none := let ⟨_, X, G⟩ := c.g; He.free_ok X G (c.s.d.fact 30 (f := .free "isinstance") rfl)
theorem free_len (c : Ct P K mg) : mg "len" = none := let ⟨_, X, G⟩ := c.g; He.free_ok X G (c.s.d.fact 31 (f := .free "len") rfl)
theorem free_list (c : Ct P K mg) : mg "list" = none := let ⟨_, X, G⟩ := c.g; He.free_ok X G (c.s.d.fact 32 (f := .free "list") rfl)
theorem free_max (c : Ct P K mg) : mg "max" = none := let ⟨_, X, G⟩ := c.g; He.free_ok X G (c.s.d.fact 33 (f := .free "max") rfl)
theorem free_min (c : Ct P K mg) : mg "min" = none := let ⟨_, X, G⟩ := c.g; He.free_ok X G (c.s.d.fact 34 (f := .free "min") rfl)
theorem free_range (c : Ct P K mg) : mg "range" = none := let ⟨_, X, G⟩ := c.g; He.free_ok X G (c.s.d.fact 35 (f := .free "range") rfl)
theorem free_tuple (c : Ct P K mg) : mg "tuple" = none := let ⟨_, X, G⟩ := c.g; He.free_ok X G (c.s.d.fact 36 (f := .free "tuple") rfl)
theorem exm_BadNumber_BadShares (c : Ct P K mg) : PySem.W.exmOne K (.ref (He.ga K "BadNumber")) (.ref (He.ga K "BadShares")) = some false := He.exm_ok (c.s.d.fact 37 (f := .exm "BadNumber" "BadShares" false) rfl)
theorem exm_BadText_BadShares (c : Ct P K mg) : PySem.W.exmOne K (.ref (He.ga K "BadText")) (.ref (He.ga K "BadShares")) = some false := He.exm_ok (c.s.d.fact 38 (f := .exm "BadText" "BadShares" false) rfl)
theorem exm_BadShares_BadShares (c : Ct P K mg) : PySem.W.exmOne K (.ref (He.ga K "BadShares")) (.ref (He.ga K "BadShares")) = some true := He.exm_ok (c.s.d.fact 39 (f := .exm "BadShares" "BadShares" true) rfl)
theorem sf_Ratio (c : Ct P K mg) : PySem.W.selfFirst K (He.ga K "Ratio") = true := (He.ba c.s.ex).1
theorem ne_Ratio (c : Ct P K mg) : PySem.W.findIn K (.ref (He.ga K "Ratio")) "__ne__" = some (some (.builtin "object.__ne__")) := He.eqO_ok (He.ba (He.ba c.s.ex).2).1
theorem mo_Ratio (c : Ct P K mg) : PySem.W.mroIn K (He.ga K "Ratio") (.type "object") = some true := of_decide_eq_true (He.ba (He.ba (He.ba c.s.ex).2).2).1
theorem cc_Ratio (c : Ct P K mg) : PySem.W.findIn K (.ref (He.ga K "Ratio")) "__class__" = some (some (.builtin "object.__class__")) := He.eqO_ok (He.ba (He.ba (He.ba (He.ba c.s.ex).2).2).2).1
theorem ins_Ratio (c : Ct P K mg) : InsT K (He.ga K "Ratio") := ⟨cls_Ratio c, cc_Ratio c, He.eqO_ok (He.ba (He.ba (He.ba (He.ba (He.ba c.s.ex).2).2).2).2).1, of_decide_eq_true (He.ba (He.ba (He.ba (He.ba (He.ba c.s.ex).2).2).2).2).2, mo_Ratio c⟩
theorem kit_Ratio (c : Ct P K mg) : PySem.W.kitOne K (.ref (He.ga K "Ratio")) (.ref (He.ga K "Ratio")) = some true := by unfold PySem.W.kitOne; simp
end
end K62
namespace OW
open PySem PySem.Spec PyProof.Rows L2 OT

structure Ord where
  names : List Str
  above : List (Str × List Str)
deriving DecidableEq
structure Rt where
  top : Int
  bottom : Int
deriving DecidableEq
inductive Er where
  | badNumber (n : Int)
  | badNumberR (q : Rt)
  | badText (n : Int)
  | badName (s : Str)
  | dup (s : Str)
  | unknown (s : Str)
  | ring (l : List Str)
  | badShares (q : Rt)
  | unlike (a b : Ord)
  | notRising (a b : Str) (l : List Str)
  | noThrow
  | hasRing (l : List Str)
  | noRing
  | nothing

abbrev Wp (α : Type) := (α → Prop) → (Er → Prop) → Prop
namespace W
abbrev ret {α : Type} (a : α) : Wp α := fun Q _ => Q a
abbrev bind {α β : Type} (w : Wp α) (k : α → Wp β) : Wp β := fun Q E => w (fun a => k a Q E) E
abbrev grd {α : Type} (P : Prop) (a : α) : Wp α := fun Q _ => P ∧ Q a
abbrev any {α : Type} (P : α → Prop) : Wp α := fun Q _ => ∀ a, P a → Q a
abbrev bad {α : Type} (x : Er) : Wp α := fun _ E => E x
def run {α : Type} (w : Wp α) (Z : Er → Prop) (p : α → Prop) : Prop := w p Z
def lt {α : Type} (a : α) (p : α → Prop) : Prop := p a
def ite (b : Bool) (p q : Prop) : Prop := (b = true → p) ∧ (b = false → q)
def jn {τ : Type} (k : τ → Prop) (p : (τ → Prop) → Prop) : Prop := p k
def loop {α τ : Type} (b : α → τ → (τ → Prop) → Prop) (k : τ → Prop) : List α → τ → Prop
  | [], s => k s
  | x :: xs, s => b x s fun s' => loop b k xs s'
def whileN {τ : Type} (Z : Er → Prop) (c : τ → Wp Bool) (b : τ → (τ → Prop) → Prop) (k : τ → Prop) : Nat → τ → Prop
  | 0, _ => False
  | n + 1, s => c s (fun t => ite t (b s fun s' => whileN Z c b k n s') (k s)) Z
def whil {τ : Type} (Z : Er → Prop) (c : τ → Wp Bool) (b : τ → (τ → Prop) → Prop) (k : τ → Prop) (s : τ) : Prop := ∃ n, whileN Z c b k n s
end W

structure OP where
  R : Hp → Hp → List Addr → V → Prop
  fr : ∀ {S S' H H' : Hp} {A : List Addr} {v : V}, Same S S' → (∀ a ∈ A, H' a = H a) → R S H A v → R S' H' A v
abbrev Om := List (V × OP)
def OwnL (S H : Hp) : Om → List Addr → Prop
  | [], A => A = []
  | x :: O, A => ∃ A1 A2, A = A1 ++ A2 ∧ x.2.R S H A1 x.1 ∧ OwnL S H O A2
theorem OwnL.fr {S S' H H' : Hp} (e : Same S S') : ∀ {O : Om} {A : List Addr}, (∀ a ∈ A, H' a = H a) → OwnL S H O A → OwnL S' H' O A
  | [], _, _, h => h
  | x :: O, _, hA, ⟨A1, A2, z, h2, h3⟩ => by
    subst z
    exact ⟨A1, A2, rfl, x.2.fr e (fun a ha => hA a (List.mem_append_left _ ha)) h2, OwnL.fr e (fun a ha => hA a (List.mem_append_right _ ha)) h3⟩
theorem OwnL.perm {S H : Hp} {O O' : Om} (p : O.Perm O') : ∀ {A : List Addr}, OwnL S H O A → ∃ A', A.Perm A' ∧ OwnL S H O' A' := by
  induction p with
  | nil => exact fun h => ⟨_, .refl _, h⟩
  | cons x _ ih =>
    rintro A ⟨A1, A2, rfl, h2, h3⟩
    obtain ⟨A', p', h'⟩ := ih h3
    exact ⟨A1 ++ A', p'.append_left _, A1, A', rfl, h2, h'⟩
  | swap x y l =>
    rintro A ⟨A1, A2, rfl, h2, A3, A4, rfl, h4, h5⟩
    refine ⟨A3 ++ (A1 ++ A4), ?_, A3, A1 ++ A4, rfl, h4, A1, A4, rfl, h2, h5⟩
    rw [← List.append_assoc, ← List.append_assoc]
    exact List.perm_append_comm.append_right _
  | trans _ _ ih1 ih2 =>
    intro A h
    obtain ⟨A1, p1, h1⟩ := ih1 h
    obtain ⟨A2, p2, h2⟩ := ih2 h1
    exact ⟨A2, p1.trans p2, h2⟩
theorem OwnL.sub {S H : Hp} {O O' : Om} (p : O'.Sublist O) : ∀ {A : List Addr}, OwnL S H O A → ∃ A', A'.Sublist A ∧ OwnL S H O' A' := by
  induction p with
  | slnil => exact fun h => ⟨_, .refl _, h⟩
  | cons x _ ih =>
    rintro A ⟨A1, A2, rfl, h2, h3⟩
    obtain ⟨A', p', h'⟩ := ih h3
    exact ⟨A', p'.trans (List.sublist_append_right _ _), h'⟩
  | cons_cons x _ ih =>
    rintro A ⟨A1, A2, rfl, h2, h3⟩
    obtain ⟨A', p', h'⟩ := ih h3
    exact ⟨A1 ++ A', p'.append_left _, A1, A', rfl, h2, h'⟩
theorem OwnL.append {S H : Hp} : ∀ {O O' : Om} {A A' : List Addr}, OwnL S H O A → OwnL S H O' A' → OwnL S H (O ++ O') (A ++ A')
  | [], _, _, _, h, h' => by cases h; exact h'
  | x :: O, _, _, _, ⟨A1, A2, e, h2, h3⟩, h' => ⟨A1, A2 ++ _, by rw [e, List.append_assoc], h2, OwnL.append h3 h'⟩
theorem OwnL.split {S H : Hp} : ∀ {O O' : Om} {A : List Addr}, OwnL S H (O ++ O') A → ∃ A1 A2, A = A1 ++ A2 ∧ OwnL S H O A1 ∧ OwnL S H O' A2
  | [], _, A, h => ⟨[], A, rfl, rfl, h⟩
  | x :: O, _, _, ⟨A1, A2, e, h2, h3⟩ => by
    obtain ⟨A3, A4, e2, h4, h5⟩ := OwnL.split h3
    exact ⟨A1 ++ A3, A4, by rw [e, e2, List.append_assoc], ⟨A1, A3, rfl, h2, h4⟩, h5⟩
structure Stt (B : Bs) (Γ : Gm) (O : Om) (S H : Hp) (σ : L2.St) : Prop where
  st : Stp B.S B.H S H
  slot : ∀ (i : Nat) (R : MP), Γ[i]? = some (some R) → ∃ v, σ[i]? = some (some v) ∧ R.R S v
  len : σ.length = Γ.length
  own : ∃ A : List Addr, A.Nodup ∧ (∀ a ∈ A, S a = none ∧ B.H a = none ∧ H a ≠ none) ∧ OwnL S H O A
  gh : B.P.R S
section
variable {B : Bs} {Γ : Gm} {O O' : Om} {S H S' H' : Hp} {σ : L2.St}
theorem Stt.sub (t : Stt B Γ O S H σ) : Same S H := t.st.i
theorem Stt.step (t : Stt B Γ O S H σ) (e : Stp S H S' H') : Stt B Γ O S' H' σ where
  st := t.st.trans e
  slot := fun i R h => let ⟨v, h1, h2⟩ := t.slot i R h; ⟨v, h1, R.up e.s h2⟩
  len := t.len
  own := by
    obtain ⟨A, nd, hA, h⟩ := t.own
    have eq : ∀ a ∈ A, H' a = H a := fun a ha => by
      cases z : H a with
      | none => exact absurd z (hA a ha).2.2
      | some o => exact e.h a o z
    exact ⟨A, nd, fun a ha => ⟨e.fr a (hA a ha).1 (hA a ha).2.2, (hA a ha).2.1, by rw [eq a ha]; exact (hA a ha).2.2⟩, h.fr e.s eq⟩
  gh := B.P.up e.s t.gh
theorem Stt.perm (t : Stt B Γ O S H σ) (p : O.Perm O') : Stt B Γ O' S H σ := by
  obtain ⟨A, nd, hA, h⟩ := t.own
  obtain ⟨A', p', h'⟩ := h.perm p
  exact ⟨t.st, t.slot, t.len, ⟨A', p'.nodup_iff.mp nd, fun a ha => hA a (p'.mem_iff.mpr ha), h'⟩, t.gh⟩
theorem Stt.drop (t : Stt B Γ O S H σ) (p : O'.Sublist O) : Stt B Γ O' S H σ := by
  obtain ⟨A, nd, hA, h⟩ := t.own
  obtain ⟨A', p', h'⟩ := h.sub p
  exact ⟨t.st, t.slot, t.len, ⟨A', p'.nodup nd, fun a ha => hA a (p'.subset ha), h'⟩, t.gh⟩
theorem Stt.set {i : Nat} {R : MP} {v : V} (t : Stt B Γ O S H σ) (h : R.R S v) (hi : i < Γ.length) : Stt B (Γ.set i (some R)) O S H (σ.set i (some v)) where
  st := t.st
  slot := fun j Q e => by
    by_cases q : i = j
    · subst q
      rw [List.getElem?_set_self (by exact hi)] at e
      have e2 : R = Q := Option.some.inj (Option.some.inj e)
      subst e2
      exact ⟨v, by rw [List.getElem?_set_self (by rw [t.len]; exact hi)], h⟩
    · rw [List.getElem?_set_ne q] at e
      obtain ⟨w, h1, h2⟩ := t.slot j Q e
      exact ⟨w, by rw [List.getElem?_set_ne q]; exact h1, h2⟩
  len := by rw [List.length_set, List.length_set]; exact t.len
  own := t.own
  gh := t.gh
theorem Stt.forget {Γ' : Gm} (t : Stt B Γ O S H σ) (h : Gle Γ' Γ) : Stt B Γ' O S H σ :=
  ⟨t.st, fun i R e => t.slot i R (h.get i R e), t.len.trans h.len.symm, t.own, t.gh⟩
theorem Stt.ghost {G : Gho} (t : Stt B Γ O S H σ) (g : G.R S) : Stt (B.add G) Γ O S H σ := ⟨t.st, t.slot, t.len, t.own, t.gh, g⟩
theorem Stt.plain {G : Gho} (t : Stt (B.add G) Γ O S H σ) : Stt B Γ O S H σ := ⟨t.st, t.slot, t.len, t.own, t.gh.1⟩
theorem Stt.add {p : Addr} {o : HO} {P : OP} (t : Stt B Γ O S H σ) (hp : H p = none) (hm : P.R S (upd H p o) [p] (.ref p)) : Stt B Γ ((.ref p, P) :: O) S (upd H p o) σ where
  st := t.st.trans (Stp.own t.sub hp)
  slot := t.slot
  len := t.len
  own := by
    obtain ⟨A, nd, hA, h⟩ := t.own
    have np : p ∉ A := fun z => (hA p z).2.2 hp
    refine ⟨p :: A, List.nodup_cons.mpr ⟨np, nd⟩, fun a ha => ?_, [p], A, rfl, hm, h.fr (Same.refl _) fun a ha => upd_ne (fun z => np (by rw [← z]; exact ha))⟩
    rcases List.mem_cons.mp ha with e | ha
    · subst e
      exact ⟨t.sub.free hp, t.st.h.free hp, by rw [upd_same]; simp⟩
    · rw [upd_ne (fun z => np (by rw [← z]; exact ha))]
      exact hA a ha
  gh := t.gh
theorem Stt.mut {v : V} {P P' : OP} (t : Stt B Γ ((v, P) :: O) S H σ)
    (h : ∀ A, A.Nodup → (∀ a ∈ A, S a = none ∧ H a ≠ none) → P.R S H A v → ∃ A', A'.Nodup ∧ (∀ a ∈ A', S a = none ∧ H' a ≠ none ∧ (a ∈ A ∨ H a = none)) ∧ (∀ a, a ∉ A → H a ≠ none → H' a = H a) ∧ P'.R S H' A' v) : Stt B Γ ((v, P') :: O) S H' σ := by
  obtain ⟨A, nd, hA, A1, A2, e, h2, h3⟩ := t.own
  subst e
  obtain ⟨n1, n2, n3⟩ := List.nodup_append.mp nd
  obtain ⟨A', q1, q2, q3, q4⟩ := h A1 n1 (fun a ha => ⟨(hA a (List.mem_append_left _ ha)).1, (hA a (List.mem_append_left _ ha)).2.2⟩) h2
  have keep : ∀ a o, H a = some o → a ∉ A1 → H' a = some o := fun a o z hn => by rw [q3 a hn (by rw [z]; simp)]; exact z
  refine ⟨⟨t.st.s, fun a o z => keep a o (t.sub a o z) (fun hm => ?_), fun a o z => keep a o (t.st.h a o z) (fun hm => ?_), t.st.fr⟩, t.slot, t.len, ⟨A' ++ A2, ?_, fun a ha => ?_, A', A2, rfl, q4, h3.fr (Same.refl _) fun a ha => ?_⟩, t.gh⟩
  · have := (hA a (List.mem_append_left _ hm)).1
    rw [z] at this
    cases this
  · have := (hA a (List.mem_append_left _ hm)).2.1
    rw [z] at this
    cases this
  · refine List.nodup_append.mpr ⟨q1, n2, fun a ha b hb z => ?_⟩
    subst z
    rcases (q2 a ha).2.2 with z | z
    · exact n3 a z a hb rfl
    · exact (hA a (List.mem_append_right _ hb)).2.2 z
  · rcases List.mem_append.mp ha with z | z
    · refine ⟨(q2 a z).1, ?_, (q2 a z).2.1⟩
      rcases (q2 a z).2.2 with y | y
      · exact (hA a (List.mem_append_left _ y)).2.1
      · exact t.st.h.free y
    · have y := hA a (List.mem_append_right _ z)
      exact ⟨y.1, y.2.1, by rw [q3 a (fun q => n3 a q a z rfl) y.2.2]; exact y.2.2⟩
  · exact q3 a (fun q => n3 a q a ha rfl) (hA a (List.mem_append_right _ ha)).2.2
def cut (S H : Hp) (A : List Addr) : Hp := fun a => if a ∈ A then H a else S a
theorem cut_in {A : List Addr} {a : Addr} (h : a ∈ A) : cut S H A a = H a := if_pos h
theorem cut_out {A : List Addr} {a : Addr} (h : a ∉ A) : cut S H A a = S a := if_neg h
theorem cut_same {A : List Addr} (h : ∀ a ∈ A, S a = none) : Same S (cut S H A) := fun a o z => by
  by_cases q : a ∈ A
  · rw [h a q] at z; cases z
  · rw [cut_out q]; exact z
structure FrzD (D : List Addr) (H H' : Hp) : Prop where
  out : ∀ a, a ∉ D → H' a = H a
  at_ : ∀ d ∈ D, ∃ od u, H d = some u ∧ H' d = some (.frz od u)
theorem FrzD.nil {H : Hp} : FrzD [] H H := ⟨fun _ _ => rfl, fun _ h => by cases h⟩
structure FrzA (A D : List Addr) (H H' : Hp) : Prop where
  out : ∀ a ∈ A, a ∉ D → H' a = H a
  at_ : ∀ d ∈ D, ∃ od u, H d = some u ∧ H' d = some (.frz od u)
theorem FrzD.a {A D : List Addr} {H H' : Hp} (h : FrzD D H H') : FrzA A D H H' := ⟨fun a _ ha => h.out a ha, h.at_⟩
def Stl (P : OP) (M : MP) : Prop := ∀ S H A v, P.R S H A v → A.Nodup → (∀ a ∈ A, S a = none) → ∃ D : List Addr, D.Nodup ∧ (∀ d ∈ D, d ∈ A ∧ ∃ u, H d = some u ∧ Mut (some u)) ∧ ∀ H', FrzA A D H H' → M.R (cut S H' A) v
theorem Stt.settle {v : V} {P : OP} {M : MP} (t : Stt B Γ ((v, P) :: O) S H σ) (h : Stl P M) :
    ∃ D : List Addr, D.Nodup ∧ (∀ d ∈ D, ∃ u, H d = some u ∧ Mut (some u)) ∧ ∀ H', FrzD D H H' → ∃ S', Same S S' ∧ Stt B Γ O S' H' σ ∧ M.R S' v := by
  obtain ⟨A, nd, hA, A1, A2, e, h2, h3⟩ := t.own
  subst e
  obtain ⟨n1, n2, n3⟩ := List.nodup_append.mp nd
  have s1 : ∀ a ∈ A1, S a = none := fun a ha => (hA a (List.mem_append_left _ ha)).1
  obtain ⟨D, d1, d2, d3⟩ := h S H A1 v h2 n1 s1
  refine ⟨D, d1, fun d hd => (d2 d hd).2, fun H' hf => ⟨cut S H' A1, cut_same s1, ?_, d3 H' hf.a⟩⟩
  have sS : Same S (cut S H' A1) := cut_same s1
  have keep : ∀ a, a ∉ A1 → H' a = H a := fun a ha => hf.out a fun hd => ha (d2 a hd).1
  have isS : ∀ a, H a ≠ none → H' a ≠ none := fun a ha => by
    by_cases q : a ∈ D
    · obtain ⟨od, u, _, z⟩ := hf.at_ a q
      rw [z]; simp
    · rw [hf.out a q]; exact ha
  refine ⟨⟨t.st.s.trans sS, fun a o z => ?_, fun a o z => ?_, fun a z1 z2 => ?_⟩, fun i R e => ?_, t.len, ⟨A2, n2, fun a ha => ?_, h3.fr sS fun a ha => keep a fun q => n3 a q a ha rfl⟩, B.P.up sS t.gh⟩
  · by_cases q : a ∈ A1
    · rw [cut_in q] at z; exact z
    · rw [cut_out q] at z; rw [keep a q]; exact t.sub a o z
  · rw [keep a fun q => ?_]
    · exact t.st.h a o z
    · have := (hA a (List.mem_append_left _ q)).2.1
      rw [z] at this
      cases this
  · have q : a ∉ A1 := fun q => z2 (hA a (List.mem_append_left _ q)).2.1
    rw [cut_out q]
    exact t.st.fr a z1 z2
  · obtain ⟨w, g1, g2⟩ := t.slot i R e
    exact ⟨w, g1, R.up sS g2⟩
  · have y := hA a (List.mem_append_right _ ha)
    have q : a ∉ A1 := fun q => n3 a q a ha rfl
    exact ⟨by rw [cut_out q]; exact y.1, y.2.1, isS a y.2.2⟩
end
end OW
namespace OW
open PySem PySem.Spec PyProof.Rows L2 OT

section
variable (X : Cx) (B : Bs) (Γ : Gm) (O : Om) (Z : Er → Prop)
def GW {α : Type} (e : Expr) (f : α → MP) (Os : α → V → Om) (w : Wp α) : Prop := ∀ S H σ, Stt B Γ O S H σ → ∀ (P : α → Prop) (Q : VK), w P Z → (∀ a v S' H', P a → Same S S' → Stt B Γ (Os a v) S' H' σ → (f a).R S' v → Q v H') → wE X e σ H Q
abbrev EW {α : Type} (e : Expr) (f : α → MP) (w : Wp α) : Prop := GW X B Γ O Z e f (fun _ _ => O) w
def tAny : MP := ⟨fun _ _ => True, fun _ _ => trivial⟩
abbrev NW {α : Type} (e : Expr) (f : α → OP) (w : Wp α) : Prop := GW X B Γ O Z e (fun _ => tAny) (fun a v => (v, f a) :: O) w
def RW {α : Type} (N : Om) (e : Expr) (b : α → BP) (w : Wp α) : Prop := (∀ x ∈ N, x ∈ O) ∧ ∀ S H σ, Stt B Γ O S H σ → ∀ (P : α → Prop) (Q : VK), w P Z → (∀ a v S' H', P a → Same S S' → Stt B Γ O S' H' σ → (∀ Γ2 O2 S2 H2 σ2, Same S' S2 → Stt B Γ2 O2 S2 H2 σ2 → (∀ x ∈ N, x ∈ O2) → (b a).R S2 H2 v) → Q v H') → wE X e σ H Q
def RN {α : Type} (e : Expr) (b : α → BP) (w : Wp α) : Prop := ∀ S H σ, Stt B Γ O S H σ → ∀ (P : α → Prop) (Q : VK), w P Z → (∀ a v S' H', P a → Same S S' → Stt B Γ O S' H' σ → (b a).R S' H' v → Q v H') → wE X e σ H Q
def TW (e : Expr) (w : Wp Bool) : Prop := ∀ S H σ, Stt B Γ O S H σ → ∀ (P : Bool → Prop) (Q : Bool → Hp → Prop), w P Z → (∀ a S' H', P a → Same S S' → Stt B Γ O S' H' σ → Q a H') → wT X e σ H Q
inductive AA where
  | b (R : BP)
  | t (v : V)
def AllA : List AA → Hp → Hp → List V → Prop
  | [], _, _, [] => True
  | .b R :: r, S, H, v :: vs => R.R S H v ∧ AllA r S H vs
  | .t u :: r, S, H, v :: vs => v = u ∧ AllA r S H vs
  | _, _, _, _ => False
def AW {τ : Type} (N : Om) (es : List Expr) (F : τ → List AA) (w : Wp τ) : Prop := (∀ x ∈ N, x ∈ O) ∧ ∀ S H σ, Stt B Γ O S H σ → ∀ (P : τ → Prop) (Q : List V → Hp → Prop), w P Z → (∀ a vs S' H', P a → Same S S' → Stt B Γ O S' H' σ → (∀ Γ2 O2 S2 H2 σ2, Same S' S2 → Stt B Γ2 O2 S2 H2 σ2 → (∀ x ∈ N, x ∈ O2) → AllA (F a) S2 H2 vs) → Q vs H') → wA X es σ H Q
def SW (body : List Stmt) (D : Ends) (p : Prop) : Prop := p → ∀ S H σ, Stt B Γ O S H σ → wB X body D σ H
def At {τ : Type} (Gs : τ → Gm) (Os : τ → Om) (k : τ → Prop) : L2.St → Hp → Prop := fun σ H => ∃ s S, k s ∧ Stt B (Gs s) (Os s) S H σ
end
section
variable {X : Cx} {B : Bs} {Γ : Gm} {O N N' : Om} {Z : Er → Prop} {e a b c : Expr} {es : List Expr} {pos pos' : Pos} {D : Ends} {rest body els : List Stmt} {α β γ : Type}
theorem EW.imp {f : α → MP} {g : β → MP} {w : Wp α} (h : EW X B Γ O Z e f w) (k : α → β) (i : ∀ a S v, (f a).R S v → (g (k a)).R S v) : EW X B Γ O Z e g (W.bind w fun a => W.ret (k a)) :=
  fun S H σ st P Q q n => h S H σ st _ Q q fun a v S' H' p s t r => n (k a) v S' H' p s t (i a S' v r)
theorem EW.r {f : α → MP} {g : α → BP} {w : Wp α} (h : EW X B Γ O Z e f w) (i : ∀ a S H v, Same S H → (f a).R S v → (g a).R S H v) : RW X B Γ O Z [] e g w :=
  ⟨(fun _ h => by cases h), fun S H σ st P Q q n => h S H σ st P Q q fun a v S' H' p s t r => n a v S' H' p s t fun Γ2 O2 S2 H2 σ2 s2 t2 _ => i a S2 H2 v t2.sub ((f a).up s2 r)⟩
theorem RW.rn {f : α → BP} {w : Wp α} (h : RW X B Γ O Z N e f w) : RN X B Γ O Z e f w := fun S H σ st P Q q n => h.2 S H σ st P Q q fun a v S' H' p s t r => n a v S' H' p s t (r _ _ S' H' _ (Same.refl _) t h.1)
theorem EW.now {f : α → MP} {x : α} {t : TE} (h : PE X e t) (q : ∀ S H σ, Stt B Γ O S H σ → ∃ v, (f x).R S v ∧ ∀ Q : VK, Q v H → t σ H Q) : EW X B Γ O Z e f (W.ret x) :=
  fun S H σ st P Q p n => let ⟨v, h1, h2⟩ := q S H σ st; ⟨t, h, h2 Q (n x v S H p (Same.refl _) st h1)⟩
theorem w_var (i : Nat) {f : α → MP} {v : α} {x : Str} (hG : Γ[i]? = some (some (f v)) := by rfl) (hN : X.N[i]? = some x := by rfl) (hv : Vis X.env.scope x := by first | exact Or.inl rfl | exact Or.inr (Or.inl rfl) | exact Or.inr (Or.inr rfl))
    (hd : (x == ("__debug__" : Str)) = false := by decide) (hcd : (x == ("__classdict__" : Str)) = false := by decide) : EW X B Γ O Z (.Name x pos) f (W.ret v) :=
  EW.now (pe_var hN hv hd hcd) fun S H σ st => let ⟨u, h1, h2⟩ := st.slot i _ hG; ⟨u, h2, fun Q q => ⟨u, h1, q⟩⟩
theorem r_lent (i : Nat) {f : α → BP} {v : α} {x : Str} (hG : Γ[i]? = some (some ((f v).at_ B.H)) := by rfl) (hN : X.N[i]? = some x := by rfl) (hv : Vis X.env.scope x := by first | exact Or.inl rfl | exact Or.inr (Or.inl rfl) | exact Or.inr (Or.inr rfl))
    (hd : (x == ("__debug__" : Str)) = false := by decide) (hcd : (x == ("__classdict__" : Str)) = false := by decide) : RW X B Γ O Z [] (.Name x pos) f (W.ret v) :=
  ⟨(fun _ h => by cases h), fun S H σ st P Q p n => by
    obtain ⟨u, h1, h2⟩ := st.slot i _ hG
    exact ⟨_, pe_var hN hv hd hcd, u, h1, n v u S H p (Same.refl _) st fun Γ2 O2 S2 H2 σ2 s2 t2 _ => (f v).up s2 t2.st.h h2⟩⟩
def Lend (P : OP) (b : BP) : Prop := ∀ S H A v, P.R S H A v → ∀ H', (∀ a ∈ A, H' a = H a) → Same S H' → b.R S H' v
theorem OwnL.at_ {S H : Hp} {x : V × OP} : ∀ {O : Om} {A : List Addr}, x ∈ O → OwnL S H O A → ∃ A1, (∀ a ∈ A1, a ∈ A) ∧ x.2.R S H A1 x.1
  | [], _, e, _ => by cases e
  | y :: O, _, e, ⟨A1, A2, z, h2, h3⟩ => by
    subst z
    rcases List.mem_cons.mp e with e | e
    · subst e
      exact ⟨A1, fun a ha => List.mem_append_left _ ha, h2⟩
    · obtain ⟨A3, g2, g3⟩ := OwnL.at_ e h3
      exact ⟨A3, fun a ha => List.mem_append_right _ (g2 a ha), g3⟩
theorem Stt.at_ {x : V × OP} {S H : Hp} {σ : L2.St} (t : Stt B Γ O S H σ) (h : x ∈ O) : ∃ A, x.2.R S H A x.1 := by
  obtain ⟨A, _, _, q⟩ := t.own
  obtain ⟨A1, _, h2⟩ := q.at_ h
  exact ⟨A1, h2⟩
theorem mem_at {x : V × OP} {k : Nat} (h : O[k]? = some x) : x ∈ O := List.mem_of_getElem? h
theorem r_own (k : Nat) (i : Nat) {f : α → BP} {v : α} {u : V} {P : OP} {x : Str} (hl : Lend P (f v)) (hG : Γ[i]? = some (some (tV u)) := by rfl) (hO : O[k]? = some (u, P) := by rfl) (hN : X.N[i]? = some x := by rfl) (hv : Vis X.env.scope x := by first | exact Or.inl rfl | exact Or.inr (Or.inl rfl) | exact Or.inr (Or.inr rfl))
    (hd : (x == ("__debug__" : Str)) = false := by decide) (hcd : (x == ("__classdict__" : Str)) = false := by decide) : RW X B Γ O Z [(u, P)] (.Name x pos) f (W.ret v) :=
  ⟨(fun y h => by rw [List.mem_singleton] at h; subst h; exact mem_at hO), fun S H σ st P' Q p n => by
    obtain ⟨u', h1, h2⟩ := st.slot i _ hG
    have h2' : u' = u := h2
    subst h2'
    refine ⟨_, pe_var hN hv hd hcd, u', h1, n v u' S H p (Same.refl _) st fun Γ2 O2 S2 H2 σ2 s2 t2 hn => ?_⟩
    obtain ⟨A', g2⟩ := t2.at_ (hn _ (List.mem_singleton.mpr rfl))
    exact hl S2 H2 A' _ g2 H2 (fun _ _ => rfl) t2.sub⟩
theorem w_int {i : Int} {j} : EW X B Γ O Z (.Constant (.int i) j pos) tI (W.ret i) := EW.now pe_int fun _ _ _ _ => ⟨_, rfl, fun _ q => q⟩
theorem w_bl {i : Bool} {j} : EW X B Γ O Z (.Constant (.bool i) j pos) tB (W.ret i) := EW.now pe_bl fun _ _ _ _ => ⟨_, rfl, fun _ q => q⟩
theorem w_str {i : Str} {j} : EW X B Γ O Z (.Constant (.str i) j pos) tS (W.ret i) := EW.now pe_str fun _ _ _ _ => ⟨_, rfl, fun _ q => q⟩
abbrev tU (_ : Unit) : MP := tN
theorem w_non {j} : EW X B Γ O Z (.Constant .none j pos) tU (W.ret ()) := EW.now pe_non fun _ _ _ _ => ⟨_, rfl, fun _ q => q⟩
theorem w_cls {x : Str} {C : Addr} (hm : X.mg x = some (.ref C)) (hg : Gl X x := by rfl) (hd : (x == ("__debug__" : Str)) = false := by decide) : EW X B Γ O Z (.Name x pos) (fun _ : Unit => tR C) (W.ret ()) :=
  EW.now (pe_glob hg hm (v := .ref C) rfl hd) fun _ _ _ _ => ⟨_, rfl, fun _ q => q⟩
theorem w_op2 {op : Operator} {r : R2} {f : α → MP} {g : β → MP} {h : γ → MP} {wa : Wp α} {wb : Wp β} (wc : α → β → Wp γ) (ho : OpR X (binaryOp op) r) (ha : EW X B Γ O Z a f wa) (hb : EW X B Γ O Z b g wb)
    (hr : ∀ x y S H u v, Same S H → (f x).R S u → (g y).R S v → ∀ (P : γ → Prop) (Q : VK), wc x y P Z → (∀ c t S' H', P c → Stp S H S' H' → (h c).R S' t → Q t H') → r u v H Q) : EW X B Γ O Z (.BinOp a op b pos) h (W.bind wa fun x => W.bind wb fun y => wc x y) :=
  fun S H σ st P Q p n => ⟨_, pe_op ho pe_w pe_w, ha S H σ st _ _ p fun x u S1 H1 p1 s1 t1 r1 => hb S1 H1 σ t1 _ _ p1 fun y v S2 H2 p2 s2 t2 r2 =>
    hr x y S2 H2 u v t2.sub ((f x).up s2 r1) r2 P Q p2 fun c t S3 H3 p3 s3 r3 => n c t S3 H3 p3 ((s1.trans s2).trans s3.s) (t2.step s3) r3⟩
theorem w_cmp2 {op : CmpOp} {r : R2} {f : α → MP} {g : β → MP} {wa : Wp α} {wb : Wp β} (k : α → β → Bool) (ho : OpR X (compareOp op) r) (ha : EW X B Γ O Z a f wa) (hb : EW X B Γ O Z b g wb) (hm : behindInMarks op b = false)
    (hr : ∀ x y S H u v, Same S H → (f x).R S u → (g y).R S v → ∀ (Q : VK), (∀ S' H', Stp S H S' H' → Q (.bl (k x y)) H') → r u v H Q) : EW X B Γ O Z (.Compare a [op] [b] pos) tB (W.bind wa fun x => W.bind wb fun y => W.ret (k x y)) :=
  fun S H σ st P Q p n => ⟨_, pe_cmpR ho pe_w pe_w hm, ha S H σ st _ _ p fun x u S1 H1 p1 s1 t1 r1 => hb S1 H1 σ t1 _ _ p1 fun y v S2 H2 p2 s2 t2 r2 =>
    hr x y S2 H2 u v t2.sub ((f x).up s2 r1) r2 Q fun S3 H3 s3 => n _ _ S3 H3 p2 ((s1.trans s2).trans s3.s) (t2.step s3) rfl⟩
theorem t_cmp2 {op : CmpOp} {r : R2} {f : α → MP} {g : β → MP} {wa : Wp α} {wb : Wp β} (k : α → β → Bool) (ho : OpR X (compareOp op) r) (ha : EW X B Γ O Z a f wa) (hb : EW X B Γ O Z b g wb) (hm : behindInMarks op b = false)
    (hr : ∀ x y S H u v, Same S H → (f x).R S u → (g y).R S v → ∀ (Q : VK), (∀ S' H', Stp S H S' H' → Q (.bl (k x y)) H') → r u v H Q) : TW X B Γ O Z (.Compare a [op] [b] pos) (W.bind wa fun x => W.bind wb fun y => W.ret (k x y)) :=
  fun S H σ st P Q p n => ⟨_, pt_cmpR ho pe_w pe_w hm, ha S H σ st _ _ p fun x u S1 H1 p1 s1 t1 r1 => hb S1 H1 σ t1 _ _ p1 fun y v S2 H2 p2 s2 t2 r2 =>
    hr x y S2 H2 u v t2.sub ((f x).up s2 r1) r2 _ fun S3 H3 s3 => ⟨_, rfl, n _ S3 H3 p2 ((s1.trans s2).trans s3.s) (t2.step s3)⟩⟩
theorem t_cmpR {op : CmpOp} {r : R2} {f : α → BP} {g : β → BP} {wa : Wp α} {wb : Wp β} (k : α → β → Bool) (ho : OpR X (compareOp op) r) (ha : RW X B Γ O Z N a f wa) (hb : RN X B Γ O Z b g wb) (hm : behindInMarks op b = false)
    (hr : ∀ x y S H u v, Same S H → (f x).R S H u → (g y).R S H v → ∀ (Q : VK), (∀ S' H', Stp S H S' H' → Q (.bl (k x y)) H') → r u v H Q) : TW X B Γ O Z (.Compare a [op] [b] pos) (W.bind wa fun x => W.bind wb fun y => W.ret (k x y)) :=
  fun S H σ st P Q p n => ⟨_, pt_cmpR ho pe_w pe_w hm, ha.2 S H σ st _ _ p fun x u S1 H1 p1 s1 t1 r1 => hb S1 H1 σ t1 _ _ p1 fun y v S2 H2 p2 s2 t2 r2 =>
    hr x y S2 H2 u v t2.sub (r1 _ _ S2 H2 _ s2 t2 ha.1) r2 _ fun S3 H3 s3 => ⟨_, rfl, n _ S3 H3 p2 ((s1.trans s2).trans s3.s) (t2.step s3)⟩⟩
theorem w_un {op : UnaryOp} {r : V → Hp → VK → Prop} {f : α → MP} {g : β → MP} {wa : Wp α} (k : α → β) (ho : UnR X (unaryOp op) r) (ha : EW X B Γ O Z a f wa)
    (hr : ∀ x S H u, Same S H → (f x).R S u → ∀ (Q : VK), (∀ t S' H', Stp S H S' H' → (g (k x)).R S' t → Q t H') → r u H Q) : EW X B Γ O Z (.UnaryOp op a pos) g (W.bind wa fun x => W.ret (k x)) :=
  fun S H σ st P Q p n => ⟨_, pe_un ho pe_w, ha S H σ st _ _ p fun x u S1 H1 p1 s1 t1 r1 => hr x S1 H1 u t1.sub r1 Q fun t S3 H3 s3 r3 => n _ t S3 H3 p1 (s1.trans s3.s) (t1.step s3) r3⟩
section
variable {wa wb : Wp Int}
abbrev W.o2 (wa wb : Wp Int) {γ : Type} (k : Int → Int → Wp γ) : Wp γ := W.bind wa fun x => W.bind wb fun y => k x y
theorem w_add (ha : EW X B Γ O Z a tI wa) (hb : EW X B Γ O Z b tI wb) : EW X B Γ O Z (.BinOp a .Add b pos) tI (W.bind wa fun x => W.bind wb fun y => W.ret (x + y)) :=
  w_op2 _ op_add ha hb fun x y S H u v sm h1 h2 P Q p n => ⟨x, y, h1, h2, n _ _ S H p (Stp.refl sm) rfl⟩
theorem w_sub (ha : EW X B Γ O Z a tI wa) (hb : EW X B Γ O Z b tI wb) : EW X B Γ O Z (.BinOp a .Sub b pos) tI (W.bind wa fun x => W.bind wb fun y => W.ret (x - y)) :=
  w_op2 _ op_sub ha hb fun x y S H u v sm h1 h2 P Q p n => ⟨x, y, h1, h2, n _ _ S H p (Stp.refl sm) rfl⟩
theorem w_mul (ha : EW X B Γ O Z a tI wa) (hb : EW X B Γ O Z b tI wb) : EW X B Γ O Z (.BinOp a .Mult b pos) tI (W.bind wa fun x => W.bind wb fun y => W.grd (IntMulOk x y) (x * y)) :=
  w_op2 (r := rI (fun i j => IntMulOk i j) fun i j => .int (i * j)) _ (opI fun _ _ _ _ _ _ _ hc q => mul_int q hc) ha hb fun x y S H u v sm h1 h2 P Q p n => ⟨x, y, h1, h2, p.1, n _ _ S H p.2 (Stp.refl sm) rfl⟩
def DivOk (j : Int) : Prop := j ≠ 0 ∧ j.natAbs.log2 < 9000
theorem w_fdiv (ha : EW X B Γ O Z a tI wa) (hb : EW X B Γ O Z b tI wb) : EW X B Γ O Z (.BinOp a .FloorDiv b pos) tI (W.bind wa fun x => W.bind wb fun y => W.grd (DivOk y) (x.fdiv y)) :=
  w_op2 (r := rI (fun _ j => j ≠ 0 ∧ j.natAbs.log2 < 9000) fun i j => .int (i.fdiv j)) _ (opI fun _ _ _ _ _ _ _ hc q => floordiv_int hc.1 q (.inl (PyProof.noPylong_of_log2 hc.2))) ha hb fun x y S H u v sm h1 h2 P Q p n => ⟨x, y, h1, h2, p.1, n _ _ S H p.2 (Stp.refl sm) rfl⟩
theorem w_mod (ha : EW X B Γ O Z a tI wa) (hb : EW X B Γ O Z b tI wb) : EW X B Γ O Z (.BinOp a .Mod b pos) tI (W.bind wa fun x => W.bind wb fun y => W.grd (y ≠ 0) (x.fmod y)) :=
  w_op2 _ op_modN ha hb fun x y S H u v sm h1 h2 P Q p n => ⟨x, y, h1, h2, p.1, n _ _ S H p.2 (Stp.refl sm) rfl⟩
theorem w_pow (ha : EW X B Γ O Z a tI wa) (hb : EW X B Γ O Z b tI wb) : EW X B Γ O Z (.BinOp a .Pow b pos) tI (W.bind wa fun x => W.bind wb fun y => W.grd (CPow x y) (x ^ y.toNat)) :=
  w_op2 _ op_pow ha hb fun x y S H u v sm h1 h2 P Q p n => ⟨x, y, h1, h2, p.1, n _ _ S H p.2 (Stp.refl sm) rfl⟩
theorem w_neg (ha : EW X B Γ O Z a tI wa) : EW X B Γ O Z (.UnaryOp .USub a pos) tI (W.bind wa fun x => W.ret (-x)) := w_un _ un_neg ha fun x S H u sm h1 Q k => ⟨x, h1, k _ S H (Stp.refl sm) rfl⟩
theorem w_lt (ha : EW X B Γ O Z a tI wa) (hb : EW X B Γ O Z b tI wb) : EW X B Γ O Z (.Compare a [.Lt] [b] pos) tB (W.bind wa fun x => W.bind wb fun y => W.ret (decide (x < y))) :=
  w_cmp2 _ op_lt ha hb (nomark _) fun x y S H u v sm h1 h2 Q k => ⟨x, y, h1, h2, k S H (Stp.refl sm)⟩
theorem t_lt (ha : EW X B Γ O Z a tI wa) (hb : EW X B Γ O Z b tI wb) : TW X B Γ O Z (.Compare a [.Lt] [b] pos) (W.bind wa fun x => W.bind wb fun y => W.ret (decide (x < y))) :=
  t_cmp2 _ op_lt ha hb (nomark _) fun x y S H u v sm h1 h2 Q k => ⟨x, y, h1, h2, k S H (Stp.refl sm)⟩
theorem t_gt (ha : EW X B Γ O Z a tI wa) (hb : EW X B Γ O Z b tI wb) : TW X B Γ O Z (.Compare a [.Gt] [b] pos) (W.bind wa fun x => W.bind wb fun y => W.ret (decide (y < x))) :=
  t_cmp2 _ op_gt ha hb (nomark _) fun x y S H u v sm h1 h2 Q k => ⟨x, y, h1, h2, k S H (Stp.refl sm)⟩
end
theorem t_val {w : Wp Bool} (h : EW X B Γ O Z e tB w) (he : ∀ whole, isTrue e X.env whole = (do let v ← whole; standAt e.pos; holding [v] (truthy v)) := by intro _; rfl) : TW X B Γ O Z e w :=
  fun S H σ st P Q p n => ⟨_, pt_val pe_w he, h S H σ st P _ p fun a v S' H' p1 s1 t1 r1 => ⟨a, r1, n a S' H' p1 s1 t1⟩⟩
theorem t_not {w : Wp Bool} (h : TW X B Γ O Z e w) : TW X B Γ O Z (.UnaryOp .Not e pos) (W.bind w fun x => W.ret (!x)) :=
  fun S H σ st P Q p n => ⟨_, pt_not pt_w, h S H σ st _ _ p fun a S' H' p1 s1 t1 => n (!a) S' H' p1 s1 t1⟩
abbrev W.sel {α : Type} (b : Bool) (w w' : Wp α) : Wp α := fun Q E => W.ite b (w Q E) (w' Q E)
def TC (X : Cx) (B : Bs) (Γ : Gm) (O : Om) (Z : Er → Prop) (e : Expr) (w : Wp Bool) : Prop := ∀ S H σ, Stt B Γ O S H σ → ∀ (P : Bool → Prop) (Q : Bool → Hp → Prop), w P Z → (∀ a S' H', P a → Same S S' → Stt B Γ O S' H' σ → Q a H') → ∃ t, PW X e t ∧ t σ H Q
theorem tc_and1 {w : Wp Bool} (h : TW X B Γ O Z a w) : TC X B Γ O Z (.BoolOp .And [a] pos) w := fun S H σ st P Q p n => ⟨_, pw_and1 pt_w, h S H σ st P Q p n⟩
theorem tc_or1 {w : Wp Bool} (h : TW X B Γ O Z a w) : TC X B Γ O Z (.BoolOp .Or [a] pos) w := fun S H σ st P Q p n => ⟨_, pw_or1 pt_w, h S H σ st P Q p n⟩
theorem tc_and {w w' : Wp Bool} (h : TW X B Γ O Z a w) (h2 : TC X B Γ O Z (.BoolOp .And (b :: es) pos) w') : TC X B Γ O Z (.BoolOp .And (a :: b :: es) pos) (W.bind w fun x => W.sel x w' (W.ret false)) := fun S H σ st P Q p n =>
  ⟨_, pw_and pt_w pw_w, h S H σ st _ _ p fun x S1 H1 p1 s1 t1 => by
    cases x with
    | true => exact iteT (h2 S1 H1 σ t1 P Q (p1.1 rfl) fun y S2 H2 p2 s2 t2 => n y S2 H2 p2 (s1.trans s2) t2)
    | false => exact iteF (n false S1 H1 (p1.2 rfl) s1 t1)⟩
theorem tc_or {w w' : Wp Bool} (h : TW X B Γ O Z a w) (h2 : TC X B Γ O Z (.BoolOp .Or (b :: es) pos) w') : TC X B Γ O Z (.BoolOp .Or (a :: b :: es) pos) (W.bind w fun x => W.sel x (W.ret true) w') := fun S H σ st P Q p n =>
  ⟨_, pw_or pt_w pw_w, h S H σ st _ _ p fun x S1 H1 p1 s1 t1 => by
    cases x with
    | false => exact iteF (h2 S1 H1 σ t1 P Q (p1.2 rfl) fun y S2 H2 p2 s2 t2 => n y S2 H2 p2 (s1.trans s2) t2)
    | true => exact iteT (n true S1 H1 (p1.1 rfl) s1 t1)⟩
theorem tc_andP {x y : Bool} (h : TW X B Γ O Z a (W.ret x)) (h2 : TC X B Γ O Z (.BoolOp .And (b :: es) pos) (W.ret y)) : TC X B Γ O Z (.BoolOp .And (a :: b :: es) pos) (W.ret (x && y)) := fun S H σ st P Q p n =>
  tc_and h h2 S H σ st P Q (by cases x with | true => exact ⟨fun _ => p, fun z => nomatch z⟩ | false => exact ⟨fun z => (nomatch z), fun _ => p⟩) n
theorem TC.t {w : Wp Bool} (h : TC X B Γ O Z e w) : TW X B Γ O Z e w := fun S H σ st P Q p n => let ⟨t, h1, h2⟩ := h S H σ st P Q p n; ⟨t, h1.pt, h2⟩
theorem w_one {op} {f : α → MP} {w : Wp α} (h : EW X B Γ O Z a f w) : EW X B Γ O Z (.BoolOp op [a] pos) f w := fun S H σ st P Q p n => ⟨_, pe_one pe_w, h S H σ st P Q p n⟩
theorem w_and {w w' : Wp Bool} (h : EW X B Γ O Z a tB w) (h2 : EW X B Γ O Z (.BoolOp .And (b :: es) pos) tB w') : EW X B Γ O Z (.BoolOp .And (a :: b :: es) pos) tB (W.bind w fun x => W.sel x w' (W.ret false)) := fun S H σ st P Q p n =>
  ⟨_, pe_and pe_w pe_w, h S H σ st _ _ p fun x v S1 H1 p1 s1 t1 r1 => ⟨x, r1, by
    cases x with
    | true => exact iteT (h2 S1 H1 σ t1 P Q (p1.1 rfl) fun y v S2 H2 p2 s2 t2 r2 => n y v S2 H2 p2 (s1.trans s2) t2 r2)
    | false => exact iteF (n false _ S1 H1 (p1.2 rfl) s1 t1 rfl)⟩⟩
theorem w_andP {x y : Bool} (h : EW X B Γ O Z a tB (W.ret x)) (h2 : EW X B Γ O Z (.BoolOp .And (b :: es) pos) tB (W.ret y)) : EW X B Γ O Z (.BoolOp .And (a :: b :: es) pos) tB (W.ret (x && y)) := fun S H σ st P Q p n =>
  w_and h h2 S H σ st P Q (by cases x with | true => exact ⟨fun _ => p, fun z => nomatch z⟩ | false => exact ⟨fun z => (nomatch z), fun _ => p⟩) n
theorem g_if {f : α → MP} {Os : α → V → Om} {wc : Wp Bool} {wa wb : Wp α} (hc : TW X B Γ O Z c wc) (ha : GW X B Γ O Z a f Os wa) (hb : GW X B Γ O Z b f Os wb) : GW X B Γ O Z (.IfExp c a b pos) f Os (W.bind wc fun x => W.sel x wa wb) := fun S H σ st P Q p n =>
  ⟨_, pe_ifExp pt_w pe_w pe_w, hc S H σ st _ _ p fun x S1 H1 p1 s1 t1 => by
    cases x with
    | true => exact iteT (ha S1 H1 σ t1 P Q (p1.1 rfl) fun y v S2 H2 p2 s2 t2 r2 => n y v S2 H2 p2 (s1.trans s2) t2 r2)
    | false => exact iteF (hb S1 H1 σ t1 P Q (p1.2 rfl) fun y v S2 H2 p2 s2 t2 r2 => n y v S2 H2 p2 (s1.trans s2) t2 r2)⟩
theorem a_nil : AW X B Γ O Z [] [] (fun _ : Unit => []) (W.ret ()) := ⟨(fun _ h => by cases h), fun S H σ st P Q p n => ⟨_, pa_nil, n () [] S H p (Same.refl _) st fun _ _ _ _ _ _ _ _ => trivial⟩⟩
theorem a_cons {f : α → MP} {F : β → List AA} {w : Wp α} {w' : Wp β} (h : EW X B Γ O Z e f w) (hr : AW X B Γ O Z N es F w') (hs : starEach (e :: es) X.env = (false, eval e X.env) :: starEach es X.env := by rfl) : AW X B Γ O Z N (e :: es) (fun q : α × β => .b (f q.1).b :: F q.2) (W.bind w fun x => W.bind w' fun y => W.ret (x, y)) := ⟨hr.1, fun S H σ st P Q p n =>
  ⟨_, pa_cons pe_w pa_w hs, h S H σ st _ _ p fun x v S1 H1 p1 s1 t1 r1 => hr.2 S1 H1 σ t1 _ _ p1 fun y vs S2 H2 p2 s2 t2 r2 => n (x, y) (v :: vs) S2 H2 p2 (s1.trans s2) t2 fun Γ3 O3 S3 H3 σ3 s3 t3 hn => ⟨(f x).up (s2.trans s3) r1, r2 _ _ S3 H3 _ s3 t3 hn⟩⟩⟩
theorem a_consR {f : α → BP} {F : β → List AA} {w : Wp α} {w' : Wp β} (h : RW X B Γ O Z N' e f w) (hr : AW X B Γ O Z N es F w') (hs : starEach (e :: es) X.env = (false, eval e X.env) :: starEach es X.env := by rfl) : AW X B Γ O Z (N' ++ N) (e :: es) (fun q : α × β => .b (f q.1) :: F q.2) (W.bind w fun x => W.bind w' fun y => W.ret (x, y)) :=
  ⟨(fun x hx => (List.mem_append.mp hx).elim (h.1 x) (hr.1 x)), fun S H σ st P Q p n =>
  ⟨_, pa_cons pe_w pa_w hs, h.2 S H σ st _ _ p fun x v S1 H1 p1 s1 t1 r1 => hr.2 S1 H1 σ t1 _ _ p1 fun y vs S2 H2 p2 s2 t2 r2 => n (x, y) (v :: vs) S2 H2 p2 (s1.trans s2) t2 fun Γ3 O3 S3 H3 σ3 s3 t3 hn => ⟨r1 _ _ S3 H3 _ (s2.trans s3) t3 (fun z hz => hn z (List.mem_append_left _ hz)), r2 _ _ S3 H3 _ s3 t3 (fun z hz => hn z (List.mem_append_right _ hz))⟩⟩⟩
theorem frz_all {X : Cx} : ∀ (D : List Addr) {pins : List (Addr × Obj)} {σ : L2.St} {H : Hp} {s : Shared}, Inv X pins σ H s → D.Nodup → (∀ d ∈ D, ∃ u, H d = some u ∧ Mut (some u)) → ∃ H', FrzD D H H' ∧ Inv X pins σ H' s
  | [], _, _, H, _, I, _, _ => ⟨H, .nil, I⟩
  | d :: D, _, _, H, _, I, nd, h => by
    obtain ⟨n1, n2⟩ := List.nodup_cons.mp nd
    obtain ⟨u, hu, mu⟩ := h d List.mem_cons_self
    obtain ⟨od, I2⟩ := I.lock hu mu
    obtain ⟨H', f, I3⟩ := frz_all D I2 n2 fun e he => by
      obtain ⟨w, hw, mw⟩ := h e (List.mem_cons_of_mem _ he)
      exact ⟨w, by rw [upd_ne (fun z => n1 (by rw [← z]; exact he))]; exact hw, mw⟩
    refine ⟨H', ⟨fun a ha => ?_, fun e he => ?_⟩, I3⟩
    · rw [f.out a (fun z => ha (List.mem_cons_of_mem _ z)), upd_ne (fun z => ha (by rw [z]; exact List.mem_cons_self))]
    · rcases List.mem_cons.mp he with z | he
      · subst z
        refine ⟨od, u, hu, ?_⟩
        rw [f.out _ n1, upd_same]
      · obtain ⟨od', w, h1, h2⟩ := f.at_ e he
        rw [upd_ne (fun z => n1 (by rw [← z]; exact he))] at h1
        exact ⟨od', w, h1, h2⟩
theorem pe_frzs {t : TE} (h : PE X e t) : PE X e (fun σ H Q => t σ H fun v H' => ∃ D : List Addr, D.Nodup ∧ (∀ d ∈ D, ∃ u, H' d = some u ∧ Mut (some u)) ∧ ∀ H2, FrzD D H' H2 → Q v H2) := ⟨fun pins s σ H Q I q =>
  thn (h.run pins s σ H _ I q) fun w s' ⟨v, H', I', r, D, nd, mu, q'⟩ => by
    obtain ⟨H2, f, I2⟩ := frz_all D I' nd mu
    exact ⟨v, _, I2, r, q' H2 f⟩⟩
theorem pss_frzs {t : TS} {st : List Stmt} (h : PSs X st t) : PSs X st (fun E σ H => ∃ D : List Addr, D.Nodup ∧ (∀ d ∈ D, ∃ u, H d = some u ∧ Mut (some u)) ∧ ∀ H2, FrzD D H H2 → t E σ H2) := ⟨fun pins s σ H E I ⟨D, nd, mu, q⟩ => by
  obtain ⟨H2, f, I2⟩ := frz_all D I nd mu
  exact h.run pins s σ _ E I2 (q H2 f)⟩
theorem NW.settle {f : α → OP} {g : α → MP} {w : Wp α} (h : NW X B Γ O Z e f w) (hs : ∀ a, Stl (f a) (g a)) : EW X B Γ O Z e g w := fun S H σ st P Q p n =>
  ⟨_, pe_frzs pe_w, h S H σ st P _ p fun a v S1 H1 p1 s1 t1 _ => by
    obtain ⟨D, h1, h2, h3⟩ := t1.settle (hs a)
    refine ⟨D, h1, h2, fun H2 hf => ?_⟩
    obtain ⟨S2, s2, t2, r2⟩ := h3 H2 hf
    exact n a _ S2 H2 p1 (s1.trans s2) t2 r2⟩
theorem s_nil {τ : Type} {Gs : τ → Gm} {Os : τ → Om} {k : τ → Prop} (s : τ) (hD : D.nx = At B Gs Os k := by rfl) (g : Gle (Gs s) Γ := by exact Gle.rfl') (ho : O = Os s := by rfl) : SW X B Γ O [] D (k s) := fun p S H σ t => ⟨_, pss_nil, by
  show D.nx σ H
  rw [hD]
  exact ⟨s, S, p, by rw [← ho]; exact t.forget g⟩⟩
theorem s_cons {st : Stmt} {p : Prop} (h : p → ∀ S H σ, Stt B Γ O S H σ → wS X st { D with nx := wB X rest D } σ H) : SW X B Γ O (st :: rest) D p := fun q S H σ t => ⟨_, pss_cons ps_w pb_w, h q S H σ t⟩
theorem s_set {i : Nat} {x : Str} {f : α → MP} {w w' : Wp α} {p : α → Prop} (he : EW X B Γ O Z e f w') (h : ∀ a, SW X B (Γ.set i (some (f a))) O rest D (p a)) (hw : w' = w := by rfl) (hi : X.N[i]? = some x := by rfl) (hl : i < Γ.length := by exact Nat.le_of_ble_eq_true rfl) (hN : X.N.Nodup := by assumption)
    (hx : Loc X.env.scope x := by first | exact Or.inl rfl | exact Or.inr rfl) (hs : swapsWith e (some (.Name x pos')) pos.line X.env = pure false := by rfl) (hf : X.fn x = true ∨ X.env.scope.names.lookup x = some .local := by first | exact .inl rfl | exact .inr rfl | assumption) :
    SW X B Γ O (.Assign [.Name x pos'] e pos :: rest) D (W.run w Z p) :=
  s_cons fun q S H σ st => ⟨_, ps_set hN hi hx pe_w hs hf, he S H σ st p _ (hw ▸ q) fun a v S1 H1 p1 s1 t1 r1 => h a p1 S1 H1 _ (t1.set r1 hl)⟩
theorem s_setV {i : Nat} {x : Str} {f : α → MP} {v : α} {p : α → Prop} (he : EW X B Γ O Z e f (W.ret v)) (h : ∀ a, a = v → SW X B (Γ.set i (some (f a))) O rest D (p a)) (hi : X.N[i]? = some x := by rfl) (hl : i < Γ.length := by exact Nat.le_of_ble_eq_true rfl) (hN : X.N.Nodup := by assumption)
    (hx : Loc X.env.scope x := by first | exact Or.inl rfl | exact Or.inr rfl) (hs : swapsWith e (some (.Name x pos')) pos.line X.env = pure false := by rfl) (hf : X.fn x = true ∨ X.env.scope.names.lookup x = some .local := by first | exact .inl rfl | exact .inr rfl | assumption) :
    SW X B Γ O (.Assign [.Name x pos'] e pos :: rest) D (W.lt v p) :=
  s_cons fun q S H σ st => ⟨_, ps_set hN hi hx pe_w hs hf, he S H σ st (fun a => a = v) _ rfl fun a u S1 H1 p1 s1 t1 r1 => h a p1 (by rw [p1]; exact q) S1 H1 _ (t1.set r1 hl)⟩
theorem s_setN {i : Nat} {x : Str} {f : α → OP} {w w' : Wp α} {p : α → Prop} (he : NW X B Γ O Z e f w') (h : ∀ a v, SW X B (Γ.set i (some (tV v))) ((v, f a) :: O) rest D (p a)) (hw : w' = w := by rfl) (hi : X.N[i]? = some x := by rfl) (hl : i < Γ.length := by exact Nat.le_of_ble_eq_true rfl) (hN : X.N.Nodup := by assumption)
    (hx : Loc X.env.scope x := by first | exact Or.inl rfl | exact Or.inr rfl) (hs : swapsWith e (some (.Name x pos')) pos.line X.env = pure false := by rfl) (hf : X.fn x = true ∨ X.env.scope.names.lookup x = some .local := by first | exact .inl rfl | exact .inr rfl | assumption) :
    SW X B Γ O (.Assign [.Name x pos'] e pos :: rest) D (W.run w Z p) :=
  s_cons fun q S H σ st => ⟨_, ps_set hN hi hx pe_w hs hf, he S H σ st p _ (hw ▸ q) fun a v S1 H1 p1 s1 t1 r1 => h a v p1 S1 H1 _ (t1.set rfl hl)⟩
theorem s_if {w w' : Wp Bool} {p q : Prop} (hc : TW X B Γ O Z c w') (h1 : SW X B Γ O body { D with nx := wB X rest D } p) (h2 : SW X B Γ O els { D with nx := wB X rest D } q) (hw : w' = w := by rfl) : SW X B Γ O (.If c body els pos :: rest) D (W.run w Z fun b => W.ite b p q) :=
  s_cons fun hp S H σ st => ⟨_, ps_if pt_w pb_w pb_w, hc S H σ st _ _ (hw ▸ hp) fun b S1 H1 p1 s1 t1 => by
    cases b with
    | true => exact iteT (h1 (p1.1 rfl) S1 H1 σ t1)
    | false => exact iteF (h2 (p1.2 rfl) S1 H1 σ t1)⟩
theorem s_skip {D' : Ends} {p : Prop} (h : SW X B Γ O rest D' p) (hD : D.nx = wB X rest D' := by rfl) : SW X B Γ O [] D p := fun hp S H σ t => ⟨_, pss_nil, by show D.nx σ H; rw [hD]; exact h hp S H σ t⟩
theorem s_ifJ {τ : Type} (Gs : τ → Gm) (Os : τ → Om) {k : τ → Prop} {w w' : Wp Bool} {p q : (τ → Prop) → Prop} (hc : TW X B Γ O Z c w') (h1 : SW X B Γ O body { D with nx := At B Gs Os k } (p k)) (h2 : SW X B Γ O els { D with nx := At B Gs Os k } (q k)) (h : ∀ s, SW X B (Gs s) (Os s) rest D (k s)) (hw : w' = w := by rfl) :
    SW X B Γ O (.If c body els pos :: rest) D (W.jn k fun k => W.run w Z fun b => W.ite b (p k) (q k)) :=
  s_cons fun hp S H σ st => ⟨_, ps_if pt_w (pss_weak pb_w) (pss_weak pb_w), hc S H σ st _ _ (hw ▸ hp) fun b S1 H1 p1 s1 t1 => by
    have fin : ∀ σ H, At B Gs Os k σ H → wB X rest D σ H := fun σ H ⟨s, S', hk, t⟩ => h s hk S' H σ t
    cases b with
    | true => exact iteT ⟨{ D with nx := At B Gs Os k }, fin, rfl, rfl, rfl, h1 (p1.1 rfl) S1 H1 σ t1⟩
    | false => exact iteF ⟨{ D with nx := At B Gs Os k }, fin, rfl, rfl, rfl, h2 (p1.2 rfl) S1 H1 σ t1⟩⟩
theorem s_ret {f : α → MP} {w w' : Wp α} {p : α → Prop} (he : EW X B Γ O Z e f w') (h : ∀ a v S H σ, p a → Stt B Γ O S H σ → (f a).R S v → D.rt v H) (hw : w' = w := by rfl) : SW X B Γ O (.Return (some e) pos :: rest) D (W.run w Z p) :=
  s_cons fun q S H σ st => ⟨_, ps_ret pe_w, he S H σ st p _ (hw ▸ q) fun a v S1 H1 p1 s1 t1 r1 => h a v S1 H1 σ p1 t1 r1⟩
theorem s_retN {f : α → OP} {w w' : Wp α} {p : α → Prop} (he : NW X B Γ O Z e f w') (h : ∀ a v S H σ, p a → Stt B Γ ((v, f a) :: O) S H σ → D.rt v H) (hw : w' = w := by rfl) : SW X B Γ O (.Return (some e) pos :: rest) D (W.run w Z p) :=
  s_cons fun q S H σ st => ⟨_, ps_ret pe_w, he S H σ st p _ (hw ▸ q) fun a v S1 H1 p1 s1 t1 r1 => h a v S1 H1 σ p1 t1⟩
theorem front_perm {x : V × OP} : ∀ {O : Om} (k : Nat), O[k]? = some x → O.Perm (x :: O.eraseIdx k)
  | [], k, h => by simp at h
  | y :: O, 0, h => by
    have e : y = x := by simpa using h
    subst e
    exact .refl _
  | y :: O, k + 1, h => by
    have e : O[k]? = some x := by simpa using h
    exact ((front_perm k e).cons y).trans (.swap _ _ _)
def frontO (k : Nat) (O : Om) : Om := match O[k]? with
  | some x => x :: O.eraseIdx k
  | none => O
theorem SW.front (k : Nat) {p : Prop} (h : SW X B Γ (frontO k O) body D p) : SW X B Γ O body D p := fun hp S H σ t => h hp S H σ (by
  unfold frontO
  cases e : O[k]? with
  | none => exact t
  | some x => exact t.perm (front_perm k e))
theorem SW.out (k : Nat) {p : Prop} (h : SW X B Γ (O.eraseIdx k) body D p) : SW X B Γ O body D p := fun hp S H σ t => h hp S H σ (t.drop (List.eraseIdx_sublist _ _))
theorem SW.le {Γ' : Gm} {p : Prop} (h : SW X B Γ' O body D p) (g : Gle Γ' Γ) : SW X B Γ O body D p := fun hp S H σ t => h hp S H σ (t.forget g)
theorem SW.settle {i : Nat} {v : V} {P : OP} {M : MP} {p : Prop} (hs : Stl P M) (h : SW X B (Γ.set i (some M)) O body D p) (hv : Γ[i]? = some (some (tV v)) := by rfl) (hl : i < Γ.length := by exact Nat.le_of_ble_eq_true rfl) : SW X B Γ ((v, P) :: O) body D p := fun hp S H σ t => by
  obtain ⟨F, h1, h2, h3⟩ := t.settle hs
  refine ⟨_, pss_frzs pb_w, F, h1, h2, fun H2 hf => ?_⟩
  obtain ⟨S2, s2, t2, r2⟩ := h3 H2 hf
  obtain ⟨v', e1, e0⟩ := t.slot i _ hv
  have e0' : v' = v := e0
  subst e0'
  have e2 : σ.set i (some v') = σ := by
    apply List.ext_getElem?
    intro j
    by_cases q : i = j
    · subst q
      rw [List.getElem?_set_self (by rw [t.len]; exact hl), e1]
    · rw [List.getElem?_set_ne q]
  have t3 := t2.set r2 hl
  rw [e2] at t3
  exact h hp S2 H2 σ t3
end
end OW
namespace OW
open PySem PySem.Spec PyProof.Rows L2 OT

def MP.o (m : MP) : OP := ⟨fun S _ A v => A = [] ∧ m.R S v, fun e _ h => ⟨h.1, m.up e h.2⟩⟩
theorem stl_m {m : MP} : Stl (MP.o m) m := fun S H A v ⟨h1, h2⟩ nd hA => ⟨[], .nil, (fun _ h => by cases h), fun H' _ => by subst h1; exact h2⟩
theorem lend_m {m : MP} : Lend (MP.o m) m.b := fun S H A v ⟨h1, h2⟩ H' _ _ => h2
def AllO : List OP → Hp → Hp → List Addr → List V → Prop
  | [], _, _, A, [] => A = []
  | P :: Ps, S, H, A, v :: vs => ∃ A1 A2, A = A1 ++ A2 ∧ P.R S H A1 v ∧ AllO Ps S H A2 vs
  | _, _, _, _, _ => False
theorem AllO.fr : ∀ {Ps : List OP} {S S' H H' : Hp} {A : List Addr} {vs : List V}, Same S S' → (∀ a ∈ A, H' a = H a) → AllO Ps S H A vs → AllO Ps S' H' A vs
  | [], _, _, _, _, _, [], _, _, h => h
  | [], _, _, _, _, _, _ :: _, _, _, h => h.elim
  | _ :: _, _, _, _, _, _, [], _, _, h => h.elim
  | P :: Ps, _, _, _, _, _, v :: vs, e, hA, ⟨A1, A2, z, h1, h2⟩ => by
    subst z
    exact ⟨A1, A2, rfl, P.fr e (fun a ha => hA a (List.mem_append_left _ ha)) h1, AllO.fr e (fun a ha => hA a (List.mem_append_right _ ha)) h2⟩
theorem AllO.length : ∀ {Ps : List OP} {S H : Hp} {A : List Addr} {vs : List V}, AllO Ps S H A vs → vs.length = Ps.length
  | [], _, _, _, [], _ => rfl
  | [], _, _, _, _ :: _, h => h.elim
  | _ :: _, _, _, _, [], h => h.elim
  | P :: Ps, _, _, _, v :: vs, ⟨A1, A2, _, _, h⟩ => congrArg Nat.succ (AllO.length h)
theorem AllO.ofM {S H : Hp} : ∀ {Rs : List MP} {vs : List V}, AllM Rs S vs → AllO (Rs.map MP.o) S H [] vs
  | [], [], _ => rfl
  | [], _ :: _, h => h.elim
  | _ :: _, [], h => h.elim
  | R :: Rs, v :: vs, h => ⟨[], [], rfl, ⟨rfl, h.1⟩, AllO.ofM h.2⟩
theorem AllO.toM {S H : Hp} : ∀ {Rs : List MP} {A : List Addr} {vs : List V}, AllO (Rs.map MP.o) S H A vs → A = [] ∧ AllM Rs S vs
  | [], _, [], h => ⟨h, trivial⟩
  | [], _, _ :: _, h => h.elim
  | _ :: _, _, [], h => h.elim
  | R :: Rs, _, v :: vs, ⟨A1, A2, z, h1, h2⟩ => by
    obtain ⟨e, h3⟩ := AllO.toM h2
    obtain ⟨e1, h4⟩ := h1
    subst e
    subst e1
    exact ⟨z, h4, h3⟩
theorem AllO.append {S H : Hp} : ∀ {Ps Qs : List OP} {A A' : List Addr} {vs ws : List V}, AllO Ps S H A vs → AllO Qs S H A' ws → AllO (Ps ++ Qs) S H (A ++ A') (vs ++ ws)
  | [], _, _, _, [], _, h, h' => by cases h; exact h'
  | [], _, _, _, _ :: _, _, h, _ => h.elim
  | _ :: _, _, _, _, [], _, h, _ => h.elim
  | P :: Ps, _, _, _, v :: vs, _, ⟨A1, A2, z, h1, h2⟩, h' => ⟨A1, A2 ++ _, by rw [z, List.append_assoc], h1, AllO.append h2 h'⟩
def oL (Ps : List OP) : OP := ⟨fun S H A v => ∃ p vs A', v = .ref p ∧ A = p :: A' ∧ H p = some (.lst vs) ∧ AllO Ps S H A' vs,
  fun {S S' H H' A v} e hA ⟨p, vs, A', h1, h2, h3, h4⟩ => ⟨p, vs, A', h1, h2, by rw [hA p (by rw [h2]; exact List.mem_cons_self)]; exact h3, h4.fr e fun a ha => hA a (by rw [h2]; exact List.mem_cons_of_mem _ ha)⟩⟩
abbrev oLs {α : Type} (f : α → MP) (xs : List α) : OP := oL (xs.map fun x => MP.o (f x))
abbrev tLs {α : Type} (K : PySem.W.Frag) (f : α → MP) (xs : List α) : MP := tL K (xs.map f)
abbrev tTs {α : Type} (K : PySem.W.Frag) (f : α → MP) (xs : List α) : MP := tT K (xs.map f)
theorem AllM.toR {S H : Hp} : ∀ {Rs : List MP} {vs : List V}, AllM Rs S vs → AllR (Rs.map MP.b) S H vs
  | [], [], _ => trivial
  | [], _ :: _, h => h.elim
  | _ :: _, [], h => h.elim
  | R :: Rs, v :: vs, h => ⟨h.1, AllM.toR h.2⟩
theorem AllM.toB {α : Type} {f : α → MP} {S H : Hp} {xs : List α} {vs : List V} (h : AllM (xs.map f) S vs) : AllR (xs.map fun x => (f x).b) S H vs := by
  have := AllM.toR (H := H) h
  rw [List.map_map] at this
  exact this
theorem AllR.toM {α : Type} {f : α → MP} {S H : Hp} {xs : List α} {vs : List V} (h : AllR (xs.map fun x => (f x).b) S H vs) : AllM (xs.map f) S vs := by
  refine AllM.ofR (H := H) ?_
  rw [List.map_map]
  exact h
theorem AllO.ofS {α : Type} {f : α → MP} {S H : Hp} {xs : List α} {vs : List V} (h : AllM (xs.map f) S vs) : AllO (xs.map fun x => MP.o (f x)) S H [] vs := by
  have := AllO.ofM (H := H) h
  rw [List.map_map] at this
  exact this
theorem AllO.toS {α : Type} {f : α → MP} {S H : Hp} {xs : List α} {A : List Addr} {vs : List V} (h : AllO (xs.map fun x => MP.o (f x)) S H A vs) : A = [] ∧ AllM (xs.map f) S vs := by
  refine AllO.toM (H := H) ?_
  rw [List.map_map]
  exact h
def bLB (Rs : List BP) : BP := ⟨fun S H v => ∃ a vs, v = .ref a ∧ H a = some (.lst vs) ∧ AllR Rs S H vs, fun e e' ⟨a, vs, h1, h2, h3⟩ => ⟨a, vs, h1, e' _ _ h2, h3.up e e'⟩⟩
def bTB (Rs : List BP) : BP := ⟨fun S H v => ∃ a vs, v = .ref a ∧ H a = some (.tup vs) ∧ AllR Rs S H vs, fun e e' ⟨a, vs, h1, h2, h3⟩ => ⟨a, vs, h1, e' _ _ h2, h3.up e e'⟩⟩
def bQB (K : PySem.W.Frag) (Rs : List BP) : BP := ⟨fun S H v => ∃ a vs, v = .ref a ∧ (SqL K H a vs ∨ SqT K H a vs) ∧ AllR Rs S H vs, fun e e' ⟨a, vs, h1, h2, h3⟩ => ⟨a, vs, h1, h2.elim (fun h => .inl (e'.seq h)) (fun h => .inr (Same.tup e' h)), h3.up e e'⟩⟩
abbrev rL {α : Type} (f : α → MP) (xs : List α) : BP := bLB (xs.map fun x => (f x).b)
abbrev rT {α : Type} (f : α → MP) (xs : List α) : BP := bTB (xs.map fun x => (f x).b)
abbrev rQ {α : Type} (K : PySem.W.Frag) (f : α → MP) (xs : List α) : BP := bQB K (xs.map fun x => (f x).b)
theorem bL_q {K : PySem.W.Frag} {Rs : List BP} {S H : Hp} {v : V} (h : (bLB Rs).R S H v) : (bQB K Rs).R S H v := let ⟨a, vs, h1, h2, h3⟩ := h; ⟨a, vs, h1, .inl (SqL.of h2), h3⟩
theorem bT_q {K : PySem.W.Frag} {Rs : List BP} {S H : Hp} {v : V} (h : (bTB Rs).R S H v) : (bQB K Rs).R S H v := let ⟨a, vs, h1, h2, h3⟩ := h; ⟨a, vs, h1, .inr (SqT.of h2), h3⟩
theorem lend_items {S H H' : Hp} {α : Type} {F : α → OP} {G : α → BP} (hl : ∀ x, Lend (F x) (G x)) (sm : Same S H') : ∀ {xs : List α} {A : List Addr} {vs : List V}, (∀ a ∈ A, H' a = H a) → AllO (xs.map F) S H A vs → AllR (xs.map G) S H' vs
  | [], _, [], _, _ => trivial
  | [], _, _ :: _, _, h => h.elim
  | _ :: _, _, [], _, h => h.elim
  | x :: xs, _, v :: vs, hA, ⟨A1, A2, z, h1, h2⟩ => by
    subst z
    exact ⟨hl x S H A1 v h1 H' (fun a ha => hA a (List.mem_append_left _ ha)) sm, lend_items hl sm (fun a ha => hA a (List.mem_append_right _ ha)) h2⟩
theorem lend_L {α : Type} {F : α → OP} {G : α → BP} {xs : List α} (hl : ∀ x, Lend (F x) (G x)) : Lend (oL (xs.map F)) (bLB (xs.map G)) := fun S H A v ⟨p, vs, A', h1, h2, h3, h4⟩ H' hA sm =>
  ⟨p, vs, h1, by rw [hA p (by rw [h2]; exact List.mem_cons_self)]; exact h3, lend_items hl sm (fun a ha => hA a (by rw [h2]; exact List.mem_cons_of_mem _ ha)) h4⟩
theorem lend_Ls {α : Type} {f : α → MP} {xs : List α} : Lend (oLs f xs) (rL f xs) := lend_L fun _ => lend_m
theorem cut_le {S H : Hp} {A A' : List Addr} (h : ∀ a ∈ A, a ∈ A') (hA : ∀ a ∈ A', S a = none) : Same (cut S H A) (cut S H A') := fun a o z => by
  by_cases q : a ∈ A
  · rw [cut_in q] at z
    rw [cut_in (h a q)]
    exact z
  · rw [cut_out q] at z
    by_cases q' : a ∈ A'
    · rw [hA a q'] at z; cases z
    · rw [cut_out q']; exact z
theorem stl_items {α : Type} {F : α → OP} {M : α → MP} (h : ∀ x, Stl (F x) (M x)) {S H : Hp} : ∀ {xs : List α} {A : List Addr} {vs : List V}, AllO (xs.map F) S H A vs → A.Nodup → (∀ a ∈ A, S a = none) →
    ∃ D : List Addr, D.Nodup ∧ (∀ d ∈ D, d ∈ A ∧ ∃ u, H d = some u ∧ Mut (some u)) ∧ ∀ H', FrzA A D H H' → AllM (xs.map M) (cut S H' A) vs
  | [], _, [], z, _, _ => ⟨[], .nil, (fun _ h => by cases h), fun _ _ => trivial⟩
  | [], _, _ :: _, z, _, _ => z.elim
  | _ :: _, _, [], z, _, _ => z.elim
  | x :: xs, _, v :: vs, ⟨A1, A2, z, h1, h2⟩, nd, hA => by
    subst z
    obtain ⟨n1, n2, n3⟩ := List.nodup_append.mp nd
    obtain ⟨D1, d1, d2, d3⟩ := h x S H A1 v h1 n1 fun a ha => hA a (List.mem_append_left _ ha)
    obtain ⟨D2, e1, e2, e3⟩ := stl_items h h2 n2 fun a ha => hA a (List.mem_append_right _ ha)
    refine ⟨D1 ++ D2, List.nodup_append.mpr ⟨d1, e1, fun a ha b hb => n3 a (d2 a ha).1 b (e2 b hb).1⟩, fun d hd => ?_, fun H' hf => ⟨?_, ?_⟩⟩
    · rcases List.mem_append.mp hd with q | q
      · exact ⟨List.mem_append_left _ (d2 d q).1, (d2 d q).2⟩
      · exact ⟨List.mem_append_right _ (e2 d q).1, (e2 d q).2⟩
    · refine (M x).up (cut_le (fun a ha => List.mem_append_left _ ha) hA) (d3 H' ⟨fun a ha hn => hf.out a (List.mem_append_left _ ha) fun q => ?_, fun d hd => hf.at_ d (List.mem_append_left _ hd)⟩)
      rcases List.mem_append.mp q with q | q
      · exact hn q
      · exact n3 a ha a (e2 a q).1 rfl
    · refine AllM.up (cut_le (fun a ha => List.mem_append_right _ ha) hA) (e3 H' ⟨fun a ha hn => hf.out a (List.mem_append_right _ ha) fun q => ?_, fun d hd => hf.at_ d (List.mem_append_right _ hd)⟩)
      rcases List.mem_append.mp q with q | q
      · exact n3 a (d2 a q).1 a ha rfl
      · exact hn q
theorem stl_L {K : PySem.W.Frag} {α : Type} {F : α → OP} {M : α → MP} {xs : List α} (h : ∀ x, Stl (F x) (M x)) : Stl (oL (xs.map F)) (tL K (xs.map M)) := fun S H A v ⟨p, vs, A', h1, h2, h3, h4⟩ nd hA => by
  subst h2
  obtain ⟨n1, n2⟩ := List.nodup_cons.mp nd
  obtain ⟨D, d1, d2, d3⟩ := stl_items h h4 n2 fun a ha => hA a (List.mem_cons_of_mem _ ha)
  refine ⟨D, d1, fun d hd => ⟨List.mem_cons_of_mem _ (d2 d hd).1, (d2 d hd).2⟩, fun H' hf => ⟨p, vs, h1, ?_, ?_⟩⟩
  · rw [cut_in List.mem_cons_self, hf.out p List.mem_cons_self fun q => n1 (d2 p q).1]
    exact h3
  · exact AllM.up (cut_le (fun a ha => List.mem_cons_of_mem _ ha) hA) (d3 H' ⟨fun a ha hn => hf.out a (List.mem_cons_of_mem _ ha) hn, hf.at_⟩)
theorem stl_Ls {K : PySem.W.Frag} {α : Type} {f : α → MP} {xs : List α} : Stl (oLs f xs) (tLs K f xs) := stl_L fun _ => stl_m
theorem tLs_b {K : PySem.W.Frag} {α : Type} {f : α → MP} {xs : List α} {S H : Hp} {v : V} (sm : Same S H) (h : (tLs K f xs).R S v) : (rL f xs).R S H v := let ⟨a, vs, h1, h2, h3⟩ := h; ⟨a, vs, h1, sm _ _ h2, AllM.toB h3⟩
theorem tTs_b {K : PySem.W.Frag} {α : Type} {f : α → MP} {xs : List α} {S H : Hp} {v : V} (sm : Same S H) (h : (tTs K f xs).R S v) : (rT f xs).R S H v := let ⟨a, vs, h1, h2, h3⟩ := h; ⟨a, vs, h1, sm _ _ h2, AllM.toB h3⟩
section
variable {X : Cx} {B : Bs} {Γ : Gm} {O N N' : Om} {Z : Er → Prop} {e a b c : Expr} {es : List Expr} {p p2 pos pos' : Pos} {D : Ends} {rest body els : List Stmt} {α β γ : Type} {x : Str}
theorem RW.imp {f g : α → BP} {w : Wp α} (h : RW X B Γ O Z N e f w) (i : ∀ a S H v, Same S H → (f a).R S H v → (g a).R S H v) : RW X B Γ O Z N e g w := ⟨h.1, fun S H σ st P Q p n => h.2 S H σ st P Q p fun a v S' H' p1 s1 t1 r1 => n a v S' H' p1 s1 t1 fun Γ2 O2 S2 H2 σ2 s2 t2 hn => i a S2 H2 v t2.sub (r1 Γ2 O2 S2 H2 σ2 s2 t2 hn)⟩
theorem RW.now {f : α → BP} {w : Wp α} (h : RW X B Γ O Z N e f w) : ∀ S H σ, Stt B Γ O S H σ → ∀ (P : α → Prop) (Q : VK), w P Z → (∀ a v S' H', P a → Same S S' → Stt B Γ O S' H' σ → (f a).R S' H' v → (∀ S2 H2, Same S' S2 → Stt B Γ O S2 H2 σ → (f a).R S2 H2 v) → Q v H') → wE X e σ H Q := fun S H σ st P Q p n => h.2 S H σ st P Q p fun a v S' H' p1 s1 t1 r1 => n a v S' H' p1 s1 t1 (r1 _ _ S' H' _ (Same.refl _) t1 h.1) fun S2 H2 s2 t2 => r1 _ _ S2 H2 _ s2 t2 h.1
variable {f : α → MP}
theorem EW.rl {w : Wp (List α)} (h : EW X B Γ O Z e (tLs X.K f) w) : RW X B Γ O Z [] e (rL f) w := h.r fun _ _ _ _ sm r => tLs_b sm r
theorem EW.rt {w : Wp (List α)} (h : EW X B Γ O Z e (tTs X.K f) w) : RW X B Γ O Z [] e (rT f) w := h.r fun _ _ _ _ sm r => tTs_b sm r
theorem RW.q {w : Wp (List α)} (h : RW X B Γ O Z N e (rL f) w) : RW X B Γ O Z N e (rQ X.K f) w := h.imp fun _ _ _ _ _ r => bL_q r
theorem RW.tq {w : Wp (List α)} (h : RW X B Γ O Z N e (rT f) w) : RW X B Γ O Z N e (rQ X.K f) w := h.imp fun _ _ _ _ _ r => bT_q r
theorem AllA.m {Rs : List MP} {S H : Hp} : ∀ {vs : List V}, AllA (Rs.map fun R => .b R.b) S H vs → AllM Rs S vs := by
  induction Rs with
  | nil => intro vs h; cases vs with
    | nil => exact trivial
    | cons _ _ => exact h.elim
  | cons R Rs ih => intro vs h; cases vs with
    | nil => exact h.elim
    | cons v vs => exact ⟨h.1, ih h.2⟩
theorem w_tup {k} {τ : Type} {F : τ → List MP} {w : Wp τ} (h : AW X B Γ O Z N es (fun t => (F t).map fun R => .b R.b) w) (hz : ∀ t, (F t).length ≤ 1000 := by intro _; exact Nat.le_of_ble_eq_true rfl) : EW X B Γ O Z (.Tuple es k pos) (fun t => tT X.K (F t)) w := fun S H σ st P Q p n =>
  ⟨_, pe_tup pa_w, h.2 S H σ st P _ p fun t vs S1 H1 p1 s1 t1 r1 => by
    have r := AllA.m (r1 _ _ S1 H1 _ (Same.refl _) t1 h.1)
    refine ⟨by rw [r.length]; exact Nat.le_trans (hz t) (by decide), fun q hq => ?_⟩
    have s2 := Stp.put (o := .tup vs) t1.sub hq
    exact n t _ _ _ p1 (s1.trans s2.s) (t1.step s2) ⟨q, vs, rfl, upd_same, r.up s2.s⟩⟩
theorem n_lst {τ : Type} {F : τ → List MP} {w : Wp τ} (h : AW X B Γ O Z N es (fun t => (F t).map fun R => .b R.b) w) (hz : ∀ t, (F t).length ≤ 1000 := by intro _; exact Nat.le_of_ble_eq_true rfl) : NW X B Γ O Z (.List es pos) (fun t => oL ((F t).map MP.o)) w := fun S H σ st P Q p n =>
  ⟨_, pe_lst pa_w, h.2 S H σ st P _ p fun t vs S1 H1 p1 s1 t1 r1 => by
    have r := AllA.m (r1 _ _ S1 H1 _ (Same.refl _) t1 h.1)
    refine ⟨by rw [r.length]; exact Nat.le_trans (hz t) (by decide), fun q hq => ?_⟩
    exact n t _ _ _ p1 s1 (t1.add (P := oL ((F t).map MP.o)) hq ⟨q, vs, [], rfl, rfl, upd_same, AllO.ofM r⟩) trivial⟩
abbrev W.get {α : Type} (xs : List α) (i : Int) : Wp α := fun Q _ => ∃ x, atI xs i = some x ∧ Q x
theorem AllR.get : ∀ {Rs : List BP} {S H : Hp} {vs : List V} {i : Nat} {R : BP}, AllR Rs S H vs → Rs[i]? = some R → ∃ v, vs[i]? = some v ∧ R.R S H v
  | [], _, _, _, _, _, _, e => by simp at e
  | _ :: _, _, _, [], _, _, h, _ => h.elim
  | Q :: Rs, _, _, v :: vs, 0, R, h, e => by
    simp at e; subst e; exact ⟨v, rfl, h.1⟩
  | Q :: Rs, _, _, v :: vs, i + 1, R, h, e => by
    have e2 : Rs[i]? = some R := by simpa using e
    obtain ⟨w, h1, h2⟩ := AllR.get h.2 e2
    exact ⟨w, by simpa using h1, h2⟩
theorem atI_map {g : α → β} {xs : List α} {i : Int} {x : α} (h : atI xs i = some x) : atI (xs.map g) i = some (g x) := by
  unfold atI at h ⊢
  rw [List.length_map]
  cases e : ixN xs.length i with
  | none => rw [e] at h; cases h
  | some j =>
    rw [e] at h
    show (xs.map g)[j]? = _
    have h' : xs[j]? = some x := h
    rw [List.getElem?_map, h']
    rfl
theorem atI_get {Rs : List BP} {S H : Hp} {vs : List V} {i : Int} {R : BP} (h : AllR Rs S H vs) (e : atI Rs i = some R) : ∃ v, atI vs i = some v ∧ R.R S H v := by
  unfold atI at e ⊢
  rw [h.length]
  cases q : ixN Rs.length i with
  | none => rw [q] at e; cases e
  | some j =>
    rw [q] at e
    exact AllR.get h e
def rIxQ (K : PySem.W.Frag) : R2 := fun x y H Q => ∃ p vs i v, x = .ref p ∧ y = .int i ∧ (SqL K H p vs ∨ SqT K H p vs) ∧ atI vs i = some v ∧ Q v H
theorem ix_q : IxR X (rIxQ X.K) := fun va sl pins s σ H x y v u Q I rx ry hz hss => by
  obtain ⟨p, vs, i, v, e1, e2, h2, h3, q⟩ := hz
  rcases h2 with h2 | h2
  · exact ix_list va sl pins s σ H _ _ _ _ Q I rx ry ⟨p, vs, i, v, e1, e2, h2, h3, q⟩ hss
  · exact ix_tup va sl pins s σ H _ _ _ _ Q I rx ry ⟨p, vs, i, v, e1, e2, h2, h3, q⟩ hss
theorem w_ix {wa : Wp (List α)} {wb : Wp Int} (ha : RW X B Γ O Z N a (rQ X.K f) wa) (hb : EW X B Γ O Z b tI wb) (hs : PlainIx b := by exact fun _ _ => rfl) : EW X B Γ O Z (.Subscript a b pos) f (W.bind wa fun xs => W.bind wb fun i => W.get xs i) := fun S H σ st P Q p n =>
  ⟨_, pe_ix ix_q pe_w pe_w hs, ha.now S H σ st _ _ p fun xs u S1 H1 p1 s1 t1 _ r1 => hb S1 H1 σ t1 _ _ p1 fun i v S2 H2 p2 s2 t2 r2 => by
    obtain ⟨x, hx, px⟩ := p2
    obtain ⟨q, vs, rfl, h2, h3⟩ := r1 S2 H2 s2 t2
    cases r2
    obtain ⟨y, h4, h5⟩ := atI_get h3 (atI_map (g := fun x => (f x).b) hx)
    exact ⟨q, vs, i, y, rfl, rfl, h2, h4, n x y S2 H2 px (s1.trans s2) t2 h5⟩⟩
theorem w_ixT {τ : Type} {F : τ → List MP} {w : Wp τ} {i : Int} {g : β → MP} (k : τ → β) {j} {p3 : Pos} (ha : EW X B Γ O Z a (fun t => tT X.K (F t)) w) (hi : ∀ t, atI (F t) i = some (g (k t)) := by intro _; rfl) (hs : PlainIx (.Constant (.int i) j p3) := by exact fun _ _ => rfl) : EW X B Γ O Z (.Subscript a (.Constant (.int i) j p3) pos) g (W.bind w fun t => W.ret (k t)) := fun S H σ st P Q p n =>
  ⟨_, pe_ix ix_tup pe_w pe_int hs, ha S H σ st _ _ p fun t u S1 H1 p1 s1 t1 ⟨q, vs, e, h2, h3⟩ => by
    obtain ⟨y, h4, h5⟩ := atI_get (AllM.toR (H := H1) h3) (atI_map (g := MP.b) (hi t))
    exact ⟨q, vs, i, y, e, rfl, SqT.of (t1.sub _ _ h2), h4, n _ y S1 H1 p1 s1 t1 h5⟩⟩
def AnsV (r : List V → Hp → VK → Prop) (b : α → BP) (g : β → MP) (k : α → Wp β) (Z : Er → Prop) : Prop := ∀ x S H v, Same S H → (b x).R S H v → ∀ (P : β → Prop) (Q : VK), k x P Z → (∀ y t S' H', P y → Stp S H S' H' → (g y).R S' t → Q t H') → r [v] H Q
def AnsN (r : List V → Hp → VK → Prop) (b : α → BP) (g : β → OP) (k : α → Wp β) (Z : Er → Prop) : Prop := ∀ x S H v, Same S H → (b x).R S H v → ∀ (P : β → Prop) (Q : VK), k x P Z → (∀ y p o, P y → H p = none → (g y).R S (upd H p o) [p] (.ref p) → Q (.ref p) (upd H p o)) → r [v] H Q
section
variable {g : β → MP} {go : β → OP} {bb : α → BP} {k : α → Wp β} {w : Wp α} {r : List V → Hp → VK → Prop}
theorem w_callB1 {id : String} (ha : RN X B Γ O Z e bb w) (hc : CallR X (.builtin id) r) (hv : bootBuiltins x = some (.builtin id)) (hq : AnsV r bb g k Z) (hm : X.mg x = none) (hg : Gl X x := by rfl) (hn : x ≠ "__name__" := by decide) (hdb : (x == ("__debug__" : Str)) = false := by decide)
    (he : starEach [e] X.env = (false, eval e X.env) :: starEach [] X.env := by rfl) : EW X B Γ O Z (.Call (.Name x p) [e] [] pos) g (W.bind w k) := fun S H σ st P Q p n =>
  ⟨_, pe_callB hc hg hm hv (pa_cons pe_w pa_nil he) hn hdb he rfl, ha S H σ st _ _ p fun y u S1 H1 p1 s1 t1 r1 => hq y S1 H1 u t1.sub r1 P Q p1 fun y' t S' H' p' s' r' => n y' t S' H' p' (s1.trans s'.s) (t1.step s') r'⟩
theorem w_callTy1 {T : String} (ha : RN X B Γ O Z e bb w) (hc : CallR X (.type T) r) (hv : bootBuiltins x = some (.type T)) (hq : AnsV r bb g k Z) (hm : X.mg x = none) (hg : Gl X x := by rfl) (hn : x ≠ "__name__" := by decide) (hdb : (x == ("__debug__" : Str)) = false := by decide)
    (he : starEach [e] X.env = (false, eval e X.env) :: starEach [] X.env := by rfl) : EW X B Γ O Z (.Call (.Name x p) [e] [] pos) g (W.bind w k) := fun S H σ st P Q p n =>
  ⟨_, pe_callTy hc hg hm hv (pa_cons pe_w pa_nil he) hn hdb he rfl, ha S H σ st _ _ p fun y u S1 H1 p1 s1 t1 r1 => hq y S1 H1 u t1.sub r1 P Q p1 fun y' t S' H' p' s' r' => n y' t S' H' p' (s1.trans s'.s) (t1.step s') r'⟩
theorem n_callTy1 {T : String} (ha : RN X B Γ O Z e bb w) (hc : CallR X (.type T) r) (hv : bootBuiltins x = some (.type T)) (hq : AnsN r bb go k Z) (hm : X.mg x = none) (hg : Gl X x := by rfl) (hn : x ≠ "__name__" := by decide) (hdb : (x == ("__debug__" : Str)) = false := by decide)
    (he : starEach [e] X.env = (false, eval e X.env) :: starEach [] X.env := by rfl) : NW X B Γ O Z (.Call (.Name x p) [e] [] pos) go (W.bind w k) := fun S H σ st P Q p n =>
  ⟨_, pe_callTy hc hg hm hv (pa_cons pe_w pa_nil he) hn hdb he rfl, ha S H σ st _ _ p fun y u S1 H1 p1 s1 t1 r1 => hq y S1 H1 u t1.sub r1 P Q p1 fun y' q o p' hq' r' => n y' _ S1 _ p' s1 (t1.add hq' r') trivial⟩
end
theorem EW.rb {w : Wp α} (h : EW X B Γ O Z e f w) : RW X B Γ O Z [] e (fun a => (f a).b) w := h.r fun _ _ _ _ _ r => r
theorem w_len {w : Wp (List α)} (hm : X.mg "len" = none) (ha : RN X B Γ O Z e (rQ X.K f) w) (hg : Gl X "len" := by rfl) (he : starEach [e] X.env = (false, eval e X.env) :: starEach [] X.env := by rfl) : EW X B Γ O Z (.Call (.Name "len" p) [e] [] pos) tI (W.bind w fun xs => W.ret (xs.length : Int)) :=
  w_callB1 ha call_len_seq (by decide +kernel) (fun xs S H v sm ⟨q, ws, e1, h1, h2⟩ P Q p n => ⟨q, ws, by rw [e1], h1, n _ _ S H p (Stp.refl sm) (by rw [h2.length, List.length_map]; rfl)⟩) hm hg (by decide) (by decide) he
theorem w_abs {w : Wp Int} (hm : X.mg "abs" = none) (ha : EW X B Γ O Z e tI w) (hg : Gl X "abs" := by rfl) (he : starEach [e] X.env = (false, eval e X.env) :: starEach [] X.env := by rfl) : EW X B Γ O Z (.Call (.Name "abs" p) [e] [] pos) tI (W.bind w fun i => W.ret (i.natAbs : Int)) :=
  w_callB1 ha.rb.rn call_abs (by decide +kernel) (fun i S H v sm h P Q p n => by cases h; exact ⟨i, rfl, n _ _ S H p (Stp.refl sm) (by rw [abs_ite]; rfl)⟩) hm hg (by decide) (by decide) he
theorem w_intI {w : Wp Int} (hm : X.mg "int" = none) (ha : EW X B Γ O Z e tI w) (hg : Gl X "int" := by rfl) (he : starEach [e] X.env = (false, eval e X.env) :: starEach [] X.env := by rfl) : EW X B Γ O Z (.Call (.Name "int" p) [e] [] pos) tI w :=
  w_callTy1 (k := fun i => W.ret i) ha.rb.rn call_int1 (by decide +kernel) (fun i S H v sm h P Q p n => by cases h; exact .inl ⟨i, rfl, n _ _ S H p (Stp.refl sm) rfl⟩) hm hg (by decide) (by decide) he
theorem w_intB {w : Wp Bool} (hm : X.mg "int" = none) (ha : EW X B Γ O Z e tB w) (hg : Gl X "int" := by rfl) (he : starEach [e] X.env = (false, eval e X.env) :: starEach [] X.env := by rfl) : EW X B Γ O Z (.Call (.Name "int" p) [e] [] pos) tI (W.bind w fun i => W.ret (if i then (1 : Int) else 0)) :=
  w_callTy1 ha.rb.rn call_int1 (by decide +kernel) (fun i S H v sm h P Q p n => by cases h; exact .inr ⟨i, rfl, n _ _ S H p (Stp.refl sm) rfl⟩) hm hg (by decide) (by decide) he
theorem w_boolI {w : Wp Int} (hm : X.mg "bool" = none) (ha : EW X B Γ O Z e tI w) (hg : Gl X "bool" := by rfl) (he : starEach [e] X.env = (false, eval e X.env) :: starEach [] X.env := by rfl) : EW X B Γ O Z (.Call (.Name "bool" p) [e] [] pos) tB (W.bind w fun i => W.ret (i != 0)) :=
  w_callTy1 ha.rb.rn call_bool1 (by decide +kernel) (fun i S H v sm h P Q p n => by cases h; exact .inl ⟨i, rfl, n _ _ S H p (Stp.refl sm) rfl⟩) hm hg (by decide) (by decide) he
theorem n_list {w : Wp (List α)} (hm : X.mg "list" = none) (ha : RN X B Γ O Z e (rQ X.K f) w) (hg : Gl X "list" := by rfl) (he : starEach [e] X.env = (false, eval e X.env) :: starEach [] X.env := by rfl) : NW X B Γ O Z (.Call (.Name "list" p) [e] [] pos) (oLs f) w :=
  n_callTy1 (k := fun i => W.ret i) ha call_list_of (by decide +kernel) (fun xs S H v sm ⟨q, ws, e1, h1, h2⟩ P Q p n => ⟨q, ws, by rw [e1], h1, fun l hl => n xs l _ p hl ⟨l, ws, [], rfl, rfl, upd_same, AllO.ofS (AllR.toM h2)⟩⟩) hm hg (by decide) (by decide) he
theorem w_tuple {w : Wp (List α)} (hm : X.mg "tuple" = none) (ha : RN X B Γ O Z e (rL f) w) (hg : Gl X "tuple" := by rfl) (he : starEach [e] X.env = (false, eval e X.env) :: starEach [] X.env := by rfl) : EW X B Γ O Z (.Call (.Name "tuple" p) [e] [] pos) (tTs X.K f) w :=
  w_callTy1 (k := fun i => W.ret i) ha call_tuple_of (by decide +kernel) (fun xs S H v sm ⟨q, ws, e1, h1, h2⟩ P Q p n => ⟨q, ws, by rw [e1], .inl ⟨SqL.of h1, fun l hl => by
    have s2 := Stp.put (o := .tup ws) sm hl
    exact n xs _ _ _ p s2 ⟨l, ws, rfl, upd_same, AllM.up s2.s (AllR.toM h2)⟩⟩⟩) hm hg (by decide) (by decide) he
end
end OW
namespace OW
open PySem PySem.Spec PyProof.Rows L2 OT

def tRat (K : PySem.W.Frag) (q : Rt) : MP := tO (He.ga K "Ratio") [("top", tI q.top), ("bottom", tI q.bottom)]
def tZs {α : Type} (K : PySem.W.Frag) (f : α → MP) (xs : List α) : MP := ⟨fun S v => ∃ a ob vs, v = .ref a ∧ S a = some (.frz ob (.tup vs)) ∧ ob.dict = none ∧ ob.cls = .type "tuple" ∧ AllM (xs.map f) S vs, fun e ⟨a, ob, vs, h0, h1, h2, h4, h3⟩ => ⟨a, ob, vs, h0, e _ _ h1, h2, h4, h3.up e⟩⟩
def tDs {α : Type} (f : α → MP) (kvs : List (Str × α)) : MP := tD (kvs.map fun q => (.inr q.1, f q.2))
def tOrd (K : PySem.W.Frag) (o : Ord) : MP := tO (He.ga K "Order") [("names", tZs K tS o.names), ("above", tDs (tTs K tS) o.above)]
def Er.info (K : PySem.W.Frag) : Er → Str × List (Str × MP)
  | .badNumber n => ("BadNumber", [("n", tI n)])
  | .badNumberR q => ("BadNumber", [("n", tRat K q)])
  | .badText n => ("BadText", [("at", tI n)])
  | .badName s => ("BadName", [("name", tS s)])
  | .dup s => ("DuplicateName", [("name", tS s)])
  | .unknown s => ("UnknownName", [("name", tS s)])
  | .ring l => ("Ring", [("names", tLs K tS l)])
  | .badShares q => ("BadShares", [("total", tRat K q)])
  | .unlike a b => ("UnlikeOrders", [("second", tOrd K b), ("first", tOrd K a)])
  | .notRising a b l => ("NotRising", [("names", tLs K tS l), ("high", tS b), ("low", tS a)])
  | .noThrow => ("NoThrow", [])
  | .hasRing l => ("HasRing", [("names", tLs K tS l)])
  | .noRing => ("NoRing", [])
  | .nothing => ("NothingToUndo", [])
def xF (C : Addr) (fs : List (Str × MP)) : XP := ⟨fun S c d => c = .ref C ∧ (fs = [] ∨ ∃ a ws, d = some a ∧ S a = some (.xd ws) ∧ FldR fs S ws), fun {S S' c d} e ⟨h1, h⟩ => ⟨h1, h.imp id fun ⟨a, ws, h2, h3, h4⟩ => ⟨a, ws, h2, e _ _ h3, h4.up e⟩⟩⟩
def xEr (K : PySem.W.Frag) (x : Er) : XP := xF (He.ga K (x.info K).1) (x.info K).2
def minus (H : Hp) (A : List Addr) : Hp := fun a => if a ∈ A then none else H a
theorem minus_in {H : Hp} {A : List Addr} {a : Addr} (h : a ∈ A) : minus H A a = none := if_pos h
theorem minus_out {H : Hp} {A : List Addr} {a : Addr} (h : a ∉ A) : minus H A a = H a := if_neg h
theorem minus_same {H : Hp} {A : List Addr} : Same (minus H A) H := fun a o z => by
  by_cases q : a ∈ A
  · rw [minus_in q] at z; cases z
  · rw [minus_out q] at z; exact z
inductive AP where
  | b (R : BP)
  | o (P : OP)
def ArgR : List AP → Hp → Hp → Hp → List Addr → List V → Prop
  | [], _, _, _, A, [] => A = []
  | .b R :: r, S, L, H, A, v :: vs => R.R S L v ∧ ArgR r S L H A vs
  | .o P :: r, S, L, H, A, v :: vs => ∃ A1 A2, A = A1 ++ A2 ∧ P.R S H A1 v ∧ ArgR r S L H A2 vs
  | _, _, _, _, _, _ => False
def mutO : List AP → List V → List OP → Om
  | .o _ :: r, v :: vs, M :: Ms => (v, M) :: mutO r vs Ms
  | .b _ :: r, _ :: vs, Ms => mutO r vs Ms
  | _, _, _ => []
def ownP : List AP → List OP
  | [] => []
  | .o P :: r => P :: ownP r
  | .b _ :: r => ownP r
inductive RP where
  | v (R : MP)
  | o (P : OP)
def RP.post (r : RP) (B : Bs) (O : Om) (v : V) (S H : Hp) : Prop := match r with
  | .v R => Stt B [] O S H [] ∧ R.R S v
  | .o P => Stt B [] ((v, P) :: O) S H []
structure Pro (K : PySem.W.Frag) (As : List AP) {ρ : Type} (w : Wp ρ) (res : ρ → RP) (Ms : ρ → List OP) (vs : List V) (H : Hp) (Q : VK) (E : XK) (S : Hp) (A : List Addr) (P : ρ → Prop) (Z : Er → Prop) : Prop where
  sm : Same S H
  nd : A.Nodup
  fr : ∀ a ∈ A, S a = none ∧ H a ≠ none
  ar : ArgR As S (minus H A) H A vs
  w : w P Z
  q : ∀ r v S' H', P r → (res r).post ⟨S, minus H A, .yes⟩ (mutO As vs (Ms r)) v S' H' → Q v H'
  x : ∀ x c d S' H', Z x → Stt ⟨S, minus H A, .yes⟩ [] (mutO As vs (ownP As)) S' H' [] → (xEr K x).R S' c d → E c d H'
def spW {D ρ : Type} (K : PySem.W.Frag) (As : D → List AP) (w : D → Wp ρ) (res : ρ → RP) (Ms : ρ → List OP) : Sp := fun vs H Q E => ∃ d S A P Z, Pro K (As d) (w d) res Ms vs H Q E S A P Z
structure Hd (X : Cx) (B : Bs) (Γ : Gm) (O : Om) (Z : Er → Prop) (W : WX) : Prop where
  tk : Takes X W
  go : ∀ x, Z x → ∀ c d S H σ, Stt B Γ O S H σ → (xEr X.K x).R S c d → W c d σ H
section
variable {P : Program} {w : World} {K : PySem.W.Frag} {mg : Str → Option Value} {base : Heap} {x qual : Str} {params : Arguments} {body : List Stmt} {scope : Scope} {kws : List (Str × V)} {f : Addr} {fd : FuncData}
theorem ArgR.length : ∀ {As : List AP} {S L H : Hp} {A : List Addr} {vs : List V}, ArgR As S L H A vs → vs.length = As.length
  | [], _, _, _, _, [], _ => rfl
  | [], _, _, _, _, _ :: _, h => h.elim
  | .b _ :: _, _, _, _, _, [], h => h.elim
  | .o _ :: _, _, _, _, _, [], h => h.elim
  | .b R :: r, _, _, _, _, v :: vs, h => congrArg Nat.succ (ArgR.length h.2)
  | .o P :: r, _, _, _, _, v :: vs, ⟨_, _, _, _, h⟩ => congrArg Nat.succ (ArgR.length h)
theorem ArgR.own : ∀ {As : List AP} {S L H : Hp} {A : List Addr} {vs : List V}, ArgR As S L H A vs → OwnL S H (mutO As vs (ownP As)) A
  | [], _, _, _, _, [], h => h
  | [], _, _, _, _, _ :: _, h => h.elim
  | .b _ :: _, _, _, _, _, [], h => h.elim
  | .o _ :: _, _, _, _, _, [], h => h.elim
  | .b R :: r, _, _, _, _, v :: vs, h => ArgR.own (As := r) h.2
  | .o P :: r, _, _, _, _, v :: vs, ⟨A1, A2, e, h1, h2⟩ => ⟨A1, A2, e, h1, ArgR.own h2⟩
def gm1 : List AP → List V → Hp → Gm
  | .b R :: r, _ :: vs, L => some (R.at_ L) :: gm1 r vs L
  | .o _ :: r, v :: vs, L => some (tV v) :: gm1 r vs L
  | _, _, _ => []
theorem gm1_len : ∀ {As : List AP} {S L H : Hp} {A : List Addr} {vs : List V}, ArgR As S L H A vs → (gm1 As vs L).length = As.length
  | [], _, _, _, _, [], _ => rfl
  | [], _, _, _, _, _ :: _, h => h.elim
  | .b _ :: _, _, _, _, _, [], h => h.elim
  | .o _ :: _, _, _, _, _, [], h => h.elim
  | .b R :: r, _, _, _, _, v :: vs, h => congrArg Nat.succ (gm1_len (As := r) h.2)
  | .o P :: r, _, _, _, _, v :: vs, ⟨_, _, _, _, h⟩ => congrArg Nat.succ (gm1_len h)
theorem gm1_slot {n : Nat} : ∀ {As : List AP} {S L H : Hp} {A : List Addr} {vs : List V}, ArgR As S L H A vs → ∀ (i : Nat) (R : MP), (gm1 As vs L ++ List.replicate n none)[i]? = some (some R) → ∃ v, (vs.map some ++ List.replicate n none)[i]? = some (some v) ∧ R.R S v
  | [], _, _, _, _, [], _, i, R, e => by
    have e2 : (List.replicate n (none : Option MP))[i]? = some (some R) := e
    have := List.mem_of_getElem? e2
    rw [List.mem_replicate] at this
    cases this.2
  | [], _, _, _, _, _ :: _, h, _, _, _ => h.elim
  | .b _ :: _, _, _, _, _, [], h, _, _, _ => h.elim
  | .o _ :: _, _, _, _, _, [], h, _, _, _ => h.elim
  | .b Q :: r, _, _, _, _, v :: vs, h, 0, R, e => by
    have e2 : Q.at_ _ = R := Option.some.inj (Option.some.inj e)
    subst e2
    exact ⟨v, rfl, h.1⟩
  | .b Q :: r, _, _, _, _, v :: vs, h, i + 1, R, e => gm1_slot (As := r) h.2 i R e
  | .o Q :: r, _, _, _, _, v :: vs, ⟨_, _, _, _, h⟩, 0, R, e => by
    have e2 : tV v = R := Option.some.inj (Option.some.inj e)
    subst e2
    exact ⟨v, rfl, rfl⟩
  | .o Q :: r, _, _, _, _, v :: vs, ⟨_, _, _, _, h⟩, i + 1, R, e => gm1_slot h i R e
theorem stt1 {N : List Str} {As : List AP} {S H : Hp} {A : List Addr} {vs : List V} (sm : Same S H) (nd : A.Nodup) (fr : ∀ a ∈ A, S a = none ∧ H a ≠ none) (h : ArgR As S (minus H A) H A vs) :
    Stt ⟨S, minus H A, .yes⟩ (gm1 As vs (minus H A) ++ List.replicate (N.length - As.length) none) (mutO As vs (ownP As)) S H (start N vs) where
  st := ⟨Same.refl _, sm, minus_same, fun _ h _ => h⟩
  slot := fun i R e => by
    unfold L2.start
    rw [h.length]
    exact gm1_slot h i R e
  len := by
    unfold L2.start
    rw [List.length_append, List.length_append, List.length_map, List.length_replicate, List.length_replicate, h.length, gm1_len h]
  own := ⟨A, nd, fun a ha => ⟨(fr a ha).1, minus_in ha, (fr a ha).2⟩, h.own⟩
  gh := trivial
theorem Stt.bare {B : Bs} {Γ : Gm} {O : Om} {S H : Hp} {σ : L2.St} (t : Stt B Γ O S H σ) : Stt B [] O S H [] := ⟨t.st, (fun i R e => by simp at e), rfl, t.own, t.gh⟩
structure Fin {ρ : Type} (B : Bs) (res : ρ → RP) (Os : ρ → Om) (P : ρ → Prop) (Q : VK) : Prop where
  go : ∀ r v S H, P r → (res r).post B (Os r) v S H → Q v H
theorem fun_ok {D ρ : Type} {As : D → List AP} {wp : D → Wp ρ} {res : ρ → RP} {Ms : ρ → List OP} {N ps : List Str} {k : Nat} (F : FunD K x qual params body scope [] kws f fd) (Sc : FnScope N ps scope) (hl : ∀ d, (As d).length = ps.length)
    (hb : ∀ (cdv : Value) (A : Around) (outer : List Env) (s : Shared) (H0 L S : Hp) (Q : VK) (E : XK) (d : D) (vs : List V) (Pp : ρ → Prop) (Z : Er → Prop), vs.length = ps.length → Room k (A.deeper (envOfC qual scope s.heap.objs.size f cdv)) →
      Fin ⟨S, L, .yes⟩ res (fun r => mutO (As d) vs (Ms r)) Pp Q →
      (∀ Γ O, (mutO (As d) vs (ownP (As d))).Sublist O → Hd (cxOf (L2.CX P w) P w K mg base N qual scope f cdv A outer s H0 E) ⟨S, L, .yes⟩ Γ O Z (fun c d _ H => E c d H)) →
      SW (cxOf (L2.CX P w) P w K mg base N qual scope f cdv A outer s H0 E) ⟨S, L, .yes⟩ (gm1 (As d) vs L ++ List.replicate (N.length - (As d).length) none) (mutO (As d) vs (ownP (As d))) body { nx := fun _ H' => Q .non H', rt := Q } (wp d Pp Z)) : FnOk P w K mg base (L2.CX P w) (k + 1) f fd ps (spW K As wp res Ms) := by
  refine F.ok Sc (fun vs H Q E h => ?_) (fun cdv A outer s H vs Q E hr h => ?_)
  · obtain ⟨d, S, A, Pp, Z, h⟩ := h
    rw [h.ar.length, hl]
  · obtain ⟨d, S, A', Pp, Z, h⟩ := h
    refine hb cdv A outer s H (minus H A') S Q E d vs Pp Z (by rw [h.ar.length, hl]) hr ⟨h.q⟩ (fun Γ O hs => ⟨tk_cx, fun x hx c dd S' H' σ t r => h.x x c dd S' H' hx (t.drop hs).bare r⟩) h.w S H _ (stt1 h.sm h.nd h.fr h.ar)
end
def ArgM : List AA → List AP → Om → Prop
  | [], [], [] => True
  | .b R :: r, .b R' :: r', M => R = R' ∧ ArgM r r' M
  | .t v :: r, .o P :: r', m :: M => m = (v, P) ∧ ArgM r r' M
  | _, _, _ => False
def zipO : Om → List OP → Om
  | m :: M, P :: Ps => (m.1, P) :: zipO M Ps
  | _, _ => []
theorem ArgM.zip {Ps : List OP} {S H : Hp} : ∀ {as : List AA} {As : List AP} {M : Om} {vs : List V}, ArgM as As M → AllA as S H vs → mutO As vs Ps = zipO M Ps := by
  intro as
  induction as generalizing Ps with
  | nil =>
    intro As M vs h g
    cases As with
    | nil => cases M with
      | nil => rfl
      | cons _ _ => exact h.elim
    | cons a As => cases a <;> exact h.elim
  | cons a as ih =>
    intro As M vs h g
    cases a with
    | b R =>
      cases vs with
      | nil => exact g.elim
      | cons v vs =>
        cases As with
        | nil => exact h.elim
        | cons a As =>
          cases a with
          | b R' => exact (ih h.2 g.2 : mutO As vs _ = _)
          | o P => exact h.elim
    | t u =>
      cases vs with
      | nil => exact g.elim
      | cons v vs =>
        cases As with
        | nil => exact h.elim
        | cons a As =>
          cases a with
          | b R' => exact h.elim
          | o P =>
            cases M with
            | nil => exact h.elim
            | cons m M =>
              cases Ps with
              | nil => rfl
              | cons Q Ps =>
                show (v, Q) :: mutO As vs Ps = (m.1, Q) :: zipO M Ps
                rw [ih h.2 g.2, h.1, g.1]
theorem ArgM.own {S H : Hp} : ∀ {as : List AA} {As : List AP} {M : Om} {vs : List V}, ArgM as As M → AllA as S H vs → mutO As vs (ownP As) = M := by
  intro as
  induction as with
  | nil =>
    intro As M vs h g
    cases As with
    | nil => cases M with
      | nil => rfl
      | cons _ _ => exact h.elim
    | cons a As => cases a <;> exact h.elim
  | cons a as ih =>
    intro As M vs h g
    cases a with
    | b R =>
      cases vs with
      | nil => exact g.elim
      | cons v vs =>
        cases As with
        | nil => exact h.elim
        | cons a As =>
          cases a with
          | b R' => exact (ih h.2 g.2 : mutO As vs _ = _)
          | o P => exact h.elim
    | t u =>
      cases vs with
      | nil => exact g.elim
      | cons v vs =>
        cases As with
        | nil => exact h.elim
        | cons a As =>
          cases a with
          | b R' => exact h.elim
          | o P =>
            cases M with
            | nil => exact h.elim
            | cons m M =>
              show (v, P) :: mutO As vs (ownP As) = m :: M
              rw [ih h.2 g.2, h.1, g.1]
theorem ArgM.args {S L H : Hp} : ∀ {as : List AA} {As : List AP} {M : Om} {vs : List V} {A : List Addr}, ArgM as As M → AllA as S L vs → OwnL S H M A → ArgR As S L H A vs := by
  intro as
  induction as with
  | nil =>
    intro As M vs A h g k
    cases As with
    | nil => cases M with
      | nil => cases vs with
        | nil => exact k
        | cons _ _ => exact g.elim
      | cons _ _ => exact h.elim
    | cons a As => cases a <;> exact h.elim
  | cons a as ih =>
    intro As M vs A h g k
    cases a with
    | b R =>
      cases vs with
      | nil => exact g.elim
      | cons v vs =>
        cases As with
        | nil => exact h.elim
        | cons a As =>
          cases a with
          | b R' => exact ⟨h.1 ▸ g.1, ih h.2 g.2 k⟩
          | o P => exact h.elim
    | t u =>
      cases vs with
      | nil => exact g.elim
      | cons v vs =>
        cases As with
        | nil => exact h.elim
        | cons a As =>
          cases a with
          | b R' => exact h.elim
          | o P =>
            cases M with
            | nil => exact h.elim
            | cons m M =>
              obtain ⟨A1, A2, e, k1, k2⟩ := k
              have h1 := h.1
              subst h1
              have g1 : v = u := g.1
              subst g1
              exact ⟨A1, A2, e, k1, ih h.2 g.2 k2⟩
section
variable {X : Cx} {B : Bs} {Γ : Gm} {O N : Om} {Z : Er → Prop} {e a b c o : Expr} {es : List Expr} {p p2 pos pos' apos : Pos} {Ds : Ends} {rest body els : List Stmt} {α β γ : Type} {x m : Str} {Wx : WX}
theorem Stt.call {M R : Om} {S H : Hp} {σ : L2.St} (t : Stt B Γ (M ++ R) S H σ) : ∃ A, A.Nodup ∧ (∀ a ∈ A, S a = none ∧ H a ≠ none) ∧ OwnL S H M A ∧ Stt B Γ R S (minus H A) σ ∧ ∀ O' S' H', Stt ⟨S, minus H A, .yes⟩ [] O' S' H' [] → Stt B Γ (O' ++ R) S' H' σ := by
  obtain ⟨A, nd, hA, h⟩ := t.own
  obtain ⟨A1, A2, e, h1, h2⟩ := h.split
  subst e
  obtain ⟨n1, n2, n3⟩ := List.nodup_append.mp nd
  have o2 : ∀ a ∈ A2, a ∉ A1 := fun a ha q => n3 a q a ha rfl
  have st1 : Stp B.S B.H S (minus H A1) := ⟨t.st.s, fun a o z => ?_, fun a o z => ?_, t.st.fr⟩
  · have t1 : Stt B Γ R S (minus H A1) σ := ⟨st1, t.slot, t.len, ⟨A2, n2, fun a ha => ?_, h2.fr (Same.refl _) fun a ha => minus_out (o2 a ha)⟩, t.gh⟩
    · refine ⟨A1, n1, fun a ha => ⟨(hA a (List.mem_append_left _ ha)).1, (hA a (List.mem_append_left _ ha)).2.2⟩, h1, t1, fun O' S' H' t2 => ?_⟩
      obtain ⟨A', nd', hA', h'⟩ := t2.own
      have keep : ∀ a ∈ A2, H' a = minus H A1 a := fun a ha => by
        cases z : minus H A1 a with
        | none => rw [minus_out (o2 a ha)] at z; exact absurd z (hA a (List.mem_append_right _ ha)).2.2
        | some o => exact t2.st.h a o z
      refine ⟨st1.trans t2.st, fun i Q e => ?_, t.len, ⟨A' ++ A2, ?_, fun a ha => ?_, h'.append (h2.fr t2.st.s fun a ha => by rw [keep a ha, minus_out (o2 a ha)])⟩, B.P.up t2.st.s t.gh⟩
      · obtain ⟨v, g1, g2⟩ := t.slot i Q e
        exact ⟨v, g1, Q.up t2.st.s g2⟩
      · refine List.nodup_append.mpr ⟨nd', n2, fun a ha b hb z => ?_⟩
        subst z
        have := (hA' a ha).2.1
        rw [show (⟨S, minus H A1, Gho.yes⟩ : Bs).H a = minus H A1 a from rfl, minus_out (o2 a hb)] at this
        exact (hA a (List.mem_append_right _ hb)).2.2 this
      · rcases List.mem_append.mp ha with q | q
        · exact ⟨(hA' a q).1, st1.h.free (hA' a q).2.1, (hA' a q).2.2⟩
        · have y := hA a (List.mem_append_right _ q)
          refine ⟨t2.st.fr a y.1 ?_, y.2.1, ?_⟩
          · show minus H A1 a ≠ none
            rw [minus_out (o2 a q)]; exact y.2.2
          · rw [keep a q, minus_out (o2 a q)]; exact y.2.2
    · have y := hA a (List.mem_append_right _ ha)
      exact ⟨y.1, y.2.1, by rw [minus_out (o2 a ha)]; exact y.2.2⟩
  · rw [minus_out fun q => ?_]
    · exact t.sub a o z
    · have := (hA a (List.mem_append_left _ q)).1
      rw [z] at this
      cases this
  · rw [minus_out fun q => ?_]
    · exact t.st.h a o z
    · have := (hA a (List.mem_append_left _ q)).2.1
      rw [z] at this
      cases this
section
variable {τ D ρ : Type} {As : D → List AP} {wp : D → Wp ρ} {res : ρ → RP} {Ms : ρ → List OP} {F : τ → List AA} {M R : Om} {w : Wp τ}
theorem call_go (hd : Hd X B Γ O Z Wx) (d : D) {as : List AA} (hA : ArgM as (As d) M) (hp : O.Perm (M ++ R)) (hN : ∀ x ∈ N, x ∈ R) {S H : Hp} {σ : L2.St} (t : Stt B Γ O S H σ) {vs : List V} (hv : ∀ Γ2 O2 S2 H2 σ2, Same S S2 → Stt B Γ2 O2 S2 H2 σ2 → (∀ x ∈ N, x ∈ O2) → AllA as S2 H2 vs)
    {P : ρ → Prop} {Q : VK} (hw : wp d P Z) (hQ : ∀ r v S' H', P r → Same S S' → (match res r with | .v Rr => Stt B Γ (zipO M (Ms r) ++ R) S' H' σ ∧ Rr.R S' v | .o Pr => Stt B Γ ((v, Pr) :: (zipO M (Ms r) ++ R)) S' H' σ) → Q v H') : spW X.K As wp res Ms vs H Q (WE Wx σ) := by
  obtain ⟨A, nd, fr, ow, t1, back⟩ := (t.perm hp).call
  have g := hv _ _ S (minus H A) _ (Same.refl _) t1 hN
  refine ⟨d, S, A, P, Z, t.sub, nd, fr, hA.args g ow, hw, fun r v S' H' p h => ?_, fun x c dd S' H' hx h r => ?_⟩
  · rw [hA.zip g] at h
    refine hQ r v S' H' p ?_ ?_
    · cases q : res r with
      | v Rr => rw [q] at h; exact h.1.st.s
      | o Pr => rw [q] at h; exact Stp.s (Stt.st h)
    · cases q : res r with
      | v Rr => rw [q] at h; exact ⟨back _ _ _ h.1, h.2⟩
      | o Pr => rw [q] at h; exact back _ _ _ h
  · rw [hA.own g] at h
    exact hd.go x hx c dd S' H' σ ((back _ _ _ h).perm hp.symm) r
variable {k : Nat} {ps : List Str} {C : Addr}
theorem c_call {f : ρ → MP} (G : GF X.prog X.w X.K X.mg X.base x k ps (spW X.K As wp res Ms)) (hr : Room k X.A) (hd : Hd X B Γ O Z Wx) (d : τ → D) (ha : AW X B Γ O Z N (e :: es) F w) (hA : ∀ t, ArgM (F t) (As (d t)) M) (hp : O.Perm (M ++ R)) (hN : ∀ x ∈ N, x ∈ R) (hf : ∀ r, res r = .v (f r) := by intro _; rfl)
    (hg : Gl X x := by rfl) (hdb : (x == ("__debug__" : Str)) = false := by decide) (he : starEach (e :: es) X.env = (false, eval e X.env) :: starEach es X.env := by rfl) (hpl : (backTo pos (starEach es X.env)).any (·.1) = false := by rfl) : GW X B Γ O Z (.Call (.Name x p) (e :: es) [] pos) f (fun r _ => zipO M (Ms r) ++ R) (W.bind w fun t => wp (d t)) := by
  obtain ⟨g, fd, G, hm, hk, hb⟩ := G
  intro S H σ st P Q p n
  refine ⟨_, pe_callSD G hr hg hm hk hb .nil (fun σ => passAt hd.tk σ) pa_w hdb he hpl, ha.2 S H σ st _ _ p fun t vs S1 H1 p1 s1 t1 r1 => ?_⟩
  show spW X.K As wp res Ms (vs ++ []) H1 Q (WE Wx σ)
  rw [List.append_nil]
  refine call_go hd (d t) (hA t) hp hN t1 r1 p1 fun r v S' H' p2 s2 h => ?_
  rw [hf r] at h
  exact n r v S' H' p2 (s1.trans s2) h.1 h.2
theorem c_callN {f : ρ → OP} (G : GF X.prog X.w X.K X.mg X.base x k ps (spW X.K As wp res Ms)) (hr : Room k X.A) (hd : Hd X B Γ O Z Wx) (d : τ → D) (ha : AW X B Γ O Z N (e :: es) F w) (hA : ∀ t, ArgM (F t) (As (d t)) M) (hp : O.Perm (M ++ R)) (hN : ∀ x ∈ N, x ∈ R) (hf : ∀ r, res r = .o (f r) := by intro _; rfl)
    (hg : Gl X x := by rfl) (hdb : (x == ("__debug__" : Str)) = false := by decide) (he : starEach (e :: es) X.env = (false, eval e X.env) :: starEach es X.env := by rfl) (hpl : (backTo pos (starEach es X.env)).any (·.1) = false := by rfl) : GW X B Γ O Z (.Call (.Name x p) (e :: es) [] pos) (fun _ => tAny) (fun r v => (v, f r) :: (zipO M (Ms r) ++ R)) (W.bind w fun t => wp (d t)) := by
  obtain ⟨g, fd, G, hm, hk, hb⟩ := G
  intro S H σ st P Q p n
  refine ⟨_, pe_callSD G hr hg hm hk hb .nil (fun σ => passAt hd.tk σ) pa_w hdb he hpl, ha.2 S H σ st _ _ p fun t vs S1 H1 p1 s1 t1 r1 => ?_⟩
  show spW X.K As wp res Ms (vs ++ []) H1 Q (WE Wx σ)
  rw [List.append_nil]
  refine call_go hd (d t) (hA t) hp hN t1 r1 p1 fun r v S' H' p2 s2 h => ?_
  rw [hf r] at h
  exact n r v S' H' p2 (s1.trans s2) h trivial
theorem GW.back {f : α → MP} {O' : Om} {w : Wp α} (h : GW X B Γ O Z e f (fun _ _ => O') w) (hp : O'.Perm O) : EW X B Γ O Z e f w := fun S H σ st P Q p n => h S H σ st P Q p fun a v S' H' p1 s1 t1 r1 => n a v S' H' p1 s1 (t1.perm hp) r1
end
end
end OW
namespace OW
open PySem PySem.Spec PyProof.Rows L2 OT NdefX

def FldO : List (Str × OP) → Hp → Hp → List Addr → List (Str × V) → Prop
  | [], _, _, A, [] => A = []
  | (f, P) :: Ps, S, H, A, (g, v) :: vs => f = g ∧ ∃ A1 A2, A = A1 ++ A2 ∧ P.R S H A1 v ∧ FldO Ps S H A2 vs
  | _, _, _, _, _ => False
theorem FldO.fr : ∀ {Ps : List (Str × OP)} {S S' H H' : Hp} {A : List Addr} {vs : List (Str × V)}, Same S S' → (∀ a ∈ A, H' a = H a) → FldO Ps S H A vs → FldO Ps S' H' A vs
  | [], _, _, _, _, _, [], _, _, h => h
  | [], _, _, _, _, _, _ :: _, _, _, h => h.elim
  | _ :: _, _, _, _, _, _, [], _, _, h => h.elim
  | (f, P) :: Ps, _, _, _, _, _, (g, v) :: vs, e, hA, ⟨h0, A1, A2, z, h1, h2⟩ => by
    subst z
    exact ⟨h0, A1, A2, rfl, P.fr e (fun a ha => hA a (List.mem_append_left _ ha)) h1, FldO.fr e (fun a ha => hA a (List.mem_append_right _ ha)) h2⟩
theorem FldO.len : ∀ {Ps : List (Str × OP)} {S H : Hp} {A : List Addr} {vs : List (Str × V)}, FldO Ps S H A vs → vs.length = Ps.length
  | [], _, _, _, [], _ => rfl
  | [], _, _, _, _ :: _, h => h.elim
  | _ :: _, _, _, _, [], h => h.elim
  | _ :: Ps, _, _, _, _ :: vs, ⟨_, _, _, _, _, h⟩ => congrArg Nat.succ (FldO.len h)
def oI (C : Addr) (Ps : List (Str × OP)) : OP := ⟨fun S H A v => ∃ x dx fs A', v = .ref x ∧ A = x :: dx :: A' ∧ H x = some (.ins C dx fs) ∧ H dx = some (.own x) ∧ FldO Ps S H A' fs,
  fun {S S' H H' A v} e hA ⟨x, dx, fs, A', h1, h2, h3, h4, h5⟩ => ⟨x, dx, fs, A', h1, h2, by rw [hA x (by rw [h2]; simp)]; exact h3, by rw [hA dx (by rw [h2]; simp)]; exact h4, h5.fr e fun a ha => hA a (by rw [h2]; exact List.mem_cons_of_mem _ (List.mem_cons_of_mem _ ha))⟩⟩
def StlF : List (Str × OP) → List (Str × MP) → Prop
  | [], [] => True
  | (f, P) :: Ps, (g, M) :: Ms => f = g ∧ Stl P M ∧ StlF Ps Ms
  | _, _ => False
theorem stl_flds {S H : Hp} : ∀ {Ps : List (Str × OP)} {Ms : List (Str × MP)} {A : List Addr} {vs : List (Str × V)}, StlF Ps Ms → FldO Ps S H A vs → A.Nodup → (∀ a ∈ A, S a = none) →
    ∃ D : List Addr, D.Nodup ∧ (∀ d ∈ D, d ∈ A ∧ ∃ u, H d = some u ∧ Mut (some u)) ∧ ∀ H', FrzA A D H H' → FldR Ms (cut S H' A) vs
  | [], [], _, [], _, z, _, _ => ⟨[], .nil, (fun _ h => by cases h), fun _ _ => trivial⟩
  | [], [], _, _ :: _, _, z, _, _ => z.elim
  | [], _ :: _, _, _, h, _, _, _ => h.elim
  | _ :: _, [], _, _, h, _, _, _ => h.elim
  | _ :: _, _ :: _, _, [], _, z, _, _ => z.elim
  | (f, P) :: Ps, (g, M) :: Ms, _, (j, v) :: vs, h, ⟨e0, A1, A2, z, h1, h2⟩, nd, hA => by
    subst z
    obtain ⟨n1, n2, n3⟩ := List.nodup_append.mp nd
    obtain ⟨D1, d1, d2, d3⟩ := h.2.1 S H A1 v h1 n1 fun a ha => hA a (List.mem_append_left _ ha)
    obtain ⟨D2, e1, e2, e3⟩ := stl_flds h.2.2 h2 n2 fun a ha => hA a (List.mem_append_right _ ha)
    refine ⟨D1 ++ D2, List.nodup_append.mpr ⟨d1, e1, fun a ha b hb => n3 a (d2 a ha).1 b (e2 b hb).1⟩, fun d hd => ?_, fun H' hf => ⟨h.1.symm.trans e0, ?_, ?_⟩⟩
    · rcases List.mem_append.mp hd with q | q
      · exact ⟨List.mem_append_left _ (d2 d q).1, (d2 d q).2⟩
      · exact ⟨List.mem_append_right _ (e2 d q).1, (e2 d q).2⟩
    · refine M.up (cut_le (fun a ha => List.mem_append_left _ ha) hA) (d3 H' ⟨fun a ha hn => hf.out a (List.mem_append_left _ ha) fun q => ?_, fun d hd => hf.at_ d (List.mem_append_left _ hd)⟩)
      rcases List.mem_append.mp q with q | q
      · exact hn q
      · exact n3 a ha a (e2 a q).1 rfl
    · refine FldR.up (cut_le (fun a ha => List.mem_append_right _ ha) hA) (e3 H' ⟨fun a ha hn => hf.out a (List.mem_append_right _ ha) fun q => ?_, fun d hd => hf.at_ d (List.mem_append_right _ hd)⟩)
      rcases List.mem_append.mp q with q | q
      · exact n3 a (d2 a q).1 a ha rfl
      · exact hn q
theorem stl_I {C : Addr} {Ps : List (Str × OP)} {Ms : List (Str × MP)} (h : StlF Ps Ms) : Stl (oI C Ps) (tO C Ms) := fun S H A v ⟨x, dx, fs, A', h1, h2, h3, h4, h5⟩ nd hA => by
  subst h2
  obtain ⟨n1, nd1⟩ := List.nodup_cons.mp nd
  obtain ⟨n2, nd2⟩ := List.nodup_cons.mp nd1
  have s3 : ∀ a ∈ A', a ∈ x :: dx :: A' := fun a ha => List.mem_cons_of_mem _ (List.mem_cons_of_mem _ ha)
  obtain ⟨D, d1, d2, d3⟩ := stl_flds h h5 nd2 fun a ha => hA a (s3 a ha)
  refine ⟨D, d1, fun d hd => ⟨s3 d (d2 d hd).1, (d2 d hd).2⟩, fun H' hf => ⟨x, dx, fs, h1, ?_, ?_, ?_⟩⟩
  · rw [cut_in List.mem_cons_self, hf.out x List.mem_cons_self fun q => n1 (List.mem_cons_of_mem _ (d2 x q).1)]
    exact h3
  · rw [cut_in (List.mem_cons_of_mem _ List.mem_cons_self), hf.out dx (List.mem_cons_of_mem _ List.mem_cons_self) fun q => n2 (d2 dx q).1]
    exact h4
  · exact FldR.up (cut_le s3 hA) (d3 H' ⟨fun a ha hn => hf.out a (s3 a ha) hn, hf.at_⟩)
section
variable {X : Cx} {B : Bs} {Γ : Gm} {O N N' : Om} {Z : Er → Prop} {e a b c o : Expr} {es : List Expr} {p p2 pos pos' apos : Pos} {D : Ends} {rest body els : List Stmt} {α β γ : Type} {x m nm fl : Str} {Wx : WX} {C : Addr}
theorem Stt.addM {S H : Hp} {σ : L2.St} {M : MP} {v : V} (t : Stt B Γ O S H σ) (h : M.R S v) : Stt B Γ ((v, MP.o M) :: O) S H σ := ⟨t.st, t.slot, t.len, let ⟨A, nd, hA, q⟩ := t.own; ⟨A, nd, hA, [], A, rfl, ⟨rfl, h⟩, q⟩, t.gh⟩
theorem EW.n {f : α → MP} {w : Wp α} (h : EW X B Γ O Z e f w) : NW X B Γ O Z e (fun a => MP.o (f a)) w := fun S H σ st P Q p n => h S H σ st P Q p fun a v S' H' p1 s1 t1 r1 => n a v S' H' p1 s1 (t1.addM r1) trivial
theorem w_fld {τ : Type} {F : τ → List (Str × MP)} {g : β → MP} {w : Wp τ} (k : τ → β) (cl : Cls X.K C) (n : NoAttr X.K C fl) (he : EW X B Γ O Z o (fun t => tO C (F t)) w) (hf : ∀ t, (F t).lookup fl = some (g (k t)) := by intro _; rfl) (hb : attributeBase o fl X.env (eval o X.env) = eval o X.env := by rfl) : EW X B Γ O Z (.Attribute o fl pos) g (W.bind w fun t => W.ret (k t)) := fun S H σ st P Q p nn =>
  ⟨_, pe_fld pe_w hb, he S H σ st _ _ p fun t v S1 H1 p1 s1 t1 ⟨q, dx, fs, h1, h2, h3, h4⟩ => by
    obtain ⟨u, h5, h6⟩ := h4.get (hf t)
    exact ⟨q, C, dx, fs, u, h1, t1.sub _ _ h2, cl, n, h5, nn _ u S1 H1 p1 s1 t1 h6⟩⟩
theorem FldO.put {f : Str} {R : OP} {v : V} {S H : Hp} {B : List Addr} : ∀ {Rs : List (Str × OP)} {A : List Addr} {vs : List (Str × V)}, FldO Rs S H A vs → Rs.lookup f = Option.none → R.R S H B v → FldO (Rs ++ [(f, R)]) S H (A ++ B) (putF f v vs)
  | [], A, [], e, _, h => by
    cases e
    exact ⟨rfl, B, [], by simp, h, rfl⟩
  | [], _, _ :: _, h, _, _ => h.elim
  | _ :: _, _, [], h, _, _ => h.elim
  | (g, Q) :: Rs, A, (g', w) :: vs, ⟨e0, A1, A2, z, h1, h2⟩, e, hv => by
    subst e0
    rw [List.lookup_cons] at e
    have ne : ¬ g = f := fun z => by
      subst z
      simp at e
    have e' : Rs.lookup f = Option.none := by
      cases q : (f == g) with
      | true => rw [q] at e; cases e
      | false => rw [q] at e; exact e
    show FldO ((g, Q) :: (Rs ++ [(f, R)])) S H (A ++ B) (if g = f then _ else (g, w) :: putF f v vs)
    rw [if_neg ne]
    exact ⟨rfl, A1, A2 ++ B, by rw [z, List.append_assoc], h1, FldO.put h2 e' hv⟩
theorem Stt.join {u v : V} {P R R' : OP} {S H H' : Hp} {σ : L2.St} (t : Stt B Γ ((u, P) :: (v, R) :: O) S H σ)
    (h : ∀ A1 A2, (A1 ++ A2).Nodup → (∀ a ∈ A1 ++ A2, S a = none ∧ H a ≠ none) → P.R S H A1 u → R.R S H A2 v → ∃ A', A'.Nodup ∧ (∀ a ∈ A', a ∈ A1 ++ A2) ∧ (∀ a ∈ A', H' a ≠ none) ∧ (∀ a, a ∉ A2 → H' a = H a) ∧ R'.R S H' A' v) : Stt B Γ ((v, R') :: O) S H' σ := by
  obtain ⟨A, nd, hA, A1, A3, e, h2, A2, A4, e2, h4, h5⟩ := t.own
  subst e2
  subst e
  have hm : ∀ a ∈ A1 ++ A2, a ∈ A1 ++ (A2 ++ A4) := fun a ha => by
    rcases List.mem_append.mp ha with q | q
    · exact List.mem_append_left _ q
    · exact List.mem_append_right _ (List.mem_append_left _ q)
  have nd' := nd
  rw [← List.append_assoc] at nd'
  obtain ⟨n1, n2, n3⟩ := List.nodup_append.mp nd'
  obtain ⟨A', q0, q1, q2, q3, q4⟩ := h A1 A2 n1 (fun a ha => ⟨(hA a (hm a ha)).1, (hA a (hm a ha)).2.2⟩) h2 h4
  have o2 : ∀ a o, H a = some o → a ∉ A2 → H' a = some o := fun a o z hn => by rw [q3 a hn]; exact z
  refine ⟨⟨t.st.s, fun a o z => o2 a o (t.sub a o z) (fun q => ?_), fun a o z => o2 a o (t.st.h a o z) (fun q => ?_), t.st.fr⟩, t.slot, t.len, ⟨A' ++ A4, ?_, fun a ha => ?_, A', A4, rfl, q4, h5.fr (Same.refl _) fun a ha => q3 a fun q => n3 a (List.mem_append_right _ q) a ha rfl⟩, t.gh⟩
  · have := (hA a (hm a (List.mem_append_right _ q))).1
    rw [z] at this; cases this
  · have := (hA a (hm a (List.mem_append_right _ q))).2.1
    rw [z] at this; cases this
  · exact List.nodup_append.mpr ⟨q0, n2, fun a ha b hb => n3 a (q1 a ha) b hb⟩
  · rcases List.mem_append.mp ha with q | q
    · have y := hA a (hm a (q1 a q))
      exact ⟨y.1, y.2.1, q2 a q⟩
    · have y := hA a (List.mem_append_right _ (List.mem_append_right _ q))
      exact ⟨y.1, y.2.1, by rw [q3 a fun z => n3 a (List.mem_append_right _ z) a q rfl]; exact y.2.2⟩
theorem s_fld {i : Nat} {u : V} {Ps : List (Str × OP)} {F : α → OP} {w w' : Wp α} {q : α → Prop} (cl : Cls X.K C) (n : NoAttr X.K C fl) (he : NW X B Γ ((u, oI C Ps) :: O) Z e F w') (h : ∀ a, SW X B Γ ((u, oI C (Ps ++ [(fl, F a)])) :: O) rest D (q a)) (hw : w' = w := by rfl)
    (hG : Γ[i]? = some (some (tV u)) := by rfl) (hN : X.N[i]? = some nm := by rfl) (hl : Ps.lookup fl = none := by first | rfl | decide +kernel) (hz : Ps.length < 100 := by exact Nat.le_of_ble_eq_true rfl) (hv : Vis X.env.scope nm := by first | exact Or.inl rfl | exact Or.inr (Or.inl rfl) | exact Or.inr (Or.inr rfl))
    (hd : (nm == ("__debug__" : Str)) = false := by decide) (hcd : (nm == ("__classdict__" : Str)) = false := by decide)
    (hs : swapsWith e (some (.Attribute (.Name nm p) fl pos')) pos.line X.env = pure false := by rfl) : SW X B Γ ((u, oI C Ps) :: O) (.Assign [.Attribute (.Name nm p) fl pos'] e pos :: rest) D (W.run w Z q) :=
  s_cons fun hq S H σ st => ⟨_, ps_fld (pe_var hN hv hd hcd) pe_w hs, he S H σ st q _ (hw ▸ hq) fun a v S1 H1 p1 s1 t1 r1 => by
    obtain ⟨u', g1, g2⟩ := t1.slot i _ hG
    have g2' : u' = u := g2
    subst g2'
    obtain ⟨A, y, dx, fs, A', e1, e2, e3, e4, e5⟩ := t1.at_ (x := (u', oI C Ps)) (List.mem_cons_of_mem _ List.mem_cons_self)
    have e1' : u' = .ref y := e1
    subst e1'
    refine ⟨_, g1, y, C, dx, fs, rfl, e3, cl, n, by rw [e5.len]; omega, h a p1 S1 _ σ (t1.join fun A1 A2 nd hA h1 h2 => ?_)⟩
    obtain ⟨y', dx', fs', A3, f1, f2, f3, f4, f5⟩ := h2
    cases f1
    subst f2
    rw [e3] at f3
    have f3' := Option.some.inj f3
    injection f3' with k1 k2 k3
    subst k2
    subst k3
    have nin : ∀ z ∈ A1 ++ (y :: dx :: A3), z ∈ A1 → z ≠ y := fun z _ hz q => by
      subst q
      exact (List.nodup_append.mp nd).2.2 z hz z List.mem_cons_self rfl
    have n2 := (List.nodup_append.mp nd).2.1
    have ny : ∀ z ∈ A3, z ≠ y := fun z hz q => (List.nodup_cons.mp n2).1 (by rw [← q]; exact List.mem_cons_of_mem _ hz)
    have ndx : dx ≠ y := fun q => (List.nodup_cons.mp n2).1 (by rw [← q]; exact List.mem_cons_self)
    have pm : (y :: dx :: (A3 ++ A1)).Perm (A1 ++ (y :: dx :: A3)) := by
      have : (y :: dx :: (A3 ++ A1)) = (y :: dx :: A3) ++ A1 := rfl
      rw [this]
      exact List.perm_append_comm
    refine ⟨y :: dx :: (A3 ++ A1), pm.nodup_iff.mpr nd, fun z hz => pm.mem_iff.mp hz, fun z hz => ?_, fun z hz => upd_ne fun q => hz (by rw [q]; exact List.mem_cons_self), y, dx, putF fl v fs, A3 ++ A1, rfl, rfl, upd_same, by rw [upd_ne ndx]; exact f4, ?_⟩
    · by_cases q : z = y
      · rw [q, upd_same]; simp
      · rw [upd_ne q]
        refine (hA z ?_).2
        rcases List.mem_cons.mp hz with z1 | hz
        · exact absurd z1 q
        · rcases List.mem_cons.mp hz with z1 | hz
          · subst z1; exact List.mem_append_right _ (List.mem_cons_of_mem _ List.mem_cons_self)
          · rcases List.mem_append.mp hz with z1 | z1
            · exact List.mem_append_right _ (List.mem_cons_of_mem _ (List.mem_cons_of_mem _ z1))
            · exact List.mem_append_left _ z1
    · exact FldO.put (f5.fr (Same.refl _) fun z hz => upd_ne (ny z hz)) hl ((F a).fr (Same.refl _) (fun z hz => upd_ne (nin z (List.mem_append_left _ hz) hz)) h1)⟩
theorem Stt.born {S H : Hp} {σ : L2.St} {y dy : Addr} (t : Stt B Γ O S H σ) (ny : H y = none) (ndy : H dy = none) (ne : dy ≠ y) : Stt B Γ ((.ref y, oI C []) :: O) S (upd (upd H dy (.own y)) y (.ins C dy [])) σ := by
  have ny1 : upd H dy (.own y) y = none := by rw [upd_ne (Ne.symm ne)]; exact ny
  have s1 : Stp S H S (upd H dy (.own y)) := Stp.own t.sub ndy
  have s2 : Stp S (upd H dy (.own y)) S (upd (upd H dy (.own y)) y (.ins C dy [])) := Stp.own s1.i ny1
  have t2 := t.step (s1.trans s2)
  obtain ⟨A, nd, hA, h⟩ := t.own
  have n1 : y ∉ A := fun q => (hA y q).2.2 ny
  have n2 : dy ∉ A := fun q => (hA dy q).2.2 ndy
  have keep : ∀ a ∈ A, upd (upd H dy (.own y)) y (.ins C dy []) a = H a := fun a ha => by
    rw [upd_ne (fun q => n1 (by rw [← q]; exact ha)), upd_ne (fun q => n2 (by rw [← q]; exact ha))]
  refine ⟨t2.st, t2.slot, t2.len, ⟨y :: dy :: A, List.nodup_cons.mpr ⟨fun q => ?_, List.nodup_cons.mpr ⟨n2, nd⟩⟩, fun a ha => ?_, [y, dy], A, rfl, ⟨y, dy, [], [], rfl, rfl, upd_same, by rw [upd_ne ne, upd_same], rfl⟩, h.fr (Same.refl _) keep⟩, t2.gh⟩
  · rcases List.mem_cons.mp q with q | q
    · exact ne q.symm
    · exact n1 q
  · rcases List.mem_cons.mp ha with q | ha
    · subst q
      exact ⟨t.sub.free ny, t.st.h.free ny, by rw [upd_same]; simp⟩
    · rcases List.mem_cons.mp ha with q | ha
      · subst q
        exact ⟨t.sub.free ndy, t.st.h.free ndy, by rw [upd_ne ne, upd_same]; simp⟩
      · rw [keep a ha]
        exact hA a ha
section
variable {τ Dt ρ : Type} {As : Dt → List AP} {wp : Dt → Wp ρ} {res : ρ → RP} {Ms : ρ → List OP} {F : τ → List AA} {w : Wp τ} {k : Nat} {ps : List Str}
theorem Hd.drop {y : V × OP} (h : Hd X B Γ O Z Wx) : Hd X B Γ (y :: O) Z Wx := ⟨h.tk, fun x hx c d S H σ t r => h.go x hx c d S H σ (t.drop (List.sublist_cons_self _ _)) r⟩
theorem n_make {f : ρ → OP} (G : GC X.prog X.w X.K X.mg X.base x C k ps (spW X.K As wp res Ms)) (hr : Room (k + 1) X.A) (hd : Hd X B Γ O Z Wx) (d : τ → Dt) (ha : AW X B Γ O Z N (e :: es) F w) (hA : ∀ t u, ArgM (.t u :: F t) (As (d t)) [(u, oI C [])]) (hf : ∀ r, res r = .v tN := by intro _; rfl) (hM : ∀ r, Ms r = [f r] := by intro _; rfl)
    (hg : Gl X x := by rfl) (hdb : (x == ("__debug__" : Str)) = false := by decide) (he : starEach (e :: es) X.env = (false, eval e X.env) :: starEach es X.env := by rfl) (hpl : (backTo pos (starEach es X.env)).any (·.1) = false := by rfl) : NW X B Γ O Z (.Call (.Name x p) (e :: es) [] pos) f (W.bind w fun t => wp (d t)) := by
  obtain ⟨g, fd, G, Mk, hm, hb⟩ := G
  intro S H σ st P Q p n
  refine ⟨_, pe_makeS Mk G hr hg hm hb (fun σ => passAt hd.tk σ) pa_w hdb he hpl, ha.2 S H σ st _ _ p fun t vs S1 H1 p1 s1 t1 r1 => fun y dy ny ndy ne => ?_⟩
  have t2 := t1.born (C := C) ny ndy ne
  refine call_go (N := N) (vs := .ref y :: vs) (M := [(.ref y, oI C [])]) (R := O) hd.drop (d t) (hA t (.ref y)) (.refl _) ha.1 t2 (fun Γ2 O2 S2 H2 σ2 s2 t3 hn => ⟨rfl, r1 Γ2 O2 S2 H2 σ2 s2 t3 hn⟩) p1 fun r v S' H' p2 s2 h => ?_
  rw [hf r, hM r] at h
  exact ⟨h.2, n r _ S' H' p2 (s1.trans s2) h.1 trivial⟩
theorem n_makeL {i : Nat} {f : ρ → OP} {y : Str} (G : GC X.prog X.w X.K X.mg X.base y C k ps (spW X.K As wp res Ms)) (hr : Room (k + 1) X.A) (hd : Hd X B Γ O Z Wx) (d : τ → Dt) (ha : AW X B Γ O Z N (e :: es) F w) (hA : ∀ t u, ArgM (.t u :: F t) (As (d t)) [(u, oI C [])]) (hf : ∀ r, res r = .v tN := by intro _; rfl) (hM : ∀ r, Ms r = [f r] := by intro _; rfl)
    (hG : Γ[i]? = some (some (tR C)) := by rfl) (hN : X.N[i]? = some x := by rfl) (hv : Vis X.env.scope x := by first | exact Or.inl rfl | exact Or.inr (Or.inl rfl) | exact Or.inr (Or.inr rfl)) (hcd : (x == ("__classdict__" : Str)) = false := by decide)
    (hdb : (x == ("__debug__" : Str)) = false := by decide) (he : starEach (e :: es) X.env = (false, eval e X.env) :: starEach es X.env := by rfl) (hpl : (backTo pos (starEach es X.env)).any (·.1) = false := by rfl) : NW X B Γ O Z (.Call (.Name x p) (e :: es) [] pos) f (W.bind w fun t => wp (d t)) := by
  obtain ⟨g, fd, G, Mk, hm, hb⟩ := G
  intro S H σ st P Q p n
  refine ⟨_, pe_makeL Mk G hr hN hv hb (fun σ => passAt hd.tk σ) pa_w hdb hcd he hpl, ?_, ha.2 S H σ st _ _ p fun t vs S1 H1 p1 s1 t1 r1 => fun y dy ny ndy ne => ?_⟩
  · obtain ⟨v, h1, h2⟩ := st.slot i _ hG
    cases h2
    exact h1
  have t2 := t1.born (C := C) ny ndy ne
  refine call_go (N := N) (vs := .ref y :: vs) (M := [(.ref y, oI C [])]) (R := O) hd.drop (d t) (hA t (.ref y)) (.refl _) ha.1 t2 (fun Γ2 O2 S2 H2 σ2 s2 t3 hn => ⟨rfl, r1 Γ2 O2 S2 H2 σ2 s2 t3 hn⟩) p1 fun r v S' H' p2 s2 h => ?_
  rw [hf r, hM r] at h
  exact ⟨h.2, n r _ S' H' p2 (s1.trans s2) h.1 trivial⟩
def InsB (C : Addr) (m : Str) (b : BP) : Prop := ∀ S H v, Same S H → b.R S H v → ∃ a dx fs, v = .ref a ∧ H a = some (.ins C dx fs) ∧ fs.lookup m = none
theorem ins_tO {Rs : List (Str × MP)} (h : Rs.lookup m = none := by first | rfl | decide +kernel) : InsB C m (tO C Rs).b := fun S H v sm ⟨a, dx, fs, h1, h2, _, h4⟩ => ⟨a, dx, fs, h1, sm _ _ h2, h4.none h⟩
variable {bo : α → BP} {wo : Wp α} {M R : Om}
theorem c_meth {pl : Sem Bool} {f : ρ → MP} (cl : Cls X.K C) (G : GM X.prog X.w X.K X.mg X.base C m k ps (spW X.K As wp res Ms)) (hr : Room k X.A) (hd : Hd X B Γ O Z Wx) (d : α → τ → Dt) (ho : RW X B Γ O Z N' o bo wo) (hi : ∀ y, InsB C m (bo y)) (ha : AW X B Γ O Z N (e :: es) F w) (hA : ∀ y t, ArgM (.b (bo y) :: F t) (As (d y t)) M) (hp : O.Perm (M ++ R)) (hN : ∀ x ∈ N' ++ N, x ∈ R) (hf : ∀ r, res r = .v (f r) := by intro _; rfl)
    (hst : starEach (e :: es) X.env = (false, eval e X.env) :: starEach es X.env := by rfl) (hpl : (backTo pos (starEach es X.env)).any (·.1) = false := by rfl)
    (ht : eval (.Call (.Attribute o m apos) (e :: es) [] pos) X.env = (do
      let ov ← eval o X.env
      standAt apos.atName
      let (f, first) ← holding [ov] (getMethod ov m pl)
      callWith pos f first (backTo pos (starEach (e :: es) X.env)) (backToKw pos (keywordEach [] X.env))) := by rfl) : GW X B Γ O Z (.Call (.Attribute o m apos) (e :: es) [] pos) f (fun r _ => zipO M (Ms r) ++ R) (W.bind wo fun y => W.bind w fun t => wp (d y t)) := by
  obtain ⟨g, fd, G, Me, hb⟩ := G
  intro S H σ st P Q p n
  refine ⟨_, pe_methS' pe_w cl Me G hr hb (fun σ => passAt hd.tk σ) pa_w hst hpl ht, ho.2 S H σ st _ _ p fun y u S1 H1 p1 s1 t1 r1 => ?_⟩
  obtain ⟨q, dy, fs, rfl, hy, hl⟩ := hi y S1 H1 u t1.sub (r1 _ _ S1 H1 _ (Same.refl _) t1 ho.1)
  refine ⟨q, dy, fs, rfl, hy, hl, ha.2 S1 H1 σ t1 _ _ p1 fun t vs S2 H2 p2 s2 t2 r2 => ?_⟩
  refine call_go (N := N' ++ N) (vs := .ref q :: vs) hd (d y t) (hA y t) hp hN t2 (fun Γ3 O3 S3 H3 σ3 s3 t3 hn => ⟨r1 _ _ S3 H3 _ (s2.trans s3) t3 fun z hz => hn z (List.mem_append_left _ hz), r2 _ _ S3 H3 _ s3 t3 fun z hz => hn z (List.mem_append_right _ hz)⟩) p2 fun r v S' H' p3 s3 h => ?_
  rw [hf r] at h
  exact n r v S' H' p3 ((s1.trans s2).trans s3) h.1 h.2
end
end
end OW
namespace OW
open PySem PySem.Spec PyProof.Rows L2 OT NdefX
section
variable {X : Cx} {B : Bs} {Γ : Gm} {O N N' : Om} {Z : Er → Prop} {e a b c o l : Expr} {es : List Expr} {p p2 pos pos' apos : Pos} {D : Ends} {rest body els : List Stmt} {α β γ τ : Type} {x m nm fl : Str} {Wx : WX} {C : Addr} {Rs : List MP}
def GJ (X : Cx) (B : Bs) (O : Om) (tg : Expr) (R : MP) (Γ Γ' : Gm) (js : List Nat) : Prop := ∀ S H σ v, Stt B Γ O S H σ → R.R S v → ∀ Q : L2.St → Hp → Prop, (∀ σ', Stt B Γ' O S H σ' → OT.Wp js σ σ' → Q σ' H) → wG X tg v σ H Q
theorem g_name {j : Nat} {R : MP} {Γ' : Gm} (hi : X.N[j]? = some x := by rfl) (hG : Γ.set j (some R) = Γ' := by rfl) (hl : j < Γ.length := by exact Nat.le_of_ble_eq_true rfl) (hN : X.N.Nodup := by assumption) (hx : Loc X.env.scope x := by first | exact Or.inl rfl | exact Or.inr rfl)
    (hf : X.fn x = true ∨ X.env.scope.names.lookup x = some .local := by first | exact .inl rfl | exact .inr rfl | assumption) : GJ X B O (.Name x pos) R Γ Γ' [j] := fun S H σ v t r Q q =>
  ⟨_, pg_name hN hi hx hf, q _ (hG ▸ t.set r hl) ⟨fun i hi => List.getElem?_set_ne (fun z => hi (by rw [z]; exact List.mem_singleton.mpr rfl)), List.length_set⟩⟩
def GJs (X : Cx) (B : Bs) (O : Om) (ts : List Expr) (Rs : List MP) (Γ Γ' : Gm) (js : List Nat) : Prop := ∀ S H σ vs, Stt B Γ O S H σ → AllM Rs S vs → ∀ Q : L2.St → Hp → Prop, (∀ σ', Stt B Γ' O S H σ' → OT.Wp js σ σ' → Q σ' H) → ∃ t, PGs X ts t ∧ t vs σ H Q
theorem gs_nil : GJs X B O [] [] Γ Γ [] := fun S H σ vs t r Q q => ⟨_, pgs_nil, by
  cases vs with
  | nil => exact ⟨rfl, q σ t ⟨fun _ _ => rfl, rfl⟩⟩
  | cons _ _ => exact r.elim⟩
theorem gs_cons {tg : Expr} {ts : List Expr} {R : MP} {Γ1 Γ' : Gm} {js ks : List Nat} (h : GJ X B O tg R Γ Γ1 js) (h2 : GJs X B O ts Rs Γ1 Γ' ks) (ha : (assignEach (tg :: ts) X.env).map (·.2) = assign tg X.env :: (assignEach ts X.env).map (·.2) := by rfl) : GJs X B O (tg :: ts) (R :: Rs) Γ Γ' (js ++ ks) := fun S H σ vs t r Q q =>
  match vs, r with
  | v :: vs, r => ⟨_, pgs_cons pg_w pgs_w ha, v, vs, rfl, h S H σ v t r.1 _ fun σ1 t1 w1 => h2 S H σ1 vs t1 r.2 Q fun σ2 t2 w2 => q σ2 t2 ⟨fun i hi => (w2.at_ i fun z => hi (List.mem_append_right _ z)).trans (w1.at_ i fun z => hi (List.mem_append_left _ z)), w2.len.trans w1.len⟩⟩
theorem g_tup {ts : List Expr} {k} {n : Nat} {Γ' : Gm} {js : List Nat} (h : GJs X B O ts Rs Γ Γ' js) (hz : Rs.length = n := by rfl) (hc : X.calm = true := by rfl) (hn : (assignEach ts X.env).length = n := by rfl) (hst : (assignEach ts X.env).findIdx? (·.1) = none := by rfl) : GJ X B O (.Tuple ts k pos) (tT X.K Rs) Γ Γ' js := fun S H σ v t ⟨a, vs, hv, h1, h2⟩ Q q =>
  ⟨_, pg_tup hc pgs_w hn hst, a, vs, hv, SqT.of (t.sub _ _ h1), by rw [h2.length, hz], h S H σ vs t h2 Q q⟩
theorem s_par {i j : Nat} {x y : Str} {f : α → MP} {g : β → MP} {w w' : Wp (α × β)} {wa : Wp α} {wb : Wp β} {q : α × β → Prop} {px py pt : Pos} {kt k2 pt2} (ha : EW X B Γ O Z a f wa) (hb : EW X B Γ O Z b g wb) (h : ∀ t : α × β, SW X B ((Γ.set i (some (f t.1))).set j (some (g t.2))) O rest D (q t)) (hw : (W.bind wa fun x => W.bind wb fun y => W.ret (x, y)) = w := by rfl)
    (hi : X.N[i]? = some x := by rfl) (hj : X.N[j]? = some y := by rfl) (hl : i < Γ.length := by exact Nat.le_of_ble_eq_true rfl) (hl2 : j < Γ.length := by exact Nat.le_of_ble_eq_true rfl) (hij : i ≠ j := by decide) (hN : X.N.Nodup := by assumption) (hc : X.calm = true := by rfl)
    (hx : X.env.scope.names.lookup x = some .local := by rfl) (hy : X.env.scope.names.lookup y = some .local := by rfl) (hs1 : starEach [a, b] X.env = (false, eval a X.env) :: starEach [b] X.env := by rfl) (hs2 : starEach [b] X.env = (false, eval b X.env) :: starEach [] X.env := by rfl)
    (hsw : swappedStores [.Tuple [.Name x px, .Name y py] kt pt] (.Tuple [a, b] k2 pt2) X.env = pure (some [x, y]) := by rfl)
    (hs : swapsWithSole [.Tuple [.Name x px, .Name y py] kt pt] (.Tuple [a, b] k2 pt2) pos.line X.env = pure false := by rfl) : SW X B Γ O (.Assign [.Tuple [.Name x px, .Name y py] kt pt] (.Tuple [a, b] k2 pt2) pos :: rest) D (W.run w Z q) :=
  s_cons fun hq S H σ st => ⟨_, ps_par hc hN hi hj hij hx hy (pa_cons pe_w (pa_cons pe_w pa_nil hs2) hs1) hsw hs, ha S H σ st _ _ (by rw [← hw] at hq; exact hq) fun u v S1 H1 p1 s1 t1 r1 => hb S1 H1 σ t1 _ _ p1 fun u2 v2 S2 H2 p2 s2 t2 r2 => ⟨v, v2, rfl, h (u, u2) p2 S2 H2 _ ((t2.set ((f u).up s2 r1) hl).set r2 (by rw [List.length_set]; exact hl2))⟩⟩
def IW (X : Cx) (B : Bs) (Γ : Gm) (O : Om) (Z : Er → Prop) (N : Om) (tg it : Expr) (f : α → MP) (w : Wp (List α)) : Prop := (∀ x ∈ N, x ∈ O) ∧ ∀ S H σ, Stt B Γ O S H σ → ∀ (P : List α → Prop) (Rk : It → Hp → Prop), w P Z →
  (∀ xs (J : It) (G : Gho) S' H', P xs → Same S S' → Stt B Γ O S' H' σ → G.R S' → (∀ Γ2 O2 S2 H2 σ2, Stt (B.add G) Γ2 O2 S2 H2 σ2 → (∀ q ∈ N, q ∈ O2) → J.stop xs.length H2 ∧ ∀ i (h : i < xs.length), J.go i H2 ∧ ∀ y H3, J.yld i H2 y H3 → ∃ S3, Stp S2 H2 S3 H3 ∧ (f xs[i]).R S3 y) → Rk J H') → wI X tg it σ H Rk
variable {f : α → MP}
theorem i_lst {tg : Expr} {w : Wp (List α)} (he : RW X B Γ O Z N l (rL f) w) : IW X B Γ O Z N tg l f w := ⟨he.1, fun S H σ st P Rk p k =>
  ⟨_, pi_list pe_w, he.2 S H σ st P _ p fun xs u S1 H1 p1 s1 t1 r1 => by
    obtain ⟨q, vs, rfl, h2, h3⟩ := r1 _ _ S1 H1 _ (Same.refl _) t1 he.1
    refine ⟨q, rfl, ⟨vs, SqL.of h2⟩, k xs (Itl X.K q) ⟨fun S => Same S1 S, fun e h => h.trans e⟩ S1 H1 p1 s1 t1 (Same.refl _) fun Γ2 O2 S2 H2 σ2 t hn => ?_⟩
    obtain ⟨q', ws, e, h4, h5⟩ := r1 Γ2 O2 S2 H2 σ2 t.gh.2 t.plain hn
    cases e
    have h4' : SqL X.K H2 q ws := SqL.of h4
    refine ⟨⟨ws, h4', by rw [h5.length, List.length_map]; exact Nat.le_refl _⟩, fun i hi => ?_⟩
    obtain ⟨y, h6, h7⟩ := AllR.get h5 (i := i) (R := (f xs[i]).b) (by simp [hi])
    refine ⟨⟨ws, y, h4', h6⟩, fun y' H3 ⟨e, hy⟩ => ?_⟩
    subst e
    have := hy ws h4'
    rw [h6] at this
    cases this
    exact ⟨S2, Stp.refl t.sub, h7⟩⟩⟩
def RgOk (n : Int) : Prop := -(2 ^ 62) ≤ n ∧ n < 2 ^ 62
def rng (m n : Int) : List Int := (List.range (n - m).toNat).map fun i : Nat => m + (i : Int)
theorem i_range1 {tg : Expr} {w : Wp Int} (hm : X.mg "range" = none) (he : EW X B Γ O Z a tI w) (hg : Gl X "range" := by rfl) (hs : starEach [a] X.env = [(false, eval a X.env)] := by rfl) : IW X B Γ O Z [] tg (.Call (.Name "range" p) [a] [] pos) tI (W.bind w fun n => W.grd (RgOk n) (rng 0 n)) := ⟨(fun _ h => by cases h), fun S H σ st P Rk p k =>
  ⟨_, pi_range1 hg hm (pa_cons pe_w pa_nil hs) hs, he S H σ st _ _ p fun n u S1 H1 p1 s1 t1 r1 => by
    cases r1
    refine ⟨n, rfl, p1.1.1, p1.1.2, k _ (Itr 0 n.toNat) .yes S1 H1 p1.2 s1 t1 trivial fun Γ2 O2 S2 H2 σ2 t _ => ?_⟩
    have hl : (rng 0 n).length = n.toNat := by simp [rng]
    refine ⟨Nat.le_of_eq hl.symm, fun i hi => ⟨Nat.lt_of_lt_of_eq hi hl, fun y H3 ⟨e, hy⟩ => ?_⟩⟩
    subst e
    refine ⟨S2, Stp.refl t.sub, ?_⟩
    rw [hy]
    show V.int _ = V.int _
    congr 1
    simp [rng]⟩⟩
def sgs (z : Str) : List Str := z.cps.toList.map fun c => (⟨#[c]⟩ : Str)
theorem s_for {tg it : Expr} (Gs : τ → Gm) (Os : τ → Om) (s0 : τ) {w w' : Wp (List α)} {bd : α → τ → (τ → Prop) → Prop} {k : τ → Prop} (hi : IW X B Γ O Z N tg it f w') (Γ' : α → τ → Gm) (js : List Nat)
    (hg : ∀ (G : Gho) x s, GJ X (B.add G) (Os s) tg (f x) (Gs s) (Γ' x s) js) (hb : ∀ (G : Gho) x s kn, SW X (B.add G) (Γ' x s) (Os s) body { D with nx := At (B.add G) Gs Os kn, ct := At (B.add G) Gs Os kn, bk := wB X rest D } (bd x s kn)) (hd : ∀ s, SW X B (Gs s) (Os s) rest D (k s)) (hp : PassesOwn (model X.prog X.w) X.A X.env X.xe) (hneed : ∀ s, ∀ q ∈ N, q ∈ Os s := by intro _ _ h; cases h)
    (hw : w' = w := by rfl) (hc : X.calm = true := by rfl) (gl : Gle (Gs s0) Γ := by exact Gle.rfl') (ho : O = Os s0 := by rfl)
    (hs : ∀ x, foldedSetIterable it X.env x = pure x := by intro _; rfl) : SW X B Γ O (.For tg it body [] pos :: rest) D (W.run w Z fun xs => W.loop bd k xs s0) :=
  s_cons fun hq S H σ st => ⟨_, ps_for hp hc pi_w pg_w pb_w hs, hi.2 S H σ st _ _ (hw ▸ hq) fun xs J G S1 H1 p1 s1 t1 g1 hJ => by
    refine ⟨fun i m σ H => m = xs.length - i ∧ i ≤ xs.length ∧ At (B.add G) Gs Os (fun s => W.loop bd k (xs.drop i) s) σ H, ⟨xs.length, by simp, Nat.zero_le _, s0, S1, p1, by rw [← ho]; exact (t1.ghost g1).forget gl⟩, ?_⟩
    rintro i m σ2 H2 ⟨rfl, hin, s, S2, hP, t⟩
    obtain ⟨j1, j2⟩ := hJ _ _ _ _ _ t (hneed s)
    by_cases hlt : i < xs.length
    · obtain ⟨go, yl⟩ := j2 i hlt
      rw [List.drop_eq_getElem_cons hlt] at hP
      refine .inr ⟨go, At (B.add G) Gs Os (fun s => W.loop bd k (xs.drop (i + 1)) s), fun σ' H' p => ⟨xs.length - (i + 1), by omega, rfl, hlt, p⟩, fun y H3 hy => ?_⟩
      obtain ⟨S3, s3, r3⟩ := yl y H3 hy
      exact hg G xs[i] s S3 H3 σ2 y (t.step s3) r3 _ fun σ' t' _ => hb G xs[i] s _ hP S3 H3 σ' t'
    · have e : i = xs.length := by omega
      subst e
      rw [List.drop_length] at hP
      exact .inl ⟨j1, hd s hP S2 H2 σ2 t.plain⟩⟩
theorem s_while (Gs : τ → Gm) (Os : τ → Om) (s0 : τ) {wc wc' : τ → Wp Bool} {bd : τ → (τ → Prop) → Prop} {k : τ → Prop} (hc : ∀ s, TW X B (Gs s) (Os s) Z c (wc' s)) (hb : ∀ s kn, SW X B (Gs s) (Os s) body { D with nx := At B Gs Os kn, ct := At B Gs Os kn, bk := wB X rest D } (bd s kn)) (hd : ∀ s, SW X B (Gs s) (Os s) rest D (k s)) (hp : PassesOwn (model X.prog X.w) X.A X.env X.xe)
    (hw : wc' = wc := by rfl) (gl : Gle (Gs s0) Γ := by exact Gle.rfl') (ho : O = Os s0 := by rfl) : SW X B Γ O (.While c body [] pos :: rest) D (W.whil Z wc bd k s0) :=
  s_cons fun ⟨n0, hq⟩ S H σ st => ⟨_, ps_while hp pt_w pb_w, fun n σ H => At B Gs Os (fun s => W.whileN Z wc bd k n s) σ H, ⟨n0, s0, S, hq, by rw [← ho]; exact st.forget gl⟩, fun n σ H ⟨s, S, h1, t⟩ => by
    subst hw
    cases n with
    | zero => exact h1.elim
    | succ n =>
      refine hc s S H σ t _ _ h1 fun b S1 H1 p1 s1 t1 => ?_
      cases b with
      | true => exact iteT ⟨At B Gs Os (fun s => W.whileN Z wc' bd k n s), fun σ' H' p => ⟨n, Nat.lt_succ_self _, p⟩, hb s _ (p1.1 rfl) S1 H1 σ t1⟩
      | false => exact iteF (hd s (p1.2 rfl) S1 H1 σ t1)⟩
def BlkJ (X : Cx) (scope : Scope) (P : Cx → Prop) : Prop := ∀ (s : Shared) (H : Hp) (C : Addr) (cl : List (Str × Addr)) (fp : List Addr), P (X.blk s H scope (compEnvC scope cl C X.env) fp)
def IfsW (X : Cx) (B : Bs) (Γ : Gm) (O : Om) (Z : Er → Prop) (ifs : List Expr) (w : Wp Bool) : Prop := ∀ S H σ, Stt B Γ O S H σ → ∀ (P : Bool → Prop) (Q : Bool → Hp → Prop), w P Z → (∀ b S' H', P b → Same S S' → Stt B Γ O S' H' σ → Q b H') → ∃ t, PTs X ifs t ∧ t σ H Q
theorem if_none : IfsW X B Γ O Z [] (W.ret true) := fun S H σ st P Q p n => ⟨_, pts_nil, n true S H p (Same.refl _) st⟩
theorem Stt.wiped {S H : Hp} {σ : L2.St} {vs : List Nat} (t : Stt B Γ O S H σ) (h : ∀ v ∈ vs, ∀ R, Γ[v]? ≠ some (some R)) : Stt B Γ O S H (L2.wipe σ vs) := by
  refine ⟨t.st, fun i R e => ?_, by rw [L2.wipe_length]; exact t.len, t.own, t.gh⟩
  obtain ⟨v, h1, h2⟩ := t.slot i R e
  refine ⟨v, ?_, h2⟩
  rw [(wipe_wp σ vs).at_ i fun z => h i z R e]
  exact h1
def W.comp {α β : Type} (c : α → Wp Bool) (g : α → Wp β) : List α → Wp (List β)
  | [], Q, _ => Q []
  | x :: xs, Q, E => c x (fun t => W.ite t (g x (fun y => W.comp c g xs (fun ys => Q (y :: ys)) E) E) (W.comp c g xs Q E)) E
abbrev W.nox {α : Type} (w : Wp α) : Wp α := fun Q _ => w Q fun _ => False
abbrev E0 : Er → Prop := fun _ => False
def W.compG {α β : Type} (c : α → Wp Bool) (g : α → Wp β) (xs : List α) : Wp (List β) := fun Q _ => xs.length ≤ 100000 ∧ W.comp c g xs Q E0
theorem Stt.mix {B : Bs} {Γ1 Γ2 : Gm} {O1 O2 : Om} {S1 S2 H1 H2 : Hp} {σ1 σ2 : L2.St} (t : Stt B Γ1 O1 S1 H1 σ1) (t' : Stt B Γ2 O2 S2 H2 σ2) (e : Same S1 S2) : Stt B Γ1 O2 S2 H2 σ1 := ⟨t'.st, fun i R h => let ⟨v, h1, h2⟩ := t.slot i R h; ⟨v, h1, R.up e h2⟩, t.len, t'.own, t'.gh⟩
theorem Stt.push {S H : Hp} {σ : L2.St} {v : V} {q : Addr} {P : OP} {Ps : List OP} {acc : List V} (t : Stt B Γ ((v, P) :: (.ref q, oL Ps) :: O) S H σ) (hq : H q = some (.lst acc)) : Stt B Γ ((.ref q, oL (Ps ++ [P])) :: O) S (upd H q (.lst (acc ++ [v]))) σ :=
  t.join fun A1 A2 nd hA h1 h2 => by
    obtain ⟨q', vs, A3, f1, f2, f3, f4⟩ := h2
    cases f1
    subst f2
    rw [hq] at f3
    cases f3
    obtain ⟨n1, n2, n3⟩ := List.nodup_append.mp nd
    have o1 : ∀ z ∈ A1, z ≠ q := fun z hz w => n3 z hz q List.mem_cons_self w
    have o3 : ∀ z ∈ A3, z ≠ q := fun z hz w => (List.nodup_cons.mp n2).1 (by rw [← w]; exact hz)
    have pm : (q :: (A3 ++ A1)).Perm (A1 ++ (q :: A3)) := by
      have : q :: (A3 ++ A1) = (q :: A3) ++ A1 := rfl
      rw [this]
      exact List.perm_append_comm
    refine ⟨q :: (A3 ++ A1), pm.nodup_iff.mpr nd, fun z hz => pm.mem_iff.mp hz, fun z hz => ?_, fun z hz => upd_ne fun w => hz (by rw [w]; exact List.mem_cons_self), q, _, A3 ++ A1, rfl, rfl, upd_same, ?_⟩
    · by_cases w : z = q
      · rw [w, upd_same]; simp
      · rw [upd_ne w]
        refine (hA z ?_).2
        rcases List.mem_cons.mp hz with y | y
        · exact absurd y w
        · rcases List.mem_append.mp y with y | y
          · exact List.mem_append_right _ (List.mem_cons_of_mem _ y)
          · exact List.mem_append_left _ y
    · exact (f4.fr (Same.refl _) fun z hz => upd_ne (o3 z hz)).append ⟨A1, [], by simp, P.fr (Same.refl _) (fun z hz => upd_ne (o1 z hz)) h1, rfl⟩
theorem own_last {x : V × OP} : (O ++ [x]).Perm (x :: O) := List.perm_append_comm
theorem lc_go {tg it elt : Expr} {ifs : List Expr} {scope : Scope} {own : List (Str × Nat)} {F : β → OP} {wc : α → Wp Bool} {wg : α → Wp β} {w : Wp (List α)} (Γw : Gm) (hi : IW X B Γ O Z N tg it f w) (hw : ∀ v ∈ own.map (·.2), ∀ R, Γw[v]? ≠ some (some R)) (gl : Gle Γw Γ) (Γ' : α → Gm) (js : List Nat) (hjs : ∀ j ∈ js, j ∈ own.map (·.2))
    (hb : ∀ (G : Gho) (m : V × OP) x, BlkJ X scope (fun Y => GJ Y (B.add G) (O ++ [m]) tg (f x) Γw (Γ' x) js ∧ IfsW Y (B.add G) (Γ' x) (O ++ [m]) E0 ifs (wc x) ∧ NW Y (B.add G) (Γ' x) (O ++ [m]) E0 elt F (wg x)))
    {wk : List α → Wp (List β)} (hk : ∀ xs P, wk xs P Z → W.compG wc wg xs P Z) {S H : Hp} {σ : L2.St} (st : Stt B Γ O S H σ) {P : List β → Prop} {Q : VK} (p : W.bind w wk P Z) (q : ∀ ys v S' H', P ys → Same S S' → Stt B Γ ((v, oL (ys.map F)) :: O) S' H' σ → Q v H') :
    tLc (wI X tg it) (fun v σ H Q => ∀ s H0 C cl fp, wG (X.blk s H0 scope (compEnvC scope cl C X.env) fp) tg v σ H Q) (fun σ H Q => ∀ s H0 C cl fp, ∃ t, PTs (X.blk s H0 scope (compEnvC scope cl C X.env) fp) ifs t ∧ t σ H Q) (fun σ H Q => ∀ s H0 C cl fp, wE (X.blk s H0 scope (compEnvC scope cl C X.env) fp) elt σ H Q) (own.map (·.2)) σ H Q := by
  refine hi.2 S H σ st _ _ p fun xs J G S1 H1 p1 s1 t1 g1 hJ D hD => ?_
  obtain ⟨hz, p1⟩ := hk xs P p1
  have base : Stt (B.add G) Γ O S1 H1 σ := t1.ghost g1
  refine ⟨fun i m H2 => m = xs.length - i ∧ i ≤ xs.length ∧ ∃ S2 ys, ys.length ≤ i ∧ Stt (B.add G) Γw (O ++ [(.ref D, oL (ys.map F))]) S2 H2 (L2.wipe σ (own.map (·.2))) ∧ Same S1 S2 ∧ W.comp wc wg (xs.drop i) (fun zs => P (ys ++ zs)) E0, ⟨xs.length, by simp, Nat.zero_le _, S1, [], Nat.le_refl _, ?_, Same.refl _, p1⟩, ?_⟩
  · exact (((base.forget gl).wiped hw).add hD (P := oL (([] : List β).map F)) ⟨D, [], [], rfl, rfl, upd_same, rfl⟩).perm own_last.symm
  · rintro i m H2 ⟨rfl, hin, S2, ys, hy, t, s2, pc⟩
    obtain ⟨j1, j2⟩ := hJ _ _ _ _ _ t (fun q hq => List.mem_append_left _ (hi.1 q hq))
    by_cases hlt : i < xs.length
    · obtain ⟨go, yl⟩ := j2 i hlt
      rw [List.drop_eq_getElem_cons hlt] at pc
      refine .inr ⟨go, fun H' => ∃ S2 ys, ys.length ≤ i + 1 ∧ Stt (B.add G) Γw (O ++ [(.ref D, oL (ys.map F))]) S2 H' (L2.wipe σ (own.map (·.2))) ∧ Same S1 S2 ∧ W.comp wc wg (xs.drop (i + 1)) (fun zs => P (ys ++ zs)) E0, fun H' h => ⟨xs.length - (i + 1), by omega, rfl, hlt, h⟩, fun y H3 hyy s H0 C cl fp => ?_⟩
      obtain ⟨S3, s3, r3⟩ := yl y H3 hyy
      have hB := hb G (.ref D, oL (ys.map F)) xs[i]
      refine (hB s H0 C cl fp).1 S3 H3 _ y (t.step s3) r3 _ fun σ' t' w => ⟨?_, fun s' H0' C' cl' fp' => ?_⟩
      · rw [w.wipe hjs]
        exact (wipe_wp σ _).wipe fun _ z => z
      · refine (hB s' H0' C' cl' fp').2.1 S3 H3 σ' t' _ _ pc fun b S4 H4 p4 s4 t4 => ?_
        cases b with
        | true =>
          refine iteT fun s2' H02 C2 cl2 fp2 => (hB s2' H02 C2 cl2 fp2).2.2 S4 H4 σ' t4 _ _ (p4.1 rfl) fun z v S5 H5 p5 s5 t5 _ => ?_
          have t6 := (t.step s3).mix (t5.perm (own_last.cons _)) (s4.trans s5)
          obtain ⟨A, q', vs, A', e1, e2, e3, e4⟩ := t6.at_ (x := (.ref D, oL (ys.map F))) (List.mem_cons_of_mem _ List.mem_cons_self)
          cases e1
          refine ⟨vs, e3, ?_, S5, ys ++ [z], ?_, ?_, ((s2.trans s3.s).trans s4).trans s5, ?_⟩
          · rw [e4.length, List.length_map]
            exact Nat.lt_of_le_of_lt (Nat.le_trans hy (Nat.le_trans (Nat.le_of_lt hlt) hz)) (by decide)
          · rw [List.length_append]
            exact Nat.succ_le_succ hy
          · have t7 := t6.push e3
            rw [List.map_append]
            exact t7.perm own_last.symm
          · have : (fun zs => P (ys ++ [z] ++ zs)) = fun zs => P (ys ++ (z :: zs)) := by funext zs; rw [List.append_assoc]; rfl
            rw [this]
            exact p5
        | false => exact iteF ⟨S4, ys, Nat.le_succ_of_le hy, (t.step s3).mix t4 s4, (s2.trans s3.s).trans s4, p4.2 rfl⟩
    · have e : i = xs.length := by omega
      subst e
      rw [List.drop_length] at pc
      have pc' : P (ys ++ []) := pc
      rw [List.append_nil] at pc'
      exact .inl ⟨j1, q ys (.ref D) S2 H2 pc' (s1.trans s2) (t1.mix (t.plain.perm own_last) s2)⟩
theorem n_comp {tg it elt : Expr} {ifs : List Expr} {scope : Scope} (own : List (Str × Nat)) {F : β → OP} {wc : α → Wp Bool} {wg : α → Wp β} {w : Wp (List α)} (Γw : Gm) (hi : IW X B Γ O Z N tg it f w) (Γ' : α → Gm) (js : List Nat)
    (hb : ∀ (G : Gho) (m : V × OP) x, BlkJ X scope (fun Y => GJ Y (B.add G) (O ++ [m]) tg (f x) Γw (Γ' x) js ∧ IfsW Y (B.add G) (Γ' x) (O ++ [m]) E0 ifs (wc x) ∧ NW Y (B.add G) (Γ' x) (O ++ [m]) E0 elt F (wg x))) {wk : List α → Wp (List β)} (hk : ∀ xs P, wk xs P Z → W.compG wc wg xs P Z)
    (hjs : ∀ j ∈ js, j ∈ own.map (·.2) := by decide) (hw : noneAt Γw (own.map (·.2)) = true := by rfl) (gl : Gle Γw Γ := by exact Gle.rfl') (ok : blkB X.N X.env.scope scope own = true := by kernel_rfl) (hN : X.N.Nodup := by assumption) (hc : X.calm = true := by rfl) (hs : ∀ x, foldedSetIterable it X.env x = pure x := by intro _; rfl) :
    NW X B Γ O Z (.ListComp elt [⟨tg, it, ifs, 0⟩] scope pos) (fun ys => oL (ys.map F)) (W.bind w wk) := fun S H σ st P Q p n =>
  ⟨_, pe_lc hc hN pi_w (blk_by ok) (fun s H C cl fp => ⟨fun pins s' σ H' v u Q I r h => pg_w.run pins s' σ H' v u Q I r (h s H C cl fp)⟩) (fun s H C cl fp => ⟨fun pins s' σ H' Q I h => let ⟨_, h1, h2⟩ := h s H C cl fp; h1.run pins s' σ H' Q I h2⟩)
    (fun s H C cl fp => ⟨fun pins s' σ H' Q I h => pe_w.run pins s' σ H' Q I (h s H C cl fp)⟩) hs, lc_go Γw hi (noneAt_ok hw) gl Γ' js hjs hb hk st p fun ys v S' H' p1 s1 t1 => n ys v S' H' p1 s1 t1 trivial⟩
theorem hd0 : Hd X B Γ O E0 (fun _ _ _ _ => False) := ⟨tk_no, fun _ h => h.elim⟩
end
end OW
namespace OW
theorem Hd.add {X : L2.Cx} {B : OT.Bs} {Γ : OT.Gm} {O : Om} {Z : Er → Prop} {Wx : L2.WX} {G : OT.Gho} (h : Hd X B Γ O Z Wx) : Hd X (B.add G) Γ O Z Wx := ⟨h.tk, fun x hx c d S H σ t r => h.go x hx c d S H σ t.plain r⟩
end OW
namespace OW
open PySem PySem.Spec PyProof.Rows L2 OT NdefX
section
variable {κ α β : Type} [DecidableEq κ]
def dget (kvs : List (κ × α)) (k : κ) : Option α := (kvs.find? fun q => decide (q.1 = k)).map (·.2)
def dput : List (κ × α) → κ → α → List (κ × α)
  | [], k, v => [(k, v)]
  | q :: r, k, v => if q.1 = k then (q.1, v) :: r else q :: dput r k v
theorem dput_keys {k : κ} {v : α} : ∀ {r : List (κ × α)}, (dput r k v).map (·.1) = if k ∈ r.map (·.1) then r.map (·.1) else r.map (·.1) ++ [k]
  | [] => by simp [dput]
  | q :: r => by
    unfold dput
    by_cases e : q.1 = k
    · simp [e]
    · rw [if_neg e, List.map_cons, dput_keys]
      by_cases h : k ∈ r.map (·.1)
      · simp [h]
      · have e2 : ¬ k = q.1 := fun z => e z.symm
        simp [h, e2]
theorem dput_nodup {k : κ} {v : α} {r : List (κ × α)} (h : (r.map (·.1)).Nodup) : ((dput r k v).map (·.1)).Nodup := by
  rw [dput_keys]
  split
  · exact h
  · rename_i hk
    refine List.nodup_append.mpr ⟨h, by simp, fun a ha b hb => ?_⟩
    rw [List.mem_singleton] at hb
    subst hb
    exact fun z => hk (z ▸ ha)
def dhas (kvs : List (κ × α)) (k : κ) : Bool := kvs.any fun q => decide (q.1 = k)
end
def KvO : List (Key × OP) → Hp → Hp → List Addr → List (Key × V) → Prop
  | [], _, _, A, [] => A = []
  | (k, P) :: Ps, S, H, A, (j, v) :: vs => k = j ∧ ∃ A1 A2, A = A1 ++ A2 ∧ P.R S H A1 v ∧ KvO Ps S H A2 vs
  | _, _, _, _, _ => False
theorem KvO.fr : ∀ {Ps : List (Key × OP)} {S S' H H' : Hp} {A : List Addr} {vs : List (Key × V)}, Same S S' → (∀ a ∈ A, H' a = H a) → KvO Ps S H A vs → KvO Ps S' H' A vs
  | [], _, _, _, _, _, [], _, _, h => h
  | [], _, _, _, _, _, _ :: _, _, _, h => h.elim
  | _ :: _, _, _, _, _, _, [], _, _, h => h.elim
  | (f, P) :: Ps, _, _, _, _, _, (g, v) :: vs, e, hA, ⟨h0, A1, A2, z, h1, h2⟩ => by
    subst z
    exact ⟨h0, A1, A2, rfl, P.fr e (fun a ha => hA a (List.mem_append_left _ ha)) h1, KvO.fr e (fun a ha => hA a (List.mem_append_right _ ha)) h2⟩
def KvR : List (Key × BP) → Hp → Hp → List (Key × V) → Prop
  | [], _, _, [] => True
  | (k, R) :: Rs, S, H, (j, v) :: vs => k = j ∧ R.R S H v ∧ KvR Rs S H vs
  | _, _, _, _ => False
theorem KvR.up : ∀ {Rs : List (Key × BP)} {S S' H H' : Hp} {vs : List (Key × V)}, Same S S' → Same H H' → KvR Rs S H vs → KvR Rs S' H' vs
  | [], _, _, _, _, [], _, _, _ => trivial
  | [], _, _, _, _, _ :: _, _, _, h => h.elim
  | _ :: _, _, _, _, _, [], _, _, h => h.elim
  | (_, R) :: Rs, _, _, _, _, (_, v) :: vs, e, e', h => ⟨h.1, R.up e e' h.2.1, KvR.up e e' h.2.2⟩
def oD (Ps : List (Key × OP)) : OP := ⟨fun S H A v => ∃ p vs A', v = .ref p ∧ A = p :: A' ∧ H p = some (.dK vs) ∧ (List.map (fun z : Key × V => z.1) vs).Nodup ∧ KvO Ps S H A' vs,
  fun {S S' H H' A v} e hA ⟨p, vs, A', h1, h2, h3, nk, h4⟩ => ⟨p, vs, A', h1, h2, by rw [hA p (by rw [h2]; exact List.mem_cons_self)]; exact h3, nk, h4.fr e fun a ha => hA a (by rw [h2]; exact List.mem_cons_of_mem _ ha)⟩⟩
def bDB (Rs : List (Key × BP)) : BP := ⟨fun S H v => ∃ a vs, v = .ref a ∧ Rd H a (.dK vs) ∧ KvR Rs S H vs, fun e e' ⟨a, vs, h1, h2, h3⟩ => ⟨a, vs, h1, h2.elim (fun h => .inl (e' _ _ h)) (fun ⟨o, h⟩ => .inr ⟨o, e' _ _ h⟩), h3.up e e'⟩⟩
abbrev kS (k : Str) : Key := .inr k
abbrev oDn {α : Type} (F : α → OP) (kvs : List (Str × α)) : OP := oD (kvs.map fun q => (kS q.1, F q.2))
abbrev oDs {α : Type} (f : α → MP) (kvs : List (Str × α)) : OP := oDn (fun x => MP.o (f x)) kvs
abbrev rDn {α : Type} (G : α → BP) (kvs : List (Str × α)) : BP := bDB (kvs.map fun q => (kS q.1, G q.2))
abbrev rD {α : Type} (f : α → MP) (kvs : List (Str × α)) : BP := rDn (fun x => (f x).b) kvs
section
variable {α : Type} {F : α → OP} {M : α → MP} {G : α → BP}
theorem KvM.toB {f : α → MP} {S H : Hp} : ∀ {xs : List (Str × α)} {vs : List (Key × V)}, KvM (xs.map fun q => (kS q.1, f q.2)) S vs → KvR (xs.map fun q => (kS q.1, (f q.2).b)) S H vs
  | [], [], _ => trivial
  | [], _ :: _, h => h.elim
  | _ :: _, [], h => h.elim
  | x :: xs, (j, v) :: vs, h => ⟨h.1, h.2.1, KvM.toB h.2.2⟩
theorem tDs_b {f : α → MP} {kvs : List (Str × α)} {S H : Hp} {v : V} (sm : Same S H) (h : (tDs f kvs).R S v) : (rD f kvs).R S H v := let ⟨a, od, vs, h1, h2, h3⟩ := h; ⟨a, vs, h1, .inr ⟨od, sm _ _ h2⟩, KvM.toB h3⟩
theorem KvR.get {S H : Hp} {k : Str} : ∀ {xs : List (Str × α)} {vs : List (Key × V)}, KvR (xs.map fun q => (kS q.1, G q.2)) S H vs → match dget xs k with
    | some x => ∃ v, valV vs (kS k) = some v ∧ (G x).R S H v
    | none => valV vs (kS k) = none
  | [], [], _ => rfl
  | [], _ :: _, h => h.elim
  | _ :: _, [], h => h.elim
  | (j, x) :: xs, (j', v) :: vs, h => by
    obtain ⟨e0, h1, h2⟩ := h
    have e0' : j' = kS j := e0.symm
    subst e0'
    by_cases e : j = k
    · subst e
      have e1 : dget ((j, x) :: xs) j = some x := by simp [dget, List.find?_cons]
      rw [e1, valV_pos rfl]
      exact ⟨v, rfl, h1⟩
    · have e1 : dget ((j, x) :: xs) k = dget xs k := by simp [dget, List.find?_cons, e]
      rw [e1, valV_neg (fun q => e (Sum.inr.inj q))]
      exact KvR.get h2
theorem KvR.some {S H : Hp} {k : Str} {x : α} {xs : List (Str × α)} {vs : List (Key × V)} (h : KvR (xs.map fun q => (kS q.1, G q.2)) S H vs) (e : dget xs k = .some x) : ∃ v, valV vs (kS k) = .some v ∧ (G x).R S H v := by
  have := h.get (k := k)
  rw [e] at this
  exact this
theorem dhas_get {κ : Type} [DecidableEq κ] {xs : List (κ × α)} {k : κ} : dhas xs k = (dget xs k).isSome := by
  unfold dhas dget
  induction xs with
  | nil => rfl
  | cons a xs ih =>
    rw [List.any_cons, List.find?_cons]
    by_cases e : a.1 = k
    · simp [e]
    · simp only [e, decide_false, Bool.false_or]
      exact ih
theorem KvR.has {S H : Hp} {k : Str} {xs : List (Str × α)} {vs : List (Key × V)} (h : KvR (xs.map fun q => (kS q.1, G q.2)) S H vs) : (valV vs (kS k)).isSome = dhas xs k := by
  have := h.get (k := k)
  rw [dhas_get]
  cases e : dget xs k with
  | none => rw [e] at this; rw [this] <;> rfl
  | some R => rw [e] at this; obtain ⟨v, h1, _⟩ := this; rw [h1] <;> rfl
end
section
variable {X : Cx} {B : Bs} {Γ : Gm} {O N N' : Om} {Z : Er → Prop} {e a b c o l : Expr} {es : List Expr} {p p2 pos pos' apos : Pos} {D : Ends} {rest body els : List Stmt} {α β γ τ : Type} {x m nm fl : Str} {f : α → MP} {G : α → BP} {F : α → OP}
theorem EW.rd {w : Wp (List (Str × α))} (h : EW X B Γ O Z e (tDs f) w) : RW X B Γ O Z [] e (rD f) w := h.r fun _ _ _ _ sm r => tDs_b sm r
abbrev W.getD {α : Type} (kvs : List (Str × α)) (k : Str) : Wp α := fun Q _ => ∃ x, dget kvs k = some x ∧ Q x
end
end OW
namespace OW
open PySem PySem.Spec PyProof.Rows L2 OT NdefX
section
variable {α : Type} {F : α → OP}
end
section
variable {X : Cx} {B : Bs} {Γ : Gm} {O N N' : Om} {Z : Er → Prop} {e a b c o l ix : Expr} {es : List Expr} {p p1 p2 pos pos' apos : Pos} {D : Ends} {rest body els : List Stmt} {α β γ τ : Type} {x m nm fl : Str} {f : α → MP} {G : α → BP} {F : α → OP}
def VW (X : Cx) (B : Bs) (Γ : Gm) (O : Om) (e : Expr) (f : α → MP) (x : α) : Prop := ∀ S H σ, Stt B Γ O S H σ → ∃ v, (f x).R S v ∧ ∀ Q : VK, Q v H → wE X e σ H Q
theorem VW.w {f : α → MP} {x : α} (h : VW X B Γ O e f x) : EW X B Γ O Z e f (W.ret x) := fun S H σ st P Q p n => let ⟨v, h1, h2⟩ := h S H σ st; h2 Q (n x v S H p (Same.refl _) st h1)
theorem KvO.upd {S H : Hp} {k : Str} {x : α} : ∀ {xs : List (Str × α)} {A : List Addr} {vs : List (Key × V)}, KvO (xs.map fun q => (kS q.1, F q.2)) S H A vs → A.Nodup → dget xs k = some x →
    ∃ v Ai, valV vs (kS k) = some v ∧ (∀ a ∈ Ai, a ∈ A) ∧ Ai.Nodup ∧ (F x).R S H Ai v ∧ ∀ H' x', (∀ a ∈ A, a ∉ Ai → H' a = H a) → (F x').R S H' Ai v → KvO ((dput xs k x').map fun q => (kS q.1, F q.2)) S H' A vs
  | [], _, [], _, _, e => by simp [dget] at e
  | [], _, _ :: _, z, _, _ => z.elim
  | _ :: _, _, [], z, _, _ => z.elim
  | (j, y) :: xs, A, (j', w) :: vs, ⟨e0, A1, A2, z, h1, h2⟩, nd, e => by
    have e0' : j' = kS j := e0.symm
    subst e0'
    subst z
    obtain ⟨n1, n2, n3⟩ := List.nodup_append.mp nd
    by_cases ek : j = k
    · subst ek
      have e1 : dget ((j, y) :: xs) j = some y := by simp [dget, List.find?_cons]
      rw [e1] at e
      cases e
      refine ⟨w, A1, valV_pos rfl, fun a ha => List.mem_append_left _ ha, n1, h1, fun H' x' hH hx => ?_⟩
      have d1 : dput ((j, x) :: xs) j x' = (j, x') :: xs := by simp [dput]
      rw [d1]
      exact ⟨rfl, A1, A2, rfl, hx, h2.fr (Same.refl _) fun a ha => hH a (List.mem_append_right _ ha) fun q => n3 a q a ha rfl⟩
    · have e1 : dget ((j, y) :: xs) k = dget xs k := by simp [dget, List.find?_cons, ek]
      rw [e1] at e
      obtain ⟨v, Ai, g1, g2, g3, g4, g5⟩ := KvO.upd h2 n2 e
      refine ⟨v, Ai, by rw [valV_neg (fun q => ek (Sum.inr.inj q))]; exact g1, fun a ha => List.mem_append_right _ (g2 a ha), g3, g4, fun H' x' hH hx => ?_⟩
      have d1 : dput ((j, y) :: xs) k x' = (j, y) :: dput xs k x' := by simp [dput, ek]
      rw [d1]
      exact ⟨rfl, A1, A2, rfl, (F y).fr (Same.refl _) (fun a ha => hH a (List.mem_append_left _ ha) fun q => n3 a ha a (g2 a q) rfl) h1, g5 H' x' (fun a ha hn => hH a (List.mem_append_right _ ha) hn) hx⟩
end
end OW
namespace OW
open PySem PySem.Spec PyProof.Rows L2 OT NdefX
section
variable {X : Cx} {B : Bs} {Γ : Gm} {O N N' : Om} {Z : Er → Prop} {e a b c o l ix : Expr} {es : List Expr} {p p1 p2 pos pos' apos : Pos} {D : Ends} {rest body els : List Stmt} {α β γ τ : Type} {x m nm fl : Str} {f : α → MP} {G : α → BP} {F : α → OP}
theorem s_append {i : Nat} {u : V} {xs : List α} {w w' : Wp α} {q : α → Prop} (he : NW X B Γ ((u, oL (xs.map F)) :: O) Z e F w') (h : ∀ a, SW X B Γ ((u, oL ((xs ++ [a]).map F)) :: O) rest D (q a)) (hw : (W.bind w' fun a => W.grd (xs.length < 100000) a) = w := by rfl)
    (hG : Γ[i]? = some (some (tV u)) := by rfl) (hN : X.N[i]? = some nm := by rfl)
    (hv : Vis X.env.scope nm := by first | exact Or.inl rfl | exact Or.inr (Or.inl rfl) | exact Or.inr (Or.inr rfl)) (hd : (nm == ("__debug__" : Str)) = false := by decide) (hcd : (nm == ("__classdict__" : Str)) = false := by decide)
    (hbase : attributeBase (.Name nm p1) "append" X.env (eval (.Name nm p1) X.env) = eval (.Name nm p1) X.env := by rfl)
    (hfew : ((backTo pos (starEach [e] X.env)).all (fun x => !x.1) && (backToKw pos (keywordEach [] X.env)).all (fun x => x.1.isSome)
      && decide ([e].length + ([] : List Keyword).length + (if ([] : List Keyword).isEmpty then 0 else 1) < 30)) = true := by rfl)
    (hline : (apos.endLine == pos.line) = true := by rfl) (hs : starEach [e] X.env = (false, eval e X.env) :: starEach [] X.env := by rfl) (hplain : (backTo pos (starEach [] X.env)).any (·.1) = false := by rfl)
    (hsw : swapsWith (.Call (.Attribute (.Name nm p1) "append" apos) [e] [] pos) none pos'.line X.env = pure false := by rfl) : SW X B Γ ((u, oL (xs.map F)) :: O) (.Expr (.Call (.Attribute (.Name nm p1) "append" apos) [e] [] pos) pos' :: rest) D (W.run w Z q) :=
  s_cons fun hq S H σ st => ⟨_, ps_expr (pe_bm PySem.F.plainAttrs_list PySem.F.slot_list_append PySem.F.type_list_append mt_append (pe_var hN hv hd hcd) (pa_cons pe_w pa_nil hs) hbase hfew hline hs hplain) hsw, by
    obtain ⟨v, h1, h2⟩ := st.slot i _ hG
    have h2' : v = u := h2
    subst h2'
    obtain ⟨A, y, vs, A', e1, e2, e3, e4⟩ := st.at_ (x := (v, oL (xs.map F))) List.mem_cons_self
    have e1' : v = .ref y := e1
    subst e1'
    refine ⟨_, h1, .inl ⟨rfl, vs, .inl (.inl e3)⟩, he S H σ st _ _ (by rw [← hw] at hq; exact hq) fun a w S1 H1 p1 s1 t1 _ => ?_⟩
    obtain ⟨A, y', vs, A', e1, e2, e3, e4⟩ := t1.at_ (x := (.ref y, oL (xs.map F))) (List.mem_cons_of_mem _ List.mem_cons_self)
    cases e1
    have t2 := t1.push e3
    refine ⟨y, vs, w, rfl, rfl, e3, ?_, h a p1.2 S1 _ σ ?_⟩
    · rw [e4.length, List.length_map]
      exact Nat.lt_trans p1.1 (by decide)
    · rw [List.map_append]
      exact t2⟩
def OW1 (X : Cx) (B : Bs) (Γ : Gm) (O : Om) (Z : Er → Prop) (oe : Option Expr) (w : Wp (Option Int)) : Prop := ∀ S H σ, Stt B Γ O S H σ → ∀ (P : Option Int → Prop) (Q : Option Int → Hp → Prop), w P Z → (∀ a S' H', P a → Same S S' → Stt B Γ O S' H' σ → Q a H') → ∃ t, PO X oe t ∧ t σ H Q
abbrev W.cut3 {α β : Type} (wa : Wp α) (wl wu : Wp (Option Int)) (k : α → Option Int → Option Int → Wp β) : Wp β := W.bind wa fun xs => W.bind wl fun lo => W.bind wu fun hi => k xs lo hi
def rSlQ (K : PySem.W.Frag) : V → Option Int → Option Int → Hp → VK → Prop := fun x lo hi H Q => rSlL K x lo hi H Q ∨ rSlA K x lo hi H Q
section
variable {wa : Wp Str} {wb : Wp (List Str)}
end
section
variable {g : β → MP} {wa : Wp α} {wb : Wp β}
def PlainV (f : α → MP) (k : α → V) : Prop := ∀ a S v, (f a).R S v → v = k a
theorem pl_I : PlainV tI V.int := fun _ _ _ h => h
theorem pl_S : PlainV tS V.str := fun _ _ _ h => h
theorem w_eqV {ka : α → V} {kb : β → V} (k : α → β → Bool) (pa : PlainV f ka) (pb : PlainV g kb) (ha : EW X B Γ O Z a f wa) (hb : EW X B Γ O Z b g wb) (hk : ∀ x y, decide (ka x = kb y) = k x y) (hs : ∀ x y, scal (ka x) (kb y) = true := by intro _ _; rfl) : EW X B Γ O Z (.Compare a [.Eq] [b] pos) OT.tB (W.bind wa fun x => W.bind wb fun y => W.ret (k x y)) :=
  w_cmp2 _ op_eq ha hb (nomark _) fun x y S H u v sm h1 h2 Q q => by
    cases pa _ _ _ h1; cases pb _ _ _ h2
    exact ⟨hs _ _, by rw [hk]; exact q S H (Stp.refl sm)⟩
theorem t_eqV {ka : α → V} {kb : β → V} (k : α → β → Bool) (pa : PlainV f ka) (pb : PlainV g kb) (ha : EW X B Γ O Z a f wa) (hb : EW X B Γ O Z b g wb) (hk : ∀ x y, decide (ka x = kb y) = k x y) (hs : ∀ x y, scal (ka x) (kb y) = true := by intro _ _; rfl) : TW X B Γ O Z (.Compare a [.Eq] [b] pos) (W.bind wa fun x => W.bind wb fun y => W.ret (k x y)) :=
  t_cmp2 _ op_eq ha hb (nomark _) fun x y S H u v sm h1 h2 Q q => by
    cases pa _ _ _ h1; cases pb _ _ _ h2
    exact ⟨hs _ _, by rw [hk]; exact q S H (Stp.refl sm)⟩
theorem t_neV {ka : α → V} {kb : β → V} (k : α → β → Bool) (pa : PlainV f ka) (pb : PlainV g kb) (ha : EW X B Γ O Z a f wa) (hb : EW X B Γ O Z b g wb) (hk : ∀ x y, decide (ka x = kb y) = k x y) (hs : ∀ x y, scal (ka x) (kb y) = true := by intro _ _; rfl) : TW X B Γ O Z (.Compare a [.NotEq] [b] pos) (W.bind wa fun x => W.bind wb fun y => W.ret (!k x y)) :=
  t_cmp2 _ op_ne ha hb (nomark _) fun x y S H u v sm h1 h2 Q q => by
    cases pa _ _ _ h1; cases pb _ _ _ h2
    exact ⟨hs _ _, by rw [hk]; exact q S H (Stp.refl sm)⟩
theorem dI (x y : Int) : decide (V.int x = V.int y) = decide (x = y) := by
  by_cases h : x = y
  · subst h; simp
  · rw [decide_eq_false h, decide_eq_false fun z => h (by injection z)]
theorem dS (x y : Str) : decide (V.str x = V.str y) = decide (x = y) := by
  by_cases h : x = y
  · subst h; simp
  · rw [decide_eq_false h, decide_eq_false fun z => h (by injection z)]
theorem w_eqI {wa wb : Wp Int} (ha : EW X B Γ O Z a tI wa) (hb : EW X B Γ O Z b tI wb) : EW X B Γ O Z (.Compare a [.Eq] [b] pos) OT.tB (W.bind wa fun x => W.bind wb fun y => W.ret (decide (x = y))) := w_eqV _ pl_I pl_I ha hb dI
theorem t_eqI {wa wb : Wp Int} (ha : EW X B Γ O Z a tI wa) (hb : EW X B Γ O Z b tI wb) : TW X B Γ O Z (.Compare a [.Eq] [b] pos) (W.bind wa fun x => W.bind wb fun y => W.ret (decide (x = y))) := t_eqV _ pl_I pl_I ha hb dI
theorem t_neI {wa wb : Wp Int} (ha : EW X B Γ O Z a tI wa) (hb : EW X B Γ O Z b tI wb) : TW X B Γ O Z (.Compare a [.NotEq] [b] pos) (W.bind wa fun x => W.bind wb fun y => W.ret (!decide (x = y))) := t_neV _ pl_I pl_I ha hb dI
theorem t_eqS {wa wb : Wp Str} (ha : EW X B Γ O Z a tS wa) (hb : EW X B Γ O Z b tS wb) : TW X B Γ O Z (.Compare a [.Eq] [b] pos) (W.bind wa fun x => W.bind wb fun y => W.ret (decide (x = y))) := t_eqV _ pl_S pl_S ha hb dS
end
section
variable {n : Nat} [DecidableEq α] {wa wb : Wp α} {ba bb : α → BP}
structure Cmp (X : Cx) (n : Nat) (b b' : α → BP) : Prop where
  eq : ∀ x y, RcM X .Eq n (b x) (b' y) (decide (x = y))
  ne : ∀ x y, RcM X .NotEq n (b x) (b' y) (!decide (x = y))
theorem rcN_go {op : CmpOp} {k : α → α → Bool} (h : ∀ x y, RcM X op n (ba x) (bb y) (k x y)) : ∀ x y S H u v, Same S H → (ba x).R S H u → (bb y).R S H v → ∀ (Q : VK), (∀ S' H', Stp S H S' H' → Q (.bl (k x y)) H') → rRcN X op n u v H Q := fun x y S H u v sm h1 h2 Q q => ⟨_, h x y S H u v sm h1 h2, fun H' e => q S H' (Stp.ext sm e)⟩
theorem t_neM (h : Cmp X n ba bb) (hr : Room n X.A) (ha : RW X B Γ O Z N a ba wa) (hb : RN X B Γ O Z b bb wb) : TW X B Γ O Z (.Compare a [.NotEq] [b] pos) (W.bind wa fun x => W.bind wb fun y => W.ret (!decide (x = y))) := t_cmpR _ (op_neN hr) ha hb (nomark _) (rcN_go h.ne)
end
end
end OW
namespace OW
open PySem PySem.Spec PyProof.Rows L2 OT NdefX
section
variable {X : Cx} {B : Bs} {Γ : Gm} {O N N' : Om} {Z : Er → Prop} {e a b c o l ix : Expr} {es : List Expr} {p p1 p2 pos pos' apos : Pos} {D : Ends} {rest body els : List Stmt} {α β γ τ : Type} {x m nm fl : Str} {f : α → MP} {G : α → BP} {F : α → OP} {Wx : WX} {C : Addr} {k : Nat} {ps : List Str}
theorem s_raise1 {w w' : Wp α} {ka : α → V} (er : α → Er) (G : GE X.prog X.w X.K X.mg X.base x (He.ga X.K x) k ps (spE1 (He.ga X.K x) fl)) (hr : Room (k + 1) X.A) (hd : Hd X B Γ O Z Wx) (he : EW X B Γ O Z e f w') (pf : PlainV f ka) (hi : ∀ y, (er y).info X.K = (x, [(fl, f y)]) := by intro _; rfl) (hw : w' = w := by rfl)
    (hg : Gl X x := by rfl) (hc : X.calm = true := by rfl) (hdb : (x == ("__debug__" : Str)) = false := by decide) (hs : starEach [e] X.env = (false, eval e X.env) :: starEach [] X.env := by rfl) (hpl : (backTo pos (starEach [] X.env)).any (·.1) = false := by rfl) :
    SW X B Γ O (.Raise (some (.Call (.Name x p) [e] [] pos)) none pos' :: rest) D (W.run w Z fun y => fmtOk (ka y) ∧ Z (er y)) := by
  obtain ⟨g, fd, G, T, iC, tI, hm, hb⟩ := G
  refine s_cons fun hq S H σ st => ⟨_, ps_raise hc hd.tk (pmk_oex T iC tI G hr hb .nil passL hg hm (pa_cons pe_w pa_nil hs) hdb hs hpl), he S H σ st _ _ (hw ▸ hq) fun y v S1 H1 p1 s1 t1 r1 => ?_⟩
  have ev := pf _ _ _ r1
  refine ⟨(by show 1 ≤ 1000; decide), fun a na => ⟨a, H1, v, rfl, rfl, na, ev ▸ p1.1, fun d nd ne => ⟨rfl, d, [(fl, v)], upd_same, ?_, nd, ?_⟩⟩⟩
  · rw [upd_ne ne, upd_same]
  · have e2 : upd (del (upd (upd (upd H1 a (exo a (He.ga X.K x) none)) d (exd d [(fl, v)])) a (exo a (He.ga X.K x) (some d))) a) d (.xd [(fl, v)]) = upd H1 d (.xd [(fl, v)]) := by
      funext b
      by_cases h1 : b = d
      · rw [h1, upd_same, upd_same]
      · rw [upd_ne h1, upd_ne h1]
        by_cases h2 : b = a
        · rw [h2, del_same, na]
        · rw [del_ne h2, upd_ne h2, upd_ne h1, upd_ne h2]
    rw [e2]
    have s2 := Stp.put (o := .xd [(fl, v)]) t1.sub nd
    refine hd.go (er y) p1.2 _ _ (upd S1 d (.xd [(fl, v)])) _ σ (t1.step s2) ?_
    unfold xEr
    rw [hi y]
    exact ⟨rfl, .inr ⟨d, _, rfl, upd_same, rfl, (f y).up s2.s r1, trivial⟩⟩
theorem s_raiseG {Dt : Type} {As : Dt → List BP} {ok : Dt → Prop} {fs : Dt → List (Str × MP)} {F : τ → List AA} {w w' : Wp τ} (er : τ → Er) (G : GE X.prog X.w X.K X.mg X.base x (He.ga X.K x) k ps (spEx (He.ga X.K x) As ok fs)) (hr : Room (k + 1) X.A) (hd : Hd X B Γ O Z Wx) (d : τ → Dt) (ha : AW X B Γ O Z N (e :: es) F w') (hA : ∀ t, F t = (As (d t)).map AA.b := by intro _; rfl) (hi : ∀ t, (er t).info X.K = (x, fs (d t)) := by intro _; rfl) (hw : w' = w := by rfl)
    (hl : ∀ t, (As (d t)).length ≤ 1000 := by intro _; exact Nat.le_of_ble_eq_true rfl) (hg : Gl X x := by rfl) (hc : X.calm = true := by rfl) (hdb : (x == ("__debug__" : Str)) = false := by decide) (hs : starEach (e :: es) X.env = (false, eval e X.env) :: starEach es X.env := by rfl) (hpl : (backTo pos (starEach es X.env)).any (·.1) = false := by rfl) :
    SW X B Γ O (.Raise (some (.Call (.Name x p) (e :: es) [] pos)) none pos' :: rest) D (W.run w Z fun t => ok (d t) ∧ Z (er t)) := by
  obtain ⟨g, fd, G, T, iC, tI, hm, hb⟩ := G
  refine s_cons fun hq S H σ st => ⟨_, ps_raise hc hd.tk (pmk_oex T iC tI G hr hb .nil passL hg hm pa_w hdb hs hpl), ha.2 S H σ st _ _ (hw ▸ hq) fun t vs S1 H1 p1 s1 t1 r1 => ?_⟩
  have r2 := r1 _ _ S1 H1 _ (Same.refl _) t1 ha.1
  rw [hA t] at r2
  have r3 : AllR (As (d t)) S1 H1 vs := by
    have : ∀ {Rs : List BP} {vs : List V}, AllA (Rs.map AA.b) S1 H1 vs → AllR Rs S1 H1 vs := by
      intro Rs
      induction Rs with
      | nil => intro vs h; cases vs with
        | nil => exact trivial
        | cons _ _ => exact h.elim
      | cons R Rs ih => intro vs h; cases vs with
        | nil => exact h.elim
        | cons v vs => exact ⟨h.1, ih h.2⟩
    exact this r2
  refine ⟨by rw [r3.length]; exact hl t, fun a na => ⟨d t, a, H1, vs, S1, p1.1, by rw [List.append_nil], rfl, na, t1.sub, r3, fun x us S' H' sp n1 ne g1 g2 g3 g4 g5 => ⟨rfl, x, us, g3, g4, n1, ?_⟩⟩⟩
  have e1 : Same S' (upd S' x (.xd us)) := fun b v z => by rw [upd_ne (ne_of_none z g1)]; exact z
  have s2 : Stp S1 H1 (upd S' x (.xd us)) (upd (del H' a) x (.xd us)) := by
    refine ⟨sp.s.trans e1, fun b v z => ?_, fun b v z => ?_, fun b z1 z2 => ?_⟩
    · by_cases y : b = x
      · subst y; rw [upd_same] at z ⊢; exact z
      · rw [upd_ne y] at z ⊢
        rw [del_ne (fun y => by subst y; rw [g2] at z; cases z)]
        exact sp.i b v z
    · rw [upd_ne (ne_of_none z n1), del_ne (ne_of_none z na)]
      exact sp.h b v z
    · rw [upd_ne (fun y => by subst y; exact z2 n1)]
      exact sp.fr b z1 z2
  refine hd.go (er t) p1.2 _ _ _ _ σ (t1.step s2) ?_
  unfold xEr
  rw [hi t]
  exact ⟨rfl, .inr ⟨x, us, rfl, upd_same, g5.up e1⟩⟩
end
section
variable {P : Program} {w : World} {K : PySem.W.Frag} {mg : Str → Option Value} {base : Heap} {k : Nat} {ps : List Str}
theorem def_ok {D ρ : Type} {As : D → List AP} {wp : D → Wp ρ} {res : ρ → RP} {Ms : ρ → List OP} {N : List Str} {x q : Str} {s : Stmt} {f : Addr} {fd : FuncData} (F : FnS K x q s f fd) (Sc : FnScope N ps (defScope s)) (Gs : D → List V → Hp → Gm) (Os : D → List V → Om) (Us : D → List V → ρ → Om)
    (hb : ∀ (cdv : Value) (A : Around) (outer : List Env) (s' : Shared) (H0 L S : Hp) (Q : VK) (E : XK) (d : D) (vs : List V) (Pp : ρ → Prop) (Z : Er → Prop), vs.length = ps.length → N.Nodup → Room k (A.deeper (envOfC q (defScope s) s'.heap.objs.size f cdv)) →
      Fin ⟨S, L, .yes⟩ res (Us d vs) Pp Q →
      (∀ Γ O, (Os d vs).Sublist O → Hd (cxOf (L2.CX P w) P w K mg base N q (defScope s) f cdv A outer s' H0 E) ⟨S, L, .yes⟩ Γ O Z (fun c d _ H => E c d H)) →
      SW (cxOf (L2.CX P w) P w K mg base N q (defScope s) f cdv A outer s' H0 E) ⟨S, L, .yes⟩ (Gs d vs L) (Os d vs) (defBody s) { nx := fun _ H' => Q .non H', rt := Q } (wp d Pp Z))
    (hl : ∀ d, (As d).length = ps.length := by intro _; rfl) (hG : ∀ d vs L, vs.length = ps.length → gm1 (As d) vs L ++ List.replicate (N.length - (As d).length) none = Gs d vs L) (hO : ∀ d vs, vs.length = ps.length → mutO (As d) vs (ownP (As d)) = Os d vs) (hU : ∀ d vs r, vs.length = ps.length → mutO (As d) vs (Ms r) = Us d vs r) : FnOk P w K mg base (L2.CX P w) (k + 1) f fd ps (spW K As wp res Ms) :=
  fun_ok F Sc hl fun cdv A outer s' H0 L S Q E d vs Pp Z hv hr fin hd => by
    rw [hG d vs L hv, hO d vs hv]
    rw [hO d vs hv] at hd
    exact hb cdv A outer s' H0 L S Q E d vs Pp Z hv Sc.nd hr ⟨fun r v S' H' p h => fin.go r v S' H' p (by show (res r).post _ (mutO (As d) vs (Ms r)) _ _ _; rw [hU d vs r hv]; exact h)⟩ hd
end
section
variable {X : Cx} {B : Bs} {Γ : Gm} {O : Om} {Z : Er → Prop} {e : Expr} {pos : Pos} {D : Ends} {rest : List Stmt} {α ρ : Type} {res : ρ → RP} {Os : ρ → Om} {P : ρ → Prop} {Q : VK}
theorem f_ret {f : ρ → MP} {w w' : Wp ρ} (F : Fin B res Os P Q) (he : EW X B Γ O Z e f w') (hw : w' = w := by rfl) (hO : ∀ r, Os r = [] := by intro _; rfl) (hf : ∀ r, res r = .v (f r) := by intro _; rfl) (hD : D.rt = Q := by rfl) : SW X B Γ O (.Return (some e) pos :: rest) D (W.run w Z P) :=
  s_ret he (fun a v S H σ p t r => by rw [hD]; refine F.go a v S H p ?_; rw [hf a, hO a]; exact ⟨(t.drop (List.nil_sublist _)).bare, r⟩) hw
theorem f_retN {f : ρ → OP} {w w' : Wp ρ} (F : Fin B res Os P Q) (he : NW X B Γ O Z e f w') (hw : w' = w := by rfl) (hO : ∀ r, Os r = [] := by intro _; rfl) (hf : ∀ r, res r = .o (f r) := by intro _; rfl) (hD : D.rt = Q := by rfl) : SW X B Γ O (.Return (some e) pos :: rest) D (W.run w Z P) :=
  s_retN he (fun a v S H σ p t => by rw [hD]; refine F.go a v S H p ?_; rw [hf a, hO a]; exact (t.drop ((List.nil_sublist _).cons_cons _)).bare) hw
theorem f_retO {f : ρ → OP} {i k : Nat} {u : V} {r : ρ} {x : Str} {p : Pos} (F : Fin B res Os P Q) (hl : O[k]? = some (u, f r) := by rfl) (hG : Γ[i]? = some (some (tV u)) := by rfl) (hN : X.N[i]? = some x := by rfl) (hv : Vis X.env.scope x := by first | exact Or.inl rfl | exact Or.inr (Or.inl rfl) | exact Or.inr (Or.inr rfl))
    (hd : (x == ("__debug__" : Str)) = false := by decide) (hcd : (x == ("__classdict__" : Str)) = false := by decide) (hO : ∀ r, Os r = [] := by intro _; rfl) (hf : ∀ r, res r = .o (f r) := by intro _; rfl) (hD : D.rt = Q := by rfl) : SW X B Γ O (.Return (some (.Name x p)) pos :: rest) D (P r) :=
  s_cons fun q S H σ st => by
    obtain ⟨u', h1, h2⟩ := st.slot i _ hG
    have h2' : u' = u := h2
    subst h2'
    refine ⟨_, ps_ret (pe_var hN hv hd hcd), u', h1, ?_⟩
    show D.rt u' H
    rw [hD]
    refine F.go r u' S H q ?_
    rw [hf r, hO r]
    exact ((st.perm (front_perm k hl)).drop ((List.nil_sublist _).cons_cons _)).bare
theorem f_init {r : ρ} {u : V} {Pi : OP} (F : Fin B res Os P Q) (hO : Os r = [(u, Pi)] := by rfl) (hf : res r = .v tN := by rfl) (hD : D.nx = fun _ H' => Q .non H' := by rfl) : SW X B Γ ((u, Pi) :: O) [] D (P r) := fun q S H σ st => ⟨_, pss_nil, by
  show D.nx σ H
  rw [hD]
  refine F.go r .non S H q ?_
  rw [hf, hO]
  exact ⟨(st.drop ((List.nil_sublist _).cons_cons _)).bare, rfl⟩⟩
end
end OW
namespace OW
open PySem PySem.Spec PyProof.Rows L2 OT NdefX
abbrev tP2 {α β : Type} (K : PySem.W.Frag) (f : α → MP) (g : β → MP) (q : α × β) : MP := tT K [f q.1, g q.2]
abbrev tP3 {α β γ : Type} (K : PySem.W.Frag) (f : α → MP) (g : β → MP) (h : γ → MP) (q : α × β × γ) : MP := tT K [f q.1, g q.2.1, h q.2.2]
abbrev tP4 {α β γ δ : Type} (K : PySem.W.Frag) (f : α → MP) (g : β → MP) (h : γ → MP) (i : δ → MP) (q : α × β × γ × δ) : MP := tT K [f q.1, g q.2.1, h q.2.2.1, i q.2.2.2]
section
variable {X : Cx} {B : Bs} {Γ : Gm} {O N N' : Om} {Z : Er → Prop} {e a b c o : Expr} {es : List Expr} {p p2 pos pos' apos : Pos} {Ds : Ends} {rest body els : List Stmt} {α β γ : Type} {x m : Str} {Wx : WX}
section
variable {τ D ρ : Type} {As : D → List AP} {wp : D → Wp ρ} {res : ρ → RP} {Ms : ρ → List OP} {F : τ → List AA} {M R : Om} {w : Wp τ} {k : Nat} {ps : List Str} {C : Addr} {bo : α → BP} {wo : Wp α}
theorem w_fn {f : ρ → MP} (G : GF X.prog X.w X.K X.mg X.base x k ps (spW X.K As wp res Ms)) (hr : Room k X.A) (hd : Hd X B Γ O Z Wx) (d : τ → D) (ha : AW X B Γ O Z N (e :: es) F w) (hA : ∀ t, ArgM (F t) (As (d t)) []) (hf : ∀ r, res r = .v (f r) := by intro _; rfl)
    (hg : Gl X x := by rfl) (hdb : (x == ("__debug__" : Str)) = false := by decide) (he : starEach (e :: es) X.env = (false, eval e X.env) :: starEach es X.env := by rfl) (hpl : (backTo pos (starEach es X.env)).any (·.1) = false := by rfl) : EW X B Γ O Z (.Call (.Name x p) (e :: es) [] pos) f (W.bind w fun t => wp (d t)) :=
  c_call (M := []) (R := O) G hr hd d ha hA (.refl _) ha.1 hf hg hdb he hpl
theorem n_fn {f : ρ → OP} (G : GF X.prog X.w X.K X.mg X.base x k ps (spW X.K As wp res Ms)) (hr : Room k X.A) (hd : Hd X B Γ O Z Wx) (d : τ → D) (ha : AW X B Γ O Z N (e :: es) F w) (hA : ∀ t, ArgM (F t) (As (d t)) []) (hf : ∀ r, res r = .o (f r) := by intro _; rfl)
    (hg : Gl X x := by rfl) (hdb : (x == ("__debug__" : Str)) = false := by decide) (he : starEach (e :: es) X.env = (false, eval e X.env) :: starEach es X.env := by rfl) (hpl : (backTo pos (starEach es X.env)).any (·.1) = false := by rfl) : NW X B Γ O Z (.Call (.Name x p) (e :: es) [] pos) f (W.bind w fun t => wp (d t)) :=
  c_callN (M := []) (R := O) G hr hd d ha hA (.refl _) ha.1 hf hg hdb he hpl
theorem w_mt {pl : Sem Bool} {f : ρ → MP} (cl : Cls X.K C) (G : GM X.prog X.w X.K X.mg X.base C m k ps (spW X.K As wp res Ms)) (hr : Room k X.A) (hd : Hd X B Γ O Z Wx) (d : α → τ → D) (ho : RW X B Γ O Z N' o bo wo) (hi : ∀ y, InsB C m (bo y)) (ha : AW X B Γ O Z N (e :: es) F w) (hA : ∀ y t, ArgM (.b (bo y) :: F t) (As (d y t)) []) (hf : ∀ r, res r = .v (f r) := by intro _; rfl)
    (hst : starEach (e :: es) X.env = (false, eval e X.env) :: starEach es X.env := by rfl) (hpl : (backTo pos (starEach es X.env)).any (·.1) = false := by rfl)
    (ht : eval (.Call (.Attribute o m apos) (e :: es) [] pos) X.env = (do
      let ov ← eval o X.env
      standAt apos.atName
      let (f, first) ← holding [ov] (getMethod ov m pl)
      callWith pos f first (backTo pos (starEach (e :: es) X.env)) (backToKw pos (keywordEach [] X.env))) := by rfl) : EW X B Γ O Z (.Call (.Attribute o m apos) (e :: es) [] pos) f (W.bind wo fun y => W.bind w fun t => wp (d y t)) :=
  c_meth (M := []) (R := O) cl G hr hd d ho hi ha hA (.refl _) (fun x hx => (List.mem_append.mp hx).elim (ho.1 x) (ha.1 x)) hf hst hpl ht
end
theorem s_setNV {D : Ends} {i : Nat} {x : Str} {f : α → OP} {v : α} {p : α → Prop} (he : NW X B Γ O Z e f (W.ret v)) (h : ∀ u a, a = v → SW X B (Γ.set i (some (tV u))) ((u, f a) :: O) rest D (p a)) (hi : X.N[i]? = some x := by rfl) (hl : i < Γ.length := by exact Nat.le_of_ble_eq_true rfl) (hN : X.N.Nodup := by assumption)
    (hx : Loc X.env.scope x := by first | exact Or.inl rfl | exact Or.inr rfl) (hs : swapsWith e (some (.Name x pos')) pos.line X.env = pure false := by rfl) (hf : X.fn x = true ∨ X.env.scope.names.lookup x = some .local := by first | exact .inl rfl | exact .inr rfl | assumption) :
    SW X B Γ O (.Assign [.Name x pos'] e pos :: rest) D (W.lt v p) :=
  s_cons fun q S H σ st => ⟨_, ps_set hN hi hx pe_w hs hf, he S H σ st (fun a => a = v) _ rfl fun a u S1 H1 p1 s1 t1 r1 => h u a p1 (by rw [p1]; exact q) S1 H1 _ (t1.set rfl hl)⟩
end
end OW
namespace OW
open PySem PySem.Spec PyProof.Rows L2 OT NdefX
section
variable {X : Cx} {B : Bs} {Γ : Gm} {O N N' : Om} {Z : Er → Prop} {e a b c o l : Expr} {es : List Expr} {p p2 pos pos' apos : Pos} {Ds : Ends} {rest body els : List Stmt} {α β γ : Type} {x m : Str} {Wx : WX} {f : α → MP}
theorem NW.imp {F : α → OP} {g : β → OP} {w : Wp α} (h : NW X B Γ O Z e F w) (k : α → β) (i : ∀ a, F a = g (k a)) : NW X B Γ O Z e g (W.bind w fun a => W.ret (k a)) := fun S H σ st P Q p n => h S H σ st _ Q p fun a v S' H' p1 s1 t1 r1 => n (k a) v S' H' p1 s1 (by have t2 : Stt B Γ ((v, F a) :: O) S' H' σ := t1; rw [i a] at t2; exact t2) trivial
theorem n_nil : NW X B Γ O Z (.List [] pos) (oLs f) (W.ret []) := NW.imp (n_lst (F := fun _ : Unit => []) a_nil) (g := oLs f) (fun _ => []) fun _ => rfl
theorem i_lentQ {tg : Expr} (i : Nat) {xs : List α} (hG : Γ[i]? = some (some ((rQ X.K f xs).at_ B.H)) := by rfl) (hN : X.N[i]? = some x := by rfl) (hv : Vis X.env.scope x := by first | exact Or.inl rfl | exact Or.inr (Or.inl rfl) | exact Or.inr (Or.inr rfl))
    (hd : (x == ("__debug__" : Str)) = false := by decide) (hcd : (x == ("__classdict__" : Str)) = false := by decide) : IW X B Γ O Z [] tg (.Name x pos) f (W.ret xs) := ⟨(fun _ h => by cases h), fun S H σ st P Rk p k => by
  obtain ⟨v, h1, q, vs, e0, h2, h3⟩ := st.slot i _ hG
  subst e0
  have m3 := AllR.toM h3
  rcases h2 with h2 | h2
  · refine ⟨_, pi_list (pe_var hN hv hd hcd), _, h1, q, rfl, ⟨vs, st.st.h.seq h2⟩, k xs (Itl X.K q) ⟨fun S => AllM (xs.map f) S vs, fun e h => h.up e⟩ S H p (Same.refl _) st m3 fun Γ2 O2 S2 H2 σ2 t _ => ?_⟩
    have g1 := t.st.h.seq h2
    have g2 : AllM (xs.map f) S2 vs := t.gh.2
    refine ⟨⟨vs, g1, by rw [g2.length, List.length_map]; exact Nat.le_refl _⟩, fun i hi => ?_⟩
    obtain ⟨y, h6, h7⟩ := g2.get (i := i) (R := f xs[i]) (by simp [hi])
    refine ⟨⟨vs, y, g1, h6⟩, fun y' H3 ⟨e, hy⟩ => ?_⟩
    subst e
    have := hy vs g1
    rw [h6] at this
    cases this
    exact ⟨S2, Stp.refl t.sub, h7⟩
  · refine ⟨_, pi_tup (pe_var hN hv hd hcd), _, h1, q, rfl, ⟨vs, Same.tup st.st.h h2⟩, k xs (Itt X.K q) ⟨fun S => AllM (xs.map f) S vs, fun e h => h.up e⟩ S H p (Same.refl _) st m3 fun Γ2 O2 S2 H2 σ2 t _ => ?_⟩
    have g1 := Same.tup t.st.h h2
    have g2 : AllM (xs.map f) S2 vs := t.gh.2
    refine ⟨⟨vs, g1, by rw [g2.length, List.length_map]; exact Nat.le_refl _⟩, fun i hi => ?_⟩
    obtain ⟨y, h6, h7⟩ := g2.get (i := i) (R := f xs[i]) (by simp [hi])
    refine ⟨⟨vs, y, g1, h6⟩, fun y' H3 ⟨e, hy⟩ => ?_⟩
    subst e
    have := hy vs g1
    rw [h6] at this
    cases this
    exact ⟨S2, Stp.refl t.sub, h7⟩⟩
end
end OW
namespace OW
open PySem PySem.Spec PyProof.Rows L2 OT NdefX
section
variable {X : Cx} {B : Bs} {Γ : Gm} {O N N' : Om} {Z : Er → Prop} {e a b c o l ix : Expr} {es : List Expr} {p p1 p2 pos pos' apos : Pos} {D : Ends} {rest body els : List Stmt} {α β γ τ : Type} {x m nm fl : Str} {f : α → MP} {G : α → BP} {F : α → OP}
theorem comp_plain {c : α → Bool} {g : α → β} {E : Er → Prop} : ∀ {xs : List α} {Q : List β → Prop}, Q ((xs.filter c).map g) → W.comp (fun x => W.ret (c x)) (fun x => W.ret (g x)) xs Q E
  | [], Q, h => h
  | x :: xs, Q, h => by
    show W.ite (c x) (W.comp _ _ xs (fun ys => Q (g x :: ys)) E) (W.comp _ _ xs Q E)
    cases e : c x with
    | true =>
      refine ⟨fun _ => comp_plain (Q := fun ys => Q (g x :: ys)) ?_, (fun z => by cases z)⟩
      rw [List.filter_cons, e] at h
      exact h
    | false =>
      refine ⟨(fun z => by cases z), fun _ => comp_plain ?_⟩
      rw [List.filter_cons, e] at h
      exact h
abbrev W.compP {α β : Type} (c : α → Bool) (g : α → β) (xs : List α) : Wp (List β) := W.grd (xs.length ≤ 100000) ((xs.filter c).map g)
theorem hk_plain {c : α → Bool} {g : α → β} : ∀ xs P, W.compP c g xs P Z → W.compG (fun x => W.ret (c x)) (fun x => W.ret (g x)) xs P Z := fun xs P h => ⟨h.1, comp_plain h.2⟩
theorem hk_id {wc : α → Wp Bool} {wg : α → Wp β} : ∀ xs P, W.compG wc wg xs P Z → W.compG wc wg xs P Z := fun _ _ h => h
abbrev W.getS (z : Str) (i : Int) : Wp Str := fun Q _ => z.length ≤ 100000 ∧ ∃ c, atI z.cps.toList i = some c ∧ Q ⟨#[c]⟩
def sgin (y z : Str) : Bool := decide (y.cps.toList.headD 0 ∈ z.cps.toList)
abbrev W.sg (y z : Str) (neg : Bool) : Wp Bool := W.grd (y.length = 1) (neg.xor (sgin y z))
section
variable {wa wb : Wp Str}
end
end
def sle (a b : Str) : Bool := !ltCps b.cps.toList a.cps.toList
def srt (xs : List Str) : List Str := xs.mergeSort sle
theorem srt_perm (xs : List Str) : (srt xs).Perm xs := List.mergeSort_perm xs sle
section
variable {X : Cx} {B : Bs} {Γ : Gm} {O N N' : Om} {Z : Er → Prop} {e : Expr} {p pos : Pos}
end
end OW
namespace OW
open PySem PySem.Spec PyProof.Rows L2 OT NdefX
section
variable {X : Cx} {B : Bs} {Γ : Gm} {O N N' : Om} {Z : Er → Prop} {p p1 p2 pos pos' apos : Pos} {D : Ends} {rest body els : List Stmt} {α β γ τ : Type} {f : α → MP}
theorem s_setLc {i : Nat} {y : Str} {py : Pos} {tg it elt : Expr} {ifs : List Expr} {scope : Scope} (own : List (Str × Nat)) {F : β → OP} {wc : α → Wp Bool} {wg : α → Wp β} {w : Wp (List α)} (Γw : Gm) (hi : IW X B Γ O Z N tg it f w) (Γ' : α → Gm) (js : List Nat)
    (hb : ∀ (G : Gho) (m : V × OP) x, BlkJ X scope (fun Y => GJ Y (B.add G) (O ++ [m]) tg (f x) Γw (Γ' x) js ∧ IfsW Y (B.add G) (Γ' x) (O ++ [m]) E0 ifs (wc x) ∧ NW Y (B.add G) (Γ' x) (O ++ [m]) E0 elt F (wg x))) {wk : List α → Wp (List β)} (hk : ∀ xs P, wk xs P Z → W.compG wc wg xs P Z) {q : List β → Prop} {w' : Wp (List β)}
    (h : ∀ ys u, SW X B (Γ.set i (some (tV u))) ((u, oL (ys.map F)) :: O) rest D (q ys)) (hw' : W.bind w wk = w' := by rfl)
    (hsw : swapsWith (.ListComp elt [⟨tg, it, ifs, 0⟩] scope pos) (some (.Name y py)) pos'.line X.env = pure true := by exact sw_true rfl rfl rfl (by decide +kernel))
    (hjs : ∀ j ∈ js, j ∈ own.map (·.2) := by decide) (hw : noneAt Γw (own.map (·.2)) = true := by rfl) (gl : Gle Γw Γ := by exact Gle.rfl') (hy : X.N[i]? = some y := by rfl) (hl : i < Γ.length := by exact Nat.le_of_ble_eq_true rfl) (hyl : X.env.scope.names.lookup y = some .local := by rfl) (ok : blkB X.N X.env.scope scope own = true := by kernel_rfl) (hN : X.N.Nodup := by assumption) (hc : X.calm = true := by rfl) (hs : ∀ x, foldedSetIterable it X.env x = pure x := by intro _; rfl) :
    SW X B Γ O (.Assign [.Name y py] (.ListComp elt [⟨tg, it, ifs, 0⟩] scope pos) pos' :: rest) D (W.run w' Z q) :=
  s_cons fun hq S H σ st => ⟨_, ps_setLc hc hN hy hyl hsw pi_w (blk_by ok) (fun s H C cl fp => ⟨fun pins s' σ H' v u Q I r h => pg_w.run pins s' σ H' v u Q I r (h s H C cl fp)⟩) (fun s H C cl fp => ⟨fun pins s' σ H' Q I h => let ⟨_, h1, h2⟩ := h s H C cl fp; h1.run pins s' σ H' Q I h2⟩)
    (fun s H C cl fp => ⟨fun pins s' σ H' Q I h => pe_w.run pins s' σ H' Q I (h s H C cl fp)⟩) hs, lc_go Γw hi (noneAt_ok hw) gl Γ' js hjs hb hk st (by rw [← hw'] at hq; exact hq) fun ys v S1 H1 p1 s1 t1 => h ys v p1 S1 H1 _ (t1.set rfl hl)⟩
end
end OW
namespace OW
open PySem PySem.Spec PyProof.Rows L2 OT NdefX
section
variable {X : Cx}
end
section
variable {X : Cx} {B : Bs} {Γ : Gm} {O N N' : Om} {Z : Er → Prop} {p p1 p2 pos pos' apos : Pos} {D : Ends} {rest body els : List Stmt} {α β γ τ : Type} {f : α → MP}
def W.dcomp {α β : Type} (c : α → Wp Bool) (k : α → Wp Str) (v : α → Wp β) : List α → List (Str × β) → Wp (List (Str × β))
  | [], d, Q, _ => Q d
  | x :: xs, d, Q, E => c x (fun t => W.ite t (k x (fun key => v x (fun y => W.dcomp c k v xs (dput d key y) Q E) E) E) (W.dcomp c k v xs d Q E)) E
def W.dcompG {α β : Type} (c : α → Wp Bool) (k : α → Wp Str) (v : α → Wp β) (xs : List α) : Wp (List (Str × β)) := fun Q _ => xs.length ≤ 100000 ∧ W.dcomp c k v xs [] Q E0
def dcol {α β : Type} (c : α → Bool) (k : α → Str) (v : α → β) : List α → List (Str × β) → List (Str × β)
  | [], d => d
  | x :: xs, d => if c x = true then dcol c k v xs (dput d (k x) (v x)) else dcol c k v xs d
abbrev W.dcompP {α β : Type} (c : α → Bool) (k : α → Str) (v : α → β) (xs : List α) : Wp (List (Str × β)) := W.grd (xs.length ≤ 100000) (dcol c k v xs [])
end
end OW
namespace OW
open PySem PySem.Spec PyProof.Rows L2 OT NdefX
def ItE (sq : Hp → List V → Prop) (k : Int) : It :=
  ⟨fun i H => ∃ (xs : List V) (x : V), sq H xs ∧ xs[i]? = some x, fun i H v H' => ∃ T x, v = .ref T ∧ H T = none ∧ H' = upd H T (.tup [.int (k + (i : Nat)), x]) ∧ ∀ xs, sq H xs → xs[i]? = some x, fun i H => ∃ xs : List V, sq H xs ∧ xs.length = i⟩
def enJ (K : PySem.W.Frag) (a : Addr) (k : Int) (H : Hp) (R : It → Hp → Prop) : Prop := ∃ xs, (SqL K H a xs ∧ R (ItE (fun H xs => SqL K H a xs) k) H) ∨ (SqT K H a xs ∧ R (ItE (fun H xs => SqT K H a xs) k) H)
def iEn1 (K : PySem.W.Frag) (ta : TA) : TI := fun σ H R => ta σ H fun vs H1 => ∃ a, vs = [.ref a] ∧ enJ K a 0 H1 R
def iEn2 (K : PySem.W.Frag) (ta : TA) : TI := fun σ H R => ta σ H fun vs H1 => ∃ a k, vs = [.ref a, .int k] ∧ -(2 ^ 63) ≤ k ∧ k < 2 ^ 63 ∧ enJ K a k H1 R
section
variable {X : Cx} {e b : Expr} {te tb : TE} {p pos tpos : Pos} {elts : List Expr} {kk : Nat}
end
section
variable {X : Cx} {B : Bs} {Γ : Gm} {O N N' : Om} {Z : Er → Prop} {e a b c o l : Expr} {es elts : List Expr} {p p2 pos pos' apos tpos : Pos} {α β γ τ : Type} {f : α → MP} {kk : Nat}
def enm {α : Type} (k : Int) (xs : List α) : List (Int × α) := (List.range xs.length).zip xs |>.map fun q => (k + (q.1 : Int), q.2)
def Sqk (K : PySem.W.Frag) (t : Bool) (a : Addr) (H : Hp) (xs : List V) : Prop := if t = true then SqL K H a xs else SqT K H a xs
def QW (X : Cx) (B : Bs) (Γ : Gm) (O : Om) (Z : Er → Prop) (N : Om) (e : Expr) (f : α → MP) (w : Wp (List α)) : Prop := (∀ x ∈ N, x ∈ O) ∧ ∀ S H σ, Stt B Γ O S H σ → ∀ (P : List α → Prop) (Q : VK), w P Z →
  (∀ xs q t S' H', P xs → Same S S' → Stt B Γ O S' H' σ → (∀ Γ2 O2 S2 H2 σ2, Same S' S2 → Stt B Γ2 O2 S2 H2 σ2 → (∀ x ∈ N, x ∈ O2) → ∃ ws, Sqk X.K t q H2 ws ∧ AllM (xs.map f) S2 ws) → Q (.ref q) H') → wE X e σ H Q
end
end OW
namespace OW
open PySem PySem.Spec PyProof.Rows L2 OT NdefX
section
variable {X : Cx} {B : Bs} {Γ : Gm} {O N N1 : Om} {Z : Er → Prop} {p p1 p2 pos pos' apos : Pos} {D : Ends} {rest body els : List Stmt} {α β γ τ : Type} {f : α → MP} {f1 : γ → MP}
def W.compA {γ β : Type} (c : γ → Wp Bool) (g : γ → Wp β) : List γ → List β → Wp (List β)
  | [], acc, Q, _ => Q acc
  | x :: xs, acc, Q, E => c x (fun t => W.ite t (g x (fun y => acc.length < 100000 ∧ W.compA c g xs (acc ++ [y]) Q E) E) (W.compA c g xs acc Q E)) E
def W.comp2 {α β γ : Type} (c : α → Wp Bool) (wi : α → Wp (List γ)) (c1 : α → γ → Wp Bool) (g : α → γ → Wp β) : List α → List β → Wp (List β)
  | [], acc, Q, _ => Q acc
  | x :: xs, acc, Q, E => c x (fun t => W.ite t (wi x (fun zs => W.compA (c1 x) (g x) zs acc (fun acc' => W.comp2 c wi c1 g xs acc' Q E) E) E) (W.comp2 c wi c1 g xs acc Q E)) E
abbrev W.comp2G {α β γ : Type} (c : α → Wp Bool) (wi : α → Wp (List γ)) (c1 : α → γ → Wp Bool) (g : α → γ → Wp β) (xs : List α) : Wp (List β) := fun Q _ => W.comp2 c wi c1 g xs [] Q E0
end
end OW
namespace OW
open PySem PySem.Spec PyProof.Rows L2 OT NdefX
section
variable {prog : Program} {w : World} {A : Around} {E : Value → Shared → Prop} {s : Shared}
end
section
variable {X : Cx}
def rSortedT (K : PySem.W.Frag) : List V → Hp → VK → Prop := fun vs H Q => ∃ (a : Addr) (xs : List Str), vs = [V.ref a] ∧ SqT K H a (xs.map V.str) ∧ xs.length < 64 ∧ ∀ (ys : List Str) (p : Addr), ys.Perm xs → sortedS ys = true → H p = none → Q (.ref p) (upd H p (.lst (ys.map V.str)))
end
section
variable {X : Cx} {B : Bs} {Γ : Gm} {O N N' : Om} {Z : Er → Prop} {e : Expr} {p pos : Pos}
end
end OW
namespace OW
open PySem PySem.Spec PyProof.Rows L2 OT NdefX
section
variable {X : Cx} {B : Bs} {Γ : Gm} {O : Om} {Z : Er → Prop} {p pos : Pos} {α : Type} {fl nm : Str} {C : Addr}
end
end OW
namespace OW
open PySem PySem.Spec PySem.W PyProof.Rows L2 OT
section
variable {prog : Program} {w : World} {κ : Type} [DecidableEq κ] {knd : KeyKind prog w κ} {A : Around} {E : Value → Shared → Prop}
theorem pairs_loop {nm : String} {a b : Addr} {oa ob : Obj} {es es' : Array DictEntry} {ep ep' : Nat} {ka kb : List (κ × Value)} {f : κ → Bool} {J : Shared → Prop} {Q : Bool → Shared → Prop} (ha : (a == sysModules) = false) (hb : (b == sysModules) = false)
    (hda : oa.data = .dict es ep) (hdb : ob.data = .dict es' ep') (hka : KeysOf knd es) (hkb : KeysOf knd es') (hpa : Pairs knd es.toList ka) (hpb : Pairs knd es'.toList kb) (ga : ∀ s, J s → s.heap.get? a = some oa) (gb : ∀ s, J s → s.heap.get? b = some ob)
    (turn : ∀ k v y, (k, v) ∈ ka → valueAt kb k = some y → ∀ s, J s → wpAny (model prog w) A (eqBool v y) (fun r s' => r = f k ∧ J s') E s)
    (fin : ∀ s, J s → Q (ka.length == kb.length && ka.all fun p => (valueAt kb p.1).isSome && f p.1) s) {s : Shared} (j0 : J s) : wpAny (model prog w) A (Builtin.Dict.samePairs nm a b) Q E s := by
  have la : ka.length = es.size := by rw [← hpa.length]; exact Array.length_toList
  have lb : kb.length = es'.size := by rw [← hpb.length]; exact Array.length_toList
  have look : ∀ k, findBy knd.is es' k = valueAt kb k := fun k => by
    rw [← hpb.find k]
    clear lb hpb hkb hdb
    obtain ⟨l⟩ := es'
    simp [findBy]
  unfold Builtin.Dict.samePairs Builtin.Dict.showsAll
  rw [if_neg (by rw [ha]; exact Bool.false_ne_true), if_neg (by rw [hb]; exact Bool.false_ne_true)]
  refine wpAny_bind (wpAny_pure (wpAny_bind (wpAny_pure (wpAny_bind (wpAny_dictEntries (ga s j0) hda ?_)))))
  dsimp only
  refine wpAny_bind (wpAny_dictEntries (gb s j0) hdb ?_)
  by_cases hz : es.size = es'.size
  case neg =>
    rw [if_pos (by simpa using hz)]
    have hf := fin s j0
    rw [la, lb, show (es.size == es'.size) = false from by simpa using hz, Bool.false_and] at hf
    exact wpAny_bind (wpAny_rule (wpAny_pure hf))
  rw [if_neg (by rw [hz]; simp)]
  have fin' : ∀ s, J s → Q (ka.all fun p => (valueAt kb p.1).isSome && f p.1) s := fun s j => by
    have := fin s j
    rw [la, lb, show (es.size == es'.size) = true from by simpa using hz, Bool.true_and] at this
    exact this
  refine wpAny_bind (wpAny_dictEpoch (ga s j0) hda (wpAny_bind ?_))
  rw [Std.Legacy.Range.forIn_eq_forIn_range']
  simp only [Std.Legacy.Range.size, Nat.sub_zero, Nat.add_sub_cancel, Nat.div_one]
  refine wpAny_forIn_list _ (fun rest q s' => J s' ∧ q = (none, ()) ∧ ∃ i, rest = List.range' i (es.size - i) ∧ i ≤ es.size ∧ ∀ s, J s → Q ((ka.drop i).all fun p => (valueAt kb p.1).isSome && f p.1) s) _ ?_ ?_ _ _ ⟨j0, rfl, 0, by simp, Nat.zero_le _, fun s j => fin' s j⟩
  · rintro x rest q s' ⟨j1, rfl, i, hr, hi, fi⟩
    have hlt : i < es.size := by
      rcases Nat.lt_or_ge i es.size with h | h
      · exact h
      · rw [Nat.sub_eq_zero_of_le h] at hr; simp at hr
    have hs1 : es.size - i = (es.size - (i + 1)) + 1 := by omega
    rw [hs1, List.range'_succ] at hr
    injection hr with hx hrest
    subst hx
    have hlt' : x < ka.length := by rw [la]; exact hlt
    obtain ⟨k, v, hkv⟩ : ∃ k v, ka[x] = (k, v) := ⟨_, _, rfl⟩
    have hmem : (k, v) ∈ ka := by rw [← hkv]; exact List.getElem_mem hlt'
    have hdrop : ka.drop x = (k, v) :: ka.drop (x + 1) := by rw [← hkv]; exact List.drop_eq_getElem_cons hlt'
    rw [hdrop, List.all_cons] at fi
    obtain ⟨hkey, hval⟩ := hpa.get? (i := x) (e := es[x]) (k := k) (v := v) (by rw [Array.getElem?_toList]; exact Array.getElem?_eq_getElem hlt) (by rw [List.getElem?_eq_getElem hlt', hkv])
    obtain ⟨k', hk', hh⟩ := hka es[x] (Array.getElem_mem hlt)
    rw [knd.inj _ _ _ hk' hkey] at hh
    refine wpAny_bind (wpAny_dictEntries (ga s' j1) hda ?_)
    rw [Array.getElem?_eq_getElem hlt]
    show wpAny _ _ (holding [es[x].key, es[x].val] _ >>= _) _ _ _
    rw [hh]
    refine wpAny_bind (wpAny_holding (wpAny_bind (wpAny_dictFind_of hkey (gb s' j1) hdb hkb ?_)))
    cases hj : es'.findIdx? fun e => knd.is k e.key with
    | none =>
      have hn : valueAt kb k = none := by rw [← look k, findBy_of_findIdx?, hj]
      rw [hn] at fi
      refine wpAny_pure ?_
      show wpAny _ _ (if (!false) = true then _ else _) _ _ _
      rw [if_pos (by decide)]
      exact wpAny_pure (wpAny_pure (by simpa using fi s' j1))
    | some j =>
      obtain ⟨hjl, _, _⟩ := Array.findIdx?_eq_some_iff_getElem.mp hj
      have hv : valueAt kb k = some es'[j].val := by
        rw [← look k, findBy_of_findIdx?, hj]
        simp [Array.getElem?_eq_getElem hjl]
      rw [hv] at fi
      refine wpAny_bind (wpAny_dictEntries (gb s' j1) hdb ?_)
      rw [Array.getElem?_eq_getElem hjl]
      refine wpAny_holding ?_
      rw [hval]
      refine wpAny_mono (turn k v _ hmem hv s' j1) (fun r s2 ⟨er, j2⟩ => ?_) fun _ _ z => z
      subst er
      cases e : f k with
      | false =>
        show wpAny _ _ (if (!false) = true then _ else _) _ _ _
        rw [if_pos (by decide)]
        exact wpAny_pure (wpAny_pure (by simpa [e] using fi s2 j2))
      | true =>
        show wpAny _ _ (if (!true) = true then _ else _) _ _ _
        rw [if_neg (by decide)]
        refine wpAny_bind (wpAny_dictEpoch (ga s2 j2) hda ?_)
        rw [if_neg (by simp)]
        exact wpAny_pure ⟨j2, rfl, x + 1, hrest, hlt, fun s j => by simpa [e] using fi s j⟩
  · rintro q s' ⟨j1, rfl, i, hr, hi, fi⟩
    have hin : i = es.size := by
      rcases Nat.lt_or_ge i es.size with h | h
      · have hs1 : es.size - i = (es.size - (i + 1)) + 1 := by omega
        rw [hs1, List.range'_succ] at hr; exact nomatch hr
      · exact Nat.le_antisymm hi h
    rw [hin, ← la, List.drop_length] at fi
    exact wpAny_pure (fi s' j1)
end
section
variable {X : Cx}
theorem RcN.dictEq {n : Nat} {a b : Addr} {oa ob : Obj} {ks ls : List (Key × V)} {f : Key → Bool} {H : Hp} {r : Bool} (ha : H a = some (.frz oa (.dK ks))) (hb : H b = some (.frz ob (.dK ls))) (h : (ks.map (·.1)).Nodup → ∀ p ∈ ks, ∀ y, valV ls p.1 = some y → EqN X n p.2 y (f p.1) H) (hr : (ks.map (·.1)).Nodup → (ks.length == ls.length && ks.all fun p => (valV ls p.1).isSome && f p.1) = r) :
    RcN X .Eq (n + 1) (.ref a) (.ref b) r H := fun A pins s σ H0 u v e0 sb I rx ry => by
  cases rx
  cases ry
  obtain ⟨s1, g1, x1, es, ep, va, d1, z1, kv1, m1⟩ := I.frzK (e0 _ _ ha)
  obtain ⟨s2, g2, x2, es', ep', vb, d2, z2, kv2, m2⟩ := I.frzK (e0 _ _ hb)
  have ta := m1.dictOf.typeIs
  have tb := m2.dictOf.typeIs
  obtain ⟨o1, fs1, h1, _, e1, k1, p1, nd0⟩ := m1
  rw [g1] at h1
  cases h1
  obtain ⟨rfl, _⟩ := dict_ep d1 e1
  obtain ⟨o2, fs2, h2, _, e2, k2, p2, _⟩ := m2
  rw [g2] at h2
  cases h2
  obtain ⟨rfl, _⟩ := dict_ep d2 e2
  refine wpAny_richCompare_same_room (op := .Eq) ta tb PySem.F.slot_dict_eq (wpAny_call_entry PySem.F.slot_dict_eq ta PySem.F.entry_dict_eq ?_ (PySem.F.args_dict_eq_2 _ _)) sb.room.units0
  show wpAny _ _ (Builtin.Dict.dictSlotArgs "__eq__" ⟨[.ref a, .ref b], []⟩ >>= _) _ _ s
  refine wpAny_bind ?_
  unfold Builtin.Dict.dictSlotArgs
  refine wpAny_bind (wpAny_notOrdered_dict ta ?_)
  show wpAny _ _ (pure (Value.ref a, Value.ref b)) _ _ s
  refine wpAny_pure (wpAny_bind (wpAny_isInstance (T := "dict") tb PySem.F.sub_dict_dict ?_))
  simp only [Bool.not_true, Bool.false_eq_true, if_false]
  refine wpAny_bind (wpAny_pure (wpAny_bind (wpAny_pure ?_)))
  have l1 : ks.length = va.length := Paired.length kv1
  have nd : (ks.map (·.1)).Nodup := by
    have : ∀ {ks : List (Key × V)} {va : List (Key × Value)}, KV ks va → va.map (·.1) = ks.map (·.1) := by
      intro ks va kv
      unfold KV at kv
      induction kv with
      | nil => rfl
      | cons hh t ih => rw [List.map_cons, List.map_cons, ih, hh.1]
    rw [← this kv1]
    exact nd0
  have l2 : ls.length = vb.length := Paired.length kv2
  have look : ∀ k, (valueAt vb k).isSome = (valV ls k).isSome := fun k => by
    have rr : RelO (valV ls k) (valueAt vb k) := kv2.val k
    cases q : valV ls k with
    | none => rw [q] at rr; rw [rr.none_of]; rfl
    | some y =>
      rw [q] at rr
      obtain ⟨z, hz, _⟩ := rr.some_of
      rw [hz]; rfl
  have tot : ∀ {ks : List (Key × V)} {va : List (Key × Value)}, KV ks va → (va.all fun p => (valueAt vb p.1).isSome && f p.1) = ks.all fun p => (valV ls p.1).isSome && f p.1 := by
    intro ks va kv
    unfold KV at kv
    induction kv with
    | nil => rfl
    | @cons p q ps qs hh t ih =>
      rw [List.all_cons, List.all_cons, ih, ← hh.1, look]
  refine wpAny_bind (pairs_loop (f := f) (J := fun s' => ∃ H1, Inv X pins σ H1 s' ∧ Ext H0 H1) s1 s2 d1 d2 k1 k2 p1 p2 (fun s' ⟨H1, I1, e1⟩ => (I1.frzK (e1 _ _ (e0 _ _ ha))).2.1) (fun s' ⟨H1, I1, e1⟩ => (I1.frzK (e1 _ _ (e0 _ _ hb))).2.1) (fun k v y hm hy s' ⟨H1, I1, e1⟩ => ?_) (fun s' hj => ?_) ⟨H0, I, Ext.rfl'⟩)
  · have hk : ∃ p ∈ ks, p.1 = k ∧ RelV p.2 v := by
      have : ∀ {ks : List (Key × V)} {va : List (Key × Value)}, KV ks va → (k, v) ∈ va → ∃ p ∈ ks, p.1 = k ∧ RelV p.2 v := by
        intro ks va kv
        unfold KV at kv
        induction kv with
        | nil => intro h; cases h
        | @cons p q ps qs hh t ih =>
          intro h
          rcases List.mem_cons.mp h with z | z
          · subst z
            exact ⟨p, List.mem_cons_self, hh.1, hh.2⟩
          · obtain ⟨p', m, r⟩ := ih z
            exact ⟨p', List.mem_cons_of_mem _ m, r⟩
      exact this kv1 hm
    obtain ⟨p, hp, rfl, rv⟩ := hk
    have rr : RelO (valV ls p.1) (valueAt vb p.1) := kv2.val p.1
    rw [hy] at rr
    cases q : valV ls p.1 with
    | none => rw [q] at rr; exact nomatch rr.none_of
    | some y' =>
      rw [q] at rr
      obtain ⟨z, hz, rz⟩ := rr.some_of
      cases hz
      refine wpAny_mono (h nd p hp y' q A.in1 pins s' σ H1 v y (fun c o hc => e1 c o (e0 c o hc)) sb.in1 I1 rv rz) (fun r s2 ⟨er, H2, I2, e2⟩ => ⟨er, H2, I2, e1.trans e2⟩) fun _ _ z => z
  · refine wpAny_pure ⟨_, rfl, (fun x => nomatch x), ?_, hj⟩
    have hr' := hr nd
    rw [← hr', l1, l2, tot kv1]
    simp
end
section
variable {X : Cx} {α : Type} [DecidableEq α] {f : α → MP} {n : Nat}
def deq (xs ys : List (Str × α)) : Bool := xs.length == ys.length && xs.all fun p => decide (dget ys p.1 = some p.2)
theorem KvM.look {S : Hp} {k : Str} : ∀ {xs : List (Str × α)} {vs : List (Key × V)}, KvM (xs.map fun q => (kS q.1, f q.2)) S vs → (∀ x, dget xs k = some x → ∃ v, valV vs (kS k) = some v ∧ (f x).R S v) ∧ (dget xs k = none → valV vs (kS k) = none)
  | [], [], _ => ⟨(fun x h => by cases h), fun _ => rfl⟩
  | [], _ :: _, h => h.elim
  | _ :: _, [], h => h.elim
  | (j, y) :: xs, (j', w) :: vs, h => by
    obtain ⟨e, h1, h2⟩ := h
    have e' : kS j = j' := e
    subst e'
    obtain ⟨i1, i2⟩ := KvM.look (k := k) h2
    by_cases q : j = k
    · subst q
      refine ⟨fun x hx => ⟨w, valV_pos rfl, ?_⟩, fun hx => ?_⟩
      · have : y = x := by simpa [dget, List.find?_cons] using hx
        exact this ▸ h1
      · simp [dget, List.find?_cons] at hx
    · have d : dget ((j, y) :: xs) k = dget xs k := by simp [dget, List.find?_cons, q]
      have v : valV ((kS j, w) :: vs) (kS k) = valV vs (kS k) := valV_neg (fun z => q (Sum.inr.inj z))
      rw [d, v]
      exact ⟨i1, i2⟩
end
section
variable {X : Cx} {B : Bs} {Γ : Gm} {O N N' : Om} {Z : Er → Prop} {a b : Expr} {pos : Pos} {α : Type} [DecidableEq α] {f : α → MP} {n : Nat} {wa wb : Wp (List (Str × α))}
end
end OW
namespace OW
open PySem PySem.Spec PyProof.Rows L2 OT NdefX
section
variable {X : Cx} {B : Bs} {Γ : Gm} {O N N' : Om} {Z : Er → Prop} {e a b c o : Expr} {es : List Expr} {p pos pos' apos : Pos} {α β : Type} {C : Addr} {k : Nat} {ps : List Str} {Dt ρ : Type} {As : Dt → List AP} {wp : Dt → Wp ρ} {res : ρ → RP} {Ms : ρ → List OP} {bo : α → BP} {wo : Wp α}
theorem in_go0 {as : List AA} (d : Dt) (hA : ArgM as (As d) []) {S H : Hp} {σ : L2.St} (t : Stt B Γ O S H σ) {vs : List V} (hv : ∀ Γ2 O2 S2 H2 σ2, Same S S2 → Stt B Γ2 O2 S2 H2 σ2 → (∀ x ∈ O, x ∈ O2) → AllA as S2 H2 vs)
    {P : ρ → Prop} {Q : VK} {f : ρ → MP} (hf : ∀ r, res r = .v (f r)) (hw : wp d P E0) (hQ : ∀ r v S' H', P r → Same S S' → Stt B Γ O S' H' σ → (f r).R S' v → Q v H') : spW X.K As wp res Ms vs H Q (fun _ _ _ => False) :=
  call_go (X := X) (N := O) (M := []) (R := O) (hd0 (X := X) (B := B) (Γ := Γ) (O := O)) d hA (.refl _) (fun _ h => h) t hv hw fun r v S' H' p s h => by
    rw [hf r] at h
    exact hQ r v S' H' p s h.1 h.2
section
variable {wp : Dt → Wp Bool} {res : Bool → RP} {Ms : Bool → List OP} {ba : β → BP} {wa : Wp β}
end
theorem w_isi {cv : V} {t u : Value} {kk : Bool} (hm : X.mg "isinstance" = none) (ha : RW X B Γ O Z N a bo wo) (hc : EW X B Γ O Z c (fun _ : Unit => tV cv) (W.ret ())) (kc : ClsV cv u) (ty : ∀ y S H v, Same S H → (bo y).R S H v → TyX X.K H v t) (e : PySem.W.kitOne X.K t u = some kk) (hg : Gl X "isinstance" := by rfl)
    (hs : starEach [a, c] X.env = (false, eval a X.env) :: starEach [c] X.env := by rfl) (hs2 : starEach [c] X.env = (false, eval c X.env) :: starEach [] X.env := by rfl) (hpl : (backTo pos (starEach [c] X.env)).any (·.1) = false := by rfl) : EW X B Γ O Z (.Call (.Name "isinstance" p) [a, c] [] pos) OT.tB (W.bind wo fun _ => W.ret kk) := fun S H σ st P Q p n =>
  ⟨_, pe_callB call_isi hg hm (by decide +kernel) (pa_cons pe_w (pa_cons pe_w pa_nil hs2) hs) (by decide) (by decide) hs hpl, ha.2 S H σ st _ _ p fun y v S1 H1 p1 s1 t1 r1 => hc S1 H1 σ t1 (fun _ => True) _ trivial fun _ cv' S2 H2 _ s2 t2 r2 => by
    have r2' : cv' = cv := r2
    subst r2'
    exact ⟨v, cv', t, u, kk, rfl, kc, ty y S2 H2 v t2.sub (r1 _ _ S2 H2 _ s2 t2 ha.1), e, n _ _ S2 H2 p1 (s1.trans s2) t2 rfl⟩⟩
end
end OW
namespace OW
end OW
namespace OW
open PySem PySem.Spec PyProof.Rows L2 OT NdefX
section
variable {X : Cx} {B : Bs} {Γ : Gm} {O N : Om} {Z : Er → Prop} {e : Expr} {p pos pos' : Pos} {D : Ends} {rest : List Stmt} {x : Str} {Wx : WX} {k : Nat} {ps : List Str} {fs : List Str → List (Str × MP)}
end
end OW
namespace OW
open PySem PySem.Spec PyProof.Rows L2 OT NdefX
section
variable {X : Cx} {B : Bs} {Γ : Gm} {O : Om} {Z : Er → Prop} {e : Expr} {α : Type} {f : α → MP}
theorem EW.at {w' : Wp α} (w : Wp α) (h : EW X B Γ O Z e f w') (hw : w' = w := by rfl) : EW X B Γ O Z e f w := hw ▸ h
theorem TW.at {w' : Wp Bool} (w : Wp Bool) (h : TW X B Γ O Z e w') (hw : w' = w := by rfl) : TW X B Γ O Z e w := hw ▸ h
end
end OW
namespace OW
open PySem PySem.Spec PyProof.Rows L2 OT NdefX
open PySem.Builtin.Int (intBits)
def mPool : MO := ⟨fun _ o => ∃ x n b, o = .lst [.int x, .int n, .bl b], fun _ h => h⟩
def oPool : OP := ⟨fun S H A v => ∃ p o, v = .ref p ∧ A = [p] ∧ H p = some o ∧ mPool.R S o, fun {S S' H H' A v} e hA ⟨p, o, h1, h2, h3, h4⟩ => ⟨p, o, h1, h2, by rw [hA p (by rw [h2]; exact List.mem_cons_self)]; exact h3, h4⟩⟩
abbrev wPool (_ : Int) : Wp Unit := fun Q _ => Q ()
abbrev wTake (l : Int) : Wp Int := fun Q _ => (0 < l ∧ intBits l ≤ 9000) ∧ ∀ a, 0 ≤ a → a < l → Q a
abbrev Lim : Type := { l : Int // 0 < l ∧ intBits l ≤ 9000 }
end OW
namespace OW
open PySem PySem.Spec PyProof.Rows L2 OT NdefX
section
variable {X : Cx} {B : Bs} {Γ : Gm} {O : Om} {Z : Er → Prop} {e : Expr} {pos : Pos} {D : Ends} {rest : List Stmt} {α ρ : Type} {res : ρ → RP} {Os : ρ → Om} {P : ρ → Prop} {Q : VK}
theorem f_retOS {f : ρ → OP} {i : Nat} (k : Nat) {u : V} {r : ρ} {x : Str} {p : Pos} (F : Fin B res Os P Q) (hO : (Os r).Sublist (O.eraseIdx k)) (hl : O[k]? = some (u, f r) := by rfl) (hG : Γ[i]? = some (some (tV u)) := by rfl) (hN : X.N[i]? = some x := by rfl) (hv : Vis X.env.scope x := by first | exact Or.inl rfl | exact Or.inr (Or.inl rfl) | exact Or.inr (Or.inr rfl))
    (hd : (x == ("__debug__" : Str)) = false := by decide) (hcd : (x == ("__classdict__" : Str)) = false := by decide) (hf : ∀ r, res r = .o (f r) := by intro _; rfl) (hD : D.rt = Q := by rfl) : SW X B Γ O (.Return (some (.Name x p)) pos :: rest) D (P r) :=
  s_cons fun q S H σ st => by
    obtain ⟨u', h1, h2⟩ := st.slot i _ hG
    have h2' : u' = u := h2
    subst h2'
    refine ⟨_, ps_ret (pe_var hN hv hd hcd), u', h1, ?_⟩
    show D.rt u' H
    rw [hD]
    refine F.go r u' S H q ?_
    rw [hf r]
    exact ((st.perm (front_perm k hl)).drop (hO.cons_cons _)).bare
end
section
variable {X : Cx} {B : Bs} {Γ : Gm} {O N : Om} {Z : Er → Prop} {e : Expr} {es : List Expr} {p p1 pos pos' apos : Pos} {D : Ends} {rest : List Stmt} {α β ρ τ Dt : Type} {As : Dt → List AP} {wp : Dt → Wp ρ} {res : ρ → RP} {Ms : ρ → List OP} {F : τ → List AA} {w : Wp τ} {k : Nat} {ps : List Str} {x nm : Str} {Wx : WX}
abbrev W.popI {α : Type} (xs : List α) (i : Int) : Wp (α × List α) := fun Q _ => ∃ y, 0 ≤ i ∧ xs.length ≤ 100000 ∧ xs[i.toNat]? = some y ∧ Q (y, xs.eraseIdx i.toNat)
theorem set_perm {x y : V × OP} (k : Nat) (h : O[k]? = some x) : (O.set k y).Perm (y :: O.eraseIdx k) := by
  have hk : k < O.length := by
    rcases Nat.lt_or_ge k O.length with q | q
    · exact q
    · rw [List.getElem?_eq_none q] at h; cases h
  have e : (O.set k y)[k]? = some y := List.getElem?_set_self hk
  have e2 : (O.set k y).eraseIdx k = O.eraseIdx k := by
    apply List.ext_getElem?
    intro j
    rw [List.getElem?_eraseIdx, List.getElem?_eraseIdx]
    split
    · rw [List.getElem?_set_ne (by omega)]
    · rw [List.getElem?_set_ne (by omega)]
  have := front_perm k e
  rw [e2] at this
  exact this
end
end OW
namespace OW
open PySem PySem.Spec PyProof.Rows L2 OT NdefX
section
variable {X : Cx} {B : Bs} {Γ : Gm} {O N : Om} {Z : Er → Prop} {e : Expr} {es : List Expr} {p p1 pos pos' apos : Pos} {D : Ends} {rest : List Stmt} {α β ρ τ Dt : Type} {As : Dt → List AP} {wp : Dt → Wp ρ} {res : ρ → RP} {Ms : ρ → List OP} {F : τ → List AA} {w : Wp τ} {w0 : Wp α} {P : α → OP} {k : Nat} {ps : List Str} {x nm : Str} {Wx : WX}
end
end OW
namespace OW
open PySem PySem.Spec PyProof.Rows L2 OT NdefX
def tio (t : Addr) : Obj := { cls := .type "tuple_iterator", data := .fields #[.ref t, .int 0 0] }
def ItT (t it : Addr) : HO := .ext fun h => h.get? it = some (tio t)
def rIterT (K : PySem.W.Frag) (n : Nat) : List V → Hp → VK → Prop := fun xs H Q => ∃ (t : Addr) (zs : List V), xs = [.ref t] ∧ SqT K H t zs ∧ ∀ it, H it = none → n ≤ it → Q (.ref it) (upd H it (ItT t it))
structure OwnIt (P : Program) (w : World) (K : PySem.W.Frag) (mg : Str → Option Value) (base : Heap) (C : Addr) (fl : Str) : Prop where
  run : ∃ f, Meth K C "__iter__" f ∧ ∀ (A : Around) (outer : List Env) (s : Shared) (H : Hp) (a dx t : Addr) (fs : List (Str × V)) (zs : List V), Room 1 A → Env0 P w K mg base A outer s H → H a = some (.ins C dx fs) → fs.lookup fl = some (.ref t) → SqT K H t zs →
    codeAny (model P w) A (.call (.ref f) ⟨[.ref a], []⟩) (CR (L2.CX P w) outer P w H s (fun v H' => ∃ it, v = .ref it ∧ H it = none ∧ s.heap.objs.size ≤ it ∧ H' = upd H it (ItT t it)) (fun _ _ _ => False)) s
end OW
namespace OW
open PySem PySem.Spec PyProof.Rows L2 OT NdefX
def iOwnT (K : PySem.W.Frag) (C : Addr) (fl : Str) (te : TE) : TI := fun σ H R => te σ H fun x H1 => ∃ a dx fs t zs, x = .ref a ∧ H1 a = some (.ins C dx fs) ∧ fs.lookup fl = some (.ref t) ∧ SqT K H1 t zs ∧ R (Itt K t) H1
section
variable {X : Cx} {B : Bs} {Γ : Gm} {O : Om} {Z : Er → Prop} {l : Expr} {α τ : Type} {g : α → MP} {C : Addr} {fl : Str}
end
end OW
namespace OW
open PySem PySem.Spec PyProof.Rows L2 OT NdefX
abbrev Cl := Value × Option Nat × (Addr → Value → Option Addr → TS)
def clEnds (o : Option Nat) (D : Ends) : Ends := match o with
  | none => D
  | some i => { nx := fun σ' H' => D.nx (σ'.set i none) H', rt := D.rt, bk := fun σ' H' => D.bk (σ'.set i none) H', ct := fun σ' H' => D.ct (σ'.set i none) H' }
def clSlot (o : Option Nat) (a : Addr) (σ : L2.St) : L2.St := match o with
  | none => σ
  | some i => σ.set i (some (.ref a))
def wCls (K : PySem.W.Frag) (Wout : WX) (D : Ends) : List Cl → WX
  | [] => Wout
  | c :: l => fun cls d σ H => ∃ b, PySem.W.exmOne K cls c.1 = some b ∧ (b = true → ∀ a, H a = none → c.2.2 a cls d (clEnds c.2.1 D) (clSlot c.2.1 a σ) H) ∧ (b = false → wCls K Wout D l cls d σ H)
inductive ClsOk (X : Cx) : List ExceptHandler → List Cl → Prop
  | nil : ClsOk X [] []
  | named {x n : Str} {i : Nat} {c : Value} {ts : Addr → Value → Option Addr → TS} {b₀ : Stmt} {suite : List Stmt} {np pos' : Pos} {hds : List ExceptHandler} {l : List Cl} (hc : Names X x c) (hi : X.N[i]? = some n) (hln : X.env.kindOf n = some .local)
      (hsu : ∀ (a : Addr) (oe : Obj) (cls : Value) (d : Option Addr) (pn : List (Addr × Obj)), Zc cls d oe → (∃ vs, oe.data = .fields vs) → PSs (X.suite a ((a, oe) :: pn)) (b₀ :: suite) (ts a cls d)) (r : ClsOk X hds l) :
      ClsOk X (.ExceptHandler (some (.Name x np)) (some n) (b₀ :: suite) pos' :: hds) ((c, some i, ts) :: l)
  | plain {x : Str} {c : Value} {ts : Addr → Value → Option Addr → TS} {b₀ : Stmt} {suite : List Stmt} {np pos' : Pos} {hds : List ExceptHandler} {l : List Cl} (hc : Names X x c)
      (hsu : ∀ (a : Addr) (oe : Obj) (cls : Value) (d : Option Addr) (pn : List (Addr × Obj)), Zc cls d oe → (∃ vs, oe.data = .fields vs) → PSs (X.suite a ((a, oe) :: pn)) (b₀ :: suite) (ts a cls d)) (r : ClsOk X hds l) :
      ClsOk X (.ExceptHandler (some (.Name x np)) none (b₀ :: suite) pos' :: hds) ((c, none, ts) :: l)
section
variable {X : Cx} {body : List Stmt} {h₀ : ExceptHandler} {hds : List ExceptHandler} {l : List Cl} {pos : Pos} {tb : WX → TS} {Wout : WX}
theorem ps_try_cls (hs : X.stack = X.env :: X.outer) (hf : X.env.frame = some X.env.locals) (hN : X.N.Nodup) (tk : Takes X Wout)
    (hb : ∀ (W : WX) (pn : List (Addr × Obj)) (xe : Value → Shared → Prop), Takes (X.tr pn xe) W → PassesOwn (model X.prog X.w) X.A X.env xe → PSs (X.tr pn xe) body (tb W)) (hh : ClsOk X (h₀ :: hds) l) :
    PS X (.Try body (h₀ :: hds) [] [] pos) (fun D σ H => tb (wCls X.K Wout D l) D σ H) := by
  refine ⟨fun pins s σ H D I h => ?_⟩
  have ok := I.ok
  have hfr : X.A.frames = some (X.env :: X.outer) := by rw [ok.frames, hs]
  refine wpAny_Try_except (wpAny_mono ((hb (wCls X.K Wout D l) (X.pn ++ pins) (fun e s₁ => wpAny (model X.prog X.w) X.A (noteFrame e X.env) (fun _ s₂ => wpAny (model X.prog X.w) X.A (setFlight e none) (fun _ s₃ =>
    wpAny (model X.prog X.w) X.A (handleBy e X.env (h₀ :: hds)) (SP X pins D) X.xe s₃) X.xe s₂) X.xe s₁) (fun u s' xx => ?_) PassesOwn.looking).run [] s σ H D (I.toTry _) h) (fun f s1 hsp => ?_) (fun e s1 he => he))
  · obtain ⟨a, B, sI, pins', σ', H', cls, d, rfl, J', nb, up, sky, na, os, ag, w⟩ := xx
    have J : Inv X pins σ' H' sI := J'.ofTry ok
    show wpAny (model X.prog X.w) X.A (noteFrame (.ref a) X.env) _ _ _
    refine Sky.land Zc.steady hfr hf (show Sky B (X.env :: X.outer) a (Zc cls d) X.env.locals s'.heap by rw [← hs]; exact sky) fun h3 fl3 up3 => ?_
    have J3 : Inv X pins σ' H' { s' with heap := h3 } := J.landed nb fl3.1 (up.trans up3) os ag
    obtain ⟨oe3, vs3, he3, hz3, hd3⟩ := fl3.there
    have nfr : a ∉ frs (X.env :: X.outer) := fun hm => by
      obtain ⟨_, o', e', hnf⟩ := fl3.2.2.1.mem hm
      rw [he3] at e'
      cases e'
      exact hnf _ hd3
    have nL : a ≠ X.env.locals := fun z => nfr (List.mem_filterMap.mpr ⟨X.env, List.mem_cons_self, by rw [hf, z]⟩)
    have nF : a ∉ X.fs := fun hm => by
      obtain ⟨e, he, q⟩ := List.mem_filterMap.mp hm
      exact nfr (List.mem_filterMap.mpr ⟨e, List.mem_cons_of_mem _ he, q⟩)
    have S3 := J3.suite he3 hd3 na nL nF
    have LT : PySem.W.Looks (model X.prog X.w) h3 (typeOf (.ref a)) cls := fun A Q E s k q => wpAny_typeOf_ref (k _ _ he3) (by rw [hz3.1]; exact q)
    have test : ∀ {x : Str} {c : Value} {np : Pos} {Q : Value → Shared → Prop} {E : Value → Shared → Prop}, Names X x c → Q c { s' with heap := h3 } → wpAny (model X.prog X.w) (X.A.mark (some (.ref a))) (eval (.Name x np) X.env) Q E { s' with heap := h3 } := fun {x c np Q E} hc q => by
      obtain ⟨hg, hdbg, hm | ⟨hm, hv, hnn⟩⟩ := hc
      · exact ld_glob (X := X.suite a ((a, oe3) :: (X.pn ++ pins))) S3 hg hm q hdbg
      · exact ld_blt (X := X.suite a ((a, oe3) :: (X.pn ++ pins))) S3 hg hm hv q hnn hdbg
    have go : ∀ {hds' : List ExceptHandler} {l' : List Cl}, ClsOk X hds' l' → wCls X.K Wout D l' cls d σ' H' → wpAny (model X.prog X.w) X.A (handleBy (.ref a) X.env hds') (SP X pins D) X.xe { s' with heap := h3 } := by
      intro hds' l' hk
      induction hk with
      | nil =>
        intro w
        refine wpAny_handleBy_nil ?_
        obtain ⟨k1, k2, k3, oe, vs, T, oT, ts', he, hz, hd, h1, hr⟩ := id fl3
        unfold PySem.passOn
        refine wpAny_bind (wpAny_field he hd h1 ?_)
        rw [if_neg (show ¬ ((Value.ref T == Value.none) = true) from by simp)]
        have fin : wpAny (model X.prog X.w) X.A (setFlight (.ref a) X.env.frame) (fun _ s4 => wpAny (model X.prog X.w) X.A (throw (.ref a) : Sem Flow) (SP X pins D) X.xe s4) X.xe { s' with heap := h3 } := by
          rw [hf]
          exact HandSPX.setFlight_upZ fl3 fun h4 hh4 up4 => wpAny_throw (tk _ _ ⟨a, B, sI, pins, σ', H', cls, d, rfl, J, nb, (up.trans up3).trans up4, .inr (.inr (by rw [hs]; exact hh4)), na, os, ag, w⟩)
        first
          | exact wpAny_bind (wpAny_pure (wpAny_bind fin))
          | exact wpAny_bind fin
      | @named x n i c ts b₀ suite np pos' hds2 l2 hc hi hln hsu r ih =>
        intro w
        obtain ⟨b, hb1, hyes, hno⟩ := w
        refine wpAny_handleBy_cons (codeAny_handlers_test ?_) (by intro q; cases q)
        refine test hc ((PySem.W.exm_one (M := model X.prog X.w) (J3.kIn) LT hb1).here ?_)
        cases b with
        | true =>
          refine codeAny_handlers_suite_as (HandSPX.lands_againZ fl3 fun h4 fl4 up4 => ?_)
          have J4 : Inv X pins σ' H' { s' with heap := h4 } := J.landed nb fl4.1 ((up.trans up3).trans up4) os ag
          obtain ⟨oe4, vs4, he4, hz4, hd4⟩ := fl4.there
          have S4 := J4.suite he4 hd4 na nL nF
          refine store_ok (X := X.suite a ((a, oe4) :: (X.pn ++ pins))) (v := .ref a) S4 hN hi (.inl hln) rfl (fun s5 S5 => ?_) (.inr hln)
          refine wpAny_mono ((hsu a oe4 cls d (X.pn ++ pins) hz4 ⟨_, hd4⟩).run [] s5 _ H' _ S5 (hyes rfl a na)) (fun f s6 hsp => ?_) (fun _ _ z => False.elim z)
          have end_ : ∀ {σ6 : L2.St} {H6 : Hp} {Q : Shared → Prop}, Inv (X.suite a ((a, oe4) :: (X.pn ++ pins))) [] σ6 H6 s6 → (∀ s7, Inv X pins (σ6.set i none) H6 s7 → Q s7) → wpAny (model X.prog X.w) X.A (do bindName X.env n .none; unbindBehindTheSuite X.env n pos') (fun _ s7 => Q s7) X.xe s6 := fun {σ6 H6 Q} S6 hq => gone_ok (S6.unsuite ok) hN hi hln hq
          cases f with
          | next => obtain ⟨σ6, H6, S6, q6⟩ := hsp; exact end_ S6 fun s7 J7 => ⟨_, _, J7, q6⟩
          | brk => obtain ⟨σ6, H6, S6, q6⟩ := hsp; exact end_ S6 fun s7 J7 => ⟨_, _, J7, q6⟩
          | cont => obtain ⟨σ6, H6, S6, q6⟩ := hsp; exact end_ S6 fun s7 J7 => ⟨_, _, J7, q6⟩
          | ret u => obtain ⟨v6, σ6, H6, S6, r6, q6⟩ := hsp; exact end_ S6 fun s7 J7 => ⟨_, _, _, J7, r6, q6⟩
        | false => exact ih (hno rfl)
      | @plain x c ts b₀ suite np pos' hds2 l2 hc hsu r ih =>
        intro w
        obtain ⟨b, hb1, hyes, hno⟩ := w
        refine wpAny_handleBy_cons (codeAny_handlers_test ?_) (by intro q; cases q)
        refine test hc ((PySem.W.exm_one (M := model X.prog X.w) (J3.kIn) LT hb1).here ?_)
        cases b with
        | true =>
          refine codeAny_handlers_suite (HandSPX.lands_againZ fl3 fun h4 fl4 up4 => ?_)
          have J4 : Inv X pins σ' H' { s' with heap := h4 } := J.landed nb fl4.1 ((up.trans up3).trans up4) os ag
          obtain ⟨oe4, vs4, he4, hz4, hd4⟩ := fl4.there
          have S4 := J4.suite he4 hd4 na nL nF
          refine wpAny_mono ((hsu a oe4 cls d (X.pn ++ pins) hz4 ⟨_, hd4⟩).run [] _ _ H' _ S4 (hyes rfl a na)) (fun f s6 hsp => ?_) (fun _ _ z => False.elim z)
          cases f with
          | next => obtain ⟨σ6, H6, S6, q6⟩ := hsp; exact ⟨_, _, S6.unsuite ok, q6⟩
          | brk => obtain ⟨σ6, H6, S6, q6⟩ := hsp; exact ⟨_, _, S6.unsuite ok, q6⟩
          | cont => obtain ⟨σ6, H6, S6, q6⟩ := hsp; exact ⟨_, _, S6.unsuite ok, q6⟩
          | ret u => obtain ⟨v6, σ6, H6, S6, r6, q6⟩ := hsp; exact ⟨_, _, _, S6.unsuite ok, r6, q6⟩
        | false => exact ih (hno rfl)
    exact go hh w
  · cases f with
    | next => obtain ⟨σ', H', J', q⟩ := hsp; exact wpAny_execs_nil ⟨σ', H', J'.ofTry ok, q⟩
    | brk => obtain ⟨σ', H', J', q⟩ := hsp; exact ⟨σ', H', J'.ofTry ok, q⟩
    | cont => obtain ⟨σ', H', J', q⟩ := hsp; exact ⟨σ', H', J'.ofTry ok, q⟩
    | ret u => obtain ⟨v, σ', H', J', r, q⟩ := hsp; exact ⟨v, σ', H', J'.ofTry ok, r, q⟩
end
end OW
namespace OW
open PySem PySem.Spec PyProof.Rows L2 OT NdefX
def Er.cls : Er → Str
  | .badNumber _ => "BadNumber"
  | .badNumberR _ => "BadNumber"
  | .badText _ => "BadText"
  | .badName _ => "BadName"
  | .dup _ => "DuplicateName"
  | .unknown _ => "UnknownName"
  | .ring _ => "Ring"
  | .badShares _ => "BadShares"
  | .unlike _ _ => "UnlikeOrders"
  | .notRising _ _ _ => "NotRising"
  | .noThrow => "NoThrow"
  | .hasRing _ => "HasRing"
  | .noRing => "NoRing"
  | .nothing => "NothingToUndo"
theorem Er.info_cls {K : PySem.W.Frag} (x : Er) : (x.info K).1 = x.cls := by cases x <;> rfl
section
variable {X : Cx} {B : Bs} {Γ : Gm} {O : Om} {Z Zb : Er → Prop} {D : Ends} {rest body : List Stmt} {Wx : WX} {done : List Str} {hds : List ExceptHandler} {pos pos' np p1 : Pos} {δ : Type} {cx n : Str} {b₀ : Stmt} {suite : List Stmt}
def HdW (X : Cx) (B : Bs) (Γ : Gm) (O : Om) (D : Ends) (Wx : WX) (Zb : Er → Prop) (done : List Str) (hds : List ExceptHandler) : Prop := ∃ l, ClsOk X hds l ∧ ∀ x cls d S H σ, Zb x → x.cls ∉ done → Stt B Γ O S H σ → (xEr X.K x).R S cls d → wCls X.K Wx D l cls d σ H
theorem hd_nil (hd : Hd X B Γ O Z Wx) (h : ∀ x, Zb x → x.cls ∉ done → Z x) : HdW X B Γ O D Wx Zb done [] := ⟨[], .nil, fun x cls d S H σ hx hn t r => hd.go x (h x hx hn) cls d S H σ t r⟩
theorem hd_as {i : Nat} (dec : δ → Er) (HM : δ → Prop) (hm : X.mg cx = some (.ref (He.ga X.K cx))) (h : ∀ x, Zb x → x.cls ∉ done → (∃ y, x = dec y ∧ HM y ∧ PySem.W.exmOne X.K (.ref (He.ga X.K x.cls)) (.ref (He.ga X.K cx)) = some true) ∨ (x.cls ≠ cx ∧ PySem.W.exmOne X.K (.ref (He.ga X.K x.cls)) (.ref (He.ga X.K cx)) = some false))
    (hb : ∀ y ad oe pn cls d, Zc cls d oe → (∃ vs, oe.data = .fields vs) → SW (X.suite ad ((ad, oe) :: pn)) (B.add ((xEr X.K (dec y)).gh cls d)) (Γ.set i (some (tR ad))) O (b₀ :: suite) (clEnds (some i) D) (HM y)) (r : HdW X B Γ O D Wx Zb (cx :: done) hds)
    (hg : Gl X cx := by rfl) (hdb : (cx == ("__debug__" : Str)) = false := by decide) (hi : X.N[i]? = some n := by rfl) (hln : X.env.kindOf n = some .local := by rfl) (hl : i < Γ.length := by exact Nat.le_of_ble_eq_true rfl) : HdW X B Γ O D Wx Zb done (.ExceptHandler (some (.Name cx np)) (some n) (b₀ :: suite) pos' :: hds) := by
  obtain ⟨l, hl1, hl2⟩ := r
  refine ⟨_, .named (ts := fun a cls d D σ H => ∀ oe pn, Zc cls d oe → (∃ vs, oe.data = .fields vs) → wB (X.suite a ((a, oe) :: pn)) (b₀ :: suite) D σ H) ⟨hg, hdb, .inl hm⟩ hi hln (fun a oe cls d pn hz hf => ⟨fun pins s σ H D I h => pb_w.run pins s σ H D I (h oe pn hz hf)⟩) hl1, fun x cls d S H σ hx hn t r => ?_⟩
  have ec : cls = .ref (He.ga X.K x.cls) := by rw [← Er.info_cls (K := X.K)]; exact r.1
  rcases h x hx hn with ⟨y, e, hy, ex⟩ | ⟨ne, ex⟩
  · refine ⟨true, by rw [ec]; exact ex, fun _ a na oe pn hz hf => ?_, fun z => nomatch z⟩
    subst e
    exact hb y a oe pn cls d hz hf hy S H _ ((t.ghost r).set rfl hl)
  · exact ⟨false, by rw [ec]; exact ex, (fun z => nomatch z), fun _ => hl2 x cls d S H σ hx (fun hm => (List.mem_cons.mp hm).elim (fun z => ne z) hn) t r⟩
theorem s_try {h₀ : ExceptHandler} (Γh : Gm) {p : Prop} (tk : Takes X Wx) (hh : HdW X B Γh O { D with nx := wB X rest D } Wx Zb [] (h₀ :: hds))
    (hb : ∀ (pn : List (Addr × Obj)) (xe : Value → Shared → Prop) (V : WX), PassesOwn (model X.prog X.w) X.A X.env xe → (∀ Γ' O', Gle Γh Γ' → O.Sublist O' → Hd (X.tr pn xe) B Γ' O' Zb V) → SW (X.tr pn xe) B Γ O body { D with nx := wB X rest D } p)
    (hN : X.N.Nodup := by assumption) (hs : X.stack = X.env :: X.outer := by rfl) (hf : X.env.frame = some X.env.locals := by rfl) : SW X B Γ O (.Try body (h₀ :: hds) [] [] pos :: rest) D p := by
  obtain ⟨l, hl1, hl2⟩ := hh
  refine s_cons fun hp S H σ st => ⟨_, ps_try_cls (tb := fun V D σ H => ∀ pn xe, Takes (X.tr pn xe) V → PassesOwn (model X.prog X.w) X.A X.env xe → wB (X.tr pn xe) body D σ H) hs hf hN tk (fun V pn xe tkV po => ⟨fun pins s σ H D I h => pb_w.run pins s σ H D I (h pn xe tkV po)⟩) hl1, fun pn xe tkV po => ?_⟩
  exact hb pn xe _ po (fun Γ' O' g1 g2 => ⟨tkV, fun x hx c d S' H' σ' t r => hl2 x c d S' H' σ' hx (fun h => by cases h) ((t.forget g1).drop g2) r⟩) hp S H σ st
theorem w_xf {ad : Addr} {oe : Obj} {cls : Value} {d : Option Addr} {pn : List (Addr × Obj)} {i : Nat} {nm fl cx : Str} {x : Er} {fs : List (Str × MP)} {α : Type} {g : α → MP} {v : α} {Z : Er → Prop} (T : XfC X.K (He.ga X.K cx)) (hno : PySem.W.findIn X.K (.ref (He.ga X.K cx)) fl = some none) (hz : Zc cls d oe) (hfd : ∃ vs, oe.data = .fields vs)
    (hi : x.info X.K = (cx, fs) := by rfl) (hR : fs.lookup fl = some (g v) := by rfl) (hG : Γ[i]? = some (some (tR ad)) := by rfl) (hN : X.N[i]? = some nm := by rfl) (hv : Vis X.env.scope nm := by first | exact Or.inl rfl | exact Or.inr (Or.inl rfl) | exact Or.inr (Or.inr rfl))
    (hd : (nm == ("__debug__" : Str)) = false := by decide) (hcd : (nm == ("__classdict__" : Str)) = false := by decide) (hb : attributeBase (.Name nm p1) fl X.env (eval (.Name nm p1) X.env) = eval (.Name nm p1) X.env := by rfl) :
    EW (X.suite ad ((ad, oe) :: pn)) (B.add ((xEr X.K x).gh cls d)) Γ O Z (.Attribute (.Name nm p1) fl pos) g (W.ret v) := fun S H σ st P Q pp n =>
  ⟨_, pe_xf T hno hz hfd (pe_var hN hv hd hcd) hb, by
    obtain ⟨u, h1, h2⟩ := st.slot i _ hG
    have gh : (xEr X.K x).R S cls d := st.gh.2
    unfold xEr at gh
    rw [hi] at gh
    obtain ⟨rfl, e | ⟨a, ws, rfl, h3, h4⟩⟩ := gh
    · have e' : fs = [] := e
      rw [e'] at hR
      cases hR
    · obtain ⟨w, h5, h6⟩ := h4.get hR
      exact ⟨u, h1, h2, rfl, a, ws, w, rfl, st.sub _ _ h3, h5, n v w S H pp (Same.refl _) st h6⟩⟩
end
end OW
namespace OW
open PySem PySem.Spec PyProof.Rows L2 OT NdefX
section
variable {X X' : Cx} {B : Bs} {Γ : Gm} {O : Om} {Z : Er → Prop} {e : Expr} {D D' : Ends} {rest body : List Stmt} {α : Type} {f : α → MP}
theorem SW.ltE {v : α} {k : α → Prop} (h : ∀ a, a = v → SW X B Γ O body D (k a)) : SW X B Γ O body D (W.lt v k) := h v rfl
def tOpt {α : Type} (f : α → MP) : Option α → MP
  | none => tN
  | some a => f a
end
end OW
namespace OW
open PySem PySem.Spec PyProof.Rows L2 OT NdefX
theorem Fin.add {ρ : Type} {B : Bs} {res : ρ → RP} {Os : ρ → Om} {P : ρ → Prop} {Q : VK} {G : Gho} (h : Fin B res Os P Q) : Fin (B.add G) res Os P Q := ⟨fun r v S H p q => h.go r v S H p (by
  cases e : res r with
  | v R => rw [e] at q; exact ⟨Stt.plain q.1, q.2⟩
  | o R => rw [e] at q; exact Stt.plain (G := G) q)⟩
end OW
namespace OW
open PySem PySem.Spec PyProof.Rows L2 OT NdefX
section
variable {X : Cx} {B : Bs} {Γ : Gm} {O N : Om} {Z : Er → Prop} {e r a b : Expr} {es : List Expr} {p p1 p2 pos pos' apos : Pos} {D : Ends} {rest : List Stmt} {α β τ : Type} {f : α → MP} {nm : Str}
def VU (X : Cx) (B : Bs) (Γ : Gm) (O : Om) (e : Expr) (u : V) : Prop := ∀ S H σ, Stt B Γ O S H σ → ∀ Q : VK, Q u H → wE X e σ H Q
end
section
variable {X : Cx} {B : Bs} {Γ : Gm} {O : Om} {Z : Er → Prop} {e : Expr} {es : List Expr} {p pos pos' : Pos} {D : Ends} {rest : List Stmt} {α τ : Type}
def NA (X : Cx) (B : Bs) (Γ : Gm) (O : Om) (Z : Er → Prop) (es : List Expr) (F : τ → List OP) (w : Wp τ) : Prop := ∀ S H σ, Stt B Γ O S H σ → ∀ (P : τ → Prop) (Q : List V → Hp → Prop), w P Z → (∀ t vs S' H', P t → Same S S' → vs.length = (F t).length → Stt B Γ (vs.zip (F t) ++ O) S' H' σ → Q vs H') → ∃ ta, PA X es ta ∧ ta σ H Q
end
end OW
namespace OW
open PySem PySem.Spec PyProof.Rows L2 OT NdefX
section
variable {X : Cx} {α : Type} [DecidableEq α] {f : α → MP} {n : Nat}
end
section
variable {X : Cx} {B : Bs} {Γ : Gm} {O : Om} {Z : Er → Prop} {e : Expr} {α : Type} {G : α → BP}
end
end OW
namespace OW
open PySem PySem.Spec PyProof.Rows L2 OT NdefX
section
variable {X : Cx} {pins : List (Addr × Obj)} {σ : L2.St} {A1 : Around}
end
end OW
namespace OW
open PySem PySem.Spec PyProof.Rows L2 OT NdefX
section
variable {X : Cx} {pins : List (Addr × Obj)} {σ : L2.St} {H : Hp} {s : Shared} {A : Around} {C f a dx : Addr} {fs : List (Str × V)} {k : Nat} {fd : FuncData} {ps : List Str} {sp : Sp} {E : Value → Shared → Prop} {Q : Bool → Shared → Prop} {P : Hp → Prop}

def rListT (K : PySem.W.Frag) (C : Addr) (fl : Str) (sp : Sp) : List V → Hp → VK → Prop := fun xs H Q => ∃ a dx fs t zs, xs = [.ref a] ∧ H a = some (.ins C dx fs) ∧ fs.lookup fl = some (.ref t) ∧ SqT K H t zs ∧ zs.length ≤ sizeLine ∧
  (∀ H1, Same H H1 → sp [.ref a] H1 (fun v H' => ∃ n : Int, v = .int n ∧ 0 ≤ n ∧ n ≤ 100000 ∧ Same H1 H') (fun _ _ _ => False)) ∧ ∀ q H2, H q = none → H2 q = none → Same H H2 → Q (.ref q) (upd H2 q (.lst zs))
end
section
variable {X : Cx} {B : Bs} {Γ : Gm} {O : Om} {Z : Er → Prop} {l : Expr} {α τ Dt : Type} {g : α → MP} {C : Addr} {fl : Str} {k : Nat} {ps : List Str} {As : Dt → List AP}
end
end OW
namespace OW
open PySem PySem.Spec PyProof.Rows L2 OT NdefX
inductive Dy where
  | n
  | b (x : Bool)
  | i (x : Int)
  | s (x : Str)
  | t (xs : List Dy)
  | l (xs : List Dy)
mutual
def tDy (K : PySem.W.Frag) : Dy → MP
  | .n => tN
  | .b x => OT.tB x
  | .i x => tI x
  | .s x => tS x
  | .t xs => tT K (tDys K xs)
  | .l xs => tL K (tDys K xs)
def tDys (K : PySem.W.Frag) : List Dy → List MP
  | [] => []
  | x :: xs => tDy K x :: tDys K xs
end
mutual
def Dy.dep : Dy → Nat
  | .t xs => Dy.deps xs + 1
  | .l xs => Dy.deps xs + 1
  | _ => 0
def Dy.deps : List Dy → Nat
  | [] => 0
  | x :: xs => max x.dep (Dy.deps xs)
end
theorem tDys_map (K : PySem.W.Frag) : ∀ xs : List Dy, tDys K xs = xs.map (tDy K)
  | [] => rfl
  | x :: xs => by rw [tDys, tDys_map K xs]; rfl
def EnS {α : Type} (X : Cx) (n : Nat) (f : α → BP) (x : α) : Prop := ∀ S H u v, Same S H → (f x).R S H u → (f x).R S H v → EqN X n u v true H
section
variable {X : Cx} {n : Nat}
variable {B : Bs} {Γ : Gm} {O : Om} {N : Om} {Z : Er → Prop} {a b e : Expr} {pos : Pos}
def DyC {α : Type} (K : PySem.W.Frag) (f : α → MP) (g : α → Dy) : Prop := ∀ a S v, (f a).R S v → (tDy K (g a)).R S v
theorem AllM.cv {α : Type} {K : PySem.W.Frag} {f : α → MP} {g : α → Dy} (h : DyC K f g) {S : Hp} : ∀ {xs : List α} {vs : List V}, AllM (xs.map f) S vs → AllM (tDys K (xs.map g)) S vs
  | [], [], r => by rw [List.map_nil, tDys]; exact r
  | [], _ :: _, r => r.elim
  | _ :: _, [], r => r.elim
  | x :: xs, v :: vs, r => by rw [List.map_cons, tDys]; exact ⟨h _ _ _ r.1, AllM.cv h r.2⟩
end
end OW
namespace OW
open PySem PySem.Spec PyProof.Rows L2 OT NdefX
section
variable {X : Cx} {B : Bs} {Γ : Gm} {O N N' : Om} {Z : Er → Prop} {e a b c o e1 e2 : Expr} {es : List Expr} {p p1 p2 pos pos' apos : Pos} {D : Ends} {rest body els : List Stmt} {α β γ : Type} {x m nm : Str} {Wx : WX}
section
variable {τ Dt ρ : Type} {As : Dt → List AP} {wp : Dt → Wp ρ} {res : ρ → RP} {Ms : ρ → List OP} {F : τ → List AA} {w : Wp τ} {k : Nat} {ps : List Str} {C : Addr}
theorem n_cm {pl : Sem Bool} {f : ρ → OP} (G : GK X.prog X.w X.K X.mg X.base C m k ps (spW X.K As wp res Ms)) (hr : Room k X.A) (hd : Hd X B Γ O Z Wx) (d : τ → Dt) (ho : EW X B Γ O Z o (fun _ : Unit => tR C) (W.ret ())) (ha : AW X B Γ O Z N (e :: es) F w) (hA : ∀ t, ArgM (.b (tR C).b :: F t) (As (d t)) []) (hf : ∀ r, res r = .o (f r) := by intro _; rfl)
    (hst : starEach (e :: es) X.env = (false, eval e X.env) :: starEach es X.env := by rfl) (hpl : (backTo pos (starEach es X.env)).any (·.1) = false := by rfl)
    (ht : eval (.Call (.Attribute o m apos) (e :: es) [] pos) X.env = (do
      let ov ← eval o X.env
      standAt apos.atName
      let (f, first) ← holding [ov] (getMethod ov m pl)
      callWith pos f first (backTo pos (starEach (e :: es) X.env)) (backToKw pos (keywordEach [] X.env))) := by rfl) : NW X B Γ O Z (.Call (.Attribute o m apos) (e :: es) [] pos) f (W.bind w fun t => wp (d t)) := by
  obtain ⟨g, fd, p1, G, cr, cm, hb⟩ := G
  intro S H σ st P Q p n
  refine ⟨_, pe_cmethS pe_w cr cm G hr hb (fun σ => passAt hd.tk σ) pa_w hst hpl ht, ho S H σ st (fun _ => True) _ trivial fun y u S1 H1 p1 s1 t1 r1 => ⟨r1, ?_⟩⟩
  refine ha.2 S1 H1 σ t1 _ _ p fun t vs S2 H2 p2 s2 t2 r2 => ?_
  refine call_go (N := N) (M := []) (R := O) (vs := .ref C :: vs) hd (d t) (hA t) (.refl _) ha.1 t2 (fun Γ3 O3 S3 H3 σ3 s3 t3 hn => ⟨rfl, r2 _ _ S3 H3 _ s3 t3 hn⟩) p2 fun r v S' H' p3 s3 h => ?_
  rw [hf r] at h
  exact n r v S' H' p3 ((s1.trans s2).trans s3) h trivial
end

end
end OW
namespace OW
open PySem PySem.Spec PyProof.Rows L2 OT NdefX
section
variable {X : Cx} {B : Bs} {Γ : Gm} {O : Om} {Z : Er → Prop} {e v1 v2 : Expr} {es rest : List Expr} {pos : Pos}
def JW (X : Cx) (B : Bs) (Γ : Gm) (O : Om) (Z : Er → Prop) (es : List Expr) (w : Wp Str) : Prop := ∀ (acc : Str) (S H : Hp) (σ : L2.St), Stt B Γ O S H σ → acc.length + 100000 * es.length ≤ sizeLine → ∀ (P : Str → Prop) (Q : Str → Hp → Prop), w P Z →
  (∀ z S' H', P z → Same S S' → Stt B Γ O S' H' σ → Q (acc ++ z) H') → tJs (es.map (wE X)) acc σ H Q
end
section
variable {X : Cx} {B : Bs} {Γ : Gm} {O : Om} {Z : Er → Prop} {e : Expr}
theorem AllM.dy2 {K : PySem.W.Frag} {S : Hp} : ∀ {xs : List Dy} {vs : List V}, AllM (xs.map (tDy K)) S vs → AllM (tDys K xs) S vs := fun h => by rw [tDys_map]; exact h
end
end OW
namespace OW
open PySem PySem.Spec PyProof.Rows L2 OT NdefX
end OW
namespace OW
open PySem PySem.Spec PyProof.Rows L2 OT NdefX
theorem law_sp {K : PySem.W.Frag} {p : List Int → Prop} {w : List Int → Wp Bool} (hw : ∀ ns : List Int, p ns → w ns (fun b => b = true) (fun _ => False)) {vs : List V} {H : Hp} {Q : VK} {E : XK}
    (h : spD (D := { ns : List Int // p ns }) (fun ns => [OT.bQ K (ns.1.map tI)]) (fun _ => .val (OT.tB true)) vs H Q E) : spW K (fun d : List Int => [.b (rQ K tI d)]) w (fun r : Bool => .v (OT.tB r)) (fun _ => []) vs H Q E := by
  obtain ⟨⟨ns, hn⟩, S, sm, ar, q⟩ := h
  have ar2 : ArgR [.b (rQ K tI ns)] S (minus H []) H [] vs := by
    obtain ⟨v, e0, a, ws, e1, e2, e3⟩ := AllR.one ar
    subst e0
    have := AllM.toR (H := H) e3
    rw [List.map_map] at this
    exact ⟨⟨a, ws, e1, e2, this⟩, rfl⟩
  refine ⟨ns, S, [], fun b => b = true, fun _ => False, ?_⟩
  exact {
    sm := sm
    nd := List.nodup_nil
    fr := fun _ h => by cases h
    ar := ar2
    w := hw ns hn
    q := fun r v S' H' e p => by
      subst e
      exact q v S' H' p.1.st p.2
    x := fun _ _ _ _ _ z => z.elim }
end OW
namespace OW
open PySem PySem.Spec PyProof.Rows L2 OT NdefX
section
variable {X : Cx} {B : Bs} {Γ : Gm} {O N N' : Om} {Z : Er → Prop} {e a b c o e1 e2 : Expr} {p p1 p2 p3 pos pos' apos : Pos} {α β : Type} {f : α → MP}
section
variable {Dt : Type} {As : Dt → List AP} {k : Nat} {ps : List Str} {C : Addr} {bo : α → BP} {wo : Wp α} {ba : β → BP} {wa : Wp β}
end
end
end OW
namespace OW
open PySem PySem.Spec PyProof.Rows L2 OT NdefX
section
variable {X : Cx} {B : Bs} {Γ : Gm} {O N N' : Om} {Z : Er → Prop} {e a b c o : Expr} {p pos pos' apos : Pos} {α β τ : Type} {f : τ → MP}
variable {Dt : Type} {As : Dt → List AP} {k : Nat} {ps : List Str} {C : Addr} {ba : β → BP} {wa : Wp β}
variable {wp : Dt → Wp Bool} {res : Bool → RP} {Ms : Bool → List OP}
end
end OW
namespace OW
open PySem PySem.Spec PyProof.Rows L2 OT NdefX
section
variable {X : Cx} {B : Bs} {Γ : Gm} {O N : Om} {Z : Er → Prop} {c : Expr} {p p2 pos : Pos} {α β : Type} {f : α → MP} {g : β → MP} {tg it : Expr}
theorem IW.re {xs : List α} {ys : List β} (h : IW X B Γ O Z N tg it f (W.ret xs)) (e : xs.map f = ys.map g) : IW X B Γ O Z N tg it g (W.ret ys) :=
  ⟨h.1, fun S H σ st P Rk p k => h.2 S H σ st (fun zs => zs = xs) Rk rfl fun zs J G S' H' ez s t gg hh => k ys J G S' H' p s t gg fun Γ2 O2 S2 H2 σ2 t2 hn => by
    subst ez
    have hl : zs.length = ys.length := by have := congrArg List.length e; simpa using this
    obtain ⟨h1, h2⟩ := hh Γ2 O2 S2 H2 σ2 t2 hn
    refine ⟨hl ▸ h1, fun i hi => ?_⟩
    obtain ⟨h3, h4⟩ := h2 i (by omega)
    refine ⟨h3, fun y H3 hy => ?_⟩
    obtain ⟨S3, h5, h6⟩ := h4 y H3 hy
    refine ⟨S3, h5, ?_⟩
    have e2 : (zs.map f)[i]? = (ys.map g)[i]? := by rw [e]
    rw [List.getElem?_map, List.getElem?_map, List.getElem?_eq_getElem (by omega), List.getElem?_eq_getElem hi] at e2
    have e3 : f zs[i] = g ys[i] := by simpa using e2
    rw [← e3]
    exact h6⟩
end
end OW
namespace OW
open PySem PySem.Spec PyProof.Rows L2 OT NdefX
section
variable {X : Cx} {B : Bs} {Γ : Gm} {O : Om} {Z : Er → Prop} {a b : Expr} {es : List Expr} {pos : Pos}
end
end OW
namespace OW
open PySem PySem.Spec PyProof.Rows L2 OT NdefX
end OW
namespace OW
open PySem PySem.Spec PyProof.Rows L2 OT NdefX
end OW
namespace OW
open PySem PySem.Spec PyProof.Rows L2 OT NdefX
structure DatE {α : Type} (K : PySem.W.Frag) (f : α → MP) (g : α → PyData) (d : Nat) : Prop where
  c : ∀ a S H v, Same S H → (f a).R S v → Dp K H v (g a)
  al : ∀ x y, PySem.W.alike (g x) (g y) = true
  dp : ∀ x, (g x).depth ≤ d
section
variable {K : PySem.W.Frag} {α β : Type} {f : α → MP} {g : α → PyData} {f2 : β → MP} {g2 : β → PyData} {d d2 : Nat}
def SrtOk (g : α → PyData) : Prop := ∀ xs : List α, PySem.W.Sortable (xs.map g)
end
def srtD {α : Type} (g : α → PyData) (xs : List α) : List α := xs.mergeSort (PySem.W.dataLe false g)
section
variable {X : Cx}
def rSortedDat (K : PySem.W.Frag) (d : Nat) : List V → Hp → VK → Prop := fun vs H Q => ∃ (a : Addr) (xs : List V) (ds : List PyData), vs = [V.ref a] ∧ SqL K H a xs ∧ DpAll K H xs ds ∧ PySem.W.AllAlike ds ∧ PySem.W.Sortable ds ∧ (∀ z ∈ ds, z.depth ≤ d) ∧ xs.length ≤ 100000 ∧
  ∀ p : Addr, H p = none → Q (.ref p) (upd H p (.lst (((xs.zip ds).mergeSort (PySem.W.dataLe false fun b : V × PyData => b.2)).map (·.1))))
variable {B : Bs} {Γ : Gm} {O N N' : Om} {Z : Er → Prop} {e : Expr} {p pos : Pos} {α : Type} {f : α → MP} {g : α → PyData} {d : Nat}
end
end OW
namespace OW
open PySem PySem.Spec PyProof.Rows L2 OT NdefX
section
variable {X : Cx} {B : Bs} {Γ : Gm} {O N N' : Om} {Z : Er → Prop} {e a b : Expr} {p pos : Pos} {α : Type} {f : α → MP}
end
end OW
namespace OW
open PySem PySem.Spec PyProof.Rows L2 OT NdefX
section
variable {X : Cx} {α ρ : Type} {f : α → MP} {h : ρ → MP} {g : ρ → PyData} {d k : Nat} {pn : Str} {wp : α → Wp ρ} {pins : List (Addr × Obj)} {σ : L2.St} {H S : Hp} {s : Shared} {fa : Addr} {fd : FuncData}
end
end OW
namespace OW
open PySem PySem.Spec PyProof.Rows L2 OT NdefX
abbrev W.sortK {α ρ : Type} (g : ρ → PyData) (wp : α → Wp ρ) (xs : List α) : Wp (List α) := fun Q _ => xs.length ≤ 100000 ∧ ∃ key : α → ρ, (∀ x ∈ xs, wp x (fun r => r = key x) E0) ∧ Q (srtD (fun x => g (key x)) xs)
section
variable {X : Cx} {α ρ : Type} {f : α → MP} {h : ρ → MP} {g : ρ → PyData} {d k : Nat} {pn : Str} {wp : α → Wp ρ}
def rSortK (fa : Addr) (f : α → MP) (g : ρ → PyData) (wp : α → Wp ρ) : List V → List V → Hp → VK → Prop := fun vs zs H Q => ∃ (a : Addr) (us : List V) (S : Hp) (xs : List α) (key : α → ρ), vs = [V.ref a] ∧ zs = [V.ref fa] ∧ H a = some (.lst us) ∧ Same S H ∧ AllM (xs.map f) S us ∧ xs.length ≤ 100000 ∧ (∀ x ∈ xs, wp x (fun r => r = key x) E0) ∧
  ∀ S' H' p, Stp S H S' H' → H' p = none → Q (.ref p) (upd H' p (.lst (((us.zip (xs.map fun x => g (key x))).mergeSort (PySem.W.dataLe false fun z : V × PyData => z.2)).map (·.1))))
variable {B : Bs} {Γ : Gm} {O N N' : Om} {Z : Er → Prop} {e : Expr} {p px kpos pos : Pos} {x : Str}
end
end OW
namespace OW
open PySem PySem.Spec PyProof.Rows L2 OT NdefX
section
variable {X : Cx} {B : Bs} {Γ : Gm} {O N N' : Om} {Z : Er → Prop} {e a b c ix : Expr} {p1 pos pos' : Pos} {D : Ends} {rest body els : List Stmt} {α β : Type} {nm : Str}
theorem s_ifK {τ : Type} (Gs : τ → Gm) (Os : τ → Om) {k : τ → Prop} {w w' : Wp Bool} {p q : (τ → Prop) → Prop} (hc : TW X B Γ O Z c w') (h1 : ∀ k : τ → Prop, SW X B Γ O body { D with nx := At B Gs Os k } (p k)) (h2 : ∀ k : τ → Prop, SW X B Γ O els { D with nx := At B Gs Os k } (q k)) (h : ∀ s, SW X B (Gs s) (Os s) rest D (k s)) (hw : w' = w := by rfl) :
    SW X B Γ O (.If c body els pos :: rest) D (W.jn k fun k => W.run w Z fun b => W.ite b (p k) (q k)) := s_ifJ Gs Os hc (h1 k) (h2 k) h hw
theorem allM_setI {f : α → MP} {S : Hp} {z : α} {v : V} (h : (f z).R S v) : ∀ {xs : List α} {vs : List V} (j : Nat), AllM (xs.map f) S vs → AllM ((xs.set j z).map f) S (vs.set j v)
  | [], [], _, _ => trivial
  | [], _ :: _, _, h => h.elim
  | _ :: _, [], _, h => h.elim
  | x :: xs, u :: vs, 0, q => ⟨h, q.2⟩
  | x :: xs, u :: vs, j + 1, q => ⟨q.1, allM_setI h j q.2⟩
theorem s_setI {i : Nat} {u : V} {f : α → MP} {xs : List α} {w1 : Wp α} {w2 : Wp Int} {w : Wp (α × Nat)} {q : α × Nat → Prop} (h1 : EW X B Γ ((u, oLs f xs) :: O) Z e f w1) (h2 : EW X B Γ ((u, oLs f xs) :: O) Z ix tI w2) (h : ∀ t : α × Nat, SW X B Γ ((u, oLs f (xs.set t.2 t.1)) :: O) rest D (q t))
    (hw : (W.bind w1 fun y => W.bind w2 fun k => fun Q _ => ∃ j, ixN xs.length k = some j ∧ Q (y, j)) = w := by rfl)
    (hG : Γ[i]? = some (some (tV u)) := by rfl) (hN : X.N[i]? = some nm := by rfl)
    (hv : Vis X.env.scope nm := by first | exact Or.inl rfl | exact Or.inr (Or.inl rfl) | exact Or.inr (Or.inr rfl)) (hd : (nm == ("__debug__" : Str)) = false := by decide) (hcd : (nm == ("__classdict__" : Str)) = false := by decide)
    (hs : swapsWithSole [.Subscript (.Name nm p1) ix pos'] e pos.line X.env = pure false := by rfl) (hsw : swappedStores [.Subscript (.Name nm p1) ix pos'] e X.env = pure none := by rfl) (hea : (assignEach [.Subscript (.Name nm p1) ix pos'] X.env).map (·.2) = [assign (.Subscript (.Name nm p1) ix pos') X.env] := by rfl)
    (hga : ∀ v, assign (.Subscript (.Name nm p1) ix pos') X.env v = (do
      let o1 ← holding [v] (eval (.Name nm p1) X.env)
      let i1 ← holding [v, o1] (eval ix X.env)
      standAt pos'
      holding [v, o1, i1] (setItem o1 i1 v)
      release [v, o1, i1] []) := by intro _; rfl) :
    SW X B Γ ((u, oLs f xs) :: O) (.Assign [.Subscript (.Name nm p1) ix pos'] e pos :: rest) D (W.run w Z q) :=
  s_cons fun hq S H σ st => ⟨_, ps_asg pe_w (pg_sub (pe_var hN hv hd hcd) pe_w set_list (ha := hga)) hs hsw hea, h1 S H σ st _ _ (by rw [← hw] at hq; exact hq) fun z u1 S1 H1 pj s1 t1 r1 => by
    obtain ⟨v, g1, g2⟩ := t1.slot i _ hG
    have g2' : v = u := g2
    subst g2'
    refine ⟨v, g1, h2 S1 H1 σ t1 _ _ pj fun j u2 S2 H2 pz s2 t2 r2 => ?_⟩
    obtain ⟨k, hk, pq⟩ := pz
    have r2' : u2 = .int j := r2
    subst r2'
    obtain ⟨A2, y', ws, A3, f1, f2, f3, f4⟩ := t2.at_ (x := (v, oLs f xs)) List.mem_cons_self
    obtain ⟨f5, f6⟩ := AllO.toS f4
    have hwl : ws.length = xs.length := by rw [f6.length, List.length_map]
    have f1' : v = .ref y' := f1
    subst f1'
    refine ⟨y', ws, j, k, rfl, rfl, f3, by rw [hwl]; exact hk, ?_⟩
    refine h (z, k) pq S2 _ σ (t2.mut fun A0 n0 hA0 ⟨y2, us, A4, k1, k2, k3, k4⟩ => ?_)
    cases k1
    rw [f3] at k3
    cases k3
    obtain ⟨k5, k6⟩ := AllO.toS k4
    subst k5
    subst k2
    refine ⟨[y'], n0, fun a ha => ?_, fun a ha hn => upd_ne fun z => ha (by rw [z]; exact List.mem_singleton.mpr rfl), y', _, [], rfl, rfl, upd_same, AllO.ofS (allM_setI ((f z).up s2 r1) k k6)⟩
    have : a = y' := by simpa using ha
    subst this
    exact ⟨(hA0 a List.mem_cons_self).1, by rw [upd_same]; simp, .inl List.mem_cons_self⟩⟩
end
end OW
namespace OW
open PySem PySem.Spec PyProof.Rows L2 OT NdefX
section
variable {X : Cx} {B : Bs} {Γ : Gm} {O N N' : Om} {Z : Er → Prop} {e a b c o l : Expr} {p pos pos' apos cpos : Pos} {α β : Type} {C : Addr} {k : Nat} {ps : List Str} {Dt ρ : Type} {As : Dt → List AP} {wp : Dt → Wp ρ} {res : ρ → RP} {Ms : ρ → List OP} {bo : α → BP} {wo : Wp α} {ba : β → BP} {wa : Wp β}
theorem in_go0N {as : List AA} (d : Dt) (hA : ArgM as (As d) []) {S H : Hp} {σ : L2.St} (t : Stt B Γ O S H σ) {vs : List V} (hv : ∀ Γ2 O2 S2 H2 σ2, Same S S2 → Stt B Γ2 O2 S2 H2 σ2 → (∀ x ∈ O, x ∈ O2) → AllA as S2 H2 vs)
    {P : ρ → Prop} {Q : VK} {f : ρ → OP} (hf : ∀ r, res r = .o (f r)) (hw : wp d P E0) (hQ : ∀ r v S' H', P r → Same S S' → Stt B Γ ((v, f r) :: O) S' H' σ → Q v H') : spW X.K As wp res Ms vs H Q (fun _ _ _ => False) :=
  call_go (X := X) (N := O) (M := []) (R := O) (hd0 (X := X) (B := B) (Γ := Γ) (O := O)) d hA (.refl _) (fun _ h => h) t hv hw fun r v S' H' p s h => by
    rw [hf r] at h
    exact hQ r v S' H' p s h
theorem n_own2 {op : Operator} {m : Str} {f : ρ → OP} (G : GM X.prog X.w X.K X.mg X.base C m k ps (spW X.K As wp res Ms)) (hc : PySem.W.selfFirst X.K C = true) (hr : Room k X.A) (d : β → α → Dt) (ha : RW X B Γ O Z N a ba wa) (hb : RW X B Γ O Z N' b bo wo) (hi : ∀ y, InsB C m (bo y)) (hj : ∀ x, InsB C m (ba x)) (hA : ∀ x y, ArgM [.b (ba x), .b (bo y)] (As (d x y)) []) (hm : m = PySem.dunder op.info.2 := by rfl) (hf : ∀ r, res r = .o (f r) := by intro _; rfl) :
    NW X B Γ O Z (.BinOp a op b pos) f (W.bind wa fun x => W.bind wo fun y Q _ => wp (d x y) Q E0) := by
  subst hm
  obtain ⟨g, fd, G, M, hbb⟩ := G
  intro S H σ st P Q p n
  refine ⟨_, pe_op (op_own M hc G hr hbb pass_none) pe_w pe_w, ha.2 S H σ st _ _ p fun x u S1 H1 p1 s1 t1 r1 => hb.2 S1 H1 σ t1 _ _ p1 fun y v S2 H2 p2 s2 t2 r2 => ?_⟩
  obtain ⟨q, dy, fs, rfl, hy, _⟩ := hi y S2 H2 v t2.sub (r2 _ _ S2 H2 _ (Same.refl _) t2 hb.1)
  obtain ⟨q2, dy2, fs2, rfl, hy2, _⟩ := hj x S2 H2 u t2.sub (r1 _ _ S2 H2 _ s2 t2 ha.1)
  refine ⟨q2, q, dy2, dy, fs2, fs, rfl, rfl, hy2, hy, in_go0N (X := X) (vs := [.ref q2, .ref q]) (d x y) (hA x y) t2 (fun Γ3 O3 S3 H3 σ3 s3 t3 hn => ⟨r1 _ _ S3 H3 _ (s2.trans s3) t3 fun z hz => hn z (ha.1 z hz), r2 _ _ S3 H3 _ s3 t3 fun z hz => hn z (hb.1 z hz), trivial⟩) hf p2 fun r v S' H' p3 s3 t3 => ?_⟩
  exact n r _ S' H' p3 ((s1.trans s2).trans s3) t3 trivial
variable {f : α → MP}
end
end OW
namespace OW
open PySem PySem.Spec PyProof.Rows L2 OT NdefX
section
variable {X : Cx} {B : Bs} {Γ : Gm} {O N N' : Om} {Z : Er → Prop} {e a b c o l : Expr} {p pos pos' apos cpos : Pos} {α β : Type} {f : α → MP}
def tListVals (te : TE) : TE := fun σ H Q => te σ H fun x H1 => ∃ (d : Addr) (kvs : List (Key × V)), x = .ref d ∧ Rd H1 d (.dK kvs) ∧ ∀ q, H1 q = none → Q (.ref q) (upd H1 q (.lst (kvs.map (·.2))))
def dmk (ps : List (Str × α)) : List (Str × α) := ps.foldl (fun d q => dput d q.1 q.2) []
end
end OW
namespace OW
open PySem PySem.Spec PyProof.Rows L2 OT NdefX
def kio (d : Addr) (n ep : Nat) : Obj := { cls := .type "dict_keyiterator", data := .fields #[.ref d, .int 0 0, .int n 0, .int ep 0] }
def ItK (d it : Addr) (n ep : Nat) : HO := .ext fun h => h.get? it = some (kio d n ep)
def rIterD (n : Nat) : List V → Hp → VK → Prop := fun xs H Q => ∃ (t : Addr) (od : Obj) (kvs : List (Key × V)), xs = [.ref t] ∧ H t = some (.frz od (.dK kvs)) ∧ ∀ it es ep, H it = none → n ≤ it → od.data = .dict es ep → Q (.ref it) (upd H it (ItK t it kvs.length ep))
structure OwnItD (P : Program) (w : World) (K : PySem.W.Frag) (mg : Str → Option Value) (base : Heap) (C : Addr) (fl : Str) : Prop where
  run : ∃ f, Meth K C "__iter__" f ∧ ∀ (A : Around) (outer : List Env) (s : Shared) (H : Hp) (a dx t : Addr) (fs : List (Str × V)) (od : Obj) (kvs : List (Key × V)), Room 1 A → Env0 P w K mg base A outer s H → H a = some (.ins C dx fs) → fs.lookup fl = some (.ref t) → H t = some (.frz od (.dK kvs)) →
    codeAny (model P w) A (.call (.ref f) ⟨[.ref a], []⟩) (CR (L2.CX P w) outer P w H s (fun v H' => ∃ it es ep, v = .ref it ∧ H it = none ∧ s.heap.objs.size ≤ it ∧ od.data = .dict es ep ∧ H' = upd H it (ItK t it kvs.length ep)) (fun _ _ _ => False)) s
def iOwnD (C : Addr) (fl : Str) (te : TE) : TI := fun σ H R => te σ H fun x H1 => ∃ a dx fs t od kvs, x = .ref a ∧ H1 a = some (.ins C dx fs) ∧ fs.lookup fl = some (.ref t) ∧ H1 t = some (.frz od (.dK kvs)) ∧ R (Itk t od kvs) H1
section
variable {X : Cx} {B : Bs} {Γ : Gm} {O : Om} {Z : Er → Prop} {l : Expr} {α τ : Type} {g : α → MP} {C : Addr} {fl : Str}
end
end OW
namespace OW
open PySem PySem.Spec PyProof.Rows L2 OT NdefX
section
variable {X : Cx} {pins : List (Addr × Obj)} {σ : L2.St} {H : Hp} {s : Shared} {A : Around} {C f a dx : Addr} {fs : List (Str × V)} {k : Nat} {fd : FuncData} {ps : List Str} {sp : Sp} {E : Value → Shared → Prop}
def rListOD (C : Addr) (fl : Str) (sp : Sp) : List V → Hp → VK → Prop := fun xs H Q => ∃ a dx fs t od kvs, xs = [.ref a] ∧ H a = some (.ins C dx fs) ∧ fs.lookup fl = some (.ref t) ∧ H t = some (.frz od (.dK kvs)) ∧ kvs.length ≤ sizeLine ∧
  (∀ H1, Same H H1 → sp [.ref a] H1 (fun v H' => ∃ n : Int, v = .int n ∧ 0 ≤ n ∧ n ≤ 100000 ∧ Same H1 H') (fun _ _ _ => False)) ∧ ∀ q H2, H q = none → H2 q = none → Same H H2 → Q (.ref q) (upd H2 q (.lst (kvs.map fun q => kV q.1)))
end
section
variable {X : Cx} {B : Bs} {Γ : Gm} {O : Om} {Z : Er → Prop} {l : Expr} {α τ Dt : Type} {g : α → MP} {C : Addr} {fl : Str} {k : Nat} {ps : List Str} {As : Dt → List AP} {p pos : Pos}
end
end OW
namespace OW
open PySem PySem.Spec PyProof.Rows L2 OT NdefX
structure Chn where
  shares : List (Str × Rt)
deriving DecidableEq
def tChn (K : PySem.W.Frag) (c : Chn) : MP := tO (He.ga K "Chance") [("shares", tDs (tRat K) c.shares)]
section
variable {X : Cx} {B : Bs} {Γ : Gm} {O N N' : Om} {Z : Er → Prop} {e a b c o l : Expr} {p pos pos' apos cpos : Pos} {α β : Type} {f : α → MP} {rest : List Stmt} {D : Ends}
def NN (f : α → MP) : Prop := ∀ a S v, (f a).R S v → v ≠ .non
variable {x : Str} {k : Nat} {ps : List Str} {fs : α → List (Str × MP)} {Wx : WX}
theorem s_raiseV {w w' : Wp α} (er : α → Er) (G : GE X.prog X.w X.K X.mg X.base x (He.ga X.K x) k ps (spEx (He.ga X.K x) (fun d : α => [(f d).b]) (fun _ => True) fs)) (hr : Room (k + 1) X.A) (hd : Hd X B Γ O Z Wx) (he : EW X B Γ O Z e f w') (hi : ∀ t, (er t).info X.K = (x, fs t) := by intro _; rfl) (hw : w' = w := by rfl)
    (hg : Gl X x := by rfl) (hc : X.calm = true := by rfl) (hdb : (x == ("__debug__" : Str)) = false := by decide) (hs : starEach [e] X.env = (false, eval e X.env) :: starEach [] X.env := by rfl) (hpl : (backTo pos (starEach [] X.env)).any (·.1) = false := by rfl) :
    SW X B Γ O (.Raise (some (.Call (.Name x p) [e] [] pos)) none pos' :: rest) D (W.run w Z fun t => Z (er t)) := fun hq =>
  s_raiseG (w := W.bind w' fun x => W.bind (W.ret ()) fun y => W.ret (x, y)) (fun z : α × Unit => er z.1) G hr hd (fun z => z.1) (a_cons he a_nil hs) (fun _ => rfl) (fun z => hi z.1) rfl (fun _ => Nat.le_of_ble_eq_true rfl) hg hc hdb hs hpl (by
    subst hw
    have : (fun t => Z (er t)) = fun t => True ∧ Z (er t) := by funext t; simp
    rw [this] at hq
    exact hq)
end
section
variable {P : Program} {w : World} {K : PySem.W.Frag} {mg : Str → Option Value} {base : Heap} {k : Nat} {ps : List Str} {sp : Sp}
theorem gf_mkA {y x q : Str} {s : Stmt} {f : Addr} (h : ∃ fd, FnS K x q s f fd) (hb : ∀ fd, FnS K x q s f fd → Binds K fd ps []) (hm : mg y = some (.ref f)) (ok : ∀ fd, FnS K x q s f fd → FnOk P w K mg base (L2.CX P w) k f fd ps sp) : GF P w K mg base y k ps sp := by
  obtain ⟨fd, F⟩ := h
  exact ⟨f, fd, ok fd F, hm, F.kp, hb fd F⟩
end
abbrev isum (l : List Int) : Int := l.sum
abbrev dvals {α : Type} (d : List (Str × α)) : List α := d.map (·.2)
end OW
namespace OT
open PySem PySem.Spec PyProof.Rows L2
def spM2 {D ι : Type} (M M2 : D → MO) (As : D → List BP) (Pm : D → ι → Prop) (Rm : D → ι → MP) : Sp := fun vs H Q _ => ∃ d p S ws, vs = .ref p :: ws ∧ Same S H ∧ S p = none ∧ (∃ o, H p = some o ∧ (M d).R S o) ∧ AllR (As d) S (del H p) ws ∧
  ∀ i v S' H', Pm d i → Stm p (M2 d) S H S' H' → (Rm d i).R S' v → Q v H'
section
variable {P : Program} {w : World} {K : PySem.W.Frag} {mg : Str → Option Value} {base : Heap} {k : Nat} {ps : List Str}
theorem defM2_ok {D ι : Type} {M M2 : D → MO} {As : D → List BP} {Pm : D → ι → Prop} {Rm : D → ι → MP} {N : List Str} {x q self : Str} {s : Stmt} {f : Addr} {fd : FuncData} (F : FnS K x q s f fd) (Sc : FnScope N (self :: ps) (defScope s)) (Gs : D → Addr → Hp → Gm)
    (hb : ∀ (cdv : Value) (A : Around) (outer : List Env) (s' : Shared) (H0 H S : Hp) (Q : VK) (E : XK) (d : D) (p : Addr), Room k (A.deeper (envOfC q (defScope s) s'.heap.objs.size f cdv)) → N.Nodup → (∀ i v S' H' σ Γ, Pm d i → Stt ⟨S, H, .yes⟩ Γ [(p, M2 d)] S' H' σ → (Rm d i).R S' v → Q v H') →
      SJ (cxOf (L2.CX P w) P w K mg base N q (defScope s) f cdv A outer s' H0 E) ⟨S, H, .yes⟩ (Gs d p H) [(p, M d)] (defBody s) { nx := fun _ H' => Q .non H', rt := Q })
    (hl : ∀ d, (As d).length = ps.length := by intro _; rfl) (hG : ∀ d p H, some (tR p) :: gm0 N.tail (As d) H = Gs d p H := by intro _ _ _; rfl) : FnOk P w K mg base (L2.CX P w) (k + 1) f fd (self :: ps) (spM2 M M2 As Pm Rm) := by
  refine F.ok Sc (fun vs H Q E h => ?_) (fun cdv A outer s H vs Q E hr h => ?_)
  · obtain ⟨d, p, S, ws, rfl, _, _, _, r, _⟩ := h
    rw [List.length_cons, r.length, hl, List.length_cons]
  · obtain ⟨d, p, S, ws, rfl, sm, sp, ⟨o, ho, hm⟩, r, q⟩ := h
    have sm' : Same S (del H p) := fun a u e => by
      rw [del_ne (fun z => by subst z; rw [sp] at e; cases e)]
      exact sm a u e
    have t := stt0 (N := N.tail) sm' r
    have dl : Same (del H p) H := fun a u e => by
      by_cases z : a = p
      · subst z; rw [del_same] at e; cases e
      · rw [del_ne z] at e; exact e
    refine hb cdv A outer s H (del H p) S Q E d p hr Sc.nd (fun i v S' H' σ Γ hp t' hv => q i v S' H' hp ?_ hv) S H _ ?_
    · obtain ⟨g1, g2, o', g3, g4⟩ := t'.own _ List.mem_cons_self
      refine ⟨t'.st.s, t'.st.i, fun a u ne e => t'.st.h a u (by show del H p a = _; rw [del_ne ne]; exact e), fun a e1 e2 => ?_, o', g3, g4⟩
      by_cases z : a = p
      · rw [z]; exact g1
      · exact t'.st.fr a e1 (by show del H p a ≠ none; rw [del_ne z]; exact e2)
    · rw [← hG]
      have eN : N = self :: N.tail := by
        have := Sc.pre
        cases N with
        | nil => cases this
        | cons a N => rw [List.length_cons, List.take_succ_cons] at this; rw [(List.cons.inj this).1]; rfl
      have es : start N (.ref p :: ws) = some (.ref p) :: start N.tail ws := by
        rw [eN]
        unfold L2.start
        rw [List.map_cons, List.length_cons, List.length_cons, Nat.add_sub_add_right, List.cons_append]
        rfl
      rw [es]
      refine ⟨⟨Same.refl _, sm, dl, fun a e1 _ => e1⟩, fun i R e => ?_, congrArg Nat.succ t.len, fun z hz => ?_, by show [p].Nodup; simp, trivial⟩
      · cases i with
        | zero =>
          have e2 : tR p = R := Option.some.inj (Option.some.inj e)
          subst e2
          exact ⟨_, rfl, rfl⟩
        | succ i => exact t.slot i R e
      · rcases List.mem_cons.mp hz with z1 | hz
        · subst z1
          exact ⟨sp, del_same, o, ho, hm⟩
        · cases hz
end
end OT
namespace OW
open PySem PySem.Spec PyProof.Rows L2 OT NdefX
open PySem.Builtin.Int (intBits)
def mPoolN (n : Nat) : MO := ⟨fun _ o => ∃ x b, o = .lst [.int x, .int (n : Int), .bl b], fun _ h => h⟩
theorem poolN_open {n : Nat} : ∀ S o, (mPoolN n).R S o → ∃ i : Int × Bool, (mL [tI i.1, tI (n : Int), OT.tB i.2]).R S o := fun S o ⟨x, b, e⟩ => ⟨(x, b), _, e, rfl, rfl, rfl, trivial⟩
theorem poolN_close {x m : Int} {n : Nat} {b : Bool} (hm : m = (n : Int)) : ∀ S o, (mL [tI x, tI m, OT.tB b]).R S o → (mPoolN n).R S o := fun S o ⟨vs, e, h⟩ => by
  match vs, h with
  | [u, v, t], h => exact ⟨x, b, by rw [e, show u = .int x from h.1, show v = .int m from h.2.1, show t = .bl b from h.2.2.1, hm]⟩
def oPoolN (n : Nat) : OP := ⟨fun S H A v => ∃ p o, v = .ref p ∧ A = [p] ∧ H p = some o ∧ (mPoolN n).R S o, fun {S S' H H' A v} e hA ⟨p, o, h1, h2, h3, h4⟩ => ⟨p, o, h1, h2, by rw [hA p (by rw [h2]; exact List.mem_cons_self)]; exact h3, h4⟩⟩
abbrev wPoolN (_ : Int) : Wp Nat := fun Q _ => Q 0
abbrev wTakeN (n : Nat) (l : Int) : Wp (Int × Nat) := fun Q _ => (n < 2 ^ 40 ∧ 0 < l ∧ intBits l ≤ 9000) ∧ ∀ a, 0 ≤ a → a < l → Q (a, n + 1)
theorem poolN_sp {K : PySem.W.Frag} {vs : List V} {H : Hp} {Q : VK} {E : XK} (h : spW K (fun d : Int => [.b (tI d).b]) wPoolN (fun n : Nat => .o (oPoolN n)) (fun _ => []) vs H Q E) : spD (D := Int) (fun d => [bI d]) (fun _ => .new (mPoolN 0)) vs H Q E := by
  obtain ⟨d, S, A, P, Z, h⟩ := h
  have ar := h.ar
  match vs, ar with
  | [v], ar =>
    obtain ⟨a1, a2⟩ := ar
    have a2 : A = [] := a2
    subst a2
    refine ⟨d, S, h.sm, ⟨a1, trivial⟩, fun p o S' H' st n1 n2 h1 h2 => h.q 0 (.ref p) S' H' h.w ?_⟩
    exact ⟨st, (fun i R e => by simp at e), rfl, ⟨[p], by simp, fun a ha => by
      rw [List.mem_singleton] at ha
      subst ha
      exact ⟨n2, n1, by rw [h1]; simp⟩, [p], [], rfl, ⟨p, o, rfl, rfl, h1, h2⟩, rfl⟩, trivial⟩
abbrev LimN : Type := { d : Nat × Int // d.1 < 2 ^ 40 ∧ 0 < d.2 ∧ intBits d.2 ≤ 9000 }
theorem takeN_sp {K : PySem.W.Frag} {vs : List V} {H : Hp} {Q : VK} {E : XK} (h : spW K (fun d : Nat × Int => [.o (oPoolN d.1), .b (tI d.2).b]) (fun d => wTakeN d.1 d.2) (fun a : Int × Nat => .v (tI a.1)) (fun a => [oPoolN a.2]) vs H Q E) :
    spM2 (D := LimN) (ι := Int) (fun d => mPoolN d.1.1) (fun d => mPoolN (d.1.1 + 1)) (fun d => [bI d.1.2]) (fun d i => 0 ≤ i ∧ i < d.1.2) (fun _ i => tI i) vs H Q E := by
  obtain ⟨d, S, A, P, Z, h⟩ := h
  obtain ⟨hl, hw⟩ := h.w
  have ar := h.ar
  match vs, ar with
  | [u, v], ar =>
    obtain ⟨A1, A2, e, ⟨p, o, e1, e2, h1, h2⟩, h3, h4⟩ := ar
    have h4 : A2 = [] := h4
    subst h4 e2 e1
    subst e
    have em : minus H ([p] ++ []) = del H p := by
      funext b
      unfold minus del
      by_cases q : b = p
      · simp [q]
      · simp [q]
    have hS := (h.fr p (by simp)).1
    rw [em] at h3
    refine ⟨⟨d, hl⟩, p, S, [v], rfl, h.sm, hS, ⟨o, h1, h2⟩, ⟨h3, trivial⟩, fun i w S' H' hi st hv => h.q (i, d.1 + 1) w S' H' (hw i hi.1 hi.2) ⟨?_, hv⟩⟩
    obtain ⟨o', g1, g2⟩ := st.o
    have n1 : S' p = none := st.fr p hS (by rw [h1]; simp)
    refine ⟨⟨st.s, st.i, fun a z hz => ?_, fun a z1 z2 => ?_⟩, (fun i R e => by simp at e), rfl, ⟨[p], by simp, fun a ha => ?_, [p], [], rfl, ⟨p, o', rfl, rfl, g1, g2⟩, rfl⟩, trivial⟩
    · have hz : minus H ([p] ++ []) a = some z := hz
      rw [em] at hz
      by_cases q : a = p
      · rw [q, del_same] at hz; cases hz
      · rw [del_ne q] at hz
        exact st.h a z q hz
    · have z2 : minus H ([p] ++ []) a ≠ none := z2
      rw [em] at z2
      by_cases q : a = p
      · rw [q, del_same] at z2; exact absurd rfl z2
      · rw [del_ne q] at z2
        exact st.fr a z1 z2
    · rw [List.mem_singleton] at ha
      subst ha
      refine ⟨n1, ?_, by rw [g1]; simp⟩
      show minus H ([_] ++ []) _ = none
      rw [em, del_same]
end OW
namespace OW
open PySem PySem.Spec PyProof.Rows L2 OT NdefX
section
variable {ι : Type} (X : Cx) (B : Bs) (Γ : Gm) (O : ι → Om) (Z : Er → Prop) (n : ι)
def KW {α : Type} (e : Expr) (f : α → MP) (w : Wp (α × ι)) : Prop := GW X B Γ (O n) Z e (fun q => f q.1) (fun q _ => O q.2) w
def KN {α : Type} (e : Expr) (f : α → OP) (w : Wp (α × ι)) : Prop := GW X B Γ (O n) Z e (fun _ => tAny) (fun q v => (v, f q.1) :: O q.2) w
def KQ {α : Type} (N : Om) (e : Expr) (b : α → BP) (w : Wp (α × ι)) : Prop := (∀ m, ∀ x ∈ N, x ∈ O m) ∧ ∀ S H σ, Stt B Γ (O n) S H σ → ∀ (P : α × ι → Prop) (Q : VK), w P Z → (∀ a v S' H', P a → Same S S' → Stt B Γ (O a.2) S' H' σ → (∀ Γ2 O2 S2 H2 σ2, Same S' S2 → Stt B Γ2 O2 S2 H2 σ2 → (∀ x ∈ N, x ∈ O2) → (b a.1).R S2 H2 v) → Q v H') → wE X e σ H Q
def KR {α : Type} (e : Expr) (b : α → BP) (w : Wp (α × ι)) : Prop := ∀ S H σ, Stt B Γ (O n) S H σ → ∀ (P : α × ι → Prop) (Q : VK), w P Z → (∀ a v S' H', P a → Same S S' → Stt B Γ (O a.2) S' H' σ → (b a.1).R S' H' v → Q v H') → wE X e σ H Q
def KT (e : Expr) (w : Wp (Bool × ι)) : Prop := ∀ S H σ, Stt B Γ (O n) S H σ → ∀ (P : Bool × ι → Prop) (Q : Bool → Hp → Prop), w P Z → (∀ a S' H', P a → Same S S' → Stt B Γ (O a.2) S' H' σ → Q a.1 H') → wT X e σ H Q
def KTC (e : Expr) (w : Wp (Bool × ι)) : Prop := ∀ S H σ, Stt B Γ (O n) S H σ → ∀ (P : Bool × ι → Prop) (Q : Bool → Hp → Prop), w P Z → (∀ a S' H', P a → Same S S' → Stt B Γ (O a.2) S' H' σ → Q a.1 H') → ∃ t, L2.PW X e t ∧ t σ H Q
def KA {τ : Type} (N : Om) (es : List Expr) (F : τ → List AA) (w : Wp (τ × ι)) : Prop := (∀ m, ∀ x ∈ N, x ∈ O m) ∧ ∀ S H σ, Stt B Γ (O n) S H σ → ∀ (P : τ × ι → Prop) (Q : List V → Hp → Prop), w P Z → (∀ a vs S' H', P a → Same S S' → Stt B Γ (O a.2) S' H' σ → (∀ Γ2 O2 S2 H2 σ2, Same S' S2 → Stt B Γ2 O2 S2 H2 σ2 → (∀ x ∈ N, x ∈ O2) → AllA (F a.1) S2 H2 vs) → Q vs H') → wA X es σ H Q
def KO (oe : Option Expr) (w : Wp (Option Int × ι)) : Prop := ∀ S H σ, Stt B Γ (O n) S H σ → ∀ (P : Option Int × ι → Prop) (Q : Option Int → Hp → Prop), w P Z → (∀ a S' H', P a → Same S S' → Stt B Γ (O a.2) S' H' σ → Q a.1 H') → ∃ t, PO X oe t ∧ t σ H Q
def KI {α : Type} (N : Om) (tg it : Expr) (f : α → MP) (w : Wp (List α × ι)) : Prop := (∀ m, ∀ x ∈ N, x ∈ O m) ∧ ∀ S H σ, Stt B Γ (O n) S H σ → ∀ (P : List α × ι → Prop) (Rk : It → Hp → Prop), w P Z →
  (∀ xs (J : It) (G : Gho) S' H', P xs → Same S S' → Stt B Γ (O xs.2) S' H' σ → G.R S' → (∀ Γ2 O2 S2 H2 σ2, Stt (B.add G) Γ2 O2 S2 H2 σ2 → (∀ q ∈ N, q ∈ O2) → J.stop xs.1.length H2 ∧ ∀ i (h : i < xs.1.length), J.go i H2 ∧ ∀ y H3, J.yld i H2 y H3 → ∃ S3, Stp S2 H2 S3 H3 ∧ (f xs.1[i]).R S3 y) → Rk J H') → wI X tg it σ H Rk
end
section
variable {ι : Type} {X : Cx} {B : Bs} {Γ : Gm} {O : ι → Om} {O1 N N' : Om} {Z : Er → Prop} {n : ι} {e a b c l ix : Expr} {es : List Expr} {p p1 p2 pos pos' apos : Pos} {D : Ends} {rest body els : List Stmt} {α β γ τ ρ Dt : Type} {x nm : Str} {Wx : WX} {f : α → MP} {g : β → MP}
abbrev W.cn {ι α : Type} (w : Wp α) (n : ι) : Wp (α × ι) := W.bind w fun a => W.ret (a, n)
theorem dr_of {w : Wp α} (h : EW X B Γ O1 Z e f w) (ho : O1 = O n := by rfl) : KW X B Γ O Z n e f (W.cn w n) := by
  subst ho
  exact fun S H σ st P Q p k => h S H σ st (fun a => P (a, n)) Q p fun a v S' H' p1 s1 t1 r1 => k (a, n) v S' H' p1 s1 t1 r1
theorem drq_of {f : α → BP} {w : Wp α} (h : RW X B Γ O1 Z N e f w) (hN : ∀ m, ∀ x ∈ N, x ∈ O m) (ho : O1 = O n := by rfl) : KQ X B Γ O Z n N e f (W.cn w n) := by
  subst ho
  exact ⟨hN, fun S H σ st P Q p k => h.2 S H σ st (fun a => P (a, n)) Q p fun a v S' H' p1 s1 t1 r1 => k (a, n) v S' H' p1 s1 t1 r1⟩
theorem drt_of {w : Wp Bool} (h : TW X B Γ O1 Z e w) (ho : O1 = O n := by rfl) : KT X B Γ O Z n e (W.cn w n) := by
  subst ho
  exact fun S H σ st P Q p k => h S H σ st (fun a => P (a, n)) Q p fun a S' H' p1 s1 t1 => k (a, n) S' H' p1 s1 t1
theorem KW.imp {w : Wp (α × ι)} (h : KW X B Γ O Z n e f w) (k : α → β) (i : ∀ a S v, (f a).R S v → (g (k a)).R S v) : KW X B Γ O Z n e g (W.bind w fun a => W.ret (k a.1, a.2)) :=
  fun S H σ st P Q q n => h S H σ st _ Q q fun a v S' H' p s t r => n (k a.1, a.2) v S' H' p s t (i a.1 S' v r)
theorem KW.r {f : α → MP} {g : α → BP} {w : Wp (α × ι)} (h : KW X B Γ O Z n e f w) (i : ∀ a S H v, Same S H → (f a).R S v → (g a).R S H v) : KQ X B Γ O Z n [] e g w :=
  ⟨(fun _ _ h => by cases h), fun S H σ st P Q q n => h S H σ st P Q q fun a v S' H' p s t r => n a v S' H' p s t fun Γ2 O2 S2 H2 σ2 s2 t2 _ => i a.1 S2 H2 v t2.sub ((f a.1).up s2 r)⟩
theorem KW.rd {w : Wp (List (Str × α) × ι)} (h : KW X B Γ O Z n e (tDs f) w) : KQ X B Γ O Z n [] e (rD f) w := h.r fun _ _ _ _ sm r => tDs_b sm r
theorem KN.settle {f : α → OP} {g : α → MP} {w : Wp (α × ι)} (h : KN X B Γ O Z n e f w) (hs : ∀ a, Stl (f a) (g a)) : KW X B Γ O Z n e g w := fun S H σ st P Q p n =>
  ⟨_, pe_frzs pe_w, h S H σ st P _ p fun a v S1 H1 p1 s1 t1 _ => by
    obtain ⟨D, h1, h2, h3⟩ := t1.settle (hs a.1)
    refine ⟨D, h1, h2, fun H2 hf => ?_⟩
    obtain ⟨S2, s2, t2, r2⟩ := h3 H2 hf
    exact n a _ S2 H2 p1 (s1.trans s2) t2 r2⟩
theorem KW.nn {w : Wp (α × ι)} (h : KW X B Γ O Z n e f w) : KN X B Γ O Z n e (fun a => MP.o (f a)) w := fun S H σ st P Q p n => h S H σ st P Q p fun a v S' H' p1 s1 t1 r1 => n a v S' H' p1 s1 (t1.addM r1) trivial
theorem dr_op2 {op : Operator} {r : R2} {h : γ → MP} {wa : Wp (α × ι)} {wb : ι → Wp (β × ι)} (wc : α → β → Wp γ) (ho : OpR X (binaryOp op) r) (ha : KW X B Γ O Z n a f wa) (hb : ∀ m, KW X B Γ O Z m b g (wb m))
    (hr : ∀ x y S H u v, Same S H → (f x).R S u → (g y).R S v → ∀ (P : γ → Prop) (Q : VK), wc x y P Z → (∀ c t S' H', P c → Stp S H S' H' → (h c).R S' t → Q t H') → r u v H Q) : KW X B Γ O Z n (.BinOp a op b pos) h (W.bind wa fun x => W.bind (wb x.2) fun y => W.cn (wc x.1 y.1) y.2) :=
  fun S H σ st P Q p n => ⟨_, pe_op ho pe_w pe_w, ha S H σ st _ _ p fun x u S1 H1 p1 s1 t1 r1 => hb x.2 S1 H1 σ t1 _ _ p1 fun y v S2 H2 p2 s2 t2 r2 =>
    hr x.1 y.1 S2 H2 u v t2.sub ((f x.1).up s2 r1) r2 (fun c => P (c, y.2)) Q p2 fun c t S3 H3 p3 s3 r3 => n (c, y.2) t S3 H3 p3 ((s1.trans s2).trans s3.s) (t2.step s3) r3⟩
theorem drt_cmp2 {op : CmpOp} {r : R2} {wa : Wp (α × ι)} {wb : ι → Wp (β × ι)} (k : α → β → Bool) (ho : OpR X (compareOp op) r) (ha : KW X B Γ O Z n a f wa) (hb : ∀ m, KW X B Γ O Z m b g (wb m)) (hm : behindInMarks op b = false)
    (hr : ∀ x y S H u v, Same S H → (f x).R S u → (g y).R S v → ∀ (Q : VK), (∀ S' H', Stp S H S' H' → Q (.bl (k x y)) H') → r u v H Q) : KT X B Γ O Z n (.Compare a [op] [b] pos) (W.bind wa fun x => W.bind (wb x.2) fun y => W.ret (k x.1 y.1, y.2)) :=
  fun S H σ st P Q p n => ⟨_, pt_cmpR ho pe_w pe_w hm, ha S H σ st _ _ p fun x u S1 H1 p1 s1 t1 r1 => hb x.2 S1 H1 σ t1 _ _ p1 fun y v S2 H2 p2 s2 t2 r2 =>
    hr x.1 y.1 S2 H2 u v t2.sub ((f x.1).up s2 r1) r2 _ fun S3 H3 s3 => ⟨_, rfl, n (k x.1 y.1, y.2) S3 H3 p2 ((s1.trans s2).trans s3.s) (t2.step s3)⟩⟩
section
variable {wa : Wp (Int × ι)} {wb : ι → Wp (Int × ι)}
theorem dr_add (ha : KW X B Γ O Z n a tI wa) (hb : ∀ m, KW X B Γ O Z m b tI (wb m)) : KW X B Γ O Z n (.BinOp a .Add b pos) tI (W.bind wa fun x => W.bind (wb x.2) fun y => W.ret (x.1 + y.1, y.2)) :=
  dr_op2 (fun x y => W.ret (x + y)) op_add ha hb fun x y S H u v sm h1 h2 P Q p n => ⟨x, y, h1, h2, n _ _ S H p (Stp.refl sm) rfl⟩
end
section
variable {wa : Wp (α × ι)} {wb : ι → Wp (β × ι)}
end
section
variable {wa : Wp (Int × ι)} {wb : ι → Wp (Int × ι)}
theorem drt_gt (ha : KW X B Γ O Z n a tI wa) (hb : ∀ m, KW X B Γ O Z m b tI (wb m)) : KT X B Γ O Z n (.Compare a [.Gt] [b] pos) (W.bind wa fun x => W.bind (wb x.2) fun y => W.ret (decide (y.1 < x.1), y.2)) :=
  drt_cmp2 (fun x y : Int => decide (y < x)) op_gt ha hb (nomark _) fun x y S H u v sm h1 h2 Q k => ⟨x, y, h1, h2, k S H (Stp.refl sm)⟩
end
theorem drc_and1 {w : Wp (Bool × ι)} (h : KT X B Γ O Z n a w) : KTC X B Γ O Z n (.BoolOp .And [a] pos) w := fun S H σ st P Q p n => ⟨_, pw_and1 pt_w, h S H σ st P Q p n⟩
theorem drc_and {w : Wp (Bool × ι)} {w' : ι → Wp (Bool × ι)} (h : KT X B Γ O Z n a w) (h2 : ∀ m, KTC X B Γ O Z m (.BoolOp .And (b :: es) pos) (w' m)) : KTC X B Γ O Z n (.BoolOp .And (a :: b :: es) pos) (W.bind w fun x => W.sel x.1 (w' x.2) (W.ret (false, x.2))) := fun S H σ st P Q p n =>
  ⟨_, pw_and pt_w pw_w, h S H σ st _ _ p fun x S1 H1 p1 s1 t1 => by
    obtain ⟨x, m⟩ := x
    cases x with
    | true => exact iteT (h2 m S1 H1 σ t1 P Q (p1.1 rfl) fun y S2 H2 p2 s2 t2 => n y S2 H2 p2 (s1.trans s2) t2)
    | false => exact iteF (n (false, m) S1 H1 (p1.2 rfl) s1 t1)⟩
theorem KTC.t {w : Wp (Bool × ι)} (h : KTC X B Γ O Z n e w) : KT X B Γ O Z n e w := fun S H σ st P Q p n => let ⟨t, h1, h2⟩ := h S H σ st P Q p n; ⟨t, h1.pt, h2⟩
theorem dra_nil : KA X B Γ O Z n [] [] (fun _ : Unit => []) (W.ret ((), n)) := ⟨(fun _ _ h => by cases h), fun S H σ st P Q p k => ⟨_, pa_nil, k ((), n) [] S H p (Same.refl _) st fun _ _ _ _ _ _ _ _ => trivial⟩⟩
theorem dra_cons {F : β → List AA} {w : Wp (α × ι)} {w' : ι → Wp (β × ι)} (h : KW X B Γ O Z n e f w) (hr : ∀ m, KA X B Γ O Z m N es F (w' m)) (hs : starEach (e :: es) X.env = (false, eval e X.env) :: starEach es X.env := by rfl) : KA X B Γ O Z n N (e :: es) (fun q : α × β => .b (f q.1).b :: F q.2) (W.bind w fun x => W.bind (w' x.2) fun y => W.ret ((x.1, y.1), y.2)) := ⟨(hr n).1, fun S H σ st P Q p n =>
  ⟨_, pa_cons pe_w pa_w hs, h S H σ st _ _ p fun x v S1 H1 p1 s1 t1 r1 => (hr x.2).2 S1 H1 σ t1 _ _ p1 fun y vs S2 H2 p2 s2 t2 r2 => n ((x.1, y.1), y.2) (v :: vs) S2 H2 p2 (s1.trans s2) t2 fun Γ3 O3 S3 H3 σ3 s3 t3 hn => ⟨(f x.1).up (s2.trans s3) r1, r2 _ _ S3 H3 _ s3 t3 hn⟩⟩⟩
theorem dra_consT (i : Nat) {u : V} {x : Str} {F : β → List AA} {w' : Wp (β × ι)} (hr : KA X B Γ O Z n N es F w') (hG : Γ[i]? = some (some (tV u)) := by rfl) (hN : X.N[i]? = some x := by rfl) (hv : Vis X.env.scope x := by first | exact Or.inl rfl | exact Or.inr (Or.inl rfl) | exact Or.inr (Or.inr rfl))
    (hd : (x == ("__debug__" : Str)) = false := by decide) (hcd : (x == ("__classdict__" : Str)) = false := by decide) (hs : starEach (.Name x pos :: es) X.env = (false, eval (.Name x pos) X.env) :: starEach es X.env := by rfl) : KA X B Γ O Z n N (.Name x pos :: es) (fun q : β => .t u :: F q) w' := ⟨hr.1, fun S H σ st P Q p n => by
  obtain ⟨u', h1, h2⟩ := st.slot i _ hG
  have h2' : u' = u := h2
  subst h2'
  exact ⟨_, pa_cons (pe_var hN hv hd hcd) pa_w hs, u', h1, hr.2 S H σ st _ _ p fun y vs S2 H2 p2 s2 t2 r2 => n y (u' :: vs) S2 H2 p2 s2 t2 fun Γ3 O3 S3 H3 σ3 s3 t3 hn => ⟨rfl, r2 _ _ S3 H3 _ s3 t3 hn⟩⟩⟩
theorem dr_tup {k} {F : τ → List MP} {w : Wp (τ × ι)} (h : KA X B Γ O Z n N es (fun t => (F t).map fun R => .b R.b) w) (hz : ∀ t, (F t).length ≤ 1000 := by intro _; exact Nat.le_of_ble_eq_true rfl) : KW X B Γ O Z n (.Tuple es k pos) (fun t => tT X.K (F t)) w := fun S H σ st P Q p n =>
  ⟨_, pe_tup pa_w, h.2 S H σ st P _ p fun t vs S1 H1 p1 s1 t1 r1 => by
    have r := AllA.m (r1 _ _ S1 H1 _ (Same.refl _) t1 (h.1 _))
    refine ⟨by rw [r.length]; exact Nat.le_trans (hz t.1) (by decide), fun q hq => ?_⟩
    have s2 := Stp.put (o := .tup vs) t1.sub hq
    exact n t _ _ _ p1 (s1.trans s2.s) (t1.step s2) ⟨q, vs, rfl, upd_same, r.up s2.s⟩⟩
theorem dr_ix {wa : Wp (List α × ι)} {wb : ι → Wp (Int × ι)} (ha : KQ X B Γ O Z n N a (rQ X.K f) wa) (hb : ∀ m, KW X B Γ O Z m b tI (wb m)) (hs : PlainIx b := by exact fun _ _ => rfl) : KW X B Γ O Z n (.Subscript a b pos) f (W.bind wa fun xs => W.bind (wb xs.2) fun i => W.cn (W.get xs.1 i.1) i.2) := fun S H σ st P Q p n =>
  ⟨_, pe_ix ix_q pe_w pe_w hs, ha.2 S H σ st _ _ p fun xs u S1 H1 p1 s1 t1 r1 => hb xs.2 S1 H1 σ t1 _ _ p1 fun i v S2 H2 p2 s2 t2 r2 => by
    obtain ⟨x, hx, px⟩ := p2
    obtain ⟨q, vs, rfl, h2, h3⟩ := r1 _ _ S2 H2 _ s2 t2 (ha.1 _)
    cases r2
    obtain ⟨y, h4, h5⟩ := atI_get h3 (atI_map (g := fun x => (f x).b) hx)
    exact ⟨q, vs, i.1, y, rfl, rfl, h2, h4, n (x, i.2) y S2 H2 px (s1.trans s2) t2 h5⟩⟩
variable {k : Nat} {ps : List Str} {C : Addr} {As : Dt → List AP} {F : τ → List AA} {w : Wp (τ × ι)}
theorem hdE (tk : Takes X Wx) : Hd X B Γ O1 E0 Wx := ⟨tk, fun _ h => h.elim⟩
section
variable {O : Nat → Om} {n : Nat} {w : Wp (τ × Nat)} {wp : Dt → Wp (ρ × Nat)} {res : ρ × Nat → RP} {Ms : ρ × Nat → List OP}
theorem dr_fnO (i : Nat) {u : V} {f : ρ → MP} (G : GF X.prog X.w X.K X.mg X.base x k ps (spW X.K As wp res Ms)) (hr : Room k X.A) (hd : ∀ m, Hd X B Γ (O m) Z Wx) (d : τ → Nat → Dt) (ha : KA X B Γ O Z n N (e :: es) F w) (hA : ∀ t m, ArgM (F t) (As (d t m)) [(u, oPoolN m)]) (hN : ∀ m, ∀ x ∈ N, x ∈ (O m).eraseIdx i)
    (hO : ∀ m, (O m)[i]? = some (u, oPoolN m) := by intro _; rfl) (hE : ∀ m m', (O m).set i (u, oPoolN m') = O m' := by intro _ _; rfl) (hM : ∀ r, Ms r = [oPoolN r.2] := by intro _; rfl) (hf : ∀ r, res r = .v (f r.1) := by intro _; rfl)
    (hg : Gl X x := by rfl) (hdb : (x == ("__debug__" : Str)) = false := by decide) (he : starEach (e :: es) X.env = (false, eval e X.env) :: starEach es X.env := by rfl) (hpl : (backTo pos (starEach es X.env)).any (·.1) = false := by rfl) : KW X B Γ O Z n (.Call (.Name x p) (e :: es) [] pos) f (W.bind w fun t => wp (d t.1 t.2)) := by
  obtain ⟨g, fd, G, hm, hk, hb⟩ := G
  intro S H σ st P Q pp nn
  refine ⟨_, pe_callSD G hr hg hm hk hb .nil (fun σ => passAt (hd n).tk σ) pa_w hdb he hpl, ha.2 S H σ st _ _ pp fun t vs S1 H1 p1 s1 t1 r1 => ?_⟩
  show spW X.K As wp res Ms (vs ++ []) H1 Q (WE Wx σ)
  rw [List.append_nil]
  refine call_go (hd t.2) (d t.1 t.2) (hA t.1 t.2) (front_perm i (hO t.2)) (hN t.2) t1 r1 p1 fun r v S' H' p2 s2 h => ?_
  rw [hf r, hM r] at h
  exact nn r v S' H' p2 (s1.trans s2) (by have h1 : Stt B Γ ((u, oPoolN r.2) :: (O t.2).eraseIdx i) S' H' σ := h.1; show Stt B Γ (O r.2) _ _ _; rw [← hE t.2 r.2]; exact h1.perm (set_perm i (hO t.2)).symm) h.2
theorem drn_fnO (i : Nat) {u : V} {f : ρ → OP} (G : GF X.prog X.w X.K X.mg X.base x k ps (spW X.K As wp res Ms)) (hr : Room k X.A) (hd : ∀ m, Hd X B Γ (O m) Z Wx) (d : τ → Nat → Dt) (ha : KA X B Γ O Z n N (e :: es) F w) (hA : ∀ t m, ArgM (F t) (As (d t m)) [(u, oPoolN m)]) (hN : ∀ m, ∀ x ∈ N, x ∈ (O m).eraseIdx i)
    (hO : ∀ m, (O m)[i]? = some (u, oPoolN m) := by intro _; rfl) (hE : ∀ m m', (O m).set i (u, oPoolN m') = O m' := by intro _ _; rfl) (hM : ∀ r, Ms r = [oPoolN r.2] := by intro _; rfl) (hf : ∀ r, res r = .o (f r.1) := by intro _; rfl)
    (hg : Gl X x := by rfl) (hdb : (x == ("__debug__" : Str)) = false := by decide) (he : starEach (e :: es) X.env = (false, eval e X.env) :: starEach es X.env := by rfl) (hpl : (backTo pos (starEach es X.env)).any (·.1) = false := by rfl) : KN X B Γ O Z n (.Call (.Name x p) (e :: es) [] pos) f (W.bind w fun t => wp (d t.1 t.2)) := by
  obtain ⟨g, fd, G, hm, hk, hb⟩ := G
  intro S H σ st P Q pp nn
  refine ⟨_, pe_callSD G hr hg hm hk hb .nil (fun σ => passAt (hd n).tk σ) pa_w hdb he hpl, ha.2 S H σ st _ _ pp fun t vs S1 H1 p1 s1 t1 r1 => ?_⟩
  show spW X.K As wp res Ms (vs ++ []) H1 Q (WE Wx σ)
  rw [List.append_nil]
  refine call_go (hd t.2) (d t.1 t.2) (hA t.1 t.2) (front_perm i (hO t.2)) (hN t.2) t1 r1 p1 fun r v S' H' p2 s2 h => ?_
  rw [hf r, hM r] at h
  exact nn r v S' H' p2 (s1.trans s2) (by have h1 : Stt B Γ ((v, f r.1) :: (u, oPoolN r.2) :: (O t.2).eraseIdx i) S' H' σ := h; show Stt B Γ ((v, f r.1) :: O r.2) _ _ _; rw [← hE t.2 r.2]; exact h1.perm ((set_perm i (hO t.2)).symm.cons _)) trivial
end
section
variable {wp : Dt → Wp ρ} {res : ρ → RP} {Ms : ρ → List OP}
theorem dr_fn {f : ρ → MP} (G : GF X.prog X.w X.K X.mg X.base x k ps (spW X.K As wp res Ms)) (hr : Room k X.A) (hd : ∀ m, Hd X B Γ (O m) Z Wx) (d : τ → Dt) (ha : KA X B Γ O Z n N (e :: es) F w) (hA : ∀ t, ArgM (F t) (As (d t)) []) (hf : ∀ r, res r = .v (f r) := by intro _; rfl)
    (hg : Gl X x := by rfl) (hdb : (x == ("__debug__" : Str)) = false := by decide) (he : starEach (e :: es) X.env = (false, eval e X.env) :: starEach es X.env := by rfl) (hpl : (backTo pos (starEach es X.env)).any (·.1) = false := by rfl) : KW X B Γ O Z n (.Call (.Name x p) (e :: es) [] pos) f (W.bind w fun t => W.cn (wp (d t.1)) t.2) := by
  obtain ⟨g, fd, G, hm, hk, hb⟩ := G
  intro S H σ st P Q pp nn
  refine ⟨_, pe_callSD G hr hg hm hk hb .nil (fun σ => passAt (hd n).tk σ) pa_w hdb he hpl, ha.2 S H σ st _ _ pp fun t vs S1 H1 p1 s1 t1 r1 => ?_⟩
  show spW X.K As wp res Ms (vs ++ []) H1 Q (WE Wx σ)
  rw [List.append_nil]
  refine call_go (M := []) (R := O t.2) (hd t.2) (d t.1) (hA t.1) (.refl _) (ha.1 t.2) t1 r1 (P := fun r => P (r, t.2)) p1 fun r v S' H' p2 s2 h => ?_
  rw [hf r] at h
  exact nn (r, t.2) v S' H' p2 (s1.trans s2) h.1 h.2
end
end
end OW
namespace OW
open PySem PySem.Spec PyProof.Rows L2 OT NdefX
section
variable {ι : Type} {X : Cx} {B : Bs} {Γ : Gm} {O : ι → Om} {O1 N N' : Om} {Z : Er → Prop} {n : ι} {e a b c l ix it tg elt : Expr} {ifs : List Expr} {es : List Expr} {p p1 p2 pos pos' apos : Pos} {D : Ends} {rest body els : List Stmt} {α β γ τ ρ Dt : Type} {x nm : Str} {Wx : WX} {f : α → MP} {g : β → MP} {scope : Scope}
theorem dri_range1 {w : Wp (Int × ι)} (hm : X.mg "range" = none) (he : KW X B Γ O Z n a tI w) (hg : Gl X "range" := by rfl) (hs : starEach [a] X.env = [(false, eval a X.env)] := by rfl) : KI X B Γ O Z n [] tg (.Call (.Name "range" p) [a] [] pos) tI (W.bind w fun n => W.grd (RgOk n.1) (rng 0 n.1, n.2)) := ⟨(fun _ _ h => by cases h), fun S H σ st P Rk p k =>
  ⟨_, pi_range1 hg hm (pa_cons pe_w pa_nil hs) hs, he S H σ st _ _ p fun n u S1 H1 p1 s1 t1 r1 => by
    obtain ⟨n, m⟩ := n
    cases r1
    refine ⟨n, rfl, p1.1.1, p1.1.2, k (rng 0 n, m) (Itr 0 n.toNat) .yes S1 H1 p1.2 s1 t1 trivial fun Γ2 O2 S2 H2 σ2 t _ => ?_⟩
    have hl : (rng 0 n).length = n.toNat := by simp [rng]
    refine ⟨Nat.le_of_eq hl.symm, fun i hi => ⟨Nat.lt_of_lt_of_eq hi hl, fun y H3 ⟨e, hy⟩ => ?_⟩⟩
    subst e
    refine ⟨S2, Stp.refl t.sub, ?_⟩
    rw [hy]
    show V.int _ = V.int _
    congr 1
    simp [rng]⟩⟩
theorem s_setP {i : Nat} {x : Str} {w w' : Wp (α × ι)} {q : α × ι → Prop} (he : KW X B Γ O Z n e f w') (h : ∀ a, SW X B (Γ.set i (some (f a.1))) (O a.2) rest D (q a)) (ho : O1 = O n := by rfl) (hw : w' = w := by rfl) (hi : X.N[i]? = some x := by rfl) (hl : i < Γ.length := by exact Nat.le_of_ble_eq_true rfl) (hN : X.N.Nodup := by assumption)
    (hx : Loc X.env.scope x := by first | exact Or.inl rfl | exact Or.inr rfl) (hs : swapsWith e (some (.Name x pos')) pos.line X.env = pure false := by rfl) (hf : X.fn x = true ∨ X.env.scope.names.lookup x = some .local := by first | exact .inl rfl | exact .inr rfl | assumption) :
    SW X B Γ O1 (.Assign [.Name x pos'] e pos :: rest) D (W.run w Z q) :=
  s_cons fun hq S H σ st => ⟨_, ps_set hN hi hx pe_w hs hf, he S H σ (ho ▸ st) q _ (hw ▸ hq) fun a v S1 H1 p1 s1 t1 r1 => h a p1 S1 H1 _ (t1.set r1 hl)⟩
theorem s_parP {i j : Nat} {x y : Str} {w w' : Wp ((α × β) × ι)} {wa : Wp (α × ι)} {wb : ι → Wp (β × ι)} {q : (α × β) × ι → Prop} {px py pt : Pos} {kt k2 pt2} (ha : KW X B Γ O Z n a f wa) (hb : ∀ m, KW X B Γ O Z m b g (wb m)) (h : ∀ t : (α × β) × ι, SW X B ((Γ.set i (some (f t.1.1))).set j (some (g t.1.2))) (O t.2) rest D (q t)) (ho : O1 = O n := by rfl) (hw : (W.bind wa fun x => W.bind (wb x.2) fun y => W.ret ((x.1, y.1), y.2)) = w := by rfl)
    (hi : X.N[i]? = some x := by rfl) (hj : X.N[j]? = some y := by rfl) (hl : i < Γ.length := by exact Nat.le_of_ble_eq_true rfl) (hl2 : j < Γ.length := by exact Nat.le_of_ble_eq_true rfl) (hij : i ≠ j := by decide) (hN : X.N.Nodup := by assumption) (hc : X.calm = true := by rfl)
    (hx : X.env.scope.names.lookup x = some .local := by rfl) (hy : X.env.scope.names.lookup y = some .local := by rfl) (hs1 : starEach [a, b] X.env = (false, eval a X.env) :: starEach [b] X.env := by rfl) (hs2 : starEach [b] X.env = (false, eval b X.env) :: starEach [] X.env := by rfl)
    (hsw : swappedStores [.Tuple [.Name x px, .Name y py] kt pt] (.Tuple [a, b] k2 pt2) X.env = pure (some [x, y]) := by rfl)
    (hs : swapsWithSole [.Tuple [.Name x px, .Name y py] kt pt] (.Tuple [a, b] k2 pt2) pos.line X.env = pure false := by rfl) : SW X B Γ O1 (.Assign [.Tuple [.Name x px, .Name y py] kt pt] (.Tuple [a, b] k2 pt2) pos :: rest) D (W.run w Z q) :=
  s_cons fun hq S H σ st => ⟨_, ps_par hc hN hi hj hij hx hy (pa_cons pe_w (pa_cons pe_w pa_nil hs2) hs1) hsw hs, ha S H σ (ho ▸ st) _ _ (by rw [← hw] at hq; exact hq) fun u v S1 H1 p1 s1 t1 r1 => hb u.2 S1 H1 σ t1 _ _ p1 fun u2 v2 S2 H2 p2 s2 t2 r2 => ⟨v, v2, rfl, h ((u.1, u2.1), u2.2) p2 S2 H2 _ ((t2.set ((f u.1).up s2 r1) hl).set r2 (by rw [List.length_set]; exact hl2))⟩⟩
theorem s_forP {tg it : Expr} (Gs : τ → Gm) (Os : τ → Om) (s0 : ι → τ) {w w' : Wp (List α × ι)} {bd : α → τ → (τ → Prop) → Prop} {k : τ → Prop} (hi : KI X B Γ O Z n N tg it f w') (Γ' : α → τ → Gm) (js : List Nat)
    (hg : ∀ (G : Gho) x s, GJ X (B.add G) (Os s) tg (f x) (Gs s) (Γ' x s) js) (hb : ∀ (G : Gho) x s kn, SW X (B.add G) (Γ' x s) (Os s) body { D with nx := At (B.add G) Gs Os kn, ct := At (B.add G) Gs Os kn, bk := wB X rest D } (bd x s kn)) (hd : ∀ s, SW X B (Gs s) (Os s) rest D (k s)) (hp : PassesOwn (model X.prog X.w) X.A X.env X.xe) (hneed : ∀ s, ∀ q ∈ N, q ∈ Os s := by intro _ _ h; cases h)
    (hw : w' = w := by rfl) (hc : X.calm = true := by rfl) (gl : ∀ m, Gle (Gs (s0 m)) Γ := by intro _; exact Gle.rfl') (ho : O1 = O n := by rfl) (hos : ∀ m, O m = Os (s0 m) := by intro _; rfl)
    (hs : ∀ x, foldedSetIterable it X.env x = pure x := by intro _; rfl) : SW X B Γ O1 (.For tg it body [] pos :: rest) D (W.run w Z fun xs => W.loop bd k xs.1 (s0 xs.2)) :=
  s_cons fun hq S H σ st => ⟨_, ps_for hp hc pi_w pg_w pb_w hs, hi.2 S H σ (ho ▸ st) _ _ (hw ▸ hq) fun xs J G S1 H1 p1 s1 t1 g1 hJ => by
    obtain ⟨xs, m0⟩ := xs
    refine ⟨fun i m σ H => m = xs.length - i ∧ i ≤ xs.length ∧ At (B.add G) Gs Os (fun s => W.loop bd k (xs.drop i) s) σ H, ⟨xs.length, by simp, Nat.zero_le _, s0 m0, S1, p1, by rw [← hos]; exact (t1.ghost g1).forget (gl m0)⟩, ?_⟩
    rintro i m σ2 H2 ⟨rfl, hin, s, S2, hP, t⟩
    obtain ⟨j1, j2⟩ := hJ _ _ _ _ _ t (hneed s)
    by_cases hlt : i < xs.length
    · obtain ⟨go, yl⟩ := j2 i hlt
      rw [List.drop_eq_getElem_cons hlt] at hP
      refine .inr ⟨go, At (B.add G) Gs Os (fun s => W.loop bd k (xs.drop (i + 1)) s), fun σ' H' p => ⟨xs.length - (i + 1), by omega, rfl, hlt, p⟩, fun y H3 hy => ?_⟩
      obtain ⟨S3, s3, r3⟩ := yl y H3 hy
      exact hg G xs[i] s S3 H3 σ2 y (t.step s3) r3 _ fun σ' t' _ => hb G xs[i] s _ hP S3 H3 σ' t'
    · have e : i = xs.length := by omega
      subst e
      rw [List.drop_length] at hP
      exact .inl ⟨j1, hd s hP S2 H2 σ2 t.plain⟩⟩
def KIf (X : Cx) (B : Bs) (Γ : Gm) (O : ι → Om) (Z : Er → Prop) (n : ι) (ifs : List Expr) (w : Wp (Bool × ι)) : Prop := ∀ S H σ, Stt B Γ (O n) S H σ → ∀ (P : Bool × ι → Prop) (Q : Bool → Hp → Prop), w P Z → (∀ b S' H', P b → Same S S' → Stt B Γ (O b.2) S' H' σ → Q b.1 H') → ∃ t, PTs X ifs t ∧ t σ H Q
def W.compN {ι α β : Type} (c : α → ι → Wp (Bool × ι)) (g : α → ι → Wp (β × ι)) : List α → ι → Wp (List β × ι)
  | [], n, Q, _ => Q ([], n)
  | x :: xs, n, Q, E => c x n (fun t => W.ite t.1 (g x t.2 (fun y => W.compN c g xs y.2 (fun ys => Q (y.1 :: ys.1, ys.2)) E) E) (W.compN c g xs t.2 Q E)) E
def W.compD {ι α β : Type} (c : α → ι → Wp (Bool × ι)) (g : α → ι → Wp (β × ι)) (xs : List α) (n : ι) : Wp (List β × ι) := fun Q _ => xs.length ≤ 100000 ∧ W.compN c g xs n Q E0
end
end OW
namespace OW
open PySem PySem.Spec PyProof.Rows L2 OT NdefX
section
variable {X : Cx} {B : Bs} {Γ : Gm} {O : Nat → Om} {O1 N N' : Om} {Z : Er → Prop} {n : Nat} {e a b c l ix it tg elt : Expr} {ifs : List Expr} {es : List Expr} {p p1 p2 pos pos' apos : Pos} {D : Ends} {rest body els : List Stmt} {α β γ τ ρ Dt : Type} {x nm : Str} {Wx : WX} {f : α → MP} {g : β → MP} {F : α → OP}
theorem s_appendP {i : Nat} {u : V} {xs : List α} {w w' : Wp (α × Nat)} {q : α × Nat → Prop} (he : KN X B Γ (fun m => (u, oL (xs.map F)) :: O m) Z n e F w') (h : ∀ a, SW X B Γ ((u, oL ((xs ++ [a.1]).map F)) :: O a.2) rest D (q a)) (ho : O1 = (u, oL (xs.map F)) :: O n := by rfl) (hw : (W.bind w' fun a => W.grd (xs.length < 100000) a) = w := by rfl)
    (hG : Γ[i]? = some (some (tV u)) := by rfl) (hN : X.N[i]? = some nm := by rfl)
    (hv : Vis X.env.scope nm := by first | exact Or.inl rfl | exact Or.inr (Or.inl rfl) | exact Or.inr (Or.inr rfl)) (hd : (nm == ("__debug__" : Str)) = false := by decide) (hcd : (nm == ("__classdict__" : Str)) = false := by decide)
    (hbase : attributeBase (.Name nm p1) "append" X.env (eval (.Name nm p1) X.env) = eval (.Name nm p1) X.env := by rfl)
    (hfew : ((backTo pos (starEach [e] X.env)).all (fun x => !x.1) && (backToKw pos (keywordEach [] X.env)).all (fun x => x.1.isSome)
      && decide ([e].length + ([] : List Keyword).length + (if ([] : List Keyword).isEmpty then 0 else 1) < 30)) = true := by rfl)
    (hline : (apos.endLine == pos.line) = true := by rfl) (hs : starEach [e] X.env = (false, eval e X.env) :: starEach [] X.env := by rfl) (hplain : (backTo pos (starEach [] X.env)).any (·.1) = false := by rfl)
    (hsw : swapsWith (.Call (.Attribute (.Name nm p1) "append" apos) [e] [] pos) none pos'.line X.env = pure false := by rfl) : SW X B Γ O1 (.Expr (.Call (.Attribute (.Name nm p1) "append" apos) [e] [] pos) pos' :: rest) D (W.run w Z q) :=
  s_cons fun hq S H σ st => ⟨_, ps_expr (pe_bm PySem.F.plainAttrs_list PySem.F.slot_list_append PySem.F.type_list_append mt_append (pe_var hN hv hd hcd) (pa_cons pe_w pa_nil hs) hbase hfew hline hs hplain) hsw, by
    subst ho
    obtain ⟨v, h1, h2⟩ := st.slot i _ hG
    have h2' : v = u := h2
    subst h2'
    obtain ⟨A, y, vs, A', e1, e2, e3, e4⟩ := st.at_ (x := (v, oL (xs.map F))) List.mem_cons_self
    have e1' : v = .ref y := e1
    subst e1'
    refine ⟨_, h1, .inl ⟨rfl, vs, .inl (.inl e3)⟩, he S H σ st _ _ (by rw [← hw] at hq; exact hq) fun a w S1 H1 p1 s1 t1 _ => ?_⟩
    obtain ⟨A, y', vs, A', e1, e2, e3, e4⟩ := t1.at_ (x := (.ref y, oL (xs.map F))) (List.mem_cons_of_mem _ List.mem_cons_self)
    cases e1
    have t2 := t1.push e3
    refine ⟨y, vs, w, rfl, rfl, e3, ?_, h a p1.2 S1 _ σ ?_⟩
    · rw [e4.length, List.length_map]
      exact Nat.lt_trans p1.1 (by decide)
    · rw [List.map_append]
      exact t2⟩
end
end OW
namespace OW
open PySem PySem.Spec PyProof.Rows L2 OT NdefX
section
variable {X : Cx} {B : Bs} {Γ : Gm} {O N : Om} {Z : Er → Prop} {e a b : Expr} {p p1 pos pos' apos : Pos} {α β : Type} {nm : Str} {f : α → MP}
abbrev W.toInt (a : Str) : Wp Int := fun Q _ => ∃ n, PySem.intText? a = some n ∧ a.length ≤ 640 ∧ Q n
theorem w_max2 {wa wb : Wp Int} (hm : X.mg "max" = none) (ha : EW X B Γ O Z a tI wa) (hb : EW X B Γ O Z b tI wb) (hc : X.calm = true := by rfl) (hg : Gl X "max" := by rfl) (hs1 : starEach [a, b] X.env = (false, eval a X.env) :: starEach [b] X.env := by rfl) (hs2 : starEach [b] X.env = (false, eval b X.env) :: starEach [] X.env := by rfl) (hpl : (backTo pos (starEach [b] X.env)).any (·.1) = false := by rfl) :
    EW X B Γ O Z (.Call (.Name "max" p) [a, b] [] pos) tI (W.bind wa fun x => W.bind wb fun y => W.ret (if y > x then y else x)) := fun S H σ st P Q q n =>
  ⟨_, pe_callB (call_max2 hc) hg hm (by decide +kernel) (pa_cons pe_w (pa_cons pe_w pa_nil hs2) hs1) (by decide) (by decide) hs1 hpl, ha S H σ st _ _ q fun x u S1 H1 p1 s1 t1 r1 => hb S1 H1 σ t1 _ _ p1 fun y v S2 H2 p2 s2 t2 r2 => by
    cases r1; cases r2
    exact ⟨x, y, rfl, n _ _ S2 H2 p2 (s1.trans s2) t2 rfl⟩⟩
theorem w_min2 {wa wb : Wp Int} (hm : X.mg "min" = none) (ha : EW X B Γ O Z a tI wa) (hb : EW X B Γ O Z b tI wb) (hc : X.calm = true := by rfl) (hg : Gl X "min" := by rfl) (hs1 : starEach [a, b] X.env = (false, eval a X.env) :: starEach [b] X.env := by rfl) (hs2 : starEach [b] X.env = (false, eval b X.env) :: starEach [] X.env := by rfl) (hpl : (backTo pos (starEach [b] X.env)).any (·.1) = false := by rfl) :
    EW X B Γ O Z (.Call (.Name "min" p) [a, b] [] pos) tI (W.bind wa fun x => W.bind wb fun y => W.ret (if y < x then y else x)) := fun S H σ st P Q q n =>
  ⟨_, pe_callB (call_min2 hc) hg hm (by decide +kernel) (pa_cons pe_w (pa_cons pe_w pa_nil hs2) hs1) (by decide) (by decide) hs1 hpl, ha S H σ st _ _ q fun x u S1 H1 p1 s1 t1 r1 => hb S1 H1 σ t1 _ _ p1 fun y v S2 H2 p2 s2 t2 r2 => by
    cases r1; cases r2
    exact ⟨x, y, rfl, n _ _ S2 H2 p2 (s1.trans s2) t2 rfl⟩⟩
end
end OW
namespace OW
open PySem PySem.Spec PyProof.Rows L2 OT NdefX
inductive Dz where
  | n
  | b (x : Bool)
  | i (x : Int)
  | s (x : Str)
  | t (xs : List Dz)
  | l (xs : List Dz)
  | d (xs : List (Str × Dz))
mutual
def tDz (K : PySem.W.Frag) : Dz → MP
  | .n => tN
  | .b x => OT.tB x
  | .i x => tI x
  | .s x => tS x
  | .t xs => tT K (tDzs K xs)
  | .l xs => tL K (tDzs K xs)
  | .d xs => tD (tDzd K xs)
def tDzs (K : PySem.W.Frag) : List Dz → List MP
  | [] => []
  | x :: xs => tDz K x :: tDzs K xs
def tDzd (K : PySem.W.Frag) : List (Str × Dz) → List (Key × MP)
  | [] => []
  | (k, x) :: xs => (kS k, tDz K x) :: tDzd K xs
end
mutual
def Dz.dep : Dz → Nat
  | .t xs => Dz.deps xs + 1
  | .l xs => Dz.deps xs + 1
  | .d xs => Dz.depd xs + 1
  | _ => 0
def Dz.deps : List Dz → Nat
  | [] => 0
  | x :: xs => max x.dep (Dz.deps xs)
def Dz.depd : List (Str × Dz) → Nat
  | [] => 0
  | (_, x) :: xs => max x.dep (Dz.depd xs)
end
def Dz.flat : Dz → Option V
  | .n => some .non
  | .b x => some (.bl x)
  | .i x => some (.int x)
  | .s x => some (.str x)
  | _ => none
def oand (a b : Option Bool) : Option Bool := match a, b with
  | some x, some y => some (x && y)
  | _, _ => none
mutual
def Dz.cmp : Dz → Dz → Option Bool
  | .t xs, .t ys => Dz.cmps xs ys
  | .l xs, .l ys => if xs.length = ys.length then Dz.cmps xs ys else some false
  | .d xs, .d ys => if (xs.map (·.1)).Nodup then oand (some (decide (xs.length = ys.length))) (Dz.cmpd xs ys) else none
  | .n, .t _ => some false
  | .t _, .n => some false
  | x, y => match x.flat, y.flat with
    | some u, some v => some (eqV u v)
    | _, _ => none
def Dz.cmps : List Dz → List Dz → Option Bool
  | [], [] => some true
  | [], _ :: _ => some false
  | _ :: _, [] => some false
  | x :: xs, y :: ys => oand (Dz.cmp x y) (Dz.cmps xs ys)
def Dz.cmpd : List (Str × Dz) → List (Str × Dz) → Option Bool
  | [], _ => some true
  | (k, x) :: xs, ys => oand (match dget ys k with | some y => Dz.cmp x y | none => some false) (Dz.cmpd xs ys)
end
theorem tDzs_map (K : PySem.W.Frag) : ∀ xs : List Dz, tDzs K xs = xs.map (tDz K)
  | [] => by rw [tDzs]; rfl
  | x :: xs => by rw [tDzs, tDzs_map K xs]; rfl
theorem tDzd_map (K : PySem.W.Frag) : ∀ xs : List (Str × Dz), tDzd K xs = xs.map fun q => (kS q.1, tDz K q.2)
  | [] => by rw [tDzd]; rfl
  | (k, x) :: xs => by rw [tDzd, tDzd_map K xs]; rfl
theorem oand_some {a b : Option Bool} {r : Bool} (h : oand a b = some r) : ∃ x y, a = some x ∧ b = some y ∧ r = (x && y) := by
  cases a with
  | none => cases h
  | some x => cases b with
    | none => cases h
    | some y => exact ⟨x, y, rfl, rfl, (Option.some.inj h).symm⟩
theorem flat_V {K : PySem.W.Frag} {x : Dz} {v : V} (h : x.flat = some v) : flatV v = true ∧ ∀ S u, (tDz K x).R S u → u = v := by
  cases x with
  | n => cases h; exact ⟨rfl, fun S u r => by rw [tDz] at r; exact r⟩
  | b x => cases h; exact ⟨rfl, fun S u r => by rw [tDz] at r; exact r⟩
  | i x => cases h; exact ⟨rfl, fun S u r => by rw [tDz] at r; exact r⟩
  | s x => cases h; exact ⟨rfl, fun S u r => by rw [tDz] at r; exact r⟩
  | t xs => cases h
  | l xs => cases h
  | d xs => cases h
mutual
theorem dz_inj {K : PySem.W.Frag} : ∀ (x y : Dz) S v, (tDz K x).R S v → (tDz K y).R S v → x = y
  | .n, y, S, v, h1, h2 => by
    rw [tDz] at h1
    have e : v = .non := h1
    subst e
    cases y with
    | n => rfl
    | b y => rw [tDz] at h2; cases (show V.non = .bl y from h2)
    | i y => rw [tDz] at h2; cases (show V.non = .int y from h2)
    | s y => rw [tDz] at h2; cases (show V.non = .str y from h2)
    | t ys => rw [tDz] at h2; obtain ⟨a, vs, e, _⟩ := h2; cases e
    | l ys => rw [tDz] at h2; obtain ⟨a, vs, e, _⟩ := h2; cases e
    | d ys => rw [tDz] at h2; obtain ⟨a, o, vs, e, _⟩ := h2; cases e
  | .b x, y, S, v, h1, h2 => by
    rw [tDz] at h1
    have e : v = .bl x := h1
    subst e
    cases y with
    | n => rw [tDz] at h2; cases (show V.bl x = .non from h2)
    | b y => rw [tDz] at h2; cases (show V.bl x = .bl y from h2); rfl
    | i y => rw [tDz] at h2; cases (show V.bl x = .int y from h2)
    | s y => rw [tDz] at h2; cases (show V.bl x = .str y from h2)
    | t ys => rw [tDz] at h2; obtain ⟨a, vs, e, _⟩ := h2; cases e
    | l ys => rw [tDz] at h2; obtain ⟨a, vs, e, _⟩ := h2; cases e
    | d ys => rw [tDz] at h2; obtain ⟨a, o, vs, e, _⟩ := h2; cases e
  | .i x, y, S, v, h1, h2 => by
    rw [tDz] at h1
    have e : v = .int x := h1
    subst e
    cases y with
    | n => rw [tDz] at h2; cases (show V.int x = .non from h2)
    | b y => rw [tDz] at h2; cases (show V.int x = .bl y from h2)
    | i y => rw [tDz] at h2; cases (show V.int x = .int y from h2); rfl
    | s y => rw [tDz] at h2; cases (show V.int x = .str y from h2)
    | t ys => rw [tDz] at h2; obtain ⟨a, vs, e, _⟩ := h2; cases e
    | l ys => rw [tDz] at h2; obtain ⟨a, vs, e, _⟩ := h2; cases e
    | d ys => rw [tDz] at h2; obtain ⟨a, o, vs, e, _⟩ := h2; cases e
  | .s x, y, S, v, h1, h2 => by
    rw [tDz] at h1
    have e : v = .str x := h1
    subst e
    cases y with
    | n => rw [tDz] at h2; cases (show V.str x = .non from h2)
    | b y => rw [tDz] at h2; cases (show V.str x = .bl y from h2)
    | i y => rw [tDz] at h2; cases (show V.str x = .int y from h2)
    | s y => rw [tDz] at h2; cases (show V.str x = .str y from h2); rfl
    | t ys => rw [tDz] at h2; obtain ⟨a, vs, e, _⟩ := h2; cases e
    | l ys => rw [tDz] at h2; obtain ⟨a, vs, e, _⟩ := h2; cases e
    | d ys => rw [tDz] at h2; obtain ⟨a, o, vs, e, _⟩ := h2; cases e
  | .t xs, y, S, v, h1, h2 => by
    rw [tDz] at h1
    obtain ⟨a, vs, e, k1, k2⟩ := h1
    subst e
    cases y with
    | n => rw [tDz] at h2; cases (show V.ref a = .non from h2)
    | b y => rw [tDz] at h2; cases (show V.ref a = .bl y from h2)
    | i y => rw [tDz] at h2; cases (show V.ref a = .int y from h2)
    | s y => rw [tDz] at h2; cases (show V.ref a = .str y from h2)
    | t ys =>
      rw [tDz] at h2
      obtain ⟨c, ws, e, g1, g2⟩ := h2
      cases e
      rw [k1] at g1
      cases g1
      rw [dzs_inj xs ys S vs k2 g2]
    | l ys => rw [tDz] at h2; obtain ⟨c, ws, e, g1, _⟩ := h2; cases e; rw [k1] at g1; cases g1
    | d ys => rw [tDz] at h2; obtain ⟨c, o, ws, e, g1, _⟩ := h2; cases e; rw [k1] at g1; cases g1
  | .l xs, y, S, v, h1, h2 => by
    rw [tDz] at h1
    obtain ⟨a, vs, e, k1, k2⟩ := h1
    subst e
    cases y with
    | n => rw [tDz] at h2; cases (show V.ref a = .non from h2)
    | b y => rw [tDz] at h2; cases (show V.ref a = .bl y from h2)
    | i y => rw [tDz] at h2; cases (show V.ref a = .int y from h2)
    | s y => rw [tDz] at h2; cases (show V.ref a = .str y from h2)
    | l ys =>
      rw [tDz] at h2
      obtain ⟨c, ws, e, g1, g2⟩ := h2
      cases e
      rw [k1] at g1
      cases g1
      rw [dzs_inj xs ys S vs k2 g2]
    | t ys => rw [tDz] at h2; obtain ⟨c, ws, e, g1, _⟩ := h2; cases e; rw [k1] at g1; cases g1
    | d ys => rw [tDz] at h2; obtain ⟨c, o, ws, e, g1, _⟩ := h2; cases e; rw [k1] at g1; cases g1
  | .d xs, y, S, v, h1, h2 => by
    rw [tDz] at h1
    obtain ⟨a, o, vs, e, k1, k2⟩ := h1
    subst e
    cases y with
    | n => rw [tDz] at h2; cases (show V.ref a = .non from h2)
    | b y => rw [tDz] at h2; cases (show V.ref a = .bl y from h2)
    | i y => rw [tDz] at h2; cases (show V.ref a = .int y from h2)
    | s y => rw [tDz] at h2; cases (show V.ref a = .str y from h2)
    | d ys =>
      rw [tDz] at h2
      obtain ⟨c, o2, ws, e, g1, g2⟩ := h2
      cases e
      rw [k1] at g1
      cases g1
      rw [dzd_inj xs ys S vs k2 g2]
    | t ys => rw [tDz] at h2; obtain ⟨c, ws, e, g1, _⟩ := h2; cases e; rw [k1] at g1; cases g1
    | l ys => rw [tDz] at h2; obtain ⟨c, ws, e, g1, _⟩ := h2; cases e; rw [k1] at g1; cases g1
theorem dzs_inj {K : PySem.W.Frag} : ∀ (xs ys : List Dz) S vs, AllM (tDzs K xs) S vs → AllM (tDzs K ys) S vs → xs = ys
  | [], [], _, _, _, _ => rfl
  | [], y :: ys, S, vs, h1, h2 => by
    simp only [tDzs] at h1 h2
    have := h1.length.symm.trans h2.length
    cases this
  | x :: xs, [], S, vs, h1, h2 => by
    simp only [tDzs] at h1 h2
    have := h1.length.symm.trans h2.length
    cases this
  | x :: xs, y :: ys, S, vs, h1, h2 => by
    simp only [tDzs] at h1 h2
    match vs, h1, h2 with
    | v :: vs, h1, h2 => rw [dz_inj x y S v h1.1 h2.1, dzs_inj xs ys S vs h1.2 h2.2]
theorem dzd_inj {K : PySem.W.Frag} : ∀ (xs ys : List (Str × Dz)) S vs, KvM (tDzd K xs) S vs → KvM (tDzd K ys) S vs → xs = ys
  | [], [], _, _, _, _ => rfl
  | [], (_, _) :: ys, S, vs, h1, h2 => by
    simp only [tDzd] at h1 h2
    cases vs with
    | nil => exact h2.elim
    | cons _ _ => exact h1.elim
  | (_, _) :: xs, [], S, vs, h1, h2 => by
    simp only [tDzd] at h1 h2
    cases vs with
    | nil => exact h1.elim
    | cons _ _ => exact h2.elim
  | (k, x) :: xs, (j, y) :: ys, S, vs, h1, h2 => by
    simp only [tDzd] at h1 h2
    match vs, h1, h2 with
    | (q, v) :: vs, h1, h2 =>
      have e1 : kS k = q := h1.1
      have e2 : kS j = q := h2.1
      have e3 : k = j := Sum.inr.inj (e1.trans e2.symm)
      rw [e3, dz_inj x y S v h1.2.1 h2.2.1, dzd_inj xs ys S vs h1.2.2 h2.2.2]
end
theorem dgz_mem {α : Type} {xs : List (Str × α)} {p : Str × α} (nd : (xs.map (·.1)).Nodup) (h : p ∈ xs) : dget xs p.1 = some p.2 := by
  induction xs with
  | nil => cases h
  | cons a xs ih =>
    obtain ⟨n1, n2⟩ := List.nodup_cons.mp nd
    rcases List.mem_cons.mp h with z | z
    · subst z
      simp [dget, List.find?_cons]
    · have ne : a.1 ≠ p.1 := fun e => n1 (List.mem_map.mpr ⟨p, z, e.symm⟩)
      have := ih n2 z
      simpa [dget, List.find?_cons, ne] using this
theorem KvM.lookz {α : Type} {f : α → MP} {S : Hp} {k : Str} : ∀ {xs : List (Str × α)} {vs : List (Key × V)}, KvM (xs.map fun q => (kS q.1, f q.2)) S vs → (∀ x, dget xs k = some x → ∃ v, valV vs (kS k) = some v ∧ (f x).R S v) ∧ (dget xs k = none → valV vs (kS k) = none)
  | [], [], _ => ⟨(fun x h => by cases h), fun _ => rfl⟩
  | [], _ :: _, h => h.elim
  | _ :: _, [], h => h.elim
  | (j, y) :: xs, (j', w) :: vs, h => by
    obtain ⟨e, h1, h2⟩ := h
    have e' : kS j = j' := e
    subst e'
    obtain ⟨i1, i2⟩ := KvM.lookz (k := k) h2
    by_cases q : j = k
    · subst q
      refine ⟨fun x hx => ⟨w, valV_pos rfl, ?_⟩, fun hx => ?_⟩
      · have : y = x := by simpa [dget, List.find?_cons] using hx
        exact this ▸ h1
      · simp [dget, List.find?_cons] at hx
    · have d : dget ((j, y) :: xs) k = dget xs k := by simp [dget, List.find?_cons, q]
      have v : valV ((kS j, w) :: vs) (kS k) = valV vs (kS k) := valV_neg (fun z => q (Sum.inr.inj z))
      rw [d, v]
      exact ⟨i1, i2⟩
section
variable {X : Cx} {n : Nat}
theorem KvM.keys {K : PySem.W.Frag} {S : Hp} : ∀ {xs : List (Str × Dz)} {vs : List (Key × V)}, KvM (tDzd K xs) S vs → vs.map (·.1) = xs.map fun q => kS q.1
  | [], [], _ => rfl
  | [], _ :: _, h => by rw [tDzd] at h; exact h.elim
  | (_, _) :: _, [], h => by rw [tDzd] at h; exact h.elim
  | (k, x) :: xs, w :: vs, h => by
    rw [tDzd] at h
    rw [List.map_cons, List.map_cons, KvM.keys h.2.2, ← h.1]
def geti (e : List Bool) (i : Nat) : Bool := (e[i]?).getD true
theorem all_geti : ∀ (e : List Bool), (List.range e.length).all (geti e) = e.all id := fun e => by
  rw [Bool.eq_iff_iff, List.all_eq_true, List.all_eq_true]
  constructor
  · intro h b hb
    obtain ⟨i, hi, rfl⟩ := List.getElem_of_mem hb
    have := h i (List.mem_range.mpr hi)
    unfold geti at this
    rwa [List.getElem?_eq_getElem hi] at this
  · intro h i hi
    have hi := List.mem_range.mp hi
    unfold geti
    rw [List.getElem?_eq_getElem hi]
    exact h _ (List.getElem_mem hi)

theorem eqV_self {v : V} (h : flatV v = true) : eqV v v = true := by
  cases v <;> first | rfl | (simp [eqV]; done) | (cases h)
mutual
theorem dz_refl : ∀ (x : Dz) (r : Bool), Dz.cmp x x = some r → r = true
  | .n, r, h => by have : some (eqV .non .non) = some r := by simpa [Dz.cmp, Dz.flat] using h
                   cases this; rfl
  | .b x, r, h => by have : some (eqV (.bl x) (.bl x)) = some r := by simpa [Dz.cmp, Dz.flat] using h
                     cases this; exact eqV_self rfl
  | .i x, r, h => by have : some (eqV (.int x) (.int x)) = some r := by simpa [Dz.cmp, Dz.flat] using h
                     cases this; exact eqV_self rfl
  | .s x, r, h => by have : some (eqV (.str x) (.str x)) = some r := by simpa [Dz.cmp, Dz.flat] using h
                     cases this; exact eqV_self rfl
  | .t xs, r, h => by rw [Dz.cmp] at h; exact dzs_refl xs r h
  | .l xs, r, h => by rw [Dz.cmp, if_pos rfl] at h; exact dzs_refl xs r h
  | .d xs, r, h => by
    rw [Dz.cmp] at h
    by_cases nd : (xs.map (·.1)).Nodup
    · rw [if_pos nd] at h
      obtain ⟨x0, r0, q1, q2, q3⟩ := oand_some h
      cases q1
      rw [q3, decide_eq_true rfl, Bool.true_and]
      exact dzd_refl xs xs r0 q2 fun q hq => dgz_mem nd hq
    · rw [if_neg nd] at h; cases h
theorem dzs_refl : ∀ (xs : List Dz) (r : Bool), Dz.cmps xs xs = some r → r = true
  | [], r, h => by rw [Dz.cmps] at h; cases h; rfl
  | x :: xs, r, h => by
    rw [Dz.cmps] at h
    obtain ⟨a, b, h1, h2, h3⟩ := oand_some h
    rw [h3, dz_refl x a h1, dzs_refl xs b h2]
    rfl
theorem dzd_refl : ∀ (xs ys : List (Str × Dz)) (r : Bool), Dz.cmpd xs ys = some r → (∀ q ∈ xs, dget ys q.1 = some q.2) → r = true
  | [], ys, r, h, _ => by rw [Dz.cmpd] at h; cases h; rfl
  | (k, x) :: xs, ys, r, h, hd => by
    rw [Dz.cmpd] at h
    obtain ⟨a, b, h1, h2, h3⟩ := oand_some h
    have e := hd (k, x) List.mem_cons_self
    have e : dget ys k = some x := e
    rw [e] at h1
    have h1 : Dz.cmp x x = some a := h1
    rw [h3, dz_refl x a h1, dzd_refl xs ys b h2 fun q hq => hd q (List.mem_cons_of_mem _ hq)]
    rfl
end
theorem flat_cmp {x y : Dz} {ux uy : V} {r : Bool} {n : Nat} {S H : Hp} {u v : V} (hx : x.flat = some ux) (hy : y.flat = some uy) (hc : some (eqV ux uy) = some r) (h1 : (tDz X.K x).R S u) (h2 : (tDz X.K y).R S v) : EqN X n u v r H := by
  obtain ⟨f1, g1⟩ := flat_V (K := X.K) hx
  obtain ⟨f2, g2⟩ := flat_V (K := X.K) hy
  cases hc
  rw [g1 S u h1, g2 S v h2]
  exact (EqN.flat f1 f2).mono (Nat.zero_le _)
theorem tup_non {q : Addr} {vs : List V} {S H : Hp} {n : Nat} (sm : Same S H) (hq : S q = some (.tup vs)) : EqN X n (.ref q) .non false H := by
  intro A pins s σ H0 u' v' e sb I rx ry
  cases rx
  cases ry
  obtain ⟨its, rv, hl, _⟩ := I.tuple (SqT.of (e _ _ (sm _ _ hq)))
  exact SeqAt.EqAt.tuple_none (A := A) (s := s) hl (by have := sb.room.un; omega) X.prog X.w X.xe _ ⟨rfl, H0, I, Ext.rfl'⟩
theorem non_tup {q : Addr} {vs : List V} {S H : Hp} {n : Nat} (sm : Same S H) (hq : S q = some (.tup vs)) : EqN X n .non (.ref q) false H := by
  intro A pins s σ H0 u' v' e sb I rx ry
  cases rx
  cases ry
  obtain ⟨its, rv, hl, _⟩ := I.tuple (SqT.of (e _ _ (sm _ _ hq)))
  exact SeqAt.EqAt.none_tuple (A := A) (s := s) hl (by have := sb.room.un; omega) X.prog X.w X.xe _ ⟨rfl, H0, I, Ext.rfl'⟩
mutual
theorem dz_cmp : ∀ (x y : Dz) {n : Nat} {r : Bool}, x.dep ≤ n → Dz.cmp x y = some r → ∀ S H u v, Same S H → (tDz X.K x).R S u → (tDz X.K y).R S v → EqN X n u v r H
  | .t xs, .t ys, n, r, hn, hc, S, H, u, v, sm, h1, h2 => by
    have hs : ∀ a, u = .ref a → v = .ref a → r = true := fun a e1 e2 => by
      subst e1 e2
      rw [dz_inj _ _ S _ h1 h2] at hc
      exact dz_refl _ r hc
    simp only [tDz] at h1 h2
    obtain ⟨a, vs, e1, h1, h3⟩ := h1
    obtain ⟨c, ws, e2, g1, g3⟩ := h2
    subst e1 e2
    rw [Dz.dep] at hn
    rw [Dz.cmp] at hc
    obtain ⟨m, rfl⟩ : ∃ m, n = m + 1 := ⟨n - 1, by omega⟩
    obtain ⟨e, k1, k2, k3⟩ := dzs_cmp xs ys (n := m) (by omega) hc S H vs ws sm h3 g3
    have := RcN.tupEq (e := geti e) (SqT.of (sm _ _ h1)) (SqT.of (sm _ _ g1)) k3
    have el : (List.range (min vs.length ws.length)).all (geti e) = e.all id := by rw [← k1]; exact all_geti e
    rw [el, ← k2] at this
    exact RcN.eqN this fun q => hs a rfl (by rw [q])
  | .l xs, .l ys, n, r, hn, hc, S, H, u, v, sm, h1, h2 => by
    have hs : ∀ a, u = .ref a → v = .ref a → r = true := fun a e1 e2 => by
      subst e1 e2
      rw [dz_inj _ _ S _ h1 h2] at hc
      exact dz_refl _ r hc
    simp only [tDz] at h1 h2
    obtain ⟨a, vs, e1, h1, h3⟩ := h1
    obtain ⟨c, ws, e2, g1, g3⟩ := h2
    subst e1 e2
    rw [Dz.dep] at hn
    rw [Dz.cmp] at hc
    obtain ⟨m, rfl⟩ : ∃ m, n = m + 1 := ⟨n - 1, by omega⟩
    exact RcN.eqN (dzl_rc xs ys (by omega) hc (SqL.of (sm _ _ h1)) (SqL.of (sm _ _ g1)) sm h3 g3).1 fun q => hs a rfl (by rw [q])
  | .d xs, .d ys, n, r, hn, hc, S, H, u, v, sm, h1, h2 => by
    have hs : ∀ a, u = .ref a → v = .ref a → r = true := fun a e1 e2 => by
      subst e1 e2
      rw [dz_inj _ _ S _ h1 h2] at hc
      exact dz_refl _ r hc
    simp only [tDz] at h1 h2
    obtain ⟨a, oa, vs, e1, h1, h3⟩ := h1
    obtain ⟨c, ob, ws, e2, g1, g3⟩ := h2
    subst e1 e2
    rw [Dz.dep] at hn
    rw [Dz.cmp] at hc
    obtain ⟨m, rfl⟩ : ∃ m, n = m + 1 := ⟨n - 1, by omega⟩
    by_cases nd : (xs.map (·.1)).Nodup
    · rw [if_pos nd] at hc
      obtain ⟨x0, r0, q1, q2, q3⟩ := oand_some hc
      cases q1
      have l1 : vs.length = xs.length := by have := congrArg List.length (KvM.keys h3); simpa using this
      have l2 : ws.length = ys.length := by have := congrArg List.length (KvM.keys g3); simpa using this
      obtain ⟨f, k1, k2⟩ := dzd_cmp xs ys (n := m) (by omega) q2 nd S H vs ws sm h3 g3
      refine RcN.eqN (RcN.dictEq (f := f) (sm _ _ h1) (sm _ _ g1) (fun _ p hp y hy => k1 p hp y hy) fun _ => ?_) fun q => hs a rfl (by rw [q])
      rw [k2, l1, l2, q3]
      congr 1
    · rw [if_neg nd] at hc; cases hc
  | .n, .t ys, n, r, hn, hc, S, H, u, v, sm, h1, h2 => by
    rw [Dz.cmp] at hc
    cases hc
    simp only [tDz] at h1 h2
    cases (show u = .non from h1)
    obtain ⟨q, vs, rfl, hq, _⟩ := h2
    exact non_tup sm hq
  | .t xs, .n, n, r, hn, hc, S, H, u, v, sm, h1, h2 => by
    rw [Dz.cmp] at hc
    cases hc
    simp only [tDz] at h1 h2
    cases (show v = .non from h2)
    obtain ⟨q, vs, rfl, hq, _⟩ := h1
    exact tup_non sm hq
  | .n, .n, n, r, hn, hc, S, H, u, v, sm, h1, h2 => flat_cmp rfl rfl (by simpa [Dz.cmp, Dz.flat] using hc) h1 h2
  | .n, .b y, n, r, hn, hc, S, H, u, v, sm, h1, h2 => flat_cmp rfl rfl (by simpa [Dz.cmp, Dz.flat] using hc) h1 h2
  | .n, .i y, n, r, hn, hc, S, H, u, v, sm, h1, h2 => flat_cmp rfl rfl (by simpa [Dz.cmp, Dz.flat] using hc) h1 h2
  | .n, .s y, n, r, hn, hc, S, H, u, v, sm, h1, h2 => flat_cmp rfl rfl (by simpa [Dz.cmp, Dz.flat] using hc) h1 h2
  | .b x, .n, n, r, hn, hc, S, H, u, v, sm, h1, h2 => flat_cmp rfl rfl (by simpa [Dz.cmp, Dz.flat] using hc) h1 h2
  | .b x, .b y, n, r, hn, hc, S, H, u, v, sm, h1, h2 => flat_cmp rfl rfl (by simpa [Dz.cmp, Dz.flat] using hc) h1 h2
  | .b x, .i y, n, r, hn, hc, S, H, u, v, sm, h1, h2 => flat_cmp rfl rfl (by simpa [Dz.cmp, Dz.flat] using hc) h1 h2
  | .b x, .s y, n, r, hn, hc, S, H, u, v, sm, h1, h2 => flat_cmp rfl rfl (by simpa [Dz.cmp, Dz.flat] using hc) h1 h2
  | .i x, .n, n, r, hn, hc, S, H, u, v, sm, h1, h2 => flat_cmp rfl rfl (by simpa [Dz.cmp, Dz.flat] using hc) h1 h2
  | .i x, .b y, n, r, hn, hc, S, H, u, v, sm, h1, h2 => flat_cmp rfl rfl (by simpa [Dz.cmp, Dz.flat] using hc) h1 h2
  | .i x, .i y, n, r, hn, hc, S, H, u, v, sm, h1, h2 => flat_cmp rfl rfl (by simpa [Dz.cmp, Dz.flat] using hc) h1 h2
  | .i x, .s y, n, r, hn, hc, S, H, u, v, sm, h1, h2 => flat_cmp rfl rfl (by simpa [Dz.cmp, Dz.flat] using hc) h1 h2
  | .s x, .n, n, r, hn, hc, S, H, u, v, sm, h1, h2 => flat_cmp rfl rfl (by simpa [Dz.cmp, Dz.flat] using hc) h1 h2
  | .s x, .b y, n, r, hn, hc, S, H, u, v, sm, h1, h2 => flat_cmp rfl rfl (by simpa [Dz.cmp, Dz.flat] using hc) h1 h2
  | .s x, .i y, n, r, hn, hc, S, H, u, v, sm, h1, h2 => flat_cmp rfl rfl (by simpa [Dz.cmp, Dz.flat] using hc) h1 h2
  | .s x, .s y, n, r, hn, hc, S, H, u, v, sm, h1, h2 => flat_cmp rfl rfl (by simpa [Dz.cmp, Dz.flat] using hc) h1 h2
  | .n, .l _, _, _, _, hc, _, _, _, _, _, _, _ => by simp [Dz.cmp, Dz.flat] at hc
  | .n, .d _, _, _, _, hc, _, _, _, _, _, _, _ => by simp [Dz.cmp, Dz.flat] at hc
  | .b _, .t _, _, _, _, hc, _, _, _, _, _, _, _ => by simp [Dz.cmp, Dz.flat] at hc
  | .b _, .l _, _, _, _, hc, _, _, _, _, _, _, _ => by simp [Dz.cmp, Dz.flat] at hc
  | .b _, .d _, _, _, _, hc, _, _, _, _, _, _, _ => by simp [Dz.cmp, Dz.flat] at hc
  | .i _, .t _, _, _, _, hc, _, _, _, _, _, _, _ => by simp [Dz.cmp, Dz.flat] at hc
  | .i _, .l _, _, _, _, hc, _, _, _, _, _, _, _ => by simp [Dz.cmp, Dz.flat] at hc
  | .i _, .d _, _, _, _, hc, _, _, _, _, _, _, _ => by simp [Dz.cmp, Dz.flat] at hc
  | .s _, .t _, _, _, _, hc, _, _, _, _, _, _, _ => by simp [Dz.cmp, Dz.flat] at hc
  | .s _, .l _, _, _, _, hc, _, _, _, _, _, _, _ => by simp [Dz.cmp, Dz.flat] at hc
  | .s _, .d _, _, _, _, hc, _, _, _, _, _, _, _ => by simp [Dz.cmp, Dz.flat] at hc
  | .t _, .b _, _, _, _, hc, _, _, _, _, _, _, _ => by simp [Dz.cmp, Dz.flat] at hc
  | .t _, .i _, _, _, _, hc, _, _, _, _, _, _, _ => by simp [Dz.cmp, Dz.flat] at hc
  | .t _, .s _, _, _, _, hc, _, _, _, _, _, _, _ => by simp [Dz.cmp, Dz.flat] at hc
  | .t _, .l _, _, _, _, hc, _, _, _, _, _, _, _ => by simp [Dz.cmp, Dz.flat] at hc
  | .t _, .d _, _, _, _, hc, _, _, _, _, _, _, _ => by simp [Dz.cmp, Dz.flat] at hc
  | .l _, .n, _, _, _, hc, _, _, _, _, _, _, _ => by simp [Dz.cmp, Dz.flat] at hc
  | .l _, .b _, _, _, _, hc, _, _, _, _, _, _, _ => by simp [Dz.cmp, Dz.flat] at hc
  | .l _, .i _, _, _, _, hc, _, _, _, _, _, _, _ => by simp [Dz.cmp, Dz.flat] at hc
  | .l _, .s _, _, _, _, hc, _, _, _, _, _, _, _ => by simp [Dz.cmp, Dz.flat] at hc
  | .l _, .t _, _, _, _, hc, _, _, _, _, _, _, _ => by simp [Dz.cmp, Dz.flat] at hc
  | .l _, .d _, _, _, _, hc, _, _, _, _, _, _, _ => by simp [Dz.cmp, Dz.flat] at hc
  | .d _, .n, _, _, _, hc, _, _, _, _, _, _, _ => by simp [Dz.cmp, Dz.flat] at hc
  | .d _, .b _, _, _, _, hc, _, _, _, _, _, _, _ => by simp [Dz.cmp, Dz.flat] at hc
  | .d _, .i _, _, _, _, hc, _, _, _, _, _, _, _ => by simp [Dz.cmp, Dz.flat] at hc
  | .d _, .s _, _, _, _, hc, _, _, _, _, _, _, _ => by simp [Dz.cmp, Dz.flat] at hc
  | .d _, .t _, _, _, _, hc, _, _, _, _, _, _, _ => by simp [Dz.cmp, Dz.flat] at hc
  | .d _, .l _, _, _, _, hc, _, _, _, _, _, _, _ => by simp [Dz.cmp, Dz.flat] at hc
theorem dzl_rc : ∀ (xs ys : List Dz) {n : Nat} {r : Bool}, Dz.deps xs ≤ n → (if xs.length = ys.length then Dz.cmps xs ys else some false) = some r → ∀ {a c : Addr} {vs ws : List V} {S H : Hp}, SqL X.K H a vs → SqL X.K H c ws → Same S H → AllM (tDzs X.K xs) S vs → AllM (tDzs X.K ys) S ws →
    RcN X .Eq (n + 1) (.ref a) (.ref c) r H ∧ RcN X .NotEq (n + 1) (.ref a) (.ref c) (!r) H
  | xs, ys, n, r, hn, hc, a, c, vs, ws, S, H, h1, g1, sm, h3, g3 => by
    have l1 : vs.length = xs.length := by rw [h3.length, tDzs_map, List.length_map]
    have l2 : ws.length = ys.length := by rw [g3.length, tDzs_map, List.length_map]
    by_cases hl : xs.length = ys.length
    · rw [if_pos hl] at hc
      obtain ⟨e, k1, k2, k3⟩ := dzs_cmp xs ys (n := n) hn hc S H vs ws sm h3 g3
      have t1 := RcN.listEq (e := geti e) h1 g1 (by omega) k3
      have t2 := RcN.listNe (e := geti e) h1 g1 (by omega) k3
      have hmin : min vs.length ws.length = vs.length := by omega
      have el : (List.range vs.length).all (geti e) = e.all id := by rw [← hmin, ← k1]; exact all_geti e
      have hlen : (vs.length == ws.length) = true := by simp; omega
      rw [hlen, Bool.and_true] at k2
      rw [el, ← k2] at t1 t2
      exact ⟨t1, t2⟩
    · rw [if_neg hl] at hc
      cases hc
      exact ⟨(RcN.listEqL h1 g1 (by omega)).mono (by omega), (RcN.listNeL h1 g1 (by omega)).mono (by omega)⟩
theorem dzs_cmp : ∀ (xs ys : List Dz) {n : Nat} {r : Bool}, Dz.deps xs ≤ n → Dz.cmps xs ys = some r → ∀ S H vs ws, Same S H → AllM (tDzs X.K xs) S vs → AllM (tDzs X.K ys) S ws →
    ∃ e : List Bool, e.length = min vs.length ws.length ∧ r = (e.all id && (vs.length == ws.length)) ∧ ∀ (i : Nat) x y, vs[i]? = some x → ws[i]? = some y → EqN X n x y (geti e i) H
  | [], ys, n, r, hn, hc, S, H, vs, ws, sm, h1, h2 => by
    rw [tDzs] at h1
    have hv : vs = [] := List.eq_nil_of_length_eq_zero h1.length
    subst hv
    refine ⟨[], by simp, ?_, fun i x y e1 => by simp at e1⟩
    cases ys with
    | nil =>
      rw [Dz.cmps] at hc
      cases hc
      have hw : ws.length = 0 := by rw [h2.length, tDzs_map]; rfl
      simp [hw]
    | cons y ys =>
      rw [Dz.cmps] at hc
      cases hc
      have hw : ws.length = ys.length + 1 := by rw [h2.length, tDzs_map, List.length_map]; rfl
      simp [hw]
  | x :: xs, [], n, r, hn, hc, S, H, vs, ws, sm, h1, h2 => by
    rw [Dz.cmps] at hc
    cases hc
    have hv : vs.length = xs.length + 1 := by rw [h1.length, tDzs_map, List.length_map]; rfl
    rw [tDzs] at h2
    have hw : ws = [] := List.eq_nil_of_length_eq_zero h2.length
    subst hw
    exact ⟨[], by simp, by simp [hv], fun i x y _ e2 => by simp at e2⟩
  | x :: xs, y :: ys, n, r, hn, hc, S, H, vs, ws, sm, h1, h2 => by
    rw [Dz.cmps] at hc
    obtain ⟨b, r', q1, q2, q3⟩ := oand_some hc
    rw [Dz.deps] at hn
    simp only [tDzs] at h1 h2
    match vs, ws, h1, h2 with
    | v :: vs, w :: ws, h1, h2 =>
      obtain ⟨e, k1, k2, k3⟩ := dzs_cmp xs ys (n := n) (by omega) q2 S H vs ws sm h1.2 h2.2
      refine ⟨b :: e, by simp [k1], by rw [q3, k2]; simp [Bool.and_assoc], fun i u z e1 e2 => ?_⟩
      match i with
      | 0 =>
        cases e1
        cases e2
        exact dz_cmp x y (by omega) q1 S H _ _ sm h1.1 h2.1
      | i + 1 => exact k3 i u z e1 e2
theorem dzd_cmp : ∀ (xs ys : List (Str × Dz)) {n : Nat} {r : Bool}, Dz.depd xs ≤ n → Dz.cmpd xs ys = some r → (xs.map (·.1)).Nodup → ∀ S H vs ws, Same S H → KvM (tDzd X.K xs) S vs → KvM (tDzd X.K ys) S ws →
    ∃ f : Key → Bool, (∀ p ∈ vs, ∀ y, valV ws p.1 = some y → EqN X n p.2 y (f p.1) H) ∧ (vs.all fun p => (valV ws p.1).isSome && f p.1) = r
  | [], ys, n, r, hn, hc, nd, S, H, vs, ws, sm, h1, h2 => by
    rw [Dz.cmpd] at hc
    cases hc
    rw [tDzd] at h1
    match vs, h1 with
    | [], _ => exact ⟨fun _ => true, (fun p hp => by cases hp), rfl⟩
  | (k, x) :: xs, ys, n, r, hn, hc, nd, S, H, vs, ws, sm, h1, h2 => by
    rw [Dz.cmpd] at hc
    obtain ⟨b, r', q1, q2, q3⟩ := oand_some hc
    rw [Dz.depd] at hn
    rw [tDzd] at h1
    have nd1 := (List.nodup_cons.mp nd).1
    have nd2 := (List.nodup_cons.mp nd).2
    match vs, h1 with
    | w :: vs, h1 =>
      have ek : kS k = w.1 := h1.1
      obtain ⟨f, k1, k2⟩ := dzd_cmp xs ys (n := n) (by omega) q2 nd2 S H vs ws sm h1.2.2 h2
      have hne : ∀ p ∈ vs, p.1 ≠ kS k := fun p hp e => by
        have hm : p.1 ∈ vs.map (·.1) := List.mem_map_of_mem hp
        rw [KvM.keys h1.2.2, e] at hm
        obtain ⟨q, hq, e2⟩ := List.mem_map.mp hm
        have e3 : q.1 = k := Sum.inr.inj e2
        exact nd1 (by rw [← e3]; exact List.mem_map_of_mem (f := (·.1)) hq)
      have h2' := h2
      rw [tDzd_map] at h2'
      obtain ⟨i1, i2⟩ := KvM.lookz (k := k) h2'
      refine ⟨fun q => if q = kS k then b else f q, fun p hp y hy => ?_, ?_⟩
      · rcases List.mem_cons.mp hp with z | z
        · subst z
          show EqN X n p.2 y (if p.1 = kS k then b else f p.1) H
          rw [if_pos ek.symm]
          rw [← ek] at hy
          cases d2 : dget ys k with
          | none => rw [i2 d2] at hy; cases hy
          | some z =>
            obtain ⟨y', hy', r'⟩ := i1 z d2
            rw [hy] at hy'
            cases hy'
            rw [d2] at q1
            exact dz_cmp x z (by omega) q1 S H _ _ sm h1.2.1 r'
        · show EqN X n p.2 y (if p.1 = kS k then b else f p.1) H
          rw [if_neg (hne p z)]
          exact k1 p z y hy
      · rw [List.all_cons, q3]
        congr 1
        · show ((valV ws w.1).isSome && if w.1 = kS k then b else f w.1) = b
          rw [← ek, if_pos rfl]
          cases d2 : dget ys k with
          | none =>
            rw [i2 d2]
            rw [d2] at q1
            have q1 : some false = some b := q1
            cases q1
            rfl
          | some z =>
            obtain ⟨y', hy', _⟩ := i1 z d2
            rw [hy']
            rfl
        · rw [← k2]
          have : ∀ l : List (Key × V), (∀ p ∈ l, p.1 ≠ kS k) → (l.all fun p => (valV ws p.1).isSome && if p.1 = kS k then b else f p.1) = l.all fun p => (valV ws p.1).isSome && f p.1 := fun l hl => by
            induction l with
            | nil => rfl
            | cons p l ih =>
              rw [List.all_cons, List.all_cons, ih fun q hq => hl q (List.mem_cons_of_mem _ hq), if_neg (hl p List.mem_cons_self)]
          exact this vs hne
end

variable {B : Bs} {Γ : Gm} {O : Om} {N : Om} {Z : Er → Prop} {a b e : Expr} {pos : Pos}
theorem rl_dzs {xs : List Dz} {S H : Hp} {v : V} (h : (rL (tDz X.K) xs).R S H v) : ∃ a vs, v = .ref a ∧ H a = some (.lst vs) ∧ AllM (tDzs X.K xs) S vs := by
  obtain ⟨a, vs, h1, h2, h3⟩ := h
  exact ⟨a, vs, h1, h2, by rw [tDzs_map]; exact AllR.toM h3⟩
def Dz.cmpl (xs ys : List Dz) : Option Bool := if xs.length = ys.length then Dz.cmps xs ys else some false
abbrev W.eqZ (n : Nat) (xs ys : List Dz) : Wp Bool := fun Q _ => ∃ r, Dz.cmpl xs ys = some r ∧ Dz.deps xs ≤ n ∧ Q r
abbrev W.neZ (n : Nat) (xs ys : List Dz) : Wp Bool := fun Q _ => ∃ r, Dz.cmpl xs ys = some r ∧ Dz.deps xs ≤ n ∧ Q (!r)
theorem dzl_go {xs ys : List Dz} {n : Nat} {r : Bool} (hn : Dz.deps xs ≤ n) (hc : Dz.cmpl xs ys = some r) {S H : Hp} {u v : V} (sm : Same S H) (h1 : (rL (tDz X.K) xs).R S H u) (h2 : (rL (tDz X.K) ys).R S H v) : RcN X .Eq (n + 1) u v r H ∧ RcN X .NotEq (n + 1) u v (!r) H := by
  obtain ⟨a, vs, e1, k1, h3⟩ := rl_dzs h1
  obtain ⟨c, ws, e2, k2, g3⟩ := rl_dzs h2
  subst e1 e2
  exact dzl_rc xs ys hn hc (SqL.of k1) (SqL.of k2) sm h3 g3
theorem t_neZ (n : Nat) {wa wb : Wp (List Dz)} (hr : Room (n + 1) X.A) (ha : RW X B Γ O Z N a (rL (tDz X.K)) wa) (hb : RN X B Γ O Z b (rL (tDz X.K)) wb) : TW X B Γ O Z (.Compare a [.NotEq] [b] pos) (W.bind wa fun x => W.bind wb fun y => W.neZ n x y) :=
  fun S H σ st P Q p k => ⟨_, pt_cmpR (op_neN hr) pe_w pe_w (nomark _), ha.2 S H σ st _ _ p fun x u S1 H1 p1 s1 t1 r1 => hb S1 H1 σ t1 _ _ p1 fun y v S2 H2 p2 s2 t2 r2 => by
    obtain ⟨r, hc, hn, p2⟩ := p2
    exact ⟨_, (dzl_go hn hc t2.sub (r1 _ _ S2 H2 _ s2 t2 ha.1) r2).2, fun H' e => ⟨_, rfl, k _ S2 H' p2 (s1.trans s2) (t2.step (Stp.ext t2.sub e))⟩⟩⟩
def DzC {α : Type} (K : PySem.W.Frag) (f : α → MP) (g : α → Dz) : Prop := ∀ a S v, (f a).R S v → (tDz K (g a)).R S v
theorem zc_int {K : PySem.W.Frag} : DzC K tI .i := fun _ _ _ h => by rw [tDz]; exact h
theorem zc_str {K : PySem.W.Frag} : DzC K tS .s := fun _ _ _ h => by rw [tDz]; exact h
theorem zc_none {K : PySem.W.Frag} : DzC K tU (fun _ => .n) := fun _ _ _ h => by rw [tDz]; exact h
theorem zc_dy {K : PySem.W.Frag} : DzC K (tDz K) id := fun _ _ _ h => h
theorem AllM.cz {α : Type} {K : PySem.W.Frag} {f : α → MP} {g : α → Dz} (h : DzC K f g) {S : Hp} : ∀ {xs : List α} {vs : List V}, AllM (xs.map f) S vs → AllM (tDzs K (xs.map g)) S vs
  | [], [], r => by rw [List.map_nil, tDzs]; exact r
  | [], _ :: _, r => r.elim
  | _ :: _, [], r => r.elim
  | x :: xs, v :: vs, r => by rw [List.map_cons, tDzs]; exact ⟨h _ _ _ r.1, AllM.cz h r.2⟩
theorem zc_lst {α : Type} {K : PySem.W.Frag} {f : α → MP} {g : α → Dz} (h : DzC K f g) : DzC K (tLs K f) (fun xs => .l (xs.map g)) := fun xs S v ⟨a, vs, h1, h2, h3⟩ => by
  rw [tDz]
  exact ⟨a, vs, h1, h2, AllM.cz h h3⟩
theorem zc_tup {α : Type} {K : PySem.W.Frag} {f : α → MP} {g : α → Dz} (h : DzC K f g) : DzC K (tTs K f) (fun xs => .t (xs.map g)) := fun xs S v ⟨a, vs, h1, h2, h3⟩ => by
  rw [tDz]
  exact ⟨a, vs, h1, h2, AllM.cz h h3⟩
theorem zc_p2 {α β : Type} {K : PySem.W.Frag} {f : α → MP} {g : β → MP} {kf : α → Dz} {kg : β → Dz} (h1 : DzC K f kf) (h2 : DzC K g kg) : DzC K (tP2 K f g) (fun q => .t [kf q.1, kg q.2]) := fun q S v r => by
  rw [tDz]
  obtain ⟨a, vs, e1, k1, k2⟩ := r
  match vs, k2 with
  | [x, y], k2 =>
    refine ⟨a, [x, y], e1, k1, ?_⟩
    simp only [tDzs]
    exact ⟨h1 _ _ _ k2.1, h2 _ _ _ k2.2.1, trivial⟩
theorem w_dz {α : Type} {f : α → MP} {g : α → Dz} {w : Wp α} (h : DzC X.K f g) (he : EW X B Γ O Z e f w) : EW X B Γ O Z e (tDz X.K) (W.bind w fun a => W.ret (g a)) := he.imp g h
end
end OW
namespace OW
open PySem PySem.Spec PySem.W PyProof.Rows L2 OT
section
variable {X : Cx}
end
section
variable {X : Cx} {α : Type} [DecidableEq α] {f : α → MP} {n : Nat}
end
section
variable {X : Cx} {B : Bs} {Γ : Gm} {O N N' : Om} {Z : Er → Prop} {a b : Expr} {pos : Pos} {α : Type} [DecidableEq α] {f : α → MP} {n : Nat} {wa wb : Wp (List (Str × α))}
end
section
variable {X : Cx} {B : Bs} {Γ : Gm} {O N N' : Om} {Z : Er → Prop} {e a b c o l ix : Expr} {es : List Expr} {p p1 p2 pos pos' apos : Pos} {D : Ends} {rest body els : List Stmt} {α β ρ τ Dt : Type} {x nm : Str} {Wx : WX} {C : Addr} {As : Dt → List AP} {wp : Dt → Wp ρ} {res : ρ → RP} {Ms : ρ → List OP} {k : Nat} {ps : List Str} {ba : α → BP} {bo : β → BP} {wa : Wp α} {wo : Wp β} {f : α → MP}
theorem own_ne {wp : Dt → Wp Bool} {res : Bool → RP} {Ms : Bool → List OP} (d : α → β → Dt) (ha : RW X B Γ O Z N a ba wa) (hb : RW X B Γ O Z N' b bo wo) (hi : ∀ y, InsB C "__eq__" (bo y)) (hj : ∀ x, InsB C "__eq__" (ba x)) (hA : ∀ x y, ArgM [.b (ba x), .b (bo y)] (As (d x y)) []) (hf : ∀ r, res r = .v (OT.tB r))
    {S H : Hp} {σ : L2.St} (st : Stt B Γ O S H σ) {P : Bool → Prop} {Q : VK} (p : W.bind wa (fun x => W.bind wo fun y Q _ => wp (d x y) Q E0) (fun r => P r) Z) (n : ∀ r S' H', P r → Same S S' → Stt B Γ O S' H' σ → Q (.bl (!r)) H') :
    wE X a σ H fun u H1 => wE X b σ H1 fun v H2 => ∃ a b dx dy fs gs, u = .ref a ∧ v = .ref b ∧ H2 a = some (.ins C dx fs) ∧ H2 b = some (.ins C dy gs) ∧ spW X.K As wp res Ms [u, v] H2 (fun v H' => ∃ b, v = .bl b ∧ Q (.bl (!b)) H') (fun _ _ _ => False) := by
  refine ha.2 S H σ st _ _ p fun x u S1 H1 p1 s1 t1 r1 => hb.2 S1 H1 σ t1 _ _ p1 fun y v S2 H2 p2 s2 t2 r2 => ?_
  obtain ⟨q, dy, fs, rfl, hy, _⟩ := hi y S2 H2 v t2.sub (r2 _ _ S2 H2 _ (Same.refl _) t2 hb.1)
  obtain ⟨q2, dy2, fs2, rfl, hy2, _⟩ := hj x S2 H2 u t2.sub (r1 _ _ S2 H2 _ s2 t2 ha.1)
  refine ⟨q2, q, dy2, dy, fs2, fs, rfl, rfl, hy2, hy, in_go0 (X := X) (vs := [.ref q2, .ref q]) (d x y) (hA x y) t2 (fun Γ3 O3 S3 H3 σ3 s3 t3 hn => ⟨r1 _ _ S3 H3 _ (s2.trans s3) t3 fun z hz => hn z (ha.1 z hz), r2 _ _ S3 H3 _ s3 t3 fun z hz => hn z (hb.1 z hz), trivial⟩) hf p2 fun r v S' H' p3 s3 t3 r3 => ?_⟩
  exact ⟨r, r3, n _ S' H' p3 ((s1.trans s2).trans s3) t3⟩
theorem t_ownne {wp : Dt → Wp Bool} {res : Bool → RP} {Ms : Bool → List OP} (G : GM X.prog X.w X.K X.mg X.base C "__eq__" k ps (spW X.K As wp res Ms)) (hn : PySem.W.findIn X.K (.ref C) "__ne__" = some (some (.builtin "object.__ne__"))) (hob : PySem.W.mroIn X.K C (.type "object") = some true) (hr : Room (k + 1) X.A) (d : α → β → Dt) (ha : RW X B Γ O Z N a ba wa) (hb : RW X B Γ O Z N' b bo wo) (hi : ∀ y, InsB C "__eq__" (bo y)) (hj : ∀ x, InsB C "__eq__" (ba x)) (hA : ∀ x y, ArgM [.b (ba x), .b (bo y)] (As (d x y)) []) (hf : ∀ r, res r = .v (OT.tB r) := by intro _; rfl) : TW X B Γ O Z (.Compare a [.NotEq] [b] pos) (W.bind wa fun x => W.bind wo fun y Q _ => wp (d x y) (fun t => Q (!t)) E0) := by
  obtain ⟨g, fd, G, M, hbb⟩ := G
  exact fun S H σ st P Q p n => ⟨_, pt_cmpR (ne_own M hn hob G hr hbb pass_none) pe_w pe_w (nomark _), own_ne d ha hb hi hj hA hf st (P := fun r => P (!r)) (Q := fun v H' => ∃ b, v = .bl b ∧ Q b H') p fun r S' H' p1 s1 t1 => ⟨!r, rfl, n (!r) S' H' p1 s1 t1⟩⟩
end
end OW
namespace OW
open PySem PySem.Spec PyProof.Rows L2 OT NdefX
section
variable {X : Cx} {B : Bs} {Γ : Gm} {O : Nat → Om} {O1 O2 N N' : Om} {Z : Er → Prop} {n : Nat} {e a b c l ix it tg elt : Expr} {ifs : List Expr} {es : List Expr} {p p1 p2 pos pos' apos cpos : Pos} {D : Ends} {rest body els : List Stmt} {α β γ τ ρ Dt : Type} {x nm : Str} {Wx : WX} {f : α → MP} {g : β → MP} {bb : α → BP} {go : β → OP} {r : List V → Hp → VK → Prop} {k : α → Wp β} {w : Wp (α × Nat)}
def ddrop {α : Type} (d : List (Str × α)) (k : Str) : List (Str × α) := d.filter fun q => decide (q.1 ≠ k)
end
end OW
namespace OW
open PySem PySem.Spec PyProof.Rows L2 OT NdefX
def CI (kd : Bool) (h : Heap) (it l : Addr) (k : Nat) (xs : Array Value) : Prop := match kd with
  | true => h.IsListIter it l k ∧ h.IsList l xs
  | false => h.IsTupleIter it l k ∧ h.IsTuple l xs
theorem CI.there {kd : Bool} {h : Heap} {it l : Addr} {k : Nat} {xs : Array Value} (c : CI kd h it l k xs) : ∃ o, h.get? it = some o ∧ ∀ v, o.data ≠ .cell v := by
  cases kd with
  | true => obtain ⟨⟨o, e, _, d⟩, _⟩ := c; exact ⟨o, e, fun v q => by rw [d] at q; cases q⟩
  | false => obtain ⟨⟨o, e, _, d⟩, _⟩ := c; exact ⟨o, e, fun v q => by rw [d] at q; cases q⟩
section
variable {prog : Program} {w : World} {A : Around} {E : Value → Shared → Prop} {s : Shared}
variable {z TI TO T i1 i2 l1 l2 : Addr} {d1 d2 : Bool} {k1 k2 : Nat} {xs ys : Array Value} {x y a b : Value} (D : ZipApart z TI TO i1 i2 l1 l2)
include D
end
end OW
namespace OW
open PySem PySem.Spec PyProof.Rows L2 OT NdefX
abbrev zO1 (h : Heap) (i1 i2 : Value) : Heap := h.push { cls := .type "tuple", data := .seq #[i1, i2] }
abbrev zO2 (h : Heap) (i1 i2 : Value) : Heap := (zO1 h i1 i2).push { cls := .type "tuple", data := .seq #[.none, .none] }
abbrev zO3 (h : Heap) (i1 i2 : Value) : Heap := (zO2 h i1 i2).push { cls := .type "zip", data := .fields #[.none, .bool false, .bool false, .ref h.objs.size, .ref (zO1 h i1 i2).objs.size] }
section
variable {prog : Program} {w : World} {A : Around} {E : Value → Shared → Prop} {s : Shared}
end
def Sqz (K : PySem.W.Frag) (kd : Bool) (H : Hp) (a : Addr) (xs : List V) : Prop := match kd with
  | true => SqL K H a xs
  | false => SqT K H a xs
def Itk (kd : Bool) (h : Heap) (it a : Addr) (i : Nat) : Prop := match kd with
  | true => h.IsListIter it a i
  | false => h.IsTupleIter it a i
theorem Itk.there {kd : Bool} {h : Heap} {it a : Addr} {i : Nat} (x : Itk kd h it a i) : ∃ o, h.get? it = some o ∧ ∀ v, o.data ≠ .cell v := by
  cases kd with
  | true => obtain ⟨o, e, _, d⟩ := x; exact ⟨o, e, fun v q => by rw [d] at q; cases q⟩
  | false => obtain ⟨o, e, _, d⟩ := x; exact ⟨o, e, fun v q => by rw [d] at q; cases q⟩
section
variable {X : Cx} {pins : List (Addr × Obj)} {σ : L2.St} {H : Hp} {s : Shared}
end
def Itz2 (K : PySem.W.Frag) (d1 d2 : Bool) (a b : Addr) : It :=
  ⟨fun i H => ∃ (xs ys : List V) (x y : V), Sqz K d1 H a xs ∧ Sqz K d2 H b ys ∧ xs[i]? = some x ∧ ys[i]? = some y,
    fun i H v H' => ∃ T x y, v = .ref T ∧ H T = none ∧ H' = upd H T (.tup [x, y]) ∧ (∀ xs, Sqz K d1 H a xs → xs[i]? = some x) ∧ ∀ ys, Sqz K d2 H b ys → ys[i]? = some y,
    fun i H => ∃ xs ys : List V, Sqz K d1 H a xs ∧ Sqz K d2 H b ys ∧ (xs.length ≤ i ∨ ys.length ≤ i)⟩
def Zst (d1 d2 : Bool) (a b z TI TO i1 i2 : Addr) (i : Nat) (h : Heap) : Prop := IsZip h z TI TO .none ∧ IsPair h TI (.ref i1) (.ref i2) ∧ (∃ x y, IsPair h TO x y) ∧ Itk d1 h i1 a i ∧ Itk d2 h i2 b i
end OW
namespace OW
open PySem PySem.Spec PyProof.Rows L2 OT NdefX
section
variable {X : Cx} {pins : List (Addr × Obj)} {σ : L2.St} {H : Hp} {s : Shared} {d1 d2 : Bool} {a b it : Addr} {xs ys : List V}
def Zf (K : PySem.W.Frag) (ow : Bool) (C : Addr) (fl : Str) (d1 : Bool) (H : Hp) (u : V) (a : Addr) (xs : List V) : Prop := (u = .ref a ∧ Sqz K d1 H a xs) ∨ (ow = true ∧ d1 = false ∧ ∃ o dx fs, u = .ref o ∧ H o = some (.ins C dx fs) ∧ fs.lookup fl = some (.ref a) ∧ SqT K H a xs)
end
def iZ2 (K : PySem.W.Frag) (ow : Bool) (C : Addr) (fl : Str) (ta : TA) : TI := fun σ H R => ta σ H fun vs H1 => ∃ u d1 d2 a b xs ys, vs = [u, .ref b] ∧ Zf K ow C fl d1 H1 u a xs ∧ Sqz K d2 H1 b ys ∧ R (Itz2 K d1 d2 a b) H1
end OW
namespace OW
open PySem PySem.Spec PyProof.Rows L2 OT NdefX
section
variable {X : Cx} {pins : List (Addr × Obj)} {σ : L2.St} {H : Hp} {s : Shared} {d1 d2 : Bool} {a b : Addr}
end
def tDictZ (K : PySem.W.Frag) (ow : Bool) (C : Addr) (fl : Str) (ta : TA) : TE := fun σ H Q => ta σ H fun vs H1 => ∃ (u : V) (d1 d2 : Bool) (a b : Addr) (ks : List Key) (ys : List V), vs = [u, .ref b] ∧ Zf K ow C fl d1 H1 u a (ks.map kV) ∧ Sqz K d2 H1 b ys ∧ ∀ p, H1 p = none → Q (.ref p) (upd H1 p (.dK (mergeK [] (ks.zip ys))))
end OW
namespace OW
open PySem PySem.Spec PyProof.Rows L2 OT NdefX
section
variable {X : Cx} {B : Bs} {Γ : Gm} {O N N' : Om} {Z : Er → Prop} {e a b c o l r : Expr} {es elts : List Expr} {p p2 pos pos' apos tpos pq : Pos} {α β γ τ : Type} {f : α → MP} {g : β → MP} {kk : Nat} {ow : Bool} {C : Addr} {fl : Str}
def ZW (X : Cx) (B : Bs) (Γ : Gm) (O : Om) (Z : Er → Prop) (N : Om) (ow : Bool) (C : Addr) (fl : Str) (e : Expr) (f : α → MP) (w : Wp (List α)) : Prop := (∀ x ∈ N, x ∈ O) ∧ ∀ S H σ, Stt B Γ O S H σ → ∀ (P : List α → Prop) (Q : VK), w P Z →
  (∀ xs u q t S' H', P xs → Same S S' → Stt B Γ O S' H' σ → (∀ Γ2 O2 S2 H2 σ2, Same S' S2 → Stt B Γ2 O2 S2 H2 σ2 → (∀ x ∈ N, x ∈ O2) → ∃ ws, Zf X.K ow C fl t H2 u q ws ∧ AllM (xs.map f) S2 ws) → Q u H') → wE X e σ H Q
end
end OW
namespace OW
open PySem PySem.Spec PyProof.Rows L2 OT NdefX
section
variable {X : Cx} {B : Bs} {Γ : Gm} {O N N' : Om} {Z : Er → Prop} {e a b c o l r : Expr} {es elts : List Expr} {p p2 pos pos' apos tpos pq : Pos} {α β γ τ : Type} {f : α → MP} {g : β → MP}
end
section
variable {X : Cx} {B : Bs} {Γ : Gm} {O1 : Om} {O : Nat → Om} {n : Nat} {Z : Er → Prop} {c e : Expr} {pos : Pos} {D : Ends} {rest body els : List Stmt}
theorem s_ifKP2 {τ : Type} (Gs : τ → Gm) (Os : τ → Om) {k : τ → Prop} {w w' : Wp (Bool × Nat)} {p q : Bool × Nat → (τ → Prop) → Prop} (hc : KT X B Γ O Z n c w') (h1 : ∀ m (k : τ → Prop), SW X B Γ (O m) body { D with nx := At B Gs Os k } (p (true, m) k)) (h2 : ∀ m (k : τ → Prop), SW X B Γ (O m) els { D with nx := At B Gs Os k } (q (false, m) k)) (h : ∀ s, SW X B (Gs s) (Os s) rest D (k s)) (ho : O1 = O n := by rfl) (hw : w' = w := by rfl) :
    SW X B Γ O1 (.If c body els pos :: rest) D (W.jn k fun k => W.run w Z fun b => W.ite b.1 (p b k) (q b k)) :=
  s_cons fun hp S H σ st => ⟨_, ps_if pt_w (pss_weak pb_w) (pss_weak pb_w), hc S H σ (ho ▸ st) _ _ (hw ▸ hp) fun b S1 H1 p1 s1 t1 => by
    obtain ⟨b, m⟩ := b
    have fin : ∀ σ H, At B Gs Os k σ H → wB X rest D σ H := fun σ H ⟨s, S', hk, t⟩ => h s hk S' H σ t
    cases b with
    | true => exact iteT ⟨{ D with nx := At B Gs Os k }, fin, rfl, rfl, rfl, h1 m k (p1.1 rfl) S1 H1 σ t1⟩
    | false => exact iteF ⟨{ D with nx := At B Gs Os k }, fin, rfl, rfl, rfl, h2 m k (p1.2 rfl) S1 H1 σ t1⟩⟩
end
section
variable {X : Cx} {B : Bs} {Γ : Gm} {O : Om} {Z : Er → Prop} {e : Expr}
end
end OW
namespace OW
open PySem PySem.Spec PyProof.Rows L2 OT NdefX
def oDy {α : Type} (g : α → Dy) : Option α → Dy
  | none => .n
  | some a => g a
end OW
namespace OW
open PySem PySem.Spec PyProof.Rows L2 OT NdefX
section
variable {X : Cx} {C : Addr} {k : Nat} {ps : List Str} {Dt ρ : Type} {As : Dt → List AP} {wp : Dt → Wp Bool} {res : Bool → RP} {Ms : Bool → List OP}
theorem rcn_own (G : GM X.prog X.w X.K X.mg X.base C "__eq__" k ps (spW X.K As wp res Ms)) {m1 m2 : MP} {b : Bool} (d : Dt) (hA : As d = [.b m1.b, .b m2.b]) (hi : InsB C "__eq__" m1.b) (hj : InsB C "__eq__" m2.b) (hf : ∀ r, res r = .v (OT.tB r)) (hw : wp d (fun r => r = b) E0) : RcM X .Eq k m1.b m2.b b := by
  obtain ⟨f, fd, F, M, hb⟩ := G
  intro S H x y sm h1 h2 A pins s σ H0 u v e0 sb I rx ry
  obtain ⟨a, dx, fs, rfl, ha, _⟩ := hi S H x sm h1
  obtain ⟨c, dy, gs, rfl, hc, _⟩ := hj S H y sm h2
  have sm0 : Same S H0 := fun z o q => e0 z o (sm z o q)
  cases rx
  cases ry
  obtain ⟨mA, J, _⟩ := ins_get I.hok (e0 _ _ ha)
  obtain ⟨mB, J', _⟩ := ins_get I.hok (e0 _ _ hc)
  obtain ⟨od, J, _⟩ := J.look
  obtain ⟨od', J', _⟩ := J'.look
  obtain ⟨m, hF⟩ := I.fr
  refine PySem.W.cmp_K (op := .Eq) (tb := .ref C) sb.room.units0 hF I.ok.mod.kin J J'.type (by simp [PySem.W.notFirst]) M.at_ M.fn ?_
  have hsp : spW X.K As wp res Ms [.ref a, .ref c] H0 (fun v H' => v = .bl b ∧ Ext H0 H') (fun _ _ _ => False) := by
    refine ⟨d, S, [], fun r => r = b, E0, sm0, List.nodup_nil, (fun _ h => by cases h), ?_, hw, fun r v S' H' hr h => ?_, fun _ _ _ _ _ h => h.elim⟩
    · rw [hA]
      exact ⟨h1, h2, rfl⟩
    · rw [hf] at h
      obtain ⟨t, hv⟩ := h
      have hv : v = .bl r := hv
      rw [hv, hr]
      exact ⟨rfl, t.st.h⟩
  have en : Env0 X.prog X.w X.K X.mg X.base A X.stack s H0 := by
    have e := I.env0
    exact ⟨by rw [sb.fr]; exact e.frames, e.mod, e.bs, e.bsz, e.funs, e.frf, e.hok, e.bare⟩
  have hl := F.len _ _ _ _ hsp
  have r2 : Vals [V.ref a, V.ref c] [Value.ref a, Value.ref c] := .cons rfl (.cons rfl .nil)
  refine wpAny_call (codeAny_mono (F.run A X.stack s H0 ⟨[.ref a, .ref c], []⟩ [.ref a, .ref c] [.ref a, .ref c] _ _ sb.room en (by
    have := hb s [.ref a, .ref c] I.kIn (by simpa using hl)
    simpa using this) r2 hsp) fun r s' hq => ?_)
  cases r with
  | error e => exact pass_none pins σ H0 s e s' I hq
  | ok fl =>
    cases fl with
    | ret w =>
      obtain ⟨z, H', I', rz, ez, ex⟩ := I.after hq
      subst ez
      cases rz
      exact ⟨rfl, H', I', ex⟩
    | next => exact False.elim hq
    | brk => exact False.elim hq
    | cont => exact False.elim hq
theorem en_own {α : Type} [DecidableEq α] {f : α → MP} (G : GM X.prog X.w X.K X.mg X.base C "__eq__" k ps (spW X.K As wp res Ms)) (d : α → α → Dt) (hA : ∀ x y, As (d x y) = [.b (f x).b, .b (f y).b]) (hi : ∀ x, InsB C "__eq__" (f x).b) (hw : ∀ x y, wp (d x y) (fun r => r = decide (x = y)) E0) (inj : ∀ S v x y, (f x).R S v → (f y).R S v → x = y) (hf : ∀ r, res r = .v (OT.tB r) := by intro _; rfl) : En X k f where
  eq := fun x y => (rcn_own G (d x y) (hA x y) (hi x) (hi y) hf (hw x y)).eqM (fun S H v h => let ⟨a, _, _, e, _⟩ := hi x S S v (Same.refl _) h; ⟨a, e⟩) (fun S H v h => let ⟨a, _, _, e, _⟩ := hi y S S v (Same.refl _) h; ⟨a, e⟩) fun S H v sm h1 h2 => by
    have := inj S v x y h1 h2
    simpa using this
  inj := inj
theorem fld_inj {f : Str} {R1 R2 : MP} {Rs Qs : List (Str × MP)} {S : Hp} {vs : List (Str × V)} (h1 : FldR ((f, R1) :: Rs) S vs) (h2 : FldR ((f, R2) :: Qs) S vs) : ∃ v ws, R1.R S v ∧ R2.R S v ∧ FldR Rs S ws ∧ FldR Qs S ws := by
  cases vs with
  | nil => exact h1.elim
  | cons q vs => exact ⟨q.2, vs, h1.2.1, h2.2.1, h1.2.2, h2.2.2⟩
theorem rat_inj {K : PySem.W.Frag} : ∀ S v (x y : Rt), (tRat K x).R S v → (tRat K y).R S v → x = y := fun S v x y h1 h2 => by
  obtain ⟨a, dx, fs, e1, g1, _, i1⟩ := h1
  obtain ⟨c, dy, gs, e2, g2, _, i2⟩ := h2
  subst e1
  cases e2
  rw [g1] at g2
  cases g2
  obtain ⟨v, ws, r1, r2, i1, i2⟩ := fld_inj i1 i2
  obtain ⟨v', _, q1, q2, _, _⟩ := fld_inj i1 i2
  have e1 : V.int x.top = .int y.top := (show v = .int x.top from r1).symm.trans r2
  have e2 : V.int x.bottom = .int y.bottom := (show v' = .int x.bottom from q1).symm.trans q2
  obtain ⟨x1, x2⟩ := x
  obtain ⟨y1, y2⟩ := y
  injection e1 with e1
  injection e2 with e2
  have e1 : x1 = y1 := e1
  have e2 : x2 = y2 := e2
  rw [e1, e2]
end
end OW
namespace OW
open PySem PySem.Spec PyProof.Rows L2 OT NdefX
section
variable {X : Cx} {B : Bs} {Γ : Gm} {O N : Om} {Z : Er → Prop} {e a b : Expr} {α β : Type} {D : Ends} {body : List Stmt}
theorem pair_all {α β : Type} [DecidableEq α] [DecidableEq β] {f : α → MP} {g : β → MP} (q r : α × β) : ((List.range (min [f q.1, g q.2].length [f r.1, g r.2].length)).all (fun i => if i = 0 then decide (q.1 = r.1) else decide (q.2 = r.2)) && [f q.1, g q.2].length == [f r.1, g r.2].length) = decide (q = r) := by
  show ((decide (q.1 = r.1) && (decide (q.2 = r.2) && true)) && true) = decide (q = r)
  rw [Bool.and_true, Bool.and_true]
  by_cases e1 : q.1 = r.1 <;> by_cases e2 : q.2 = r.2 <;> simp [e1, e2, Prod.ext_iff]
theorem cmp_P [DecidableEq α] [DecidableEq β] {f : α → MP} {g : β → MP} {n m : Nat} (h : En X n f) (h' : En X m g) : Cmp X (max n m + 1) (fun q => (fPair X.K f g q).b) (fun q => (fPair X.K f g q).b) where
  eq := fun q r => by
    refine rcm_tup (Rs := [f q.1, g q.2]) (Qs := [f r.1, g r.2]) (fun i => if i = 0 then decide (q.1 = r.1) else decide (q.2 = r.2)) (fun {l c vs ws H} h1 h2 l1 l2 hh => ?_) fun i hi hj => ?_
    · have := RcN.tupEq h1 h2 hh
      rw [l1, l2, pair_all] at this
      exact this
    · have hi : i < 2 := hi
      match i, hi with
      | 0, _ => exact (h.eq q.1 r.1).mono (Nat.le_max_left _ _)
      | 1, _ => exact (h'.eq q.2 r.2).mono (Nat.le_max_right _ _)
  ne := fun q r => by
    refine rcm_tup (Rs := [f q.1, g q.2]) (Qs := [f r.1, g r.2]) (fun i => if i = 0 then decide (q.1 = r.1) else decide (q.2 = r.2)) (fun {l c vs ws H} h1 h2 l1 l2 hh => ?_) fun i hi hj => ?_
    · have := RcN.tupNe h1 h2 hh
      rw [l1, l2, pair_all] at this
      exact this
    · have hi : i < 2 := hi
      match i, hi with
      | 0, _ => exact (h.eq q.1 r.1).mono (Nat.le_max_left _ _)
      | 1, _ => exact (h'.eq q.2 r.2).mono (Nat.le_max_right _ _)
end
end OW
namespace OW
open PySem PySem.Spec PyProof.Rows L2 OT NdefX
def stp {α : Type} (xs : List α) (lo : Option Int) (k : Int) : List α := (sliceRange (sliceBounds lo none (some k) xs.length).1 (sliceBounds lo none (some k) xs.length).2.1 k).filterMap (fun i => xs[i]?)
def tStpL (K : PySem.W.Frag) (te : TE) (tl : TO) (n : Int) : TE := fun σ H Q => te σ H fun x H1 => tl σ H1 fun lo H2 => ∃ a xs, x = .ref a ∧ SqL K H2 a xs ∧ ∀ p, H2 p = none → Q (.ref p) (upd H2 p (.lst (stp xs lo n)))
section
variable {X : Cx} {B : Bs} {Γ : Gm} {O N : Om} {Z : Er → Prop} {e a : Expr} {α : Type} {f : α → MP} {p1 p3 pos : Pos} {k : Nat} {n : Int}
end
end OW
namespace OW
open PySem PySem.Spec PyProof.Rows L2 OT NdefX
section
variable {X : Cx} {B : Bs} {Γ : Gm} {O : Om} {Z : Er → Prop} {e : Expr} {α : Type}
end
section
variable {X : Cx} {B : Bs} {Γ : Gm} {O N N' : Om} {Z : Er → Prop} {a b : Expr} {pos : Pos} {α : Type} [DecidableEq α] {f : α → MP} {n : Nat} {wa wb : Wp (List (List (Str × α)))}
end
end OW
namespace OW
open PySem PySem.Spec PyProof.Rows L2 OT NdefX
section
variable {X : Cx} {B : Bs} {Γ : Gm} {O : Nat → Om} {Z : Er → Prop} {e : Expr} {α : Type} {n : Nat}
theorem KW.at {f : α → MP} {w' : Wp (α × Nat)} (w : Wp (α × Nat)) (h : KW X B Γ O Z n e f w') (hw : w' = w := by rfl) : KW X B Γ O Z n e f w := hw ▸ h
end
theorem SW.gam {X : Cx} {B : Bs} {Γ : Gm} {O : Om} {body : List Stmt} {D : Ends} {p : Prop} (Γ' : Gm) (h : SW X B Γ' O body D p) (e : Γ = Γ' := by rfl) : SW X B Γ O body D p := e ▸ h
end OW
namespace OW
open PySem PySem.Spec PyProof.Rows L2 OT NdefX
section
variable {X : Cx} {e : Expr} {te : TE} {pos : Pos} {C : Addr} {k : Nat} {ps : List Str}
end
section
variable {X : Cx} {C : Addr} {k : Nat} {ps : List Str} {Dt : Type} {As : Dt → List AP} {wp : Dt → Wp Str} {res : Str → RP} {Ms : Str → List OP}
end
section
variable {X : Cx} {B : Bs} {Γ : Gm} {O : Om} {Z : Er → Prop} {e : Expr} {p pos pos' : Pos} {D : Ends} {rest : List Stmt} {α : Type} {f : α → MP} {x : Str} {k : Nat} {ps : List Str} {Wx : WX} {ok : α → Prop} {fs : α → List (Str × MP)}
end
end OW
namespace OW
open PySem PySem.Spec PyProof.Rows L2 OT
theorem hd_never {X : Cx} {B : Bs} {Γ : Gm} {O : Om} : Hd X B Γ O (fun _ => False) (fun _ _ _ _ => False) := ⟨fun _ _ ⟨_, _, _, _, _, _, _, _, _, _, _, _, _, _, _, _, w⟩ => w.elim, fun _ h => h.elim⟩
structure FnQ (P : Program) (w : World) (K : PySem.W.Frag) (mg : Str → Option Value) (base : Heap) (k : Nat) (f : Addr) (fd : FuncData) (ps : List Str) (sp : Sp) : Prop where
  ln : ∀ vs H Q E, sp vs H Q E → vs.length = ps.length
  go : ∀ (p : Addr × Obj) (A : Around) (outer : List Env) (s : Shared) (H : Hp) (args : Args) (us : List Value) (vs : List V) (Q : VK) (E : XK), L2H.RoomH k A → L2H.PinOk outer H s p → Env0 P w K mg base A outer s H → BindsTo s fd args (ps.zip us) → Vals vs us → sp vs H Q E →
    codeAny (model P w) A (.call (.ref f) args) (CR (L2.CX P w) outer P w H s Q E) s
def GFQ (P : Program) (w : World) (K : PySem.W.Frag) (mg : Str → Option Value) (base : Heap) (x : Str) (k : Nat) (ps : List Str) (sp : Sp) : Prop := ∃ f fd, FnQ P w K mg base k f fd ps sp ∧ mg x = some (.ref f) ∧ PySem.W.keepIn K (.ref f) = true ∧ Binds K fd ps []
section
variable {P : Program} {w : World} {K : PySem.W.Frag} {mg : Str → Option Value} {base : Heap} {k : Nat} {ps : List Str} {sp : Sp} {y x q : Str} {s : Stmt} {f : Addr}
theorem gfq_mk (h : ∃ fd, FnS K x q s f fd) (hb : ∀ fd, FnS K x q s f fd → Binds K fd ps []) (hm : mg y = some (.ref f)) (ok : ∀ fd, FnS K x q s f fd → FnQ P w K mg base k f fd ps sp) : GFQ P w K mg base y k ps sp := by
  obtain ⟨fd, F⟩ := h
  exact ⟨f, fd, ok fd F, hm, F.kp, hb fd F⟩
variable {N : List Str} {fd : FuncData} {qual : Str} {params : Arguments} {body : List Stmt} {scope : Scope} {kws : List (Str × V)}
theorem fnq_of (F : FunD K x qual params body scope [] kws f fd) (Sc : FnScope N ps scope) (ln : ∀ vs H Q E, sp vs H Q E → vs.length = ps.length)
    (hb : ∀ (p : Addr × Obj) (cdv : Value) (A : Around) (outer : List Env) (s : Shared) (H : Hp) (vs : List V) (Q : VK) (E : XK), L2H.RoomH k (A.deeper (envOfC qual scope s.heap.objs.size f cdv)) → sp vs H Q E →
      ∃ t, PSs (L2H.cxH (L2.CX P w) P w K mg base N qual scope f cdv A outer s H E p) body t ∧ t { nx := fun _ H' => Q .non H', rt := Q } (L2.start N vs) H) : FnQ P w K mg base (k + 1) f fd ps sp := by
  obtain ⟨oc, od, dV, kV, doc, pm, an, cdv, ct, osl, rfl, lk, hcd, _, _⟩ := F.ex
  refine ⟨ln, fun p A outer s H args us vs Q E hr hpin e0 hbd r hsp => ?_⟩
  have hkin : K.In s.heap := e0.mod.kin.keeps fun a o e => (e0.bs a o e).1
  have hlim : s.heap.NoLimit := e0.mod.nolimit.keeps fun a o e => (e0.bs a o e).1
  refine codeAny_call_function hr.depth (hkin _ _ lk) rfl Sc.co Sc.gen rfl (PySem.W.codeRec_of hkin hcd) (hbd _ _ _ _ (wpAny_newFunctionEnv_cells Sc.kind (fun ⟨n, v⟩ hy => ?_) fun env he s1 inn => ?_))
  · exact (Sc.par n (List.of_mem_zip hy).1).imp id fun z => ⟨z, PySem.W.cellsFrom_some _ _ _ (.inl z)⟩
  · subst he
    obtain ⟨t, ht, hq⟩ := hb p cdv A outer s H vs Q E (hr.deeper _) hsp
    have I := L2H.inv_startH (CX := L2.CX P w) (E := E) Sc hpin e0 (ln _ _ _ _ hsp) r inn
    refine ⟨hlim.keeps inn.toInCall.keep, codeAny_func (wpAny_mono (ht.run [] s1 _ H _ I hq) (fun fl s' hs => ?_) fun _ _ z => z)⟩
    cases fl with
    | ret u => obtain ⟨v, _, H', J, rv, g⟩ := hs; exact ⟨v, H', J.os, J.bare, J.base, J.hok, rv, g⟩
    | next => obtain ⟨_, H', J, g⟩ := hs; exact ⟨.non, H', J.os, J.bare, J.base, J.hok, rfl, g⟩
    | brk => obtain ⟨_, _, _, g⟩ := hs; exact g.elim
    | cont => obtain ⟨_, _, _, g⟩ := hs; exact g.elim
theorem defq_ok {D ρ : Type} {As : D → List AP} {wp : D → Wp ρ} {res : ρ → RP} {Ms : ρ → List OP} {q : Str} {s : Stmt} (F : FnS K x q s f fd) (Sc : FnScope N ps (defScope s)) (Gs : D → List V → Hp → Gm) (Os : D → List V → Om) (Us : D → List V → ρ → Om)
    (hb : ∀ (p : Addr × Obj) (cdv : Value) (A : Around) (outer : List Env) (s' : Shared) (H0 L S : Hp) (Q : VK) (E : XK) (d : D) (vs : List V) (Pp : ρ → Prop) (Z : Er → Prop), vs.length = ps.length → N.Nodup → L2H.RoomH k (A.deeper (envOfC q (defScope s) s'.heap.objs.size f cdv)) →
      Fin ⟨S, L, .yes⟩ res (Us d vs) Pp Q →
      SW (L2H.cxH (L2.CX P w) P w K mg base N q (defScope s) f cdv A outer s' H0 E p) ⟨S, L, .yes⟩ (Gs d vs L) (Os d vs) (defBody s) { nx := fun _ H' => Q .non H', rt := Q } (wp d Pp Z))
    (hl : ∀ d, (As d).length = ps.length := by intro _; rfl) (hG : ∀ d vs L, vs.length = ps.length → gm1 (As d) vs L ++ List.replicate (N.length - (As d).length) none = Gs d vs L) (hO : ∀ d vs, vs.length = ps.length → mutO (As d) vs (ownP (As d)) = Os d vs) (hU : ∀ d vs r, vs.length = ps.length → mutO (As d) vs (Ms r) = Us d vs r) : FnQ P w K mg base (k + 1) f fd ps (spW K As wp res Ms) := by
  refine fnq_of F Sc (fun vs H Q E h => ?_) (fun p cdv A outer s' H vs Q E hr h => ?_)
  · obtain ⟨d, S, A, Pp, Z, h⟩ := h
    rw [h.ar.length, hl]
  · obtain ⟨d, S, A', Pp, Z, h⟩ := h
    have hv : vs.length = ps.length := by rw [h.ar.length, hl]
    have e1 := stt1 (N := N) h.sm h.nd h.fr h.ar
    rw [hG d vs _ hv, hO d vs hv] at e1
    exact hb p cdv A outer s' H (minus H A') S Q E d vs Pp Z hv Sc.nd hr ⟨fun r v S' H' pp z => h.q r v S' H' pp (by rw [hU d vs r hv]; exact z)⟩ h.w S H _ e1
end
section
variable {X : Cx} {B : Bs} {Γ : Gm} {O : Om} {x : Str} {p pos : Pos} {e : Expr} {es : List Expr} {k : Nat} {ps : List Str} {D ρ τ : Type} {As : D → List AP} {wp : D → Wp ρ} {res : ρ → RP} {Ms : ρ → List OP} {F : τ → List AA} {w : Wp τ} {N : List (V × OP)}
theorem room_q {k : Nat} {A : Around} {v : Option Value} (r : Room k A) : L2H.RoomH k (A.mark v) := ⟨r.dp, r.un⟩
theorem pe_callQ {CE : L2.St → XK} {f : Addr} {fd : FuncData} {sp : Sp} {t : TA} {q : Addr × Obj} (F : FnQ X.prog X.w X.K X.mg X.base k f fd ps sp) (hr : L2H.RoomH k X.A) (hq : q ∈ X.pn) (hg : Gl X x) (hm : X.mg x = some (.ref f)) (hk : PySem.W.keepIn X.K (.ref f) = true) (hb : Binds X.K fd ps [])
    (hx : ∀ σ, PassesAt (L2.CX X.prog X.w) X σ (CE σ)) (ha : PA X (e :: es) t) (hdb : (x == ("__debug__" : Str)) = false := by decide) (he : starEach (e :: es) X.env = (false, eval e X.env) :: starEach es X.env := by rfl) (hpl : (backTo pos (starEach es X.env)).any (·.1) = false := by rfl) :
    PE X (.Call (.Name x p) (e :: es) [] pos) (tCallSD sp [] CE t) := by
  refine ⟨fun pins s σ H Q I h => wpAny_Call_Name_kw (ld_glob I hg hm (PySem.W.callWith_K (h₀ := X.base) I.ok.mod.kin hk (thn (ha.run pos pins s σ H _ I h) fun us s1 ⟨vs, H1, J, r, z⟩ => ⟨J.kIn, ?_⟩) he hpl) hdb)⟩
  replace z : sp (vs ++ []) H1 Q (CE σ) := z
  rw [List.append_nil] at z
  have hl : us.length = ps.length := by rw [← r.length]; exact F.ln _ _ _ _ z
  have b := hb s1 us J.kIn (by rw [List.append_nil]; exact hl)
  rw [List.append_nil] at b
  obtain ⟨g1, g2, g3, g4, g5⟩ := J.pin q (List.mem_append_left _ hq)
  refine wpAny_call (codeAny_mono (F.go q X.A X.stack s1 H1 ⟨us, []⟩ us vs Q (CE σ) hr ⟨g1, g2, fun m => (List.mem_cons.mp (J.stkSub q.1 m)).elim g3 g4, g5⟩ J.env0 b r z) fun rr s' o => ?_)
  cases rr with
  | error _ => exact hx σ pins H1 s1 _ s' J o
  | ok fl => cases fl with
    | ret _ => exact J.after o
    | next => exact o.elim
    | brk => exact o.elim
    | cont => exact o.elim
theorem w_fnQ {a : Addr} {o : Obj} {pn : List (Addr × Obj)} {f : ρ → MP} (G : GFQ X.prog X.w X.K X.mg X.base x k ps (spW X.K As wp res Ms)) (hr : Room k X.A) (d : τ → D) (ha : AW (X.suite a ((a, o) :: pn)) B Γ O (fun _ => False) N (e :: es) F w) (hA : ∀ t, ArgM (F t) (As (d t)) []) (hf : ∀ r, res r = .v (f r) := by intro _; rfl)
    (hg : Gl X x := by rfl) (hdb : (x == ("__debug__" : Str)) = false := by decide) (he : starEach (e :: es) X.env = (false, eval e X.env) :: starEach es X.env := by rfl) (hpl : (backTo pos (starEach es X.env)).any (·.1) = false := by rfl) : EW (X.suite a ((a, o) :: pn)) B Γ O (fun _ => False) (.Call (.Name x p) (e :: es) [] pos) f (W.bind w fun t => wp (d t)) := by
  obtain ⟨g, fd, G, hm, hk, hb⟩ := G
  intro S H σ st P Q pp n
  refine ⟨_, pe_callQ (X := X.suite a ((a, o) :: pn)) G (room_q hr) List.mem_cons_self hg hm hk hb (fun σ => passAt (hd_never (B := B) (Γ := Γ) (O := O)).tk σ) pa_w hdb he hpl, ha.2 S H σ st _ _ pp fun t vs S1 H1 p1 s1 t1 r1 => ?_⟩
  show spW X.K As wp res Ms (vs ++ []) H1 Q (WE (fun _ _ _ _ => False) σ)
  rw [List.append_nil]
  refine call_go (M := []) (R := O) hd_never (d t) (hA t) (.refl _) ha.1 t1 r1 p1 fun r v S' H' p2 s2 h => ?_
  rw [hf r] at h
  exact n r v S' H' p2 (s1.trans s2) h.1 h.2
end
end OW
namespace OW
open PySem PySem.Spec PyProof.Rows L2 OT NdefX
section
variable {X : Cx} {B : Bs} {Γ : Gm} {O : Om} {Z : Er → Prop} {p pos : Pos} {a b c : Expr}
def rngs (m c : Int) (n : Nat) : List Int := (List.range n).map fun i : Nat => m + c * (i : Int)
end
section
variable {X : Cx} {B : Bs} {Γ : Gm} {O : Nat → Om} {O1 : Om} {Z : Er → Prop} {n : Nat} {e ix : Expr} {nm : Str} {p1 pos pos' apos : Pos} {rest : List Stmt} {D : Ends} {α : Type}
end
end OW
namespace OW
open PySem PySem.Spec PySem.W PyProof.Rows L2 OT
abbrev kI (q : Str × Int) : Key × V := (kS q.1, .int q.2)
section
variable {P : Program} {w : World} {A : Around} {s : Shared}
end
section
variable {X : Cx}
variable {B : Bs} {Γ : Gm} {O N : Om} {Z : Er → Prop} {a b : Expr} {pos : Pos} {wa wb : Wp (List (Str × Int))}
end
section
variable {X : Cx} {B : Bs} {Γ : Gm} {O : Om} {Z : Er → Prop} {nm : Str} {p1 pos pos' apos : Pos} {rest : List Stmt} {D : Ends} {α : Type}
end
end OW
namespace PySem.W
open PySem PySem.Spec PySem.Calls PyProof.Rows
end PySem.W
namespace OW
open PySem PySem.Spec PyProof.Rows L2 OT NdefX
def rIsX (D a : Addr) : List V → Hp → VK → Prop := fun xs H Q => xs = [.ref a, .ref D] ∧ Q (.bl true) H
section
variable {X : Cx} {B : Bs} {Γ : Gm} {O : Om} {Z Zb : Er → Prop} {D : Ends} {rest body : List Stmt} {Wx : WX} {done : List Str} {hds : List ExceptHandler} {pos pos' np p p1 p2 : Pos} {δ : Type} {cx n : Str} {b₀ : Stmt} {suite : List Stmt} {c : Expr}
end
end OW
namespace OW
open PySem PySem.Spec PyProof.Rows L2 OT NdefX
section
variable {X : Cx} {B : Bs} {Γ : Gm} {O N N' : Om} {Z : Er → Prop} {a b : Expr} {pos : Pos} {α β τ : Type}
variable {Dt : Type} {As : Dt → List AP} {k : Nat} {ps : List Str} {C : Addr} {ba : β → BP} {wa : Wp β} {bo : α → BP} {wo : Wp α}
variable {wp : Dt → Wp Bool} {res : Bool → RP} {Ms : Bool → List OP}
end
end OW
namespace OW
open PySem PySem.Spec PyProof.Rows L2 OT NdefX
structure Mac where
  beginnings : Ord
  standings : Ord
  table : List (Str × Chn)
deriving DecidableEq
def tMac (K : PySem.W.Frag) (m : Mac) : MP := tO (He.ga K "Machine") [("beginnings", tOrd K m.beginnings), ("standings", tOrd K m.standings), ("table", tDs (tChn K) m.table)]
section
variable {α β : Type} {F : β → OP}
def sumF (F : β → OP) : β ⊕ V → OP
  | .inl b => F b
  | .inr v => MP.o (tV v)
def detach (kvs : List (Str × β)) (j : Str) (z : V) : List (Str × (β ⊕ V)) := kvs.map fun q => (q.1, if q.1 = j then .inr z else .inl q.2)
theorem detach_no {j : Str} {z : V} : ∀ {xs : List (Str × β)}, j ∉ xs.map (·.1) → detach xs j z = xs.map fun q => (q.1, .inl q.2)
  | [], _ => rfl
  | x :: xs, h => by
    have h1 : ¬ x.1 = j := fun e => h (by rw [← e]; exact List.mem_cons_self)
    show (x.1, if x.1 = j then _ else _) :: detach xs j z = _
    rw [if_neg h1, detach_no fun z => h (List.mem_cons_of_mem _ z)]
    rfl
theorem KvO.inl {S H : Hp} {A : List Addr} {vs : List (Key × V)} {xs : List (Str × β)} : KvO ((xs.map fun q => (q.1, (Sum.inl q.2 : β ⊕ V))).map fun q => (kS q.1, sumF F q.2)) S H A vs ↔ KvO (xs.map fun q => (kS q.1, F q.2)) S H A vs := by
  rw [List.map_map]
  rfl
theorem KvO.keysK {S H : Hp} : ∀ {xs : List (Str × β)} {A : List Addr} {vs : List (Key × V)}, KvO (xs.map fun q => (kS q.1, F q.2)) S H A vs → vs.map (·.1) = xs.map fun q => kS q.1
  | [], _, [], _ => rfl
  | [], _, _ :: _, h => h.elim
  | _ :: _, _, [], h => h.elim
  | x :: xs, A, v :: vs, ⟨e, A1, A2, _, _, h⟩ => by
    rw [List.map_cons, List.map_cons, KvO.keysK h, e]
theorem KvO.apart {S H : Hp} {j : Str} {x : β} : ∀ {xs : List (Str × β)} {A : List Addr} {vs : List (Key × V)}, KvO (xs.map fun q => (kS q.1, F q.2)) S H A vs → (vs.map (·.1)).Nodup → dget xs j = some x →
    ∃ z A1 A2, valV vs (kS j) = some z ∧ A.Perm (A1 ++ A2) ∧ (F x).R S H A1 z ∧ KvO ((detach xs j z).map fun q => (kS q.1, sumF F q.2)) S H A2 vs
  | [], _, [], _, _, e => by simp [dget] at e
  | [], _, _ :: _, z, _, _ => z.elim
  | _ :: _, _, [], z, _, _ => z.elim
  | (k, y) :: xs, A, (k', w) :: vs, ⟨e0, B1, B2, eA, h1, h2⟩, nd, e => by
    have e0' : k' = kS k := e0.symm
    subst e0' eA
    obtain ⟨n1, n2⟩ := List.nodup_cons.mp nd
    by_cases ek : k = j
    · subst ek
      have e1 : dget ((k, y) :: xs) k = some y := by simp [dget, List.find?_cons]
      rw [e1] at e
      cases e
      refine ⟨w, B1, B2, valV_pos rfl, .refl _, h1, ?_⟩
      show KvO ((kS k, sumF F (if k = k then _ else _)) :: ((detach xs k w).map fun q => (kS q.1, sumF F q.2))) S H B2 ((kS k, w) :: vs)
      rw [if_pos rfl]
      refine ⟨rfl, [], B2, rfl, ⟨rfl, rfl⟩, ?_⟩
      rw [detach_no fun z => n1 (by
        rw [KvO.keysK h2]
        obtain ⟨q, hq, e⟩ := List.mem_map.mp z
        exact List.mem_map.mpr ⟨q, hq, by rw [← e]⟩)]
      exact KvO.inl.mpr h2
    · have e1 : dget ((k, y) :: xs) j = dget xs j := by simp [dget, List.find?_cons, ek]
      rw [e1] at e
      obtain ⟨z, A1, A2, g1, g2, g3, g4⟩ := KvO.apart h2 n2 e
      refine ⟨z, A1, B1 ++ A2, ?_, ?_, g3, ?_⟩
      · rw [valV_neg (fun c => ek (by cases c; rfl))]
        exact g1
      · refine (List.Perm.append_left B1 g2).trans ?_
        rw [← List.append_assoc, ← List.append_assoc]
        exact List.Perm.append_right A2 List.perm_append_comm
      · show KvO ((kS k, sumF F (if k = j then _ else _)) :: ((detach xs j z).map fun q => (kS q.1, sumF F q.2))) S H (B1 ++ A2) ((kS k, w) :: vs)
        rw [if_neg ek]
        exact ⟨rfl, B1, A2, rfl, h1, g4⟩
theorem KvO.back {S H : Hp} {j : Str} {x : β} {z : V} {A1 : List Addr} (hx : (F x).R S H A1 z) : ∀ {xs : List (Str × β)} {A2 : List Addr} {vs : List (Key × V)}, KvO ((detach xs j z).map fun q => (kS q.1, sumF F q.2)) S H A2 vs → (vs.map (·.1)).Nodup → j ∈ xs.map (·.1) →
    ∃ A, A.Perm (A1 ++ A2) ∧ KvO ((dput xs j x).map fun q => (kS q.1, F q.2)) S H A vs
  | [], _, _, _, _, h => by cases h
  | _ :: _, _, [], z, _, _ => z.elim
  | (k, y) :: xs, A2, (k', w) :: vs, h, nd, hj => by
    have h : KvO ((kS k, sumF F (if k = j then .inr z else .inl y)) :: ((detach xs j z).map fun q => (kS q.1, sumF F q.2))) S H A2 ((k', w) :: vs) := h
    obtain ⟨e0, B1, B2, eA, h1, h2⟩ := h
    have e0' : k' = kS k := e0.symm
    subst e0' eA
    obtain ⟨n1, n2⟩ := List.nodup_cons.mp nd
    have keys : vs.map (·.1) = xs.map fun q => kS q.1 := by
      have := KvO.keysK h2
      rw [this]
      unfold detach
      rw [List.map_map]
      rfl
    by_cases ek : k = j
    · subst ek
      rw [if_pos rfl] at h1
      obtain ⟨e1, e2⟩ := h1
      have e2 : w = z := e2
      subst e1 e2
      refine ⟨A1 ++ B2, by simp, ?_⟩
      have e3 : dput ((k, y) :: xs) k x = (k, x) :: xs := by simp [dput]
      rw [e3]
      refine ⟨rfl, A1, B2, rfl, hx, ?_⟩
      rw [detach_no fun q => n1 (by
        rw [keys]
        obtain ⟨r, hr, e⟩ := List.mem_map.mp q
        exact List.mem_map.mpr ⟨r, hr, by rw [← e]⟩)] at h2
      exact KvO.inl.mp h2
    · rw [if_neg ek] at h1
      obtain ⟨A, g1, g2⟩ := KvO.back hx h2 n2 ((List.mem_cons.mp hj).resolve_left fun e => ek e.symm)
      have e3 : dput ((k, y) :: xs) j x = (k, y) :: dput xs j x := by simp [dput, ek]
      rw [e3]
      refine ⟨B1 ++ A, ?_, rfl, B1, A, rfl, h1, g2⟩
      refine (List.Perm.append_left B1 g1).trans ?_
      rw [← List.append_assoc, ← List.append_assoc]
      exact List.Perm.append_right B2 List.perm_append_comm
variable {B : Bs} {Γ : Gm} {O : Om}
theorem Stt.apart {S H : Hp} {σ : L2.St} {u : V} {kvs : List (Str × β)} {j : Str} {x : β} (t : Stt B Γ ((u, oDn F kvs) :: O) S H σ) (e : dget kvs j = some x) : ∃ z y vs, u = .ref y ∧ H y = some (.dK vs) ∧ valV vs (kS j) = some z ∧ Stt B Γ ((z, F x) :: (u, oDn (sumF F) (detach kvs j z)) :: O) S H σ := by
  obtain ⟨A, nd, hA, A1, A2, eA, ⟨y, vs, A', e1, e2, e3, nk, e4⟩, q⟩ := t.own
  obtain ⟨z, B1, B2, g1, g2, g3, g4⟩ := KvO.apart e4 nk e
  refine ⟨z, y, vs, e1, e3, g1, t.st, t.slot, t.len, ⟨B1 ++ ((y :: B2) ++ A2), ?_, ?_, B1, _, rfl, g3, y :: B2, A2, rfl, ⟨y, vs, B2, e1, rfl, e3, nk, g4⟩, q⟩, t.gh⟩
  · have p : A.Perm (B1 ++ ((y :: B2) ++ A2)) := by
      rw [eA, e2, ← List.append_assoc]
      refine List.Perm.append_right A2 ?_
      exact (List.Perm.cons y g2).trans List.perm_middle.symm
    exact p.nodup_iff.mp nd
  · intro a ha
    have p : A.Perm (B1 ++ ((y :: B2) ++ A2)) := by
      rw [eA, e2, ← List.append_assoc]
      refine List.Perm.append_right A2 ?_
      exact (List.Perm.cons y g2).trans List.perm_middle.symm
    exact hA a (p.mem_iff.mpr ha)
theorem Stt.back {S H : Hp} {σ : L2.St} {u z : V} {kvs : List (Str × β)} {j : Str} {x : β} (t : Stt B Γ ((z, F x) :: (u, oDn (sumF F) (detach kvs j z)) :: O) S H σ) (hj : j ∈ kvs.map (·.1)) : Stt B Γ ((u, oDn F (dput kvs j x)) :: O) S H σ := by
  obtain ⟨A, nd, hA, A1, A2, eA, g3, A3, A4, eA2, ⟨y, vs, A', e1, e2, e3, nk, e4⟩, q⟩ := t.own
  obtain ⟨C, c1, c2⟩ := KvO.back (F := F) (x := x) (z := z) g3 e4 nk hj
  have p : A.Perm ((y :: C) ++ A4) := by
    rw [eA, eA2, e2, ← List.append_assoc]
    refine List.Perm.append_right A4 ?_
    exact List.perm_middle.trans (List.Perm.cons y c1.symm)
  exact ⟨t.st, t.slot, t.len, ⟨(y :: C) ++ A4, p.nodup_iff.mp nd, fun a ha => hA a (p.mem_iff.mpr ha), y :: C, A4, rfl, ⟨y, vs, C, e1, rfl, e3, nk, c2⟩, q⟩, t.gh⟩
def mxF (f : α → MP) (q : Bool × List (Str × α)) : OP := if q.1 = true then oDs f q.2 else MP.o (tDs f q.2)
end
end OW
namespace OW
open PySem PySem.Spec PyProof.Rows L2 OT NdefX
section
variable {α β : Type} {F : β → OP}
end
section
variable {X : Cx} {B : Bs} {Γ : Gm} {O : Om} {Z : Er → Prop} {e a b ix ix2 : Expr} {p p1 p2 p3 p4 pos pos' apos : Pos} {D : Ends} {rest body : List Stmt} {α β : Type} {nm x : Str} {f : α → MP} {F : β → OP} {G : α → OP}
theorem SW.back {u z : V} {kvs : List (Str × β)} {j : Str} {y : β} {q : Prop} (hj : j ∈ kvs.map (·.1)) (h : SW X B Γ ((u, oDn F (dput kvs j y)) :: O) body D q) : SW X B Γ ((z, F y) :: (u, oDn (sumF F) (detach kvs j z)) :: O) body D q := fun hp S H σ t => h hp S H σ (t.back hj)
end
section
variable {X : Cx} {B : Bs} {Γ : Gm} {O : Nat → Om} {O1 : Om} {Z : Er → Prop} {n : Nat} {e r ix : Expr} {p p1 p2 pos pos' : Pos} {D : Ends} {rest : List Stmt} {α : Type} {f : α → MP}
end
def oPr (P : OP) (x : Str) : OP := ⟨fun S H A u => ∃ p v A', u = .ref p ∧ A = p :: A' ∧ H p = some (.tup [.str x, v]) ∧ P.R S H A' v, fun e hA ⟨p, v, A', h1, h2, h3, h4⟩ => ⟨p, v, A', h1, h2, by rw [hA p (by rw [h2]; exact List.mem_cons_self)]; exact h3, P.fr e (fun a ha => hA a (by rw [h2]; exact List.mem_cons_of_mem _ ha)) h4⟩⟩
def tupH (o : HO) : OP := ⟨fun S H A u => ∃ p, u = .ref p ∧ A = [p] ∧ H p = some o, fun e hA ⟨p, h1, h2, h3⟩ => ⟨p, h1, h2, by rw [hA p (by rw [h2]; exact List.mem_cons_self)]; exact h3⟩⟩
section
variable {X : Cx} {B : Bs} {Γ : Gm} {O : Om} {Z : Er → Prop} {a b e : Expr} {p pos : Pos} {α : Type} {F : α → OP}
theorem AllO.pairs {S H : Hp} : ∀ {xs : List (Str × α)} {A : List Addr} {vs : List V}, AllO (xs.map fun q => oPr (F q.2) q.1) S H A vs → A.Nodup → ∃ (ps : List Addr) (kvs : List (Key × V)) (A2 : List Addr), vs = ps.map V.ref ∧ (∀ K : PySem.W.Frag, Paired (fun p kv => SqT K H p [kV kv.1, kv.2]) ps kvs) ∧ A2.Nodup ∧ (∀ z ∈ A2, z ∈ A) ∧ KvO (xs.map fun q => (kS q.1, F q.2)) S H A2 kvs
  | [], _, [], _, _ => ⟨[], [], [], rfl, fun _ => .nil, List.nodup_nil, (fun _ h => by cases h), rfl⟩
  | [], _, _ :: _, h, _ => h.elim
  | _ :: _, _, [], h, _ => h.elim
  | x :: xs, A, v :: vs, ⟨B1, B2, eA, ⟨p, w, A', e1, e2, e3, e4⟩, h2⟩, nd => by
    subst eA e2 e1
    obtain ⟨n1, n2, n3⟩ := List.nodup_append.mp nd
    obtain ⟨ps, kvs, A2, g1, g2, g3, g4, g5⟩ := AllO.pairs h2 n2
    refine ⟨p :: ps, (kS x.1, w) :: kvs, A' ++ A2, by rw [g1]; rfl, fun K => .cons (SqT.of e3) (g2 K), List.nodup_append.mpr ⟨(List.nodup_cons.mp n1).2, g3, fun c hc d hd => n3 c (List.mem_cons_of_mem _ hc) d (g4 d hd)⟩, fun z hz => ?_, rfl, A', A2, rfl, e4, g5⟩
    rcases List.mem_append.mp hz with y | y
    · exact List.mem_append_left _ (List.mem_cons_of_mem _ y)
    · exact List.mem_append_right _ (g4 z y)
end
section
variable {X : Cx} {B : Bs} {Γ : Gm} {O : Nat → Om} {Z : Er → Prop} {n : Nat} {e : Expr} {p pos : Pos} {α : Type} {F : α → OP}
end
end OW
namespace OW
open PySem PySem.Spec PyProof.Rows L2 OT NdefX
section
variable {X : Cx} {α : Type} [DecidableEq α] {f : α → MP} {n : Nat}
end
section
variable {X : Cx} {B : Bs} {Γ : Gm} {O N N' : Om} {Z : Er → Prop} {a b : Expr} {pos : Pos} {α : Type} [DecidableEq α] {f : α → MP} {n : Nat} {wa wb : Wp (List (Str × α))} {Pg : α → α → Prop}
def dgd (Pg : α → α → Prop) (xs ys : List (Str × α)) : Prop := ∀ q ∈ xs, ∀ z, dget ys q.1 = some z → Pg q.2 z
end
section
variable {X : Cx} {α : Type} {Dt : Type} {As : Dt → List AP} {k : Nat} {ps : List Str} {C : Addr} {wp : Dt → Wp Bool} {res : Bool → RP} {Ms : Bool → List OP}
end
end OW
namespace OW
open PySem PySem.Spec PyProof.Rows L2 OT NdefX
section
variable {X : Cx} {B : Bs} {Γ : Gm} {O : Om} {Z : Er → Prop} {pos : Pos} {β : Type}
end
section
variable {X : Cx} {B : Bs} {Γ : Gm} {O N : Om} {Z : Er → Prop} {e : Expr} {α : Type} {f : α → MP}
theorem r_dzs {g : α → Dz} {w : Wp (List α)} (h : RW X B Γ O Z N e (rL f) w) (hg : DzC X.K f g) : RW X B Γ O Z N e (rL (tDz X.K)) (W.bind w fun xs => W.ret (xs.map g)) := ⟨h.1, fun S H σ st P Q p n => h.2 S H σ st _ Q p fun xs v S' H' p1 s1 t1 r1 => n (xs.map g) v S' H' p1 s1 t1 fun Γ2 O2 S2 H2 σ2 s2 t2 hn => by
  obtain ⟨q, vs, e1, h1, h2⟩ := r1 Γ2 O2 S2 H2 σ2 s2 t2 hn
  refine ⟨q, vs, e1, h1, AllM.toB ?_⟩
  have h3 := AllM.cz hg (AllR.toM h2)
  rw [tDzs_map] at h3
  exact h3⟩
end
section
variable {X : Cx} {B : Bs} {Γ : Gm} {O : Om} {Z : Er → Prop} {e : Expr} {pos pos' apos : Pos} {rest : List Stmt} {D : Ends} {α : Type}
end
def zTop : Dz → Dz → Bool
  | .d _, .d _ => true
  | .s _, .s _ => true
  | _, _ => false
abbrev W.neZ1 (n : Nat) (x y : Dz) : Wp Bool := fun Q _ => ∃ r, Dz.cmp x y = some r ∧ x.dep ≤ n ∧ zTop x y = true ∧ Q (!r)
section
variable {X : Cx} {B : Bs} {Γ : Gm} {O : Om} {Z : Er → Prop} {a b : Expr} {pos : Pos}
end
end OW
namespace OW
open PySem PySem.Spec PyProof.Rows L2 OT NdefX
section
variable {X X' : Cx} {B : Bs} {Γ : Gm} {O Oh : Om} {Z Zb : Er → Prop} {e : Expr} {D D' : Ends} {rest body : List Stmt} {hds : List ExceptHandler} {pos : Pos} {Wx : WX}
end
end OW
namespace OW
open PySem PySem.Spec PyProof.Rows L2 OT NdefX
section
variable {X : Cx} {α β γ : Type} {n : Nat}
end
section
variable {X : Cx} {α β γ : Type} {n : Nat}
end
section
variable {X : Cx} {B : OT.Bs} {Γ : OT.Gm} {O : OT.Om} {i1 i2 : Nat} {n1 n2 z1 z2 : Str} {j1 j3} {p1 p2 p3 p4 p5 p6 p7 : Pos}
end
section
variable {X : Cx} {B : Bs} {Γ : Gm} {O N : Om} {Z : Er → Prop} {e1 e2 e3 : Expr} {x : Str} {p pos pos' : Pos} {rest : List Stmt} {D : Ends} {k : Nat} {ps : List Str} {Wx : WX}
end
section
variable {X : Cx} {B : Bs} {Γ : Gm} {O : Nat → Om} {Z : Er → Prop} {n : Nat} {e : Expr} {p pos : Pos} {α : Type} {f : α → MP}
end
end OW
namespace OW
open PySem PySem.Spec PyProof.Rows L2 OT NdefX
def tZo (K : PySem.W.Frag) : Dz ⊕ Ord → MP
  | .inl x => tDz K x
  | .inr o => tOrd K o
def zoOk (n : Nat) : Dz ⊕ Ord → Dz ⊕ Ord → Prop
  | .inl x, .inl y => Dz.cmp x y = some true ∧ x.dep ≤ n
  | .inr a, .inr b => a = b ∧ deq a.above a.above = true
  | _, _ => False
def zosOk (n : Nat) : List (Dz ⊕ Ord) → List (Dz ⊕ Ord) → Prop
  | [], [] => True
  | x :: xs, y :: ys => zoOk n x y ∧ zosOk n xs ys
  | _, _ => False
abbrev W.eqO (n : Nat) (xs ys : List (Dz ⊕ Ord)) : Wp Bool := fun Q _ => zosOk n xs ys ∧ Q true
abbrev W.neO (n : Nat) (xs ys : List (Dz ⊕ Ord)) : Wp Bool := fun Q _ => zosOk n xs ys ∧ Q false
section
variable {X : Cx} {α Dt : Type} {C : Addr} {k : Nat} {ps : List Str}
end
section
variable {X : Cx} {B : Bs} {Γ : Gm} {O N N' : Om} {Z : Er → Prop} {a b e : Expr} {pos : Pos} {wa wb : Wp (List (Dz ⊕ Ord))}
end
section
variable {X : Cx} {C : Addr} {k : Nat} {m : MP}
end
section
variable {X : Cx} {B : Bs} {Γ : Gm} {O : Om} {Z : Er → Prop} {e1 e2 : Expr} {x : Str} {p pos pos' : Pos} {rest : List Stmt} {D : Ends} {k : Nat} {ps : List Str} {Wx : WX} {α β : Type} {f : α → MP} {g : β → MP}
end
end OW
namespace OW
open PySem PySem.Spec PyProof.Rows L2 OT NdefX
section
variable {X : Cx} {B : Bs} {Γ : Gm} {O : Om} {α : Type} {f : α → MP}
end
section
variable {X : Cx} {B : Bs} {Γ : Gm} {O : Om} {Z : Er → Prop} {e : Expr} {pos pos' : Pos} {rest : List Stmt} {D : Ends} {nm : Str} {α : Type} {f : α → MP}
end
section
variable {X : Cx} {B : Bs} {Γ : Gm} {O : Om} {Z : Er → Prop} {e : Expr} {α : Type}
end
end OW
namespace OW
open PySem PySem.Spec PyProof.Rows L2
open PySem.HandSPX (TracedZ HeldZ FlyingZ Steady)
section
variable {B h h' : Heap} {C a L : Addr} {Z : Obj → Prop} {fl : Value} {m m' : Str → Option Value} {l : List Env}
end
section
variable {M : Model} {A : Around} {E : Value → Shared → Prop} {s' : Shared} {B : Heap} {env cenv : Env} {outer l : List Env} {a L : Addr} {Z : Obj → Prop} {m : Str → Option Value}
end
abbrev blkE (X : Cx) (s : Shared) (H : Hp) (scope : Scope) (cenv : Env) (fp : List Addr) (W : WX) : Cx := (X.blk s H scope cenv fp).wish (fun u s' => XE (X.blk s H scope cenv fp) W u s')
section
variable {X : Cx} {pins : List (Addr × Obj)} {σ : L2.St} {H3 : Hp} {s3 s' : Shared} {scope : Scope} {ce : Env} {fp : List Addr} {W Wb : WX} {u : Value}
end
end OW
namespace OW
open PySem PySem.Spec PyProof.Rows L2
section
variable {X : Cx} {W Wb : WX}
end
end OW
namespace OW
open PySem PySem.Spec PyProof.Rows L2 OT NdefX
section
variable {X : Cx} {B : Bs} {Γ : Gm} {O N N' : Om} {Z : Er → Prop} {Wd : WX} {p p1 p2 pos pos' apos : Pos} {D : Ends} {rest body els : List Stmt} {α β γ τ : Type} {f : α → MP}
def W.dcompE {α β : Type} (c : α → Wp Bool) (k : α → Wp Str) (v : α → Wp β) (xs : List α) : Wp (List (Str × β)) := fun Q E => xs.length ≤ 100000 ∧ W.dcomp c k v xs [] Q E
def BlkE (X : Cx) (scope : Scope) (Wb : WX) (P : Cx → Prop) : Prop := ∀ (s : Shared) (H : Hp) (C : Addr) (cl : List (Str × Addr)) (fp : List Addr), P (blkE X s H scope (compEnvC scope cl C X.env) fp Wb)
def Gho.since (G : Gho) (S1 : Hp) : Gho := ⟨fun S => G.R S ∧ Same S1 S, fun e h => ⟨G.up e h.1, h.2.trans e⟩⟩

end
end OW
namespace OW
open PySem PySem.Spec PyProof.Rows L2
section
variable {X : Cx} {W Wb : WX}
end
open OT NdefX
section
variable {X : Cx} {B : Bs} {Γ : Gm} {O N N' : Om} {Z : Er → Prop} {Wd : WX} {p p1 p2 pos pos' apos : Pos} {D : Ends} {rest body els : List Stmt} {α β γ τ : Type} {f : α → MP}
def W.compE {α β : Type} (c : α → Wp Bool) (g : α → Wp β) (xs : List α) : Wp (List β) := fun Q E => xs.length ≤ 100000 ∧ W.comp c g xs Q E
end
end OW
namespace OW
open PySem PySem.Spec PyProof.Rows L2 OT NdefX
section
variable {X : Cx} {B : Bs} {Γ : Gm} {O N N' : Om} {Z : Er → Prop} {Wd : WX} {p p1 p2 pos pos' apos : Pos} {D : Ends} {rest body els : List Stmt} {α β γ τ : Type} {f : α → MP}
end
end OW
namespace OW
open PySem PySem.Spec PyProof.Rows L2 OT NdefX
def DzI {α : Type} (K : PySem.W.Frag) (f : α → MP) (g : α → Dz) : Prop := ∀ a S v, (tDz K (g a)).R S v → (f a).R S v
theorem di_int {K : PySem.W.Frag} : DzI K tI .i := fun _ _ _ h => by rw [tDz] at h; exact h
theorem di_str {K : PySem.W.Frag} : DzI K tS .s := fun _ _ _ h => by rw [tDz] at h; exact h
theorem di_dy {K : PySem.W.Frag} : DzI K (tDz K) (fun z : Dz => z) := fun _ _ _ h => h
theorem AllM.iz {α : Type} {K : PySem.W.Frag} {f : α → MP} {g : α → Dz} (h : DzI K f g) {S : Hp} : ∀ {xs : List α} {vs : List V}, AllM (tDzs K (xs.map g)) S vs → AllM (xs.map f) S vs
  | [], [], r => trivial
  | [], _ :: _, r => by rw [List.map_nil, tDzs] at r; exact r.elim
  | _ :: _, [], r => by rw [List.map_cons, tDzs] at r; exact r.elim
  | x :: xs, v :: vs, r => by rw [List.map_cons, tDzs] at r; exact ⟨h _ _ _ r.1, AllM.iz h r.2⟩
theorem di_lst {α : Type} {K : PySem.W.Frag} {f : α → MP} {g : α → Dz} (h : DzI K f g) : DzI K (tLs K f) (fun xs => .l (xs.map g)) := fun xs S v r => by
  rw [tDz] at r
  obtain ⟨a, vs, h1, h2, h3⟩ := r
  exact ⟨a, vs, h1, h2, AllM.iz h h3⟩
theorem di_p2 {α β : Type} {K : PySem.W.Frag} {f : α → MP} {g : β → MP} {kf : α → Dz} {kg : β → Dz} (h1 : DzI K f kf) (h2 : DzI K g kg) : DzI K (tP2 K f g) (fun q => .t [kf q.1, kg q.2]) := fun q S v r => by
  rw [tDz] at r
  obtain ⟨a, vs, e1, k1, k2⟩ := r
  match vs, k2 with
  | [], k2 => simp only [tDzs] at k2; exact k2.elim
  | [_], k2 => simp only [tDzs] at k2; exact k2.2.elim
  | [x, y], k2 =>
    simp only [tDzs] at k2
    exact ⟨a, [x, y], e1, k1, h1 _ _ _ k2.1, h2 _ _ _ k2.2.1, trivial⟩
  | _ :: _ :: _ :: _, k2 => simp only [tDzs] at k2; exact k2.2.2.elim
section
variable {X : Cx} {B : Bs} {Γ : Gm} {O : Om} {Z : Er → Prop} {e : Expr} {α : Type} {f : α → MP}
theorem w_dzAs {g : α → Dz} {w : Wp Dz} (hi : DzI X.K f g) (h : EW X B Γ O Z e (tDz X.K) w) : EW X B Γ O Z e f (W.bind w fun d => fun P _ => ∃ x, d = g x ∧ P x) := fun S H σ st P Q p n =>
  h S H σ st (fun d => ∃ x, d = g x ∧ P x) Q p fun d v S1 H1 ⟨x, e, p1⟩ s1 t1 r1 => by
    subst e
    exact n x v S1 H1 p1 s1 t1 (hi x S1 v r1)
end
section
variable {X : Cx} {B : Bs} {Γ : Gm} {O N' : Om} {Z : Er → Prop} {e : Expr} {pos : Pos} {α Dt : Type} {C : Addr} {k : Nat} {ps : List Str} {As : Dt → List AP} {bo : α → BP} {wo : Wp α}
end
end OW
namespace OW
open PySem PySem.Spec PyProof.Rows L2
structure PGt (X : Cx) (target : Expr) (t : TG) : Prop where
  run : ∀ (pins : List (Addr × Obj)) (s : Shared) (σ : L2.St) (H : Hp) (v : V) (u : Value) (Q : L2.St → Hp → Prop), Inv X pins σ H s → RelV v u → t v σ H Q →
    wpAny (model X.prog X.w) X.A (assign target X.env u) (fun _ s' => 1 ≤ s'.toks ∧ ∃ σ' H', Inv X pins σ' H' s' ∧ Q σ' H') X.xe s
def wGt (X : Cx) (tg : Expr) : TG := fun v σ H Q => ∃ t, PGt X tg t ∧ t v σ H Q
def wET (X : Cx) (e : Expr) : TE := fun σ H Q => ∃ t, PET X e t ∧ t σ H Q
section
variable {X : Cx} {pos : Pos} {pins : List (Addr × Obj)} {σ : L2.St} {H : Hp} {s : Shared}
end
section
variable {X : Cx} {W Wb : WX}
end
open OT NdefX
section
variable (X : Cx) (B : Bs) (Γ : Gm) (O : Om) (Z : Er → Prop)
def GWt {α : Type} (e : Expr) (f : α → MP) (Os : α → V → Om) (w : Wp α) : Prop := ∀ S H σ, Stt B Γ O S H σ → ∀ (P : α → Prop) (Q : VK), w P Z → (∀ a v S' H', P a → Same S S' → Stt B Γ (Os a v) S' H' σ → (f a).R S' v → Q v H') → wET X e σ H Q
abbrev EWt {α : Type} (e : Expr) (f : α → MP) (w : Wp α) : Prop := GWt X B Γ O Z e f (fun _ _ => O) w
abbrev NWt {α : Type} (e : Expr) (f : α → OP) (w : Wp α) : Prop := GWt X B Γ O Z e (fun _ => tAny) (fun a v => (v, f a) :: O) w
end
def GJt (X : Cx) (B : Bs) (O : Om) (tg : Expr) (R : MP) (Γ Γ' : Gm) (js : List Nat) : Prop := ∀ S H σ v, Stt B Γ O S H σ → R.R S v → ∀ Q : L2.St → Hp → Prop, (∀ σ', Stt B Γ' O S H σ' → OT.Wp js σ σ' → Q σ' H) → wGt X tg v σ H Q
section
variable {X : Cx} {B : Bs} {Γ : Gm} {O N N' : Om} {Z : Er → Prop} {Wd : WX} {e a b o : Expr} {p p1 p2 pos pos' apos : Pos} {D : Ends} {rest body els : List Stmt} {α β γ τ : Type} {f : α → MP} {g : β → MP}
end
end OW
namespace OW
open PySem PySem.Spec PyProof.Rows L2 OT NdefX
structure KyT {κ : Type} (L : Hp) (ke : κ → List Key) (kf : κ → MP) : Prop where
  inj : ∀ a b, ke a = ke b → a = b
  is : ∀ a S v, (kf a).R S v → ∃ b, v = .ref b ∧ (S b = some (.tup ((ke a).map kV)) ∨ L b = some (.tup ((ke a).map kV)))
def kePr (q : Str × Str) : List Key := [kS q.1, kS q.2]
def keVs (xs : List Str) : List Key := xs.map kS
section
variable {κ α : Type} [DecidableEq κ] {ke : κ → List Key} {kf : κ → MP} {f : α → MP}
structure DpR (ke : κ → List Key) (f : α → MP) (kvs : List (κ × α)) (S : Hp) (vs : List (List Key × V)) : Prop where
  nd : (vs.map (·.1)).Nodup
  ks : vs.map (·.1) = kvs.map fun q => ke q.1
  vl : AllM (kvs.map fun q => f q.2) S (vs.map (·.2))
theorem DpR.up {kvs : List (κ × α)} {S S' : Hp} {vs : List (List Key × V)} (e : Same S S') (h : DpR ke f kvs S vs) : DpR ke f kvs S' vs := ⟨h.nd, h.ks, AllM.up e h.vl⟩
def oDp (ke : κ → List Key) (f : α → MP) (kvs : List (κ × α)) : OP := ⟨fun S H A v => ∃ p vs, v = .ref p ∧ A = [p] ∧ H p = some (.dT vs) ∧ DpR ke f kvs S vs,
  fun {S S' H H' A v} e hA ⟨p, vs, h1, h2, h3, h4⟩ => ⟨p, vs, h1, h2, by rw [hA p (by rw [h2]; exact List.mem_cons_self)]; exact h3, h4.up e⟩⟩
def bDp (ke : κ → List Key) (f : α → MP) (kvs : List (κ × α)) : BP := ⟨fun S H v => ∃ a vs, v = .ref a ∧ Rd H a (.dT vs) ∧ DpR ke f kvs S vs, fun e e' ⟨a, vs, h1, h2, h3⟩ => ⟨a, vs, h1, h2.elim (fun h => .inl (e' _ _ h)) (fun ⟨o, h⟩ => .inr ⟨o, e' _ _ h⟩), h3.up e⟩⟩
def tDp (ke : κ → List Key) (f : α → MP) (kvs : List (κ × α)) : MP := ⟨fun S v => ∃ a od vs, v = .ref a ∧ S a = some (.frz od (.dT vs)) ∧ DpR ke f kvs S vs, fun e ⟨a, od, vs, h1, h2, h3⟩ => ⟨a, od, vs, h1, e _ _ h2, h3.up e⟩⟩
theorem dp_get (inj : ∀ a b, ke a = ke b → a = b) {S : Hp} {k : κ} : ∀ {kvs : List (κ × α)} {vs : List (List Key × V)}, vs.map (·.1) = kvs.map (fun q => ke q.1) → AllM (kvs.map fun q => f q.2) S (vs.map (·.2)) → match dget kvs k with
    | some x => ∃ v, valV vs (ke k) = some v ∧ (f x).R S v
    | none => valV vs (ke k) = none
  | [], [], _, _ => rfl
  | [], _ :: _, h, _ => by cases h
  | _ :: _, [], h, _ => by cases h
  | (j, x) :: kvs, (j', v) :: vs, h, r => by
    rw [List.map_cons, List.map_cons] at h
    injection h with h1 h2
    have h1 : j' = ke j := h1
    subst h1
    by_cases e : j = k
    · subst e
      have e1 : dget ((j, x) :: kvs) j = some x := by simp [dget, List.find?_cons]
      rw [e1, valV_pos rfl]
      exact ⟨v, rfl, r.1⟩
    · have e1 : dget ((j, x) :: kvs) k = dget kvs k := by simp [dget, List.find?_cons, e]
      rw [e1, valV_neg (fun q => e (inj _ _ q))]
      exact dp_get inj h2 r.2
theorem DpR.has (inj : ∀ a b, ke a = ke b → a = b) {kvs : List (κ × α)} {S : Hp} {vs : List (List Key × V)} (h : DpR ke f kvs S vs) {k : κ} : (valV vs (ke k)).isSome = dhas kvs k := by
  have := dp_get inj (k := k) h.ks h.vl
  rw [dhas_get]
  cases e : dget kvs k with
  | none => rw [e] at this; rw [this] <;> rfl
  | some R => rw [e] at this; obtain ⟨v, h1, _⟩ := this; rw [h1] <;> rfl
theorem DpR.some (inj : ∀ a b, ke a = ke b → a = b) {kvs : List (κ × α)} {S : Hp} {vs : List (List Key × V)} (h : DpR ke f kvs S vs) {k : κ} {x : α} (e : dget kvs k = .some x) : ∃ v, valV vs (ke k) = .some v ∧ (f x).R S v := by
  have := dp_get inj (k := k) h.ks h.vl
  rw [e] at this
  exact this
theorem putK_eqG {κ : Type} [DecidableEq κ] {v : V} {k : κ} : ∀ {vs : List (κ × V)}, (vs.map (·.1)).Nodup → putK vs k v = dput vs k v
  | [], _ => rfl
  | q :: r, nd => by
    have nd' : q.1 ∉ r.map (·.1) ∧ (r.map (·.1)).Nodup := List.nodup_cons.mp nd
    have ih := putK_eqG (v := v) (k := k) nd'.2
    unfold dput
    by_cases e : q.1 = k
    · rw [if_pos e]
      unfold putK
      rw [if_pos (by simp [e]), List.map_cons, if_pos e]
      congr 1
      refine (List.map_congr_left fun z hz => ?_).trans (List.map_id _)
      have : z.1 ≠ k := fun y => nd'.1 (by rw [e, ← y]; exact List.mem_map_of_mem (f := fun z : κ × V => z.1) hz)
      simp [this]
    · rw [if_neg e, ← ih]
      unfold putK
      by_cases h : (r.any fun kv => decide (kv.1 = k)) = true
      · have h' : ((q :: r).any fun kv => decide (kv.1 = k)) = true := by rw [List.any_cons, h]; simp
        rw [if_pos h, if_pos h', List.map_cons, if_neg e]
      · have h' : ¬ ((q :: r).any fun kv => decide (kv.1 = k)) = true := by
          rw [List.any_cons]
          simpa [e] using h
        rw [if_neg h, if_neg h']
        rfl
theorem dp_put (inj : ∀ a b, ke a = ke b → a = b) {S : Hp} {k : κ} {x : α} {v : V} (hv : (f x).R S v) : ∀ {kvs : List (κ × α)} {vs : List (List Key × V)}, vs.map (·.1) = kvs.map (fun q => ke q.1) → AllM (kvs.map fun q => f q.2) S (vs.map (·.2)) →
    (dput vs (ke k) v).map (·.1) = (dput kvs k x).map (fun q => ke q.1) ∧ AllM ((dput kvs k x).map fun q => f q.2) S ((dput vs (ke k) v).map (·.2))
  | [], [], _, _ => ⟨rfl, hv, trivial⟩
  | [], _ :: _, h, _ => by cases h
  | _ :: _, [], h, _ => by cases h
  | (j, y) :: kvs, (j', w) :: vs, h, r => by
    rw [List.map_cons, List.map_cons] at h
    injection h with h1 h2
    have h1 : j' = ke j := h1
    subst h1
    by_cases e : j = k
    · subst e
      have d1 : dput ((j, y) :: kvs) j x = (j, x) :: kvs := by simp [dput]
      have d2 : dput ((ke j, w) :: vs) (ke j) v = (ke j, v) :: vs := by simp [dput]
      rw [d1, d2]
      exact ⟨by rw [List.map_cons, List.map_cons, h2], hv, r.2⟩
    · have d1 : dput ((j, y) :: kvs) k x = (j, y) :: dput kvs k x := by simp [dput, e]
      have d2 : dput ((ke j, w) :: vs) (ke k) v = (ke j, w) :: dput vs (ke k) v := by
        have : ¬ (ke j = ke k) := fun q => e (inj _ _ q)
        simp [dput, this]
      rw [d1, d2]
      obtain ⟨i1, i2⟩ := dp_put inj hv h2 r.2
      exact ⟨by rw [List.map_cons, List.map_cons, i1], r.1, i2⟩
theorem DpR.put (inj : ∀ a b, ke a = ke b → a = b) {kvs : List (κ × α)} {S : Hp} {vs : List (List Key × V)} (h : DpR ke f kvs S vs) {k : κ} {x : α} {v : V} (hv : (f x).R S v) : DpR ke f (dput kvs k x) S (putK vs (ke k) v) := by
  rw [putK_eqG h.nd]
  obtain ⟨h1, h2⟩ := dp_put inj hv h.ks h.vl
  exact ⟨dput_nodup h.nd, h1, h2⟩
end
section
variable {X : Cx} {B : Bs} {Γ : Gm} {O N N' : Om} {Z : Er → Prop} {e a b c o l ix : Expr} {es : List Expr} {p p1 p2 pos pos' apos : Pos} {D : Ends} {rest body els : List Stmt} {κ α β γ τ : Type} [DecidableEq κ] {x m nm fl : Str} {ke : κ → List Key} {kf : κ → MP} {f : α → MP}
abbrev W.getP {κ α : Type} [DecidableEq κ] (kvs : List (κ × α)) (k : κ) : Wp α := fun Q _ => ∃ x, dget kvs k = some x ∧ Q x
end
section
variable {X : Cx}
def mergeT (kvs more : List (List Key × V)) : List (List Key × V) := more.foldl (fun acc kv => putK acc kv.1 kv.2) kvs
theorem KT.merge {H : Hp} : ∀ {more : List (List Key × V)} {rs : List (List Key × Addr × Value)} {kvs : List (List Key × V)} {vs : List (List Key × Addr × Value)}, L2.KT H more rs → L2.KT H kvs vs → L2.KT H (mergeT kvs more) (storedAllH vs rs)
  | _, _, _, _, .nil, r => r
  | _, _, _, _, .cons (a := p) (b := q) h t, r => by
    obtain ⟨h1, h2, h3⟩ := h
    have := KT.merge t (L2.KT.put r p.1 h2 h3)
    rw [h1] at this
    unfold mergeT storedAllH at this ⊢
    rw [List.foldl_cons, List.foldl_cons, h1]
    exact this
end
section
variable {X : Cx} {B : Bs} {Γ : Gm} {O N N' : Om} {Z : Er → Prop} {e : Expr} {p pos : Pos} {κ α : Type} [DecidableEq κ] {ke : κ → List Key} {kf : κ → MP} {f : α → MP}
abbrev dmkG {κ α : Type} [DecidableEq κ] (ps : List (κ × α)) : List (κ × α) := ps.foldl (fun d q => dput d q.1 q.2) []
end
end OW
namespace OW
open PySem PySem.Spec PyProof.Rows L2 OT NdefX
def rRepU (K : PySem.W.Frag) : R2 := fun x y H Q => ∃ l k xs, x = .ref l ∧ y = .int k ∧ SqT K H l xs ∧ xs ≠ [] ∧ 1 ≤ k ∧ k ≤ 1000 ∧ xs.length ≤ 1000 ∧ (k = 1 → Q (.ref l) H) ∧ ∀ p, H p = none → Q (.ref p) (upd H p (.tup (List.replicate k.toNat xs).flatten))
section
variable {X : Cx} {B : Bs} {Γ : Gm} {O N N' : Om} {Z : Er → Prop} {e a b c o l r : Expr} {es elts : List Expr} {p p2 pos pos' apos tpos pq : Pos} {α β γ τ : Type} {f : α → MP} {g : β → MP}
abbrev W.repT {α : Type} (xs : List α) (n : Int) : Wp (List α) := W.grd (xs ≠ [] ∧ 1 ≤ n ∧ n ≤ 1000 ∧ xs.length ≤ 1000) (List.replicate n.toNat xs).flatten
end
section
variable {X : Cx} {B : Bs} {Γ : Gm} {O : Nat → Om} {n : Nat} {Z : Er → Prop} {a b : Expr} {pos : Pos} {α : Type} {f : α → MP}
end
end OW
namespace PySem
open Sem (wp)
section
variable {prog : Program} {w : World} {K : Type} [DecidableEq K] {knd : KeyKind prog w K} {A : Around} {E : Value → Shared → Prop} {s : Shared}
end
end PySem

namespace OW
open PySem PySem.Spec PyProof.Rows L2 OT NdefX
def tDstar (tm tk tv : TE) : TE := fun σ H Q => ∀ p, H p = none → tm σ (upd H p (.dK [])) fun m H1 => ∃ (a : Addr) (kvs : List (Key × V)), m = .ref a ∧ a ≠ p ∧ H1 p = some (.dK []) ∧ Rd H1 a (.dK kvs) ∧ kvs.length ≤ 100000 ∧
  ∀ p2, upd H1 p (.dK (mergeK [] kvs)) p2 = none → tPairs [(tk, tv)] σ (upd (upd H1 p (.dK (mergeK [] kvs))) p2 (.dK [])) fun ps H4 => ∃ x y, ps = [(x, y)] ∧ ∃ k kvs', x = kV k ∧ p2 ≠ p ∧ H4 p2 = some (.dK []) ∧ H4 p = some (.dK kvs') ∧ kvs'.length ≤ 100000 ∧
    Q (.ref p) (upd (upd H4 p2 (.dK [(k, y)])) p (.dK (putK kvs' k y)))
section
variable {B : Bs} {Γ : Gm} {O : Om} {α : Type} {f : α → MP}
end
section
variable {X : Cx} {B : Bs} {Γ : Gm} {O : Om} {Z : Er → Prop} {em kx vx : Expr} {pos : Pos} {α : Type} {f : α → MP}
end
end OW
namespace OW
open PySem PySem.Spec PyProof.Rows L2 OT NdefX
abbrev mo (z : Str × MP) : Str × OP := (z.1, MP.o z.2)
abbrev oM (C : Addr) (Fs : List (Str × MP)) : OP := oI C (Fs.map mo)
def bM (C : Addr) (Fs : List (Str × MP)) : BP := ⟨fun S H v => ∃ x dx fs, v = .ref x ∧ H x = some (.ins C dx fs) ∧ FldR Fs S fs, fun e e' ⟨x, dx, fs, h1, h2, h3⟩ => ⟨x, dx, fs, h1, e' _ _ h2, h3.up e⟩⟩
section
variable {X : Cx} {B : Bs} {Γ : Gm} {O N N' : Om} {Z : Er → Prop} {e a b c o : Expr} {es : List Expr} {p p1 p2 pos pos' apos : Pos} {D : Ends} {rest body els : List Stmt} {α β γ ρ τ Dt : Type} {x m nm fl : Str} {Wx : WX} {C : Addr} {k : Nat} {ps : List Str} {As : Dt → List AP} {wp : Dt → Wp ρ} {res : ρ → RP} {Ms : ρ → List OP} {F : τ → List AA} {w : Wp τ} {R : Om}
end
end OW
namespace OW
open PySem PySem.Spec PyProof.Rows L2 OT NdefX
section
variable {X : Cx} {B : Bs} {Γ : Gm} {O N N' : Om} {Z : Er → Prop} {e a b c o : Expr} {es : List Expr} {p p1 p2 pos pos' apos : Pos} {α β γ ρ τ Dt : Type} {x m nm fl : Str} {Wx : WX} {C : Addr} {k : Nat} {ps : List Str} {As : Dt → List AP} {wp : Dt → Wp ρ} {res : ρ → RP} {Ms : ρ → List OP} {F : τ → List AA} {w : Wp τ} {R : Om}
end
end OW
namespace OW
open PySem PySem.Spec PyProof.Rows L2 OT NdefX
structure Lb where
  beginnings : Ord
  standings : Ord
  states : List (List (Str × Chn))
def labF (K : PySem.W.Frag) (r : Lb) : List (Str × MP) := [("beginnings", tOrd K r.beginnings), ("standings", tOrd K r.standings), ("states", tLs K (tDs (tChn K)) r.states)]
abbrev oLab (K : PySem.W.Frag) (r : Lb) : OP := oM (He.ga K "Lab") (labF K r)
abbrev bLab (K : PySem.W.Frag) (r : Lb) : BP := bM (He.ga K "Lab") (labF K r)
section
variable {X : Cx} {B : Bs} {Γ : Gm} {O : Om} {Z : Er → Prop} {e : Expr} {p pos pos' : Pos} {D : Ends} {rest : List Stmt} {nm : Str}
end
end OW
namespace OW
open PySem PySem.Spec PyProof.Rows L2 OT NdefX
section
variable {X : Cx} {pins : List (Addr × Obj)} {σ : L2.St} {H : Hp} {s : Shared} {d : Addr}
def NoFz (X : Cx) (v : V) : Prop := ∀ q, v = .ref q → ∀ o w, X.H_0 q ≠ some (.frz o w)
end
section
variable {α : Type} {f : α → MP}
abbrev kvMs (f : α → MP) (kvs : List (Str × α)) : List (Key × MP) := kvs.map fun z => (kS z.1, f z.2)
def oFz (f : α → MP) (kvs : List (Str × α)) : OP := ⟨fun S H A v => ∃ p od vs, v = .ref p ∧ A = [p] ∧ H p = some (.frz od (.dK vs)) ∧ (List.map (fun z : Str × α => z.1) kvs).Nodup ∧ KvM (kvMs f kvs) S vs,
  fun {S S' H H' A v} e hA ⟨p, od, vs, h1, h2, h3, nd, h4⟩ => ⟨p, od, vs, h1, h2, by rw [hA p (by rw [h2]; exact List.mem_cons_self)]; exact h3, nd, h4.up e⟩⟩
def bFz (f : α → MP) (kvs : List (Str × α)) : BP := ⟨fun S H v => ∃ p od vs, v = .ref p ∧ H p = some (.frz od (.dK vs)) ∧ KvM (kvMs f kvs) S vs, fun e e' ⟨p, od, vs, h1, h2, h3⟩ => ⟨p, od, vs, h1, e' _ _ h2, h3.up e⟩⟩
end
section
variable {X : Cx} {B : Bs} {Γ : Gm} {O N : Om} {Z : Er → Prop} {e ix : Expr} {p p1 pos pos' : Pos} {D : Ends} {rest body : List Stmt} {α β : Type} {f : α → MP} {x nm : Str}
end
end OW
namespace OW
open PySem PySem.Spec PyProof.Rows L2 OT NdefX
section
variable {X : Cx}
def spE0 (C : Addr) : Sp := fun vs H Q _ => ∃ a H1 S, vs = [.ref a] ∧ H = upd H1 a (exo a C none) ∧ H1 a = none ∧ Same S H1 ∧ ∀ S' H', Stp S H1 S' H' → S' a = none → H' a = some (exo a C none) → Q .non H'
def tMk0 (C : Addr) (sp : Sp) : L2.St → Hp → XK → Prop := fun σ H Q => ∀ a : Addr, H a = none → sp [V.ref a] (upd H a (exo a C none)) (fun v H2 => v = V.non ∧ H2 a = some (exo a C none) ∧ Q (Value.ref C) none (del H2 a)) fun _ _ _ => False
end
section
variable {P : Program} {w : World} {K : PySem.W.Frag} {mg : Str → Option Value} {base : Heap}
end
section
variable {X : Cx} {B : Bs} {Γ : Gm} {O : Om} {Z : Er → Prop} {p pos pos' : Pos} {D : Ends} {rest : List Stmt} {x : Str} {k : Nat} {ps : List Str} {Wx : WX}
end
end OW
namespace OW
open PySem PySem.Spec PyProof.Rows L2 OT NdefX
section
variable {X : Cx}
end
def oFzo {α : Type} (f : α → MP) (od : Obj) (vs : List (Key × V)) (kvs : List (Str × α)) : OP := ⟨fun S H A v => ∃ p, v = .ref p ∧ A = [p] ∧ H p = some (.frz od (.dK vs)) ∧ (List.map (fun z : Str × α => z.1) kvs).Nodup ∧ KvM (kvMs f kvs) S vs,
  fun {S S' H H' A v} e hA ⟨p, h1, h2, h3, nd, h4⟩ => ⟨p, h1, h2, by rw [hA p (by rw [h2]; exact List.mem_cons_self)]; exact h3, nd, h4.up e⟩⟩
section
variable {X : Cx} {B : Bs} {Γ : Gm} {O N : Om} {Z : Er → Prop} {p pos : Pos} {D : Ends} {body : List Stmt} {α : Type} {f : α → MP} {x : Str}
end
end OW
namespace OW
open PySem PySem.Spec PyProof.Rows L2 OT NdefX
section
variable {X : Cx} {B : Bs} {Γ : Gm} {O N : Om} {Z : Er → Prop} {p pos : Pos} {D : Ends} {body : List Stmt} {α : Type} {F : α → OP} {x : Str}
def VE (X : Cx) (B : Bs) (Γ : Gm) (O : Om) (e : Expr) (u : V) : Prop := ∀ S H σ, Stt B Γ O S H σ → ∀ Q : VK, (∀ S' H', Same S S' → Stt B Γ O S' H' σ → Q u H') → wE X e σ H Q
end
end OW
namespace OW
open PySem PySem.Spec PyProof.Rows L2 OT NdefX
section
variable {ι : Type} {X : Cx} {B : Bs} {Γ : Gm} {O : ι → Om} {O1 N N' : Om} {Z : Er → Prop} {n : ι} {e a b c o : Expr} {es : List Expr} {p p1 p2 pos pos' apos : Pos} {D : Ends} {rest body els : List Stmt} {α β γ τ ρ Dt : Type} {x nm m : Str} {Wx : WX} {f : α → MP} {C : Addr} {k : Nat} {ps : List Str} {As : Dt → List AP}
section
variable {F : τ → List AA} {w : Wp (τ × ι)} {wp : Dt → Wp (ρ × ι)} {res : ρ × ι → RP} {Ms : ρ × ι → List OP}
end
section
variable {wp : Dt → Wp (ρ × ι)} {res : ρ × ι → RP} {Ms : ρ × ι → List OP}
end
def W.cmpOZ (n : Nat) (neg : Bool) (x y : Option (List Dz)) : Wp Bool := fun Q _ => match x, y with
  | none, none => Q (!neg)
  | some xs, some ys => ∃ r, Dz.cmpl xs ys = some r ∧ Dz.deps xs ≤ n ∧ Q (if neg then !r else r)
  | _, _ => Q neg
end
section
variable {X : Cx} {B : Bs} {Γ : Gm} {O N : Om} {Z : Er → Prop} {p pos : Pos} {D : Ends} {body : List Stmt} {α : Type} {F : α → OP} {x : Str}
end
end OW
namespace OW
open PySem PySem.Spec PyProof.Rows L2 OT NdefX
theorem FldO.open {S H : Hp} {f : Str} {P : OP} : ∀ {Ps : List (Str × OP)} {A : List Addr} {fs : List (Str × V)} {i : Nat}, FldO Ps S H A fs → Ps[i]? = some (f, P) → ∃ v B1 B2, A.Perm (B1 ++ B2) ∧ P.R S H B1 v ∧ FldO (Ps.set i (f, MP.o (tV v))) S H B2 fs
  | [], _, _, _, _, h => by cases h
  | _ :: _, _, [], _, h, _ => h.elim
  | (g, Q) :: Ps, _, (g', w) :: fs, 0, ⟨e0, A1, A2, rfl, h1, h2⟩, h => by
    cases h
    exact ⟨w, A1, A2, .refl _, h1, e0, [], A2, rfl, ⟨rfl, rfl⟩, h2⟩
  | (g, Q) :: Ps, _, (g', w) :: fs, i + 1, ⟨e0, A1, A2, rfl, h1, h2⟩, h => by
    obtain ⟨v, B1, B2, p, k1, k2⟩ := FldO.open (i := i) h2 h
    refine ⟨v, B1, A1 ++ B2, ?_, k1, e0, A1, B2, rfl, h1, k2⟩
    refine (List.Perm.append_left A1 p).trans ?_
    rw [← List.append_assoc, ← List.append_assoc]
    exact List.Perm.append_right B2 List.perm_append_comm
section
variable {X : Cx} {B : Bs} {Γ : Gm} {O N : Om} {Z : Er → Prop} {e a b o ix : Expr} {es : List Expr} {p p1 pos pos' apos : Pos} {D : Ends} {rest body : List Stmt} {α β : Type} {nm fl f : Str} {C : Addr}
end
def FldB : List (Str × BP) → Hp → Hp → List (Str × V) → Prop
  | [], _, _, [] => True
  | (f, P) :: Ps, S, H, (g, v) :: vs => f = g ∧ P.R S H v ∧ FldB Ps S H vs
  | _, _, _, _ => False
theorem FldB.up {S S' H H' : Hp} (e : Same S S') (e' : Same H H') : ∀ {Ps : List (Str × BP)} {vs : List (Str × V)}, FldB Ps S H vs → FldB Ps S' H' vs
  | [], [], _ => trivial
  | [], _ :: _, h => h.elim
  | _ :: _, [], h => h.elim
  | (f, P) :: Ps, (g, v) :: vs, ⟨h0, h1, h2⟩ => ⟨h0, P.up e e' h1, FldB.up e e' h2⟩
def bI (C : Addr) (Fs : List (Str × BP)) : BP := ⟨fun S H v => ∃ x dx fs, v = .ref x ∧ H x = some (.ins C dx fs) ∧ FldB Fs S H fs, fun e e' ⟨x, dx, fs, h1, h2, h3⟩ => ⟨x, dx, fs, h1, e' _ _ h2, h3.up e e'⟩⟩
def LendF : List (Str × OP) → List (Str × BP) → Prop
  | [], [] => True
  | (f, P) :: Ps, (g, b) :: bs => f = g ∧ Lend P b ∧ LendF Ps bs
  | _, _ => False
section
variable {X : Cx} {B : Bs} {Γ : Gm} {O N : Om} {Z : Er → Prop} {p pos : Pos} {α β : Type} {nm fl : Str} {C : Addr}
end
end OW
namespace OW
open PySem PySem.Spec PyProof.Rows L2 OT NdefX
def tSq {α : Type} (K : PySem.W.Frag) (f : α → MP) (xs : List α) : MP := ⟨fun S v => (tLs K f xs).R S v ∨ (tTs K f xs).R S v, fun e h => h.imp (tLs K f xs |>.up e) (tTs K f xs |>.up e)⟩
section
variable {X : Cx} {B : Bs} {Γ : Gm} {O N N' : Om} {Z : Er → Prop} {e a b c o e1 e2 e3 : Expr} {es : List Expr} {p p2 p3 pos pos' apos : Pos} {D : Ends} {rest body els : List Stmt} {α β γ : Type} {x m nm fl : Str} {Wx : WX} {C : Addr} {f : α → MP} {g : β → MP}
section
variable {wa : Wp Int} {wb : Wp (List Int)}
end
end
section
variable {X : Cx} {B : Bs} {Γ : Gm} {O : Om} {Z : Er → Prop} {a b : Expr} {pos : Pos} {wa wb : Wp (Option Int)}
def vOI : Option Int → V
  | none => .non
  | some i => .int i
end
structure Tab where
  unit : Int
  things : Int
  rooms : Int
  lines : List (List Int)
  basis : List Int
  bottom : Int
abbrev oTab (K : PySem.W.Frag) (r : Tab) : OP := oI (He.ga K "Tableau") [("unit", MP.o (tI r.unit)), ("things", MP.o (tI r.things)), ("rooms", MP.o (tI r.rooms)), ("lines", oLs (tLs K tI) r.lines), ("basis", oLs tI r.basis), ("bottom", MP.o (tI r.bottom))]
abbrev bTab (K : PySem.W.Frag) (r : Tab) : BP := bI (He.ga K "Tableau") [("unit", (tI r.unit).b), ("things", (tI r.things).b), ("rooms", (tI r.rooms).b), ("lines", rL (tLs K tI) r.lines), ("basis", rL tI r.basis), ("bottom", (tI r.bottom).b)]
end OW
namespace OW
open PySem PySem.Spec PyProof.Rows L2 OT NdefX
section
variable {X : Cx} {B : Bs} {Γ : Gm} {O N N' : Om} {Z : Er → Prop} {p p2 pos pos' apos : Pos} {α β γ : Type} {x m : Str} {f : α → MP}
end
end OW
namespace OW
open PySem PySem.Spec PyProof.Rows L2 OT NdefX
def oT (Ps : List OP) : OP := ⟨fun S H A v => ∃ p vs A', v = .ref p ∧ A = p :: A' ∧ H p = some (.tup vs) ∧ AllO Ps S H A' vs,
  fun {S S' H H' A v} e hA ⟨p, vs, A', h1, h2, h3, h4⟩ => ⟨p, vs, A', h1, h2, by rw [hA p (by rw [h2]; exact List.mem_cons_self)]; exact h3, h4.fr e fun a ha => hA a (by rw [h2]; exact List.mem_cons_of_mem _ ha)⟩⟩
section
variable {X : Cx} {B : Bs} {Γ : Gm} {O N : Om} {Z : Er → Prop} {p p1 pos pos' apos : Pos} {D : Ends} {body rest : List Stmt} {es : List Expr} {e : Expr} {α β τ : Type} {F : τ → List OP} {nm x : Str} {f : α → MP} {g : β → MP}
theorem NW.at {G : α → OP} {w' : Wp α} (w : Wp α) (h : NW X B Γ O Z e G w') (hw : w' = w := by rfl) : NW X B Γ O Z e G w := hw ▸ h
def tSm (f : α → MP) (g : β → MP) : α ⊕ β → MP := Sum.elim f g
theorem EW.inr {w : Wp β} (h : EW X B Γ O Z e g w) : EW X B Γ O Z e (tSm f g) (W.bind w fun i => W.ret (Sum.inr i : α ⊕ β)) := EW.imp (f := g) (g := tSm f g) h Sum.inr fun _ _ _ h => h
end
end OW
namespace OW
open PySem PySem.Spec PyProof.Rows L2 OT NdefX
def tPH (L : Hp) (q : Str × Str) : MP := ⟨fun S v => ∃ b, v = .ref b ∧ (S b = some (.tup [.str q.1, .str q.2]) ∨ L b = some (.tup [.str q.1, .str q.2])), fun e ⟨b, h1, h2⟩ => ⟨b, h1, h2.imp (e _ _) id⟩⟩
def NT (P : OP) : Prop := ∀ S H A v, P.R S H A v → ∀ a ∈ A, ∀ xs, H a ≠ some (.tup xs)
theorem nt_own {S H : Hp} : ∀ {O : Om} {A : List Addr}, (∀ x ∈ O, NT x.2) → OwnL S H O A → ∀ a ∈ A, ∀ xs, H a ≠ some (.tup xs)
  | [], A, _, h, a, ha => by
    have h : A = [] := h
    subst h
    cases ha
  | x :: O, A, hn, ⟨A1, A2, e, h1, h2⟩, a, ha => by
    subst e
    rcases List.mem_append.mp ha with z | z
    · exact hn x List.mem_cons_self S H A1 x.1 h1 a z
    · exact nt_own (fun y hy => hn y (List.mem_cons_of_mem _ hy)) h2 a z
def NTf : List (Str × OP) → Prop
  | [] => True
  | (_, P) :: Ps => NT P ∧ NTf Ps
section
variable {X : Cx} {B : Bs} {Γ : Gm} {O N N' : Om} {Z : Er → Prop} {e a b o r ix e1 e2 e3 : Expr} {es : List Expr} {p p1 p2 p3 pos pos' apos cpos : Pos} {D : Ends} {rest body : List Stmt} {α β κ : Type} [DecidableEq κ] {f : α → MP} {ke : κ → List Key} {kf : κ → MP} {nm fl m : Str} {C : Addr} {k : Nat}
abbrev prD (q : Str × Str) : PyData := .tuple [.str q.1, .str q.2]
theorem t_own {Dt : Type} {ps : List Str} {As : Dt → List AP} {wp : Dt → Wp Bool} {res : Bool → RP} {Ms : Bool → List OP} {ba : α → BP} {wa : Wp α} (G : GM X.prog X.w X.K X.mg X.base C "__bool__" k ps (spW X.K As wp res Ms)) (hr : Room k X.A) (d : α → Dt) (ha : RW X B Γ O Z N a ba wa) (hj : ∀ x, InsB C "__bool__" (ba x)) (hA : ∀ x, ArgM [.b (ba x)] (As (d x)) []) (hf : ∀ r, res r = .v (OT.tB r) := by intro _; rfl)
    (hi : ∀ whole, isTrue a X.env whole = (do let v ← whole; standAt a.pos; holding [v] (truthy v)) := by intro _; rfl) : TW X B Γ O Z a (W.bind wa fun x => fun Q _ => wp (d x) Q E0) := by
  obtain ⟨g, fd, G, M, hbb⟩ := G
  exact fun S H σ st P Q p n => ⟨_, pt_truthR pe_w (tru_own M G hr hbb pass_none) hi, ha.2 S H σ st _ _ p fun x u S1 H1 p1 s1 t1 r1 => by
    obtain ⟨q, dy, fs, rfl, hy, _⟩ := hj x S1 H1 u t1.sub (r1 _ _ S1 H1 _ (Same.refl _) t1 ha.1)
    exact ⟨q, dy, fs, rfl, hy, in_go0 (X := X) (vs := [.ref q]) (d x) (hA x) t1 (fun Γ3 O3 S3 H3 σ3 s3 t3 hn => ⟨r1 _ _ S3 H3 _ s3 t3 fun z hz => hn z (ha.1 z hz), trivial⟩) hf p1 fun r v S' H' p3 s3 t3 r3 => ⟨r, r3, n r S' H' p3 (s1.trans s3) t3⟩⟩⟩
end
structure Flw where
  order : Ord
  left : List (Str × Rt)
  room : List (Str × Rt)
  amounts : List ((Str × Str) × Rt)
abbrev oFlw (K : PySem.W.Frag) (r : Flw) : OP := oI (He.ga K "Flow") [("order", MP.o (tOrd K r.order)), ("left", oDs (tRat K) r.left), ("room", oDs (tRat K) r.room), ("amounts", oDp kePr (tRat K) r.amounts)]
abbrev bFlw (K : PySem.W.Frag) (r : Flw) : BP := bI (He.ga K "Flow") [("order", (tOrd K r.order).b), ("left", rD (tRat K) r.left), ("room", rD (tRat K) r.room), ("amounts", bDp kePr (tRat K) r.amounts)]
section
variable {X : Cx} {B : Bs} {Γ : Gm} {O N : Om} {Z : Er → Prop} {e r ix ik : Expr} {p p1 pos pos' pos2 : Pos} {D : Ends} {rest : List Stmt} {α : Type} {f : α → MP} {nm : Str}
theorem s_addI {i : Nat} {a : Int} {w : Wp Int} {q : Int → Prop} (he : EW X B Γ O Z e tI w) (h : ∀ b, SW X B (Γ.set i (some (tI (a + b)))) O rest D (q b)) (hG : Γ[i]? = some (some (tI a)) := by rfl) (hN : X.N[i]? = some nm := by rfl) (hl : i < Γ.length := by exact Nat.le_of_ble_eq_true rfl) (hNN : X.N.Nodup := by assumption) (hx : Loc X.env.scope nm := by first | exact Or.inl rfl | exact Or.inr rfl) (hf : X.fn nm = true ∨ X.env.scope.names.lookup nm = some .local := by first | exact .inl rfl | exact .inr rfl | assumption) :
    SW X B Γ O (.AugAssign (.Name nm pos') .Add e pos :: rest) D (W.run w Z q) :=
  s_cons fun hq S H σ st => ⟨_, ps_aug hNN hN hx pe_w ip_add hf, by
    obtain ⟨v, h1, h2⟩ := st.slot i _ hG
    have h2' : v = .int a := h2
    subst h2'
    refine ⟨_, h1, he S H σ st _ _ hq fun b c S1 H1 p1 s1 t1 r1 => ?_⟩
    have r1' : c = .int b := r1
    subst r1'
    exact ⟨a, b, rfl, rfl, h b p1 S1 _ _ (t1.set rfl hl)⟩⟩
end
section
variable {X : Cx} {B : Bs} {Γ : Gm} {O : Om} {Z : Er → Prop} {a b : Expr} {pos : Pos} {wa wb : Wp (Option Str)}
def vOS : Option Str → V
  | none => .non
  | some i => .str i
end
end OW
namespace OW
open PySem PySem.Spec PyProof.Rows L2 OT NdefX
abbrev IsZipF (h : Heap) (z TI TO : Addr) (x0 : Value) (f : Bool) : Prop :=
  h.get? z = some { cls := .type "zip", dict := none, data := .fields #[x0, .bool f, .bool false, .ref TI, .ref TO], slots := #[] }
section
variable {prog : Program} {w : World} {A : Around} {E : Value → Shared → Prop} {s : Shared}
variable {z TI TO T i1 i2 l1 l2 : Addr} {d1 d2 : Bool} {k1 k2 : Nat} {xs ys : Array Value} {x y a b : Value} (D : ZipApart z TI TO i1 i2 l1 l2)
include D


def IsZq (h : Heap) (z TI TO : Addr) : Prop := IsZip h z TI TO .none ∨ ∃ (T : Addr) (f : Bool), IsZipF h z TI TO (rawInt T) f
end
def Zsn (d1 d2 : Bool) (a b z TI TO i1 i2 : Addr) (i : Nat) (h : Heap) : Prop := IsZq h z TI TO ∧ IsPair h TI (.ref i1) (.ref i2) ∧ (∃ x y, IsPair h TO x y) ∧ Itk d1 h i1 a i ∧ Itk d2 h i2 b i
section
variable {X : Cx} {B : Bs} {Γ : Gm} {O N N' : Om} {Z : Er → Prop} {e a b c o l r : Expr} {es elts : List Expr} {p p2 pos pos' apos tpos pq : Pos} {α β γ τ : Type} {f : α → MP} {g : β → MP} {kk : Nat} {ow : Bool} {C : Addr} {fl nm : Str}
end
end OW
namespace OW
open PySem PySem.Spec PyProof.Rows L2 OT NdefX
def layT (H : Hp) (l : List (Addr × V × V)) : Hp := l.foldl (fun H p => upd H p.1 (.tup [p.2.1, p.2.2])) H
def FrL (q : Addr) : Hp → List (Addr × V × V) → Prop
  | _, [] => True
  | H, p :: l => H p.1 = none ∧ p.1 ≠ q ∧ FrL q (upd H p.1 (.tup [p.2.1, p.2.2])) l
theorem FrL.snoc {q : Addr} {p : Addr × V × V} : ∀ {l : List (Addr × V × V)} {H : Hp}, FrL q H l → layT H l p.1 = none → p.1 ≠ q → FrL q H (l ++ [p])
  | [], H, _, h, hq => ⟨h, hq, trivial⟩
  | a :: l, H, ⟨h1, h2, h3⟩, h, hq => ⟨h1, h2, FrL.snoc h3 h hq⟩
section
variable {X : Cx} {pins : List (Addr × Obj)} {σ : L2.St} {A1 : Around} {d1 d2 : Bool} {a b z TI TO i1 i2 q : Addr}
abbrev zlH (H : Hp) (q : Addr) (l : List (Addr × V × V)) : Hp := upd (layT H l) q (.lst (l.map fun p => V.ref p.1))
end
def tListZ (K : PySem.W.Frag) (ow : Bool) (C : Addr) (fl : Str) (ta : TA) : TE := fun σ H Q => ta σ H fun vs H1 => ∃ (u : V) (d1 d2 : Bool) (a b : Addr) (xs ys : List V), vs = [u, .ref b] ∧ Zf K ow C fl d1 H1 u a xs ∧ Sqz K d2 H1 b ys ∧ ∀ q l, H1 q = none → FrL q H1 l → l.map (·.2) = xs.zip ys → Q (.ref q) (zlH H1 q l)
end OW
namespace OW
open PySem PySem.Spec PyProof.Rows L2 OT NdefX
section
variable {X : Cx} {B : Bs} {Γ : Gm} {O N N' : Om} {Z : Er → Prop} {l r : Expr} {p p2 pos pq : Pos} {α β : Type} {f : α → MP} {g : β → MP} {ow : Bool} {C : Addr} {fl : Str} {q : Addr}
theorem Stt.laid {σ : L2.St} : ∀ {l : List (Addr × V × V)} {xs : List α} {ys : List β} {ws1 ws2 : List V} {S H : Hp}, Stt B Γ O S H σ → FrL q H l → AllM (xs.map f) S ws1 → AllM (ys.map g) S ws2 → l.map (·.2) = ws1.zip ws2 →
    ∃ S', Same S S' ∧ Stt B Γ O S' (layT H l) σ ∧ AllM ((xs.zip ys).map (tP2 X.K f g)) S' (l.map fun p => V.ref p.1)
  | [], xs, ys, ws1, ws2, S, H, t, _, m1, m2, e => by
    refine ⟨S, Same.refl _, t, ?_⟩
    have l1 := m1.length
    have l2 := m2.length
    rw [List.length_map] at l1 l2
    have : (xs.zip ys).length = 0 := by
      have h := congrArg List.length e
      rw [List.length_map, List.length_zip] at h
      rw [List.length_zip, ← l1, ← l2]
      exact h.symm
    rw [List.eq_nil_of_length_eq_zero this]
    exact trivial
  | a :: l, xs, ys, ws1, ws2, S, H, t, ⟨h1, h2, h3⟩, m1, m2, e => by
    match xs, ws1, ys, ws2, m1, m2, e with
    | x :: xs, w1 :: ws1, y :: ys, w2 :: ws2, m1, m2, e =>
      rw [List.map_cons, List.zip_cons_cons, List.cons.injEq] at e
      obtain ⟨e1, e2⟩ := e
      have s1 := Stp.put (o := .tup [a.2.1, a.2.2]) t.sub h1
      obtain ⟨S', s2, t2, r2⟩ := Stt.laid (t.step s1) h3 (AllM.up s1.s m1.2) (AllM.up s1.s m2.2) e2
      refine ⟨S', s1.s.trans s2, t2, ?_, r2⟩
      refine ⟨a.1, [w1, w2], rfl, s2 _ _ ?_, ?_, ?_, trivial⟩
      · rw [e1]; exact upd_same
      · exact (f x).up (s1.s.trans s2) m1.1
      · exact (g y).up (s1.s.trans s2) m2.1
    | [], [], _, _, m1, m2, e => rw [List.zip_nil_left] at e; cases e
    | _ :: _, _ :: _, [], [], m1, m2, e => rw [List.zip_nil_right] at e; cases e
end
end OW
namespace OW
open PySem PySem.Spec PyProof.Rows L2 OT NdefX
section
variable {X : Cx} {pins : List (Addr × Obj)} {σ : L2.St} {H : Hp} {s : Shared} {d1 d2 : Bool} {a b : Addr}
end
def tDictZT (K : PySem.W.Frag) (ow : Bool) (C : Addr) (fl : Str) (ta : TA) : TE := fun σ H Q => ta σ H fun vs H1 => ∃ (u : V) (d1 d2 : Bool) (a b : Addr) (bs : List Addr) (ks : List (List Key)) (ys : List V), vs = [u, .ref b] ∧ Zf K ow C fl d1 H1 u a (bs.map V.ref) ∧ Paired (fun (b : Addr) (k : List Key) => H1 b = some (.tup (k.map kV))) bs ks ∧ Sqz K d2 H1 b ys ∧ ∀ p, H1 p = none → Q (.ref p) (upd H1 p (.dT (mergeT [] (ks.zip ys))))
section
variable {X : Cx} {B : Bs} {Γ : Gm} {O N N' : Om} {Z : Er → Prop} {l r e1 e2 a b : Expr} {p p1 p2 pos pq apos : Pos} {α β κ : Type} [DecidableEq κ] {ke : κ → List Key} {kf : κ → MP} {f : α → MP} {g : β → MP} {ow : Bool} {C : Addr} {fl : Str} {q : Addr}
theorem DpR.merge (inj : ∀ a b, ke a = ke b → a = b) {S : Hp} : ∀ {xs : List κ} {ys : List α} {vs : List V} {d0 : List (κ × α)} {k0 : List (List Key × V)}, AllM (ys.map f) S vs → DpR ke f d0 S k0 → DpR ke f ((xs.zip ys).foldl (fun d q => dput d q.1 q.2) d0) S (mergeT k0 ((xs.map ke).zip vs))
  | [], ys, vs, d0, k0, _, h => h
  | x :: xs, [], vs, d0, k0, m, h => by match vs, m with | [], _ => exact h
  | x :: xs, y :: ys, vs, d0, k0, m, h => by
    match vs, m with
    | v :: vs, m => exact DpR.merge inj (xs := xs) m.2 (h.put inj m.1)
end
end OW
namespace OW
open PySem PySem.Spec PyProof.Rows L2 OT NdefX
section
variable {X : Cx} {B : Bs} {Γ : Gm} {O N N' : Om} {Z : Er → Prop} {a b : Expr} {p pos apos : Pos} {kf kf' : Str × Str → MP}
def Dpr (B : Bs) (K : PySem.W.Frag) (kf : Str × Str → MP) : Prop := ∀ (Γ : Gm) (O : Om) (S H : Hp) (σ : L2.St), Stt B Γ O S H σ → ∀ q v, (kf q).R S v → Dp K H v (prD q)
abbrev pOk (q : Str × Str) : Prop := PyData.strOk q.1 = true ∧ PyData.strOk q.2 = true
end
end OW
namespace OW
open PySem PySem.Spec PyProof.Rows L2 OT NdefX
def StlP (P Q : OP) : Prop := ∀ S H A v, P.R S H A v → A.Nodup → (∀ a ∈ A, S a = none) → ∃ A0 A1 D : List Addr, A = A0 ++ A1 ∧ D.Nodup ∧ (∀ d ∈ D, d ∈ A1 ∧ ∃ u, H d = some u ∧ Mut (some u)) ∧ ∀ H', FrzA A D H H' → Q.R (cut S H' A1) H' A0 v
section
variable {X : Cx} {B : Bs} {Γ : Gm} {O : Om} {S H : Hp} {σ : L2.St} {body : List Stmt} {D : Ends}
theorem Stt.inner {v : V} {P Q : OP} (t : Stt B Γ ((v, P) :: O) S H σ) (h : StlP P Q) :
    ∃ D : List Addr, D.Nodup ∧ (∀ d ∈ D, ∃ u, H d = some u ∧ Mut (some u)) ∧ ∀ H', FrzD D H H' → ∃ S', Same S S' ∧ Stt B Γ ((v, Q) :: O) S' H' σ := by
  obtain ⟨A, nd, hA, A', A2, e, h2, h3⟩ := t.own
  subst e
  obtain ⟨n1, n2, n3⟩ := List.nodup_append.mp nd
  obtain ⟨A0, A1, D, e, d1, d2, d3⟩ := h S H A' v h2 n1 fun a ha => (hA a (List.mem_append_left _ ha)).1
  subst e
  obtain ⟨m1, m2, m3⟩ := List.nodup_append.mp n1
  have s1 : ∀ a ∈ A1, S a = none := fun a ha => (hA a (List.mem_append_left _ (List.mem_append_right _ ha))).1
  refine ⟨D, d1, fun d hd => (d2 d hd).2, fun H' hf => ⟨cut S H' A1, cut_same s1, ?_⟩⟩
  have sS : Same S (cut S H' A1) := cut_same s1
  have keep : ∀ a, a ∉ A1 → H' a = H a := fun a ha => hf.out a fun hd => ha (d2 a hd).1
  refine ⟨⟨t.st.s.trans sS, fun a o z => ?_, fun a o z => ?_, fun a z1 z2 => ?_⟩, fun i R e => ?_, t.len, ⟨A0 ++ A2, ?_, fun a ha => ?_, A0, A2, rfl, d3 H' hf.a, h3.fr sS fun a ha => keep a fun q => n3 a (List.mem_append_right _ q) a ha rfl⟩, B.P.up sS t.gh⟩
  · by_cases q : a ∈ A1
    · rw [cut_in q] at z; exact z
    · rw [cut_out q] at z; rw [keep a q]; exact t.sub a o z
  · rw [keep a fun q => ?_]
    · exact t.st.h a o z
    · have := (hA a (List.mem_append_left _ (List.mem_append_right _ q))).2.1
      rw [z] at this
      cases this
  · have q : a ∉ A1 := fun q => z2 (hA a (List.mem_append_left _ (List.mem_append_right _ q))).2.1
    rw [cut_out q]
    exact t.st.fr a z1 z2
  · obtain ⟨w, g1, g2⟩ := t.slot i R e
    exact ⟨w, g1, R.up sS g2⟩
  · exact List.nodup_append.mpr ⟨m1, n2, fun a ha b hb => n3 a (List.mem_append_left _ ha) b hb⟩
  · have ha1 : a ∉ A1 := fun q => by
      rcases List.mem_append.mp ha with z | z
      · exact m3 a z a q rfl
      · exact n3 a (List.mem_append_right _ q) a z rfl
    have hh : S a = none ∧ B.H a = none ∧ _ := hA a ((List.mem_append.mp ha).elim (fun z => List.mem_append_left _ (List.mem_append_left _ z)) fun z => List.mem_append_right _ z)
    rw [cut_out ha1, keep a ha1]
    exact hh
theorem SW.inner {v : V} {P Q : OP} {p : Prop} (hs : StlP P Q) (h : SW X B Γ ((v, Q) :: O) body D p) : SW X B Γ ((v, P) :: O) body D p := fun hp S H σ t => by
  obtain ⟨F, h1, h2, h3⟩ := t.inner hs
  refine ⟨_, pss_frzs pb_w, F, h1, h2, fun H2 hf => ?_⟩
  obtain ⟨S2, s2, t2⟩ := h3 H2 hf
  exact h hp S2 H2 σ t2
end
end OW
namespace OW
open PySem PySem.Spec PyProof.Rows L2 OT NdefX
section
variable {X : Cx} {B : Bs} {Γ : Gm} {O : Om} {Z : Er → Prop} {a b : Expr} {pos : Pos} {α : Type} {f : α → MP}
end
end OW
namespace OW
open PySem PySem.Spec PyProof.Rows L2 OT NdefX
section
variable {X : Cx} {B : Bs} {Γ : Gm} {O N : Om} {Z : Er → Prop} {e a b : Expr} {p pos apos : Pos} {α : Type} {f : α → MP}
theorem EW.rz {w : Wp (List α)} (h : EW X B Γ O Z e (tZs X.K f) w) : RW X B Γ O Z [] e (rQ X.K f) w := h.r fun _ S H _ sm ⟨a, ob, vs, e, h1, _, _, h3⟩ => ⟨a, vs, e, .inr (.inl (.inr ⟨ob, sm _ _ h1⟩)), by have q := AllM.toR (H := H) h3; rw [List.map_map] at q; exact q⟩
def tyZ (x : V) (H : Hp) : Prop := ∃ a ob vs, x = .ref a ∧ H a = some (.frz ob (.tup vs)) ∧ ob.dict = none ∧ ob.cls = .type "tuple"
def tBMZ (r : V → List V → Hp → VK → Prop) (to : TE) (t : TA) : TE := fun σ H Q => to σ H fun x H1 => tyZ x H1 ∧ t σ H1 fun xs H2 => r x xs H2 Q
end
end OW
namespace OW
open PySem PySem.Spec PyProof.Rows L2 OT NdefX
def oNone : OP := ⟨fun S H A v => A = [] ∧ v = .non, fun _ _ h => h⟩
def bNone : BP := ⟨fun S H v => v = .non, fun _ _ h => h⟩
def oOptL {α : Type} (f : α → MP) : Option (List α) → OP
  | none => oNone
  | some l => oLs f l
def bOptL {α : Type} (f : α → MP) : Option (List α) → BP
  | none => bNone
  | some l => rL f l
section
variable {X : Cx} {B : Bs} {Γ : Gm} {O N : Om} {Z : Er → Prop} {e a b : Expr} {p pos : Pos} {D : Ends} {body : List Stmt} {α : Type} {f : α → MP} {u : V} {x : Option (List α)} {nm : Str}
end
section
variable {X : Cx} {B : Bs} {Γ : Gm} {O N N' : Om} {Z : Er → Prop} {e a b c o : Expr} {es : List Expr} {p p1 p2 pos pos' apos : Pos} {α β γ ρ τ Dt : Type} {x m nm fl : Str} {Wx : WX} {C : Addr} {k : Nat} {ps : List Str} {As : Dt → List AP} {wp : Dt → Wp ρ} {res : ρ → RP} {Ms : ρ → List OP} {F : τ → List AA} {w : Wp τ} {R : Om}
end
end OW
namespace OW
open PySem PySem.Spec PyProof.Rows L2 OT NdefX
def tVH (L : Hp) (q : List Str) : MP := ⟨fun S v => ∃ b, v = .ref b ∧ (S b = some (.tup (q.map V.str)) ∨ L b = some (.tup (q.map V.str))), fun e ⟨b, h1, h2⟩ => ⟨b, h1, h2.imp (e _ _) id⟩⟩
abbrev vsD (q : List Str) : PyData := .tuple (q.map .str)
section
variable {X : Cx} {B : Bs} {Γ : Gm} {O N N' : Om} {Z : Er → Prop} {e a b o r ix e1 e2 e3 : Expr} {es : List Expr} {p p1 p2 p3 pos pos' apos cpos : Pos} {D : Ends} {rest body : List Stmt} {α β κ : Type} [DecidableEq κ] {f : α → MP} {ke : κ → List Key} {kf : κ → MP} {nm fl m : Str} {C : Addr} {k : Nat}
theorem Stt.flatV {S H : Hp} {σ : L2.St} {c : Addr} {q : List Str} (t : Stt B Γ O S H σ) (nt : ∀ x ∈ O, NT x.2) (hb : H c = some (.tup (q.map V.str))) : ∃ S', Same S S' ∧ Stt B Γ O S' H σ ∧ (tVH B.H q).R S' (.ref c) := by
  cases e1 : S c with
  | some o =>
    have := t.sub _ _ e1
    rw [hb] at this
    cases this
    exact ⟨S, Same.refl _, t, c, rfl, .inl e1⟩
  | none =>
    cases e2 : B.H c with
    | some o =>
      have := t.st.h _ _ e2
      rw [hb] at this
      cases this
      exact ⟨S, Same.refl _, t, c, rfl, .inr e2⟩
    | none =>
      have sS : Same S (upd S c (.tup (q.map V.str))) := fun z v hz => by
        rw [upd_ne (fun w => by subst w; rw [e1] at hz; cases hz)]
        exact hz
      obtain ⟨A, nd, hA, h⟩ := t.own
      refine ⟨upd S c (.tup (q.map V.str)), sS, ⟨⟨t.st.s.trans sS, fun z v hz => ?_, t.st.h, fun z z1 z2 => ?_⟩, fun i R g => ?_, t.len, ⟨A, nd, fun z hz => ?_, h.fr sS fun _ _ => rfl⟩, B.P.up sS t.gh⟩, c, rfl, .inl upd_same⟩
      · by_cases w : z = c
        · subst w; rw [upd_same] at hz; rw [hb]; exact hz
        · rw [upd_ne w] at hz; exact t.sub z v hz
      · rw [upd_ne (fun w => z2 (by rw [w]; exact e2))]
        exact t.st.fr z z1 z2
      · obtain ⟨v, g1, g2⟩ := t.slot i R g
        exact ⟨v, g1, R.up sS g2⟩
      · have y := hA z hz
        refine ⟨?_, y.2⟩
        rw [upd_ne (fun w => nt_own nt h z hz _ (by rw [w]; exact hb))]
        exact y.1
end
end OW
namespace OW
open PySem PySem.Spec PyProof.Rows L2 OT NdefX
section
variable {X : Cx} {B : Bs} {Γ : Gm} {O N N' : Om} {Z : Er → Prop} {a b : Expr} {p pos apos : Pos}
abbrev vOk (q : List Str) : Prop := ∀ x ∈ q, PyData.strOk x = true
variable {wa : Wp (List Str)} {wb : Wp (List (List Str))}
end
end OW
namespace OW
open PySem PySem.Spec PyProof.Rows L2 OT NdefX
def tTq {α : Type} (K : PySem.W.Frag) (f : α → MP) (xs : List α) : MP := ⟨fun S v => (tTs K f xs).R S v ∨ (tZs K f xs).R S v, fun e h => h.imp (tTs K f xs |>.up e) (tZs K f xs |>.up e)⟩
def oDz {α : Type} (g : α → Dz) : Option α → Dz
  | none => .n
  | some a => g a
def tNn (_ : Unit) : MP := ⟨fun _ v => v ≠ .non, fun _ h => h⟩
def Dz.toU : Dz → Option Unit
  | .n => none
  | _ => some ()
section
variable {X : Cx} {B : Bs} {Γ : Gm} {O N : Om} {Z : Er → Prop} {e : Expr} {α : Type} {f : α → MP}
end
def hB (b : BP) : BP := ⟨fun _ H v => b.R H H v, fun _ e h => b.up e e h⟩
section
variable {X : Cx} {B : Bs} {Γ : Gm} {O N : Om} {Z : Er → Prop} {e a : Expr} {pos : Pos}
end
def zTop2 : Dz → Dz → Bool
  | .d _, .d _ => true
  | .s _, .s _ => true
  | .t _, .t _ => true
  | _, _ => false
abbrev W.neZ2 (n : Nat) (x y : Dz) : Wp Bool := fun Q _ => ∃ r, Dz.cmp x y = some r ∧ x.dep ≤ n ∧ zTop2 x y = true ∧ Q (!r)
section
variable {X : Cx} {B : Bs} {Γ : Gm} {O : Om} {Z : Er → Prop} {a b : Expr} {pos : Pos}
end
end OW
namespace OW
open PySem PySem.Spec PyProof.Rows L2 OT NdefX
def Flt (S L : Hp) : Prop := ∀ (c : Addr) (q : List Str), L c = some (.tup (q.map V.str)) → S c = L c
def spF {D ρ : Type} (K : PySem.W.Frag) (As : D → List AP) (w : D → Wp ρ) (res : ρ → RP) (Ms : ρ → List OP) : Sp := fun vs H Q E => ∃ d S A P Z, Pro K (As d) (w d) res Ms vs H Q E S A P Z ∧ Flt S (minus H A)
section
variable {B : Bs} {Γ : Gm} {O : Om}
end
section
variable {P : Program} {w : World} {K : PySem.W.Frag} {mg : Str → Option Value} {base : Heap} {x qual : Str} {params : Arguments} {body : List Stmt} {scope : Scope} {kws : List (Str × V)} {f : Addr} {fd : FuncData}
end
section
variable {P : Program} {w : World} {K : PySem.W.Frag} {mg : Str → Option Value} {base : Heap} {k : Nat} {ps : List Str}
end
section
variable {X : Cx} {B : Bs} {Γ : Gm} {O N : Om} {Z : Er → Prop} {e : Expr} {es : List Expr} {p pos : Pos} {x : Str} {Wx : WX} {τ D ρ : Type} {As : D → List AP} {wp : D → Wp ρ} {res : ρ → RP} {Ms : ρ → List OP} {F : τ → List AA} {M R : Om} {w : Wp τ}
variable {k : Nat} {ps : List Str}
end
section
variable {X : Cx} {B : Bs} {Γ : Gm} {O : Om} {Z : Er → Prop} {e : Expr} {p pos : Pos} {α : Type} {f : α → MP}
end
end OW
namespace OW
open PySem PySem.Spec PyProof.Rows L2 OT NdefX
def spDF {D : Type} (As : D → List BP) (o : Bool) : Sp := fun vs H Q E => ∃ d, AllR (As d) H H vs ∧ ∀ v S' H', (OT.tB o).R S' v → Q v H'
end OW

namespace OW
open PySem PySem.Spec PyProof.Rows L2 OT NdefX
section
variable {X : Cx} {B : Bs} {Γ : Gm} {O : Om} {Z : Er → Prop} {e : Expr} {p pos : Pos}
end
end OW
namespace OW
open PySem PySem.Spec PyProof.Rows L2 OT NdefX
end OW
namespace OW
open PySem PySem.Spec PyProof.Rows L2 OT NdefX
section
variable {X : Cx} {B : Bs} {Γ : Gm} {O : Om} {Z : Er → Prop} {a b : Expr} {pos : Pos}
end
end OW
namespace OW
open PySem PySem.Spec PyProof.Rows L2 OT NdefX
section
variable {P : Program} {w : World} {A : Around} {E : Value → Shared → Prop} {s : Shared}
abbrev IsV (P : Program) (w : World) (h : Heap) (k : List Str) (a : Addr) : Prop := IsTupleKey (strKind P w) h k a
abbrev vh (P : Program) (w : World) (k : List Str) : Int := tupleKeyHash (strKind P w) k
abbrev Vn := Addr × List Str

def vRow (P : Program) (w : World) (x : Vn) : Int × Value := (vh P w x.2, .ref x.1)
structure SV (P : Program) (w : World) (h : Heap) (a : Addr) (L : List Vn) (es : Array (Int × Value)) (ep : Nat) (t : SetTable) : Prop where
  ob : ∃ o, h.get? a = some o ∧ o.ExactSet ∧ o.data = .set es ep t
  rows : es.toList = L.map (vRow P w)
  tab : TabOk t (L.map fun x => vh P w x.2)
  nd : (L.map (·.2)).Nodup
  led : w.params.followText "set-order" = true ∨ t.led = true
  room : L.length * 5 < t.mask * 3
  few : L.length < 64
variable {a : Addr} {L : List Vn} {es : Array (Int × Value)} {ep : Nat} {t : SetTable}
theorem rows_size {es : Array (Int × Value)} {L : List Vn} (h : es.toList = L.map (vRow P w)) : es.size = L.length := by
  have := congrArg List.length h
  rwa [Array.length_toList, List.length_map] at this
theorem fits_of {n : Nat} (sz : t.place.size = n) (dm : t.dummies = #[]) (h : n ≤ t.mask) : t.fits n = true := by
  unfold SetTable.fits SetTable.fill
  rw [dm, Bool.and_eq_true, beq_iff_eq, decide_eq_true_eq]
  show t.place.size = n ∧ t.place.size + 0 ≤ t.mask
  omega
theorem SV.fits (R : SV P w s.heap a L es ep t) : t.fits es.size = true := by
  have h1 := R.tab.sz
  rw [List.length_map] at h1
  have h2 := rows_size R.rows
  have h3 := R.room
  exact fits_of (by omega) R.tab.dm (by omega)
theorem SV.whole (R : SV P w s.heap a L es ep t) : ¬ t.gaveWay = true := by
  unfold SetTable.gaveWay
  rw [mask_odd R.tab.mok]
  decide
end
end OW
namespace OW
open PySem PySem.Spec PyProof.Rows L2 OT NdefX
section
variable {P : Program} {w : World} {A : Around} {E : Value → Shared → Prop} {s : Shared} {a : Addr} {L : List Vn} {es : Array (Int × Value)} {ep : Nat} {t : SetTable}
end
end OW
namespace OW
open PySem PySem.Spec PyProof.Rows L2 OT NdefX
structure SetOfV (xs L : List Vn) : Prop where
  sub : ∀ x ∈ L, x ∈ xs
  all : ∀ x ∈ xs, x.2 ∈ L.map (·.2)
  len : L.length ≤ xs.length
theorem SetOfV.more {xs L L' : List Vn} {x : Vn} (g : SetOfV xs L) (pm : L'.Perm (x :: L)) : SetOfV (xs ++ [x]) L' := ⟨fun y hy => by
  rcases List.mem_cons.mp (pm.mem_iff.mp hy) with e | hy
  · exact List.mem_append_right _ (List.mem_singleton.mpr e)
  · exact List.mem_append_left _ (g.sub y hy), fun y hy => by
  refine (pm.map (·.2)).mem_iff.mpr ?_
  rcases List.mem_append.mp hy with hy | hy
  · exact List.mem_cons_of_mem _ (g.all y hy)
  · rw [List.mem_singleton.mp hy]; exact .head _, by rw [pm.length_eq, List.length_append]; exact Nat.succ_le_succ g.len⟩
section
variable {P : Program} {w : World} {A : Around} {E : Value → Shared → Prop} {s : Shared}
theorem SV.keep {h h' : Heap} {a : Addr} {L : List Vn} {es : Array (Int × Value)} {ep : Nat} {t : SetTable} (R : SV P w h a L es ep t) (e : ∀ o, h.get? a = some o → h'.get? a = some o) : SV P w h' a L es ep t := by
  obtain ⟨o, ho, r⟩ := R.ob
  exact { R with ob := ⟨o, e o ho, r⟩ }
def setObj0 (w : World) : Obj := { cls := .type "set", dict := none, data := .set #[] 0 (.fresh 0 0 (!w.params.followText "set-order")) }
theorem SV.empty {h : Heap} {a : Addr} (ho : h.get? a = some (setObj0 w)) : SV P w h a [] #[] 0 (.fresh 0 0 (!w.params.followText "set-order")) where
  ob := ⟨_, ho, ⟨rfl, rfl, rfl⟩, rfl⟩
  rows := rfl
  tab := ⟨.nil, rfl, rfl, .inl rfl, fun x hx => (by cases hx), fun i h j hi => (by simp at hi)⟩
  nd := .nil
  led := by
    show _ ∨ (!w.params.followText "set-order") = true
    cases w.params.followText "set-order"
    · exact .inr rfl
    · exact .inl rfl
  room := by
    show 0 * 5 < 7 * 3
    decide
  few := by
    show 0 < 64
    decide
end
end OW
namespace OW
open PySem PySem.Spec PyProof.Rows L2 OT NdefX
section
variable {P : Program} {w : World} {A : Around} {E : Value → Shared → Prop} {s : Shared} {a : Addr} {L : List Vn} {es : Array (Int × Value)} {ep : Nat} {t : SetTable}
end
end OW
namespace OW
open PySem PySem.Spec PyProof.Rows L2 OT NdefX
def SetVO (P : Program) (w : World) (a : Addr) (L : List Vn) : HO := .ext fun h => ∃ es ep t, SV P w h a L es ep t
section
variable {X : Cx}
def rSetV (K : PySem.W.Frag) (P : Program) (w : World) : List V → Hp → VK → Prop := fun xs H Q => ∃ (l : Addr) (ks : List Vn), xs = [V.ref l] ∧ SqL K H l (ks.map fun x => V.ref x.1) ∧ (∀ x ∈ ks, SqT K H x.1 (x.2.map V.str)) ∧ ks.length < 64 ∧
  ∀ a L, H a = none → SetOfV ks L → (L.map (·.2)).Nodup → Q (.ref a) (upd H a (SetVO P w a L))
def rSortV (K : PySem.W.Frag) (P : Program) (w : World) : List V → Hp → VK → Prop := fun vs H Q => ∃ (a : Addr) (L : List Vn), vs = [V.ref a] ∧ H a = some (SetVO P w a L) ∧ (∀ x ∈ L, SqT K H x.1 (x.2.map V.str)) ∧ (∀ x ∈ L, x.2 ≠ []) ∧
  ∀ (L' : List Vn) (p : Addr), L'.Perm L → H p = none → Q (.ref p) (upd H p (.lst ((L'.mergeSort (PySem.W.dataLe false fun x : Vn => vsD x.2)).map fun x => V.ref x.1)))
end
def W.setV (xs : List (List Str)) : Wp (List (List Str)) := fun Q _ => (xs.length < 64 ∧ ∀ x ∈ xs, x ≠ []) ∧ ∀ ys : List (List Str), ys.Nodup → (∀ y, y ∈ ys ↔ y ∈ xs) → Q (srtD vsD ys)
section
variable {X : Cx} {B : Bs} {Γ : Gm} {O : Om} {Z : Er → Prop} {e : Expr} {p p2 q pos : Pos}
theorem Stt.junk {S H : Hp} {σ : L2.St} {a : Addr} {o : HO} (t : Stt B Γ O S H σ) (ha : H a = none) : Stt B Γ O S (upd H a o) σ := t.step (Stp.own t.sub ha)
end
end OW
namespace OW
open PySem PySem.Spec PyProof.Rows L2 OT NdefX
def rDClearT : V → List V → Hp → VK → Prop := fun x vs H Q => ∃ (a : Addr) (kvs : List (List Key × V)), x = .ref a ∧ vs = [] ∧ H a = some (.dT kvs) ∧ Q .non (upd H a (.dT []))
section
variable {X : Cx} {o : Expr} {to : TE} {apos cpos : Pos}
end
section
variable {X : Cx} {B : Bs} {Γ : Gm} {O : Om} {Z : Er → Prop} {nm : Str} {p1 pos pos' apos : Pos} {rest : List Stmt} {D : Ends} {α κ : Type} [DecidableEq κ] {ke : κ → List Key}
end
end OW
namespace OW
open PySem PySem.Spec PyProof.Rows L2 OT NdefX
end OW
namespace OW
open PySem PySem.Spec PyProof.Rows L2 OT NdefX
section
variable {X : Cx} {B : Bs} {Γ : Gm} {O : Om} {body : List Stmt} {D : Ends} {α : Type} {f : α → MP} {u : V} {xs : List α} {q : Prop}
end
end OW
namespace OW
open PySem PySem.Spec PyProof.Rows L2 OT NdefX
section
variable {X : Cx} {B : Bs} {Γ : Gm} {O : Om} {Z : Er → Prop} {body : List Stmt} {D : Ends} {α β : Type} {F : β → OP} {f : α → MP} {pos : Pos}
theorem SW.apart {u : V} {kvs : List (Str × β)} {j : Str} {q : β → Prop} (h : ∀ x z, dget kvs j = some x → SW X B Γ ((z, F x) :: (u, oDn (sumF F) (detach kvs j z)) :: O) body D (q x)) : SW X B Γ ((u, oDn F kvs) :: O) body D (∃ x, dget kvs j = some x ∧ q x) := fun ⟨x, e, hq⟩ S H σ st => by
  obtain ⟨z, y, vs, a1, a2, a3, t2⟩ := st.apart e
  exact h x z e hq S H σ t2
end
end OW
namespace OW
open PySem PySem.Spec PyProof.Rows L2 OT NdefX
def W.pop0 {α : Type} (xs : List α) : Wp (α × List α) := fun Q _ => ∃ a, xs[xs.length - 1]? = some a ∧ Q (a, xs.dropLast)
section
variable {X : Cx} {B : Bs} {Γ : Gm} {O : Om} {Z : Er → Prop} {α : Type} {nm : Str} {p1 pos apos : Pos}
theorem AllO.dropLast {S H : Hp} {f : α → MP} : ∀ {xs : List α} {vs : List V}, AllM (xs.map f) S vs → AllM (xs.dropLast.map f) S vs.dropLast
  | [], [], _ => trivial
  | [], _ :: _, h => h.elim
  | _ :: _, [], h => h.elim
  | [x], [v], _ => trivial
  | [x], _ :: _ :: _, h => h.2.elim
  | _ :: _ :: _, [_], h => h.2.elim
  | x :: y :: xs, v :: w :: vs, h => ⟨h.1, AllO.dropLast (H := H) (xs := y :: xs) (vs := w :: vs) h.2⟩
end
end OW
namespace OW
open PySem PySem.Spec PyProof.Rows L2 OT NdefX
def ltS (x y : Str) : Bool := decide (x.cps.toList < y.cps.toList)
section
variable {X : Cx} {B : Bs} {Γ : Gm} {O : Om} {Z : Er → Prop} {a b : Expr} {pos : Pos} {wa wb : Wp Str}
end
section
variable {X : Cx}
def rLtDat (K : PySem.W.Frag) (d : Nat) : R2 := fun x y H Q => ∃ da db, Dp K H x da ∧ Dp K H y db ∧ PySem.W.alike da db = true ∧ da ≠ .none ∧ da.depth ≤ d ∧ Q (.bl (PySem.W.dataLt da db)) H
variable {B : Bs} {Γ : Gm} {O : Om} {Z : Er → Prop} {a b : Expr} {pos : Pos} {α : Type} {f : α → MP} {g : α → PyData} {d : Nat} {wa wb : Wp α}
end
section
variable {K : PySem.W.Frag} {α β γ : Type} {f1 : α → MP} {g1 : α → PyData} {f2 : β → MP} {g2 : β → PyData} {f3 : γ → MP} {g3 : γ → PyData} {d1 d2 d3 : Nat}
end
end OW
namespace OW
open PySem PySem.Spec PyProof.Rows L2 OT NdefX
def once (xs : List Str) : List Str := xs.foldl (fun a x => if a.any (· == x) then a else a ++ [x]) []
section
variable {prog : Program} {w : World} {A : Around} {E : Value → Shared → Prop} {s : Shared}
def setObjL (led : Bool) : Obj := { cls := .type "set", dict := none, data := .set #[] 0 (.fresh 0 0 led) }
end
section
variable {X : Cx}
def SetSO (P : Program) (w : World) (a : Addr) (xs : List Str) : HO := .ext fun h => h.SetOf (PySem.strKind P w) a (fun y => xs.any (· == y)) (once xs).length
def rSetX (K : PySem.W.Frag) (P : Program) (w : World) : List V → Hp → VK → Prop := fun vs H Q => ∃ (l : Addr) (xs : List Str), vs = [V.ref l] ∧ (SqL K H l (xs.map V.str) ∨ SqT K H l (xs.map V.str)) ∧ xs.length < 4000 ∧ ∀ a, H a = none → Q (.ref a) (upd H a (SetSO P w a xs))
def rLenX (P : Program) (w : World) : List V → Hp → VK → Prop := fun vs H Q => ∃ (a : Addr) (xs : List Str), vs = [V.ref a] ∧ H a = some (SetSO P w a xs) ∧ xs.length < 4000 ∧ Q (.int (once xs).length) H
variable {B : Bs} {Γ : Gm} {O : Om} {Z : Er → Prop} {e : Expr} {p p2 q pos : Pos}
end
end OW
namespace OW
open PySem PySem.Spec PyProof.Rows L2 OT NdefX
section
variable {X : Cx} {B : Bs} {Γ : Gm} {O : Om} {Z : Er → Prop} {e : Expr} {α : Type} {f : α → MP} {n : Nat}
end
end OW
namespace OW
open PySem PySem.Spec PyProof.Rows L2 OT NdefX
section
variable {K : PySem.W.Frag} {α : Type} {f : α → MP}
end
section
variable {X : Cx} {B : Bs} {Γ : Gm} {O : Om} {D : Ends} {body : List Stmt} {α : Type} {f : α → MP} {u : V} {q : Prop}
end
end OW
namespace HT
open PySem PySem.Spec PyProof.Rows
section
variable {prog : Program} {w : World} {A : Around} {E : Value → Shared → Prop} {s : Shared}
end
end HT
namespace L2
open PySem PySem.Spec PyProof.Rows
section
variable {X : Cx}
def tRevT (K : PySem.W.Frag) (te : TE) : TE := fun σ H Q => te σ H fun x H1 => ∃ a xs, x = .ref a ∧ SqT K H1 a xs ∧ ∀ p, H1 p = none → Q (.ref p) (upd H1 p (.tup xs.reverse))
end
end L2
namespace OW
open PySem PySem.Spec PyProof.Rows L2 OT NdefX
section
variable {X : Cx} {B : Bs} {Γ : Gm} {O N : Om} {Z : Er → Prop} {e : Expr} {p1 p2 p3 pos : Pos} {α : Type} {f : α → MP}
end
end OW
namespace OW
open PySem PySem.Spec PyProof.Rows L2 OT NdefX
section
variable {X : Cx} {B : Bs} {Γ : Gm} {O N N' : Om} {Z : Er → Prop} {a b : Expr} {p pos apos : Pos}
variable {wa : Wp (Str × Str)} {wb : Wp (List (Str × Str))}
end
end OW
namespace L2
open PySem PySem.Spec PyProof.Rows
section
variable {X : Cx}
def tRevL0 (K : PySem.W.Frag) (te : TE) : TE := fun σ H Q => te σ H fun x H1 => ∃ a xs, x = .ref a ∧ SqL K H1 a xs ∧ ∀ p, H1 p = none → Q (.ref p) (upd H1 p (.lst (xs.drop 1).reverse))
end
end L2
namespace OW
open PySem PySem.Spec PyProof.Rows L2 OT NdefX
section
variable {X : Cx} {B : Bs} {Γ : Gm} {O N : Om} {Z : Er → Prop} {e : Expr} {p0 p1 p2 p3 pos : Pos} {α : Type} {f : α → MP}
end
end OW
namespace OW
open PySem PySem.Spec PyProof.Rows L2 OT NdefX
section
variable {X : Cx} {B : Bs} {Γ : Gm} {O N : Om} {Z : Er → Prop} {e : Expr} {α β : Type} {f : α → MP} {g : β → MP} {pos : Pos}
def oneOf3 (K : PySem.W.Frag) (f : α → MP) (xs ys : List α) (u : V) (i : _root_.Fin 3) : MP := ([tLs K f xs, tV u, tTs K f xs] : List MP).get i
theorem EW.known {w : Wp α} {x : α} (h : EW X B Γ O Z e f w) : EW X B Γ O Z e (fun _ : Unit => f x) (fun Q E => w (fun a => a = x ∧ Q ()) E) :=
  fun S H σ st P Q p n => h S H σ st _ Q p fun a v S' H' ⟨ea, pa⟩ s t r => by
    subst ea
    exact n () v S' H' pa s t r
end
end OW
namespace OW
open PySem PySem.Spec PyProof.Rows L2 OT NdefX
def keyV (v : Value) : Str := match v with | .str k _ => k | _ => Str.empty
def keyT (e : Int × Value) : Str := keyV e.2
def GoodT (w : World) (e : Int × Value) : Prop := ∃ k tk, e.2 = Value.str k tk ∧ e.1 = hashStr w k

def SetRT (w : World) (h : Heap) (a : Addr) (S : Str → Bool) (n : Nat) : Prop :=
  ∃ o es ep t, h.get? a = some o ∧ o.ExactSet ∧ o.data = .set es ep t ∧ (∀ e ∈ es.toList, GoodT w e) ∧ (es.toList.map keyT).Nodup ∧ (∀ k, S k = true ↔ k ∈ es.toList.map keyT) ∧
    es.size < scanBound ∧ t.fits es.size = true ∧ es.size = n ∧ Ris t.place.toList ∧ (w.params.followText "set-order" = true ∨ t.led = true)

section
variable {P : Program} {w : World} {h h' : Heap} {a : Addr} {S : Str → Bool} {n : Nat}

theorem SetRT.congr {S' : Str → Bool} (R : SetRT w h a S n) (e : ∀ k, S' k = S k) : SetRT w h a S' n := by
  have q : S' = S := funext e
  rw [q]; exact R
end

section
variable {P : Program} {w : World} {A : Around} {E : Value → Shared → Prop} {s : Shared} {a : Addr} {S : Str → Bool} {n : Nat}







end
section
variable {P : Program} {w : World} {A : Around} {E : Value → Shared → Prop} {s : Shared} {a : Addr} {S : Str → Bool} {n : Nat}
end
section
variable {X : Cx}
def SetTO (w : World) (a : Addr) (xs : List Str) : HO := .ext fun h => ∃ c, c ≤ xs.length ∧ SetRT w h a (fun j => decide (j ∈ xs)) c
def rSetT' (K : PySem.W.Frag) (w : World) : List V → Hp → VK → Prop := fun vs H Q => ∃ (l : Addr) (xs : List Str), vs = [V.ref l] ∧ (SqL K H l (xs.map V.str) ∨ SqT K H l (xs.map V.str)) ∧ xs.length < 64 ∧ ∀ a, H a = none → Q (.ref a) (upd H a (SetTO w a xs))
def rSortT' (w : World) : List V → Hp → VK → Prop := fun vs H Q => ∃ (a : Addr) (xs : List Str), vs = [V.ref a] ∧ H a = some (SetTO w a xs) ∧ xs.length < 64 ∧
  ∀ (p : Addr), H p = none → Q (.ref p) (upd H p (.lst ((srt (once xs)).map V.str)))
variable {B : Bs} {Γ : Gm} {O : Om} {Z : Er → Prop} {e : Expr} {p p2 q pos : Pos}
end
end OW
namespace OW
open PySem PySem.Spec PyProof.Rows L2 OT NdefX
theorem bool_shape {b : Bool} {v : Value} (h : (match v with | .bool c => c == b | _ => false) = true) : v = .bool b := by
  cases v <;> simp_all
section
variable {P : Program} {w : World} {A : Around} {E : Value → Shared → Prop} {s : Shared}
theorem hash_b {k : Bool} {v : Value} {Q : Int → Shared → Prop} (e : v = .bool k) (h : Q (reduceHash (if k then 1 else 0)) { s with toks := s.toks + 1 }) : wpAny (model P w) A (PySem.pyHash v) Q E s := by
  subst e
  refine PySem.W.pyHash_slot (T := "bool") rfl F.slot_bool_hash entry_int_hash (args_int_hash _) (beq_builtin_none _) (.inl rfl) ?_
  cases k
  · exact (show wpAny _ _ (do ret (← mkInt 0)) _ _ s from wpAny_bind (wpAny_mkInt (wpAny_pure ⟨_, _, rfl, h⟩)))
  · exact (show wpAny _ _ (do ret (← mkInt 1)) _ _ s from wpAny_bind (wpAny_mkInt (wpAny_pure ⟨_, _, rfl, h⟩)))
theorem eq_b {a b : Bool} {u v : Value} {Q : Bool → Shared → Prop} (e1 : u = .bool a) (e2 : v = .bool b) (h : Q (decide (a = b)) s) : wpAny (model P w) A (PySem.eqBool u v) Q E s := by
  subst e1 e2
  refine PySem.SeqAt.EqAt.bool_bool a b _ _ _ _ ?_
  have e : (a == b) = decide (a = b) := by cases a <;> cases b <;> rfl
  rw [e]; exact h
end
def bKind (P : Program) (w : World) : PySem.KeyKind P w Bool where
  is := fun b v => match v with | .bool c => c == b | _ => false
  hash := fun b => reduceHash (if b then 1 else 0)
  inj := fun v a b ha hb => by
    have e1 := bool_shape ha
    have e2 := bool_shape hb
    rw [e1] at e2
    injection e2
  byValue := fun k v h => by rw [bool_shape h]; rfl
  pyHash := fun hv h => hash_b (bool_shape hv) h
  eqBool := fun hu hv h => eq_b (bool_shape hu) (bool_shape hv) h
  «strs» := fun k x t v h => by cases h
section
variable {P : Program} {w : World} {H : Hp} {h : Heap} {a : Addr}
end
abbrev Bd : Type := (Bool × Bool) × Addr × V
def kyB (q : Bool × Bool) : List Bool := [q.1, q.2]
abbrev BdR : List Bd → List (List Bool × Addr × Value) → Prop := Paired fun p q => q.1 = kyB p.1 ∧ q.2.1 = p.2.1 ∧ RelV p.2.2 q.2.2
section
variable {P : Program} {w : World} {A : Around} {E : Value → Shared → Prop}
end
def tBd (trs : List (TE × TE)) (ti : TE) : TE := fun σ H Q => ∀ d, H d = none → tPairs trs σ (upd H d (.dT [])) fun ps H2 => H2 d = some (.dT []) ∧ ∃ kvs : List Bd, ps = kvs.map (fun x => (V.ref x.2.1, x.2.2)) ∧ kvs.length ≤ 15 ∧ (kvs.map (·.1)).Nodup ∧
  (∀ x ∈ kvs, H2 x.2.1 = some (.tup [.bl x.1.1, .bl x.1.2])) ∧ ∀ ob, ti σ (upd H2 d ob) fun y H4 => ∃ b x, y = V.ref b ∧ H4 b = some (.tup [.bl x.1.1, .bl x.1.2]) ∧ H4 d = some ob ∧ (∀ x ∈ kvs, H4 x.2.1 = some (.tup [.bl x.1.1, .bl x.1.2])) ∧ x ∈ kvs ∧ Q x.2.2 H4
def BdO (P : Program) (w : World) (d : Addr) (xs : List (List Bool × Addr × Value)) : HO := .ext fun h => ∃ o es ep, h.get? d = some o ∧ o.ExactDict ∧ o.data = .dict es ep ∧ es.toList = xs.map (entryOfKey (tupleKind (bKind P w)))
def oJk : OP := ⟨fun S H A v => ∃ p, v = .ref p ∧ A = [p], fun {S S' H H' A v} e hA h => h⟩
def pick4 {α : Type} (q : Bool × Bool) (a b c d : α) : α := if q.1 then (if q.2 then a else b) else (if q.2 then c else d)
section
variable {X : Cx} {B : Bs} {Γ : Gm} {O : Om} {Z : Er → Prop} {α : Type} {f : α → MP} {k1 k2 k3 k4 e1 e2 e3 e4 ix : Expr} {pos dpos : Pos} {w1 w2 w3 w4 : Wp α} {q : Bool × Bool}
end
end OW
namespace OW
open PySem PySem.Spec PyProof.Rows L2 OT NdefX
def oOptD {α : Type} (f : α → MP) : Option (List (Str × α)) → OP
  | none => oNone
  | some l => oDs f l
def bOptD {α : Type} (f : α → MP) : Option (List (Str × α)) → BP
  | none => bNone
  | some l => rD f l
section
variable {X : Cx} {B : Bs} {Γ : Gm} {O N : Om} {Z : Er → Prop} {e a b : Expr} {p pos : Pos} {D : Ends} {body : List Stmt} {α : Type} {f : α → MP} {u : V} {x : Option (List (Str × α))} {nm : Str}
end
section
variable {K : PySem.W.Frag} {α : Type} {f : α → MP}
end
section
variable {X : Cx} {B : Bs} {Γ : Gm} {O : Om} {Z : Er → Prop} {e : Expr} {nm : Str} {p1 p3 pos' apos cpos : Pos} {rest : List Stmt} {D : Ends} {α : Type} {f : α → MP}
end
section
variable {X : Cx} {B : Bs} {Γ : Gm} {O : Om} {Z : Er → Prop} {e : Expr} {α : Type} {f : α → MP}
end
end OW
namespace PySem
open Sem (wp)
section
variable {prog : Program} {w : World} {A : Around} {E : Value → Shared → Prop} {s : Shared}
end
end PySem
namespace OW
open PySem PySem.Spec PyProof.Rows L2 OT NdefX
def tKstar (tk tv tm : TE) : TE := fun σ H Q => ∀ p, H p = none → tPairs [(tk, tv)] σ (upd H p (.dK [])) fun ps H1 => ∃ x y, ps = [(x, y)] ∧ ∃ k, x = kV k ∧ H1 p = some (.dK []) ∧
  tm σ (upd H1 p (.dK [(k, y)])) fun m H2 => ∃ (a : Addr) (kvs kvs' : List (Key × V)), m = .ref a ∧ a ≠ p ∧ H2 p = some (.dK kvs') ∧ kvs'.length ≤ 100000 ∧ Rd H2 a (.dK kvs) ∧ kvs.length ≤ 100000 ∧ Q (.ref p) (upd H2 p (.dK (mergeK kvs' kvs)))
def tStars (t1 t2 : TE) : TE := fun σ H Q => ∀ p, H p = none → t1 σ (upd H p (.dK [])) fun m H1 => ∃ (a : Addr) (kvs : List (Key × V)), m = .ref a ∧ a ≠ p ∧ H1 p = some (.dK []) ∧ Rd H1 a (.dK kvs) ∧ kvs.length ≤ 100000 ∧
  t2 σ (upd H1 p (.dK (mergeK [] kvs))) fun m H2 => ∃ (a : Addr) (kvs kvs' : List (Key × V)), m = .ref a ∧ a ≠ p ∧ H2 p = some (.dK kvs') ∧ kvs'.length ≤ 100000 ∧ Rd H2 a (.dK kvs) ∧ kvs.length ≤ 100000 ∧ Q (.ref p) (upd H2 p (.dK (mergeK kvs' kvs)))
section
variable {X : Cx} {B : Bs} {Γ : Gm} {O : Om} {Z : Er → Prop} {em em2 kx vx : Expr} {pos : Pos} {α : Type} {f : α → MP}
def dmg {α : Type} (a b : List (Str × α)) : List (Str × α) := b.foldl (fun d q => dput d q.1 q.2) a
end
end OW
namespace OW
open PySem PySem.Spec PyProof.Rows L2 OT NdefX
section
variable {X : Cx} {B : Bs} {Γ : Gm} {O N N' : Om} {Z : Er → Prop} {a b : Expr} {p pos apos : Pos}
def lsD (q : List Str) : PyData := .list (q.map PyData.str)
variable {wa : Wp (List Str)} {wb : Wp (List (List Str))}
end
end OW
namespace OW
open PySem PySem.Spec PyProof.Rows L2 OT NdefX
section
variable {X : Cx} {B : Bs} {Γ : Gm} {O : Nat → Om} {O1 : Om} {Z : Er → Prop} {n : Nat} {e ix ix2 : Expr} {p1 p3 pos pos' : Pos} {D : Ends} {rest : List Stmt} {α : Type} {nm : Str} {f : α → MP}
end
end OW
namespace OW
open PySem PySem.Spec PyProof.Rows L2 OT NdefX
section
variable {X : Cx} {B : Bs} {Γ : Gm} {O : Om} {Z : Er → Prop} {e : Expr} {α β : Type} {f : α → MP} {F : α → OP} {g : β → MP}
def W.nev {α β : Type} (w : Wp α) : Wp β := fun _ E => w (fun _ => False) E
theorem EW.never {w : Wp α} (h : EW X B Γ O Z e f w) : EW X B Γ O Z e g (W.nev w) := fun S H σ st P Q p n => h S H σ st (fun _ => False) Q p fun a v S1 H1 p1 _ _ _ => p1.elim
theorem NW.never {w : Wp α} (h : NW X B Γ O Z e F w) : EW X B Γ O Z e g (W.nev w) := fun S H σ st P Q p n => h S H σ st (fun _ => False) Q p fun a v S1 H1 p1 _ _ _ => p1.elim
end
end OW
namespace OW
open PySem PySem.Spec PyProof.Rows L2 OT NdefX
abbrev oLL {α : Type} (f : α → MP) (xs : List (List α)) : OP := oL (xs.map fun d => oLs f d)
abbrev bLL {α : Type} (f : α → MP) (xs : List (List α)) : BP := bLB (xs.map fun d => rL f d)
theorem lend_LL {α : Type} {f : α → MP} {xs : List (List α)} : Lend (oLL f xs) (bLL f xs) := lend_L fun _ => lend_Ls
section
variable {X : Cx}
def rEqD (K : PySem.W.Frag) : R2 := fun x y H Q => ∃ d e, Dp K H x d ∧ Dp K H y e ∧ SeqAt.shaped d = true ∧ SeqAt.shaped e = true ∧ Q (.bl (PyData.eqv d e)) H
def rNeD (K : PySem.W.Frag) : R2 := fun x y H Q => ∃ d e, Dp K H x d ∧ Dp K H y e ∧ SeqAt.shaped d = true ∧ SeqAt.shaped e = true ∧ Q (.bl (!PyData.eqv d e)) H
end
section
variable {X : Cx} {B : Bs} {Γ : Gm} {O N N' : Om} {Z : Er → Prop} {a b : Expr} {p p1 p2 pos pos' apos : Pos} {α : Type} {f : α → MP} {rest : List Stmt} {D : Ends} {nm nm2 : Str}
section
variable {wa : Wp (List Str)} {wb : Wp (List (List Str))}
end
section
variable {wa wb : Wp (List (List Str))}
end
end
end OW
namespace OW
open PySem PySem.Spec PyProof.Rows L2 OT NdefX
section
variable {X : Cx} {α : Type} {f : α → MP} {n : Nat} {ok : α → Prop}
theorem sames (h : ∀ x, ok x → EqM X n (f x).b (f x).b true) {xs : List α} (hx : ∀ x ∈ xs, ok x) : RcM X .Eq (n + 1) (rL f xs) (rL f xs) true := fun S H u v sm h1 h2 => by
  obtain ⟨a, vs, e1, k1, h3⟩ := h1
  obtain ⟨c, ws, e2, k2, g3⟩ := h2
  subst e1 e2
  have items : ∀ {xs : List α} {vs ws : List V}, (∀ x ∈ xs, ok x) → AllM (xs.map f) S vs → AllM (xs.map f) S ws → vs.length = ws.length ∧ ∀ (i : Nat) (u v : V), vs[i]? = some u → ws[i]? = some v → EqN X n u v true H := by
    intro xs
    induction xs with
    | nil =>
      intro vs ws _ m1 m2
      cases vs with
      | nil => cases ws with
        | nil => exact ⟨rfl, fun i u v h => by cases h⟩
        | cons _ _ => exact m2.elim
      | cons _ _ => exact m1.elim
    | cons x xs ih =>
      intro vs ws hx m1 m2
      cases vs with
      | nil => exact m1.elim
      | cons a vs =>
        cases ws with
        | nil => exact m2.elim
        | cons b ws =>
          obtain ⟨e, g⟩ := ih (fun y hy => hx y (List.mem_cons_of_mem _ hy)) m1.2 m2.2
          refine ⟨by rw [List.length_cons, List.length_cons, e], fun i u v hu hv => ?_⟩
          cases i with
          | zero =>
            have e1 : a = u := by simpa using hu
            have e2 : b = v := by simpa using hv
            subst e1 e2
            exact h x (hx x List.mem_cons_self) S H a b sm m1.1 m2.1
          | succ i => exact g i u v (by simpa using hu) (by simpa using hv)
  obtain ⟨e, g⟩ := items hx (AllR.toM h3) (AllR.toM g3)
  have a1 := RcN.listEq (X := X) (n := n) (e := fun _ => true) (SqL.of k1) (SqL.of k2) e g
  have z : (List.range vs.length).all (fun _ => true) = true := by simp
  rw [z] at a1
  exact a1
abbrev ordsOk (xs : List (List Ord)) : Prop := ∀ r ∈ xs, ∀ o ∈ r, deq o.above o.above = true
end
section
variable {X : Cx} {B : Bs} {Γ : Gm} {O N N' : Om} {Z : Er → Prop} {a b e : Expr} {pos : Pos} {wa wb : Wp (List (List Ord))}
end
end OW
namespace OW
open PySem PySem.Spec PyProof.Rows L2 OT NdefX
section
variable {X : Cx} {B : Bs} {Γ : Gm} {O : Nat → Om} {N N' : Om} {Z : Er → Prop} {n : Nat} {o e : Expr} {es : List Expr} {pos apos : Pos} {α τ ρ Dt : Type} {m : Str} {Wx : WX} {C : Addr} {k : Nat} {ps : List Str} {O1 : Om} {As : Dt → List AP} {wp : Dt → Wp ρ} {res : ρ → RP} {Ms : ρ → List OP} {F : τ → List AA} {bo : α → BP} {wo : Wp α} {w : Wp (τ × Nat)}
end
end OW
namespace OW
open PySem PySem.Spec PyProof.Rows L2 OT NdefX
section
variable {X : Cx} {e : Expr} {es : List Expr} {ta : TA} {p pos : Pos}
def tMkV (C : Addr) (sp : Sp) (ta : TA) : TE := fun σ H Q => ta σ H fun vs H1 => vs.length ≤ 1000 ∧ ∀ a, H1 a = none → sp (.ref a :: vs) (upd H1 a (exo a C none)) (fun v H2 => v = .non ∧ Q (.ref a) H2) (fun _ _ _ => False)
def tMkV0 (C : Addr) (sp : Sp) : TE := fun σ H Q => ∀ a : Addr, H a = none → sp [V.ref a] (upd H a (exo a C none)) (fun v H2 => v = V.non ∧ Q (.ref a) H2) fun _ _ _ => False
def ErF (fs : List (Str × MP)) (S : Hp) (d : Option Addr) : Prop := (fs = [] ∧ d = none) ∨ ∃ b us, d = some b ∧ S b = some (exd b us) ∧ FldR fs S us
theorem ErF.up {fs : List (Str × MP)} {S S' : Hp} {d : Option Addr} (e : Same S S') (h : ErF fs S d) : ErF fs S' d := h.imp id fun ⟨b, us, h1, h2, h3⟩ => ⟨b, us, h1, e _ _ h2, h3.up e⟩
def tErr (K : PySem.W.Frag) (x : Er) : MP := ⟨fun S v => ∃ a d, v = .ref a ∧ S a = some (exo a (He.ga K (x.info K).1) d) ∧ ErF (x.info K).2 S d, fun e ⟨a, d, h1, h2, h3⟩ => ⟨a, d, h1, e _ _ h2, h3.up e⟩⟩
end
structure XisC (K : PySem.W.Frag) (C : Addr) : Prop extends XfC K C where
  ca : PySem.W.findIn K (.ref C) "__class__" = some (some (.builtin "object.__class__"))
  sp : PySem.W.specialIn K (.builtin "object.__class__") "__get__" = some (some (.builtin "getset_descriptor.__get__"))
  tk : PySem.W.takesIn K (.builtin "object.__class__") = some true
  mo : PySem.W.mroIn K C (.type "object") = some true
def rIsV (K : PySem.W.Frag) : List V → Hp → VK → Prop := fun xs H Q => ∃ (a C : Addr) (d : Option Addr) (c : V) (cv : Value) (b : Bool), xs = [.ref a, c] ∧ H a = some (exo a C d) ∧ (d = none ∨ ∃ b us, d = some b ∧ H b = some (exd b us)) ∧ XisC K C ∧ (∀ u, RelV c u → u = cv) ∧ PySem.W.kitOne K (.ref C) cv = some b ∧ Q (.bl b) H
section
variable {X : Cx} {B : Bs} {Γ : Gm} {O : Om} {Z : Er → Prop} {a c e e1 e2 e3 : Expr} {es : List Expr} {p p1 p2 pos : Pos} {α τ : Type} {f : α → MP} {x fl nm : Str} {k : Nat} {ps : List Str} {N : Om}
def tXv (K : PySem.W.Frag) (f : Str) (te : TE) : TE := fun σ H Q => te σ H fun x H1 => ∃ (a C b : Addr) (us : List (Str × V)) (v : V), x = .ref a ∧ XfC K C ∧ PySem.W.findIn K (.ref C) f = some none ∧ H1 a = some (exo a C (some b)) ∧ H1 b = some (exd b us) ∧ us.lookup f = some v ∧ Q v H1
def W.as {α β : Type} (w : Wp Er) (dec : α → Er) (v : α → β) : Wp β := W.bind w fun x Q _ => ∃ y, x = dec y ∧ Q (v y)
variable {ok : α → Prop} {fs : α → List (Str × MP)} {β : Type} {g : β → MP}
end
end OW
namespace OW
open PySem PySem.Spec PyProof.Rows L2 OT NdefX
section
variable {B : Bs} {Γ : Gm} {O : Om} {S H H' : Hp} {σ : L2.St}
theorem Stt.mutV {v v' : V} {P P' : OP} (t : Stt B Γ ((v, P) :: O) S H σ)
    (h : ∀ A, A.Nodup → (∀ a ∈ A, S a = none ∧ H a ≠ none) → P.R S H A v → ∃ A', A'.Nodup ∧ (∀ a ∈ A', S a = none ∧ H' a ≠ none ∧ (a ∈ A ∨ H a = none)) ∧ (∀ a, a ∉ A → H a ≠ none → H' a = H a) ∧ P'.R S H' A' v') : Stt B Γ ((v', P') :: O) S H' σ := by
  obtain ⟨A, nd, hA, A1, A2, e, h2, h3⟩ := t.own
  subst e
  have t1 : Stt B Γ ((v, ⟨fun S0 H0 A0 _ => P.R S0 H0 A0 v, fun e1 e2 q => P.fr e1 e2 q⟩) :: O) S H σ := ⟨t.st, t.slot, t.len, t.own, t.gh⟩
  have t2 := t1.mut (P' := ⟨fun S0 H0 A0 _ => P'.R S0 H0 A0 v', fun e1 e2 q => P'.fr e1 e2 q⟩) (H' := H') h
  exact ⟨t2.st, t2.slot, t2.len, t2.own, t2.gh⟩
theorem AllO.dropN : ∀ {Ps : List OP} {S H : Hp} {A : List Addr} {vs : List V} (n : Nat), AllO Ps S H A vs → ∃ A', A'.Sublist A ∧ AllO (Ps.drop n) S H A' (vs.drop n)
  | _, _, _, A, _, 0, h => ⟨A, List.Sublist.refl _, h⟩
  | [], _, _, A, [], _ + 1, h => ⟨A, List.Sublist.refl _, h⟩
  | [], _, _, _, _ :: _, _ + 1, h => h.elim
  | _ :: _, _, _, _, [], _ + 1, h => h.elim
  | P :: Ps, S, H, A, v :: vs, n + 1, ⟨A1, A2, e, _, h⟩ => by
    obtain ⟨A', s, q⟩ := AllO.dropN n h
    exact ⟨A', by rw [e]; exact s.trans (List.sublist_append_right A1 A2), q⟩
theorem cutV_from (vs : List V) {k : Nat} (h : k ≤ vs.length) : cutV vs (some (k : Int)) none = vs.drop k := by
  unfold cutV
  rw [HT.sIx_nat, HT.sIx_none, Nat.min_eq_left h]
  exact List.take_of_length_le (by rw [List.length_drop]; omega)
end
section
variable {X : Cx} {B : Bs} {Γ : Gm} {O : Om} {Z : Er → Prop} {e k : Expr} {p1 p2 p3 p4 pos pos' : Pos} {α : Type} {f : α → MP} {rest body : List Stmt} {D : Ends} {nm : Str} {j1 j2 : Nat}
theorem w_ixLL {i kk : Nat} {u : V} {xss : List (List α)} {m : Int} (hO : O[kk]? = some (u, oLL f xss) := by rfl) (hG : Γ[i]? = some (some (tV u)) := by rfl) (hN : X.N[i]? = some nm := by rfl) (hv : Vis X.env.scope nm := by first | exact Or.inl rfl | exact Or.inr (Or.inl rfl) | exact Or.inr (Or.inr rfl)) (hd : (nm == ("__debug__" : Str)) = false := by decide) (hcd : (nm == ("__classdict__" : Str)) = false := by decide)
    (hx1 : PlainIx (.Constant (.int (0 : Int)) j1 p2) := by exact fun _ _ => rfl) (hx2 : PlainIx (.Constant (.int m) j2 p4) := by exact fun _ _ => rfl) :
    EW X B Γ O Z (.Subscript (.Subscript (.Name nm p1) (.Constant (.int (0 : Int)) j1 p2) p3) (.Constant (.int m) j2 p4) pos) f (fun Q _ => ∃ l ls y, xss = l :: ls ∧ atI l m = some y ∧ Q y) := fun S H σ st P Q p n =>
  ⟨_, pe_ix ix_q (pe_ix ix_q (pe_var hN hv hd hcd) pe_int hx1) pe_int hx2, by
    obtain ⟨l, ls, y, rfl, hy, p⟩ := p
    obtain ⟨v, h1, h2⟩ := st.slot i _ hG
    have h2' : v = u := h2
    subst h2'
    obtain ⟨A, y', vs, A', e1, e2, e3, e4⟩ := st.at_ (x := (v, oLL f (l :: ls))) (mem_at hO)
    have e1' : v = .ref y' := e1
    subst e1'
    cases vs with
    | nil => exact e4.elim
    | cons z vs =>
      obtain ⟨B1, B2, b1, ⟨b, ws, C1, c1, c2, c3, c4⟩, b3⟩ := e4
      have c1' : z = .ref b := c1
      subst c1'
      obtain ⟨_, c5⟩ := AllO.toS c4
      obtain ⟨w, h4, h5⟩ := atI_get (AllM.toR (H := H) c5) (by
        have := atI_map (g := fun x => f x) hy
        exact atI_map (g := MP.b) this)
      refine ⟨_, h1, y', .ref b :: vs, 0, .ref b, rfl, rfl, .inl (SqL.of e3), ?_, b, ws, m, w, rfl, rfl, .inl (SqL.of c3), h4, n y w S H p (Same.refl _) st h5⟩
      unfold atI ixN
      simp⟩
theorem s_setLL {i : Nat} {u : V} {xss : List (List α)} {m : Int} {w : Wp α} {q : List (List α) → Prop} (h1 : EW X B Γ ((u, oLL f xss) :: O) Z e f w) (h : ∀ yss, SW X B Γ ((u, oLL f yss) :: O) rest D (q yss)) (hG : Γ[i]? = some (some (tV u)) := by rfl) (hN : X.N[i]? = some nm := by rfl)
    (hv : Vis X.env.scope nm := by first | exact Or.inl rfl | exact Or.inr (Or.inl rfl) | exact Or.inr (Or.inr rfl)) (hd : (nm == ("__debug__" : Str)) = false := by decide) (hcd : (nm == ("__classdict__" : Str)) = false := by decide) (hx1 : PlainIx (.Constant (.int (0 : Int)) j1 p2) := by exact fun _ _ => rfl)
    (hs : swapsWithSole [.Subscript (.Subscript (.Name nm p1) (.Constant (.int (0 : Int)) j1 p2) p3) (.Constant (.int m) j2 p4) pos'] e pos.line X.env = pure false := by rfl) (hsw : swappedStores [.Subscript (.Subscript (.Name nm p1) (.Constant (.int (0 : Int)) j1 p2) p3) (.Constant (.int m) j2 p4) pos'] e X.env = pure none := by rfl)
    (hea : (assignEach [.Subscript (.Subscript (.Name nm p1) (.Constant (.int (0 : Int)) j1 p2) p3) (.Constant (.int m) j2 p4) pos'] X.env).map (·.2) = [assign (.Subscript (.Subscript (.Name nm p1) (.Constant (.int (0 : Int)) j1 p2) p3) (.Constant (.int m) j2 p4) pos') X.env] := by rfl)
    (hga : ∀ v, assign (.Subscript (.Subscript (.Name nm p1) (.Constant (.int (0 : Int)) j1 p2) p3) (.Constant (.int m) j2 p4) pos') X.env v = (do
      let o1 ← holding [v] (eval (.Subscript (.Name nm p1) (.Constant (.int (0 : Int)) j1 p2) p3) X.env)
      let i1 ← holding [v, o1] (eval (.Constant (.int m) j2 p4) X.env)
      standAt pos'
      holding [v, o1, i1] (setItem o1 i1 v)
      release [v, o1, i1] []) := by intro _; rfl) :
    SW X B Γ ((u, oLL f xss) :: O) (.Assign [.Subscript (.Subscript (.Name nm p1) (.Constant (.int (0 : Int)) j1 p2) p3) (.Constant (.int m) j2 p4) pos'] e pos :: rest) D (W.run w Z fun z => ∃ l ls j, xss = l :: ls ∧ ixN l.length m = some j ∧ q (l.set j z :: ls)) :=
  s_cons fun hq S H σ st => ⟨_, ps_asg pe_w (pg_sub (pe_ix ix_q (pe_var hN hv hd hcd) pe_int hx1) pe_int set_list (ha := hga)) hs hsw hea, h1 S H σ st _ _ hq fun z u1 S1 H1 pj s1 t1 r1 => by
    obtain ⟨l, ls, j, rfl, hj, pq⟩ := pj
    obtain ⟨v, g1, g2⟩ := t1.slot i _ hG
    have g2' : v = u := g2
    subst g2'
    obtain ⟨A2, y', vs, A3, f1, f2, f3, f4⟩ := t1.at_ (x := (v, oLL f (l :: ls))) List.mem_cons_self
    have f1' : v = .ref y' := f1
    subst f1'
    cases vs with
    | nil => exact f4.elim
    | cons z0 vs =>
      obtain ⟨B1, B2, b1, ⟨b, ws, C1, c1, c2, c3, c4⟩, b3⟩ := f4
      have c1' : z0 = .ref b := c1
      subst c1'
      obtain ⟨c5, c6⟩ := AllO.toS c4
      have hwl : ws.length = l.length := by rw [c6.length, List.length_map]
      refine ⟨_, g1, y', .ref b :: vs, 0, .ref b, rfl, rfl, .inl (SqL.of f3), ?_, b, ws, m, j, rfl, rfl, c3, by rw [hwl]; exact hj, h _ pq S1 _ σ (t1.mut fun A0 n0 hA0 ⟨y2, us, A1, k1, k2, k3, k4⟩ => ?_)⟩
      · unfold atI ixN
        simp
      · cases k1
        rw [f3] at k3
        cases k3
        obtain ⟨D1, D2, d1, ⟨b', ws', E1, g1, g2, g3, g4⟩, d3⟩ := k4
        cases g1
        rw [c3] at g3
        cases g3
        obtain ⟨g5, g6⟩ := AllO.toS g4
        subst g5
        subst g2 d1 k2
        obtain ⟨n1, n2⟩ := List.nodup_cons.mp n0
        have nb : b ∉ D2 := fun hm => (List.nodup_cons.mp n2).1 hm
        have nyb : y' ≠ b := fun e => n1 (by rw [e]; exact List.mem_cons_self)
        refine ⟨y' :: b :: D2, n0, fun a ha => ?_, fun a ha hne => upd_ne fun e => ha (by rw [e]; exact List.mem_cons_of_mem _ List.mem_cons_self), y', .ref b :: vs, b :: D2, rfl, rfl, by rw [upd_ne nyb]; exact f3, [b], D2, rfl, ⟨b, _, [], rfl, rfl, upd_same, AllO.ofS (allM_setI r1 j g6)⟩, d3.fr (Same.refl _) fun a ha => upd_ne fun e => nb (e ▸ ha)⟩
        refine ⟨(hA0 a ha).1, ?_, .inl ha⟩
        by_cases e : a = b
        · rw [e, upd_same]; simp
        · rw [upd_ne e]; exact (hA0 a ha).2⟩
theorem s_slLL {i : Nat} {u : V} {xss : List (List α)} {w : Wp Int} {q : V → List (List α) → Prop} (h1 : EW X B Γ ((u, oLL f xss) :: O) Z k tI w) (h : ∀ v yss, SW X B (Γ.set i (some (tV v))) ((v, oLL f yss) :: O) rest D (q v yss)) (hG : Γ[i]? = some (some (tV u)) := by rfl) (hN : X.N[i]? = some nm := by rfl)
    (hv : Vis X.env.scope nm := by first | exact Or.inl rfl | exact Or.inr (Or.inl rfl) | exact Or.inr (Or.inr rfl)) (hd : (nm == ("__debug__" : Str)) = false := by decide) (hcd : (nm == ("__classdict__" : Str)) = false := by decide) (hl : i < Γ.length := by exact Nat.le_of_ble_eq_true rfl) (hNd : X.N.Nodup := by assumption)
    (hx : Loc X.env.scope nm := by first | exact Or.inl rfl | exact Or.inr rfl) (hs : swapsWith (.Subscript (.Name nm p1) (.Slice (some k) none none p2) p3) (some (.Name nm pos')) pos.line X.env = pure false := by rfl) (hf : X.fn nm = true ∨ X.env.scope.names.lookup nm = some .local := by first | exact .inl rfl | exact .inr rfl | assumption) :
    SW X B Γ ((u, oLL f xss) :: O) (.Assign [.Name nm pos'] (.Subscript (.Name nm p1) (.Slice (some k) none none p2) p3) pos :: rest) D (W.run w Z fun a => ∃ j : Nat, a = (j : Int) ∧ j ≤ xss.length ∧ ∀ v, q v (xss.drop j)) :=
  s_cons fun hq S H σ st => ⟨_, ps_set hNd hN hx (pe_slice sl_list (pe_var hN hv hd hcd) (po_some pe_w) po_none) hs hf, by
    obtain ⟨v, g1, g2⟩ := st.slot i _ hG
    have g2' : v = u := g2
    subst g2'
    obtain ⟨A2, y', vs, A3, f1, f2, f3, f4⟩ := st.at_ (x := (v, oLL f xss)) List.mem_cons_self
    have f1' : v = .ref y' := f1
    subst f1'
    refine ⟨_, g1, h1 S H σ st _ _ hq fun a va S1 H1 pj s1 t1 r1 => ⟨a, r1, ?_⟩⟩
    obtain ⟨j, rfl, hj, pq⟩ := pj
    obtain ⟨A4, y2, us, A5, k1, k2, k3, k4⟩ := t1.at_ (x := (.ref y', oLL f xss)) List.mem_cons_self
    cases k1
    have hul : us.length = xss.length := by rw [k4.length, List.length_map]
    refine ⟨y', us, rfl, SqL.of k3, fun l hl2 => ?_⟩
    rw [cutV_from us (by omega)]
    refine h (.ref l) (xss.drop j) (pq _) S1 _ _ (((t1.mutV (v' := .ref l) (P' := oLL f (xss.drop j)) (H' := upd H1 l (.lst (us.drop j)))) fun A0 n0 hA0 ⟨y3, us3, A6, m1, m2, m3, m4⟩ => ?_).set rfl hl)
    cases m1
    rw [k3] at m3
    cases m3
    subst m2
    obtain ⟨A7, sb, a7⟩ := AllO.dropN j m4
    have hin : ∀ a ∈ A7, a ∈ y' :: A6 := fun a ha => List.mem_cons_of_mem _ (sb.subset ha)
    have hnl : ∀ a ∈ A7, a ≠ l := fun a ha e => (hA0 a (hin a ha)).2 (by rw [e]; exact hl2)
    refine ⟨l :: A7, List.nodup_cons.mpr ⟨fun hm => hnl l hm rfl, sb.nodup (List.nodup_cons.mp n0).2⟩, fun a ha => ?_, fun a ha hne => upd_ne fun e => hne (by rw [e]; exact hl2), l, _, A7, rfl, rfl, upd_same, ?_⟩
    · rcases List.mem_cons.mp ha with e | ha
      · subst e
        refine ⟨?_, by rw [upd_same]; simp, .inr hl2⟩
        cases q0 : S1 a with
        | none => rfl
        | some o => have := t1.sub a o q0; rw [hl2] at this; cases this
      · refine ⟨(hA0 a (hin a ha)).1, by rw [upd_ne (hnl a ha)]; exact (hA0 a (hin a ha)).2, .inl (hin a ha)⟩
    · have e : (xss.drop j).map (fun d => oLs f d) = (xss.map fun d => oLs f d).drop j := List.map_drop
      rw [e]
      exact a7.fr (Same.refl _) fun a ha => upd_ne (hnl a ha)⟩
theorem s_parN {β : Type} {a b : Expr} {i j : Nat} {x y : Str} {F : α → OP} {G : β → OP} {w : Wp (α × β)} {wa : Wp α} {wb : Wp β} {q : α × β → V → V → Prop} {px py pt : Pos} {kt k2 pt2} (ha : NW X B Γ O Z a F wa) (hb : ∀ m, NW X B Γ (O ++ [m]) Z b G wb) (h : ∀ (t : α × β) u1 u2, SW X B ((Γ.set i (some (tV u1))).set j (some (tV u2))) ((u2, G t.2) :: (u1, F t.1) :: O) rest D (q t u1 u2)) (hw : (W.bind wa fun x => W.bind wb fun y => W.ret (x, y)) = w := by rfl)
    (hi : X.N[i]? = some x := by rfl) (hj : X.N[j]? = some y := by rfl) (hl : i < Γ.length := by exact Nat.le_of_ble_eq_true rfl) (hl2 : j < Γ.length := by exact Nat.le_of_ble_eq_true rfl) (hij : i ≠ j := by decide) (hN : X.N.Nodup := by assumption) (hc : X.calm = true := by rfl)
    (hx : X.env.scope.names.lookup x = some .local := by rfl) (hy : X.env.scope.names.lookup y = some .local := by rfl) (hs1 : starEach [a, b] X.env = (false, eval a X.env) :: starEach [b] X.env := by rfl) (hs2 : starEach [b] X.env = (false, eval b X.env) :: starEach [] X.env := by rfl)
    (hsw : swappedStores [.Tuple [.Name x px, .Name y py] kt pt] (.Tuple [a, b] k2 pt2) X.env = pure (some [x, y]) := by rfl)
    (hs : swapsWithSole [.Tuple [.Name x px, .Name y py] kt pt] (.Tuple [a, b] k2 pt2) pos.line X.env = pure false := by rfl) : SW X B Γ O (.Assign [.Tuple [.Name x px, .Name y py] kt pt] (.Tuple [a, b] k2 pt2) pos :: rest) D (W.run w Z fun t => ∀ u1 u2, q t u1 u2) :=
  s_cons fun hq S H σ st => ⟨_, ps_par hc hN hi hj hij hx hy (pa_cons pe_w (pa_cons pe_w pa_nil hs2) hs1) hsw hs, ha S H σ st (fun u => wb (fun y => ∀ u1 u2, q (u, y) u1 u2) Z) _ (by rw [← hw] at hq; exact hq) fun u v S1 H1 p1 s1 t1 r1 => hb (v, F u) S1 H1 σ (t1.perm own_last.symm) (fun y => ∀ u1 u2, q (u, y) u1 u2) _ p1 fun u2 v2 S2 H2 p2 s2 t2 r2 => ⟨v, v2, rfl, h (u, u2) v v2 (p2 v v2) S2 H2 _ (((t2.perm (List.Perm.cons _ own_last)).set rfl hl).set rfl (by rw [List.length_set]; exact hl2))⟩⟩
def W.two (j : _root_.Fin 2) (p q : Prop) : Prop := if j.val = 0 then p else q
theorem SW.two {G : _root_.Fin 2 → Gm} {j : _root_.Fin 2} {q0 q1 : Prop} (h0 : SW X B (G 0) O body D q0) (h1 : SW X B (G 1) O body D q1) : SW X B (G j) O body D (W.two j q0 q1) :=
  match j with
  | ⟨0, _⟩ => fun hq => h0 hq
  | ⟨1, _⟩ => fun hq => h1 hq
end
section
variable {X : Cx} {B : Bs} {Γ : Gm} {O N : Om} {Z : Er → Prop} {a b : Expr} {pos : Pos} {α : Type} {f g : α → MP} {wa wb : Wp (List (List α))}
theorem ne_nilLL (xs ys : List (List α)) (hy : ys = []) : RcM X .NotEq 1 (bLL f xs) (rL (tLs X.K f) ys) (!xs.isEmpty) := fun S H x y sm ⟨a, vs, e1, h1, h2⟩ ⟨b, ws, e2, g1, g2⟩ => by
  subst e1 e2 hy
  have l1 := h2.length
  have l2 := g2.length
  rw [List.length_map] at l1 l2
  cases xs with
  | nil =>
    have hv : vs = [] := List.length_eq_zero_iff.mp l1
    have hw : ws = [] := List.length_eq_zero_iff.mp l2
    subst hv hw
    exact RcN.listNe (n := 0) (e := fun _ => true) (SqL.of h1) (SqL.of g1) rfl fun i x y h => by cases h
  | cons z zs => exact RcN.listNeL (SqL.of h1) (SqL.of g1) (by rw [l1, l2]; simp)
theorem t_neNilLL (hr : Room 1 X.A) (ha : RW X B Γ O Z N a (bLL f) wa) (hb : RN X B Γ O Z b (rL (tLs X.K f)) (W.ret [])) : TW X B Γ O Z (.Compare a [.NotEq] [b] pos) (W.bind wa fun x => W.ret (!x.isEmpty)) :=
  fun S H σ st P Q p n => ⟨_, pt_cmpR (op_neN hr) pe_w pe_w (nomark _), ha.2 S H σ st _ _ p fun x u S1 H1 p1 s1 t1 r1 => hb S1 H1 σ t1 (fun y => y = []) _ rfl fun y v S2 H2 p2 s2 t2 r2 =>
    ⟨_, ne_nilLL x y p2 S2 H2 u v t2.sub (r1 _ _ S2 H2 _ s2 t2 ha.1) r2, fun H' e => ⟨_, rfl, n _ S2 H' p1 (s1.trans s2) (t2.step (Stp.ext t2.sub e))⟩⟩⟩
end
section
variable {X : Cx} {α β : Type} {f : α → MP} {g : β → MP} {n : Nat} {ok : α → Prop}
theorem same_p2 (h : ∀ x, ok x → EqM X n (f x).b (f x).b true) (h' : ∀ y, EqM X n (g y).b (g y).b true) (q : α × β) (hq : ok q.1) : EqM X (n + 1) (tP2 X.K f g q).b (tP2 X.K f g q).b true :=
  RcM.eqM (rcm_tup (Rs := [f q.1, g q.2]) (Qs := [f q.1, g q.2]) (fun _ => true) (fun {l c vs ws H} h1 h2 l1 l2 hh => by
    have := RcN.tupEq h1 h2 hh
    rw [l1, l2] at this
    exact this) fun i hi hj => by
      have hi : i < 2 := hi
      match i, hi with
      | 0, _ => exact h q.1 hq
      | 1, _ => exact h' q.2) (fun _ _ _ ⟨a, _, e, _⟩ => ⟨a, e⟩) (fun _ _ _ ⟨a, _, e, _⟩ => ⟨a, e⟩) fun _ _ _ _ _ _ => rfl
theorem samesN (h : ∀ x, ok x → EqM X n (f x).b (f x).b true) {xs : List α} (hx : ∀ x ∈ xs, ok x) : RcM X .NotEq (n + 1) (rL f xs) (rL f xs) false := fun S H u v sm h1 h2 => by
  obtain ⟨a, vs, e1, k1, h3⟩ := h1
  obtain ⟨c, ws, e2, k2, g3⟩ := h2
  subst e1 e2
  have items : ∀ {xs : List α} {vs ws : List V}, (∀ x ∈ xs, ok x) → AllM (xs.map f) S vs → AllM (xs.map f) S ws → vs.length = ws.length ∧ ∀ (i : Nat) (u v : V), vs[i]? = some u → ws[i]? = some v → EqN X n u v true H := by
    intro xs
    induction xs with
    | nil =>
      intro vs ws _ m1 m2
      cases vs with
      | nil => cases ws with
        | nil => exact ⟨rfl, fun i u v h => by cases h⟩
        | cons _ _ => exact m2.elim
      | cons _ _ => exact m1.elim
    | cons x xs ih =>
      intro vs ws hx m1 m2
      cases vs with
      | nil => exact m1.elim
      | cons a vs =>
        cases ws with
        | nil => exact m2.elim
        | cons b ws =>
          obtain ⟨e, g⟩ := ih (fun y hy => hx y (List.mem_cons_of_mem _ hy)) m1.2 m2.2
          refine ⟨by rw [List.length_cons, List.length_cons, e], fun i u v hu hv => ?_⟩
          cases i with
          | zero =>
            have e1 : a = u := by simpa using hu
            have e2 : b = v := by simpa using hv
            subst e1 e2
            exact h x (hx x List.mem_cons_self) S H a b sm m1.1 m2.1
          | succ i => exact g i u v (by simpa using hu) (by simpa using hv)
  obtain ⟨e, g⟩ := items hx (AllR.toM h3) (AllR.toM g3)
  have a1 := RcN.listNe (X := X) (n := n) (e := fun _ => true) (SqL.of k1) (SqL.of k2) e g
  have z : (List.range vs.length).all (fun _ => true) = true := by simp
  rw [z] at a1
  exact a1
theorem samesN2 (h : ∀ x, ok x → EqM X n (f x).b (f x).b true) {xs : List (List α)} (hx : ∀ r ∈ xs, ∀ x ∈ r, ok x) : RcM X .NotEq (n + 1 + 1) (rL (tLs X.K f) xs) (rL (tLs X.K f) xs) false :=
  samesN (f := tLs X.K f) (ok := fun r => ∀ x ∈ r, ok x) (fun r hr => RcM.eqM (fun S H u v sm h1 h2 => sames h hr S H u v sm (tLs_b (K := X.K) sm h1) (tLs_b (K := X.K) sm h2)) (fun S H x ⟨a, _, e, _⟩ => ⟨a, e⟩) (fun S H x ⟨a, _, e, _⟩ => ⟨a, e⟩) fun _ _ _ _ _ _ => rfl) hx
abbrev dzsOk {β : Type} (n : Nat) (xs : List (List (Dz × β))) : Prop := ∀ r ∈ xs, ∀ x ∈ r, Dz.cmp x.1 x.1 = some true ∧ x.1.dep ≤ n
end
section
variable {X : Cx} {B : Bs} {Γ : Gm} {O N : Om} {Z : Er → Prop} {a b : Expr} {pos : Pos} {β : Type} {g : β → MP} {wa wb : Wp (List (List (Dz × β)))}
theorem t_neZZ [DecidableEq β] (n : Nat) {m : Nat} (hr : Room (n + 3) X.A) (hE : En X m g) (hm : m ≤ n) (ha : RW X B Γ O Z N a (rL (tLs X.K (tP2 X.K (tDz X.K) g))) wa) (hb : RN X B Γ O Z b (rL (tLs X.K (tP2 X.K (tDz X.K) g))) wb) : TW X B Γ O Z (.Compare a [.NotEq] [b] pos) (W.bind wa fun x => W.bind wb fun y => W.grd (x = y ∧ dzsOk n x) false) :=
  fun S H σ st P Q p k => ⟨_, pt_cmpR (op_neN hr) pe_w pe_w (nomark _), ha.2 S H σ st _ _ p fun x u S1 H1 p1 s1 t1 r1 => hb S1 H1 σ t1 _ _ p1 fun y v S2 H2 p2 s2 t2 r2 => by
    obtain ⟨⟨hxy, hc⟩, p2⟩ := p2
    subst hxy
    exact ⟨_, samesN2 (n := n + 1) (ok := fun x => Dz.cmp x.1 x.1 = some true ∧ x.1.dep ≤ n) (fun q hq => same_p2 (ok := fun z => Dz.cmp z z = some true ∧ z.dep ≤ n) (fun z hz S H u v sm h1 h2 => dz_cmp z z hz.2 hz.1 S H u v sm h1 h2) (fun y => by have z := hE.eq y y; rw [decide_eq_true rfl] at z; exact z.mono hm) q hq) hc S2 H2 u v t2.sub (r1 _ _ S2 H2 _ s2 t2 ha.1) r2, fun H' e => ⟨_, rfl, k _ S2 H' p2 (s1.trans s2) (t2.step (Stp.ext t2.sub e))⟩⟩⟩
end
theorem zc_p3 {α β γ : Type} {K : PySem.W.Frag} {f : α → MP} {g : β → MP} {h : γ → MP} {kf : α → Dz} {kg : β → Dz} {kh : γ → Dz} (h1 : DzC K f kf) (h2 : DzC K g kg) (h3 : DzC K h kh) : DzC K (tP3 K f g h) (fun q => .t [kf q.1, kg q.2.1, kh q.2.2]) := fun q S v ⟨a, vs, e1, e2, e3⟩ => by
  rw [tDz]
  match vs, e3 with
  | [x, y, z], e3 => exact ⟨a, [x, y, z], e1, e2, by
      rw [tDzs, tDzs, tDzs, tDzs]
      exact ⟨h1 _ _ _ e3.1, h2 _ _ _ e3.2.1, h3 _ _ _ e3.2.2.1, trivial⟩⟩
end OW
namespace OW
open PySem L2
section
variable {α β τ : Type}
theorem W.loop_pre {b : α → τ → (τ → Prop) → Prop} {k : τ → Prop} (I : List α → τ → Prop) (xs : List α) (h : ∀ pre x post s (K : τ → Prop), xs = pre ++ x :: post → I pre s → (∀ s', I (pre ++ [x]) s' → K s') → b x s K) (hk : ∀ s, I xs s → k s) (s : τ) (h0 : I [] s) : W.loop b k xs s := by
  have go : ∀ (post pre : List α) (s : τ), xs = pre ++ post → I pre s → W.loop b k post s := by
    intro post
    induction post with
    | nil => intro pre s e i; rw [List.append_nil] at e; subst e; exact hk s i
    | cons x post ih =>
      intro pre s e i
      exact h pre x post s _ e i fun s' i' => ih (pre ++ [x]) s' (by rw [e]; simp) i'
  exact go xs [] s rfl h0
theorem W.loop_inv {b : α → τ → (τ → Prop) → Prop} {k : τ → Prop} (I : τ → Prop) (xs : List α) (h : ∀ x ∈ xs, ∀ s (K : τ → Prop), I s → (∀ s', I s' → K s') → b x s K) (hk : ∀ s, I s → k s) (s : τ) (h0 : I s) : W.loop b k xs s :=
  W.loop_pre (fun _ => I) xs (fun pre x post s K e i kk => h x (by rw [e]; simp) s K i kk) hk s h0
theorem W.ite_intro {b : Bool} {p q : Prop} (h1 : b = true → p) (h2 : b = false → q) : W.ite b p q := ⟨h1, h2⟩
theorem W.comp_plain {c : α → Wp Bool} {g : α → Wp β} {E : Er → Prop} (cb : α → Bool) (gb : α → β) {Q : List β → Prop} : ∀ (xs : List α), (∀ x ∈ xs, ∀ P : Bool → Prop, P (cb x) → c x P E) → (∀ x ∈ xs, cb x = true → ∀ P : β → Prop, P (gb x) → g x P E) → Q ((xs.filter cb).map gb) → W.comp c g xs Q E := by
  intro xs
  induction xs generalizing Q with
  | nil => exact fun _ _ h => h
  | cons x xs ih =>
    intro h1 h2 h
    refine h1 x List.mem_cons_self _ (W.ite_intro (fun e => ?_) fun e => ?_)
    · refine h2 x List.mem_cons_self e _ (ih (fun y hy => h1 y (List.mem_cons_of_mem _ hy)) (fun y hy => h2 y (List.mem_cons_of_mem _ hy)) ?_)
      rw [List.filter_cons, if_pos e, List.map_cons] at h
      exact h
    · refine ih (fun y hy => h1 y (List.mem_cons_of_mem _ hy)) (fun y hy => h2 y (List.mem_cons_of_mem _ hy)) ?_
      rw [List.filter_cons, if_neg (by rw [e]; decide)] at h
      exact h
theorem W.compG_plain {c : α → Wp Bool} {g : α → Wp β} {E : Er → Prop} (cb : α → Bool) (gb : α → β) {Q : List β → Prop} (xs : List α) (hl : xs.length ≤ 100000) (h1 : ∀ x ∈ xs, ∀ P : Bool → Prop, P (cb x) → c x P E0) (h2 : ∀ x ∈ xs, cb x = true → ∀ P : β → Prop, P (gb x) → g x P E0) (h : Q ((xs.filter cb).map gb)) : W.compG c g xs Q E := ⟨hl, W.comp_plain cb gb xs h1 h2 h⟩
theorem filter_tt (xs : List α) : xs.filter (fun _ => true) = xs := by simp
variable {κ : Type} [DecidableEq κ]
end
inductive Rch (ps : List (Str × Str)) : Str → Str → Prop where
  | refl (x : Str) : Rch ps x x
  | step {x y z : Str} : (x, y) ∈ ps → Rch ps y z → Rch ps x z
theorem Rch.in {ps : List (Str × Str)} {ns : List Str} (hp : ∀ q ∈ ps, q.1 ∈ ns ∧ q.2 ∈ ns) {x y : Str} (h : Rch ps x y) (hx : x ∈ ns) : y ∈ ns := by
  induction h with
  | refl => exact hx
  | step e _ ih => exact ih (hp _ e).2
theorem Rch.low {ps : List (Str × Str)} {ns : List Str} (hp : ∀ q ∈ ps, q.1 ∈ ns ∧ q.2 ∈ ns) {x y : Str} (h : Rch ps x y) (hy : y ∈ ns) : x ∈ ns := by
  induction h with
  | refl => exact hy
  | step e _ ih => exact (hp _ e).1
def R2 (st : List (Str × List (Str × Bool))) (x y : Str) : Prop := ∃ d, dget st x = some d ∧ y ∈ d.map (·.1)
structure WF2 (ns : List Str) (st : List (Str × List (Str × Bool))) : Prop where
  keys : st.map (·.1) = ns
  row : ∀ x d, dget st x = some d → (d.map (·.1)).Nodup ∧ ∀ y ∈ d.map (·.1), y ∈ ns
section
variable {ns : List Str} {st : List (Str × List (Str × Bool))} {x y : Str}
end
end OW
namespace OW
open PySem L2
def Rk (ps : List (Str × Str)) : Nat → Str → Str → Prop
  | 0, x, y => x = y
  | k + 1, x, y => Rk ps k x y ∨ ∃ z, (x, z) ∈ ps ∧ Rk ps k z y
section
variable {ps : List (Str × Str)} {ns : List Str} {x y : Str}
end
def RL (st : List (Str × List Str)) (x y : Str) : Prop := ∃ l, dget st x = some l ∧ y ∈ l
structure WFL (ns : List Str) (st : List (Str × List Str)) : Prop where
  keys : st.map (·.1) = ns
  row : ∀ x l, dget st x = some l → l.Nodup ∧ ∀ y ∈ l, y ∈ ns
section
variable {ns : List Str} {st : List (Str × List Str)} {x z : Str}
end
end OW
namespace OW
open PySem L2
section
variable {α β : Type}
theorem atI_nat {xs : List α} {k : Nat} {x : α} (h : xs[k]? = some x) : atI xs (k : Int) = some x := by
  have hk : k < xs.length := (List.getElem?_eq_some_iff.mp h).1
  unfold atI ixN
  rw [if_pos (by omega), if_pos (by omega)]
  simpa using h
end
def lET : Str := "abcdefghijklmnopqrstuvwxyz"
def sIG : Str := "abcdefghijklmnopqrstuvwxyz0123456789"
def isNm (t : Str) : Bool := if (t = ("" : Str)) ∨ 8 < t.length ∨ sgin ⟨#[t.cps.toList.headD 0]⟩ lET = false then false else (sgs t).all fun s => sgin s sIG
def goN : List Str → List Str → Option Er
  | _, [] => none
  | pre, x :: xs => if isNm x = false then some (.badName x) else if x ∈ pre then some (.dup x) else goN (pre ++ [x]) xs
def chkN (ns : List Str) : Option Er := if ns.length < 1 ∨ 8 < ns.length then some (.badNumber (ns.length : Int)) else goN [] ns
def chkP (ns : List Str) : List (Str × Str) → Option Er
  | [] => none
  | q :: ps => if q.1 ∉ ns then some (.unknown q.1) else if q.2 ∉ ns then some (.unknown q.2) else chkP ns ps
def Rnd (ps : List (Str × Str)) (x : Str) : Prop := ∃ y, y ≠ x ∧ Rch ps x y ∧ Rch ps y x
open Classical in
noncomputable def rnd (ns : List Str) (ps : List (Str × Str)) : List Str := ns.filter fun x => decide (Rnd ps x)
open Classical in
noncomputable def upOf (ns : List Str) (ps : List (Str × Str)) (x : Str) : List Str := srt (ns.filter fun y => decide (Rch ps x y))
noncomputable def ordOf (ns : List Str) (ps : List (Str × Str)) : Ord := ⟨srt ns, (srt ns).map fun x => (x, upOf ns ps x)⟩
noncomputable def ini (ns : List Str) (ps : List (Str × Str)) : Except Er Ord := match chkN ns with
  | some e => .error e
  | none => match chkP ns ps with
    | some e => .error e
    | none => if rnd ns ps = [] then .ok (ordOf ns ps) else .error (.ring (srt (rnd ns ps)))
def endsX {α : Type} (Q : α → Prop) (E : Er → Prop) : Except Er α → Prop
  | .ok a => Q a
  | .error e => E e
end OW
namespace OW
open PySem L2
section
variable {α : Type}
theorem getI_ok {xs : List α} {i : Int} {Q : α → Prop} (h0 : 0 ≤ i) (h1 : i < (xs.length : Int)) (h : ∀ x, xs[i.toNat]? = some x → Q x) : ∃ x, atI xs i = some x ∧ Q x := by
  have hlt : i.toNat < xs.length := by omega
  have e : i = ((i.toNat : Nat) : Int) := by omega
  have e2 := OW.atI_nat (List.getElem?_eq_getElem hlt)
  rw [← e] at e2
  exact ⟨xs[i.toNat], e2, h _ (List.getElem?_eq_getElem hlt)⟩
theorem rng_mem {m n x : Int} : x ∈ rng m n ↔ m ≤ x ∧ x < n := by
  unfold rng
  rw [List.mem_map]
  constructor
  · rintro ⟨a, h1, rfl⟩
    rw [List.mem_range] at h1
    omega
  · rintro ⟨h1, h2⟩
    exact ⟨(x - m).toNat, by rw [List.mem_range]; omega, by omega⟩
end

end OW
namespace OW
open PySem L2
section
variable {α β γ : Type}
end
def Acy (r : Str → Nat) (ps : List (Str × Str)) : Prop := ∀ q ∈ ps, q.1 = q.2 ∨ r q.1 < r q.2
section
variable {ps ps' : List (Str × Str)} {ns ns' : List Str} {x y : Str} {r : Str → Nat}
theorem Rch.rank (h : Acy r ps) (z : Rch ps x y) : x = y ∨ r x < r y := by
  induction z with
  | refl => exact .inl rfl
  | step e _ ih =>
    rcases h _ e with h1 | h1
    · dsimp only at h1
      rw [h1]; exact ih
    · dsimp only at h1
      rcases ih with h2 | h2
      · rw [← h2]; exact .inr h1
      · exact .inr (Nat.lt_trans h1 h2)
theorem Rch.anti (h : Acy r ps) (z : Rch ps x y) (z' : Rch ps y x) : x = y := by
  rcases z.rank h with e | e
  · exact e
  · rcases z'.rank h with e' | e'
    · exact e'.symm
    · omega
noncomputable def spr (ns : List Str) (ps : List (Str × Str)) : List (Str × Str) := (srt ns).flatMap fun low => ((upOf ns ps low).filter fun high => !decide (high = low)).map fun high => (low, high)
def Nb (ps : List (Str × Str)) (q : Str × Str) : Prop := ¬ ∃ z, z ≠ q.1 ∧ z ≠ q.2 ∧ Rch ps q.1 z ∧ Rch ps z q.2
open Classical in
noncomputable def cvs (ns : List Str) (ps : List (Str × Str)) : List (Str × Str) := (spr ns ps).filter fun q => decide (Nb ps q)
end
end OW
namespace OW
open PySem L2
theorem ite_f {b : Bool} {p q : Prop} (hb : b = false) (h : q) : W.ite b p q := ⟨(fun z => by rw [hb] at z; cases z), fun _ => h⟩
theorem ite_t {b : Bool} {p q : Prop} (hb : b = true) (h : p) : W.ite b p q := ⟨fun _ => h, (fun z => by rw [hb] at z; cases z)⟩
section
variable {α β : Type}
end
def rv (ps : List (Str × Str)) : List (Str × Str) := ps.map fun q => (q.2, q.1)
section
variable {ps ps' : List (Str × Str)} {ns ns' : List Str} {x y : Str}
def cutP (nm : List Str) (l : List (Str × Str)) : List (Str × Str) := l.filter fun q => decide (q.1 ∈ nm) && decide (q.2 ∈ nm)
end
theorem snocRec {α : Type} {P : List α → Prop} (nil : P []) (snoc : ∀ l a, P l → P (l ++ [a])) (l : List α) : P l := by
  have go : ∀ m : List α, P m.reverse := by
    intro m
    induction m with
    | nil => exact nil
    | cons a m ih => rw [List.reverse_cons]; exact snoc _ _ ih
  have := go l.reverse
  rwa [List.reverse_reverse] at this
def sets (l : List Str) : List (List Str) := l.foldl (fun st n => st ++ st.map fun r => r ++ [n]) [[]]
def IsUp (ps : List (Str × Str)) (r : List Str) : Prop := ∀ low ∈ r, ∀ high, Rch ps low high → high ∈ r
def rkD (q : Int × List Str) : PyData := PyData.tuple [PyData.int q.1, (fun xs : List Str => PyData.tuple (xs.map PyData.str)) q.2]
open Classical in
noncomputable def upSets (ns : List Str) (ps : List (Str × Str)) : List (List Str) := (sets (srt ns)).filter fun r => decide (IsUp ps r)
noncomputable def upsOf (ns : List Str) (ps : List (Str × Str)) : List (List Str) := srtD (fun r : List Str => rkD ((r.length : Int), r)) (upSets ns ps)
end OW
namespace OW
open PySem L2
theorem isNm_len {t : Str} (h : isNm t = true) : t.length ≤ 8 := by
  unfold isNm at h
  by_cases e : (t = ("" : Str)) ∨ 8 < t.length ∨ sgin ⟨#[t.cps.toList.headD 0]⟩ lET = false
  · rw [if_pos e] at h; cases h
  · exact Nat.le_of_not_lt fun z => e (.inr (.inl z))
structure Gd (ns : List Str) : Prop where
  nd : ns.Nodup
  l1 : 1 ≤ ns.length
  l8 : ns.length ≤ 8
  nm : ∀ x ∈ ns, isNm x = true
theorem Gd.sz {ns : List Str} (g : Gd ns) : ∀ x ∈ ns, x.length ≤ 8 := fun x hx => isNm_len (g.nm x hx)
structure Pd (ns : List Str) (ps : List (Str × Str)) : Prop where
  mem : ∀ q ∈ ps, q.1 ∈ ns ∧ q.2 ∈ ns
  anti : ∀ x y, Rch ps x y → Rch ps y x → x = y
section
variable {ns nm : List Str} {ps ps' : List (Str × Str)}
end
def goPt (ns : List Str) : List Str → List Str → Option Er
  | _, [] => none
  | pre, x :: xs => if x ∈ pre then some (.dup x) else if x ∉ ns then some (.unknown x) else goPt ns (pre ++ [x]) xs
def chkPt (ns nm : List Str) : Option Er := if nm = [] then some (.badNumber 0) else goPt ns [] nm
end OW
namespace OW
open PySem L2
def wt (m : Nat) (l : List Str) : Nat := (l.map fun z : Str => z.length).sum + l.length * m
def isWd (t : Str) : Bool := !decide (t = ("" : Str)) && !(([(" " : Str), (";" : Str), ("<" : Str)].map fun s => sgin s t).any id)
def goR : Int → List Str → List (Str × Str) → Except Er (List (Str × Str))
  | _, [], acc => .ok acc
  | k, p :: ps, acc => match Txt.split p (" < " : Str) with
    | [a, b] => if isWd a && isWd b then goR (k + 1) ps (acc ++ [(a, b)]) else .error (.badText k)
    | _ => .error (.badText k)
def readF (text : Str) : Except Er (List Str × List (Str × Str)) :=
  match Txt.split text ("; " : Str) with
  | [] => .error (.badText 0)
  | p :: ps => if (Txt.split p (" " : Str)).all isWd then (match goR 1 ps [] with | .ok l => .ok (Txt.split p (" " : Str), l) | .error e => .error e) else .error (.badText 0)
def textOf (ns : List Str) (ps : List (Str × Str)) : Str := Txt.join ("; " : Str) (Txt.join (" " : Str) ns :: ps.map fun q => q.1 ++ (" < " : Str) ++ q.2)
end OW
namespace OW
open PySem
open PySem.Builtin.Int (intBits)
open OT (Fit mulOk)
def rt (q : Rat) : Rt := ⟨q.num, (q.den : Int)⟩
theorem bits_pow {n : Int} {k : Nat} (h : n.natAbs < 2 ^ k) : intBits n ≤ k := by
  unfold intBits
  by_cases hi : n = 0
  · subst hi; simp
  · rw [if_neg (by simpa using hi)]
    have h2 : n.natAbs ≠ 0 := by omega
    exact (Nat.log2_lt h2).mpr h
theorem divInt_same {a b w : Int} (hw : w ≠ 0) : Rat.divInt a w + Rat.divInt b w = Rat.divInt (a + b) w := by
  rw [Rat.divInt_add_divInt _ _ hw hw, ← Int.add_mul, Rat.divInt_mul_right hw]
theorem divInt_lt {a b c d : Int} (hb : 0 < b) (hd : 0 < d) : Rat.divInt a b < Rat.divInt c d ↔ a * d < c * b := by
  have hb' : (0 : Rat) < (b : Rat) := by exact_mod_cast hb
  have hd' : (0 : Rat) < (d : Rat) := by exact_mod_cast hd
  rw [Rat.divInt_eq_div, Rat.divInt_eq_div, Rat.div_lt_iff hb', Rat.div_def, Rat.mul_assoc, Rat.mul_comm _ (b : Rat), ← Rat.mul_assoc, ← Rat.div_def, Rat.lt_div_iff hd']
  exact_mod_cast Iff.rfl
theorem under_iff {q r : Rat} : q.num * (r.den : Int) < r.num * (q.den : Int) ↔ q < r := (Rat.lt_iff q r).symm
def rsum (l : List Rat) : Rat := l.foldl (· + ·) 0
theorem rsum_snoc (l : List Rat) (x : Rat) : rsum (l ++ [x]) = rsum l + x := by simp [rsum, List.foldl_append]
theorem isum_snoc (l : List Int) (x : Int) : isum (l ++ [x]) = isum l + x := by simp [isum]
theorem rsum_div {α : Type} {f : α → Int} {w : Int} (hw : w ≠ 0) (l : List α) : rsum (l.map fun x => Rat.divInt (f x) w) = Rat.divInt (isum (l.map f)) w := by
  induction l using snocRec with
  | nil => show (0 : Rat) = Rat.divInt 0 w; rw [Rat.zero_divInt]
  | snoc l a ih => rw [List.map_append, List.map_append, List.map_singleton, List.map_singleton, rsum_snoc, isum_snoc, ih, divInt_same hw]
def wg (d : List (Str × Int)) (x : Str) : Int := (dget d x).getD 0
def sm (d : List (Str × Int)) : Int := isum (dvals d)
def ms (d : List (Str × Int)) (row : List Str) : Int := isum (row.map (wg d))
theorem isum_cons (x : Int) (l : List Int) : isum (x :: l) = x + isum l := by simp [isum]
theorem isum_perm {l m : List Int} (h : l.Perm m) : isum l = isum m := by
  induction h with
  | nil => rfl
  | cons x _ ih => rw [isum_cons, isum_cons, ih]
  | swap x y l => simp only [isum_cons]; omega
  | trans _ _ a b => exact a.trans b
theorem ms_perm {d : List (Str × Int)} {r s : List Str} (h : r.Perm s) : ms d r = ms d s := isum_perm (h.map _)
theorem ms_cons {d : List (Str × Int)} {x : Str} {r : List Str} : ms d (x :: r) = wg d x + ms d r := by simp [ms]
theorem ms_nn {d : List (Str × Int)} (h : ∀ x, 0 ≤ wg d x) : ∀ r : List Str, 0 ≤ ms d r
  | [] => by simp [ms]
  | x :: r => by have := ms_nn h r; have := h x; rw [ms_cons]; omega
theorem ms_le {d : List (Str × Int)} (h : ∀ x, 0 ≤ wg d x) {r s : List Str} (z : r.Sublist s) : ms d r ≤ ms d s := by
  induction z with
  | slnil => exact Int.le_refl _
  | cons a _ ih => rw [ms_cons]; have := h a; omega
  | cons_cons a _ ih => rw [ms_cons, ms_cons]; omega
theorem wg_cons {k : Str} {v : Int} {d : List (Str × Int)} {x : Str} : wg ((k, v) :: d) x = if x = k then v else wg d x := by
  unfold wg dget
  rw [List.find?_cons]
  by_cases h : x = k
  · subst h; simp
  · have h' : ¬ k = x := fun z => h z.symm
    simp [h, h']
theorem ms_congr {d d' : List (Str × Int)} {r : List Str} (h : ∀ x ∈ r, wg d x = wg d' x) : ms d r = ms d' r := by
  unfold ms
  rw [List.map_congr_left h]
theorem sm_ms : ∀ {d : List (Str × Int)}, (d.map (·.1)).Nodup → sm d = ms d (d.map (·.1))
  | [], _ => rfl
  | (k, v) :: d, h => by
    have h1 := List.nodup_cons.mp h
    have ih := sm_ms h1.2
    show isum (v :: dvals d) = ms ((k, v) :: d) (k :: d.map (·.1))
    rw [isum_cons, ms_cons, wg_cons, if_pos rfl]
    have : ms ((k, v) :: d) (d.map (·.1)) = ms d (d.map (·.1)) := ms_congr fun x hx => by
      rw [wg_cons, if_neg]
      rintro rfl
      exact h1.1 hx
    rw [this, ← ih]
    rfl
structure Wd (m : Int) (ns : List Str) (d : List (Str × Int)) : Prop where
  keys : d.map (·.1) = ns
  nn : ∀ x, 0 ≤ wg d x
  pos : 0 < sm d
  le : sm d ≤ m
theorem Wd.sm {m : Int} {ns : List Str} {d : List (Str × Int)} (h : Wd m ns d) (hn : ns.Nodup) : OW.sm d = ms d ns := by
  have := sm_ms (d := d) (by rw [h.keys]; exact hn)
  rwa [h.keys] at this
def chn (d : List (Str × Int)) : Chn := ⟨((srt (d.map (·.1))).filter fun x => decide (0 < wg d x)).map fun x => (x, rt (Rat.divInt (wg d x) (sm d)))⟩
def scl (f : Int) (d : List (Str × Int)) : List (Str × Int) := d.map fun q => (q.1, f * q.2)
def barr (ups : List (List Str)) (l h : List (Str × Int)) : Option (List Str) := ups.find? fun row => decide (ms h row * sm l < ms l row * sm h)
theorem Wd.part {m : Int} {ns r : List Str} {d : List (Str × Int)} (w : Wd m ns d) (hn : ns.Nodup) (hr : r.Sublist (srt ns)) : 0 ≤ ms d r ∧ ms d r ≤ OW.sm d := by
  refine ⟨ms_nn w.nn r, ?_⟩
  rw [w.sm hn, ← ms_perm (srt_perm ns)]
  exact ms_le w.nn hr
end OW
namespace OW
open PySem L2
theorem takeN_ok {n : Nat} {l : Int} {Q : Int × Nat → Prop} {E : Er → Prop} (hn : n < 2 ^ 40) (h0 : 0 < l) (h1 : l ≤ 100000) (h : ∀ a, 0 ≤ a → a < l → Q (a, n + 1)) : wTakeN n l Q E :=
  ⟨⟨hn, h0, Nat.le_trans (intBits_le_64 (by omega) (by omega)) (by decide)⟩, h⟩
end OW
namespace OW
open PySem L2 OT
open PySem.Builtin.Int (intBits)
theorem rsum_go (l : List Rat) : ∀ a : Rat, l.foldl (· + ·) a = a + l.foldl (· + ·) 0 := by
  induction l with
  | nil => intro a; simp only [List.foldl_nil]; grind
  | cons x l ih => intro a; rw [List.foldl_cons, List.foldl_cons, ih (a + x), ih (0 + x)]; grind
theorem rsum_cons (x : Rat) (l : List Rat) : rsum (x :: l) = x + rsum l := by
  unfold rsum
  rw [List.foldl_cons, rsum_go l (0 + x)]
  grind
theorem rsum_nil : rsum [] = 0 := rfl
section
variable {α : Type} {f g : α → Rat}
theorem rsum_add (l : List α) : rsum (l.map fun x => f x + g x) = rsum (l.map f) + rsum (l.map g) := by
  induction l with
  | nil => simp only [List.map_nil, rsum_nil]; grind
  | cons x l ih => simp only [List.map_cons, rsum_cons, ih]; grind
theorem rsum_congr {l : List α} (h : ∀ x ∈ l, f x = g x) : rsum (l.map f) = rsum (l.map g) := by rw [List.map_congr_left h]
theorem rsum_zero {l : List α} (h : ∀ x ∈ l, f x = 0) : rsum (l.map f) = 0 := by
  induction l with
  | nil => rfl
  | cons x l ih => rw [List.map_cons, rsum_cons, h x List.mem_cons_self, ih fun y hy => h y (List.mem_cons_of_mem _ hy)]; grind
theorem rsum_nn {l : List α} (h : ∀ x ∈ l, 0 ≤ f x) : 0 ≤ rsum (l.map f) := by
  induction l with
  | nil => rw [List.map_nil, rsum_nil]; grind
  | cons x l ih =>
    have h1 := h x List.mem_cons_self
    have h2 := ih fun y hy => h y (List.mem_cons_of_mem _ hy)
    rw [List.map_cons, rsum_cons]; grind
theorem rsum_ge {l : List α} {x : α} (h : ∀ x ∈ l, 0 ≤ f x) (hx : x ∈ l) : f x ≤ rsum (l.map f) := by
  induction l with
  | nil => cases hx
  | cons y l ih =>
    rw [List.map_cons, rsum_cons]
    have h1 := h y List.mem_cons_self
    have h2 := rsum_nn (f := f) fun z hz => h z (List.mem_cons_of_mem y hz)
    rcases List.mem_cons.mp hx with rfl | hx
    · grind
    · have := ih (fun z hz => h z (List.mem_cons_of_mem _ hz)) hx
      grind
end
def snd {α : Type} (l : List α) (f : α → Rat) (s : α → Str) (y : Str) : Rat := rsum ((l.filter fun x => decide (s x = y)).map f)
section
variable {α : Type} {f g : α → Rat} {s : α → Str}
theorem snd_cons {l : List α} {x : α} {y : Str} : snd (x :: l) f s y = (if s x = y then f x else 0) + snd l f s y := by
  unfold snd
  by_cases e : s x = y
  · rw [List.filter_cons_of_pos (by simpa using e), if_pos e, List.map_cons, rsum_cons]
  · rw [List.filter_cons_of_neg (by simpa using e), if_neg e]; grind
theorem one_at {U : List Str} (hn : U.Nodup) {z : Str} (hz : z ∈ U) (c : Rat) (v : Str → Rat) : rsum (U.map fun y => (if z = y then c else 0) * v y) = c * v z := by
  induction U with
  | nil => cases hz
  | cons u U ih =>
    obtain ⟨h1, h2⟩ := List.nodup_cons.mp hn
    rw [List.map_cons, rsum_cons]
    by_cases e : z = u
    · subst e
      rw [if_pos rfl, rsum_zero (fun y hy => by
        have : ¬ z = y := fun e => h1 (e ▸ hy)
        rw [if_neg this]; grind)]
      grind
    · rw [if_neg e, ih h2 ((List.mem_cons.mp hz).resolve_left e)]
      grind
theorem snd_val {U : List Str} (hn : U.Nodup) (v : Str → Rat) (l : List α) (h : ∀ x ∈ l, s x ∈ U) : rsum (U.map fun y => snd l f s y * v y) = rsum (l.map fun x => f x * v (s x)) := by
  induction l with
  | nil => rw [List.map_nil, rsum_nil]; exact rsum_zero fun y _ => by show snd [] f s y * v y = 0; unfold snd; rw [List.filter_nil, List.map_nil, rsum_nil]; grind
  | cons x l ih =>
    have e : rsum (U.map fun y => snd (x :: l) f s y * v y) = rsum (U.map fun y => (if s x = y then f x else 0) * v y + snd l f s y * v y) := rsum_congr fun y _ => by rw [snd_cons]; grind
    rw [e, rsum_add, one_at hn (h x List.mem_cons_self), ih fun z hz => h z (List.mem_cons_of_mem _ hz), List.map_cons, rsum_cons]
theorem snd_one {U : List Str} (hn : U.Nodup) (l : List α) (h : ∀ x ∈ l, s x ∈ U) : rsum (U.map (snd l f s)) = rsum (l.map f) := by
  have := snd_val (f := f) hn (fun _ => 1) l h
  have e1 : rsum (U.map fun y => snd l f s y * 1) = rsum (U.map (snd l f s)) := rsum_congr fun y _ => by grind
  have e2 : rsum (l.map fun x => f x * 1) = rsum (l.map f) := rsum_congr fun y _ => by grind
  rw [e1, e2] at this
  exact this
theorem snd_nn {l : List α} (h : ∀ x ∈ l, 0 ≤ f x) (y : Str) : 0 ≤ snd l f s y := rsum_nn fun x hx => h x (List.mem_filter.mp hx).1
end
def chF (U : List Str) (f : Str → Rat) : Chn := ⟨((srt U).filter fun x => decide (0 < f x)).map fun x => (x, rt (f x))⟩
structure Cf (U : List Str) (D : Int) (f : Str → Rat) : Prop where
  nn : ∀ x, 0 ≤ f x
  out : ∀ x, x ∉ U → f x = 0
  one : rsum (U.map f) = 1
  pos : 0 < D
  dn : ∀ x, ∃ a : Int, 0 ≤ a ∧ f x = Rat.divInt a D
section
variable {U : List Str} {D D' : Int} {f g : Str → Rat}
theorem Cf.le (h : Cf U D f) (x : Str) : f x ≤ 1 := by
  by_cases hx : x ∈ U
  · rw [← h.one]
    exact rsum_ge (fun y _ => h.nn y) hx
  · rw [h.out x hx]; grind
end
end OW
namespace OW
open PySem L2 OT
open PySem.Builtin.Int (intBits)
def Ov (D m : Int) (q : Rat) : Prop := ∃ a : Int, -m ≤ a ∧ a ≤ m ∧ q = Rat.divInt a D
section
variable {D D' m m' : Int} {q r : Rat}
theorem Ov.fit (h : Ov D m q) (hD : 0 < D) (h1 : D.natAbs < 2 ^ 3000) (h2 : m.natAbs < 2 ^ 3000) : Fit 4000 q := by
  obtain ⟨a, b, c, rfl⟩ := h
  have e : a.natAbs ≤ m.natAbs := by omega
  exact OT.fit_divInt (by omega) (Nat.le_trans (bits_pow (k := 3000) (Nat.lt_of_le_of_lt e h2)) (by decide)) (Nat.le_trans (bits_pow (k := 3000) h1) (by decide))
theorem Ov.neg (h : Ov D m q) : Ov D m (-q) := by
  obtain ⟨a, b, c, rfl⟩ := h
  exact ⟨-a, by omega, by omega, by rw [Rat.neg_divInt]⟩
theorem Ov.zero (hm : 0 ≤ m) : Ov D m 0 := ⟨0, by omega, by omega, by simp⟩
theorem ov01 {a : Int} (hD : 0 < D) (h0 : 0 ≤ q) (h1 : q ≤ 1) (e : q = Rat.divInt a D) : Ov D D q := by
  have hd : (0 : Rat) < (D : Rat) := Rat.intCast_pos.mpr hD
  have e2 : q * (D : Rat) = (a : Rat) := by
    rw [e, Rat.divInt_eq_div, Rat.div_def, Rat.mul_assoc, Rat.inv_mul_cancel _ (by grind)]
    grind
  have h2 : (0 : Rat) ≤ (a : Rat) := by rw [← e2]; exact Rat.mul_nonneg h0 (Rat.le_of_lt hd)
  have h3 : (a : Rat) ≤ (D : Rat) := by
    have : q * (D : Rat) ≤ 1 * (D : Rat) := Rat.mul_le_mul_of_nonneg_right h1 (Rat.le_of_lt hd)
    grind
  have h2' : 0 ≤ a := Rat.intCast_nonneg.mp h2
  have h3' : a ≤ D := Rat.intCast_le_intCast.mp h3
  exact ⟨a, by omega, h3', e⟩
end
section
variable {U : List Str} {D D' : Int} {f g : Str → Rat}
theorem Cf.ov (h : Cf U D f) (x : Str) : Ov D D (f x) := by
  obtain ⟨a, _, e⟩ := h.dn x
  exact ov01 h.pos (h.nn x) (h.le x) e
theorem over_sum {α : Type} {l : List α} {F : α → Rat} (hD : 0 < D) (h : ∀ x ∈ l, ∃ a : Int, 0 ≤ a ∧ F x = Rat.divInt a D) : ∃ a : Int, 0 ≤ a ∧ rsum (l.map F) = Rat.divInt a D := by
  induction l with
  | nil => exact ⟨0, by omega, by rw [List.map_nil, rsum_nil]; simp⟩
  | cons x l ih =>
    obtain ⟨a, h1, e1⟩ := h x List.mem_cons_self
    obtain ⟨b, h2, e2⟩ := ih fun y hy => h y (List.mem_cons_of_mem _ hy)
    refine ⟨a + b, by omega, ?_⟩
    rw [List.map_cons, rsum_cons, e1, e2]
    exact divInt_same (by omega)
theorem Cf.sent (h : Cf U D f) (hU : U.Nodup) {s : Str → Str} (hs : ∀ x ∈ U, s x ∈ U) : Cf U D (snd U f s) where
  nn := snd_nn fun x _ => h.nn x
  out := fun y hy => by
    unfold snd
    rw [List.filter_eq_nil_iff.mpr fun x hx => by
      have := hs x hx
      simp only [decide_eq_true_iff]
      exact fun e => hy (e ▸ this)]
    rfl
  one := by rw [snd_one hU U hs]; exact h.one
  pos := h.pos
  dn := fun y => over_sum h.pos fun x _ => h.dn x
end
end OW
namespace K62
open PySem PySem.Spec PyProof.Rows L2
section
open OT
open PySem.Builtin.Int (intBits)
variable {P : Program} {w : World} {K : PySem.W.Frag} {mg : Str → Option Value} {base : Heap}
theorem old_pool (c : Ct P K mg) : GF P w K mg base "_law_pool" 1 ["_law_cell_here"] (spD (D := Int) (fun d => [bI d]) (fun _ => .new (OW.mPoolN 0))) := by
  refine gf_mk (fd_l_pool c) (fun _ F => bd_l_pool F) (glo_l_pool c) fun fd F => def_ok F sc_l_pool (fun d _ => [some (tI d)]) ?_
  rintro cdv A outer s H S Q E x hr nd k
  exact s_retNew ((n_lst (Rs := [tI _, tI 0, tB _]) (a_cons (e_abs (free_abs c) (e_var 0)) (a_cons e_int (a_cons (e_ge (e_abs (free_abs c) (e_var 0)) (e_pow e_int e_int ⟨by decide, by decide, by decide⟩)) a_nil)))).imp (OW.poolN_close (n := 0) rfl)) fun p o S' H' st n1 n2 h1 h2 => k p o S' H' st n1 n2 h1 h2
theorem old_take (c : Ct P K mg) : GF P w K mg base "_law_take" 1 ["_law_pool_here", "_law_limit"] (spM2 (D := OW.LimN) (ι := Int) (fun d => OW.mPoolN d.1.1) (fun d => OW.mPoolN (d.1.1 + 1)) (fun d => [bI d.1.2]) (fun d i => 0 ≤ i ∧ i < d.1.2) fun _ i => tI i) := by
  refine gf_mk (fd_l_take c) (fun _ F => bd_l_take F) (glo_l_take c) fun fd F => defM2_ok F sc_l_take (fun d p _ => [some (tR p), some (tI d.1.2), none, none]) ?_
  rintro cdv A outer s H0 H S Q E ⟨⟨n, l⟩, hn, hl, hz⟩ p hr nd k
  have hn : n < 2 ^ 40 := hn
  have hl : 0 < l := hl
  have hz : intBits l ≤ 9000 := hz
  refine SJ.openO OW.poolN_open fun i => ?_
  obtain ⟨x, b⟩ := i
  have hl0 : l ≠ 0 := by omega
  have hmod : ∀ z : Int, 0 ≤ z.fmod l ∧ z.fmod l < l := fun z => by
    rw [Int.fmod_eq_emod_of_nonneg _ (by omega)]
    exact ⟨Int.emod_nonneg _ hl0, Int.emod_lt_of_pos _ hl⟩
  have hm1 : ∀ z : Int, 0 ≤ z.fmod 2147483647 ∧ z.fmod 2147483647 < 2147483647 := fun z => by
    rw [Int.fmod_eq_emod_of_nonneg _ (by decide)]
    exact ⟨Int.emod_nonneg _ (by decide), Int.emod_lt_of_pos _ (by decide)⟩
  refine s_setix (i := 0) (j := 1) (R := tI ((n : Int) + 1)) (e_add (e_ixL (e_lst_own 0 List.mem_cons_self) e_int rfl) e_int) e_int ?_ rfl rfl
  refine s_if (t_val (e_ixL (e_lst_own 0 List.mem_cons_self) e_int rfl)) (fun hk => ?_) fun hk => ?_
  · refine s_set (i := 2) (R := tI (x.fmod l)) (e_mod (e_intI (free_int c) (e_ixL (e_lst_own 0 List.mem_cons_self) e_int rfl)) (e_var 1) hl0) ?_
    refine s_setix (i := 0) (j := 0) (R := tI (x.fdiv l)) (e_fdiv (e_intI (free_int c) (e_ixL (e_lst_own 0 List.mem_cons_self) e_int rfl)) (e_var 1) hl0 (log2_lt_of_bits hz (by decide))) e_int ?_ rfl rfl
    exact s_retM (P := fun i => i = x.fmod l) (R := tI) (EJ.mi (e_var 2)) fun j v S' H' σ hj t hv => k j v S' H' σ _ (by rw [hj]; exact hmod x) (t.closeO (OW.poolN_close (by push_cast; rfl))) hv
  · refine s_skip ?_
    have h1 := hm1 x
    refine s_set (i := 3) (R := tI (((x.fmod 2147483647 * 48271 + ((n : Int) + 1) * 69621 + 11) ^ (5 : Int).toNat).fmod 2147483647)) (e_mod (e_pow (e_intI (free_int c) (e_add (e_add (e_mul (e_mod (e_intI (free_int c) (e_ixL (e_lst_own 0 List.mem_cons_self) e_int rfl)) e_int (by decide)) e_int (.of_right (by decide))) (e_mul (e_ixL (e_lst_own 0 List.mem_cons_self) e_int rfl) e_int (.of_right (by decide)))) e_int)) e_int ⟨by decide, by decide, by omega⟩) e_int (by decide)) ?_
    generalize hy : ((x.fmod 2147483647 * 48271 + ((n : Int) + 1) * 69621 + 11) ^ (5 : Int).toNat).fmod 2147483647 = y
    have h2 : 0 ≤ y ∧ y < 2147483647 := by rw [← hy]; exact hm1 _
    refine s_set (i := 3) (R := tI (((y * 40692 + ((n : Int) + 1) * 16811 + 7) ^ (3 : Int).toNat).fmod 2147483629)) (e_mod (e_pow (e_intI (free_int c) (e_add (e_add (e_mul (e_var 3) e_int (.of_right (by decide))) (e_mul (e_ixL (e_lst_own 0 List.mem_cons_self) e_int rfl) e_int (.of_right (by decide)))) e_int)) e_int ⟨by decide, by decide, by omega⟩) e_int (by decide)) ?_
    exact s_retM (P := fun i => ∃ z : Int, i = z.fmod l) (R := tI) ((EJ.mi (e_mod (e_fdiv (e_var 3) e_int (by decide) (by decide)) (e_var 1) hl0)).imp fun i hi => ⟨i, ⟨_, hi⟩, rfl⟩) fun j v S' H' σ ⟨z, hj⟩ t hv => k j v S' H' σ _ (by rw [hj]; exact hmod z) (t.closeO (OW.poolN_close (by push_cast; rfl))) hv
end
section
variable {P : Program} {w : World} {K : PySem.W.Frag} {mg : Str → Option Value} {base : Heap}
abbrev w_l_pool (d : Int) := OW.wPoolN d
@[local irreducible] def w_l_take (n : Nat) (d : Int) (Q : Int × Nat → Prop) (E : OW.Er → Prop) : Prop := OW.wTakeN n d Q E
theorem ok_l_pool (c : Ct P K mg) : OT.GF P w K mg base "_law_pool" 1 ["_law_cell_here"] (OW.spW K (fun d : Int => [.b (OT.tI d).b]) (fun d => w_l_pool d) (fun n : Nat => .o (OW.oPoolN n)) (fun _ => [])) :=
  let ⟨f, fd, F, r⟩ := old_pool c
  ⟨f, fd, F.imp fun _ _ _ _ h => OW.poolN_sp h, r⟩
theorem ok_l_take (c : Ct P K mg) : OT.GF P w K mg base "_law_take" 1 ["_law_pool_here", "_law_limit"] (OW.spW K (fun d : Nat × Int => [.o (OW.oPoolN d.1), .b (OT.tI d.2).b]) (fun d => w_l_take d.1 d.2) (fun a : Int × Nat => .v (OT.tI a.1)) (fun a => [OW.oPoolN a.2])) :=
  let ⟨f, fd, F, r⟩ := old_take c
  ⟨f, fd, F.imp fun _ _ _ _ h => by with_unfolding_all exact OW.takeN_sp h, r⟩
end

open OW
open OT hiding At BlkJ GJ GJs Om Stt TW Wp a_cons a_nil dcol def_ok fun_ok n_lst s_if s_nil s_set s_skip t_val
section
variable {P : Program} {w : World} {K : PySem.W.Frag} {mg : Str → Option Value} {base : Heap}
theorem ok_BadNumber (c : Ct P K mg) : GE P w K mg base "BadNumber" (He.ga K "BadNumber") 1 ["self", "n"] (spE1 (He.ga K "BadNumber") "n") := by
  have z := er_BadNumber c
  obtain ⟨fd, F, W, b1, b2, b3, b4, b5, b6⟩ := z.xi
  have hsc : NdefX.NScope ["self", "n", "__class__"] ["self", "n"] ["__class__"] F.scope := by
    rw [b2]
    exact NdefX.nscope_by (by decide +kernel)
  refine ge_mk (xi_one W hsc b1 (by rw [b3]; rfl) rfl (by rw [b2]; rfl) (z.no "n" (by simp [e_BadNumber])) (by decide) (by decide) ?_ (fun _ => rfl) (fun _ => rfl) (fun _ => ⟨_, rfl⟩) (fun _ => rfl)) W.T z.ini z.fn z.mgx (XI.binds W b6 ?_)
  · intro X hN hv σ H v Q hs ho h
    exact fmt_pre (i := 1) (by rw [hN]; rfl) hv (by decide +kernel) (by decide) (by decide) hs ho h
  · intro kV doc pm an ct us hl
    rw [b3]
    exact match us, hl with | [_, _], _ => rfl
theorem ok_BadShares (c : Ct P K mg) : GE P w K mg base "BadShares" (He.ga K "BadShares") 3 ["self", "total"] (spEx (He.ga K "BadShares") (fun d : Rt => [((tRat K) d).b]) (fun _ => True) (fun d => [("total", (tRat K) d)])) := by
  have z := er_BadShares c
  obtain ⟨fd, F, W, b1, b2, b3, b4, b5, b6⟩ := z.xi
  have hsc : NdefX.NScope ["self", "total", "__class__"] ["self", "total"] ["__class__"] F.scope := by
    rw [b2]
    exact NdefX.nscope_by (by decide +kernel)
  refine ge_mk (xi_gen (ps := ["total"]) W hsc b1 (by rw [b3]; rfl) rfl (by rw [b2]; rfl) (fun _ => rfl) ?_ (fun _ => rfl) (fun _ => rfl) (fun _ => ⟨_, rfl⟩)) W.T z.ini z.fn z.mgx (XI.binds W b6 ?_)
  · intro A outer s H0 H1 S Q E d a hr _ q
    obtain ⟨bo, pa, scp⟩ := F
    cases b2
    cases b3
    refine ⟨OT.EJ.any OT.e_str, ?_⟩
    refine OT.s_ost1 W.T (z.no "total" (by simp [e_BadShares])) (OT.e_var 1) (OT.e_var 0) fun x => ?_
    exact OT.s_nil (OT.NX.xmade q)
  · intro kV doc pm an ct us hl
    rw [b3]
    exact match us, hl with | [_, _], _ => rfl

@[local irreducible] def w_common (a0 : Int) (b0 : Int) (Q : Int → Prop) (E : Er → Prop) : Prop :=
  W.run (W.ret ((a0.natAbs : Int), (b0.natAbs : Int))) E fun t =>
  W.whil E (fun st : Int × Int => W.ret (!decide (st.2 = (0 : Int)))) (fun st kn =>
    W.run (W.bind (W.grd (st.2 ≠ 0) ((st.1).fmod st.2)) fun z => W.ret (st.2, z)) E fun t_1 =>
  kn (t_1.1, t_1.2))
    (fun st => W.run (W.ret st.1) E Q) (t.1, t.2)
theorem ok_common (c : Ct P K mg) : GF P w K mg base "common" 1 ["a", "b"] (spW K (fun d : Int × Int => [.b (tI d.1).b, .b (tI d.2).b]) (fun d => w_common d.1 d.2) (fun r : Int => .v (tI r)) (fun _ => [])) := by
  refine gf_mkA (fd_common c) (fun _ F => bd_common F) (glo_common c) fun fd F => def_ok F sc_common (fun d vs L => [some (tI d.1), some (tI d.2), none, none]) (fun _ _ => []) (fun _ _ _ => []) ?_ (by intro _; rfl) (fun d vs L hv => match vs, hv with | [_, _], _ => rfl) (fun d vs hv => match vs, hv with | [_, _], _ => rfl) (fun d vs r hv => match vs, hv with | [_, _], _ => rfl)
  rintro cdv A outer s' H0 L S Q0 E0' ⟨a0, b0⟩ vs Q E hv nd hr fin hdQ
  have tk := (hdQ [] _ (List.Sublist.refl _)).tk
  have hd : ∀ Γ O, Hd _ _ Γ O E _ := fun Γ O => hdQ Γ O (List.nil_sublist _)
  have po : PassesOwn (model P w) _ _ _ := @own_cx P w K mg base "common" (defScope s_common) (He.ga K "common") ["a", "b", "first", "second"] cdv A outer s' H0 E0'
  show SW _ _ _ _ _ _ (w_common a0 b0 Q E)
  unfold w_common
  refine s_par (w' := fun _ _ => True) (i := 2) (j := 3) (f := tI) (g := tI) (w_abs (free_abs c) (w_var 0 (f := tI) (v := a0))) (w_abs (free_abs c) (w_var 1 (f := tI) (v := b0))) fun t => ?_
  refine SW.gam ([some (tI a0), some (tI b0), some (tI t.1), some (tI t.2)]) ?_
  refine s_while (fun st : Int × Int => [some (tI a0), some (tI b0), some (tI st.1), some (tI st.2)]) (fun st : Int × Int => []) (t.1, t.2) (fun st => (t_neI (w_var 3 (f := tI) (v := st.2)) (w_int (i := 0)))) (fun st kn => ?_) (fun st => ?_) po (gl := by exact ⟨rfl, rfl, rfl, rfl, trivial⟩)
  · refine SW.gam ([some (tI a0), some (tI b0), some (tI st.1), some (tI st.2)]) ?_
    refine s_par (w' := fun _ _ => True) (i := 2) (j := 3) (f := tI) (g := tI) (w_var 3 (f := tI) (v := st.2)) (w_mod (w_var 2 (f := tI) (v := st.1)) (w_var 3 (f := tI) (v := st.2))) fun t_1 => ?_
    exact s_nil (k := _) (t_1.1, t_1.2) (g := by exact ⟨rfl, rfl, rfl, rfl, trivial⟩)
  · exact f_ret (f := tI) fin (w_var 2 (f := tI) (v := st.1))
@[local irreducible] def w_Ratio_init (top : Int) (bottom : Int) (Q : Rt → Prop) (E : Er → Prop) : Prop :=
  W.run (W.ret (decide (bottom = (0 : Int)))) E fun b => W.ite b
    (W.run (W.ret (0 : Int)) E fun z => fmtOk (V.int z) ∧ E (.badNumber z))
    (W.run (w_common top bottom) E fun divisor =>
  W.jn (fun st : Int => W.run (W.grd (DivOk st) ((top).fdiv st)) E fun top_1 =>
  W.run (W.grd (DivOk st) ((bottom).fdiv st)) E fun bottom_1 =>
  Q (OW.Rt.mk top_1 bottom_1)) fun kj => W.run (W.ret (decide (bottom < (0 : Int)))) E fun b => W.ite b (W.lt (-divisor) fun divisor_1 : Int =>
  kj divisor_1) (kj divisor))
theorem ok_Ratio_init (c : Ct P K mg) : GC P w K mg base "Ratio" (He.ga K "Ratio") 3 ["self", "top", "bottom"] (spW K (fun d : Int × Int => [.o (oI (He.ga K "Ratio") []), .b (tI d.1).b, .b (tI d.2).b]) (fun d => w_Ratio_init d.1 d.2) (fun _ : Rt => .v tN) (fun r => [(fun r : Rt => oI (He.ga K "Ratio") [("top", MP.o (tI r.top)), ("bottom", MP.o (tI r.bottom))]) r])) := by
  refine gc_mk (fd_Ratio_init c) (fun _ F => bd_Ratio_init F) (mkr_Ratio c) (glo_Ratio c) fun fd F => def_ok F sc_Ratio_init (fun d vs L => [some (tV (vs.headD .non)), some (tI d.1), some (tI d.2), none]) (fun _ vs => [((vs.headD .non), oI (He.ga K "Ratio") [])]) (fun _ vs r => [((vs.headD .non), (fun r : Rt => oI (He.ga K "Ratio") [("top", MP.o (tI r.top)), ("bottom", MP.o (tI r.bottom))]) r)]) ?_ (by intro _; rfl) (fun d vs L hv => match vs, hv with | [_, _, _], _ => rfl) (fun d vs hv => match vs, hv with | [_, _, _], _ => rfl) (fun d vs r hv => match vs, hv with | [_, _, _], _ => rfl)
  rintro cdv A outer s' H0 L S Q0 E0' ⟨top, bottom⟩ vs Q E hv nd hr fin hdQ
  have tk := (hdQ [] _ (List.Sublist.refl _)).tk
  have hd := hdQ
  have po : PassesOwn (model P w) _ _ _ := @own_cx P w K mg base "Ratio.__init__" (defScope s_Ratio_init) (He.ma K (He.ga K "Ratio") "__init__") ["self", "top", "bottom", "divisor"] cdv A outer s' H0 E0'
  show SW _ _ _ _ _ _ (w_Ratio_init top bottom Q E)
  unfold w_Ratio_init
  refine s_if (t_eqI (w_var 2 (f := tI) (v := bottom)) (w_int (i := 0))) ?_ ?_
  · exact s_raise1 (fun z => Er.badNumber z) (ok_BadNumber c) (hr.mono (by decide)) (hd _ _ (by walk_at "osub")) (w_int (i := 0)) pl_I
  · refine s_skip ?_
    refine SW.gam ([some (tV (vs.headD .non)), some (tI top), some (tI bottom), none]) ?_
    refine s_set (i := 3) (f := tI) (EW.at (w_common top bottom) (w_fn (f := tI) (ok_common c) (hr.mono (by decide)) (hd _ _ (by walk_at "osub")) (fun t => (t.1, t.2.1)) (a_cons (w_var 1 (f := tI) (v := top)) (a_cons (w_var 2 (f := tI) (v := bottom)) a_nil)) (fun _ => ⟨rfl, rfl, trivial⟩))) fun divisor => ?_
    refine SW.gam ([some (tV (vs.headD .non)), some (tI top), some (tI bottom), some (tI divisor)]) ?_
    refine s_ifK (fun st : Int => [some (tV (vs.headD .non)), some (tI top), some (tI bottom), some (tI st)]) (fun st : Int => [((vs.headD .non), oI (He.ga K "Ratio") [])]) (t_lt (w_var 2 (f := tI) (v := bottom)) (w_int (i := 0))) (fun kj => ?_) (fun kj => ?_) (fun st => ?_)
    · refine SW.gam ([some (tV (vs.headD .non)), some (tI top), some (tI bottom), some (tI divisor)]) ?_
      refine s_setV (Z := E) (i := 3) (f := tI) (v := (-divisor)) (w_neg (w_var 3 (f := tI) (v := divisor))) fun divisor_1 hq_divisor_1 => ?_
      exact s_nil (k := _) divisor_1 (g := by exact ⟨rfl, rfl, rfl, rfl, trivial⟩)
    · exact s_nil (k := _) divisor (g := by exact ⟨rfl, rfl, rfl, rfl, trivial⟩)
    · refine SW.gam ([some (tV (vs.headD .non)), some (tI top), some (tI bottom), some (tI st)]) ?_
      refine s_fld (i := 0) (F := (fun y => MP.o (tI y))) (cls_Ratio c) (noat_Ratio_top c) (EW.n (w_fdiv (w_var 1 (f := tI) (v := top)) (w_var 3 (f := tI) (v := st)))) fun top_1 => ?_
      refine SW.gam ([some (tV (vs.headD .non)), some (tI top), some (tI bottom), some (tI st)]) ?_
      refine s_fld (i := 0) (F := (fun y => MP.o (tI y))) (cls_Ratio c) (noat_Ratio_bottom c) (EW.n (w_fdiv (w_var 2 (f := tI) (v := bottom)) (w_var 3 (f := tI) (v := st)))) fun bottom_1 => ?_
      exact f_init (r := OW.Rt.mk top_1 bottom_1) fin
@[local irreducible] def w_Ratio_whole (n : Int) (Q : Rt → Prop) (E : Er → Prop) : Prop :=
  W.run (w_Ratio_init n (1 : Int)) E Q
theorem ok_Ratio_whole (c : Ct P K mg) : GK P w K mg base (He.ga K "Ratio") "whole" 5 ["cls", "n"] (spW K (fun d : Int => [.b (tR (He.ga K "Ratio")).b, .b (tI d).b]) (fun d => w_Ratio_whole d) (fun r : Rt => .o ((fun r : Rt => oI (He.ga K "Ratio") [("top", MP.o (tI r.top)), ("bottom", MP.o (tI r.bottom))]) r)) (fun _ => [])) := by
  refine gk_mk (fd_Ratio_whole c) (fun _ F => bd_Ratio_whole F) (ck_Ratio_whole c).rd (ck_Ratio_whole c).cm fun fd F => def_ok F sc_Ratio_whole (fun d vs L => [some (tR (He.ga K "Ratio")), some (tI d)]) (fun _ _ => []) (fun _ _ _ => []) ?_ (by intro _; rfl) (fun d vs L hv => match vs, hv with | [_, _], _ => rfl) (fun d vs hv => match vs, hv with | [_, _], _ => rfl) (fun d vs r hv => match vs, hv with | [_, _], _ => rfl)
  rintro cdv A outer s' H0 L S Q0 E0' n vs Q E hv nd hr fin hdQ
  have tk := (hdQ [] _ (List.Sublist.refl _)).tk
  have hd : ∀ Γ O, Hd _ _ Γ O E _ := fun Γ O => hdQ Γ O (List.nil_sublist _)
  have po : PassesOwn (model P w) _ _ _ := @own_cx P w K mg base "Ratio.whole" (defScope s_Ratio_whole) (cmFn K "Ratio" "whole") ["cls", "n"] cdv A outer s' H0 E0'
  show SW _ _ _ _ _ _ (w_Ratio_whole n Q E)
  unfold w_Ratio_whole
  exact f_retN (f := (fun r : Rt => oI (He.ga K "Ratio") [("top", MP.o (tI r.top)), ("bottom", MP.o (tI r.bottom))])) fin (n_makeL (i := 0) (f := (fun r : Rt => oI (He.ga K "Ratio") [("top", MP.o (tI r.top)), ("bottom", MP.o (tI r.bottom))])) (ok_Ratio_init c) (hr.mono (by decide)) (hd _ _) (fun t => (t.1, t.2.1)) (a_cons (w_var 1 (f := tI) (v := n)) (a_cons (w_int (i := 1)) a_nil)) (fun _ _ => ⟨rfl, rfl, rfl, trivial⟩))
@[local irreducible] def w_Ratio_add (self : Rt) (other : Rt) (Q : Rt → Prop) (E : Er → Prop) : Prop :=
  W.run (W.bind (W.bind (W.grd (IntMulOk self.top other.bottom) (self.top * other.bottom)) fun z => W.bind (W.grd (IntMulOk other.top self.bottom) (other.top * self.bottom)) fun z_1 => W.ret (z + z_1)) fun z_2 => W.bind (W.grd (IntMulOk self.bottom other.bottom) (self.bottom * other.bottom)) fun z_3 => w_Ratio_init z_2 z_3) E Q
theorem ok_Ratio_add (c : Ct P K mg) : GM P w K mg base (He.ga K "Ratio") "__add__" 5 ["self", "other"] (spW K (fun d : Rt × Rt => [.b ((tRat K) d.1).b, .b ((tRat K) d.2).b]) (fun d => w_Ratio_add d.1 d.2) (fun r : Rt => .o ((fun r : Rt => oI (He.ga K "Ratio") [("top", MP.o (tI r.top)), ("bottom", MP.o (tI r.bottom))]) r)) (fun _ => [])) := by
  refine gm_mk (fd_Ratio_add c) (fun _ F => bd_Ratio_add F) (meth_Ratio_add c) fun fd F => def_ok F sc_Ratio_add (fun d vs L => [some ((tRat K) d.1), some ((tRat K) d.2)]) (fun _ _ => []) (fun _ _ _ => []) ?_ (by intro _; rfl) (fun d vs L hv => match vs, hv with | [_, _], _ => rfl) (fun d vs hv => match vs, hv with | [_, _], _ => rfl) (fun d vs r hv => match vs, hv with | [_, _], _ => rfl)
  rintro cdv A outer s' H0 L S Q0 E0' ⟨self, other⟩ vs Q E hv nd hr fin hdQ
  have tk := (hdQ [] _ (List.Sublist.refl _)).tk
  have hd : ∀ Γ O, Hd _ _ Γ O E _ := fun Γ O => hdQ Γ O (List.nil_sublist _)
  have po : PassesOwn (model P w) _ _ _ := @own_cx P w K mg base "Ratio.__add__" (defScope s_Ratio_add) (He.ma K (He.ga K "Ratio") "__add__") ["self", "other"] cdv A outer s' H0 E0'
  show SW _ _ _ _ _ _ (w_Ratio_add self other Q E)
  unfold w_Ratio_add
  exact f_retN (f := (fun r : Rt => oI (He.ga K "Ratio") [("top", MP.o (tI r.top)), ("bottom", MP.o (tI r.bottom))])) fin (n_make (f := (fun r : Rt => oI (He.ga K "Ratio") [("top", MP.o (tI r.top)), ("bottom", MP.o (tI r.bottom))])) (ok_Ratio_init c) (hr.mono (by decide)) (hd _ _) (fun t => (t.1, t.2.1)) (a_cons (w_add (w_mul (w_fld (F := fun z : Rt => [("top", tI z.top), ("bottom", tI z.bottom)]) (g := tI) (fun z : Rt => z.top) (cls_Ratio c) (noat_Ratio_top c) (w_var 0 (f := (tRat K)) (v := self))) (w_fld (F := fun z : Rt => [("top", tI z.top), ("bottom", tI z.bottom)]) (g := tI) (fun z : Rt => z.bottom) (cls_Ratio c) (noat_Ratio_bottom c) (w_var 1 (f := (tRat K)) (v := other)))) (w_mul (w_fld (F := fun z : Rt => [("top", tI z.top), ("bottom", tI z.bottom)]) (g := tI) (fun z : Rt => z.top) (cls_Ratio c) (noat_Ratio_top c) (w_var 1 (f := (tRat K)) (v := other))) (w_fld (F := fun z : Rt => [("top", tI z.top), ("bottom", tI z.bottom)]) (g := tI) (fun z : Rt => z.bottom) (cls_Ratio c) (noat_Ratio_bottom c) (w_var 0 (f := (tRat K)) (v := self))))) (a_cons (w_mul (w_fld (F := fun z : Rt => [("top", tI z.top), ("bottom", tI z.bottom)]) (g := tI) (fun z : Rt => z.bottom) (cls_Ratio c) (noat_Ratio_bottom c) (w_var 0 (f := (tRat K)) (v := self))) (w_fld (F := fun z : Rt => [("top", tI z.top), ("bottom", tI z.bottom)]) (g := tI) (fun z : Rt => z.bottom) (cls_Ratio c) (noat_Ratio_bottom c) (w_var 1 (f := (tRat K)) (v := other)))) a_nil)) (fun _ _ => ⟨rfl, rfl, rfl, trivial⟩))
@[local irreducible] def w_Ratio_sub (self : Rt) (other : Rt) (Q : Rt → Prop) (E : Er → Prop) : Prop :=
  W.run (W.bind (W.bind (W.grd (IntMulOk self.top other.bottom) (self.top * other.bottom)) fun z => W.bind (W.grd (IntMulOk other.top self.bottom) (other.top * self.bottom)) fun z_1 => W.ret (z - z_1)) fun z_2 => W.bind (W.grd (IntMulOk self.bottom other.bottom) (self.bottom * other.bottom)) fun z_3 => w_Ratio_init z_2 z_3) E Q
theorem ok_Ratio_sub (c : Ct P K mg) : GM P w K mg base (He.ga K "Ratio") "__sub__" 5 ["self", "other"] (spW K (fun d : Rt × Rt => [.b ((tRat K) d.1).b, .b ((tRat K) d.2).b]) (fun d => w_Ratio_sub d.1 d.2) (fun r : Rt => .o ((fun r : Rt => oI (He.ga K "Ratio") [("top", MP.o (tI r.top)), ("bottom", MP.o (tI r.bottom))]) r)) (fun _ => [])) := by
  refine gm_mk (fd_Ratio_sub c) (fun _ F => bd_Ratio_sub F) (meth_Ratio_sub c) fun fd F => def_ok F sc_Ratio_sub (fun d vs L => [some ((tRat K) d.1), some ((tRat K) d.2)]) (fun _ _ => []) (fun _ _ _ => []) ?_ (by intro _; rfl) (fun d vs L hv => match vs, hv with | [_, _], _ => rfl) (fun d vs hv => match vs, hv with | [_, _], _ => rfl) (fun d vs r hv => match vs, hv with | [_, _], _ => rfl)
  rintro cdv A outer s' H0 L S Q0 E0' ⟨self, other⟩ vs Q E hv nd hr fin hdQ
  have tk := (hdQ [] _ (List.Sublist.refl _)).tk
  have hd : ∀ Γ O, Hd _ _ Γ O E _ := fun Γ O => hdQ Γ O (List.nil_sublist _)
  have po : PassesOwn (model P w) _ _ _ := @own_cx P w K mg base "Ratio.__sub__" (defScope s_Ratio_sub) (He.ma K (He.ga K "Ratio") "__sub__") ["self", "other"] cdv A outer s' H0 E0'
  show SW _ _ _ _ _ _ (w_Ratio_sub self other Q E)
  unfold w_Ratio_sub
  exact f_retN (f := (fun r : Rt => oI (He.ga K "Ratio") [("top", MP.o (tI r.top)), ("bottom", MP.o (tI r.bottom))])) fin (n_make (f := (fun r : Rt => oI (He.ga K "Ratio") [("top", MP.o (tI r.top)), ("bottom", MP.o (tI r.bottom))])) (ok_Ratio_init c) (hr.mono (by decide)) (hd _ _) (fun t => (t.1, t.2.1)) (a_cons (w_sub (w_mul (w_fld (F := fun z : Rt => [("top", tI z.top), ("bottom", tI z.bottom)]) (g := tI) (fun z : Rt => z.top) (cls_Ratio c) (noat_Ratio_top c) (w_var 0 (f := (tRat K)) (v := self))) (w_fld (F := fun z : Rt => [("top", tI z.top), ("bottom", tI z.bottom)]) (g := tI) (fun z : Rt => z.bottom) (cls_Ratio c) (noat_Ratio_bottom c) (w_var 1 (f := (tRat K)) (v := other)))) (w_mul (w_fld (F := fun z : Rt => [("top", tI z.top), ("bottom", tI z.bottom)]) (g := tI) (fun z : Rt => z.top) (cls_Ratio c) (noat_Ratio_top c) (w_var 1 (f := (tRat K)) (v := other))) (w_fld (F := fun z : Rt => [("top", tI z.top), ("bottom", tI z.bottom)]) (g := tI) (fun z : Rt => z.bottom) (cls_Ratio c) (noat_Ratio_bottom c) (w_var 0 (f := (tRat K)) (v := self))))) (a_cons (w_mul (w_fld (F := fun z : Rt => [("top", tI z.top), ("bottom", tI z.bottom)]) (g := tI) (fun z : Rt => z.bottom) (cls_Ratio c) (noat_Ratio_bottom c) (w_var 0 (f := (tRat K)) (v := self))) (w_fld (F := fun z : Rt => [("top", tI z.top), ("bottom", tI z.bottom)]) (g := tI) (fun z : Rt => z.bottom) (cls_Ratio c) (noat_Ratio_bottom c) (w_var 1 (f := (tRat K)) (v := other)))) a_nil)) (fun _ _ => ⟨rfl, rfl, rfl, trivial⟩))
@[local irreducible] def w_Ratio_eq (self : Rt) (other : Rt) (Q : Bool → Prop) (E : Er → Prop) : Prop :=
  W.run (W.ret (true && ((decide (self.top = other.top)) && (decide (self.bottom = other.bottom))))) E Q
theorem ok_Ratio_eq (c : Ct P K mg) : GM P w K mg base (He.ga K "Ratio") "__eq__" 1 ["self", "other"] (spW K (fun d : Rt × Rt => [.b ((tRat K) d.1).b, .b ((tRat K) d.2).b]) (fun d => w_Ratio_eq d.1 d.2) (fun r : Bool => .v (OT.tB r)) (fun _ => [])) := by
  refine gm_mk (fd_Ratio_eq c) (fun _ F => bd_Ratio_eq F) (meth_Ratio_eq c) fun fd F => def_ok F sc_Ratio_eq (fun d vs L => [some ((tRat K) d.1), some ((tRat K) d.2)]) (fun _ _ => []) (fun _ _ _ => []) ?_ (by intro _; rfl) (fun d vs L hv => match vs, hv with | [_, _], _ => rfl) (fun d vs hv => match vs, hv with | [_, _], _ => rfl) (fun d vs r hv => match vs, hv with | [_, _], _ => rfl)
  rintro cdv A outer s' H0 L S Q0 E0' ⟨self, other⟩ vs Q E hv nd hr fin hdQ
  have tk := (hdQ [] _ (List.Sublist.refl _)).tk
  have hd : ∀ Γ O, Hd _ _ Γ O E _ := fun Γ O => hdQ Γ O (List.nil_sublist _)
  have po : PassesOwn (model P w) _ _ _ := @own_cx P w K mg base "Ratio.__eq__" (defScope s_Ratio_eq) (He.ma K (He.ga K "Ratio") "__eq__") ["self", "other"] cdv A outer s' H0 E0'
  show SW _ _ _ _ _ _ (w_Ratio_eq self other Q E)
  unfold w_Ratio_eq
  exact f_ret (f := OT.tB) fin (w_andP (EW.at (W.ret true) (w_isi (free_isinstance c) (EW.rb (w_var 1 (f := (tRat K)) (v := other))) (w_cls (glo_Ratio c)) (.own _) (fun _ => (ins_Ratio c).ty) (kit_Ratio c))) (w_andP (EW.at (W.ret (decide (self.top = other.top))) (w_eqI (w_fld (F := fun z : Rt => [("top", tI z.top), ("bottom", tI z.bottom)]) (g := tI) (fun z : Rt => z.top) (cls_Ratio c) (noat_Ratio_top c) (w_var 0 (f := (tRat K)) (v := self))) (w_fld (F := fun z : Rt => [("top", tI z.top), ("bottom", tI z.bottom)]) (g := tI) (fun z : Rt => z.top) (cls_Ratio c) (noat_Ratio_top c) (w_var 1 (f := (tRat K)) (v := other))))) (w_one (EW.at (W.ret (decide (self.bottom = other.bottom))) (w_eqI (w_fld (F := fun z : Rt => [("top", tI z.top), ("bottom", tI z.bottom)]) (g := tI) (fun z : Rt => z.bottom) (cls_Ratio c) (noat_Ratio_bottom c) (w_var 0 (f := (tRat K)) (v := self))) (w_fld (F := fun z : Rt => [("top", tI z.top), ("bottom", tI z.bottom)]) (g := tI) (fun z : Rt => z.bottom) (cls_Ratio c) (noat_Ratio_bottom c) (w_var 1 (f := (tRat K)) (v := other))))))))
theorem en_rat {X : L2.Cx} (c : Ct X.prog X.K X.mg) : En X 1 (tRat X.K) := en_own (ok_Ratio_eq (P := X.prog) (w := X.w) (K := X.K) (mg := X.mg) (base := X.base) c) (fun x y => (x, y)) (fun _ _ => rfl) (fun _ => ins_tO) (fun x y => by
  unfold w_Ratio_eq
  obtain ⟨a, b⟩ := x
  obtain ⟨a2, b2⟩ := y
  show (true && (decide (a = a2) && decide (b = b2))) = decide (_ = _)
  by_cases h1 : a = a2 <;> by_cases h2 : b = b2 <;> simp [h1, h2]) rat_inj
@[local irreducible] def w_Ratio_bool (self : Rt) (Q : Bool → Prop) (E : Er → Prop) : Prop :=
  W.run (W.ret (self.top != 0)) E Q
theorem ok_Ratio_bool (c : Ct P K mg) : GM P w K mg base (He.ga K "Ratio") "__bool__" 1 ["self"] (spW K (fun d : Rt => [.b ((tRat K) d).b]) (fun d => w_Ratio_bool d) (fun r : Bool => .v (OT.tB r)) (fun _ => [])) := by
  refine gm_mk (fd_Ratio_bool c) (fun _ F => bd_Ratio_bool F) (meth_Ratio_bool c) fun fd F => def_ok F sc_Ratio_bool (fun d vs L => [some ((tRat K) d)]) (fun _ _ => []) (fun _ _ _ => []) ?_ (by intro _; rfl) (fun d vs L hv => match vs, hv with | [_], _ => rfl) (fun d vs hv => match vs, hv with | [_], _ => rfl) (fun d vs r hv => match vs, hv with | [_], _ => rfl)
  rintro cdv A outer s' H0 L S Q0 E0' self vs Q E hv nd hr fin hdQ
  have tk := (hdQ [] _ (List.Sublist.refl _)).tk
  have hd : ∀ Γ O, Hd _ _ Γ O E _ := fun Γ O => hdQ Γ O (List.nil_sublist _)
  have po : PassesOwn (model P w) _ _ _ := @own_cx P w K mg base "Ratio.__bool__" (defScope s_Ratio_bool) (He.ma K (He.ga K "Ratio") "__bool__") ["self"] cdv A outer s' H0 E0'
  show SW _ _ _ _ _ _ (w_Ratio_bool self Q E)
  unfold w_Ratio_bool
  exact f_ret (f := OT.tB) fin (w_boolI (free_bool c) (w_fld (F := fun z : Rt => [("top", tI z.top), ("bottom", tI z.bottom)]) (g := tI) (fun z : Rt => z.top) (cls_Ratio c) (noat_Ratio_top c) (w_var 0 (f := (tRat K)) (v := self))))
@[local irreducible] def w_Ratio_under (self : Rt) (other : Rt) (Q : Bool → Prop) (E : Er → Prop) : Prop :=
  W.run (W.bind (W.grd (IntMulOk self.top other.bottom) (self.top * other.bottom)) fun z => W.bind (W.grd (IntMulOk other.top self.bottom) (other.top * self.bottom)) fun z_1 => W.ret (decide (z < z_1))) E Q
theorem ok_Ratio_under (c : Ct P K mg) : GM P w K mg base (He.ga K "Ratio") "under" 1 ["self", "other"] (spW K (fun d : Rt × Rt => [.b ((tRat K) d.1).b, .b ((tRat K) d.2).b]) (fun d => w_Ratio_under d.1 d.2) (fun r : Bool => .v (OT.tB r)) (fun _ => [])) := by
  refine gm_mk (fd_Ratio_under c) (fun _ F => bd_Ratio_under F) (meth_Ratio_under c) fun fd F => def_ok F sc_Ratio_under (fun d vs L => [some ((tRat K) d.1), some ((tRat K) d.2)]) (fun _ _ => []) (fun _ _ _ => []) ?_ (by intro _; rfl) (fun d vs L hv => match vs, hv with | [_, _], _ => rfl) (fun d vs hv => match vs, hv with | [_, _], _ => rfl) (fun d vs r hv => match vs, hv with | [_, _], _ => rfl)
  rintro cdv A outer s' H0 L S Q0 E0' ⟨self, other⟩ vs Q E hv nd hr fin hdQ
  have tk := (hdQ [] _ (List.Sublist.refl _)).tk
  have hd : ∀ Γ O, Hd _ _ Γ O E _ := fun Γ O => hdQ Γ O (List.nil_sublist _)
  have po : PassesOwn (model P w) _ _ _ := @own_cx P w K mg base "Ratio.under" (defScope s_Ratio_under) (He.ma K (He.ga K "Ratio") "under") ["self", "other"] cdv A outer s' H0 E0'
  show SW _ _ _ _ _ _ (w_Ratio_under self other Q E)
  unfold w_Ratio_under
  exact f_ret (f := OT.tB) fin (w_lt (w_mul (w_fld (F := fun z : Rt => [("top", tI z.top), ("bottom", tI z.bottom)]) (g := tI) (fun z : Rt => z.top) (cls_Ratio c) (noat_Ratio_top c) (w_var 0 (f := (tRat K)) (v := self))) (w_fld (F := fun z : Rt => [("top", tI z.top), ("bottom", tI z.bottom)]) (g := tI) (fun z : Rt => z.bottom) (cls_Ratio c) (noat_Ratio_bottom c) (w_var 1 (f := (tRat K)) (v := other)))) (w_mul (w_fld (F := fun z : Rt => [("top", tI z.top), ("bottom", tI z.bottom)]) (g := tI) (fun z : Rt => z.top) (cls_Ratio c) (noat_Ratio_top c) (w_var 1 (f := (tRat K)) (v := other))) (w_fld (F := fun z : Rt => [("top", tI z.top), ("bottom", tI z.bottom)]) (g := tI) (fun z : Rt => z.bottom) (cls_Ratio c) (noat_Ratio_bottom c) (w_var 0 (f := (tRat K)) (v := self)))))
@[local irreducible] def w_total (ratios : (List Rt)) (Q : Rt → Prop) (E : Er → Prop) : Prop :=
  W.run (w_Ratio_whole (0 : Int)) E fun found =>
  W.run (W.ret ratios) E fun xs => W.loop (fun ratio (st : Rt) kn =>
    W.run (fun Q _ => w_Ratio_add st ratio Q E0) E fun found_1 =>
  kn found_1)
    (fun st : Rt => W.run (W.ret st) E Q) xs found
theorem ok_total (c : Ct P K mg) : GF P w K mg base "total" 6 ["ratios"] (spW K (fun d : (List Rt) => [.b (rQ K (tRat K) d)]) (fun d => w_total d) (fun r : Rt => .v ((tRat K) r)) (fun _ => [])) := by
  refine gf_mkA (fd_total c) (fun _ F => bd_total F) (glo_total c) fun fd F => def_ok F sc_total (fun d vs L => [some ((rQ K (tRat K) d).at_ L), none, none]) (fun _ _ => []) (fun _ _ _ => []) ?_ (by intro _; rfl) (fun d vs L hv => match vs, hv with | [_], _ => rfl) (fun d vs hv => match vs, hv with | [_], _ => rfl) (fun d vs r hv => match vs, hv with | [_], _ => rfl)
  rintro cdv A outer s' H0 L S Q0 E0' ratios vs Q E hv nd hr fin hdQ
  have tk := (hdQ [] _ (List.Sublist.refl _)).tk
  have hd : ∀ Γ O, Hd _ _ Γ O E _ := fun Γ O => hdQ Γ O (List.nil_sublist _)
  have po : PassesOwn (model P w) _ _ _ := @own_cx P w K mg base "total" (defScope s_total) (He.ga K "total") ["ratios", "found", "ratio"] cdv A outer s' H0 E0'
  show SW _ _ _ _ _ _ (w_total ratios Q E)
  unfold w_total
  refine s_set (i := 1) (f := (tRat K)) (EW.at (w_Ratio_whole (0 : Int)) (NW.settle (f := (fun r : Rt => oI (He.ga K "Ratio") [("top", MP.o (tI r.top)), ("bottom", MP.o (tI r.bottom))])) (g := (tRat K)) (n_cm (f := (fun r : Rt => oI (He.ga K "Ratio") [("top", MP.o (tI r.top)), ("bottom", MP.o (tI r.bottom))])) (ok_Ratio_whole c) (hr.mono (by decide)) (hd _ _) (fun t => t.1) (w_cls (glo_Ratio c)) (a_cons (w_int (i := 0)) a_nil) (fun _ => ⟨rfl, rfl, trivial⟩)) fun _ => (stl_I ⟨rfl, stl_m, rfl, stl_m, trivial⟩))) fun found => ?_
  refine SW.gam ([some ((rQ K (tRat K) ratios).at_ L), some ((tRat K) found), none]) ?_
  refine s_for (f := (tRat K)) (fun st : Rt => [some ((rQ K (tRat K) ratios).at_ L), some ((tRat K) st), none]) (fun st : Rt => []) found (i_lentQ 0 (f := (tRat K)) (xs := ratios)) (fun ratio (st : Rt) => [some ((rQ K (tRat K) ratios).at_ L), some ((tRat K) st), some ((tRat K) ratio)]) [2] (fun G ratio st => (g_name (j := 2))) (fun G ratio st kn => ?_) (fun st => ?_) po (gl := by exact ⟨rfl, rfl, trivial⟩)
  · refine SW.gam ([some ((rQ K (tRat K) ratios).at_ L), some ((tRat K) st), some ((tRat K) ratio)]) ?_
    refine s_set (i := 1) (f := (tRat K)) (EW.at (fun Q _ => w_Ratio_add st ratio Q E0) (NW.settle (f := (fun r : Rt => oI (He.ga K "Ratio") [("top", MP.o (tI r.top)), ("bottom", MP.o (tI r.bottom))])) (g := (tRat K)) (n_own2 (m := "__add__") (f := (fun r : Rt => oI (He.ga K "Ratio") [("top", MP.o (tI r.top)), ("bottom", MP.o (tI r.bottom))])) (ok_Ratio_add c) (sf_Ratio c) (hr.mono (by decide)) (fun x y => (x, y)) (EW.rb (w_var 1 (f := (tRat K)) (v := st))) (EW.rb (w_var 2 (f := (tRat K)) (v := ratio))) (fun _ => ins_tO) (fun _ => ins_tO) (fun _ _ => ⟨rfl, rfl, trivial⟩)) fun _ => (stl_I ⟨rfl, stl_m, rfl, stl_m, trivial⟩))) fun found_1 => ?_
    exact s_nil (k := _) found_1 (g := by exact ⟨rfl, rfl, trivial⟩)
  · exact f_ret (f := (tRat K)) fin (w_var 1 (f := (tRat K)) (v := st))
@[local irreducible] def w_dealt (first : (List (Dz × Rt))) (second : (List (Dz × Rt))) (Q : (List (Dz × Dz × Rt)) → Prop) (E : Er → Prop) : Prop :=
  W.run (W.bind (W.bind (W.compP (fun _ : (Dz × Rt) => true) (fun q : (Dz × Rt) => q.2) first) fun z => w_total z) fun z_2 => W.bind (W.bind (W.compP (fun _ : (Dz × Rt) => true) (fun q_1 : (Dz × Rt) => q_1.2) second) fun z_1 => w_total z_1) fun z_3 => fun Q _ => w_Ratio_eq z_2 z_3 (fun t => Q (!t)) E0) E fun b => W.ite b
    (W.run (W.bind (W.compP (fun _ : (Dz × Rt) => true) (fun q_2 : (Dz × Rt) => q_2.2) second) fun z_4 => w_total z_4) E fun z_5 => E (.badShares z_5))
    (W.lt ([] : (List (Dz × Dz × Rt))) fun found : (List (Dz × Dz × Rt)) =>
  W.lt (0 : Int) fun at0 : Int =>
  W.run (W.compP (fun _ : (Dz × Rt) => true) (fun q_3 : (Dz × Rt) => q_3.2) second) E fun left =>
  W.run (W.ret first) E fun xs => W.loop (fun q_4 (st : (List Rt) × (List (Dz × Dz × Rt)) × Int) kn =>
    W.whil E (fun st_1 : (List (Dz × Dz × Rt)) × Rt × (List Rt) × Int => fun Q _ => w_Ratio_bool st_1.2.1 Q E0) (fun st_1 kn_1 =>
    W.run (W.bind (W.bind (W.get st_1.2.2.1 st_1.2.2.2) fun z_6 => w_Ratio_under z_6 st_1.2.1) fun z_7 => W.sel z_7 (W.get st_1.2.2.1 st_1.2.2.2) (W.ret st_1.2.1)) E fun part =>
  W.run (W.bind (W.bind (W.bind (W.get second st_1.2.2.2) fun z_8 => W.ret z_8.1) fun z_9 => W.ret (q_4.1, z_9, part)) fun z_10 => W.grd (st_1.1.length < 100000) z_10) E fun a0 =>
  W.run (fun Q _ => w_Ratio_sub st_1.2.1 part Q E0) E fun share =>
  W.run (W.bind (W.bind (W.get st_1.2.2.1 st_1.2.2.2) fun z_11 => fun Q _ => w_Ratio_sub z_11 part Q E0) fun z_12 => fun Q _ => ∃ j, ixN st_1.2.2.1.length st_1.2.2.2 = some j ∧ Q (z_12, j)) E fun t =>
  W.jn (fun st_2 : Int => kn_1 (st_1.1 ++ [a0], share, st_1.2.2.1.set t.2 t.1, st_2)) fun kj => W.run (W.bind (W.bind (W.get (st_1.2.2.1.set t.2 t.1) st_1.2.2.2) fun z_13 => fun Q _ => w_Ratio_bool z_13 Q E0) fun z_14 => W.ret (!z_14)) E fun b => W.ite b (W.run (W.ret (1 : Int)) E fun more =>
  kj (st_1.2.2.2 + more)) (kj st_1.2.2.2))
    (fun st_1 => kn (st_1.2.2.1, st_1.1, st_1.2.2.2)) (st.2.1, q_4.2, st.1, st.2.2))
    (fun st : (List Rt) × (List (Dz × Dz × Rt)) × Int => Q st.2.1) xs (left, found, at0))
theorem ok_dealt (c : Ct P K mg) : GF P w K mg base "dealt" 7 ["first", "second"] (spW K (fun d : (List (Dz × Rt)) × (List (Dz × Rt)) => [.b (rQ K (tP2 K (tDz K) (tRat K)) d.1), .b (rQ K (tP2 K (tDz K) (tRat K)) d.2)]) (fun d => w_dealt d.1 d.2) (fun r : (List (Dz × Dz × Rt)) => .o ((oLs (tP3 K (tDz K) (tDz K) (tRat K))) r)) (fun _ => [])) := by
  refine gf_mkA (fd_dealt c) (fun _ F => bd_dealt F) (glo_dealt c) fun fd F => def_ok F sc_dealt (fun d vs L => [some ((rQ K (tP2 K (tDz K) (tRat K)) d.1).at_ L), some ((rQ K (tP2 K (tDz K) (tRat K)) d.2).at_ L), none, none, none, none, none, none]) (fun _ _ => []) (fun _ _ _ => []) ?_ (by intro _; rfl) (fun d vs L hv => match vs, hv with | [_, _], _ => rfl) (fun d vs hv => match vs, hv with | [_, _], _ => rfl) (fun d vs r hv => match vs, hv with | [_, _], _ => rfl)
  rintro cdv A outer s' H0 L S Q0 E0' ⟨first, second⟩ vs Q E hv nd hr fin hdQ
  have tk := (hdQ [] _ (List.Sublist.refl _)).tk
  have hd : ∀ Γ O, Hd _ _ Γ O E _ := fun Γ O => hdQ Γ O (List.nil_sublist _)
  have po : PassesOwn (model P w) _ _ _ := @own_cx P w K mg base "dealt" (defScope s_dealt) (He.ga K "dealt") ["first", "second", "thing", "share", "found", "at", "left", "part"] cdv A outer s' H0 E0'
  show SW _ _ _ _ _ _ (w_dealt first second Q E)
  unfold w_dealt
  refine s_if (t_ownne (ok_Ratio_eq c) (ne_Ratio c) (mo_Ratio c) (hr.mono (by decide)) (fun x y => (x, y)) (EW.rb (EW.at (W.bind (W.compP (fun _ : (Dz × Rt) => true) (fun q : (Dz × Rt) => q.2) first) fun z => w_total z) (w_fn (f := (tRat K)) (ok_total c) (hr.mono (by decide)) (hd _ _) (fun t => t.1) (a_consR (RW.q (EW.rl (EW.at (W.compP (fun _ : (Dz × Rt) => true) (fun q : (Dz × Rt) => q.2) first) (NW.settle (g := (tLs K (tRat K))) (n_comp [("thing", 2), ("share", 3)] (F := (fun y => MP.o ((tRat K) y))) (f := (tP2 K (tDz K) (tRat K))) [some ((rQ K (tP2 K (tDz K) (tRat K)) first).at_ L), some ((rQ K (tP2 K (tDz K) (tRat K)) second).at_ L), none, none, none, none, none, none] (i_lentQ 0 (f := (tP2 K (tDz K) (tRat K))) (xs := first)) (fun q => [some ((rQ K (tP2 K (tDz K) (tRat K)) first).at_ L), some ((rQ K (tP2 K (tDz K) (tRat K)) second).at_ L), some ((tDz K) q.1), some ((tRat K) q.2), none, none, none, none]) [2, 3] (fun G m q s2 H2 C2 cl2 fp2 => ⟨(g_tup (gs_cons (g_name (j := 2)) (gs_cons (g_name (j := 3)) gs_nil))), if_none, (EW.n (w_var 3 (f := (tRat K)) (v := q.2)))⟩) (hk_plain (c := fun _ : (Dz × Rt) => true) (g := fun q : (Dz × Rt) => q.2)) (gl := by exact ⟨rfl, rfl, trivial⟩)) fun _ => stl_Ls)))) a_nil) (fun _ => ⟨rfl, trivial⟩)))) (EW.rb (EW.at (W.bind (W.compP (fun _ : (Dz × Rt) => true) (fun q_1 : (Dz × Rt) => q_1.2) second) fun z_1 => w_total z_1) (w_fn (f := (tRat K)) (ok_total c) (hr.mono (by decide)) (hd _ _) (fun t => t.1) (a_consR (RW.q (EW.rl (EW.at (W.compP (fun _ : (Dz × Rt) => true) (fun q_1 : (Dz × Rt) => q_1.2) second) (NW.settle (g := (tLs K (tRat K))) (n_comp [("thing", 2), ("share", 3)] (F := (fun y => MP.o ((tRat K) y))) (f := (tP2 K (tDz K) (tRat K))) [some ((rQ K (tP2 K (tDz K) (tRat K)) first).at_ L), some ((rQ K (tP2 K (tDz K) (tRat K)) second).at_ L), none, none, none, none, none, none] (i_lentQ 1 (f := (tP2 K (tDz K) (tRat K))) (xs := second)) (fun q_1 => [some ((rQ K (tP2 K (tDz K) (tRat K)) first).at_ L), some ((rQ K (tP2 K (tDz K) (tRat K)) second).at_ L), some ((tDz K) q_1.1), some ((tRat K) q_1.2), none, none, none, none]) [2, 3] (fun G m q_1 s2 H2 C2 cl2 fp2 => ⟨(g_tup (gs_cons (g_name (j := 2)) (gs_cons (g_name (j := 3)) gs_nil))), if_none, (EW.n (w_var 3 (f := (tRat K)) (v := q_1.2)))⟩) (hk_plain (c := fun _ : (Dz × Rt) => true) (g := fun q_1 : (Dz × Rt) => q_1.2)) (gl := by exact ⟨rfl, rfl, trivial⟩)) fun _ => stl_Ls)))) a_nil) (fun _ => ⟨rfl, trivial⟩)))) (fun _ => ins_tO) (fun _ => ins_tO) (fun _ _ => ⟨rfl, rfl, trivial⟩)) ?_ ?_
  · exact s_raiseV (f := (tRat K)) (fun z => Er.badShares z) (ok_BadShares c) (hr.mono (by decide)) (hd _ _) (EW.at (W.bind (W.compP (fun _ : (Dz × Rt) => true) (fun q_2 : (Dz × Rt) => q_2.2) second) fun z_4 => w_total z_4) (w_fn (f := (tRat K)) (ok_total c) (hr.mono (by decide)) (hd _ _) (fun t => t.1) (a_consR (RW.q (EW.rl (EW.at (W.compP (fun _ : (Dz × Rt) => true) (fun q_2 : (Dz × Rt) => q_2.2) second) (NW.settle (g := (tLs K (tRat K))) (n_comp [("thing", 2), ("share", 3)] (F := (fun y => MP.o ((tRat K) y))) (f := (tP2 K (tDz K) (tRat K))) [some ((rQ K (tP2 K (tDz K) (tRat K)) first).at_ L), some ((rQ K (tP2 K (tDz K) (tRat K)) second).at_ L), none, none, none, none, none, none] (i_lentQ 1 (f := (tP2 K (tDz K) (tRat K))) (xs := second)) (fun q_2 => [some ((rQ K (tP2 K (tDz K) (tRat K)) first).at_ L), some ((rQ K (tP2 K (tDz K) (tRat K)) second).at_ L), some ((tDz K) q_2.1), some ((tRat K) q_2.2), none, none, none, none]) [2, 3] (fun G m q_2 s2 H2 C2 cl2 fp2 => ⟨(g_tup (gs_cons (g_name (j := 2)) (gs_cons (g_name (j := 3)) gs_nil))), if_none, (EW.n (w_var 3 (f := (tRat K)) (v := q_2.2)))⟩) (hk_plain (c := fun _ : (Dz × Rt) => true) (g := fun q_2 : (Dz × Rt) => q_2.2)) (gl := by exact ⟨rfl, rfl, trivial⟩)) fun _ => stl_Ls)))) a_nil) (fun _ => ⟨rfl, trivial⟩)))
  · refine s_skip ?_
    refine SW.gam ([some ((rQ K (tP2 K (tDz K) (tRat K)) first).at_ L), some ((rQ K (tP2 K (tDz K) (tRat K)) second).at_ L), none, none, none, none, none, none]) ?_
    refine s_setNV (Z := E) (i := 4) (f := (oLs (tP3 K (tDz K) (tDz K) (tRat K)))) (v := ([] : (List (Dz × Dz × Rt)))) (n_nil (f := (tP3 K (tDz K) (tDz K) (tRat K)))) fun u_found found hq_found => ?_
    refine SW.gam ([some ((rQ K (tP2 K (tDz K) (tRat K)) first).at_ L), some ((rQ K (tP2 K (tDz K) (tRat K)) second).at_ L), none, none, some (tV u_found), none, none, none]) ?_
    refine s_setV (Z := E) (i := 5) (f := tI) (v := (0 : Int)) (w_int (i := 0)) fun at0 hq_at0 => ?_
    refine SW.gam ([some ((rQ K (tP2 K (tDz K) (tRat K)) first).at_ L), some ((rQ K (tP2 K (tDz K) (tRat K)) second).at_ L), none, none, some (tV u_found), some (tI at0), none, none]) ?_
    refine s_setLc (i := 6) [("thing", 2), ("share", 3)] (F := (fun y => MP.o ((tRat K) y))) (f := (tP2 K (tDz K) (tRat K))) [some ((rQ K (tP2 K (tDz K) (tRat K)) first).at_ L), some ((rQ K (tP2 K (tDz K) (tRat K)) second).at_ L), none, none, some (tV u_found), some (tI at0), none, none] (i_lentQ 1 (f := (tP2 K (tDz K) (tRat K))) (xs := second)) (fun q_3 => [some ((rQ K (tP2 K (tDz K) (tRat K)) first).at_ L), some ((rQ K (tP2 K (tDz K) (tRat K)) second).at_ L), some ((tDz K) q_3.1), some ((tRat K) q_3.2), some (tV u_found), some (tI at0), none, none]) [2, 3] (fun G m q_3 s2 H2 C2 cl2 fp2 => ⟨(g_tup (gs_cons (g_name (j := 2)) (gs_cons (g_name (j := 3)) gs_nil))), if_none, (EW.n (w_var 3 (f := (tRat K)) (v := q_3.2)))⟩) (hk_plain (c := fun _ : (Dz × Rt) => true) (g := fun q_3 : (Dz × Rt) => q_3.2)) (fun left u_left => ?_) (gl := ⟨rfl, rfl, rfl, rfl, trivial⟩)
    refine SW.gam ([some ((rQ K (tP2 K (tDz K) (tRat K)) first).at_ L), some ((rQ K (tP2 K (tDz K) (tRat K)) second).at_ L), none, none, some (tV u_found), some (tI at0), some (tV u_left), none]) ?_
    refine s_for (f := (tP2 K (tDz K) (tRat K))) (fun st : (List Rt) × (List (Dz × Dz × Rt)) × Int => [some ((rQ K (tP2 K (tDz K) (tRat K)) first).at_ L), some ((rQ K (tP2 K (tDz K) (tRat K)) second).at_ L), none, none, some (tV u_found), some (tI st.2.2), some (tV u_left), none]) (fun st : (List Rt) × (List (Dz × Dz × Rt)) × Int => [(u_left, (oLs (tRat K)) st.1), (u_found, (oLs (tP3 K (tDz K) (tDz K) (tRat K))) st.2.1)]) (left, found, at0) (i_lentQ 0 (f := (tP2 K (tDz K) (tRat K))) (xs := first)) (fun q_4 (st : (List Rt) × (List (Dz × Dz × Rt)) × Int) => [some ((rQ K (tP2 K (tDz K) (tRat K)) first).at_ L), some ((rQ K (tP2 K (tDz K) (tRat K)) second).at_ L), some ((tDz K) q_4.1), some ((tRat K) q_4.2), some (tV u_found), some (tI st.2.2), some (tV u_left), none]) [2, 3] (fun G q_4 st => (g_tup (gs_cons (g_name (j := 2)) (gs_cons (g_name (j := 3)) gs_nil)))) (fun G q_4 st kn => ?_) (fun st => ?_) po (gl := by exact ⟨rfl, rfl, rfl, rfl, rfl, trivial⟩)
    · refine SW.gam ([some ((rQ K (tP2 K (tDz K) (tRat K)) first).at_ L), some ((rQ K (tP2 K (tDz K) (tRat K)) second).at_ L), some ((tDz K) q_4.1), some ((tRat K) q_4.2), some (tV u_found), some (tI st.2.2), some (tV u_left), none]) ?_
      refine s_while (fun st_1 : (List (Dz × Dz × Rt)) × Rt × (List Rt) × Int => [some ((rQ K (tP2 K (tDz K) (tRat K)) first).at_ L), some ((rQ K (tP2 K (tDz K) (tRat K)) second).at_ L), some ((tDz K) q_4.1), some ((tRat K) st_1.2.1), some (tV u_found), some (tI st_1.2.2.2), some (tV u_left), none]) (fun st_1 : (List (Dz × Dz × Rt)) × Rt × (List Rt) × Int => [(u_left, (oLs (tRat K)) st_1.2.2.1), (u_found, (oLs (tP3 K (tDz K) (tDz K) (tRat K))) st_1.1)]) (st.2.1, q_4.2, st.1, st.2.2) (fun st_1 => (t_own (ok_Ratio_bool c) (hr.mono (by decide)) (fun y => y) (EW.rb (w_var 3 (f := (tRat K)) (v := st_1.2.1))) (fun _ => ins_tO) (fun _ => ⟨rfl, trivial⟩))) (fun st_1 kn_1 => ?_) (fun st_1 => ?_) po (gl := by exact ⟨rfl, rfl, rfl, rfl, rfl, rfl, rfl, trivial⟩)
      · refine SW.gam ([some ((rQ K (tP2 K (tDz K) (tRat K)) first).at_ L), some ((rQ K (tP2 K (tDz K) (tRat K)) second).at_ L), some ((tDz K) q_4.1), some ((tRat K) st_1.2.1), some (tV u_found), some (tI st_1.2.2.2), some (tV u_left), none]) ?_
        refine s_set (i := 7) (f := (tRat K)) (g_if (t_val (EW.at (W.bind (W.get st_1.2.2.1 st_1.2.2.2) fun z_6 => w_Ratio_under z_6 st_1.2.1) (w_mt (f := OT.tB) (cls_Ratio c) (ok_Ratio_under c) (hr.mono (by decide)) (Hd.add (hd _ _)) (fun y t => (y, t.1)) (EW.rb (w_ix (f := (tRat K)) (RW.q (r_own 0 6 (f := rL (tRat K)) (v := st_1.2.2.1) lend_Ls)) (w_var 5 (f := tI) (v := st_1.2.2.2)))) (fun _ => ins_tO) (a_cons (w_var 3 (f := (tRat K)) (v := st_1.2.1)) a_nil) (fun _ _ => ⟨rfl, rfl, trivial⟩)))) (w_ix (f := (tRat K)) (RW.q (r_own 0 6 (f := rL (tRat K)) (v := st_1.2.2.1) lend_Ls)) (w_var 5 (f := tI) (v := st_1.2.2.2))) (w_var 3 (f := (tRat K)) (v := st_1.2.1))) fun part => ?_
        refine SW.gam ([some ((rQ K (tP2 K (tDz K) (tRat K)) first).at_ L), some ((rQ K (tP2 K (tDz K) (tRat K)) second).at_ L), some ((tDz K) q_4.1), some ((tRat K) st_1.2.1), some (tV u_found), some (tI st_1.2.2.2), some (tV u_left), some ((tRat K) part)]) ?_
        refine SW.front 1 ?_
        refine s_append (i := 4) (F := fun y => MP.o ((tP3 K (tDz K) (tDz K) (tRat K)) y)) (EW.n (EW.at (W.bind (W.bind (W.get second st_1.2.2.2) fun z_8 => W.ret z_8.1) fun z_9 => W.ret (q_4.1, z_9, part)) (EW.imp (f := fun z : Dz × Dz × Rt × Unit => tT K ((fun z : Dz × Dz × Rt × Unit => [(tDz K) z.1, (tDz K) z.2.1, (tRat K) z.2.2.1]) z)) (w_tup (F := fun z : Dz × Dz × Rt × Unit => [(tDz K) z.1, (tDz K) z.2.1, (tRat K) z.2.2.1]) (a_cons (w_var 2 (f := (tDz K)) (v := q_4.1)) (a_cons (w_ixT (F := fun q : (Dz × Rt) => [(tDz K) q.1, (tRat K) q.2]) (g := (tDz K)) (fun z => z.1) (w_ix (f := (tP2 K (tDz K) (tRat K))) (r_lent 1 (f := rQ K (tP2 K (tDz K) (tRat K))) (v := second)) (w_var 5 (f := tI) (v := st_1.2.2.2)))) (a_cons (w_var 7 (f := (tRat K)) (v := part)) a_nil)))) (fun z => (z.1, z.2.1, z.2.2.1)) fun _ _ _ h => h))) fun a0 => ?_
        refine SW.gam ([some ((rQ K (tP2 K (tDz K) (tRat K)) first).at_ L), some ((rQ K (tP2 K (tDz K) (tRat K)) second).at_ L), some ((tDz K) q_4.1), some ((tRat K) st_1.2.1), some (tV u_found), some (tI st_1.2.2.2), some (tV u_left), some ((tRat K) part)]) ?_
        refine s_set (i := 3) (f := (tRat K)) (EW.at (fun Q _ => w_Ratio_sub st_1.2.1 part Q E0) (NW.settle (f := (fun r : Rt => oI (He.ga K "Ratio") [("top", MP.o (tI r.top)), ("bottom", MP.o (tI r.bottom))])) (g := (tRat K)) (n_own2 (m := "__sub__") (f := (fun r : Rt => oI (He.ga K "Ratio") [("top", MP.o (tI r.top)), ("bottom", MP.o (tI r.bottom))])) (ok_Ratio_sub c) (sf_Ratio c) (hr.mono (by decide)) (fun x y => (x, y)) (EW.rb (w_var 3 (f := (tRat K)) (v := st_1.2.1))) (EW.rb (w_var 7 (f := (tRat K)) (v := part))) (fun _ => ins_tO) (fun _ => ins_tO) (fun _ _ => ⟨rfl, rfl, trivial⟩)) fun _ => (stl_I ⟨rfl, stl_m, rfl, stl_m, trivial⟩))) fun share => ?_
        refine SW.gam ([some ((rQ K (tP2 K (tDz K) (tRat K)) first).at_ L), some ((rQ K (tP2 K (tDz K) (tRat K)) second).at_ L), some ((tDz K) q_4.1), some ((tRat K) share), some (tV u_found), some (tI st_1.2.2.2), some (tV u_left), some ((tRat K) part)]) ?_
        refine SW.front 1 ?_
        refine s_setI (i := 6) (f := (tRat K)) (EW.at (W.bind (W.get st_1.2.2.1 st_1.2.2.2) fun z_11 => fun Q _ => w_Ratio_sub z_11 part Q E0) (NW.settle (f := (fun r : Rt => oI (He.ga K "Ratio") [("top", MP.o (tI r.top)), ("bottom", MP.o (tI r.bottom))])) (g := (tRat K)) (n_own2 (m := "__sub__") (f := (fun r : Rt => oI (He.ga K "Ratio") [("top", MP.o (tI r.top)), ("bottom", MP.o (tI r.bottom))])) (ok_Ratio_sub c) (sf_Ratio c) (hr.mono (by decide)) (fun x y => (x, y)) (EW.rb (w_ix (f := (tRat K)) (RW.q (r_own 0 6 (f := rL (tRat K)) (v := st_1.2.2.1) lend_Ls)) (w_var 5 (f := tI) (v := st_1.2.2.2)))) (EW.rb (w_var 7 (f := (tRat K)) (v := part))) (fun _ => ins_tO) (fun _ => ins_tO) (fun _ _ => ⟨rfl, rfl, trivial⟩)) fun _ => (stl_I ⟨rfl, stl_m, rfl, stl_m, trivial⟩))) (w_var 5 (f := tI) (v := st_1.2.2.2)) fun t => ?_
        refine SW.gam ([some ((rQ K (tP2 K (tDz K) (tRat K)) first).at_ L), some ((rQ K (tP2 K (tDz K) (tRat K)) second).at_ L), some ((tDz K) q_4.1), some ((tRat K) share), some (tV u_found), some (tI st_1.2.2.2), some (tV u_left), some ((tRat K) part)]) ?_
        refine s_ifK (fun st_2 : Int => [some ((rQ K (tP2 K (tDz K) (tRat K)) first).at_ L), some ((rQ K (tP2 K (tDz K) (tRat K)) second).at_ L), some ((tDz K) q_4.1), some ((tRat K) share), some (tV u_found), some (tI st_2), some (tV u_left), some ((tRat K) part)]) (fun st_2 : Int => [(u_left, (oLs (tRat K)) (st_1.2.2.1.set t.2 t.1)), (u_found, (oLs (tP3 K (tDz K) (tDz K) (tRat K))) (st_1.1 ++ [a0]))]) (t_not (t_own (ok_Ratio_bool c) (hr.mono (by decide)) (fun y => y) (EW.rb (w_ix (f := (tRat K)) (RW.q (r_own 0 6 (f := rL (tRat K)) (v := (st_1.2.2.1.set t.2 t.1)) lend_Ls)) (w_var 5 (f := tI) (v := st_1.2.2.2)))) (fun _ => ins_tO) (fun _ => ⟨rfl, trivial⟩))) (fun kj => ?_) (fun kj => ?_) (fun st_2 => ?_)
        · refine SW.gam ([some ((rQ K (tP2 K (tDz K) (tRat K)) first).at_ L), some ((rQ K (tP2 K (tDz K) (tRat K)) second).at_ L), some ((tDz K) q_4.1), some ((tRat K) share), some (tV u_found), some (tI st_1.2.2.2), some (tV u_left), some ((tRat K) part)]) ?_
          refine s_addI (i := 5) (a := st_1.2.2.2) (w_int (i := 1)) fun more => ?_
          exact s_nil (k := _) (st_1.2.2.2 + more) (g := by exact ⟨rfl, rfl, rfl, rfl, rfl, rfl, rfl, rfl, trivial⟩)
        · exact s_nil (k := _) st_1.2.2.2 (g := by exact ⟨rfl, rfl, rfl, rfl, rfl, rfl, rfl, rfl, trivial⟩)
        · exact s_nil (k := _) (st_1.1 ++ [a0], share, st_1.2.2.1.set t.2 t.1, st_2) (g := by exact ⟨rfl, rfl, rfl, rfl, rfl, rfl, rfl, trivial⟩)
      · exact s_nil (k := _) (st_1.2.2.1, st_1.1, st_1.2.2.2) (g := by exact ⟨rfl, rfl, rfl, rfl, rfl, trivial⟩)
    · exact f_retO (i := 4) (k := 1) (f := (oLs (tP3 K (tDz K) (tDz K) (tRat K)))) (r := st.2.1) fin
@[local irreducible] def w_l_cell (script : (List Int)) (k : Int) (Q : Int → Prop) (E : Er → Prop) : Prop :=
  W.run (W.ret (decide (k < (script.length : Int)))) E fun b => W.ite b
    (W.run (W.get script k) E Q)
    (W.run (W.ret (0 : Int)) E Q)
theorem ok_l_cell (c : Ct P K mg) : GF P w K mg base "_law_cell" 1 ["_law_script", "_law_k"] (spW K (fun d : (List Int) × Int => [.b (rQ K tI d.1), .b (tI d.2).b]) (fun d => w_l_cell d.1 d.2) (fun r : Int => .v (tI r)) (fun _ => [])) := by
  refine gf_mkA (fd_l_cell c) (fun _ F => bd_l_cell F) (glo_l_cell c) fun fd F => def_ok F sc_l_cell (fun d vs L => [some ((rQ K tI d.1).at_ L), some (tI d.2)]) (fun _ _ => []) (fun _ _ _ => []) ?_ (by intro _; rfl) (fun d vs L hv => match vs, hv with | [_, _], _ => rfl) (fun d vs hv => match vs, hv with | [_, _], _ => rfl) (fun d vs r hv => match vs, hv with | [_, _], _ => rfl)
  rintro cdv A outer s' H0 L S Q0 E0' ⟨script, k⟩ vs Q E hv nd hr fin hdQ
  have tk := (hdQ [] _ (List.Sublist.refl _)).tk
  have hd : ∀ Γ O, Hd _ _ Γ O E _ := fun Γ O => hdQ Γ O (List.nil_sublist _)
  have po : PassesOwn (model P w) _ _ _ := @own_cx P w K mg base "_law_cell" (defScope s_l_cell) (He.ga K "_law_cell") ["_law_script", "_law_k"] cdv A outer s' H0 E0'
  show SW _ _ _ _ _ _ (w_l_cell script k Q E)
  unfold w_l_cell
  refine s_if (t_lt (w_var 1 (f := tI) (v := k)) (w_len (free_len c) (f := tI) (RW.rn (r_lent 0 (f := rQ K tI) (v := script))))) ?_ ?_
  · exact f_ret (f := tI) fin (w_ix (f := tI) (r_lent 0 (f := rQ K tI) (v := script)) (w_var 1 (f := tI) (v := k)))
  · refine s_skip ?_
    exact f_ret (f := tI) fin (w_int (i := 0))
@[local irreducible] def w_l_frac (top : Int) (bottom : Int) (Q : (Int × Int) → Prop) (E : Er → Prop) : Prop :=
  W.run (W.ret ((top.natAbs : Int), (bottom.natAbs : Int))) E fun t =>
  W.whil E (fun st : Int × Int => W.ret (!decide (st.2 = (0 : Int)))) (fun st kn =>
    W.run (W.bind (W.grd (st.2 ≠ 0) ((st.1).fmod st.2)) fun z => W.ret (st.2, z)) E fun t_1 =>
  kn (t_1.1, t_1.2))
    (fun st => W.run (W.bind (W.grd (DivOk st.1) ((top).fdiv st.1)) fun z_1 => W.bind (W.grd (DivOk st.1) ((bottom).fdiv st.1)) fun z_2 => W.ret (z_1, z_2)) E Q) (t.1, t.2)
theorem ok_l_frac (c : Ct P K mg) : GF P w K mg base "_law_frac" 1 ["_law_top", "_law_bottom"] (spW K (fun d : Int × Int => [.b (tI d.1).b, .b (tI d.2).b]) (fun d => w_l_frac d.1 d.2) (fun r : (Int × Int) => .v ((tP2 K tI tI) r)) (fun _ => [])) := by
  refine gf_mkA (fd_l_frac c) (fun _ F => bd_l_frac F) (glo_l_frac c) fun fd F => def_ok F sc_l_frac (fun d vs L => [some (tI d.1), some (tI d.2), none, none]) (fun _ _ => []) (fun _ _ _ => []) ?_ (by intro _; rfl) (fun d vs L hv => match vs, hv with | [_, _], _ => rfl) (fun d vs hv => match vs, hv with | [_, _], _ => rfl) (fun d vs r hv => match vs, hv with | [_, _], _ => rfl)
  rintro cdv A outer s' H0 L S Q0 E0' ⟨top, bottom⟩ vs Q E hv nd hr fin hdQ
  have tk := (hdQ [] _ (List.Sublist.refl _)).tk
  have hd : ∀ Γ O, Hd _ _ Γ O E _ := fun Γ O => hdQ Γ O (List.nil_sublist _)
  have po : PassesOwn (model P w) _ _ _ := @own_cx P w K mg base "_law_frac" (defScope s_l_frac) (He.ga K "_law_frac") ["_law_top", "_law_bottom", "_law_one", "_law_other"] cdv A outer s' H0 E0'
  show SW _ _ _ _ _ _ (w_l_frac top bottom Q E)
  unfold w_l_frac
  refine s_par (w' := fun _ _ => True) (i := 2) (j := 3) (f := tI) (g := tI) (w_abs (free_abs c) (w_var 0 (f := tI) (v := top))) (w_abs (free_abs c) (w_var 1 (f := tI) (v := bottom))) fun t => ?_
  refine SW.gam ([some (tI top), some (tI bottom), some (tI t.1), some (tI t.2)]) ?_
  refine s_while (fun st : Int × Int => [some (tI top), some (tI bottom), some (tI st.1), some (tI st.2)]) (fun st : Int × Int => []) (t.1, t.2) (fun st => (t_neI (w_var 3 (f := tI) (v := st.2)) (w_int (i := 0)))) (fun st kn => ?_) (fun st => ?_) po (gl := by exact ⟨rfl, rfl, rfl, rfl, trivial⟩)
  · refine SW.gam ([some (tI top), some (tI bottom), some (tI st.1), some (tI st.2)]) ?_
    refine s_par (w' := fun _ _ => True) (i := 2) (j := 3) (f := tI) (g := tI) (w_var 3 (f := tI) (v := st.2)) (w_mod (w_intI (free_int c) (w_var 2 (f := tI) (v := st.1))) (w_var 3 (f := tI) (v := st.2))) fun t_1 => ?_
    exact s_nil (k := _) (t_1.1, t_1.2) (g := by exact ⟨rfl, rfl, rfl, rfl, trivial⟩)
  · exact f_ret (f := (tP2 K tI tI)) fin (EW.at (W.bind (W.grd (DivOk st.1) ((top).fdiv st.1)) fun z_1 => W.bind (W.grd (DivOk st.1) ((bottom).fdiv st.1)) fun z_2 => W.ret (z_1, z_2)) (EW.imp (f := fun z : Int × Int × Unit => tT K ((fun z : Int × Int × Unit => [tI z.1, tI z.2.1]) z)) (w_tup (F := fun z : Int × Int × Unit => [tI z.1, tI z.2.1]) (a_cons (w_fdiv (w_intI (free_int c) (w_var 0 (f := tI) (v := top))) (w_var 2 (f := tI) (v := st.1))) (a_cons (w_fdiv (w_intI (free_int c) (w_var 1 (f := tI) (v := bottom))) (w_var 2 (f := tI) (v := st.1))) a_nil))) (fun z => (z.1, z.2.1)) fun _ _ _ h => h))
@[local irreducible] def w_l_add (one : (Int × Int)) (other : (Int × Int)) (Q : (Int × Int) → Prop) (E : Er → Prop) : Prop :=
  W.run (W.bind (W.bind (W.grd (IntMulOk one.1 other.2) (one.1 * other.2)) fun z => W.bind (W.grd (IntMulOk other.1 one.2) (other.1 * one.2)) fun z_1 => W.ret (z + z_1)) fun z_2 => W.bind (W.grd (IntMulOk one.2 other.2) (one.2 * other.2)) fun z_3 => w_l_frac z_2 z_3) E Q
theorem ok_l_add (c : Ct P K mg) : GF P w K mg base "_law_add" 2 ["_law_one", "_law_other"] (spW K (fun d : (Int × Int) × (Int × Int) => [.b ((tP2 K tI tI) d.1).b, .b ((tP2 K tI tI) d.2).b]) (fun d => w_l_add d.1 d.2) (fun r : (Int × Int) => .v ((tP2 K tI tI) r)) (fun _ => [])) := by
  refine gf_mkA (fd_l_add c) (fun _ F => bd_l_add F) (glo_l_add c) fun fd F => def_ok F sc_l_add (fun d vs L => [some ((tP2 K tI tI) d.1), some ((tP2 K tI tI) d.2)]) (fun _ _ => []) (fun _ _ _ => []) ?_ (by intro _; rfl) (fun d vs L hv => match vs, hv with | [_, _], _ => rfl) (fun d vs hv => match vs, hv with | [_, _], _ => rfl) (fun d vs r hv => match vs, hv with | [_, _], _ => rfl)
  rintro cdv A outer s' H0 L S Q0 E0' ⟨one, other⟩ vs Q E hv nd hr fin hdQ
  have tk := (hdQ [] _ (List.Sublist.refl _)).tk
  have hd : ∀ Γ O, Hd _ _ Γ O E _ := fun Γ O => hdQ Γ O (List.nil_sublist _)
  have po : PassesOwn (model P w) _ _ _ := @own_cx P w K mg base "_law_add" (defScope s_l_add) (He.ga K "_law_add") ["_law_one", "_law_other"] cdv A outer s' H0 E0'
  show SW _ _ _ _ _ _ (w_l_add one other Q E)
  unfold w_l_add
  exact f_ret (f := (tP2 K tI tI)) fin (EW.at (W.bind (W.bind (W.grd (IntMulOk one.1 other.2) (one.1 * other.2)) fun z => W.bind (W.grd (IntMulOk other.1 one.2) (other.1 * one.2)) fun z_1 => W.ret (z + z_1)) fun z_2 => W.bind (W.grd (IntMulOk one.2 other.2) (one.2 * other.2)) fun z_3 => w_l_frac z_2 z_3) (w_fn (f := (tP2 K tI tI)) (ok_l_frac c) (hr.mono (by decide)) (hd _ _) (fun t => (t.1, t.2.1)) (a_cons (w_add (w_mul (w_ixT (F := fun q : (Int × Int) => [tI q.1, tI q.2]) (g := tI) (fun z => z.1) (w_var 0 (f := (tP2 K tI tI)) (v := one))) (w_ixT (F := fun q : (Int × Int) => [tI q.1, tI q.2]) (g := tI) (fun z => z.2) (w_var 1 (f := (tP2 K tI tI)) (v := other)))) (w_mul (w_ixT (F := fun q : (Int × Int) => [tI q.1, tI q.2]) (g := tI) (fun z => z.1) (w_var 1 (f := (tP2 K tI tI)) (v := other))) (w_ixT (F := fun q : (Int × Int) => [tI q.1, tI q.2]) (g := tI) (fun z => z.2) (w_var 0 (f := (tP2 K tI tI)) (v := one))))) (a_cons (w_mul (w_ixT (F := fun q : (Int × Int) => [tI q.1, tI q.2]) (g := tI) (fun z => z.2) (w_var 0 (f := (tP2 K tI tI)) (v := one))) (w_ixT (F := fun q : (Int × Int) => [tI q.1, tI q.2]) (g := tI) (fun z => z.2) (w_var 1 (f := (tP2 K tI tI)) (v := other)))) a_nil)) (fun _ => ⟨rfl, rfl, trivial⟩)))
@[local irreducible] def w_l_mul (one : (Int × Int)) (other : (Int × Int)) (Q : (Int × Int) → Prop) (E : Er → Prop) : Prop :=
  W.run (W.bind (W.grd (IntMulOk one.1 other.1) (one.1 * other.1)) fun z => W.bind (W.grd (IntMulOk one.2 other.2) (one.2 * other.2)) fun z_1 => w_l_frac z z_1) E Q
theorem ok_l_mul (c : Ct P K mg) : GF P w K mg base "_law_mul" 2 ["_law_one", "_law_other"] (spW K (fun d : (Int × Int) × (Int × Int) => [.b ((tP2 K tI tI) d.1).b, .b ((tP2 K tI tI) d.2).b]) (fun d => w_l_mul d.1 d.2) (fun r : (Int × Int) => .v ((tP2 K tI tI) r)) (fun _ => [])) := by
  refine gf_mkA (fd_l_mul c) (fun _ F => bd_l_mul F) (glo_l_mul c) fun fd F => def_ok F sc_l_mul (fun d vs L => [some ((tP2 K tI tI) d.1), some ((tP2 K tI tI) d.2)]) (fun _ _ => []) (fun _ _ _ => []) ?_ (by intro _; rfl) (fun d vs L hv => match vs, hv with | [_, _], _ => rfl) (fun d vs hv => match vs, hv with | [_, _], _ => rfl) (fun d vs r hv => match vs, hv with | [_, _], _ => rfl)
  rintro cdv A outer s' H0 L S Q0 E0' ⟨one, other⟩ vs Q E hv nd hr fin hdQ
  have tk := (hdQ [] _ (List.Sublist.refl _)).tk
  have hd : ∀ Γ O, Hd _ _ Γ O E _ := fun Γ O => hdQ Γ O (List.nil_sublist _)
  have po : PassesOwn (model P w) _ _ _ := @own_cx P w K mg base "_law_mul" (defScope s_l_mul) (He.ga K "_law_mul") ["_law_one", "_law_other"] cdv A outer s' H0 E0'
  show SW _ _ _ _ _ _ (w_l_mul one other Q E)
  unfold w_l_mul
  exact f_ret (f := (tP2 K tI tI)) fin (EW.at (W.bind (W.grd (IntMulOk one.1 other.1) (one.1 * other.1)) fun z => W.bind (W.grd (IntMulOk one.2 other.2) (one.2 * other.2)) fun z_1 => w_l_frac z z_1) (w_fn (f := (tP2 K tI tI)) (ok_l_frac c) (hr.mono (by decide)) (hd _ _) (fun t => (t.1, t.2.1)) (a_cons (w_mul (w_ixT (F := fun q : (Int × Int) => [tI q.1, tI q.2]) (g := tI) (fun z => z.1) (w_var 0 (f := (tP2 K tI tI)) (v := one))) (w_ixT (F := fun q : (Int × Int) => [tI q.1, tI q.2]) (g := tI) (fun z => z.1) (w_var 1 (f := (tP2 K tI tI)) (v := other)))) (a_cons (w_mul (w_ixT (F := fun q : (Int × Int) => [tI q.1, tI q.2]) (g := tI) (fun z => z.2) (w_var 0 (f := (tP2 K tI tI)) (v := one))) (w_ixT (F := fun q : (Int × Int) => [tI q.1, tI q.2]) (g := tI) (fun z => z.2) (w_var 1 (f := (tP2 K tI tI)) (v := other)))) a_nil)) (fun _ => ⟨rfl, rfl, trivial⟩)))
@[local irreducible] def w_l_of (ratio : Rt) (Q : (Int × Int) → Prop) (E : Er → Prop) : Prop :=
  W.run (W.ret (ratio.top, ratio.bottom)) E Q
theorem ok_l_of (c : Ct P K mg) : GF P w K mg base "_law_of" 1 ["_law_ratio"] (spW K (fun d : Rt => [.b ((tRat K) d).b]) (fun d => w_l_of d) (fun r : (Int × Int) => .v ((tP2 K tI tI) r)) (fun _ => [])) := by
  refine gf_mkA (fd_l_of c) (fun _ F => bd_l_of F) (glo_l_of c) fun fd F => def_ok F sc_l_of (fun d vs L => [some ((tRat K) d)]) (fun _ _ => []) (fun _ _ _ => []) ?_ (by intro _; rfl) (fun d vs L hv => match vs, hv with | [_], _ => rfl) (fun d vs hv => match vs, hv with | [_], _ => rfl) (fun d vs r hv => match vs, hv with | [_], _ => rfl)
  rintro cdv A outer s' H0 L S Q0 E0' ratio vs Q E hv nd hr fin hdQ
  have tk := (hdQ [] _ (List.Sublist.refl _)).tk
  have hd : ∀ Γ O, Hd _ _ Γ O E _ := fun Γ O => hdQ Γ O (List.nil_sublist _)
  have po : PassesOwn (model P w) _ _ _ := @own_cx P w K mg base "_law_of" (defScope s_l_of) (He.ga K "_law_of") ["_law_ratio"] cdv A outer s' H0 E0'
  show SW _ _ _ _ _ _ (w_l_of ratio Q E)
  unfold w_l_of
  exact f_ret (f := (tP2 K tI tI)) fin (EW.imp (f := fun z : Int × Int × Unit => tT K ((fun z : Int × Int × Unit => [tI z.1, tI z.2.1]) z)) (w_tup (F := fun z : Int × Int × Unit => [tI z.1, tI z.2.1]) (a_cons (w_fld (F := fun z : Rt => [("top", tI z.top), ("bottom", tI z.bottom)]) (g := tI) (fun z : Rt => z.top) (cls_Ratio c) (noat_Ratio_top c) (w_var 0 (f := (tRat K)) (v := ratio))) (a_cons (w_fld (F := fun z : Rt => [("top", tI z.top), ("bottom", tI z.bottom)]) (g := tI) (fun z : Rt => z.bottom) (cls_Ratio c) (noat_Ratio_bottom c) (w_var 0 (f := (tRat K)) (v := ratio))) a_nil))) (fun z => (z.1, z.2.1)) fun _ _ _ h => h)
theorem okq_l_of (c : Ct P K mg) : GFQ P w K mg base "_law_of" 1 ["_law_ratio"] (spW K (fun d : Rt => [.b ((tRat K) d).b]) (fun d => w_l_of d) (fun r : (Int × Int) => .v ((tP2 K tI tI) r)) (fun _ => [])) := by
  refine gfq_mk (fd_l_of c) (fun _ F => bd_l_of F) (glo_l_of c) fun fd F => defq_ok F sc_l_of (fun d vs L => [some ((tRat K) d)]) (fun _ _ => []) (fun _ _ _ => []) ?_ (by intro _; rfl) (fun d vs L hv => match vs, hv with | [_], _ => rfl) (fun d vs hv => match vs, hv with | [_], _ => rfl) (fun d vs r hv => match vs, hv with | [_], _ => rfl)
  rintro pin cdv A outer s' H0 L S Q0 E0' ratio vs Q E hv nd hr fin
  show SW _ _ _ _ _ _ (w_l_of ratio Q E)
  unfold w_l_of
  exact f_ret (f := (tP2 K tI tI)) fin (EW.imp (f := fun z : Int × Int × Unit => tT K ((fun z : Int × Int × Unit => [tI z.1, tI z.2.1]) z)) (w_tup (F := fun z : Int × Int × Unit => [tI z.1, tI z.2.1]) (a_cons (w_fld (F := fun z : Rt => [("top", tI z.top), ("bottom", tI z.bottom)]) (g := tI) (fun z : Rt => z.top) (cls_Ratio c) (noat_Ratio_top c) (w_var 0 (f := (tRat K)) (v := ratio))) (a_cons (w_fld (F := fun z : Rt => [("top", tI z.top), ("bottom", tI z.bottom)]) (g := tI) (fun z : Rt => z.bottom) (cls_Ratio c) (noat_Ratio_bottom c) (w_var 0 (f := (tRat K)) (v := ratio))) a_nil))) (fun z => (z.1, z.2.1)) fun _ _ _ h => h)
@[local irreducible] def w_l_row (n : Nat) (Q : (List (Dz × (Int × Int))) × Nat → Prop) (E : Er → Prop) : Prop :=
  W.lt [(Dz.s ("x" : Str)), (Dz.i (1 : Int)), ((fun _ : Unit => Dz.n) ()), ((fun q : (Str × Int) => Dz.t [Dz.s q.1, Dz.i q.2]) (("y" : Str), (2 : Int))), (Dz.s ("" : Str)), (Dz.i (0 : Int)), ((fun xs : (List Str) => Dz.t (xs.map Dz.s)) [("x" : Str)])] fun things : (List Dz) =>
  W.lt ([] : (List (Dz × (Int × Int)))) fun found : (List (Dz × (Int × Int))) =>
  W.run (W.bind (w_l_take n (7 : Int)) fun z => W.grd (RgOk z.1) (rng 0 z.1, z.2)) E0 fun xs => W.loop (fun k (st : Nat × (List (Dz × (Int × Int)))) kn =>
    W.run (W.bind (W.bind (W.bind (W.grd (CPow (10 : Int) (12 : Int)) ((10 : Int) ^ ((12 : Int)).toNat)) fun z_1 => W.ret [(1 : Int), (1 : Int), (2 : Int), (3 : Int), z_1]) fun z_3 => W.bind (w_l_take st.1 (5 : Int)) fun z_4 => W.cn (W.get z_3 z_4.1) z_4.2) fun z_2 => W.bind (W.bind (w_l_take z_2.2 (6 : Int)) fun z_6 => W.ret ((1 : Int) + z_6.1, z_6.2)) fun z_5 => W.cn (w_l_frac z_2.1 z_5.1) z_5.2) E0 fun share =>
  W.run (W.bind (W.bind (W.bind (w_l_take share.2 (7 : Int)) fun z_13 => W.cn (W.get things z_13.1) z_13.2) fun z_12 => W.ret ((z_12.1, share.1), z_12.2)) fun a => W.grd (st.2.length < 100000) a) E0 fun a0 =>
  kn (a0.2, st.2 ++ [a0.1]))
    (fun st : Nat × (List (Dz × (Int × Int))) => Q (st.2, st.1)) xs.1 (xs.2, found)
theorem ok_l_row (c : Ct P K mg) : GF P w K mg base "_law_row" 2 ["_law_pool_here"] (spW K (fun d : Nat => [.o (oPoolN d)]) (fun d => w_l_row d) (fun r : (List (Dz × (Int × Int))) × Nat => .o ((oLs (tP2 K (tDz K) (tP2 K tI tI))) r.1)) (fun r => [oPoolN r.2])) := by
  refine gf_mkA (fd_l_row c) (fun _ F => bd_l_row F) (glo_l_row c) fun fd F => def_ok F sc_l_row (fun d vs L => [some (tV (vs.headD .non)), none, none, none, none]) (fun d vs => [((vs.headD .non), oPoolN d)]) (fun _ vs r => [((vs.headD .non), oPoolN r.2)]) ?_ (by intro _; rfl) (fun d vs L hv => match vs, hv with | [_], _ => rfl) (fun d vs hv => match vs, hv with | [_], _ => rfl) (fun d vs r hv => match vs, hv with | [_], _ => rfl)
  rintro cdv A outer s' H0 L S Q0 E0' n vs Q E hv nd hr fin hdQ
  have tk := (hdQ [] _ (List.Sublist.refl _)).tk
  have hd := hdQ
  have po : PassesOwn (model P w) _ _ _ := @own_cx P w K mg base "_law_row" (defScope s_l_row) (He.ga K "_law_row") ["_law_pool_here", "_law_things", "_law_found", "_law_k", "_law_share"] cdv A outer s' H0 E0'
  show SW _ _ _ _ _ _ (w_l_row n Q E)
  unfold w_l_row
  refine s_setV (Z := E0) (i := 1) (f := (tLs K (tDz K))) (v := [(Dz.s ("x" : Str)), (Dz.i (1 : Int)), ((fun _ : Unit => Dz.n) ()), ((fun q : (Str × Int) => Dz.t [Dz.s q.1, Dz.i q.2]) (("y" : Str), (2 : Int))), (Dz.s ("" : Str)), (Dz.i (0 : Int)), ((fun xs : (List Str) => Dz.t (xs.map Dz.s)) [("x" : Str)])]) (EW.at (W.ret [(Dz.s ("x" : Str)), (Dz.i (1 : Int)), ((fun _ : Unit => Dz.n) ()), ((fun q : (Str × Int) => Dz.t [Dz.s q.1, Dz.i q.2]) (("y" : Str), (2 : Int))), (Dz.s ("" : Str)), (Dz.i (0 : Int)), ((fun xs : (List Str) => Dz.t (xs.map Dz.s)) [("x" : Str)])]) (EW.at (W.ret [(Dz.s ("x" : Str)), (Dz.i (1 : Int)), ((fun _ : Unit => Dz.n) ()), ((fun q : (Str × Int) => Dz.t [Dz.s q.1, Dz.i q.2]) (("y" : Str), (2 : Int))), (Dz.s ("" : Str)), (Dz.i (0 : Int)), ((fun xs : (List Str) => Dz.t (xs.map Dz.s)) [("x" : Str)])]) (NW.settle (g := (tLs K (tDz K))) (NW.imp (n_lst (F := fun z : Dz × Dz × Dz × Dz × Dz × Dz × Dz × Unit => [(tDz K) z.1, (tDz K) z.2.1, (tDz K) z.2.2.1, (tDz K) z.2.2.2.1, (tDz K) z.2.2.2.2.1, (tDz K) z.2.2.2.2.2.1, (tDz K) z.2.2.2.2.2.2.1]) (a_cons (w_dz (g := Dz.s) zc_str (w_str (i := ("x" : Str)))) (a_cons (w_dz (g := Dz.i) zc_int (w_int (i := 1))) (a_cons (w_dz (g := (fun _ : Unit => Dz.n)) zc_none w_non) (a_cons (w_dz (g := (fun q : (Str × Int) => Dz.t [Dz.s q.1, Dz.i q.2])) (zc_p2 zc_str zc_int) (EW.imp (f := fun z : Str × Int × Unit => tT K ((fun z : Str × Int × Unit => [tS z.1, tI z.2.1]) z)) (w_tup (F := fun z : Str × Int × Unit => [tS z.1, tI z.2.1]) (a_cons (w_str (i := ("y" : Str))) (a_cons (w_int (i := 2)) a_nil))) (fun z => (z.1, z.2.1)) fun _ _ _ h => h)) (a_cons (w_dz (g := Dz.s) zc_str (w_str (i := ("" : Str)))) (a_cons (w_dz (g := Dz.i) zc_int (w_int (i := 0))) (a_cons (w_dz (g := (fun xs : (List Str) => Dz.t (xs.map Dz.s))) (zc_tup zc_str) (EW.imp (f := fun z : Str × Unit => tT K ((fun z : Str × Unit => [tS z.1]) z)) (g := tTs K tS) (w_tup (F := fun z : Str × Unit => [tS z.1]) (a_cons (w_str (i := ("x" : Str))) a_nil)) (fun z => [z.1]) fun _ _ _ h => h)) a_nil)))))))) (g := oLs (tDz K)) (fun z => [z.1, z.2.1, z.2.2.1, z.2.2.2.1, z.2.2.2.2.1, z.2.2.2.2.2.1, z.2.2.2.2.2.2.1]) fun _ => rfl) fun _ => stl_Ls))) fun things hq_things => ?_
  refine SW.gam ([some (tV (vs.headD .non)), some ((tLs K (tDz K)) things), none, none, none]) ?_
  refine s_setNV (Z := E0) (i := 2) (f := (oLs (tP2 K (tDz K) (tP2 K tI tI)))) (v := ([] : (List (Dz × (Int × Int))))) (n_nil (f := (tP2 K (tDz K) (tP2 K tI tI)))) fun u_found found hq_found => ?_
  refine SW.gam ([some (tV (vs.headD .non)), some ((tLs K (tDz K)) things), some (tV u_found), none, none]) ?_
  refine s_forP (O := (fun mm => [(u_found, (oLs (tP2 K (tDz K) (tP2 K tI tI))) found), ((vs.headD .non), oPoolN mm)])) (n := n) (f := tI) (fun st : Nat × (List (Dz × (Int × Int))) => [some (tV (vs.headD .non)), some ((tLs K (tDz K)) things), some (tV u_found), none, none]) (fun st : Nat × (List (Dz × (Int × Int))) => [(u_found, (oLs (tP2 K (tDz K) (tP2 K tI tI))) st.2), ((vs.headD .non), oPoolN st.1)]) (fun mm => (mm, found)) (dri_range1 (free_range c) (dr_fnO 1 (f := tI) (ok_l_take c) (hr.mono (by decide)) (fun _ => (hdE tk)) (fun t m => (m, t.1)) (dra_consT 0 (dra_cons (dr_of (O1 := [(u_found, (oLs (tP2 K (tDz K) (tP2 K tI tI))) found), ((vs.headD .non), oPoolN n)]) (w_int (i := 7))) (fun m0 => dra_nil))) (fun _ _ => ⟨rfl, rfl, trivial⟩) (fun _ => (fun _ h => by cases h)))) (fun k (st : Nat × (List (Dz × (Int × Int)))) => [some (tV (vs.headD .non)), some ((tLs K (tDz K)) things), some (tV u_found), some (tI k), none]) [3] (fun G k st => (g_name (j := 3))) (fun G k st kn => ?_) (fun st => ?_) po (gl := fun _ => by exact ⟨rfl, rfl, rfl, trivial⟩)
  · refine SW.gam ([some (tV (vs.headD .non)), some ((tLs K (tDz K)) things), some (tV u_found), some (tI k), none]) ?_
    refine s_setP (O := (fun mm => [(u_found, (oLs (tP2 K (tDz K) (tP2 K tI tI))) st.2), ((vs.headD .non), oPoolN mm)])) (n := st.1) (i := 4) (f := (tP2 K tI tI)) (KW.at (W.bind (W.bind (W.bind (W.grd (CPow (10 : Int) (12 : Int)) ((10 : Int) ^ ((12 : Int)).toNat)) fun z_1 => W.ret [(1 : Int), (1 : Int), (2 : Int), (3 : Int), z_1]) fun z_8 => W.bind (w_l_take st.1 (5 : Int)) fun z_9 => W.cn (W.get z_8 z_9.1) z_9.2) fun z_7 => W.bind (W.bind (w_l_take z_7.2 (6 : Int)) fun z_11 => W.ret ((1 : Int) + z_11.1, z_11.2)) fun z_10 => W.cn (w_l_frac z_7.1 z_10.1) z_10.2) (dr_fn (f := (tP2 K tI tI)) (ok_l_frac c) (hr.mono (by decide)) (fun _ => (Hd.add (hdE tk))) (fun t => (t.1, t.2.1)) (dra_cons (dr_ix (f := tI) (drq_of (O1 := [(u_found, (oLs (tP2 K (tDz K) (tP2 K tI tI))) st.2), ((vs.headD .non), oPoolN st.1)]) (RW.q (EW.rl (EW.at (W.bind (W.grd (CPow (10 : Int) (12 : Int)) ((10 : Int) ^ ((12 : Int)).toNat)) fun z_1 => W.ret [(1 : Int), (1 : Int), (2 : Int), (3 : Int), z_1]) (NW.settle (g := (tLs K tI)) (NW.imp (n_lst (F := fun z : Int × Int × Int × Int × Int × Unit => [tI z.1, tI z.2.1, tI z.2.2.1, tI z.2.2.2.1, tI z.2.2.2.2.1]) (a_cons (w_int (i := 1)) (a_cons (w_int (i := 1)) (a_cons (w_int (i := 2)) (a_cons (w_int (i := 3)) (a_cons (w_pow (w_int (i := 10)) (w_int (i := 12))) a_nil)))))) (g := oLs tI) (fun z => [z.1, z.2.1, z.2.2.1, z.2.2.2.1, z.2.2.2.2.1]) fun _ => rfl) fun _ => stl_Ls)))) (fun _ => (fun _ h => by cases h))) (fun m0_1 => (dr_fnO 1 (f := tI) (ok_l_take c) (hr.mono (by decide)) (fun _ => (Hd.add (hdE tk))) (fun t m => (m, t.1)) (dra_consT 0 (dra_cons (dr_of (O1 := [(u_found, (oLs (tP2 K (tDz K) (tP2 K tI tI))) st.2), ((vs.headD .non), oPoolN m0_1)]) (w_int (i := 5))) (fun m0_4 => dra_nil))) (fun _ _ => ⟨rfl, rfl, trivial⟩) (fun _ => (fun _ h => by cases h))))) (fun m0_3 => (dra_cons (dr_add (dr_of (O1 := [(u_found, (oLs (tP2 K (tDz K) (tP2 K tI tI))) st.2), ((vs.headD .non), oPoolN m0_3)]) (w_int (i := 1))) (fun m0_2 => (dr_fnO 1 (f := tI) (ok_l_take c) (hr.mono (by decide)) (fun _ => (Hd.add (hdE tk))) (fun t m => (m, t.1)) (dra_consT 0 (dra_cons (dr_of (O1 := [(u_found, (oLs (tP2 K (tDz K) (tP2 K tI tI))) st.2), ((vs.headD .non), oPoolN m0_2)]) (w_int (i := 6))) (fun m0_6 => dra_nil))) (fun _ _ => ⟨rfl, rfl, trivial⟩) (fun _ => (fun _ h => by cases h))))) (fun m0_5 => dra_nil)))) (fun _ => ⟨rfl, rfl, trivial⟩))) fun share => ?_
    refine SW.gam ([some (tV (vs.headD .non)), some ((tLs K (tDz K)) things), some (tV u_found), some (tI k), some ((tP2 K tI tI) share.1)]) ?_
    refine s_appendP (O := (fun mm => [((vs.headD .non), oPoolN mm)])) (n := share.2) (u := u_found) (xs := st.2) (i := 2) (F := fun y => MP.o ((tP2 K (tDz K) (tP2 K tI tI)) y)) (KW.nn (KW.at (W.bind (W.bind (w_l_take share.2 (7 : Int)) fun z_15 => W.cn (W.get things z_15.1) z_15.2) fun z_14 => W.ret ((z_14.1, share.1), z_14.2)) (KW.imp (f := fun z : Dz × (Int × Int) × Unit => tT K ((fun z : Dz × (Int × Int) × Unit => [(tDz K) z.1, (tP2 K tI tI) z.2.1]) z)) (dr_tup (F := fun z : Dz × (Int × Int) × Unit => [(tDz K) z.1, (tP2 K tI tI) z.2.1]) (dra_cons (dr_ix (f := (tDz K)) (drq_of (O1 := [(u_found, (oLs (tP2 K (tDz K) (tP2 K tI tI))) st.2), ((vs.headD .non), oPoolN share.2)]) (RW.q (EW.rl (w_var 1 (f := (tLs K (tDz K))) (v := things)))) (fun _ => (fun _ h => by cases h))) (fun m0_7 => (dr_fnO 1 (f := tI) (ok_l_take c) (hr.mono (by decide)) (fun _ => (Hd.add (hdE tk))) (fun t m => (m, t.1)) (dra_consT 0 (dra_cons (dr_of (O1 := [(u_found, (oLs (tP2 K (tDz K) (tP2 K tI tI))) st.2), ((vs.headD .non), oPoolN m0_7)]) (w_int (i := 7))) (fun m0_9 => dra_nil))) (fun _ _ => ⟨rfl, rfl, trivial⟩) (fun _ => (fun _ h => by cases h))))) (fun m0_8 => (dra_cons (dr_of (O1 := [(u_found, (oLs (tP2 K (tDz K) (tP2 K tI tI))) st.2), ((vs.headD .non), oPoolN m0_8)]) (w_var 4 (f := (tP2 K tI tI)) (v := share.1))) (fun m0_10 => dra_nil))))) (fun z => (z.1, z.2.1)) fun _ _ _ h => h))) fun a0 => ?_
    exact s_nil (k := _) (a0.2, st.2 ++ [a0.1]) (g := by exact ⟨rfl, rfl, rfl, trivial⟩)
  · exact f_retOS 0 (i := 2) (f := fun r : (List (Dz × (Int × Int))) × Nat => (oLs (tP2 K (tDz K) (tP2 K tI tI))) r.1) (r := (st.2, st.1)) fin (by walk_at "osub")
@[local irreducible] def w_l_sum (rows : (List (Dz × (Int × Int)))) (Q : (Int × Int) → Prop) (E : Er → Prop) : Prop :=
  W.lt ((0 : Int), (1 : Int)) fun whole : (Int × Int) =>
  W.run (W.ret rows) E fun xs => W.loop (fun q (st : (Int × Int)) kn =>
    W.run (w_l_add st q.2) E fun whole_1 =>
  kn whole_1)
    (fun st : (Int × Int) => W.run (W.ret st) E Q) xs whole
theorem ok_l_sum (c : Ct P K mg) : GF P w K mg base "_law_sum" 3 ["_law_rows"] (spW K (fun d : (List (Dz × (Int × Int))) => [.b (rL (tP2 K (tDz K) (tP2 K tI tI)) d)]) (fun d => w_l_sum d) (fun r : (Int × Int) => .v ((tP2 K tI tI) r)) (fun _ => [])) := by
  refine gf_mkA (fd_l_sum c) (fun _ F => bd_l_sum F) (glo_l_sum c) fun fd F => def_ok F sc_l_sum (fun d vs L => [some ((rL (tP2 K (tDz K) (tP2 K tI tI)) d).at_ L), none, none, none]) (fun _ _ => []) (fun _ _ _ => []) ?_ (by intro _; rfl) (fun d vs L hv => match vs, hv with | [_], _ => rfl) (fun d vs hv => match vs, hv with | [_], _ => rfl) (fun d vs r hv => match vs, hv with | [_], _ => rfl)
  rintro cdv A outer s' H0 L S Q0 E0' rows vs Q E hv nd hr fin hdQ
  have tk := (hdQ [] _ (List.Sublist.refl _)).tk
  have hd : ∀ Γ O, Hd _ _ Γ O E _ := fun Γ O => hdQ Γ O (List.nil_sublist _)
  have po : PassesOwn (model P w) _ _ _ := @own_cx P w K mg base "_law_sum" (defScope s_l_sum) (He.ga K "_law_sum") ["_law_rows", "_law_whole", "_law_thing", "_law_share"] cdv A outer s' H0 E0'
  show SW _ _ _ _ _ _ (w_l_sum rows Q E)
  unfold w_l_sum
  refine s_setV (Z := E) (i := 1) (f := (tP2 K tI tI)) (v := ((0 : Int), (1 : Int))) (EW.imp (f := fun z : Int × Int × Unit => tT K ((fun z : Int × Int × Unit => [tI z.1, tI z.2.1]) z)) (w_tup (F := fun z : Int × Int × Unit => [tI z.1, tI z.2.1]) (a_cons (w_int (i := 0)) (a_cons (w_int (i := 1)) a_nil))) (fun z => (z.1, z.2.1)) fun _ _ _ h => h) fun whole hq_whole => ?_
  refine SW.gam ([some ((rL (tP2 K (tDz K) (tP2 K tI tI)) rows).at_ L), some ((tP2 K tI tI) whole), none, none]) ?_
  refine s_for (f := (tP2 K (tDz K) (tP2 K tI tI))) (fun st : (Int × Int) => [some ((rL (tP2 K (tDz K) (tP2 K tI tI)) rows).at_ L), some ((tP2 K tI tI) st), none, none]) (fun st : (Int × Int) => []) whole (i_lst (f := (tP2 K (tDz K) (tP2 K tI tI))) (r_lent 0 (f := rL (tP2 K (tDz K) (tP2 K tI tI))) (v := rows))) (fun q (st : (Int × Int)) => [some ((rL (tP2 K (tDz K) (tP2 K tI tI)) rows).at_ L), some ((tP2 K tI tI) st), some ((tDz K) q.1), some ((tP2 K tI tI) q.2)]) [2, 3] (fun G q st => (g_tup (gs_cons (g_name (j := 2)) (gs_cons (g_name (j := 3)) gs_nil)))) (fun G q st kn => ?_) (fun st => ?_) po (gl := by exact ⟨rfl, rfl, trivial⟩)
  · refine SW.gam ([some ((rL (tP2 K (tDz K) (tP2 K tI tI)) rows).at_ L), some ((tP2 K tI tI) st), some ((tDz K) q.1), some ((tP2 K tI tI) q.2)]) ?_
    refine s_set (i := 1) (f := (tP2 K tI tI)) (EW.at (w_l_add st q.2) (w_fn (f := (tP2 K tI tI)) (ok_l_add c) (hr.mono (by decide)) (Hd.add (hd _ _)) (fun t => (t.1, t.2.1)) (a_cons (w_var 1 (f := (tP2 K tI tI)) (v := st)) (a_cons (w_var 3 (f := (tP2 K tI tI)) (v := q.2)) a_nil)) (fun _ => ⟨rfl, rfl, trivial⟩))) fun whole_1 => ?_
    exact s_nil (k := _) whole_1 (g := by exact ⟨rfl, rfl, trivial⟩)
  · exact f_ret (f := (tP2 K tI tI)) fin (w_var 1 (f := (tP2 K tI tI)) (v := st))
@[local irreducible] def w_l_scaled (rows : (List (Dz × (Int × Int)))) (whole : (Int × Int)) (Q : (List (Dz × (Int × Int))) → Prop) (E : Er → Prop) : Prop :=
  W.run (w_l_sum rows) E fun top =>
  W.run (W.compG (fun _ : (Dz × (Int × Int)) => W.ret true) (fun q : (Dz × (Int × Int)) => W.bind (W.bind (w_l_mul q.2 whole) fun z => w_l_mul z (top.2, top.1)) fun z_1 => W.ret (q.1, z_1)) rows) E Q
theorem ok_l_scaled (c : Ct P K mg) : GF P w K mg base "_law_scaled" 4 ["_law_rows", "_law_whole"] (spW K (fun d : (List (Dz × (Int × Int))) × (Int × Int) => [.b (rL (tP2 K (tDz K) (tP2 K tI tI)) d.1), .b ((tP2 K tI tI) d.2).b]) (fun d => w_l_scaled d.1 d.2) (fun r : (List (Dz × (Int × Int))) => .o ((oLs (tP2 K (tDz K) (tP2 K tI tI))) r)) (fun _ => [])) := by
  refine gf_mkA (fd_l_scaled c) (fun _ F => bd_l_scaled F) (glo_l_scaled c) fun fd F => def_ok F sc_l_scaled (fun d vs L => [some ((rL (tP2 K (tDz K) (tP2 K tI tI)) d.1).at_ L), some ((tP2 K tI tI) d.2), none, none, none]) (fun _ _ => []) (fun _ _ _ => []) ?_ (by intro _; rfl) (fun d vs L hv => match vs, hv with | [_, _], _ => rfl) (fun d vs hv => match vs, hv with | [_, _], _ => rfl) (fun d vs r hv => match vs, hv with | [_, _], _ => rfl)
  rintro cdv A outer s' H0 L S Q0 E0' ⟨rows, whole⟩ vs Q E hv nd hr fin hdQ
  have tk := (hdQ [] _ (List.Sublist.refl _)).tk
  have hd : ∀ Γ O, Hd _ _ Γ O E _ := fun Γ O => hdQ Γ O (List.nil_sublist _)
  have po : PassesOwn (model P w) _ _ _ := @own_cx P w K mg base "_law_scaled" (defScope s_l_scaled) (He.ga K "_law_scaled") ["_law_rows", "_law_whole", "_law_top", "_law_thing", "_law_share"] cdv A outer s' H0 E0'
  show SW _ _ _ _ _ _ (w_l_scaled rows whole Q E)
  unfold w_l_scaled
  refine s_set (i := 2) (f := (tP2 K tI tI)) (EW.at (w_l_sum rows) (w_fn (f := (tP2 K tI tI)) (ok_l_sum c) (hr.mono (by decide)) (hd _ _) (fun t => t.1) (a_consR (r_lent 0 (f := rL (tP2 K (tDz K) (tP2 K tI tI))) (v := rows)) a_nil) (fun _ => ⟨rfl, trivial⟩))) fun top => ?_
  exact f_retN (f := (oLs (tP2 K (tDz K) (tP2 K tI tI)))) fin (n_comp [("_law_thing", 3), ("_law_share", 4)] (F := (fun y => MP.o ((tP2 K (tDz K) (tP2 K tI tI)) y))) (f := (tP2 K (tDz K) (tP2 K tI tI))) [some ((rL (tP2 K (tDz K) (tP2 K tI tI)) rows).at_ L), some ((tP2 K tI tI) whole), some ((tP2 K tI tI) top), none, none] (i_lst (f := (tP2 K (tDz K) (tP2 K tI tI))) (r_lent 0 (f := rL (tP2 K (tDz K) (tP2 K tI tI))) (v := rows))) (fun q => [some ((rL (tP2 K (tDz K) (tP2 K tI tI)) rows).at_ L), some ((tP2 K tI tI) whole), some ((tP2 K tI tI) top), some ((tDz K) q.1), some ((tP2 K tI tI) q.2)]) [3, 4] (fun G m q s2 H2 C2 cl2 fp2 => ⟨(g_tup (gs_cons (g_name (j := 3)) (gs_cons (g_name (j := 4)) gs_nil))), if_none, (EW.n (EW.at (W.bind (W.bind (w_l_mul q.2 whole) fun z => w_l_mul z (top.2, top.1)) fun z_1 => W.ret (q.1, z_1)) (EW.imp (f := fun z : Dz × (Int × Int) × Unit => tT K ((fun z : Dz × (Int × Int) × Unit => [(tDz K) z.1, (tP2 K tI tI) z.2.1]) z)) (w_tup (F := fun z : Dz × (Int × Int) × Unit => [(tDz K) z.1, (tP2 K tI tI) z.2.1]) (a_cons (w_var 3 (f := (tDz K)) (v := q.1)) (a_cons (EW.at (W.bind (w_l_mul q.2 whole) fun z => w_l_mul z (top.2, top.1)) (w_fn (f := (tP2 K tI tI)) (ok_l_mul c) (hr.mono (by decide)) hd0 (fun t => (t.1, t.2.1)) (a_cons (EW.at (w_l_mul q.2 whole) (w_fn (f := (tP2 K tI tI)) (ok_l_mul c) (hr.mono (by decide)) hd0 (fun t => (t.1, t.2.1)) (a_cons (w_var 4 (f := (tP2 K tI tI)) (v := q.2)) (a_cons (w_var 1 (f := (tP2 K tI tI)) (v := whole)) a_nil)) (fun _ => ⟨rfl, rfl, trivial⟩))) (a_cons (EW.imp (f := fun z : Int × Int × Unit => tT K ((fun z : Int × Int × Unit => [tI z.1, tI z.2.1]) z)) (w_tup (F := fun z : Int × Int × Unit => [tI z.1, tI z.2.1]) (a_cons (w_ixT (F := fun q : (Int × Int) => [tI q.1, tI q.2]) (g := tI) (fun z => z.2) (w_var 2 (f := (tP2 K tI tI)) (v := top))) (a_cons (w_ixT (F := fun q : (Int × Int) => [tI q.1, tI q.2]) (g := tI) (fun z => z.1) (w_var 2 (f := (tP2 K tI tI)) (v := top))) a_nil))) (fun z => (z.1, z.2.1)) fun _ _ _ h => h) a_nil)) (fun _ => ⟨rfl, rfl, trivial⟩))) a_nil))) (fun z => (z.1, z.2.1)) fun _ _ _ h => h)))⟩) hk_id (gl := by exact ⟨rfl, rfl, rfl, trivial⟩))
@[local irreducible] def w_l_less (one : (Int × Int)) (other : (Int × Int)) (Q : Bool → Prop) (E : Er → Prop) : Prop :=
  W.run (W.bind (W.grd (IntMulOk one.1 other.2) (one.1 * other.2)) fun z => W.bind (W.grd (IntMulOk other.1 one.2) (other.1 * one.2)) fun z_1 => W.ret (decide (z < z_1))) E Q
theorem ok_l_less (c : Ct P K mg) : GF P w K mg base "_law_less" 1 ["_law_one", "_law_other"] (spW K (fun d : (Int × Int) × (Int × Int) => [.b ((tP2 K tI tI) d.1).b, .b ((tP2 K tI tI) d.2).b]) (fun d => w_l_less d.1 d.2) (fun r : Bool => .v (OT.tB r)) (fun _ => [])) := by
  refine gf_mkA (fd_l_less c) (fun _ F => bd_l_less F) (glo_l_less c) fun fd F => def_ok F sc_l_less (fun d vs L => [some ((tP2 K tI tI) d.1), some ((tP2 K tI tI) d.2)]) (fun _ _ => []) (fun _ _ _ => []) ?_ (by intro _; rfl) (fun d vs L hv => match vs, hv with | [_, _], _ => rfl) (fun d vs hv => match vs, hv with | [_, _], _ => rfl) (fun d vs r hv => match vs, hv with | [_, _], _ => rfl)
  rintro cdv A outer s' H0 L S Q0 E0' ⟨one, other⟩ vs Q E hv nd hr fin hdQ
  have tk := (hdQ [] _ (List.Sublist.refl _)).tk
  have hd : ∀ Γ O, Hd _ _ Γ O E _ := fun Γ O => hdQ Γ O (List.nil_sublist _)
  have po : PassesOwn (model P w) _ _ _ := @own_cx P w K mg base "_law_less" (defScope s_l_less) (He.ga K "_law_less") ["_law_one", "_law_other"] cdv A outer s' H0 E0'
  show SW _ _ _ _ _ _ (w_l_less one other Q E)
  unfold w_l_less
  exact f_ret (f := OT.tB) fin (w_lt (w_mul (w_ixT (F := fun q : (Int × Int) => [tI q.1, tI q.2]) (g := tI) (fun z => z.1) (w_var 0 (f := (tP2 K tI tI)) (v := one))) (w_ixT (F := fun q : (Int × Int) => [tI q.1, tI q.2]) (g := tI) (fun z => z.2) (w_var 1 (f := (tP2 K tI tI)) (v := other)))) (w_mul (w_ixT (F := fun q : (Int × Int) => [tI q.1, tI q.2]) (g := tI) (fun z => z.1) (w_var 1 (f := (tP2 K tI tI)) (v := other))) (w_ixT (F := fun q : (Int × Int) => [tI q.1, tI q.2]) (g := tI) (fun z => z.2) (w_var 0 (f := (tP2 K tI tI)) (v := one)))))
@[local irreducible] def w_l_due (first : (List (Dz × (Int × Int)))) (second : (List (Dz × (Int × Int)))) (Q : (List Dz) → Prop) (E : Er → Prop) : Prop :=
  W.run (W.bind (w_l_sum first) fun z => W.bind (w_l_sum second) fun z_1 => W.ret (!decide (z = z_1))) E fun b => W.ite b
    (W.run (W.bind (W.bind (w_l_sum second) fun z_2 => W.ret ((fun q : (Int × Int) => Dz.t [Dz.i q.1, Dz.i q.2]) z_2)) fun z_3 => W.ret [(Dz.s ("shares" : Str)), z_3]) E Q)
    (W.run (W.bind (W.compP (fun _ : (Dz × (Int × Int)) => true) (fun row_here : (Dz × (Int × Int)) => [row_here.1, Dz.t [Dz.i row_here.2.1, Dz.i row_here.2.2]]) first) fun z_4 => W.bind (W.compP (fun _ : (Dz × (Int × Int)) => true) (fun row_here_1 : (Dz × (Int × Int)) => [row_here_1.1, Dz.t [Dz.i row_here_1.2.1, Dz.i row_here_1.2.2]]) second) fun z_5 => W.ret (z_4, z_5)) E fun t => ∀ u_left u_right : V,
  W.lt ([] : (List (Dz × Dz × (Int × Int)))) fun found : (List (Dz × Dz × (Int × Int))) =>
  W.run (W.grd (RgOk ((first.length : Int) + (second.length : Int))) (rng 0 ((first.length : Int) + (second.length : Int)))) E fun xs => W.loop (fun turn (st : (List (Dz × Dz × (Int × Int))) × (V × (List (List Dz))) × (V × (List (List Dz)))) kn =>
    W.run (W.ret ((!(st.2.1.2).isEmpty) && (!(st.2.2.2).isEmpty))) E fun b => W.ite b
    (W.run (W.bind (W.bind (W.bind (fun Q _ => ∃ l ls y, st.2.1.2 = l :: ls ∧ atI l (1 : Int) = some y ∧ Q y) fun d => fun P _ => ∃ x, d = (fun q : (Int × Int) => Dz.t [Dz.i q.1, Dz.i q.2]) x ∧ P x) fun z_6 => W.bind (W.bind (fun Q _ => ∃ l ls y, st.2.2.2 = l :: ls ∧ atI l (1 : Int) = some y ∧ Q y) fun d => fun P _ => ∃ x, d = (fun q : (Int × Int) => Dz.t [Dz.i q.1, Dz.i q.2]) x ∧ P x) fun z_7 => w_l_less z_6 z_7) fun z_8 => W.sel z_8 (W.bind (fun Q _ => ∃ l ls y, st.2.1.2 = l :: ls ∧ atI l (1 : Int) = some y ∧ Q y) fun d => fun P _ => ∃ x, d = (fun q : (Int × Int) => Dz.t [Dz.i q.1, Dz.i q.2]) x ∧ P x) (W.bind (fun Q _ => ∃ l ls y, st.2.2.2 = l :: ls ∧ atI l (1 : Int) = some y ∧ Q y) fun d => fun P _ => ∃ x, d = (fun q : (Int × Int) => Dz.t [Dz.i q.1, Dz.i q.2]) x ∧ P x)) E fun part =>
  W.run (W.bind (W.bind (fun Q _ => ∃ l ls y, st.2.1.2 = l :: ls ∧ atI l (0 : Int) = some y ∧ Q y) fun z_9 => W.bind (fun Q _ => ∃ l ls y, st.2.2.2 = l :: ls ∧ atI l (0 : Int) = some y ∧ Q y) fun z_10 => W.ret (z_9, z_10, part)) fun z_11 => W.grd (st.1.length < 100000) z_11) E fun a0 =>
  W.run (W.ret ([0, 1] : List (_root_.Fin 2))) E fun xs => W.loop (fun side (st_1 : (List (List Dz)) × (List (List Dz))) kn_1 =>
    W.two side (W.run (W.bind (W.bind (W.bind (fun Q _ => ∃ l ls y, st_1.1 = l :: ls ∧ atI l (1 : Int) = some y ∧ Q y) fun d => fun P _ => ∃ x, d = (fun q : (Int × Int) => Dz.t [Dz.i q.1, Dz.i q.2]) x ∧ P x) fun z_12 => w_l_add z_12 ((-part.1), part.2)) fun z_13 => W.ret ((fun q : (Int × Int) => Dz.t [Dz.i q.1, Dz.i q.2]) z_13)) E fun z_14 => ∃ l ls j, st_1.1 = l :: ls ∧ ixN l.length (1 : Int) = some j ∧ (fun ys => kn_1 (ys, st_1.2)) (l.set j z_14 :: ls)) (W.run (W.bind (W.bind (W.bind (fun Q _ => ∃ l ls y, st_1.2 = l :: ls ∧ atI l (1 : Int) = some y ∧ Q y) fun d => fun P _ => ∃ x, d = (fun q : (Int × Int) => Dz.t [Dz.i q.1, Dz.i q.2]) x ∧ P x) fun z_15 => w_l_add z_15 ((-part.1), part.2)) fun z_16 => W.ret ((fun q : (Int × Int) => Dz.t [Dz.i q.1, Dz.i q.2]) z_16)) E fun z_17 => ∃ l ls j, st_1.2 = l :: ls ∧ ixN l.length (1 : Int) = some j ∧ (fun ys_1 => kn_1 (st_1.1, ys_1)) (l.set j z_17 :: ls)))
    (fun st_1 : (List (List Dz)) × (List (List Dz)) => W.run (W.bind (W.bind (W.bind (W.bind (fun Q _ => ∃ l ls y, st_1.1 = l :: ls ∧ atI l (1 : Int) = some y ∧ Q y) fun d => fun P _ => ∃ x, d = (fun q : (Int × Int) => Dz.t [Dz.i q.1, Dz.i q.2]) x ∧ P x) fun z_18 => W.ret z_18.1) fun z_19 => W.ret (decide (z_19 = (0 : Int)))) fun z_20 => W.ret (if z_20 then (1 : Int) else 0)) E fun a0_1 => ∃ j : Nat, a0_1 = (j : Int) ∧ j ≤ st_1.1.length ∧ ∀ u_left_1 : V, (fun left_1 => W.run (W.bind (W.bind (W.bind (W.bind (fun Q _ => ∃ l ls y, st_1.2 = l :: ls ∧ atI l (1 : Int) = some y ∧ Q y) fun d => fun P _ => ∃ x, d = (fun q : (Int × Int) => Dz.t [Dz.i q.1, Dz.i q.2]) x ∧ P x) fun z_21 => W.ret z_21.1) fun z_22 => W.ret (decide (z_22 = (0 : Int)))) fun z_23 => W.ret (if z_23 then (1 : Int) else 0)) E fun a0_2 => ∃ j : Nat, a0_2 = (j : Int) ∧ j ≤ st_1.2.length ∧ ∀ u_right_1 : V, (fun right_1 => kn (st.1 ++ [a0], (u_left_1, left_1), (u_right_1, right_1))) (st_1.2.drop j)) (st_1.1.drop j)) xs (st.2.1.2, st.2.2.2))
    (kn (st.1, (st.2.1.1, st.2.1.2), (st.2.2.1, st.2.2.2))))
    (fun st : (List (Dz × Dz × (Int × Int))) × (V × (List (List Dz))) × (V × (List (List Dz))) => W.run (W.ret [(Dz.s ("told" : Str)), ((fun xs : (List (Dz × Dz × (Int × Int))) => Dz.l (xs.map (fun q : (Dz × Dz × (Int × Int)) => Dz.t [(fun z : Dz => z) q.1, (fun z : Dz => z) q.2.1, (fun q : (Int × Int) => Dz.t [Dz.i q.1, Dz.i q.2]) q.2.2]))) st.1)]) E Q) xs (found, (u_left, t.1), (u_right, t.2)))
theorem ok_l_due (c : Ct P K mg) : GF P w K mg base "_law_due" 4 ["_law_first", "_law_second"] (spW K (fun d : (List (Dz × (Int × Int))) × (List (Dz × (Int × Int))) => [.b (rL (tP2 K (tDz K) (tP2 K tI tI)) d.1), .b (rL (tP2 K (tDz K) (tP2 K tI tI)) d.2)]) (fun d => w_l_due d.1 d.2) (fun r : (List Dz) => .o ((oLs (tDz K)) r)) (fun _ => [])) := by
  refine gf_mkA (fd_l_due c) (fun _ F => bd_l_due F) (glo_l_due c) fun fd F => def_ok F sc_l_due (fun d vs L => [some ((rL (tP2 K (tDz K) (tP2 K tI tI)) d.1).at_ L), some ((rL (tP2 K (tDz K) (tP2 K tI tI)) d.2).at_ L), none, none, none, none, none, none, none]) (fun _ _ => []) (fun _ _ _ => []) ?_ (by intro _; rfl) (fun d vs L hv => match vs, hv with | [_, _], _ => rfl) (fun d vs hv => match vs, hv with | [_, _], _ => rfl) (fun d vs r hv => match vs, hv with | [_, _], _ => rfl)
  rintro cdv A outer s' H0 L S Q0 E0' ⟨first, second⟩ vs Q E hv nd hr fin hdQ
  have tk := (hdQ [] _ (List.Sublist.refl _)).tk
  have hd : ∀ Γ O, Hd _ _ Γ O E _ := fun Γ O => hdQ Γ O (List.nil_sublist _)
  have po : PassesOwn (model P w) _ _ _ := @own_cx P w K mg base "_law_due" (defScope s_l_due) (He.ga K "_law_due") ["_law_first", "_law_second", "_law_left", "_law_right", "_law_row_here", "_law_found", "_law_turn", "_law_part", "_law_side"] cdv A outer s' H0 E0'
  show SW _ _ _ _ _ _ (w_l_due first second Q E)
  unfold w_l_due
  refine s_if (t_neM (cmp_P en_int en_int) (hr.mono (by decide)) (EW.rb (EW.at (w_l_sum first) (w_fn (f := (tP2 K tI tI)) (ok_l_sum c) (hr.mono (by decide)) (hd _ _) (fun t => t.1) (a_consR (r_lent 0 (f := rL (tP2 K (tDz K) (tP2 K tI tI))) (v := first)) a_nil) (fun _ => ⟨rfl, trivial⟩)))) (RW.rn (EW.rb (EW.at (w_l_sum second) (w_fn (f := (tP2 K tI tI)) (ok_l_sum c) (hr.mono (by decide)) (hd _ _) (fun t => t.1) (a_consR (r_lent 1 (f := rL (tP2 K (tDz K) (tP2 K tI tI))) (v := second)) a_nil) (fun _ => ⟨rfl, trivial⟩)))))) ?_ ?_
  · exact f_retN (f := (oLs (tDz K))) fin (NW.imp (n_lst (F := fun z : Dz × Dz × Unit => [(tDz K) z.1, (tDz K) z.2.1]) (a_cons (w_dz (g := Dz.s) zc_str (w_str (i := ("shares" : Str)))) (a_cons (w_dz (g := (fun q : (Int × Int) => Dz.t [Dz.i q.1, Dz.i q.2])) (zc_p2 zc_int zc_int) (EW.at (w_l_sum second) (w_fn (f := (tP2 K tI tI)) (ok_l_sum c) (hr.mono (by decide)) (hd _ _) (fun t => t.1) (a_consR (r_lent 1 (f := rL (tP2 K (tDz K) (tP2 K tI tI))) (v := second)) a_nil) (fun _ => ⟨rfl, trivial⟩)))) a_nil))) (g := oLs (tDz K)) (fun z => [z.1, z.2.1]) fun _ => rfl)
  · refine s_skip ?_
    refine SW.gam ([some ((rL (tP2 K (tDz K) (tP2 K tI tI)) first).at_ L), some ((rL (tP2 K (tDz K) (tP2 K tI tI)) second).at_ L), none, none, none, none, none, none, none]) ?_
    refine s_parN (i := 2) (j := 3) (F := (oLL (tDz K))) (G := (oLL (tDz K))) (n_comp [("_law_row_here", 4)] (F := (oLs (tDz K))) (f := (tP2 K (tDz K) (tP2 K tI tI))) [some ((rL (tP2 K (tDz K) (tP2 K tI tI)) first).at_ L), some ((rL (tP2 K (tDz K) (tP2 K tI tI)) second).at_ L), none, none, none, none, none, none, none] (i_lst (f := (tP2 K (tDz K) (tP2 K tI tI))) (r_lent 0 (f := rL (tP2 K (tDz K) (tP2 K tI tI))) (v := first))) (fun row_here => [some ((rL (tP2 K (tDz K) (tP2 K tI tI)) first).at_ L), some ((rL (tP2 K (tDz K) (tP2 K tI tI)) second).at_ L), none, none, some ((tP2 K (tDz K) (tP2 K tI tI)) row_here), none, none, none, none]) [4] (fun G m row_here s2 H2 C2 cl2 fp2 => ⟨(g_name (j := 4)), if_none, (n_list (f := tDz K) (free_list c) (RW.rn (RW.tq (EW.rt (EW.at (W.ret ([row_here.1, Dz.t [Dz.i row_here.2.1, Dz.i row_here.2.2]])) (EW.imp (f := (tP2 K (tDz K) (tP2 K tI tI))) (g := tTs K (tDz K)) (w_var 4 (f := (tP2 K (tDz K) (tP2 K tI tI))) (v := row_here)) (fun z => [z.1, Dz.t [Dz.i z.2.1, Dz.i z.2.2]]) fun _ _ _ h => h))))))⟩) (hk_plain (c := fun _ : (Dz × (Int × Int)) => true) (g := fun row_here : (Dz × (Int × Int)) => [row_here.1, Dz.t [Dz.i row_here.2.1, Dz.i row_here.2.2]])) (gl := by exact ⟨rfl, rfl, trivial⟩)) (fun m => (n_comp [("_law_row_here", 4)] (F := (oLs (tDz K))) (f := (tP2 K (tDz K) (tP2 K tI tI))) [some ((rL (tP2 K (tDz K) (tP2 K tI tI)) first).at_ L), some ((rL (tP2 K (tDz K) (tP2 K tI tI)) second).at_ L), none, none, none, none, none, none, none] (i_lst (f := (tP2 K (tDz K) (tP2 K tI tI))) (r_lent 1 (f := rL (tP2 K (tDz K) (tP2 K tI tI))) (v := second))) (fun row_here_1 => [some ((rL (tP2 K (tDz K) (tP2 K tI tI)) first).at_ L), some ((rL (tP2 K (tDz K) (tP2 K tI tI)) second).at_ L), none, none, some ((tP2 K (tDz K) (tP2 K tI tI)) row_here_1), none, none, none, none]) [4] (fun G m row_here_1 s2 H2 C2 cl2 fp2 => ⟨(g_name (j := 4)), if_none, (n_list (f := tDz K) (free_list c) (RW.rn (RW.tq (EW.rt (EW.at (W.ret ([row_here_1.1, Dz.t [Dz.i row_here_1.2.1, Dz.i row_here_1.2.2]])) (EW.imp (f := (tP2 K (tDz K) (tP2 K tI tI))) (g := tTs K (tDz K)) (w_var 4 (f := (tP2 K (tDz K) (tP2 K tI tI))) (v := row_here_1)) (fun z => [z.1, Dz.t [Dz.i z.2.1, Dz.i z.2.2]]) fun _ _ _ h => h))))))⟩) (hk_plain (c := fun _ : (Dz × (Int × Int)) => true) (g := fun row_here_1 : (Dz × (Int × Int)) => [row_here_1.1, Dz.t [Dz.i row_here_1.2.1, Dz.i row_here_1.2.2]])) (gl := by exact ⟨rfl, rfl, trivial⟩))) fun t u_left u_right => ?_
    refine SW.gam ([some ((rL (tP2 K (tDz K) (tP2 K tI tI)) first).at_ L), some ((rL (tP2 K (tDz K) (tP2 K tI tI)) second).at_ L), some (tV u_left), some (tV u_right), none, none, none, none, none]) ?_
    refine s_setNV (Z := E) (i := 5) (f := (oLs (tP3 K (tDz K) (tDz K) (tP2 K tI tI)))) (v := ([] : (List (Dz × Dz × (Int × Int))))) (n_nil (f := (tP3 K (tDz K) (tDz K) (tP2 K tI tI)))) fun u_found found hq_found => ?_
    refine SW.gam ([some ((rL (tP2 K (tDz K) (tP2 K tI tI)) first).at_ L), some ((rL (tP2 K (tDz K) (tP2 K tI tI)) second).at_ L), some (tV u_left), some (tV u_right), none, some (tV u_found), none, none, none]) ?_
    refine s_for (f := tI) (fun st : (List (Dz × Dz × (Int × Int))) × (V × (List (List Dz))) × (V × (List (List Dz))) => [some ((rL (tP2 K (tDz K) (tP2 K tI tI)) first).at_ L), some ((rL (tP2 K (tDz K) (tP2 K tI tI)) second).at_ L), some (tV st.2.1.1), some (tV st.2.2.1), none, some (tV u_found), none, none, none]) (fun st : (List (Dz × Dz × (Int × Int))) × (V × (List (List Dz))) × (V × (List (List Dz))) => [(u_found, (oLs (tP3 K (tDz K) (tDz K) (tP2 K tI tI))) st.1), (st.2.2.1, (oLL (tDz K)) st.2.2.2), (st.2.1.1, (oLL (tDz K)) st.2.1.2)]) (found, (u_left, t.1), (u_right, t.2)) (i_range1 (free_range c) (w_add (w_len (free_len c) (f := (tP2 K (tDz K) (tP2 K tI tI))) (RW.rn (RW.q (r_lent 0 (f := rL (tP2 K (tDz K) (tP2 K tI tI))) (v := first))))) (w_len (free_len c) (f := (tP2 K (tDz K) (tP2 K tI tI))) (RW.rn (RW.q (r_lent 1 (f := rL (tP2 K (tDz K) (tP2 K tI tI))) (v := second))))))) (fun turn (st : (List (Dz × Dz × (Int × Int))) × (V × (List (List Dz))) × (V × (List (List Dz)))) => [some ((rL (tP2 K (tDz K) (tP2 K tI tI)) first).at_ L), some ((rL (tP2 K (tDz K) (tP2 K tI tI)) second).at_ L), some (tV st.2.1.1), some (tV st.2.2.1), none, some (tV u_found), some (tI turn), none, none]) [6] (fun G turn st => (g_name (j := 6))) (fun G turn st kn => ?_) (fun st => ?_) po (gl := by exact ⟨rfl, rfl, rfl, rfl, rfl, trivial⟩)
    · refine SW.gam ([some ((rL (tP2 K (tDz K) (tP2 K tI tI)) first).at_ L), some ((rL (tP2 K (tDz K) (tP2 K tI tI)) second).at_ L), some (tV st.2.1.1), some (tV st.2.2.1), none, some (tV u_found), some (tI turn), none, none]) ?_
      refine s_if (TC.t (tc_andP (TW.at (W.ret (!(st.2.1.2).isEmpty)) (t_neNilLL (hr.mono (by decide)) (r_own 2 2 (f := bLL (tDz K)) (v := st.2.1.2) lend_LL) (RW.rn (EW.rl (EW.at (W.ret ([] : (List (List Dz)))) (NW.settle (g := (tLs K (tLs K (tDz K)))) (n_nil (f := (tLs K (tDz K)))) fun _ => stl_Ls)))))) (tc_and1 (TW.at (W.ret (!(st.2.2.2).isEmpty)) (t_neNilLL (hr.mono (by decide)) (r_own 1 3 (f := bLL (tDz K)) (v := st.2.2.2) lend_LL) (RW.rn (EW.rl (EW.at (W.ret ([] : (List (List Dz)))) (NW.settle (g := (tLs K (tLs K (tDz K)))) (n_nil (f := (tLs K (tDz K)))) fun _ => stl_Ls))))))))) ?_ ?_
      · refine SW.gam ([some ((rL (tP2 K (tDz K) (tP2 K tI tI)) first).at_ L), some ((rL (tP2 K (tDz K) (tP2 K tI tI)) second).at_ L), some (tV st.2.1.1), some (tV st.2.2.1), none, some (tV u_found), some (tI turn), none, none]) ?_
        refine s_set (i := 7) (f := (tP2 K tI tI)) (g_if (t_val (EW.at (W.bind (W.bind (fun Q _ => ∃ l ls y, st.2.1.2 = l :: ls ∧ atI l (1 : Int) = some y ∧ Q y) fun d => fun P _ => ∃ x, d = (fun q : (Int × Int) => Dz.t [Dz.i q.1, Dz.i q.2]) x ∧ P x) fun z_6 => W.bind (W.bind (fun Q _ => ∃ l ls y, st.2.2.2 = l :: ls ∧ atI l (1 : Int) = some y ∧ Q y) fun d => fun P _ => ∃ x, d = (fun q : (Int × Int) => Dz.t [Dz.i q.1, Dz.i q.2]) x ∧ P x) fun z_7 => w_l_less z_6 z_7) (w_fn (f := OT.tB) (ok_l_less c) (hr.mono (by decide)) (Hd.add (hd _ _)) (fun t => (t.1, t.2.1)) (a_cons (w_dzAs (g := (fun q : (Int × Int) => Dz.t [Dz.i q.1, Dz.i q.2])) (di_p2 di_int di_int) (w_ixLL (i := 2) (kk := 2) (f := (tDz K)) (xss := st.2.1.2))) (a_cons (w_dzAs (g := (fun q : (Int × Int) => Dz.t [Dz.i q.1, Dz.i q.2])) (di_p2 di_int di_int) (w_ixLL (i := 3) (kk := 1) (f := (tDz K)) (xss := st.2.2.2))) a_nil)) (fun _ => ⟨rfl, rfl, trivial⟩)))) (w_dzAs (g := (fun q : (Int × Int) => Dz.t [Dz.i q.1, Dz.i q.2])) (di_p2 di_int di_int) (w_ixLL (i := 2) (kk := 2) (f := (tDz K)) (xss := st.2.1.2))) (w_dzAs (g := (fun q : (Int × Int) => Dz.t [Dz.i q.1, Dz.i q.2])) (di_p2 di_int di_int) (w_ixLL (i := 3) (kk := 1) (f := (tDz K)) (xss := st.2.2.2)))) fun part => ?_
        refine SW.gam ([some ((rL (tP2 K (tDz K) (tP2 K tI tI)) first).at_ L), some ((rL (tP2 K (tDz K) (tP2 K tI tI)) second).at_ L), some (tV st.2.1.1), some (tV st.2.2.1), none, some (tV u_found), some (tI turn), some ((tP2 K tI tI) part), none]) ?_
        refine s_append (i := 5) (F := fun y => MP.o ((tP3 K (tDz K) (tDz K) (tP2 K tI tI)) y)) (EW.n (EW.at (W.bind (fun Q _ => ∃ l ls y, st.2.1.2 = l :: ls ∧ atI l (0 : Int) = some y ∧ Q y) fun z_9 => W.bind (fun Q _ => ∃ l ls y, st.2.2.2 = l :: ls ∧ atI l (0 : Int) = some y ∧ Q y) fun z_10 => W.ret (z_9, z_10, part)) (EW.imp (f := fun z : Dz × Dz × (Int × Int) × Unit => tT K ((fun z : Dz × Dz × (Int × Int) × Unit => [(tDz K) z.1, (tDz K) z.2.1, (tP2 K tI tI) z.2.2.1]) z)) (w_tup (F := fun z : Dz × Dz × (Int × Int) × Unit => [(tDz K) z.1, (tDz K) z.2.1, (tP2 K tI tI) z.2.2.1]) (a_cons (w_ixLL (i := 2) (kk := 2) (f := (tDz K)) (xss := st.2.1.2)) (a_cons (w_ixLL (i := 3) (kk := 1) (f := (tDz K)) (xss := st.2.2.2)) (a_cons (w_var 7 (f := (tP2 K tI tI)) (v := part)) a_nil)))) (fun z => (z.1, z.2.1, z.2.2.1)) fun _ _ _ h => h))) fun a0 => ?_
        refine SW.gam ([some ((rL (tP2 K (tDz K) (tP2 K tI tI)) first).at_ L), some ((rL (tP2 K (tDz K) (tP2 K tI tI)) second).at_ L), some (tV st.2.1.1), some (tV st.2.2.1), none, some (tV u_found), some (tI turn), some ((tP2 K tI tI) part), none]) ?_
        refine s_for (f := (fun i : _root_.Fin 2 => tV (([st.2.1.1, st.2.2.1] : List V).get i))) (fun st_1 : (List (List Dz)) × (List (List Dz)) => [some ((rL (tP2 K (tDz K) (tP2 K tI tI)) first).at_ L), some ((rL (tP2 K (tDz K) (tP2 K tI tI)) second).at_ L), some (tV st.2.1.1), some (tV st.2.2.1), none, some (tV u_found), some (tI turn), some ((tP2 K tI tI) part), none]) (fun st_1 : (List (List Dz)) × (List (List Dz)) => [(u_found, (oLs (tP3 K (tDz K) (tDz K) (tP2 K tI tI))) (st.1 ++ [a0])), (st.2.2.1, (oLL (tDz K)) st_1.2), (st.2.1.1, (oLL (tDz K)) st_1.1)]) (st.2.1.2, st.2.2.2) (IW.re (g := (fun i : _root_.Fin 2 => tV (([st.2.1.1, st.2.2.1] : List V).get i))) (ys := ([0, 1] : List (_root_.Fin 2))) (i_lst (f := tV) (EW.rl (EW.at (W.ret [st.2.1.1, st.2.2.1]) (NW.settle (g := (tLs K tV)) (NW.at (W.ret [st.2.1.1, st.2.2.1]) (NW.imp (n_lst (F := fun z : Unit × Unit × Unit => [tV st.2.1.1, tV st.2.2.1]) (a_cons (w_var 2 (f := fun _ : Unit => tV st.2.1.1) (v := ())) (a_cons (w_var 3 (f := fun _ : Unit => tV st.2.2.1) (v := ())) a_nil))) (g := oLs tV) (fun z => [st.2.1.1, st.2.2.1]) fun _ => rfl)) fun _ => stl_Ls)))) rfl) (fun side (st_1 : (List (List Dz)) × (List (List Dz))) => [some ((rL (tP2 K (tDz K) (tP2 K tI tI)) first).at_ L), some ((rL (tP2 K (tDz K) (tP2 K tI tI)) second).at_ L), some (tV st.2.1.1), some (tV st.2.2.1), none, some (tV u_found), some (tI turn), some ((tP2 K tI tI) part), some ((fun i : _root_.Fin 2 => tV (([st.2.1.1, st.2.2.1] : List V).get i)) side)]) [8] (fun G side st_1 => (g_name (j := 8))) (fun G side st_1 kn_1 => ?_) (fun st_1 => ?_) po (gl := by exact ⟨rfl, rfl, rfl, rfl, rfl, rfl, rfl, trivial⟩)
        · refine SW.gam ([some ((rL (tP2 K (tDz K) (tP2 K tI tI)) first).at_ L), some ((rL (tP2 K (tDz K) (tP2 K tI tI)) second).at_ L), some (tV st.2.1.1), some (tV st.2.2.1), none, some (tV u_found), some (tI turn), some ((tP2 K tI tI) part), some ((fun i : _root_.Fin 2 => tV (([st.2.1.1, st.2.2.1] : List V).get i)) side)]) ?_
          refine SW.two (j := side) (G := (fun jj => [some ((rL (tP2 K (tDz K) (tP2 K tI tI)) first).at_ L), some ((rL (tP2 K (tDz K) (tP2 K tI tI)) second).at_ L), some (tV st.2.1.1), some (tV st.2.2.1), none, some (tV u_found), some (tI turn), some ((tP2 K tI tI) part), some ((fun i : _root_.Fin 2 => tV (([st.2.1.1, st.2.2.1] : List V).get i)) jj)])) ?_ ?_
          · refine SW.gam ([some ((rL (tP2 K (tDz K) (tP2 K tI tI)) first).at_ L), some ((rL (tP2 K (tDz K) (tP2 K tI tI)) second).at_ L), some (tV st.2.1.1), some (tV st.2.2.1), none, some (tV u_found), some (tI turn), some ((tP2 K tI tI) part), some (tV st.2.1.1)]) ?_
            refine SW.front 2 ?_
            refine s_setLL (i := 8) (f := (tDz K)) (xss := st_1.1) (q := fun ys => kn_1 (ys, st_1.2)) (EW.at (W.bind (W.bind (W.bind (fun Q _ => ∃ l ls y, st_1.1 = l :: ls ∧ atI l (1 : Int) = some y ∧ Q y) fun d => fun P _ => ∃ x, d = (fun q : (Int × Int) => Dz.t [Dz.i q.1, Dz.i q.2]) x ∧ P x) fun z_12 => w_l_add z_12 ((-part.1), part.2)) fun z_13 => W.ret ((fun q : (Int × Int) => Dz.t [Dz.i q.1, Dz.i q.2]) z_13)) (w_dz (g := (fun q : (Int × Int) => Dz.t [Dz.i q.1, Dz.i q.2])) (zc_p2 zc_int zc_int) (EW.at (W.bind (W.bind (fun Q _ => ∃ l ls y, st_1.1 = l :: ls ∧ atI l (1 : Int) = some y ∧ Q y) fun d => fun P _ => ∃ x, d = (fun q : (Int × Int) => Dz.t [Dz.i q.1, Dz.i q.2]) x ∧ P x) fun z_12 => w_l_add z_12 ((-part.1), part.2)) (w_fn (f := (tP2 K tI tI)) (ok_l_add c) (hr.mono (by decide)) (Hd.add (Hd.add (hd _ _))) (fun t => (t.1, t.2.1)) (a_cons (w_dzAs (g := (fun q : (Int × Int) => Dz.t [Dz.i q.1, Dz.i q.2])) (di_p2 di_int di_int) (w_ixLL (i := 8) (kk := 0) (f := (tDz K)) (xss := st_1.1))) (a_cons (EW.imp (f := fun z : Int × Int × Unit => tT K ((fun z : Int × Int × Unit => [tI z.1, tI z.2.1]) z)) (w_tup (F := fun z : Int × Int × Unit => [tI z.1, tI z.2.1]) (a_cons (w_neg (w_ixT (F := fun q : (Int × Int) => [tI q.1, tI q.2]) (g := tI) (fun z => z.1) (w_var 7 (f := (tP2 K tI tI)) (v := part)))) (a_cons (w_ixT (F := fun q : (Int × Int) => [tI q.1, tI q.2]) (g := tI) (fun z => z.2) (w_var 7 (f := (tP2 K tI tI)) (v := part))) a_nil))) (fun z => (z.1, z.2.1)) fun _ _ _ h => h) a_nil)) (fun _ => ⟨rfl, rfl, trivial⟩))))) fun ys => ?_
            refine SW.front 0 ?_
            refine SW.front 2 ?_
            refine SW.front 2 ?_
            exact s_nil (k := _) (ys, st_1.2) (g := by exact ⟨rfl, rfl, rfl, rfl, rfl, rfl, rfl, trivial⟩)
          · refine SW.gam ([some ((rL (tP2 K (tDz K) (tP2 K tI tI)) first).at_ L), some ((rL (tP2 K (tDz K) (tP2 K tI tI)) second).at_ L), some (tV st.2.1.1), some (tV st.2.2.1), none, some (tV u_found), some (tI turn), some ((tP2 K tI tI) part), some (tV st.2.2.1)]) ?_
            refine SW.front 1 ?_
            refine s_setLL (i := 8) (f := (tDz K)) (xss := st_1.2) (q := fun ys_1 => kn_1 (st_1.1, ys_1)) (EW.at (W.bind (W.bind (W.bind (fun Q _ => ∃ l ls y, st_1.2 = l :: ls ∧ atI l (1 : Int) = some y ∧ Q y) fun d => fun P _ => ∃ x, d = (fun q : (Int × Int) => Dz.t [Dz.i q.1, Dz.i q.2]) x ∧ P x) fun z_15 => w_l_add z_15 ((-part.1), part.2)) fun z_16 => W.ret ((fun q : (Int × Int) => Dz.t [Dz.i q.1, Dz.i q.2]) z_16)) (w_dz (g := (fun q : (Int × Int) => Dz.t [Dz.i q.1, Dz.i q.2])) (zc_p2 zc_int zc_int) (EW.at (W.bind (W.bind (fun Q _ => ∃ l ls y, st_1.2 = l :: ls ∧ atI l (1 : Int) = some y ∧ Q y) fun d => fun P _ => ∃ x, d = (fun q : (Int × Int) => Dz.t [Dz.i q.1, Dz.i q.2]) x ∧ P x) fun z_15 => w_l_add z_15 ((-part.1), part.2)) (w_fn (f := (tP2 K tI tI)) (ok_l_add c) (hr.mono (by decide)) (Hd.add (Hd.add (hd _ _))) (fun t => (t.1, t.2.1)) (a_cons (w_dzAs (g := (fun q : (Int × Int) => Dz.t [Dz.i q.1, Dz.i q.2])) (di_p2 di_int di_int) (w_ixLL (i := 8) (kk := 0) (f := (tDz K)) (xss := st_1.2))) (a_cons (EW.imp (f := fun z : Int × Int × Unit => tT K ((fun z : Int × Int × Unit => [tI z.1, tI z.2.1]) z)) (w_tup (F := fun z : Int × Int × Unit => [tI z.1, tI z.2.1]) (a_cons (w_neg (w_ixT (F := fun q : (Int × Int) => [tI q.1, tI q.2]) (g := tI) (fun z => z.1) (w_var 7 (f := (tP2 K tI tI)) (v := part)))) (a_cons (w_ixT (F := fun q : (Int × Int) => [tI q.1, tI q.2]) (g := tI) (fun z => z.2) (w_var 7 (f := (tP2 K tI tI)) (v := part))) a_nil))) (fun z => (z.1, z.2.1)) fun _ _ _ h => h) a_nil)) (fun _ => ⟨rfl, rfl, trivial⟩))))) fun ys_1 => ?_
            refine SW.front 2 ?_
            refine SW.front 1 ?_
            refine SW.front 2 ?_
            exact s_nil (k := _) (st_1.1, ys_1) (g := by exact ⟨rfl, rfl, rfl, rfl, rfl, rfl, rfl, trivial⟩)
        · refine SW.gam ([some ((rL (tP2 K (tDz K) (tP2 K tI tI)) first).at_ L), some ((rL (tP2 K (tDz K) (tP2 K tI tI)) second).at_ L), some (tV st.2.1.1), some (tV st.2.2.1), none, some (tV u_found), some (tI turn), some ((tP2 K tI tI) part), none]) ?_
          refine SW.front 2 ?_
          refine s_slLL (i := 2) (f := (tDz K)) (xss := st_1.1) (q := fun u_left_1 left_1 => W.run (W.bind (W.bind (W.bind (W.bind (fun Q _ => ∃ l ls y, st_1.2 = l :: ls ∧ atI l (1 : Int) = some y ∧ Q y) fun d => fun P _ => ∃ x, d = (fun q : (Int × Int) => Dz.t [Dz.i q.1, Dz.i q.2]) x ∧ P x) fun z_21 => W.ret z_21.1) fun z_22 => W.ret (decide (z_22 = (0 : Int)))) fun z_23 => W.ret (if z_23 then (1 : Int) else 0)) E fun a0_2 => ∃ j : Nat, a0_2 = (j : Int) ∧ j ≤ st_1.2.length ∧ ∀ u_right_1 : V, (fun right_1 => kn (st.1 ++ [a0], (u_left_1, left_1), (u_right_1, right_1))) (st_1.2.drop j)) (EW.at (W.bind (W.bind (W.bind (W.bind (fun Q _ => ∃ l ls y, st_1.1 = l :: ls ∧ atI l (1 : Int) = some y ∧ Q y) fun d => fun P _ => ∃ x, d = (fun q : (Int × Int) => Dz.t [Dz.i q.1, Dz.i q.2]) x ∧ P x) fun z_18 => W.ret z_18.1) fun z_19 => W.ret (decide (z_19 = (0 : Int)))) fun z_20 => W.ret (if z_20 then (1 : Int) else 0)) (w_intB (free_int c) (w_eqI (w_ixT (F := fun q : (Int × Int) => [tI q.1, tI q.2]) (g := tI) (fun z => z.1) (w_dzAs (g := (fun q : (Int × Int) => Dz.t [Dz.i q.1, Dz.i q.2])) (di_p2 di_int di_int) (w_ixLL (i := 2) (kk := 0) (f := (tDz K)) (xss := st_1.1)))) (w_int (i := 0))))) fun u_left_1 left_1 => ?_
          refine SW.gam ([some ((rL (tP2 K (tDz K) (tP2 K tI tI)) first).at_ L), some ((rL (tP2 K (tDz K) (tP2 K tI tI)) second).at_ L), some (tV u_left_1), some (tV st.2.2.1), none, some (tV u_found), some (tI turn), some ((tP2 K tI tI) part), none]) ?_
          refine SW.front 2 ?_
          refine s_slLL (i := 3) (f := (tDz K)) (xss := st_1.2) (q := fun u_right_1 right_1 => kn (st.1 ++ [a0], (u_left_1, left_1), (u_right_1, right_1))) (EW.at (W.bind (W.bind (W.bind (W.bind (fun Q _ => ∃ l ls y, st_1.2 = l :: ls ∧ atI l (1 : Int) = some y ∧ Q y) fun d => fun P _ => ∃ x, d = (fun q : (Int × Int) => Dz.t [Dz.i q.1, Dz.i q.2]) x ∧ P x) fun z_21 => W.ret z_21.1) fun z_22 => W.ret (decide (z_22 = (0 : Int)))) fun z_23 => W.ret (if z_23 then (1 : Int) else 0)) (w_intB (free_int c) (w_eqI (w_ixT (F := fun q : (Int × Int) => [tI q.1, tI q.2]) (g := tI) (fun z => z.1) (w_dzAs (g := (fun q : (Int × Int) => Dz.t [Dz.i q.1, Dz.i q.2])) (di_p2 di_int di_int) (w_ixLL (i := 3) (kk := 0) (f := (tDz K)) (xss := st_1.2)))) (w_int (i := 0))))) fun u_right_1 right_1 => ?_
          refine s_skip ?_
          refine SW.front 1 ?_
          refine SW.front 1 ?_
          refine SW.front 2 ?_
          exact s_nil (k := _) (st.1 ++ [a0], (u_left_1, left_1), (u_right_1, right_1)) (g := by exact ⟨rfl, rfl, rfl, rfl, rfl, trivial⟩)
      · refine s_skip ?_
        exact s_nil (k := _) (st.1, (st.2.1.1, st.2.1.2), (st.2.2.1, st.2.2.2)) (g := by exact ⟨rfl, rfl, rfl, rfl, rfl, trivial⟩)
    · refine SW.settle (i := 5) (M := (tLs K (tP3 K (tDz K) (tDz K) (tP2 K tI tI))) st.1) stl_Ls ?_
      exact f_retN (f := (oLs (tDz K))) fin (NW.imp (n_lst (F := fun z : Dz × Dz × Unit => [(tDz K) z.1, (tDz K) z.2.1]) (a_cons (w_dz (g := Dz.s) zc_str (w_str (i := ("told" : Str)))) (a_cons (w_dz (g := (fun xs : (List (Dz × Dz × (Int × Int))) => Dz.l (xs.map (fun q : (Dz × Dz × (Int × Int)) => Dz.t [(fun z : Dz => z) q.1, (fun z : Dz => z) q.2.1, (fun q : (Int × Int) => Dz.t [Dz.i q.1, Dz.i q.2]) q.2.2])))) (zc_lst (zc_p3 zc_dy zc_dy (zc_p2 zc_int zc_int))) (w_var 5 (f := (tLs K (tP3 K (tDz K) (tDz K) (tP2 K tI tI)))) (v := st.1))) a_nil))) (g := oLs (tDz K)) (fun z => [z.1, z.2.1]) fun _ => rfl)
@[local irreducible] def w_l_told (first : (List (Dz × Rt))) (second : (List (Dz × Rt))) (Q : (List Dz) → Prop) (E : Er → Prop) : Prop :=
  W.lt (fun x : Er => match x with | .badNumber y0 => E (.badNumber y0) | .badNumberR y0 => E (.badNumberR y0) | .badText y0 => E (.badText y0) | .badShares x => (W.run (W.bind (W.bind (w_l_of x) fun z => W.ret ((fun q : (Int × Int) => Dz.t [Dz.i q.1, Dz.i q.2]) z)) fun z_1 => W.ret [(Dz.s ("shares" : Str)), z_1]) (fun _ : Er => False) Q) | _ => False) fun Eb : Er → Prop => W.run (W.bind (W.bind (W.bind (w_dealt first second) fun z_3 => W.compG (fun _ : (Dz × Dz × Rt) => W.ret true) (fun q : (Dz × Dz × Rt) => W.bind (w_l_of q.2.2) fun z_2 => W.ret (q.1, q.2.1, z_2)) z_3) fun z_4 => W.ret ((fun xs : (List (Dz × Dz × (Int × Int))) => Dz.l (xs.map (fun q : (Dz × Dz × (Int × Int)) => Dz.t [(fun z : Dz => z) q.1, (fun z : Dz => z) q.2.1, (fun q : (Int × Int) => Dz.t [Dz.i q.1, Dz.i q.2]) q.2.2]))) z_4)) fun z_5 => W.ret [(Dz.s ("told" : Str)), z_5]) Eb Q
theorem ok_l_told (c : Ct P K mg) : GF P w K mg base "_law_told" 8 ["_law_first", "_law_second"] (spW K (fun d : (List (Dz × Rt)) × (List (Dz × Rt)) => [.b (rQ K (tP2 K (tDz K) (tRat K)) d.1), .b (rQ K (tP2 K (tDz K) (tRat K)) d.2)]) (fun d => w_l_told d.1 d.2) (fun r : (List Dz) => .o ((oLs (tDz K)) r)) (fun _ => [])) := by
  refine gf_mkA (fd_l_told c) (fun _ F => bd_l_told F) (glo_l_told c) fun fd F => def_ok F sc_l_told (fun d vs L => [some ((rQ K (tP2 K (tDz K) (tRat K)) d.1).at_ L), some ((rQ K (tP2 K (tDz K) (tRat K)) d.2).at_ L), none, none, none, none]) (fun _ _ => []) (fun _ _ _ => []) ?_ (by intro _; rfl) (fun d vs L hv => match vs, hv with | [_, _], _ => rfl) (fun d vs hv => match vs, hv with | [_, _], _ => rfl) (fun d vs r hv => match vs, hv with | [_, _], _ => rfl)
  rintro cdv A outer s' H0 L S Q0 E0' ⟨first, second⟩ vs Q E hv nd hr fin hdQ
  have tk := (hdQ [] _ (List.Sublist.refl _)).tk
  have hd : ∀ Γ O, Hd _ _ Γ O E _ := fun Γ O => hdQ Γ O (List.nil_sublist _)
  have po : PassesOwn (model P w) _ _ _ := @own_cx P w K mg base "_law_told" (defScope s_l_told) (He.ga K "_law_told") ["_law_first", "_law_second", "_law_one", "_law_other", "_law_share", "e"] cdv A outer s' H0 E0'
  show SW _ _ _ _ _ _ (w_l_told first second Q E)
  unfold w_l_told
  refine s_try [some ((rQ K (tP2 K (tDz K) (tRat K)) first).at_ L), some ((rQ K (tP2 K (tDz K) (tRat K)) second).at_ L), none, none, none, none] (Zb := (fun x : Er => match x with | .badNumber y0 => E (.badNumber y0) | .badNumberR y0 => E (.badNumberR y0) | .badText y0 => E (.badText y0) | .badShares x => (W.run (W.bind (W.bind (w_l_of x) fun z => W.ret ((fun q : (Int × Int) => Dz.t [Dz.i q.1, Dz.i q.2]) z)) fun z_1 => W.ret [(Dz.s ("shares" : Str)), z_1]) (fun _ : Er => False) Q) | _ => False)) tk (hd_as (i := 5) (fun y : Rt => Er.badShares y) (fun x : Rt => W.run (W.bind (W.bind (w_l_of x) fun z => W.ret ((fun q : (Int × Int) => Dz.t [Dz.i q.1, Dz.i q.2]) z)) fun z_1 => W.ret [(Dz.s ("shares" : Str)), z_1]) (fun _ : Er => False) Q) (er_BadShares c).mgx (by intro x hx hn; cases x with | badNumber y0 => exact .inr ⟨by show ("BadNumber" : Str) ≠ "BadShares"; decide, exm_BadNumber_BadShares c⟩ | badNumberR y0 => exact .inr ⟨by show ("BadNumber" : Str) ≠ "BadShares"; decide, exm_BadNumber_BadShares c⟩ | badText y0 => exact .inr ⟨by show ("BadText" : Str) ≠ "BadShares"; decide, exm_BadText_BadShares c⟩ | badName y0 => exact hx.elim | dup y0 => exact hx.elim | unknown y0 => exact hx.elim | ring y0 => exact hx.elim | badShares y0 => exact .inl ⟨y0, rfl, hx, exm_BadShares_BadShares c⟩ | unlike y0 y1 => exact hx.elim | notRising y0 y1 y2 => exact hx.elim | noThrow  => exact hx.elim | hasRing y0 => exact hx.elim | noRing  => exact hx.elim | nothing  => exact hx.elim) (fun x ad oe pn cls d hz hfd => ?_) (hd_nil (hd _ _) (by intro x hx hn; cases x with | badNumber y0 => exact hx | badNumberR y0 => exact hx | badText y0 => exact hx | badName y0 => exact hx.elim | dup y0 => exact hx.elim | unknown y0 => exact hx.elim | ring y0 => exact hx.elim | badShares y0 => exact (hn (by show ("BadShares" : Str) ∈ (["BadShares"] : List Str); decide)).elim | unlike y0 y1 => exact hx.elim | notRising y0 y1 y2 => exact hx.elim | noThrow  => exact hx.elim | hasRing y0 => exact hx.elim | noRing  => exact hx.elim | nothing  => exact hx.elim))) (fun pn xe V po hdT0 => SW.ltE fun Eb hEb => ?_)
  · exact f_retN (f := (oLs (tDz K))) (OW.Fin.add fin) (NW.imp (n_lst (F := fun z : Dz × Dz × Unit => [(tDz K) z.1, (tDz K) z.2.1]) (a_cons (w_dz (g := Dz.s) zc_str (w_str (i := ("shares" : Str)))) (a_cons (w_dz (g := (fun q : (Int × Int) => Dz.t [Dz.i q.1, Dz.i q.2])) (zc_p2 zc_int zc_int) (EW.at (w_l_of x) (w_fnQ (f := (tP2 K tI tI)) (okq_l_of c) (hr.mono (by decide)) (fun t => t.1) (a_cons (w_xf (i := 5) (cx := "BadShares") (g := (tRat K)) (v := x) (er_BadShares c).xf ((er_BadShares c).no "total" (by simp [e_BadShares])) hz hfd) a_nil) (fun _ => ⟨rfl, trivial⟩)))) a_nil))) (g := oLs (tDz K)) (fun z => [z.1, z.2.1]) fun _ => rfl)
  · have hdT : ∀ Γ' O', Gle _ Γ' → List.Sublist _ O' → Hd _ _ Γ' O' Eb V := fun Γ' O' g1 g2 => hEb ▸ hdT0 Γ' O' g1 g2
    exact f_retN (f := (oLs (tDz K))) fin (NW.imp (n_lst (F := fun z : Dz × Dz × Unit => [(tDz K) z.1, (tDz K) z.2.1]) (a_cons (w_dz (g := Dz.s) zc_str (w_str (i := ("told" : Str)))) (a_cons (w_dz (g := (fun xs : (List (Dz × Dz × (Int × Int))) => Dz.l (xs.map (fun q : (Dz × Dz × (Int × Int)) => Dz.t [(fun z : Dz => z) q.1, (fun z : Dz => z) q.2.1, (fun q : (Int × Int) => Dz.t [Dz.i q.1, Dz.i q.2]) q.2.2])))) (zc_lst (zc_p3 zc_dy zc_dy (zc_p2 zc_int zc_int))) (EW.at (W.bind (w_dealt first second) fun z_3 => W.compG (fun _ : (Dz × Dz × Rt) => W.ret true) (fun q : (Dz × Dz × Rt) => W.bind (w_l_of q.2.2) fun z_2 => W.ret (q.1, q.2.1, z_2)) z_3) (NW.settle (g := (tLs K (tP3 K (tDz K) (tDz K) (tP2 K tI tI)))) (n_comp [("_law_one", 2), ("_law_other", 3), ("_law_share", 4)] (F := (fun y => MP.o ((tP3 K (tDz K) (tDz K) (tP2 K tI tI)) y))) (f := (tP3 K (tDz K) (tDz K) (tRat K))) [some ((rQ K (tP2 K (tDz K) (tRat K)) first).at_ L), some ((rQ K (tP2 K (tDz K) (tRat K)) second).at_ L), none, none, none, none] (i_lst (f := (tP3 K (tDz K) (tDz K) (tRat K))) (EW.rl (EW.at (w_dealt first second) (NW.settle (g := (tLs K (tP3 K (tDz K) (tDz K) (tRat K)))) (n_fn (f := (oLs (tP3 K (tDz K) (tDz K) (tRat K)))) (ok_dealt c) (hr.mono (by decide)) (hdT _ _ (by exact ⟨rfl, rfl, trivial⟩) (by walk_at "osub")) (fun t => (t.1, t.2.1)) (a_consR (r_lent 0 (f := rQ K (tP2 K (tDz K) (tRat K))) (v := first)) (a_consR (r_lent 1 (f := rQ K (tP2 K (tDz K) (tRat K))) (v := second)) a_nil)) (fun _ => ⟨rfl, rfl, trivial⟩)) fun _ => stl_Ls)))) (fun q => [some ((rQ K (tP2 K (tDz K) (tRat K)) first).at_ L), some ((rQ K (tP2 K (tDz K) (tRat K)) second).at_ L), some ((tDz K) q.1), some ((tDz K) q.2.1), some ((tRat K) q.2.2), none]) [2, 3, 4] (fun G m q s2 H2 C2 cl2 fp2 => ⟨(g_tup (gs_cons (g_name (j := 2)) (gs_cons (g_name (j := 3)) (gs_cons (g_name (j := 4)) gs_nil)))), if_none, (EW.n (EW.at (W.bind (w_l_of q.2.2) fun z_2 => W.ret (q.1, q.2.1, z_2)) (EW.imp (f := fun z : Dz × Dz × (Int × Int) × Unit => tT K ((fun z : Dz × Dz × (Int × Int) × Unit => [(tDz K) z.1, (tDz K) z.2.1, (tP2 K tI tI) z.2.2.1]) z)) (w_tup (F := fun z : Dz × Dz × (Int × Int) × Unit => [(tDz K) z.1, (tDz K) z.2.1, (tP2 K tI tI) z.2.2.1]) (a_cons (w_var 2 (f := (tDz K)) (v := q.1)) (a_cons (w_var 3 (f := (tDz K)) (v := q.2.1)) (a_cons (EW.at (w_l_of q.2.2) (w_fn (f := (tP2 K tI tI)) (ok_l_of c) (hr.mono (by decide)) hd0 (fun t => t.1) (a_cons (w_var 4 (f := (tRat K)) (v := q.2.2)) a_nil) (fun _ => ⟨rfl, trivial⟩))) a_nil)))) (fun z => (z.1, z.2.1, z.2.2.1)) fun _ _ _ h => h)))⟩) hk_id (gl := by exact ⟨rfl, rfl, trivial⟩)) fun _ => stl_Ls))) a_nil))) (g := oLs (tDz K)) (fun z => [z.1, z.2.1]) fun _ => rfl)
@[local irreducible] def w_law (script : (List Int)) (Q : Bool → Prop) (E : Er → Prop) : Prop :=
  W.run (W.grd (RgOk (if (if (script.length : Int) < (6 : Int) then (script.length : Int) else (6 : Int)) > (1 : Int) then (if (script.length : Int) < (6 : Int) then (script.length : Int) else (6 : Int)) else (1 : Int))) (rng 0 (if (if (script.length : Int) < (6 : Int) then (script.length : Int) else (6 : Int)) > (1 : Int) then (if (script.length : Int) < (6 : Int) then (script.length : Int) else (6 : Int)) else (1 : Int)))) E fun xs => W.loop (fun k (st : Unit) kn =>
    W.run (W.bind (w_l_cell script k) fun z => w_l_pool z) E fun pool_here =>
  W.run (W.bind (w_l_row pool_here) fun z_1 => W.bind (w_l_row z_1.2) fun z_2 => W.ret ((z_1.1, z_2.1), z_2.2)) E fun t =>
  W.jn (fun st_1 : (List (Dz × (Int × Int))) × Nat => W.run (w_l_due t.1.1 st_1.1) E fun due_here =>
  W.run (W.compG (fun _ : (List (Dz × (Int × Int))) => W.ret true) (fun row_here : (List (Dz × (Int × Int))) => W.compG (fun _ : (Dz × (Int × Int)) => W.ret true) (fun q : (Dz × (Int × Int)) => W.bind (w_Ratio_init q.2.1 q.2.2) fun z_7 => W.ret (q.1, z_7)) row_here) [t.1.1, st_1.1]) E fun passed =>
  W.run (W.compP (fun _ : (List (Dz × Rt)) => true) (fun row_here_1 : (List (Dz × Rt)) => row_here_1) passed) E fun kept =>
  W.run (W.bind (W.bind (W.bind (W.get passed (0 : Int)) fun z_8 => W.bind (W.get passed (1 : Int)) fun z_9 => w_l_told z_8 z_9) fun z_10 => W.neZ 8 z_10 due_here) fun z_14 => W.sel z_14 (W.ret true) (W.bind (W.bind (W.get passed (0 : Int)) fun z_11 => W.bind (W.get passed (1 : Int)) fun z_12 => w_l_told z_11 z_12) fun z_13 => W.neZ 8 z_13 due_here)) E fun b => W.ite b
    (W.run (W.ret false) E Q)
    (W.run (W.grd (passed = kept ∧ dzsOk 8 passed) false) E fun b => W.ite b
    (W.run (W.ret false) E Q)
    (W.run (W.bind (W.bind (W.bind (W.get due_here (0 : Int)) fun d => fun P _ => ∃ x, d = Dz.s x ∧ P x) fun z_15 => W.ret (decide (z_15 = ("told" : Str)))) fun z_18 => W.sel z_18 (W.bind (W.bind (W.bind (W.get due_here (1 : Int)) fun d => fun P _ => ∃ x, d = (fun xs : (List Dz) => Dz.l (xs.map (fun z : Dz => z))) x ∧ P x) fun z_16 => W.ret (z_16.length : Int)) fun z_17 => W.ret (decide ((if (((t.1.1.length : Int) + (st_1.1.length : Int)) - (1 : Int)) > (0 : Int) then (((t.1.1.length : Int) + (st_1.1.length : Int)) - (1 : Int)) else (0 : Int)) < z_17))) (W.ret false)) E fun b => W.ite b
    (W.run (W.ret false) E Q)
    (kn ())))) fun kj => W.run (W.bind (W.cn (W.neZ 8 (List.map (fun q : (Dz × (Int × Int)) => Dz.t [(fun z : Dz => z) q.1, (fun q : (Int × Int) => Dz.t [Dz.i q.1, Dz.i q.2]) q.2]) t.1.1) (List.map (fun q : (Dz × (Int × Int)) => Dz.t [(fun z : Dz => z) q.1, (fun q : (Int × Int) => Dz.t [Dz.i q.1, Dz.i q.2]) q.2]) ([] : (List (Dz × (Int × Int)))))) t.2) fun z_3 => W.sel z_3.1 (W.bind (W.cn (W.neZ 8 (List.map (fun q : (Dz × (Int × Int)) => Dz.t [(fun z : Dz => z) q.1, (fun q : (Int × Int) => Dz.t [Dz.i q.1, Dz.i q.2]) q.2]) t.1.2) (List.map (fun q : (Dz × (Int × Int)) => Dz.t [(fun z : Dz => z) q.1, (fun q : (Int × Int) => Dz.t [Dz.i q.1, Dz.i q.2]) q.2]) ([] : (List (Dz × (Int × Int)))))) z_3.2) fun z_4 => W.sel z_4.1 (W.bind (w_l_take z_4.2 (4 : Int)) fun z_5 => W.ret (decide ((0 : Int) < z_5.1), z_5.2)) (W.ret (false, z_4.2))) (W.ret (false, z_3.2))) E fun b0 => W.ite b0.1 (W.run (W.bind (w_l_sum t.1.1) fun z_6 => w_l_scaled t.1.2 z_6) E fun second =>
  kj (second, b0.2)) (kj (t.1.2, b0.2)))
    (fun st : Unit => W.run (W.ret true) E Q) xs ()
theorem ok_law {fd : FuncData} (c : Ct P K mg) (F : FnS K "law" "law" s_law (He.ga K "law") fd) : FnOk P w K mg base (L2.CX P w) 12 (He.ga K "law") fd ["_law_script"] (spW K (fun d : (List Int) => [.b (rQ K tI d)]) (fun d => w_law d) (fun r : Bool => .v (OT.tB r)) (fun _ => [])) := by
  refine  def_ok F sc_law (fun d vs L => [some ((rQ K tI d).at_ L), none, none, none, none, none, none, none, none, none, none]) (fun _ _ => []) (fun _ _ _ => []) ?_ (by intro _; rfl) (fun d vs L hv => match vs, hv with | [_], _ => rfl) (fun d vs hv => match vs, hv with | [_], _ => rfl) (fun d vs r hv => match vs, hv with | [_], _ => rfl)
  rintro cdv A outer s' H0 L S Q0 E0' script vs Q E hv nd hr fin hdQ
  have tk := (hdQ [] _ (List.Sublist.refl _)).tk
  have hd : ∀ Γ O, Hd _ _ Γ O E _ := fun Γ O => hdQ Γ O (List.nil_sublist _)
  have po : PassesOwn (model P w) _ _ _ := @own_cx P w K mg base "law" (defScope s_law) (He.ga K "law") ["_law_script", "_law_k", "_law_pool_here", "_law_first", "_law_second", "_law_due_here", "_law_passed", "_law_thing", "_law_share", "_law_row_here", "_law_kept"] cdv A outer s' H0 E0'
  show SW _ _ _ _ _ _ (w_law script Q E)
  unfold w_law
  refine s_for (f := tI) (fun st : Unit => [some ((rQ K tI script).at_ L), none, none, none, none, none, none, none, none, none, none]) (fun st : Unit => []) () (i_range1 (free_range c) (w_max2 (free_max c) (w_int (i := 1)) (w_min2 (free_min c) (w_int (i := 6)) (w_len (free_len c) (f := tI) (RW.rn (r_lent 0 (f := rQ K tI) (v := script))))))) (fun k (st : Unit) => [some ((rQ K tI script).at_ L), some (tI k), none, none, none, none, none, none, none, none, none]) [1] (fun G k st => (g_name (j := 1))) (fun G k st kn => ?_) (fun st => ?_) po (gl := by exact ⟨rfl, trivial⟩)
  · refine SW.gam ([some ((rQ K tI script).at_ L), some (tI k), none, none, none, none, none, none, none, none, none]) ?_
    refine s_setN (i := 2) (f := oPoolN) (n_fn (f := oPoolN) (ok_l_pool c) (hr.mono (by decide)) (Hd.add (hd _ _)) (fun t => t.1) (a_cons (EW.at (w_l_cell script k) (w_fn (f := tI) (ok_l_cell c) (hr.mono (by decide)) (Hd.add (hd _ _)) (fun t => (t.1, t.2.1)) (a_consR (r_lent 0 (f := rQ K tI) (v := script)) (a_cons (w_var 1 (f := tI) (v := k)) a_nil)) (fun _ => ⟨rfl, rfl, trivial⟩))) a_nil) (fun _ => ⟨rfl, trivial⟩)) fun pool_here u_pool_here => ?_
    refine SW.gam ([some ((rQ K tI script).at_ L), some (tI k), some (tV u_pool_here), none, none, none, none, none, none, none, none]) ?_
    refine s_parP (w' := fun _ _ => True) (O := (fun mm => [(u_pool_here, oPoolN mm)])) (n := pool_here) (i := 3) (j := 4) (f := (tLs K (tP2 K (tDz K) (tP2 K tI tI)))) (g := (tLs K (tP2 K (tDz K) (tP2 K tI tI)))) (KN.settle (f := (oLs (tP2 K (tDz K) (tP2 K tI tI)))) (g := (tLs K (tP2 K (tDz K) (tP2 K tI tI)))) (drn_fnO 0 (f := (oLs (tP2 K (tDz K) (tP2 K tI tI)))) (ok_l_row c) (hr.mono (by decide)) (fun _ => (Hd.add (hd _ _))) (fun t m => m) (dra_consT 2 dra_nil) (fun _ _ => ⟨rfl, trivial⟩) (fun _ => (fun _ h => by cases h))) fun _ => stl_Ls) (fun m0 => (KN.settle (f := (oLs (tP2 K (tDz K) (tP2 K tI tI)))) (g := (tLs K (tP2 K (tDz K) (tP2 K tI tI)))) (drn_fnO 0 (f := (oLs (tP2 K (tDz K) (tP2 K tI tI)))) (ok_l_row c) (hr.mono (by decide)) (fun _ => (Hd.add (hd _ _))) (fun t m => m) (dra_consT 2 dra_nil) (fun _ _ => ⟨rfl, trivial⟩) (fun _ => (fun _ h => by cases h))) fun _ => stl_Ls)) fun t => ?_
    refine SW.gam ([some ((rQ K tI script).at_ L), some (tI k), some (tV u_pool_here), some ((tLs K (tP2 K (tDz K) (tP2 K tI tI))) t.1.1), some ((tLs K (tP2 K (tDz K) (tP2 K tI tI))) t.1.2), none, none, none, none, none, none]) ?_
    refine s_ifKP2 (O := (fun mm => [(u_pool_here, oPoolN mm)])) (n := t.2) (fun st_1 : (List (Dz × (Int × Int))) × Nat => [some ((rQ K tI script).at_ L), some (tI k), some (tV u_pool_here), some ((tLs K (tP2 K (tDz K) (tP2 K tI tI))) t.1.1), some ((tLs K (tP2 K (tDz K) (tP2 K tI tI))) st_1.1), none, none, none, none, none, none]) (fun st_1 : (List (Dz × (Int × Int))) × Nat => [(u_pool_here, oPoolN st_1.2)]) (KTC.t (drc_and (drt_of (O1 := [(u_pool_here, oPoolN t.2)]) (t_neZ 8 (hr.mono (by decide)) (r_dzs (g := (fun q : (Dz × (Int × Int)) => Dz.t [(fun z : Dz => z) q.1, (fun q : (Int × Int) => Dz.t [Dz.i q.1, Dz.i q.2]) q.2])) (EW.rl (w_var 3 (f := (tLs K (tP2 K (tDz K) (tP2 K tI tI)))) (v := t.1.1))) (zc_p2 zc_dy (zc_p2 zc_int zc_int))) (RW.rn (r_dzs (g := (fun q : (Dz × (Int × Int)) => Dz.t [(fun z : Dz => z) q.1, (fun q : (Int × Int) => Dz.t [Dz.i q.1, Dz.i q.2]) q.2])) (EW.rl (EW.at (W.ret ([] : (List (Dz × (Int × Int))))) (NW.settle (g := (tLs K (tP2 K (tDz K) (tP2 K tI tI)))) (n_nil (f := (tP2 K (tDz K) (tP2 K tI tI)))) fun _ => stl_Ls))) (zc_p2 zc_dy (zc_p2 zc_int zc_int)))))) (fun m0_2 => (drc_and (drt_of (O1 := [(u_pool_here, oPoolN m0_2)]) (t_neZ 8 (hr.mono (by decide)) (r_dzs (g := (fun q : (Dz × (Int × Int)) => Dz.t [(fun z : Dz => z) q.1, (fun q : (Int × Int) => Dz.t [Dz.i q.1, Dz.i q.2]) q.2])) (EW.rl (w_var 4 (f := (tLs K (tP2 K (tDz K) (tP2 K tI tI)))) (v := t.1.2))) (zc_p2 zc_dy (zc_p2 zc_int zc_int))) (RW.rn (r_dzs (g := (fun q : (Dz × (Int × Int)) => Dz.t [(fun z : Dz => z) q.1, (fun q : (Int × Int) => Dz.t [Dz.i q.1, Dz.i q.2]) q.2])) (EW.rl (EW.at (W.ret ([] : (List (Dz × (Int × Int))))) (NW.settle (g := (tLs K (tP2 K (tDz K) (tP2 K tI tI)))) (n_nil (f := (tP2 K (tDz K) (tP2 K tI tI)))) fun _ => stl_Ls))) (zc_p2 zc_dy (zc_p2 zc_int zc_int)))))) (fun m0_3 => (drc_and1 (drt_gt (dr_fnO 0 (f := tI) (ok_l_take c) (hr.mono (by decide)) (fun _ => (Hd.add (hd _ _))) (fun t m => (m, t.1)) (dra_consT 2 (dra_cons (dr_of (O1 := [(u_pool_here, oPoolN m0_3)]) (w_int (i := 4))) (fun m0_4 => dra_nil))) (fun _ _ => ⟨rfl, rfl, trivial⟩) (fun _ => (fun _ h => by cases h))) (fun m0_1 => (dr_of (O1 := [(u_pool_here, oPoolN m0_1)]) (w_int (i := 0))))))))))) (fun m0_5 kj => ?_) (fun m0_5 kj => ?_) (fun st_1 => ?_)
    · refine SW.gam ([some ((rQ K tI script).at_ L), some (tI k), some (tV u_pool_here), some ((tLs K (tP2 K (tDz K) (tP2 K tI tI))) t.1.1), some ((tLs K (tP2 K (tDz K) (tP2 K tI tI))) t.1.2), none, none, none, none, none, none]) ?_
      refine s_set (i := 4) (f := (tLs K (tP2 K (tDz K) (tP2 K tI tI)))) (EW.at (W.bind (w_l_sum t.1.1) fun z_6 => w_l_scaled t.1.2 z_6) (NW.settle (g := (tLs K (tP2 K (tDz K) (tP2 K tI tI)))) (n_fn (f := (oLs (tP2 K (tDz K) (tP2 K tI tI)))) (ok_l_scaled c) (hr.mono (by decide)) (Hd.add (hd _ _)) (fun t => (t.1, t.2.1)) (a_consR (EW.rl (w_var 4 (f := (tLs K (tP2 K (tDz K) (tP2 K tI tI)))) (v := t.1.2))) (a_cons (EW.at (w_l_sum t.1.1) (w_fn (f := (tP2 K tI tI)) (ok_l_sum c) (hr.mono (by decide)) (Hd.add (hd _ _)) (fun t => t.1) (a_consR (EW.rl (w_var 3 (f := (tLs K (tP2 K (tDz K) (tP2 K tI tI)))) (v := t.1.1))) a_nil) (fun _ => ⟨rfl, trivial⟩))) a_nil)) (fun _ => ⟨rfl, rfl, trivial⟩)) fun _ => stl_Ls)) fun second => ?_
      exact s_nil (k := _) (second, m0_5) (g := by exact ⟨rfl, rfl, rfl, rfl, rfl, trivial⟩)
    · exact s_nil (k := _) (t.1.2, m0_5) (g := by exact ⟨rfl, rfl, rfl, rfl, rfl, trivial⟩)
    · refine SW.gam ([some ((rQ K tI script).at_ L), some (tI k), some (tV u_pool_here), some ((tLs K (tP2 K (tDz K) (tP2 K tI tI))) t.1.1), some ((tLs K (tP2 K (tDz K) (tP2 K tI tI))) st_1.1), none, none, none, none, none, none]) ?_
      refine s_set (i := 5) (f := (tLs K (tDz K))) (EW.at (w_l_due t.1.1 st_1.1) (NW.settle (g := (tLs K (tDz K))) (n_fn (f := (oLs (tDz K))) (ok_l_due c) (hr.mono (by decide)) (Hd.add (hd _ _)) (fun t => (t.1, t.2.1)) (a_consR (EW.rl (w_var 3 (f := (tLs K (tP2 K (tDz K) (tP2 K tI tI)))) (v := t.1.1))) (a_consR (EW.rl (w_var 4 (f := (tLs K (tP2 K (tDz K) (tP2 K tI tI)))) (v := st_1.1))) a_nil)) (fun _ => ⟨rfl, rfl, trivial⟩)) fun _ => stl_Ls)) fun due_here => ?_
      refine SW.gam ([some ((rQ K tI script).at_ L), some (tI k), some (tV u_pool_here), some ((tLs K (tP2 K (tDz K) (tP2 K tI tI))) t.1.1), some ((tLs K (tP2 K (tDz K) (tP2 K tI tI))) st_1.1), some ((tLs K (tDz K)) due_here), none, none, none, none, none]) ?_
      refine s_setLc (i := 6) [("_law_row_here", 9)] (F := (fun y => MP.o ((tLs K (tP2 K (tDz K) (tRat K))) y))) (f := (tLs K (tP2 K (tDz K) (tP2 K tI tI)))) [some ((rQ K tI script).at_ L), some (tI k), some (tV u_pool_here), some ((tLs K (tP2 K (tDz K) (tP2 K tI tI))) t.1.1), some ((tLs K (tP2 K (tDz K) (tP2 K tI tI))) st_1.1), some ((tLs K (tDz K)) due_here), none, none, none, none, none] (i_lst (f := (tLs K (tP2 K (tDz K) (tP2 K tI tI)))) (EW.rl (EW.at (W.ret [t.1.1, st_1.1]) (NW.settle (g := (tLs K (tLs K (tP2 K (tDz K) (tP2 K tI tI))))) (NW.imp (n_lst (F := fun z : (List (Dz × (Int × Int))) × (List (Dz × (Int × Int))) × Unit => [(tLs K (tP2 K (tDz K) (tP2 K tI tI))) z.1, (tLs K (tP2 K (tDz K) (tP2 K tI tI))) z.2.1]) (a_cons (w_var 3 (f := (tLs K (tP2 K (tDz K) (tP2 K tI tI)))) (v := t.1.1)) (a_cons (w_var 4 (f := (tLs K (tP2 K (tDz K) (tP2 K tI tI)))) (v := st_1.1)) a_nil))) (g := oLs (tLs K (tP2 K (tDz K) (tP2 K tI tI)))) (fun z => [z.1, z.2.1]) fun _ => rfl) fun _ => stl_Ls)))) (fun row_here => [some ((rQ K tI script).at_ L), some (tI k), some (tV u_pool_here), some ((tLs K (tP2 K (tDz K) (tP2 K tI tI))) t.1.1), some ((tLs K (tP2 K (tDz K) (tP2 K tI tI))) st_1.1), some ((tLs K (tDz K)) due_here), none, none, none, some ((tLs K (tP2 K (tDz K) (tP2 K tI tI))) row_here), none]) [9] (fun G m row_here s2 H2 C2 cl2 fp2 => ⟨(g_name (j := 9)), if_none, (EW.n (EW.at (W.compG (fun _ : (Dz × (Int × Int)) => W.ret true) (fun q : (Dz × (Int × Int)) => W.bind (w_Ratio_init q.2.1 q.2.2) fun z_7 => W.ret (q.1, z_7)) row_here) (NW.settle (g := (tLs K (tP2 K (tDz K) (tRat K)))) (n_comp [("_law_thing", 7), ("_law_share", 8)] (F := (fun y => MP.o ((tP2 K (tDz K) (tRat K)) y))) (f := (tP2 K (tDz K) (tP2 K tI tI))) [some ((rQ K tI script).at_ L), some (tI k), some (tV u_pool_here), some ((tLs K (tP2 K (tDz K) (tP2 K tI tI))) t.1.1), some ((tLs K (tP2 K (tDz K) (tP2 K tI tI))) st_1.1), some ((tLs K (tDz K)) due_here), none, none, none, some ((tLs K (tP2 K (tDz K) (tP2 K tI tI))) row_here), none] (i_lst (f := (tP2 K (tDz K) (tP2 K tI tI))) (EW.rl (w_var 9 (f := (tLs K (tP2 K (tDz K) (tP2 K tI tI)))) (v := row_here)))) (fun q => [some ((rQ K tI script).at_ L), some (tI k), some (tV u_pool_here), some ((tLs K (tP2 K (tDz K) (tP2 K tI tI))) t.1.1), some ((tLs K (tP2 K (tDz K) (tP2 K tI tI))) st_1.1), some ((tLs K (tDz K)) due_here), none, some ((tDz K) q.1), some ((tP2 K tI tI) q.2), some ((tLs K (tP2 K (tDz K) (tP2 K tI tI))) row_here), none]) [7, 8] (fun G m q s2 H2 C2 cl2 fp2 => ⟨(g_tup (gs_cons (g_name (j := 7)) (gs_cons (g_name (j := 8)) gs_nil))), if_none, (EW.n (EW.at (W.bind (w_Ratio_init q.2.1 q.2.2) fun z_7 => W.ret (q.1, z_7)) (EW.imp (f := fun z : Dz × Rt × Unit => tT K ((fun z : Dz × Rt × Unit => [(tDz K) z.1, (tRat K) z.2.1]) z)) (w_tup (F := fun z : Dz × Rt × Unit => [(tDz K) z.1, (tRat K) z.2.1]) (a_cons (w_var 7 (f := (tDz K)) (v := q.1)) (a_cons (EW.at (w_Ratio_init q.2.1 q.2.2) (NW.settle (f := (fun r : Rt => oI (He.ga K "Ratio") [("top", MP.o (tI r.top)), ("bottom", MP.o (tI r.bottom))])) (g := (tRat K)) (n_make (f := (fun r : Rt => oI (He.ga K "Ratio") [("top", MP.o (tI r.top)), ("bottom", MP.o (tI r.bottom))])) (ok_Ratio_init c) (hr.mono (by decide)) hd0 (fun t => (t.1, t.2.1)) (a_cons (w_ixT (F := fun q : (Int × Int) => [tI q.1, tI q.2]) (g := tI) (fun z => z.1) (w_var 8 (f := (tP2 K tI tI)) (v := q.2))) (a_cons (w_ixT (F := fun q : (Int × Int) => [tI q.1, tI q.2]) (g := tI) (fun z => z.2) (w_var 8 (f := (tP2 K tI tI)) (v := q.2))) a_nil)) (fun _ _ => ⟨rfl, rfl, rfl, trivial⟩)) fun _ => (stl_I ⟨rfl, stl_m, rfl, stl_m, trivial⟩))) a_nil))) (fun z => (z.1, z.2.1)) fun _ _ _ h => h)))⟩) hk_id (gl := by exact ⟨rfl, rfl, rfl, rfl, rfl, rfl, rfl, trivial⟩)) fun _ => stl_Ls)))⟩) hk_id (fun passed u_passed => ?_) (gl := ⟨rfl, rfl, rfl, rfl, rfl, rfl, trivial⟩)
      refine SW.settle (i := 6) (M := (tLs K (tLs K (tP2 K (tDz K) (tRat K)))) passed) stl_Ls ?_
      refine SW.gam ([some ((rQ K tI script).at_ L), some (tI k), some (tV u_pool_here), some ((tLs K (tP2 K (tDz K) (tP2 K tI tI))) t.1.1), some ((tLs K (tP2 K (tDz K) (tP2 K tI tI))) st_1.1), some ((tLs K (tDz K)) due_here), some ((tLs K (tLs K (tP2 K (tDz K) (tRat K)))) passed), none, none, none, none]) ?_
      refine s_setLc (i := 10) [("_law_row_here", 9)] (F := (fun y => MP.o ((tLs K (tP2 K (tDz K) (tRat K))) y))) (f := (tLs K (tP2 K (tDz K) (tRat K)))) [some ((rQ K tI script).at_ L), some (tI k), some (tV u_pool_here), some ((tLs K (tP2 K (tDz K) (tP2 K tI tI))) t.1.1), some ((tLs K (tP2 K (tDz K) (tP2 K tI tI))) st_1.1), some ((tLs K (tDz K)) due_here), some ((tLs K (tLs K (tP2 K (tDz K) (tRat K)))) passed), none, none, none, none] (i_lst (f := (tLs K (tP2 K (tDz K) (tRat K)))) (EW.rl (w_var 6 (f := (tLs K (tLs K (tP2 K (tDz K) (tRat K))))) (v := passed)))) (fun row_here_1 => [some ((rQ K tI script).at_ L), some (tI k), some (tV u_pool_here), some ((tLs K (tP2 K (tDz K) (tP2 K tI tI))) t.1.1), some ((tLs K (tP2 K (tDz K) (tP2 K tI tI))) st_1.1), some ((tLs K (tDz K)) due_here), some ((tLs K (tLs K (tP2 K (tDz K) (tRat K)))) passed), none, none, some ((tLs K (tP2 K (tDz K) (tRat K))) row_here_1), none]) [9] (fun G m row_here_1 s2 H2 C2 cl2 fp2 => ⟨(g_name (j := 9)), if_none, (EW.n (EW.at (W.ret row_here_1) (NW.settle (g := (tLs K (tP2 K (tDz K) (tRat K)))) (n_list (free_list c) (f := (tP2 K (tDz K) (tRat K))) (RW.rn (RW.q (EW.rl (w_var 9 (f := (tLs K (tP2 K (tDz K) (tRat K)))) (v := row_here_1)))))) fun _ => stl_Ls)))⟩) (hk_plain (c := fun _ : (List (Dz × Rt)) => true) (g := fun row_here_1 : (List (Dz × Rt)) => row_here_1)) (fun kept u_kept => ?_) (gl := ⟨rfl, rfl, rfl, rfl, rfl, rfl, rfl, trivial⟩)
      refine SW.settle (i := 10) (M := (tLs K (tLs K (tP2 K (tDz K) (tRat K)))) kept) stl_Ls ?_
      refine SW.gam ([some ((rQ K tI script).at_ L), some (tI k), some (tV u_pool_here), some ((tLs K (tP2 K (tDz K) (tP2 K tI tI))) t.1.1), some ((tLs K (tP2 K (tDz K) (tP2 K tI tI))) st_1.1), some ((tLs K (tDz K)) due_here), some ((tLs K (tLs K (tP2 K (tDz K) (tRat K)))) passed), none, none, none, some ((tLs K (tLs K (tP2 K (tDz K) (tRat K)))) kept)]) ?_
      refine s_if (TC.t (tc_or (t_neZ 8 (hr.mono (by decide)) (EW.rl (EW.at (W.bind (W.get passed (0 : Int)) fun z_8 => W.bind (W.get passed (1 : Int)) fun z_9 => w_l_told z_8 z_9) (NW.settle (g := (tLs K (tDz K))) (n_fn (f := (oLs (tDz K))) (ok_l_told c) (hr.mono (by decide)) (Hd.add (hd _ _)) (fun t => (t.1, t.2.1)) (a_consR (RW.q (EW.rl (w_ix (f := (tLs K (tP2 K (tDz K) (tRat K)))) (RW.q (EW.rl (w_var 6 (f := (tLs K (tLs K (tP2 K (tDz K) (tRat K))))) (v := passed)))) (w_int (i := 0))))) (a_consR (RW.q (EW.rl (w_ix (f := (tLs K (tP2 K (tDz K) (tRat K)))) (RW.q (EW.rl (w_var 6 (f := (tLs K (tLs K (tP2 K (tDz K) (tRat K))))) (v := passed)))) (w_int (i := 1))))) a_nil)) (fun _ => ⟨rfl, rfl, trivial⟩)) fun _ => stl_Ls))) (RW.rn (EW.rl (w_var 5 (f := (tLs K (tDz K))) (v := due_here))))) (tc_or1 (t_neZ 8 (hr.mono (by decide)) (EW.rl (EW.at (W.bind (W.get passed (0 : Int)) fun z_11 => W.bind (W.get passed (1 : Int)) fun z_12 => w_l_told z_11 z_12) (NW.settle (g := (tLs K (tDz K))) (n_fn (f := (oLs (tDz K))) (ok_l_told c) (hr.mono (by decide)) (Hd.add (hd _ _)) (fun t => (t.1, t.2.1)) (a_consR (RW.tq (EW.rt (EW.at (W.get passed (0 : Int)) (w_tuple (free_tuple c) (f := (tP2 K (tDz K) (tRat K))) (RW.rn (EW.rl (w_ix (f := (tLs K (tP2 K (tDz K) (tRat K)))) (RW.q (EW.rl (w_var 6 (f := (tLs K (tLs K (tP2 K (tDz K) (tRat K))))) (v := passed)))) (w_int (i := 0))))))))) (a_consR (RW.tq (EW.rt (EW.at (W.get passed (1 : Int)) (w_tuple (free_tuple c) (f := (tP2 K (tDz K) (tRat K))) (RW.rn (EW.rl (w_ix (f := (tLs K (tP2 K (tDz K) (tRat K)))) (RW.q (EW.rl (w_var 6 (f := (tLs K (tLs K (tP2 K (tDz K) (tRat K))))) (v := passed)))) (w_int (i := 1))))))))) a_nil)) (fun _ => ⟨rfl, rfl, trivial⟩)) fun _ => stl_Ls))) (RW.rn (EW.rl (w_var 5 (f := (tLs K (tDz K))) (v := due_here)))))))) ?_ ?_
      · exact f_ret (f := OT.tB) (OW.Fin.add fin) (w_bl (i := false))
      · refine s_skip ?_
        refine SW.gam ([some ((rQ K tI script).at_ L), some (tI k), some (tV u_pool_here), some ((tLs K (tP2 K (tDz K) (tP2 K tI tI))) t.1.1), some ((tLs K (tP2 K (tDz K) (tP2 K tI tI))) st_1.1), some ((tLs K (tDz K)) due_here), some ((tLs K (tLs K (tP2 K (tDz K) (tRat K)))) passed), none, none, none, some ((tLs K (tLs K (tP2 K (tDz K) (tRat K)))) kept)]) ?_
        refine s_if (t_neZZ 8 (hr.mono (by decide)) (en_rat c) (by decide) (EW.rl (w_var 6 (f := (tLs K (tLs K (tP2 K (tDz K) (tRat K))))) (v := passed))) (RW.rn (EW.rl (w_var 10 (f := (tLs K (tLs K (tP2 K (tDz K) (tRat K))))) (v := kept))))) ?_ ?_
        · exact f_ret (f := OT.tB) (OW.Fin.add fin) (w_bl (i := false))
        · refine s_skip ?_
          refine SW.gam ([some ((rQ K tI script).at_ L), some (tI k), some (tV u_pool_here), some ((tLs K (tP2 K (tDz K) (tP2 K tI tI))) t.1.1), some ((tLs K (tP2 K (tDz K) (tP2 K tI tI))) st_1.1), some ((tLs K (tDz K)) due_here), some ((tLs K (tLs K (tP2 K (tDz K) (tRat K)))) passed), none, none, none, some ((tLs K (tLs K (tP2 K (tDz K) (tRat K)))) kept)]) ?_
          refine s_if (TC.t (tc_and (t_eqS (w_dzAs (g := Dz.s) di_str (w_ix (f := (tDz K)) (RW.q (EW.rl (w_var 5 (f := (tLs K (tDz K))) (v := due_here)))) (w_int (i := 0)))) (w_str (i := ("told" : Str)))) (tc_and1 (t_gt (EW.at (W.bind (W.bind (W.get due_here (1 : Int)) fun d => fun P _ => ∃ x, d = (fun xs : (List Dz) => Dz.l (xs.map (fun z : Dz => z))) x ∧ P x) fun z_16 => W.ret (z_16.length : Int)) (w_len (free_len c) (f := (tDz K)) (RW.rn (RW.q (EW.rl (w_dzAs (g := (fun xs : (List Dz) => Dz.l (xs.map (fun z : Dz => z)))) (di_lst di_dy) (w_ix (f := (tDz K)) (RW.q (EW.rl (w_var 5 (f := (tLs K (tDz K))) (v := due_here)))) (w_int (i := 1))))))))) (w_max2 (free_max c) (w_int (i := 0)) (w_sub (w_add (w_len (free_len c) (f := (tP2 K (tDz K) (tP2 K tI tI))) (RW.rn (RW.q (EW.rl (w_var 3 (f := (tLs K (tP2 K (tDz K) (tP2 K tI tI)))) (v := t.1.1)))))) (w_len (free_len c) (f := (tP2 K (tDz K) (tP2 K tI tI))) (RW.rn (RW.q (EW.rl (w_var 4 (f := (tLs K (tP2 K (tDz K) (tP2 K tI tI)))) (v := st_1.1))))))) (w_int (i := 1)))))))) ?_ ?_
          · exact f_ret (f := OT.tB) (OW.Fin.add fin) (w_bl (i := false))
          · refine s_skip ?_
            refine SW.out 0 ?_
            exact s_nil (k := _) () (g := by exact ⟨rfl, trivial⟩)
  · exact f_ret (f := OT.tB) fin (w_bl (i := true))
end
end K62
namespace K62
open PySem L2 OW
open PySem.Builtin.Int (intBits)
open OT (Fit mulOk)
section
variable {E : Er → Prop}
theorem common_ok {a b : Int} {Q : Int → Prop} (h : Q (Int.gcd a b : Int)) : w_common a b Q E := by
  unfold w_common
  refine ⟨b.natAbs + 1, ?_⟩
  have go : ∀ (n x y : Nat), y ≤ n → Q (Nat.gcd x y : Int) → W.whileN E (fun st : Int × Int => W.ret (!decide (st.2 = (0 : Int)))) (fun st kn =>
      W.run (W.bind (W.grd (st.2 ≠ 0) ((st.1).fmod st.2)) fun z => W.ret (st.2, z)) E fun t_1 => kn (t_1.1, t_1.2))
      (fun st => W.run (W.ret st.1) E Q) (n + 1) ((x : Int), (y : Int)) := by
    intro n
    induction n with
    | zero =>
      intro x y hy hq
      obtain rfl : y = 0 := by omega
      refine ite_f rfl ?_
      rw [Nat.gcd_zero_right] at hq
      exact hq
    | succ n ih =>
      intro x y hy hq
      show W.ite (!decide ((y : Int) = 0)) _ _
      refine W.ite_intro (fun hb => ?_) fun hb => ?_
      · have hy0 : y ≠ 0 := by simpa using hb
        refine ⟨by show (y : Int) ≠ 0; omega, ?_⟩
        show W.whileN E _ _ _ (n + 1) ((y : Int), (x : Int).fmod (y : Int))
        rw [OT.fmod_nat]
        exact ih y (x % y) (by have := Nat.mod_lt x (Nat.pos_of_ne_zero hy0); omega) (by rw [OT.gcd_step]; exact hq)
      · have hy0 : y = 0 := by simpa using hb
        subst hy0
        rw [Nat.gcd_zero_right] at hq
        exact hq
  exact go _ _ _ (Nat.le_refl _) h
theorem ratio_ok {a b : Int} {Q : Rt → Prop} (hb : b ≠ 0) (hz : intBits b ≤ 9000) (h : Q (rt (Rat.divInt a b))) : w_Ratio_init a b Q E := by
  unfold w_Ratio_init
  refine ite_f (decide_eq_false hb) (common_ok ?_)
  have hd : DivOk (OT.gs a b) := ⟨OT.gs_ne hb, OT.log2_lt_of_bits (OT.bits_gs hb hz) (by decide)⟩
  have e : rt (Rat.divInt a b) = ⟨a.fdiv (OT.gs a b), b.fdiv (OT.gs a b)⟩ := by rw [OT.top_ok hb, OT.bot_ok hb]; rfl
  rw [e] at h
  have go : ∀ g : Int, g = OT.gs a b → DivOk g ∧ DivOk g ∧ Q ⟨a.fdiv g, b.fdiv g⟩ := by rintro g rfl; exact ⟨hd, hd, h⟩
  refine W.ite_intro (fun hb => ?_) fun hb => ?_
  · exact go (-(Int.gcd a b : Int)) (by unfold OT.gs; rw [if_pos (of_decide_eq_true hb)])
  · exact go (Int.gcd a b : Int) (by unfold OT.gs; rw [if_neg (of_decide_eq_false hb)])
theorem whole_ok {n : Int} {Q : Rt → Prop} (h : Q (rt (n : Rat))) : w_Ratio_whole n Q E := by
  unfold w_Ratio_whole
  refine ratio_ok (by decide) (by decide) ?_
  have e : Rat.divInt n 1 = (n : Rat) := Rat.num_divInt_den (n : Rat)
  rw [e]
  exact h
theorem radd_ok {q r : Rat} {Q : Rt → Prop} (hq : Fit 4000 q) (hr : Fit 4000 r) (h : Q (rt (q + r))) : w_Ratio_add (rt q) (rt r) Q E := by
  unfold w_Ratio_add
  refine ⟨mulOk hq.1 hr.2, mulOk hr.1 hq.2, mulOk hq.2 hr.2, ratio_ok (OT.den_mul_ne q r) (Nat.le_trans (intBits_mul_le hq.2 hr.2) (by decide)) ?_⟩
  show Q (rt (Rat.divInt (q.num * r.den + r.num * q.den) (q.den * r.den)))
  rw [OT.rat_add]
  exact h
theorem under_ok {q r : Rat} {Q : Bool → Prop} (hq : Fit 4000 q) (hr : Fit 4000 r) (h : Q (decide (q < r))) : w_Ratio_under (rt q) (rt r) Q E := by
  unfold w_Ratio_under
  refine ⟨mulOk hq.1 hr.2, mulOk hr.1 hq.2, ?_⟩
  show Q (decide (q.num * (r.den : Int) < r.num * (q.den : Int)))
  rw [decide_eq_decide.mpr under_iff]
  exact h
theorem total_ok {qs : List Rat} {Q : Rt → Prop} (h1 : ∀ q ∈ qs, Fit 4000 q) (h2 : ∀ pre post, qs = pre ++ post → Fit 4000 (rsum pre)) (h : Q (rt (rsum qs))) : w_total (qs.map rt) Q E := by
  unfold w_total
  refine whole_ok ?_
  refine W.loop_pre (fun pre (s : Rt) => ∃ ql qr, qs = ql ++ qr ∧ pre = ql.map rt ∧ s = rt (rsum ql)) (qs.map rt) ?_ ?_ _ ⟨[], qs, rfl, rfl, rfl⟩
  · rintro pre x post s K e ⟨ql, qr, e1, rfl, rfl⟩ kk
    rw [e1, List.map_append] at e
    have e2 := List.append_cancel_left e
    match qr, e2, e1 with
    | q :: qr, e2, e1 =>
      rw [List.map_cons, List.cons.injEq] at e2
      obtain ⟨rfl, _⟩ := e2
      refine radd_ok (h2 _ _ e1) (h1 q (by rw [e1]; simp)) (kk _ ⟨ql ++ [q], qr, by rw [e1]; simp, by simp, ?_⟩)
      rw [rsum_snoc]
  · rintro s ⟨ql, qr, e1, e2, rfl⟩
    have : qs.length = ql.length := by have := congrArg List.length e2; simpa using this
    have hr : qr = [] := by
      rw [e1, List.length_append] at this
      exact List.eq_nil_of_length_eq_zero (by omega)
    subst hr
    rw [List.append_nil] at e1
    subst e1
    exact h
end
end K62
namespace K62
open PySem L2 OW
open PySem.Builtin.Int (intBits)
open OT (Fit mulOk)
theorem whil_lt {τ : Type} {Z : Er → Prop} {c : τ → Wp Bool} {b : τ → (τ → Prop) → Prop} {k : τ → Prop} (I : Nat → τ → Prop) (h : ∀ n s (R : τ → Prop), I n s → (∀ m s', m < n → I m s' → R s') → c s (fun t => W.ite t (b s R) (k s)) Z) {n : Nat} {s : τ} (h0 : I n s) : W.whil Z c b k s := by
  have go : ∀ (N n : Nat) (s : τ), n ≤ N → I n s → W.whileN Z c b k (N + 1) s := by
    intro N
    induction N with
    | zero => exact fun n s hn hI => h n s _ hI fun m s' hm _ => absurd hm (by omega)
    | succ N ih => exact fun n s hn hI => h n s _ hI fun m s' hm hI' => ih m s' (by omega) hI'
  exact ⟨n + 1, go n n s (Nat.le_refl _) h0⟩
abbrev vq (D a : Int) : Rat := Rat.divInt a D
def dealF {α β : Type} : Nat → List (α × Int) → List (β × Int) → List (α × β × Int)
  | 0, _, _ => []
  | _ + 1, [], _ => []
  | _ + 1, _ :: _, [] => []
  | k + 1, (x, a) :: xs, (y, b) :: ys => (x, y, if b < a then b else a) :: dealF k (if a ≤ b then xs else (x, a - b) :: xs) (if b ≤ a then ys else (y, b - a) :: ys)
abbrev sI {α : Type} (l : List (α × Int)) : Int := isum (l.map fun q => q.2)
abbrev rts {α : Type} (D : Int) (l : List (α × Int)) : List (α × Rt) := l.map fun q => (q.1, rt (vq D q.2))
abbrev Pss {α : Type} (l : List (α × Int)) : Prop := ∀ q ∈ l, 0 < q.2
theorem sI_cons {α : Type} (q : α × Int) (l : List (α × Int)) : sI (q :: l) = q.2 + sI l := by
  show List.sum (_ :: _) = _ + List.sum _
  rw [List.sum_cons]
theorem sI_ge {α : Type} : ∀ {l : List (α × Int)}, Pss l → 0 ≤ sI l
  | [], _ => Int.le_refl _
  | q :: l, h => by
    have h1 := h q List.mem_cons_self
    have h2 := sI_ge (l := l) fun z hz => h z (List.mem_cons_of_mem _ hz)
    rw [sI_cons]
    omega
theorem Pss.tail {α : Type} {q : α × Int} {l : List (α × Int)} (h : Pss (q :: l)) : Pss l := fun z hz => h z (List.mem_cons_of_mem _ hz)
theorem Pss.head {α : Type} {q : α × Int} {l : List (α × Int)} (h : Pss (q :: l)) : 0 < q.2 := h q List.mem_cons_self
theorem Pss.cons {α : Type} {q : α × Int} {l : List (α × Int)} (h0 : 0 < q.2) (h : Pss l) : Pss (q :: l) := fun z hz => by
  rcases List.mem_cons.mp hz with e | hz
  · rw [e]; exact h0
  · exact h z hz
theorem vq_inj {D a b : Int} (hD : 0 < D) : vq D a = vq D b ↔ a = b := by
  constructor
  · intro e
    have h1 : ¬ vq D a < vq D b := by rw [e]; exact Rat.lt_irrefl
    have h2 : ¬ vq D b < vq D a := by rw [e]; exact Rat.lt_irrefl
    rw [divInt_lt hD hD] at h1 h2
    have h1' : ¬ a < b := fun z => h1 (Int.mul_lt_mul_of_pos_right z hD)
    have h2' : ¬ b < a := fun z => h2 (Int.mul_lt_mul_of_pos_right z hD)
    omega
  · rintro rfl; rfl
theorem vq_lt {D a b : Int} (hD : 0 < D) : vq D a < vq D b ↔ a < b := by
  rw [divInt_lt hD hD]
  exact ⟨fun h => Int.lt_of_mul_lt_mul_right h (by omega), fun h => Int.mul_lt_mul_of_pos_right h hD⟩
theorem vq_zero {D : Int} : vq D 0 = 0 := by simp [vq]
theorem vq_sub {D a b : Int} (hD : 0 < D) : vq D a - vq D b = vq D (a - b) := by
  have e : vq D (a - b) + vq D b = vq D a := by rw [divInt_same (by omega)]; congr 1; omega
  rw [← e, Rat.add_sub_cancel]
section
variable {E : Er → Prop} {D M : Int}
theorem fitv (hD : 0 < D) (hD2 : D.natAbs < 2 ^ 3000) (hM : M.natAbs < 2 ^ 3000) {a : Int} (h0 : 0 ≤ a) (h1 : a ≤ M) : Fit 4000 (vq D a) := Ov.fit ⟨a, by omega, h1, rfl⟩ hD hD2 hM
theorem rsubv_ok (hD : 0 < D) (hD2 : D.natAbs < 2 ^ 3000) (hM : M.natAbs < 2 ^ 3000) {a b : Int} {Q : Rt → Prop} (a0 : 0 ≤ a) (a1 : a ≤ M) (b0 : 0 ≤ b) (b1 : b ≤ M) (h : Q (rt (vq D (a - b)))) : w_Ratio_sub (rt (vq D a)) (rt (vq D b)) Q E := by
  unfold w_Ratio_sub
  have hq := fitv hD hD2 hM a0 a1
  have hr := fitv hD hD2 hM b0 b1
  refine ⟨mulOk hq.1 hr.2, mulOk hr.1 hq.2, mulOk hq.2 hr.2, ratio_ok (OT.den_mul_ne _ _) (Nat.le_trans (intBits_mul_le hq.2 hr.2) (by decide)) ?_⟩
  show Q (rt (Rat.divInt ((vq D a).num * (vq D b).den - (vq D b).num * (vq D a).den) ((vq D a).den * (vq D b).den)))
  rw [OT.rat_sub, vq_sub hD]
  exact h
theorem req2_ok {q r : Rat} {Q : Bool → Prop} (h : Q (decide (q = r))) : w_Ratio_eq (rt q) (rt r) Q E := by
  unfold w_Ratio_eq
  show Q (true && (decide (q.num = r.num) && decide ((q.den : Int) = (r.den : Int))))
  have e : (true && (decide (q.num = r.num) && decide ((q.den : Int) = (r.den : Int)))) = decide (q = r) := by
    by_cases e : q = r
    · subst e; simp
    · rw [decide_eq_false e]
      by_cases h1 : q.num = r.num
      · have h2 : ¬ (q.den : Int) = (r.den : Int) := fun z => e (Rat.ext h1 (by omega))
        rw [decide_eq_false h2]; simp
      · rw [decide_eq_false h1]; simp
  rw [e]
  exact h
theorem rboolv_ok (hD : 0 < D) {a : Int} {Q : Bool → Prop} (h : Q (decide (a ≠ 0))) : w_Ratio_bool (rt (vq D a)) Q E := by
  unfold w_Ratio_bool
  show Q ((vq D a).num != 0)
  have e : ((vq D a).num != 0) = decide (a ≠ 0) := by
    have e1 : (vq D a).num = 0 ↔ a = 0 := by
      rw [Rat.num_eq_zero, ← vq_zero (D := D), vq_inj hD]
    by_cases ha : a = 0
    · rw [e1.mpr ha]; simp [ha]
    · have : ¬ (vq D a).num = 0 := fun z => ha (e1.mp z)
      simp [this, ha]
  rw [e]
  exact h
theorem totv_ok {α : Type} (hD : 0 < D) (hD2 : D.natAbs < 2 ^ 3000) (hM : M.natAbs < 2 ^ 3000) {l : List (α × Int)} {Q : Rt → Prop} (hp : Pss l) (hs : sI l ≤ M) (h : Q (rt (vq D (sI l)))) : w_total (((rts D l).filter fun _ => true).map fun q => q.2) Q E := by
  have e : (((rts D l).filter fun _ => true).map fun q => q.2) = (l.map fun q => vq D q.2).map rt := by
    rw [filter_tt, List.map_map, List.map_map]
    rfl
  have hpre : ∀ l1 l2 : List (α × Int), l = l1 ++ l2 → 0 ≤ sI l1 ∧ sI l1 ≤ M := by
    rintro l1 l2 rfl
    have p1 : Pss l1 := fun z hz => hp z (List.mem_append_left _ hz)
    have p2 : Pss l2 := fun z hz => hp z (List.mem_append_right _ hz)
    have e2 : sI (l1 ++ l2) = sI l1 + sI l2 := by
      show List.sum ((l1 ++ l2).map _) = List.sum _ + List.sum _
      rw [List.map_append, List.sum_append]
    have := sI_ge p1
    have := sI_ge p2
    omega
  rw [e]
  refine total_ok (fun q hq => ?_) (fun pre post he => ?_) ?_
  · obtain ⟨z, hz, rfl⟩ := List.mem_map.mp hq
    obtain ⟨l1, l2, rfl⟩ := List.append_of_mem hz
    have h1 := hpre (l1 ++ [z]) l2 (by simp)
    have h2 := hpre l1 (z :: l2) rfl
    have e3 : sI (l1 ++ [z]) = sI l1 + z.2 := by
      show List.sum ((l1 ++ [z]).map _) = List.sum _ + _
      rw [List.map_append, List.sum_append]
      simp
    exact fitv hD hD2 hM (by have := hp z hz; omega) (by omega)
  · obtain ⟨l1, l2, e1, rfl, rfl⟩ := List.map_eq_append_iff.mp he
    have h1 := hpre l1 l2 e1
    rw [rsum_div (f := fun q : α × Int => q.2) (by omega)]
    exact fitv hD hD2 hM h1.1 h1.2
  · rw [rsum_div (f := fun q : α × Int => q.2) (by omega)]
    exact h
end
theorem sel_get {α : Type} {l : List α} {i : Int} {x y : α} {bb : Bool} {P : α → Prop} {E : Er → Prop} (hx : atI l i = some x) (h : P (if bb then x else y)) : W.sel bb (W.get l i) (W.ret y) P E := by
  cases bb
  · exact ite_f rfl h
  · exact ite_t rfl ⟨x, hx, h⟩
theorem set_mid {α : Type} (j : List α) (x y : α) (r : List α) : (j ++ x :: r).set j.length y = j ++ y :: r := by
  rw [List.set_append_right _ _ (Nat.le_refl _), Nat.sub_self]
  rfl
theorem at_mid {α : Type} (j : List α) (x : α) (r : List α) : atI (j ++ x :: r) (j.length : Int) = some x := OW.atI_nat (by rw [List.getElem?_append_right (Nat.le_refl _), Nat.sub_self]; rfl)
section
variable {E : Er → Prop} {D M : Int}
abbrev dg (D : Int) : Dz × Dz × Int → Dz × Dz × Rt := fun q => (q.1, q.2.1, rt (vq D q.2.2))
theorem dealt_ok (hD : 0 < D) (hD2 : D.natAbs < 2 ^ 3000) (hM : M.natAbs < 2 ^ 3000) {first second : List (Dz × Int)} {Q : List (Dz × Dz × Rt) → Prop} (p1 : Pss first) (p2 : Pss second) (s1 : sI first ≤ M) (s2 : sI second ≤ M) (l1 : first.length ≤ 1000) (l2 : second.length ≤ 1000)
    (hne : sI first ≠ sI second → E (.badShares (rt (vq D (sI second))))) (heq : sI first = sI second → Q ((dealF (first.length + second.length) first second).map (dg D))) : w_dealt (rts D first) (rts D second) Q E := by
  unfold w_dealt
  have hl1 : (rts D first).length ≤ 100000 := by rw [List.length_map]; omega
  have hl2 : (rts D second).length ≤ 100000 := by rw [List.length_map]; omega
  refine ⟨hl1, totv_ok hD hD2 hM p1 s1 ⟨hl2, totv_ok hD hD2 hM p2 s2 (req2_ok ?_)⟩⟩
  rw [show decide (vq D (sI first) = vq D (sI second)) = decide (sI first = sI second) from decide_eq_decide.mpr (vq_inj hD)]
  refine W.ite_intro (fun hb => ?_) fun hb => ?_
  · have hb' : sI first ≠ sI second := by simpa using hb
    exact ⟨hl2, totv_ok hD hD2 hM p2 s2 (hne hb')⟩
  have hb' : sI first = sI second := by simpa using hb
  refine ⟨hl2, ?_⟩
  have e3 : (((rts D second).filter fun _ => true).map fun q => q.2) = second.map fun q => rt (vq D q.2) := by
    rw [filter_tt, List.map_map]
    rfl
  rw [e3]
  show W.loop _ _ (rts D first) (second.map (fun q => rt (vq D q.2)), ([] : List (Dz × Dz × Rt)), (0 : Int))
  refine W.loop_pre (fun pre (st : List Rt × List (Dz × Dz × Rt) × Int) => ∃ (post R : List (Dz × Int)) (junk : List Rt) (jn : List Dz) (k : Nat), rts D first = pre ++ rts D post ∧ Pss post ∧ Pss R ∧ sI R ≤ M ∧ sI post = sI R ∧ second.map (fun q => q.1) = jn ++ R.map (fun q => q.1) ∧ jn.length = junk.length ∧ post.length + R.length ≤ k ∧ st.2.1.length + k ≤ 2000 ∧ Q (st.2.1 ++ (dealF k post R).map (dg D)) ∧ st.1 = junk ++ R.map (fun q => rt (vq D q.2)) ∧ st.2.2 = (junk.length : Int)) (rts D first) ?_ ?_ _ ⟨first, second, [], [], first.length + second.length, rfl, p1, p2, s2, hb', rfl, rfl, Nat.le_refl _, by show 0 + _ ≤ _; omega, heq hb', rfl, rfl⟩
  · rintro pre xr postr ⟨left, found, at0⟩ K e ⟨post0, R, junk, jn, k, e0, pp, pR, sM, se, hn, hj, hk, hf, hq, el, ea⟩ kk
    rw [e0] at e
    have e4 := List.append_cancel_left e
    match post0, e4, e0, pp, se, hk, hq with
    | (x, s) :: post, e4, e0, pp, se, hk, hq =>
      have e4 : (x, rt (vq D s)) :: rts D post = xr :: postr := e4
      rw [List.cons.injEq] at e4
      obtain ⟨rfl, e5⟩ := e4
      have el : left = junk ++ R.map (fun q => rt (vq D q.2)) := el
      have ea : at0 = (junk.length : Int) := ea
      subst el ea
      refine whil_lt (fun n (st : List (Dz × Dz × Rt) × Rt × List Rt × Int) => ∃ (s : Int) (R : List (Dz × Int)) (junk : List Rt) (jn : List Dz) (k : Nat), 0 ≤ s ∧ Pss R ∧ sI R ≤ M ∧ s + sI post = sI R ∧ second.map (fun q => q.1) = jn ++ R.map (fun q => q.1) ∧ jn.length = junk.length ∧ (if s = 0 then post else (x, s) :: post).length + R.length ≤ k ∧ st.1.length + k ≤ 2000 ∧ Q (st.1 ++ (dealF k (if s = 0 then post else (x, s) :: post) R).map (dg D)) ∧ st.2.1 = rt (vq D s) ∧ st.2.2.1 = junk ++ R.map (fun q => rt (vq D q.2)) ∧ st.2.2.2 = (junk.length : Int) ∧ R.length + (if s = 0 then 0 else 1) ≤ n) (n := R.length + 1) ?_ ?_
      · rintro n ⟨fd, sh, lf, aa⟩ Rk ⟨s, R, junk, jn, k, s0, pR, sM, se, hn, hj, hk, hf, hq, e6, e7, e8, hm⟩ kn
        have e6 : sh = rt (vq D s) := e6
        have e7 : lf = junk ++ R.map (fun q => rt (vq D q.2)) := e7
        have e8 : aa = (junk.length : Int) := e8
        subst e6 e7 e8
        refine rboolv_ok hD (W.ite_intro (fun hs => ?_) fun hs => ?_)
        · have hs : s ≠ 0 := of_decide_eq_true hs
          have ps := pp.tail
          have := sI_ge ps
          rw [if_neg hs] at hk hq hm
          cases R with
          | nil => exact absurd se (by show ¬ s + sI post = 0; omega)
          | cons yb R =>
            obtain ⟨y, b⟩ := yb
            have hb0 : 0 < b := pR.head
            have pR' : Pss R := pR.tail
            have hR := sI_ge pR'
            rw [sI_cons] at se sM
            have se : s + sI post = b + sI R := se
            have sM : b + sI R ≤ M := sM
            have hat : atI (junk ++ ((y, b) :: R).map (fun q => rt (vq D q.2))) (junk.length : Int) = some (rt (vq D b)) := at_mid _ _ _
            cases k with
            | zero => simp at hk
            | succ k =>
              refine ⟨_, hat, under_ok (fitv hD hD2 hM (by omega) (by omega)) (fitv hD hD2 hM (by omega) (by omega)) (sel_get hat ?_)⟩
              rw [decide_eq_decide.mpr (vq_lt hD)]
              have ep : (if decide (b < s) = true then rt (vq D b) else rt (vq D s)) = rt (vq D (if b < s then b else s)) := by
                by_cases c : b < s
                · rw [if_pos (decide_eq_true c), if_pos c]
                · rw [if_neg (by rw [decide_eq_false c]; decide), if_neg c]
              rw [ep]
              obtain ⟨p, hp⟩ : ∃ p, p = if b < s then b else s := ⟨_, rfl⟩
              have q0 : 0 ≤ p ∧ p ≤ b ∧ p ≤ s := by rw [hp]; split <;> omega
              rw [← hp]
              have hz : ∃ z, (rts D second)[junk.length]? = some z ∧ z.1 = y := by
                have h1 : (second.map (fun q => q.1))[junk.length]? = some y := by
                  rw [hn, ← hj, List.getElem?_append_right (Nat.le_refl _), Nat.sub_self]
                  rfl
                rw [List.getElem?_map] at h1
                cases h2 : second[junk.length]? with
                | none => rw [h2] at h1; cases h1
                | some z =>
                  rw [h2] at h1
                  exact ⟨(z.1, rt (vq D z.2)), by rw [List.getElem?_map, h2]; rfl, Option.some.inj h1⟩
              obtain ⟨z, hz1, rfl⟩ := hz
              refine ⟨z, OW.atI_nat hz1, by show fd.length < 100000; have hf : fd.length + (k + 1) ≤ 2000 := hf; omega, ?_⟩
              refine rsubv_ok hD hD2 hM (by omega) (by omega) (by omega) (by omega) ?_
              refine ⟨_, hat, rsubv_ok hD hD2 hM (by omega) (by omega) (by omega) (by omega) ⟨junk.length, ?_, ?_⟩⟩
              · show ixN (junk ++ ((z.1, b) :: R).map (fun q => rt (vq D q.2))).length (junk.length : Int) = some junk.length
                unfold ixN
                rw [if_pos (by omega), if_pos (by rw [List.length_append, List.map_cons, List.length_cons]; omega)]
                rfl
              have eset : (junk ++ ((z.1, b) :: R).map (fun q => rt (vq D q.2))).set junk.length (rt (vq D (b - p))) = junk ++ ((z.1, b - p) :: R).map (fun q => rt (vq D q.2)) := set_mid _ _ _ _
              show W.jn _ _
              unfold W.jn
              rw [eset]
              refine ⟨rt (vq D (b - p)), at_mid _ _ _, rboolv_ok hD ?_⟩
              have hlen : (fd ++ [(x, z.1, rt (vq D p))]).length + k ≤ 2000 := by
                rw [List.length_append]
                have hf : fd.length + (k + 1) ≤ 2000 := hf
                show fd.length + 1 + k ≤ 2000
                omega
              have hk : post.length + 1 + (R.length + 1) ≤ k + 1 := hk
              have hm : R.length + 1 + 1 ≤ n := hm
              have hq' : ∀ L R', (if s ≤ b then post else (x, s - b) :: post) = L → (if b ≤ s then R else (z.1, b - s) :: R) = R' → Q ((fd ++ [(x, z.1, rt (vq D p))]) ++ (dealF k L R').map (dg D)) := by
                rintro L R' rfl rfl
                have e9 : dealF (k + 1) ((x, s) :: post) ((z.1, b) :: R) = (x, z.1, if b < s then b else s) :: dealF k (if s ≤ b then post else (x, s - b) :: post) (if b ≤ s then R else (z.1, b - s) :: R) := rfl
                rw [e9, ← hp] at hq
                rw [List.append_assoc]
                exact hq
              refine W.ite_intro (fun hc => ?_) fun hc => ?_
              · have hc' : b = p := by
                  have : ¬ (b - p ≠ 0) := by simpa using hc
                  omega
                have hbs : b ≤ s := by omega
                show Rk _
                refine kn (n - 1) _ (by omega) ⟨s - p, R, junk ++ [rt (vq D (b - p))], jn ++ [z.1], k, by omega, pR', by omega, by omega, by rw [hn]; simp, by simp [hj], ?_, hlen, ?_, rfl, by show _ = _; simp, by simp, ?_⟩
                · split
                  · omega
                  · show post.length + 1 + _ ≤ _; omega
                · refine hq' _ _ ?_ (if_pos hbs)
                  by_cases c : s ≤ b
                  · rw [if_pos c, if_pos (by omega)]
                  · rw [if_neg c, if_neg (by omega), hc']
                · split <;> omega
              · have hc' : b - p ≠ 0 := by simpa using hc
                have hps : p = s ∧ s < b := by
                  by_cases c : b < s
                  · rw [if_pos c] at hp; omega
                  · rw [if_neg c] at hp; omega
                obtain ⟨rfl, hlt⟩ := hps
                show Rk _
                refine kn (n - 1) _ (by omega) ⟨p - p, (z.1, b - p) :: R, junk, jn, k, by omega, Pss.cons (by show 0 < b - p; omega) pR', by rw [sI_cons]; show b - p + sI R ≤ M; omega, by rw [sI_cons]; show p - p + sI post = b - p + sI R; omega, hn, hj, ?_, hlen, ?_, rfl, rfl, rfl, ?_⟩
                · rw [if_pos (by omega)]
                  show post.length + (R.length + 1) ≤ k
                  omega
                · refine hq' _ _ ?_ (if_neg (by omega))
                  rw [if_pos (by omega), if_pos (by omega)]
                · rw [if_pos (by omega)]
                  show R.length + 1 + 0 ≤ n - 1
                  omega
        · have hs : s = 0 := by
            have : ¬ (s ≠ 0) := of_decide_eq_false hs
            omega
          subst hs
          rw [if_pos rfl] at hk hq
          exact kk _ ⟨post, R, junk, jn, k, by rw [e0]; simp, pp.tail, pR, sM, by omega, hn, hj, hk, hf, hq, rfl, rfl⟩
      · have hs : 0 < s := pp.head
        refine ⟨s, R, junk, jn, k, by omega, pR, sM, by rw [← se, sI_cons], hn, hj, ?_, hf, ?_, rfl, rfl, rfl, ?_⟩
        · rw [if_neg (by omega)]; exact hk
        · rw [if_neg (by omega)]; exact hq
        · rw [if_neg (by omega)]; omega
  · rintro ⟨left, found, at0⟩ ⟨post, R, junk, jn, k, e0, pp, pR, sM, se, hn, hj, hk, hf, hq, el, ea⟩
    have hl : post = [] := by
      have e0 : rts D first = rts D first ++ rts D post := e0
      exact List.map_eq_nil_iff.mp (List.self_eq_append_right.mp e0)
    subst hl
    have : dealF k ([] : List (Dz × Int)) R = [] := by cases k <;> rfl
    rw [this, List.map_nil, List.append_nil] at hq
    exact hq
end
end K62
namespace K62
open PySem L2 OW
open PySem.Builtin.Int (intBits)
open OT (Fit mulOk)
def frN (q : Rat) : Int × Int := (q.num, (q.den : Int))
theorem frN_inj {q r : Rat} (h : frN q = frN r) : q = r := by
  have h1 : q.num = r.num := congrArg (fun z : Int × Int => z.1) h
  have h2 : (q.den : Int) = (r.den : Int) := congrArg (fun z : Int × Int => z.2) h
  exact Rat.ext h1 (by omega)
section
variable {E : Er → Prop} {D M : Int}
theorem frac_ok {a b : Int} {Q : Int × Int → Prop} (hb : 0 < b) (hz : intBits b ≤ 8000) (h : Q (frN (Rat.divInt a b))) : w_l_frac a b Q E := by
  unfold w_l_frac
  have hg : OT.gs a b = ((Nat.gcd a.natAbs b.natAbs : Nat) : Int) := by
    unfold OT.gs
    rw [if_neg (by omega)]
    rfl
  have hd : DivOk (OT.gs a b) := ⟨OT.gs_ne (by omega), OT.log2_lt_of_bits (OT.bits_gs (by omega) (Nat.le_trans hz (by decide))) (by decide)⟩
  have fin : ∀ g : Int, g = OT.gs a b → DivOk g ∧ DivOk g ∧ Q (a.fdiv g, b.fdiv g) := by
    rintro g rfl
    rw [OT.top_ok (by omega), OT.bot_ok (by omega)]
    exact ⟨hd, hd, h⟩
  refine whil_lt (fun n (st : Int × Int) => ∃ x y : Nat, st = ((x : Int), (y : Int)) ∧ y ≤ n ∧ Nat.gcd x y = Nat.gcd a.natAbs b.natAbs) (n := b.natAbs) ?_ ⟨_, _, rfl, Nat.le_refl _, rfl⟩
  rintro n _ R ⟨x, y, rfl, hy, hq⟩ hR
  show W.ite (!decide ((y : Int) = 0)) _ _
  refine W.ite_intro (fun hb => ?_) fun hb => ?_
  · have hy0 : y ≠ 0 := by simpa using hb
    refine ⟨by show (y : Int) ≠ 0; omega, ?_⟩
    show R ((y : Int), (x : Int).fmod (y : Int))
    rw [OT.fmod_nat]
    exact hR (n - 1) _ (by omega) ⟨_, _, rfl, by have := Nat.mod_lt x (Nat.pos_of_ne_zero hy0); omega, by rw [OT.gcd_step]; exact hq⟩
  · have hy0 : y = 0 := by simpa using hb
    subst hy0
    rw [Nat.gcd_zero_right] at hq
    exact fin _ (by rw [hg, hq])
theorem den_pos' (q r : Rat) : 0 < (q.den : Int) * (r.den : Int) := Int.mul_pos (by have := q.den_pos; omega) (by have := r.den_pos; omega)
theorem l_add_ok {q r : Rat} {Q : Int × Int → Prop} (hq : Fit 4000 q) (hr : Fit 4000 r) (h : Q (frN (q + r))) : w_l_add (frN q) (frN r) Q E := by
  unfold w_l_add
  refine ⟨mulOk hq.1 hr.2, mulOk hr.1 hq.2, mulOk hq.2 hr.2, frac_ok (den_pos' q r) (Nat.le_trans (intBits_mul_le hq.2 hr.2) (by decide)) ?_⟩
  show Q (frN (Rat.divInt (q.num * r.den + r.num * q.den) (q.den * r.den)))
  rw [OT.rat_add]
  exact h
theorem l_less_ok {q r : Rat} {Q : Bool → Prop} (hq : Fit 4000 q) (hr : Fit 4000 r) (h : Q (decide (q < r))) : w_l_less (frN q) (frN r) Q E := by
  unfold w_l_less
  refine ⟨mulOk hq.1 hr.2, mulOk hr.1 hq.2, ?_⟩
  show Q (decide (q.num * (r.den : Int) < r.num * (q.den : Int)))
  rw [decide_eq_decide.mpr under_iff]
  exact h
abbrev frs {α : Type} (D : Int) (l : List (α × Int)) : List (α × (Int × Int)) := l.map fun q => (q.1, frN (vq D q.2))
theorem l_sum_ok (hD : 0 < D) (hD2 : D.natAbs < 2 ^ 3000) (hM : M.natAbs < 2 ^ 3000) {l : List (Dz × Int)} {Q : Int × Int → Prop} (hp : Pss l) (hs : sI l ≤ M) (h : Q (frN (vq D (sI l)))) : w_l_sum (frs D l) Q E := by
  unfold w_l_sum
  show W.loop _ _ (frs D l) ((0 : Int), (1 : Int))
  refine W.loop_pre (fun pre (st : Int × Int) => ∃ (post : List (Dz × Int)) (a : Int), frs D l = pre ++ frs D post ∧ Pss post ∧ 0 ≤ a ∧ a + sI post = sI l ∧ st = frN (vq D a)) (frs D l) ?_ ?_ _ ⟨l, 0, rfl, hp, Int.le_refl _, by omega, by rw [vq_zero]; rfl⟩
  · rintro pre x postr st K e ⟨post0, a, e0, pp, a0, ha, rfl⟩ kk
    rw [e0] at e
    have e4 := List.append_cancel_left e
    match post0, e4, e0, pp, ha with
    | (x, s) :: post, e4, e0, pp, ha =>
      have e4 : (x, frN (vq D s)) :: frs D post = _ :: postr := e4
      rw [List.cons.injEq] at e4
      obtain ⟨rfl, e5⟩ := e4
      rw [sI_cons] at ha
      have ha : a + (s + sI post) = sI l := ha
      have := sI_ge pp.tail
      have hs0 : 0 < s := pp.head
      refine l_add_ok (fitv hD hD2 hM a0 (by omega)) (fitv hD hD2 hM (by omega) (by omega)) ?_
      rw [divInt_same (by omega)]
      exact kk _ ⟨post, a + s, by rw [e0]; simp, pp.tail, by omega, by omega, rfl⟩
  · rintro st ⟨post, a, e0, pp, a0, ha, rfl⟩
    have hl : post = [] := List.map_eq_nil_iff.mp (List.self_eq_append_right.mp e0)
    subst hl
    have ha : a + 0 = sI l := ha
    rw [show a = sI l by omega]
    exact h
theorem l_subv_ok (hD : 0 < D) (hD2 : D.natAbs < 2 ^ 3000) (hM : M.natAbs < 2 ^ 3000) {a b : Int} {Q : Int × Int → Prop} (a0 : 0 ≤ a) (a1 : a ≤ M) (b0 : 0 ≤ b) (b1 : b ≤ M) (h : Q (frN (vq D (a - b)))) : w_l_add (frN (vq D a)) (-(frN (vq D b)).1, (frN (vq D b)).2) Q E := by
  have e : (-(frN (vq D b)).1, (frN (vq D b)).2) = frN (vq D (-b)) := by
    show _ = frN (Rat.divInt (-b) D)
    rw [← Rat.neg_divInt]
    rfl
  rw [e]
  refine l_add_ok (fitv hD hD2 hM a0 a1) (Ov.fit ⟨-b, by omega, by omega, rfl⟩ hD hD2 hM) ?_
  rw [divInt_same (by omega)]
  exact h
abbrev fz (q : Int × Int) : Dz := Dz.t [Dz.i q.1, Dz.i q.2]
abbrev dgf (D : Int) : Dz × Dz × Int → Dz × Dz × (Int × Int) := fun q => (q.1, q.2.1, frN (vq D q.2.2))
abbrev tz : Dz × Dz × (Int × Int) → Dz := fun q => Dz.t [q.1, q.2.1, fz q.2.2]
abbrev lz (D : Int) (l : List (Dz × Int)) : List (List Dz) := l.map fun q => [q.1, fz (frN (vq D q.2))]
theorem sel_two {α : Type} {w w' : Wp α} {x y : α} {bb : Bool} {P : α → Prop} (h1 : ∀ P : α → Prop, P x → w P E) (h2 : ∀ P : α → Prop, P y → w' P E) (h : P (if bb then x else y)) : W.sel bb w w' P E := by
  cases bb
  · exact ite_f rfl (h2 _ h)
  · exact ite_t rfl (h1 _ h)
theorem dealF_nil {α β : Type} {k : Nat} {R : List (β × Int)} : dealF k ([] : List (α × Int)) R = [] := by cases k <;> rfl
theorem num_zero (hD : 0 < D) {a : Int} : (vq D a).num = 0 ↔ a = 0 := by rw [Rat.num_eq_zero, ← vq_zero (D := D), vq_inj hD]
theorem l_due_ok (hD : 0 < D) (hD2 : D.natAbs < 2 ^ 3000) (hM : M.natAbs < 2 ^ 3000) {first second : List (Dz × Int)} {Q : List Dz → Prop} (p1 : Pss first) (p2 : Pss second) (s1 : sI first ≤ M) (s2 : sI second ≤ M) (l1 : first.length ≤ 1000) (l2 : second.length ≤ 1000)
    (hne : sI first ≠ sI second → Q [Dz.s ("shares" : Str), fz (frN (vq D (sI second)))]) (heq : sI first = sI second → Q [Dz.s ("told" : Str), Dz.l (((dealF (first.length + second.length) first second).map (dgf D)).map tz)]) : w_l_due (frs D first) (frs D second) Q E := by
  unfold w_l_due
  refine l_sum_ok hD hD2 hM p1 s1 (l_sum_ok hD hD2 hM p2 s2 ?_)
  have ed : decide (frN (vq D (sI first)) = frN (vq D (sI second))) = decide (sI first = sI second) := decide_eq_decide.mpr ⟨fun e => (vq_inj hD).mp (frN_inj e), fun e => by rw [e]⟩
  show W.ite (!decide (frN (vq D (sI first)) = frN (vq D (sI second)))) _ _
  rw [ed]
  refine W.ite_intro (fun hb => ?_) fun hb => ?_
  · have hb' : sI first ≠ sI second := by simpa using hb
    exact l_sum_ok hD hD2 hM p2 s2 (hne hb')
  have hb' : sI first = sI second := by simpa using hb
  have ez : ∀ l : List (Dz × Int), ((frs D l).filter fun _ => true).map (fun row_here : Dz × (Int × Int) => [row_here.1, Dz.t [Dz.i row_here.2.1, Dz.i row_here.2.2]]) = lz D l := fun l => by
    rw [filter_tt, List.map_map]
    rfl
  refine ⟨by rw [List.length_map]; omega, by rw [List.length_map]; omega, fun ul ur => ?_⟩
  rw [ez first, ez second]
  refine ⟨by unfold OW.RgOk; rw [List.length_map, List.length_map]; omega, ?_⟩
  have elen : (((frs D first).length : Int) + ((frs D second).length : Int)) = ((first.length + second.length : Nat) : Int) := by rw [List.length_map, List.length_map]; omega
  rw [elen]
  show W.loop _ _ (rng 0 ((first.length + second.length : Nat) : Int)) (([] : List (Dz × Dz × (Int × Int))), (ul, lz D first), (ur, lz D second))
  have erl : (rng 0 ((first.length + second.length : Nat) : Int)).length = first.length + second.length := by simp [rng]; omega
  obtain ⟨tot, etot⟩ : ∃ t, t = (dealF (first.length + second.length) first second).map (dgf D) := ⟨_, rfl⟩
  refine W.loop_pre (fun pre (st : List (Dz × Dz × (Int × Int)) × (V × List (List Dz)) × (V × List (List Dz))) => ∃ (L R : List (Dz × Int)) (k : Nat), pre.length + k = first.length + second.length ∧ Pss L ∧ Pss R ∧ sI L ≤ M ∧ sI L = sI R ∧ L.length + R.length ≤ k ∧ st.1 ++ (dealF k L R).map (dgf D) = tot ∧ st.1.length + k ≤ 2000 ∧ st.2.1.2 = lz D L ∧ st.2.2.2 = lz D R) _ ?_ ?_ _ ⟨first, second, _, Nat.zero_add _, p1, p2, s1, hb', Nat.le_refl _, etot.symm, by show 0 + _ ≤ _; omega, rfl, rfl⟩
  · rintro pre x post ⟨fd, ⟨u1, L0⟩, ⟨u2, R0⟩⟩ K e ⟨L, R, k, hk, pL, pR, sM, se, hlk, htot, hfk, e1, e2⟩ kk
    have e1 : L0 = lz D L := e1
    have e2 : R0 = lz D R := e2
    subst e1 e2
    have hk1 : 0 < k := by
      have := congrArg List.length e
      rw [erl, List.length_append, List.length_cons] at this
      omega
    cases k with
    | zero => omega
    | succ k =>
    have hpx : (pre ++ [x]).length + k = first.length + second.length := by rw [List.length_append, List.length_singleton]; omega
    have hfk : fd.length + (k + 1) ≤ 2000 := hfk
    cases L with
    | nil =>
      refine ite_f rfl (kk _ ⟨[], R, k, hpx, pL, pR, sM, se, ?_, ?_, by show fd.length + k ≤ 2000; omega, rfl, rfl⟩)
      · cases R with
        | nil => show 0 + 0 ≤ k; omega
        | cons q R =>
          have := sI_ge pR.tail
          have := pR.head
          rw [sI_cons] at se
          have se : 0 = q.2 + sI R := se
          omega
      · rw [dealF_nil] at htot ⊢
        exact htot
    | cons xa L =>
      obtain ⟨x1, a⟩ := xa
      cases R with
      | nil =>
        have := sI_ge pL.tail
        have := pL.head
        rw [sI_cons] at se
        have se : a + sI L = 0 := se
        have h1 : 0 < a := pL.head
        omega
      | cons yb R =>
        obtain ⟨y1, b⟩ := yb
        have pL' := pL.tail
        have pR' := pR.tail
        have a0 : 0 < a := pL.head
        have b0 : 0 < b := pR.head
        have hL0 := sI_ge pL'
        have hR0 := sI_ge pR'
        rw [sI_cons, sI_cons] at se
        rw [sI_cons] at sM
        have se : a + sI L = b + sI R := se
        have sM : a + sI L ≤ M := sM
        have fa := fitv hD hD2 hM (a := a) (by omega) (by omega)
        have fb := fitv hD hD2 hM (a := b) (by omega) (by omega)
        refine ite_t rfl ⟨_, _, _, rfl, rfl, frN (vq D a), rfl, _, _, _, rfl, rfl, frN (vq D b), rfl, l_less_ok fa fb (sel_two (x := frN (vq D a)) (y := frN (vq D b)) (fun P hp => ⟨_, _, _, rfl, rfl, _, rfl, hp⟩) (fun P hp => ⟨_, _, _, rfl, rfl, _, rfl, hp⟩) ?_)⟩
        rw [show decide (vq D a < vq D b) = decide (a < b) from decide_eq_decide.mpr (vq_lt hD)]
        have ep : (if decide (a < b) = true then frN (vq D a) else frN (vq D b)) = frN (vq D (if b < a then b else a)) := by
          by_cases c : a < b
          · rw [if_pos (decide_eq_true c), if_neg (by omega)]
          · rw [if_neg (by rw [decide_eq_false c]; decide)]
            by_cases c2 : b < a
            · rw [if_pos c2]
            · rw [if_neg c2, show a = b by omega]
        rw [ep]
        obtain ⟨p, hp⟩ : ∃ p, p = if b < a then b else a := ⟨_, rfl⟩
        have q0 : 0 < p ∧ p ≤ b ∧ p ≤ a ∧ (p = a ∨ p = b) := by rw [hp]; split <;> omega
        rw [← hp]
        refine ⟨_, _, _, rfl, rfl, _, _, _, rfl, rfl, by show fd.length < 100000; omega, ?_⟩
        refine ⟨_, _, _, rfl, rfl, frN (vq D a), rfl, l_subv_ok hD hD2 hM (by omega) (by omega) (by omega) (by omega) ⟨_, _, 1, rfl, rfl, ?_⟩⟩
        refine ⟨_, _, _, rfl, rfl, frN (vq D b), rfl, l_subv_ok hD hD2 hM (by omega) (by omega) (by omega) (by omega) ⟨_, _, 1, rfl, rfl, ?_⟩⟩
        have hdrop : ∀ (z : Dz) (c d : Int) (T : List (Dz × Int)), ∃ j : Nat, (if decide ((frN (vq D (c - p))).1 = 0) = true then (1 : Int) else 0) = (j : Int) ∧ j ≤ ((z, c - p) :: T).length ∧ (lz D ((z, c - p) :: T)).drop j = lz D (if c = p then T else (z, c - p) :: T) := fun z c d T => by
          by_cases h : c = p
          · have : (frN (vq D (c - p))).1 = 0 := (num_zero hD).mpr (by omega)
            exact ⟨1, by rw [decide_eq_true this]; rfl, by rw [List.length_cons]; omega, by rw [if_pos h]; rfl⟩
          · have : ¬ (frN (vq D (c - p))).1 = 0 := fun z => h (by have := (num_zero hD).mp z; omega)
            exact ⟨0, by rw [decide_eq_false this]; rfl, Nat.zero_le _, by rw [if_neg h]; rfl⟩
        obtain ⟨j1, f1, f2, f3⟩ := hdrop x1 a 0 L
        obtain ⟨j2, g1, g2, g3⟩ := hdrop y1 b 0 R
        refine ⟨_, _, _, rfl, rfl, frN (vq D (a - p)), rfl, j1, f1, by show j1 ≤ (lz D ((x1, a - p) :: L)).length; rw [List.length_map]; exact f2, fun _ => ⟨_, _, _, rfl, rfl, frN (vq D (b - p)), rfl, j2, g1, by show j2 ≤ (lz D ((y1, b - p) :: R)).length; rw [List.length_map]; exact g2, fun _ => ?_⟩⟩
        have hlk : L.length + 1 + (R.length + 1) ≤ k + 1 := hlk
        have eL : (if a ≤ b then L else (x1, a - b) :: L) = if a = p then L else (x1, a - p) :: L := by
          by_cases c : a ≤ b
          · rw [if_pos c, if_pos (by rw [hp]; split <;> omega)]
          · rw [if_neg c, if_neg (by omega), show p = b by omega]
        have eR : (if b ≤ a then R else (y1, b - a) :: R) = if b = p then R else (y1, b - p) :: R := by
          by_cases c : b ≤ a
          · rw [if_pos c, if_pos (by rw [hp]; split <;> omega)]
          · rw [if_neg c, if_neg (by omega), show p = a by omega]
        have e9 : dealF (k + 1) ((x1, a) :: L) ((y1, b) :: R) = (x1, y1, if b < a then b else a) :: dealF k (if a ≤ b then L else (x1, a - b) :: L) (if b ≤ a then R else (y1, b - a) :: R) := rfl
        rw [e9, ← hp, eL, eR] at htot
        refine kk _ ⟨if a = p then L else (x1, a - p) :: L, if b = p then R else (y1, b - p) :: R, k, hpx, ?_, ?_, ?_, ?_, ?_, ?_, ?_, f3, g3⟩
        · split
          · exact pL'
          · exact Pss.cons (by show 0 < a - p; omega) pL'
        · split
          · exact pR'
          · exact Pss.cons (by show 0 < b - p; omega) pR'
        · split
          · omega
          · rw [sI_cons]; show a - p + sI L ≤ M; omega
        · have h1 : sI (if a = p then L else (x1, a - p) :: L) = a - p + sI L := by
            split
            · omega
            · rw [sI_cons]
          have h2 : sI (if b = p then R else (y1, b - p) :: R) = b - p + sI R := by
            split
            · omega
            · rw [sI_cons]
          rw [h1, h2]
          omega
        · have h1 : (if a = p then L else (x1, a - p) :: L).length ≤ L.length + (if a = p then 0 else 1) := by
            split
            · exact Nat.le_refl _
            · exact Nat.le_refl _
          have h2 : (if b = p then R else (y1, b - p) :: R).length ≤ R.length + (if b = p then 0 else 1) := by
            split
            · exact Nat.le_refl _
            · exact Nat.le_refl _
          have h3 : (if a = p then 0 else 1) + (if b = p then 0 else 1) ≤ 1 := by
            rcases q0.2.2.2 with h | h
            · rw [if_pos h.symm]; split <;> omega
            · rw [if_pos (c := b = p) h.symm]; split <;> omega
          omega
        · show (fd ++ [(x1, y1, frN (vq D p))]) ++ _ = tot
          rw [List.append_assoc]
          exact htot
        · show (fd ++ [(x1, y1, frN (vq D p))]).length + k ≤ 2000
          rw [List.length_append, List.length_singleton]
          omega
  · rintro ⟨fd, ⟨u1, L0⟩, ⟨u2, R0⟩⟩ ⟨L, R, k, hk, pL, pR, sM, se, hlk, htot, hfk, e1, e2⟩
    have hk0 : k = 0 := by rw [erl] at hk; omega
    subst hk0
    have htot : fd ++ [] = tot := htot
    rw [List.append_nil] at htot
    have := heq hb'
    rw [← etot, ← htot] at this
    exact this
end
end K62
namespace K62
open PySem L2 OW
open PySem.Builtin.Int (intBits)
open OT (Fit mulOk)
theorem ltake {n : Nat} {l : Int} {Q : Int × Nat → Prop} {E : Er → Prop} (hn : n < 2 ^ 40) (h0 : 0 < l) (h1 : l ≤ 100000) (h : ∀ a, 0 ≤ a → a < l → Q (a, n + 1)) : w_l_take n l Q E := by
  unfold w_l_take
  exact takeN_ok hn h0 h1 h
theorem l_cell_ok {script : List Int} {k : Int} {Q : Int → Prop} {E : Er → Prop} (h0 : 0 ≤ k) (h : ∀ z, Q z) : w_l_cell script k Q E := by
  unfold w_l_cell
  refine W.ite_intro (fun hb => ?_) fun _ => h 0
  have hk : k < script.length := by simpa using hb
  exact getI_ok h0 hk fun x _ => h x
structure Th (x : Dz) : Prop where
  cmp : Dz.cmp x x = some true
  dep : x.dep ≤ 3
theorem cmp_zi (x : Int) : Dz.cmp (Dz.i x) (Dz.i x) = some true := by simp [Dz.cmp, Dz.flat, eqV]
theorem cmp_zs (x : Str) : Dz.cmp (Dz.s x) (Dz.s x) = some true := by simp [Dz.cmp, Dz.flat, eqV]
theorem cmps_self {m : Nat} : ∀ {l : List Dz}, (∀ x ∈ l, Dz.cmp x x = some true ∧ x.dep ≤ m) → Dz.cmps l l = some true ∧ Dz.deps l ≤ m
  | [], _ => ⟨by rw [Dz.cmps], Nat.zero_le _⟩
  | x :: l, h => by
    obtain ⟨h1, h2⟩ := h x List.mem_cons_self
    obtain ⟨h3, h4⟩ := cmps_self (l := l) fun y hy => h y (List.mem_cons_of_mem _ hy)
    refine ⟨by rw [Dz.cmps, h1, h3]; rfl, ?_⟩
    show max x.dep (Dz.deps l) ≤ m
    omega
theorem fz_self (q : Int × Int) : Dz.cmp (fz q) (fz q) = some true ∧ (fz q).dep ≤ 1 := by
  refine ⟨?_, Nat.le_refl _⟩
  show Dz.cmps _ _ = _
  exact (cmps_self (m := 0) fun x hx => by
    simp only [List.mem_cons, List.not_mem_nil, or_false] at hx
    rcases hx with rfl | rfl
    · exact ⟨cmp_zi _, Nat.le_refl _⟩
    · exact ⟨cmp_zi _, Nat.le_refl _⟩).1
theorem tz_self {q : Dz × Dz × (Int × Int)} (h1 : Th q.1) (h2 : Th q.2.1) : Dz.cmp (tz q) (tz q) = some true ∧ (tz q).dep ≤ 4 := by
  have := cmps_self (m := 3) (l := [q.1, q.2.1, fz q.2.2]) fun x hx => by
    simp only [List.mem_cons, List.not_mem_nil, or_false] at hx
    rcases hx with rfl | rfl | rfl
    · exact ⟨h1.cmp, h1.dep⟩
    · exact ⟨h2.cmp, h2.dep⟩
    · exact ⟨(fz_self _).1, Nat.le_trans (fz_self q.2.2).2 (by decide)⟩
  refine ⟨this.1, ?_⟩
  show Dz.deps _ + 1 ≤ 4
  omega
theorem two_self {t : Str} {x : Dz} (h : Dz.cmp x x = some true) (hd : x.dep ≤ 8) : Dz.cmpl [Dz.s t, x] [Dz.s t, x] = some true ∧ Dz.deps [Dz.s t, x] ≤ 8 := by
  have := cmps_self (m := 8) (l := [Dz.s t, x]) fun y hy => by
    simp only [List.mem_cons, List.not_mem_nil, or_false] at hy
    rcases hy with rfl | rfl
    · exact ⟨cmp_zs _, Nat.zero_le _⟩
    · exact ⟨h, hd⟩
  refine ⟨?_, this.2⟩
  show (if (2 : Nat) = 2 then _ else _) = some true
  rw [if_pos rfl]
  exact this.1
theorem dealF_mem {α β : Type} {p : α → Prop} {p' : β → Prop} : ∀ (k : Nat) (L : List (α × Int)) (R : List (β × Int)), (∀ z ∈ L, p z.1) → (∀ z ∈ R, p' z.1) → ∀ q ∈ dealF k L R, p q.1 ∧ p' q.2.1
  | 0, _, _, _, _, _, h => by cases h
  | _ + 1, [], _, _, _, _, h => by cases h
  | _ + 1, _ :: _, [], _, _, _, h => by cases h
  | k + 1, (x, a) :: xs, (y, b) :: ys, h1, h2, q, h => by
    rw [dealF] at h
    rcases List.mem_cons.mp h with rfl | h
    · exact ⟨h1 (x, a) List.mem_cons_self, h2 (y, b) List.mem_cons_self⟩
    · refine dealF_mem k _ _ ?_ ?_ q h
      · split
        · exact fun z hz => h1 z (List.mem_cons_of_mem _ hz)
        · intro z hz
          rcases List.mem_cons.mp hz with rfl | hz
          · exact h1 (x, a) List.mem_cons_self
          · exact h1 z (List.mem_cons_of_mem _ hz)
      · split
        · exact fun z hz => h2 z (List.mem_cons_of_mem _ hz)
        · intro z hz
          rcases List.mem_cons.mp hz with rfl | hz
          · exact h2 (y, b) List.mem_cons_self
          · exact h2 z (List.mem_cons_of_mem _ hz)
theorem dealF_len {α β : Type} : ∀ (k : Nat) (L : List (α × Int)) (R : List (β × Int)), (dealF k L R).length ≤ L.length + R.length - 1
  | 0, _, _ => Nat.zero_le _
  | _ + 1, [], _ => Nat.zero_le _
  | _ + 1, _ :: _, [] => Nat.zero_le _
  | k + 1, (x, a) :: xs, (y, b) :: ys => by
    rw [dealF, List.length_cons, List.length_cons, List.length_cons]
    by_cases c : a ≤ b
    · rw [if_pos c]
      by_cases d : b ≤ a
      · rw [if_pos d]
        have := dealF_len k xs ys
        omega
      · rw [if_neg d]
        have := dealF_len k xs ((y, b - a) :: ys)
        rw [List.length_cons] at this
        omega
    · rw [if_neg c, if_pos (by omega)]
      have := dealF_len k ((x, a - b) :: xs) ys
      rw [List.length_cons] at this
      omega
section
variable {E : Er → Prop}
abbrev thgs : List Dz := [(Dz.s ("x" : Str)), (Dz.i (1 : Int)), ((fun _ : Unit => Dz.n) ()), ((fun q : (Str × Int) => Dz.t [Dz.s q.1, Dz.i q.2]) (("y" : Str), (2 : Int))), (Dz.s ("" : Str)), (Dz.i (0 : Int)), ((fun xs : (List Str) => Dz.t (xs.map Dz.s)) [("x" : Str)])]
theorem thgs_th : ∀ x ∈ thgs, Th x := by
  intro x hx
  simp only [thgs, List.mem_cons, List.not_mem_nil, or_false] at hx
  rcases hx with rfl | rfl | rfl | rfl | rfl | rfl | rfl <;> exact ⟨by decide +kernel, by decide +kernel⟩
structure Rw (l : List (Dz × Int)) : Prop where
  th : ∀ q ∈ l, Th q.1
  ps : Pss l
  le : ∀ q ∈ l, q.2 ≤ 60000000000000
  len : l.length ≤ 6
theorem Rw.sum {l : List (Dz × Int)} (h : Rw l) : sI l ≤ 360000000000000 := by
  have go : ∀ l : List (Dz × Int), (∀ q ∈ l, q.2 ≤ 60000000000000) → sI l ≤ 60000000000000 * l.length := by
    intro l
    induction l with
    | nil => intro _; show (0 : Int) ≤ _; simp
    | cons q l ih =>
      intro h
      have h1 := ih fun z hz => h z (List.mem_cons_of_mem _ hz)
      have h2 := h q List.mem_cons_self
      rw [sI_cons, List.length_cons]
      push_cast
      omega
  have h1 := go l h.le
  have := h.len
  omega
theorem sixty {a b : Int} (h0 : 0 < b) (h1 : b ≤ 6) : ∃ c : Int, 0 < c ∧ c ≤ 60 ∧ Rat.divInt a b = vq 60 (a * c) := by
  have hb : b = 1 ∨ b = 2 ∨ b = 3 ∨ b = 4 ∨ b = 5 ∨ b = 6 := by omega
  have go : ∀ c : Int, c * b = 60 → Rat.divInt a b = vq 60 (a * c) := fun c hc => by
    rw [← hc]
    have hc0 : c ≠ 0 := by rintro rfl; simp at hc
    rw [Int.mul_comm c b]
    exact (Rat.divInt_mul_right hc0).symm
  rcases hb with rfl | rfl | rfl | rfl | rfl | rfl
  · exact ⟨60, by decide, by decide, go 60 (by decide)⟩
  · exact ⟨30, by decide, by decide, go 30 (by decide)⟩
  · exact ⟨20, by decide, by decide, go 20 (by decide)⟩
  · exact ⟨15, by decide, by decide, go 15 (by decide)⟩
  · exact ⟨12, by decide, by decide, go 12 (by decide)⟩
  · exact ⟨10, by decide, by decide, go 10 (by decide)⟩
theorem rn_bd {α β : Type} {w : Wp α} {f : α → Wp β} {E : Er → Prop} {Q : β → Prop} (h : w (fun x => f x Q E) E) : W.run (W.bind w f) E Q := h
theorem bn_bd {α β : Type} {w : Wp α} {f : α → Wp β} {E : Er → Prop} {Q : β → Prop} (h : w (fun x => f x Q E) E) : W.bind w f Q E := h
theorem l_row_ok {n : Nat} {Q : List (Dz × (Int × Int)) × Nat → Prop} (hn : n ≤ 1000) (h : ∀ l n', Rw l → n' ≤ n + 19 → Q (frs 60 l, n')) : w_l_row n Q E := by
  unfold w_l_row
  refine rn_bd (ltake (by omega) (by decide) (by decide) fun m m0 m1 => ⟨by unfold OW.RgOk; omega, ?_⟩)
  have hl : (rng 0 m).length ≤ 6 := by simp [rng]; omega
  show W.loop _ _ (rng 0 m) (n + 1, ([] : List (Dz × (Int × Int))))
  refine W.loop_pre (fun pre (st : Nat × List (Dz × (Int × Int))) => ∃ l : List (Dz × Int), st.2 = frs 60 l ∧ (∀ q ∈ l, Th q.1) ∧ Pss l ∧ (∀ q ∈ l, q.2 ≤ 60000000000000) ∧ l.length = pre.length ∧ st.1 ≤ n + 1 + 3 * pre.length) (rng 0 m) ?_ ?_ _ ⟨[], rfl, (fun _ h => by cases h), (fun _ h => by cases h), (fun _ h => by cases h), rfl, by show n + 1 ≤ n + 1 + 3 * 0; omega⟩
  · rintro pre x post ⟨n1, _⟩ K e ⟨l, rfl, h1, h2, h3, h4, h5⟩ kk
    have h5 : n1 ≤ n + 1 + 3 * pre.length := h5
    have hp : pre.length < 6 := by
      have := congrArg List.length e
      rw [List.length_append, List.length_cons] at this
      omega
    have p12 : (10 : Int) ^ ((12 : Int)).toNat = 1000000000000 := by decide +kernel
    refine rn_bd (bn_bd (bn_bd ⟨by unfold CPow; decide +kernel, ?_⟩))
    rw [p12]
    refine bn_bd (ltake (by show n1 < 2 ^ 40; omega) (by decide) (by decide) fun i i0 i1 => bn_bd (getI_ok i0 i1 fun a ha => ?_))
    have ha : a ∈ [(1 : Int), 1, 2, 3, 1000000000000] := List.mem_of_getElem? ha
    have ha : 0 < a ∧ a ≤ 1000000000000 := by
      simp only [List.mem_cons, List.not_mem_nil, or_false] at ha
      omega
    refine bn_bd (bn_bd (ltake (by show n1 + 1 < 2 ^ 40; omega) (by decide) (by decide) fun c c0 c1 => ?_))
    obtain ⟨f, f0, f1, ef⟩ := sixty (a := a) (b := 1 + c) (by omega) (by omega)
    have hbits : intBits (1 + c) ≤ 8000 := Nat.le_trans (bits_pow (k := 10) (by omega)) (by decide)
    refine bn_bd (frac_ok (by omega) hbits ?_)
    rw [ef]
    show w_l_take _ 7 _ _
    refine ltake (by show n1 + 1 + 1 < 2 ^ 40; omega) (by decide) (by decide) fun t t0 t1 => bn_bd (getI_ok t0 t1 fun y hy => ?_)
    have hy : y ∈ thgs := List.mem_of_getElem? hy
    refine ⟨by show (frs 60 l).length < 100000; rw [List.length_map]; omega, ?_⟩
    have hf0 : 0 < a * f := Int.mul_pos ha.1 f0
    have hf1 : a * f ≤ 60000000000000 := by
      have h1 := Int.mul_le_mul ha.2 f1 (by omega) (by decide)
      exact h1
    have hsn : ∀ {p : Dz × Int → Prop}, (∀ q ∈ l, p q) → p (y, a * f) → ∀ q ∈ l ++ [(y, a * f)], p q := fun h h' q hq => by
      rcases List.mem_append.mp hq with hq | hq
      · exact h q hq
      · rw [List.mem_singleton.mp hq]; exact h'
    refine kk _ ⟨l ++ [(y, a * f)], by show _ = _; simp, hsn h1 (thgs_th y hy), hsn h2 hf0, hsn h3 hf1, by simp [h4], ?_⟩
    show n1 + 1 + 1 + 1 ≤ n + 1 + 3 * (pre ++ [x]).length
    rw [List.length_append, List.length_singleton]
    omega
  · rintro ⟨n1, _⟩ ⟨l, rfl, h1, h2, h3, h4, h5⟩
    have h5 : n1 ≤ n + 1 + 3 * (rng 0 m).length := h5
    exact h l n1 ⟨h1, h2, h3, by omega⟩ (by omega)
theorem big200 {a : Int} (h0 : 0 ≤ a) (h1 : a < 1606938044258990275541962092341162602522202993782792835301376) : a.natAbs < 2 ^ 3000 := by
  have e : (2 ^ 200 : Nat) = 1606938044258990275541962092341162602522202993782792835301376 := by decide +kernel
  have h : a.natAbs < 2 ^ 200 := by rw [e]; omega
  exact Nat.lt_of_lt_of_le h (Nat.pow_le_pow_right (by decide) (by decide))
theorem l_mul_any {q : Rat} {c d : Int} {Q : Int × Int → Prop} (hq : Fit 4000 q) (hc : intBits c ≤ 4000) (hd : intBits d ≤ 4000) (d0 : 0 < d) (h : Q (frN (q * Rat.divInt c d))) : w_l_mul (frN q) (c, d) Q E := by
  unfold w_l_mul
  have hp : 0 < (q.den : Int) * d := Int.mul_pos (by have := q.den_pos; omega) d0
  refine ⟨mulOk hq.1 hc, mulOk hq.2 hd, frac_ok hp (Nat.le_trans (intBits_mul_le hq.2 hd) (by decide)) ?_⟩
  show Q (frN (Rat.divInt (q.num * c) (q.den * d)))
  rw [← Rat.divInt_mul_divInt, Rat.num_divInt_den]
  exact h
theorem l_scaled_ok {first second : List (Dz × Int)} {Q : List (Dz × (Int × Int)) → Prop} (h1 : Rw first) (h2 : Rw second) (n1 : 0 < sI first) (n2 : 0 < sI second) (h : Q (frs (60 * sI second) (second.map fun q => (q.1, q.2 * sI first)))) : w_l_scaled (frs 60 second) (frN (vq 60 (sI first))) Q E := by
  unfold w_l_scaled
  have s1 := h1.sum
  have s2 := h2.sum
  have hD : (60 : Int).natAbs < 2 ^ 3000 := big200 (by decide) (by decide)
  have hM : (360000000000000 : Int).natAbs < 2 ^ 3000 := big200 (by decide) (by decide)
  refine l_sum_ok (by decide) hD hM h2.ps s2 ?_
  generalize sI first = S1 at n1 s1 h ⊢
  have hb2 : ∀ b, b ∈ second → 0 < b.2 := h2.ps
  generalize sI second = S2 at n2 s2 h ⊢
  have hmap : ∀ b : Int, vq 60 b * Rat.divInt S1 S2 = vq (60 * S2) (b * S1) := fun b => by
    show Rat.divInt b 60 * Rat.divInt S1 S2 = _
    rw [Rat.divInt_mul_divInt]
  have ft := fitv (D := 60) (by decide) hD hM (a := S2) (by omega) s2
  have tpos : 0 < (vq 60 S2).num := by
    have hq : (vq 60 S2).num * 60 = S2 * ((vq 60 S2).den : Int) := (Rat.divInt_eq_divInt_iff (by have := (vq 60 S2).den_pos; omega) (by decide)).mp (Rat.num_divInt_den (vq 60 S2))
    have : 0 < S2 * ((vq 60 S2).den : Int) := Int.mul_pos n2 (by have := (vq 60 S2).den_pos; omega)
    omega
  refine W.compG_plain (fun _ => true) (fun q : Dz × (Int × Int) => (q.1, frN (Rat.divInt q.2.1 q.2.2 * Rat.divInt S1 S2))) _ (by rw [List.length_map]; have := h2.len; omega) (fun _ _ P p => p) ?_ ?_
  · intro z hz _ P p
    obtain ⟨⟨x, b⟩, hb, rfl⟩ := List.mem_map.mp hz
    have b0 : 0 < b := h2.ps _ hb
    have b1 : b ≤ 60000000000000 := h2.le _ hb
    have fb := fitv (D := 60) (by decide) hD hM (a := b) (by omega) (by omega)
    have fw := fitv (D := 60) (by decide) hD hM (a := S1) (by omega) s1
    have hp1 : b * S1 ≤ 60000000000000 * 360000000000000 := Int.mul_le_mul b1 s1 (by omega) (by decide)
    have hp0 : 0 ≤ b * S1 := Int.mul_nonneg (by omega) (by omega)
    have em : vq 60 b * vq 60 S1 = vq 3600 (b * S1) := Rat.divInt_mul_divInt b S1
    refine l_mul_any (c := (vq 60 S1).num) (d := ((vq 60 S1).den : Int)) fb fw.1 fw.2 (by have := (vq 60 S1).den_pos; omega) ?_
    rw [Rat.num_divInt_den, em]
    have fm : Fit 4000 (vq 3600 (b * S1)) := fitv (D := 3600) (M := 60000000000000 * 360000000000000) (by decide) (big200 (by decide) (by decide)) (big200 (by decide) (by decide)) hp0 hp1
    refine l_mul_any (c := ((vq 60 S2).den : Int)) (d := (vq 60 S2).num) fm ft.2 ft.1 tpos ?_
    have ez : vq 3600 (b * S1) * Rat.divInt ((vq 60 S2).den : Int) (vq 60 S2).num = vq 60 b * Rat.divInt S1 S2 := by
      rw [hmap]
      show Rat.divInt (b * S1) 3600 * _ = _
      rw [Rat.divInt_mul_divInt]
      have hq : (vq 60 S2).num * 60 = S2 * ((vq 60 S2).den : Int) := by
        have := Rat.num_divInt_den (vq 60 S2)
        exact (Rat.divInt_eq_divInt_iff (by have := (vq 60 S2).den_pos; omega) (by decide)).mp this
      rw [Rat.divInt_eq_divInt_iff (by omega) (by omega)]
      have : b * S1 * ((vq 60 S2).den : Int) * (60 * S2) = b * S1 * 60 * (S2 * ((vq 60 S2).den : Int)) := by ac_rfl
      rw [this, ← hq]
      have h36 : (3600 : Int) = 60 * 60 := by decide
      rw [h36]
      ac_rfl
    rw [ez]
    have ep : P (x, frN (Rat.divInt (vq 60 b).num ((vq 60 b).den : Int) * Rat.divInt S1 S2)) := p
    rw [Rat.num_divInt_den] at ep
    exact ep
  · rw [filter_tt, List.map_map]
    have e : ((fun q : Dz × (Int × Int) => (q.1, frN (Rat.divInt q.2.1 q.2.2 * Rat.divInt S1 S2))) ∘ fun q : Dz × Int => (q.1, frN (vq 60 q.2))) = fun q : Dz × Int => (q.1, frN (vq (60 * S2) (q.2 * S1))) := by
      funext q
      show (q.1, frN (Rat.divInt (vq 60 q.2).num ((vq 60 q.2).den : Int) * Rat.divInt S1 S2)) = _
      rw [Rat.num_divInt_den, hmap]
    rw [e]
    have h' := h
    rw [frs, List.map_map] at h'
    exact h'
end
end K62
namespace K62
open PySem L2 OW
open PySem.Builtin.Int (intBits)
open OT (Fit mulOk)
section
variable {E : Er → Prop} {D M : Int}
theorem l_of_ok {q : Rat} {Q : Int × Int → Prop} (h : Q (frN q)) : w_l_of (rt q) Q E := by
  unfold w_l_of
  exact h
theorem dealF_le {α β : Type} {L : List (α × Int)} {R : List (β × Int)} {k : Nat} (h1 : L.length ≤ 6) (h2 : R.length ≤ 6) : (dealF k L R).length ≤ 100000 := by
  have := dealF_len k L R
  omega
theorem told_ok (hD : 0 < D) (hD2 : D.natAbs < 2 ^ 3000) (hM : M.natAbs < 2 ^ 3000) {first second : List (Dz × Int)} {Q : List Dz → Prop} (p1 : Pss first) (p2 : Pss second) (s1 : sI first ≤ M) (s2 : sI second ≤ M) (l1 : first.length ≤ 6) (l2 : second.length ≤ 6)
    (hne : sI first ≠ sI second → Q [Dz.s ("shares" : Str), fz (frN (vq D (sI second)))]) (heq : sI first = sI second → Q [Dz.s ("told" : Str), Dz.l (((dealF (first.length + second.length) first second).map (dgf D)).map tz)]) : w_l_told (rts D first) (rts D second) Q E := by
  unfold w_l_told
  refine rn_bd (bn_bd (bn_bd (dealt_ok hD hD2 hM p1 p2 s1 s2 (by omega) (by omega) (fun h => ?_) fun h => ?_)))
  · show w_l_of (rt (vq D (sI second))) (fun q => Q [Dz.s ("shares" : Str), fz q]) (fun _ => False)
    exact l_of_ok (hne h)
  · refine W.compG_plain (fun _ => true) (fun q : Dz × Dz × Rt => (q.1, q.2.1, (q.2.2.top, q.2.2.bottom))) _ (by rw [List.length_map]; exact dealF_le l1 l2) (fun _ _ P p => p) (fun z hz _ P p => ?_) ?_
    · obtain ⟨q, _, rfl⟩ := List.mem_map.mp hz
      exact l_of_ok p
    · rw [filter_tt, List.map_map]
      exact heq h
theorem ne_same {l : List Dz} {Q : Bool → Prop} (h : Dz.cmpl l l = some true ∧ Dz.deps l ≤ 8) (hq : Q false) : W.neZ 8 l l Q E := ⟨true, h.1, h.2, hq⟩
def dueL (D : Int) (first second : List (Dz × Int)) : List Dz := if sI first = sI second then [Dz.s ("told" : Str), Dz.l (((dealF (first.length + second.length) first second).map (dgf D)).map tz)] else [Dz.s ("shares" : Str), fz (frN (vq D (sI second)))]
theorem dueL_self {first second : List (Dz × Int)} (t1 : ∀ q ∈ first, Th q.1) (t2 : ∀ q ∈ second, Th q.1) : Dz.cmpl (dueL D first second) (dueL D first second) = some true ∧ Dz.deps (dueL D first second) ≤ 8 := by
  unfold dueL
  split
  · have := cmps_self (m := 4) (l := (((dealF (first.length + second.length) first second).map (dgf D)).map tz)) fun x hx => by
      obtain ⟨q, hq, rfl⟩ := List.mem_map.mp hx
      obtain ⟨z, hz, rfl⟩ := List.mem_map.mp hq
      have h := dealF_mem (p := Th) (p' := Th) _ _ _ t1 t2 z hz
      exact tz_self h.1 h.2
    refine two_self ?_ ?_
    · show (if _ = _ then _ else _) = some true
      rw [if_pos rfl]
      exact this.1
    · show Dz.deps _ + 1 ≤ 8
      omega
  · exact two_self (fz_self _).1 (Nat.le_trans (fz_self _).2 (by decide))
theorem jn_mk {τ : Type} {k : τ → Prop} {p : (τ → Prop) → Prop} (C : τ → Prop) (h1 : ∀ s, C s → k s) (h2 : ∀ K : τ → Prop, (∀ s, C s → K s) → p K) : W.jn k p := h2 k h1
structure Wl (D M : Int) (l : List (Dz × Int)) : Prop where
  th : ∀ q ∈ l, Th q.1
  ps : Pss l
  sm : sI l ≤ M
  len : l.length ≤ 6
abbrev psR (r : List (Dz × (Int × Int))) : List (Dz × Rt) := r.map fun q => (q.1, rt (Rat.divInt q.2.1 q.2.2))
theorem psR_frs {l : List (Dz × Int)} : psR (frs D l) = rts D l := by
  show ((l.map _).map _) = _
  rw [List.map_map]
  refine List.map_congr_left fun q _ => ?_
  show (q.1, rt (Rat.divInt (vq D q.2).num ((vq D q.2).den : Int))) = _
  rw [Rat.num_divInt_den]
theorem pass_ok (hD : 0 < D) (hD2 : D.natAbs < 2 ^ 3000) (hM : M.natAbs < 2 ^ 3000) {l : List (Dz × Int)} (h : Wl D M l) {P : List (Dz × Rt) → Prop} (p : P (psR (frs D l))) : W.compG (fun _ : Dz × (Int × Int) => W.ret true) (fun q : Dz × (Int × Int) => W.bind (w_Ratio_init q.2.1 q.2.2) fun z_7 => W.ret (q.1, z_7)) (frs D l) P E := by
  refine W.compG_plain (fun _ => true) (fun q : Dz × (Int × Int) => (q.1, rt (Rat.divInt q.2.1 q.2.2))) _ (by rw [List.length_map]; have := h.len; omega) (fun _ _ P p => p) (fun z hz _ P p => ?_) (by rw [filter_tt]; exact p)
  obtain ⟨⟨x, b⟩, hb, rfl⟩ := List.mem_map.mp hz
  have b0 : 0 < b := h.ps _ hb
  have hle : b ≤ M := by
    obtain ⟨l1, l2, rfl⟩ := List.append_of_mem hb
    have e2 : sI (l1 ++ (x, b) :: l2) = sI l1 + (b + sI l2) := by
      rw [← sI_cons (x, b) l2]
      show List.sum ((l1 ++ _).map _) = List.sum _ + List.sum _
      rw [List.map_append, List.sum_append]
    have g1 := sI_ge (l := l1) fun z hz => h.ps z (List.mem_append_left _ hz)
    have g2 := sI_ge (l := l2) fun z hz => h.ps z (List.mem_append_right _ (List.mem_cons_of_mem _ hz))
    have := h.sm
    omega
  have f := fitv hD hD2 hM (a := b) (by omega) hle
  refine ratio_ok (by show ((vq D b).den : Int) ≠ 0; have := (vq D b).den_pos; omega) (Nat.le_trans f.2 (by decide)) p
end
theorem ne_nil {l : List (Dz × (Int × Int))} {g : Dz × (Int × Int) → Dz} {Q : Bool × Nat → Prop} {E : Er → Prop} {n : Nat} (hd : Dz.deps (l.map g) ≤ 8) (h : Q (decide (l ≠ []), n)) : W.cn (W.neZ 8 (l.map g) (([] : List (Dz × (Int × Int))).map g)) n Q E := by
  cases l with
  | nil => exact ⟨true, rfl, hd, h⟩
  | cons x l =>
    refine ⟨false, ?_, hd, h⟩
    show (if (l.map g).length + 1 = 0 then _ else some false) = some false
    rw [if_neg (by omega)]
theorem row_dep {D : Int} {l : List (Dz × Int)} (h : ∀ q ∈ l, Th q.1) : Dz.deps ((frs D l).map fun q : Dz × (Int × Int) => Dz.t [(fun z : Dz => z) q.1, (fun q : Int × Int => Dz.t [Dz.i q.1, Dz.i q.2]) q.2]) ≤ 8 := by
  induction l with
  | nil => exact Nat.zero_le _
  | cons q l ih =>
    have h1 := (h q List.mem_cons_self).dep
    have h2 := ih fun z hz => h z (List.mem_cons_of_mem _ hz)
    have h3 := (fz_self (frN (vq D q.2))).2
    show max (max q.1.dep (max (fz (frN (vq D q.2))).dep 0) + 1) (Dz.deps _) ≤ 8
    have h2' : Dz.deps ((frs D l).map fun q : Dz × (Int × Int) => Dz.t [(fun z : Dz => z) q.1, (fun q : Int × Int => Dz.t [Dz.i q.1, Dz.i q.2]) q.2]) ≤ 8 := h2
    exact Nat.max_le.mpr ⟨by omega, h2'⟩
theorem pure_law (script : List Int) (hh : script.length ≤ 63 ∧ ∀ z ∈ script, Builtin.Int.intBits z ≤ 1048576) : w_law script (fun b => b = true) (fun _ => False) := by
  unfold w_law
  refine ⟨by unfold OW.RgOk; split <;> (try split) <;> omega, ?_⟩
  refine W.loop_inv (fun _ : Unit => True) _ (fun k hk st K _ kk => ?_) (fun _ _ => rfl) _ trivial
  obtain ⟨k0, _⟩ := rng_mem.mp hk
  refine rn_bd (l_cell_ok k0 fun z => ?_)
  show W.run _ _ _
  refine rn_bd (l_row_ok (by decide) fun A n1 hA hn1 => bn_bd (l_row_ok (by show n1 ≤ 1000; omega) fun B n2 hB hn2 => ?_))
  have hn2 : n2 ≤ n1 + 19 := hn2
  have s1 := hA.sum
  have s2 := hB.sum
  refine jn_mk (fun s : List (Dz × (Int × Int)) × Nat => ∃ (D M : Int) (L R : List (Dz × Int)), 0 < D ∧ D.natAbs < 2 ^ 3000 ∧ M.natAbs < 2 ^ 3000 ∧ Wl D M L ∧ Wl D M R ∧ frs 60 A = frs D L ∧ s.1 = frs D R) ?_ ?_
  · rintro ⟨_, n3⟩ ⟨D, M, L, R, hD, hD2, hM, wL, wR, eL, rfl⟩
    show W.run (w_l_due (frs 60 A) (frs D R)) _ _
    rw [eL]
    have hdue : ∀ {Q : List Dz → Prop} {E : Er → Prop}, Q (dueL D L R) → w_l_due (frs D L) (frs D R) Q E := fun h => l_due_ok hD hD2 hM wL.ps wR.ps wL.sm wR.sm (by have := wL.len; omega) (by have := wR.len; omega) (fun e => by rw [dueL, if_neg e] at h; exact h) fun e => by rw [dueL, if_pos e] at h; exact h
    have htold : ∀ {Q : List Dz → Prop} {E : Er → Prop}, Q (dueL D L R) → w_l_told (rts D L) (rts D R) Q E := fun h => told_ok hD hD2 hM wL.ps wR.ps wL.sm wR.sm wL.len wR.len (fun e => by rw [dueL, if_neg e] at h; exact h) fun e => by rw [dueL, if_pos e] at h; exact h
    have hself := dueL_self (D := D) wL.th wR.th
    refine hdue ?_
    refine W.compG_plain (fun _ => true) psR [frs D L, frs D R] (by show 2 ≤ 100000; decide) (fun _ _ P p => p) (fun r hr _ P p => ?_) ?_
    · simp only [List.mem_cons, List.not_mem_nil, or_false] at hr
      rcases hr with rfl | rfl
      · exact pass_ok hD hD2 hM wL p
      · exact pass_ok hD hD2 hM wR p
    rw [filter_tt]
    have epass : [frs D L, frs D R].map psR = [rts D L, rts D R] := by
      show [psR (frs D L), psR (frs D R)] = _
      rw [psR_frs, psR_frs]
    rw [epass]
    refine ⟨by show 2 ≤ 100000; decide, ?_⟩
    refine ⟨rts D L, rfl, rts D R, rfl, htold (ne_same hself (ite_f rfl ?_))⟩
    refine ⟨rts D L, rfl, rts D R, rfl, htold (ne_same hself (ite_f rfl ?_))⟩
    have ekept : ([rts D L, rts D R].filter fun _ => true).map (fun r : List (Dz × Rt) => r) = [rts D L, rts D R] := rfl
    rw [ekept]
    have hdz : ∀ {l : List (Dz × Int)}, (∀ q ∈ l, Th q.1) → ∀ x ∈ rts D l, Dz.cmp x.1 x.1 = some true ∧ x.1.dep ≤ 8 := fun hl x hx => by
      obtain ⟨q, hq, rfl⟩ := List.mem_map.mp hx
      exact ⟨(hl q hq).cmp, Nat.le_trans (hl q hq).dep (by decide)⟩
    refine ⟨⟨rfl, fun r hr => ?_⟩, ite_f rfl ?_⟩
    · simp only [List.mem_cons, List.not_mem_nil, or_false] at hr
      rcases hr with rfl | rfl
      · exact hdz wL.th
      · exact hdz wR.th
    by_cases e : sI L = sI R
    · rw [dueL, if_pos e]
      refine ⟨_, rfl, _, rfl, ite_t (by simp) ⟨_, rfl, (((dealF (L.length + R.length) L R).map (dgf D)).map tz), by simp, ?_⟩⟩
      refine ite_f ?_ (kk () trivial)
      rw [List.length_map, List.length_map, List.length_map, List.length_map]
      have := dealF_len (L.length + R.length) L R
      refine decide_eq_false ?_
      split <;> omega
    · rw [dueL, if_neg e]
      exact ⟨_, rfl, _, rfl, ite_f (by decide) (ite_f rfl (kk () trivial))⟩
  · intro K hK
    have base : ∀ n, K (frs 60 B, n) := fun n => hK _ ⟨60, 360000000000000, A, B, by decide, big200 (by decide) (by decide), big200 (by decide) (by decide), ⟨hA.th, hA.ps, s1, hA.len⟩, ⟨hB.th, hB.ps, s2, hB.len⟩, rfl, rfl⟩
    refine rn_bd (bn_bd (ne_nil (row_dep hA.th) (W.ite_intro (fun ha => ?_) fun _ => ite_f rfl (base _))))
    refine ne_nil (row_dep hB.th) (W.ite_intro (fun hb => ?_) fun _ => ite_f rfl (base _))
    refine bn_bd (ltake (by show n2 < 2 ^ 40; omega) (by decide) (by decide) fun t t0 t1 => W.ite_intro (fun _ => ?_) fun _ => base _)
    have a0 : 0 < sI A := by
      cases A with
      | nil =>
        have ha : decide (([] : List (Dz × (Int × Int))) ≠ []) = true := ha
        exact absurd ha (by simp)
      | cons q A =>
        have := sI_ge hA.ps.tail
        have := hA.ps.head
        rw [sI_cons]; omega
    have b0 : 0 < sI B := by
      cases B with
      | nil =>
        have hb : decide (([] : List (Dz × (Int × Int))) ≠ []) = true := hb
        exact absurd hb (by simp)
      | cons q B =>
        have := sI_ge hB.ps.tail
        have := hB.ps.head
        rw [sI_cons]; omega
    refine rn_bd (l_sum_ok (M := 360000000000000) (by decide) (big200 (by decide) (by decide)) (big200 (by decide) (by decide)) hA.ps s1 (l_scaled_ok hA hB a0 b0 ?_))
    have hmul : ∀ (l : List (Dz × Int)) (c : Int), sI (l.map fun q => (q.1, q.2 * c)) = sI l * c := by
      intro l c
      induction l with
      | nil => show (0 : Int) = 0 * c; simp
      | cons q l ih =>
        rw [List.map_cons, sI_cons, sI_cons, ih, Int.add_mul]
    have hmm : sI A * sI B ≤ 360000000000000 * 360000000000000 := Int.mul_le_mul s1 s2 (by omega) (by decide)
    have hm0 : 0 ≤ sI A * sI B := Int.mul_nonneg (by omega) (by omega)
    refine hK _ ⟨60 * sI B, 360000000000000 * 360000000000000, A.map fun q => (q.1, q.2 * sI B), B.map fun q => (q.1, q.2 * sI A), by omega, big200 (by omega) (by omega), big200 (by decide) (by decide), ⟨?_, ?_, by rw [hmul]; exact hmm, by rw [List.length_map]; exact hA.len⟩, ⟨?_, ?_, by rw [hmul, Int.mul_comm]; exact hmm, by rw [List.length_map]; exact hB.len⟩, ?_, rfl⟩
    · intro q hq
      obtain ⟨z, hz, rfl⟩ := List.mem_map.mp hq
      exact hA.th z hz
    · intro q hq
      obtain ⟨z, hz, rfl⟩ := List.mem_map.mp hq
      exact Int.mul_pos (hA.ps z hz) b0
    · intro q hq
      obtain ⟨z, hz, rfl⟩ := List.mem_map.mp hq
      exact hB.th z hz
    · intro q hq
      obtain ⟨z, hz, rfl⟩ := List.mem_map.mp hq
      exact Int.mul_pos (hB.ps z hz) a0
    · rw [frs, frs, List.map_map]
      refine List.map_congr_left fun q _ => ?_
      show (q.1, frN (vq 60 q.2)) = (q.1, frN (Rat.divInt (q.2 * sI B) (60 * sI B)))
      rw [Rat.divInt_mul_right (by omega)]
end K62
open PySem PySem.W PySem.Calls PyProof.Rows in
theorem PySem.Challenge.cw_onethrow_k62_shares_dealt_holds : PySem.Challenge.rw_onethrow_k62_shares_dealt.Holds := by
  w_on; o_law
  refine HandSHeadRun.head_any (r := (PySem.W.OpenLaw.row PySem.Challenge.rw_onethrow_k62_shares_dealt)) (q := view (PySem.W.OpenLaw.row PySem.Challenge.rw_onethrow_k62_shares_dealt).prog [28]) (H := K62.hk) (ob := K62.ob) (M := 60000) (loose := K62.loose) (d := HandSHeadRun.topDef (PySem.W.OpenLaw.row PySem.Challenge.rw_onethrow_k62_shares_dealt).prog 28) (kwd := []) K62.ob_eq
    (by kernel_rfl) (fun s => by kernel_rfl) K62.run (by kernel_rfl) (by kernel_rfl) (by kernel_rfl) (by rfl) (by first | assumption | decide +kernel) (by decide +kernel) ⟨rfl, rfl, rfl, rfl, rfl, by decide +kernel⟩ ?hw ?hc
  case hw => w_witness2
  case hc =>
    refine OT.walk_ofEB (l := PySem.Challenge.rw_onethrow_k62_shares_dealt) (n := 63) (k := 12) (x := "_law_script") rfl (by decide) (by kernel_rfl) ⟨rfl, by decide, by decide⟩ ?F
    intro w mg fa h Y G hmg0
    obtain ⟨K, KX, c⟩ := Y
    have hmg : mg ("law" : PySem.Str) = some (.ref fa) := by
      have e : (HandSHeadRun.topDef (PySem.W.OpenLaw.row PySem.Challenge.rw_onethrow_k62_shares_dealt).prog 28).name = ("law" : PySem.Str) := by kernel_rfl
      rw [← e]
      exact hmg0
    have ct : K62.Ct (PySem.Challenge.rw_onethrow_k62_shares_dealt).prog K mg := ⟨c, ⟨h, KX, G⟩, by kernel_rfl, by kernel_rfl⟩
    obtain ⟨fd, F⟩ := K62.fd_law ct
    have e := hmg.symm.trans (K62.glo_law ct)
    cases e
    have b := L2.FunD.bindsA (ps := ["_law_script"]) F fun _ _ _ _ _ _ us hl => match us, hl with | [_], _ => rfl
    exact ⟨K, fd, KX, fun s v => b s [v] rfl, fun base _ _ => (K62.ok_law ct F).imp fun _ _ _ _ q => OW.law_sp K62.pure_law q⟩
