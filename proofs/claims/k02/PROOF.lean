import PyProof.Rows.All
import Wide.All
import OpenK.AllK
import Wide.FinOn
import KE.KStateDown
import Lean
import HandS.ForMost
import HandS.ForExc
import HandS.More
import HandS.Defaults
import HandS.IsInst
import HandS.Wide
import HandS.WideBits
import HandS.EndBits
import HandS.Head0
import HandS.Head1
import HandS.Head2
import HandS.HeadEnd
import HandS.HeadHook1
import HandS.HeadHook2
import PySem.Challenge.RW_nimhouse_k02_least_left
set_option Elab.async false
set_option linter.all false
set_option maxRecDepth 100000
set_option maxHeartbeats 4000000
/-! Our own rules over the hand layer: defs by one datum, numbers as naturals, the end with the numbers' bits. -/
namespace N
open PySem PySem.Spec PyProof.Rows L2
/-! ### a def that keeps a promise -/
/-- the promise with the number of its arguments -/
def few (ps : List Str) (sp : Sp) : Sp := fun vs H Q E => vs.length = ps.length ∧ sp vs H Q E
structure Dn (P : Program) (w : World) (K : PySem.W.Frag) (mg : Str → Option Value) (base : Heap) (CX : CXT) (k : Nat) (f : Addr) (ps : List Str) (sp : Sp) : Prop where
  ex : ∃ fd, FnOk P w K mg base CX k f fd ps (few ps sp) ∧ Binds K fd ps [] ∧ ∃ oc od osl, K.lookup f = some ⟨oc, od, .func fd, osl⟩
  kp : PySem.W.keepIn K (.ref f) = true
section
variable {P : Program} {w : World} {K : PySem.W.Frag} {mg : Str → Option Value} {base : Heap} {CX : CXT} {x qual : Str} {params : Arguments} {body : List Stmt} {scope : Scope} {f : Addr} {fd : FuncData} {N ps : List Str} {k : Nat} {sp : Sp}
theorem dn_of (F : ∃ fd, FunD K x qual params body scope [] [] f fd) (S : FnScope N ps scope)
    (hb : ∀ (kV doc pm : Value) (an : Option Addr) (cdv ct : Value) (us : List Value), us.length = ps.length → bindArgs (PySem.W.fnOf x qual params body scope .none kV doc pm an cdv ct) ⟨us, []⟩ = pure (ps.zip us))
    (hbody : ∀ (cdv : Value) (A : Around) (outer : List Env) (s : Shared) (H : Hp) (vs : List V) (Q : VK) (E : XK), Room k (A.deeper (envOfC qual scope s.heap.objs.size f cdv)) → sp vs H Q E →
      ∃ t, PSs (cxOf CX P w K mg base N qual scope f cdv A outer s H E) body t ∧ t { nx := fun _ H' => Q .non H', rt := Q } (start N vs) H) : Dn P w K mg base CX (k + 1) f ps sp := by
  obtain ⟨fd, F⟩ := F
  refine ⟨⟨fd, F.ok S (fun vs H Q E h => h.1) (fun cdv A outer s H vs Q E hr h => hbody cdv A outer s H vs Q E hr h.2), F.bindsN hb, ?_⟩, F.kp⟩
  obtain ⟨oc, od, dV, kV, doc, pm, an, cdv, ct, osl, _, lk, _⟩ := F.ex
  exact ⟨oc, od, osl, lk⟩
theorem fd_eq {dvs : List V} {kws : List (Str × V)} {fd' : FuncData} (F : FunD K x qual params body scope dvs kws f fd) (h : ∃ oc od osl, K.lookup f = some ⟨oc, od, .func fd', osl⟩) : fd' = fd := by
  obtain ⟨oc, od, dV, kV, doc, pm, an, cdv, ct, osl, _, lk, _⟩ := F.ex
  obtain ⟨oc', od', osl', h⟩ := h
  rw [lk] at h
  injection h with h
  injection h with h1 h2 h3 h4
  injection h3 with h3
  exact h3.symm
/-- a def that calls itself: the n-th promise leans on the one ahead of it -/
def recSp (sp : Nat → Sp) : Nat → Sp
  | 0 => fun _ _ _ _ => False
  | n + 1 => sp n
theorem rec_dn {sp : Nat → Sp} {c : Nat} (F : ∃ fd, FunD K x qual params body scope [] [] f fd)
    (hb : ∀ (kV doc pm : Value) (an : Option Addr) (cdv ct : Value) (us : List Value), us.length = ps.length → bindArgs (PySem.W.fnOf x qual params body scope .none kV doc pm an cdv ct) ⟨us, []⟩ = pure (ps.zip us))
    (h : ∀ n, Dn P w K mg base CX (n + c) f ps (recSp sp n) → Dn P w K mg base CX (n + c + 1) f ps (sp n)) : ∀ n, Dn P w K mg base CX (n + c) f ps (recSp sp n)
  | 0 => by
    obtain ⟨fd, F⟩ := F
    refine ⟨⟨fd, ⟨fun vs H Q E h => h.1, fun A outer s H args us vs Q E hr he hb hv hs => hs.2.elim⟩, F.bindsN hb, ?_⟩, F.kp⟩
    obtain ⟨oc, od, dV, kV, doc, pm, an, cdv, ct, osl, _, lk, _⟩ := F.ex
    exact ⟨oc, od, osl, lk⟩
  | n + 1 => by
    have e : n + 1 + c = n + c + 1 := by omega
    rw [e]
    exact h n (rec_dn F hb h n)
theorem Dn.mono {j : Nat} (D : Dn P w K mg base CX j f ps sp) (h : j ≤ k) : Dn P w K mg base CX k f ps sp := by
  obtain ⟨fd, F, b⟩ := D.ex
  exact ⟨⟨fd, F.mono h, b⟩, D.kp⟩
theorem Dn.imp {sp' : Sp} (D : Dn P w K mg base CX k f ps sp) (h : ∀ vs H Q E, sp' vs H Q E → sp vs H Q E) : Dn P w K mg base CX k f ps sp' := by
  obtain ⟨fd, F, b⟩ := D.ex
  exact ⟨⟨fd, F.imp fun vs H Q E q => ⟨q.1, h vs H Q E q.2⟩, b⟩, D.kp⟩
/-- a def that may raise, where it does not -/
theorem Dn.calm (D : Dn P w K mg base (L2.CX P w) k f ps sp) : Dn P w K mg base CX0 k f ps fun vs H Q _ => sp vs H Q E0 := by
  obtain ⟨fd, F, b⟩ := D.ex
  refine ⟨⟨fd, ⟨fun vs H Q E q => q.1, fun A outer s H args us vs Q E hr he hb hv hs => ?_⟩, b⟩, D.kp⟩
  refine codeAny_mono (F.run A outer s H args us vs Q E0 hr he hb hv hs) fun r s' hq => ?_
  cases r with
  | error e =>
    obtain ⟨_, _, _, _, _, _, _, _, _, _, _, _, h⟩ := hq
    exact h.elim
  | ok fl => cases fl <;> exact hq
end
section
variable {X : Cx} {CX : CXT} {k : Nat} {f C : Addr} {ps : List Str} {sp : Sp} {E : XK} {x m : Str} {p pos apos : Pos} {e o : Expr} {es : List Expr} {ta : TE} {t : TA}
/-- f(..) -/
def tCl (ps : List Str) (sp : Sp) (E : XK) (t : TA) : TE := fun σ H Q => t σ H fun vs H1 => few ps sp vs H1 Q E
theorem pe_cl (D : Dn X.prog X.w X.K X.mg X.base CX k f ps sp) (hr : Room k X.A) (hm : X.mg x = some (.ref f)) (hx : Passes CX X E) (ha : PA X (e :: es) t) (hg : Gl X x := by rfl)
    (hdb : (x == ("__debug__" : Str)) = false := by decide) (he : starEach (e :: es) X.env = (false, eval e X.env) :: starEach es X.env := by rfl) (hpl : (backTo pos (starEach es X.env)).any (·.1) = false := by rfl) :
    PE X (.Call (.Name x p) (e :: es) [] pos) (tCl ps sp E t) := by
  obtain ⟨fd, F, b, _⟩ := D.ex
  have h := pe_call (p := p) (ds := []) (dvs := []) F hr hg hm D.kp b .nil hx ha hdb he hpl
  refine ⟨fun pins s σ H Q I q => h.run pins s σ H Q I ?_⟩
  have e2 : tCall (few ps sp) [] E t = tCl ps sp E t := by
    funext σ H Q
    unfold tCall tCl
    simp only [List.append_nil]
  rw [e2]
  exact q
theorem pe_cl0 (D : Dn X.prog X.w X.K X.mg X.base CX k f ps sp) (hr : Room k X.A) (hm : X.mg x = some (.ref f)) (hx : Passes CX X E) (hg : Gl X x := by rfl)
    (hdb : (x == ("__debug__" : Str)) = false := by decide) : PE X (.Call (.Name x p) [] [] pos) (tCl ps sp E tNil) := by
  obtain ⟨fd, F, b, _⟩ := D.ex
  exact pe_call0 (ds := []) (dvs := []) F hr hg hm D.kp b .nil hx hdb
end
/-! ### numbers as naturals -/
section
variable {X : Cx}
theorem pe_nat (n : Nat) {j : Nat} {pos : Pos} : PE X (.Constant (.int (n : Int)) j pos) (tC (.int (n : Int))) := pe_int
/-- a module's number -/
theorem pe_gint {x : Str} {i : Int} {pos : Pos} (h : ∃ t, X.mg x = some (.int i t)) (hg : Gl X x := by rfl) (hd : (x == ("__debug__" : Str)) = false := by decide) : PE X (.Name x pos) (tC (.int i)) := by
  obtain ⟨t, h⟩ := h
  exact pe_glob hg h ⟨t, rfl⟩ hd
theorem pe_gnat {x : Str} {n : Nat} {pos : Pos} (h : ∃ t, X.mg x = some (.int (n : Int) t)) (hg : Gl X x := by rfl) (hd : (x == ("__debug__" : Str)) = false := by decide) : PE X (.Name x pos) (tC (.int (n : Int))) := pe_gint h hg hd
/-- two naturals -/
def rN (C : Nat → Nat → Prop) (g : Nat → Nat → V) : R2 := fun x y H Q => ∃ n m : Nat, x = .int (n : Int) ∧ y = .int (m : Int) ∧ C n m ∧ Q (g n m) H
def rN0 (g : Nat → Nat → V) : R2 := fun x y H Q => ∃ n m : Nat, x = .int (n : Int) ∧ y = .int (m : Int) ∧ Q (g n m) H
theorem opN {f : Value → Value → Sem Value} {C : Int → Int → Prop} {g : Int → Int → V} (h : OpR X f (rI C g)) {C' : Nat → Nat → Prop} {g' : Nat → Nat → V} (hc : ∀ n m : Nat, C' n m → C n m) (e : ∀ n m : Nat, C' n m → g n m = g' n m) : OpR X f (rN C' g') := by
  intro pins s σ H x y v u Q I rx ry q
  obtain ⟨n, m, rfl, rfl, c, q⟩ := q
  rw [← e n m c] at q
  exact h pins s σ H _ _ v u Q I rx ry ⟨_, _, rfl, rfl, hc n m c, q⟩
theorem opN0 {f : Value → Value → Sem Value} {g : Int → Int → V} (h : OpR X f (rI0 g)) {g' : Nat → Nat → V} (e : ∀ n m : Nat, g n m = g' n m) : OpR X f (rN0 g') := by
  intro pins s σ H x y v u Q I rx ry q
  obtain ⟨n, m, rfl, rfl, q⟩ := q
  rw [← e n m] at q
  exact h pins s σ H _ _ v u Q I rx ry ⟨_, _, rfl, rfl, q⟩
theorem op_addn : OpR X (binaryOp .Add) (rN0 fun n m => .int ((n + m : Nat) : Int)) := opN0 op_add fun n m => by rw [Int.natCast_add]
theorem op_subn : OpR X (binaryOp .Sub) (rN (fun n m => m ≤ n) fun n m => .int ((n - m : Nat) : Int)) := by
  intro pins s σ H x y v u Q I rx ry q
  obtain ⟨n, m, rfl, rfl, c, q⟩ := q
  have q : Q (V.int ((n - m : Nat) : Int)) H := q
  rw [Int.ofNat_sub c] at q
  exact op_sub pins s σ H _ _ v u Q I rx ry ⟨_, _, rfl, rfl, q⟩
/-- one factor below 2 ^ 64 -/
theorem op_muln : OpR X (binaryOp .Mult) (rN (fun n m => n < 2 ^ 64 ∨ m < 2 ^ 64) fun n m => .int ((n * m : Nat) : Int)) := opN op_mul (fun n m c => by
  have e : (2 : Int) ^ 64 = 18446744073709551616 := by decide
  have e' : (2 : Nat) ^ 64 = 18446744073709551616 := by decide
  unfold CMul
  rw [e]
  rw [e'] at c
  omega) fun n m _ => by rw [Int.natCast_mul]
/-- great factors -/
theorem op_mulnX : OpR X (binaryOp .Mult) (rN (fun n m => ∃ a b, n < 2 ^ a ∧ m < 2 ^ b ∧ a + b ≤ 134217728) fun n m => .int ((n * m : Nat) : Int)) := opN op_mulX (fun n m ⟨a, b, h1, h2, h3⟩ => mulx_ok (by simpa using h1) (by simpa using h2) h3) fun n m _ => by rw [Int.natCast_mul]
theorem op_xorn : OpR X (binaryOp .BitXor) (rN0 fun n m => .int ((n ^^^ m : Nat) : Int)) := opN0 op_xor fun n m => by rw [Bits.bitXor_pp (by omega) (by omega)]; rfl
theorem op_orn : OpR X (binaryOp .BitOr) (rN0 fun n m => .int ((n ||| m : Nat) : Int)) := opN0 op_or fun n m => by rw [Bits.bitOr_pp (by omega) (by omega)]; rfl
theorem op_andn : OpR X (binaryOp .BitAnd) (rN0 fun n m => .int ((n &&& m : Nat) : Int)) := opN0 op_and fun n m => by rw [bitAnd_pp (by omega) (by omega)]; rfl
/-- n << m: n below 2 ^ a, a + m at most 2 ^ 27 -/
theorem op_shln : OpR X (binaryOp .LShift) (rN (fun n m => ∃ a, n < 2 ^ a ∧ a + m ≤ 134217728) fun n m => .int ((n * 2 ^ m : Nat) : Int)) := opN op_shlW (fun n m ⟨a, h1, h2⟩ => shl_ok (by simpa using h1) h2) fun n m _ => by rw [Int.toNat_natCast, Int.natCast_mul, Int.natCast_pow]; rfl
theorem op_shrn : OpR X (binaryOp .RShift) (rN0 fun n m => .int ((n / 2 ^ m : Nat) : Int)) := by
  intro pins s σ H x y v u Q I rx ry q
  obtain ⟨n, m, rfl, rfl, q⟩ := q
  refine op_shr pins s σ H _ _ v u Q I rx ry ⟨_, _, rfl, rfl, Int.natCast_nonneg _, ?_⟩
  have q : Q (V.int ((n / 2 ^ m : Nat) : Int)) H := q
  rw [Int.natCast_ediv, Int.natCast_pow] at q
  show Q (V.int ((n : Int) / 2 ^ (m : Int).toNat)) H
  rw [Int.toNat_natCast]
  exact q
theorem op_modn : OpR X (binaryOp .Mod) (rN (fun _ m => 0 < m) fun n m => .int ((n % m : Nat) : Int)) := opN op_mod (fun n m c => by omega) fun n m _ => by rw [Int.natCast_emod]
theorem op_fdivn : OpR X (binaryOp .FloorDiv) (rN (fun _ m => 0 < m ∧ m < 1073741824) fun n m => .int ((n / m : Nat) : Int)) := opN op_fdiv (fun n m c => ⟨by omega, by omega⟩) fun n m _ => by rw [Int.natCast_ediv]
theorem dec_cast {p q : Prop} [Decidable p] [Decidable q] (h : p ↔ q) : decide p = decide q := decide_eq_decide.mpr h
theorem op_ltn : OpR X (compareOp .Lt) (rN0 fun n m => .bl (decide (n < m))) := opN0 op_lt fun n m => congrArg V.bl (dec_cast (by omega))
theorem op_len : OpR X (compareOp .LtE) (rN0 fun n m => .bl (decide (n ≤ m))) := opN0 op_le fun n m => congrArg V.bl (dec_cast (by omega))
theorem op_gtn : OpR X (compareOp .Gt) (rN0 fun n m => .bl (decide (m < n))) := opN0 op_gt fun n m => congrArg V.bl (dec_cast (by omega))
theorem op_gen : OpR X (compareOp .GtE) (rN0 fun n m => .bl (decide (m ≤ n))) := opN0 op_ge fun n m => congrArg V.bl (dec_cast (by omega))
theorem v_eq {n m : Nat} : (V.int (n : Int) = V.int (m : Int)) ↔ n = m := ⟨fun h => by injection h with h; omega, fun h => by rw [h]⟩
theorem op_eqn : OpR X (compareOp .Eq) (rN0 fun n m => .bl (decide (n = m))) := by
  intro pins s σ H x y v u Q I rx ry q
  obtain ⟨n, m, rfl, rfl, q⟩ := q
  refine op_eq pins s σ H _ _ v u Q I rx ry ⟨rfl, ?_⟩
  rw [dec_cast v_eq]
  exact q
theorem op_nen : OpR X (compareOp .NotEq) (rN0 fun n m => .bl (!decide (n = m))) := by
  intro pins s σ H x y v u Q I rx ry q
  obtain ⟨n, m, rfl, rfl, q⟩ := q
  refine op_ne pins s σ H _ _ v u Q I rx ry ⟨rfl, ?_⟩
  rw [dec_cast v_eq]
  exact q
/-- ints -/
theorem op_eqi : OpR X (compareOp .Eq) (rI0 fun i j => .bl (decide (i = j))) := by
  intro pins s σ H x y v u Q I rx ry q
  obtain ⟨n, m, rfl, rfl, q⟩ := q
  refine op_eq pins s σ H _ _ v u Q I rx ry ⟨rfl, ?_⟩
  rw [dec_cast (q := n = m) ⟨fun h => by injection h, fun h => by rw [h]⟩]
  exact q
theorem op_nei : OpR X (compareOp .NotEq) (rI0 fun i j => .bl (!decide (i = j))) := by
  intro pins s σ H x y v u Q I rx ry q
  obtain ⟨n, m, rfl, rfl, q⟩ := q
  refine op_ne pins s σ H _ _ v u Q I rx ry ⟨rfl, ?_⟩
  rw [dec_cast (q := n = m) ⟨fun h => by injection h, fun h => by rw [h]⟩]
  exact q
theorem call_maxn (hc : X.calm = true) : CallR X (.builtin "max") (fun xs H Q => ∃ n m : Nat, xs = [.int (n : Int), .int (m : Int)] ∧ Q (.int ((max n m : Nat) : Int)) H) := by
  intro pins s σ H xs us Q I r h
  obtain ⟨n, m, rfl, q⟩ := h
  refine call_max2 hc pins s σ H _ us Q I r ⟨_, _, rfl, ?_⟩
  have e : (if (m : Int) > (n : Int) then (m : Int) else (n : Int)) = ((max n m : Nat) : Int) := by
    split <;> omega
  rw [e]
  exact q
theorem call_minn (hc : X.calm = true) : CallR X (.builtin "min") (fun xs H Q => ∃ n m : Nat, xs = [.int (n : Int), .int (m : Int)] ∧ Q (.int ((min n m : Nat) : Int)) H) := by
  intro pins s σ H xs us Q I r h
  obtain ⟨n, m, rfl, q⟩ := h
  refine call_min2 hc pins s σ H _ us Q I r ⟨_, _, rfl, ?_⟩
  have e : (if (m : Int) < (n : Int) then (m : Int) else (n : Int)) = ((min n m : Nat) : Int) := by
    split <;> omega
  rw [e]
  exact q
end
/-- a state's sentence, not to be looked into by the readings -/
@[irreducible] def Hd (p : Prop) : Prop := p
theorem Hd.mk {p : Prop} (h : p) : Hd p := by unfold Hd; exact h
theorem Hd.out {p : Prop} (h : Hd p) : p := by unfold Hd at h; exact h
/-! ### cuts: what holds behind a statement, a test, an expression, once for all its ways -/
section
variable {X : Cx}
def tCut (t : TS) : TS := fun D σ H => ∃ M : L2.St → Hp → Prop, (∀ σ' H', M σ' H' → D.nx σ' H') ∧ t { nx := M, rt := D.rt, bk := D.bk, ct := D.ct } σ H
theorem ps_cut {st : Stmt} {t : TS} (h : PS X st t) : PS X st (tCut t) := ⟨fun pins s σ H D I ⟨M, hM, q⟩ => thn (h.run pins s σ H _ I q) fun f s' z => by
  cases f with
  | next =>
    obtain ⟨σ', H', I', q'⟩ := z
    exact ⟨σ', H', I', hM _ _ q'⟩
  | brk => exact z
  | cont => exact z
  | ret u => exact z⟩
def tCutT (t : TT) : TT := fun σ H Q => ∃ M : Bool → Hp → Prop, (∀ b H', M b H' → Q b H') ∧ t σ H M
theorem pt_cut {e : Expr} {t : TT} (h : PT X e t) : PT X e (tCutT t) := ⟨fun pins s σ H Q I ⟨M, hM, q⟩ => thn (h.run pins s σ H _ I q) fun b s' ⟨H', I', q'⟩ => ⟨H', I', hM _ _ q'⟩⟩
def tCutE (t : TE) : TE := fun σ H Q => ∃ M : V → Hp → Prop, (∀ v H', M v H' → Q v H') ∧ t σ H M
theorem pe_cut {e : Expr} {t : TE} (h : PE X e t) : PE X e (tCutE t) := ⟨fun pins s σ H Q I ⟨M, hM, q⟩ => thn (h.run pins s σ H _ I q) fun u s' ⟨v, H', I', r, q'⟩ => ⟨v, H', I', r, hM _ _ q'⟩⟩
end
/-! ### tests, loops -/
theorem while_m {c : TT} {tb : TS} {D : Ends} {σ : L2.St} {H : Hp} (W : Nat → L2.St → Hp → Prop) (m : Nat) (h0 : W m σ H)
    (hs : ∀ m σ H, W m σ H → c σ H fun b H1 => if b = true then ∃ N : L2.St → Hp → Prop, (∀ σ' H', N σ' H' → ∃ m', m' < m ∧ W m' σ' H') ∧ tb { D with nx := N, ct := N, bk := D.nx } σ H1 else D.nx σ H1) : tWhile c tb D σ H := ⟨W, ⟨m, h0⟩, hs⟩
theorem ifN {c : Prop} [Decidable c] {A B : Prop} (h1 : c → A) (h2 : ¬ c → B) : if decide c = true then A else B := by
  by_cases h : c
  · rw [if_pos (decide_eq_true h)]; exact h1 h
  · rw [if_neg (by rw [decide_eq_false h]; exact Bool.false_ne_true)]; exact h2 h
theorem ifNn {c : Prop} [Decidable c] {A B : Prop} (h1 : ¬ c → A) (h2 : c → B) : if (!decide c) = true then A else B := by
  by_cases h : c
  · rw [if_neg (by rw [decide_eq_true h]; exact Bool.false_ne_true)]; exact h2 h
  · rw [if_pos (by rw [decide_eq_false h]; rfl)]; exact h1 h
theorem ifB {b : Bool} {A B : Prop} (h1 : b = true → A) (h2 : b = false → B) : if b = true then A else B := by
  cases b
  · rw [if_neg Bool.false_ne_true]; exact h2 rfl
  · rw [if_pos rfl]; exact h1 rfl
/-- the plain readings, one behind another -/
local macro_rules | `(tactic| walk_at "rd") => `(tactic| repeat (first
  | (refine ⟨_, rfl, ?_⟩)
  | (refine ⟨_, _, rfl, rfl, ?_⟩)
  | (refine ⟨rfl, ?_⟩)
  | (refine ⟨(by decide : (0 : Int) < _), ?_⟩)
  | (refine ⟨(⟨by decide, by decide⟩ : CDiv _ _), ?_⟩)
  | (refine ⟨(Or.inr ⟨by decide, by decide⟩ : CMul _ _), ?_⟩)
  | (refine ⟨(Or.inl ⟨by decide, by decide⟩ : CMul _ _), ?_⟩)))
/-! ranges from a natural on -/
theorem for_rangeN {n : Nat} {g : TG} {tb : TS} {D : Ends} {σ : L2.St} {H : Hp} (Pv : Nat → L2.St → Hp → Prop) (h0 : Pv 0 σ H)
    (hs : ∀ i σ H, i < n → Pv i σ H → g (.int (i : Int)) σ H fun σ2 H2 => tb { nx := Pv (i + 1), rt := D.rt, bk := D.nx, ct := Pv (i + 1) } σ2 H2) (hd : ∀ σ H, Pv n σ H → D.nx σ H) :
    ∃ W : Nat → Nat → L2.St → Hp → Prop, (∃ m, W 0 m σ H) ∧ ∀ i m σ H, W i m σ H →
      ((Itr 0 n).stop i H ∧ D.nx σ H) ∨ ((Itr 0 n).go i H ∧ ∃ N : L2.St → Hp → Prop, (∀ σ' H', N σ' H' → ∃ m', m' < m ∧ W (i + 1) m' σ' H') ∧ ∀ x H', (Itr 0 n).yld i H x H' → g x σ H' fun σ2 H2 => tb { D with nx := N, ct := N, bk := D.nx } σ2 H2) :=
  for_range (lo := 0) Pv h0 (fun i σ H hi h => by rw [Int.zero_add]; exact hs i σ H hi h) hd
theorem for_rangeM {lo n : Nat} {g : TG} {tb : TS} {D : Ends} {σ : L2.St} {H : Hp} (Pv : Nat → L2.St → Hp → Prop) (h0 : Pv 0 σ H)
    (hs : ∀ i σ H, i < n → Pv i σ H → g (.int ((lo + i : Nat) : Int)) σ H fun σ2 H2 => tb { nx := Pv (i + 1), rt := D.rt, bk := D.nx, ct := Pv (i + 1) } σ2 H2) (hd : ∀ σ H, Pv n σ H → D.nx σ H) :
    ∃ W : Nat → Nat → L2.St → Hp → Prop, (∃ m, W 0 m σ H) ∧ ∀ i m σ H, W i m σ H →
      ((Itr lo n).stop i H ∧ D.nx σ H) ∨ ((Itr lo n).go i H ∧ ∃ N : L2.St → Hp → Prop, (∀ σ' H', N σ' H' → ∃ m', m' < m ∧ W (i + 1) m' σ' H') ∧ ∀ x H', (Itr lo n).yld i H x H' → g x σ H' fun σ2 H2 => tb { D with nx := N, ct := N, bk := D.nx } σ2 H2) :=
  for_range (lo := (lo : Int)) Pv h0 (fun i σ H hi h => by rw [← Int.natCast_add]; exact hs i σ H hi h) hd
theorem lc_rangeN {n : Nat} {g : TG} {tt : TT} {te : TE} {vs : List Nat} {σ : L2.St} {H1 : Hp} {D : Addr} {Qd : Hp → Prop} (Pv : Nat → Hp → Prop) (h0 : Pv 0 (upd H1 D (.lst [])))
    (hs : ∀ i H, i < n → Pv i H → g (.int (i : Int)) (wipe σ vs) H fun σ2 H2 => wipe σ2 vs = wipe σ vs ∧ tt σ2 H2 fun b H3 =>
      if b = true then te σ2 H3 fun y H4 => ∃ acc, H4 D = some (.lst acc) ∧ acc.length < sizeLine ∧ Pv (i + 1) (upd H4 D (.lst (acc ++ [y]))) else Pv (i + 1) H3) (hd : ∀ H, Pv n H → Qd H) :
    ∃ W : Nat → Nat → Hp → Prop, (∃ m, W 0 m (upd H1 D (.lst []))) ∧ ∀ i m H, W i m H →
      ((Itr 0 n).stop i H ∧ Qd H) ∨ ((Itr 0 n).go i H ∧ ∃ Nx : Hp → Prop, (∀ H', Nx H' → ∃ m', m' < m ∧ W (i + 1) m' H') ∧ ∀ x H', (Itr 0 n).yld i H x H' → g x (wipe σ vs) H' fun σ2 H2 => wipe σ2 vs = wipe σ vs ∧ tt σ2 H2 fun b H3 =>
        if b = true then te σ2 H3 fun y H4 => ∃ acc, H4 D = some (.lst acc) ∧ acc.length < sizeLine ∧ Nx (upd H4 D (.lst (acc ++ [y]))) else Nx H3) :=
  lc_range (lo := 0) Pv h0 (fun i H hi h => by rw [Int.zero_add]; exact hs i H hi h) hd
theorem lc_rangeM {lo n : Nat} {g : TG} {tt : TT} {te : TE} {vs : List Nat} {σ : L2.St} {H1 : Hp} {D : Addr} {Qd : Hp → Prop} (Pv : Nat → Hp → Prop) (h0 : Pv 0 (upd H1 D (.lst [])))
    (hs : ∀ i H, i < n → Pv i H → g (.int ((lo + i : Nat) : Int)) (wipe σ vs) H fun σ2 H2 => wipe σ2 vs = wipe σ vs ∧ tt σ2 H2 fun b H3 =>
      if b = true then te σ2 H3 fun y H4 => ∃ acc, H4 D = some (.lst acc) ∧ acc.length < sizeLine ∧ Pv (i + 1) (upd H4 D (.lst (acc ++ [y]))) else Pv (i + 1) H3) (hd : ∀ H, Pv n H → Qd H) :
    ∃ W : Nat → Nat → Hp → Prop, (∃ m, W 0 m (upd H1 D (.lst []))) ∧ ∀ i m H, W i m H →
      ((Itr lo n).stop i H ∧ Qd H) ∨ ((Itr lo n).go i H ∧ ∃ Nx : Hp → Prop, (∀ H', Nx H' → ∃ m', m' < m ∧ W (i + 1) m' H') ∧ ∀ x H', (Itr lo n).yld i H x H' → g x (wipe σ vs) H' fun σ2 H2 => wipe σ2 vs = wipe σ vs ∧ tt σ2 H2 fun b H3 =>
        if b = true then te σ2 H3 fun y H4 => ∃ acc, H4 D = some (.lst acc) ∧ acc.length < sizeLine ∧ Nx (upd H4 D (.lst (acc ++ [y]))) else Nx H3) :=
  lc_range (lo := (lo : Int)) Pv h0 (fun i H hi h => by rw [← Int.natCast_add]; exact hs i H hi h) hd
theorem Same.upd {H : Hp} {p : Addr} {o : HO} (hp : H p = none) : Same H (upd H p o) := fun a u e => by
  rw [upd_ne (ne_of_none e hp)]
  exact e
theorem ret_dec {p : Prop} [Decidable p] {Q : VK} {H : Hp} (hp : p) (q : Q (.bl true) H) : Q (.bl (decide p)) H := by
  rw [decide_eq_true hp]
  exact q
/-! ### the law's end, with the numbers' bits -/
theorem walk_ofEB {l : PySem.W.OpenLaw} {n k : Nat} {q : Program} {loose : List Str} {XP : (Str → Option Value) → Heap → Prop} {YP : World → Heap → Prop} {d : DefRec} {CX : CXT} {x : Str}
    (hn : l.most = some n) (hn2 : n ≤ sizeLine) (hdf : d.params.defaults = []) (hr : Room k callerA)
    (F : ∀ (w : World) (mg : Str → Option Value) (fa : Addr) (h : Heap), YP w h → h.Ns mainGlobals mg → mg d.name = some (.ref fa) →
      ∃ (K : PySem.W.Frag) (fd : FuncData) (sp : Sp), K.In h ∧ (∀ (s : Shared) (u : Value), BindsTo s fd ⟨[u], []⟩ [(x, u)]) ∧
        (∀ (H : Hp) (a : Addr) (ns : List Int), ns.length ≤ n → (∀ z ∈ ns, Builtin.Int.intBits z ≤ 1048576) → Only H → SqL K H a (ns.map V.int) → sp [.ref a] H (fun v _ => v = .bl true) fun _ _ _ => False) ∧
        ∀ base : Heap, K.In base → base.Ns mainGlobals mg → FnOk l.prog w K mg base CX k fa fd [x] sp)
    (hCX : ∀ (H : Hp) (s : Shared) (e : Value) (s' : Shared), CX [] H s (fun _ _ _ => False) e s' → False) :
    PySem.W.WalkO q loose XP YP l.row.toRowW d [] (fun f vs => PySem.call f vs) := by
  refine Att.attach_callB hn hdf fun w s₀ s₁ mg mb fa o pm cd doc a vs ns G Y ho hd hcd hmg hobj hints hlen hbits hg => ?_
  obtain ⟨K, fd, sp, KX, hb, hsp, hF⟩ := F w mg fa _ Y G.T.g hmg
  exact law_call KX G.T.g G.T.b G.T.builtins G.T.nolimit hg hobj hints (Nat.le_trans hlen hn2) hr hF hb (fun H hO hS => hsp H a ns hlen hbits hO hS) fun H e s' => hCX H s₁ e s'
/-- the law's promise: a list of at most 63 ints, each of at most 2 ^ 20 bits -/
def spLaw (K : PySem.W.Frag) : Sp := fun vs H Q _ => ∃ (a : Addr) (ns : List Int), vs = [.ref a] ∧ SqL K H a (ns.map V.int) ∧ ns.length ≤ 63 ∧ (∀ z ∈ ns, Builtin.Int.intBits z ≤ 1048576) ∧ ∀ H', Q (.bl true) H'
/-- the law's def: what the end asks of it -/
structure LawOk (l : PySem.W.OpenLaw) (w : World) (K : PySem.W.Frag) (mg : Str → Option Value) (k : Nat) (f : Addr) (x : Str) (fd : FuncData) : Prop where
  bind : ∀ (s : Shared) (u : Value), BindsTo s fd ⟨[u], []⟩ [(x, u)]
  run : ∀ base : Heap, K.In base → base.Ns mainGlobals mg → FnOk l.prog w K mg base CX0 k f fd [x] (few [x] (spLaw K))
end N
set_option linter.all false
/-! Nim numbers: the tower of fields F n (pairs over pairs), its ring laws, inverses, roots, and the same on naturals. Plain Lean. -/
namespace Nim
/-- numbers below 2 ^ 2 ^ n, as halves of halves -/
def F : Nat → Type
  | 0 => Bool
  | n + 1 => F n × F n
def zero : (n : Nat) → F n
  | 0 => false
  | n + 1 => (zero n, zero n)
def one : (n : Nat) → F n
  | 0 => true
  | n + 1 => (zero n, one n)
/-- the number with the highest bit alone -/
def cst : (n : Nat) → F n
  | 0 => true
  | n + 1 => (cst n, zero n)
def add : (n : Nat) → F n → F n → F n
  | 0, a, b => Bool.xor a b
  | n + 1, a, b => (add n a.1 b.1, add n a.2 b.2)
def mul : (n : Nat) → F n → F n → F n
  | 0, a, b => Bool.and a b
  | n + 1, a, b => (add n (mul n a.1 b.1) (add n (mul n a.1 b.2) (mul n a.2 b.1)), add n (mul n a.2 b.2) (mul n (mul n a.1 b.1) (cst n)))
theorem add_comm : ∀ n (a b : F n), add n a b = add n b a
  | 0, a, b => Bool.xor_comm a b
  | n + 1, a, b => Prod.ext (add_comm n _ _) (add_comm n _ _)
theorem add_assoc : ∀ n (a b c : F n), add n (add n a b) c = add n a (add n b c)
  | 0, a, b, c => Bool.xor_assoc a b c
  | n + 1, a, b, c => Prod.ext (add_assoc n _ _ _) (add_assoc n _ _ _)
theorem add_self : ∀ n (a : F n), add n a a = zero n
  | 0, a => Bool.xor_self a
  | n + 1, a => Prod.ext (add_self n _) (add_self n _)
theorem zero_add : ∀ n (a : F n), add n (zero n) a = a
  | 0, a => Bool.false_xor a
  | n + 1, a => Prod.ext (zero_add n _) (zero_add n _)
theorem add_zero (n) (a : F n) : add n a (zero n) = a := by rw [add_comm, zero_add]
theorem add_left_comm (n) (a b c : F n) : add n a (add n b c) = add n b (add n a c) := by
  rw [← add_assoc, add_comm n a b, add_assoc]
theorem add_cancel (n) (a b : F n) : add n a (add n a b) = b := by
  rw [← add_assoc, add_self, zero_add]
theorem add_eq_zero {n} {a b : F n} (h : add n a b = zero n) : a = b := by
  have e := congrArg (add n a) h
  rw [add_cancel, add_zero] at e
  exact e.symm
instance (n) : Std.Associative (add n) := ⟨add_assoc n⟩
instance (n) : Std.Commutative (add n) := ⟨add_comm n⟩
theorem mul_comm : ∀ n (a b : F n), mul n a b = mul n b a
  | 0, a, b => Bool.and_comm a b
  | n + 1, a, b => by
    refine Prod.ext ?_ ?_
    · show add n (mul n a.1 b.1) (add n (mul n a.1 b.2) (mul n a.2 b.1)) = add n (mul n b.1 a.1) (add n (mul n b.1 a.2) (mul n b.2 a.1))
      rw [mul_comm n b.1 a.1, mul_comm n b.1 a.2, mul_comm n b.2 a.1, add_comm n (mul n a.2 b.1)]
    · show add n (mul n a.2 b.2) (mul n (mul n a.1 b.1) (cst n)) = add n (mul n b.2 a.2) (mul n (mul n b.1 a.1) (cst n))
      rw [mul_comm n b.1 a.1, mul_comm n b.2 a.2]
theorem mul_add : ∀ n (a b c : F n), mul n a (add n b c) = add n (mul n a b) (mul n a c)
  | 0, a, b, c => by cases a <;> cases b <;> cases c <;> rfl
  | n + 1, a, b, c => by
    have ih := mul_add n
    have ih2 : ∀ a b c : F n, mul n (add n b c) a = add n (mul n b a) (mul n c a) := fun a b c => by rw [mul_comm, ih, mul_comm n a b, mul_comm n a c]
    refine Prod.ext ?_ ?_
    · show add n (mul n a.1 (add n b.1 c.1)) (add n (mul n a.1 (add n b.2 c.2)) (mul n a.2 (add n b.1 c.1))) = add n (add n (mul n a.1 b.1) (add n (mul n a.1 b.2) (mul n a.2 b.1))) (add n (mul n a.1 c.1) (add n (mul n a.1 c.2) (mul n a.2 c.1)))
      rw [ih, ih, ih]
      ac_rfl
    · show add n (mul n a.2 (add n b.2 c.2)) (mul n (mul n a.1 (add n b.1 c.1)) (cst n)) = add n (add n (mul n a.2 b.2) (mul n (mul n a.1 b.1) (cst n))) (add n (mul n a.2 c.2) (mul n (mul n a.1 c.1) (cst n)))
      rw [ih, ih, ih2]
      ac_rfl
theorem add_mul (n) (a b c : F n) : mul n (add n a b) c = add n (mul n a c) (mul n b c) := by
  rw [mul_comm, mul_add, mul_comm n c a, mul_comm n c b]
theorem zero_mul (n) (a : F n) : mul n (zero n) a = zero n := by
  rw [← add_self n (zero n), add_mul, add_self, add_self]
theorem mul_zero (n) (a : F n) : mul n a (zero n) = zero n := by rw [mul_comm, zero_mul]
theorem one_mul : ∀ n (a : F n), mul n (one n) a = a
  | 0, a => Bool.true_and a
  | n + 1, a => by
    have ih := one_mul n
    refine Prod.ext ?_ ?_
    · show add n (mul n (zero n) a.1) (add n (mul n (zero n) a.2) (mul n (one n) a.1)) = a.1
      rw [zero_mul, zero_mul, zero_add, zero_add, ih]
    · show add n (mul n (one n) a.2) (mul n (mul n (zero n) a.1) (cst n)) = a.2
      rw [zero_mul, zero_mul, add_zero, ih]
theorem mul_one (n) (a : F n) : mul n a (one n) = a := by rw [mul_comm, one_mul]
theorem mul_assoc : ∀ n (a b c : F n), mul n (mul n a b) c = mul n a (mul n b c)
  | 0, a, b, c => Bool.and_assoc a b c
  | n + 1, a, b, c => by
    have i1 : Std.Associative (mul n) := ⟨mul_assoc n⟩
    have i2 : Std.Commutative (mul n) := ⟨mul_comm n⟩
    refine Prod.ext ?_ ?_
    · simp only [mul, mul_add, add_mul]
      ac_rfl
    · simp only [mul, mul_add, add_mul]
      ac_rfl
instance (n) : Std.Associative (mul n) := ⟨mul_assoc n⟩
instance (n) : Std.Commutative (mul n) := ⟨mul_comm n⟩
theorem mul_left_comm (n) (a b c : F n) : mul n a (mul n b c) = mul n b (mul n a c) := by
  rw [← mul_assoc, mul_comm n a b, mul_assoc]
/-- squares -/
def sq (n) (a : F n) : F n := mul n a a
theorem sq_add (n) (a b : F n) : sq n (add n a b) = add n (sq n a) (sq n b) := by
  unfold sq
  rw [mul_add, add_mul, add_mul, mul_comm n b a]
  have e : add n (add n (mul n a a) (mul n a b)) (add n (mul n a b) (mul n b b)) = add n (add n (mul n a a) (mul n b b)) (add n (mul n a b) (mul n a b)) := by ac_rfl
  rw [e, add_self, add_zero]
theorem sq_mul (n) (a b : F n) : sq n (mul n a b) = mul n (sq n a) (sq n b) := by
  unfold sq
  ac_rfl
theorem sq_succ (n) (a : F (n + 1)) : sq (n + 1) a = (sq n a.1, add n (sq n a.2) (mul n (sq n a.1) (cst n))) := by
  refine Prod.ext ?_ ?_
  · show add n (mul n a.1 a.1) (add n (mul n a.1 a.2) (mul n a.2 a.1)) = sq n a.1
    rw [mul_comm n a.2 a.1, add_self, add_zero]
    rfl
  · rfl
/-- the highest bit -/
def top : (n : Nat) → F n → Bool
  | 0, a => a
  | n + 1, a => top n a.1
theorem top_add : ∀ n (a b : F n), top n (add n a b) = Bool.xor (top n a) (top n b)
  | 0, _, _ => rfl
  | n + 1, a, b => top_add n a.1 b.1
theorem top_zero : ∀ n, top n (zero n) = false
  | 0 => rfl
  | n + 1 => top_zero n
theorem top_cst : ∀ n, top n (cst n) = true
  | 0 => rfl
  | n + 1 => top_cst n
theorem top_sq : ∀ n (a : F n), top n (add n (sq n a) a) = false
  | 0, a => by cases a <;> rfl
  | n + 1, a => by
    rw [sq_succ]
    exact top_sq n a.1
/-- inverses -/
def inv : (n : Nat) → F n → F n
  | 0, a => a
  | n + 1, a => let b := inv n (add n (mul n a.2 (add n a.1 a.2)) (mul n (sq n a.1) (cst n))); (mul n a.1 b, mul n (add n a.1 a.2) b)
instance decEq : (n : Nat) → DecidableEq (F n)
  | 0 => inferInstanceAs (DecidableEq Bool)
  | n + 1 => have := decEq n; inferInstanceAs (DecidableEq (F n × F n))
theorem one_ne_zero : ∀ n, one n ≠ zero n
  | 0, h => nomatch h
  | n + 1, h => one_ne_zero n (congrArg (fun p : F n × F n => p.2) h)
/-- the product of a number and the other one with the same halves' sum -/
def norm (n) (a : F (n + 1)) : F n := add n (mul n a.2 (add n a.1 a.2)) (mul n (sq n a.1) (cst n))
theorem mul_conj (n) (a : F (n + 1)) (b : F n) : mul (n + 1) a (mul n a.1 b, mul n (add n a.1 a.2) b) = (zero n, mul n (norm n a) b) := by
  refine Prod.ext ?_ ?_
  · show add n (mul n a.1 (mul n a.1 b)) (add n (mul n a.1 (mul n (add n a.1 a.2) b)) (mul n a.2 (mul n a.1 b))) = zero n
    rw [add_mul, mul_add]
    have e : add n (mul n a.1 (mul n a.1 b)) (add n (add n (mul n a.1 (mul n a.1 b)) (mul n a.1 (mul n a.2 b))) (mul n a.2 (mul n a.1 b)))
      = add n (add n (mul n a.1 (mul n a.1 b)) (mul n a.1 (mul n a.1 b))) (add n (mul n a.1 (mul n a.2 b)) (mul n a.1 (mul n a.2 b))) := by ac_rfl
    rw [e, add_self, add_self, add_zero]
  · show add n (mul n a.2 (mul n (add n a.1 a.2) b)) (mul n (mul n a.1 (mul n a.1 b)) (cst n)) = mul n (norm n a) b
    unfold norm sq
    simp only [add_mul, mul_add]
    ac_rfl
theorem mul_inv : ∀ n (a : F n), a ≠ zero n → mul n a (inv n a) = one n
  | 0, a, h => by
    cases a
    · exact absurd rfl h
    · rfl
  | n + 1, a, h => by
    have ih := mul_inv n
    have nz : ∀ x y : F n, mul n x y = zero n → x ≠ zero n → y = zero n := fun x y e hx => by
      have e2 := congrArg (mul n (inv n x)) e
      rw [← mul_assoc, mul_comm n (inv n x) x, ih x hx, one_mul, mul_zero] at e2
      exact e2
    have hn : norm n a ≠ zero n := fun e => by
      by_cases h1 : a.1 = zero n
      · have h2 : a.2 ≠ zero n := fun h2 => h (Prod.ext h1 h2)
        unfold norm sq at e
        rw [h1, zero_add, zero_mul, zero_mul, add_zero] at e
        exact h2 (nz _ _ e h2)
      · have e1 : mul n a.2 (add n a.1 a.2) = mul n (sq n a.1) (cst n) := add_eq_zero e
        have e2 := congrArg (mul n (sq n (inv n a.1))) e1
        have e3 : mul n (sq n (inv n a.1)) (mul n (sq n a.1) (cst n)) = cst n := by
          rw [← mul_assoc, ← sq_mul, mul_comm n (inv n a.1), ih _ h1]
          unfold sq
          rw [one_mul, one_mul]
        have e4 : mul n (sq n (inv n a.1)) (mul n a.2 (add n a.1 a.2)) = add n (sq n (mul n a.2 (inv n a.1))) (mul n a.2 (inv n a.1)) := by
          rw [mul_add, mul_add]
          have f1 : mul n (sq n (inv n a.1)) (mul n a.2 a.1) = mul n (mul n a.2 (inv n a.1)) (mul n a.1 (inv n a.1)) := by
            unfold sq
            ac_rfl
          have f2 : mul n (sq n (inv n a.1)) (mul n a.2 a.2) = sq n (mul n a.2 (inv n a.1)) := by
            unfold sq
            ac_rfl
          rw [f1, f2, ih _ h1, mul_one, add_comm]
        have t := top_sq n (mul n a.2 (inv n a.1))
        rw [← e4, e2, e3, top_cst] at t
        cases t
    show mul (n + 1) a (mul n a.1 (inv n (norm n a)), mul n (add n a.1 a.2) (inv n (norm n a))) = one (n + 1)
    rw [mul_conj, ih _ hn]
    rfl
theorem mul_eq_zero {n} {a b : F n} (h : mul n a b = zero n) : a = zero n ∨ b = zero n := by
  by_cases ha : a = zero n
  · exact .inl ha
  · have e2 := congrArg (mul n (inv n a)) h
    rw [← mul_assoc, mul_comm n (inv n a) a, mul_inv n a ha, one_mul, mul_zero] at e2
    exact .inr e2
theorem mul_cancel {n} {a b c : F n} (ha : a ≠ zero n) (h : mul n a b = mul n a c) : b = c := by
  have e : mul n a (add n b c) = zero n := by rw [mul_add, h, add_self]
  rcases mul_eq_zero e with e | e
  · exact absurd e ha
  · exact add_eq_zero e
theorem norm_ne {n} {a : F (n + 1)} (h : a ≠ zero (n + 1)) : norm n a ≠ zero n := fun e => by
  have c := mul_conj n a (one n)
  rw [e, zero_mul, mul_one, mul_one] at c
  rcases mul_eq_zero (n := n + 1) (show mul (n + 1) a (a.1, add n a.1 a.2) = zero (n + 1) from c) with z | z
  · exact h z
  · have h1 : a.1 = zero n := congrArg (fun p : F n × F n => p.1) z
    have h2 : add n a.1 a.2 = zero n := congrArg (fun p : F n × F n => p.2) z
    rw [h1, zero_add] at h2
    exact h (Prod.ext h1 h2)
/-- square roots -/
def rt : (n : Nat) → F n → F n
  | 0, a => a
  | n + 1, a => (rt n a.1, rt n (add n a.2 (mul n a.1 (cst n))))
theorem sq_rt : ∀ n (a : F n), sq n (rt n a) = a
  | 0, a => Bool.and_self a
  | n + 1, a => by
    rw [sq_succ]
    show (sq n (rt n a.1), add n (sq n (rt n (add n a.2 (mul n a.1 (cst n))))) (mul n (sq n (rt n a.1)) (cst n))) = a
    rw [sq_rt n, sq_rt n, add_assoc, add_self, add_zero]
    rfl
theorem sq_inj {n} {a b : F n} (h : sq n a = sq n b) : a = b := by
  have e : sq n (add n a b) = zero n := by rw [sq_add, h, add_self]
  rcases mul_eq_zero e with e | e <;> exact add_eq_zero e
/-- squared k times -/
def sqi (n : Nat) : Nat → F n → F n
  | 0, a => a
  | k + 1, a => sq n (sqi n k a)
theorem sqi_add (n) (a : F n) (j : Nat) : ∀ k, sqi n (j + k) a = sqi n k (sqi n j a)
  | 0 => rfl
  | k + 1 => congrArg (sq n) (sqi_add n a j k)
theorem sqi_pair (n) : ∀ k, ∃ t : F n, ∀ a : F (n + 1), sqi (n + 1) k a = (sqi n k a.1, add n (sqi n k a.2) (mul n (sqi n k a.1) t))
  | 0 => ⟨zero n, fun a => by
    refine Prod.ext rfl ?_
    show a.2 = add n a.2 (mul n a.1 (zero n))
    rw [mul_zero, add_zero]⟩
  | k + 1 => by
    obtain ⟨t, h⟩ := sqi_pair n k
    refine ⟨add n (sq n t) (cst n), fun a => ?_⟩
    show sq (n + 1) (sqi (n + 1) k a) = _
    rw [h a]
    refine (sq_succ n _).trans (Prod.ext rfl ?_)
    show add n (sq n (add n (sqi n k a.2) (mul n (sqi n k a.1) t))) (mul n (sq n (sqi n k a.1)) (cst n)) = add n (sq n (sqi n k a.2)) (mul n (sq n (sqi n k a.1)) (add n (sq n t) (cst n)))
    rw [sq_add, sq_mul, mul_add, add_assoc]
theorem sqi_fix : ∀ n (a : F n), sqi n (2 ^ n) a = a
  | 0, a => by cases a <;> rfl
  | n + 1, a => by
    have ih := sqi_fix n
    obtain ⟨t, h⟩ := sqi_pair n (2 ^ n)
    have e : 2 ^ (n + 1) = 2 ^ n + 2 ^ n := by omega
    rw [e, sqi_add, h, h]
    refine Prod.ext ?_ ?_
    · show sqi n (2 ^ n) (sqi n (2 ^ n) a.1) = a.1
      rw [ih, ih]
    · show add n (sqi n (2 ^ n) (add n (sqi n (2 ^ n) a.2) (mul n (sqi n (2 ^ n) a.1) t))) (mul n (sqi n (2 ^ n) (sqi n (2 ^ n) a.1)) t) = a.2
      rw [ih, ih, ih, ih, add_assoc, add_self, add_zero]
end Nim
set_option linter.all false
/-! The tower of fields on naturals: enc, dec, the product nm, its laws, its one-turn equation. Plain Lean. -/
namespace Nim
/-- a number's bits: 2 ^ n -/
abbrev bw (n : Nat) : Nat := 2 ^ n
theorem bw_succ (n : Nat) : bw (n + 1) = bw n + bw n := by
  show 2 ^ (n + 1) = 2 ^ n + 2 ^ n
  omega
theorem bw_pos (n : Nat) : 0 < bw n := Nat.two_pow_pos n
def enc : (n : Nat) → F n → Nat
  | 0, a => Bool.toNat a
  | n + 1, a => enc n a.1 * 2 ^ bw n + enc n a.2
def dec : (n : Nat) → Nat → F n
  | 0, a => decide (a % 2 = 1)
  | n + 1, a => (dec n (a / 2 ^ bw n), dec n (a % 2 ^ bw n))
theorem enc_lt : ∀ n (x : F n), enc n x < 2 ^ bw n
  | 0, x => by cases x <;> decide
  | n + 1, x => by
    have h1 := enc_lt n x.1
    have h2 := enc_lt n x.2
    show enc n x.1 * 2 ^ bw n + enc n x.2 < 2 ^ bw (n + 1)
    rw [bw_succ, Nat.pow_add]
    calc enc n x.1 * 2 ^ bw n + enc n x.2 < enc n x.1 * 2 ^ bw n + 2 ^ bw n := by omega
      _ = (enc n x.1 + 1) * 2 ^ bw n := by rw [Nat.succ_mul]
      _ ≤ 2 ^ bw n * 2 ^ bw n := Nat.mul_le_mul_right _ h1
theorem dec_enc : ∀ n (x : F n), dec n (enc n x) = x
  | 0, x => by cases x <;> rfl
  | n + 1, x => by
    have h2 := enc_lt n x.2
    have p : 0 < 2 ^ bw n := Nat.two_pow_pos _
    show (dec n ((enc n x.1 * 2 ^ bw n + enc n x.2) / 2 ^ bw n), dec n ((enc n x.1 * 2 ^ bw n + enc n x.2) % 2 ^ bw n)) = x
    rw [Nat.mul_comm, Nat.mul_add_div p, Nat.div_eq_of_lt h2, Nat.add_zero, Nat.mul_add_mod, Nat.mod_eq_of_lt h2, dec_enc n, dec_enc n]
    rfl
theorem half_lt {n a : Nat} (h : a < 2 ^ bw (n + 1)) : a / 2 ^ bw n < 2 ^ bw n := by
  rw [bw_succ, Nat.pow_add] at h
  exact Nat.div_lt_of_lt_mul h
theorem enc_dec : ∀ n {a : Nat}, a < 2 ^ bw n → enc n (dec n a) = a
  | 0, a, h => by
    have h : a < 2 := h
    have : a = 0 ∨ a = 1 := by omega
    rcases this with rfl | rfl <;> rfl
  | n + 1, a, h => by
    have p : 0 < 2 ^ bw n := Nat.two_pow_pos _
    show enc n (dec n (a / 2 ^ bw n)) * 2 ^ bw n + enc n (dec n (a % 2 ^ bw n)) = a
    rw [enc_dec n (half_lt h), enc_dec n (Nat.mod_lt _ p), Nat.mul_comm]
    exact Nat.div_add_mod a _
theorem xor_parts (k a b c d : Nat) (hb : b < 2 ^ k) (hd : d < 2 ^ k) : (a * 2 ^ k + b) ^^^ (c * 2 ^ k + d) = (a ^^^ c) * 2 ^ k + (b ^^^ d) := by
  apply Nat.eq_of_testBit_eq
  intro j
  rw [Nat.testBit_xor, Nat.mul_comm a, Nat.mul_comm c, Nat.mul_comm (a ^^^ c), Nat.testBit_two_pow_mul_add a hb, Nat.testBit_two_pow_mul_add c hd, Nat.testBit_two_pow_mul_add (a ^^^ c) (Nat.xor_lt_two_pow hb hd)]
  split
  · rw [Nat.testBit_xor]
  · rw [Nat.testBit_xor]
theorem enc_add : ∀ n (x y : F n), enc n (add n x y) = enc n x ^^^ enc n y
  | 0, x, y => by cases x <;> cases y <;> rfl
  | n + 1, x, y => by
    show enc n (add n x.1 y.1) * 2 ^ bw n + enc n (add n x.2 y.2) = (enc n x.1 * 2 ^ bw n + enc n x.2) ^^^ (enc n y.1 * 2 ^ bw n + enc n y.2)
    rw [xor_parts _ _ _ _ _ (enc_lt n x.2) (enc_lt n y.2), enc_add n, enc_add n]
theorem dec_mod : ∀ n a, dec n (a % 2 ^ bw n) = dec n a
  | 0, a => by
    show decide (a % 2 % 2 = 1) = decide (a % 2 = 1)
    rw [Nat.mod_mod]
  | n + 1, a => by
    have e : (2 : Nat) ^ bw (n + 1) = 2 ^ bw n * 2 ^ bw n := by rw [bw_succ, Nat.pow_add]
    show (dec n (a % 2 ^ bw (n + 1) / 2 ^ bw n), dec n (a % 2 ^ bw (n + 1) % 2 ^ bw n)) = (dec n (a / 2 ^ bw n), dec n (a % 2 ^ bw n))
    rw [e, Nat.mod_mul_right_div_self, Nat.mod_mul_right_mod, dec_mod n (a / 2 ^ bw n)]
theorem dec_xor (n a b : Nat) : dec n (a ^^^ b) = add n (dec n a) (dec n b) := by
  rw [← dec_mod n (a ^^^ b), ← dec_mod n a, ← dec_mod n b, Nat.xor_mod_two_pow]
  have p : 0 < 2 ^ bw n := Nat.two_pow_pos _
  have ha := Nat.mod_lt a p
  have hb := Nat.mod_lt b p
  rw [← dec_enc n (add n _ _), enc_add, enc_dec n ha, enc_dec n hb]
theorem dec_zero : ∀ n, dec n 0 = zero n
  | 0 => rfl
  | n + 1 => by
    show (dec n (0 / _), dec n (0 % _)) = _
    rw [Nat.zero_div, Nat.zero_mod, dec_zero n]
    rfl
theorem one_lt_bw (n : Nat) : 1 < 2 ^ bw n := Nat.one_lt_two_pow (Nat.pos_iff_ne_zero.mp (bw_pos n))
theorem dec_one : ∀ n, dec n 1 = one n
  | 0 => rfl
  | n + 1 => by
    have p := one_lt_bw n
    show (dec n (1 / _), dec n (1 % _)) = _
    rw [Nat.div_eq_of_lt p, Nat.mod_eq_of_lt p, dec_zero n, dec_one n]
    rfl
theorem enc_zero (n) : enc n (zero n) = 0 := by
  rw [← dec_zero n, enc_dec n (Nat.two_pow_pos _)]
theorem enc_one (n) : enc n (one n) = 1 := by
  rw [← dec_one n, enc_dec n (one_lt_bw n)]
theorem enc_inj {n} {x y : F n} (h : enc n x = enc n y) : x = y := by
  rw [← dec_enc n x, h, dec_enc]
theorem enc_cst : ∀ n, enc n (cst n) = 2 ^ (bw n - 1)
  | 0 => rfl
  | n + 1 => by
    have p := bw_pos n
    show enc n (cst n) * 2 ^ bw n + enc n (zero n) = _
    rw [enc_zero, Nat.add_zero, enc_cst n, ← Nat.pow_add, bw_succ]
    congr 1
    omega
theorem dec_cst (n) : dec n (2 ^ (bw n - 1)) = cst n := by
  rw [← enc_cst, dec_enc]
/-- a number within the next level -/
theorem dec_up {n a : Nat} (h : a < 2 ^ bw n) : dec (n + 1) a = (zero n, dec n a) := by
  show (dec n (a / _), dec n (a % _)) = _
  rw [Nat.div_eq_of_lt h, Nat.mod_eq_of_lt h, dec_zero]
/-- the product at a level -/
def nml (n a b : Nat) : Nat := enc n (mul n (dec n a) (dec n b))
theorem nml_lt (n a b : Nat) : nml n a b < 2 ^ bw n := enc_lt n _
theorem dec_nml (n a b : Nat) : dec n (nml n a b) = mul n (dec n a) (dec n b) := dec_enc n _
theorem nml_up {n a b : Nat} (ha : a < 2 ^ bw n) (hb : b < 2 ^ bw n) : nml (n + 1) a b = nml n a b := by
  unfold nml
  rw [dec_up ha, dec_up hb]
  show enc n (add n (mul n (zero n) (zero n)) (add n (mul n (zero n) (dec n b)) (mul n (dec n a) (zero n)))) * 2 ^ bw n + enc n (add n (mul n (dec n a) (dec n b)) (mul n (mul n (zero n) (zero n)) (cst n))) = _
  rw [zero_mul, zero_mul, zero_mul, mul_zero, zero_add, zero_add, add_zero, enc_zero, Nat.zero_mul, Nat.zero_add]
theorem lt_up {n a : Nat} (k : Nat) (h : a < 2 ^ bw n) : a < 2 ^ bw (n + k) :=
  Nat.lt_of_lt_of_le h (Nat.pow_le_pow_right (by decide) (Nat.pow_le_pow_right (by decide) (Nat.le_add_right n k)))
theorem lt_le {n m a : Nat} (h : a < 2 ^ bw n) (hm : n ≤ m) : a < 2 ^ bw m := by
  obtain ⟨k, rfl⟩ := Nat.exists_eq_add_of_le hm
  exact lt_up k h
theorem nml_add {n a b : Nat} (ha : a < 2 ^ bw n) (hb : b < 2 ^ bw n) : ∀ k, nml (n + k) a b = nml n a b
  | 0 => rfl
  | k + 1 => by
    rw [← Nat.add_assoc, nml_up (lt_up k ha) (lt_up k hb), nml_add ha hb k]
/-- the product of numbers below 2 ^ 256 -/
theorem nm_ex : ∃ f : Nat → Nat → Nat, f = nml 8 := ⟨_, rfl⟩
/-- by choice: nobody reckons it by unfolding -/
noncomputable def nm : Nat → Nat → Nat := Classical.choose nm_ex
theorem nm_def (a b : Nat) : nm a b = nml 8 a b := congrFun (congrFun (Classical.choose_spec nm_ex) a) b
/-- below 2 ^ 2 ^ n, n at most 8 -/
structure In (n a : Nat) : Prop where
  le : n ≤ 8
  lt : a < 2 ^ bw n
theorem In.up {n m a : Nat} (h : In n a) (hm : n ≤ m) (h8 : m ≤ 8) : In m a := ⟨h8, lt_le h.lt hm⟩
theorem In.top {n a : Nat} (h : In n a) : In 8 a := h.up h.le (Nat.le_refl _)
theorem In.zero {n : Nat} (h : n ≤ 8) : In n 0 := ⟨h, Nat.two_pow_pos _⟩
theorem In.one {n : Nat} (h : n ≤ 8) : In n 1 := ⟨h, one_lt_bw n⟩
theorem In.xor {n a b : Nat} (ha : In n a) (hb : In n b) : In n (a ^^^ b) := ⟨ha.le, Nat.xor_lt_two_pow ha.lt hb.lt⟩
theorem nm_at {n a b : Nat} (ha : In n a) (hb : In n b) : nm a b = nml n a b := by
  obtain ⟨k, e⟩ := Nat.exists_eq_add_of_le ha.le
  rw [nm_def, e, nml_add ha.lt hb.lt]
theorem In.nm {n a b : Nat} (ha : In n a) (hb : In n b) : In n (nm a b) := ⟨ha.le, by rw [nm_at ha hb]; exact nml_lt n a b⟩
theorem nm_in (a b : Nat) : In 8 (nm a b) := ⟨Nat.le_refl _, by rw [nm_def]; exact nml_lt 8 a b⟩
theorem nm_comm (a b : Nat) : nm a b = nm b a := by rw [nm_def, nm_def]; unfold nml; rw [mul_comm]
theorem nm_assoc (a b c : Nat) : nm (nm a b) c = nm a (nm b c) := by
  simp only [nm_def]
  unfold nml
  rw [dec_enc, dec_enc, mul_assoc]
theorem nm_xor (a b c : Nat) : nm a (b ^^^ c) = nm a b ^^^ nm a c := by
  simp only [nm_def]
  unfold nml
  rw [dec_xor, mul_add, enc_add]
theorem xor_nm (a b c : Nat) : nm (a ^^^ b) c = nm a c ^^^ nm b c := by
  rw [nm_comm, nm_xor, nm_comm c a, nm_comm c b]
theorem nm_one {a : Nat} (h : In 8 a) : nm a 1 = a := by
  simp only [nm_def]
  unfold nml
  rw [dec_one, mul_one, enc_dec 8 h.lt]
theorem one_nm {a : Nat} (h : In 8 a) : nm 1 a = a := by rw [nm_comm, nm_one h]
theorem nm_zero (a : Nat) : nm a 0 = 0 := by
  simp only [nm_def]
  unfold nml
  rw [dec_zero, mul_zero, enc_zero]
theorem zero_nm (a : Nat) : nm 0 a = 0 := by rw [nm_comm, nm_zero]
theorem dec_eq_zero {n a : Nat} (h : a < 2 ^ bw n) (e : dec n a = zero n) : a = 0 := by
  rw [← enc_dec n h, e, enc_zero]
theorem nm_eq_zero {a b : Nat} (ha : In 8 a) (hb : In 8 b) (h : nm a b = 0) : a = 0 ∨ b = 0 := by
  have e : mul 8 (dec 8 a) (dec 8 b) = zero 8 := by
    rw [← dec_nml, ← nm_def, h, dec_zero]
  rcases mul_eq_zero e with e | e
  · exact .inl (dec_eq_zero ha.lt e)
  · exact .inr (dec_eq_zero hb.lt e)
theorem nm_pos {a b : Nat} (ha : In 8 a) (hb : In 8 b) : 0 < nm a b ↔ 0 < a ∧ 0 < b := by
  constructor
  · intro h
    refine ⟨Nat.pos_of_ne_zero fun e => ?_, Nat.pos_of_ne_zero fun e => ?_⟩
    · rw [e, zero_nm] at h
      exact absurd h (Nat.lt_irrefl _)
    · rw [e, nm_zero] at h
      exact absurd h (Nat.lt_irrefl _)
  · rintro ⟨h1, h2⟩
    refine Nat.pos_of_ne_zero fun e => ?_
    rcases nm_eq_zero ha hb e with e | e <;> omega
/-- small factors -/
theorem nm_small {a b : Nat} (ha : In 8 a) (hb : In 8 b) (h : a < 2 ∨ b < 2) : nm a b = a * b := by
  rcases h with h | h
  · have : a = 0 ∨ a = 1 := by omega
    rcases this with rfl | rfl
    · rw [zero_nm, Nat.zero_mul]
    · rw [one_nm hb, Nat.one_mul]
  · have : b = 0 ∨ b = 1 := by omega
    rcases this with rfl | rfl
    · rw [nm_zero, Nat.mul_zero]
    · rw [nm_one ha, Nat.mul_one]
/-- the halves -/
theorem In.hi {n a : Nat} (h : In (n + 1) a) : In n (a / 2 ^ bw n) := ⟨Nat.le_of_succ_le h.le, half_lt h.lt⟩
theorem In.lo {n : Nat} (a : Nat) (h : n + 1 ≤ 8) : In n (a % 2 ^ bw n) := ⟨Nat.le_of_succ_le h, Nat.mod_lt _ (Nat.two_pow_pos _)⟩
theorem In.cst {n : Nat} (h : n ≤ 8) : In n (2 ^ (bw n - 1)) := ⟨h, Nat.pow_lt_pow_right (by decide) (Nat.sub_lt (bw_pos n) (by decide))⟩
/-- one turn, as the program goes -/
theorem nm_turn {n a b : Nat} (ha : In (n + 1) a) (hb : In (n + 1) b) :
    nm a b = (nm (a / 2 ^ bw n ^^^ a % 2 ^ bw n) (b / 2 ^ bw n ^^^ b % 2 ^ bw n) ^^^ nm (a % 2 ^ bw n) (b % 2 ^ bw n)) * 2 ^ bw n
      + (nm (a % 2 ^ bw n) (b % 2 ^ bw n) ^^^ nm (nm (a / 2 ^ bw n) (b / 2 ^ bw n)) (2 ^ (bw n - 1))) := by
  have h8 := ha.le
  have ah := ha.hi
  have al := In.lo a h8
  have bh := hb.hi
  have bl := In.lo b h8
  have kc : In n (2 ^ (bw n - 1)) := In.cst (Nat.le_of_succ_le h8)
  rw [nm_at ha hb, nm_at (ah.xor al) (bh.xor bl), nm_at al bl, nm_at (ah.nm bh) kc, nm_at ah bh]
  have key : ∀ u v p q : F n, enc n (add n (mul n u p) (add n (mul n u q) (mul n v p))) * 2 ^ bw n + enc n (add n (mul n v q) (mul n (mul n u p) (cst n)))
      = (enc n (mul n (add n u v) (add n p q)) ^^^ enc n (mul n v q)) * 2 ^ bw n + (enc n (mul n v q) ^^^ enc n (mul n (mul n u p) (cst n))) := fun u v p q => by
    rw [← enc_add, ← enc_add]
    congr 2
    congr 1
    rw [add_mul, mul_add, mul_add]
    have e : add n (add n (add n (mul n u p) (mul n u q)) (add n (mul n v p) (mul n v q))) (mul n v q) = add n (add n (mul n u p) (add n (mul n u q) (mul n v p))) (add n (mul n v q) (mul n v q)) := by ac_rfl
    rw [e, add_self, add_zero]
  have k2 := key (dec n (a / 2 ^ bw n)) (dec n (a % 2 ^ bw n)) (dec n (b / 2 ^ bw n)) (dec n (b % 2 ^ bw n))
  unfold nml
  rw [dec_xor, dec_xor, dec_enc, dec_cst]
  exact k2
/-! inverses -/
theorem dec_ne {n a : Nat} (h : a < 2 ^ bw n) (ha : 0 < a) : dec n a ≠ zero n := fun e => absurd (dec_eq_zero h e) (Nat.ne_of_gt ha)
theorem inv_ex {n a : Nat} (h : In n a) (ha : 0 < a) : ∃ b, In n b ∧ nm a b = 1 := by
  have ib : In n (enc n (inv n (dec n a))) := ⟨h.le, enc_lt n _⟩
  refine ⟨_, ib, ?_⟩
  rw [nm_at h ib]
  unfold nml
  rw [dec_enc, mul_inv n _ (dec_ne h.lt ha), enc_one]
theorem inv_uniq {a b c : Nat} (hb : In 8 b) (hc : In 8 c) (h1 : nm a b = 1) (h2 : nm a c = 1) : b = c := by
  rw [← nm_one hb, ← h2, ← nm_assoc, nm_comm b a, h1, one_nm hc]
open Classical in
noncomputable def ninv (a : Nat) : Nat := if h : ∃ b, In 8 b ∧ nm a b = 1 then Classical.choose h else 0
theorem ninv_ok {n a : Nat} (h : In n a) (ha : 0 < a) : In n (ninv a) ∧ nm a (ninv a) = 1 := by
  obtain ⟨b, ib, e⟩ := inv_ex h ha
  have x : ∃ b, In 8 b ∧ nm a b = 1 := ⟨b, ib.top, e⟩
  have e2 : ninv a = b := by
    unfold ninv
    rw [dif_pos x]
    exact inv_uniq (Classical.choose_spec x).1 ib.top (Classical.choose_spec x).2 e
  rw [e2]
  exact ⟨ib, e⟩
theorem ninv_eq {a b : Nat} (ha : In 8 a) (hb : In 8 b) (h0 : 0 < a) (h : nm a b = 1) : ninv a = b := inv_uniq (ninv_ok ha h0).1 hb (ninv_ok ha h0).2 h
theorem ninv_pos {a : Nat} (h : In 8 a) (ha : 0 < a) : 0 < ninv a := Nat.pos_of_ne_zero fun e => by
  have := (ninv_ok h ha).2
  rw [e, nm_zero] at this
  cases this
theorem ninv_ninv {a : Nat} (h : In 8 a) (ha : 0 < a) : ninv (ninv a) = a :=
  ninv_eq (ninv_ok h ha).1 h (ninv_pos h ha) (by rw [nm_comm]; exact (ninv_ok h ha).2)
theorem ninv_one : ninv 1 = 1 := ninv_eq (In.one (Nat.le_refl _)) (In.one (Nat.le_refl _)) (by decide) (nm_one (In.one (Nat.le_refl _)))
def mkF {n : Nat} (x y : F n) : F (n + 1) := (x, y)
/-- the norm, as the program reckons it -/
noncomputable def nsize (n a : Nat) : Nat := nm (a % 2 ^ bw n) (a / 2 ^ bw n ^^^ a % 2 ^ bw n) ^^^ nm (nm (a / 2 ^ bw n) (a / 2 ^ bw n)) (2 ^ (bw n - 1))
theorem nsize_dec {n a : Nat} (ha : In (n + 1) a) : In n (nsize n a) ∧ dec n (nsize n a) = norm n (dec (n + 1) a) := by
  have ah := ha.hi
  have al := In.lo a ha.le
  have kc : In n (2 ^ (bw n - 1)) := In.cst (Nat.le_of_succ_le ha.le)
  refine ⟨(al.nm (ah.xor al)).xor ((ah.nm ah).nm kc), ?_⟩
  unfold nsize
  rw [nm_at al (ah.xor al), nm_at (ah.nm ah) kc, nm_at ah ah, dec_xor, dec_nml, dec_nml, dec_nml, dec_xor, dec_cst]
  rfl
theorem nsize_pos {n a : Nat} (ha : In (n + 1) a) (h0 : 0 < a) : 0 < nsize n a := Nat.pos_of_ne_zero fun e => by
  have h := (nsize_dec ha).2
  rw [e, dec_zero] at h
  exact norm_ne (dec_ne ha.lt h0) h.symm
theorem ninv_turn {n a : Nat} (ha : In (n + 1) a) (h0 : 0 < a) :
    ninv a = nm (a / 2 ^ bw n) (ninv (nsize n a)) * 2 ^ bw n + nm (a / 2 ^ bw n ^^^ a % 2 ^ bw n) (ninv (nsize n a)) := by
  obtain ⟨is, es⟩ := nsize_dec ha
  have ps := nsize_pos ha h0
  obtain ⟨ib, eb⟩ := ninv_ok is ps
  have ah := ha.hi
  have al := In.lo a ha.le
  have e : nm (a / 2 ^ bw n) (ninv (nsize n a)) * 2 ^ bw n + nm (a / 2 ^ bw n ^^^ a % 2 ^ bw n) (ninv (nsize n a))
      = enc (n + 1) (mkF (mul n (dec (n + 1) a).1 (dec n (ninv (nsize n a)))) (mul n (add n (dec (n + 1) a).1 (dec (n + 1) a).2) (dec n (ninv (nsize n a))))) := by
    rw [nm_at ah ib, nm_at (ah.xor al) ib]
    unfold nml
    rw [dec_xor]
    rfl
  have ie : In (n + 1) (enc (n + 1) (mkF (mul n (dec (n + 1) a).1 (dec n (ninv (nsize n a)))) (mul n (add n (dec (n + 1) a).1 (dec (n + 1) a).2) (dec n (ninv (nsize n a)))))) := ⟨ha.le, enc_lt _ _⟩
  rw [e]
  refine ninv_eq ha.top ie.top h0 ?_
  rw [nm_at ha ie]
  unfold nml
  rw [dec_enc]
  have mc : mul (n + 1) (dec (n + 1) a) (mkF (mul n (dec (n + 1) a).1 (dec n (ninv (nsize n a)))) (mul n (add n (dec (n + 1) a).1 (dec (n + 1) a).2) (dec n (ninv (nsize n a))))) = mkF (zero n) (mul n (norm n (dec (n + 1) a)) (dec n (ninv (nsize n a)))) := mul_conj n _ _
  rw [mc, ← es, ← dec_nml, ← nm_at is ib, eb, dec_one]
  exact enc_one (n + 1)
/-! powers -/
noncomputable def npow (a : Nat) : Nat → Nat
  | 0 => 1
  | k + 1 => nm (npow a k) a
theorem npow_in {n a : Nat} (h : In n a) : ∀ k, In n (npow a k)
  | 0 => In.one h.le
  | k + 1 => (npow_in h k).nm h
theorem npow_one {a : Nat} (h : In 8 a) : npow a 1 = a := one_nm h
theorem npow_add {a : Nat} (h : In 8 a) (j : Nat) : ∀ k, npow a (j + k) = nm (npow a j) (npow a k)
  | 0 => (nm_one (npow_in h j)).symm
  | k + 1 => by
    show nm (npow a (j + k)) a = nm (npow a j) (nm (npow a k) a)
    rw [npow_add h j k, nm_assoc]
theorem npow_dbl {a : Nat} (h : In 8 a) : ∀ k, npow (nm a a) k = npow a (2 * k)
  | 0 => rfl
  | k + 1 => by
    show nm (npow (nm a a) k) (nm a a) = npow a (2 * k + 2)
    rw [npow_dbl h k, npow_add h (2 * k) 2]
    congr 1
    show _ = nm (nm 1 a) a
    rw [one_nm h]
theorem npow_mul {a b : Nat} : ∀ k, npow (nm a b) k = nm (npow a k) (npow b k)
  | 0 => (nm_one (In.one (Nat.le_refl 8))).symm
  | k + 1 => by
    show nm (npow (nm a b) k) (nm a b) = nm (nm (npow a k) a) (nm (npow b k) b)
    rw [npow_mul k, nm_assoc, nm_assoc]
    congr 1
    rw [← nm_assoc, nm_comm (npow b k) a, nm_assoc]
theorem npow_pow {a : Nat} (h : In 8 a) (j : Nat) : ∀ k, npow (npow a j) k = npow a (j * k)
  | 0 => rfl
  | k + 1 => by
    show nm (npow (npow a j) k) (npow a j) = npow a (j * (k + 1))
    rw [npow_pow h j k, Nat.mul_succ, npow_add h]
theorem npow_sqi {n a : Nat} (h : In n a) : ∀ k, npow a (2 ^ k) = enc n (sqi n k (dec n a))
  | 0 => by
    show npow a 1 = enc n (dec n a)
    rw [npow_one h.top, enc_dec n h.lt]
  | k + 1 => by
    rw [show 2 ^ (k + 1) = 2 ^ k + 2 ^ k by omega, npow_add h.top, nm_at (npow_in h _) (npow_in h _)]
    unfold nml
    rw [npow_sqi h k, dec_enc]
    rfl
theorem npow_fix {n a : Nat} (h : In n a) : npow a (2 ^ 2 ^ n) = a := by
  rw [npow_sqi h, sqi_fix, enc_dec n h.lt]
/-- what the program's turns keep: found times step to the rest -/
theorem npow_turn {f s l : Nat} (hs : In 8 s) : nm f (npow s l) = nm (if l % 2 = 1 then nm f s else f) (npow (nm s s) (l / 2)) := by
  rw [npow_dbl hs]
  split
  · have e : l = 1 + 2 * (l / 2) := by omega
    rw [nm_assoc, ← npow_one hs, npow_one hs]
    congr 1
    have e2 : npow s l = nm (npow s 1) (npow s (2 * (l / 2))) := by rw [← npow_add hs, ← e]
    rw [e2, npow_one hs]
  · have e : l = 2 * (l / 2) := by omega
    rw [← e]
/-! roots -/
theorem rt_ex {n a : Nat} (h : In n a) : ∃ b, In n b ∧ nm b b = a := by
  have ib : In n (enc n (rt n (dec n a))) := ⟨h.le, enc_lt n _⟩
  refine ⟨_, ib, ?_⟩
  rw [nm_at ib ib]
  unfold nml
  rw [dec_enc]
  show enc n (sq n (rt n (dec n a))) = a
  rw [sq_rt, enc_dec n h.lt]
theorem rt_uniq {b c : Nat} (hb : In 8 b) (hc : In 8 c) (h : nm b b = nm c c) : b = c := by
  have e : nm (b ^^^ c) (b ^^^ c) = 0 := by
    rw [nm_xor, xor_nm, xor_nm, nm_comm c b, h]
    generalize nm b c = x
    generalize nm c c = y
    rw [Nat.xor_comm x y, Nat.xor_self]
  have z : b ^^^ c = 0 := by
    rcases nm_eq_zero (hb.xor hc) (hb.xor hc) e with z | z <;> exact z
  have e2 := congrArg (· ^^^ c) z
  simp only [Nat.xor_assoc, Nat.xor_self, Nat.xor_zero, Nat.zero_xor] at e2
  exact e2
open Classical in
noncomputable def nrt (a : Nat) : Nat := if h : ∃ b, In 8 b ∧ nm b b = a then Classical.choose h else 0
theorem nrt_ok {n a : Nat} (h : In n a) : In n (nrt a) ∧ nm (nrt a) (nrt a) = a := by
  obtain ⟨b, ib, e⟩ := rt_ex h
  have x : ∃ b, In 8 b ∧ nm b b = a := ⟨b, ib.top, e⟩
  have e2 : nrt a = b := by
    unfold nrt
    rw [dif_pos x]
    exact rt_uniq (Classical.choose_spec x).1 ib.top ((Classical.choose_spec x).2.trans e.symm)
  rw [e2]
  exact ⟨ib, e⟩
theorem nrt_eq {a b : Nat} (ha : In 8 a) (hb : In 8 b) (h : nm b b = a) : nrt a = b := rt_uniq (nrt_ok ha).1 hb ((nrt_ok ha).2.trans h.symm)
theorem nrt_sq {a : Nat} (h : In 8 a) : nrt (nm a a) = a := nrt_eq (nm_in a a) h rfl
theorem nrt_turn {n a : Nat} (ha : In (n + 1) a) : nrt a = nrt (a / 2 ^ bw n) * 2 ^ bw n + nrt (a % 2 ^ bw n ^^^ nm (a / 2 ^ bw n) (2 ^ (bw n - 1))) := by
  have ah := ha.hi
  have al := In.lo a ha.le
  have kc : In n (2 ^ (bw n - 1)) := In.cst (Nat.le_of_succ_le ha.le)
  have ip : In n (a % 2 ^ bw n ^^^ nm (a / 2 ^ bw n) (2 ^ (bw n - 1))) := al.xor (ah.nm kc)
  have ir : In (n + 1) (enc (n + 1) (rt (n + 1) (dec (n + 1) a))) := ⟨ha.le, enc_lt _ _⟩
  have r : ∀ {m b : Nat}, In m b → nrt b = enc m (rt m (dec m b)) := fun {m b} h => by
    have ib : In m (enc m (rt m (dec m b))) := ⟨h.le, enc_lt m _⟩
    refine nrt_eq h.top ib.top ?_
    rw [nm_at ib ib]
    unfold nml
    rw [dec_enc]
    show enc m (sq m (rt m (dec m b))) = b
    rw [sq_rt, enc_dec m h.lt]
  rw [r ha, r ah, r ip, dec_xor, nm_at ah kc, dec_nml, dec_cst]
  rfl
/-- F: the number 2 ^ 2 ^ n -/
theorem In.pw {n : Nat} (h : n + 1 ≤ 8) : In (n + 1) (2 ^ bw n) := ⟨h, Nat.pow_lt_pow_right (by decide) (by rw [bw_succ]; have := bw_pos n; omega)⟩
theorem dec_pw (n : Nat) : dec (n + 1) (2 ^ bw n) = (one n, zero n) := by
  show (dec n (2 ^ bw n / 2 ^ bw n), dec n (2 ^ bw n % 2 ^ bw n)) = _
  rw [Nat.div_self (Nat.two_pow_pos _), Nat.mod_self, dec_one, dec_zero]
theorem nm_pw {n m : Nat} (h : n + 1 ≤ 8) (hm : m < 2 ^ bw n) : nm (2 ^ bw n) m = 2 ^ bw n * m := by
  rw [nm_at (In.pw h) ((show In n m from ⟨by omega, hm⟩).up (Nat.le_succ n) h)]
  unfold nml
  rw [dec_pw, dec_up hm]
  show enc n (add n (mul n (one n) (zero n)) (add n (mul n (one n) (dec n m)) (mul n (zero n) (zero n)))) * 2 ^ bw n + enc n (add n (mul n (zero n) (dec n m)) (mul n (mul n (one n) (zero n)) (cst n))) = _
  rw [mul_zero, mul_zero, zero_mul, one_mul, zero_add, add_zero, zero_mul, add_zero, enc_zero, enc_dec n hm, Nat.add_zero, Nat.mul_comm]
theorem nm_pw_sq {n : Nat} (h : n + 1 ≤ 8) : nm (2 ^ bw n) (2 ^ bw n) = 2 ^ bw n + 2 ^ bw n / 2 := by
  rw [nm_at (In.pw h) (In.pw h)]
  unfold nml
  rw [dec_pw]
  show enc n (add n (mul n (one n) (one n)) (add n (mul n (one n) (zero n)) (mul n (zero n) (one n)))) * 2 ^ bw n + enc n (add n (mul n (zero n) (zero n)) (mul n (mul n (one n) (one n)) (cst n))) = _
  rw [mul_zero, zero_mul, zero_mul, one_mul, one_mul, add_zero, add_zero, zero_add, enc_one, enc_cst, Nat.one_mul]
  congr 1
  have p := bw_pos n
  obtain ⟨k, e⟩ : ∃ k, bw n = k + 1 := ⟨bw n - 1, by omega⟩
  rw [e, Nat.pow_succ, Nat.mul_div_cancel _ (by decide)]
  rfl
end Nim
set_option linter.all false
set_option maxRecDepth 100000
/-! The product is the least number that is none of the sums of three: for numbers below 32. -/
namespace Nim
/-- the product reckoned, at a level -/
def tmul : Nat → Nat → Nat → Nat
  | 0, a, b => a * b
  | n + 1, a, b => Nat.xor (tmul n (Nat.xor (a / 2 ^ 2 ^ n) (a % 2 ^ 2 ^ n)) (Nat.xor (b / 2 ^ 2 ^ n) (b % 2 ^ 2 ^ n))) (tmul n (a % 2 ^ 2 ^ n) (b % 2 ^ 2 ^ n)) * 2 ^ 2 ^ n
      + Nat.xor (tmul n (a % 2 ^ 2 ^ n) (b % 2 ^ 2 ^ n)) (tmul n (tmul n (a / 2 ^ 2 ^ n) (b / 2 ^ 2 ^ n)) (2 ^ (2 ^ n - 1)))
theorem tmul_eq : ∀ n {a b : Nat}, In n a → In n b → tmul n a b = nm a b
  | 0, a, b, ha, hb => (nm_small ha.top hb.top (.inl ha.lt)).symm
  | n + 1, a, b, ha, hb => by
    have ah := ha.hi
    have al := In.lo a ha.le
    have bh := hb.hi
    have bl := In.lo b ha.le
    have kc : In n (2 ^ (bw n - 1)) := In.cst (Nat.le_of_succ_le ha.le)
    have e1 : tmul n (a / 2 ^ bw n ^^^ a % 2 ^ bw n) (b / 2 ^ bw n ^^^ b % 2 ^ bw n) = _ := tmul_eq n (ah.xor al) (bh.xor bl)
    have e2 : tmul n (a % 2 ^ bw n) (b % 2 ^ bw n) = _ := tmul_eq n al bl
    have e3 : tmul n (a / 2 ^ bw n) (b / 2 ^ bw n) = _ := tmul_eq n ah bh
    rw [nm_turn ha hb]
    show (tmul n (a / 2 ^ bw n ^^^ a % 2 ^ bw n) (b / 2 ^ bw n ^^^ b % 2 ^ bw n) ^^^ tmul n (a % 2 ^ bw n) (b % 2 ^ bw n)) * 2 ^ bw n + (tmul n (a % 2 ^ bw n) (b % 2 ^ bw n) ^^^ tmul n (tmul n (a / 2 ^ bw n) (b / 2 ^ bw n)) (2 ^ (bw n - 1))) = _
    rw [e1, e2, e3, tmul_eq n (ah.nm bh) kc]
def tab : Nat := 72668894031082235374723989531244489945954739926638780664735097948376303064575793036101305803049305244786725822762312758281864867349424356706978124779981632321370260517065249584532316480179274685042038629172024810583094708143786431289503217924093312722375010712294510759330489487569175357567722624132264624704169758371920605855786257110554891449175124309805147034884298454799030726939125494735351657307722841719369068225776326787920595150788795492875461692097426587428581910834512977993627037566790538112335106447887628126622107850788538184248185389862965052755808303713017493536089177550331278654588659076401414635497821334178783199910049404939667067776906238072757477777144318316684638015138870008244392530566091361976911983862944645073703642024736386079500235617150322160023052630389254780370565557037629199143103277276709001251106988746542499186594982535648717516356514385059891979166246872717911013755137666162424790198516248474323865831964581459007826109472654793693647262998287132271687878060472433460066560466182402429341897213663359399278084306585048604248143393802485513910404471212390279048425012942527141776709258284319458292982377173782592407348027090998562946829570003462450758721223074745640752008813700474860515561285851863117653627370386785422574612254767598503455870537014022477875633108341810567480405097061563720882508351052377477630000500698136074827199847535666453860648407333372795256332957153194504365042315832427616118894700677578580231251504172167032392941772445828545237532501306345688869367729567949189460292020170637144285757644920199811452926920767863464425892041671039423117456732240888165897363050521982154260998737959655858220154404594470789358853271429018528467345706838394995349348757563112020761060773632938222289128769903605242328665321890821936327555814446891605585712578958284035412495063636411806184798956128983749351475377565534872837527083899364971182425000086659767213400295667899420802922908746980692445850107930500248079868618268436699613125356100727205999472065597552492082503676793038180608199923332241320254780210403181542264589288665107141224433043628917462347882629640897674493991144678200479506151489786694677434326746957606173609376426670190029013504360811286260174955604297820384140162921976350216658405572826058117523401314502120763547652559422279532733564770762503702513117093370275851949789009501349971631869389241026692881061523452934605620984738574872979146193536271839930870370456782184988686130313017950208
/-- the product of two numbers below 32, read off -/
def lk (i j : Nat) : Nat := (tab >>> (8 * (32 * i + j))) % 256
def allB (p : Nat → Bool) : Nat → Bool
  | 0 => true
  | n + 1 => p n && allB p n
theorem allB_at {p : Nat → Bool} : ∀ {n i : Nat}, allB p n = true → i < n → p i = true
  | n + 1, i, h, hi => by
    have h : (p n && allB p n) = true := h
    rw [Bool.and_eq_true] at h
    by_cases e : i = n
    · rw [e]; exact h.1
    · exact allB_at h.2 (by omega)
theorem tab_ok : allB (fun i => allB (fun j => Nat.beq (lk i j) (tmul 3 i j)) 32) 32 = true := by decide +kernel
theorem lk_eq {i j : Nat} (hi : i < 32) (hj : j < 32) : lk i j = nm i j := by
  have h1 : allB (fun j => Nat.beq (lk i j) (tmul 3 i j)) 32 = true := allB_at (p := fun i => allB (fun j => Nat.beq (lk i j) (tmul 3 i j)) 32) tab_ok hi
  have h2 : Nat.beq (lk i j) (tmul 3 i j) = true := allB_at (p := fun j => Nat.beq (lk i j) (tmul 3 i j)) h1 hj
  have h := Nat.eq_of_beq_eq_true h2
  rw [h]
  exact tmul_eq 3 ⟨by decide, by show i < 256; omega⟩ ⟨by decide, by show j < 256; omega⟩
def mj (x y i : Nat) : Nat → Nat
  | 0 => 0
  | j + 1 => Nat.lor (mj x y i j) (Nat.shiftLeft 1 (Nat.xor (Nat.xor (lk i y) (lk x j)) (lk i j)))
def mi (x y : Nat) : Nat → Nat
  | 0 => 0
  | i + 1 => Nat.lor (mi x y i) (mj x y i y)
theorem mex_ok : allB (fun x => allB (fun y => Nat.beq (mi x y x % 2 ^ lk x y) (2 ^ lk x y - 1)) 32) 32 = true := by decide +kernel
theorem bit_one {a v : Nat} : (1 <<< a).testBit v = decide (a = v) := by
  rw [Nat.one_shiftLeft, Nat.testBit_two_pow]
theorem mj_bit {x y i v : Nat} : ∀ {n : Nat}, (mj x y i n).testBit v = true → ∃ j, j < n ∧ lk i y ^^^ lk x j ^^^ lk i j = v
  | 0, h => by
    rw [show mj x y i 0 = 0 from rfl, Nat.zero_testBit] at h
    cases h
  | n + 1, h => by
    have h : (mj x y i n ||| 1 <<< (lk i y ^^^ lk x n ^^^ lk i n)).testBit v = true := h
    rw [Nat.testBit_or, bit_one, Bool.or_eq_true] at h
    rcases h with h | h
    · obtain ⟨j, hj, e⟩ := mj_bit h
      exact ⟨j, by omega, e⟩
    · exact ⟨n, by omega, of_decide_eq_true h⟩
theorem mi_bit {x y v : Nat} : ∀ {n : Nat}, (mi x y n).testBit v = true → ∃ i, i < n ∧ ∃ j, j < y ∧ lk i y ^^^ lk x j ^^^ lk i j = v
  | 0, h => by
    rw [show mi x y 0 = 0 from rfl, Nat.zero_testBit] at h
    cases h
  | n + 1, h => by
    have h : (mi x y n ||| mj x y n y).testBit v = true := h
    rw [Nat.testBit_or, Bool.or_eq_true] at h
    rcases h with h | h
    · obtain ⟨i, hi, e⟩ := mi_bit h
      exact ⟨i, by omega, e⟩
    · exact ⟨n, by omega, mj_bit h⟩
/-- each lesser number is one of the sums -/
theorem mex_all {x y v : Nat} (hx : x < 32) (hy : y < 32) (hv : v < nm x y) : ∃ i, i < x ∧ ∃ j, j < y ∧ nm i y ^^^ nm x j ^^^ nm i j = v := by
  have h1 : allB (fun y => Nat.beq (mi x y x % 2 ^ lk x y) (2 ^ lk x y - 1)) 32 = true := allB_at (p := fun x => allB (fun y => Nat.beq (mi x y x % 2 ^ lk x y) (2 ^ lk x y - 1)) 32) mex_ok hx
  have h2 : Nat.beq (mi x y x % 2 ^ lk x y) (2 ^ lk x y - 1) = true := allB_at (p := fun y => Nat.beq (mi x y x % 2 ^ lk x y) (2 ^ lk x y - 1)) h1 hy
  have h := Nat.eq_of_beq_eq_true h2
  clear h1 h2
  have e := lk_eq hx hy
  have b : (mi x y x).testBit v = true := by
    have b2 : (mi x y x % 2 ^ lk x y).testBit v = true := by
      rw [h, Nat.testBit_two_pow_sub_one]
      exact decide_eq_true (by omega)
    rw [Nat.testBit_mod_two_pow, Bool.and_eq_true] at b2
    exact b2.2
  obtain ⟨i, hi, j, hj, r⟩ := mi_bit b
  rw [lk_eq (by omega) hy, lk_eq hx (by omega), lk_eq (by omega) (by omega)] at r
  exact ⟨i, hi, j, hj, r⟩
/-- none of the sums is the product -/
theorem mex_not {x y i j : Nat} (ix : In 8 x) (iy : In 8 y) (ii : In 8 i) (ij : In 8 j) (hi : i ≠ x) (hj : j ≠ y) : nm i y ^^^ nm x j ^^^ nm i j ≠ nm x y := fun e => by
  have z : nm (x ^^^ i) (y ^^^ j) = 0 := by
    rw [nm_xor, xor_nm, xor_nm, ← e]
    generalize nm i y = p
    generalize nm x j = q
    generalize nm i j = r
    have e2 : p ^^^ q ^^^ r ^^^ p ^^^ (q ^^^ r) = (p ^^^ p) ^^^ ((q ^^^ r) ^^^ (q ^^^ r)) := by ac_rfl
    rw [e2, Nat.xor_self, Nat.xor_self]
    rfl
  have ne : ∀ a b : Nat, a ^^^ b = 0 → b = a := fun a b h => by
    have h2 := congrArg (a ^^^ ·) h
    simp only [← Nat.xor_assoc, Nat.xor_self, Nat.zero_xor, Nat.xor_zero] at h2
    exact h2
  rcases nm_eq_zero (ix.xor ii) (iy.xor ij) z with z | z
  · exact hi (ne _ _ z)
  · exact hj (ne _ _ z)
end Nim
set_option Elab.async false
set_option linter.all false
set_option maxRecDepth 100000
set_option maxHeartbeats 4000000
namespace N
open PySem PySem.Spec PyProof.Rows L2
def top (i : Nat) : Stmt := PySem.Challenge.pw_nimhouse_k02_least_left.main.body.getD i (.Pass ⟨0, 0, 0, 0⟩)
structure Txt (K : PySem.W.Frag) (mg : Str → Option Value) : Prop where
  n_isinstance : mg "isinstance" = none
  n_int : mg "int" = none
  n_bool : mg "bool" = none
  n_len : mg "len" = none
  g_is_whole : mg "is_whole" = some (.ref (He.ga K "is_whole"))
  n_max : mg "max" = none
  g_level_of : mg "level_of" = some (.ref (He.ga K "level_of"))
  g_parted : mg "parted" = some (.ref (He.ga K "parted"))
  g_times : mg "times" = some (.ref (He.ga K "times"))
  c_BITS : ∃ t, mg "BITS" = some (.int 256 t)
  g_asked_number : mg "asked_number" = some (.ref (He.ga K "asked_number"))
  n_range : mg "range" = none
  g_product : mg "product" = some (.ref (He.ga K "product"))
  g__law_cell_at : mg "_law_cell_at" = some (.ref (He.ga K "_law_cell_at"))
  g__law_products : mg "_law_products" = some (.ref (He.ga K "_law_products"))
  g__law_whole : mg "_law_whole" = some (.ref (He.ga K "_law_whole"))
  g_law : mg "law" = some (.ref (He.ga K "law"))
  f_is_whole : ∃ fd, FunD K "is_whole" "is_whole" (defArgs (top 5)) (defBody (top 5)) (defScope (top 5)) [] [] (He.ga K "is_whole") fd
  f__law_whole : ∃ fd, FunD K "_law_whole" "_law_whole" (defArgs (top 13)) (defBody (top 13)) (defScope (top 13)) [] [] (He.ga K "_law_whole") fd
  f__law_cell_at : ∃ fd, FunD K "_law_cell_at" "_law_cell_at" (defArgs (top 14)) (defBody (top 14)) (defScope (top 14)) [] [] (He.ga K "_law_cell_at") fd
  f_asked_number : ∃ fd, FunD K "asked_number" "asked_number" (defArgs (top 6)) (defBody (top 6)) (defScope (top 6)) [] [] (He.ga K "asked_number") fd
  f_level_of : ∃ fd, FunD K "level_of" "level_of" (defArgs (top 7)) (defBody (top 7)) (defScope (top 7)) [] [] (He.ga K "level_of") fd
  f_parted : ∃ fd, FunD K "parted" "parted" (defArgs (top 8)) (defBody (top 8)) (defScope (top 8)) [] [] (He.ga K "parted") fd
  f_times : ∃ fd, FunD K "times" "times" (defArgs (top 10)) (defBody (top 10)) (defScope (top 10)) [] [] (He.ga K "times") fd
  f_product : ∃ fd, FunD K "product" "product" (defArgs (top 11)) (defBody (top 11)) (defScope (top 11)) [] [] (He.ga K "product") fd
  f__law_products : ∃ fd, FunD K "_law_products" "_law_products" (defArgs (top 16)) (defBody (top 16)) (defScope (top 16)) [] [] (He.ga K "_law_products") fd
  f_law : ∃ fd, FunD K "law" "law" (defArgs (top 17)) (defBody (top 17)) (defScope (top 17)) [] [] (He.ga K "law") fd
section
variable {P : Program} {w : World} {K : PySem.W.Frag} {mg : Str → Option Value} {base : Heap}
local macro_rules | `(tactic| walk_at "rd") => `(tactic| repeat (first
  | (refine ⟨_, rfl, ?_⟩)
  | (refine ⟨_, _, rfl, rfl, ?_⟩)
  | (refine ⟨rfl, ?_⟩)
  | (refine ⟨_, _, _, rfl, (by assumption : SqL _ _ _ _), ?_⟩)
  | (refine ⟨(by decide : (0 : Int) < _), ?_⟩)
  | (refine ⟨(by decide : (0 : Nat) < _), ?_⟩)
  | (refine ⟨(⟨by decide, by decide⟩ : CDiv _ _), ?_⟩)
  | (refine ⟨(⟨by decide, by decide⟩ : (0 : Nat) < _ ∧ _ < 1073741824), ?_⟩)
  | (refine ⟨(Or.inr (by decide) : _ < 2 ^ 64 ∨ _ < 2 ^ 64), ?_⟩)
  | (refine ⟨(Or.inl (by decide) : _ < 2 ^ 64 ∨ _ < 2 ^ 64), ?_⟩)
  | (refine ⟨(Or.inr ⟨by decide, by decide⟩ : CMul _ _), ?_⟩)
  | (refine ⟨(Or.inl ⟨by decide, by decide⟩ : CMul _ _), ?_⟩)))

/-! ### whole numbers, cells of the script -/
/-- is it a whole number -/
def sp_is_whole (K : PySem.W.Frag) : Sp := fun vs H Q _ => ∃ (x : V) (t : String) (b1 b2 : Bool), vs = [x] ∧ TyX K H x (.type t) ∧ kitB t "int" = some b1 ∧ kitB t "bool" = some b2 ∧ Q (.bl (b1 && !b2)) H
theorem whole_int {K : PySem.W.Frag} {i : Int} {H : Hp} {Q : VK} {E : XK} (h : Q (.bl true) H) : sp_is_whole K [.int i] H Q E :=
  ⟨_, "int", true, false, rfl, .base (.int i), by decide +kernel, by decide +kernel, h⟩

abbrev s_is_whole : Stmt := top 5
theorem sc_is_whole : FnScope ["number"] ["number"] (defScope s_is_whole) := ⟨rfl, rfl, rfl, by decide +kernel, rfl, by decide +kernel, by decide +kernel⟩
theorem ok_is_whole (T : Txt K mg) : Dn P w K mg base CX0 1 (He.ga K "is_whole") ["number"] (sp_is_whole K) := by
  refine dn_of (k := 0) T.f_is_whole sc_is_whole (fun _ _ _ _ _ _ us hl => match us, hl with | [_], _ => rfl) (fun cdv A outer s H vs Q E hr h => ?_)
  obtain ⟨x, t, b1, b2, rfl, ht, h1, h2, q⟩ := h
  refine ⟨_, PSs.nox (pss_one (ps_ret (pe_and (pe_callB call_isi (by rfl) T.n_isinstance (by decide +kernel) (pa_cons (pv 0) (pa_cons (pe_bltn (v := .ty "int") rfl T.n_int (by decide +kernel) rfl) pa_nil))) (pe_one (pe_not (pe_callB call_isi (by rfl) T.n_isinstance (by decide +kernel) (pa_cons (pv 0) (pa_cons (pe_bltn (v := .ty "bool") rfl T.n_bool (by decide +kernel) rfl) pa_nil)))))))), ?_⟩
  refine ⟨_, rfl, x, _, _, _, b1, rfl, .ty _, ht, kit_ty h1, b1, rfl, ?_⟩
  cases b1
  · exact iteF q
  · refine iteT ?_
    exact ⟨_, rfl, x, _, _, _, b2, rfl, .ty _, ht, kit_ty h2, b2, rfl, q⟩

abbrev s__law_whole : Stmt := top 13
theorem sc__law_whole : FnScope ["_law_found"] ["_law_found"] (defScope s__law_whole) := ⟨rfl, rfl, rfl, by decide +kernel, rfl, by decide +kernel, by decide +kernel⟩
theorem ok__law_whole (T : Txt K mg) : Dn P w K mg base CX0 1 (He.ga K "_law_whole") ["_law_found"] (sp_is_whole K) := by
  refine dn_of (k := 0) T.f__law_whole sc__law_whole (fun _ _ _ _ _ _ us hl => match us, hl with | [_], _ => rfl) (fun cdv A outer s H vs Q E hr h => ?_)
  obtain ⟨x, t, b1, b2, rfl, ht, h1, h2, q⟩ := h
  refine ⟨_, PSs.nox (pss_one (ps_ret (pe_and (pe_callB call_isi (by rfl) T.n_isinstance (by decide +kernel) (pa_cons (pv 0) (pa_cons (pe_bltn (v := .ty "int") rfl T.n_int (by decide +kernel) rfl) pa_nil))) (pe_one (pe_not (pe_callB call_isi (by rfl) T.n_isinstance (by decide +kernel) (pa_cons (pv 0) (pa_cons (pe_bltn (v := .ty "bool") rfl T.n_bool (by decide +kernel) rfl) pa_nil)))))))), ?_⟩
  refine ⟨_, rfl, x, _, _, _, b1, rfl, .ty _, ht, kit_ty h1, b1, rfl, ?_⟩
  cases b1
  · exact iteF q
  · refine iteT ?_
    exact ⟨_, rfl, x, _, _, _, b2, rfl, .ty _, ht, kit_ty h2, b2, rfl, q⟩

def cell (ns : List Int) (k : Nat) : Int := ns.getD k 0
def sp__law_cell_at (K : PySem.W.Frag) : Sp := fun vs H Q _ => ∃ (a : Addr) (ns : List Int) (k : Nat), vs = [.ref a, .int (k : Int)] ∧ SqL K H a (ns.map V.int) ∧ Q (.int (cell ns k)) H
abbrev s__law_cell_at : Stmt := top 14
theorem sc__law_cell_at : FnScope ["_law_script", "_law_k"] ["_law_script", "_law_k"] (defScope s__law_cell_at) := ⟨rfl, rfl, rfl, by decide +kernel, rfl, by decide +kernel, by decide +kernel⟩
theorem ok__law_cell_at (T : Txt K mg) : Dn P w K mg base CX0 1 (He.ga K "_law_cell_at") ["_law_script", "_law_k"] (sp__law_cell_at K) := by
  refine dn_of (k := 0) T.f__law_cell_at sc__law_cell_at (fun _ _ _ _ _ _ us hl => match us, hl with | [_, _], _ => rfl) (fun cdv A outer s H vs Q E hr h => ?_)
  obtain ⟨a, ns, k, rfl, hS, q⟩ := h
  refine ⟨_, PSs.nox (pss_cons (ps_if (pt_cmpR op_ltn (pv 1) (pe_callB call_len_seq (by rfl) T.n_len PySem.boot_len (pa_cons (pv 0) pa_nil)) (nomark _)) (pss_one (ps_ret (pe_ix ix_list (pv 0) (pv 1) (fun _ _ => rfl)))) pss_nil)
      (pss_one (ps_ret (pe_nat 0)))), ?_⟩
  refine ⟨_, rfl, _, rfl, a, _, rfl, .inl hS, _, _, rfl, rfl, _, rfl, ?_⟩
  rw [List.length_map]
  refine ifN (fun c => ?_) (fun c => ?_)
  · refine ⟨_, rfl, _, rfl, a, _, _, _, rfl, rfl, hS, atI_nat (j := k) (v := .int (cell ns k)) ?_, q⟩
    unfold cell
    simp [c]
  · have e : cell ns k = 0 := by unfold cell; simp [List.getD, List.getElem?_eq_none (Nat.not_lt.mp c)]
    rw [e] at q
    exact q

/-! ### asked_number (of a number that is none is nothing said here) -/
theorem bits_nat {n k : Nat} (h : n < 2 ^ k) : Builtin.Int.intBits (n : Int) ≤ k := intBits_le (by simpa using h)
theorem nat_bits {n k : Nat} (h : Builtin.Int.intBits (n : Int) ≤ k) : n < 2 ^ k := by
  have := natAbs_lt_pow_bits (n : Int)
  exact Nat.lt_of_lt_of_le (by simpa using this) (Nat.pow_le_pow_right (by decide) h)
def sp_asked_number (K : PySem.W.Frag) : Sp := fun vs H Q _ => ∃ n m : Nat, vs = [.int (n : Int), .int (m : Int)] ∧ n < 2 ^ m ∧ Q (.int (n : Int)) H
abbrev s_asked_number : Stmt := top 6
theorem sc_asked_number : FnScope ["number", "bits"] ["number", "bits"] (defScope s_asked_number) := ⟨rfl, rfl, rfl, by decide +kernel, rfl, by decide +kernel, by decide +kernel⟩
theorem ok_asked_number (T : Txt K mg) (d_is_whole : Dn P w K mg base CX0 1 (He.ga K "is_whole") ["number"] (sp_is_whole K)) : Dn P w K mg base CX0 2 (He.ga K "asked_number") ["number", "bits"] (sp_asked_number K) := by
  refine dn_of (k := 1) T.f_asked_number sc_asked_number (fun _ _ _ _ _ _ us hl => match us, hl with | [_, _], _ => rfl) (fun cdv A outer s H vs Q E hr h => ?_)
  obtain ⟨n, m, rfl, hn, q⟩ := h
  refine ⟨_, PSs.nox (pss_cons (ps_if (PW.pt (pw_or (pt_not (pt_val (pe_cl d_is_whole (hr.mono (by omega)) T.g_is_whole pass0 (pa_cons (pv 0) pa_nil)))) (pw_or (pt_cmpR op_ltn (pv 0) (pe_nat 0) (nomark _)) (pw_or1 (pt_cmpR op_gtn (pe_bits (pv 0)) (pv 1) (nomark _)))))) (pss_one ps_never) pss_nil)
      (pss_one (ps_ret (pv 0)))), ?_⟩
  refine ⟨_, rfl, rfl, whole_int ?_⟩
  refine ⟨_, rfl, iteF ⟨_, rfl, _, _, rfl, rfl, _, rfl, ifN (fun c => absurd c (Nat.not_lt_zero _)) (fun _ => ?_)⟩⟩
  refine ⟨_, rfl, _, rfl, _, rfl, _, _, rfl, rfl, _, rfl, ifN (fun c => absurd c (Nat.not_lt.mpr (bits_nat hn))) (fun _ => ?_)⟩
  exact ⟨_, rfl, q⟩

/-! ### levels, halves, products -/
open Nim in
/-- l: how often 2 is to be squared to lie above n -/
def IsLv (n l : Nat) : Prop := ∀ j, j < l ↔ 2 ^ 2 ^ j ≤ n
theorem pow2_mono {i j : Nat} (h : i ≤ j) : 2 ^ 2 ^ i ≤ 2 ^ 2 ^ j := Nat.pow_le_pow_right (by decide) (Nat.pow_le_pow_right (by decide) h)
theorem IsLv.of {n l : Nat} (h1 : ∀ j, j < l → 2 ^ 2 ^ j ≤ n) (h2 : n < 2 ^ 2 ^ l) : IsLv n l := fun j => ⟨h1 j, fun h => Nat.lt_of_not_le fun c => absurd (Nat.le_trans (pow2_mono c) h) (Nat.not_le.mpr h2)⟩
theorem IsLv.lt {n l : Nat} (h : IsLv n l) : n < 2 ^ 2 ^ l := Nat.lt_of_not_le fun c => absurd ((h l).mpr c) (Nat.lt_irrefl _)
theorem IsLv.le {n l k : Nat} (h : IsLv n l) (hk : n < 2 ^ 2 ^ k) : l ≤ k := Nat.le_of_not_lt fun c => absurd ((h k).mp c) (Nat.not_le.mpr hk)
theorem IsLv.pos {n l : Nat} (h : IsLv n l) (hn : 2 ≤ n) : 0 < l := (h 0).mpr hn
def sp_level_of (K : PySem.W.Frag) : Sp := fun vs H Q _ => ∃ n : Nat, vs = [.int (n : Int)] ∧ n < 2 ^ 256 ∧ ∀ l : Nat, IsLv n l → Q (.int (l : Int)) H
abbrev s_level_of : Stmt := top 7
theorem sc_level_of : FnScope ["number", "level"] ["number"] (defScope s_level_of) := ⟨rfl, rfl, rfl, by decide +kernel, rfl, by decide +kernel, by decide +kernel⟩
theorem ok_level_of (T : Txt K mg) : Dn P w K mg base CX0 1 (He.ga K "level_of") ["number"] (sp_level_of K) := by
  refine dn_of (k := 0) T.f_level_of sc_level_of (fun _ _ _ _ _ _ us hl => match us, hl with | [_], _ => rfl) (fun cdv A outer s H vs Q E hr h => ?_)
  obtain ⟨n, rfl, hn, q⟩ := h
  refine ⟨_, PSs.nox (pss_cons (ps_set (i := 1) sc_level_of.nd rfl (by first | exact Or.inl rfl | exact Or.inr rfl) (pe_nat 0))
      (pss_cons (ps_while PassesOwn.never (pt_cmpR op_ltn (pe_op op_shln (pe_nat 1) (pv 1)) (pe_bits (pv 0)) (nomark _))
      (pss_one (ps_aug (i := 1) sc_level_of.nd rfl (by first | exact Or.inl rfl | exact Or.inr rfl) (pe_nat 1) iop_addN)))
      (pss_one (ps_ret (pv 1))))), ?_⟩
  refine while_m (fun k σ H' => ∃ l, H' = H ∧ k = 9 - l ∧ (∀ j, j < l → 2 ^ 2 ^ j ≤ n) ∧ σ = [some (.int (n : Int)), some (.int (l : Int))]) _ ⟨0, rfl, rfl, fun j h => absurd h (Nat.not_lt_zero j), rfl⟩ ?_
  rintro k σ H' ⟨l, rfl, rfl, hl, rfl⟩
  have hl9 : l < 9 := Nat.lt_of_not_le fun c => absurd (hl 8 (by omega)) (Nat.not_le.mpr hn)
  walk_at "rd"
  refine ⟨⟨1, by decide, by omega⟩, ?_⟩
  walk_at "rd"
  refine ifN (fun c => ?_) (fun c => ?_)
  · refine ⟨_, fun _ _ h => h, ?_⟩
    walk_at "rd"
    refine ⟨9 - (l + 1), by omega, l + 1, rfl, rfl, fun j hj => ?_, rfl⟩
    by_cases e : j = l
    · subst e
      refine Nat.le_of_not_lt fun c2 => absurd (bits_nat c2) ?_
      rw [Nat.one_mul] at c
      exact Nat.not_le.mpr c
    · exact hl j (by omega)
  · refine ⟨_, rfl, q l (IsLv.of hl (nat_bits ?_))⟩
    rw [Nat.one_mul] at c
    exact Nat.le_of_not_lt c
def sp_parted (K : PySem.W.Frag) : Sp := fun vs H Q _ => ∃ n h : Nat, vs = [.int (n : Int), .int (h : Int)] ∧ h ≤ 1000 ∧ ∀ p, H p = none → Q (.ref p) (upd H p (.tup [.int ((n / 2 ^ h : Nat) : Int), .int ((n % 2 ^ h : Nat) : Int)]))
abbrev s_parted : Stmt := top 8
theorem sc_parted : FnScope ["number", "half"] ["number", "half"] (defScope s_parted) := ⟨rfl, rfl, rfl, by decide +kernel, rfl, by decide +kernel, by decide +kernel⟩
theorem ok_parted (T : Txt K mg) : Dn P w K mg base CX0 1 (He.ga K "parted") ["number", "half"] (sp_parted K) := by
  refine dn_of (k := 0) T.f_parted sc_parted (fun _ _ _ _ _ _ us hl => match us, hl with | [_, _], _ => rfl) (fun cdv A outer s H vs Q E hr h => ?_)
  obtain ⟨n, h, rfl, hh, q⟩ := h
  refine ⟨_, PSs.nox (pss_one (ps_ret (pe_tup (pa_cons (pe_op op_shrn (pv 0) (pv 1)) (pa_cons (pe_op op_andn (pv 0) (pe_op op_subn (pe_op op_shln (pe_nat 1) (pv 1)) (pe_nat 1))) pa_nil))))), ?_⟩
  walk_at "rd"
  refine ⟨⟨1, by decide, by omega⟩, ?_⟩
  walk_at "rd"
  refine ⟨by rw [Nat.one_mul]; exact Nat.two_pow_pos h, ?_⟩
  walk_at "rd"
  refine ⟨by show 2 ≤ sizeLine; decide, fun p hp => ?_⟩
  have e : n &&& (1 * 2 ^ h - 1) = n % 2 ^ h := by rw [Nat.one_mul, Nat.and_two_pow_sub_one_eq_mod]
  have q2 := q p hp
  rw [← e] at q2
  exact q2
theorem nat_or {a b k : Nat} (h : b < 2 ^ k) : (a * 2 ^ k ||| b) = a * 2 ^ k + b := by
  rw [Nat.mul_comm, ← Nat.two_pow_add_eq_or_of_lt h]
def sp_times (K : PySem.W.Frag) (n : Nat) : Sp := fun vs H Q _ => ∃ a b : Nat, vs = [.int (a : Int), .int (b : Int)] ∧ Nim.In n a ∧ Nim.In n b ∧ ∀ H', Same H H' → Q (.int ((Nim.nm a b : Nat) : Int)) H'
abbrev s_times : Stmt := top 10
theorem sc_times : FnScope ["one", "other", "half", "mine", "theirs", "low", "high", "mixed"] ["one", "other"] (defScope s_times) := ⟨rfl, rfl, rfl, by decide +kernel, rfl, by decide +kernel, by decide +kernel⟩
theorem ok_times (T : Txt K mg) (d_level_of : Dn P w K mg base CX0 1 (He.ga K "level_of") ["number"] (sp_level_of K)) (d_parted : Dn P w K mg base CX0 1 (He.ga K "parted") ["number", "half"] (sp_parted K)) : ∀ n, Dn P w K mg base CX0 (n + 2) (He.ga K "times") ["one", "other"] (recSp (sp_times K) n) := by
  refine rec_dn T.f_times (fun _ _ _ _ _ _ us hl => match us, hl with | [_, _], _ => rfl) (fun n d_times => ?_)
  refine dn_of (k := n + 2) T.f_times sc_times (fun _ _ _ _ _ _ us hl => match us, hl with | [_, _], _ => rfl) (fun cdv A outer s H vs Q E hr h => ?_)
  obtain ⟨a, b, rfl, ha, hb, q⟩ := h
  refine ⟨_, PSs.nox (pss_cons (ps_if (pt_cut (PW.pt (pw_or (pt_cmpR op_ltn (pv 0) (pe_nat 2) (nomark _)) (pw_or1 (pt_cmpR op_ltn (pv 1) (pe_nat 2) (nomark _)))))) (pss_one (ps_ret (pe_op op_muln (pv 0) (pv 1)))) pss_nil)
      (pss_cons (ps_cut (ps_set (i := 2) sc_times.nd rfl (by first | exact Or.inl rfl | exact Or.inr rfl) (pe_op op_shln (pe_nat 1) (pe_op op_subn (pe_cl d_level_of (hr.mono (by omega)) T.g_level_of pass0 (pa_cons (pe_callB (call_maxn rfl) (by rfl) T.n_max (by decide +kernel) (pa_cons (pv 0) (pa_cons (pv 1) pa_nil))) pa_nil)) (pe_nat 1)))))
      (pss_cons (ps_set (i := 3) sc_times.nd rfl (by first | exact Or.inl rfl | exact Or.inr rfl) (pe_cl d_parted (hr.mono (by omega)) T.g_parted pass0 (pa_cons (pv 0) (pa_cons (pv 2) pa_nil))))
      (pss_cons (ps_set (i := 4) sc_times.nd rfl (by first | exact Or.inl rfl | exact Or.inr rfl) (pe_cl d_parted (hr.mono (by omega)) T.g_parted pass0 (pa_cons (pv 1) (pa_cons (pv 2) pa_nil))))
      (pss_cons (ps_set (i := 5) sc_times.nd rfl (by first | exact Or.inl rfl | exact Or.inr rfl) (pe_cl d_times hr T.g_times pass0 (pa_cons (pe_ix ix_tup (pv 3) (pe_nat 1) (fun _ _ => rfl)) (pa_cons (pe_ix ix_tup (pv 4) (pe_nat 1) (fun _ _ => rfl)) pa_nil))))
      (pss_cons (ps_set (i := 6) sc_times.nd rfl (by first | exact Or.inl rfl | exact Or.inr rfl) (pe_cl d_times hr T.g_times pass0 (pa_cons (pe_ix ix_tup (pv 3) (pe_nat 0) (fun _ _ => rfl)) (pa_cons (pe_ix ix_tup (pv 4) (pe_nat 0) (fun _ _ => rfl)) pa_nil))))
      (pss_cons (ps_set (i := 7) sc_times.nd rfl (by first | exact Or.inl rfl | exact Or.inr rfl) (pe_cl d_times hr T.g_times pass0 (pa_cons (pe_op op_xorn (pe_ix ix_tup (pv 3) (pe_nat 0) (fun _ _ => rfl)) (pe_ix ix_tup (pv 3) (pe_nat 1) (fun _ _ => rfl))) (pa_cons (pe_op op_xorn (pe_ix ix_tup (pv 4) (pe_nat 0) (fun _ _ => rfl)) (pe_ix ix_tup (pv 4) (pe_nat 1) (fun _ _ => rfl))) pa_nil))))
      (pss_one (ps_ret (pe_op op_orn (pe_op op_shln (pe_op op_xorn (pv 7) (pv 5)) (pv 2)) (pe_op op_xorn (pv 5) (pe_cl d_times hr T.g_times pass0 (pa_cons (pv 6) (pa_cons (pe_op op_shln (pe_nat 1) (pe_op op_subn (pv 2) (pe_nat 1))) pa_nil)))))))))))))), ?_⟩
  refine ⟨fun c H' => Hd (c = decide (a < 2 ∨ b < 2) ∧ H' = H), fun c H' h => ?_, ?_⟩
  · obtain ⟨rfl, rfl⟩ := h.out
    refine ifN (fun c => ?_) (fun c => ?_)
    · walk_at "rd"
      refine ⟨by omega, ?_⟩
      have q2 := q _ (Same.refl _)
      rw [Nim.nm_small ha.top hb.top c] at q2
      exact q2
    · refine ⟨fun σ' H2 => Hd (∃ j, j + 1 ≤ n ∧ Nim.In (j + 1) a ∧ Nim.In (j + 1) b ∧ H2 = H' ∧ σ' = [some (.int (a : Int)), some (.int (b : Int)), some (.int ((Nim.bw j : Nat) : Int)), none, none, none, none, none]), ?_, ?_⟩
      · intro σ' H2 h
        obtain ⟨j, hj, ja, jb, rfl, rfl⟩ := h.out
        obtain ⟨m, rfl⟩ : ∃ m, n = m + 1 := ⟨n - 1, by omega⟩
        have hm8 : m ≤ 8 := Nat.le_of_succ_le ha.le
        have hjm : j ≤ m := by omega
        have hbw : Nim.bw j ≤ 1000 := Nat.le_trans (Nat.pow_le_pow_right (by decide) (show j ≤ 8 by omega)) (by decide)
        walk_at "rd"
        refine ⟨_, _, rfl, hbw, fun p1 n1 => ?_⟩
        walk_at "rd"
        refine ⟨_, _, rfl, hbw, fun p2 n2 => ?_⟩
        have t2 : ∀ H3, Same (upd (upd H2 p1 (.tup [.int ((a / 2 ^ Nim.bw j : Nat) : Int), .int ((a % 2 ^ Nim.bw j : Nat) : Int)])) p2 (.tup [.int ((b / 2 ^ Nim.bw j : Nat) : Int), .int ((b % 2 ^ Nim.bw j : Nat) : Int)])) H3 → Same H2 H3 ∧ H3 p1 = some (.tup [.int ((a / 2 ^ Nim.bw j : Nat) : Int), .int ((a % 2 ^ Nim.bw j : Nat) : Int)]) ∧ H3 p2 = some (.tup [.int ((b / 2 ^ Nim.bw j : Nat) : Int), .int ((b % 2 ^ Nim.bw j : Nat) : Int)]) := fun H3 s3 =>
          ⟨((Same.upd n1).trans (Same.upd n2)).trans s3, s3 _ _ (Same.upd n2 _ _ upd_same), s3 _ _ upd_same⟩
        obtain ⟨_, a1, a2⟩ := t2 _ (Same.refl _)
        have ah := ja.hi
        have al := Nim.In.lo a ja.le
        have bh := jb.hi
        have bl := Nim.In.lo b jb.le
        walk_at "rd"
        refine ⟨_, _, _, _, rfl, rfl, SqT.of a1, atI_nat (j := 1) rfl, ?_⟩
        walk_at "rd"
        refine ⟨_, _, _, _, rfl, rfl, SqT.of a2, atI_nat (j := 1) rfl, ?_⟩
        walk_at "rd"
        refine ⟨_, _, rfl, al.up hjm hm8, bl.up hjm hm8, fun H3 s3 => ?_⟩
        obtain ⟨_, a1, a2⟩ := t2 _ s3
        walk_at "rd"
        refine ⟨_, _, _, _, rfl, rfl, SqT.of a1, atI_nat (j := 0) rfl, ?_⟩
        walk_at "rd"
        refine ⟨_, _, _, _, rfl, rfl, SqT.of a2, atI_nat (j := 0) rfl, ?_⟩
        walk_at "rd"
        refine ⟨_, _, rfl, ah.up hjm hm8, bh.up hjm hm8, fun H4 s4 => ?_⟩
        obtain ⟨_, a1, a2⟩ := t2 _ (s3.trans s4)
        walk_at "rd"
        refine ⟨_, _, _, _, rfl, rfl, SqT.of a1, atI_nat (j := 0) rfl, ?_⟩
        walk_at "rd"
        refine ⟨_, _, _, _, rfl, rfl, SqT.of a1, atI_nat (j := 1) rfl, ?_⟩
        walk_at "rd"
        refine ⟨_, _, _, _, rfl, rfl, SqT.of a2, atI_nat (j := 0) rfl, ?_⟩
        walk_at "rd"
        refine ⟨_, _, _, _, rfl, rfl, SqT.of a2, atI_nat (j := 1) rfl, ?_⟩
        walk_at "rd"
        refine ⟨_, _, rfl, (ah.xor al).up hjm hm8, (bh.xor bl).up hjm hm8, fun H5 s5 => ?_⟩
        walk_at "rd"
        refine ⟨⟨256, ?_, by omega⟩, ?_⟩
        · exact (((ah.xor al).nm (bh.xor bl)).xor (al.nm bl)).top.lt
        walk_at "rd"
        refine ⟨Nim.bw_pos j, ?_⟩
        walk_at "rd"
        refine ⟨⟨1, by decide, by omega⟩, ?_⟩
        walk_at "rd"
        have hc : Nim.In j (1 * 2 ^ (Nim.bw j - 1)) := by rw [Nat.one_mul]; exact Nim.In.cst (Nat.le_of_succ_le ja.le)
        refine ⟨_, _, rfl, (ah.nm bh).up hjm hm8, hc.up hjm hm8, fun H6 s6 => ?_⟩
        walk_at "rd"
        have e := Nim.nm_turn ja jb
        rw [← nat_or ((al.nm bl).xor ((ah.nm bh).nm (Nim.In.cst (Nat.le_of_succ_le ja.le)))).lt] at e
        have q2 := q H6 (t2 _ ((s3.trans s4).trans (s5.trans s6))).1
        rw [e] at q2
        rw [Nat.one_mul]
        exact q2
      · walk_at "rd"
        have hmx : Nim.In n (max a b) := ⟨ha.le, Nat.max_lt.mpr ⟨ha.lt, hb.lt⟩⟩
        refine ⟨hmx.top.lt, fun l il => ?_⟩
        have l1 := il.pos (by omega)
        have l2 := il.le hmx.lt
        have l3 := il.lt
        walk_at "rd"
        refine ⟨l1, ?_⟩
        walk_at "rd"
        have hn8 := ha.le
        refine ⟨⟨1, by decide, by omega⟩, Hd.mk ⟨l - 1, by omega, ⟨by omega, ?_⟩, ⟨by omega, ?_⟩, rfl, ?_⟩⟩
        · rw [Nat.sub_add_cancel l1]
          exact Nat.lt_of_le_of_lt (Nat.le_max_left _ _) l3
        · rw [Nat.sub_add_cancel l1]
          exact Nat.lt_of_le_of_lt (Nat.le_max_right _ _) l3
        · show [some (V.int (a : Int)), some (.int (b : Int)), some (.int ((1 * 2 ^ (l - 1) : Nat) : Int)), none, none, none, none, none] = _
          rw [Nat.one_mul]
  · walk_at "rd"
    refine ifN (fun c => Hd.mk ⟨(decide_eq_true (.inl c)).symm, rfl⟩) (fun c => ?_)
    walk_at "rd"
    exact Hd.mk ⟨decide_eq_decide.mpr ⟨fun h => .inr h, fun h => h.resolve_left c⟩, rfl⟩

def sp_product (K : PySem.W.Frag) : Sp := fun vs H Q _ => ∃ a b : Nat, vs = [.int (a : Int), .int (b : Int)] ∧ Nim.In 8 a ∧ Nim.In 8 b ∧ ∀ H', Same H H' → Q (.int ((Nim.nm a b : Nat) : Int)) H'
abbrev s_product : Stmt := top 11
theorem sc_product : FnScope ["one", "other"] ["one", "other"] (defScope s_product) := ⟨rfl, rfl, rfl, by decide +kernel, rfl, by decide +kernel, by decide +kernel⟩
theorem ok_product (T : Txt K mg) (d_times : Dn P w K mg base CX0 11 (He.ga K "times") ["one", "other"] ((sp_times K) 8)) (d_asked_number : Dn P w K mg base CX0 2 (He.ga K "asked_number") ["number", "bits"] (sp_asked_number K)) : Dn P w K mg base CX0 12 (He.ga K "product") ["one", "other"] (sp_product K) := by
  refine dn_of (k := 11) T.f_product sc_product (fun _ _ _ _ _ _ us hl => match us, hl with | [_, _], _ => rfl) (fun cdv A outer s H vs Q E hr h => ?_)
  obtain ⟨a, b, rfl, ha, hb, q⟩ := h
  refine ⟨_, PSs.nox (pss_one (ps_ret (pe_cl d_times (hr.mono (by omega)) T.g_times pass0 (pa_cons (pe_cl d_asked_number (hr.mono (by omega)) T.g_asked_number pass0 (pa_cons (pv 0) (pa_cons (pe_gnat (n := 256) T.c_BITS) pa_nil))) (pa_cons (pe_cl d_asked_number (hr.mono (by omega)) T.g_asked_number pass0 (pa_cons (pv 1) (pa_cons (pe_gnat (n := 256) T.c_BITS) pa_nil))) pa_nil))))), ?_⟩
  exact ⟨_, rfl, rfl, _, _, rfl, ha.lt, _, rfl, rfl, _, _, rfl, hb.lt, rfl, a, b, rfl, ha, hb, q⟩

/-- a number of at most 2 ^ 20 bits -/
def Bt (z : Int) : Prop := Builtin.Int.intBits z ≤ 1048576
theorem Bt.abs {z : Int} (h : Bt z) : z.natAbs < 2 ^ 1048576 :=
  Nat.lt_of_lt_of_le (natAbs_lt_pow_bits z) (Nat.pow_le_pow_right (by decide) h)
theorem abs_add {x y : Int} {n : Nat} (hx : x.natAbs < 2 ^ n) (hy : y.natAbs < 2 ^ n) : (x + y).natAbs < 2 ^ (n + 1) := by
  have := Int.natAbs_add_le x y
  rw [Nat.pow_succ]
  omega
theorem abs_up {x : Int} {n : Nat} (m : Nat) (hx : x.natAbs < 2 ^ n) (h : n ≤ m) : x.natAbs < 2 ^ m := Nat.lt_of_lt_of_le hx (Nat.pow_le_pow_right (by decide) h)
theorem mixed_lt {c o : Int} (hc : Bt c) (ho : Bt o) : ((c * 48271 + o) * 6364136223846793005 + 1442695040888963407).natAbs < 2 ^ 1048700 := by
  have h1 : (c * 48271).natAbs < 2 ^ (1048576 + 16) := wide_lt hc.abs (by decide)
  have h2 : (c * 48271 + o).natAbs < 2 ^ (1048592 + 1) := abs_add h1 (abs_up _ ho.abs (by decide))
  have h3 : ((c * 48271 + o) * 6364136223846793005).natAbs < 2 ^ (1048593 + 63) := wide_lt h2 (by decide)
  have h4 : (1442695040888963407 : Int).natAbs < 2 ^ (1048593 + 63) := abs_up (n := 63) _ (by decide) (by decide)
  exact abs_up _ (abs_add h3 h4) (by decide)
theorem cell_bt {ns : List Int} (hb : ∀ z ∈ ns, Builtin.Int.intBits z ≤ 1048576) (k : Nat) : Bt (cell ns k) := by
  unfold cell
  by_cases c : k < ns.length
  · have e : ns.getD k 0 = ns[k] := by simp [List.getD, c]
    rw [e]
    exact hb _ (List.getElem_mem c)
  · have e : ns.getD k 0 = 0 := by simp [List.getD, List.getElem?_eq_none (Nat.not_lt.mp c)]
    rw [e]
    exact (by decide : Builtin.Int.intBits 0 ≤ 1048576)
theorem shl_one {b : Int} (h0 : 0 ≤ b) (h : b ≤ 256) : CShl 1 b := by
  obtain ⟨n, rfl⟩ := Int.eq_ofNat_of_zero_le h0
  exact shl_ok (n := 1) (by decide) (by omega)
theorem pow_pos_i (n : Nat) : (0 : Int) < 1 * 2 ^ n := by
  rw [Int.one_mul]
  exact Int.pow_pos (by decide)
/-- what is left by a power of two -/
theorem mod_pow (x : Int) (n : Nat) : ∃ m : Nat, x % (1 * 2 ^ n) = (m : Int) ∧ m < 2 ^ n := by
  have p := pow_pos_i n
  obtain ⟨m, e⟩ := Int.eq_ofNat_of_zero_le (Int.emod_nonneg x (Int.ne_of_gt p))
  refine ⟨m, e, ?_⟩
  have l := Int.emod_lt_of_pos x p
  rw [e, Int.one_mul] at l
  have e2 : ((2 ^ n : Nat) : Int) = 2 ^ n := by rw [Int.natCast_pow]; rfl
  rw [← e2] at l
  exact Int.ofNat_lt.mp l
theorem mod_nat (x : Int) {F : Nat} (h : 0 < F) : ∃ m : Nat, x % (F : Int) = (m : Int) ∧ m < F := by
  obtain ⟨m, e⟩ := Int.eq_ofNat_of_zero_le (Int.emod_nonneg x (show (F : Int) ≠ 0 by omega))
  have l := Int.emod_lt_of_pos x (show (0 : Int) < F by omega)
  exact ⟨m, e, by omega⟩

/-! ### lists of lists -/
/-- rows that stand at R: m of them at as, each w numbers long, f i j in the i-th at j -/
def RowsOk (H : Hp) (R : Addr) (as : List Addr) (f : Nat → Nat → Nat) (m w : Nat) : Prop :=
  H R = some (.lst (as.map V.ref)) ∧ as.length = m ∧ R ∉ as ∧ ∀ i a, as[i]? = some a → H a = some (.lst ((List.range w).map fun j => V.int ((f i j : Nat) : Int)))
theorem RowsOk.keep {H H' : Hp} {R : Addr} {as : List Addr} {f : Nat → Nat → Nat} {m w : Nat} (h : RowsOk H R as f m w) (s : Same H H') : RowsOk H' R as f m w := ⟨s _ _ h.1, h.2.1, h.2.2.1, fun i a e => s _ _ (h.2.2.2 i a e)⟩
theorem range_snoc {f : Nat → V} (n : Nat) : (List.range (n + 1)).map f = (List.range n).map f ++ [f n] := by
  rw [List.range_succ, List.map_append]
  rfl
theorem small_line {n : Nat} (h : n ≤ 1000) : n < sizeLine := small1000 h
theorem range_at {f : Nat → V} {n j : Nat} (h : j < n) : ((List.range n).map f)[j]? = some (f j) := by
  simp [h]
/-- one row more -/
theorem RowsOk.more {H : Hp} {R D : Addr} {as : List Addr} {f : Nat → Nat → Nat} {m w : Nat} (h : RowsOk H R as f m w) (nd : R ≠ D) (hd : H D = some (.lst ((List.range w).map fun j => V.int ((f m j : Nat) : Int)))) :
    RowsOk (upd H R (.lst (as.map V.ref ++ [V.ref D]))) R (as ++ [D]) f (m + 1) w := by
  refine ⟨by rw [upd_same, List.map_append]; rfl, by rw [List.length_append, h.2.1]; rfl, ?_, fun i a e => ?_⟩
  · rw [List.mem_append, List.mem_singleton]
    rintro (z | z)
    · exact h.2.2.1 z
    · exact nd z
  · rw [List.getElem?_append] at e
    split at e
    · have ne : a ≠ R := fun z => h.2.2.1 (z ▸ List.mem_of_getElem? e)
      rw [upd_ne ne]
      exact h.2.2.2 i a e
    · rename_i c
      have e2 : i - as.length = 0 := by
        have := (List.getElem?_eq_some_iff.mp e).1
        simp only [List.length_singleton] at this
        omega
      rw [e2] at e
      obtain rfl : D = a := Option.some.inj e
      have e3 : i = m := by rw [← h.2.1]; omega
      rw [e3, upd_ne nd.symm]
      exact hd
theorem RowsOk.ix {K : PySem.W.Frag} {H : Hp} {R : Addr} {as : List Addr} {f : Nat → Nat → Nat} {m w i j : Nat} (h : RowsOk H R as f m w) (hi : i < m) (hj : j < w) :
    ∃ a, SqL K H R (as.map V.ref) ∧ atI (as.map V.ref) (i : Int) = some (.ref a) ∧ SqL K H a ((List.range w).map fun j => V.int ((f i j : Nat) : Int)) ∧ atI ((List.range w).map fun j => V.int ((f i j : Nat) : Int)) (j : Int) = some (.int ((f i j : Nat) : Int)) := by
  obtain ⟨a, ea⟩ : ∃ a, as[i]? = some a := ⟨as[i]'(by rw [h.2.1]; exact hi), List.getElem?_eq_getElem _⟩
  exact ⟨a, SqL.of h.1, atI_nat (by rw [List.getElem?_map, ea]; rfl), SqL.of (h.2.2.2 i a ea), atI_nat (range_at hj)⟩
theorem Same.put {H H' : Hp} {d : Addr} {o : HO} (s : Same H H') (nd : H d = none) : Same H (L2.upd H' d o) := fun b u e => by
  rw [upd_ne (ne_of_none e nd)]
  exact s b u e

theorem in8 {n : Nat} (h : n ≤ 255) : Nim.In 8 n := Nim.In.top (n := 3) ⟨by decide, show n < 256 by omega⟩
def sp__law_products (K : PySem.W.Frag) : Sp := fun vs H Q _ => ∃ h w : Nat, vs = [.int (h : Int), .int (w : Int)] ∧ h ≤ 31 ∧ w ≤ 31 ∧ ∀ (R : Addr) (as : List Addr) (H' : Hp), Same H H' → H R = none → RowsOk H' R as Nim.nm (h + 1) (w + 1) → Q (.ref R) H'
abbrev s__law_products : Stmt := top 16
theorem sc__law_products : FnScope ["_law_high", "_law_wide", "_law_rows", "_law_one", "_law_other"] ["_law_high", "_law_wide"] (defScope s__law_products) := ⟨rfl, rfl, rfl, by decide +kernel, rfl, by decide +kernel, by decide +kernel⟩
theorem ok__law_products (T : Txt K mg) (d_product : Dn P w K mg base CX0 12 (He.ga K "product") ["one", "other"] (sp_product K)) : Dn P w K mg base CX0 13 (He.ga K "_law_products") ["_law_high", "_law_wide"] (sp__law_products K) := by
  refine dn_of (k := 12) T.f__law_products sc__law_products (fun _ _ _ _ _ _ us hl => match us, hl with | [_, _], _ => rfl) (fun cdv A outer s H vs Q E hr h => ?_)
  obtain ⟨h, w', rfl, hh, hw, q⟩ := h
  refine ⟨_, PSs.nox (pss_cons (ps_set (i := 2) sc__law_products.nd rfl (by first | exact Or.inl rfl | exact Or.inr rfl) (pe_lst pa_nil))
      (pss_cons (ps_for PassesOwn.never rfl (pi_range1 rfl T.n_range (pa_cons (pe_op op_addn (pv 0) (pe_nat 1)) pa_nil)) (pg_name (i := 3) sc__law_products.nd rfl (by first | exact Or.inl rfl | exact Or.inr rfl))
      (pss_one (ps_expr (pe_bm PySem.F.plainAttrs_list PySem.F.slot_list_append PySem.F.type_list_append mt_append (pv 2) (pa_cons (pe_lc (own := [("_law_other", 4)]) (g := gName 4) (by rfl) sc__law_products.nd (pi_range1 rfl T.n_range (pa_cons (pe_op op_addn (pv 1) (pe_nat 1)) pa_nil)) (blkOk_by (own := [("_law_other", 4)]) (N := ["_law_high", "_law_wide", "_law_rows", "_law_one", "_law_other"]) (sc := defScope (s__law_products)) (by decide +kernel)) (fun _ _ _ _ _ => pg_name (i := 4) sc__law_products.nd rfl (Or.inl rfl)) (fun _ _ _ _ _ => pts_nil) (fun _ _ _ _ _ => (pe_cl d_product (hr.mono (by omega)) T.g_product pass0 (pa_cons (pv 3) (pa_cons (pv 4) pa_nil))))) pa_nil)))))
      (pss_one (ps_ret (pv 2))))), ?_⟩
  refine ⟨by show 0 ≤ sizeLine; decide, fun R nR => ?_⟩
  walk_at "rd"
  refine ⟨by omega, by omega, ?_⟩
  refine for_rangeN (n := h + 1) (fun i σ H' => ∃ as v, σ = [some (.int (h : Int)), some (.int (w' : Int)), some (.ref R), v, none] ∧ Same H H' ∧ RowsOk H' R as Nim.nm i (w' + 1)) ⟨[], none, rfl, Same.upd nR, upd_same, rfl, (fun z => by cases z), fun i a e => by cases e⟩ ?_ ?_
  · rintro i σ H' hi ⟨as, v, rfl, sm, ro⟩
    refine ⟨_, rfl, .inl ⟨rfl, _, SqL.of ro.1⟩, ?_⟩
    walk_at "rd"
    refine ⟨by omega, by omega, fun D nD => ?_⟩
    refine lc_rangeN (n := w' + 1) (fun j H3 => H3 D = some (.lst ((List.range j).map fun j => V.int ((Nim.nm i j : Nat) : Int))) ∧ Same H' H3) ⟨upd_same, Same.upd nD⟩ ?_ ?_
    · rintro j H3 hj ⟨e1, s3⟩
      walk_at "rd"
      refine ⟨_, _, rfl, in8 (by omega), in8 (by omega), fun H4 s4 => ?_⟩
      refine ⟨_, s4 _ _ e1, small_line (by simp; omega), by rw [upd_same, range_snoc], fun b o e => ?_⟩
      rw [upd_ne (ne_of_none e nD)]
      exact s4 _ _ (s3 _ _ e)
    · rintro H3 ⟨e1, s3⟩
      have nRD : R ≠ D := ne_of_none ro.1 nD
      walk_at "rd"
      refine ⟨R, _, _, rfl, rfl, s3 _ _ ro.1, small_line (by simp [ro.2.1]; omega), ?_⟩
      refine ⟨as ++ [D], _, rfl, fun b o e => ?_, (ro.keep s3).more nRD e1⟩
      rw [upd_ne (ne_of_none e nR)]
      exact s3 _ _ (sm _ _ e)
  · rintro σ H' ⟨as, v, rfl, sm, ro⟩
    walk_at "rd"
    exact q R as _ sm nR ro
/-- a dict of ints as a set -/
def DSet (H : Hp) (d : Addr) (P : Int → Prop) (k : Nat) : Prop := ∃ kvs : List (Key × V), H d = some (.dK kvs) ∧ kvs.length ≤ k ∧ ∀ n : Int, (valV kvs (Sum.inl n : Key)).isSome = true ↔ P n
theorem putK_le {kvs : List (Key × V)} (k : Key) (v : V) : (putK kvs k v).length ≤ kvs.length + 1 := by
  unfold putK
  split
  · rw [List.length_map]
    omega
  · rw [List.length_append]
    exact Nat.le_refl _
theorem DSet.put {H : Hp} {d : Addr} {P : Int → Prop} {k : Nat} {kvs : List (Key × V)} (hl : kvs.length ≤ k) (hp : ∀ n : Int, (valV kvs (Sum.inl n : Key)).isSome = true ↔ P n) (n : Int) (v : V) :
    DSet (upd H d (.dK (putK kvs (Sum.inl n : Key) v))) d (fun m => m = n ∨ P m) (k + 1) := by
  refine ⟨_, upd_same, Nat.le_trans (putK_le _ _) (by omega), fun m => ?_⟩
  rw [valV_put]
  split
  · rename_i c
    exact ⟨fun _ => .inl (Sum.inl.inj c), fun _ => rfl⟩
  · rename_i c
    rw [hp]
    exact ⟨.inr, fun h => h.resolve_left fun e => c (congrArg Sum.inl e)⟩
abbrev s_law : Stmt := top 17
theorem sc_law : FnScope ["_law_script", "_law_most", "_law_one", "_law_other", "_law_rows", "_law_found", "_law_left", "_law_lesser", "_law_less", "_law_high"] ["_law_script"] (defScope s_law) := ⟨rfl, rfl, rfl, by decide +kernel, rfl, by decide +kernel, by decide +kernel⟩
theorem ok_law (T : Txt K mg) (d__law_cell_at : Dn P w K mg base CX0 1 (He.ga K "_law_cell_at") ["_law_script", "_law_k"] (sp__law_cell_at K)) (d__law_products : Dn P w K mg base CX0 13 (He.ga K "_law_products") ["_law_high", "_law_wide"] (sp__law_products K)) (d__law_whole : Dn P w K mg base CX0 1 (He.ga K "_law_whole") ["_law_found"] (sp_is_whole K)) (d_product : Dn P w K mg base CX0 12 (He.ga K "product") ["one", "other"] (sp_product K)) : Dn P w K mg base CX0 14 (He.ga K "law") ["_law_script"] (spLaw K) := by
  refine dn_of (k := 13) T.f_law sc_law (fun _ _ _ _ _ _ us hl => match us, hl with | [_], _ => rfl) (fun cdv A outer s H vs Q E hr h => ?_)
  obtain ⟨a, ns, rfl, hS, hl, hb, q⟩ := h
  refine ⟨_, PSs.nox (pss_cons (ps_set (i := 1) sc_law.nd rfl (by first | exact Or.inl rfl | exact Or.inr rfl) (pe_nat 14))
      (pss_cons (ps_cut (ps_if (pt_cmpR op_eqi (pe_op op_mod (pe_cl d__law_cell_at (hr.mono (by omega)) T.g__law_cell_at pass0 (pa_cons (pv 0) (pa_cons (pe_nat 2) pa_nil))) pe_int) pe_int (nomark _)) (pss_one (ps_set (i := 1) sc_law.nd rfl (by first | exact Or.inl rfl | exact Or.inr rfl) (pe_nat 21))) pss_nil))
      (pss_cons (ps_cut (ps_set (i := 2) sc_law.nd rfl (by first | exact Or.inl rfl | exact Or.inr rfl) (pe_op op_mod (pe_cl d__law_cell_at (hr.mono (by omega)) T.g__law_cell_at pass0 (pa_cons (pv 0) (pa_cons (pe_nat 0) pa_nil))) (pv 1))))
      (pss_cons (ps_cut (ps_set (i := 3) sc_law.nd rfl (by first | exact Or.inl rfl | exact Or.inr rfl) (pe_op op_mod (pe_cl d__law_cell_at (hr.mono (by omega)) T.g__law_cell_at pass0 (pa_cons (pv 0) (pa_cons (pe_nat 1) pa_nil))) (pv 1))))
      (pss_cons (ps_set (i := 4) sc_law.nd rfl (by first | exact Or.inl rfl | exact Or.inr rfl) (pe_cl d__law_products (hr.mono (by omega)) T.g__law_products pass0 (pa_cons (pv 2) (pa_cons (pv 3) pa_nil))))
      (pss_cons (ps_set (i := 5) sc_law.nd rfl (by first | exact Or.inl rfl | exact Or.inr rfl) (pe_ix ix_list (pe_ix ix_list (pv 4) (pv 2) (fun _ _ => rfl)) (pv 3) (fun _ _ => rfl)))
      (pss_cons (ps_if (pt_not (pt_val (pe_cl d__law_whole (hr.mono (by omega)) T.g__law_whole pass0 (pa_cons (pv 5) pa_nil)))) (pss_one (ps_ret pe_bl)) pss_nil)
      (pss_cons (ps_set (i := 6) sc_law.nd rfl (by first | exact Or.inl rfl | exact Or.inr rfl) pe_dnewK)
      (pss_cons (ps_for PassesOwn.never rfl (pi_range1 rfl T.n_range (pa_cons (pv 2) pa_nil)) (pg_name (i := 7) sc_law.nd rfl (by first | exact Or.inl rfl | exact Or.inr rfl))
      (pss_one (ps_for PassesOwn.never rfl (pi_range1 rfl T.n_range (pa_cons (pv 3) pa_nil)) (pg_name (i := 8) sc_law.nd rfl (by first | exact Or.inl rfl | exact Or.inr rfl))
      (pss_cons (ps_set (i := 9) sc_law.nd rfl (by first | exact Or.inl rfl | exact Or.inr rfl) (pe_op op_xorn (pe_ix ix_list (pe_ix ix_list (pv 4) (pv 7) (fun _ _ => rfl)) (pv 3) (fun _ _ => rfl)) (pe_ix ix_list (pe_ix ix_list (pv 4) (pv 2) (fun _ _ => rfl)) (pv 8) (fun _ _ => rfl))))
      (pss_one (ps_dput (hu_of hr) (pv 6) (pe_op op_xorn (pv 9) (pe_ix ix_list (pe_ix ix_list (pv 4) (pv 7) (fun _ _ => rfl)) (pv 8) (fun _ _ => rfl))) pe_bl rfl))))))
      (pss_cons (ps_if (pt_cmp (pc_din (hu_of hr) (pv 5) (pv 6))) (pss_one (ps_ret pe_bl)) pss_nil)
      (pss_cons (ps_for PassesOwn.never rfl (pi_range1 rfl T.n_range (pa_cons (pv 5) pa_nil)) (pg_name (i := 7) sc_law.nd rfl (by first | exact Or.inl rfl | exact Or.inr rfl))
      (pss_one (ps_if (pt_cmp (pc_dnotin (hu_of hr) (pv 7) (pv 6))) (pss_one (ps_ret pe_bl)) pss_nil)))
      (pss_one (ps_ret (pe_cmpR op_eqn (pe_cl d_product (hr.mono (by omega)) T.g_product pass0 (pa_cons (pv 3) (pa_cons (pv 2) pa_nil))) (pv 5) (nomark _))))))))))))))), ?_⟩
  walk_at "rd"
  refine ⟨fun σ' H' => Hd (∃ m : Nat, 0 < m ∧ m ≤ 21 ∧ H' = H ∧ σ' = [some (.ref a), some (.int (m : Int)), none, none, none, none, none, none, none, none]), ?_, ?_⟩
  · intro σ' H' h
    obtain ⟨m, m0, m21, rfl, rfl⟩ := h.out
    obtain ⟨x, ex, hx⟩ := mod_nat (cell ns 0) m0
    obtain ⟨y, ey, hy⟩ := mod_nat (cell ns 1) m0
    refine ⟨fun σ' H2 => Hd (H2 = H' ∧ σ' = [some (.ref a), some (.int (m : Int)), some (.int (x : Int)), none, none, none, none, none, none, none]), ?_, ?_⟩
    · intro σ' H2 h
      obtain ⟨rfl, rfl⟩ := h.out
      refine ⟨fun σ' H3 => Hd (H3 = H2 ∧ σ' = [some (.ref a), some (.int (m : Int)), some (.int (x : Int)), some (.int (y : Int)), none, none, none, none, none, none]), ?_, ?_⟩
      · intro σ' H3 h
        obtain ⟨rfl, rfl⟩ := h.out
        walk_at "rd"
        refine ⟨_, _, rfl, by omega, by omega, fun R as H4 s4 nR ro => ?_⟩
        have hs : ∀ H', Same H4 H' → ∀ i j, i < x + 1 → j < y + 1 → ∃ a, SqL K H' R (as.map V.ref) ∧ atI (as.map V.ref) (i : Int) = some (.ref a) ∧ SqL K H' a ((List.range (y + 1)).map fun j => V.int ((Nim.nm i j : Nat) : Int)) ∧ atI ((List.range (y + 1)).map fun j => V.int ((Nim.nm i j : Nat) : Int)) (j : Int) = some (.int ((Nim.nm i j : Nat) : Int)) := fun H' s i j hi hj => (ro.keep s).ix hi hj
        walk_at "rd"
        obtain ⟨b1, f1, f2, f3, f4⟩ := hs _ (Same.refl _) x y (by omega) (by omega)
        refine ⟨_, _, _, _, rfl, rfl, f1, f2, ?_⟩
        walk_at "rd"
        refine ⟨_, _, _, _, rfl, rfl, f3, f4, ?_⟩
        walk_at "rd"
        refine whole_int ?_
        walk_at "rd"
        intro d nd
        walk_at "rd"
        have xy8 : Nim.nm x y < 256 := ((show Nim.In 3 x from ⟨by decide, show x < 256 by omega⟩).nm (show Nim.In 3 y from ⟨by decide, show y < 256 by omega⟩)).lt
        refine ⟨by omega, by omega, ?_⟩
        refine for_rangeN (n := x) (fun i σ H' => ∃ v1 v2 v3, σ = [some (.ref a), some (.int (m : Int)), some (.int (x : Int)), some (.int (y : Int)), some (.ref R), some (.int ((Nim.nm x y : Nat) : Int)), some (.ref d), v1, v2, v3] ∧ Same H4 H' ∧
          DSet H' d (fun n => ∃ i', i' < i ∧ ∃ j, j < y ∧ n = ((Nim.nm i' y ^^^ Nim.nm x j ^^^ Nim.nm i' j : Nat) : Int)) (21 * i)) ⟨none, none, none, rfl, Same.upd nd, [], upd_same, Nat.le_refl _, fun n => ⟨fun z => (by cases z), fun ⟨_, z, _⟩ => absurd z (Nat.not_lt_zero _)⟩⟩ ?_ ?_
        · rintro i σ H' hi ⟨v1, v2, v3, rfl, s5, ds⟩
          walk_at "rd"
          refine ⟨by omega, by omega, ?_⟩
          refine for_rangeN (n := y) (fun j σ H' => ∃ v2 v3, σ = [some (.ref a), some (.int (m : Int)), some (.int (x : Int)), some (.int (y : Int)), some (.ref R), some (.int ((Nim.nm x y : Nat) : Int)), some (.ref d), some (.int (i : Int)), v2, v3] ∧ Same H4 H' ∧
            DSet H' d (fun n => (∃ j', j' < j ∧ n = ((Nim.nm i y ^^^ Nim.nm x j' ^^^ Nim.nm i j' : Nat) : Int)) ∨ ∃ i', i' < i ∧ ∃ j, j < y ∧ n = ((Nim.nm i' y ^^^ Nim.nm x j ^^^ Nim.nm i' j : Nat) : Int)) (21 * i + j)) ⟨v2, v3, rfl, s5, ?_⟩ ?_ ?_
          · obtain ⟨kvs, h1, h2, h3⟩ := ds
            exact ⟨kvs, h1, h2, fun n => (h3 n).trans ⟨.inr, fun h => h.resolve_left fun ⟨_, z, _⟩ => absurd z (Nat.not_lt_zero _)⟩⟩
          · rintro j σ H5 hj ⟨v2, v3, rfl, s6, kvs, h1, h2, h3⟩
            walk_at "rd"
            obtain ⟨b1, f1, f2, f3, f4⟩ := hs _ s6 i y (by omega) (by omega)
            refine ⟨_, _, _, _, rfl, rfl, f1, f2, ?_⟩
            walk_at "rd"
            refine ⟨_, _, _, _, rfl, rfl, f3, f4, ?_⟩
            walk_at "rd"
            obtain ⟨b1, f1, f2, f3, f4⟩ := hs _ s6 x j (by omega) (by omega)
            refine ⟨_, _, _, _, rfl, rfl, f1, f2, ?_⟩
            walk_at "rd"
            refine ⟨_, _, _, _, rfl, rfl, f3, f4, ?_⟩
            walk_at "rd"
            obtain ⟨b1, f1, f2, f3, f4⟩ := hs _ s6 i j (by omega) (by omega)
            refine ⟨_, _, _, _, rfl, rfl, f1, f2, ?_⟩
            walk_at "rd"
            refine ⟨_, _, _, _, rfl, rfl, f3, f4, ?_⟩
            walk_at "rd"
            refine ⟨d, _, rfl, DPut.k (k := Sum.inl _) h1 (small_line (by omega)), ?_⟩
            refine ⟨_, _, rfl, Same.put s6 nd, ?_⟩
            obtain ⟨kvs', g1, g2, g3⟩ := DSet.put (H := H5) (d := d) h2 h3 ((Nim.nm i y ^^^ Nim.nm x j ^^^ Nim.nm i j : Nat) : Int) (.bl true)
            refine ⟨kvs', g1, g2, fun n => (g3 n).trans ⟨?_, ?_⟩⟩
            · rintro (z | ⟨j', hj', z⟩ | z)
              · exact .inl ⟨j, by omega, z⟩
              · exact .inl ⟨j', by omega, z⟩
              · exact .inr z
            · rintro (⟨j', hj', z⟩ | z)
              · by_cases c : j' = j
                · rw [c] at z
                  exact .inl z
                · exact .inr (.inl ⟨j', by omega, z⟩)
              · exact .inr (.inr z)
          · rintro σ H5 ⟨v2, v3, rfl, s6, kvs, h1, h2, h3⟩
            refine ⟨_, v2, v3, rfl, s6, kvs, h1, by omega, fun n => (h3 n).trans ⟨?_, ?_⟩⟩
            · rintro (⟨j, hj, z⟩ | ⟨i', hi', z⟩)
              · exact ⟨i, by omega, j, hj, z⟩
              · exact ⟨i', by omega, z⟩
            · rintro ⟨i', hi', z⟩
              by_cases c : i' = i
              · rw [c] at z
                exact .inl z
              · exact .inr ⟨i', by omega, z⟩
        · rintro σ H5 ⟨v1, v2, v3, rfl, s5, kvs, h1, h2, h3⟩
          walk_at "rd"
          refine ⟨d, _, rfl, DGet.k (k := Sum.inl _) h1, ?_⟩
          walk_at "rd"
          refine ifB (fun c => ?_) (fun _ => ?_)
          · exfalso
            obtain ⟨i, hi, j, hj, e⟩ := (h3 _).mp c
            exact Nim.mex_not (in8 (by omega)) (in8 (by omega)) (in8 (by omega)) (in8 (by omega)) (Nat.ne_of_lt hi) (Nat.ne_of_lt hj) (by omega)
          · walk_at "rd"
            refine ⟨by omega, by omega, ?_⟩
            refine for_rangeN (n := Nim.nm x y) (fun i σ H' => ∃ v1, σ = [some (.ref a), some (.int (m : Int)), some (.int (x : Int)), some (.int (y : Int)), some (.ref R), some (.int ((Nim.nm x y : Nat) : Int)), some (.ref d), v1, v2, v3] ∧ H' = H5) ⟨v1, rfl, rfl⟩ ?_ ?_
            · rintro i σ H' hi ⟨v1, rfl, rfl⟩
              walk_at "rd"
              refine ⟨d, _, rfl, DGet.k (k := Sum.inl _) h1, ?_⟩
              walk_at "rd"
              have e : (valV kvs (Sum.inl (i : Int) : Key)).isSome = true := (h3 _).mpr (by
                obtain ⟨i', hi', j, hj, e⟩ := Nim.mex_all (x := x) (y := y) (by omega) (by omega) hi
                exact ⟨i', hi', j, hj, by omega⟩)
              rw [e]
              exact ⟨_, rfl, rfl⟩
            · rintro σ H' ⟨v1, rfl, rfl⟩
              walk_at "rd"
              refine ⟨_, _, rfl, in8 (by omega), in8 (by omega), fun H6 s6 => ?_⟩
              walk_at "rd"
              exact ret_dec (Nim.nm_comm _ _) (q _)
      · walk_at "rd"
        refine ⟨show (0 : Int) < (m : Int) by omega, Hd.mk ⟨rfl, ?_⟩⟩
        rw [← ey]
        rfl
    · walk_at "rd"
      refine ⟨show (0 : Int) < (m : Int) by omega, Hd.mk ⟨rfl, ?_⟩⟩
      rw [← ex]
      rfl
  · walk_at "rd"
    refine ifN (fun c => ?_) (fun c => Hd.mk ⟨14, by decide, by decide, rfl, rfl⟩)
    walk_at "rd"
    exact Hd.mk ⟨21, by decide, by decide, rfl, rfl⟩
end
def fn : List He.DefD := [⟨("is_whole", none), "is_whole", "is_whole", defArgs (top 5), defBody (top 5), defScope (top 5), [], []⟩,
  ⟨("_law_whole", none), "_law_whole", "_law_whole", defArgs (top 13), defBody (top 13), defScope (top 13), [], []⟩,
  ⟨("_law_cell_at", none), "_law_cell_at", "_law_cell_at", defArgs (top 14), defBody (top 14), defScope (top 14), [], []⟩,
  ⟨("asked_number", none), "asked_number", "asked_number", defArgs (top 6), defBody (top 6), defScope (top 6), [], []⟩,
  ⟨("level_of", none), "level_of", "level_of", defArgs (top 7), defBody (top 7), defScope (top 7), [], []⟩,
  ⟨("parted", none), "parted", "parted", defArgs (top 8), defBody (top 8), defScope (top 8), [], []⟩,
  ⟨("times", none), "times", "times", defArgs (top 10), defBody (top 10), defScope (top 10), [], []⟩,
  ⟨("product", none), "product", "product", defArgs (top 11), defBody (top 11), defScope (top 11), [], []⟩,
  ⟨("_law_products", none), "_law_products", "_law_products", defArgs (top 16), defBody (top 16), defScope (top 16), [], []⟩,
  ⟨("law", none), "law", "law", defArgs (top 17), defBody (top 17), defScope (top 17), [], []⟩]
def fa : List He.Fa := [.free "isinstance", .free "int", .free "bool", .free "len", .glo "is_whole", .free "max", .glo "level_of", .glo "parted", .glo "times", .int "BITS" 256, .glo "asked_number", .free "range", .glo "product", .glo "_law_cell_at", .glo "_law_products", .glo "_law_whole", .glo "law"]
theorem txt_mk {K : PySem.W.Frag} {h : Heap} {mg : Str → Option Value} (X : K.In h) (G : h.Ns mainGlobals mg) (c : He.SaysD fa fn K) : Txt K mg where
  n_isinstance := He.free_ok X G (c.fact 0 (f := .free "isinstance") rfl)
  n_int := He.free_ok X G (c.fact 1 (f := .free "int") rfl)
  n_bool := He.free_ok X G (c.fact 2 (f := .free "bool") rfl)
  n_len := He.free_ok X G (c.fact 3 (f := .free "len") rfl)
  g_is_whole := He.glo_ok X G (c.fact 4 (f := .glo "is_whole") rfl)
  n_max := He.free_ok X G (c.fact 5 (f := .free "max") rfl)
  g_level_of := He.glo_ok X G (c.fact 6 (f := .glo "level_of") rfl)
  g_parted := He.glo_ok X G (c.fact 7 (f := .glo "parted") rfl)
  g_times := He.glo_ok X G (c.fact 8 (f := .glo "times") rfl)
  c_BITS := He.int_ok X G (c.fact 9 (f := .int "BITS" 256) rfl)
  g_asked_number := He.glo_ok X G (c.fact 10 (f := .glo "asked_number") rfl)
  n_range := He.free_ok X G (c.fact 11 (f := .free "range") rfl)
  g_product := He.glo_ok X G (c.fact 12 (f := .glo "product") rfl)
  g__law_cell_at := He.glo_ok X G (c.fact 13 (f := .glo "_law_cell_at") rfl)
  g__law_products := He.glo_ok X G (c.fact 14 (f := .glo "_law_products") rfl)
  g__law_whole := He.glo_ok X G (c.fact 15 (f := .glo "_law_whole") rfl)
  g_law := He.glo_ok X G (c.fact 16 (f := .glo "law") rfl)
  f_is_whole := c.def_ 0 rfl
  f__law_whole := c.def_ 1 rfl
  f__law_cell_at := c.def_ 2 rfl
  f_asked_number := c.def_ 3 rfl
  f_level_of := c.def_ 4 rfl
  f_parted := c.def_ 5 rfl
  f_times := c.def_ 6 rfl
  f_product := c.def_ 7 rfl
  f__law_products := c.def_ 8 rfl
  f_law := c.def_ 9 rfl
abbrev R : PySem.W.OpenRow := PySem.W.OpenLaw.row PySem.Challenge.rw_nimhouse_k02_least_left
abbrev hk : PySem.W.Hook := He.hookD 5 fa fn
def ob (s : PySem.W.SharedT) : He.AlD := He.obsDG 5 fa fn (HandSHeadRun.getT s)
theorem ob_eq (s : PySem.W.SharedT) : ob s = hk.obs s.abs := He.obsDG_eq (HandSHeadRun.getT_eq s)
def names0 : List Str := ["HouseError", "NotANumber", "BITS", "is_whole", "asked_number", "level_of", "parted", "times", "product", "_law_whole", "_law_cell_at", "_law_number_by", "_law_products"]
def names : List Str := names0
theorem run (w : World) : HandSHeadRun.RunEq R (PySem.W.view R.prog [17]) hk ob 4000 names w := by
  intro os
  kernel_rfl
theorem facts {P : Program} {w : World} {K : PySem.W.Frag} {h : Heap} {mg : Str → Option Value} {f : Addr} (X : K.In h) (G : h.Ns mainGlobals mg) (hfa : mg ("law" : Str) = some (.ref f)) (c : He.SaysD fa fn K) :
    ∃ fd : FuncData, (∀ (s : Shared) (v : Value), BindsTo s fd ⟨[v], []⟩ [("_law_script", v)]) ∧ ∀ base : Heap, K.In base → base.Ns mainGlobals mg → FnOk P w K mg base CX0 14 f fd ["_law_script"] (few ["_law_script"] (spLaw K)) := by
  have T := txt_mk X G c
  have e := hfa.symm.trans T.g_law
  cases e
  obtain ⟨fd, F⟩ := T.f_law
  have b := FunD.bindsA (ps := ["_law_script"]) F fun _ _ _ _ _ _ us hl => match us, hl with | [_], _ => rfl
  refine ⟨fd, fun s v => b s [v] rfl, fun base _ _ => ?_⟩
  have d_is_whole := ok_is_whole (P := P) (w := w) (base := base) T 
  have d__law_whole := ok__law_whole (P := P) (w := w) (base := base) T 
  have d__law_cell_at := ok__law_cell_at (P := P) (w := w) (base := base) T 
  have d_asked_number := ok_asked_number (P := P) (w := w) (base := base) T d_is_whole
  have d_level_of := ok_level_of (P := P) (w := w) (base := base) T 
  have d_parted := ok_parted (P := P) (w := w) (base := base) T 
  have d_times := ok_times (P := P) (w := w) (base := base) T d_level_of d_parted 9
  have d_product := ok_product (P := P) (w := w) (base := base) T d_times d_asked_number
  have d__law_products := ok__law_products (P := P) (w := w) (base := base) T d_product
  have d_law := ok_law (P := P) (w := w) (base := base) T d__law_cell_at d__law_products d__law_whole d_product
  obtain ⟨fd', F', _, lk⟩ := d_law.ex
  have e := fd_eq F lk
  rw [e] at F'
  exact F'
end N
open PySem PySem.W PySem.Calls PyProof.Rows
theorem PySem.Challenge.cw_nimhouse_k02_least_left_holds : PySem.Challenge.rw_nimhouse_k02_least_left.Holds := by
  w_on; o_law
  refine HandSHeadRun.head_any (r := OpenLaw.row PySem.Challenge.rw_nimhouse_k02_least_left) (q := view (OpenLaw.row PySem.Challenge.rw_nimhouse_k02_least_left).prog [17]) (H := N.hk) (ob := N.ob) (M := 4000) (loose := N.names) (d := HandSHeadRun.topDef (OpenLaw.row PySem.Challenge.rw_nimhouse_k02_least_left).prog 17) (kwd := []) N.ob_eq
    (by kernel_rfl) (fun s => by kernel_rfl) N.run (by kernel_rfl) (by kernel_rfl) (by kernel_rfl) (by rfl) (by first | assumption | decide +kernel) (by decide +kernel) ⟨rfl, rfl, rfl, rfl, rfl, by decide +kernel⟩ ?hw ?hc
  case hw => w_witness2
  case hc =>
    refine N.walk_ofEB (l := PySem.Challenge.rw_nimhouse_k02_least_left) (n := 63) (k := 14) (x := "_law_script") (CX := L2.CX0) rfl (by decide) (by kernel_rfl) ⟨rfl, by decide, by decide⟩ ?F (fun _ _ _ _ z => z)
    intro w mg fa h Y G hmg0
    obtain ⟨K, KX, c⟩ := Y
    have hmg : mg ("law" : PySem.Str) = some (.ref fa) := by
      have e : (HandSHeadRun.topDef (OpenLaw.row PySem.Challenge.rw_nimhouse_k02_least_left).prog 17).name = ("law" : PySem.Str) := by kernel_rfl
      rw [← e]
      exact hmg0
    obtain ⟨fd, hb, hF⟩ := N.facts (P := (PySem.Challenge.rw_nimhouse_k02_least_left).prog) (w := w) KX G hmg c
    exact ⟨K, fd, _, KX, hb, fun H a ns hl hbt _ hS => ⟨rfl, a, ns, rfl, hS, hl, hbt, fun _ => rfl⟩, hF⟩
