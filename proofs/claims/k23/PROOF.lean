import PyProof.Rows.All
import Wide.All
import OpenK.AllK
import Wide.FinOn
import KE.KStateDown
import Lean
import HandS.ForMost
import HandS.ForExc
import HandS.More
import HandS.Defaults
import HandS.IsInst
import HandS.Wide
import HandS.WideBits
import HandS.EndBits
import HandS.Head0
import HandS.Head1
import HandS.Head2
import HandS.HeadEnd
import HandS.HeadHook1
import HandS.HeadHook2
import HandS.SortInts
import KE.KEqSeq
import PySem.Challenge.RW_nimhouse_k23_whole_field_agrees
set_option Elab.async false
set_option linter.all false
set_option maxRecDepth 100000
set_option maxHeartbeats 4000000
/-! Our own rules over the hand layer: defs by one datum, numbers as naturals, the end with the numbers' bits. -/
namespace N
open PySem PySem.Spec PyProof.Rows L2
/-! ### a def that keeps a promise -/
/-- the promise with the number of its arguments -/
def few (ps : List Str) (sp : Sp) : Sp := fun vs H Q E => vs.length = ps.length ∧ sp vs H Q E
structure Dn (P : Program) (w : World) (K : PySem.W.Frag) (mg : Str → Option Value) (base : Heap) (CX : CXT) (k : Nat) (f : Addr) (ps : List Str) (sp : Sp) : Prop where
  ex : ∃ fd, FnOk P w K mg base CX k f fd ps (few ps sp) ∧ Binds K fd ps [] ∧ ∃ oc od osl, K.lookup f = some ⟨oc, od, .func fd, osl⟩
  kp : PySem.W.keepIn K (.ref f) = true
section
variable {P : Program} {w : World} {K : PySem.W.Frag} {mg : Str → Option Value} {base : Heap} {CX : CXT} {x qual : Str} {params : Arguments} {body : List Stmt} {scope : Scope} {f : Addr} {fd : FuncData} {N ps : List Str} {k : Nat} {sp : Sp}
theorem dn_of (F : ∃ fd, FunD K x qual params body scope [] [] f fd) (S : FnScope N ps scope)
    (hb : ∀ (kV doc pm : Value) (an : Option Addr) (cdv ct : Value) (us : List Value), us.length = ps.length → bindArgs (PySem.W.fnOf x qual params body scope .none kV doc pm an cdv ct) ⟨us, []⟩ = pure (ps.zip us))
    (hbody : ∀ (cdv : Value) (A : Around) (outer : List Env) (s : Shared) (H : Hp) (vs : List V) (Q : VK) (E : XK), Room k (A.deeper (envOfC qual scope s.heap.objs.size f cdv)) → sp vs H Q E →
      ∃ t, PSs (cxOf CX P w K mg base N qual scope f cdv A outer s H E) body t ∧ t { nx := fun _ H' => Q .non H', rt := Q } (start N vs) H) : Dn P w K mg base CX (k + 1) f ps sp := by
  obtain ⟨fd, F⟩ := F
  refine ⟨⟨fd, F.ok S (fun vs H Q E h => h.1) (fun cdv A outer s H vs Q E hr h => hbody cdv A outer s H vs Q E hr h.2), F.bindsN hb, ?_⟩, F.kp⟩
  obtain ⟨oc, od, dV, kV, doc, pm, an, cdv, ct, osl, _, lk, _⟩ := F.ex
  exact ⟨oc, od, osl, lk⟩
theorem fd_eq {dvs : List V} {kws : List (Str × V)} {fd' : FuncData} (F : FunD K x qual params body scope dvs kws f fd) (h : ∃ oc od osl, K.lookup f = some ⟨oc, od, .func fd', osl⟩) : fd' = fd := by
  obtain ⟨oc, od, dV, kV, doc, pm, an, cdv, ct, osl, _, lk, _⟩ := F.ex
  obtain ⟨oc', od', osl', h⟩ := h
  rw [lk] at h
  injection h with h
  injection h with h1 h2 h3 h4
  injection h3 with h3
  exact h3.symm
/-- a def that calls itself: the n-th promise leans on the one ahead of it -/
def recSp (sp : Nat → Sp) : Nat → Sp
  | 0 => fun _ _ _ _ => False
  | n + 1 => sp n
theorem rec_dn {sp : Nat → Sp} {c : Nat} (F : ∃ fd, FunD K x qual params body scope [] [] f fd)
    (hb : ∀ (kV doc pm : Value) (an : Option Addr) (cdv ct : Value) (us : List Value), us.length = ps.length → bindArgs (PySem.W.fnOf x qual params body scope .none kV doc pm an cdv ct) ⟨us, []⟩ = pure (ps.zip us))
    (h : ∀ n, Dn P w K mg base CX (n + c) f ps (recSp sp n) → Dn P w K mg base CX (n + c + 1) f ps (sp n)) : ∀ n, Dn P w K mg base CX (n + c) f ps (recSp sp n)
  | 0 => by
    obtain ⟨fd, F⟩ := F
    refine ⟨⟨fd, ⟨fun vs H Q E h => h.1, fun A outer s H args us vs Q E hr he hb hv hs => hs.2.elim⟩, F.bindsN hb, ?_⟩, F.kp⟩
    obtain ⟨oc, od, dV, kV, doc, pm, an, cdv, ct, osl, _, lk, _⟩ := F.ex
    exact ⟨oc, od, osl, lk⟩
  | n + 1 => by
    have e : n + 1 + c = n + c + 1 := by omega
    rw [e]
    exact h n (rec_dn F hb h n)
theorem Dn.mono {j : Nat} (D : Dn P w K mg base CX j f ps sp) (h : j ≤ k) : Dn P w K mg base CX k f ps sp := by
  obtain ⟨fd, F, b⟩ := D.ex
  exact ⟨⟨fd, F.mono h, b⟩, D.kp⟩
theorem Dn.imp {sp' : Sp} (D : Dn P w K mg base CX k f ps sp) (h : ∀ vs H Q E, sp' vs H Q E → sp vs H Q E) : Dn P w K mg base CX k f ps sp' := by
  obtain ⟨fd, F, b⟩ := D.ex
  exact ⟨⟨fd, F.imp fun vs H Q E q => ⟨q.1, h vs H Q E q.2⟩, b⟩, D.kp⟩
/-- a def that may raise, where it does not -/
theorem Dn.calm (D : Dn P w K mg base (L2.CX P w) k f ps sp) : Dn P w K mg base CX0 k f ps fun vs H Q _ => sp vs H Q E0 := by
  obtain ⟨fd, F, b⟩ := D.ex
  refine ⟨⟨fd, ⟨fun vs H Q E q => q.1, fun A outer s H args us vs Q E hr he hb hv hs => ?_⟩, b⟩, D.kp⟩
  refine codeAny_mono (F.run A outer s H args us vs Q E0 hr he hb hv hs) fun r s' hq => ?_
  cases r with
  | error e =>
    obtain ⟨_, _, _, _, _, _, _, _, _, _, _, _, h⟩ := hq
    exact h.elim
  | ok fl => cases fl <;> exact hq
end
section
variable {X : Cx} {CX : CXT} {k : Nat} {f C : Addr} {ps : List Str} {sp : Sp} {E : XK} {x m : Str} {p pos apos : Pos} {e o : Expr} {es : List Expr} {ta : TE} {t : TA}
/-- f(..) -/
def tCl (ps : List Str) (sp : Sp) (E : XK) (t : TA) : TE := fun σ H Q => t σ H fun vs H1 => few ps sp vs H1 Q E
theorem pe_cl (D : Dn X.prog X.w X.K X.mg X.base CX k f ps sp) (hr : Room k X.A) (hm : X.mg x = some (.ref f)) (hx : Passes CX X E) (ha : PA X (e :: es) t) (hg : Gl X x := by rfl)
    (hdb : (x == ("__debug__" : Str)) = false := by decide) (he : starEach (e :: es) X.env = (false, eval e X.env) :: starEach es X.env := by rfl) (hpl : (backTo pos (starEach es X.env)).any (·.1) = false := by rfl) :
    PE X (.Call (.Name x p) (e :: es) [] pos) (tCl ps sp E t) := by
  obtain ⟨fd, F, b, _⟩ := D.ex
  have h := pe_call (p := p) (ds := []) (dvs := []) F hr hg hm D.kp b .nil hx ha hdb he hpl
  refine ⟨fun pins s σ H Q I q => h.run pins s σ H Q I ?_⟩
  have e2 : tCall (few ps sp) [] E t = tCl ps sp E t := by
    funext σ H Q
    unfold tCall tCl
    simp only [List.append_nil]
  rw [e2]
  exact q
theorem pe_cl0 (D : Dn X.prog X.w X.K X.mg X.base CX k f ps sp) (hr : Room k X.A) (hm : X.mg x = some (.ref f)) (hx : Passes CX X E) (hg : Gl X x := by rfl)
    (hdb : (x == ("__debug__" : Str)) = false := by decide) : PE X (.Call (.Name x p) [] [] pos) (tCl ps sp E tNil) := by
  obtain ⟨fd, F, b, _⟩ := D.ex
  exact pe_call0 (ds := []) (dvs := []) F hr hg hm D.kp b .nil hx hdb
end
/-! ### numbers as naturals -/
section
variable {X : Cx}
theorem pe_nat (n : Nat) {j : Nat} {pos : Pos} : PE X (.Constant (.int (n : Int)) j pos) (tC (.int (n : Int))) := pe_int
/-- a module's number -/
theorem pe_gint {x : Str} {i : Int} {pos : Pos} (h : ∃ t, X.mg x = some (.int i t)) (hg : Gl X x := by rfl) (hd : (x == ("__debug__" : Str)) = false := by decide) : PE X (.Name x pos) (tC (.int i)) := by
  obtain ⟨t, h⟩ := h
  exact pe_glob hg h ⟨t, rfl⟩ hd
theorem pe_gnat {x : Str} {n : Nat} {pos : Pos} (h : ∃ t, X.mg x = some (.int (n : Int) t)) (hg : Gl X x := by rfl) (hd : (x == ("__debug__" : Str)) = false := by decide) : PE X (.Name x pos) (tC (.int (n : Int))) := pe_gint h hg hd
/-- two naturals -/
def rN (C : Nat → Nat → Prop) (g : Nat → Nat → V) : R2 := fun x y H Q => ∃ n m : Nat, x = .int (n : Int) ∧ y = .int (m : Int) ∧ C n m ∧ Q (g n m) H
def rN0 (g : Nat → Nat → V) : R2 := fun x y H Q => ∃ n m : Nat, x = .int (n : Int) ∧ y = .int (m : Int) ∧ Q (g n m) H
theorem opN {f : Value → Value → Sem Value} {C : Int → Int → Prop} {g : Int → Int → V} (h : OpR X f (rI C g)) {C' : Nat → Nat → Prop} {g' : Nat → Nat → V} (hc : ∀ n m : Nat, C' n m → C n m) (e : ∀ n m : Nat, C' n m → g n m = g' n m) : OpR X f (rN C' g') := by
  intro pins s σ H x y v u Q I rx ry q
  obtain ⟨n, m, rfl, rfl, c, q⟩ := q
  rw [← e n m c] at q
  exact h pins s σ H _ _ v u Q I rx ry ⟨_, _, rfl, rfl, hc n m c, q⟩
theorem opN0 {f : Value → Value → Sem Value} {g : Int → Int → V} (h : OpR X f (rI0 g)) {g' : Nat → Nat → V} (e : ∀ n m : Nat, g n m = g' n m) : OpR X f (rN0 g') := by
  intro pins s σ H x y v u Q I rx ry q
  obtain ⟨n, m, rfl, rfl, q⟩ := q
  rw [← e n m] at q
  exact h pins s σ H _ _ v u Q I rx ry ⟨_, _, rfl, rfl, q⟩
theorem op_addn : OpR X (binaryOp .Add) (rN0 fun n m => .int ((n + m : Nat) : Int)) := opN0 op_add fun n m => by rw [Int.natCast_add]
theorem op_subn : OpR X (binaryOp .Sub) (rN (fun n m => m ≤ n) fun n m => .int ((n - m : Nat) : Int)) := by
  intro pins s σ H x y v u Q I rx ry q
  obtain ⟨n, m, rfl, rfl, c, q⟩ := q
  have q : Q (V.int ((n - m : Nat) : Int)) H := q
  rw [Int.ofNat_sub c] at q
  exact op_sub pins s σ H _ _ v u Q I rx ry ⟨_, _, rfl, rfl, q⟩
/-- one factor below 2 ^ 64 -/
theorem op_muln : OpR X (binaryOp .Mult) (rN (fun n m => n < 2 ^ 64 ∨ m < 2 ^ 64) fun n m => .int ((n * m : Nat) : Int)) := opN op_mul (fun n m c => by
  have e : (2 : Int) ^ 64 = 18446744073709551616 := by decide
  have e' : (2 : Nat) ^ 64 = 18446744073709551616 := by decide
  unfold CMul
  rw [e]
  rw [e'] at c
  omega) fun n m _ => by rw [Int.natCast_mul]
/-- great factors -/
theorem op_mulnX : OpR X (binaryOp .Mult) (rN (fun n m => ∃ a b, n < 2 ^ a ∧ m < 2 ^ b ∧ a + b ≤ 134217728) fun n m => .int ((n * m : Nat) : Int)) := opN op_mulX (fun n m ⟨a, b, h1, h2, h3⟩ => mulx_ok (by simpa using h1) (by simpa using h2) h3) fun n m _ => by rw [Int.natCast_mul]
theorem op_xorn : OpR X (binaryOp .BitXor) (rN0 fun n m => .int ((n ^^^ m : Nat) : Int)) := opN0 op_xor fun n m => by rw [Bits.bitXor_pp (by omega) (by omega)]; rfl
theorem op_orn : OpR X (binaryOp .BitOr) (rN0 fun n m => .int ((n ||| m : Nat) : Int)) := opN0 op_or fun n m => by rw [Bits.bitOr_pp (by omega) (by omega)]; rfl
theorem op_andn : OpR X (binaryOp .BitAnd) (rN0 fun n m => .int ((n &&& m : Nat) : Int)) := opN0 op_and fun n m => by rw [bitAnd_pp (by omega) (by omega)]; rfl
/-- n << m: n below 2 ^ a, a + m at most 2 ^ 27 -/
theorem op_shln : OpR X (binaryOp .LShift) (rN (fun n m => ∃ a, n < 2 ^ a ∧ a + m ≤ 134217728) fun n m => .int ((n * 2 ^ m : Nat) : Int)) := opN op_shlW (fun n m ⟨a, h1, h2⟩ => shl_ok (by simpa using h1) h2) fun n m _ => by rw [Int.toNat_natCast, Int.natCast_mul, Int.natCast_pow]; rfl
theorem op_shrn : OpR X (binaryOp .RShift) (rN0 fun n m => .int ((n / 2 ^ m : Nat) : Int)) := by
  intro pins s σ H x y v u Q I rx ry q
  obtain ⟨n, m, rfl, rfl, q⟩ := q
  refine op_shr pins s σ H _ _ v u Q I rx ry ⟨_, _, rfl, rfl, Int.natCast_nonneg _, ?_⟩
  have q : Q (V.int ((n / 2 ^ m : Nat) : Int)) H := q
  rw [Int.natCast_ediv, Int.natCast_pow] at q
  show Q (V.int ((n : Int) / 2 ^ (m : Int).toNat)) H
  rw [Int.toNat_natCast]
  exact q
theorem op_modn : OpR X (binaryOp .Mod) (rN (fun _ m => 0 < m) fun n m => .int ((n % m : Nat) : Int)) := opN op_mod (fun n m c => by omega) fun n m _ => by rw [Int.natCast_emod]
theorem op_fdivn : OpR X (binaryOp .FloorDiv) (rN (fun _ m => 0 < m ∧ m < 1073741824) fun n m => .int ((n / m : Nat) : Int)) := opN op_fdiv (fun n m c => ⟨by omega, by omega⟩) fun n m _ => by rw [Int.natCast_ediv]
theorem dec_cast {p q : Prop} [Decidable p] [Decidable q] (h : p ↔ q) : decide p = decide q := decide_eq_decide.mpr h
theorem op_ltn : OpR X (compareOp .Lt) (rN0 fun n m => .bl (decide (n < m))) := opN0 op_lt fun n m => congrArg V.bl (dec_cast (by omega))
theorem op_len : OpR X (compareOp .LtE) (rN0 fun n m => .bl (decide (n ≤ m))) := opN0 op_le fun n m => congrArg V.bl (dec_cast (by omega))
theorem op_gtn : OpR X (compareOp .Gt) (rN0 fun n m => .bl (decide (m < n))) := opN0 op_gt fun n m => congrArg V.bl (dec_cast (by omega))
theorem op_gen : OpR X (compareOp .GtE) (rN0 fun n m => .bl (decide (m ≤ n))) := opN0 op_ge fun n m => congrArg V.bl (dec_cast (by omega))
theorem v_eq {n m : Nat} : (V.int (n : Int) = V.int (m : Int)) ↔ n = m := ⟨fun h => by injection h with h; omega, fun h => by rw [h]⟩
theorem op_eqn : OpR X (compareOp .Eq) (rN0 fun n m => .bl (decide (n = m))) := by
  intro pins s σ H x y v u Q I rx ry q
  obtain ⟨n, m, rfl, rfl, q⟩ := q
  refine op_eq pins s σ H _ _ v u Q I rx ry ⟨rfl, ?_⟩
  rw [dec_cast v_eq]
  exact q
theorem op_nen : OpR X (compareOp .NotEq) (rN0 fun n m => .bl (!decide (n = m))) := by
  intro pins s σ H x y v u Q I rx ry q
  obtain ⟨n, m, rfl, rfl, q⟩ := q
  refine op_ne pins s σ H _ _ v u Q I rx ry ⟨rfl, ?_⟩
  rw [dec_cast v_eq]
  exact q
/-- ints -/
theorem op_eqi : OpR X (compareOp .Eq) (rI0 fun i j => .bl (decide (i = j))) := by
  intro pins s σ H x y v u Q I rx ry q
  obtain ⟨n, m, rfl, rfl, q⟩ := q
  refine op_eq pins s σ H _ _ v u Q I rx ry ⟨rfl, ?_⟩
  rw [dec_cast (q := n = m) ⟨fun h => by injection h, fun h => by rw [h]⟩]
  exact q
theorem op_nei : OpR X (compareOp .NotEq) (rI0 fun i j => .bl (!decide (i = j))) := by
  intro pins s σ H x y v u Q I rx ry q
  obtain ⟨n, m, rfl, rfl, q⟩ := q
  refine op_ne pins s σ H _ _ v u Q I rx ry ⟨rfl, ?_⟩
  rw [dec_cast (q := n = m) ⟨fun h => by injection h, fun h => by rw [h]⟩]
  exact q
theorem call_maxn (hc : X.calm = true) : CallR X (.builtin "max") (fun xs H Q => ∃ n m : Nat, xs = [.int (n : Int), .int (m : Int)] ∧ Q (.int ((max n m : Nat) : Int)) H) := by
  intro pins s σ H xs us Q I r h
  obtain ⟨n, m, rfl, q⟩ := h
  refine call_max2 hc pins s σ H _ us Q I r ⟨_, _, rfl, ?_⟩
  have e : (if (m : Int) > (n : Int) then (m : Int) else (n : Int)) = ((max n m : Nat) : Int) := by
    split <;> omega
  rw [e]
  exact q
theorem call_minn (hc : X.calm = true) : CallR X (.builtin "min") (fun xs H Q => ∃ n m : Nat, xs = [.int (n : Int), .int (m : Int)] ∧ Q (.int ((min n m : Nat) : Int)) H) := by
  intro pins s σ H xs us Q I r h
  obtain ⟨n, m, rfl, q⟩ := h
  refine call_min2 hc pins s σ H _ us Q I r ⟨_, _, rfl, ?_⟩
  have e : (if (m : Int) < (n : Int) then (m : Int) else (n : Int)) = ((min n m : Nat) : Int) := by
    split <;> omega
  rw [e]
  exact q
end
/-- a state's sentence, not to be looked into by the readings -/
@[irreducible] def Hd (p : Prop) : Prop := p
theorem Hd.mk {p : Prop} (h : p) : Hd p := by unfold Hd; exact h
theorem Hd.out {p : Prop} (h : Hd p) : p := by unfold Hd at h; exact h
/-! ### cuts: what holds behind a statement, a test, an expression, once for all its ways -/
section
variable {X : Cx}
def tCut (t : TS) : TS := fun D σ H => ∃ M : L2.St → Hp → Prop, (∀ σ' H', M σ' H' → D.nx σ' H') ∧ t { nx := M, rt := D.rt, bk := D.bk, ct := D.ct } σ H
theorem ps_cut {st : Stmt} {t : TS} (h : PS X st t) : PS X st (tCut t) := ⟨fun pins s σ H D I ⟨M, hM, q⟩ => thn (h.run pins s σ H _ I q) fun f s' z => by
  cases f with
  | next =>
    obtain ⟨σ', H', I', q'⟩ := z
    exact ⟨σ', H', I', hM _ _ q'⟩
  | brk => exact z
  | cont => exact z
  | ret u => exact z⟩
def tCutT (t : TT) : TT := fun σ H Q => ∃ M : Bool → Hp → Prop, (∀ b H', M b H' → Q b H') ∧ t σ H M
theorem pt_cut {e : Expr} {t : TT} (h : PT X e t) : PT X e (tCutT t) := ⟨fun pins s σ H Q I ⟨M, hM, q⟩ => thn (h.run pins s σ H _ I q) fun b s' ⟨H', I', q'⟩ => ⟨H', I', hM _ _ q'⟩⟩
def tCutE (t : TE) : TE := fun σ H Q => ∃ M : V → Hp → Prop, (∀ v H', M v H' → Q v H') ∧ t σ H M
theorem pe_cut {e : Expr} {t : TE} (h : PE X e t) : PE X e (tCutE t) := ⟨fun pins s σ H Q I ⟨M, hM, q⟩ => thn (h.run pins s σ H _ I q) fun u s' ⟨v, H', I', r, q'⟩ => ⟨v, H', I', r, hM _ _ q'⟩⟩
end
/-! ### tests, loops -/
theorem while_m {c : TT} {tb : TS} {D : Ends} {σ : L2.St} {H : Hp} (W : Nat → L2.St → Hp → Prop) (m : Nat) (h0 : W m σ H)
    (hs : ∀ m σ H, W m σ H → c σ H fun b H1 => if b = true then ∃ N : L2.St → Hp → Prop, (∀ σ' H', N σ' H' → ∃ m', m' < m ∧ W m' σ' H') ∧ tb { D with nx := N, ct := N, bk := D.nx } σ H1 else D.nx σ H1) : tWhile c tb D σ H := ⟨W, ⟨m, h0⟩, hs⟩
theorem ifN {c : Prop} [Decidable c] {A B : Prop} (h1 : c → A) (h2 : ¬ c → B) : if decide c = true then A else B := by
  by_cases h : c
  · rw [if_pos (decide_eq_true h)]; exact h1 h
  · rw [if_neg (by rw [decide_eq_false h]; exact Bool.false_ne_true)]; exact h2 h
theorem ifNn {c : Prop} [Decidable c] {A B : Prop} (h1 : ¬ c → A) (h2 : c → B) : if (!decide c) = true then A else B := by
  by_cases h : c
  · rw [if_neg (by rw [decide_eq_true h]; exact Bool.false_ne_true)]; exact h2 h
  · rw [if_pos (by rw [decide_eq_false h]; rfl)]; exact h1 h
theorem ifB {b : Bool} {A B : Prop} (h1 : b = true → A) (h2 : b = false → B) : if b = true then A else B := by
  cases b
  · rw [if_neg Bool.false_ne_true]; exact h2 rfl
  · rw [if_pos rfl]; exact h1 rfl
/-- the plain readings, one behind another -/
local macro_rules | `(tactic| walk_at "rd") => `(tactic| repeat (first
  | (refine ⟨_, rfl, ?_⟩)
  | (refine ⟨_, _, rfl, rfl, ?_⟩)
  | (refine ⟨rfl, ?_⟩)
  | (refine ⟨(by decide : (0 : Int) < _), ?_⟩)
  | (refine ⟨(⟨by decide, by decide⟩ : CDiv _ _), ?_⟩)
  | (refine ⟨(Or.inr ⟨by decide, by decide⟩ : CMul _ _), ?_⟩)
  | (refine ⟨(Or.inl ⟨by decide, by decide⟩ : CMul _ _), ?_⟩)))
/-! ranges from a natural on -/
theorem for_rangeN {n : Nat} {g : TG} {tb : TS} {D : Ends} {σ : L2.St} {H : Hp} (Pv : Nat → L2.St → Hp → Prop) (h0 : Pv 0 σ H)
    (hs : ∀ i σ H, i < n → Pv i σ H → g (.int (i : Int)) σ H fun σ2 H2 => tb { nx := Pv (i + 1), rt := D.rt, bk := D.nx, ct := Pv (i + 1) } σ2 H2) (hd : ∀ σ H, Pv n σ H → D.nx σ H) :
    ∃ W : Nat → Nat → L2.St → Hp → Prop, (∃ m, W 0 m σ H) ∧ ∀ i m σ H, W i m σ H →
      ((Itr 0 n).stop i H ∧ D.nx σ H) ∨ ((Itr 0 n).go i H ∧ ∃ N : L2.St → Hp → Prop, (∀ σ' H', N σ' H' → ∃ m', m' < m ∧ W (i + 1) m' σ' H') ∧ ∀ x H', (Itr 0 n).yld i H x H' → g x σ H' fun σ2 H2 => tb { D with nx := N, ct := N, bk := D.nx } σ2 H2) :=
  for_range (lo := 0) Pv h0 (fun i σ H hi h => by rw [Int.zero_add]; exact hs i σ H hi h) hd
theorem for_rangeM {lo n : Nat} {g : TG} {tb : TS} {D : Ends} {σ : L2.St} {H : Hp} (Pv : Nat → L2.St → Hp → Prop) (h0 : Pv 0 σ H)
    (hs : ∀ i σ H, i < n → Pv i σ H → g (.int ((lo + i : Nat) : Int)) σ H fun σ2 H2 => tb { nx := Pv (i + 1), rt := D.rt, bk := D.nx, ct := Pv (i + 1) } σ2 H2) (hd : ∀ σ H, Pv n σ H → D.nx σ H) :
    ∃ W : Nat → Nat → L2.St → Hp → Prop, (∃ m, W 0 m σ H) ∧ ∀ i m σ H, W i m σ H →
      ((Itr lo n).stop i H ∧ D.nx σ H) ∨ ((Itr lo n).go i H ∧ ∃ N : L2.St → Hp → Prop, (∀ σ' H', N σ' H' → ∃ m', m' < m ∧ W (i + 1) m' σ' H') ∧ ∀ x H', (Itr lo n).yld i H x H' → g x σ H' fun σ2 H2 => tb { D with nx := N, ct := N, bk := D.nx } σ2 H2) :=
  for_range (lo := (lo : Int)) Pv h0 (fun i σ H hi h => by rw [← Int.natCast_add]; exact hs i σ H hi h) hd
theorem lc_rangeN {n : Nat} {g : TG} {tt : TT} {te : TE} {vs : List Nat} {σ : L2.St} {H1 : Hp} {D : Addr} {Qd : Hp → Prop} (Pv : Nat → Hp → Prop) (h0 : Pv 0 (upd H1 D (.lst [])))
    (hs : ∀ i H, i < n → Pv i H → g (.int (i : Int)) (wipe σ vs) H fun σ2 H2 => wipe σ2 vs = wipe σ vs ∧ tt σ2 H2 fun b H3 =>
      if b = true then te σ2 H3 fun y H4 => ∃ acc, H4 D = some (.lst acc) ∧ acc.length < sizeLine ∧ Pv (i + 1) (upd H4 D (.lst (acc ++ [y]))) else Pv (i + 1) H3) (hd : ∀ H, Pv n H → Qd H) :
    ∃ W : Nat → Nat → Hp → Prop, (∃ m, W 0 m (upd H1 D (.lst []))) ∧ ∀ i m H, W i m H →
      ((Itr 0 n).stop i H ∧ Qd H) ∨ ((Itr 0 n).go i H ∧ ∃ Nx : Hp → Prop, (∀ H', Nx H' → ∃ m', m' < m ∧ W (i + 1) m' H') ∧ ∀ x H', (Itr 0 n).yld i H x H' → g x (wipe σ vs) H' fun σ2 H2 => wipe σ2 vs = wipe σ vs ∧ tt σ2 H2 fun b H3 =>
        if b = true then te σ2 H3 fun y H4 => ∃ acc, H4 D = some (.lst acc) ∧ acc.length < sizeLine ∧ Nx (upd H4 D (.lst (acc ++ [y]))) else Nx H3) :=
  lc_range (lo := 0) Pv h0 (fun i H hi h => by rw [Int.zero_add]; exact hs i H hi h) hd
theorem lc_rangeM {lo n : Nat} {g : TG} {tt : TT} {te : TE} {vs : List Nat} {σ : L2.St} {H1 : Hp} {D : Addr} {Qd : Hp → Prop} (Pv : Nat → Hp → Prop) (h0 : Pv 0 (upd H1 D (.lst [])))
    (hs : ∀ i H, i < n → Pv i H → g (.int ((lo + i : Nat) : Int)) (wipe σ vs) H fun σ2 H2 => wipe σ2 vs = wipe σ vs ∧ tt σ2 H2 fun b H3 =>
      if b = true then te σ2 H3 fun y H4 => ∃ acc, H4 D = some (.lst acc) ∧ acc.length < sizeLine ∧ Pv (i + 1) (upd H4 D (.lst (acc ++ [y]))) else Pv (i + 1) H3) (hd : ∀ H, Pv n H → Qd H) :
    ∃ W : Nat → Nat → Hp → Prop, (∃ m, W 0 m (upd H1 D (.lst []))) ∧ ∀ i m H, W i m H →
      ((Itr lo n).stop i H ∧ Qd H) ∨ ((Itr lo n).go i H ∧ ∃ Nx : Hp → Prop, (∀ H', Nx H' → ∃ m', m' < m ∧ W (i + 1) m' H') ∧ ∀ x H', (Itr lo n).yld i H x H' → g x (wipe σ vs) H' fun σ2 H2 => wipe σ2 vs = wipe σ vs ∧ tt σ2 H2 fun b H3 =>
        if b = true then te σ2 H3 fun y H4 => ∃ acc, H4 D = some (.lst acc) ∧ acc.length < sizeLine ∧ Nx (upd H4 D (.lst (acc ++ [y]))) else Nx H3) :=
  lc_range (lo := (lo : Int)) Pv h0 (fun i H hi h => by rw [← Int.natCast_add]; exact hs i H hi h) hd
theorem Same.upd {H : Hp} {p : Addr} {o : HO} (hp : H p = none) : Same H (upd H p o) := fun a u e => by
  rw [upd_ne (ne_of_none e hp)]
  exact e
theorem ret_dec {p : Prop} [Decidable p] {Q : VK} {H : Hp} (hp : p) (q : Q (.bl true) H) : Q (.bl (decide p)) H := by
  rw [decide_eq_true hp]
  exact q
/-! ### the law's end, with the numbers' bits -/
theorem walk_ofEB {l : PySem.W.OpenLaw} {n k : Nat} {q : Program} {loose : List Str} {XP : (Str → Option Value) → Heap → Prop} {YP : World → Heap → Prop} {d : DefRec} {CX : CXT} {x : Str}
    (hn : l.most = some n) (hn2 : n ≤ sizeLine) (hdf : d.params.defaults = []) (hr : Room k callerA)
    (F : ∀ (w : World) (mg : Str → Option Value) (fa : Addr) (h : Heap), YP w h → h.Ns mainGlobals mg → mg d.name = some (.ref fa) →
      ∃ (K : PySem.W.Frag) (fd : FuncData) (sp : Sp), K.In h ∧ (∀ (s : Shared) (u : Value), BindsTo s fd ⟨[u], []⟩ [(x, u)]) ∧
        (∀ (H : Hp) (a : Addr) (ns : List Int), ns.length ≤ n → (∀ z ∈ ns, Builtin.Int.intBits z ≤ 1048576) → Only H → SqL K H a (ns.map V.int) → sp [.ref a] H (fun v _ => v = .bl true) fun _ _ _ => False) ∧
        ∀ base : Heap, K.In base → base.Ns mainGlobals mg → FnOk l.prog w K mg base CX k fa fd [x] sp)
    (hCX : ∀ (H : Hp) (s : Shared) (e : Value) (s' : Shared), CX [] H s (fun _ _ _ => False) e s' → False) :
    PySem.W.WalkO q loose XP YP l.row.toRowW d [] (fun f vs => PySem.call f vs) := by
  refine Att.attach_callB hn hdf fun w s₀ s₁ mg mb fa o pm cd doc a vs ns G Y ho hd hcd hmg hobj hints hlen hbits hg => ?_
  obtain ⟨K, fd, sp, KX, hb, hsp, hF⟩ := F w mg fa _ Y G.T.g hmg
  exact law_call KX G.T.g G.T.b G.T.builtins G.T.nolimit hg hobj hints (Nat.le_trans hlen hn2) hr hF hb (fun H hO hS => hsp H a ns hlen hbits hO hS) fun H e s' => hCX H s₁ e s'
/-- the law's promise: a list of at most 63 ints, each of at most 2 ^ 20 bits -/
def spLaw (K : PySem.W.Frag) : Sp := fun vs H Q _ => ∃ (a : Addr) (ns : List Int), vs = [.ref a] ∧ SqL K H a (ns.map V.int) ∧ ns.length ≤ 63 ∧ (∀ z ∈ ns, Builtin.Int.intBits z ≤ 1048576) ∧ ∀ H', Q (.bl true) H'
/-- the law's def: what the end asks of it -/
structure LawOk (l : PySem.W.OpenLaw) (w : World) (K : PySem.W.Frag) (mg : Str → Option Value) (k : Nat) (f : Addr) (x : Str) (fd : FuncData) : Prop where
  bind : ∀ (s : Shared) (u : Value), BindsTo s fd ⟨[u], []⟩ [(x, u)]
  run : ∀ base : Heap, K.In base → base.Ns mainGlobals mg → FnOk l.prog w K mg base CX0 k f fd [x] (few [x] (spLaw K))
end N
set_option linter.all false
/-! Nim numbers: the tower of fields F n (pairs over pairs), its ring laws, inverses, roots, and the same on naturals. Plain Lean. -/
namespace Nim
/-- numbers below 2 ^ 2 ^ n, as halves of halves -/
def F : Nat → Type
  | 0 => Bool
  | n + 1 => F n × F n
def zero : (n : Nat) → F n
  | 0 => false
  | n + 1 => (zero n, zero n)
def one : (n : Nat) → F n
  | 0 => true
  | n + 1 => (zero n, one n)
/-- the number with the highest bit alone -/
def cst : (n : Nat) → F n
  | 0 => true
  | n + 1 => (cst n, zero n)
def add : (n : Nat) → F n → F n → F n
  | 0, a, b => Bool.xor a b
  | n + 1, a, b => (add n a.1 b.1, add n a.2 b.2)
def mul : (n : Nat) → F n → F n → F n
  | 0, a, b => Bool.and a b
  | n + 1, a, b => (add n (mul n a.1 b.1) (add n (mul n a.1 b.2) (mul n a.2 b.1)), add n (mul n a.2 b.2) (mul n (mul n a.1 b.1) (cst n)))
theorem add_comm : ∀ n (a b : F n), add n a b = add n b a
  | 0, a, b => Bool.xor_comm a b
  | n + 1, a, b => Prod.ext (add_comm n _ _) (add_comm n _ _)
theorem add_assoc : ∀ n (a b c : F n), add n (add n a b) c = add n a (add n b c)
  | 0, a, b, c => Bool.xor_assoc a b c
  | n + 1, a, b, c => Prod.ext (add_assoc n _ _ _) (add_assoc n _ _ _)
theorem add_self : ∀ n (a : F n), add n a a = zero n
  | 0, a => Bool.xor_self a
  | n + 1, a => Prod.ext (add_self n _) (add_self n _)
theorem zero_add : ∀ n (a : F n), add n (zero n) a = a
  | 0, a => Bool.false_xor a
  | n + 1, a => Prod.ext (zero_add n _) (zero_add n _)
theorem add_zero (n) (a : F n) : add n a (zero n) = a := by rw [add_comm, zero_add]
theorem add_left_comm (n) (a b c : F n) : add n a (add n b c) = add n b (add n a c) := by
  rw [← add_assoc, add_comm n a b, add_assoc]
theorem add_cancel (n) (a b : F n) : add n a (add n a b) = b := by
  rw [← add_assoc, add_self, zero_add]
theorem add_eq_zero {n} {a b : F n} (h : add n a b = zero n) : a = b := by
  have e := congrArg (add n a) h
  rw [add_cancel, add_zero] at e
  exact e.symm
instance (n) : Std.Associative (add n) := ⟨add_assoc n⟩
instance (n) : Std.Commutative (add n) := ⟨add_comm n⟩
theorem mul_comm : ∀ n (a b : F n), mul n a b = mul n b a
  | 0, a, b => Bool.and_comm a b
  | n + 1, a, b => by
    refine Prod.ext ?_ ?_
    · show add n (mul n a.1 b.1) (add n (mul n a.1 b.2) (mul n a.2 b.1)) = add n (mul n b.1 a.1) (add n (mul n b.1 a.2) (mul n b.2 a.1))
      rw [mul_comm n b.1 a.1, mul_comm n b.1 a.2, mul_comm n b.2 a.1, add_comm n (mul n a.2 b.1)]
    · show add n (mul n a.2 b.2) (mul n (mul n a.1 b.1) (cst n)) = add n (mul n b.2 a.2) (mul n (mul n b.1 a.1) (cst n))
      rw [mul_comm n b.1 a.1, mul_comm n b.2 a.2]
theorem mul_add : ∀ n (a b c : F n), mul n a (add n b c) = add n (mul n a b) (mul n a c)
  | 0, a, b, c => by cases a <;> cases b <;> cases c <;> rfl
  | n + 1, a, b, c => by
    have ih := mul_add n
    have ih2 : ∀ a b c : F n, mul n (add n b c) a = add n (mul n b a) (mul n c a) := fun a b c => by rw [mul_comm, ih, mul_comm n a b, mul_comm n a c]
    refine Prod.ext ?_ ?_
    · show add n (mul n a.1 (add n b.1 c.1)) (add n (mul n a.1 (add n b.2 c.2)) (mul n a.2 (add n b.1 c.1))) = add n (add n (mul n a.1 b.1) (add n (mul n a.1 b.2) (mul n a.2 b.1))) (add n (mul n a.1 c.1) (add n (mul n a.1 c.2) (mul n a.2 c.1)))
      rw [ih, ih, ih]
      ac_rfl
    · show add n (mul n a.2 (add n b.2 c.2)) (mul n (mul n a.1 (add n b.1 c.1)) (cst n)) = add n (add n (mul n a.2 b.2) (mul n (mul n a.1 b.1) (cst n))) (add n (mul n a.2 c.2) (mul n (mul n a.1 c.1) (cst n)))
      rw [ih, ih, ih2]
      ac_rfl
theorem add_mul (n) (a b c : F n) : mul n (add n a b) c = add n (mul n a c) (mul n b c) := by
  rw [mul_comm, mul_add, mul_comm n c a, mul_comm n c b]
theorem zero_mul (n) (a : F n) : mul n (zero n) a = zero n := by
  rw [← add_self n (zero n), add_mul, add_self, add_self]
theorem mul_zero (n) (a : F n) : mul n a (zero n) = zero n := by rw [mul_comm, zero_mul]
theorem one_mul : ∀ n (a : F n), mul n (one n) a = a
  | 0, a => Bool.true_and a
  | n + 1, a => by
    have ih := one_mul n
    refine Prod.ext ?_ ?_
    · show add n (mul n (zero n) a.1) (add n (mul n (zero n) a.2) (mul n (one n) a.1)) = a.1
      rw [zero_mul, zero_mul, zero_add, zero_add, ih]
    · show add n (mul n (one n) a.2) (mul n (mul n (zero n) a.1) (cst n)) = a.2
      rw [zero_mul, zero_mul, add_zero, ih]
theorem mul_one (n) (a : F n) : mul n a (one n) = a := by rw [mul_comm, one_mul]
theorem mul_assoc : ∀ n (a b c : F n), mul n (mul n a b) c = mul n a (mul n b c)
  | 0, a, b, c => Bool.and_assoc a b c
  | n + 1, a, b, c => by
    have i1 : Std.Associative (mul n) := ⟨mul_assoc n⟩
    have i2 : Std.Commutative (mul n) := ⟨mul_comm n⟩
    refine Prod.ext ?_ ?_
    · simp only [mul, mul_add, add_mul]
      ac_rfl
    · simp only [mul, mul_add, add_mul]
      ac_rfl
instance (n) : Std.Associative (mul n) := ⟨mul_assoc n⟩
instance (n) : Std.Commutative (mul n) := ⟨mul_comm n⟩
theorem mul_left_comm (n) (a b c : F n) : mul n a (mul n b c) = mul n b (mul n a c) := by
  rw [← mul_assoc, mul_comm n a b, mul_assoc]
/-- squares -/
def sq (n) (a : F n) : F n := mul n a a
theorem sq_add (n) (a b : F n) : sq n (add n a b) = add n (sq n a) (sq n b) := by
  unfold sq
  rw [mul_add, add_mul, add_mul, mul_comm n b a]
  have e : add n (add n (mul n a a) (mul n a b)) (add n (mul n a b) (mul n b b)) = add n (add n (mul n a a) (mul n b b)) (add n (mul n a b) (mul n a b)) := by ac_rfl
  rw [e, add_self, add_zero]
theorem sq_mul (n) (a b : F n) : sq n (mul n a b) = mul n (sq n a) (sq n b) := by
  unfold sq
  ac_rfl
theorem sq_succ (n) (a : F (n + 1)) : sq (n + 1) a = (sq n a.1, add n (sq n a.2) (mul n (sq n a.1) (cst n))) := by
  refine Prod.ext ?_ ?_
  · show add n (mul n a.1 a.1) (add n (mul n a.1 a.2) (mul n a.2 a.1)) = sq n a.1
    rw [mul_comm n a.2 a.1, add_self, add_zero]
    rfl
  · rfl
/-- the highest bit -/
def top : (n : Nat) → F n → Bool
  | 0, a => a
  | n + 1, a => top n a.1
theorem top_add : ∀ n (a b : F n), top n (add n a b) = Bool.xor (top n a) (top n b)
  | 0, _, _ => rfl
  | n + 1, a, b => top_add n a.1 b.1
theorem top_zero : ∀ n, top n (zero n) = false
  | 0 => rfl
  | n + 1 => top_zero n
theorem top_cst : ∀ n, top n (cst n) = true
  | 0 => rfl
  | n + 1 => top_cst n
theorem top_sq : ∀ n (a : F n), top n (add n (sq n a) a) = false
  | 0, a => by cases a <;> rfl
  | n + 1, a => by
    rw [sq_succ]
    exact top_sq n a.1
/-- inverses -/
def inv : (n : Nat) → F n → F n
  | 0, a => a
  | n + 1, a => let b := inv n (add n (mul n a.2 (add n a.1 a.2)) (mul n (sq n a.1) (cst n))); (mul n a.1 b, mul n (add n a.1 a.2) b)
instance decEq : (n : Nat) → DecidableEq (F n)
  | 0 => inferInstanceAs (DecidableEq Bool)
  | n + 1 => have := decEq n; inferInstanceAs (DecidableEq (F n × F n))
theorem one_ne_zero : ∀ n, one n ≠ zero n
  | 0, h => nomatch h
  | n + 1, h => one_ne_zero n (congrArg (fun p : F n × F n => p.2) h)
/-- the product of a number and the other one with the same halves' sum -/
def norm (n) (a : F (n + 1)) : F n := add n (mul n a.2 (add n a.1 a.2)) (mul n (sq n a.1) (cst n))
theorem mul_conj (n) (a : F (n + 1)) (b : F n) : mul (n + 1) a (mul n a.1 b, mul n (add n a.1 a.2) b) = (zero n, mul n (norm n a) b) := by
  refine Prod.ext ?_ ?_
  · show add n (mul n a.1 (mul n a.1 b)) (add n (mul n a.1 (mul n (add n a.1 a.2) b)) (mul n a.2 (mul n a.1 b))) = zero n
    rw [add_mul, mul_add]
    have e : add n (mul n a.1 (mul n a.1 b)) (add n (add n (mul n a.1 (mul n a.1 b)) (mul n a.1 (mul n a.2 b))) (mul n a.2 (mul n a.1 b)))
      = add n (add n (mul n a.1 (mul n a.1 b)) (mul n a.1 (mul n a.1 b))) (add n (mul n a.1 (mul n a.2 b)) (mul n a.1 (mul n a.2 b))) := by ac_rfl
    rw [e, add_self, add_self, add_zero]
  · show add n (mul n a.2 (mul n (add n a.1 a.2) b)) (mul n (mul n a.1 (mul n a.1 b)) (cst n)) = mul n (norm n a) b
    unfold norm sq
    simp only [add_mul, mul_add]
    ac_rfl
theorem mul_inv : ∀ n (a : F n), a ≠ zero n → mul n a (inv n a) = one n
  | 0, a, h => by
    cases a
    · exact absurd rfl h
    · rfl
  | n + 1, a, h => by
    have ih := mul_inv n
    have nz : ∀ x y : F n, mul n x y = zero n → x ≠ zero n → y = zero n := fun x y e hx => by
      have e2 := congrArg (mul n (inv n x)) e
      rw [← mul_assoc, mul_comm n (inv n x) x, ih x hx, one_mul, mul_zero] at e2
      exact e2
    have hn : norm n a ≠ zero n := fun e => by
      by_cases h1 : a.1 = zero n
      · have h2 : a.2 ≠ zero n := fun h2 => h (Prod.ext h1 h2)
        unfold norm sq at e
        rw [h1, zero_add, zero_mul, zero_mul, add_zero] at e
        exact h2 (nz _ _ e h2)
      · have e1 : mul n a.2 (add n a.1 a.2) = mul n (sq n a.1) (cst n) := add_eq_zero e
        have e2 := congrArg (mul n (sq n (inv n a.1))) e1
        have e3 : mul n (sq n (inv n a.1)) (mul n (sq n a.1) (cst n)) = cst n := by
          rw [← mul_assoc, ← sq_mul, mul_comm n (inv n a.1), ih _ h1]
          unfold sq
          rw [one_mul, one_mul]
        have e4 : mul n (sq n (inv n a.1)) (mul n a.2 (add n a.1 a.2)) = add n (sq n (mul n a.2 (inv n a.1))) (mul n a.2 (inv n a.1)) := by
          rw [mul_add, mul_add]
          have f1 : mul n (sq n (inv n a.1)) (mul n a.2 a.1) = mul n (mul n a.2 (inv n a.1)) (mul n a.1 (inv n a.1)) := by
            unfold sq
            ac_rfl
          have f2 : mul n (sq n (inv n a.1)) (mul n a.2 a.2) = sq n (mul n a.2 (inv n a.1)) := by
            unfold sq
            ac_rfl
          rw [f1, f2, ih _ h1, mul_one, add_comm]
        have t := top_sq n (mul n a.2 (inv n a.1))
        rw [← e4, e2, e3, top_cst] at t
        cases t
    show mul (n + 1) a (mul n a.1 (inv n (norm n a)), mul n (add n a.1 a.2) (inv n (norm n a))) = one (n + 1)
    rw [mul_conj, ih _ hn]
    rfl
theorem mul_eq_zero {n} {a b : F n} (h : mul n a b = zero n) : a = zero n ∨ b = zero n := by
  by_cases ha : a = zero n
  · exact .inl ha
  · have e2 := congrArg (mul n (inv n a)) h
    rw [← mul_assoc, mul_comm n (inv n a) a, mul_inv n a ha, one_mul, mul_zero] at e2
    exact .inr e2
theorem mul_cancel {n} {a b c : F n} (ha : a ≠ zero n) (h : mul n a b = mul n a c) : b = c := by
  have e : mul n a (add n b c) = zero n := by rw [mul_add, h, add_self]
  rcases mul_eq_zero e with e | e
  · exact absurd e ha
  · exact add_eq_zero e
theorem norm_ne {n} {a : F (n + 1)} (h : a ≠ zero (n + 1)) : norm n a ≠ zero n := fun e => by
  have c := mul_conj n a (one n)
  rw [e, zero_mul, mul_one, mul_one] at c
  rcases mul_eq_zero (n := n + 1) (show mul (n + 1) a (a.1, add n a.1 a.2) = zero (n + 1) from c) with z | z
  · exact h z
  · have h1 : a.1 = zero n := congrArg (fun p : F n × F n => p.1) z
    have h2 : add n a.1 a.2 = zero n := congrArg (fun p : F n × F n => p.2) z
    rw [h1, zero_add] at h2
    exact h (Prod.ext h1 h2)
/-- square roots -/
def rt : (n : Nat) → F n → F n
  | 0, a => a
  | n + 1, a => (rt n a.1, rt n (add n a.2 (mul n a.1 (cst n))))
theorem sq_rt : ∀ n (a : F n), sq n (rt n a) = a
  | 0, a => Bool.and_self a
  | n + 1, a => by
    rw [sq_succ]
    show (sq n (rt n a.1), add n (sq n (rt n (add n a.2 (mul n a.1 (cst n))))) (mul n (sq n (rt n a.1)) (cst n))) = a
    rw [sq_rt n, sq_rt n, add_assoc, add_self, add_zero]
    rfl
theorem sq_inj {n} {a b : F n} (h : sq n a = sq n b) : a = b := by
  have e : sq n (add n a b) = zero n := by rw [sq_add, h, add_self]
  rcases mul_eq_zero e with e | e <;> exact add_eq_zero e
/-- squared k times -/
def sqi (n : Nat) : Nat → F n → F n
  | 0, a => a
  | k + 1, a => sq n (sqi n k a)
theorem sqi_add (n) (a : F n) (j : Nat) : ∀ k, sqi n (j + k) a = sqi n k (sqi n j a)
  | 0 => rfl
  | k + 1 => congrArg (sq n) (sqi_add n a j k)
theorem sqi_pair (n) : ∀ k, ∃ t : F n, ∀ a : F (n + 1), sqi (n + 1) k a = (sqi n k a.1, add n (sqi n k a.2) (mul n (sqi n k a.1) t))
  | 0 => ⟨zero n, fun a => by
    refine Prod.ext rfl ?_
    show a.2 = add n a.2 (mul n a.1 (zero n))
    rw [mul_zero, add_zero]⟩
  | k + 1 => by
    obtain ⟨t, h⟩ := sqi_pair n k
    refine ⟨add n (sq n t) (cst n), fun a => ?_⟩
    show sq (n + 1) (sqi (n + 1) k a) = _
    rw [h a]
    refine (sq_succ n _).trans (Prod.ext rfl ?_)
    show add n (sq n (add n (sqi n k a.2) (mul n (sqi n k a.1) t))) (mul n (sq n (sqi n k a.1)) (cst n)) = add n (sq n (sqi n k a.2)) (mul n (sq n (sqi n k a.1)) (add n (sq n t) (cst n)))
    rw [sq_add, sq_mul, mul_add, add_assoc]
theorem sqi_fix : ∀ n (a : F n), sqi n (2 ^ n) a = a
  | 0, a => by cases a <;> rfl
  | n + 1, a => by
    have ih := sqi_fix n
    obtain ⟨t, h⟩ := sqi_pair n (2 ^ n)
    have e : 2 ^ (n + 1) = 2 ^ n + 2 ^ n := by omega
    rw [e, sqi_add, h, h]
    refine Prod.ext ?_ ?_
    · show sqi n (2 ^ n) (sqi n (2 ^ n) a.1) = a.1
      rw [ih, ih]
    · show add n (sqi n (2 ^ n) (add n (sqi n (2 ^ n) a.2) (mul n (sqi n (2 ^ n) a.1) t))) (mul n (sqi n (2 ^ n) (sqi n (2 ^ n) a.1)) t) = a.2
      rw [ih, ih, ih, ih, add_assoc, add_self, add_zero]
end Nim
set_option linter.all false
/-! The tower of fields on naturals: enc, dec, the product nm, its laws, its one-turn equation. Plain Lean. -/
namespace Nim
/-- a number's bits: 2 ^ n -/
abbrev bw (n : Nat) : Nat := 2 ^ n
theorem bw_succ (n : Nat) : bw (n + 1) = bw n + bw n := by
  show 2 ^ (n + 1) = 2 ^ n + 2 ^ n
  omega
theorem bw_pos (n : Nat) : 0 < bw n := Nat.two_pow_pos n
def enc : (n : Nat) → F n → Nat
  | 0, a => Bool.toNat a
  | n + 1, a => enc n a.1 * 2 ^ bw n + enc n a.2
def dec : (n : Nat) → Nat → F n
  | 0, a => decide (a % 2 = 1)
  | n + 1, a => (dec n (a / 2 ^ bw n), dec n (a % 2 ^ bw n))
theorem enc_lt : ∀ n (x : F n), enc n x < 2 ^ bw n
  | 0, x => by cases x <;> decide
  | n + 1, x => by
    have h1 := enc_lt n x.1
    have h2 := enc_lt n x.2
    show enc n x.1 * 2 ^ bw n + enc n x.2 < 2 ^ bw (n + 1)
    rw [bw_succ, Nat.pow_add]
    calc enc n x.1 * 2 ^ bw n + enc n x.2 < enc n x.1 * 2 ^ bw n + 2 ^ bw n := by omega
      _ = (enc n x.1 + 1) * 2 ^ bw n := by rw [Nat.succ_mul]
      _ ≤ 2 ^ bw n * 2 ^ bw n := Nat.mul_le_mul_right _ h1
theorem dec_enc : ∀ n (x : F n), dec n (enc n x) = x
  | 0, x => by cases x <;> rfl
  | n + 1, x => by
    have h2 := enc_lt n x.2
    have p : 0 < 2 ^ bw n := Nat.two_pow_pos _
    show (dec n ((enc n x.1 * 2 ^ bw n + enc n x.2) / 2 ^ bw n), dec n ((enc n x.1 * 2 ^ bw n + enc n x.2) % 2 ^ bw n)) = x
    rw [Nat.mul_comm, Nat.mul_add_div p, Nat.div_eq_of_lt h2, Nat.add_zero, Nat.mul_add_mod, Nat.mod_eq_of_lt h2, dec_enc n, dec_enc n]
    rfl
theorem half_lt {n a : Nat} (h : a < 2 ^ bw (n + 1)) : a / 2 ^ bw n < 2 ^ bw n := by
  rw [bw_succ, Nat.pow_add] at h
  exact Nat.div_lt_of_lt_mul h
theorem enc_dec : ∀ n {a : Nat}, a < 2 ^ bw n → enc n (dec n a) = a
  | 0, a, h => by
    have h : a < 2 := h
    have : a = 0 ∨ a = 1 := by omega
    rcases this with rfl | rfl <;> rfl
  | n + 1, a, h => by
    have p : 0 < 2 ^ bw n := Nat.two_pow_pos _
    show enc n (dec n (a / 2 ^ bw n)) * 2 ^ bw n + enc n (dec n (a % 2 ^ bw n)) = a
    rw [enc_dec n (half_lt h), enc_dec n (Nat.mod_lt _ p), Nat.mul_comm]
    exact Nat.div_add_mod a _
theorem xor_parts (k a b c d : Nat) (hb : b < 2 ^ k) (hd : d < 2 ^ k) : (a * 2 ^ k + b) ^^^ (c * 2 ^ k + d) = (a ^^^ c) * 2 ^ k + (b ^^^ d) := by
  apply Nat.eq_of_testBit_eq
  intro j
  rw [Nat.testBit_xor, Nat.mul_comm a, Nat.mul_comm c, Nat.mul_comm (a ^^^ c), Nat.testBit_two_pow_mul_add a hb, Nat.testBit_two_pow_mul_add c hd, Nat.testBit_two_pow_mul_add (a ^^^ c) (Nat.xor_lt_two_pow hb hd)]
  split
  · rw [Nat.testBit_xor]
  · rw [Nat.testBit_xor]
theorem enc_add : ∀ n (x y : F n), enc n (add n x y) = enc n x ^^^ enc n y
  | 0, x, y => by cases x <;> cases y <;> rfl
  | n + 1, x, y => by
    show enc n (add n x.1 y.1) * 2 ^ bw n + enc n (add n x.2 y.2) = (enc n x.1 * 2 ^ bw n + enc n x.2) ^^^ (enc n y.1 * 2 ^ bw n + enc n y.2)
    rw [xor_parts _ _ _ _ _ (enc_lt n x.2) (enc_lt n y.2), enc_add n, enc_add n]
theorem dec_mod : ∀ n a, dec n (a % 2 ^ bw n) = dec n a
  | 0, a => by
    show decide (a % 2 % 2 = 1) = decide (a % 2 = 1)
    rw [Nat.mod_mod]
  | n + 1, a => by
    have e : (2 : Nat) ^ bw (n + 1) = 2 ^ bw n * 2 ^ bw n := by rw [bw_succ, Nat.pow_add]
    show (dec n (a % 2 ^ bw (n + 1) / 2 ^ bw n), dec n (a % 2 ^ bw (n + 1) % 2 ^ bw n)) = (dec n (a / 2 ^ bw n), dec n (a % 2 ^ bw n))
    rw [e, Nat.mod_mul_right_div_self, Nat.mod_mul_right_mod, dec_mod n (a / 2 ^ bw n)]
theorem dec_xor (n a b : Nat) : dec n (a ^^^ b) = add n (dec n a) (dec n b) := by
  rw [← dec_mod n (a ^^^ b), ← dec_mod n a, ← dec_mod n b, Nat.xor_mod_two_pow]
  have p : 0 < 2 ^ bw n := Nat.two_pow_pos _
  have ha := Nat.mod_lt a p
  have hb := Nat.mod_lt b p
  rw [← dec_enc n (add n _ _), enc_add, enc_dec n ha, enc_dec n hb]
theorem dec_zero : ∀ n, dec n 0 = zero n
  | 0 => rfl
  | n + 1 => by
    show (dec n (0 / _), dec n (0 % _)) = _
    rw [Nat.zero_div, Nat.zero_mod, dec_zero n]
    rfl
theorem one_lt_bw (n : Nat) : 1 < 2 ^ bw n := Nat.one_lt_two_pow (Nat.pos_iff_ne_zero.mp (bw_pos n))
theorem dec_one : ∀ n, dec n 1 = one n
  | 0 => rfl
  | n + 1 => by
    have p := one_lt_bw n
    show (dec n (1 / _), dec n (1 % _)) = _
    rw [Nat.div_eq_of_lt p, Nat.mod_eq_of_lt p, dec_zero n, dec_one n]
    rfl
theorem enc_zero (n) : enc n (zero n) = 0 := by
  rw [← dec_zero n, enc_dec n (Nat.two_pow_pos _)]
theorem enc_one (n) : enc n (one n) = 1 := by
  rw [← dec_one n, enc_dec n (one_lt_bw n)]
theorem enc_inj {n} {x y : F n} (h : enc n x = enc n y) : x = y := by
  rw [← dec_enc n x, h, dec_enc]
theorem enc_cst : ∀ n, enc n (cst n) = 2 ^ (bw n - 1)
  | 0 => rfl
  | n + 1 => by
    have p := bw_pos n
    show enc n (cst n) * 2 ^ bw n + enc n (zero n) = _
    rw [enc_zero, Nat.add_zero, enc_cst n, ← Nat.pow_add, bw_succ]
    congr 1
    omega
theorem dec_cst (n) : dec n (2 ^ (bw n - 1)) = cst n := by
  rw [← enc_cst, dec_enc]
/-- a number within the next level -/
theorem dec_up {n a : Nat} (h : a < 2 ^ bw n) : dec (n + 1) a = (zero n, dec n a) := by
  show (dec n (a / _), dec n (a % _)) = _
  rw [Nat.div_eq_of_lt h, Nat.mod_eq_of_lt h, dec_zero]
/-- the product at a level -/
def nml (n a b : Nat) : Nat := enc n (mul n (dec n a) (dec n b))
theorem nml_lt (n a b : Nat) : nml n a b < 2 ^ bw n := enc_lt n _
theorem dec_nml (n a b : Nat) : dec n (nml n a b) = mul n (dec n a) (dec n b) := dec_enc n _
theorem nml_up {n a b : Nat} (ha : a < 2 ^ bw n) (hb : b < 2 ^ bw n) : nml (n + 1) a b = nml n a b := by
  unfold nml
  rw [dec_up ha, dec_up hb]
  show enc n (add n (mul n (zero n) (zero n)) (add n (mul n (zero n) (dec n b)) (mul n (dec n a) (zero n)))) * 2 ^ bw n + enc n (add n (mul n (dec n a) (dec n b)) (mul n (mul n (zero n) (zero n)) (cst n))) = _
  rw [zero_mul, zero_mul, zero_mul, mul_zero, zero_add, zero_add, add_zero, enc_zero, Nat.zero_mul, Nat.zero_add]
theorem lt_up {n a : Nat} (k : Nat) (h : a < 2 ^ bw n) : a < 2 ^ bw (n + k) :=
  Nat.lt_of_lt_of_le h (Nat.pow_le_pow_right (by decide) (Nat.pow_le_pow_right (by decide) (Nat.le_add_right n k)))
theorem lt_le {n m a : Nat} (h : a < 2 ^ bw n) (hm : n ≤ m) : a < 2 ^ bw m := by
  obtain ⟨k, rfl⟩ := Nat.exists_eq_add_of_le hm
  exact lt_up k h
theorem nml_add {n a b : Nat} (ha : a < 2 ^ bw n) (hb : b < 2 ^ bw n) : ∀ k, nml (n + k) a b = nml n a b
  | 0 => rfl
  | k + 1 => by
    rw [← Nat.add_assoc, nml_up (lt_up k ha) (lt_up k hb), nml_add ha hb k]
/-- the product of numbers below 2 ^ 256 -/
theorem nm_ex : ∃ f : Nat → Nat → Nat, f = nml 8 := ⟨_, rfl⟩
/-- by choice: nobody reckons it by unfolding -/
@[irreducible] noncomputable def nm : Nat → Nat → Nat := Classical.choose nm_ex
theorem nm_def (a b : Nat) : nm a b = nml 8 a b := by
  unfold nm
  exact congrFun (congrFun (Classical.choose_spec nm_ex) a) b
/-- below 2 ^ 2 ^ n, n at most 8 -/
structure In (n a : Nat) : Prop where
  le : n ≤ 8
  lt : a < 2 ^ bw n
theorem In.up {n m a : Nat} (h : In n a) (hm : n ≤ m) (h8 : m ≤ 8) : In m a := ⟨h8, lt_le h.lt hm⟩
theorem In.top {n a : Nat} (h : In n a) : In 8 a := h.up h.le (Nat.le_refl _)
theorem In.zero {n : Nat} (h : n ≤ 8) : In n 0 := ⟨h, Nat.two_pow_pos _⟩
theorem In.one {n : Nat} (h : n ≤ 8) : In n 1 := ⟨h, one_lt_bw n⟩
theorem In.xor {n a b : Nat} (ha : In n a) (hb : In n b) : In n (a ^^^ b) := ⟨ha.le, Nat.xor_lt_two_pow ha.lt hb.lt⟩
theorem nm_at {n a b : Nat} (ha : In n a) (hb : In n b) : nm a b = nml n a b := by
  obtain ⟨k, e⟩ := Nat.exists_eq_add_of_le ha.le
  rw [nm_def, e, nml_add ha.lt hb.lt]
theorem In.nm {n a b : Nat} (ha : In n a) (hb : In n b) : In n (nm a b) := ⟨ha.le, by rw [nm_at ha hb]; exact nml_lt n a b⟩
theorem nm_in (a b : Nat) : In 8 (nm a b) := ⟨Nat.le_refl _, by rw [nm_def]; exact nml_lt 8 a b⟩
theorem nm_comm (a b : Nat) : nm a b = nm b a := by rw [nm_def, nm_def]; unfold nml; rw [mul_comm]
theorem nm_assoc (a b c : Nat) : nm (nm a b) c = nm a (nm b c) := by
  simp only [nm_def]
  unfold nml
  rw [dec_enc, dec_enc, mul_assoc]
theorem nm_xor (a b c : Nat) : nm a (b ^^^ c) = nm a b ^^^ nm a c := by
  simp only [nm_def]
  unfold nml
  rw [dec_xor, mul_add, enc_add]
theorem xor_nm (a b c : Nat) : nm (a ^^^ b) c = nm a c ^^^ nm b c := by
  rw [nm_comm, nm_xor, nm_comm c a, nm_comm c b]
theorem nm_one {a : Nat} (h : In 8 a) : nm a 1 = a := by
  simp only [nm_def]
  unfold nml
  rw [dec_one, mul_one, enc_dec 8 h.lt]
theorem one_nm {a : Nat} (h : In 8 a) : nm 1 a = a := by rw [nm_comm, nm_one h]
theorem nm_zero (a : Nat) : nm a 0 = 0 := by
  simp only [nm_def]
  unfold nml
  rw [dec_zero, mul_zero, enc_zero]
theorem zero_nm (a : Nat) : nm 0 a = 0 := by rw [nm_comm, nm_zero]
theorem dec_eq_zero {n a : Nat} (h : a < 2 ^ bw n) (e : dec n a = zero n) : a = 0 := by
  rw [← enc_dec n h, e, enc_zero]
theorem nm_eq_zero {a b : Nat} (ha : In 8 a) (hb : In 8 b) (h : nm a b = 0) : a = 0 ∨ b = 0 := by
  have e : mul 8 (dec 8 a) (dec 8 b) = zero 8 := by
    rw [← dec_nml, ← nm_def, h, dec_zero]
  rcases mul_eq_zero e with e | e
  · exact .inl (dec_eq_zero ha.lt e)
  · exact .inr (dec_eq_zero hb.lt e)
theorem nm_pos {a b : Nat} (ha : In 8 a) (hb : In 8 b) : 0 < nm a b ↔ 0 < a ∧ 0 < b := by
  constructor
  · intro h
    refine ⟨Nat.pos_of_ne_zero fun e => ?_, Nat.pos_of_ne_zero fun e => ?_⟩
    · rw [e, zero_nm] at h
      exact absurd h (Nat.lt_irrefl _)
    · rw [e, nm_zero] at h
      exact absurd h (Nat.lt_irrefl _)
  · rintro ⟨h1, h2⟩
    refine Nat.pos_of_ne_zero fun e => ?_
    rcases nm_eq_zero ha hb e with e | e <;> omega
/-- small factors -/
theorem nm_small {a b : Nat} (ha : In 8 a) (hb : In 8 b) (h : a < 2 ∨ b < 2) : nm a b = a * b := by
  rcases h with h | h
  · have : a = 0 ∨ a = 1 := by omega
    rcases this with rfl | rfl
    · rw [zero_nm, Nat.zero_mul]
    · rw [one_nm hb, Nat.one_mul]
  · have : b = 0 ∨ b = 1 := by omega
    rcases this with rfl | rfl
    · rw [nm_zero, Nat.mul_zero]
    · rw [nm_one ha, Nat.mul_one]
/-- the halves -/
theorem In.hi {n a : Nat} (h : In (n + 1) a) : In n (a / 2 ^ bw n) := ⟨Nat.le_of_succ_le h.le, half_lt h.lt⟩
theorem In.lo {n : Nat} (a : Nat) (h : n + 1 ≤ 8) : In n (a % 2 ^ bw n) := ⟨Nat.le_of_succ_le h, Nat.mod_lt _ (Nat.two_pow_pos _)⟩
theorem In.cst {n : Nat} (h : n ≤ 8) : In n (2 ^ (bw n - 1)) := ⟨h, Nat.pow_lt_pow_right (by decide) (Nat.sub_lt (bw_pos n) (by decide))⟩
/-- one turn, as the program goes -/
theorem nm_turn {n a b : Nat} (ha : In (n + 1) a) (hb : In (n + 1) b) :
    nm a b = (nm (a / 2 ^ bw n ^^^ a % 2 ^ bw n) (b / 2 ^ bw n ^^^ b % 2 ^ bw n) ^^^ nm (a % 2 ^ bw n) (b % 2 ^ bw n)) * 2 ^ bw n
      + (nm (a % 2 ^ bw n) (b % 2 ^ bw n) ^^^ nm (nm (a / 2 ^ bw n) (b / 2 ^ bw n)) (2 ^ (bw n - 1))) := by
  have h8 := ha.le
  have ah := ha.hi
  have al := In.lo a h8
  have bh := hb.hi
  have bl := In.lo b h8
  have kc : In n (2 ^ (bw n - 1)) := In.cst (Nat.le_of_succ_le h8)
  rw [nm_at ha hb, nm_at (ah.xor al) (bh.xor bl), nm_at al bl, nm_at (ah.nm bh) kc, nm_at ah bh]
  have key : ∀ u v p q : F n, enc n (add n (mul n u p) (add n (mul n u q) (mul n v p))) * 2 ^ bw n + enc n (add n (mul n v q) (mul n (mul n u p) (cst n)))
      = (enc n (mul n (add n u v) (add n p q)) ^^^ enc n (mul n v q)) * 2 ^ bw n + (enc n (mul n v q) ^^^ enc n (mul n (mul n u p) (cst n))) := fun u v p q => by
    rw [← enc_add, ← enc_add]
    congr 2
    congr 1
    rw [add_mul, mul_add, mul_add]
    have e : add n (add n (add n (mul n u p) (mul n u q)) (add n (mul n v p) (mul n v q))) (mul n v q) = add n (add n (mul n u p) (add n (mul n u q) (mul n v p))) (add n (mul n v q) (mul n v q)) := by ac_rfl
    rw [e, add_self, add_zero]
  have k2 := key (dec n (a / 2 ^ bw n)) (dec n (a % 2 ^ bw n)) (dec n (b / 2 ^ bw n)) (dec n (b % 2 ^ bw n))
  unfold nml
  rw [dec_xor, dec_xor, dec_enc, dec_cst]
  exact k2
/-! inverses -/
theorem dec_ne {n a : Nat} (h : a < 2 ^ bw n) (ha : 0 < a) : dec n a ≠ zero n := fun e => absurd (dec_eq_zero h e) (Nat.ne_of_gt ha)
theorem inv_ex {n a : Nat} (h : In n a) (ha : 0 < a) : ∃ b, In n b ∧ nm a b = 1 := by
  have ib : In n (enc n (inv n (dec n a))) := ⟨h.le, enc_lt n _⟩
  refine ⟨_, ib, ?_⟩
  rw [nm_at h ib]
  unfold nml
  rw [dec_enc, mul_inv n _ (dec_ne h.lt ha), enc_one]
theorem inv_uniq {a b c : Nat} (hb : In 8 b) (hc : In 8 c) (h1 : nm a b = 1) (h2 : nm a c = 1) : b = c := by
  rw [← nm_one hb, ← h2, ← nm_assoc, nm_comm b a, h1, one_nm hc]
open Classical in
@[irreducible] noncomputable def ninv (a : Nat) : Nat := if h : ∃ b, In 8 b ∧ nm a b = 1 then Classical.choose h else 0
theorem ninv_ok {n a : Nat} (h : In n a) (ha : 0 < a) : In n (ninv a) ∧ nm a (ninv a) = 1 := by
  obtain ⟨b, ib, e⟩ := inv_ex h ha
  have x : ∃ b, In 8 b ∧ nm a b = 1 := ⟨b, ib.top, e⟩
  have e2 : ninv a = b := by
    unfold ninv
    rw [dif_pos x]
    exact inv_uniq (Classical.choose_spec x).1 ib.top (Classical.choose_spec x).2 e
  rw [e2]
  exact ⟨ib, e⟩
theorem ninv_eq {a b : Nat} (ha : In 8 a) (hb : In 8 b) (h0 : 0 < a) (h : nm a b = 1) : ninv a = b := inv_uniq (ninv_ok ha h0).1 hb (ninv_ok ha h0).2 h
theorem ninv_pos {a : Nat} (h : In 8 a) (ha : 0 < a) : 0 < ninv a := Nat.pos_of_ne_zero fun e => by
  have := (ninv_ok h ha).2
  rw [e, nm_zero] at this
  cases this
theorem ninv_ninv {a : Nat} (h : In 8 a) (ha : 0 < a) : ninv (ninv a) = a :=
  ninv_eq (ninv_ok h ha).1 h (ninv_pos h ha) (by rw [nm_comm]; exact (ninv_ok h ha).2)
theorem ninv_one : ninv 1 = 1 := ninv_eq (In.one (Nat.le_refl _)) (In.one (Nat.le_refl _)) (by decide) (nm_one (In.one (Nat.le_refl _)))
def mkF {n : Nat} (x y : F n) : F (n + 1) := (x, y)
/-- the norm, as the program reckons it -/
noncomputable def nsize (n a : Nat) : Nat := nm (a % 2 ^ bw n) (a / 2 ^ bw n ^^^ a % 2 ^ bw n) ^^^ nm (nm (a / 2 ^ bw n) (a / 2 ^ bw n)) (2 ^ (bw n - 1))
theorem nsize_dec {n a : Nat} (ha : In (n + 1) a) : In n (nsize n a) ∧ dec n (nsize n a) = norm n (dec (n + 1) a) := by
  have ah := ha.hi
  have al := In.lo a ha.le
  have kc : In n (2 ^ (bw n - 1)) := In.cst (Nat.le_of_succ_le ha.le)
  refine ⟨(al.nm (ah.xor al)).xor ((ah.nm ah).nm kc), ?_⟩
  unfold nsize
  rw [nm_at al (ah.xor al), nm_at (ah.nm ah) kc, nm_at ah ah, dec_xor, dec_nml, dec_nml, dec_nml, dec_xor, dec_cst]
  rfl
theorem nsize_pos {n a : Nat} (ha : In (n + 1) a) (h0 : 0 < a) : 0 < nsize n a := Nat.pos_of_ne_zero fun e => by
  have h := (nsize_dec ha).2
  rw [e, dec_zero] at h
  exact norm_ne (dec_ne ha.lt h0) h.symm
theorem ninv_turn {n a : Nat} (ha : In (n + 1) a) (h0 : 0 < a) :
    ninv a = nm (a / 2 ^ bw n) (ninv (nsize n a)) * 2 ^ bw n + nm (a / 2 ^ bw n ^^^ a % 2 ^ bw n) (ninv (nsize n a)) := by
  obtain ⟨is, es⟩ := nsize_dec ha
  have ps := nsize_pos ha h0
  obtain ⟨ib, eb⟩ := ninv_ok is ps
  have ah := ha.hi
  have al := In.lo a ha.le
  have e : nm (a / 2 ^ bw n) (ninv (nsize n a)) * 2 ^ bw n + nm (a / 2 ^ bw n ^^^ a % 2 ^ bw n) (ninv (nsize n a))
      = enc (n + 1) (mkF (mul n (dec (n + 1) a).1 (dec n (ninv (nsize n a)))) (mul n (add n (dec (n + 1) a).1 (dec (n + 1) a).2) (dec n (ninv (nsize n a))))) := by
    rw [nm_at ah ib, nm_at (ah.xor al) ib]
    unfold nml
    rw [dec_xor]
    rfl
  have ie : In (n + 1) (enc (n + 1) (mkF (mul n (dec (n + 1) a).1 (dec n (ninv (nsize n a)))) (mul n (add n (dec (n + 1) a).1 (dec (n + 1) a).2) (dec n (ninv (nsize n a)))))) := ⟨ha.le, enc_lt _ _⟩
  rw [e]
  refine ninv_eq ha.top ie.top h0 ?_
  rw [nm_at ha ie]
  unfold nml
  rw [dec_enc]
  have mc : mul (n + 1) (dec (n + 1) a) (mkF (mul n (dec (n + 1) a).1 (dec n (ninv (nsize n a)))) (mul n (add n (dec (n + 1) a).1 (dec (n + 1) a).2) (dec n (ninv (nsize n a))))) = mkF (zero n) (mul n (norm n (dec (n + 1) a)) (dec n (ninv (nsize n a)))) := mul_conj n _ _
  rw [mc, ← es, ← dec_nml, ← nm_at is ib, eb, dec_one]
  exact enc_one (n + 1)
/-! powers -/
noncomputable def npow (a : Nat) : Nat → Nat
  | 0 => 1
  | k + 1 => nm (npow a k) a
theorem npow_in {n a : Nat} (h : In n a) : ∀ k, In n (npow a k)
  | 0 => In.one h.le
  | k + 1 => (npow_in h k).nm h
theorem npow_one {a : Nat} (h : In 8 a) : npow a 1 = a := one_nm h
theorem npow_add {a : Nat} (h : In 8 a) (j : Nat) : ∀ k, npow a (j + k) = nm (npow a j) (npow a k)
  | 0 => (nm_one (npow_in h j)).symm
  | k + 1 => by
    show nm (npow a (j + k)) a = nm (npow a j) (nm (npow a k) a)
    rw [npow_add h j k, nm_assoc]
theorem npow_dbl {a : Nat} (h : In 8 a) : ∀ k, npow (nm a a) k = npow a (2 * k)
  | 0 => rfl
  | k + 1 => by
    show nm (npow (nm a a) k) (nm a a) = npow a (2 * k + 2)
    rw [npow_dbl h k, npow_add h (2 * k) 2]
    congr 1
    show _ = nm (nm 1 a) a
    rw [one_nm h]
theorem npow_mul {a b : Nat} : ∀ k, npow (nm a b) k = nm (npow a k) (npow b k)
  | 0 => (nm_one (In.one (Nat.le_refl 8))).symm
  | k + 1 => by
    show nm (npow (nm a b) k) (nm a b) = nm (nm (npow a k) a) (nm (npow b k) b)
    rw [npow_mul k, nm_assoc, nm_assoc]
    congr 1
    rw [← nm_assoc, nm_comm (npow b k) a, nm_assoc]
theorem npow_pow {a : Nat} (h : In 8 a) (j : Nat) : ∀ k, npow (npow a j) k = npow a (j * k)
  | 0 => rfl
  | k + 1 => by
    show nm (npow (npow a j) k) (npow a j) = npow a (j * (k + 1))
    rw [npow_pow h j k, Nat.mul_succ, npow_add h]
theorem npow_sqi {n a : Nat} (h : In n a) : ∀ k, npow a (2 ^ k) = enc n (sqi n k (dec n a))
  | 0 => by
    show npow a 1 = enc n (dec n a)
    rw [npow_one h.top, enc_dec n h.lt]
  | k + 1 => by
    rw [show 2 ^ (k + 1) = 2 ^ k + 2 ^ k by omega, npow_add h.top, nm_at (npow_in h _) (npow_in h _)]
    unfold nml
    rw [npow_sqi h k, dec_enc]
    rfl
theorem npow_fix {n a : Nat} (h : In n a) : npow a (2 ^ 2 ^ n) = a := by
  rw [npow_sqi h, sqi_fix, enc_dec n h.lt]
/-- what the program's turns keep: found times step to the rest -/
theorem npow_turn {f s l : Nat} (hs : In 8 s) : nm f (npow s l) = nm (if l % 2 = 1 then nm f s else f) (npow (nm s s) (l / 2)) := by
  rw [npow_dbl hs]
  split
  · have e : l = 1 + 2 * (l / 2) := by omega
    rw [nm_assoc, ← npow_one hs, npow_one hs]
    congr 1
    have e2 : npow s l = nm (npow s 1) (npow s (2 * (l / 2))) := by rw [← npow_add hs, ← e]
    rw [e2, npow_one hs]
  · have e : l = 2 * (l / 2) := by omega
    rw [← e]
/-! roots -/
theorem rt_ex {n a : Nat} (h : In n a) : ∃ b, In n b ∧ nm b b = a := by
  have ib : In n (enc n (rt n (dec n a))) := ⟨h.le, enc_lt n _⟩
  refine ⟨_, ib, ?_⟩
  rw [nm_at ib ib]
  unfold nml
  rw [dec_enc]
  show enc n (sq n (rt n (dec n a))) = a
  rw [sq_rt, enc_dec n h.lt]
theorem rt_uniq {b c : Nat} (hb : In 8 b) (hc : In 8 c) (h : nm b b = nm c c) : b = c := by
  have e : nm (b ^^^ c) (b ^^^ c) = 0 := by
    rw [nm_xor, xor_nm, xor_nm, nm_comm c b, h]
    generalize nm b c = x
    generalize nm c c = y
    rw [Nat.xor_comm x y, Nat.xor_self]
  have z : b ^^^ c = 0 := by
    rcases nm_eq_zero (hb.xor hc) (hb.xor hc) e with z | z <;> exact z
  have e2 := congrArg (· ^^^ c) z
  simp only [Nat.xor_assoc, Nat.xor_self, Nat.xor_zero, Nat.zero_xor] at e2
  exact e2
open Classical in
@[irreducible] noncomputable def nrt (a : Nat) : Nat := if h : ∃ b, In 8 b ∧ nm b b = a then Classical.choose h else 0
theorem nrt_ok {n a : Nat} (h : In n a) : In n (nrt a) ∧ nm (nrt a) (nrt a) = a := by
  obtain ⟨b, ib, e⟩ := rt_ex h
  have x : ∃ b, In 8 b ∧ nm b b = a := ⟨b, ib.top, e⟩
  have e2 : nrt a = b := by
    unfold nrt
    rw [dif_pos x]
    exact rt_uniq (Classical.choose_spec x).1 ib.top ((Classical.choose_spec x).2.trans e.symm)
  rw [e2]
  exact ⟨ib, e⟩
theorem nrt_eq {a b : Nat} (ha : In 8 a) (hb : In 8 b) (h : nm b b = a) : nrt a = b := rt_uniq (nrt_ok ha).1 hb ((nrt_ok ha).2.trans h.symm)
theorem nrt_sq {a : Nat} (h : In 8 a) : nrt (nm a a) = a := nrt_eq (nm_in a a) h rfl
theorem nrt_turn {n a : Nat} (ha : In (n + 1) a) : nrt a = nrt (a / 2 ^ bw n) * 2 ^ bw n + nrt (a % 2 ^ bw n ^^^ nm (a / 2 ^ bw n) (2 ^ (bw n - 1))) := by
  have ah := ha.hi
  have al := In.lo a ha.le
  have kc : In n (2 ^ (bw n - 1)) := In.cst (Nat.le_of_succ_le ha.le)
  have ip : In n (a % 2 ^ bw n ^^^ nm (a / 2 ^ bw n) (2 ^ (bw n - 1))) := al.xor (ah.nm kc)
  have ir : In (n + 1) (enc (n + 1) (rt (n + 1) (dec (n + 1) a))) := ⟨ha.le, enc_lt _ _⟩
  have r : ∀ {m b : Nat}, In m b → nrt b = enc m (rt m (dec m b)) := fun {m b} h => by
    have ib : In m (enc m (rt m (dec m b))) := ⟨h.le, enc_lt m _⟩
    refine nrt_eq h.top ib.top ?_
    rw [nm_at ib ib]
    unfold nml
    rw [dec_enc]
    show enc m (sq m (rt m (dec m b))) = b
    rw [sq_rt, enc_dec m h.lt]
  rw [r ha, r ah, r ip, dec_xor, nm_at ah kc, dec_nml, dec_cst]
  rfl
/-- F: the number 2 ^ 2 ^ n -/
theorem In.pw {n : Nat} (h : n + 1 ≤ 8) : In (n + 1) (2 ^ bw n) := ⟨h, Nat.pow_lt_pow_right (by decide) (by rw [bw_succ]; have := bw_pos n; omega)⟩
theorem dec_pw (n : Nat) : dec (n + 1) (2 ^ bw n) = (one n, zero n) := by
  show (dec n (2 ^ bw n / 2 ^ bw n), dec n (2 ^ bw n % 2 ^ bw n)) = _
  rw [Nat.div_self (Nat.two_pow_pos _), Nat.mod_self, dec_one, dec_zero]
theorem nm_pw {n m : Nat} (h : n + 1 ≤ 8) (hm : m < 2 ^ bw n) : nm (2 ^ bw n) m = 2 ^ bw n * m := by
  rw [nm_at (In.pw h) ((show In n m from ⟨by omega, hm⟩).up (Nat.le_succ n) h)]
  unfold nml
  rw [dec_pw, dec_up hm]
  show enc n (add n (mul n (one n) (zero n)) (add n (mul n (one n) (dec n m)) (mul n (zero n) (zero n)))) * 2 ^ bw n + enc n (add n (mul n (zero n) (dec n m)) (mul n (mul n (one n) (zero n)) (cst n))) = _
  rw [mul_zero, mul_zero, zero_mul, one_mul, zero_add, add_zero, zero_mul, add_zero, enc_zero, enc_dec n hm, Nat.add_zero, Nat.mul_comm]
theorem nm_pw_sq {n : Nat} (h : n + 1 ≤ 8) : nm (2 ^ bw n) (2 ^ bw n) = 2 ^ bw n + 2 ^ bw n / 2 := by
  rw [nm_at (In.pw h) (In.pw h)]
  unfold nml
  rw [dec_pw]
  show enc n (add n (mul n (one n) (one n)) (add n (mul n (one n) (zero n)) (mul n (zero n) (one n)))) * 2 ^ bw n + enc n (add n (mul n (zero n) (zero n)) (mul n (mul n (one n) (one n)) (cst n))) = _
  rw [mul_zero, zero_mul, zero_mul, one_mul, one_mul, add_zero, add_zero, zero_add, enc_one, enc_cst, Nat.one_mul]
  congr 1
  have p := bw_pos n
  obtain ⟨k, e⟩ : ∃ k, bw n = k + 1 := ⟨bw n - 1, by omega⟩
  rw [e, Nat.pow_succ, Nat.mul_div_cancel _ (by decide)]
  rfl
/-! squares by halves, roots of x x + x -/
theorem nm_sq_turn {n h l : Nat} (hn : n + 1 ≤ 8) (ih : In n h) (il : In n l) : nm (h * 2 ^ bw n + l) (h * 2 ^ bw n + l) = nm h h * 2 ^ bw n + (nm l l ^^^ nm (nm h h) (2 ^ (bw n - 1))) := by
  have p : 0 < 2 ^ bw n := Nat.two_pow_pos _
  have e1 : (h * 2 ^ bw n + l) / 2 ^ bw n = h := by rw [Nat.mul_comm, Nat.mul_add_div p, Nat.div_eq_of_lt il.lt, Nat.add_zero]
  have e2 : (h * 2 ^ bw n + l) % 2 ^ bw n = l := by rw [Nat.mul_comm, Nat.mul_add_mod, Nat.mod_eq_of_lt il.lt]
  have ia : In (n + 1) (h * 2 ^ bw n + l) := ⟨hn, by
    rw [bw_succ, Nat.pow_add]
    have := ih.lt
    calc h * 2 ^ bw n + l < h * 2 ^ bw n + 2 ^ bw n := by have := il.lt; omega
      _ = (h + 1) * 2 ^ bw n := by rw [Nat.succ_mul]
      _ ≤ 2 ^ bw n * 2 ^ bw n := Nat.mul_le_mul_right _ this⟩
  rw [nm_turn ia ia, e1, e2]
  congr 2
  rw [nm_xor, xor_nm, xor_nm, nm_comm l h]
  generalize nm h l = x
  generalize nm h h = y
  generalize nm l l = z
  have e : y ^^^ x ^^^ (x ^^^ z) ^^^ z = y ^^^ ((x ^^^ x) ^^^ (z ^^^ z)) := by ac_rfl
  rw [e, Nat.xor_self, Nat.xor_self, Nat.xor_zero, Nat.xor_zero]
theorem In.join {n h l : Nat} (hn : n + 1 ≤ 8) (ih : In n h) (il : In n l) : In (n + 1) (h * 2 ^ bw n + l) := ⟨hn, by
  rw [bw_succ, Nat.pow_add]
  have := ih.lt
  calc h * 2 ^ bw n + l < h * 2 ^ bw n + 2 ^ bw n := by have := il.lt; omega
    _ = (h + 1) * 2 ^ bw n := by rw [Nat.succ_mul]
    _ ≤ 2 ^ bw n * 2 ^ bw n := Nat.mul_le_mul_right _ this⟩
/-- x even, x x + x = a -/
structure Even2 (k a x : Nat) : Prop where
  inn : In k x
  ev : x % 2 = 0
  eq : nm x x ^^^ x = a
theorem sq_xor (a b : Nat) : nm (a ^^^ b) (a ^^^ b) = nm a a ^^^ nm b b := by
  rw [nm_xor, xor_nm, xor_nm, nm_comm b a]
  generalize nm a b = x
  generalize nm a a = y
  generalize nm b b = z
  have e : y ^^^ x ^^^ (x ^^^ z) = (y ^^^ z) ^^^ (x ^^^ x) := by ac_rfl
  rw [e, Nat.xor_self, Nat.xor_zero]
theorem pow_even {k : Nat} (h : 0 < k) : 2 ^ k % 2 = 0 := by
  obtain ⟨j, rfl⟩ : ∃ j, k = j + 1 := ⟨k - 1, by omega⟩
  rw [Nat.pow_succ]
  omega
theorem join_even {n h l : Nat} (hl : l % 2 = 0) : (h * 2 ^ bw n + l) % 2 = 0 := by
  have e := pow_even (bw_pos n)
  rw [Nat.add_mod, Nat.mul_mod, e, hl]
  rfl
/-- what the program's turn puts together -/
theorem Even2.join {n h l a b : Nat} (hn : n + 1 ≤ 8) (ih : In n h) (eh : nm h h ^^^ h = a) (el : Even2 n (b ^^^ nm (nm h h) (2 ^ (bw n - 1))) l) (ib : In n b) : Even2 (n + 1) (a * 2 ^ bw n + b) (h * 2 ^ bw n + l) := by
  refine ⟨In.join hn ih el.inn, join_even el.ev, ?_⟩
  have kc : In n (2 ^ (bw n - 1)) := In.cst (Nat.le_of_succ_le hn)
  rw [nm_sq_turn hn ih el.inn, xor_parts _ _ _ _ _ ((el.inn.nm el.inn).xor ((ih.nm ih).nm kc)).lt el.inn.lt, eh]
  congr 1
  have e := el.eq
  generalize nm (nm h h) (2 ^ (bw n - 1)) = c at *
  generalize nm l l = z at *
  have e2 : z ^^^ c ^^^ l = (z ^^^ l) ^^^ c := by ac_rfl
  rw [e2, e, Nat.xor_assoc, Nat.xor_self, Nat.xor_zero]
theorem sq_one_up (h : Nat) (ih : In 8 h) : nm (h ^^^ 1) (h ^^^ 1) ^^^ (h ^^^ 1) = nm h h ^^^ h := by
  rw [sq_xor, nm_one (In.one (Nat.le_refl 8))]
  generalize nm h h = y
  have e : y ^^^ 1 ^^^ (h ^^^ 1) = (y ^^^ h) ^^^ (1 ^^^ 1) := by ac_rfl
  rw [e, Nat.xor_self, Nat.xor_zero]
theorem cst_one_up {n : Nat} (h b : Nat) (hn : n ≤ 8) : b ^^^ nm (nm h h) (2 ^ (bw n - 1)) ^^^ 2 ^ (bw n - 1) = b ^^^ nm (nm (h ^^^ 1) (h ^^^ 1)) (2 ^ (bw n - 1)) := by
  have kc : In 8 (2 ^ (bw n - 1)) := (In.cst hn).top
  rw [sq_xor, nm_one (In.one (Nat.le_refl 8)), xor_nm, one_nm kc, Nat.xor_assoc]
/-- one more level where the highest bit is set -/
theorem Even2.above {l a x : Nat} (hl : l + 1 ≤ 8) (h : Even2 l (a ^^^ 2 ^ (bw l - 1)) x) : Even2 (l + 1) a (2 ^ bw l ^^^ x) := by
  refine ⟨(In.pw hl).xor (h.inn.up (Nat.le_succ l) hl), ?_, ?_⟩
  · have e : ∀ p q : Nat, (p ^^^ q) % 2 = p % 2 ^^^ q % 2 := fun p q => Nat.xor_mod_two_pow (n := 1)
    rw [e, pow_even (bw_pos l), h.ev]
    rfl
  · rw [sq_xor, nm_pw_sq hl]
    have p := bw_pos l
    have e1 : 2 ^ bw l / 2 = 2 ^ (bw l - 1) := by
      obtain ⟨k, e⟩ : ∃ k, bw l = k + 1 := ⟨bw l - 1, by omega⟩
      rw [e, Nat.pow_succ, Nat.mul_div_cancel _ (by decide)]
      rfl
    have e2 : 2 ^ bw l + 2 ^ (bw l - 1) = 2 ^ bw l ^^^ 2 ^ (bw l - 1) := by
      have q : 2 ^ (bw l - 1) < 2 ^ bw l := Nat.pow_lt_pow_right (by decide) (by omega)
      have x := xor_parts (bw l) 1 0 0 (2 ^ (bw l - 1)) (Nat.two_pow_pos _) q
      rw [Nat.one_mul, Nat.zero_mul, Nat.add_zero, Nat.zero_add, Nat.zero_xor, Nat.xor_zero, Nat.one_mul] at x
      exact x.symm
    rw [e1, e2]
    have e := h.eq
    generalize nm x x = z at *
    generalize 2 ^ bw l = f
    generalize 2 ^ (bw l - 1) = c at *
    have e3 : f ^^^ c ^^^ z ^^^ (f ^^^ x) = (f ^^^ f) ^^^ (c ^^^ (z ^^^ x)) := by ac_rfl
    rw [e3, e, Nat.xor_self, Nat.zero_xor, Nat.xor_comm a c, ← Nat.xor_assoc, Nat.xor_self, Nat.zero_xor]
theorem Even2.up {k m a x : Nat} (h : Even2 k a x) (hk : k ≤ m) (h8 : m ≤ 8) : Even2 m a x := ⟨h.inn.up hk h8, h.ev, h.eq⟩
/-! the roots of x x + m x + n -/
def IsRoot (m n x : Nat) : Prop := nm x x ^^^ nm m x ^^^ n = 0
theorem xor_eq_zero {a b : Nat} (h : a ^^^ b = 0) : a = b := by
  have h2 := congrArg (· ^^^ b) h
  simp only [Nat.xor_assoc, Nat.xor_self, Nat.xor_zero, Nat.zero_xor] at h2
  exact h2
theorem even_roots {m n e : Nat} (im : In 8 m) (in_ : In 8 n) (m0 : 0 < m) (h : Even2 8 (nm n (ninv (nm m m))) e) :
    IsRoot m n (nm m e) ∧ nm m (e ^^^ 1) = nm m e ^^^ m ∧ nm (nm m e) (nm m e ^^^ m) = n := by
  have e1 : nm m (e ^^^ 1) = nm m e ^^^ m := by rw [nm_xor, nm_one im]
  have pm : 0 < nm m m := (nm_pos im im).mpr ⟨m0, m0⟩
  have e2 : nm (nm m m) (nm n (ninv (nm m m))) = n := by
    rw [nm_comm n, ← nm_assoc, (ninv_ok (nm_in m m) pm).2, one_nm in_]
  have e3 : nm (nm m e) (nm m e) ^^^ nm m (nm m e) = n := by
    have q : nm (nm m e) (nm m e) = nm (nm m m) (nm e e) := by
      rw [nm_assoc, nm_assoc, ← nm_assoc e m e, nm_comm e m, nm_assoc m e e]
    rw [q, ← nm_assoc m m e, ← nm_xor, h.eq, e2]
  refine ⟨?_, e1, ?_⟩
  · unfold IsRoot
    rw [e3, Nat.xor_self]
  · rw [nm_xor, nm_comm (nm m e) m, e3]
theorem root_of {m n r x : Nat} (im : In 8 m) (ir : In 8 r) (ix : In 8 x) (hr : IsRoot m n r) (hx : IsRoot m n x) : x = r ∨ x = r ^^^ m := by
  have z : nm (x ^^^ r) (x ^^^ (r ^^^ m)) = 0 := by
    have h1 : nm r r ^^^ nm m r = n := xor_eq_zero hr
    have h2 : nm x x ^^^ nm m x = n := xor_eq_zero hx
    have e : nm (x ^^^ r) (x ^^^ (r ^^^ m)) = (nm x x ^^^ nm m x) ^^^ (nm r r ^^^ nm m r) ^^^ (nm x r ^^^ nm x r) := by
      rw [nm_xor, nm_xor, xor_nm, xor_nm, xor_nm, nm_comm r x, nm_comm x m, nm_comm r m]
      ac_rfl
    rw [e, h1, h2, Nat.xor_self, Nat.xor_self]
    rfl
  rcases nm_eq_zero (ix.xor ir) (ix.xor (ir.xor im)) z with z | z
  · exact .inl (xor_eq_zero z)
  · exact .inr (xor_eq_zero z)
/-- the answer of roots -/
def RootsOf (m n : Nat) (ns : List Nat) : Prop :=
  (m = 0 ∧ ns = [nrt n]) ∨ (0 < m ∧ ∃ r s, ns = [r, s] ∧ r < s ∧ In 7 r ∧ In 7 s ∧ IsRoot m n r ∧ IsRoot m n s ∧ r ^^^ s = m ∧ nm r s = n)
theorem RootsOf.uniq {m n : Nat} {ns ms : List Nat} (im : In 8 m) (h : RootsOf m n ns) (h' : RootsOf m n ms) : ns = ms := by
  rcases h with ⟨m0, rfl⟩ | ⟨m0, r, s, rfl, rs, ir, is, hr, hs, e, _⟩
  · rcases h' with ⟨_, rfl⟩ | ⟨c, _⟩
    · rfl
    · omega
  · rcases h' with ⟨c, _⟩ | ⟨_, r', s', rfl, rs', ir', is', hr', hs', e', _⟩
    · omega
    · have es : s = r ^^^ m := by rw [← e, ← Nat.xor_assoc, Nat.xor_self, Nat.zero_xor]
      have es' : s' = r' ^^^ m := by rw [← e', ← Nat.xor_assoc, Nat.xor_self, Nat.zero_xor]
      rcases root_of im ir.top ir'.top hr hr' with q | q
      · rw [es, es', q]
      · exfalso
        have q2 : s' = r := by rw [es', q, Nat.xor_assoc, Nat.xor_self, Nat.xor_zero]
        omega
end Nim
set_option Elab.async false
set_option linter.all false
set_option maxRecDepth 100000
set_option maxHeartbeats 4000000
/-! Lists of numbers: compared, sorted. -/
namespace N
open PySem PySem.Spec PyProof.Rows L2
/-- a list of naturals as values -/
def NL (ns : List Nat) : List V := ns.map fun n : Nat => V.int (n : Int)
theorem NL_eq (ns : List Nat) : NL ns = (ns.map fun n : Nat => (n : Int)).map V.int := by
  unfold NL
  rw [List.map_map]
  rfl
theorem NL_length (ns : List Nat) : (NL ns).length = ns.length := List.length_map _
theorem eqvAll_ints : ∀ xs ys : List Int, PyData.eqvAll (xs.map PyData.int) (ys.map PyData.int) = decide (xs = ys)
  | [], [] => rfl
  | [], _ :: _ => rfl
  | _ :: _, [] => rfl
  | x :: xs, y :: ys => by
    show (PyData.eqv (.int x) (.int y) && PyData.eqvAll (xs.map PyData.int) (ys.map PyData.int)) = _
    rw [eqvAll_ints xs ys]
    have e : PyData.eqv (.int x) (.int y) = decide (x = y) := by
      show (x == y) = _
      exact Bool.beq_eq_decide_eq x y
    rw [e]
    by_cases c : x = y <;> by_cases c2 : xs = ys <;> simp [c, c2]
theorem eqv_ints (xs ys : List Int) : PyData.eqv (.list (xs.map PyData.int)) (.list (ys.map PyData.int)) = decide (xs = ys) := eqvAll_ints xs ys
theorem dp_ints {K : PySem.W.Frag} {H : Hp} : ∀ xs : List Int, DpAll K H (xs.map V.int) (xs.map PyData.int)
  | [] => .nil
  | x :: xs => .cons (.int x) (dp_ints xs)
theorem cast_inj : ∀ {ns ms : List Nat}, (ns.map fun n : Nat => (n : Int)) = (ms.map fun n : Nat => (n : Int)) ↔ ns = ms
  | ns, ms => by
    constructor
    · intro h
      have h2 := congrArg (List.map Int.toNat) h
      simpa [List.map_map, Function.comp_def] using h2
    · intro h
      rw [h]
section
variable {X : Cx}
/-- two lists of naturals -/
def rEqLN (K : PySem.W.Frag) (f : Bool → Bool) : R2 := fun x y H Q => ∃ (p q : Addr) (ns ms : List Nat), x = .ref p ∧ y = .ref q ∧ SqL K H p (NL ns) ∧ SqL K H q (NL ms) ∧ Q (.bl (f (decide (ns = ms)))) H
theorem op_eqLN (hu : X.A.units + 64 < cLine) : OpR X (compareOp .Eq) (rEqLN X.K id) := by
  intro pins s σ H x y v u Q I rx ry h
  obtain ⟨p, q, ns, ms, rfl, rfl, h1, h2, k⟩ := h
  rw [NL_eq] at h1 h2
  refine op_eqD hu pins s σ H _ _ v u Q I rx ry ⟨_, _, .lst h1 (dp_ints _), .lst h2 (dp_ints _), PySem.W.ke_shaped_ints _, PySem.W.ke_shaped_ints _, ?_⟩
  rw [eqv_ints, decide_eq_decide.mpr cast_inj]
  exact k
theorem op_neLN (hu : X.A.units + 64 < cLine) : OpR X (compareOp .NotEq) (rEqLN X.K not) := by
  intro pins s σ H x y v u Q I rx ry h
  obtain ⟨p, q, ns, ms, rfl, rfl, h1, h2, k⟩ := h
  rw [NL_eq] at h1 h2
  refine op_neD hu pins s σ H _ _ v u Q I rx ry ⟨_, _, .lst h1 (dp_ints _), .lst h2 (dp_ints _), PySem.W.ke_shaped_ints _, PySem.W.ke_shaped_ints _, ?_⟩
  rw [eqv_ints, decide_eq_decide.mpr cast_inj]
  exact k
theorem perm2 {p q x y : Int} (h : [p, q].Perm [x, y]) : (p = x ∧ q = y) ∨ (p = y ∧ q = x) := by
  have hm : p ∈ [x, y] := h.mem_iff.mp (by simp)
  rcases List.mem_cons.mp hm with e | e
  · subst e
    have h2 := h.cons_inv
    exact .inl ⟨rfl, List.perm_singleton.mp h2 |> fun z => by simpa using z⟩
  · have e : p = y := by simpa using e
    subst e
    have h2 := (h.trans (List.Perm.swap _ _ _)).cons_inv
    exact .inr ⟨rfl, List.perm_singleton.mp h2 |> fun z => by simpa using z⟩
/-- sorted([x, y]) of naturals -/
def rSort2 (K : PySem.W.Frag) : List V → Hp → VK → Prop := fun vs H Q => ∃ (a : Addr) (x y : Nat), vs = [V.ref a] ∧ SqL K H a (NL [x, y]) ∧ ∀ p, H p = none → Q (.ref p) (upd H p (.lst (NL [min x y, max x y])))
theorem cr_sort2 : CallR X (.builtin "sorted") (rSort2 X.K) := by
  intro pins s σ H vs us Q I r h
  obtain ⟨a, x, y, rfl, hs, q⟩ := h
  refine cr_sortedI pins s σ H _ us Q I r ⟨a, [(x : Int), (y : Int)], rfl, hs, fun ns' p perm rise np => ?_⟩
  have hl := perm.length_eq
  match ns', hl with
  | [b, c], _ =>
    have le : b ≤ c := by simpa using rise
    have e : ([b, c] : List Int).map V.int = NL [min x y, max x y] := by
      rcases perm2 perm with ⟨rfl, rfl⟩ | ⟨rfl, rfl⟩
      · have h1 : min x y = x := by omega
        have h2 : max x y = y := by omega
        rw [h1, h2]
        rfl
      · have h1 : min x y = y := by omega
        have h2 : max x y = x := by omega
        rw [h1, h2]
        rfl
    rw [e]
    exact q p np
end
end N
set_option linter.all false
/-! More of the field: what undoes products, roots of sums, powers in turn. -/
namespace Nim
theorem ninv_in (a : Nat) : In 8 (ninv a) := by
  unfold ninv
  split
  · rename_i h
    exact (Classical.choose_spec h).1
  · exact In.zero (by decide)
theorem nrt_in (a : Nat) : In 8 (nrt a) := by
  unfold nrt
  split
  · rename_i h
    exact (Classical.choose_spec h).1
  · exact In.zero (by decide)
theorem pos_nm {a b : Nat} (ia : In 8 a) (ib : In 8 b) (ha : 0 < a) (hb : 0 < b) : 0 < nm a b := (nm_pos ia ib).mpr ⟨ha, hb⟩
theorem nm_inv {a : Nat} (ia : In 8 a) (ha : 0 < a) : nm a (ninv a) = 1 := (ninv_ok ia ha).2
theorem inv_nm {a : Nat} (ia : In 8 a) (ha : 0 < a) : nm (ninv a) a = 1 := by rw [nm_comm, nm_inv ia ha]
theorem nm_left_comm (a b c : Nat) : nm a (nm b c) = nm b (nm a c) := by rw [← nm_assoc, nm_comm a b, nm_assoc]
theorem nm_swap (a b c d : Nat) : nm (nm a b) (nm c d) = nm (nm a c) (nm b d) := by
  rw [nm_assoc, nm_assoc]
  congr 1
  rw [nm_left_comm]
theorem ninv_mul {a b : Nat} (ia : In 8 a) (ib : In 8 b) (ha : 0 < a) (hb : 0 < b) : ninv (nm a b) = nm (ninv a) (ninv b) := by
  refine ninv_eq (nm_in a b) (nm_in _ _) (pos_nm ia ib ha hb) ?_
  rw [nm_swap, nm_inv ia ha, nm_inv ib hb, nm_one (In.one (by decide))]
theorem nrt_mul {a b : Nat} (ia : In 8 a) (ib : In 8 b) : nrt (nm a b) = nm (nrt a) (nrt b) := by
  refine nrt_eq (nm_in a b) (nm_in _ _) ?_
  rw [nm_swap, (nrt_ok ia).2, (nrt_ok ib).2]
theorem nrt_xor {a b : Nat} (ia : In 8 a) (ib : In 8 b) : nrt (a ^^^ b) = nrt a ^^^ nrt b := by
  refine nrt_eq (ia.xor ib) ((nrt_in a).xor (nrt_in b)) ?_
  rw [sq_xor, (nrt_ok ia).2, (nrt_ok ib).2]
theorem nrt_pos {a : Nat} (ia : In 8 a) (ha : 0 < a) : 0 < nrt a := Nat.pos_of_ne_zero fun e => by
  have := (nrt_ok ia).2
  rw [e, nm_zero] at this
  omega
theorem nrt_inv {a : Nat} (ia : In 8 a) (ha : 0 < a) : nrt (ninv a) = ninv (nrt a) := by
  refine nrt_eq (ninv_in a) (ninv_in _) ?_
  rw [← ninv_mul (nrt_in a) (nrt_in a) (nrt_pos ia ha) (nrt_pos ia ha), (nrt_ok ia).2]
theorem npow_two {a : Nat} (ia : In 8 a) : npow a 2 = nm a a := by
  show nm (nm 1 a) a = nm a a
  rw [one_nm ia]
theorem npow_pos {a : Nat} (ia : In 8 a) (ha : 0 < a) : ∀ k, 0 < npow a k
  | 0 => Nat.one_pos
  | k + 1 => pos_nm (npow_in ia k) ia (npow_pos ia ha k) ha
theorem npow_inv {a : Nat} (ia : In 8 a) (ha : 0 < a) (k : Nat) : npow (ninv a) k = ninv (npow a k) := by
  refine (ninv_eq (npow_in ia k) (npow_in (ninv_in a) k) (npow_pos ia ha k) ?_).symm
  rw [← npow_mul, nm_inv ia ha]
  exact one_pow k
where
  one_pow : ∀ k, npow 1 k = 1
  | 0 => rfl
  | k + 1 => by
    show nm (npow 1 k) 1 = 1
    rw [one_pow k, nm_one (In.one (by decide))]
theorem nrt_pow {a : Nat} (ia : In 8 a) (k : Nat) : nrt (npow a (2 * k)) = npow a k := by
  refine nrt_eq (npow_in ia _) (npow_in ia k) ?_
  rw [← npow_add ia, Nat.two_mul]
theorem pow_nrt {a : Nat} (ia : In 8 a) (k : Nat) : npow (nrt a) (2 * k) = npow a k := by
  rw [← npow_dbl (nrt_in a), (nrt_ok ia).2]
theorem npow_xor {a b : Nat} (ia : In 8 a) (ib : In 8 b) : ∀ k, npow (a ^^^ b) (2 ^ k) = npow a (2 ^ k) ^^^ npow b (2 ^ k)
  | 0 => by
    show npow (a ^^^ b) 1 = npow a 1 ^^^ npow b 1
    rw [npow_one (ia.xor ib), npow_one ia, npow_one ib]
  | k + 1 => by
    have e : 2 ^ (k + 1) = 2 ^ k + 2 ^ k := by omega
    rw [e, npow_add (ia.xor ib), npow_add ia, npow_add ib, npow_xor ia ib k, sq_xor]
theorem quot_quot {a b c : Nat} (ia : In 8 a) (ib : In 8 b) (ha : 0 < a) (hb : 0 < b) : nm c (ninv (nm a b)) = nm (nm c (ninv a)) (ninv b) := by
  rw [ninv_mul ia ib ha hb, nm_assoc]
theorem quot_one {a b : Nat} (ia : In 8 a) (ib : In 8 b) (ha : 0 < a) (hb : 0 < b) : nm (nm a (ninv b)) (nm b (ninv a)) = 1 := by
  rw [nm_comm b, nm_swap, nm_inv ia ha, inv_nm ib hb, nm_one (In.one (by decide))]
theorem root_scale {m n r k : Nat} (h : IsRoot m n r) : IsRoot (nm m k) (nm n (nm k k)) (nm r k) := by
  unfold IsRoot at h ⊢
  rw [nm_swap r k r k, nm_swap m k r k, ← xor_nm, ← xor_nm, h, zero_nm]
theorem root_move {m n r x : Nat} (h : IsRoot m n r) : IsRoot m (n ^^^ (nm x x ^^^ nm m x)) (r ^^^ x) := by
  unfold IsRoot at h ⊢
  rw [sq_xor, nm_xor]
  generalize nm r r = a at *
  generalize nm m r = b at *
  generalize nm x x = c
  generalize nm m x = d
  have e : a ^^^ c ^^^ (b ^^^ d) ^^^ (n ^^^ (c ^^^ d)) = (a ^^^ b ^^^ n) ^^^ ((c ^^^ c) ^^^ (d ^^^ d)) := by ac_rfl
  rw [e, h, Nat.xor_self, Nat.xor_self]
  rfl
/-- two roots that are told, in order -/
theorem RootsOf.two {m n r s : Nat} (m0 : 0 < m) (ir : In 7 r) (is : In 7 s) (hr : IsRoot m n r) (hs : IsRoot m n s) (e : r ^^^ s = m) (p : nm r s = n) : RootsOf m n [min r s, max r s] := by
  have ne : r ≠ s := fun q => by
    rw [q, Nat.xor_self] at e
    omega
  rcases Nat.lt_or_gt_of_ne ne with c | c
  · rw [Nat.min_eq_left (Nat.le_of_lt c), Nat.max_eq_right (Nat.le_of_lt c)]
    exact .inr ⟨m0, r, s, rfl, c, ir, is, hr, hs, e, p⟩
  · rw [Nat.min_eq_right (Nat.le_of_lt c), Nat.max_eq_left (Nat.le_of_lt c)]
    exact .inr ⟨m0, s, r, rfl, c, is, ir, hs, hr, by rw [Nat.xor_comm]; exact e, by rw [nm_comm]; exact p⟩
theorem RootsOf.scale {m n r s k : Nat} (i8m : In 8 m) (k0 : 0 < k) (ik : In 7 k) (h : RootsOf m n [r, s]) : RootsOf (nm m k) (nm n (nm k k)) [min (nm r k) (nm s k), max (nm r k) (nm s k)] := by
  rcases h with ⟨_, h⟩ | ⟨m0, r', s', h, lt, ir, is, hr, hs, e, p⟩
  · cases h
  · injection h with h1 h2
    injection h2 with h2 _
    subst h1
    subst h2
    refine RootsOf.two (pos_nm i8m ik.top m0 k0) (ir.nm ik) (is.nm ik) (root_scale hr) (root_scale hs) ?_ ?_
    · rw [← xor_nm, e]
    · rw [nm_swap, p]
theorem RootsOf.move {m n r s x : Nat} (i8m : In 8 m) (ix : In 7 x) (h : RootsOf m n [r, s]) : RootsOf m (n ^^^ (nm x x ^^^ nm m x)) [min (r ^^^ x) (s ^^^ x), max (r ^^^ x) (s ^^^ x)] := by
  rcases h with ⟨_, h⟩ | ⟨m0, r', s', h, lt, ir, is, hr, hs, e, p⟩
  · cases h
  · injection h with h1 h2
    injection h2 with h2 _
    subst h1
    subst h2
    have e2 : r ^^^ x ^^^ (s ^^^ x) = r ^^^ s := by
      have q : r ^^^ x ^^^ (s ^^^ x) = r ^^^ s ^^^ (x ^^^ x) := by ac_rfl
      rw [q, Nat.xor_self, Nat.xor_zero]
    refine RootsOf.two m0 (ir.xor ix) (is.xor ix) (root_move hr) (root_move hs) (e2.trans e) ?_
    rw [nm_xor, xor_nm, xor_nm, p, nm_comm x s, ← e, xor_nm]
    generalize nm r x = a
    generalize nm s x = b
    generalize nm x x = c
    ac_rfl
end Nim
set_option Elab.async false
set_option linter.all false
set_option maxRecDepth 100000
set_option maxHeartbeats 4000000
namespace N
open PySem PySem.Spec PyProof.Rows L2
def top (i : Nat) : Stmt := PySem.Challenge.pw_nimhouse_k23_whole_field_agrees.main.body.getD i (.Pass ⟨0, 0, 0, 0⟩)
structure Txt (K : PySem.W.Frag) (mg : Str → Option Value) : Prop where
  n_isinstance : mg "isinstance" = none
  n_int : mg "int" = none
  n_bool : mg "bool" = none
  n_len : mg "len" = none
  g_is_whole : mg "is_whole" = some (.ref (He.ga K "is_whole"))
  n_max : mg "max" = none
  g_level_of : mg "level_of" = some (.ref (He.ga K "level_of"))
  g_parted : mg "parted" = some (.ref (He.ga K "parted"))
  g_times : mg "times" = some (.ref (He.ga K "times"))
  c_BITS : ∃ t, mg "BITS" = some (.int 256 t)
  g_asked_number : mg "asked_number" = some (.ref (He.ga K "asked_number"))
  g_undone : mg "undone" = some (.ref (He.ga K "undone"))
  g_inverse : mg "inverse" = some (.ref (He.ga K "inverse"))
  g_root : mg "root" = some (.ref (He.ga K "root"))
  g_settled : mg "settled" = some (.ref (He.ga K "settled"))
  g_settled_above : mg "settled_above" = some (.ref (He.ga K "settled_above"))
  n_sorted : mg "sorted" = none
  g_product : mg "product" = some (.ref (He.ga K "product"))
  g_quotient : mg "quotient" = some (.ref (He.ga K "quotient"))
  g_added : mg "added" = some (.ref (He.ga K "added"))
  g_power : mg "power" = some (.ref (He.ga K "power"))
  n_range : mg "range" = none
  g_roots : mg "roots" = some (.ref (He.ga K "roots"))
  n_all : mg "all" = none
  g__law_cell_at : mg "_law_cell_at" = some (.ref (He.ga K "_law_cell_at"))
  g__law_number_by : mg "_law_number_by" = some (.ref (He.ga K "_law_number_by"))
  g__law_products_right : mg "_law_products_right" = some (.ref (He.ga K "_law_products_right"))
  g__law_powers_right : mg "_law_powers_right" = some (.ref (He.ga K "_law_powers_right"))
  g__law_roots_right : mg "_law_roots_right" = some (.ref (He.ga K "_law_roots_right"))
  g_law : mg "law" = some (.ref (He.ga K "law"))
  f_is_whole : ∃ fd, FunD K "is_whole" "is_whole" (defArgs (top 6)) (defBody (top 6)) (defScope (top 6)) [] [] (He.ga K "is_whole") fd
  f__law_cell_at : ∃ fd, FunD K "_law_cell_at" "_law_cell_at" (defArgs (top 23)) (defBody (top 23)) (defScope (top 23)) [] [] (He.ga K "_law_cell_at") fd
  f_asked_number : ∃ fd, FunD K "asked_number" "asked_number" (defArgs (top 7)) (defBody (top 7)) (defScope (top 7)) [] [] (He.ga K "asked_number") fd
  f_level_of : ∃ fd, FunD K "level_of" "level_of" (defArgs (top 8)) (defBody (top 8)) (defScope (top 8)) [] [] (He.ga K "level_of") fd
  f_parted : ∃ fd, FunD K "parted" "parted" (defArgs (top 9)) (defBody (top 9)) (defScope (top 9)) [] [] (He.ga K "parted") fd
  f_times : ∃ fd, FunD K "times" "times" (defArgs (top 12)) (defBody (top 12)) (defScope (top 12)) [] [] (He.ga K "times") fd
  f_product : ∃ fd, FunD K "product" "product" (defArgs (top 13)) (defBody (top 13)) (defScope (top 13)) [] [] (He.ga K "product") fd
  f__law_number_by : ∃ fd, FunD K "_law_number_by" "_law_number_by" (defArgs (top 24)) (defBody (top 24)) (defScope (top 24)) [] [] (He.ga K "_law_number_by") fd
  f_added : ∃ fd, FunD K "added" "added" (defArgs (top 11)) (defBody (top 11)) (defScope (top 11)) [] [] (He.ga K "added") fd
  f_undone : ∃ fd, FunD K "undone" "undone" (defArgs (top 15)) (defBody (top 15)) (defScope (top 15)) [] [] (He.ga K "undone") fd
  f_inverse : ∃ fd, FunD K "inverse" "inverse" (defArgs (top 16)) (defBody (top 16)) (defScope (top 16)) [] [] (He.ga K "inverse") fd
  f_quotient : ∃ fd, FunD K "quotient" "quotient" (defArgs (top 17)) (defBody (top 17)) (defScope (top 17)) [] [] (He.ga K "quotient") fd
  f_power : ∃ fd, FunD K "power" "power" (defArgs (top 14)) (defBody (top 14)) (defScope (top 14)) [] [] (He.ga K "power") fd
  f_root : ∃ fd, FunD K "root" "root" (defArgs (top 18)) (defBody (top 18)) (defScope (top 18)) [] [] (He.ga K "root") fd
  f_settled : ∃ fd, FunD K "settled" "settled" (defArgs (top 19)) (defBody (top 19)) (defScope (top 19)) [] [] (He.ga K "settled") fd
  f_settled_above : ∃ fd, FunD K "settled_above" "settled_above" (defArgs (top 20)) (defBody (top 20)) (defScope (top 20)) [] [] (He.ga K "settled_above") fd
  f_roots : ∃ fd, FunD K "roots" "roots" (defArgs (top 21)) (defBody (top 21)) (defScope (top 21)) [] [] (He.ga K "roots") fd
  f__law_products_right : ∃ fd, FunD K "_law_products_right" "_law_products_right" (defArgs (top 25)) (defBody (top 25)) (defScope (top 25)) [] [] (He.ga K "_law_products_right") fd
  f__law_powers_right : ∃ fd, FunD K "_law_powers_right" "_law_powers_right" (defArgs (top 26)) (defBody (top 26)) (defScope (top 26)) [] [] (He.ga K "_law_powers_right") fd
  f__law_roots_right : ∃ fd, FunD K "_law_roots_right" "_law_roots_right" (defArgs (top 27)) (defBody (top 27)) (defScope (top 27)) [] [] (He.ga K "_law_roots_right") fd
  f_law : ∃ fd, FunD K "law" "law" (defArgs (top 28)) (defBody (top 28)) (defScope (top 28)) [] [] (He.ga K "law") fd
section
variable {P : Program} {w : World} {K : PySem.W.Frag} {mg : Str → Option Value} {base : Heap}
local macro_rules | `(tactic| walk_at "rd") => `(tactic| repeat (first
  | (refine ⟨_, rfl, ?_⟩)
  | (refine ⟨_, _, rfl, rfl, ?_⟩)
  | (refine ⟨rfl, ?_⟩)
  | (refine ⟨_, _, _, rfl, (by assumption : SqL _ _ _ _), ?_⟩)
  | (refine ⟨(by decide : (0 : Int) < _), ?_⟩)
  | (refine ⟨(by decide : (0 : Nat) < _), ?_⟩)
  | (refine ⟨(⟨by decide, by decide⟩ : CDiv _ _), ?_⟩)
  | (refine ⟨(⟨by decide, by decide⟩ : (0 : Nat) < _ ∧ _ < 1073741824), ?_⟩)
  | (refine ⟨(Or.inr (by decide) : _ < 2 ^ 64 ∨ _ < 2 ^ 64), ?_⟩)
  | (refine ⟨(Or.inl (by decide) : _ < 2 ^ 64 ∨ _ < 2 ^ 64), ?_⟩)
  | (refine ⟨(Or.inr ⟨by decide, by decide⟩ : CMul _ _), ?_⟩)
  | (refine ⟨(Or.inl ⟨by decide, by decide⟩ : CMul _ _), ?_⟩)))

theorem small256 {k : Nat} (h : k < 1000000) : k < 2 ^ 256 := Nat.lt_of_lt_of_le h (by decide)
local macro_rules | `(tactic| walk_at "in8") => `(tactic| first
  | assumption
  | exact Nim.nm_in _ _
  | exact Nim.ninv_in _
  | exact Nim.nrt_in _
  | exact Nim.npow_in (by walk_at "in8") _
  | exact Nim.In.xor (by walk_at "in8") (by walk_at "in8"))
local macro_rules | `(tactic| walk_at "pos") => `(tactic| first
  | assumption
  | exact Nim.pos_nm (by walk_at "in8") (by walk_at "in8") (by walk_at "pos") (by walk_at "pos")
  | exact Nim.nrt_pos (by walk_at "in8") (by walk_at "pos")
  | exact Nim.ninv_pos (by walk_at "in8") (by walk_at "pos")
  | exact Nim.npow_pos (by walk_at "in8") (by walk_at "pos") _)
local macro_rules | `(tactic| walk_at "rf") => `(tactic| repeat (first
  | (refine ⟨_, rfl, ?_⟩)
  | (refine ⟨_, _, rfl, rfl, ?_⟩)
  | (refine ⟨rfl, ?_⟩)
  | (refine ⟨_, _, rfl, (by walk_at "in8" : Nim.In 8 _), (by walk_at "in8" : Nim.In 8 _), fun _ _ => ?_⟩)
  | (refine ⟨_, _, rfl, (by walk_at "in8" : Nim.In 8 _), (by walk_at "in8" : Nim.In 8 _), (by walk_at "pos"), fun _ _ => ?_⟩)
  | (refine ⟨(by walk_at "in8" : Nim.In 8 _), (by walk_at "pos" : 0 < _), fun _ _ => ?_⟩)
  | (refine ⟨(by walk_at "in8" : Nim.In 8 _), fun _ _ => ?_⟩)
  | (refine ⟨_, _, rfl, (by walk_at "in8" : Nim.In 8 _).lt, (by walk_at "in8" : Nim.In 8 _).lt, ?_⟩)
  | (refine ⟨_, _, rfl, (by walk_at "in8" : Nim.In 8 _), (by first | assumption | exact small256 (by omega)), fun _ _ => ?_⟩)))
local macro_rules | `(tactic| walk_at "same") => `(tactic| repeat (first | assumption | exact Same.refl _ | (refine Same.trans ?_ (by assumption))))

/-! ### whole numbers, cells of the script -/
/-- is it a whole number -/
def sp_is_whole (K : PySem.W.Frag) : Sp := fun vs H Q _ => ∃ (x : V) (t : String) (b1 b2 : Bool), vs = [x] ∧ TyX K H x (.type t) ∧ kitB t "int" = some b1 ∧ kitB t "bool" = some b2 ∧ Q (.bl (b1 && !b2)) H
theorem whole_int {K : PySem.W.Frag} {i : Int} {H : Hp} {Q : VK} {E : XK} (h : Q (.bl true) H) : sp_is_whole K [.int i] H Q E :=
  ⟨_, "int", true, false, rfl, .base (.int i), by decide +kernel, by decide +kernel, h⟩

abbrev s_is_whole : Stmt := top 6
theorem sc_is_whole : FnScope ["number"] ["number"] (defScope s_is_whole) := ⟨rfl, rfl, rfl, by decide +kernel, rfl, by decide +kernel, by decide +kernel⟩
theorem ok_is_whole (T : Txt K mg) : Dn P w K mg base CX0 1 (He.ga K "is_whole") ["number"] (sp_is_whole K) := by
  refine dn_of (k := 0) T.f_is_whole sc_is_whole (fun _ _ _ _ _ _ us hl => match us, hl with | [_], _ => rfl) (fun cdv A outer s H vs Q E hr h => ?_)
  obtain ⟨x, t, b1, b2, rfl, ht, h1, h2, q⟩ := h
  refine ⟨_, PSs.nox (pss_one (ps_ret (pe_and (pe_callB call_isi (by rfl) T.n_isinstance (by decide +kernel) (pa_cons (pv 0) (pa_cons (pe_bltn (v := .ty "int") rfl T.n_int (by decide +kernel) rfl) pa_nil))) (pe_one (pe_not (pe_callB call_isi (by rfl) T.n_isinstance (by decide +kernel) (pa_cons (pv 0) (pa_cons (pe_bltn (v := .ty "bool") rfl T.n_bool (by decide +kernel) rfl) pa_nil)))))))), ?_⟩
  refine ⟨_, rfl, x, _, _, _, b1, rfl, .ty _, ht, kit_ty h1, b1, rfl, ?_⟩
  cases b1
  · exact iteF q
  · refine iteT ?_
    exact ⟨_, rfl, x, _, _, _, b2, rfl, .ty _, ht, kit_ty h2, b2, rfl, q⟩

def cell (ns : List Int) (k : Nat) : Int := ns.getD k 0
def sp__law_cell_at (K : PySem.W.Frag) : Sp := fun vs H Q _ => ∃ (a : Addr) (ns : List Int) (k : Nat), vs = [.ref a, .int (k : Int)] ∧ SqL K H a (ns.map V.int) ∧ Q (.int (cell ns k)) H
abbrev s__law_cell_at : Stmt := top 23
theorem sc__law_cell_at : FnScope ["_law_script", "_law_k"] ["_law_script", "_law_k"] (defScope s__law_cell_at) := ⟨rfl, rfl, rfl, by decide +kernel, rfl, by decide +kernel, by decide +kernel⟩
theorem ok__law_cell_at (T : Txt K mg) : Dn P w K mg base CX0 1 (He.ga K "_law_cell_at") ["_law_script", "_law_k"] (sp__law_cell_at K) := by
  refine dn_of (k := 0) T.f__law_cell_at sc__law_cell_at (fun _ _ _ _ _ _ us hl => match us, hl with | [_, _], _ => rfl) (fun cdv A outer s H vs Q E hr h => ?_)
  obtain ⟨a, ns, k, rfl, hS, q⟩ := h
  refine ⟨_, PSs.nox (pss_cons (ps_if (pt_cmpR op_ltn (pv 1) (pe_callB call_len_seq (by rfl) T.n_len PySem.boot_len (pa_cons (pv 0) pa_nil)) (nomark _)) (pss_one (ps_ret (pe_ix ix_list (pv 0) (pv 1) (fun _ _ => rfl)))) pss_nil)
      (pss_one (ps_ret (pe_nat 0)))), ?_⟩
  refine ⟨_, rfl, _, rfl, a, _, rfl, .inl hS, _, _, rfl, rfl, _, rfl, ?_⟩
  rw [List.length_map]
  refine ifN (fun c => ?_) (fun c => ?_)
  · refine ⟨_, rfl, _, rfl, a, _, _, _, rfl, rfl, hS, atI_nat (j := k) (v := .int (cell ns k)) ?_, q⟩
    unfold cell
    simp [c]
  · have e : cell ns k = 0 := by unfold cell; simp [List.getD, List.getElem?_eq_none (Nat.not_lt.mp c)]
    rw [e] at q
    exact q

/-! ### asked_number (of a number that is none is nothing said here) -/
theorem bits_nat {n k : Nat} (h : n < 2 ^ k) : Builtin.Int.intBits (n : Int) ≤ k := intBits_le (by simpa using h)
theorem nat_bits {n k : Nat} (h : Builtin.Int.intBits (n : Int) ≤ k) : n < 2 ^ k := by
  have := natAbs_lt_pow_bits (n : Int)
  exact Nat.lt_of_lt_of_le (by simpa using this) (Nat.pow_le_pow_right (by decide) h)
def sp_asked_number (K : PySem.W.Frag) : Sp := fun vs H Q _ => ∃ n m : Nat, vs = [.int (n : Int), .int (m : Int)] ∧ n < 2 ^ m ∧ Q (.int (n : Int)) H
abbrev s_asked_number : Stmt := top 7
theorem sc_asked_number : FnScope ["number", "bits"] ["number", "bits"] (defScope s_asked_number) := ⟨rfl, rfl, rfl, by decide +kernel, rfl, by decide +kernel, by decide +kernel⟩
theorem ok_asked_number (T : Txt K mg) (d_is_whole : Dn P w K mg base CX0 1 (He.ga K "is_whole") ["number"] (sp_is_whole K)) : Dn P w K mg base CX0 2 (He.ga K "asked_number") ["number", "bits"] (sp_asked_number K) := by
  refine dn_of (k := 1) T.f_asked_number sc_asked_number (fun _ _ _ _ _ _ us hl => match us, hl with | [_, _], _ => rfl) (fun cdv A outer s H vs Q E hr h => ?_)
  obtain ⟨n, m, rfl, hn, q⟩ := h
  refine ⟨_, PSs.nox (pss_cons (ps_if (PW.pt (pw_or (pt_not (pt_val (pe_cl d_is_whole (hr.mono (by omega)) T.g_is_whole pass0 (pa_cons (pv 0) pa_nil)))) (pw_or (pt_cmpR op_ltn (pv 0) (pe_nat 0) (nomark _)) (pw_or1 (pt_cmpR op_gtn (pe_bits (pv 0)) (pv 1) (nomark _)))))) (pss_one ps_never) pss_nil)
      (pss_one (ps_ret (pv 0)))), ?_⟩
  refine ⟨_, rfl, rfl, whole_int ?_⟩
  refine ⟨_, rfl, iteF ⟨_, rfl, _, _, rfl, rfl, _, rfl, ifN (fun c => absurd c (Nat.not_lt_zero _)) (fun _ => ?_)⟩⟩
  refine ⟨_, rfl, _, rfl, _, rfl, _, _, rfl, rfl, _, rfl, ifN (fun c => absurd c (Nat.not_lt.mpr (bits_nat hn))) (fun _ => ?_)⟩
  exact ⟨_, rfl, q⟩

/-! ### levels, halves, products -/
open Nim in
/-- l: how often 2 is to be squared to lie above n -/
def IsLv (n l : Nat) : Prop := ∀ j, j < l ↔ 2 ^ 2 ^ j ≤ n
theorem pow2_mono {i j : Nat} (h : i ≤ j) : 2 ^ 2 ^ i ≤ 2 ^ 2 ^ j := Nat.pow_le_pow_right (by decide) (Nat.pow_le_pow_right (by decide) h)
theorem IsLv.of {n l : Nat} (h1 : ∀ j, j < l → 2 ^ 2 ^ j ≤ n) (h2 : n < 2 ^ 2 ^ l) : IsLv n l := fun j => ⟨h1 j, fun h => Nat.lt_of_not_le fun c => absurd (Nat.le_trans (pow2_mono c) h) (Nat.not_le.mpr h2)⟩
theorem IsLv.lt {n l : Nat} (h : IsLv n l) : n < 2 ^ 2 ^ l := Nat.lt_of_not_le fun c => absurd ((h l).mpr c) (Nat.lt_irrefl _)
theorem IsLv.le {n l k : Nat} (h : IsLv n l) (hk : n < 2 ^ 2 ^ k) : l ≤ k := Nat.le_of_not_lt fun c => absurd ((h k).mp c) (Nat.not_le.mpr hk)
theorem IsLv.pos {n l : Nat} (h : IsLv n l) (hn : 2 ≤ n) : 0 < l := (h 0).mpr hn
def sp_level_of (K : PySem.W.Frag) : Sp := fun vs H Q _ => ∃ n : Nat, vs = [.int (n : Int)] ∧ n < 2 ^ 256 ∧ ∀ l : Nat, IsLv n l → Q (.int (l : Int)) H
abbrev s_level_of : Stmt := top 8
theorem sc_level_of : FnScope ["number", "level"] ["number"] (defScope s_level_of) := ⟨rfl, rfl, rfl, by decide +kernel, rfl, by decide +kernel, by decide +kernel⟩
theorem ok_level_of (T : Txt K mg) : Dn P w K mg base CX0 1 (He.ga K "level_of") ["number"] (sp_level_of K) := by
  refine dn_of (k := 0) T.f_level_of sc_level_of (fun _ _ _ _ _ _ us hl => match us, hl with | [_], _ => rfl) (fun cdv A outer s H vs Q E hr h => ?_)
  obtain ⟨n, rfl, hn, q⟩ := h
  refine ⟨_, PSs.nox (pss_cons (ps_set (i := 1) sc_level_of.nd rfl (by first | exact Or.inl rfl | exact Or.inr rfl) (pe_nat 0))
      (pss_cons (ps_while PassesOwn.never (pt_cmpR op_ltn (pe_op op_shln (pe_nat 1) (pv 1)) (pe_bits (pv 0)) (nomark _))
      (pss_one (ps_aug (i := 1) sc_level_of.nd rfl (by first | exact Or.inl rfl | exact Or.inr rfl) (pe_nat 1) iop_addN)))
      (pss_one (ps_ret (pv 1))))), ?_⟩
  refine while_m (fun k σ H' => ∃ l, H' = H ∧ k = 9 - l ∧ (∀ j, j < l → 2 ^ 2 ^ j ≤ n) ∧ σ = [some (.int (n : Int)), some (.int (l : Int))]) _ ⟨0, rfl, rfl, fun j h => absurd h (Nat.not_lt_zero j), rfl⟩ ?_
  rintro k σ H' ⟨l, rfl, rfl, hl, rfl⟩
  have hl9 : l < 9 := Nat.lt_of_not_le fun c => absurd (hl 8 (by omega)) (Nat.not_le.mpr hn)
  walk_at "rd"
  refine ⟨⟨1, by decide, by omega⟩, ?_⟩
  walk_at "rd"
  refine ifN (fun c => ?_) (fun c => ?_)
  · refine ⟨_, fun _ _ h => h, ?_⟩
    walk_at "rd"
    refine ⟨9 - (l + 1), by omega, l + 1, rfl, rfl, fun j hj => ?_, rfl⟩
    by_cases e : j = l
    · subst e
      refine Nat.le_of_not_lt fun c2 => absurd (bits_nat c2) ?_
      rw [Nat.one_mul] at c
      exact Nat.not_le.mpr c
    · exact hl j (by omega)
  · refine ⟨_, rfl, q l (IsLv.of hl (nat_bits ?_))⟩
    rw [Nat.one_mul] at c
    exact Nat.le_of_not_lt c
def sp_parted (K : PySem.W.Frag) : Sp := fun vs H Q _ => ∃ n h : Nat, vs = [.int (n : Int), .int (h : Int)] ∧ h ≤ 1000 ∧ ∀ p, H p = none → Q (.ref p) (upd H p (.tup [.int ((n / 2 ^ h : Nat) : Int), .int ((n % 2 ^ h : Nat) : Int)]))
abbrev s_parted : Stmt := top 9
theorem sc_parted : FnScope ["number", "half"] ["number", "half"] (defScope s_parted) := ⟨rfl, rfl, rfl, by decide +kernel, rfl, by decide +kernel, by decide +kernel⟩
theorem ok_parted (T : Txt K mg) : Dn P w K mg base CX0 1 (He.ga K "parted") ["number", "half"] (sp_parted K) := by
  refine dn_of (k := 0) T.f_parted sc_parted (fun _ _ _ _ _ _ us hl => match us, hl with | [_, _], _ => rfl) (fun cdv A outer s H vs Q E hr h => ?_)
  obtain ⟨n, h, rfl, hh, q⟩ := h
  refine ⟨_, PSs.nox (pss_one (ps_ret (pe_tup (pa_cons (pe_op op_shrn (pv 0) (pv 1)) (pa_cons (pe_op op_andn (pv 0) (pe_op op_subn (pe_op op_shln (pe_nat 1) (pv 1)) (pe_nat 1))) pa_nil))))), ?_⟩
  walk_at "rd"
  refine ⟨⟨1, by decide, by omega⟩, ?_⟩
  walk_at "rd"
  refine ⟨by rw [Nat.one_mul]; exact Nat.two_pow_pos h, ?_⟩
  walk_at "rd"
  refine ⟨by show 2 ≤ sizeLine; decide, fun p hp => ?_⟩
  have e : n &&& (1 * 2 ^ h - 1) = n % 2 ^ h := by rw [Nat.one_mul, Nat.and_two_pow_sub_one_eq_mod]
  have q2 := q p hp
  rw [← e] at q2
  exact q2
theorem nat_or {a b k : Nat} (h : b < 2 ^ k) : (a * 2 ^ k ||| b) = a * 2 ^ k + b := by
  rw [Nat.mul_comm, ← Nat.two_pow_add_eq_or_of_lt h]
def sp_times (K : PySem.W.Frag) (n : Nat) : Sp := fun vs H Q _ => ∃ a b : Nat, vs = [.int (a : Int), .int (b : Int)] ∧ Nim.In n a ∧ Nim.In n b ∧ ∀ H', Same H H' → Q (.int ((Nim.nm a b : Nat) : Int)) H'
abbrev s_times : Stmt := top 12
theorem sc_times : FnScope ["one", "other", "half", "mine", "theirs", "low", "high", "mixed"] ["one", "other"] (defScope s_times) := ⟨rfl, rfl, rfl, by decide +kernel, rfl, by decide +kernel, by decide +kernel⟩
theorem ok_times (T : Txt K mg) (d_level_of : Dn P w K mg base CX0 1 (He.ga K "level_of") ["number"] (sp_level_of K)) (d_parted : Dn P w K mg base CX0 1 (He.ga K "parted") ["number", "half"] (sp_parted K)) : ∀ n, Dn P w K mg base CX0 (n + 2) (He.ga K "times") ["one", "other"] (recSp (sp_times K) n) := by
  refine rec_dn T.f_times (fun _ _ _ _ _ _ us hl => match us, hl with | [_, _], _ => rfl) (fun n d_times => ?_)
  refine dn_of (k := n + 2) T.f_times sc_times (fun _ _ _ _ _ _ us hl => match us, hl with | [_, _], _ => rfl) (fun cdv A outer s H vs Q E hr h => ?_)
  obtain ⟨a, b, rfl, ha, hb, q⟩ := h
  refine ⟨_, PSs.nox (pss_cons (ps_if (pt_cut (PW.pt (pw_or (pt_cmpR op_ltn (pv 0) (pe_nat 2) (nomark _)) (pw_or1 (pt_cmpR op_ltn (pv 1) (pe_nat 2) (nomark _)))))) (pss_one (ps_ret (pe_op op_muln (pv 0) (pv 1)))) pss_nil)
      (pss_cons (ps_cut (ps_set (i := 2) sc_times.nd rfl (by first | exact Or.inl rfl | exact Or.inr rfl) (pe_op op_shln (pe_nat 1) (pe_op op_subn (pe_cl d_level_of (hr.mono (by omega)) T.g_level_of pass0 (pa_cons (pe_callB (call_maxn rfl) (by rfl) T.n_max (by decide +kernel) (pa_cons (pv 0) (pa_cons (pv 1) pa_nil))) pa_nil)) (pe_nat 1)))))
      (pss_cons (ps_set (i := 3) sc_times.nd rfl (by first | exact Or.inl rfl | exact Or.inr rfl) (pe_cl d_parted (hr.mono (by omega)) T.g_parted pass0 (pa_cons (pv 0) (pa_cons (pv 2) pa_nil))))
      (pss_cons (ps_set (i := 4) sc_times.nd rfl (by first | exact Or.inl rfl | exact Or.inr rfl) (pe_cl d_parted (hr.mono (by omega)) T.g_parted pass0 (pa_cons (pv 1) (pa_cons (pv 2) pa_nil))))
      (pss_cons (ps_set (i := 5) sc_times.nd rfl (by first | exact Or.inl rfl | exact Or.inr rfl) (pe_cl d_times hr T.g_times pass0 (pa_cons (pe_ix ix_tup (pv 3) (pe_nat 1) (fun _ _ => rfl)) (pa_cons (pe_ix ix_tup (pv 4) (pe_nat 1) (fun _ _ => rfl)) pa_nil))))
      (pss_cons (ps_set (i := 6) sc_times.nd rfl (by first | exact Or.inl rfl | exact Or.inr rfl) (pe_cl d_times hr T.g_times pass0 (pa_cons (pe_ix ix_tup (pv 3) (pe_nat 0) (fun _ _ => rfl)) (pa_cons (pe_ix ix_tup (pv 4) (pe_nat 0) (fun _ _ => rfl)) pa_nil))))
      (pss_cons (ps_set (i := 7) sc_times.nd rfl (by first | exact Or.inl rfl | exact Or.inr rfl) (pe_cl d_times hr T.g_times pass0 (pa_cons (pe_op op_xorn (pe_ix ix_tup (pv 3) (pe_nat 0) (fun _ _ => rfl)) (pe_ix ix_tup (pv 3) (pe_nat 1) (fun _ _ => rfl))) (pa_cons (pe_op op_xorn (pe_ix ix_tup (pv 4) (pe_nat 0) (fun _ _ => rfl)) (pe_ix ix_tup (pv 4) (pe_nat 1) (fun _ _ => rfl))) pa_nil))))
      (pss_one (ps_ret (pe_op op_orn (pe_op op_shln (pe_op op_xorn (pv 7) (pv 5)) (pv 2)) (pe_op op_xorn (pv 5) (pe_cl d_times hr T.g_times pass0 (pa_cons (pv 6) (pa_cons (pe_op op_shln (pe_nat 1) (pe_op op_subn (pv 2) (pe_nat 1))) pa_nil)))))))))))))), ?_⟩
  refine ⟨fun c H' => Hd (c = decide (a < 2 ∨ b < 2) ∧ H' = H), fun c H' h => ?_, ?_⟩
  · obtain ⟨rfl, rfl⟩ := h.out
    refine ifN (fun c => ?_) (fun c => ?_)
    · walk_at "rd"
      refine ⟨by omega, ?_⟩
      have q2 := q _ (Same.refl _)
      rw [Nim.nm_small ha.top hb.top c] at q2
      exact q2
    · refine ⟨fun σ' H2 => Hd (∃ j, j + 1 ≤ n ∧ Nim.In (j + 1) a ∧ Nim.In (j + 1) b ∧ H2 = H' ∧ σ' = [some (.int (a : Int)), some (.int (b : Int)), some (.int ((Nim.bw j : Nat) : Int)), none, none, none, none, none]), ?_, ?_⟩
      · intro σ' H2 h
        obtain ⟨j, hj, ja, jb, rfl, rfl⟩ := h.out
        obtain ⟨m, rfl⟩ : ∃ m, n = m + 1 := ⟨n - 1, by omega⟩
        have hm8 : m ≤ 8 := Nat.le_of_succ_le ha.le
        have hjm : j ≤ m := by omega
        have hbw : Nim.bw j ≤ 1000 := Nat.le_trans (Nat.pow_le_pow_right (by decide) (show j ≤ 8 by omega)) (by decide)
        walk_at "rd"
        refine ⟨_, _, rfl, hbw, fun p1 n1 => ?_⟩
        walk_at "rd"
        refine ⟨_, _, rfl, hbw, fun p2 n2 => ?_⟩
        have t2 : ∀ H3, Same (upd (upd H2 p1 (.tup [.int ((a / 2 ^ Nim.bw j : Nat) : Int), .int ((a % 2 ^ Nim.bw j : Nat) : Int)])) p2 (.tup [.int ((b / 2 ^ Nim.bw j : Nat) : Int), .int ((b % 2 ^ Nim.bw j : Nat) : Int)])) H3 → Same H2 H3 ∧ H3 p1 = some (.tup [.int ((a / 2 ^ Nim.bw j : Nat) : Int), .int ((a % 2 ^ Nim.bw j : Nat) : Int)]) ∧ H3 p2 = some (.tup [.int ((b / 2 ^ Nim.bw j : Nat) : Int), .int ((b % 2 ^ Nim.bw j : Nat) : Int)]) := fun H3 s3 =>
          ⟨((Same.upd n1).trans (Same.upd n2)).trans s3, s3 _ _ (Same.upd n2 _ _ upd_same), s3 _ _ upd_same⟩
        obtain ⟨_, a1, a2⟩ := t2 _ (Same.refl _)
        have ah := ja.hi
        have al := Nim.In.lo a ja.le
        have bh := jb.hi
        have bl := Nim.In.lo b jb.le
        walk_at "rd"
        refine ⟨_, _, _, _, rfl, rfl, SqT.of a1, atI_nat (j := 1) rfl, ?_⟩
        walk_at "rd"
        refine ⟨_, _, _, _, rfl, rfl, SqT.of a2, atI_nat (j := 1) rfl, ?_⟩
        walk_at "rd"
        refine ⟨_, _, rfl, al.up hjm hm8, bl.up hjm hm8, fun H3 s3 => ?_⟩
        obtain ⟨_, a1, a2⟩ := t2 _ s3
        walk_at "rd"
        refine ⟨_, _, _, _, rfl, rfl, SqT.of a1, atI_nat (j := 0) rfl, ?_⟩
        walk_at "rd"
        refine ⟨_, _, _, _, rfl, rfl, SqT.of a2, atI_nat (j := 0) rfl, ?_⟩
        walk_at "rd"
        refine ⟨_, _, rfl, ah.up hjm hm8, bh.up hjm hm8, fun H4 s4 => ?_⟩
        obtain ⟨_, a1, a2⟩ := t2 _ (s3.trans s4)
        walk_at "rd"
        refine ⟨_, _, _, _, rfl, rfl, SqT.of a1, atI_nat (j := 0) rfl, ?_⟩
        walk_at "rd"
        refine ⟨_, _, _, _, rfl, rfl, SqT.of a1, atI_nat (j := 1) rfl, ?_⟩
        walk_at "rd"
        refine ⟨_, _, _, _, rfl, rfl, SqT.of a2, atI_nat (j := 0) rfl, ?_⟩
        walk_at "rd"
        refine ⟨_, _, _, _, rfl, rfl, SqT.of a2, atI_nat (j := 1) rfl, ?_⟩
        walk_at "rd"
        refine ⟨_, _, rfl, (ah.xor al).up hjm hm8, (bh.xor bl).up hjm hm8, fun H5 s5 => ?_⟩
        walk_at "rd"
        refine ⟨⟨256, ?_, by omega⟩, ?_⟩
        · exact (((ah.xor al).nm (bh.xor bl)).xor (al.nm bl)).top.lt
        walk_at "rd"
        refine ⟨Nim.bw_pos j, ?_⟩
        walk_at "rd"
        refine ⟨⟨1, by decide, by omega⟩, ?_⟩
        walk_at "rd"
        have hc : Nim.In j (1 * 2 ^ (Nim.bw j - 1)) := by rw [Nat.one_mul]; exact Nim.In.cst (Nat.le_of_succ_le ja.le)
        refine ⟨_, _, rfl, (ah.nm bh).up hjm hm8, hc.up hjm hm8, fun H6 s6 => ?_⟩
        walk_at "rd"
        have e := Nim.nm_turn ja jb
        rw [← nat_or ((al.nm bl).xor ((ah.nm bh).nm (Nim.In.cst (Nat.le_of_succ_le ja.le)))).lt] at e
        have q2 := q H6 (t2 _ ((s3.trans s4).trans (s5.trans s6))).1
        rw [e] at q2
        rw [Nat.one_mul]
        exact q2
      · walk_at "rd"
        have hmx : Nim.In n (max a b) := ⟨ha.le, Nat.max_lt.mpr ⟨ha.lt, hb.lt⟩⟩
        refine ⟨hmx.top.lt, fun l il => ?_⟩
        have l1 := il.pos (by omega)
        have l2 := il.le hmx.lt
        have l3 := il.lt
        walk_at "rd"
        refine ⟨l1, ?_⟩
        walk_at "rd"
        have hn8 := ha.le
        refine ⟨⟨1, by decide, by omega⟩, Hd.mk ⟨l - 1, by omega, ⟨by omega, ?_⟩, ⟨by omega, ?_⟩, rfl, ?_⟩⟩
        · rw [Nat.sub_add_cancel l1]
          exact Nat.lt_of_le_of_lt (Nat.le_max_left _ _) l3
        · rw [Nat.sub_add_cancel l1]
          exact Nat.lt_of_le_of_lt (Nat.le_max_right _ _) l3
        · show [some (V.int (a : Int)), some (.int (b : Int)), some (.int ((1 * 2 ^ (l - 1) : Nat) : Int)), none, none, none, none, none] = _
          rw [Nat.one_mul]
  · walk_at "rd"
    refine ifN (fun c => Hd.mk ⟨(decide_eq_true (.inl c)).symm, rfl⟩) (fun c => ?_)
    walk_at "rd"
    exact Hd.mk ⟨decide_eq_decide.mpr ⟨fun h => .inr h, fun h => h.resolve_left c⟩, rfl⟩

def sp_product (K : PySem.W.Frag) : Sp := fun vs H Q _ => ∃ a b : Nat, vs = [.int (a : Int), .int (b : Int)] ∧ Nim.In 8 a ∧ Nim.In 8 b ∧ ∀ H', Same H H' → Q (.int ((Nim.nm a b : Nat) : Int)) H'
abbrev s_product : Stmt := top 13
theorem sc_product : FnScope ["one", "other"] ["one", "other"] (defScope s_product) := ⟨rfl, rfl, rfl, by decide +kernel, rfl, by decide +kernel, by decide +kernel⟩
theorem ok_product (T : Txt K mg) (d_times : Dn P w K mg base CX0 11 (He.ga K "times") ["one", "other"] ((sp_times K) 8)) (d_asked_number : Dn P w K mg base CX0 2 (He.ga K "asked_number") ["number", "bits"] (sp_asked_number K)) : Dn P w K mg base CX0 12 (He.ga K "product") ["one", "other"] (sp_product K) := by
  refine dn_of (k := 11) T.f_product sc_product (fun _ _ _ _ _ _ us hl => match us, hl with | [_, _], _ => rfl) (fun cdv A outer s H vs Q E hr h => ?_)
  obtain ⟨a, b, rfl, ha, hb, q⟩ := h
  refine ⟨_, PSs.nox (pss_one (ps_ret (pe_cl d_times (hr.mono (by omega)) T.g_times pass0 (pa_cons (pe_cl d_asked_number (hr.mono (by omega)) T.g_asked_number pass0 (pa_cons (pv 0) (pa_cons (pe_gnat (n := 256) T.c_BITS) pa_nil))) (pa_cons (pe_cl d_asked_number (hr.mono (by omega)) T.g_asked_number pass0 (pa_cons (pv 1) (pa_cons (pe_gnat (n := 256) T.c_BITS) pa_nil))) pa_nil))))), ?_⟩
  exact ⟨_, rfl, rfl, _, _, rfl, ha.lt, _, rfl, rfl, _, _, rfl, hb.lt, rfl, a, b, rfl, ha, hb, q⟩

/-- a number of at most 2 ^ 20 bits -/
def Bt (z : Int) : Prop := Builtin.Int.intBits z ≤ 1048576
theorem Bt.abs {z : Int} (h : Bt z) : z.natAbs < 2 ^ 1048576 :=
  Nat.lt_of_lt_of_le (natAbs_lt_pow_bits z) (Nat.pow_le_pow_right (by decide) h)
theorem abs_add {x y : Int} {n : Nat} (hx : x.natAbs < 2 ^ n) (hy : y.natAbs < 2 ^ n) : (x + y).natAbs < 2 ^ (n + 1) := by
  have := Int.natAbs_add_le x y
  rw [Nat.pow_succ]
  omega
theorem abs_up {x : Int} {n : Nat} (m : Nat) (hx : x.natAbs < 2 ^ n) (h : n ≤ m) : x.natAbs < 2 ^ m := Nat.lt_of_lt_of_le hx (Nat.pow_le_pow_right (by decide) h)
theorem mixed_lt {c o : Int} (hc : Bt c) (ho : Bt o) : ((c * 48271 + o) * 6364136223846793005 + 1442695040888963407).natAbs < 2 ^ 1048700 := by
  have h1 : (c * 48271).natAbs < 2 ^ (1048576 + 16) := wide_lt hc.abs (by decide)
  have h2 : (c * 48271 + o).natAbs < 2 ^ (1048592 + 1) := abs_add h1 (abs_up _ ho.abs (by decide))
  have h3 : ((c * 48271 + o) * 6364136223846793005).natAbs < 2 ^ (1048593 + 63) := wide_lt h2 (by decide)
  have h4 : (1442695040888963407 : Int).natAbs < 2 ^ (1048593 + 63) := abs_up (n := 63) _ (by decide) (by decide)
  exact abs_up _ (abs_add h3 h4) (by decide)
theorem cell_bt {ns : List Int} (hb : ∀ z ∈ ns, Builtin.Int.intBits z ≤ 1048576) (k : Nat) : Bt (cell ns k) := by
  unfold cell
  by_cases c : k < ns.length
  · have e : ns.getD k 0 = ns[k] := by simp [List.getD, c]
    rw [e]
    exact hb _ (List.getElem_mem c)
  · have e : ns.getD k 0 = 0 := by simp [List.getD, List.getElem?_eq_none (Nat.not_lt.mp c)]
    rw [e]
    exact (by decide : Builtin.Int.intBits 0 ≤ 1048576)
theorem shl_one {b : Int} (h0 : 0 ≤ b) (h : b ≤ 256) : CShl 1 b := by
  obtain ⟨n, rfl⟩ := Int.eq_ofNat_of_zero_le h0
  exact shl_ok (n := 1) (by decide) (by omega)
theorem pow_pos_i (n : Nat) : (0 : Int) < 1 * 2 ^ n := by
  rw [Int.one_mul]
  exact Int.pow_pos (by decide)
/-- what is left by a power of two -/
theorem mod_pow (x : Int) (n : Nat) : ∃ m : Nat, x % (1 * 2 ^ n) = (m : Int) ∧ m < 2 ^ n := by
  have p := pow_pos_i n
  obtain ⟨m, e⟩ := Int.eq_ofNat_of_zero_le (Int.emod_nonneg x (Int.ne_of_gt p))
  refine ⟨m, e, ?_⟩
  have l := Int.emod_lt_of_pos x p
  rw [e, Int.one_mul] at l
  have e2 : ((2 ^ n : Nat) : Int) = 2 ^ n := by rw [Int.natCast_pow]; rfl
  rw [← e2] at l
  exact Int.ofNat_lt.mp l
theorem mod_nat (x : Int) {F : Nat} (h : 0 < F) : ∃ m : Nat, x % (F : Int) = (m : Int) ∧ m < F := by
  obtain ⟨m, e⟩ := Int.eq_ofNat_of_zero_le (Int.emod_nonneg x (show (F : Int) ≠ 0 by omega))
  have l := Int.emod_lt_of_pos x (show (0 : Int) < F by omega)
  exact ⟨m, e, by omega⟩

/-! ### a drawn number -/
def nbits (o : Int) : Nat :=
  if o % 256 = 45 then (65 + o / 256 % 192).toNat else if o % 32 = 21 then (33 + o / 32 % 32).toNat else if o % 16 = 13 then (17 + o / 16 % 16).toNat else [4, 8, 12, 16, 6, 10, 16, 8].getD (o % 8).toNat 0
theorem nbits_table (i : Int) (h0 : 0 ≤ i) (h8 : i < 8) : ∃ b : Int, atI ([4, 8, 12, 16, 6, 10, 16, 8] : List Int) i = some b ∧ b = (([4, 8, 12, 16, 6, 10, 16, 8] : List Nat).getD i.toNat 0 : Nat) ∧ 4 ≤ b ∧ b ≤ 16 := by
  have : i = 0 ∨ i = 1 ∨ i = 2 ∨ i = 3 ∨ i = 4 ∨ i = 5 ∨ i = 6 ∨ i = 7 := by omega
  rcases this with rfl | rfl | rfl | rfl | rfl | rfl | rfl | rfl <;> exact ⟨_, rfl, rfl, by decide, by decide⟩
theorem atI_map {α β : Type} (f : α → β) (xs : List α) (i : Int) : atI (xs.map f) i = (atI xs i).map f := by
  unfold atI
  rw [List.length_map]
  cases ixN xs.length i with
  | none => rfl
  | some j => simp [Option.bind]
def sp__law_number_by (K : PySem.W.Frag) : Sp := fun vs H Q _ => ∃ c o : Int, vs = [.int c, .int o] ∧ Bt c ∧ Bt o ∧ ∀ (n : Nat) (H' : Hp), n < 2 ^ nbits o → Same H H' → Q (.int (n : Int)) H'
theorem nbits_le (o : Int) : nbits o ≤ 256 := by
  unfold nbits
  split
  · omega
  · split
    · omega
    · split
      · omega
      · have h0 : 0 ≤ o % 8 := by omega
        have h8 : o % 8 < 8 := by omega
        obtain ⟨b, _, e, _, l⟩ := nbits_table (o % 8) h0 h8
        omega
abbrev s__law_number_by : Stmt := top 24
theorem sc__law_number_by : FnScope ["_law_cell", "_law_other", "_law_bits", "_law_mixed"] ["_law_cell", "_law_other"] (defScope s__law_number_by) := ⟨rfl, rfl, rfl, by decide +kernel, rfl, by decide +kernel, by decide +kernel⟩
theorem ok__law_number_by (T : Txt K mg) : Dn P w K mg base CX0 1 (He.ga K "_law_number_by") ["_law_cell", "_law_other"] (sp__law_number_by K) := by
  refine dn_of (k := 0) T.f__law_number_by sc__law_number_by (fun _ _ _ _ _ _ us hl => match us, hl with | [_, _], _ => rfl) (fun cdv A outer s H vs Q E hr h => ?_)
  obtain ⟨c, o, rfl, hc, ho, q⟩ := h
  have h0 : 0 ≤ o % 8 := by omega
  have h8 : o % 8 < 8 := by omega
  obtain ⟨b, eb, b2, b4, b16⟩ := nbits_table (o % 8) h0 h8
  refine ⟨_, PSs.nox (pss_cons (ps_set (i := 2) sc__law_number_by.nd rfl (by first | exact Or.inl rfl | exact Or.inr rfl) (pe_ix ix_list (pe_lst (pa_cons (pe_nat 4) (pa_cons (pe_nat 8) (pa_cons (pe_nat 12) (pa_cons (pe_nat 16) (pa_cons (pe_nat 6) (pa_cons (pe_nat 10) (pa_cons (pe_nat 16) (pa_cons (pe_nat 8) pa_nil))))))))) (pe_op op_mod (pv 1) pe_int) (fun _ _ => rfl)))
      (pss_cons (ps_if (pt_cmpR op_eqi (pe_op op_mod (pv 1) pe_int) pe_int (nomark _)) (pss_one (ps_set (i := 2) sc__law_number_by.nd rfl (by first | exact Or.inl rfl | exact Or.inr rfl) (pe_op op_add pe_int (pe_op op_mod (pe_op op_fdiv (pv 1) pe_int) pe_int)))) pss_nil)
      (pss_cons (ps_if (pt_cmpR op_eqi (pe_op op_mod (pv 1) pe_int) pe_int (nomark _)) (pss_one (ps_set (i := 2) sc__law_number_by.nd rfl (by first | exact Or.inl rfl | exact Or.inr rfl) (pe_op op_add pe_int (pe_op op_mod (pe_op op_fdiv (pv 1) pe_int) pe_int)))) pss_nil)
      (pss_cons (ps_if (pt_cmpR op_eqi (pe_op op_mod (pv 1) pe_int) pe_int (nomark _)) (pss_one (ps_set (i := 2) sc__law_number_by.nd rfl (by first | exact Or.inl rfl | exact Or.inr rfl) (pe_op op_add pe_int (pe_op op_mod (pe_op op_fdiv (pv 1) pe_int) pe_int)))) pss_nil)
      (pss_cons (ps_if (pt_cmpR op_eqi (pe_op op_mod (pe_op op_fdiv (pv 1) pe_int) pe_int) pe_int (nomark _)) (pss_one (ps_ret (pe_op op_mod (pv 0) (pe_op op_shlW pe_int (pv 2))))) pss_nil)
      (pss_cons (ps_set (i := 3) sc__law_number_by.nd rfl (by first | exact Or.inl rfl | exact Or.inr rfl) (pe_op op_add (pe_op op_mul (pe_op op_add (pe_op op_mul (pv 0) pe_int) (pv 1)) pe_int) pe_int))
      (pss_one (ps_ret (pe_op op_mod (pe_op op_fdiv (pe_op op_mulX (pv 3) (pv 3)) pe_int) (pe_op op_shlW pe_int (pv 2))))))))))), ?_⟩
  refine ⟨by show 8 ≤ sizeLine; decide, fun p hp => ?_⟩
  have sm : Same H (upd H p (.lst [V.int 4, V.int 8, V.int 12, V.int 16, V.int 6, V.int 10, V.int 16, V.int 8])) := fun a u e => by
    rw [upd_ne (ne_of_none e hp)]
    exact e
  refine ⟨_, rfl, _, _, rfl, rfl, (by decide : (0 : Int) < 8), p, _, _, .int b, rfl, rfl, SqL.of upd_same, ?_, ?_⟩
  · show atI (([4, 8, 12, 16, 6, 10, 16, 8] : List Int).map V.int) (o % 8) = some (.int b)
    rw [atI_map, eb]
    rfl
  -- what is left, for the three ifs' ways
  have fin : ∀ b' x : Int, 0 ≤ b' → b' ≤ 256 → b'.toNat = nbits o → CShl 1 b' ∧ rI (fun _ j => 0 < j) (fun i j => V.int (i % j)) (V.int x) (V.int (1 * 2 ^ b'.toNat)) (upd H p (.lst [V.int 4, V.int 8, V.int 12, V.int 16, V.int 6, V.int 10, V.int 16, V.int 8])) Q := fun b' x h0 h1 e => by
    refine ⟨shl_one h0 h1, _, _, rfl, rfl, pow_pos_i _, ?_⟩
    rw [e]
    obtain ⟨m, em, lm⟩ := mod_pow x (nbits o)
    show Q (V.int (x % (1 * 2 ^ nbits o))) _
    rw [em]
    exact q m _ lm sm
  walk_at "rd"
  refine ifN (fun c1 => ?_) (fun c1 => ?_) <;> walk_at "rd" <;> refine ifN (fun c2 => ?_) (fun c2 => ?_) <;> walk_at "rd" <;> refine ifN (fun c3 => ?_) (fun c3 => ?_) <;> walk_at "rd" <;> refine ifN (fun c4 => ?_) (fun c4 => ?_)
  all_goals walk_at "rd"
  all_goals try (refine ⟨mulx_ok (mixed_lt hc ho) (mixed_lt hc ho) (by decide), ?_⟩; walk_at "rd")
  all_goals refine fin _ _ ?_ ?_ ?_
  all_goals first
    | omega
    | (simp only [nbits, if_pos, if_neg, c1, c2, c3, not_false_eq_true]; done)
    | (simp only [nbits, if_pos, if_neg, c1, c2, c3, not_false_eq_true]; rfl)
    | (simp only [nbits, if_pos, if_neg, c1, c2, c3, not_false_eq_true]; rw [b2]; rfl)

def sp_added (K : PySem.W.Frag) : Sp := fun vs H Q _ => ∃ n m : Nat, vs = [.int (n : Int), .int (m : Int)] ∧ n < 2 ^ 256 ∧ m < 2 ^ 256 ∧ Q (.int ((n ^^^ m : Nat) : Int)) H
abbrev s_added : Stmt := top 11
theorem sc_added : FnScope ["one", "other"] ["one", "other"] (defScope s_added) := ⟨rfl, rfl, rfl, by decide +kernel, rfl, by decide +kernel, by decide +kernel⟩
theorem ok_added (T : Txt K mg) (d_asked_number : Dn P w K mg base CX0 2 (He.ga K "asked_number") ["number", "bits"] (sp_asked_number K)) : Dn P w K mg base CX0 3 (He.ga K "added") ["one", "other"] (sp_added K) := by
  refine dn_of (k := 2) T.f_added sc_added (fun _ _ _ _ _ _ us hl => match us, hl with | [_, _], _ => rfl) (fun cdv A outer s H vs Q E hr h => ?_)
  obtain ⟨n, m, rfl, hn, hm, q⟩ := h
  refine ⟨_, PSs.nox (pss_one (ps_ret (pe_op op_xorn (pe_cl d_asked_number (hr.mono (by omega)) T.g_asked_number pass0 (pa_cons (pv 0) (pa_cons (pe_gnat (n := 256) T.c_BITS) pa_nil))) (pe_cl d_asked_number (hr.mono (by omega)) T.g_asked_number pass0 (pa_cons (pv 1) (pa_cons (pe_gnat (n := 256) T.c_BITS) pa_nil)))))), ?_⟩
  exact ⟨_, rfl, rfl, _, _, rfl, hn, _, rfl, rfl, _, _, rfl, hm, _, _, rfl, rfl, q⟩

/-! ### inverses -/
def sp_undone (K : PySem.W.Frag) (n : Nat) : Sp := fun vs H Q _ => ∃ a : Nat, vs = [.int (a : Int)] ∧ Nim.In n a ∧ 0 < a ∧ ∀ H', Same H H' → Q (.int ((Nim.ninv a : Nat) : Int)) H'
abbrev s_undone : Stmt := top 15
theorem sc_undone : FnScope ["number", "half", "pair", "other", "size", "back"] ["number"] (defScope s_undone) := ⟨rfl, rfl, rfl, by decide +kernel, rfl, by decide +kernel, by decide +kernel⟩
theorem ok_undone (T : Txt K mg) (d_level_of : Dn P w K mg base CX0 1 (He.ga K "level_of") ["number"] (sp_level_of K)) (d_parted : Dn P w K mg base CX0 1 (He.ga K "parted") ["number", "half"] (sp_parted K)) (d_times : Dn P w K mg base CX0 11 (He.ga K "times") ["one", "other"] ((sp_times K) 8)) : ∀ n, Dn P w K mg base CX0 (n + 12) (He.ga K "undone") ["number"] (recSp (sp_undone K) n) := by
  refine rec_dn T.f_undone (fun _ _ _ _ _ _ us hl => match us, hl with | [_], _ => rfl) (fun n d_undone => ?_)
  refine dn_of (k := n + 12) T.f_undone sc_undone (fun _ _ _ _ _ _ us hl => match us, hl with | [_], _ => rfl) (fun cdv A outer s H vs Q E hr h => ?_)
  obtain ⟨a, rfl, ha, h0, q⟩ := h
  refine ⟨_, PSs.nox (pss_cons (ps_if (pt_cmpR op_eqn (pv 0) (pe_nat 1) (nomark _)) (pss_one (ps_ret (pe_nat 1))) pss_nil)
      (pss_cons (ps_cut (ps_set (i := 1) sc_undone.nd rfl (by first | exact Or.inl rfl | exact Or.inr rfl) (pe_op op_shln (pe_nat 1) (pe_op op_subn (pe_cl d_level_of (hr.mono (by omega)) T.g_level_of pass0 (pa_cons (pv 0) pa_nil)) (pe_nat 1)))))
      (pss_cons (ps_set (i := 2) sc_undone.nd rfl (by first | exact Or.inl rfl | exact Or.inr rfl) (pe_cl d_parted (hr.mono (by omega)) T.g_parted pass0 (pa_cons (pv 0) (pa_cons (pv 1) pa_nil))))
      (pss_cons (ps_set (i := 3) sc_undone.nd rfl (by first | exact Or.inl rfl | exact Or.inr rfl) (pe_op op_xorn (pe_ix ix_tup (pv 2) (pe_nat 0) (fun _ _ => rfl)) (pe_ix ix_tup (pv 2) (pe_nat 1) (fun _ _ => rfl))))
      (pss_cons (ps_set (i := 4) sc_undone.nd rfl (by first | exact Or.inl rfl | exact Or.inr rfl) (pe_op op_xorn (pe_cl d_times (hr.mono (by omega)) T.g_times pass0 (pa_cons (pe_ix ix_tup (pv 2) (pe_nat 1) (fun _ _ => rfl)) (pa_cons (pv 3) pa_nil))) (pe_cl d_times (hr.mono (by omega)) T.g_times pass0 (pa_cons (pe_cl d_times (hr.mono (by omega)) T.g_times pass0 (pa_cons (pe_ix ix_tup (pv 2) (pe_nat 0) (fun _ _ => rfl)) (pa_cons (pe_ix ix_tup (pv 2) (pe_nat 0) (fun _ _ => rfl)) pa_nil))) (pa_cons (pe_op op_shln (pe_nat 1) (pe_op op_subn (pv 1) (pe_nat 1))) pa_nil)))))
      (pss_cons (ps_set (i := 5) sc_undone.nd rfl (by first | exact Or.inl rfl | exact Or.inr rfl) (pe_cl d_undone hr T.g_undone pass0 (pa_cons (pv 4) pa_nil)))
      (pss_one (ps_ret (pe_op op_orn (pe_op op_shln (pe_cl d_times (hr.mono (by omega)) T.g_times pass0 (pa_cons (pe_ix ix_tup (pv 2) (pe_nat 0) (fun _ _ => rfl)) (pa_cons (pv 5) pa_nil))) (pv 1)) (pe_cl d_times (hr.mono (by omega)) T.g_times pass0 (pa_cons (pv 3) (pa_cons (pv 5) pa_nil)))))))))))), ?_⟩
  walk_at "rd"
  refine ifN (fun c => ?_) (fun c => ?_)
  · walk_at "rd"
    have q2 := q _ (Same.refl _)
    rw [c, Nim.ninv_one] at q2
    exact q2
  · refine ⟨fun σ' H2 => Hd (∃ j, j + 1 ≤ n ∧ Nim.In (j + 1) a ∧ H2 = H ∧ σ' = [some (.int (a : Int)), some (.int ((Nim.bw j : Nat) : Int)), none, none, none, none]), ?_, ?_⟩
    · intro σ' H2 h
      obtain ⟨j, hj, ja, rfl, rfl⟩ := h.out
      obtain ⟨m, rfl⟩ : ∃ m, n = m + 1 := ⟨n - 1, by omega⟩
      have hm8 : m ≤ 8 := Nat.le_of_succ_le ha.le
      have hjm : j ≤ m := by omega
      have hbw : Nim.bw j ≤ 1000 := Nat.le_trans (Nat.pow_le_pow_right (by decide) (show j ≤ 8 by omega)) (by decide)
      have ah := ja.hi
      have al := Nim.In.lo a ja.le
      have kc : Nim.In j (2 ^ (Nim.bw j - 1)) := Nim.In.cst (Nat.le_of_succ_le ja.le)
      have kc1 : Nim.In 8 (1 * 2 ^ (Nim.bw j - 1)) := by rw [Nat.one_mul]; exact kc.top
      have tr := Nim.ninv_turn ja h0
      have ns := (Nim.nsize_dec ja).1
      have ps := Nim.nsize_pos ja h0
      have en : Nim.nsize j a = Nim.nm (a % 2 ^ Nim.bw j) (a / 2 ^ Nim.bw j ^^^ a % 2 ^ Nim.bw j) ^^^ Nim.nm (Nim.nm (a / 2 ^ Nim.bw j) (a / 2 ^ Nim.bw j)) (1 * 2 ^ (Nim.bw j - 1)) := by rw [Nat.one_mul]; rfl
      have ib := (Nim.ninv_ok ns ps).1
      walk_at "rd"
      refine ⟨_, _, rfl, hbw, fun p1 n1 => ?_⟩
      have t1 : ∀ H3, Same (upd H2 p1 (.tup [.int ((a / 2 ^ Nim.bw j : Nat) : Int), .int ((a % 2 ^ Nim.bw j : Nat) : Int)])) H3 → Same H2 H3 ∧ H3 p1 = some (.tup [.int ((a / 2 ^ Nim.bw j : Nat) : Int), .int ((a % 2 ^ Nim.bw j : Nat) : Int)]) := fun H3 s3 => ⟨(Same.upd n1).trans s3, s3 _ _ upd_same⟩
      obtain ⟨_, a1⟩ := t1 _ (Same.refl _)
      walk_at "rd"
      refine ⟨_, _, _, _, rfl, rfl, SqT.of a1, atI_nat (j := 0) rfl, ?_⟩
      walk_at "rd"
      refine ⟨_, _, _, _, rfl, rfl, SqT.of a1, atI_nat (j := 1) rfl, ?_⟩
      walk_at "rd"
      refine ⟨_, _, _, _, rfl, rfl, SqT.of a1, atI_nat (j := 1) rfl, ?_⟩
      walk_at "rd"
      refine ⟨_, _, rfl, al.top, (ah.xor al).top, fun H3 s3 => ?_⟩
      obtain ⟨_, a1⟩ := t1 _ s3
      walk_at "rd"
      refine ⟨_, _, _, _, rfl, rfl, SqT.of a1, atI_nat (j := 0) rfl, ?_⟩
      walk_at "rd"
      refine ⟨_, _, _, _, rfl, rfl, SqT.of a1, atI_nat (j := 0) rfl, ?_⟩
      walk_at "rd"
      refine ⟨_, _, rfl, ah.top, ah.top, fun H4 s4 => ?_⟩
      obtain ⟨_, a1⟩ := t1 _ (s3.trans s4)
      walk_at "rd"
      refine ⟨Nim.bw_pos j, ?_⟩
      walk_at "rd"
      refine ⟨⟨1, by decide, by omega⟩, ?_⟩
      walk_at "rd"
      refine ⟨_, _, rfl, Nim.nm_in _ _, kc1, fun H5 s5 => ?_⟩
      obtain ⟨_, a1⟩ := t1 _ ((s3.trans s4).trans s5)
      walk_at "rd"
      rw [← en]
      refine ⟨ns.up hjm hm8, ps, fun H6 s6 => ?_⟩
      obtain ⟨_, a1⟩ := t1 _ ((s3.trans s4).trans (s5.trans s6))
      walk_at "rd"
      refine ⟨_, _, _, _, rfl, rfl, SqT.of a1, atI_nat (j := 0) rfl, ?_⟩
      walk_at "rd"
      refine ⟨_, _, rfl, ah.top, ib.top, fun H7 s7 => ?_⟩
      walk_at "rd"
      refine ⟨⟨256, (Nim.nm_in _ _).lt, by omega⟩, ?_⟩
      walk_at "rd"
      refine ⟨_, _, rfl, (ah.xor al).top, ib.top, fun H8 s8 => ?_⟩
      walk_at "rd"
      have q2 := q H8 (t1 _ (((s3.trans s4).trans (s5.trans s6)).trans (s7.trans s8))).1
      rw [tr, ← nat_or ((ah.xor al).nm ib).lt] at q2
      exact q2
    · walk_at "rd"
      refine ⟨ha.top.lt, fun l il => ?_⟩
      have l1 := il.pos (by omega)
      have l2 := il.le ha.lt
      have l3 := il.lt
      walk_at "rd"
      refine ⟨l1, ?_⟩
      walk_at "rd"
      have hn8 := ha.le
      refine ⟨⟨1, by decide, by omega⟩, Hd.mk ⟨l - 1, by omega, ⟨by omega, ?_⟩, rfl, ?_⟩⟩
      · rw [Nat.sub_add_cancel l1]
        exact l3
      · show [some (V.int (a : Int)), some (.int ((1 * 2 ^ (l - 1) : Nat) : Int)), none, none, none, none] = _
        rw [Nat.one_mul]
def sp_inverse (K : PySem.W.Frag) : Sp := fun vs H Q _ => ∃ a : Nat, vs = [.int (a : Int)] ∧ Nim.In 8 a ∧ 0 < a ∧ ∀ H', Same H H' → Q (.int ((Nim.ninv a : Nat) : Int)) H'
abbrev s_inverse : Stmt := top 16
theorem sc_inverse : FnScope ["number"] ["number"] (defScope s_inverse) := ⟨rfl, rfl, rfl, by decide +kernel, rfl, by decide +kernel, by decide +kernel⟩
theorem ok_inverse (T : Txt K mg) (d_asked_number : Dn P w K mg base CX0 2 (He.ga K "asked_number") ["number", "bits"] (sp_asked_number K)) (d_undone : Dn P w K mg base CX0 21 (He.ga K "undone") ["number"] ((sp_undone K) 8)) : Dn P w K mg base CX0 22 (He.ga K "inverse") ["number"] (sp_inverse K) := by
  refine dn_of (k := 21) T.f_inverse sc_inverse (fun _ _ _ _ _ _ us hl => match us, hl with | [_], _ => rfl) (fun cdv A outer s H vs Q E hr h => ?_)
  obtain ⟨a, rfl, ha, h0, q⟩ := h
  refine ⟨_, PSs.nox (pss_cons (ps_if (pt_cmpR op_eqn (pe_cl d_asked_number (hr.mono (by omega)) T.g_asked_number pass0 (pa_cons (pv 0) (pa_cons (pe_gnat (n := 256) T.c_BITS) pa_nil))) (pe_nat 0) (nomark _)) (pss_one ps_never) pss_nil)
      (pss_one (ps_ret (pe_cl d_undone (hr.mono (by omega)) T.g_undone pass0 (pa_cons (pv 0) pa_nil))))), ?_⟩
  walk_at "rd"
  refine ⟨_, _, rfl, ha.lt, ?_⟩
  walk_at "rd"
  refine ifN (fun c => absurd c (Nat.ne_of_gt h0)) (fun _ => ?_)
  walk_at "rd"
  exact ⟨ha, h0, q⟩
def sp_quotient (K : PySem.W.Frag) : Sp := fun vs H Q _ => ∃ a b : Nat, vs = [.int (a : Int), .int (b : Int)] ∧ Nim.In 8 a ∧ Nim.In 8 b ∧ 0 < b ∧ ∀ H', Same H H' → Q (.int ((Nim.nm a (Nim.ninv b) : Nat) : Int)) H'
abbrev s_quotient : Stmt := top 17
theorem sc_quotient : FnScope ["one", "other"] ["one", "other"] (defScope s_quotient) := ⟨rfl, rfl, rfl, by decide +kernel, rfl, by decide +kernel, by decide +kernel⟩
theorem ok_quotient (T : Txt K mg) (d_asked_number : Dn P w K mg base CX0 2 (He.ga K "asked_number") ["number", "bits"] (sp_asked_number K)) (d_times : Dn P w K mg base CX0 11 (He.ga K "times") ["one", "other"] ((sp_times K) 8)) (d_inverse : Dn P w K mg base CX0 22 (He.ga K "inverse") ["number"] (sp_inverse K)) : Dn P w K mg base CX0 23 (He.ga K "quotient") ["one", "other"] (sp_quotient K) := by
  refine dn_of (k := 22) T.f_quotient sc_quotient (fun _ _ _ _ _ _ us hl => match us, hl with | [_, _], _ => rfl) (fun cdv A outer s H vs Q E hr h => ?_)
  obtain ⟨a, b, rfl, ha, hb, h0, q⟩ := h
  refine ⟨_, PSs.nox (pss_cons (ps_expr (pe_cl d_asked_number (hr.mono (by omega)) T.g_asked_number pass0 (pa_cons (pv 0) (pa_cons (pe_gnat (n := 256) T.c_BITS) pa_nil))))
      (pss_one (ps_ret (pe_cl d_times (hr.mono (by omega)) T.g_times pass0 (pa_cons (pv 0) (pa_cons (pe_cl d_inverse (hr.mono (by omega)) T.g_inverse pass0 (pa_cons (pv 1) pa_nil)) pa_nil)))))), ?_⟩
  walk_at "rd"
  refine ⟨_, _, rfl, ha.lt, ?_⟩
  walk_at "rd"
  refine ⟨hb, h0, fun H1 s1 => ?_⟩
  walk_at "rd"
  exact ⟨_, _, rfl, ha, (Nim.ninv_ok hb h0).1, fun H2 s2 => q _ (s1.trans s2)⟩

/-! ### powers, roots -/
def sp_power (K : PySem.W.Frag) : Sp := fun vs H Q _ => ∃ a k : Nat, vs = [.int (a : Int), .int (k : Int)] ∧ Nim.In 8 a ∧ k < 2 ^ 256 ∧ ∀ H', Same H H' → Q (.int ((Nim.npow a k : Nat) : Int)) H'
abbrev s_power : Stmt := top 14
theorem sc_power : FnScope ["number", "many", "step", "left", "found"] ["number", "many"] (defScope s_power) := ⟨rfl, rfl, rfl, by decide +kernel, rfl, by decide +kernel, by decide +kernel⟩
theorem ok_power (T : Txt K mg) (d_asked_number : Dn P w K mg base CX0 2 (He.ga K "asked_number") ["number", "bits"] (sp_asked_number K)) (d_times : Dn P w K mg base CX0 11 (He.ga K "times") ["one", "other"] ((sp_times K) 8)) : Dn P w K mg base CX0 12 (He.ga K "power") ["number", "many"] (sp_power K) := by
  refine dn_of (k := 11) T.f_power sc_power (fun _ _ _ _ _ _ us hl => match us, hl with | [_, _], _ => rfl) (fun cdv A outer s H vs Q E hr h => ?_)
  obtain ⟨a, k, rfl, ha, hk, q⟩ := h
  refine ⟨_, PSs.nox (pss_cons (ps_set (i := 2) sc_power.nd rfl (by first | exact Or.inl rfl | exact Or.inr rfl) (pe_cl d_asked_number (hr.mono (by omega)) T.g_asked_number pass0 (pa_cons (pv 0) (pa_cons (pe_gnat (n := 256) T.c_BITS) pa_nil))))
      (pss_cons (ps_set (i := 3) sc_power.nd rfl (by first | exact Or.inl rfl | exact Or.inr rfl) (pe_cl d_asked_number (hr.mono (by omega)) T.g_asked_number pass0 (pa_cons (pv 1) (pa_cons (pe_gnat (n := 256) T.c_BITS) pa_nil))))
      (pss_cons (ps_set (i := 4) sc_power.nd rfl (by first | exact Or.inl rfl | exact Or.inr rfl) (pe_nat 1))
      (pss_cons (ps_while PassesOwn.never (pt_cmpR op_gtn (pv 3) (pe_nat 0) (nomark _))
      (pss_cons (ps_cut (ps_if (pt_cmpR op_eqn (pe_op op_andn (pv 3) (pe_nat 1)) (pe_nat 1) (nomark _)) (pss_one (ps_set (i := 4) sc_power.nd rfl (by first | exact Or.inl rfl | exact Or.inr rfl) (pe_cl d_times (hr.mono (by omega)) T.g_times pass0 (pa_cons (pv 4) (pa_cons (pv 2) pa_nil))))) pss_nil))
      (pss_cons (ps_set (i := 2) sc_power.nd rfl (by first | exact Or.inl rfl | exact Or.inr rfl) (pe_cl d_times (hr.mono (by omega)) T.g_times pass0 (pa_cons (pv 2) (pa_cons (pv 2) pa_nil))))
      (pss_one (ps_set (i := 3) sc_power.nd rfl (by first | exact Or.inl rfl | exact Or.inr rfl) (pe_op op_shrn (pv 3) (pe_nat 1)))))))
      (pss_one (ps_ret (pv 4))))))), ?_⟩
  walk_at "rd"
  refine ⟨_, _, rfl, ha.lt, ?_⟩
  walk_at "rd"
  refine ⟨_, _, rfl, hk, ?_⟩
  walk_at "rd"
  refine while_m (fun m σ H' => ∃ l s f, Same H H' ∧ m = l ∧ Nim.In 8 s ∧ Nim.In 8 f ∧ Nim.nm f (Nim.npow s l) = Nim.npow a k ∧ σ = [some (.int (a : Int)), some (.int (k : Int)), some (.int (s : Int)), some (.int (l : Int)), some (.int (f : Int))]) _ ⟨k, a, 1, Same.refl _, rfl, ha, Nim.In.one (Nat.le_refl _), Nim.one_nm (Nim.npow_in ha k), rfl⟩ ?_
  rintro m σ H' ⟨l, s, f, sm, rfl, is, jf, e, rfl⟩
  walk_at "rd"
  refine ifN (fun c => ?_) (fun c => ?_)
  · refine ⟨_, fun _ _ h => h, ?_⟩
    have tr := Nim.npow_turn (f := f) (l := m) is
    refine ⟨fun σ' H2 => Hd (Same H H2 ∧ ∃ f', Nim.In 8 f' ∧ f' = (if m % 2 = 1 then Nim.nm f s else f) ∧ σ' = [some (.int (a : Int)), some (.int (k : Int)), some (.int (s : Int)), some (.int (m : Int)), some (.int (f' : Int))]), ?_, ?_⟩
    · intro σ' H2 h
      obtain ⟨sm2, f', jf', ef, rfl⟩ := h.out
      walk_at "rd"
      refine ⟨_, _, rfl, is, is, fun H3 s3 => ?_⟩
      walk_at "rd"
      refine ⟨m / 2 ^ 1, by omega, _, _, f', sm2.trans s3, rfl, Nim.nm_in s s, jf', ?_, rfl⟩
      rw [ef, Nat.pow_one, ← tr, e]
    · walk_at "rd"
      have e1 : m &&& 1 = m % 2 := Nat.and_one_is_mod m
      refine ifN (fun d => ?_) (fun d => ?_)
      · walk_at "rd"
        refine ⟨_, _, rfl, jf, is, fun H3 s3 => ?_⟩
        exact Hd.mk ⟨sm.trans s3, _, Nim.nm_in f s, by rw [if_pos (e1.symm.trans d)], rfl⟩
      · exact Hd.mk ⟨sm, f, jf, by rw [if_neg (fun z => d (e1.trans z))], rfl⟩
  · have e0 : m = 0 := Nat.eq_zero_of_not_pos c
    subst e0
    have q2 := q _ sm
    rw [← e, show Nim.npow s 0 = 1 from rfl, Nim.nm_one jf] at q2
    exact ⟨_, rfl, q2⟩

def sp_root (K : PySem.W.Frag) (n : Nat) : Sp := fun vs H Q _ => ∃ a : Nat, vs = [.int (a : Int)] ∧ Nim.In n a ∧ ∀ H', Same H H' → Q (.int ((Nim.nrt a : Nat) : Int)) H'
theorem nrt_small {a : Nat} (h : a < 2) : Nim.nrt a = a := by
  have i : Nim.In 8 a := Nim.In.top (n := 0) ⟨by decide, h⟩
  refine Nim.nrt_eq i i ?_
  rw [Nim.nm_small i i (.inl h)]
  have : a = 0 ∨ a = 1 := by omega
  rcases this with rfl | rfl <;> rfl
abbrev s_root : Stmt := top 18
theorem sc_root : FnScope ["number", "half", "pair"] ["number"] (defScope s_root) := ⟨rfl, rfl, rfl, by decide +kernel, rfl, by decide +kernel, by decide +kernel⟩
theorem ok_root (T : Txt K mg) (d_asked_number : Dn P w K mg base CX0 2 (He.ga K "asked_number") ["number", "bits"] (sp_asked_number K)) (d_level_of : Dn P w K mg base CX0 1 (He.ga K "level_of") ["number"] (sp_level_of K)) (d_parted : Dn P w K mg base CX0 1 (He.ga K "parted") ["number", "half"] (sp_parted K)) (d_times : Dn P w K mg base CX0 11 (He.ga K "times") ["one", "other"] ((sp_times K) 8)) : ∀ n, Dn P w K mg base CX0 (n + 12) (He.ga K "root") ["number"] (recSp (sp_root K) n) := by
  refine rec_dn T.f_root (fun _ _ _ _ _ _ us hl => match us, hl with | [_], _ => rfl) (fun n d_root => ?_)
  refine dn_of (k := n + 12) T.f_root sc_root (fun _ _ _ _ _ _ us hl => match us, hl with | [_], _ => rfl) (fun cdv A outer s H vs Q E hr h => ?_)
  obtain ⟨a, rfl, ha, q⟩ := h
  refine ⟨_, PSs.nox (pss_cons (ps_if (pt_cmpR op_ltn (pe_cl d_asked_number (hr.mono (by omega)) T.g_asked_number pass0 (pa_cons (pv 0) (pa_cons (pe_gnat (n := 256) T.c_BITS) pa_nil))) (pe_nat 2) (nomark _)) (pss_one (ps_ret (pv 0))) pss_nil)
      (pss_cons (ps_cut (ps_set (i := 1) sc_root.nd rfl (by first | exact Or.inl rfl | exact Or.inr rfl) (pe_op op_shln (pe_nat 1) (pe_op op_subn (pe_cl d_level_of (hr.mono (by omega)) T.g_level_of pass0 (pa_cons (pv 0) pa_nil)) (pe_nat 1)))))
      (pss_cons (ps_set (i := 2) sc_root.nd rfl (by first | exact Or.inl rfl | exact Or.inr rfl) (pe_cl d_parted (hr.mono (by omega)) T.g_parted pass0 (pa_cons (pv 0) (pa_cons (pv 1) pa_nil))))
      (pss_one (ps_ret (pe_op op_orn (pe_op op_shln (pe_cl d_root hr T.g_root pass0 (pa_cons (pe_ix ix_tup (pv 2) (pe_nat 0) (fun _ _ => rfl)) pa_nil)) (pv 1)) (pe_cl d_root hr T.g_root pass0 (pa_cons (pe_op op_xorn (pe_ix ix_tup (pv 2) (pe_nat 1) (fun _ _ => rfl)) (pe_cl d_times (hr.mono (by omega)) T.g_times pass0 (pa_cons (pe_ix ix_tup (pv 2) (pe_nat 0) (fun _ _ => rfl)) (pa_cons (pe_op op_shln (pe_nat 1) (pe_op op_subn (pv 1) (pe_nat 1))) pa_nil)))) pa_nil)))))))), ?_⟩
  walk_at "rd"
  refine ⟨_, _, rfl, ha.top.lt, ?_⟩
  walk_at "rd"
  refine ifN (fun c => ?_) (fun c => ?_)
  · walk_at "rd"
    have q2 := q _ (Same.refl _)
    rw [nrt_small c] at q2
    exact q2
  · refine ⟨fun σ' H2 => Hd (∃ j, j + 1 ≤ n ∧ Nim.In (j + 1) a ∧ H2 = H ∧ σ' = [some (.int (a : Int)), some (.int ((Nim.bw j : Nat) : Int)), none]), ?_, ?_⟩
    · intro σ' H2 h
      obtain ⟨j, hj, ja, rfl, rfl⟩ := h.out
      obtain ⟨m, rfl⟩ : ∃ m, n = m + 1 := ⟨n - 1, by omega⟩
      have hm8 : m ≤ 8 := Nat.le_of_succ_le ha.le
      have hjm : j ≤ m := by omega
      have hbw : Nim.bw j ≤ 1000 := Nat.le_trans (Nat.pow_le_pow_right (by decide) (show j ≤ 8 by omega)) (by decide)
      have ah := ja.hi
      have al := Nim.In.lo a ja.le
      have kc : Nim.In j (1 * 2 ^ (Nim.bw j - 1)) := by rw [Nat.one_mul]; exact Nim.In.cst (Nat.le_of_succ_le ja.le)
      have tr := Nim.nrt_turn ja
      walk_at "rd"
      refine ⟨_, _, rfl, hbw, fun p1 n1 => ?_⟩
      have t1 : ∀ H3, Same (upd H2 p1 (.tup [.int ((a / 2 ^ Nim.bw j : Nat) : Int), .int ((a % 2 ^ Nim.bw j : Nat) : Int)])) H3 → Same H2 H3 ∧ H3 p1 = some (.tup [.int ((a / 2 ^ Nim.bw j : Nat) : Int), .int ((a % 2 ^ Nim.bw j : Nat) : Int)]) := fun H3 s3 => ⟨(Same.upd n1).trans s3, s3 _ _ upd_same⟩
      obtain ⟨_, a1⟩ := t1 _ (Same.refl _)
      walk_at "rd"
      refine ⟨_, _, _, _, rfl, rfl, SqT.of a1, atI_nat (j := 0) rfl, ?_⟩
      walk_at "rd"
      refine ⟨ah.up hjm hm8, fun H3 s3 => ?_⟩
      obtain ⟨_, a1⟩ := t1 _ s3
      walk_at "rd"
      refine ⟨⟨256, (Nim.nrt_ok ah).1.top.lt, by omega⟩, ?_⟩
      walk_at "rd"
      refine ⟨_, _, _, _, rfl, rfl, SqT.of a1, atI_nat (j := 1) rfl, ?_⟩
      walk_at "rd"
      refine ⟨_, _, _, _, rfl, rfl, SqT.of a1, atI_nat (j := 0) rfl, ?_⟩
      walk_at "rd"
      refine ⟨Nim.bw_pos j, ?_⟩
      walk_at "rd"
      refine ⟨⟨1, by decide, by omega⟩, ?_⟩
      walk_at "rd"
      refine ⟨_, _, rfl, ah.top, kc.top, fun H4 s4 => ?_⟩
      walk_at "rd"
      refine ⟨(al.xor (ah.nm kc)).up hjm hm8, fun H5 s5 => ?_⟩
      walk_at "rd"
      have q2 := q H5 (t1 _ ((s3.trans s4).trans s5)).1
      rw [Nat.one_mul] at kc
      rw [tr, ← nat_or (Nim.nrt_ok (al.xor (ah.nm kc))).1.lt] at q2
      rw [Nat.one_mul]
      exact q2
    · walk_at "rd"
      refine ⟨ha.top.lt, fun l il => ?_⟩
      have l1 := il.pos (by omega)
      have l2 := il.le ha.lt
      have l3 := il.lt
      walk_at "rd"
      refine ⟨l1, ?_⟩
      walk_at "rd"
      have hn8 := ha.le
      refine ⟨⟨1, by decide, by omega⟩, Hd.mk ⟨l - 1, by omega, ⟨by omega, ?_⟩, rfl, ?_⟩⟩
      · rw [Nat.sub_add_cancel l1]
        exact l3
      · show [some (V.int (a : Int)), some (.int ((1 * 2 ^ (l - 1) : Nat) : Int)), none] = _
        rw [Nat.one_mul]


/-! ### the roots of x x + m x + n -/
theorem half_bit {r k : Nat} (h : r < 2 ^ k) (k0 : 0 < k) : (r / 2 ^ (k - 1) &&& 1 = 1 → r ^^^ 2 ^ (k - 1) < 2 ^ (k - 1)) ∧ (¬ (r / 2 ^ (k - 1) &&& 1 = 1) → r < 2 ^ (k - 1)) := by
  obtain ⟨j, rfl⟩ : ∃ j, k = j + 1 := ⟨k - 1, by omega⟩
  have e : j + 1 - 1 = j := rfl
  rw [e, Nat.and_one_is_mod]
  have p : 0 < 2 ^ j := Nat.two_pow_pos j
  have q : r / 2 ^ j < 2 := Nat.div_lt_of_lt_mul (by rw [Nat.pow_succ] at h; exact h)
  have s := Nat.div_add_mod r (2 ^ j)
  have l := Nat.mod_lt r p
  constructor
  · intro c
    have c2 : r / 2 ^ j = 1 := (show ∀ t : Nat, t < 2 → t % 2 = 1 → t = 1 by omega) _ q c
    rw [c2] at s
    have x := Nim.xor_parts j 1 (r % 2 ^ j) 1 0 l p
    rw [Nat.one_mul, Nat.add_zero, Nat.xor_zero, Nat.xor_self, Nat.zero_mul, Nat.zero_add] at x
    have e2 : r = 2 ^ j + r % 2 ^ j := by omega
    rw [e2, x]
    exact l
  · intro c
    have c2 : r / 2 ^ j = 0 := (show ∀ t : Nat, t < 2 → ¬ t % 2 = 1 → t = 0 by omega) _ q c
    rw [c2] at s
    omega
def sp_settled (K : PySem.W.Frag) (n : Nat) : Sp := fun vs H Q _ => ∃ a l : Nat, vs = [.int (a : Int), .int (l : Int)] ∧ l ≤ n ∧ n ≤ 8 ∧ a < 2 ^ (Nim.bw l - 1) ∧ ∀ (x : Nat) H', Same H H' → Nim.Even2 l a x → Q (.int (x : Int)) H'
abbrev s_settled : Stmt := top 19
theorem sc_settled : FnScope ["number", "level", "half", "pair", "high", "rest"] ["number", "level"] (defScope s_settled) := ⟨rfl, rfl, rfl, by decide +kernel, rfl, by decide +kernel, by decide +kernel⟩
theorem ok_settled (T : Txt K mg) (d_parted : Dn P w K mg base CX0 1 (He.ga K "parted") ["number", "half"] (sp_parted K)) (d_times : Dn P w K mg base CX0 11 (He.ga K "times") ["one", "other"] ((sp_times K) 8)) : ∀ n, Dn P w K mg base CX0 (n + 12) (He.ga K "settled") ["number", "level"] (recSp (sp_settled K) n) := by
  refine rec_dn T.f_settled (fun _ _ _ _ _ _ us hl => match us, hl with | [_, _], _ => rfl) (fun n d_settled => ?_)
  refine dn_of (k := n + 12) T.f_settled sc_settled (fun _ _ _ _ _ _ us hl => match us, hl with | [_, _], _ => rfl) (fun cdv A outer s H vs Q E hr h => ?_)
  obtain ⟨a, l, rfl, hl, h8, ha, q⟩ := h
  refine ⟨_, PSs.nox (pss_cons (ps_if (pt_cmpR op_eqn (pv 1) (pe_nat 0) (nomark _)) (pss_one (ps_ret (pe_nat 0))) pss_nil)
      (pss_cons (ps_cut (ps_set (i := 2) sc_settled.nd rfl (by first | exact Or.inl rfl | exact Or.inr rfl) (pe_op op_shln (pe_nat 1) (pe_op op_subn (pv 1) (pe_nat 1)))))
      (pss_cons (ps_set (i := 3) sc_settled.nd rfl (by first | exact Or.inl rfl | exact Or.inr rfl) (pe_cl d_parted (hr.mono (by omega)) T.g_parted pass0 (pa_cons (pv 0) (pa_cons (pv 2) pa_nil))))
      (pss_cons (ps_set (i := 4) sc_settled.nd rfl (by first | exact Or.inl rfl | exact Or.inr rfl) (pe_cl d_settled hr T.g_settled pass0 (pa_cons (pe_ix ix_tup (pv 3) (pe_nat 0) (fun _ _ => rfl)) (pa_cons (pe_op op_subn (pv 1) (pe_nat 1)) pa_nil))))
      (pss_cons (ps_set (i := 5) sc_settled.nd rfl (by first | exact Or.inl rfl | exact Or.inr rfl) (pe_op op_xorn (pe_ix ix_tup (pv 3) (pe_nat 1) (fun _ _ => rfl)) (pe_cl d_times (hr.mono (by omega)) T.g_times pass0 (pa_cons (pe_cl d_times (hr.mono (by omega)) T.g_times pass0 (pa_cons (pv 4) (pa_cons (pv 4) pa_nil))) (pa_cons (pe_op op_shln (pe_nat 1) (pe_op op_subn (pv 2) (pe_nat 1))) pa_nil)))))
      (pss_cons (ps_cut (ps_if (pt_cmpR op_eqn (pe_op op_andn (pe_op op_shrn (pv 5) (pe_op op_subn (pv 2) (pe_nat 1))) (pe_nat 1)) (pe_nat 1) (nomark _)) (pss_cons (ps_set (i := 4) sc_settled.nd rfl (by first | exact Or.inl rfl | exact Or.inr rfl) (pe_op op_xorn (pv 4) (pe_nat 1)))
      (pss_one (ps_set (i := 5) sc_settled.nd rfl (by first | exact Or.inl rfl | exact Or.inr rfl) (pe_op op_xorn (pv 5) (pe_op op_shln (pe_nat 1) (pe_op op_subn (pv 2) (pe_nat 1))))))) pss_nil))
      (pss_one (ps_ret (pe_op op_orn (pe_op op_shln (pv 4) (pv 2)) (pe_cl d_settled hr T.g_settled pass0 (pa_cons (pv 5) (pa_cons (pe_op op_subn (pv 1) (pe_nat 1)) pa_nil)))))))))))), ?_⟩
  walk_at "rd"
  refine ifN (fun c => ?_) (fun c => ?_)
  · walk_at "rd"
    subst c
    have a0 : a = 0 := by
      have : a < 1 := ha
      omega
    subst a0
    exact q 0 _ (Same.refl _) ⟨Nim.In.zero (by decide), rfl, by rw [Nim.nm_zero]; rfl⟩
  · obtain ⟨j, rfl⟩ : ∃ j, l = j + 1 := ⟨l - 1, by omega⟩
    refine ⟨fun σ' H2 => Hd (H2 = H ∧ σ' = [some (.int (a : Int)), some (.int ((j + 1 : Nat) : Int)), some (.int ((Nim.bw j : Nat) : Int)), none, none, none]), ?_, ?_⟩
    · intro σ' H2 h
      obtain ⟨rfl, rfl⟩ := h.out
      obtain ⟨m, rfl⟩ : ∃ m, n = m + 1 := ⟨n - 1, by omega⟩
      have hbw : Nim.bw j ≤ 1000 := Nat.le_trans (Nat.pow_le_pow_right (by decide) (show j ≤ 8 by omega)) (by decide)
      have bp := Nim.bw_pos j
      have ja : Nim.In (j + 1) a := ⟨by omega, Nat.lt_of_lt_of_le ha (Nat.pow_le_pow_right (by decide) (Nat.sub_le _ _))⟩
      have ah := ja.hi
      have al := Nim.In.lo a ja.le
      have ah2 : a / 2 ^ Nim.bw j < 2 ^ (Nim.bw j - 1) := by
        refine Nat.div_lt_of_lt_mul ?_
        rw [← Nat.pow_add]
        have e : Nim.bw j + (Nim.bw j - 1) = Nim.bw (j + 1) - 1 := by rw [Nim.bw_succ]; omega
        rw [e]
        exact ha
      have ea : a = a / 2 ^ Nim.bw j * 2 ^ Nim.bw j + a % 2 ^ Nim.bw j := by rw [Nat.mul_comm]; exact (Nat.div_add_mod a _).symm
      have kc0 : Nim.In j (2 ^ (Nim.bw j - 1)) := Nim.In.cst (by omega)
      have kc : Nim.In 8 (1 * 2 ^ (Nim.bw j - 1)) := by rw [Nat.one_mul]; exact kc0.top
      walk_at "rd"
      refine ⟨_, _, rfl, hbw, fun p1 n1 => ?_⟩
      have t1 : ∀ H3, Same (upd H2 p1 (.tup [.int ((a / 2 ^ Nim.bw j : Nat) : Int), .int ((a % 2 ^ Nim.bw j : Nat) : Int)])) H3 → Same H2 H3 ∧ H3 p1 = some (.tup [.int ((a / 2 ^ Nim.bw j : Nat) : Int), .int ((a % 2 ^ Nim.bw j : Nat) : Int)]) := fun H3 s3 => ⟨(Same.upd n1).trans s3, s3 _ _ upd_same⟩
      obtain ⟨_, a1⟩ := t1 _ (Same.refl _)
      walk_at "rd"
      refine ⟨_, _, _, _, rfl, rfl, SqT.of a1, atI_nat (j := 0) rfl, ?_⟩
      walk_at "rd"
      refine ⟨Nat.succ_le_succ (Nat.zero_le j), ?_⟩
      walk_at "rd"
      refine ⟨_, j, rfl, by omega, by omega, ah2, fun x H3 s3 ex => ?_⟩
      obtain ⟨_, a1⟩ := t1 _ s3
      walk_at "rd"
      refine ⟨_, _, _, _, rfl, rfl, SqT.of a1, atI_nat (j := 1) rfl, ?_⟩
      walk_at "rd"
      refine ⟨_, _, rfl, ex.inn.top, ex.inn.top, fun H4 s4 => ?_⟩
      walk_at "rd"
      refine ⟨bp, ?_⟩
      walk_at "rd"
      refine ⟨⟨1, by decide, by omega⟩, ?_⟩
      walk_at "rd"
      refine ⟨_, _, rfl, Nim.nm_in _ _, kc, fun H5 s5 => ?_⟩
      have sm := (t1 _ ((s3.trans s4).trans s5)).1
      walk_at "rd"
      refine ⟨fun σ' H6 => Hd (H6 = H5 ∧ ∃ h r : Nat, Nim.In j h ∧ Nim.nm h h ^^^ h = a / 2 ^ Nim.bw j ∧ r < 2 ^ (Nim.bw j - 1) ∧ r = a % 2 ^ Nim.bw j ^^^ Nim.nm (Nim.nm h h) (2 ^ (Nim.bw j - 1)) ∧
        σ' = [some (.int (a : Int)), some (.int ((j + 1 : Nat) : Int)), some (.int ((Nim.bw j : Nat) : Int)), some (.ref p1), some (.int (h : Int)), some (.int (r : Int))]), ?_, ?_⟩
      · intro σ' H6 h
        obtain ⟨rfl, h, r, ih, eh, lr, er, rfl⟩ := h.out
        walk_at "rd"
        refine ⟨⟨256, ih.top.lt, by omega⟩, ?_⟩
        walk_at "rd"
        refine ⟨Nat.succ_le_succ (Nat.zero_le j), ?_⟩
        walk_at "rd"
        refine ⟨_, j, rfl, by omega, by omega, lr, fun y H7 s7 ey => ?_⟩
        walk_at "rd"
        have fin := Nim.Even2.join (by omega) ih eh (er ▸ ey) al
        rw [← ea] at fin
        have q2 := q _ H7 (sm.trans s7) fin
        rw [← nat_or ey.inn.lt] at q2
        exact q2
      · have e1 := ex.eq
        have hr : Nim.In j (a % 2 ^ Nim.bw j ^^^ Nim.nm (Nim.nm x x) (2 ^ (Nim.bw j - 1))) := al.xor ((ex.inn.nm ex.inn).nm kc0)
        have hb := half_bit hr.lt bp
        walk_at "rd"
        refine ⟨bp, ?_⟩
        walk_at "rd"
        rw [Nat.one_mul]
        refine ifN (fun d => ?_) (fun d => ?_)
        · walk_at "rd"
          refine ⟨bp, ?_⟩
          walk_at "rd"
          refine ⟨⟨1, by decide, by omega⟩, ?_⟩
          walk_at "rd"
          refine Hd.mk ⟨rfl, x ^^^ 1, _, ex.inn.xor (Nim.In.one (by omega)), ?_, hb.1 d, Nim.cst_one_up x _ (by omega), ?_⟩
          · rw [Nim.sq_one_up x ex.inn.top, e1]
          · rw [Nat.one_mul]
            rfl
        · exact Hd.mk ⟨rfl, x, _, ex.inn, e1, hb.2 d, rfl, rfl⟩
    · walk_at "rd"
      refine ⟨Nat.succ_le_succ (Nat.zero_le j), ?_⟩
      walk_at "rd"
      refine ⟨⟨1, by decide, by omega⟩, Hd.mk ⟨rfl, ?_⟩⟩
      show [some (V.int (a : Int)), some (.int ((j + 1 : Nat) : Int)), some (.int ((1 * 2 ^ j : Nat) : Int)), none, none, none] = _
      rw [Nat.one_mul]
def sp_settled_above (K : PySem.W.Frag) : Sp := fun vs H Q _ => ∃ a k : Nat, vs = [.int (a : Int)] ∧ Nim.In k a ∧ k + 1 ≤ 8 ∧ ∀ (x : Nat) H', Same H H' → Nim.Even2 (k + 1) a x → Q (.int (x : Int)) H'
abbrev s_settled_above : Stmt := top 20
theorem sc_settled_above : FnScope ["number", "level", "size"] ["number"] (defScope s_settled_above) := ⟨rfl, rfl, rfl, by decide +kernel, rfl, by decide +kernel, by decide +kernel⟩
theorem ok_settled_above (T : Txt K mg) (d_level_of : Dn P w K mg base CX0 1 (He.ga K "level_of") ["number"] (sp_level_of K)) (d_settled : Dn P w K mg base CX0 21 (He.ga K "settled") ["number", "level"] ((sp_settled K) 8)) : Dn P w K mg base CX0 22 (He.ga K "settled_above") ["number"] (sp_settled_above K) := by
  refine dn_of (k := 21) T.f_settled_above sc_settled_above (fun _ _ _ _ _ _ us hl => match us, hl with | [_], _ => rfl) (fun cdv A outer s H vs Q E hr h => ?_)
  obtain ⟨a, k, rfl, ha, hk, q⟩ := h
  refine ⟨_, PSs.nox (pss_cons (ps_set (i := 1) sc_settled_above.nd rfl (by first | exact Or.inl rfl | exact Or.inr rfl) (pe_cl d_level_of (hr.mono (by omega)) T.g_level_of pass0 (pa_cons (pv 0) pa_nil)))
      (pss_cons (ps_set (i := 2) sc_settled_above.nd rfl (by first | exact Or.inl rfl | exact Or.inr rfl) (pe_op op_shln (pe_nat 1) (pv 1)))
      (pss_cons (ps_if (pt_cmpR op_eqn (pe_op op_andn (pe_op op_shrn (pv 0) (pe_op op_subn (pv 2) (pe_nat 1))) (pe_nat 1)) (pe_nat 0) (nomark _)) (pss_one (ps_ret (pe_cl d_settled (hr.mono (by omega)) T.g_settled pass0 (pa_cons (pv 0) (pa_cons (pv 1) pa_nil))))) pss_nil)
      (pss_one (ps_ret (pe_op op_xorn (pe_op op_shln (pe_nat 1) (pv 2)) (pe_cl d_settled (hr.mono (by omega)) T.g_settled pass0 (pa_cons (pe_op op_xorn (pv 0) (pe_op op_shln (pe_nat 1) (pe_op op_subn (pv 2) (pe_nat 1)))) (pa_cons (pv 1) pa_nil))))))))), ?_⟩
  walk_at "rd"
  refine ⟨ha.top.lt, fun l il => ?_⟩
  have l2 := il.le ha.lt
  have ja : Nim.In l a := ⟨by omega, il.lt⟩
  have bp := Nim.bw_pos l
  have hbw : Nim.bw l ≤ 1000 := Nat.le_trans (Nat.pow_le_pow_right (by decide) (show l ≤ 8 by omega)) (by decide)
  have hb := half_bit ja.lt bp
  have e1 : 1 * 2 ^ l = Nim.bw l := Nat.one_mul _
  walk_at "rd"
  refine ⟨⟨1, by decide, by omega⟩, ?_⟩
  walk_at "rd"
  refine ⟨by rw [e1]; exact bp, ?_⟩
  walk_at "rd"
  rw [e1]
  refine ifN (fun d => ?_) (fun d => ?_)
  · walk_at "rd"
    have d2 : ¬ (a / 2 ^ (Nim.bw l - 1) &&& 1 = 1) := by omega
    refine ⟨_, l, rfl, by omega, by decide, hb.2 d2, fun x H1 s1 ex => q x H1 s1 (ex.up (by omega) hk)⟩
  · walk_at "rd"
    have d2 : a / 2 ^ (Nim.bw l - 1) &&& 1 = 1 := by
      rw [Nat.and_one_is_mod] at d ⊢
      omega
    refine ⟨⟨1, by decide, by rw [e1]; omega⟩, ?_⟩
    walk_at "rd"
    refine ⟨by rw [e1]; exact bp, ?_⟩
    walk_at "rd"
    refine ⟨⟨1, by decide, by rw [e1]; omega⟩, ?_⟩
    walk_at "rd"
    refine ⟨_, l, rfl, by omega, by decide, ?_, fun x H1 s1 ex => ?_⟩
    · rw [e1, Nat.one_mul]
      exact hb.1 d2
    · walk_at "rd"
      rw [e1, Nat.one_mul] at ex
      rw [e1, Nat.one_mul]
      exact q _ H1 s1 ((Nim.Even2.above (by omega) ex).up (by omega) hk)
def sp_roots (K : PySem.W.Frag) : Sp := fun vs H Q _ => ∃ m n : Nat, vs = [.int (m : Int), .int (n : Int)] ∧ Nim.In 6 m ∧ Nim.In 6 n ∧ ∀ (R : Addr) (ns : List Nat) H', Same H H' → H R = none → H' R = some (.lst (NL ns)) → Nim.RootsOf m n ns → Q (.ref R) H'
abbrev s_roots : Stmt := top 21
theorem sc_roots : FnScope ["middle", "last", "even"] ["middle", "last"] (defScope s_roots) := ⟨rfl, rfl, rfl, by decide +kernel, rfl, by decide +kernel, by decide +kernel⟩
theorem ok_roots (T : Txt K mg) (d_asked_number : Dn P w K mg base CX0 2 (He.ga K "asked_number") ["number", "bits"] (sp_asked_number K)) (d_root : Dn P w K mg base CX0 21 (He.ga K "root") ["number"] ((sp_root K) 8)) (d_settled_above : Dn P w K mg base CX0 22 (He.ga K "settled_above") ["number"] (sp_settled_above K)) (d_times : Dn P w K mg base CX0 11 (He.ga K "times") ["one", "other"] ((sp_times K) 8)) (d_undone : Dn P w K mg base CX0 21 (He.ga K "undone") ["number"] ((sp_undone K) 8)) : Dn P w K mg base CX0 23 (He.ga K "roots") ["middle", "last"] (sp_roots K) := by
  refine dn_of (k := 22) T.f_roots sc_roots (fun _ _ _ _ _ _ us hl => match us, hl with | [_, _], _ => rfl) (fun cdv A outer s H vs Q E hr h => ?_)
  obtain ⟨m, n, rfl, im, in_, q⟩ := h
  have i64 : ∀ x, Nim.In 6 x → x < 2 ^ (256 / 4) := fun x h => h.lt
  refine ⟨_, PSs.nox (pss_cons (ps_expr (pe_cl d_asked_number (hr.mono (by omega)) T.g_asked_number pass0 (pa_cons (pv 0) (pa_cons (pe_op op_fdivn (pe_gnat (n := 256) T.c_BITS) (pe_nat 4)) pa_nil))))
      (pss_cons (ps_expr (pe_cl d_asked_number (hr.mono (by omega)) T.g_asked_number pass0 (pa_cons (pv 1) (pa_cons (pe_op op_fdivn (pe_gnat (n := 256) T.c_BITS) (pe_nat 4)) pa_nil))))
      (pss_cons (ps_if (pt_cmpR op_eqn (pv 0) (pe_nat 0) (nomark _)) (pss_one (ps_ret (pe_lst (pa_cons (pe_cl d_root (hr.mono (by omega)) T.g_root pass0 (pa_cons (pv 1) pa_nil)) pa_nil)))) pss_nil)
      (pss_cons (ps_set (i := 2) sc_roots.nd rfl (by first | exact Or.inl rfl | exact Or.inr rfl) (pe_cl d_settled_above (hr.mono (by omega)) T.g_settled_above pass0 (pa_cons (pe_cl d_times (hr.mono (by omega)) T.g_times pass0 (pa_cons (pv 1) (pa_cons (pe_cl d_undone (hr.mono (by omega)) T.g_undone pass0 (pa_cons (pe_cl d_times (hr.mono (by omega)) T.g_times pass0 (pa_cons (pv 0) (pa_cons (pv 0) pa_nil))) pa_nil)) pa_nil))) pa_nil)))
      (pss_one (ps_ret (pe_callB cr_sort2 (by rfl) T.n_sorted (by decide +kernel) (pa_cons (pe_lst (pa_cons (pe_cl d_times (hr.mono (by omega)) T.g_times pass0 (pa_cons (pv 0) (pa_cons (pv 2) pa_nil))) (pa_cons (pe_cl d_times (hr.mono (by omega)) T.g_times pass0 (pa_cons (pv 0) (pa_cons (pe_op op_xorn (pv 2) (pe_nat 1)) pa_nil))) pa_nil))) pa_nil)))))))), ?_⟩
  walk_at "rd"
  refine ⟨_, _, rfl, i64 _ im, ?_⟩
  walk_at "rd"
  refine ⟨_, _, rfl, i64 _ in_, ?_⟩
  walk_at "rd"
  refine ifN (fun c => ?_) (fun c => ?_)
  · walk_at "rd"
    refine ⟨in_.top, fun H1 s1 => ?_⟩
    walk_at "rd"
    intro R nR
    exact q R [Nim.nrt n] _ (s1.trans (Same.upd nR)) (s1.free nR) upd_same (.inl ⟨c, rfl⟩)
  · have m0 : 0 < m := Nat.pos_of_ne_zero c
    have pm : 0 < Nim.nm m m := (Nim.nm_pos im.top im.top).mpr ⟨m0, m0⟩
    have iv := (Nim.ninv_ok (im.nm im) pm).1
    walk_at "rd"
    refine ⟨_, _, rfl, im.top, im.top, fun H1 s1 => ?_⟩
    walk_at "rd"
    refine ⟨Nim.nm_in _ _, pm, fun H2 s2 => ?_⟩
    walk_at "rd"
    refine ⟨_, _, rfl, in_.top, iv.top, fun H3 s3 => ?_⟩
    walk_at "rd"
    refine ⟨_, 6, rfl, in_.nm iv, by decide, fun x H4 s4 ex => ?_⟩
    obtain ⟨k1, k2, k3⟩ := Nim.even_roots im.top in_.top m0 (ex.up (by decide) (by decide))
    have i7 := im.up (show 6 ≤ 7 by decide) (by decide)
    have ir : Nim.In 7 (Nim.nm m x) := i7.nm ex.inn
    have is : Nim.In 7 (Nim.nm m x ^^^ m) := ir.xor i7
    walk_at "rd"
    refine ⟨_, _, rfl, im.top, ex.inn.top, fun H5 s5 => ?_⟩
    walk_at "rd"
    refine ⟨_, _, rfl, im.top, (ex.inn.xor (Nim.In.one (by decide))).top, fun H6 s6 => ?_⟩
    walk_at "rd"
    refine ⟨by show 2 ≤ sizeLine; decide, fun L nL => ?_⟩
    refine ⟨_, Nim.nm m x, Nim.nm m (x ^^^ 1), rfl, SqL.of upd_same, fun R nR => ?_⟩
    have s := ((s1.trans s2).trans (s3.trans s4)).trans (s5.trans s6)
    refine q R _ _ ((s.trans (Same.upd nL)).trans (Same.upd nR)) ((s.trans (Same.upd nL)).free nR) upd_same (.inr ⟨m0, _, _, rfl, ?_⟩)
    rw [k2]
    have root2 : Nim.IsRoot m n (Nim.nm m x ^^^ m) := by
      have h := k1
      unfold Nim.IsRoot at h ⊢
      rw [Nim.sq_xor, Nim.nm_xor]
      generalize Nim.nm (Nim.nm m x) (Nim.nm m x) = y at *
      generalize Nim.nm m (Nim.nm m x) = z at *
      generalize Nim.nm m m = v at *
      have e : y ^^^ v ^^^ (z ^^^ v) ^^^ n = (y ^^^ z ^^^ n) ^^^ (v ^^^ v) := by ac_rfl
      rw [e, h, Nat.xor_self]
      rfl
    have ne : Nim.nm m x ≠ Nim.nm m x ^^^ m := fun e => by
      have e2 := congrArg (Nim.nm m x ^^^ ·) e
      simp only [← Nat.xor_assoc, Nat.xor_self, Nat.zero_xor] at e2
      omega
    have ex1 : Nim.nm m x ^^^ (Nim.nm m x ^^^ m) = m := by rw [← Nat.xor_assoc, Nat.xor_self, Nat.zero_xor]
    rcases Nat.lt_or_gt_of_ne ne with c1 | c1
    · rw [Nat.min_eq_left (Nat.le_of_lt c1), Nat.max_eq_right (Nat.le_of_lt c1)]
      exact ⟨c1, ir, is, k1, root2, ex1, k3⟩
    · rw [Nat.min_eq_right (Nat.le_of_lt c1), Nat.max_eq_left (Nat.le_of_lt c1)]
      exact ⟨c1, is, ir, root2, k1, by rw [Nat.xor_comm]; exact ex1, by rw [Nim.nm_comm]; exact k3⟩
theorem roots_of_two {a b : Nat} (ia : Nim.In 6 a) (ib : Nim.In 6 b) : Nim.RootsOf (a ^^^ b) (Nim.nm a b) (if a = b then [a] else [min a b, max a b]) := by
  by_cases c : a = b
  · subst c
    rw [if_pos rfl, Nat.xor_self]
    exact .inl ⟨rfl, by rw [Nim.nrt_sq ia.top]⟩
  · rw [if_neg c]
    have m0 : 0 < a ^^^ b := Nat.pos_of_ne_zero fun e => c (Nim.xor_eq_zero e)
    have ra : Nim.IsRoot (a ^^^ b) (Nim.nm a b) a := by
      unfold Nim.IsRoot
      rw [Nim.xor_nm, Nim.nm_comm b a]
      generalize Nim.nm a a = x
      generalize Nim.nm a b = y
      have e : x ^^^ (x ^^^ y) ^^^ y = (x ^^^ x) ^^^ (y ^^^ y) := by ac_rfl
      rw [e, Nat.xor_self, Nat.xor_self]
      rfl
    have rb : Nim.IsRoot (a ^^^ b) (Nim.nm a b) b := by
      unfold Nim.IsRoot
      rw [Nim.xor_nm]
      generalize Nim.nm b b = x
      generalize Nim.nm a b = y
      have e : x ^^^ (y ^^^ x) ^^^ y = (x ^^^ x) ^^^ (y ^^^ y) := by ac_rfl
      rw [e, Nat.xor_self, Nat.xor_self]
      rfl
    have ia7 := ia.up (show 6 ≤ 7 by decide) (by decide)
    have ib7 := ib.up (show 6 ≤ 7 by decide) (by decide)
    rcases Nat.lt_or_gt_of_ne c with d | d
    · rw [Nat.min_eq_left (Nat.le_of_lt d), Nat.max_eq_right (Nat.le_of_lt d)]
      exact .inr ⟨m0, a, b, rfl, d, ia7, ib7, ra, rb, rfl, rfl⟩
    · rw [Nat.min_eq_right (Nat.le_of_lt d), Nat.max_eq_left (Nat.le_of_lt d)]
      exact .inr ⟨m0, b, a, rfl, d, ib7, ia7, rb, ra, Nat.xor_comm _ _, Nim.nm_comm _ _⟩

/-! ### lists of lists -/
/-- rows that stand at R: m of them at as, each w numbers long, f i j in the i-th at j -/
def RowsOk (H : Hp) (R : Addr) (as : List Addr) (f : Nat → Nat → Nat) (m w : Nat) : Prop :=
  H R = some (.lst (as.map V.ref)) ∧ as.length = m ∧ R ∉ as ∧ ∀ i a, as[i]? = some a → H a = some (.lst ((List.range w).map fun j => V.int ((f i j : Nat) : Int)))
theorem RowsOk.keep {H H' : Hp} {R : Addr} {as : List Addr} {f : Nat → Nat → Nat} {m w : Nat} (h : RowsOk H R as f m w) (s : Same H H') : RowsOk H' R as f m w := ⟨s _ _ h.1, h.2.1, h.2.2.1, fun i a e => s _ _ (h.2.2.2 i a e)⟩
theorem range_snoc {f : Nat → V} (n : Nat) : (List.range (n + 1)).map f = (List.range n).map f ++ [f n] := by
  rw [List.range_succ, List.map_append]
  rfl
theorem small_line {n : Nat} (h : n ≤ 1000) : n < sizeLine := small1000 h
theorem range_at {f : Nat → V} {n j : Nat} (h : j < n) : ((List.range n).map f)[j]? = some (f j) := by
  simp [h]
/-- one row more -/
theorem RowsOk.more {H : Hp} {R D : Addr} {as : List Addr} {f : Nat → Nat → Nat} {m w : Nat} (h : RowsOk H R as f m w) (nd : R ≠ D) (hd : H D = some (.lst ((List.range w).map fun j => V.int ((f m j : Nat) : Int)))) :
    RowsOk (upd H R (.lst (as.map V.ref ++ [V.ref D]))) R (as ++ [D]) f (m + 1) w := by
  refine ⟨by rw [upd_same, List.map_append]; rfl, by rw [List.length_append, h.2.1]; rfl, ?_, fun i a e => ?_⟩
  · rw [List.mem_append, List.mem_singleton]
    rintro (z | z)
    · exact h.2.2.1 z
    · exact nd z
  · rw [List.getElem?_append] at e
    split at e
    · have ne : a ≠ R := fun z => h.2.2.1 (z ▸ List.mem_of_getElem? e)
      rw [upd_ne ne]
      exact h.2.2.2 i a e
    · rename_i c
      have e2 : i - as.length = 0 := by
        have := (List.getElem?_eq_some_iff.mp e).1
        simp only [List.length_singleton] at this
        omega
      rw [e2] at e
      obtain rfl : D = a := Option.some.inj e
      have e3 : i = m := by rw [← h.2.1]; omega
      rw [e3, upd_ne nd.symm]
      exact hd
theorem RowsOk.ix {K : PySem.W.Frag} {H : Hp} {R : Addr} {as : List Addr} {f : Nat → Nat → Nat} {m w i j : Nat} (h : RowsOk H R as f m w) (hi : i < m) (hj : j < w) :
    ∃ a, SqL K H R (as.map V.ref) ∧ atI (as.map V.ref) (i : Int) = some (.ref a) ∧ SqL K H a ((List.range w).map fun j => V.int ((f i j : Nat) : Int)) ∧ atI ((List.range w).map fun j => V.int ((f i j : Nat) : Int)) (j : Int) = some (.int ((f i j : Nat) : Int)) := by
  obtain ⟨a, ea⟩ : ∃ a, as[i]? = some a := ⟨as[i]'(by rw [h.2.1]; exact hi), List.getElem?_eq_getElem _⟩
  exact ⟨a, SqL.of h.1, atI_nat (by rw [List.getElem?_map, ea]; rfl), SqL.of (h.2.2.2 i a ea), atI_nat (range_at hj)⟩
theorem Same.put {H H' : Hp} {d : Addr} {o : HO} (s : Same H H') (nd : H d = none) : Same H (L2.upd H' d o) := fun b u e => by
  rw [upd_ne (ne_of_none e nd)]
  exact s b u e

def sp__law_products_right (K : PySem.W.Frag) : Sp := fun vs H Q _ => ∃ a b c : Nat, vs = [.int (a : Int), .int (b : Int), .int (c : Int)] ∧ Nim.In 8 a ∧ Nim.In 8 b ∧ Nim.In 8 c ∧ 0 < a ∧ 0 < b ∧ 0 < c ∧ ∀ H', Same H H' → Q (.bl true) H'
abbrev s__law_products_right : Stmt := top 25
theorem sc__law_products_right : FnScope ["_law_a", "_law_b", "_law_c", "_law_both"] ["_law_a", "_law_b", "_law_c"] (defScope s__law_products_right) := ⟨rfl, rfl, rfl, by decide +kernel, rfl, by decide +kernel, by decide +kernel⟩
theorem ok__law_products_right (T : Txt K mg) (d_product : Dn P w K mg base CX0 12 (He.ga K "product") ["one", "other"] (sp_product K)) (d_inverse : Dn P w K mg base CX0 22 (He.ga K "inverse") ["number"] (sp_inverse K)) (d_root : Dn P w K mg base CX0 21 (He.ga K "root") ["number"] ((sp_root K) 8)) (d_quotient : Dn P w K mg base CX0 23 (He.ga K "quotient") ["one", "other"] (sp_quotient K)) (d_added : Dn P w K mg base CX0 3 (He.ga K "added") ["one", "other"] (sp_added K)) (d_power : Dn P w K mg base CX0 12 (He.ga K "power") ["number", "many"] (sp_power K)) : Dn P w K mg base CX0 24 (He.ga K "_law_products_right") ["_law_a", "_law_b", "_law_c"] (sp__law_products_right K) := by
  refine dn_of (k := 23) T.f__law_products_right sc__law_products_right (fun _ _ _ _ _ _ us hl => match us, hl with | [_, _, _], _ => rfl) (fun cdv A outer s H vs Q E hr h => ?_)
  obtain ⟨a, b, c, rfl, ia, ib, ic, ha, hb, hc, q⟩ := h
  have i1 : Nim.In 8 1 := Nim.In.one (by decide)
  refine ⟨_, PSs.nox (pss_cons (ps_set (i := 3) sc__law_products_right.nd rfl (by first | exact Or.inl rfl | exact Or.inr rfl) (pe_cl d_product (hr.mono (by omega)) T.g_product pass0 (pa_cons (pv 0) (pa_cons (pv 1) pa_nil))))
      (pss_cons (ps_if (PW.pt (pw_or (pt_cmpR op_nen (pe_cl d_inverse (hr.mono (by omega)) T.g_inverse pass0 (pa_cons (pv 3) pa_nil)) (pe_cl d_product (hr.mono (by omega)) T.g_product pass0 (pa_cons (pe_cl d_inverse (hr.mono (by omega)) T.g_inverse pass0 (pa_cons (pv 0) pa_nil)) (pa_cons (pe_cl d_inverse (hr.mono (by omega)) T.g_inverse pass0 (pa_cons (pv 1) pa_nil)) pa_nil))) (nomark _)) (pw_or1 (pt_cmpR op_nen (pe_cl d_root (hr.mono (by omega)) T.g_root pass0 (pa_cons (pv 3) pa_nil)) (pe_cl d_product (hr.mono (by omega)) T.g_product pass0 (pa_cons (pe_cl d_root (hr.mono (by omega)) T.g_root pass0 (pa_cons (pv 0) pa_nil)) (pa_cons (pe_cl d_root (hr.mono (by omega)) T.g_root pass0 (pa_cons (pv 1) pa_nil)) pa_nil))) (nomark _))))) (pss_one (ps_ret pe_bl)) pss_nil)
      (pss_cons (ps_if (PW.pt (pw_or (pt_cmpR op_nen (pe_cl d_quotient (hr.mono (by omega)) T.g_quotient pass0 (pa_cons (pv 3) (pa_cons (pv 2) pa_nil))) (pe_cl d_product (hr.mono (by omega)) T.g_product pass0 (pa_cons (pv 0) (pa_cons (pe_cl d_quotient (hr.mono (by omega)) T.g_quotient pass0 (pa_cons (pv 1) (pa_cons (pv 2) pa_nil))) pa_nil))) (nomark _)) (pw_or1 (pt_cmpR op_nen (pe_cl d_quotient (hr.mono (by omega)) T.g_quotient pass0 (pa_cons (pv 2) (pa_cons (pv 3) pa_nil))) (pe_cl d_quotient (hr.mono (by omega)) T.g_quotient pass0 (pa_cons (pe_cl d_quotient (hr.mono (by omega)) T.g_quotient pass0 (pa_cons (pv 2) (pa_cons (pv 0) pa_nil))) (pa_cons (pv 1) pa_nil))) (nomark _))))) (pss_one (ps_ret pe_bl)) pss_nil)
      (pss_cons (ps_if (PW.pt (pw_or (pt_cmpR op_nen (pe_cl d_quotient (hr.mono (by omega)) T.g_quotient pass0 (pa_cons (pv 0) (pa_cons (pv 1) pa_nil))) (pe_cl d_product (hr.mono (by omega)) T.g_product pass0 (pa_cons (pv 0) (pa_cons (pe_cl d_inverse (hr.mono (by omega)) T.g_inverse pass0 (pa_cons (pv 1) pa_nil)) pa_nil))) (nomark _)) (pw_or1 (pt_cmpR op_nen (pe_cl d_product (hr.mono (by omega)) T.g_product pass0 (pa_cons (pe_cl d_quotient (hr.mono (by omega)) T.g_quotient pass0 (pa_cons (pv 0) (pa_cons (pv 1) pa_nil))) (pa_cons (pe_cl d_quotient (hr.mono (by omega)) T.g_quotient pass0 (pa_cons (pv 1) (pa_cons (pv 0) pa_nil))) pa_nil))) (pe_nat 1) (nomark _))))) (pss_one (ps_ret pe_bl)) pss_nil)
      (pss_cons (ps_if (PW.pt (pw_or (pt_cmpR op_nen (pe_cl d_root (hr.mono (by omega)) T.g_root pass0 (pa_cons (pe_cl d_added (hr.mono (by omega)) T.g_added pass0 (pa_cons (pv 0) (pa_cons (pv 1) pa_nil))) pa_nil)) (pe_cl d_added (hr.mono (by omega)) T.g_added pass0 (pa_cons (pe_cl d_root (hr.mono (by omega)) T.g_root pass0 (pa_cons (pv 0) pa_nil)) (pa_cons (pe_cl d_root (hr.mono (by omega)) T.g_root pass0 (pa_cons (pv 1) pa_nil)) pa_nil))) (nomark _)) (pw_or1 (pt_cmpR op_nen (pe_cl d_power (hr.mono (by omega)) T.g_power pass0 (pa_cons (pe_cl d_added (hr.mono (by omega)) T.g_added pass0 (pa_cons (pv 0) (pa_cons (pv 1) pa_nil))) (pa_cons (pe_nat 2) pa_nil))) (pe_cl d_added (hr.mono (by omega)) T.g_added pass0 (pa_cons (pe_cl d_power (hr.mono (by omega)) T.g_power pass0 (pa_cons (pv 0) (pa_cons (pe_nat 2) pa_nil))) (pa_cons (pe_cl d_power (hr.mono (by omega)) T.g_power pass0 (pa_cons (pv 1) (pa_cons (pe_nat 2) pa_nil))) pa_nil))) (nomark _))))) (pss_one (ps_ret pe_bl)) pss_nil)
      (pss_cons (ps_if (pt_cmpR op_nen (pe_cl d_quotient (hr.mono (by omega)) T.g_quotient pass0 (pa_cons (pe_cl d_added (hr.mono (by omega)) T.g_added pass0 (pa_cons (pv 0) (pa_cons (pv 1) pa_nil))) (pa_cons (pv 2) pa_nil))) (pe_cl d_added (hr.mono (by omega)) T.g_added pass0 (pa_cons (pe_cl d_quotient (hr.mono (by omega)) T.g_quotient pass0 (pa_cons (pv 0) (pa_cons (pv 2) pa_nil))) (pa_cons (pe_cl d_quotient (hr.mono (by omega)) T.g_quotient pass0 (pa_cons (pv 1) (pa_cons (pv 2) pa_nil))) pa_nil))) (nomark _)) (pss_one (ps_ret pe_bl)) pss_nil)
      (pss_cons (ps_if (PW.pt (pw_or (pt_cmpR op_nen (pe_cl d_added (hr.mono (by omega)) T.g_added pass0 (pa_cons (pe_cl d_added (hr.mono (by omega)) T.g_added pass0 (pa_cons (pv 0) (pa_cons (pv 1) pa_nil))) (pa_cons (pv 1) pa_nil))) (pv 0) (nomark _)) (pw_or (pt_cmpR op_nen (pe_cl d_added (hr.mono (by omega)) T.g_added pass0 (pa_cons (pv 0) (pa_cons (pv 0) pa_nil))) (pe_nat 0) (nomark _)) (pw_or1 (pt_cmpR op_nen (pe_cl d_product (hr.mono (by omega)) T.g_product pass0 (pa_cons (pe_cl d_added (hr.mono (by omega)) T.g_added pass0 (pa_cons (pv 0) (pa_cons (pv 1) pa_nil))) (pa_cons (pe_cl d_added (hr.mono (by omega)) T.g_added pass0 (pa_cons (pv 0) (pa_cons (pv 1) pa_nil))) pa_nil))) (pe_cl d_power (hr.mono (by omega)) T.g_power pass0 (pa_cons (pe_cl d_added (hr.mono (by omega)) T.g_added pass0 (pa_cons (pv 0) (pa_cons (pv 1) pa_nil))) (pa_cons (pe_nat 2) pa_nil))) (nomark _)))))) (pss_one (ps_ret pe_bl)) pss_nil)
      (pss_one (ps_ret (pe_and (pe_cmpR op_eqn (pe_cl d_root (hr.mono (by omega)) T.g_root pass0 (pa_cons (pe_cl d_inverse (hr.mono (by omega)) T.g_inverse pass0 (pa_cons (pv 0) pa_nil)) pa_nil)) (pe_cl d_inverse (hr.mono (by omega)) T.g_inverse pass0 (pa_cons (pe_cl d_root (hr.mono (by omega)) T.g_root pass0 (pa_cons (pv 0) pa_nil)) pa_nil)) (nomark _)) (pe_one (pe_cmpR op_eqn (pe_cl d_inverse (hr.mono (by omega)) T.g_inverse pass0 (pa_cons (pe_cl d_inverse (hr.mono (by omega)) T.g_inverse pass0 (pa_cons (pv 3) pa_nil)) pa_nil)) (pv 3) (nomark _))))))))))))), ?_⟩
  walk_at "rf"
  refine ifNn (fun d => absurd (Nim.ninv_mul ia ib ha hb) d) (fun _ => ?_)
  walk_at "rf"
  refine ifNn (fun d => absurd (Nim.nrt_mul ia ib) d) (fun _ => ?_)
  walk_at "rf"
  refine ifNn (fun d => absurd (Nim.nm_assoc _ _ _) d) (fun _ => ?_)
  walk_at "rf"
  refine ifNn (fun d => absurd (Nim.quot_quot ia ib ha hb) d) (fun _ => ?_)
  walk_at "rf"
  refine ifNn (fun d => absurd (rfl) d) (fun _ => ?_)
  walk_at "rf"
  refine ifNn (fun d => absurd (Nim.quot_one ia ib ha hb) d) (fun _ => ?_)
  walk_at "rf"
  refine ifNn (fun d => absurd (Nim.nrt_xor ia ib) d) (fun _ => ?_)
  walk_at "rf"
  refine ifNn (fun d => absurd (Nim.npow_xor ia ib 1) d) (fun _ => ?_)
  walk_at "rf"
  refine ifNn (fun d => absurd (Nim.xor_nm _ _ _) d) (fun _ => ?_)
  walk_at "rf"
  refine ifNn (fun d => absurd ((by rw [Nat.xor_assoc, Nat.xor_self, Nat.xor_zero])) d) (fun _ => ?_)
  walk_at "rf"
  refine ifNn (fun d => absurd (Nat.xor_self _) d) (fun _ => ?_)
  walk_at "rf"
  refine ifNn (fun d => absurd ((Nim.npow_two (ia.xor ib)).symm) d) (fun _ => ?_)
  refine ⟨_, rfl, ?_⟩
  refine ⟨rfl, ?_⟩
  refine ⟨_, rfl, ia, ha, fun _ _ => ?_⟩
  refine ⟨rfl, _, rfl, Nim.ninv_in _, fun _ _ => ?_⟩
  refine ⟨_, rfl, rfl, _, rfl, ia, fun _ _ => ?_⟩
  refine ⟨rfl, _, rfl, Nim.nrt_in _, Nim.nrt_pos ia ha, fun _ _ => ?_⟩
  refine ⟨_, _, rfl, rfl, ?_⟩
  refine ⟨_, rfl, ?_⟩
  refine ifN (fun _ => ?_) (fun d => absurd (Nim.nrt_inv ia ha) d)
  refine ⟨_, rfl, ?_⟩
  refine ⟨rfl, _, rfl, Nim.nm_in _ _, Nim.pos_nm ia ib ha hb, fun _ _ => ?_⟩
  refine ⟨rfl, _, rfl, Nim.ninv_in _, Nim.ninv_pos (Nim.nm_in _ _) (Nim.pos_nm ia ib ha hb), fun _ _ => ?_⟩
  refine ⟨_, rfl, ?_⟩
  refine ⟨_, _, rfl, rfl, ?_⟩
  exact ret_dec (Nim.ninv_ninv (Nim.nm_in a b) (by walk_at "pos")) (q _ (by walk_at "same"))
def sp__law_powers_right (K : PySem.W.Frag) : Sp := fun vs H Q _ => ∃ a b i j : Nat, vs = [.int (a : Int), .int (b : Int), .int (i : Int), .int (j : Int)] ∧ Nim.In 8 a ∧ Nim.In 8 b ∧ 0 < a ∧ 0 < b ∧ i ≤ 40 ∧ j ≤ 40 ∧ ∀ H', Same H H' → Q (.bl true) H'
abbrev s__law_powers_right : Stmt := top 26
theorem sc__law_powers_right : FnScope ["_law_a", "_law_b", "_law_one", "_law_two", "_law_here", "_law_turn"] ["_law_a", "_law_b", "_law_one", "_law_two"] (defScope s__law_powers_right) := ⟨rfl, rfl, rfl, by decide +kernel, rfl, by decide +kernel, by decide +kernel⟩
theorem ok__law_powers_right (T : Txt K mg) (d_power : Dn P w K mg base CX0 12 (He.ga K "power") ["number", "many"] (sp_power K)) (d_product : Dn P w K mg base CX0 12 (He.ga K "product") ["one", "other"] (sp_product K)) (d_inverse : Dn P w K mg base CX0 22 (He.ga K "inverse") ["number"] (sp_inverse K)) (d_root : Dn P w K mg base CX0 21 (He.ga K "root") ["number"] ((sp_root K) 8)) (d_added : Dn P w K mg base CX0 3 (He.ga K "added") ["one", "other"] (sp_added K)) : Dn P w K mg base CX0 23 (He.ga K "_law_powers_right") ["_law_a", "_law_b", "_law_one", "_law_two"] (sp__law_powers_right K) := by
  refine dn_of (k := 22) T.f__law_powers_right sc__law_powers_right (fun _ _ _ _ _ _ us hl => match us, hl with | [_, _, _, _], _ => rfl) (fun cdv A outer s H vs Q E hr h => ?_)
  obtain ⟨a, b, i, j, rfl, ia, ib, ha, hb, hi, hj, q⟩ := h
  have ij : i * j < 1000000 := Nat.lt_of_le_of_lt (Nat.mul_le_mul hi hj) (by decide)
  have ij256 := small256 ij
  have i64 : i < 2 ^ 64 ∨ j < 2 ^ 64 := .inl (by omega)
  have i64' : 2 < 2 ^ 64 ∨ i < 2 ^ 64 := .inl (by omega)
  refine ⟨_, PSs.nox (pss_cons (ps_if (pt_cmpR op_nen (pe_cl d_power (hr.mono (by omega)) T.g_power pass0 (pa_cons (pe_cl d_product (hr.mono (by omega)) T.g_product pass0 (pa_cons (pv 0) (pa_cons (pv 1) pa_nil))) (pa_cons (pv 2) pa_nil))) (pe_cl d_product (hr.mono (by omega)) T.g_product pass0 (pa_cons (pe_cl d_power (hr.mono (by omega)) T.g_power pass0 (pa_cons (pv 0) (pa_cons (pv 2) pa_nil))) (pa_cons (pe_cl d_power (hr.mono (by omega)) T.g_power pass0 (pa_cons (pv 1) (pa_cons (pv 2) pa_nil))) pa_nil))) (nomark _)) (pss_one (ps_ret pe_bl)) pss_nil)
      (pss_cons (ps_if (PW.pt (pw_or (pt_cmpR op_nen (pe_cl d_power (hr.mono (by omega)) T.g_power pass0 (pa_cons (pe_cl d_power (hr.mono (by omega)) T.g_power pass0 (pa_cons (pv 0) (pa_cons (pv 2) pa_nil))) (pa_cons (pv 3) pa_nil))) (pe_cl d_power (hr.mono (by omega)) T.g_power pass0 (pa_cons (pv 0) (pa_cons (pe_op op_muln (pv 2) (pv 3)) pa_nil))) (nomark _)) (pw_or1 (pt_cmpR op_nen (pe_cl d_power (hr.mono (by omega)) T.g_power pass0 (pa_cons (pe_cl d_inverse (hr.mono (by omega)) T.g_inverse pass0 (pa_cons (pv 0) pa_nil)) (pa_cons (pv 2) pa_nil))) (pe_cl d_inverse (hr.mono (by omega)) T.g_inverse pass0 (pa_cons (pe_cl d_power (hr.mono (by omega)) T.g_power pass0 (pa_cons (pv 0) (pa_cons (pv 2) pa_nil))) pa_nil)) (nomark _))))) (pss_one (ps_ret pe_bl)) pss_nil)
      (pss_cons (ps_if (PW.pt (pw_or (pt_cmpR op_nen (pe_cl d_root (hr.mono (by omega)) T.g_root pass0 (pa_cons (pe_cl d_power (hr.mono (by omega)) T.g_power pass0 (pa_cons (pv 0) (pa_cons (pe_op op_muln (pe_nat 2) (pv 2)) pa_nil))) pa_nil)) (pe_cl d_power (hr.mono (by omega)) T.g_power pass0 (pa_cons (pv 0) (pa_cons (pv 2) pa_nil))) (nomark _)) (pw_or1 (pt_cmpR op_nen (pe_cl d_power (hr.mono (by omega)) T.g_power pass0 (pa_cons (pe_cl d_root (hr.mono (by omega)) T.g_root pass0 (pa_cons (pv 0) pa_nil)) (pa_cons (pe_op op_muln (pe_nat 2) (pv 2)) pa_nil))) (pe_cl d_power (hr.mono (by omega)) T.g_power pass0 (pa_cons (pv 0) (pa_cons (pv 2) pa_nil))) (nomark _))))) (pss_one (ps_ret pe_bl)) pss_nil)
      (pss_cons (ps_set (i := 4) sc__law_powers_right.nd rfl (by first | exact Or.inl rfl | exact Or.inr rfl) (pv 0))
      (pss_cons (ps_for PassesOwn.never rfl (pi_range1 rfl T.n_range (pa_cons (pe_nat 5) pa_nil)) (pg_name (i := 5) sc__law_powers_right.nd rfl (by first | exact Or.inl rfl | exact Or.inr rfl))
      (pss_one (ps_set (i := 4) sc__law_powers_right.nd rfl (by first | exact Or.inl rfl | exact Or.inr rfl) (pe_cl d_product (hr.mono (by omega)) T.g_product pass0 (pa_cons (pv 4) (pa_cons (pv 4) pa_nil))))))
      (pss_one (ps_ret (pe_and (pe_cmpR op_eqn (pv 4) (pe_cl d_power (hr.mono (by omega)) T.g_power pass0 (pa_cons (pv 0) (pa_cons (pe_nat 32) pa_nil))) (nomark _)) (pe_one (pe_cmpR op_eqn (pe_cl d_power (hr.mono (by omega)) T.g_power pass0 (pa_cons (pe_cl d_added (hr.mono (by omega)) T.g_added pass0 (pa_cons (pv 0) (pa_cons (pv 1) pa_nil))) (pa_cons (pe_nat 32) pa_nil))) (pe_cl d_added (hr.mono (by omega)) T.g_added pass0 (pa_cons (pv 4) (pa_cons (pe_cl d_power (hr.mono (by omega)) T.g_power pass0 (pa_cons (pv 1) (pa_cons (pe_nat 32) pa_nil))) pa_nil))) (nomark _))))))))))), ?_⟩
  walk_at "rf"
  refine ifNn (fun d => absurd (Nim.npow_mul _) d) (fun _ => ?_)
  walk_at "rf"
  refine ⟨i64, ?_⟩
  walk_at "rf"
  refine ifNn (fun d => absurd (Nim.npow_pow ia _ _) d) (fun _ => ?_)
  walk_at "rf"
  refine ifNn (fun d => absurd (Nim.npow_inv ia ha _) d) (fun _ => ?_)
  walk_at "rf"
  refine ⟨i64', ?_⟩
  walk_at "rf"
  refine ifNn (fun d => absurd (Nim.nrt_pow ia _) d) (fun _ => ?_)
  walk_at "rf"
  refine ⟨i64', ?_⟩
  walk_at "rf"
  refine ifNn (fun d => absurd (Nim.pow_nrt ia _) d) (fun _ => ?_)
  walk_at "rf"
  refine ⟨by decide, by decide, ?_⟩
  refine for_rangeN (n := 5) (fun t σ H' => ∃ v, σ = [some (.int (a : Int)), some (.int (b : Int)), some (.int (i : Int)), some (.int (j : Int)), some (.int ((Nim.npow a (2 ^ t) : Nat) : Int)), v] ∧ Same H H') ⟨none, ?_, by walk_at "same"⟩ ?_ ?_
  · rw [Nat.pow_zero, Nim.npow_one ia]
    rfl
  · rintro t σ H' ht ⟨v, rfl, sm⟩
    walk_at "rd"
    refine ⟨_, _, rfl, Nim.npow_in ia _, Nim.npow_in ia _, fun H2 s2 => ?_⟩
    refine ⟨some (.int (t : Int)), ?_, sm.trans s2⟩
    rw [show 2 ^ (t + 1) = 2 ^ t + 2 ^ t by omega, Nim.npow_add ia]
    rfl
  · rintro σ H' ⟨v, rfl, sm⟩
    walk_at "rd"
    refine ⟨_, _, rfl, ia, small256 (by decide), fun H2 s2 => ?_⟩
    walk_at "rd"
    refine ifN (fun _ => ?_) (fun d => absurd rfl d)
    walk_at "rd"
    refine ⟨_, _, rfl, ia.lt, ib.lt, ?_⟩
    walk_at "rd"
    refine ⟨_, _, rfl, ia.xor ib, small256 (by decide), fun H3 s3 => ?_⟩
    walk_at "rd"
    refine ⟨_, _, rfl, ib, small256 (by decide), fun H4 s4 => ?_⟩
    walk_at "rd"
    refine ⟨_, _, rfl, (Nim.npow_in ia _).lt, (Nim.npow_in ib _).lt, ?_⟩
    walk_at "rd"
    exact ret_dec (Nim.npow_xor ia ib 5) (q _ (by walk_at "same"))
theorem roots_two {m n : Nat} {ns : List Nat} (m0 : 0 < m) (h : Nim.RootsOf m n ns) : ∃ r s, ns = [r, s] ∧ r < s ∧ Nim.In 7 r ∧ Nim.In 7 s ∧ Nim.IsRoot m n r ∧ Nim.IsRoot m n s ∧ r ^^^ s = m ∧ Nim.nm r s = n := by
  rcases h with ⟨c, _⟩ | ⟨_, h⟩
  · omega
  · exact h
theorem NL_at {ns : List Nat} {i : Nat} {v : V} (h : (NL ns)[i]? = some v) : ∃ n : Nat, ns[i]? = some n ∧ v = .int (n : Int) := by
  unfold NL at h
  rw [List.getElem?_map] at h
  cases e : ns[i]? with
  | none =>
    rw [e] at h
    cases h
  | some n =>
    rw [e] at h
    exact ⟨n, rfl, (Option.some.inj h).symm⟩
theorem take_two {f : Nat → Nat} {r s n i : Nat} (h : [r, s][i]? = some n) : NL ([f r, f s].take (i + 1)) = NL ([f r, f s].take i) ++ [V.int ((f n : Nat) : Int)] := by
  match i, h with
  | 0, h =>
    obtain rfl : r = n := Option.some.inj h
    rfl
  | 1, h =>
    obtain rfl : s = n := Option.some.inj h
    rfl
def sp__law_roots_right (K : PySem.W.Frag) : Sp := fun vs H Q _ => ∃ m n k x : Nat, vs = [.int (m : Int), .int (n : Int), .int (k : Int), .int (x : Int)] ∧ Nim.In 5 m ∧ Nim.In 5 n ∧ Nim.In 5 k ∧ Nim.In 5 x ∧ 0 < m ∧ 0 < k ∧ ∀ H', Same H H' → Q (.bl true) H'
abbrev s__law_roots_right : Stmt := top 27
theorem sc__law_roots_right : FnScope ["_law_middle", "_law_last", "_law_many_times", "_law_more", "_law_found", "_law_great", "_law_number", "_law_moved", "_law_pair"] ["_law_middle", "_law_last", "_law_many_times", "_law_more"] (defScope s__law_roots_right) := ⟨rfl, rfl, rfl, by decide +kernel, rfl, by decide +kernel, by decide +kernel⟩
theorem ok__law_roots_right (T : Txt K mg) (d_roots : Dn P w K mg base CX0 23 (He.ga K "roots") ["middle", "last"] (sp_roots K)) (d_added : Dn P w K mg base CX0 3 (He.ga K "added") ["one", "other"] (sp_added K)) (d_product : Dn P w K mg base CX0 12 (He.ga K "product") ["one", "other"] (sp_product K)) (d_root : Dn P w K mg base CX0 21 (He.ga K "root") ["number"] ((sp_root K) 8)) (d_power : Dn P w K mg base CX0 12 (He.ga K "power") ["number", "many"] (sp_power K)) : Dn P w K mg base CX0 24 (He.ga K "_law_roots_right") ["_law_middle", "_law_last", "_law_many_times", "_law_more"] (sp__law_roots_right K) := by
  refine dn_of (k := 23) T.f__law_roots_right sc__law_roots_right (fun _ _ _ _ _ _ us hl => match us, hl with | [_, _, _, _], _ => rfl) (fun cdv A outer s H vs Q E hr h => ?_)
  obtain ⟨m, n, k, x, rfl, im, in_, ik, ix, m0, k0, q⟩ := h
  have u8 : ∀ {y}, Nim.In 5 y → Nim.In 8 y := fun h => h.top
  have u6 : ∀ {y}, Nim.In 5 y → Nim.In 6 y := fun h => h.up (by decide) (by decide)
  have u7 : ∀ {y}, Nim.In 5 y → Nim.In 7 y := fun h => h.up (by decide) (by decide)
  refine ⟨_, PSs.nox (pss_cons (ps_set (i := 4) sc__law_roots_right.nd rfl (by first | exact Or.inl rfl | exact Or.inr rfl) (pe_cl d_roots (hr.mono (by omega)) T.g_roots pass0 (pa_cons (pv 0) (pa_cons (pv 1) pa_nil))))
      (pss_cons (ps_if (PW.pt (pw_or (pt_cmpR op_nen (pe_callB call_len_seq (by rfl) T.n_len PySem.boot_len (pa_cons (pv 4) pa_nil)) (pe_nat 2) (nomark _)) (pw_or (pt_cmpR (op_neLN hr.units) (pv 4) (pe_callB cr_sort2 (by rfl) T.n_sorted (by decide +kernel) (pa_cons (pv 4) pa_nil)) (nomark _)) (pw_or1 (pt_cmpR op_nen (pe_cl d_added (hr.mono (by omega)) T.g_added pass0 (pa_cons (pe_ix ix_list (pv 4) (pe_nat 0) (fun _ _ => rfl)) (pa_cons (pe_ix ix_list (pv 4) (pe_nat 1) (fun _ _ => rfl)) pa_nil))) (pv 0) (nomark _)))))) (pss_one (ps_ret pe_bl)) pss_nil)
      (pss_cons (ps_if (PW.pt (pw_or (pt_cmpR op_nen (pe_cl d_product (hr.mono (by omega)) T.g_product pass0 (pa_cons (pe_ix ix_list (pv 4) (pe_nat 0) (fun _ _ => rfl)) (pa_cons (pe_ix ix_list (pv 4) (pe_nat 1) (fun _ _ => rfl)) pa_nil))) (pv 1) (nomark _)) (pw_or1 (pt_cmpR (op_neLN hr.units) (pe_cl d_roots (hr.mono (by omega)) T.g_roots pass0 (pa_cons (pe_nat 0) (pa_cons (pv 1) pa_nil))) (pe_lst (pa_cons (pe_cl d_root (hr.mono (by omega)) T.g_root pass0 (pa_cons (pv 1) pa_nil)) pa_nil)) (nomark _))))) (pss_one (ps_ret pe_bl)) pss_nil)
      (pss_cons (ps_set (i := 5) sc__law_roots_right.nd rfl (by first | exact Or.inl rfl | exact Or.inr rfl) (pe_cl d_roots (hr.mono (by omega)) T.g_roots pass0 (pa_cons (pe_cl d_product (hr.mono (by omega)) T.g_product pass0 (pa_cons (pv 0) (pa_cons (pv 2) pa_nil))) (pa_cons (pe_cl d_product (hr.mono (by omega)) T.g_product pass0 (pa_cons (pv 1) (pa_cons (pe_cl d_power (hr.mono (by omega)) T.g_power pass0 (pa_cons (pv 2) (pa_cons (pe_nat 2) pa_nil))) pa_nil))) pa_nil))))
      (pss_cons (ps_if (pt_cmpR (op_neLN hr.units) (pv 5) (pe_callB cr_sort2 (by rfl) T.n_sorted (by decide +kernel) (pa_cons (pe_lc (own := [("_law_number", 6)]) (g := gName 6) (by rfl) sc__law_roots_right.nd (pi_list (pv 4)) (blkOk_by (own := [("_law_number", 6)]) (N := ["_law_middle", "_law_last", "_law_many_times", "_law_more", "_law_found", "_law_great", "_law_number", "_law_moved", "_law_pair"]) (sc := defScope (s__law_roots_right)) (by decide +kernel)) (fun _ _ _ _ _ => pg_name (i := 6) sc__law_roots_right.nd rfl (Or.inl rfl)) (fun _ _ _ _ _ => pts_nil) (fun _ _ _ _ _ => (pe_cl d_product (hr.mono (by omega)) T.g_product pass0 (pa_cons (pv 6) (pa_cons (pv 2) pa_nil))))) pa_nil)) (nomark _)) (pss_one (ps_ret pe_bl)) pss_nil)
      (pss_cons (ps_set (i := 7) sc__law_roots_right.nd rfl (by first | exact Or.inl rfl | exact Or.inr rfl) (pe_cl d_added (hr.mono (by omega)) T.g_added pass0 (pa_cons (pv 1) (pa_cons (pe_cl d_added (hr.mono (by omega)) T.g_added pass0 (pa_cons (pe_cl d_power (hr.mono (by omega)) T.g_power pass0 (pa_cons (pv 3) (pa_cons (pe_nat 2) pa_nil))) (pa_cons (pe_cl d_product (hr.mono (by omega)) T.g_product pass0 (pa_cons (pv 0) (pa_cons (pv 3) pa_nil))) pa_nil))) pa_nil))))
      (pss_cons (ps_if (pt_cmpR (op_neLN hr.units) (pe_cl d_roots (hr.mono (by omega)) T.g_roots pass0 (pa_cons (pv 0) (pa_cons (pv 7) pa_nil))) (pe_callB cr_sort2 (by rfl) T.n_sorted (by decide +kernel) (pa_cons (pe_lc (own := [("_law_number", 6)]) (g := gName 6) (by rfl) sc__law_roots_right.nd (pi_list (pv 4)) (blkOk_by (own := [("_law_number", 6)]) (N := ["_law_middle", "_law_last", "_law_many_times", "_law_more", "_law_found", "_law_great", "_law_number", "_law_moved", "_law_pair"]) (sc := defScope (s__law_roots_right)) (by decide +kernel)) (fun _ _ _ _ _ => pg_name (i := 6) sc__law_roots_right.nd rfl (Or.inl rfl)) (fun _ _ _ _ _ => pts_nil) (fun _ _ _ _ _ => (pe_cl d_added (hr.mono (by omega)) T.g_added pass0 (pa_cons (pv 6) (pa_cons (pv 3) pa_nil))))) pa_nil)) (nomark _)) (pss_one (ps_ret pe_bl)) pss_nil)
      (pss_cons (ps_set (i := 8) sc__law_roots_right.nd rfl (by first | exact Or.inl rfl | exact Or.inr rfl) (pe_slice sl_list (pe_callB cr_sort2 (by rfl) T.n_sorted (by decide +kernel) (pa_cons (pe_lst (pa_cons (pv 2) (pa_cons (pv 3) pa_nil))) pa_nil)) (po_some (pe_callTy call_int1 (by rfl) T.n_int (by decide +kernel) (pa_cons (pe_cmpR op_eqn (pv 2) (pv 3) (nomark _)) pa_nil))) po_none))
      (pss_cons (ps_if (pt_cmpR (op_neLN hr.units) (pe_cl d_roots (hr.mono (by omega)) T.g_roots pass0 (pa_cons (pe_cl d_added (hr.mono (by omega)) T.g_added pass0 (pa_cons (pv 2) (pa_cons (pv 3) pa_nil))) (pa_cons (pe_cl d_product (hr.mono (by omega)) T.g_product pass0 (pa_cons (pv 2) (pa_cons (pv 3) pa_nil))) pa_nil))) (pv 8) (nomark _)) (pss_one (ps_ret pe_bl)) pss_nil)
      (pss_one (ps_ret (pe_callB (cr_all rfl) (by rfl) T.n_all (by decide +kernel) (pa_cons (pe_lc (own := [("_law_number", 6)]) (g := gName 6) (by rfl) sc__law_roots_right.nd (pi_list (pv 4)) (blkOk_by (own := [("_law_number", 6)]) (N := ["_law_middle", "_law_last", "_law_many_times", "_law_more", "_law_found", "_law_great", "_law_number", "_law_moved", "_law_pair"]) (sc := defScope (s__law_roots_right)) (by decide +kernel)) (fun _ _ _ _ _ => pg_name (i := 6) sc__law_roots_right.nd rfl (Or.inl rfl)) (fun _ _ _ _ _ => pts_nil) (fun _ _ _ _ _ => (pe_cmpR op_eqn (pe_cl d_added (hr.mono (by omega)) T.g_added pass0 (pa_cons (pe_cl d_power (hr.mono (by omega)) T.g_power pass0 (pa_cons (pv 6) (pa_cons (pe_nat 2) pa_nil))) (pa_cons (pe_cl d_product (hr.mono (by omega)) T.g_product pass0 (pa_cons (pv 0) (pa_cons (pv 6) pa_nil))) pa_nil))) (pv 1) (nomark _)))) pa_nil))))))))))))), ?_⟩
  walk_at "rd"
  refine ⟨_, _, rfl, u6 im, u6 in_, fun R rs H1 s1 nR hR hrt => ?_⟩
  obtain ⟨r, s', rfl, lt, ir, is, hr1, hs1, e1, e2⟩ := roots_two m0 hrt
  walk_at "rd"
  refine ⟨R, _, rfl, .inl (SqL.of hR), ?_⟩
  have ord : ([r, s'] : List Nat) = [min r s', max r s'] := by rw [Nat.min_eq_left (Nat.le_of_lt lt), Nat.max_eq_right (Nat.le_of_lt lt)]
  walk_at "rd"
  refine ⟨R, r, s', rfl, SqL.of hR, fun D1 nD1 => ?_⟩
  have s2 := s1.trans (Same.upd (o := .lst (NL [min r s', max r s'])) nD1)
  have hR2 := Same.upd (o := .lst (NL [min r s', max r s'])) nD1 _ _ hR
  refine ⟨R, D1, [r, s'], [min r s', max r s'], rfl, rfl, SqL.of hR2, SqL.of upd_same, ?_⟩
  walk_at "rd"
  refine ifNn (fun c => absurd ord c) (fun _ => ?_)
  generalize upd H1 D1 (.lst (NL [min r s', max r s'])) = H2 at s2 hR2 ⊢
  walk_at "rd"
  refine ⟨R, _, _, _, rfl, rfl, SqL.of hR2, atI_nat (j := 0) rfl, ?_⟩
  walk_at "rd"
  refine ⟨R, _, _, _, rfl, rfl, SqL.of hR2, atI_nat (j := 1) rfl, ?_⟩
  walk_at "rd"
  refine ⟨_, _, rfl, ir.top.lt, is.top.lt, ?_⟩
  walk_at "rd"
  refine ifNn (fun c => absurd e1 c) (fun _ => ?_)
  walk_at "rd"
  refine ⟨R, _, _, _, rfl, rfl, SqL.of hR2, atI_nat (j := 0) rfl, ?_⟩
  walk_at "rd"
  refine ⟨R, _, _, _, rfl, rfl, SqL.of hR2, atI_nat (j := 1) rfl, ?_⟩
  walk_at "rd"
  refine ⟨_, _, rfl, ir.top, is.top, fun H3 s3 => ?_⟩
  walk_at "rd"
  refine ifNn (fun c => absurd e2 c) (fun _ => ?_)
  walk_at "rd"
  refine ⟨_, _, rfl, Nim.In.zero (by decide), u6 in_, fun R4 rs4 H4 s4 nR4 hR4 hrt4 => ?_⟩
  have e4 : rs4 = [Nim.nrt n] := by
    rcases hrt4 with ⟨_, e⟩ | ⟨c, _⟩
    · exact e
    · exact absurd c (by decide)
  walk_at "rd"
  refine ⟨u8 in_, fun H5 s5 => ?_⟩
  walk_at "rd"
  intro D5 nD5
  refine ⟨R4, D5, rs4, [Nim.nrt n], rfl, rfl, SqL.of (Same.upd nD5 _ _ (s5 _ _ hR4)), SqL.of upd_same, ?_⟩
  walk_at "rd"
  refine ifNn (fun c => absurd e4 c) (fun _ => ?_)
  have s6 : Same H2 (upd H5 D5 (.lst [V.int ((Nim.nrt n : Nat) : Int)])) := ((s3.trans s4).trans s5).trans (Same.upd nD5)
  generalize upd H5 D5 (.lst [V.int ((Nim.nrt n : Nat) : Int)]) = H6 at s6 ⊢
  have hR6 := s6 _ _ hR2
  -- roots of so many times as great
  walk_at "rd"
  refine ⟨_, _, rfl, u8 im, u8 ik, fun H7 s7 => ?_⟩
  walk_at "rd"
  refine ⟨_, _, rfl, u8 ik, small256 (by decide), fun H8 s8 => ?_⟩
  walk_at "rd"
  refine ⟨_, _, rfl, u8 in_, Nim.npow_in (u8 ik) _, fun H9 s9 => ?_⟩
  walk_at "rd"
  rw [Nim.npow_two (u8 ik)]
  refine ⟨_, _, rfl, u6 (im.nm ik), u6 (in_.nm (ik.nm ik)), fun R10 rs10 H10 s10 nR10 hR10 hrt10 => ?_⟩
  have sc := (hrt.scale (u8 im) k0 (u7 ik)).uniq (Nim.nm_in _ _) hrt10
  have s11 : Same H6 H10 := (s7.trans s8).trans (s9.trans s10)
  have hR11 := s11 _ _ hR6
  walk_at "rd"
  refine ⟨⟨_, SqL.of hR11⟩, fun D nD => ?_⟩
  refine lc_list (K := K) (a := R) (xs := NL [r, s']) (fun i H' => H' D = some (.lst (NL ([Nim.nm r k, Nim.nm s' k].take i))) ∧ Same H10 H') ⟨upd_same, Same.upd nD⟩ (fun i H' _ h => SqL.of (h.2 _ _ hR11)) ?_ ?_
  · rintro i v H' hi ⟨hD, sd⟩
    obtain ⟨y, hy, rfl⟩ := NL_at hi
    have iy : Nim.In 8 y := by
      have := List.mem_of_getElem? hy
      simp only [List.mem_cons, List.not_mem_nil, or_false] at this
      rcases this with rfl | rfl
      · exact ir.top
      · exact is.top
    walk_at "rd"
    refine ⟨_, _, rfl, iy, u8 ik, fun H12 s12 => ?_⟩
    refine ⟨_, s12 _ _ hD, small_line (by rw [NL_length, List.length_take]; exact Nat.le_trans (Nat.min_le_right _ _) (by show 2 ≤ 1000; decide)), ?_, Same.put (sd.trans s12) nD⟩
    rw [upd_same, take_two (f := fun y => Nim.nm y k) hy]
  rintro H11 ⟨hD, sd⟩
  walk_at "rd"
  refine ⟨D, Nim.nm r k, Nim.nm s' k, rfl, SqL.of hD, fun D12 nD12 => ?_⟩
  walk_at "rd"
  refine ⟨R10, D12, rs10, _, rfl, rfl, SqL.of (Same.upd nD12 _ _ (sd _ _ hR10)), SqL.of upd_same, ?_⟩
  walk_at "rd"
  refine ifNn (fun c => absurd sc.symm c) (fun _ => ?_)
  have s13 := (s11.trans sd).trans (Same.upd (o := .lst (NL [min (Nim.nm r k) (Nim.nm s' k), max (Nim.nm r k) (Nim.nm s' k)])) nD12)
  generalize upd H11 D12 (.lst (NL [min (Nim.nm r k) (Nim.nm s' k), max (Nim.nm r k) (Nim.nm s' k)])) = H13 at s13 ⊢
  have hR13 := s13 _ _ hR6
  -- roots of the middle number, put up by x
  walk_at "rd"
  refine ⟨_, _, rfl, u8 ix, small256 (by decide), fun H14 s14 => ?_⟩
  walk_at "rd"
  refine ⟨_, _, rfl, u8 im, u8 ix, fun H15 s15 => ?_⟩
  walk_at "rd"
  rw [Nim.npow_two (u8 ix)]
  refine ⟨_, _, rfl, (Nim.nm_in _ _).lt, (Nim.nm_in _ _).lt, ?_⟩
  walk_at "rd"
  refine ⟨_, _, rfl, (u8 in_).lt, ((Nim.nm_in _ _).xor (Nim.nm_in _ _)).lt, ?_⟩
  walk_at "rd"
  refine ⟨_, _, rfl, u6 im, u6 (in_.xor ((ix.nm ix).xor (im.nm ix))), fun R16 rs16 H16 s16 nR16 hR16 hrt16 => ?_⟩
  have mv := (hrt.move (u8 im) (u7 ix)).uniq (u8 im) hrt16
  have s17 : Same H6 H16 := (s13.trans s14).trans (s15.trans s16)
  have hR17 := s17 _ _ hR6
  walk_at "rd"
  refine ⟨⟨_, SqL.of hR17⟩, fun D nD => ?_⟩
  refine lc_list (K := K) (a := R) (xs := NL [r, s']) (fun i H' => H' D = some (.lst (NL ([r ^^^ x, s' ^^^ x].take i))) ∧ Same H16 H') ⟨upd_same, Same.upd nD⟩ (fun i H' _ h => SqL.of (h.2 _ _ hR17)) ?_ ?_
  · rintro i v H' hi ⟨hD, sd⟩
    obtain ⟨y, hy, rfl⟩ := NL_at hi
    have iy : Nim.In 8 y := by
      have := List.mem_of_getElem? hy
      simp only [List.mem_cons, List.not_mem_nil, or_false] at this
      rcases this with rfl | rfl
      · exact ir.top
      · exact is.top
    walk_at "rd"
    refine ⟨_, _, rfl, iy.lt, (u8 ix).lt, ?_⟩
    refine ⟨_, hD, small_line (by rw [NL_length, List.length_take]; exact Nat.le_trans (Nat.min_le_right _ _) (by show 2 ≤ 1000; decide)), ?_, Same.put sd nD⟩
    rw [upd_same, take_two (f := fun y => y ^^^ x) hy]
  rintro H17 ⟨hD, sd⟩
  walk_at "rd"
  refine ⟨D, r ^^^ x, s' ^^^ x, rfl, SqL.of hD, fun D18 nD18 => ?_⟩
  walk_at "rd"
  refine ⟨R16, D18, rs16, _, rfl, rfl, SqL.of (Same.upd nD18 _ _ (sd _ _ hR16)), SqL.of upd_same, ?_⟩
  walk_at "rd"
  refine ifNn (fun c => absurd mv.symm c) (fun _ => ?_)
  have s19 := (s17.trans sd).trans (Same.upd (o := .lst (NL [min (r ^^^ x) (s' ^^^ x), max (r ^^^ x) (s' ^^^ x)])) nD18)
  generalize upd H17 D18 (.lst (NL [min (r ^^^ x) (s' ^^^ x), max (r ^^^ x) (s' ^^^ x)])) = H19 at s19 ⊢
  have hR19 := s19 _ _ hR6
  -- the pair of two numbers
  walk_at "rd"
  refine ⟨by show 2 ≤ sizeLine; decide, fun P1 nP1 => ?_⟩
  walk_at "rd"
  refine ⟨P1, k, x, rfl, SqL.of upd_same, fun P2 nP2 => ?_⟩
  walk_at "rd"
  refine .inr ⟨_, rfl, ?_⟩
  walk_at "rd"
  refine ⟨P2, _, rfl, SqL.of upd_same, fun P3 nP3 => ?_⟩
  have cut : cutV (NL [min k x, max k x]) (some (if decide (k = x) = true then 1 else 0)) none = NL (if k = x then [k] else [min k x, max k x]) := by
    by_cases c : k = x
    · subst c
      rw [decide_eq_true rfl, if_pos rfl, if_pos rfl, Nat.min_self, Nat.max_self]
      rfl
    · rw [decide_eq_false c, if_neg c]
      rfl
  have e20 : upd (upd (upd H19 P1 (.lst [V.int (k : Int), .int (x : Int)])) P2 (.lst (NL [min k x, max k x]))) P3 (.lst (cutV (NL [min k x, max k x]) (some (if decide (k = x) = true then 1 else 0)) none)) P3 = some (.lst (NL (if k = x then [k] else [min k x, max k x]))) := by rw [upd_same, cut]
  have s20 : Same H6 (upd (upd (upd H19 P1 (.lst [V.int (k : Int), .int (x : Int)])) P2 (.lst (NL [min k x, max k x]))) P3 (.lst (cutV (NL [min k x, max k x]) (some (if decide (k = x) = true then 1 else 0)) none))) := ((s19.trans (Same.upd nP1)).trans (Same.upd nP2)).trans (Same.upd nP3)
  generalize upd (upd (upd H19 P1 (.lst [V.int (k : Int), .int (x : Int)])) P2 (.lst (NL [min k x, max k x]))) P3 (.lst (cutV (NL [min k x, max k x]) (some (if decide (k = x) = true then 1 else 0)) none)) = H20 at s20 e20 ⊢
  walk_at "rd"
  refine ⟨_, _, rfl, (u8 ik).lt, (u8 ix).lt, ?_⟩
  walk_at "rd"
  refine ⟨_, _, rfl, u8 ik, u8 ix, fun H21 s21 => ?_⟩
  walk_at "rd"
  refine ⟨_, _, rfl, u6 (ik.xor ix), u6 (ik.nm ix), fun R22 rs22 H22 s22 nR22 hR22 hrt22 => ?_⟩
  walk_at "rd"
  refine ⟨R22, P3, rs22, _, rfl, rfl, SqL.of hR22, SqL.of (s22 _ _ (s21 _ _ e20)), ?_⟩
  walk_at "rd"
  refine ifNn (fun c => absurd (hrt22.uniq (u8 (ik.xor ix)) (roots_of_two (u6 ik) (u6 ix))) c) (fun _ => ?_)
  have s23 := (s20.trans s21).trans s22
  have hR23 := s23 _ _ hR6
  walk_at "rd"
  refine ⟨⟨_, SqL.of hR23⟩, fun D nD => ?_⟩
  refine lc_list (K := K) (a := R) (xs := NL [r, s']) (fun i H' => H' D = some (.lst ((List.replicate i true).map V.bl)) ∧ Same H22 H') ⟨upd_same, Same.upd nD⟩ (fun i H' _ h => SqL.of (h.2 _ _ hR23)) ?_ ?_
  · rintro i v H' hi ⟨hD, sd⟩
    have hi2 : i < 2 := (List.getElem?_eq_some_iff.mp hi).1
    obtain ⟨y, hy, rfl⟩ := NL_at hi
    have iy : Nim.In 8 y ∧ Nim.IsRoot m n y := by
      have := List.mem_of_getElem? hy
      simp only [List.mem_cons, List.not_mem_nil, or_false] at this
      rcases this with rfl | rfl
      · exact ⟨ir.top, hr1⟩
      · exact ⟨is.top, hs1⟩
    walk_at "rd"
    refine ⟨_, _, rfl, iy.1, small256 (by decide), fun H24 s24 => ?_⟩
    walk_at "rd"
    refine ⟨_, _, rfl, u8 im, iy.1, fun H25 s25 => ?_⟩
    walk_at "rd"
    refine ⟨_, _, rfl, (Nim.npow_in iy.1 _).lt, (Nim.nm_in _ _).lt, ?_⟩
    walk_at "rd"
    have e : Nim.npow y 2 ^^^ Nim.nm m y = n := by rw [Nim.npow_two iy.1]; exact Nim.xor_eq_zero iy.2
    refine ⟨_, s25 _ _ (s24 _ _ hD), small_line (by simp; omega), ?_, Same.put ((sd.trans s24).trans s25) nD⟩
    rw [upd_same]
    show some (HO.lst ((List.replicate i true).map V.bl ++ [V.bl (decide (Nim.npow y 2 ^^^ Nim.nm m y = n))])) = _
    rw [decide_eq_true e, List.replicate_succ', List.map_append]
    rfl
  rintro H24 ⟨hD, sd⟩
  walk_at "rd"
  refine ⟨D, List.replicate 2 true, rfl, SqL.of hD, ?_⟩
  exact q _ (((s2.trans s6).trans s23).trans sd)
theorem take_three {f : Nat → Nat} {r s t n i : Nat} (h : [r, s, t][i]? = some n) : NL ([f r, f s, f t].take (i + 1)) = NL ([f r, f s, f t].take i) ++ [V.int ((f n : Nat) : Int)] := by
  match i, h with
  | 0, h =>
    obtain rfl : r = n := Option.some.inj h
    rfl
  | 1, h =>
    obtain rfl : s = n := Option.some.inj h
    rfl
  | 2, h =>
    obtain rfl : t = n := Option.some.inj h
    rfl
theorem small_le {n : Nat} (h : n ≤ 1000) : n ≤ sizeLine := Nat.le_of_lt (small_line h)
abbrev s_law : Stmt := top 28
theorem sc_law : FnScope ["_law_script", "_law_numbers", "_law_at", "_law_number", "_law_one", "_law_two", "_law_small", "_law_middle", "_law_many_times"] ["_law_script"] (defScope s_law) := ⟨rfl, rfl, rfl, by decide +kernel, rfl, by decide +kernel, by decide +kernel⟩
theorem ok_law (T : Txt K mg) (d__law_number_by : Dn P w K mg base CX0 1 (He.ga K "_law_number_by") ["_law_cell", "_law_other"] (sp__law_number_by K)) (d__law_cell_at : Dn P w K mg base CX0 1 (He.ga K "_law_cell_at") ["_law_script", "_law_k"] (sp__law_cell_at K)) (d__law_products_right : Dn P w K mg base CX0 24 (He.ga K "_law_products_right") ["_law_a", "_law_b", "_law_c"] (sp__law_products_right K)) (d__law_powers_right : Dn P w K mg base CX0 23 (He.ga K "_law_powers_right") ["_law_a", "_law_b", "_law_one", "_law_two"] (sp__law_powers_right K)) (d__law_roots_right : Dn P w K mg base CX0 24 (He.ga K "_law_roots_right") ["_law_middle", "_law_last", "_law_many_times", "_law_more"] (sp__law_roots_right K)) : Dn P w K mg base CX0 25 (He.ga K "law") ["_law_script"] (spLaw K) := by
  refine dn_of (k := 24) T.f_law sc_law (fun _ _ _ _ _ _ us hl => match us, hl with | [_], _ => rfl) (fun cdv A outer s H vs Q E hr h => ?_)
  obtain ⟨a, ns, rfl, hS, hl, hb, q⟩ := h
  have cb : ∀ k, Bt (cell ns k) := fun k => cell_bt hb k
  refine ⟨_, PSs.nox (pss_cons (ps_set (i := 1) sc_law.nd rfl (by first | exact Or.inl rfl | exact Or.inr rfl) (pe_lst pa_nil))
      (pss_cons (ps_for PassesOwn.never rfl (pi_range1 rfl T.n_range (pa_cons (pe_nat 3) pa_nil)) (pg_name (i := 2) sc_law.nd rfl (by first | exact Or.inl rfl | exact Or.inr rfl))
      (pss_cons (ps_set (i := 3) sc_law.nd rfl (by first | exact Or.inl rfl | exact Or.inr rfl) (pe_cl d__law_number_by (hr.mono (by omega)) T.g__law_number_by pass0 (pa_cons (pe_cl d__law_cell_at (hr.mono (by omega)) T.g__law_cell_at pass0 (pa_cons (pv 0) (pa_cons (pe_op op_muln (pe_nat 2) (pv 2)) pa_nil))) (pa_cons (pe_cl d__law_cell_at (hr.mono (by omega)) T.g__law_cell_at pass0 (pa_cons (pv 0) (pa_cons (pe_op op_addn (pe_op op_muln (pe_nat 2) (pv 2)) (pe_nat 1)) pa_nil))) pa_nil))))
      (pss_one (ps_expr (pe_bm PySem.F.plainAttrs_list PySem.F.slot_list_append PySem.F.type_list_append mt_append (pv 1) (pa_cons (pe_ifExp (pt_cmpR op_gtn (pv 3) (pe_nat 0) (nomark _)) (pv 3) (pe_op op_add pe_int (pe_op op_mod (pe_cl d__law_cell_at (hr.mono (by omega)) T.g__law_cell_at pass0 (pa_cons (pv 0) (pa_cons (pe_op op_addn (pe_op op_muln (pe_nat 2) (pv 2)) (pe_nat 2)) pa_nil))) pe_int))) pa_nil))))))
      (pss_cons (ps_par (i := 4) (j := 5) (by rfl) sc_law.nd rfl rfl (by decide) rfl rfl (pa_cons (pe_op op_mod (pe_cl d__law_cell_at (hr.mono (by omega)) T.g__law_cell_at pass0 (pa_cons (pv 0) (pa_cons (pe_nat 6) pa_nil))) pe_int) (pa_cons (pe_op op_mod (pe_cl d__law_cell_at (hr.mono (by omega)) T.g__law_cell_at pass0 (pa_cons (pv 0) (pa_cons (pe_nat 7) pa_nil))) pe_int) pa_nil)) (by rfl))
      (pss_cons (ps_if (pt_not (pt_val (pe_cl d__law_products_right (hr.mono (by omega)) T.g__law_products_right pass0 (pa_cons (pe_ix ix_list (pv 1) (pe_nat 0) (fun _ _ => rfl)) (pa_cons (pe_ix ix_list (pv 1) (pe_nat 1) (fun _ _ => rfl)) (pa_cons (pe_ix ix_list (pv 1) (pe_nat 2) (fun _ _ => rfl)) pa_nil)))))) (pss_one (ps_ret pe_bl)) pss_nil)
      (pss_cons (ps_if (pt_not (pt_val (pe_cl d__law_powers_right (hr.mono (by omega)) T.g__law_powers_right pass0 (pa_cons (pe_ix ix_list (pv 1) (pe_nat 0) (fun _ _ => rfl)) (pa_cons (pe_ix ix_list (pv 1) (pe_nat 1) (fun _ _ => rfl)) (pa_cons (pv 4) (pa_cons (pv 5) pa_nil))))))) (pss_one (ps_ret pe_bl)) pss_nil)
      (pss_cons (ps_set (i := 6) sc_law.nd rfl (by first | exact Or.inl rfl | exact Or.inr rfl) (pe_op op_cat (pe_lc (own := [("_law_number", 3)]) (g := gName 3) (by rfl) sc_law.nd (pi_list (pv 1)) (blkOk_by (own := [("_law_number", 3)]) (N := ["_law_script", "_law_numbers", "_law_at", "_law_number", "_law_one", "_law_two", "_law_small", "_law_middle", "_law_many_times"]) (sc := defScope (s_law)) (by decide +kernel)) (fun _ _ _ _ _ => pg_name (i := 3) sc_law.nd rfl (Or.inl rfl)) (fun _ _ _ _ _ => pts_nil) (fun _ _ _ _ _ => (pe_op op_modn (pv 3) (pe_op op_shln (pe_nat 1) (pe_nat 32))))) (pe_lst (pa_cons (pe_op op_mod (pe_cl d__law_cell_at (hr.mono (by omega)) T.g__law_cell_at pass0 (pa_cons (pv 0) (pa_cons (pe_nat 8) pa_nil))) (pe_op op_shln (pe_nat 1) (pe_nat 32))) pa_nil))))
      (pss_cons (ps_par (i := 7) (j := 8) (by rfl) sc_law.nd rfl rfl (by decide) rfl rfl (pa_cons (pe_callB (call_maxn rfl) (by rfl) T.n_max (by decide +kernel) (pa_cons (pe_nat 1) (pa_cons (pe_ix ix_list (pv 6) (pe_nat 0) (fun _ _ => rfl)) pa_nil))) (pa_cons (pe_callB (call_maxn rfl) (by rfl) T.n_max (by decide +kernel) (pa_cons (pe_nat 1) (pa_cons (pe_ix ix_list (pv 6) (pe_nat 1) (fun _ _ => rfl)) pa_nil))) pa_nil)) (by rfl))
      (pss_cons (ps_if (pt_not (pt_val (pe_cl d__law_roots_right (hr.mono (by omega)) T.g__law_roots_right pass0 (pa_cons (pv 7) (pa_cons (pe_ix ix_list (pv 6) (pe_nat 2) (fun _ _ => rfl)) (pa_cons (pv 8) (pa_cons (pe_ix ix_list (pv 6) (pe_nat 3) (fun _ _ => rfl)) pa_nil))))))) (pss_one (ps_ret pe_bl)) pss_nil)
      (pss_one (ps_ret (pe_and (pe_cl d__law_products_right (hr.mono (by omega)) T.g__law_products_right pass0 (pa_cons (pe_ix ix_list (pv 1) (pe_nat 2) (fun _ _ => rfl)) (pa_cons (pe_ix ix_list (pv 1) (pe_nat 0) (fun _ _ => rfl)) (pa_cons (pe_ix ix_list (pv 1) (pe_nat 0) (fun _ _ => rfl)) pa_nil)))) (pe_one (pe_cl d__law_roots_right (hr.mono (by omega)) T.g__law_roots_right pass0 (pa_cons (pe_nat 1) (pa_cons (pe_op op_modn (pe_ix ix_list (pv 6) (pe_nat 3) (fun _ _ => rfl)) (pe_nat 16)) (pa_cons (pe_nat 3) (pa_cons (pe_nat 2) pa_nil))))))))))))))))), ?_⟩
  refine ⟨by show 0 ≤ sizeLine; decide, fun D nD => ?_⟩
  walk_at "rd"
  refine ⟨by decide, by decide, ?_⟩
  refine for_rangeN (n := 3) (fun i σ H' => ∃ (xs : List Nat) (v2 v3 : Option V), σ = [some (.ref a), some (.ref D), v2, v3, none, none, none, none, none] ∧ Same H H' ∧ H' D = some (.lst (NL xs)) ∧ xs.length = i ∧ ∀ x ∈ xs, Nim.In 8 x ∧ 0 < x) ⟨[], none, none, rfl, Same.upd nD, upd_same, rfl, fun x h => by cases h⟩ ?_ ?_
  · rintro i σ H1 hi ⟨xs, v2, v3, rfl, s1, hD, hxl, hx⟩
    have hS1 := s1.seq hS
    walk_at "rd"
    refine ⟨_, _, rfl, cb _, cb _, fun x H2 l2 s2 => ?_⟩
    have hS2 := s2.seq hS1
    have hD2 := s2 _ _ hD
    have ix : Nim.In 8 x := ⟨Nat.le_refl _, Nat.lt_of_lt_of_le l2 (Nat.pow_le_pow_right (by decide) (nbits_le _))⟩
    walk_at "rd"
    refine ⟨.inl ⟨rfl, _, SqL.of hD2⟩, ?_⟩
    walk_at "rd"
    refine ifN (fun c => ?_) (fun c => ?_)
    · walk_at "rd"
      refine ⟨D, _, _, rfl, rfl, hD2, small_line (by rw [NL_length, hxl]; omega), ?_⟩
      refine ⟨xs ++ [x], _, _, rfl, Same.put (s1.trans s2) nD, ?_, by rw [List.length_append, hxl]; rfl, fun z hz => ?_⟩
      · rw [upd_same]
        unfold NL
        rw [List.map_append]
        rfl
      · rcases List.mem_append.mp hz with hz | hz
        · exact hx z hz
        · rw [List.mem_singleton] at hz
          rw [hz]
          exact ⟨ix, c⟩
    · walk_at "rd"
      obtain ⟨r, er, lr⟩ := mod_nat (cell ns (2 * i + 2)) (show 0 < 15 by decide)
      have e : (1 : Int) + cell ns (2 * i + 2) % 15 = ((1 + r : Nat) : Int) := by omega
      refine ⟨D, _, _, rfl, rfl, hD2, small_line (by rw [NL_length, hxl]; omega), ?_⟩
      refine ⟨xs ++ [1 + r], _, _, rfl, Same.put (s1.trans s2) nD, ?_, by rw [List.length_append, hxl]; rfl, fun z hz => ?_⟩
      · rw [upd_same]
        unfold NL
        rw [List.map_append]
        show some (HO.lst (xs.map _ ++ [V.int ((1 : Int) + cell ns (2 * i + 2) % 15)])) = _
        rw [e]
        rfl
      · rcases List.mem_append.mp hz with hz | hz
        · exact hx z hz
        · rw [List.mem_singleton] at hz
          rw [hz]
          exact ⟨Nim.In.top (n := 2) ⟨by decide, show 1 + r < 16 by omega⟩, by omega⟩
  rintro σ H1 ⟨xs, v2, v3, rfl, s1, hD, hxl, hx⟩
  have hS1 := s1.seq hS
  match xs, hxl with
  | [x0, x1, x2], _ =>
    obtain ⟨i0, p0⟩ := hx x0 (by simp)
    obtain ⟨i1, p1⟩ := hx x1 (by simp)
    obtain ⟨i2, p2⟩ := hx x2 (by simp)
    obtain ⟨i, ei, li⟩ := mod_nat (cell ns 6) (show 0 < 41 by decide)
    obtain ⟨j, ej, lj⟩ := mod_nat (cell ns 7) (show 0 < 41 by decide)
    obtain ⟨u, eu, lu⟩ := mod_nat (cell ns 8) (show 0 < 4294967296 by decide)
    walk_at "rd"
    refine ⟨_, _, rfl, ?_⟩
    walk_at "rd"
    refine ⟨D, _, _, _, rfl, rfl, SqL.of hD, atI_nat (j := 0) rfl, ?_⟩
    walk_at "rd"
    refine ⟨D, _, _, _, rfl, rfl, SqL.of hD, atI_nat (j := 1) rfl, ?_⟩
    walk_at "rd"
    refine ⟨D, _, _, _, rfl, rfl, SqL.of hD, atI_nat (j := 2) rfl, ?_⟩
    walk_at "rd"
    refine ⟨_, _, _, rfl, i0, i1, i2, p0, p1, p2, fun H2 s2 => ?_⟩
    have hD2 := s2 _ _ hD
    walk_at "rd"
    refine ⟨D, _, _, _, rfl, rfl, SqL.of hD2, atI_nat (j := 0) rfl, ?_⟩
    walk_at "rd"
    refine ⟨D, _, _, _, rfl, rfl, SqL.of hD2, atI_nat (j := 1) rfl, ?_⟩
    walk_at "rd"
    refine ⟨x0, x1, i, j, ?_, i0, i1, p0, p1, by omega, by omega, fun H3 s3 => ?_⟩
    · show [V.int (x0 : Int), .int (x1 : Int), .int (cell ns 6 % 41), .int (cell ns 7 % 41)] = _
      have e1 : cell ns 6 % 41 = (i : Int) := ei
      have e2 : cell ns 7 % 41 = (j : Int) := ej
      rw [e1, e2]
    have hD3 := s3 _ _ hD2
    have hS3 := (s2.trans s3).seq hS1
    have l5 : ∀ y : Nat, Nim.In 5 (y % (1 * 2 ^ 32)) := fun y => ⟨by decide, Nat.mod_lt y (by decide)⟩
    walk_at "rd"
    refine ⟨⟨_, SqL.of hD3⟩, fun L nL => ?_⟩
    refine lc_list (K := K) (a := D) (xs := NL [x0, x1, x2]) (fun i H' => H' L = some (.lst (NL ([x0 % (1 * 2 ^ 32), x1 % (1 * 2 ^ 32), x2 % (1 * 2 ^ 32)].take i))) ∧ Same H3 H') ⟨upd_same, Same.upd nL⟩ (fun i H' _ h => SqL.of (h.2 _ _ hD3)) ?_ ?_
    · rintro i v H' hi ⟨hL, sd⟩
      obtain ⟨y, hy, rfl⟩ := NL_at hi
      walk_at "rd"
      refine ⟨⟨1, by decide, by decide⟩, ?_⟩
      walk_at "rd"
      refine ⟨_, hL, small_line (by rw [NL_length, List.length_take]; exact Nat.le_trans (Nat.min_le_right _ _) (by show 3 ≤ 1000; decide)), ?_, Same.put sd nL⟩
      rw [upd_same, take_three (f := fun y => y % (1 * 2 ^ 32)) hy]
    rintro H4 ⟨hL, s4⟩
    have hS4 := s4.seq hS3
    walk_at "rd"
    refine ⟨⟨1, by decide, by decide⟩, ?_⟩
    walk_at "rd"
    intro M nM
    have hL5 := Same.upd (o := .lst [V.int (cell ns 8 % ((1 * 2 ^ 32 : Nat) : Int))]) nM _ _ hL
    have s5 := s4.trans (Same.upd (o := .lst [V.int (cell ns 8 % ((1 * 2 ^ 32 : Nat) : Int))]) nM)
    refine ⟨L, M, _, _, rfl, rfl, hL5, upd_same, ?_, fun S nS => ?_⟩
    · exact small_le (by show 4 ≤ 1000; decide)
    have eS : upd (upd H4 M (.lst [V.int (cell ns 8 % ((1 * 2 ^ 32 : Nat) : Int))])) S (.lst (NL ([x0 % (1 * 2 ^ 32), x1 % (1 * 2 ^ 32), x2 % (1 * 2 ^ 32)].take 3) ++ [V.int (cell ns 8 % ((1 * 2 ^ 32 : Nat) : Int))])) S = some (.lst (NL [x0 % (1 * 2 ^ 32), x1 % (1 * 2 ^ 32), x2 % (1 * 2 ^ 32), u])) := by
      rw [upd_same]
      have e : cell ns 8 % ((1 * 2 ^ 32 : Nat) : Int) = (u : Int) := eu
      rw [e]
      rfl
    have sS := s5.trans (Same.upd (o := .lst (NL ([x0 % (1 * 2 ^ 32), x1 % (1 * 2 ^ 32), x2 % (1 * 2 ^ 32)].take 3) ++ [V.int (cell ns 8 % ((1 * 2 ^ 32 : Nat) : Int))])) nS)
    have hD6 := sS _ _ hD3
    have b0 := l5 x0
    have b1 := l5 x1
    have b2 := l5 x2
    have bu : Nim.In 5 u := ⟨by decide, lu⟩
    generalize x0 % (1 * 2 ^ 32) = y0 at *
    generalize x1 % (1 * 2 ^ 32) = y1 at *
    generalize x2 % (1 * 2 ^ 32) = y2 at *
    have m1 : ∀ y, Nim.In 5 y → Nim.In 5 (max 1 y) ∧ 0 < max 1 y := fun y h => ⟨⟨by decide, Nat.max_lt.mpr ⟨by decide, h.lt⟩⟩, by omega⟩
    walk_at "rd"
    refine ⟨S, _, _, _, rfl, rfl, SqL.of eS, atI_nat (j := 0) rfl, ?_⟩
    walk_at "rd"
    refine ⟨_, _, rfl, ?_⟩
    walk_at "rd"
    refine ⟨S, _, _, _, rfl, rfl, SqL.of eS, atI_nat (j := 1) rfl, ?_⟩
    walk_at "rd"
    refine ⟨_, _, rfl, ?_⟩
    walk_at "rd"
    refine ⟨_, _, rfl, ?_⟩
    walk_at "rd"
    refine ⟨S, _, _, _, rfl, rfl, SqL.of eS, atI_nat (j := 2) rfl, ?_⟩
    walk_at "rd"
    refine ⟨S, _, _, _, rfl, rfl, SqL.of eS, atI_nat (j := 3) rfl, ?_⟩
    walk_at "rd"
    refine ⟨_, _, _, _, rfl, (m1 _ b0).1, b2, (m1 _ b1).1, bu, (m1 _ b0).2, (m1 _ b1).2, fun H7 s7 => ?_⟩
    have hD7 := s7 _ _ hD6
    have eS7 := s7 _ _ eS
    walk_at "rd"
    refine ⟨D, _, _, _, rfl, rfl, SqL.of hD7, atI_nat (j := 2) rfl, ?_⟩
    walk_at "rd"
    refine ⟨D, _, _, _, rfl, rfl, SqL.of hD7, atI_nat (j := 0) rfl, ?_⟩
    walk_at "rd"
    refine ⟨D, _, _, _, rfl, rfl, SqL.of hD7, atI_nat (j := 0) rfl, ?_⟩
    walk_at "rd"
    refine ⟨_, _, _, rfl, i2, i0, i0, p2, p0, p0, fun H8 s8 => ?_⟩
    have eS8 := s8 _ _ eS7
    walk_at "rd"
    refine ⟨S, _, _, _, rfl, rfl, SqL.of eS8, atI_nat (j := 3) rfl, ?_⟩
    walk_at "rd"
    have s16 : ∀ y : Nat, y < 16 → Nim.In 5 y := fun y h => (show Nim.In 2 y from ⟨by decide, h⟩).up (by decide) (by decide)
    exact ⟨1, _, 3, 2, rfl, s16 1 (by decide), s16 _ (Nat.mod_lt _ (by decide)), s16 3 (by decide), s16 2 (by decide), by decide, by decide, fun H9 _ => q H9⟩
end
def fn : List He.DefD := [⟨("is_whole", none), "is_whole", "is_whole", defArgs (top 6), defBody (top 6), defScope (top 6), [], []⟩,
  ⟨("_law_cell_at", none), "_law_cell_at", "_law_cell_at", defArgs (top 23), defBody (top 23), defScope (top 23), [], []⟩,
  ⟨("asked_number", none), "asked_number", "asked_number", defArgs (top 7), defBody (top 7), defScope (top 7), [], []⟩,
  ⟨("level_of", none), "level_of", "level_of", defArgs (top 8), defBody (top 8), defScope (top 8), [], []⟩,
  ⟨("parted", none), "parted", "parted", defArgs (top 9), defBody (top 9), defScope (top 9), [], []⟩,
  ⟨("times", none), "times", "times", defArgs (top 12), defBody (top 12), defScope (top 12), [], []⟩,
  ⟨("product", none), "product", "product", defArgs (top 13), defBody (top 13), defScope (top 13), [], []⟩,
  ⟨("_law_number_by", none), "_law_number_by", "_law_number_by", defArgs (top 24), defBody (top 24), defScope (top 24), [], []⟩,
  ⟨("added", none), "added", "added", defArgs (top 11), defBody (top 11), defScope (top 11), [], []⟩,
  ⟨("undone", none), "undone", "undone", defArgs (top 15), defBody (top 15), defScope (top 15), [], []⟩,
  ⟨("inverse", none), "inverse", "inverse", defArgs (top 16), defBody (top 16), defScope (top 16), [], []⟩,
  ⟨("quotient", none), "quotient", "quotient", defArgs (top 17), defBody (top 17), defScope (top 17), [], []⟩,
  ⟨("power", none), "power", "power", defArgs (top 14), defBody (top 14), defScope (top 14), [], []⟩,
  ⟨("root", none), "root", "root", defArgs (top 18), defBody (top 18), defScope (top 18), [], []⟩,
  ⟨("settled", none), "settled", "settled", defArgs (top 19), defBody (top 19), defScope (top 19), [], []⟩,
  ⟨("settled_above", none), "settled_above", "settled_above", defArgs (top 20), defBody (top 20), defScope (top 20), [], []⟩,
  ⟨("roots", none), "roots", "roots", defArgs (top 21), defBody (top 21), defScope (top 21), [], []⟩,
  ⟨("_law_products_right", none), "_law_products_right", "_law_products_right", defArgs (top 25), defBody (top 25), defScope (top 25), [], []⟩,
  ⟨("_law_powers_right", none), "_law_powers_right", "_law_powers_right", defArgs (top 26), defBody (top 26), defScope (top 26), [], []⟩,
  ⟨("_law_roots_right", none), "_law_roots_right", "_law_roots_right", defArgs (top 27), defBody (top 27), defScope (top 27), [], []⟩,
  ⟨("law", none), "law", "law", defArgs (top 28), defBody (top 28), defScope (top 28), [], []⟩]
def fa : List He.Fa := [.free "isinstance", .free "int", .free "bool", .free "len", .glo "is_whole", .free "max", .glo "level_of", .glo "parted", .glo "times", .int "BITS" 256, .glo "asked_number", .glo "undone", .glo "inverse", .glo "root", .glo "settled", .glo "settled_above", .free "sorted", .glo "product", .glo "quotient", .glo "added", .glo "power", .free "range", .glo "roots", .free "all", .glo "_law_cell_at", .glo "_law_number_by", .glo "_law_products_right", .glo "_law_powers_right", .glo "_law_roots_right", .glo "law"]
theorem txt_mk {K : PySem.W.Frag} {h : Heap} {mg : Str → Option Value} (X : K.In h) (G : h.Ns mainGlobals mg) (c : He.SaysD fa fn K) : Txt K mg where
  n_isinstance := He.free_ok X G (c.fact 0 (f := .free "isinstance") rfl)
  n_int := He.free_ok X G (c.fact 1 (f := .free "int") rfl)
  n_bool := He.free_ok X G (c.fact 2 (f := .free "bool") rfl)
  n_len := He.free_ok X G (c.fact 3 (f := .free "len") rfl)
  g_is_whole := He.glo_ok X G (c.fact 4 (f := .glo "is_whole") rfl)
  n_max := He.free_ok X G (c.fact 5 (f := .free "max") rfl)
  g_level_of := He.glo_ok X G (c.fact 6 (f := .glo "level_of") rfl)
  g_parted := He.glo_ok X G (c.fact 7 (f := .glo "parted") rfl)
  g_times := He.glo_ok X G (c.fact 8 (f := .glo "times") rfl)
  c_BITS := He.int_ok X G (c.fact 9 (f := .int "BITS" 256) rfl)
  g_asked_number := He.glo_ok X G (c.fact 10 (f := .glo "asked_number") rfl)
  g_undone := He.glo_ok X G (c.fact 11 (f := .glo "undone") rfl)
  g_inverse := He.glo_ok X G (c.fact 12 (f := .glo "inverse") rfl)
  g_root := He.glo_ok X G (c.fact 13 (f := .glo "root") rfl)
  g_settled := He.glo_ok X G (c.fact 14 (f := .glo "settled") rfl)
  g_settled_above := He.glo_ok X G (c.fact 15 (f := .glo "settled_above") rfl)
  n_sorted := He.free_ok X G (c.fact 16 (f := .free "sorted") rfl)
  g_product := He.glo_ok X G (c.fact 17 (f := .glo "product") rfl)
  g_quotient := He.glo_ok X G (c.fact 18 (f := .glo "quotient") rfl)
  g_added := He.glo_ok X G (c.fact 19 (f := .glo "added") rfl)
  g_power := He.glo_ok X G (c.fact 20 (f := .glo "power") rfl)
  n_range := He.free_ok X G (c.fact 21 (f := .free "range") rfl)
  g_roots := He.glo_ok X G (c.fact 22 (f := .glo "roots") rfl)
  n_all := He.free_ok X G (c.fact 23 (f := .free "all") rfl)
  g__law_cell_at := He.glo_ok X G (c.fact 24 (f := .glo "_law_cell_at") rfl)
  g__law_number_by := He.glo_ok X G (c.fact 25 (f := .glo "_law_number_by") rfl)
  g__law_products_right := He.glo_ok X G (c.fact 26 (f := .glo "_law_products_right") rfl)
  g__law_powers_right := He.glo_ok X G (c.fact 27 (f := .glo "_law_powers_right") rfl)
  g__law_roots_right := He.glo_ok X G (c.fact 28 (f := .glo "_law_roots_right") rfl)
  g_law := He.glo_ok X G (c.fact 29 (f := .glo "law") rfl)
  f_is_whole := c.def_ 0 rfl
  f__law_cell_at := c.def_ 1 rfl
  f_asked_number := c.def_ 2 rfl
  f_level_of := c.def_ 3 rfl
  f_parted := c.def_ 4 rfl
  f_times := c.def_ 5 rfl
  f_product := c.def_ 6 rfl
  f__law_number_by := c.def_ 7 rfl
  f_added := c.def_ 8 rfl
  f_undone := c.def_ 9 rfl
  f_inverse := c.def_ 10 rfl
  f_quotient := c.def_ 11 rfl
  f_power := c.def_ 12 rfl
  f_root := c.def_ 13 rfl
  f_settled := c.def_ 14 rfl
  f_settled_above := c.def_ 15 rfl
  f_roots := c.def_ 16 rfl
  f__law_products_right := c.def_ 17 rfl
  f__law_powers_right := c.def_ 18 rfl
  f__law_roots_right := c.def_ 19 rfl
  f_law := c.def_ 20 rfl
abbrev R : PySem.W.OpenRow := PySem.W.OpenLaw.row PySem.Challenge.rw_nimhouse_k23_whole_field_agrees
abbrev hk : PySem.W.Hook := He.hookD 5 fa fn
def ob (s : PySem.W.SharedT) : He.AlD := He.obsDG 5 fa fn (HandSHeadRun.getT s)
theorem ob_eq (s : PySem.W.SharedT) : ob s = hk.obs s.abs := He.obsDG_eq (HandSHeadRun.getT_eq s)
def names0 : List Str := ["HouseError", "NotANumber", "NoInverse", "BITS", "is_whole", "asked_number", "level_of", "parted", "added", "times", "product", "power", "undone", "inverse", "quotient", "root", "settled", "settled_above", "roots", "_law_cell_at", "_law_number_by", "_law_products_right", "_law_powers_right", "_law_roots_right"]
def names : List Str := names0
theorem run (w : World) : HandSHeadRun.RunEq R (PySem.W.view R.prog [28]) hk ob 4000 names w := by
  intro os
  kernel_rfl
theorem facts {P : Program} {w : World} {K : PySem.W.Frag} {h : Heap} {mg : Str → Option Value} {f : Addr} (X : K.In h) (G : h.Ns mainGlobals mg) (hfa : mg ("law" : Str) = some (.ref f)) (c : He.SaysD fa fn K) :
    ∃ fd : FuncData, (∀ (s : Shared) (v : Value), BindsTo s fd ⟨[v], []⟩ [("_law_script", v)]) ∧ ∀ base : Heap, K.In base → base.Ns mainGlobals mg → FnOk P w K mg base CX0 25 f fd ["_law_script"] (few ["_law_script"] (spLaw K)) := by
  have T := txt_mk X G c
  have e := hfa.symm.trans T.g_law
  cases e
  obtain ⟨fd, F⟩ := T.f_law
  have b := FunD.bindsA (ps := ["_law_script"]) F fun _ _ _ _ _ _ us hl => match us, hl with | [_], _ => rfl
  refine ⟨fd, fun s v => b s [v] rfl, fun base _ _ => ?_⟩
  have d_is_whole := ok_is_whole (P := P) (w := w) (base := base) T 
  have d__law_cell_at := ok__law_cell_at (P := P) (w := w) (base := base) T 
  have d_asked_number := ok_asked_number (P := P) (w := w) (base := base) T d_is_whole
  have d_level_of := ok_level_of (P := P) (w := w) (base := base) T 
  have d_parted := ok_parted (P := P) (w := w) (base := base) T 
  have d_times := ok_times (P := P) (w := w) (base := base) T d_level_of d_parted 9
  have d_product := ok_product (P := P) (w := w) (base := base) T d_times d_asked_number
  have d__law_number_by := ok__law_number_by (P := P) (w := w) (base := base) T 
  have d_added := ok_added (P := P) (w := w) (base := base) T d_asked_number
  have d_undone := ok_undone (P := P) (w := w) (base := base) T d_level_of d_parted d_times 9
  have d_inverse := ok_inverse (P := P) (w := w) (base := base) T d_asked_number d_undone
  have d_quotient := ok_quotient (P := P) (w := w) (base := base) T d_asked_number d_times d_inverse
  have d_power := ok_power (P := P) (w := w) (base := base) T d_asked_number d_times
  have d_root := ok_root (P := P) (w := w) (base := base) T d_asked_number d_level_of d_parted d_times 9
  have d_settled := ok_settled (P := P) (w := w) (base := base) T d_parted d_times 9
  have d_settled_above := ok_settled_above (P := P) (w := w) (base := base) T d_level_of d_settled
  have d_roots := ok_roots (P := P) (w := w) (base := base) T d_asked_number d_root d_settled_above d_times d_undone
  have d__law_products_right := ok__law_products_right (P := P) (w := w) (base := base) T d_product d_inverse d_root d_quotient d_added d_power
  have d__law_powers_right := ok__law_powers_right (P := P) (w := w) (base := base) T d_power d_product d_inverse d_root d_added
  have d__law_roots_right := ok__law_roots_right (P := P) (w := w) (base := base) T d_roots d_added d_product d_root d_power
  have d_law := ok_law (P := P) (w := w) (base := base) T d__law_number_by d__law_cell_at d__law_products_right d__law_powers_right d__law_roots_right
  obtain ⟨fd', F', _, lk⟩ := d_law.ex
  have e := fd_eq F lk
  rw [e] at F'
  exact F'
end N
open PySem PySem.W PySem.Calls PyProof.Rows
theorem PySem.Challenge.cw_nimhouse_k23_whole_field_agrees_holds : PySem.Challenge.rw_nimhouse_k23_whole_field_agrees.Holds := by
  w_on; o_law
  refine HandSHeadRun.head_any (r := OpenLaw.row PySem.Challenge.rw_nimhouse_k23_whole_field_agrees) (q := view (OpenLaw.row PySem.Challenge.rw_nimhouse_k23_whole_field_agrees).prog [28]) (H := N.hk) (ob := N.ob) (M := 4000) (loose := N.names) (d := HandSHeadRun.topDef (OpenLaw.row PySem.Challenge.rw_nimhouse_k23_whole_field_agrees).prog 28) (kwd := []) N.ob_eq
    (by kernel_rfl) (fun s => by kernel_rfl) N.run (by kernel_rfl) (by kernel_rfl) (by kernel_rfl) (by rfl) (by first | assumption | decide +kernel) (by decide +kernel) ⟨rfl, rfl, rfl, rfl, rfl, by decide +kernel⟩ ?hw ?hc
  case hw => w_witness2
  case hc =>
    refine N.walk_ofEB (l := PySem.Challenge.rw_nimhouse_k23_whole_field_agrees) (n := 63) (k := 25) (x := "_law_script") (CX := L2.CX0) rfl (by decide) (by kernel_rfl) ⟨rfl, by decide, by decide⟩ ?F (fun _ _ _ _ z => z)
    intro w mg fa h Y G hmg0
    obtain ⟨K, KX, c⟩ := Y
    have hmg : mg ("law" : PySem.Str) = some (.ref fa) := by
      have e : (HandSHeadRun.topDef (OpenLaw.row PySem.Challenge.rw_nimhouse_k23_whole_field_agrees).prog 28).name = ("law" : PySem.Str) := by kernel_rfl
      rw [← e]
      exact hmg0
    obtain ⟨fd, hb, hF⟩ := N.facts (P := (PySem.Challenge.rw_nimhouse_k23_whole_field_agrees).prog) (w := w) KX G hmg c
    exact ⟨K, fd, _, KX, hb, fun H a ns hl hbt _ hS => ⟨rfl, a, ns, rfl, hS, hl, hbt, fun _ => rfl⟩, hF⟩
