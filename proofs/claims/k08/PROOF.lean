import PyProof.Rows.All
import Wide.All
import OpenK.AllK
import Wide.FinOn
import KE.KStateDown
import Lean
import HandS.ForMost
import HandS.ForExc
import HandS.More
import HandS.Defaults
import HandS.IsInst
import HandS.Wide
import HandS.WideBits
import HandS.EndBits
import HandS.Head0
import HandS.Head1
import HandS.Head2
import HandS.HeadEnd
import HandS.HeadHook1
import HandS.HeadHook2
import HandS.SortInts
import KE.KEqSeq
import HandS.RevRange
import HandS.Walk
import HandS.Conv
import HandS.Style
import HandS.ClsMeth
import HandS.Comp
import HandS.Exc
import HandS.TryOnly
import HandS.TryMany
import HandS.TryElse
import HandS.ExcOwn
import HandS.ExcIs
import HandS.WordsExc
import PySem.Challenge.RW_nimhouse_k08_whole_numbers
set_option Elab.async false
set_option linter.all false
set_option maxRecDepth 100000
set_option maxHeartbeats 4000000
/-! Our own rules over the hand layer: defs by one datum, numbers as naturals, the end with the numbers' bits. -/
namespace N
open PySem PySem.Spec PyProof.Rows L2
/-! ### a def that keeps a promise -/
/-- the promise with the number of its arguments -/
def few (ps : List Str) (sp : Sp) : Sp := fun vs H Q E => vs.length = ps.length ∧ sp vs H Q E
structure Dn (P : Program) (w : World) (K : PySem.W.Frag) (mg : Str → Option Value) (base : Heap) (CX : CXT) (k : Nat) (f : Addr) (ps : List Str) (sp : Sp) : Prop where
  ex : ∃ fd, FnOk P w K mg base CX k f fd ps (few ps sp) ∧ Binds K fd ps [] ∧ ∃ oc od osl, K.lookup f = some ⟨oc, od, .func fd, osl⟩
  kp : PySem.W.keepIn K (.ref f) = true
section
variable {P : Program} {w : World} {K : PySem.W.Frag} {mg : Str → Option Value} {base : Heap} {CX : CXT} {x qual : Str} {params : Arguments} {body : List Stmt} {scope : Scope} {f : Addr} {fd : FuncData} {N ps : List Str} {k : Nat} {sp : Sp}
theorem dn_of (F : ∃ fd, FunD K x qual params body scope [] [] f fd) (S : FnScope N ps scope)
    (hb : ∀ (kV doc pm : Value) (an : Option Addr) (cdv ct : Value) (us : List Value), us.length = ps.length → bindArgs (PySem.W.fnOf x qual params body scope .none kV doc pm an cdv ct) ⟨us, []⟩ = pure (ps.zip us))
    (hbody : ∀ (cdv : Value) (A : Around) (outer : List Env) (s : Shared) (H : Hp) (vs : List V) (Q : VK) (E : XK), Room k (A.deeper (envOfC qual scope s.heap.objs.size f cdv)) → sp vs H Q E →
      ∃ t, PSs (cxOf CX P w K mg base N qual scope f cdv A outer s H E) body t ∧ t { nx := fun _ H' => Q .non H', rt := Q } (start N vs) H) : Dn P w K mg base CX (k + 1) f ps sp := by
  obtain ⟨fd, F⟩ := F
  refine ⟨⟨fd, F.ok S (fun vs H Q E h => h.1) (fun cdv A outer s H vs Q E hr h => hbody cdv A outer s H vs Q E hr h.2), F.bindsN hb, ?_⟩, F.kp⟩
  obtain ⟨oc, od, dV, kV, doc, pm, an, cdv, ct, osl, _, lk, _⟩ := F.ex
  exact ⟨oc, od, osl, lk⟩
theorem fd_eq {dvs : List V} {kws : List (Str × V)} {fd' : FuncData} (F : FunD K x qual params body scope dvs kws f fd) (h : ∃ oc od osl, K.lookup f = some ⟨oc, od, .func fd', osl⟩) : fd' = fd := by
  obtain ⟨oc, od, dV, kV, doc, pm, an, cdv, ct, osl, _, lk, _⟩ := F.ex
  obtain ⟨oc', od', osl', h⟩ := h
  rw [lk] at h
  injection h with h
  injection h with h1 h2 h3 h4
  injection h3 with h3
  exact h3.symm
/-- a def that calls itself: the n-th promise leans on the one ahead of it -/
def recSp (sp : Nat → Sp) : Nat → Sp
  | 0 => fun _ _ _ _ => False
  | n + 1 => sp n
theorem rec_dn {sp : Nat → Sp} {c : Nat} (F : ∃ fd, FunD K x qual params body scope [] [] f fd)
    (hb : ∀ (kV doc pm : Value) (an : Option Addr) (cdv ct : Value) (us : List Value), us.length = ps.length → bindArgs (PySem.W.fnOf x qual params body scope .none kV doc pm an cdv ct) ⟨us, []⟩ = pure (ps.zip us))
    (h : ∀ n, Dn P w K mg base CX (n + c) f ps (recSp sp n) → Dn P w K mg base CX (n + c + 1) f ps (sp n)) : ∀ n, Dn P w K mg base CX (n + c) f ps (recSp sp n)
  | 0 => by
    obtain ⟨fd, F⟩ := F
    refine ⟨⟨fd, ⟨fun vs H Q E h => h.1, fun A outer s H args us vs Q E hr he hb hv hs => hs.2.elim⟩, F.bindsN hb, ?_⟩, F.kp⟩
    obtain ⟨oc, od, dV, kV, doc, pm, an, cdv, ct, osl, _, lk, _⟩ := F.ex
    exact ⟨oc, od, osl, lk⟩
  | n + 1 => by
    have e : n + 1 + c = n + c + 1 := by omega
    rw [e]
    exact h n (rec_dn F hb h n)
theorem Dn.mono {j : Nat} (D : Dn P w K mg base CX j f ps sp) (h : j ≤ k) : Dn P w K mg base CX k f ps sp := by
  obtain ⟨fd, F, b⟩ := D.ex
  exact ⟨⟨fd, F.mono h, b⟩, D.kp⟩
theorem Dn.imp {sp' : Sp} (D : Dn P w K mg base CX k f ps sp) (h : ∀ vs H Q E, sp' vs H Q E → sp vs H Q E) : Dn P w K mg base CX k f ps sp' := by
  obtain ⟨fd, F, b⟩ := D.ex
  exact ⟨⟨fd, F.imp fun vs H Q E q => ⟨q.1, h vs H Q E q.2⟩, b⟩, D.kp⟩
/-- a def that may raise, where it does not -/
theorem Dn.calm (D : Dn P w K mg base (L2.CX P w) k f ps sp) : Dn P w K mg base CX0 k f ps fun vs H Q _ => sp vs H Q E0 := by
  obtain ⟨fd, F, b⟩ := D.ex
  refine ⟨⟨fd, ⟨fun vs H Q E q => q.1, fun A outer s H args us vs Q E hr he hb hv hs => ?_⟩, b⟩, D.kp⟩
  refine codeAny_mono (F.run A outer s H args us vs Q E0 hr he hb hv hs) fun r s' hq => ?_
  cases r with
  | error e =>
    obtain ⟨_, _, _, _, _, _, _, _, _, _, _, _, h⟩ := hq
    exact h.elim
  | ok fl => cases fl <;> exact hq
end
section
variable {X : Cx} {CX : CXT} {k : Nat} {f C : Addr} {ps : List Str} {sp : Sp} {E : XK} {x m : Str} {p pos apos : Pos} {e o : Expr} {es : List Expr} {ta : TE} {t : TA}
/-- f(..) -/
def tCl (ps : List Str) (sp : Sp) (E : XK) (t : TA) : TE := fun σ H Q => t σ H fun vs H1 => few ps sp vs H1 Q E
theorem pe_cl (D : Dn X.prog X.w X.K X.mg X.base CX k f ps sp) (hr : Room k X.A) (hm : X.mg x = some (.ref f)) (hx : Passes CX X E) (ha : PA X (e :: es) t) (hg : Gl X x := by rfl)
    (hdb : (x == ("__debug__" : Str)) = false := by decide) (he : starEach (e :: es) X.env = (false, eval e X.env) :: starEach es X.env := by rfl) (hpl : (backTo pos (starEach es X.env)).any (·.1) = false := by rfl) :
    PE X (.Call (.Name x p) (e :: es) [] pos) (tCl ps sp E t) := by
  obtain ⟨fd, F, b, _⟩ := D.ex
  have h := pe_call (p := p) (ds := []) (dvs := []) F hr hg hm D.kp b .nil hx ha hdb he hpl
  refine ⟨fun pins s σ H Q I q => h.run pins s σ H Q I ?_⟩
  have e2 : tCall (few ps sp) [] E t = tCl ps sp E t := by
    funext σ H Q
    unfold tCall tCl
    simp only [List.append_nil]
  rw [e2]
  exact q
theorem pe_cl0 (D : Dn X.prog X.w X.K X.mg X.base CX k f ps sp) (hr : Room k X.A) (hm : X.mg x = some (.ref f)) (hx : Passes CX X E) (hg : Gl X x := by rfl)
    (hdb : (x == ("__debug__" : Str)) = false := by decide) : PE X (.Call (.Name x p) [] [] pos) (tCl ps sp E tNil) := by
  obtain ⟨fd, F, b, _⟩ := D.ex
  exact pe_call0 (ds := []) (dvs := []) F hr hg hm D.kp b .nil hx hdb
end
/-! ### numbers as naturals -/
section
variable {X : Cx}
theorem pe_nat (n : Nat) {j : Nat} {pos : Pos} : PE X (.Constant (.int (n : Int)) j pos) (tC (.int (n : Int))) := pe_int
/-- a module's number -/
theorem pe_gint {x : Str} {i : Int} {pos : Pos} (h : ∃ t, X.mg x = some (.int i t)) (hg : Gl X x := by rfl) (hd : (x == ("__debug__" : Str)) = false := by decide) : PE X (.Name x pos) (tC (.int i)) := by
  obtain ⟨t, h⟩ := h
  exact pe_glob hg h ⟨t, rfl⟩ hd
theorem pe_gnat {x : Str} {n : Nat} {pos : Pos} (h : ∃ t, X.mg x = some (.int (n : Int) t)) (hg : Gl X x := by rfl) (hd : (x == ("__debug__" : Str)) = false := by decide) : PE X (.Name x pos) (tC (.int (n : Int))) := pe_gint h hg hd
/-- two naturals -/
def rN (C : Nat → Nat → Prop) (g : Nat → Nat → V) : R2 := fun x y H Q => ∃ n m : Nat, x = .int (n : Int) ∧ y = .int (m : Int) ∧ C n m ∧ Q (g n m) H
def rN0 (g : Nat → Nat → V) : R2 := fun x y H Q => ∃ n m : Nat, x = .int (n : Int) ∧ y = .int (m : Int) ∧ Q (g n m) H
theorem opN {f : Value → Value → Sem Value} {C : Int → Int → Prop} {g : Int → Int → V} (h : OpR X f (rI C g)) {C' : Nat → Nat → Prop} {g' : Nat → Nat → V} (hc : ∀ n m : Nat, C' n m → C n m) (e : ∀ n m : Nat, C' n m → g n m = g' n m) : OpR X f (rN C' g') := by
  intro pins s σ H x y v u Q I rx ry q
  obtain ⟨n, m, rfl, rfl, c, q⟩ := q
  rw [← e n m c] at q
  exact h pins s σ H _ _ v u Q I rx ry ⟨_, _, rfl, rfl, hc n m c, q⟩
theorem opN0 {f : Value → Value → Sem Value} {g : Int → Int → V} (h : OpR X f (rI0 g)) {g' : Nat → Nat → V} (e : ∀ n m : Nat, g n m = g' n m) : OpR X f (rN0 g') := by
  intro pins s σ H x y v u Q I rx ry q
  obtain ⟨n, m, rfl, rfl, q⟩ := q
  rw [← e n m] at q
  exact h pins s σ H _ _ v u Q I rx ry ⟨_, _, rfl, rfl, q⟩
theorem op_addn : OpR X (binaryOp .Add) (rN0 fun n m => .int ((n + m : Nat) : Int)) := opN0 op_add fun n m => by rw [Int.natCast_add]
theorem op_subn : OpR X (binaryOp .Sub) (rN (fun n m => m ≤ n) fun n m => .int ((n - m : Nat) : Int)) := by
  intro pins s σ H x y v u Q I rx ry q
  obtain ⟨n, m, rfl, rfl, c, q⟩ := q
  have q : Q (V.int ((n - m : Nat) : Int)) H := q
  rw [Int.ofNat_sub c] at q
  exact op_sub pins s σ H _ _ v u Q I rx ry ⟨_, _, rfl, rfl, q⟩
/-- one factor below 2 ^ 64 -/
theorem op_muln : OpR X (binaryOp .Mult) (rN (fun n m => n < 2 ^ 64 ∨ m < 2 ^ 64) fun n m => .int ((n * m : Nat) : Int)) := opN op_mul (fun n m c => by
  have e : (2 : Int) ^ 64 = 18446744073709551616 := by decide
  have e' : (2 : Nat) ^ 64 = 18446744073709551616 := by decide
  unfold CMul
  rw [e]
  rw [e'] at c
  omega) fun n m _ => by rw [Int.natCast_mul]
/-- great factors -/
theorem op_mulnX : OpR X (binaryOp .Mult) (rN (fun n m => ∃ a b, n < 2 ^ a ∧ m < 2 ^ b ∧ a + b ≤ 134217728) fun n m => .int ((n * m : Nat) : Int)) := opN op_mulX (fun n m ⟨a, b, h1, h2, h3⟩ => mulx_ok (by simpa using h1) (by simpa using h2) h3) fun n m _ => by rw [Int.natCast_mul]
theorem op_xorn : OpR X (binaryOp .BitXor) (rN0 fun n m => .int ((n ^^^ m : Nat) : Int)) := opN0 op_xor fun n m => by rw [Bits.bitXor_pp (by omega) (by omega)]; rfl
theorem op_orn : OpR X (binaryOp .BitOr) (rN0 fun n m => .int ((n ||| m : Nat) : Int)) := opN0 op_or fun n m => by rw [Bits.bitOr_pp (by omega) (by omega)]; rfl
theorem op_andn : OpR X (binaryOp .BitAnd) (rN0 fun n m => .int ((n &&& m : Nat) : Int)) := opN0 op_and fun n m => by rw [bitAnd_pp (by omega) (by omega)]; rfl
/-- n << m: n below 2 ^ a, a + m at most 2 ^ 27 -/
theorem op_shln : OpR X (binaryOp .LShift) (rN (fun n m => ∃ a, n < 2 ^ a ∧ a + m ≤ 134217728) fun n m => .int ((n * 2 ^ m : Nat) : Int)) := opN op_shlW (fun n m ⟨a, h1, h2⟩ => shl_ok (by simpa using h1) h2) fun n m _ => by rw [Int.toNat_natCast, Int.natCast_mul, Int.natCast_pow]; rfl
theorem op_shrn : OpR X (binaryOp .RShift) (rN0 fun n m => .int ((n / 2 ^ m : Nat) : Int)) := by
  intro pins s σ H x y v u Q I rx ry q
  obtain ⟨n, m, rfl, rfl, q⟩ := q
  refine op_shr pins s σ H _ _ v u Q I rx ry ⟨_, _, rfl, rfl, Int.natCast_nonneg _, ?_⟩
  have q : Q (V.int ((n / 2 ^ m : Nat) : Int)) H := q
  rw [Int.natCast_ediv, Int.natCast_pow] at q
  show Q (V.int ((n : Int) / 2 ^ (m : Int).toNat)) H
  rw [Int.toNat_natCast]
  exact q
theorem op_modn : OpR X (binaryOp .Mod) (rN (fun _ m => 0 < m) fun n m => .int ((n % m : Nat) : Int)) := opN op_mod (fun n m c => by omega) fun n m _ => by rw [Int.natCast_emod]
theorem op_fdivn : OpR X (binaryOp .FloorDiv) (rN (fun _ m => 0 < m ∧ m < 1073741824) fun n m => .int ((n / m : Nat) : Int)) := opN op_fdiv (fun n m c => ⟨by omega, by omega⟩) fun n m _ => by rw [Int.natCast_ediv]
theorem dec_cast {p q : Prop} [Decidable p] [Decidable q] (h : p ↔ q) : decide p = decide q := decide_eq_decide.mpr h
theorem op_ltn : OpR X (compareOp .Lt) (rN0 fun n m => .bl (decide (n < m))) := opN0 op_lt fun n m => congrArg V.bl (dec_cast (by omega))
theorem op_len : OpR X (compareOp .LtE) (rN0 fun n m => .bl (decide (n ≤ m))) := opN0 op_le fun n m => congrArg V.bl (dec_cast (by omega))
theorem op_gtn : OpR X (compareOp .Gt) (rN0 fun n m => .bl (decide (m < n))) := opN0 op_gt fun n m => congrArg V.bl (dec_cast (by omega))
theorem op_gen : OpR X (compareOp .GtE) (rN0 fun n m => .bl (decide (m ≤ n))) := opN0 op_ge fun n m => congrArg V.bl (dec_cast (by omega))
theorem v_eq {n m : Nat} : (V.int (n : Int) = V.int (m : Int)) ↔ n = m := ⟨fun h => by injection h with h; omega, fun h => by rw [h]⟩
theorem op_eqn : OpR X (compareOp .Eq) (rN0 fun n m => .bl (decide (n = m))) := by
  intro pins s σ H x y v u Q I rx ry q
  obtain ⟨n, m, rfl, rfl, q⟩ := q
  refine op_eq pins s σ H _ _ v u Q I rx ry ⟨rfl, ?_⟩
  rw [dec_cast v_eq]
  exact q
theorem op_nen : OpR X (compareOp .NotEq) (rN0 fun n m => .bl (!decide (n = m))) := by
  intro pins s σ H x y v u Q I rx ry q
  obtain ⟨n, m, rfl, rfl, q⟩ := q
  refine op_ne pins s σ H _ _ v u Q I rx ry ⟨rfl, ?_⟩
  rw [dec_cast v_eq]
  exact q
/-- ints -/
theorem op_eqi : OpR X (compareOp .Eq) (rI0 fun i j => .bl (decide (i = j))) := by
  intro pins s σ H x y v u Q I rx ry q
  obtain ⟨n, m, rfl, rfl, q⟩ := q
  refine op_eq pins s σ H _ _ v u Q I rx ry ⟨rfl, ?_⟩
  rw [dec_cast (q := n = m) ⟨fun h => by injection h, fun h => by rw [h]⟩]
  exact q
theorem op_nei : OpR X (compareOp .NotEq) (rI0 fun i j => .bl (!decide (i = j))) := by
  intro pins s σ H x y v u Q I rx ry q
  obtain ⟨n, m, rfl, rfl, q⟩ := q
  refine op_ne pins s σ H _ _ v u Q I rx ry ⟨rfl, ?_⟩
  rw [dec_cast (q := n = m) ⟨fun h => by injection h, fun h => by rw [h]⟩]
  exact q
theorem call_maxn (hc : X.calm = true) : CallR X (.builtin "max") (fun xs H Q => ∃ n m : Nat, xs = [.int (n : Int), .int (m : Int)] ∧ Q (.int ((max n m : Nat) : Int)) H) := by
  intro pins s σ H xs us Q I r h
  obtain ⟨n, m, rfl, q⟩ := h
  refine call_max2 hc pins s σ H _ us Q I r ⟨_, _, rfl, ?_⟩
  have e : (if (m : Int) > (n : Int) then (m : Int) else (n : Int)) = ((max n m : Nat) : Int) := by
    split <;> omega
  rw [e]
  exact q
theorem call_minn (hc : X.calm = true) : CallR X (.builtin "min") (fun xs H Q => ∃ n m : Nat, xs = [.int (n : Int), .int (m : Int)] ∧ Q (.int ((min n m : Nat) : Int)) H) := by
  intro pins s σ H xs us Q I r h
  obtain ⟨n, m, rfl, q⟩ := h
  refine call_min2 hc pins s σ H _ us Q I r ⟨_, _, rfl, ?_⟩
  have e : (if (m : Int) < (n : Int) then (m : Int) else (n : Int)) = ((min n m : Nat) : Int) := by
    split <;> omega
  rw [e]
  exact q
end
/-- a state's sentence, not to be looked into by the readings -/
@[irreducible] def Hd (p : Prop) : Prop := p
theorem Hd.mk {p : Prop} (h : p) : Hd p := by unfold Hd; exact h
theorem Hd.out {p : Prop} (h : Hd p) : p := by unfold Hd at h; exact h
/-! ### cuts: what holds behind a statement, a test, an expression, once for all its ways -/
section
variable {X : Cx}
def tCut (t : TS) : TS := fun D σ H => ∃ M : L2.St → Hp → Prop, (∀ σ' H', M σ' H' → D.nx σ' H') ∧ t { nx := M, rt := D.rt, bk := D.bk, ct := D.ct } σ H
theorem ps_cut {st : Stmt} {t : TS} (h : PS X st t) : PS X st (tCut t) := ⟨fun pins s σ H D I ⟨M, hM, q⟩ => thn (h.run pins s σ H _ I q) fun f s' z => by
  cases f with
  | next =>
    obtain ⟨σ', H', I', q'⟩ := z
    exact ⟨σ', H', I', hM _ _ q'⟩
  | brk => exact z
  | cont => exact z
  | ret u => exact z⟩
def tCutT (t : TT) : TT := fun σ H Q => ∃ M : Bool → Hp → Prop, (∀ b H', M b H' → Q b H') ∧ t σ H M
theorem pt_cut {e : Expr} {t : TT} (h : PT X e t) : PT X e (tCutT t) := ⟨fun pins s σ H Q I ⟨M, hM, q⟩ => thn (h.run pins s σ H _ I q) fun b s' ⟨H', I', q'⟩ => ⟨H', I', hM _ _ q'⟩⟩
def tCutE (t : TE) : TE := fun σ H Q => ∃ M : V → Hp → Prop, (∀ v H', M v H' → Q v H') ∧ t σ H M
theorem pe_cut {e : Expr} {t : TE} (h : PE X e t) : PE X e (tCutE t) := ⟨fun pins s σ H Q I ⟨M, hM, q⟩ => thn (h.run pins s σ H _ I q) fun u s' ⟨v, H', I', r, q'⟩ => ⟨v, H', I', r, hM _ _ q'⟩⟩
end
/-! ### tests, loops -/
theorem while_m {c : TT} {tb : TS} {D : Ends} {σ : L2.St} {H : Hp} (W : Nat → L2.St → Hp → Prop) (m : Nat) (h0 : W m σ H)
    (hs : ∀ m σ H, W m σ H → c σ H fun b H1 => if b = true then ∃ N : L2.St → Hp → Prop, (∀ σ' H', N σ' H' → ∃ m', m' < m ∧ W m' σ' H') ∧ tb { D with nx := N, ct := N, bk := D.nx } σ H1 else D.nx σ H1) : tWhile c tb D σ H := ⟨W, ⟨m, h0⟩, hs⟩
theorem ifN {c : Prop} [Decidable c] {A B : Prop} (h1 : c → A) (h2 : ¬ c → B) : if decide c = true then A else B := by
  by_cases h : c
  · rw [if_pos (decide_eq_true h)]; exact h1 h
  · rw [if_neg (by rw [decide_eq_false h]; exact Bool.false_ne_true)]; exact h2 h
theorem ifNn {c : Prop} [Decidable c] {A B : Prop} (h1 : ¬ c → A) (h2 : c → B) : if (!decide c) = true then A else B := by
  by_cases h : c
  · rw [if_neg (by rw [decide_eq_true h]; exact Bool.false_ne_true)]; exact h2 h
  · rw [if_pos (by rw [decide_eq_false h]; rfl)]; exact h1 h
theorem ifB {b : Bool} {A B : Prop} (h1 : b = true → A) (h2 : b = false → B) : if b = true then A else B := by
  cases b
  · rw [if_neg Bool.false_ne_true]; exact h2 rfl
  · rw [if_pos rfl]; exact h1 rfl
/-- the plain readings, one behind another -/
local macro_rules | `(tactic| walk_at "rd") => `(tactic| repeat (first
  | (refine ⟨_, rfl, ?_⟩)
  | (refine ⟨_, _, rfl, rfl, ?_⟩)
  | (refine ⟨rfl, ?_⟩)
  | (refine ⟨(by decide : (0 : Int) < _), ?_⟩)
  | (refine ⟨(⟨by decide, by decide⟩ : CDiv _ _), ?_⟩)
  | (refine ⟨(Or.inr ⟨by decide, by decide⟩ : CMul _ _), ?_⟩)
  | (refine ⟨(Or.inl ⟨by decide, by decide⟩ : CMul _ _), ?_⟩)))
/-! ranges from a natural on -/
theorem for_rangeN {n : Nat} {g : TG} {tb : TS} {D : Ends} {σ : L2.St} {H : Hp} (Pv : Nat → L2.St → Hp → Prop) (h0 : Pv 0 σ H)
    (hs : ∀ i σ H, i < n → Pv i σ H → g (.int (i : Int)) σ H fun σ2 H2 => tb { nx := Pv (i + 1), rt := D.rt, bk := D.nx, ct := Pv (i + 1) } σ2 H2) (hd : ∀ σ H, Pv n σ H → D.nx σ H) :
    ∃ W : Nat → Nat → L2.St → Hp → Prop, (∃ m, W 0 m σ H) ∧ ∀ i m σ H, W i m σ H →
      ((Itr 0 n).stop i H ∧ D.nx σ H) ∨ ((Itr 0 n).go i H ∧ ∃ N : L2.St → Hp → Prop, (∀ σ' H', N σ' H' → ∃ m', m' < m ∧ W (i + 1) m' σ' H') ∧ ∀ x H', (Itr 0 n).yld i H x H' → g x σ H' fun σ2 H2 => tb { D with nx := N, ct := N, bk := D.nx } σ2 H2) :=
  for_range (lo := 0) Pv h0 (fun i σ H hi h => by rw [Int.zero_add]; exact hs i σ H hi h) hd
theorem for_rangeM {lo n : Nat} {g : TG} {tb : TS} {D : Ends} {σ : L2.St} {H : Hp} (Pv : Nat → L2.St → Hp → Prop) (h0 : Pv 0 σ H)
    (hs : ∀ i σ H, i < n → Pv i σ H → g (.int ((lo + i : Nat) : Int)) σ H fun σ2 H2 => tb { nx := Pv (i + 1), rt := D.rt, bk := D.nx, ct := Pv (i + 1) } σ2 H2) (hd : ∀ σ H, Pv n σ H → D.nx σ H) :
    ∃ W : Nat → Nat → L2.St → Hp → Prop, (∃ m, W 0 m σ H) ∧ ∀ i m σ H, W i m σ H →
      ((Itr lo n).stop i H ∧ D.nx σ H) ∨ ((Itr lo n).go i H ∧ ∃ N : L2.St → Hp → Prop, (∀ σ' H', N σ' H' → ∃ m', m' < m ∧ W (i + 1) m' σ' H') ∧ ∀ x H', (Itr lo n).yld i H x H' → g x σ H' fun σ2 H2 => tb { D with nx := N, ct := N, bk := D.nx } σ2 H2) :=
  for_range (lo := (lo : Int)) Pv h0 (fun i σ H hi h => by rw [← Int.natCast_add]; exact hs i σ H hi h) hd
theorem lc_rangeN {n : Nat} {g : TG} {tt : TT} {te : TE} {vs : List Nat} {σ : L2.St} {H1 : Hp} {D : Addr} {Qd : Hp → Prop} (Pv : Nat → Hp → Prop) (h0 : Pv 0 (upd H1 D (.lst [])))
    (hs : ∀ i H, i < n → Pv i H → g (.int (i : Int)) (wipe σ vs) H fun σ2 H2 => wipe σ2 vs = wipe σ vs ∧ tt σ2 H2 fun b H3 =>
      if b = true then te σ2 H3 fun y H4 => ∃ acc, H4 D = some (.lst acc) ∧ acc.length < sizeLine ∧ Pv (i + 1) (upd H4 D (.lst (acc ++ [y]))) else Pv (i + 1) H3) (hd : ∀ H, Pv n H → Qd H) :
    ∃ W : Nat → Nat → Hp → Prop, (∃ m, W 0 m (upd H1 D (.lst []))) ∧ ∀ i m H, W i m H →
      ((Itr 0 n).stop i H ∧ Qd H) ∨ ((Itr 0 n).go i H ∧ ∃ Nx : Hp → Prop, (∀ H', Nx H' → ∃ m', m' < m ∧ W (i + 1) m' H') ∧ ∀ x H', (Itr 0 n).yld i H x H' → g x (wipe σ vs) H' fun σ2 H2 => wipe σ2 vs = wipe σ vs ∧ tt σ2 H2 fun b H3 =>
        if b = true then te σ2 H3 fun y H4 => ∃ acc, H4 D = some (.lst acc) ∧ acc.length < sizeLine ∧ Nx (upd H4 D (.lst (acc ++ [y]))) else Nx H3) :=
  lc_range (lo := 0) Pv h0 (fun i H hi h => by rw [Int.zero_add]; exact hs i H hi h) hd
theorem lc_rangeM {lo n : Nat} {g : TG} {tt : TT} {te : TE} {vs : List Nat} {σ : L2.St} {H1 : Hp} {D : Addr} {Qd : Hp → Prop} (Pv : Nat → Hp → Prop) (h0 : Pv 0 (upd H1 D (.lst [])))
    (hs : ∀ i H, i < n → Pv i H → g (.int ((lo + i : Nat) : Int)) (wipe σ vs) H fun σ2 H2 => wipe σ2 vs = wipe σ vs ∧ tt σ2 H2 fun b H3 =>
      if b = true then te σ2 H3 fun y H4 => ∃ acc, H4 D = some (.lst acc) ∧ acc.length < sizeLine ∧ Pv (i + 1) (upd H4 D (.lst (acc ++ [y]))) else Pv (i + 1) H3) (hd : ∀ H, Pv n H → Qd H) :
    ∃ W : Nat → Nat → Hp → Prop, (∃ m, W 0 m (upd H1 D (.lst []))) ∧ ∀ i m H, W i m H →
      ((Itr lo n).stop i H ∧ Qd H) ∨ ((Itr lo n).go i H ∧ ∃ Nx : Hp → Prop, (∀ H', Nx H' → ∃ m', m' < m ∧ W (i + 1) m' H') ∧ ∀ x H', (Itr lo n).yld i H x H' → g x (wipe σ vs) H' fun σ2 H2 => wipe σ2 vs = wipe σ vs ∧ tt σ2 H2 fun b H3 =>
        if b = true then te σ2 H3 fun y H4 => ∃ acc, H4 D = some (.lst acc) ∧ acc.length < sizeLine ∧ Nx (upd H4 D (.lst (acc ++ [y]))) else Nx H3) :=
  lc_range (lo := (lo : Int)) Pv h0 (fun i H hi h => by rw [← Int.natCast_add]; exact hs i H hi h) hd
theorem Same.upd {H : Hp} {p : Addr} {o : HO} (hp : H p = none) : Same H (upd H p o) := fun a u e => by
  rw [upd_ne (ne_of_none e hp)]
  exact e
theorem Same.put {H H' : Hp} {d : Addr} {o : HO} (s : Same H H') (nd : H d = none) : Same H (L2.upd H' d o) := fun b u e => by
  rw [upd_ne (ne_of_none e nd)]
  exact s b u e
theorem ret_dec {p : Prop} [Decidable p] {Q : VK} {H : Hp} (hp : p) (q : Q (.bl true) H) : Q (.bl (decide p)) H := by
  rw [decide_eq_true hp]
  exact q
/-! ### the law's end, with the numbers' bits -/
theorem walk_ofEB {l : PySem.W.OpenLaw} {n k : Nat} {q : Program} {loose : List Str} {XP : (Str → Option Value) → Heap → Prop} {YP : World → Heap → Prop} {d : DefRec} {CX : CXT} {x : Str}
    (hn : l.most = some n) (hn2 : n ≤ sizeLine) (hdf : d.params.defaults = []) (hr : Room k callerA)
    (F : ∀ (w : World) (mg : Str → Option Value) (fa : Addr) (h : Heap), YP w h → h.Ns mainGlobals mg → mg d.name = some (.ref fa) →
      ∃ (K : PySem.W.Frag) (fd : FuncData) (sp : Sp), K.In h ∧ (∀ (s : Shared) (u : Value), BindsTo s fd ⟨[u], []⟩ [(x, u)]) ∧
        (∀ (H : Hp) (a : Addr) (ns : List Int), ns.length ≤ n → (∀ z ∈ ns, Builtin.Int.intBits z ≤ 1048576) → Only H → SqL K H a (ns.map V.int) → sp [.ref a] H (fun v _ => v = .bl true) fun _ _ _ => False) ∧
        ∀ base : Heap, K.In base → base.Ns mainGlobals mg → FnOk l.prog w K mg base CX k fa fd [x] sp)
    (hCX : ∀ (H : Hp) (s : Shared) (e : Value) (s' : Shared), CX [] H s (fun _ _ _ => False) e s' → False) :
    PySem.W.WalkO q loose XP YP l.row.toRowW d [] (fun f vs => PySem.call f vs) := by
  refine Att.attach_callB hn hdf fun w s₀ s₁ mg mb fa o pm cd doc a vs ns G Y ho hd hcd hmg hobj hints hlen hbits hg => ?_
  obtain ⟨K, fd, sp, KX, hb, hsp, hF⟩ := F w mg fa _ Y G.T.g hmg
  exact law_call KX G.T.g G.T.b G.T.builtins G.T.nolimit hg hobj hints (Nat.le_trans hlen hn2) hr hF hb (fun H hO hS => hsp H a ns hlen hbits hO hS) fun H e s' => hCX H s₁ e s'
/-- the law's promise: a list of at most 63 ints, each of at most 2 ^ 20 bits -/
def spLaw (K : PySem.W.Frag) : Sp := fun vs H Q _ => ∃ (a : Addr) (ns : List Int), vs = [.ref a] ∧ SqL K H a (ns.map V.int) ∧ ns.length ≤ 63 ∧ (∀ z ∈ ns, Builtin.Int.intBits z ≤ 1048576) ∧ ∀ H', Q (.bl true) H'
/-- the law's def: what the end asks of it -/
structure LawOk (l : PySem.W.OpenLaw) (w : World) (K : PySem.W.Frag) (mg : Str → Option Value) (k : Nat) (f : Addr) (x : Str) (fd : FuncData) : Prop where
  bind : ∀ (s : Shared) (u : Value), BindsTo s fd ⟨[u], []⟩ [(x, u)]
  run : ∀ base : Heap, K.In base → base.Ns mainGlobals mg → FnOk l.prog w K mg base CX0 k f fd [x] (few [x] (spLaw K))
end N
set_option Elab.async false
set_option linter.all false
set_option maxRecDepth 100000
set_option maxHeartbeats 4000000
/-! Lists of numbers: compared, sorted. -/
namespace N
open PySem PySem.Spec PyProof.Rows L2
/-- a list of naturals as values -/
def NL (ns : List Nat) : List V := ns.map fun n : Nat => V.int (n : Int)
theorem NL_eq (ns : List Nat) : NL ns = (ns.map fun n : Nat => (n : Int)).map V.int := by
  unfold NL
  rw [List.map_map]
  rfl
theorem NL_length (ns : List Nat) : (NL ns).length = ns.length := List.length_map _
theorem eqvAll_ints : ∀ xs ys : List Int, PyData.eqvAll (xs.map PyData.int) (ys.map PyData.int) = decide (xs = ys)
  | [], [] => rfl
  | [], _ :: _ => rfl
  | _ :: _, [] => rfl
  | x :: xs, y :: ys => by
    show (PyData.eqv (.int x) (.int y) && PyData.eqvAll (xs.map PyData.int) (ys.map PyData.int)) = _
    rw [eqvAll_ints xs ys]
    have e : PyData.eqv (.int x) (.int y) = decide (x = y) := by
      show (x == y) = _
      exact Bool.beq_eq_decide_eq x y
    rw [e]
    by_cases c : x = y <;> by_cases c2 : xs = ys <;> simp [c, c2]
theorem eqv_ints (xs ys : List Int) : PyData.eqv (.list (xs.map PyData.int)) (.list (ys.map PyData.int)) = decide (xs = ys) := eqvAll_ints xs ys
theorem dp_ints {K : PySem.W.Frag} {H : Hp} : ∀ xs : List Int, DpAll K H (xs.map V.int) (xs.map PyData.int)
  | [] => .nil
  | x :: xs => .cons (.int x) (dp_ints xs)
theorem cast_inj : ∀ {ns ms : List Nat}, (ns.map fun n : Nat => (n : Int)) = (ms.map fun n : Nat => (n : Int)) ↔ ns = ms
  | ns, ms => by
    constructor
    · intro h
      have h2 := congrArg (List.map Int.toNat) h
      simpa [List.map_map, Function.comp_def] using h2
    · intro h
      rw [h]
section
variable {X : Cx}
/-- two lists of naturals -/
def rEqLN (K : PySem.W.Frag) (f : Bool → Bool) : R2 := fun x y H Q => ∃ (p q : Addr) (ns ms : List Nat), x = .ref p ∧ y = .ref q ∧ SqL K H p (NL ns) ∧ SqL K H q (NL ms) ∧ Q (.bl (f (decide (ns = ms)))) H
theorem op_eqLN (hu : X.A.units + 64 < cLine) : OpR X (compareOp .Eq) (rEqLN X.K id) := by
  intro pins s σ H x y v u Q I rx ry h
  obtain ⟨p, q, ns, ms, rfl, rfl, h1, h2, k⟩ := h
  rw [NL_eq] at h1 h2
  refine op_eqD hu pins s σ H _ _ v u Q I rx ry ⟨_, _, .lst h1 (dp_ints _), .lst h2 (dp_ints _), PySem.W.ke_shaped_ints _, PySem.W.ke_shaped_ints _, ?_⟩
  rw [eqv_ints, decide_eq_decide.mpr cast_inj]
  exact k
theorem op_neLN (hu : X.A.units + 64 < cLine) : OpR X (compareOp .NotEq) (rEqLN X.K not) := by
  intro pins s σ H x y v u Q I rx ry h
  obtain ⟨p, q, ns, ms, rfl, rfl, h1, h2, k⟩ := h
  rw [NL_eq] at h1 h2
  refine op_neD hu pins s σ H _ _ v u Q I rx ry ⟨_, _, .lst h1 (dp_ints _), .lst h2 (dp_ints _), PySem.W.ke_shaped_ints _, PySem.W.ke_shaped_ints _, ?_⟩
  rw [eqv_ints, decide_eq_decide.mpr cast_inj]
  exact k
theorem perm2 {p q x y : Int} (h : [p, q].Perm [x, y]) : (p = x ∧ q = y) ∨ (p = y ∧ q = x) := by
  have hm : p ∈ [x, y] := h.mem_iff.mp (by simp)
  rcases List.mem_cons.mp hm with e | e
  · subst e
    have h2 := h.cons_inv
    exact .inl ⟨rfl, List.perm_singleton.mp h2 |> fun z => by simpa using z⟩
  · have e : p = y := by simpa using e
    subst e
    have h2 := (h.trans (List.Perm.swap _ _ _)).cons_inv
    exact .inr ⟨rfl, List.perm_singleton.mp h2 |> fun z => by simpa using z⟩
/-- sorted([x, y]) of naturals -/
def rSort2 (K : PySem.W.Frag) : List V → Hp → VK → Prop := fun vs H Q => ∃ (a : Addr) (x y : Nat), vs = [V.ref a] ∧ SqL K H a (NL [x, y]) ∧ ∀ p, H p = none → Q (.ref p) (upd H p (.lst (NL [min x y, max x y])))
theorem cr_sort2 : CallR X (.builtin "sorted") (rSort2 X.K) := by
  intro pins s σ H vs us Q I r h
  obtain ⟨a, x, y, rfl, hs, q⟩ := h
  refine cr_sortedI pins s σ H _ us Q I r ⟨a, [(x : Int), (y : Int)], rfl, hs, fun ns' p perm rise np => ?_⟩
  have hl := perm.length_eq
  match ns', hl with
  | [b, c], _ =>
    have le : b ≤ c := by simpa using rise
    have e : ([b, c] : List Int).map V.int = NL [min x y, max x y] := by
      rcases perm2 perm with ⟨rfl, rfl⟩ | ⟨rfl, rfl⟩
      · have h1 : min x y = x := by omega
        have h2 : max x y = y := by omega
        rw [h1, h2]
        rfl
      · have h1 : min x y = y := by omega
        have h2 : max x y = x := by omega
        rw [h1, h2]
        rfl
    rw [e]
    exact q p np
end
end N
set_option Elab.async false
set_option linter.all false
set_option maxRecDepth 100000
set_option maxHeartbeats 4000000
/-! Objects of one of several classes: methods by the class; lists of lists of numbers. -/
namespace N
open PySem PySem.Spec PyProof.Rows L2
section
variable {P : Program} {w : World} {K : PySem.W.Frag} {mg : Str → Option Value} {base : Heap} {CX : CXT} {ι : Type}
/-- a method m of several classes C i: each keeps its promise -/
structure Disp (P : Program) (w : World) (K : PySem.W.Frag) (mg : Str → Option Value) (base : Heap) (CX : CXT) (k : Nat) (m : Str) (C : ι → Addr) (ok : ι → Prop) (ps : List Str) (sp : ι → Sp) : Prop where
  cls : ∀ i, ok i → Cls K (C i)
  run : ∀ i, ok i → ∃ f, Meth K (C i) m f ∧ Dn P w K mg base CX k f ps (sp i)
theorem Disp.mono {j k : Nat} {m : Str} {C : ι → Addr} {ok : ι → Prop} {ps : List Str} {sp : ι → Sp} (D : Disp P w K mg base CX j m C ok ps sp) (h : j ≤ k) : Disp P w K mg base CX k m C ok ps sp :=
  ⟨D.cls, fun i hi => by
    obtain ⟨f, hm, d⟩ := D.run i hi
    exact ⟨f, hm, d.mono h⟩⟩
end
theorem Disp.calm {P : Program} {w : World} {K : PySem.W.Frag} {mg : Str → Option Value} {base : Heap} {ι : Type} {k : Nat} {m : Str} {C : ι → Addr} {ok : ι → Prop} {ps : List Str} {sp : ι → Sp} (D : Disp P w K mg base (L2.CX P w) k m C ok ps sp) : Disp P w K mg base CX0 k m C ok ps (fun i vs H Q _ => sp i vs H Q E0) :=
  ⟨D.cls, fun i hi => by
    obtain ⟨f, hm, d⟩ := D.run i hi
    exact ⟨f, hm, d.calm⟩⟩
section
variable {X : Cx} {CX : CXT} {k : Nat} {ι : Type} {C : ι → Addr} {ok : ι → Prop} {ps : List Str} {sp : ι → Sp} {E : XK} {m : Str} {pos apos : Pos} {e o : Expr} {es : List Expr} {ta : TE} {t : TA}
/-- o.m(..), o an instance of one of the classes -/
def tMF (C : ι → Addr) (ok : ι → Prop) (m : Str) (ps : List Str) (sp : ι → Sp) (E : XK) (ta : TE) (t : TA) : TE := fun σ H Q => ta σ H fun x H1 => ∃ i a dx fs, ok i ∧ x = .ref a ∧ H1 a = some (.ins (C i) dx fs) ∧ fs.lookup m = none ∧
  t σ H1 fun vs H2 => few ps (sp i) (x :: vs) H2 Q E
theorem pe_mf {pl : Sem Bool} (D : Disp X.prog X.w X.K X.mg X.base CX k m C ok ps sp) (hr : Room k X.A) (hx : Passes CX X E) (he : PE X o ta) (ha : PA X (e :: es) t)
    (hst : starEach (e :: es) X.env = (false, eval e X.env) :: starEach es X.env := by rfl) (hpl : (backTo pos (starEach es X.env)).any (·.1) = false := by rfl)
    (ht : eval (.Call (.Attribute o m apos) (e :: es) [] pos) X.env = (do
      let ov ← eval o X.env
      standAt apos.atName
      let (f, first) ← holding [ov] (getMethod ov m pl)
      callWith pos f first (backTo pos (starEach (e :: es) X.env)) (backToKw pos (keywordEach [] X.env))) := by rfl) :
    PE X (.Call (.Attribute o m apos) (e :: es) [] pos) (tMF C ok m ps sp E ta t) := by
  refine ⟨fun pins s σ H Q I h => ?_⟩
  refine PySem.W.methodCall_KW (pl := pl) (thn (he.run pins s σ H _ I h) fun u s1 ⟨x, H1, I1, rx, i, a, dx, fs, hi, ex, ea, l, q⟩ => ?_) ht
  subst ex
  obtain rfl : u = Value.ref a := rx
  obtain ⟨f, hm, d⟩ := D.run i hi
  obtain ⟨fd, F, b, _⟩ := d.ex
  refine getmeth_ok I1 ea (D.cls i hi) hm l ?_
  refine PySem.W.callWith_K (first := [.ref a]) (h₀ := X.base) I.ok.mod.kin hm.kp (thn (ha.run pos pins s1 σ H1 _ I1 q) fun us s2 ⟨vs, H2, I2, r, q2⟩ => ⟨I2.kIn, ?_⟩) hst hpl
  refine run_fn (us := .ref a :: us) (vs := .ref a :: vs) (ds := []) (dvs := []) F hr b .nil hx I2 (.cons rfl r) ?_
  rw [List.append_nil]
  exact q2
/-- o.m() -/
theorem pe_mf0 {pl : Sem Bool} (D : Disp X.prog X.w X.K X.mg X.base CX k m C ok ps sp) (hr : Room k X.A) (hx : Passes CX X E) (he : PE X o ta)
    (ht : eval (.Call (.Attribute o m apos) [] [] pos) X.env = (do
      let ov ← eval o X.env
      standAt apos.atName
      let (f, first) ← holding [ov] (getMethod ov m pl)
      callWith pos f first (backTo pos (starEach [] X.env)) (backToKw pos (keywordEach [] X.env))) := by rfl) :
    PE X (.Call (.Attribute o m apos) [] [] pos) (tMF C ok m ps sp E ta tNil) := by
  refine ⟨fun pins s σ H Q I h => ?_⟩
  refine PySem.W.methodCall_KW (pl := pl) (thn (he.run pins s σ H _ I h) fun u s1 ⟨x, H1, I1, rx, i, a, dx, fs, hi, ex, ea, l, q⟩ => ?_) ht
  subst ex
  obtain rfl : u = Value.ref a := rx
  obtain ⟨f, hm, d⟩ := D.run i hi
  obtain ⟨fd, F, b, _⟩ := d.ex
  refine getmeth_ok I1 ea (D.cls i hi) hm l ?_
  refine PySem.W.callWith_K0 (first := [.ref a]) I1.kIn hm.kp (run_fn (us := [.ref a]) (vs := [.ref a]) (ds := []) (dvs := []) F hr b .nil hx I1 (.cons rfl .nil) ?_)
  rw [List.append_nil]
  exact q
/-- C(..), by its __init__ -/
def tMk (C : Addr) (ps : List Str) (sp : Sp) (E : XK) (t : TA) : TE := fun σ H Q => t σ H fun vs H1 => ∀ x dx, H1 x = none → H1 dx = none → dx ≠ x →
  few ps sp (.ref x :: vs) (upd (upd H1 dx (.own x)) x (.ins C dx [])) (fun v H2 => v = .non ∧ Q (.ref x) H2) E
theorem pe_mk {C f : Addr} {sp : Sp} {x : Str} {p : Pos} (M : Mk X.K C f) (D : Dn X.prog X.w X.K X.mg X.base CX k f ps sp) (hr : Room (k + 1) X.A) (hm : X.mg x = some (.ref C)) (hx : Passes CX X E) (ha : PA X (e :: es) t) (hg : Gl X x := by rfl)
    (hdb : (x == ("__debug__" : Str)) = false := by decide) (he : starEach (e :: es) X.env = (false, eval e X.env) :: starEach es X.env := by rfl) (hpl : (backTo pos (starEach es X.env)).any (·.1) = false := by rfl) :
    PE X (.Call (.Name x p) (e :: es) [] pos) (tMk C ps sp E t) := by
  obtain ⟨fd, F, b, _⟩ := D.ex
  have h := pe_make (p := p) (pos := pos) (ds := []) (dvs := []) M F hr hg hm b .nil hx ha hdb he hpl
  refine ⟨fun pins s σ H Q I q => h.run pins s σ H Q I ?_⟩
  have e2 : tMake C (few ps sp) [] E t = tMk C ps sp E t := by
    funext σ H Q
    unfold tMake tMk
    simp only [List.append_nil]
  rw [e2]
  exact q
theorem pe_mk0 {C f : Addr} {sp : Sp} {x : Str} {p : Pos} (M : Mk X.K C f) (D : Dn X.prog X.w X.K X.mg X.base CX k f ps sp) (hr : Room (k + 1) X.A) (hm : X.mg x = some (.ref C)) (hx : Passes CX X E) (hg : Gl X x := by rfl)
    (hdb : (x == ("__debug__" : Str)) = false := by decide) : PE X (.Call (.Name x p) [] [] pos) (tMk C ps sp E tNil) := by
  obtain ⟨fd, F, b, _⟩ := D.ex
  exact pe_make0 (ds := []) (dvs := []) M F hr hg hm b .nil hx hdb
end
/-! ### the head's facts, with Bools of one's own -/
abbrev AlQ : Type := He.AlD × Bool
def obsQ (n : Nat) (fa : List He.Fa) (fn : List He.DefD) (fx : List (PySem.W.Frag → Bool)) (g : Addr → Option Obj) : AlQ := (He.obsD fa fn (He.frG g (cStatics :: He.asD g n)), fx.all fun f => f (He.frG g (cStatics :: He.asD g n)))
def hookQ (n : Nat) (fa : List He.Fa) (fn : List He.DefD) (fx : List (PySem.W.Frag → Bool)) : PySem.W.Hook where
  α := AlQ
  obs := fun s => obsQ n fa fn fx s.heap.get?
  val := fun _ => (He.valD fn, true)
  says := fun _ h => ∃ K : PySem.W.Frag, K.In h ∧ He.SaysD fa fn K ∧ (fx.all fun f => f K) = true
  of := fun _ _ e => ⟨_, He.frG_in, congrArg (fun z : AlQ => z.1) e, congrArg (fun z : AlQ => z.2) e⟩
  keeps := fun _ _ _ ⟨K, hK, c⟩ k => ⟨K, PySem.W.Frag.In.keeps hK k, c⟩
theorem obsQ_eq {n : Nat} {fa : List He.Fa} {fn : List He.DefD} {fx : List (PySem.W.Frag → Bool)} {g : Addr → Option Obj} {s : Shared} (h : ∀ a, g a = s.heap.get? a) : obsQ n fa fn fx g = (hookQ n fa fn fx).obs s := by
  have e : g = s.heap.get? := funext h
  rw [e] <;> rfl
theorem fx_at {fx : List (PySem.W.Frag → Bool)} {K : PySem.W.Frag} (c : (fx.all fun f => f K) = true) (i : Nat) {f : PySem.W.Frag → Bool} (h : fx[i]? = some f) : f K = true := List.all_eq_true.mp c f (List.mem_of_getElem? h)
/-! ### a def read off a class: C.m(..) -/
def clsfB (C m : Str) (K : PySem.W.Frag) : Bool := PySem.W.readsIn K (He.ga K C) (.type "type") && (He.eqO (PySem.W.specialIn K (.ref (He.ga K C)) "__getattribute__") (some (some (.builtin "type.__getattribute__"))) && (match PySem.W.findCls K (.ref (He.ga K C)) (.type "type") m with
  | some (.val (.ref f)) => decide (f = He.ma K (He.ga K C) m)
  | _ => false))
structure ClsF (K : PySem.W.Frag) (C : Addr) (m : Str) (f : Addr) : Prop where
  rd : ClX.CRead K C (.type "type")
  at_ : PySem.W.findCls K (.ref C) (.type "type") m = some (.val (.ref f))
theorem clsf_ok {K : PySem.W.Frag} {C m : Str} (h : clsfB C m K = true) : ClsF K (He.ga K C) m (He.ma K (He.ga K C) m) := by
  obtain ⟨h1, h⟩ := He.ba h
  obtain ⟨h2, h3⟩ := He.ba h
  refine ⟨⟨h1, He.eqO_ok h2⟩, ?_⟩
  split at h3
  · rename_i f e
    rw [e, of_decide_eq_true h3]
  · cases h3
section
variable {X : Cx} {CX : CXT} {k : Nat} {C f : Addr} {ps : List Str} {sp : Sp} {E : XK} {m : Str} {pos apos : Pos} {e o : Expr} {es : List Expr} {ta : TE} {t : TA}
def tCF (C : Addr) (ps : List Str) (sp : Sp) (E : XK) (ta : TE) (t : TA) : TE := fun σ H Q => ta σ H fun x H1 => x = .ref C ∧ t σ H1 fun vs H2 => few ps sp vs H2 Q E
theorem pe_clsf {pl : Sem Bool} (c : ClsF X.K C m f) (D : Dn X.prog X.w X.K X.mg X.base CX k f ps sp) (hr : Room k X.A) (hx : Passes CX X E) (he : PE X o ta) (ha : PA X (e :: es) t)
    (hst : starEach (e :: es) X.env = (false, eval e X.env) :: starEach es X.env := by rfl) (hpl : (backTo pos (starEach es X.env)).any (·.1) = false := by rfl)
    (ht : eval (.Call (.Attribute o m apos) (e :: es) [] pos) X.env = (do
      let ov ← eval o X.env
      standAt apos.atName
      let (f, first) ← holding [ov] (getMethod ov m pl)
      callWith pos f first (backTo pos (starEach (e :: es) X.env)) (backToKw pos (keywordEach [] X.env))) := by rfl) :
    PE X (.Call (.Attribute o m apos) (e :: es) [] pos) (tCF C ps sp E ta t) := by
  refine ⟨fun pins s σ H Q I h => ?_⟩
  refine PySem.W.methodCall_KW (pl := pl) (thn (he.run pins s σ H _ I h) fun u s1 ⟨x, H1, I1, rx, ex, q⟩ => ?_) ht
  subst ex
  obtain rfl : u = Value.ref C := rx
  obtain ⟨fd, F, b, _⟩ := D.ex
  refine PySem.W.method_cls I1.kIn c.rd.ga (ClX.getcval_ok (v := .ref f) (u := .ref f) I1 c.rd ⟨c.at_, rfl⟩ fun s' I2 => ?_)
  refine PySem.W.callWith_K (first := []) (h₀ := X.base) I2.ok.mod.kin D.kp (thn (ha.run pos pins s' σ H1 _ I2 q) fun us s2 ⟨vs, H2, I3, r, q2⟩ => ⟨I3.kIn, ?_⟩) hst hpl
  refine run_fn (us := us) (vs := vs) (ds := []) (dvs := []) F hr b .nil hx I3 r ?_
  rw [List.append_nil]
  exact q2
end
/-- a comprehension in a comprehension -/
theorem blk_nest {X : Cx} {s : Shared} {H : Hp} {scope1 scope : Scope} {cl : List (Str × Addr)} {C : Addr} {fp : List Addr} {own : List (Str × Nat)} (h : blkC X.N (relS scope1 X.env.scope) scope own = true) :
    BlkOk (X.blk s H scope1 (compEnvC scope1 cl C X.env) fp).N (X.blk s H scope1 (compEnvC scope1 cl C X.env) fp).env.scope scope own := blkOk_by h
theorem inV_NL (x : Nat) (ns : List Nat) : inV (.int (x : Int)) (NL ns) = decide (x ∈ ns) := by
  induction ns with
  | nil => rfl
  | cons n t ih =>
    show (eqV (V.int (n : Int)) (.int (x : Int)) || inV (.int (x : Int)) (NL t)) = _
    rw [ih]
    have e : eqV (V.int (n : Int)) (.int (x : Int)) = decide (n = x) := by
      show ((n : Int) == (x : Int)) = _
      rw [Bool.beq_eq_decide_eq]
      exact decide_eq_decide.mpr (by omega)
    rw [e]
    by_cases c : n = x <;> by_cases c2 : x ∈ t
    · simp [c]
    · simp [c]
    · simp [c2]
    · have c3 : ¬ x = n := fun e => c e.symm
      simp [c, c2, c3]
theorem flat_NL (ns : List Nat) : (NL ns).all flatV = true := by
  unfold NL
  rw [List.all_map]
  exact List.all_eq_true.mpr fun _ _ => rfl
/-! ### isinstance of own classes -/
structure TyC (K : PySem.W.Frag) (C : Addr) : Prop where
  ha : PySem.W.findIn K (.ref C) "__class__" = some (some (.builtin "object.__class__"))
  hn : PySem.W.specialIn K (.builtin "object.__class__") "__get__" = some (some (.builtin "getset_descriptor.__get__"))
  tk : PySem.W.takesIn K (.builtin "object.__class__") = some true
  mr : PySem.W.mroIn K C (.type "object") = some true
def tyB (C : Str) (K : PySem.W.Frag) : Bool := He.eqO (PySem.W.findIn K (.ref (He.ga K C)) "__class__") (some (some (.builtin "object.__class__"))) && (He.eqO (PySem.W.specialIn K (.builtin "object.__class__") "__get__") (some (some (.builtin "getset_descriptor.__get__"))) &&
  (decide (PySem.W.takesIn K (.builtin "object.__class__") = some true) && decide (PySem.W.mroIn K (He.ga K C) (.type "object") = some true)))
theorem tyc_ok {K : PySem.W.Frag} {C : Str} (h : tyB C K = true) : TyC K (He.ga K C) := by
  obtain ⟨h1, h⟩ := He.ba h
  obtain ⟨h2, h⟩ := He.ba h
  obtain ⟨h3, h4⟩ := He.ba h
  exact ⟨He.eqO_ok h1, He.eqO_ok h2, of_decide_eq_true h3, of_decide_eq_true h4⟩
theorem TyC.ty {K : PySem.W.Frag} {C : Addr} (t : TyC K C) (c : Cls K C) {H : Hp} {a dx : Addr} {fs : List (Str × V)} (e : H a = some (.ins C dx fs)) : TyX K H (.ref a) (.ref C) := .base (.ins e c t.ha t.hn t.tk t.mr)
def kitB2 (C D : Str) (b : Bool) (K : PySem.W.Frag) : Bool := decide (PySem.W.kitOne K (.ref (He.ga K C)) (.ref (He.ga K D)) = some b)
/-! ### built-ins whose readings name the part: by names, so that they fit in a block -/
def rListOf (K : PySem.W.Frag) : List V → Hp → VK → Prop := fun xs H Q => ∃ (p : Addr) (ys : List V), xs = [.ref p] ∧ (SqL K H p ys ∨ SqT K H p ys) ∧ ∀ l, H l = none → Q (.ref l) (upd H l (.lst ys))
theorem cr_listof {X : Cx} : CallR X (.type "list") (rListOf X.K) := call_list_of
def rLenSeq (K : PySem.W.Frag) : List V → Hp → VK → Prop := fun xs H Q => ∃ (p : Addr) (ys : List V), xs = [.ref p] ∧ (SqL K H p ys ∨ SqT K H p ys) ∧ Q (.int ys.length) H
theorem cr_lenseq {X : Cx} : CallR X (.builtin "len") (rLenSeq X.K) := call_len_seq
/-! ### one of two ways -/
def iOr (w1 w2 : TI) : TI := fun σ H R => w1 σ H R ∨ w2 σ H R
theorem pi_or {X : Cx} {tg e : Expr} {w1 w2 : TI} (h1 : PI X tg e w1) (h2 : PI X tg e w2) : PI X tg e (iOr w1 w2) := ⟨fun pins s σ H R I h => h.elim (h1.run pins s σ H R I) (h2.run pins s σ H R I)⟩
/-- a list or a tuple -/
def LT (H : Hp) (a : Addr) (xs : List V) : Prop := H a = some (.lst xs) ∨ H a = some (.tup xs)
theorem LT.same {H H' : Hp} {a : Addr} {xs : List V} (h : LT H a xs) (s : Same H H') : LT H' a xs := h.elim (fun e => .inl (s _ _ e)) fun e => .inr (s _ _ e)
theorem for_lt {K : PySem.W.Frag} {a : Addr} {xs : List V} {g : TG} {tb : TS} {D : Ends} {σ : L2.St} {H : Hp} {j : Nat} (hj : σ[j]? = some (some (.ref a))) (lt : LT H a xs) (Pv : Nat → L2.St → Hp → Prop) (h0 : Pv 0 σ H) (hl : ∀ i σ H', i ≤ xs.length → Pv i σ H' → H' a = H a)
    (hs : ∀ i x σ H, xs[i]? = some x → Pv i σ H → g x σ H fun σ2 H2 => tb { D with nx := Pv (i + 1), ct := Pv (i + 1), bk := D.nx } σ2 H2) (hd : ∀ σ H, Pv xs.length σ H → D.nx σ H) :
    tFor (iOr (iList K (tVar j)) (iTup K (tVar j))) g tb D σ H := by
  rcases lt with e | e
  · exact .inl ⟨_, hj, a, rfl, ⟨_, SqL.of e⟩, for_list Pv h0 (fun i σ H' hi p => SqL.of ((hl i σ H' hi p).trans e)) hs hd⟩
  · exact .inr ⟨_, hj, a, rfl, ⟨_, SqT.of e⟩, for_tup Pv h0 (fun i σ H' hi p => SqT.of ((hl i σ H' hi p).trans e)) hs hd⟩
def tOrE (t1 t2 : TE) : TE := fun σ H Q => t1 σ H Q ∨ t2 σ H Q
theorem pe_alt {X : Cx} {e : Expr} {t1 t2 : TE} (h1 : PE X e t1) (h2 : PE X e t2) : PE X e (tOrE t1 t2) := ⟨fun pins s σ H Q I h => h.elim (h1.run pins s σ H Q I) (h2.run pins s σ H Q I)⟩
theorem none_of_same {H H' : Hp} {a : Addr} (s : Same H H') (n : H' a = none) : H a = none := by
  cases e : H a with
  | none => rfl
  | some o => rw [s _ _ e] at n; cases n
/-! ### lists of lists of naturals -/
structure LLs (H : Hp) (p : Addr) (as : List Addr) (xss : List (List Nat)) : Prop where
  top : H p = some (.lst (as.map V.ref))
  len : as.length = xss.length
  nd : (p :: as).Nodup
  row : ∀ (i : Nat) (a : Addr) (xs : List Nat), as[i]? = some a → xss[i]? = some xs → H a = some (.lst (NL xs))
theorem LLs.keep {H H' : Hp} {p : Addr} {as : List Addr} {xss : List (List Nat)} (h : LLs H p as xss) (k : ∀ b o, (b = p ∨ b ∈ as) → H b = some o → H' b = some o) : LLs H' p as xss :=
  ⟨k _ _ (.inl rfl) h.top, h.len, h.nd, fun i a xs e e2 => k _ _ (.inr (List.mem_of_getElem? e)) (h.row i a xs e e2)⟩
theorem LLs.same {H H' : Hp} {p : Addr} {as : List Addr} {xss : List (List Nat)} (h : LLs H p as xss) (s : Same H H') : LLs H' p as xss := h.keep fun b o _ e => s b o e
/-- the i-th row of a list of lists -/
theorem LLs.item {H : Hp} {p : Addr} {as : List Addr} {xss : List (List Nat)} (h : LLs H p as xss) {i : Nat} {v : V} (hi : (as.map V.ref)[i]? = some v) : ∃ a row, as[i]? = some a ∧ xss[i]? = some row ∧ v = .ref a ∧ H a = some (.lst (NL row)) := by
  rw [List.getElem?_map] at hi
  cases e : as[i]? with
  | none =>
    rw [e] at hi
    cases hi
  | some a =>
    rw [e] at hi
    have hil : i < xss.length := by rw [← h.len]; exact (List.getElem?_eq_some_iff.mp e).1
    exact ⟨a, xss[i], rfl, List.getElem?_eq_getElem hil, (Option.some.inj hi).symm, h.row i a _ e (List.getElem?_eq_getElem hil)⟩
theorem LLs.nil {H : Hp} {p : Addr} (h : H p = some (.lst [])) : LLs H p [] [] := ⟨h, rfl, by simp, fun i a xs e => by cases e⟩
/-- one row more, that stands at a -/
theorem LLs.snoc {H : Hp} {p a : Addr} {as : List Addr} {xss : List (List Nat)} {xs : List Nat} (h : LLs H p as xss) (ha : a ∉ p :: as) (hr : H a = some (.lst (NL xs))) : LLs (upd H p (.lst (as.map V.ref ++ [V.ref a]))) p (as ++ [a]) (xss ++ [xs]) := by
  have hpa : a ≠ p := fun e => ha (e ▸ List.mem_cons_self)
  have hpn : p ∉ as := (List.nodup_cons.mp h.nd).1
  refine ⟨by rw [upd_same, List.map_append]; rfl, by rw [List.length_append, List.length_append, h.len]; rfl, ?_, fun i b ys e e2 => ?_⟩
  · rw [← List.cons_append]
    refine List.nodup_append.mpr ⟨h.nd, by simp, fun x hx y hy => ?_⟩
    rw [List.mem_singleton] at hy
    subst hy
    exact fun e => ha (e ▸ hx)
  · by_cases c : i < as.length
    · rw [List.getElem?_append_left c] at e
      rw [List.getElem?_append_left (by rw [← h.len]; exact c)] at e2
      have hb : b ≠ p := fun z => hpn (z ▸ List.mem_of_getElem? e)
      rw [upd_ne hb]
      exact h.row i b ys e e2
    · rw [List.getElem?_append_right (Nat.le_of_not_lt c)] at e
      rw [List.getElem?_append_right (by rw [← h.len]; exact Nat.le_of_not_lt c), ← h.len] at e2
      have e3 : i - as.length = 0 := by
        have := (List.getElem?_eq_some_iff.mp e).1
        simp only [List.length_singleton] at this
        omega
      rw [e3] at e e2
      obtain rfl : a = b := Option.some.inj e
      obtain rfl : xs = ys := Option.some.inj e2
      rw [upd_ne hpa]
      exact hr
/-! == of them -/
def dI (xs : List Nat) : PyData := .list ((xs.map fun n : Nat => (n : Int)).map PyData.int)
def dLL (xss : List (List Nat)) : PyData := .list (xss.map dI)
theorem eqv_dI (xs ys : List Nat) : PyData.eqv (dI xs) (dI ys) = decide (xs = ys) := by
  unfold dI
  rw [eqv_ints, decide_eq_decide.mpr cast_inj]
theorem eqvAll_dI : ∀ xs ys : List (List Nat), PyData.eqvAll (xs.map dI) (ys.map dI) = decide (xs = ys)
  | [], [] => rfl
  | [], _ :: _ => rfl
  | _ :: _, [] => rfl
  | x :: xs, y :: ys => by
    show (PyData.eqv (dI x) (dI y) && PyData.eqvAll (xs.map dI) (ys.map dI)) = _
    rw [eqvAll_dI xs ys, eqv_dI]
    by_cases c : x = y <;> by_cases c2 : xs = ys <;> simp [c, c2]
theorem eqv_dLL (xs ys : List (List Nat)) : PyData.eqv (dLL xs) (dLL ys) = decide (xs = ys) := eqvAll_dI xs ys
theorem can_dI (xs : List Nat) : PyData.canLay0 (dI xs) = true := SeqAt.canLay_of_shaped (PySem.W.ke_shaped_ints _)
theorem can_dIs : ∀ xss : List (List Nat), PyData.canLayAll0 (xss.map dI) = true
  | [] => rfl
  | x :: r => by
    show (PyData.canLay0 (dI x) && PyData.canLayAll0 (r.map dI)) = true
    rw [can_dI, can_dIs r]
    rfl
theorem depth_dI (xs : List Nat) : PyData.depth (dI xs) ≤ 1 := by
  unfold dI
  generalize (xs.map fun n : Nat => (n : Int)) = l
  simp [PyData.depth, PySem.W.ke_depthAll]
theorem depth_dIs : ∀ xss : List (List Nat), PyData.depthAll (xss.map dI) ≤ 1
  | [] => Nat.zero_le _
  | x :: r => by
    have h1 := depth_dI x
    have h2 := depth_dIs r
    simp only [List.map_cons, PyData.depthAll]
    omega
theorem shaped_dLL (xss : List (List Nat)) : SeqAt.shaped (dLL xss) = true := by
  have h1 := can_dIs xss
  have h2 := depth_dIs xss
  unfold dLL SeqAt.shaped
  simp only [PyData.canLay0, PyData.depth, h1, Bool.true_and]
  exact decide_eq_true (by omega)
theorem dp_rows {K : PySem.W.Frag} {H : Hp} : ∀ (as : List Addr) (xss : List (List Nat)), as.length = xss.length → (∀ (i : Nat) (a : Addr) (xs : List Nat), as[i]? = some a → xss[i]? = some xs → H a = some (.lst (NL xs))) → DpAll K H (as.map V.ref) (xss.map dI)
  | [], [], _, _ => .nil
  | a :: as, x :: xss, h, f => by
    have e := f 0 a x rfl rfl
    rw [NL_eq] at e
    exact .cons (.lst (SqL.of e) (dp_ints _)) (dp_rows as xss (Nat.succ.inj h) fun i b ys e1 e2 => f (i + 1) b ys e1 e2)
theorem LLs.dp {K : PySem.W.Frag} {H : Hp} {p : Addr} {as : List Addr} {xss : List (List Nat)} (h : LLs H p as xss) : Dp K H (.ref p) (dLL xss) := .lst (SqL.of h.top) (dp_rows as xss h.len h.row)
section
variable {X : Cx}
def rEqLL (f : Bool → Bool) : R2 := fun x y H Q => ∃ (p q : Addr) (as bs : List Addr) (xss yss : List (List Nat)), x = .ref p ∧ y = .ref q ∧ LLs H p as xss ∧ LLs H q bs yss ∧ Q (.bl (f (decide (xss = yss)))) H
theorem op_eqLL (hu : X.A.units + 64 < cLine) : OpR X (compareOp .Eq) (rEqLL id) := by
  intro pins s σ H x y v u Q I rx ry h
  obtain ⟨p, q, as, bs, xss, yss, rfl, rfl, h1, h2, k⟩ := h
  refine op_eqD hu pins s σ H _ _ v u Q I rx ry ⟨_, _, h1.dp, h2.dp, shaped_dLL _, shaped_dLL _, ?_⟩
  rw [eqv_dLL]
  exact k
theorem op_neLL (hu : X.A.units + 64 < cLine) : OpR X (compareOp .NotEq) (rEqLL not) := by
  intro pins s σ H x y v u Q I rx ry h
  obtain ⟨p, q, as, bs, xss, yss, rfl, rfl, h1, h2, k⟩ := h
  refine op_neD hu pins s σ H _ _ v u Q I rx ry ⟨_, _, h1.dp, h2.dp, shaped_dLL _, shaped_dLL _, ?_⟩
  rw [eqv_dLL]
  exact k
end
/-! a new list of new lists, as it is made -/
structure Bld (H0 H : Hp) (D : Addr) (as : List Addr) (xss : List (List Nat)) : Prop where
  ll : LLs H D as xss
  same : Same H0 H
  nD : H0 D = none
  nas : ∀ a ∈ as, H0 a = none
theorem Bld.nil {H0 H : Hp} {D : Addr} (s : Same H0 H) (n : H D = none) : Bld H0 (upd H D (.lst [])) D [] [] := ⟨.nil upd_same, s.trans (Same.upd n), s.free n, fun a h => by cases h⟩
/-- what stood stands on -/
theorem Bld.same' {H0 H H' : Hp} {D : Addr} {as : List Addr} {xss : List (List Nat)} (b : Bld H0 H D as xss) (s : Same H H') : Bld H0 H' D as xss := ⟨b.ll.same s, b.same.trans s, b.nD, b.nas⟩
/-- from H to H' nothing that stood is changed, and a row stands at the new a -/
theorem Bld.snoc {H0 H H' : Hp} {D a : Addr} {as : List Addr} {xss : List (List Nat)} {xs : List Nat} (b : Bld H0 H D as xss) (s : Same H H') (na : H a = none) (ha : H' a = some (.lst (NL xs))) : Bld H0 (upd H' D (.lst (as.map V.ref ++ [V.ref a]))) D (as ++ [a]) (xss ++ [xs]) := by
  have hm : a ∉ D :: as := fun h => by
    rcases List.mem_cons.mp h with e | h
    · have := b.ll.top
      rw [← e, na] at this
      cases this
    · obtain ⟨i, hi, e⟩ := List.getElem_of_mem h
      have e2 : as[i]? = some a := by rw [List.getElem?_eq_getElem hi, e]
      have hx : i < xss.length := by rw [← b.ll.len]; exact hi
      have := b.ll.row i a _ e2 (List.getElem?_eq_getElem hx)
      rw [na] at this
      cases this
  refine ⟨(b.ll.same s).snoc hm ha, N.Same.put (b.same.trans s) b.nD, b.nD, fun c hc => ?_⟩
  rcases List.mem_append.mp hc with hc | hc
  · exact b.nas c hc
  · rw [List.mem_singleton] at hc
    rw [hc]
    exact b.same.free na
theorem Bld.app {H0 H H' : Hp} {D L : Addr} {as cs : List Addr} {xss yss : List (List Nat)} (b : Bld H0 H D as xss) (s : Same H H') (ll : LLs H' L cs yss) (nc : ∀ c ∈ cs, H c = none) : Bld H0 (upd H' D (.lst (as.map V.ref ++ cs.map V.ref))) D (as ++ cs) (xss ++ yss) := by
  have old : ∀ a, a ∈ D :: as → ∃ o, H a = some o := fun a ha => by
    rcases List.mem_cons.mp ha with e | ha
    · exact ⟨_, e ▸ b.ll.top⟩
    · obtain ⟨i, hi, e⟩ := List.getElem_of_mem ha
      have e2 : as[i]? = some a := by rw [List.getElem?_eq_getElem hi, e]
      exact ⟨_, b.ll.row i a _ e2 (List.getElem?_eq_getElem (by rw [← b.ll.len]; exact hi))⟩
  have dis : ∀ c ∈ cs, c ∉ D :: as := fun c hc h => by
    obtain ⟨o, e⟩ := old c h
    rw [nc c hc] at e
    cases e
  have hD : D ∉ as := (List.nodup_cons.mp b.ll.nd).1
  refine ⟨⟨by rw [upd_same, List.map_append], by rw [List.length_append, List.length_append, b.ll.len, ll.len], ?_, fun i a xs e e2 => ?_⟩, N.Same.put (b.same.trans s) b.nD, b.nD, fun c hc => ?_⟩
  · rw [← List.cons_append]
    exact List.nodup_append.mpr ⟨b.ll.nd, (List.nodup_cons.mp ll.nd).2, fun x hx y hy e => dis y hy (e ▸ hx)⟩
  · by_cases c : i < as.length
    · rw [List.getElem?_append_left c] at e
      rw [List.getElem?_append_left (by rw [← b.ll.len]; exact c)] at e2
      rw [upd_ne (fun z : a = D => hD (z ▸ List.mem_of_getElem? e))]
      exact s _ _ (b.ll.row i a xs e e2)
    · rw [List.getElem?_append_right (Nat.le_of_not_lt c)] at e
      rw [List.getElem?_append_right (by rw [← b.ll.len]; exact Nat.le_of_not_lt c), ← b.ll.len] at e2
      rw [upd_ne (fun z : a = D => dis a (List.mem_of_getElem? e) (z ▸ List.mem_cons_self))]
      exact ll.row _ a xs e e2
  · rcases List.mem_append.mp hc with hc | hc
    · exact b.nas c hc
    · exact b.same.free (nc c hc)
/-- from earlier on -/
theorem Bld.since {H0 H H' : Hp} {D : Addr} {as : List Addr} {xss : List (List Nat)} (b : Bld H H' D as xss) (s : Same H0 H) : Bld H0 H' D as xss := ⟨b.ll, s.trans b.same, none_of_same s b.nD, fun a ha => none_of_same s (b.nas a ha)⟩
/-- two such lists, put together: a new one -/
theorem Bld.cat {H0 H H2 : Hp} {D E p : Addr} {as bs : List Addr} {xss yss : List (List Nat)} (b1 : Bld H0 H D as xss) (b2 : Bld H H2 E bs yss) (np : H2 p = none) : Bld H0 (upd H2 p (.lst (as.map V.ref ++ bs.map V.ref))) p (as ++ bs) (xss ++ yss) := by
  have old : ∀ a ∈ as, ∃ o, H a = some o := fun a ha => by
    obtain ⟨i, hi, e⟩ := List.getElem_of_mem ha
    have e2 : as[i]? = some a := by rw [List.getElem?_eq_getElem hi, e]
    exact ⟨_, b1.ll.row i a _ e2 (List.getElem?_eq_getElem (by rw [← b1.ll.len]; exact hi))⟩
  have new : ∀ a ∈ bs, ∃ o, H2 a = some o := fun a ha => by
    obtain ⟨i, hi, e⟩ := List.getElem_of_mem ha
    have e2 : bs[i]? = some a := by rw [List.getElem?_eq_getElem hi, e]
    exact ⟨_, b2.ll.row i a _ e2 (List.getElem?_eq_getElem (by rw [← b2.ll.len]; exact hi))⟩
  have dis : ∀ c ∈ bs, c ∉ as := fun c hc h => by
    obtain ⟨o, e⟩ := old c h
    rw [b2.nas c hc] at e
    cases e
  have p1 : p ∉ as := fun h => by
    obtain ⟨o, e⟩ := old p h
    rw [b2.same _ _ e] at np
    cases np
  have p2 : p ∉ bs := fun h => by
    obtain ⟨o, e⟩ := new p h
    rw [e] at np
    cases np
  have sm := b1.same.trans b2.same
  refine ⟨⟨by rw [upd_same, List.map_append], by rw [List.length_append, List.length_append, b1.ll.len, b2.ll.len], ?_, fun i a xs e e2 => ?_⟩, sm.trans (Same.upd np), none_of_same sm np, fun c hc => ?_⟩
  · refine List.nodup_cons.mpr ⟨fun h => (List.mem_append.mp h).elim p1 p2, ?_⟩
    exact List.nodup_append.mpr ⟨(List.nodup_cons.mp b1.ll.nd).2, (List.nodup_cons.mp b2.ll.nd).2, fun x hx y hy e => dis y hy (e ▸ hx)⟩
  · by_cases c : i < as.length
    · rw [List.getElem?_append_left c] at e
      rw [List.getElem?_append_left (by rw [← b1.ll.len]; exact c)] at e2
      rw [upd_ne (fun z : a = p => p1 (z ▸ List.mem_of_getElem? e))]
      exact b2.same _ _ (b1.ll.row i a xs e e2)
    · rw [List.getElem?_append_right (Nat.le_of_not_lt c)] at e
      rw [List.getElem?_append_right (by rw [← b1.ll.len]; exact Nat.le_of_not_lt c), ← b1.ll.len] at e2
      rw [upd_ne (fun z : a = p => p2 (z ▸ List.mem_of_getElem? e))]
      exact b2.ll.row _ a xs e e2
  · rcases List.mem_append.mp hc with hc | hc
    · exact b1.nas c hc
    · exact none_of_same b1.same (b2.nas c hc)
end N
set_option linter.all false
/-! Games by turns: leads of each kind, numbers by the least that lacks. Plain Lean. -/
namespace Gm
/-- the least natural that is not in xs, looked for from n on, at most f steps -/
def mexA (xs : List Nat) : Nat → Nat → Nat
  | 0, n => n
  | f + 1, n => if n ∈ xs then mexA xs f (n + 1) else n
def mex (xs : List Nat) : Nat := mexA xs (xs.length + 1) 0
def IsMex (xs : List Nat) (m : Nat) : Prop := m ∉ xs ∧ ∀ k, k < m → k ∈ xs
theorem IsMex.uniq {xs : List Nat} {m n : Nat} (h : IsMex xs m) (h' : IsMex xs n) : m = n := by
  rcases Nat.lt_trichotomy m n with c | c | c
  · exact absurd (h'.2 m c) h.1
  · exact c
  · exact absurd (h.2 n c) h'.1
theorem all_le : ∀ (k : Nat) (xs : List Nat), (∀ m, m < k → m ∈ xs) → k ≤ xs.length
  | 0, _, _ => Nat.zero_le _
  | k + 1, xs, h => by
    have hk : k ∈ xs := h k (Nat.lt_succ_self k)
    have ih := all_le k (xs.erase k) fun m hm => (List.mem_erase_of_ne (by omega)).mpr (h m (by omega))
    rw [List.length_erase_of_mem hk] at ih
    have : 0 < xs.length := List.length_pos_of_mem hk
    omega
theorem mexA_ok (xs : List Nat) : ∀ f n, (∀ k, k < n → k ∈ xs) → xs.length < f + n → IsMex xs (mexA xs f n)
  | 0, n, h, hl => absurd (all_le n xs h) (by omega)
  | f + 1, n, h, hl => by
    unfold mexA
    split
    · rename_i c
      refine mexA_ok xs f (n + 1) (fun k hk => ?_) (by omega)
      by_cases e : k = n
      · rw [e]; exact c
      · exact h k (by omega)
    · rename_i c
      exact ⟨c, h⟩
theorem mex_ok (xs : List Nat) : IsMex xs (mex xs) := mexA_ok xs _ 0 (fun k h => absurd h (Nat.not_lt_zero k)) (by omega)
theorem mex_eq {xs : List Nat} {m : Nat} (h : IsMex xs m) : mex xs = m := (mex_ok xs).uniq h
theorem mex_le (xs : List Nat) : mex xs ≤ xs.length := all_le _ _ (mex_ok xs).2
/-- the sum of the numbers of a lead's places -/
def xs (ns : List Nat) (lead : List Nat) : Nat := lead.foldl (fun f p => f ^^^ ns.getD p 0) 0
/-- the numbers of n places from 0 on -/
def nums (L : Nat → List (List Nat)) : Nat → List Nat
  | 0 => []
  | n + 1 => nums L n ++ [mex ((L n).map (xs (nums L n)))]
def num (L : Nat → List (List Nat)) (p : Nat) : Nat := mex ((L p).map (xs (nums L p)))
def Lesser (L : Nat → List (List Nat)) : Prop := ∀ p lead, lead ∈ L p → ∀ q ∈ lead, q < p
theorem nums_length (L : Nat → List (List Nat)) : ∀ n, (nums L n).length = n
  | 0 => rfl
  | n + 1 => by
    unfold nums
    rw [List.length_append, nums_length L n]
    rfl
theorem nums_succ (L : Nat → List (List Nat)) (n : Nat) : nums L (n + 1) = nums L n ++ [num L n] := rfl
theorem nums_at (L : Nat → List (List Nat)) {p : Nat} : ∀ {n}, p < n → (nums L n)[p]? = some (num L p)
  | n + 1, h => by
    rw [nums_succ]
    by_cases e : p = n
    · subst e
      rw [List.getElem?_append_right (by rw [nums_length]; exact Nat.le_refl _), nums_length, Nat.sub_self]
      rfl
    · rw [List.getElem?_append_left (by rw [nums_length]; omega)]
      exact nums_at L (by omega)
theorem nums_getD (L : Nat → List (List Nat)) {p n : Nat} (h : p < n) : (nums L n).getD p 0 = num L p := by
  rw [List.getD_eq_getElem?_getD, nums_at L h]
  rfl
theorem nums_map (L : Nat → List (List Nat)) : ∀ n, nums L n = (List.range n).map (num L)
  | 0 => rfl
  | n + 1 => by
    rw [nums_succ, nums_map L n, List.range_succ, List.map_append]
    rfl
theorem foldl_congr' {α β : Type} {f g : α → β → α} : ∀ (l : List β) (a : α), (∀ b ∈ l, ∀ a, f a b = g a b) → l.foldl f a = l.foldl g a
  | [], _, _ => rfl
  | b :: l, a, h => by
    rw [List.foldl_cons, List.foldl_cons, h b List.mem_cons_self]
    exact foldl_congr' l _ fun c hc => h c (List.mem_cons_of_mem _ hc)
/-- the sum over the numbers themselves -/
def sumN (L : Nat → List (List Nat)) (lead : List Nat) : Nat := lead.foldl (fun f p => f ^^^ num L p) 0
theorem xs_sumN {L : Nat → List (List Nat)} {n : Nat} {lead : List Nat} (h : ∀ q ∈ lead, q < n) : xs (nums L n) lead = sumN L lead :=
  foldl_congr' lead 0 fun q hq a => by rw [nums_getD L (h q hq)]
theorem num_eq {L : Nat → List (List Nat)} (hL : Lesser L) (p : Nat) : num L p = mex ((L p).map (sumN L)) := by
  unfold num
  congr 1
  exact List.map_congr_left fun lead hl => xs_sumN (hL p lead hl)
/-! ### the kinds -/
def rests (ls : List Nat) (p : Nat) : List Nat := (ls.reverse.filter (· ≤ p)).map (p - ·)
def first (row : List Nat) : Nat := if row.isEmpty then 0 else row.getLastD 0 + 1
def longer (rows : List (List Nat)) (p : Nat) : List (List Nat) := rows.flatMap fun row => (List.range' (first row) (p - first row)).map fun o => row ++ [o]
inductive Kind where
  | still | heap | taking (ls : List Nat) | skittles (ls : List Nat) | parting | runs | pairs | few (m : Nat) | told (rows : List (List (List Nat)))
def fewN (p : Nat) : Nat → List (List Nat)
  | 0 => [[]]
  | n + 1 => longer (fewN p n) p
def fewAll (p : Nat) : Nat → List (List Nat)
  | 0 => [[]]
  | n + 1 => fewAll p n ++ fewN p (n + 1)
def Kind.L : Kind → Nat → List (List Nat)
  | .still, _ => []
  | .heap, p => (List.range p).map fun r => [r]
  | .taking ls, p => (rests ls p).map fun r => [r]
  | .skittles ls, p => (rests ls p).flatMap fun r => (List.range (r / 2 + 1)).map fun q => [q, r - q]
  | .parting, p => (List.range' 1 ((p + 1) / 2 - 1)).map fun q => [q, p - q]
  | .runs, p => (List.range (p + 1)).map fun i => List.range' (p - i) i
  | .pairs, p => (List.range p).map fun r => [r]
  | .few m, p => fewAll p (m - 1)
  | .told rows, p => rows.getD p []
/-- limits: rising, from 1 to 12, one at least -/
def Rising : List Nat → Prop := fun ls => ls ≠ [] ∧ ls.Pairwise (· < ·) ∧ ∀ l ∈ ls, 1 ≤ l ∧ l ≤ 12
theorem pw_len : ∀ (ls : List Nat) (a b : Nat), ls.Pairwise (· < ·) → (∀ l ∈ ls, a < l ∧ l ≤ b) → a ≤ b → ls.length + a ≤ b
  | [], a, b, _, _, h => by simpa using h
  | l :: r, a, b, p, h, _ => by
    have h1 := h l List.mem_cons_self
    have h2 := pw_len r l b (List.pairwise_cons.mp p).2 (fun m hm => ⟨(List.pairwise_cons.mp p).1 m hm, (h m (List.mem_cons_of_mem _ hm)).2⟩) h1.2
    rw [List.length_cons]
    omega
theorem Rising.len {ls : List Nat} (h : Rising ls) : ls.length ≤ 12 := by
  have := pw_len ls 0 12 h.2.1 (fun l hl => ⟨(h.2.2 l hl).1, (h.2.2 l hl).2⟩) (by omega)
  omega
/-- what tells a game -/
def Kind.Ok : Kind → Prop
  | .taking ls => Rising ls
  | .skittles ls => Rising ls
  | .few m => 1 ≤ m ∧ m ≤ 3
  | .told rows => rows.length ≤ 101 ∧ ∀ (p : Nat) (leads : List (List Nat)), rows[p]? = some leads → ∀ lead ∈ leads, ∀ q ∈ lead, q < p
  | _ => True
/-- how many places it has -/
def Kind.top : Kind → Nat
  | .told rows => rows.length
  | _ => 101
theorem rests_lt {ls : List Nat} (h : Rising ls) {p r : Nat} (hr : r ∈ rests ls p) : r < p := by
  unfold rests at hr
  obtain ⟨l, hl, rfl⟩ := List.mem_map.mp hr
  rw [List.mem_filter, List.mem_reverse] at hl
  have h1 := (h.2.2 l hl.1).1
  have h2 : l ≤ p := of_decide_eq_true hl.2
  omega
theorem longer_lt {rows : List (List Nat)} {p : Nat} (h : ∀ row ∈ rows, ∀ q ∈ row, q < p) : ∀ row ∈ longer rows p, ∀ q ∈ row, q < p := by
  intro row hr q hq
  unfold longer at hr
  obtain ⟨r0, h0, h1⟩ := List.mem_flatMap.mp hr
  obtain ⟨o, ho, rfl⟩ := List.mem_map.mp h1
  rcases List.mem_append.mp hq with hq | hq
  · exact h r0 h0 q hq
  · rw [List.mem_singleton] at hq
    rw [List.mem_range'_1] at ho
    omega
theorem fewN_lt (p : Nat) : ∀ n, ∀ row ∈ fewN p n, ∀ q ∈ row, q < p
  | 0, row, h, q, hq => by
    have h : row ∈ [[]] := h
    rw [List.mem_singleton] at h
    rw [h] at hq
    cases hq
  | n + 1, row, h, q, hq => longer_lt (fewN_lt p n) row h q hq
theorem fewAll_lt (p : Nat) : ∀ n, ∀ row ∈ fewAll p n, ∀ q ∈ row, q < p
  | 0, row, h, q, hq => fewN_lt p 0 row h q hq
  | n + 1, row, h, q, hq => by
    rcases List.mem_append.mp (show row ∈ fewAll p n ++ fewN p (n + 1) from h) with h | h
    · exact fewAll_lt p n row h q hq
    · exact fewN_lt p (n + 1) row h q hq
theorem Kind.lesser : ∀ {k : Kind}, k.Ok → Lesser k.L
  | .still, _, p, lead, h, q, hq => by cases h
  | .heap, _, p, lead, h, q, hq => by
    obtain ⟨r, hr, rfl⟩ := List.mem_map.mp h
    rw [List.mem_singleton] at hq
    rw [hq]
    exact List.mem_range.mp hr
  | .taking ls, ok, p, lead, h, q, hq => by
    obtain ⟨r, hr, rfl⟩ := List.mem_map.mp h
    rw [List.mem_singleton] at hq
    rw [hq]
    exact rests_lt ok hr
  | .skittles ls, ok, p, lead, h, q, hq => by
    obtain ⟨r, hr, h1⟩ := List.mem_flatMap.mp h
    obtain ⟨o, ho, rfl⟩ := List.mem_map.mp h1
    have h2 := rests_lt ok hr
    have h3 := List.mem_range.mp ho
    simp only [List.mem_cons, List.not_mem_nil, or_false] at hq
    rcases hq with rfl | rfl <;> omega
  | .parting, _, p, lead, h, q, hq => by
    obtain ⟨o, ho, rfl⟩ := List.mem_map.mp h
    rw [List.mem_range'_1] at ho
    simp only [List.mem_cons, List.not_mem_nil, or_false] at hq
    rcases hq with rfl | rfl <;> omega
  | .runs, _, p, lead, h, q, hq => by
    obtain ⟨i, hi, rfl⟩ := List.mem_map.mp h
    rw [List.mem_range] at hi
    rw [List.mem_range'_1] at hq
    omega
  | .pairs, _, p, lead, h, q, hq => by
    obtain ⟨r, hr, rfl⟩ := List.mem_map.mp h
    rw [List.mem_singleton] at hq
    rw [hq]
    exact List.mem_range.mp hr
  | .few m, _, p, lead, h, q, hq => fewAll_lt p (m - 1) lead h q hq
  | .told rows, ok, p, lead, h, q, hq => by
    have h : lead ∈ rows.getD p [] := h
    cases e : rows[p]? with
    | none =>
      rw [List.getD_eq_getElem?_getD, e] at h
      cases h
    | some leads =>
      rw [List.getD_eq_getElem?_getD, e] at h
      exact ok.2 p leads e lead h q hq
end Gm
set_option Elab.async false
set_option linter.all false
set_option maxRecDepth 100000
set_option maxHeartbeats 4000000
/-! A comprehension whose element may raise, out of the def around. -/
namespace N
open PySem PySem.Spec PyProof.Rows L2
section
variable {M : Model} {A : Around} {E : Value → Shared → Prop} {s : Shared} {env : Env}
/-- behind the block: as the library says it, but of an error's way with the frame told -/
def postX (M : Model) (A : Around) (E : Value → Shared → Prop) (use : Option (Value → Sem Unit)) (Qf : Value → Shared → Prop) (acc : Value) (C : Addr) (fr : Option Addr) (r : Result) (t : Shared) : Prop :=
  match r with
  | .ok f => compPost M A E use Qf acc C (.ok f) t
  | .error u => ∃ m, t.heap.Ns C m ∧
      ∀ hz, Heap.SameBut C t.heap hz →
        ∀ ev : Env, ev.locals = C → ev.frame = fr →
          wpAny M A (passOn "comprehension.variables-let-go" u ev : Sem Value) (fun _ _ => False) E { t with heap := hz }
theorem compX {ex : Expr} {sc : Scope} {ps : Pos} {mk fst : Sem Value} {g0 : Comprehension} {gs : List Comprehension} {cls : List (Str × Addr)} {use : Option (Value → Sem Unit)} {Qf : Value → Shared → Prop}
    (h1 : clausesOf ex = g0 :: gs) (h2 : ∀ x, foldedSetIterable g0.iter env x = pure x) (h3 : closureFor sc env = pure cls) (h4 : sc.kind = .function)
    (h5 : ∀ x ∈ sc.names, x.2 = .local → sc.names.lookup x.1 = some .local)
    (h6 : wpAny M A fst (fun x t1 => wpAny M A (pyIter x) (fun it t2 => wpAny M A mk (fun acc t3 =>
      wpAny M A (newFunctionEnv sc env.globals cls [] env.qual none .none (some env)) (fun cv t4 =>
        codeAny M A (.compStart ex 0 it acc { cv with scope := relabel sc env }) (postX M A E use Qf acc cv.locals cv.frame) t4) E t3) E t2) E t1) E s) :
    wpAny M A (comprehension ex sc env ps mk false fst use) Qf E s := by
  unfold comprehension
  rw [h3, h1]
  refine wpAny_bind (wpAny_mono h6 (fun x t1 k1 => ?_) fun _ _ z => z)
  refine wpAny_bind (wpAny_standAt (wpAny_bind (wpAny_of_eq (h2 x) ?_)))
  refine wpAny_bind (wpAny_holding (wpAny_mono k1 (fun it t2 k2 => ?_) fun _ _ z => z))
  refine wpAny_standIf (wpAny_bind (wpAny_mono k2 (fun acc t3 k3 => ?_) fun _ _ z => z))
  refine wpAny_bind (wpAny_pure (wpAny_bind (wpAny_mono k3 (fun cv t4 k4 => ?_) fun _ _ z => z)))
  dsimp only
  have v1 : ∀ x ∈ (sc.names.filter fun x => (x.2 == .local || x.2 == .cell) && x.1 != (".0" : Str)).reverse, x.2 = .local →
      Env.kindOf { cv with scope := relabel sc env } x.1 = some .local :=
    fun x hm hk => lookup_relabel_local (h5 x (List.mem_filter.mp (List.mem_reverse.mp hm)).1 hk)
  refine wpAny_holding (wpAny_bind (wpAny_attempt (wpAny_holding (wpAny_run (codeAny_mono k4 fun r t hr => ?_)))))
  cases r with
  | ok f =>
    cases use with
    | none =>
      obtain ⟨m, km, kq⟩ := hr
      refine wpAny_bind (wpAny_holding (wpAny_comp_letGo (cenv := { cv with scope := relabel sc env }) h4 _ t m v1 km fun hz _ _ sb => ?_))
      exact wpAny_pure (kq hz sb)
    | some u =>
      refine wpAny_bind (wpAny_rule (wpAny_bind (wpAny_holding (wpAny_mono hr (fun _ t' kt => ?_) fun _ _ z => z))))
      obtain ⟨m, km, kq⟩ := kt
      refine wpAny_bind (wpAny_comp_letGo (cenv := { cv with scope := relabel sc env }) h4 _ t' m (fun x hm hk => ?_) km fun hz _ _ sb => ?_)
      · rcases List.mem_append.mp hm with z | z
        · exact v1 x (List.mem_of_mem_drop z) hk
        · exact v1 x (List.mem_of_mem_take z) hk
      · exact wpAny_pure (kq hz sb)
  | error u =>
    obtain ⟨m, km, kq⟩ := (show ∃ m, t.heap.Ns cv.locals m ∧ ∀ hz, Heap.SameBut cv.locals t.heap hz → ∀ ev : Env, ev.locals = cv.locals → ev.frame = cv.frame →
      wpAny M A (passOn "comprehension.variables-let-go" u ev : Sem Value) (fun _ _ => False) E { t with heap := hz } from by cases use <;> exact hr)
    refine wpAny_bind (wpAny_holding (wpAny_comp_letGo (cenv := { cv with scope := relabel sc env }) h4 _ t m v1 km fun hz _ _ sb => ?_))
    exact wpAny_mono (kq hz sb _ rfl rfl) (fun _ _ z => z.elim) fun _ _ z => z
end
theorem funFrames_at {g g' B B' : Heap} : ∀ {l : List Env}, g.FunFrames B l → (∀ b ∈ frs l, g'.get? b = g.get? b ∧ B'.get? b = none) → g'.FunFrames B' l
  | [], _, _ => trivial
  | ev :: l, h, k => by
    obtain ⟨hk, ⟨L, o, hf, _, ho, hd⟩, hr⟩ := h
    have z := k L (List.mem_filterMap.mpr ⟨ev, List.mem_cons_self, hf⟩)
    refine ⟨hk, ⟨L, o, hf, z.2, z.1.trans ho, hd⟩, funFrames_at hr fun b hb => k b ?_⟩
    obtain ⟨e, he, q⟩ := List.mem_filterMap.mp hb
    exact List.mem_filterMap.mpr ⟨e, List.mem_cons_of_mem _ he, q⟩
/-- the wish within a block: what a call lets out -/
def blkWish (X : Cx) (Y : Cx) (E : XK) : Value → Shared → Prop := fun u t => ∃ pins σ H s, Inv Y pins σ H s ∧ L2.CX X.prog X.w X.stack H s E u t
section
variable {X : Cx} {pins pinsb : List (Addr × Obj)} {σ σb : L2.St} {H3 H0 : Hp} {s3 s0 t : Shared} {sc : Scope} {ce : Env} {fp : List Addr} {E : XK} {u : Value}
/-- what leaves the block by a call is noted, let go, and in the def's air -/
theorem blk_err (hs : X.stack = X.env :: X.outer) (hf : X.env.frame = some X.env.locals) (tk : Takes X (fun cls d _ H => E cls d H))
    (I3 : Inv X pins σ H3 s3) (f3 : ∀ b ∈ fp, FpOk X pins H3 b) (hcf : ce.frame = X.env.frame) (hcl : ce.locals = s3.heap.objs.size)
    (Ib : Inv (X.blk s3 H3 sc ce fp) pinsb σb H0 s0) (c : L2.CX X.prog X.w X.stack H0 s0 E u t) {use : Option (Value → Sem Unit)} {Qf : Value → Shared → Prop} {acc : Value} :
    notedBy (model X.prog X.w) X.A ce (fun u t' => postX (model X.prog X.w) X.A X.xe use Qf acc s3.heap.objs.size X.env.frame (.error u) t') u t := by
  obtain ⟨a, B, H', cls, d, rfl, fl, hok, ub, na, os, ag, hE⟩ := c
  have e1 : noteFrame (.ref a) ce = noteFrame (.ref a) X.env := by
    unfold noteFrame PySem.frameOf
    rw [hcf]
  have hfr : X.A.frames = some (X.env :: X.outer) := by rw [I3.ok.frames, hs]
  have fl0 := fl
  rw [hs] at fl
  unfold notedBy
  rw [e1]
  refine HandSPX.looks_onZ Zc.steady hfr hf fl fun h1 held up => ?_
  rw [← hs] at held
  -- the block's own dict
  obtain ⟨m0, ⟨oC, es, ep, hoC, hdC, hmC⟩, _⟩ := Ib.loc
  have hoC : s0.heap.get? ce.locals = some oC := hoC
  rw [hcl] at hoC
  have n0 : H0 s3.heap.objs.size = none := by
    have z : H0 ce.locals = none := Ib.free
    rwa [hcl] at z
  have Cfr : s3.heap.objs.size ∉ frs X.stack := fun hm => by
    obtain ⟨_, o, ho, _⟩ := I3.stack.mem hm
    exact absurd (Heap.lt_size ho) (Nat.lt_irrefl _)
  have bC : B.get? s3.heap.objs.size = some oC := ub.keep _ _ hoC n0 Cfr
  have nC : H' s3.heap.objs.size = none := ub.free _ _ hoC n0
  obtain ⟨w1, w2, w3, oe, vs, Tb, oT, ts, z1, z2, z3, z4, z5, z6, z7, z8, z9⟩ := held
  have aC : a ≠ s3.heap.objs.size := fun z => by
    rw [z] at w2
    rw [bC] at w2
    cases w2
  have tC : Tb ≠ s3.heap.objs.size := fun z => by
    rw [z] at z5
    rw [bC] at z5
    cases z5
  refine ⟨m0, ⟨oC, es, ep, w1 _ _ bC, hdC, hmC⟩, fun hz sb ev hl hef => ?_⟩
  have sbn : ∀ b, b ≠ s3.heap.objs.size → hz.get? b = h1.get? b := sb.2
  generalize hB' : PySem.W.hideAll B [s3.heap.objs.size] = B'
  have gB : ∀ b o, B.get? b = some o → b ≠ s3.heap.objs.size → B'.get? b = some o := fun b o e ne => by
    rw [← hB']
    exact PySem.W.hideAll_get _ e (by simpa using ne)
  have ofB : ∀ b o, B'.get? b = some o → B.get? b = some o ∧ b ≠ s3.heap.objs.size := fun b o e => by
    rw [← hB'] at e
    refine ⟨PySem.W.of_hideAll _ e, fun z => ?_⟩
    rw [PySem.W.hideAll_none _ (by simpa using z)] at e
    cases e
  have noB : ∀ b, B.get? b = none → B'.get? b = none := fun b e => by
    cases q : B'.get? b with
    | none => rfl
    | some o =>
      have := (ofB b o q).1
      rw [e] at this
      cases this
  have stz : B'.StaysIn hz := fun b o e => by
    obtain ⟨x1, x2⟩ := ofB b o e
    rw [sbn b x2]
    exact w1 b o x1
  have fz : hz.FunFrames B' X.stack := funFrames_at w3 fun b hb => ⟨sbn b fun z => Cfr (z ▸ hb), noB b (w3.mem hb).1⟩
  have tr : HandSPX.TracedZ hz B' a (Zc cls d) (rawInt X.env.locals) := ⟨oe, vs, Tb, oT, ts, (sbn a aC).trans z1, z2, z3, z4, noB Tb z5, z6, (sbn Tb tC).trans z7, z8, z9⟩
  unfold PySem.passOn
  refine wpAny_bind (wpAny_field ((sbn a aC).trans z1) z3 z4 ?_)
  rw [if_neg (show ¬ ((Value.ref Tb == Value.none) = true) from by simp)]
  refine wpAny_bind (HandSPX.setFlight_anyZ stz fz tr fun h2 k1 k2 k3 k4 => ?_)
  refine wpAny_throw (tk _ _ ?_)
  rw [hef, hf] at k3
  obtain ⟨G, g1, g2⟩ := restrict h2 fun b => (B'.get? b).isSome || decide (b ∈ frs X.stack)
  have gG : ∀ b o, B'.get? b = some o → G.get? b = some o := fun b o e => by
    rw [g1 b (by simp [e])]
    exact k1 b o e
  have gF : ∀ b, b ∈ frs X.stack → G.get? b = h2.get? b := fun b hb => g1 b (by simp [hb])
  have og : ∀ b o, G.get? b = some o → h2.get? b = some o ∧ ((B'.get? b).isSome = true ∨ b ∈ frs X.stack) := fun b o e => by
    cases q : ((B'.get? b).isSome || decide (b ∈ frs X.stack)) with
    | false =>
      rw [g2 b q] at e
      cases e
    | true =>
      rw [g1 b q] at e
      exact ⟨e, by simpa [Bool.or_eq_true] using q⟩
  -- a caller's frame, from the start of the block to here
  have slots : ∀ b o, s0.heap.get? b = some o → b ∈ frs X.stack → ∃ sl, h2.get? b = some { o with slots := sl } := fun b o e hb => by
    obtain ⟨sl, q⟩ := ub.slot b o e hb
    have nf : ∀ vs, o.data ≠ .fields vs := by
      obtain ⟨_, o', ho', hd'⟩ := fl0.2.2.1.mem hb
      rw [q] at ho'
      injection ho' with ho'
      rw [← ho'] at hd'
      exact hd'
    obtain ⟨sl2, q2⟩ := up b _ q nf
    have q3 : hz.get? b = some { o with slots := sl2 } := (sbn b fun z => Cfr (z ▸ hb)).trans q2
    obtain ⟨sl3, q4⟩ := k4 b _ q3 nf
    exact ⟨sl3, q4⟩
  have ne3 : ∀ b o, s3.heap.get? b = some o → b ≠ s3.heap.objs.size := fun b o e => Nat.ne_of_lt (Heap.lt_size e)
  have bs := Ib.base
  refine ⟨a, B', { s3 with heap := G, gens := t.gens, drawn := t.drawn, toks := t.toks }, pins, σ, H', cls, d, rfl, ?_, fun b o e hb => ?_, Heap.UpToSlots.of_keeps fun b o e => (og b o e).1, .inr (.inr ⟨k1, noB a w2, k2, k3⟩), na, ?_, ag, hE⟩
  · refine I3.call (ch := fp) ⟨fun b o e n hb hx => ?_, fun b o e n hb hx => ?_, fun b o e n hx => ?_, fun b o e hx => ?_, fun b xs e => ub.tups _ _ (bs.tups b xs e), fun b o xs e => ub.frzs _ _ _ (bs.frzs b o xs e), fun b ps e => ?_⟩ ?_ ag fun b hb => ⟨(f3 b hb).2.2.2.1, (f3 b hb).2.1, (f3 b hb).2.2.2.2.1, (f3 b hb).2.2.2.2.2⟩
    · exact gG _ _ (gB _ _ (ub.keep _ _ (bs.keep b o e n hb hx) (bs.free b o e n hx) hb) (ne3 b o e))
    · obtain ⟨sl, q⟩ := bs.slot b o e n hb hx
      obtain ⟨sl2, q2⟩ := slots b _ q hb
      exact ⟨sl2, by rw [gF b hb]; exact q2⟩
    · obtain ⟨o', q⟩ := bs.there b o e hx
      exact ub.free b o' q (bs.free b o e n hx)
    · obtain ⟨o', q⟩ := bs.there b o e hx
      by_cases hb : b ∈ frs X.stack
      · obtain ⟨sl2, q2⟩ := slots b _ q hb
        exact ⟨_, by rw [gF b hb]; exact q2⟩
      · obtain ⟨o2, q2⟩ := ub.there b o' q hb
        exact ⟨o2, gG _ _ (gB _ _ q2 (ne3 b o e))⟩
    · obtain ⟨m1, q1⟩ := bs.tbls b ps e
      obtain ⟨m2, q2⟩ := ub.tbls b _ q1
      exact ⟨m1 ++ m2, by rw [q2, Array.append_assoc]⟩
    · intro b o q
      refine ((hok b o q).stay (fun x v hx r => ?_) (fun _ r => r) fun _ _ r => r : ObjOk X.prog X.w H' G b o)
      refine gG _ _ (gB _ _ r fun z => ?_)
      rw [← z] at nC
      rcases hx with hx | hx
      · rw [hx, q] at nC
        cases nC
      · rw [hx] at nC
        cases nC
  · obtain ⟨e', h⟩ := og b o e
    rcases h with h | h
    · obtain ⟨o', q⟩ := Option.isSome_iff_exists.mp h
      have z := k1 b o' q
      rw [e'] at z
      cases z
      exact q
    · exact absurd h hb
  · show t.os = s3.os
    exact os.trans Ib.os
end
section
variable {X : Cx} {E : XK}
/-- a call in the block -/
theorem passB {Y : Cx} (hst : Y.stack = X.stack) (hp : Y.prog = X.prog) (hw : Y.w = X.w) : Passes (L2.CX Y.prog Y.w) (Y.wish (blkWish X Y E)) E := fun pn σ1 H1 t1 u t2 I c => by
  refine ⟨pn, σ1, H1, t1, I.unwish, ?_⟩
  have c : L2.CX Y.prog Y.w Y.stack H1 t1 E u t2 := c
  rw [hst, hp, hw] at c
  exact c
theorem lcx {pins : List (Addr × Obj)} {s : Shared} {σ : L2.St} {H : Hp} {Q : VK} {elt tg iter : Expr} {ifs : List Expr} {sc : Scope} {own : List (Str × Nat)} {p1 p2 : Pos} {wi : TI} {g : TG} {tt : TT} {te : TE}
    {use : Option (Value → Sem Unit)} {Qf : Value → Shared → Prop}
    (hs : X.stack = X.env :: X.outer) (hf : X.env.frame = some X.env.locals) (tk : Takes X (fun cls d _ H => E cls d H))
    (hc : X.calm = true) (hN : X.N.Nodup) (I : Inv X pins σ H s) (hi : PI X tg iter wi) (ok : BlkOk X.N X.env.scope sc own)
    (hg : ∀ (t : Shared) (H1 : Hp) (C : Addr) (cl : List (Str × Addr)) (fp : List Addr), PG (X.blk t H1 sc (compEnvC sc cl C X.env) fp) tg g)
    (ht : ∀ (t : Shared) (H1 : Hp) (C : Addr) (cl : List (Str × Addr)) (fp : List Addr), PTs (X.blk t H1 sc (compEnvC sc cl C X.env) fp) ifs tt)
    (he : ∀ (t : Shared) (H1 : Hp) (C : Addr) (cl : List (Str × Addr)) (fp : List Addr), PE ((X.blk t H1 sc (compEnvC sc cl C X.env) fp).wish (blkWish X (X.blk t H1 sc (compEnvC sc cl C X.env) fp) E)) elt te)
    (hfd : ∀ x, foldedSetIterable iter X.env x = pure x) (h : tLc wi g tt te (own.map (·.2)) σ H Q)
    (hQ : ∀ D C t m H1, Inv X pins σ H1 t → Q (.ref D) H1 → t.heap.Ns C m → FpOk X pins H1 C → compPost (model X.prog X.w) X.A X.xe use Qf (.ref D) C (.ok .next) t) :
    wpAny (model X.prog X.w) X.A (comprehension (.ListComp elt [⟨tg, iter, ifs, 0⟩] sc p1) sc X.env p2 (newList []) false (eval iter X.env) use) Qf X.xe s := by
  have fr : ∀ y ∈ sc.names, y.2 = .free → ∃ c, X.env.cells.lookup y.1 = some c := fun y hy e =>
    (ok.free y hy e).elim (fun k => I.ok.has _ (.inl k)) fun k => I.ok.has _ (.inr k)
  refine compX rfl hfd (closure_ok fr) ok.kind (fun y hy e => (ok.uniq y hy).trans (congrArg some e)) (thn (hi.run pins s σ H _ I h) fun xv t1 k1 => thn k1 fun itv t2 k2 => ?_)
  obtain ⟨it, fp, tn, J, H2, rfl, I2, T, b2, f2, q⟩ := k2
  refine wpAny_newObj_type (newEnv_comp ?_) (by show 0 ≤ sizeLine; decide)
  generalize eD : t2.heap.objs.size = D
  obtain ⟨W, ⟨m0, w0⟩, turn⟩ := q D (I2.hok.fresh (Nat.le_of_eq eD))
  generalize e3 : ({ t2 with heap := t2.heap.push { cls := .type "list", data := .seq ([] : List Value).toArray } } : Shared) = t3
  have hp3 : t3.heap = t2.heap.push { cls := .type "list", data := .seq ([] : List Value).toArray } := by rw [← e3]
  have I3 : Inv X pins σ (upd H2 D (.lst [])) t3 := by
    rw [← e3]
    exact I2.laid (t' := t2.toks) (fun b o e => Heap.get?_push_of_some _ e) (Nat.le_of_eq eD) ⟨Nat.zero_le _, [], 0, .nil, by rw [← eD]; exact Heap.get?_push_size _ rfl⟩
  have lt2 : ∀ b ∈ fp, b < t2.heap.objs.size := fun b hb =>
    let ⟨_, e, _⟩ := T.obj _ _ b2 b hb
    Heap.lt_size e
  have f3 : ∀ b ∈ fp, FpOk X pins (upd H2 D (.lst [])) b ∧ b < t3.heap.objs.size := fun b hb => by
    have z := lt2 b hb
    refine ⟨⟨?_, (f2 b hb).2⟩, ?_⟩
    · rw [upd_ne (by rw [← eD]; exact Nat.ne_of_lt z)]
      exact (f2 b hb).1
    · rw [hp3, Heap.size_push]
      exact Nat.lt_succ_of_lt z
  have b3 : tn 0 t3.heap := T.keep _ _ _ b2 fun b _ o e => by
    rw [hp3]
    exact Heap.get?_push_of_some _ e
  have I4 := block_start I3 ok hN f3
  generalize eC : cellsFrom (t3.heap.objs.size + 1) sc.names (cloFrom X.env.cells sc.names []) = cl at I4
  have gg := hg t3 (upd H2 D (.lst [])) t3.heap.objs.size cl fp
  have gt := ht t3 (upd H2 D (.lst [])) t3.heap.objs.size cl fp
  have ge := he t3 (upd H2 D (.lst [])) t3.heap.objs.size cl fp
  have nf : ∀ b ∈ fp, (upd H2 D (.lst [])) b = none := fun b hb => (f3 b hb).1.1
  show codeAny _ _ (.compStart _ 0 (.ref it) (.ref D) (compEnvC sc cl t3.heap.objs.size X.env))
    (postX (model X.prog X.w) X.A X.xe use Qf (.ref D) t3.heap.objs.size X.env.frame) { t3 with heap := pushCells (t3.heap.push { cls := .type "dict", data := .dict #[] }) sc.names }
  generalize ec : compEnvC sc cl t3.heap.objs.size X.env = ce at I4 gg gt ge ⊢
  have cL : ce.locals = t3.heap.objs.size := by rw [← ec]; rfl
  have cF : ce.frame = X.env.frame := by rw [← ec]; rfl
  generalize eH : upd H2 D (.lst []) = H3 at I3 I4 gg gt ge w0 nf f3
  generalize e4 : ({ t3 with heap := pushCells (t3.heap.push { cls := .type "dict", data := .dict #[] }) sc.names } : Shared) = t4 at I4 ⊢
  have b4 : tn 0 t4.heap := T.keep _ _ _ b3 fun b _ o e => by
    rw [← e4]
    exact pushCells_keeps _ _ _ _ (Heap.get?_push_of_some _ e)
  have still : ∀ {σ1 : L2.St} {H1 : Hp} {u : Shared}, Inv (X.blk t3 H3 sc ce fp) [] σ1 H1 u → (∀ b ∈ fp, H1 b = none) → ∀ b ∈ fp, FpOk (X.blk t3 H3 sc ce fp) [] H1 b := fun {σ1 H1 u} J1 hn b hb => by
    refine ⟨hn b hb, (J1.ok.exf b hb).1, J1.ok.exfs b hb, .inl hb, fun x c e => (J1.ok.exf b hb).2 x c e, fun p hp => ?_⟩
    exact absurd (show p ∈ ([] : List (Addr × Obj)) ++ [] from hp) (by simp)
  have loop : codeAny (model X.prog X.w) X.A (.compLoop (.ListComp elt [⟨tg, iter, ifs, 0⟩] sc p1) 0 (.ref it) (.ref D) ce) (postX (model X.prog X.w) X.A X.xe use Qf (.ref D) t3.heap.objs.size X.env.frame) t4 := by
    refine compLoop_any (fun n u => ∃ i H1, Inv (X.blk t3 H3 sc ce fp) [] (wipe σ (own.map (·.2))) H1 u ∧ tn i u.heap ∧ (∀ b ∈ fp, H1 b = none) ∧ W i n H1) ?_ m0 ⟨0, H3, I4, b4, nf, w0⟩
    rintro n t5 ⟨i, H5, I5, b5, n5, w5⟩
    rcases turn i n H5 w5 with ⟨stop, qq⟩ | ⟨go, Nx, hNx, step⟩
    · refine thnF (T.done (X.blk t3 H3 sc ce fp) rfl rfl rfl hc i [] t5 _ H5 (fun _ _ => False) I5 (still I5 n5) b5 stop) fun r t6 ⟨hr, I6⟩ => ?_
      subst hr
      have back : Inv X pins σ H5 t6 := I3.call' (ch := fp) I6.os I6.base I6.hok I6.bare fun b hb =>
        ⟨(f3 b hb).1.2.2.2.1, (f3 b hb).1.2.1, (f3 b hb).1.2.2.2.2.1, (f3 b hb).1.2.2.2.2.2⟩
      have nC : H5 t3.heap.objs.size = none := by
        have z : H5 ce.locals = none := I6.free
        rwa [cL] at z
      obtain ⟨m, km, _⟩ := I6.loc
      have km : t6.heap.Ns ce.locals m := km
      rw [cL] at km
      exact hQ D t3.heap.objs.size t6 m H5 back qq km (I3.fpOk (Nat.le_refl _) nC)
    · refine thnF (T.item (X.blk t3 H3 sc ce fp) rfl rfl rfl hc i [] t5 _ H5 (fun _ _ => False) I5 (still I5 n5) b5 go) fun r t6 ⟨v, hr, k6⟩ => ?_
      subst hr
      refine thnF k6 fun _ t7 ⟨x, H7, I7, r7, y7, b7, n7⟩ => ?_
      refine thnF (gg.run _ t7 _ H7 x v _ (I7.pinned (still I7 n7) (T.obj _ _ b7)) r7 (step x H7 y7)) fun _ t8 ⟨σ8, H8, I8, hw8, q8⟩ => ?_
      refine thnF (gt.run _ t8 σ8 H8 _ I8 q8) fun b t9 ⟨H9, I9, q9⟩ => ?_
      have fin : ∀ {u : Shared} {H1 : Hp}, Inv (X.blk t3 H3 sc ce fp) ([] ++ pinsAt fp t7.heap) σ8 H1 u → Nx H1 →
          ∃ m, m < n ∧ ∃ i H1, Inv (X.blk t3 H3 sc ce fp) [] (wipe σ (own.map (·.2))) H1 u ∧ tn i u.heap ∧ (∀ b ∈ fp, H1 b = none) ∧ W i m H1 := fun {u H1} J1 nx => by
        obtain ⟨m1, hm, w1⟩ := hNx H1 nx
        have pn : ∀ b ∈ fp, ∀ o, t7.heap.get? b = some o → u.heap.get? b = some o ∧ H1 b = none := fun b hb o e => by
          have z := J1.pin (b, o) (List.mem_append_right _ (List.mem_append_right _ (mem_pinsAt hb e)))
          exact ⟨z.1, z.2.1⟩
        refine ⟨m1, hm, i + 1, H1, (J1.unpinned (pins := [])).weak (by rw [← hw8, wipe_length]) (fun j v e => ?_), T.keep _ _ _ b7 fun b hb o e => (pn b hb o e).1, fun b hb => ?_, w1⟩
        · rw [← hw8] at e
          exact (wipe_some e).1
        · obtain ⟨o, e, _⟩ := T.obj _ _ b7 b hb
          exact (pn b hb o e).2
      cases b with
      | false =>
        simp only [Bool.false_eq_true, if_false] at q9 ⊢
        exact fin I9 q9
      | true =>
        simp only [if_true] at q9 ⊢
        refine wpAny_mono (ge.run _ t9 σ8 H9 _ (I9.wish _) q9) (fun z t10 k10 => ?_) (fun w t10 k10 => ?_)
        · obtain ⟨yv, H10, I10, r10, acc, hD, hz, nx⟩ := k10
          exact app_ok (X := X.blk t3 H3 sc ce fp) I10.unwish hD hz r10 fun t11 I11 => fin I11 nx
        · obtain ⟨pn, σ1, H1, u1, Ib, c⟩ := k10
          exact blk_err hs hf tk I3 (fun b hb => (f3 b hb).1) cF cL Ib c
  exact codeAny_compStart_list loop (T.self X.A 0 _ _ _ b4 loop)
/-- [.. for ..] whose element may raise, as a value -/
theorem pe_lcX {elt tg iter : Expr} {ifs : List Expr} {sc : Scope} {own : List (Str × Nat)} {pos : Pos} {wi : TI} {g : TG} {tt : TT} {te : TE} (hs : X.stack = X.env :: X.outer) (hf : X.env.frame = some X.env.locals) (tk : Takes X (fun cls d _ H => E cls d H))
    (hc : X.calm = true) (hN : X.N.Nodup) (hi : PI X tg iter wi) (ok : BlkOk X.N X.env.scope sc own)
    (hg : ∀ (t : Shared) (H1 : Hp) (C : Addr) (cl : List (Str × Addr)) (fp : List Addr), PG (X.blk t H1 sc (compEnvC sc cl C X.env) fp) tg g)
    (ht : ∀ (t : Shared) (H1 : Hp) (C : Addr) (cl : List (Str × Addr)) (fp : List Addr), PTs (X.blk t H1 sc (compEnvC sc cl C X.env) fp) ifs tt)
    (he : ∀ (t : Shared) (H1 : Hp) (C : Addr) (cl : List (Str × Addr)) (fp : List Addr), PE ((X.blk t H1 sc (compEnvC sc cl C X.env) fp).wish (blkWish X (X.blk t H1 sc (compEnvC sc cl C X.env) fp) E)) elt te)
    (hfd : ∀ x, foldedSetIterable iter X.env x = pure x := by intro _; rfl) : PE X (.ListComp elt [⟨tg, iter, ifs, 0⟩] sc pos) (tLc wi g tt te (own.map (·.2))) := by
  refine ⟨fun pins s σ H Q I h => ?_⟩
  rw [eval_ListComp]
  refine lcx hs hf tk hc hN I hi ok hg ht he hfd h fun D C t m H1 J1 q km f => ⟨m, km, fun hz sb => ?_⟩
  exact ⟨.ref D, H1, J1.turned (t' := t.toks) (fun b o hb e => (sb.2 b hb).trans e) f.1 f.2.1 f.2.2.2.1 f.2.2.2.2.1 f.2.2.2.2.2, rfl, q⟩
/-- y = [.. for ..] on one line, the element may raise -/
theorem ps_setLcX {i : Nat} {y : Str} {py : Pos} {elt tg iter : Expr} {ifs : List Expr} {sc : Scope} {own : List (Str × Nat)} {pos sp : Pos} {wi : TI} {g : TG} {tt : TT} {te : TE} (hs : X.stack = X.env :: X.outer) (hf : X.env.frame = some X.env.locals) (tk : Takes X (fun cls d _ H => E cls d H))
    (hc : X.calm = true) (hN : X.N.Nodup) (hy : X.N[i]? = some y) (hl : X.env.scope.names.lookup y = some .local)
    (hw : swapsWith (.ListComp elt [⟨tg, iter, ifs, 0⟩] sc pos) (some (.Name y py)) sp.line X.env = pure true) (hi : PI X tg iter wi) (ok : BlkOk X.N X.env.scope sc own)
    (hg : ∀ (t : Shared) (H1 : Hp) (C : Addr) (cl : List (Str × Addr)) (fp : List Addr), PG (X.blk t H1 sc (compEnvC sc cl C X.env) fp) tg g)
    (ht : ∀ (t : Shared) (H1 : Hp) (C : Addr) (cl : List (Str × Addr)) (fp : List Addr), PTs (X.blk t H1 sc (compEnvC sc cl C X.env) fp) ifs tt)
    (he : ∀ (t : Shared) (H1 : Hp) (C : Addr) (cl : List (Str × Addr)) (fp : List Addr), PE ((X.blk t H1 sc (compEnvC sc cl C X.env) fp).wish (blkWish X (X.blk t H1 sc (compEnvC sc cl C X.env) fp) E)) elt te)
    (hfd : ∀ x, foldedSetIterable iter X.env x = pure x := by intro _; rfl) : PS X (.Assign [.Name y py] (.ListComp elt [⟨tg, iter, ifs, 0⟩] sc pos) sp) (tAsg (tLc wi g tt te (own.map (·.2))) (gName i)) := by
  refine ⟨fun pins s σ H D I h => ?_⟩
  rw [exec_Assign_Name_used _ _ _ _ hw]
  refine wpAny_bind (wpAny_standAt (wpAny_bind ?_))
  have h : tLc wi g tt te (own.map (·.2)) σ H (fun x H1 => gName i x σ H1 D.nx) := h
  refine wpAny_bind (thn (lcx (use := some (assign (.Name y py) X.env)) (Qf := fun _ t => SP X pins D .next t) hs hf tk hc hN I hi ok hg ht he hfd h fun L C t m H1 J1 q km f => ?_) fun _ t kt => wpAny_pure (wpAny_pure kt))
  refine wpAny_assign_Name (store_ok2 (v := V.ref L) J1 hN hy (.inl hl) rfl (fun t2 J2 ⟨a, sb, ka⟩ => ?_) (.inr hl))
  obtain ⟨c0, c1, c2, c3, c4, c5⟩ := f
  have Ca : C ≠ a := by
    rcases ka with z | z
    · rw [z]; exact c1
    · exact fun e => c4 y a z e.symm
  refine ⟨m, km.sameBut sb Ca, fun hz sb3 => ⟨_, H1, J2.turned (t' := t2.toks) (fun b o hb e => (sb3.2 b hb).trans e) c0 c1 c3 c4 c5, q⟩⟩
end
end N
set_option Elab.async false
set_option linter.all false
set_option maxRecDepth 100000
set_option maxHeartbeats 4000000
/-! Calls within a try; lists three deep; isinstance of errors. -/
namespace N
open PySem PySem.Spec PyProof.Rows L2
section
variable {X : Cx} {CX : CXT} {k : Nat} {f C : Addr} {ps : List Str} {sp : Sp} {E : L2.St → XK} {x m : Str} {p pos apos : Pos} {e o : Expr} {es : List Expr} {ta : TE} {t : TA}
/-- f(..) in a try's body: what is raised is wished for at the slots -/
def tClS (ps : List Str) (sp : Sp) (E : L2.St → XK) (t : TA) : TE := fun σ H Q => t σ H fun vs H1 => few ps sp vs H1 Q (E σ)
theorem pe_clS (D : Dn X.prog X.w X.K X.mg X.base CX k f ps sp) (hr : Room k X.A) (hm : X.mg x = some (.ref f)) (hx : ∀ σ, PassesAt CX X σ (E σ)) (ha : PA X (e :: es) t) (hg : Gl X x := by rfl)
    (hdb : (x == ("__debug__" : Str)) = false := by decide) (he : starEach (e :: es) X.env = (false, eval e X.env) :: starEach es X.env := by rfl) (hpl : (backTo pos (starEach es X.env)).any (·.1) = false := by rfl) :
    PE X (.Call (.Name x p) (e :: es) [] pos) (tClS ps sp E t) := by
  obtain ⟨fd, F, b, _⟩ := D.ex
  exact pe_callS (p := p) F hr hg hm D.kp b hx ha hdb he hpl
/-- o.m(..) of several classes, in a try's body -/
def tMFS {ι : Type} (C : ι → Addr) (ok : ι → Prop) (m : Str) (ps : List Str) (sp : ι → Sp) (E : L2.St → XK) (ta : TE) (t : TA) : TE := fun σ H Q => ta σ H fun x H1 => ∃ i a dx fs, ok i ∧ x = .ref a ∧ H1 a = some (.ins (C i) dx fs) ∧ fs.lookup m = none ∧
  t σ H1 fun vs H2 => few ps (sp i) (x :: vs) H2 Q (E σ)
theorem pe_mfS {ι : Type} {C : ι → Addr} {ok : ι → Prop} {sp : ι → Sp} {pl : Sem Bool} (D : Disp X.prog X.w X.K X.mg X.base CX k m C ok ps sp) (hr : Room k X.A) (hx : ∀ σ, PassesAt CX X σ (E σ)) (he : PE X o ta) (ha : PA X (e :: es) t)
    (hst : starEach (e :: es) X.env = (false, eval e X.env) :: starEach es X.env := by rfl) (hpl : (backTo pos (starEach es X.env)).any (·.1) = false := by rfl)
    (ht : eval (.Call (.Attribute o m apos) (e :: es) [] pos) X.env = (do
      let ov ← eval o X.env
      standAt apos.atName
      let (f, first) ← holding [ov] (getMethod ov m pl)
      callWith pos f first (backTo pos (starEach (e :: es) X.env)) (backToKw pos (keywordEach [] X.env))) := by rfl) :
    PE X (.Call (.Attribute o m apos) (e :: es) [] pos) (tMFS C ok m ps sp E ta t) := by
  refine ⟨fun pins s σ H Q I h => ?_⟩
  refine PySem.W.methodCall_KW (pl := pl) (thn (he.run pins s σ H _ I h) fun u s1 ⟨x, H1, I1, rx, i, a, dx, fs, hi, ex, ea, l, q⟩ => ?_) ht
  subst ex
  obtain rfl : u = Value.ref a := rx
  obtain ⟨f, hm, d⟩ := D.run i hi
  obtain ⟨fd, F, b, _⟩ := d.ex
  refine getmeth_ok I1 ea (D.cls i hi) hm l ?_
  refine PySem.W.callWith_K (first := [.ref a]) (h₀ := X.base) I1.ok.mod.kin hm.kp (thn (ha.run pos pins s1 σ H1 _ I1 q) fun us s2 ⟨vs, H2, I2, r, q2⟩ => ⟨I2.kIn, ?_⟩) hst hpl
  exact run_fnS (us := .ref a :: us) (vs := .ref a :: vs) F hr b (hx σ) I2 (.cons rfl r) q2
/-- C(..) in a try's body -/
def tMkS (C : Addr) (ps : List Str) (sp : Sp) (E : L2.St → XK) (t : TA) : TE := fun σ H Q => t σ H fun vs H1 => ∀ x dx, H1 x = none → H1 dx = none → dx ≠ x →
  few ps sp (.ref x :: vs) (upd (upd H1 dx (.own x)) x (.ins C dx [])) (fun v H2 => v = .non ∧ Q (.ref x) H2) (E σ)
theorem pe_mkS (M : Mk X.K C f) (D : Dn X.prog X.w X.K X.mg X.base CX k f ps sp) (hr : Room (k + 1) X.A) (hm : X.mg x = some (.ref C)) (hx : ∀ σ, PassesAt CX X σ (E σ)) (ha : PA X (e :: es) t) (hg : Gl X x := by rfl)
    (hdb : (x == ("__debug__" : Str)) = false := by decide) (he : starEach (e :: es) X.env = (false, eval e X.env) :: starEach es X.env := by rfl) (hpl : (backTo pos (starEach es X.env)).any (·.1) = false := by rfl) :
    PE X (.Call (.Name x p) (e :: es) [] pos) (tMkS C ps sp E t) := by
  obtain ⟨fd, F, b, _⟩ := D.ex
  refine ⟨fun pins s σ H Q I h => wpAny_Call_Name_kw (ld_glob I hg hm ?_ hdb)⟩
  refine PySem.W.callWith_K (h₀ := X.base) I.ok.mod.kin M.kp (thn (ha.run pos pins s σ H _ I h) fun us t1 ⟨vs, H1, I1, r, q⟩ => ⟨I1.kIn, ?_⟩) he hpl
  have z := q (t1.heap.objs.size + 1) t1.heap.objs.size (I1.hok.fresh (Nat.le_succ _)) (I1.hok.fresh (Nat.le_refl _)) (Nat.ne_of_lt (Nat.lt_succ_self _))
  have J := Inv.made (C := C) I1
  have rr : Vals (V.ref (t1.heap.objs.size + 1) :: vs) (Value.ref (t1.heap.objs.size + 1) :: us) := .cons rfl r
  have ll : (Value.ref (t1.heap.objs.size + 1) :: us).length = ps.length := by
    rw [← rr.length]
    exact F.len _ _ _ _ z
  have bb := b _ (Value.ref (t1.heap.objs.size + 1) :: us) J.kIn (by rw [List.append_nil]; exact ll)
  rw [List.append_nil] at bb
  refine wpAny_call (make_map (f := f) I1.kIn M.makes M.init (beq_iff_eq.mp M.fn) (codeAny_mono (F.run _ X.stack _ _ ⟨Value.ref (t1.heap.objs.size + 1) :: us, []⟩ (Value.ref (t1.heap.objs.size + 1) :: us) _ _ (E σ) (hr.make C us [])
    (J.env0.make C us []) bb rr z) fun w t2 hw => ?_))
  cases w with
  | error u => exact hx σ pins _ _ u t2 J hw
  | ok fl =>
    cases fl with
    | ret u =>
      obtain ⟨v, H', I3, rv, ev, q3⟩ := J.after hw
      subst ev
      exact ⟨rv, ⟨V.ref (t1.heap.objs.size + 1), H', I3, rfl, q3⟩⟩
    | next => exact False.elim hw
    | brk => exact False.elim hw
    | cont => exact False.elim hw
end
/-! ### lists three deep -/
/-- the addresses of such a list -/
def Own3 (x : Addr) (ps : List Addr) (ass : List (List Addr)) (b : Addr) : Prop := b = x ∨ b ∈ ps ∨ ∃ as ∈ ass, b ∈ as
/-- in the i-th row: its list, or a list in it -/
def InRow (ps : List Addr) (ass : List (List Addr)) (i : Nat) (b : Addr) : Prop := ps[i]? = some b ∨ ∃ as, ass[i]? = some as ∧ b ∈ as
structure L3 (H : Hp) (x : Addr) (ps : List Addr) (ass : List (List Addr)) (rows : List (List (List Nat))) : Prop where
  top : H x = some (.lst (ps.map V.ref))
  l1 : ps.length = rows.length
  l2 : ass.length = rows.length
  xo : ∀ i b, InRow ps ass i b → b ≠ x
  ap : ∀ i j b, InRow ps ass i b → InRow ps ass j b → i = j
  row : ∀ (i : Nat) p as leads, ps[i]? = some p → ass[i]? = some as → rows[i]? = some leads → LLs H p as leads
theorem InRow.own {x : Addr} {ps : List Addr} {ass : List (List Addr)} {i : Nat} {b : Addr} (h : InRow ps ass i b) : Own3 x ps ass b :=
  h.elim (fun e => .inr (.inl (List.mem_of_getElem? e))) fun ⟨as, e, hb⟩ => .inr (.inr ⟨as, List.mem_of_getElem? e, hb⟩)
theorem Own3.row {x : Addr} {ps : List Addr} {ass : List (List Addr)} {b : Addr} (h : Own3 x ps ass b) : b = x ∨ ∃ i, InRow ps ass i b := by
  rcases h with h | h | ⟨as, ha, h⟩
  · exact .inl h
  · obtain ⟨i, hi, e⟩ := List.getElem_of_mem h
    exact .inr ⟨i, .inl (by rw [List.getElem?_eq_getElem hi, e])⟩
  · obtain ⟨i, hi, e⟩ := List.getElem_of_mem ha
    exact .inr ⟨i, .inr ⟨as, by rw [List.getElem?_eq_getElem hi, e], h⟩⟩
theorem LLs.has {H : Hp} {p : Addr} {as : List Addr} {xss : List (List Nat)} (h : LLs H p as xss) : ∀ b, (b = p ∨ b ∈ as) → ∃ xs, H b = some (.lst xs) := fun b hb => by
  rcases hb with rfl | hb
  · exact ⟨_, h.top⟩
  · obtain ⟨i, hi, e⟩ := List.getElem_of_mem hb
    exact ⟨_, h.row i b _ (by rw [List.getElem?_eq_getElem hi, e]) (List.getElem?_eq_getElem (by rw [← h.len]; exact hi))⟩
theorem L3.at {H : Hp} {x : Addr} {ps : List Addr} {ass : List (List Addr)} {rows : List (List (List Nat))} (h : L3 H x ps ass rows) {i : Nat} {v : V} (hi : (ps.map V.ref)[i]? = some v) :
    ∃ p as leads, ps[i]? = some p ∧ ass[i]? = some as ∧ rows[i]? = some leads ∧ v = .ref p ∧ LLs H p as leads := by
  rw [List.getElem?_map] at hi
  cases e : ps[i]? with
  | none =>
    rw [e] at hi
    cases hi
  | some p =>
    rw [e] at hi
    have hil := (List.getElem?_eq_some_iff.mp e).1
    have h1 : i < rows.length := by rw [← h.l1]; exact hil
    have h2 : i < ass.length := by rw [h.l2]; exact h1
    exact ⟨p, ass[i], rows[i], rfl, List.getElem?_eq_getElem h2, List.getElem?_eq_getElem h1, (Option.some.inj hi).symm, h.row i p _ _ e (List.getElem?_eq_getElem h2) (List.getElem?_eq_getElem h1)⟩
theorem L3.has {H : Hp} {x : Addr} {ps : List Addr} {ass : List (List Addr)} {rows : List (List (List Nat))} (h : L3 H x ps ass rows) {b : Addr} (hb : Own3 x ps ass b) : ∃ xs, H b = some (.lst xs) := by
  rcases hb with rfl | hb | ⟨as, ha, hb⟩
  · exact ⟨_, h.top⟩
  · obtain ⟨i, hi, e⟩ := List.getElem_of_mem hb
    have h1 : i < rows.length := by rw [← h.l1]; exact hi
    have h2 : i < ass.length := by rw [h.l2]; exact h1
    exact (h.row i b _ _ (by rw [List.getElem?_eq_getElem hi, e]) (List.getElem?_eq_getElem h2) (List.getElem?_eq_getElem h1)).has b (.inl rfl)
  · obtain ⟨i, hi, e⟩ := List.getElem_of_mem ha
    have h1 : i < rows.length := by rw [← h.l2]; exact hi
    have h2 : i < ps.length := by rw [h.l1]; exact h1
    exact (h.row i _ as _ (List.getElem?_eq_getElem h2) (by rw [List.getElem?_eq_getElem hi, e]) (List.getElem?_eq_getElem h1)).has b (.inr hb)
theorem L3.keep {H H' : Hp} {x : Addr} {ps : List Addr} {ass : List (List Addr)} {rows : List (List (List Nat))} (h : L3 H x ps ass rows) (k : ∀ b o, Own3 x ps ass b → H b = some o → H' b = some o) : L3 H' x ps ass rows :=
  ⟨k _ _ (.inl rfl) h.top, h.l1, h.l2, h.xo, h.ap, fun i p as leads e1 e2 e3 => (h.row i p as leads e1 e2 e3).keep fun b o hb e => k b o (hb.elim (fun z => .inr (.inl (z ▸ List.mem_of_getElem? e1))) fun z => .inr (.inr ⟨as, List.mem_of_getElem? e2, z⟩)) e⟩
theorem L3.same {H H' : Hp} {x : Addr} {ps : List Addr} {ass : List (List Addr)} {rows : List (List (List Nat))} (h : L3 H x ps ass rows) (s : Same H H') : L3 H' x ps ass rows := h.keep fun b o _ e => s b o e
/-- such a list, new, as it is made -/
structure B3 (H0 H : Hp) (x : Addr) (ps : List Addr) (ass : List (List Addr)) (rows : List (List (List Nat))) : Prop where
  l3 : L3 H x ps ass rows
  same : Same H0 H
  new : ∀ b, Own3 x ps ass b → H0 b = none
theorem B3.nil {H0 H : Hp} {x : Addr} (s : Same H0 H) (n : H x = none) : B3 H0 (upd H x (.lst [])) x [] [] [] :=
  ⟨⟨upd_same, rfl, rfl, (fun i b h => by rcases h with h | ⟨as, h, _⟩ <;> cases h), (fun i j b h => by rcases h with h | ⟨as, h, _⟩ <;> cases h), fun i p as leads e => by cases e⟩, s.trans (Same.upd n), fun b hb => by
    rcases hb with rfl | hb | ⟨as, ha, _⟩
    · exact s.free n
    · cases hb
    · cases ha⟩
theorem B3.since {H0 H H' : Hp} {x : Addr} {ps : List Addr} {ass : List (List Addr)} {rows : List (List (List Nat))} (b : B3 H H' x ps ass rows) (s : Same H0 H) : B3 H0 H' x ps ass rows :=
  ⟨b.l3, s.trans b.same, fun c hc => none_of_same s (b.new c hc)⟩
theorem B3.same' {H0 H H' : Hp} {x : Addr} {ps : List Addr} {ass : List (List Addr)} {rows : List (List (List Nat))} (b : B3 H0 H x ps ass rows) (s : Same H H') : B3 H0 H' x ps ass rows := ⟨b.l3.same s, b.same.trans s, b.new⟩
theorem B3.snoc {H0 H H' : Hp} {x p : Addr} {ps as : List Addr} {ass : List (List Addr)} {rows : List (List (List Nat))} {leads : List (List Nat)} (b : B3 H0 H x ps ass rows) (r : Bld H H' p as leads) :
    B3 H0 (upd H' x (.lst (ps.map V.ref ++ [V.ref p]))) x (ps ++ [p]) (ass ++ [as]) (rows ++ [leads]) := by
  have old : ∀ c, Own3 x ps ass c → c ≠ p ∧ c ∉ as := fun c hc => by
    obtain ⟨xs, e⟩ := b.l3.has hc
    refine ⟨fun z => ?_, fun z => ?_⟩
    · rw [z, r.nD] at e
      cases e
    · rw [r.nas c z] at e
      cases e
  have hx := old x (.inl rfl)
  have hp := b.l3.l1
  have hq := b.l3.l2
  -- a row of the new list is an old one, or the last
  have inr : ∀ i c, InRow (ps ++ [p]) (ass ++ [as]) i c → InRow ps ass i c ∨ (i = rows.length ∧ (c = p ∨ c ∈ as)) := fun i c h => by
    rcases h with h | ⟨l, h, hc⟩
    · by_cases hi : i < ps.length
      · rw [List.getElem?_append_left hi] at h
        exact .inl (.inl h)
      · rw [List.getElem?_append_right (by omega)] at h
        have e0 : i - ps.length = 0 := by
          have := (List.getElem?_eq_some_iff.mp h).1
          simp only [List.length_singleton] at this
          omega
        rw [e0] at h
        exact .inr ⟨by omega, .inl (Option.some.inj h).symm⟩
    · by_cases hi : i < ass.length
      · rw [List.getElem?_append_left hi] at h
        exact .inl (.inr ⟨l, h, hc⟩)
      · rw [List.getElem?_append_right (by omega)] at h
        have e0 : i - ass.length = 0 := by
          have := (List.getElem?_eq_some_iff.mp h).1
          simp only [List.length_singleton] at this
          omega
        rw [e0] at h
        exact .inr ⟨by omega, .inr ((Option.some.inj h) ▸ hc)⟩
  have bad : ∀ i c, InRow ps ass i c → (c = p ∨ c ∈ as) → False := fun i c h1 h2 => by
    have := old c h1.own
    exact h2.elim this.1 this.2
  have xout : ∀ c, (c ∈ ps ∨ ∃ as ∈ ass, c ∈ as) → c ≠ x := fun c hc => by
    rcases Own3.row (x := x) (ps := ps) (ass := ass) (b := c) (hc.elim (fun h => .inr (.inl h)) fun h => .inr (.inr h)) with z | ⟨i, z⟩
    · intro _
      rcases hc with h | ⟨l, h1, h2⟩
      · obtain ⟨i, hi, e⟩ := List.getElem_of_mem h
        exact b.l3.xo i c (.inl (by rw [List.getElem?_eq_getElem hi, e])) z
      · obtain ⟨i, hi, e⟩ := List.getElem_of_mem h1
        exact b.l3.xo i c (.inr ⟨l, by rw [List.getElem?_eq_getElem hi, e], h2⟩) z
    · exact b.l3.xo i c z
  refine ⟨⟨by rw [upd_same, List.map_append]; rfl, by rw [List.length_append, List.length_append, b.l3.l1]; rfl, by rw [List.length_append, List.length_append, b.l3.l2]; rfl, fun i c h z => ?_, fun i j c h1 h2 => ?_, fun i q bs ld e1 e2 e3 => ?_⟩, N.Same.put (b.same.trans r.same) (b.new x (.inl rfl)), fun c hc => ?_⟩
  · rcases inr i c h with h | ⟨_, h⟩
    · exact b.l3.xo i c h z
    · rw [z] at h
      exact h.elim hx.1 hx.2
  · rcases inr i c h1 with h1 | ⟨k1, h1⟩ <;> rcases inr j c h2 with h2 | ⟨k2, h2⟩
    · exact b.l3.ap i j c h1 h2
    · exact (bad i c h1 h2).elim
    · exact (bad j c h2 h1).elim
    · rw [k1, k2]
  · by_cases c : i < ps.length
    · have h1 : i < rows.length := by rw [← b.l3.l1]; exact c
      rw [List.getElem?_append_left c] at e1
      rw [List.getElem?_append_left (by rw [b.l3.l2]; exact h1)] at e2
      rw [List.getElem?_append_left h1] at e3
      have z := b.l3.row i q bs ld e1 e2 e3
      refine (z.same r.same).keep fun a o ha e => ?_
      have : a ≠ x := ha.elim (fun w => w ▸ xout q (.inl (List.mem_of_getElem? e1))) fun w => xout a (.inr ⟨bs, List.mem_of_getElem? e2, w⟩)
      rw [upd_ne this]
      exact e
    · rw [List.getElem?_append_right (Nat.le_of_not_lt c)] at e1
      have e0 : i - ps.length = 0 := by
        have := (List.getElem?_eq_some_iff.mp e1).1
        simp only [List.length_singleton] at this
        omega
      rw [List.getElem?_append_right (by omega), show i - ass.length = 0 by omega] at e2
      rw [List.getElem?_append_right (by omega), show i - rows.length = 0 by omega] at e3
      rw [e0] at e1
      obtain rfl : p = q := Option.some.inj e1
      obtain rfl : as = bs := Option.some.inj e2
      obtain rfl : leads = ld := Option.some.inj e3
      refine r.ll.keep fun a o ha e => ?_
      have : a ≠ x := fun z => ha.elim (fun w => hx.1 (z.symm.trans w)) fun w => hx.2 (z ▸ w)
      rw [upd_ne this]
      exact e
  · rcases hc with rfl | hc | ⟨l, hl, hc⟩
    · exact b.new _ (.inl rfl)
    · rcases List.mem_append.mp hc with hc | hc
      · exact b.new c (.inr (.inl hc))
      · rw [List.mem_singleton] at hc
        rw [hc]
        exact b.same.free r.nD
    · rcases List.mem_append.mp hl with hl | hl
      · exact b.new c (.inr (.inr ⟨l, hl, hc⟩))
      · rw [List.mem_singleton] at hl
        exact b.same.free (r.nas c (hl ▸ hc))
/-! == of them -/
def dL3 (rows : List (List (List Nat))) : PyData := .list (rows.map dLL)
theorem eqvAll_dLL : ∀ xs ys : List (List (List Nat)), PyData.eqvAll (xs.map dLL) (ys.map dLL) = decide (xs = ys)
  | [], [] => rfl
  | [], _ :: _ => rfl
  | _ :: _, [] => rfl
  | x :: xs, y :: ys => by
    show (PyData.eqv (dLL x) (dLL y) && PyData.eqvAll (xs.map dLL) (ys.map dLL)) = _
    rw [eqvAll_dLL xs ys, eqv_dLL]
    by_cases c : x = y <;> by_cases c2 : xs = ys <;> simp [c, c2]
theorem eqv_dL3 (xs ys : List (List (List Nat))) : PyData.eqv (dL3 xs) (dL3 ys) = decide (xs = ys) := eqvAll_dLL xs ys
theorem depth_dLL (xss : List (List Nat)) : PyData.depth (dLL xss) ≤ 2 := by
  have := depth_dIs xss
  unfold dLL
  simp only [PyData.depth]
  omega
theorem can_dLLs : ∀ l : List (List (List Nat)), PyData.canLayAll0 (l.map dLL) = true
  | [] => rfl
  | x :: r => by
    show (PyData.canLay0 (dLL x) && PyData.canLayAll0 (r.map dLL)) = true
    rw [SeqAt.canLay_of_shaped (shaped_dLL x), can_dLLs r]
    rfl
theorem depth_dLLs : ∀ l : List (List (List Nat)), PyData.depthAll (l.map dLL) ≤ 2
  | [] => Nat.zero_le _
  | x :: r => by
    have h1 := depth_dLL x
    have h2 := depth_dLLs r
    simp only [List.map_cons, PyData.depthAll]
    omega
theorem shaped_dL3 (l : List (List (List Nat))) : SeqAt.shaped (dL3 l) = true := by
  have h1 := can_dLLs l
  have h2 := depth_dLLs l
  unfold dL3 SeqAt.shaped
  simp only [PyData.canLay0, PyData.depth, h1, Bool.true_and]
  exact decide_eq_true (by omega)
theorem dp_rows3 {K : PySem.W.Frag} {H : Hp} : ∀ (ps : List Addr) (ass : List (List Addr)) (rows : List (List (List Nat))), ps.length = rows.length → ass.length = rows.length → (∀ (i : Nat) p as leads, ps[i]? = some p → ass[i]? = some as → rows[i]? = some leads → LLs H p as leads) → DpAll K H (ps.map V.ref) (rows.map dLL)
  | [], _, [], _, _, _ => .nil
  | [], _, _ :: _, h1, _, _ => by cases h1
  | _ :: _, _, [], h1, _, _ => by cases h1
  | _ :: _, [], _ :: _, _, h2, _ => by cases h2
  | p :: ps, as :: ass, r :: rows, h1, h2, f => .cons (f 0 p as r rfl rfl rfl).dp (dp_rows3 ps ass rows (Nat.succ.inj h1) (Nat.succ.inj h2) fun i q bs ld e1 e2 e3 => f (i + 1) q bs ld e1 e2 e3)
theorem L3.dp {K : PySem.W.Frag} {H : Hp} {x : Addr} {ps : List Addr} {ass : List (List Addr)} {rows : List (List (List Nat))} (h : L3 H x ps ass rows) : Dp K H (.ref x) (dL3 rows) := .lst (SqL.of h.top) (dp_rows3 ps ass rows h.l1 h.l2 h.row)
section
variable {X : Cx}
def rEqL3 (f : Bool → Bool) : R2 := fun x y H Q => ∃ (p q : Addr) (ps : List Addr) (ass : List (List Addr)) (ps' : List Addr) (ass' : List (List Addr)) (xs ys : List (List (List Nat))), x = .ref p ∧ y = .ref q ∧ L3 H p ps ass xs ∧ L3 H q ps' ass' ys ∧ Q (.bl (f (decide (xs = ys)))) H
theorem op_eqL3 (hu : X.A.units + 64 < cLine) : OpR X (compareOp .Eq) (rEqL3 id) := by
  intro pins s σ H x y v u Q I rx ry h
  obtain ⟨p, q, _, _, _, _, xs, ys, rfl, rfl, h1, h2, k⟩ := h
  refine op_eqD hu pins s σ H _ _ v u Q I rx ry ⟨_, _, h1.dp, h2.dp, shaped_dL3 _, shaped_dL3 _, ?_⟩
  rw [eqv_dL3]
  exact k
theorem op_neL3 (hu : X.A.units + 64 < cLine) : OpR X (compareOp .NotEq) (rEqL3 not) := by
  intro pins s σ H x y v u Q I rx ry h
  obtain ⟨p, q, _, _, _, _, xs, ys, rfl, rfl, h1, h2, k⟩ := h
  refine op_neD hu pins s σ H _ _ v u Q I rx ry ⟨_, _, h1.dp, h2.dp, shaped_dL3 _, shaped_dL3 _, ?_⟩
  rw [eqv_dL3]
  exact k
end
end N
set_option Elab.async false
set_option linter.all false
set_option maxRecDepth 100000
set_option maxHeartbeats 4000000
namespace N
open PySem PySem.Spec PyProof.Rows L2
def top (i : Nat) : Stmt := PySem.Challenge.pw_nimhouse_k08_whole_numbers.main.body.getD i (.Pass ⟨0, 0, 0, 0⟩)
structure Txt (K : PySem.W.Frag) (mg : Str → Option Value) : Prop where
  n_isinstance : mg "isinstance" = none
  n_int : mg "int" = none
  n_bool : mg "bool" = none
  n_len : mg "len" = none
  g_is_whole : mg "is_whole" = some (.ref (He.ga K "is_whole"))
  c_MOST : ∃ t, mg "MOST" = some (.int 100 t)
  x_NotAPlace : PySem.W.excIn K (He.ga K "NotAPlace") He.veBase "ValueError.__new__" = true ∧ PySem.W.keepIn K (.ref (He.ga K "NotAPlace")) = true ∧ PySem.W.subIn K (.ref (He.ga K "NotAPlace")) (.type "BaseException") = some true ∧ PySem.W.typeIn K (.ref (He.ga K "NotAPlace")) = some (.type "type")
  g_NotAPlace : mg "NotAPlace" = some (.ref (He.ga K "NotAPlace"))
  g_least_lacking : mg "least_lacking" = some (.ref (He.ga K "least_lacking"))
  n_list : mg "list" = none
  x_NotAGame : PySem.W.excIn K (He.ga K "NotAGame") He.veBase "ValueError.__new__" = true ∧ PySem.W.keepIn K (.ref (He.ga K "NotAGame")) = true ∧ PySem.W.subIn K (.ref (He.ga K "NotAGame")) (.type "BaseException") = some true ∧ PySem.W.typeIn K (.ref (He.ga K "NotAGame")) = some (.type "type")
  g_NotAGame : mg "NotAGame" = some (.ref (He.ga K "NotAGame"))
  n_any : mg "any" = none
  g_is_lead : mg "is_lead" = some (.ref (He.ga K "is_lead"))
  g_Game : mg "Game" = some (.ref (He.ga K "Game"))
  g_asked_rows : mg "asked_rows" = some (.ref (He.ga K "asked_rows"))
  n_str : mg "str" = none
  n_range : mg "range" = none
  cl_Told : Cls K (He.ga K "Told")
  na_Told_known : NoAttr K (He.ga K "Told") "known"
  na_Told_limits : NoAttr K (He.ga K "Told") "limits"
  na_Told_most : NoAttr K (He.ga K "Told") "most"
  na_Told_rows : NoAttr K (He.ga K "Told") "rows"
  m_Told_leads : Meth K (He.ga K "Told") "leads" (He.ma K (He.ga K "Told") "leads")
  m_Told_together : Meth K (He.ga K "Told") "together" (He.ma K (He.ga K "Told") "together")
  m_Told_number : Meth K (He.ga K "Told") "number" (He.ma K (He.ga K "Told") "number")
  m_Told_numbers : Meth K (He.ga K "Told") "numbers" (He.ma K (He.ga K "Told") "numbers")
  m_Told_name : Meth K (He.ga K "Told") "name" (He.ma K (He.ga K "Told") "name")
  m_Told___init__ : Meth K (He.ga K "Told") "__init__" (He.ma K (He.ga K "Told") "__init__")
  m_Game___init__ : Meth K (He.ga K "Game") "__init__" (He.ma K (He.ga K "Game") "__init__")
  g__law_cell_at : mg "_law_cell_at" = some (.ref (He.ga K "_law_cell_at"))
  g__law_lead_by : mg "_law_lead_by" = some (.ref (He.ga K "_law_lead_by"))
  g__law_sum : mg "_law_sum" = some (.ref (He.ga K "_law_sum"))
  g__law_lacking : mg "_law_lacking" = some (.ref (He.ga K "_law_lacking"))
  e_NotAPlace_NotAPlace : PySem.W.exmOne K (.ref (He.ga K "NotAPlace")) (.ref (He.ga K "NotAPlace")) = some true
  e_NotAGame_NotAPlace : PySem.W.exmOne K (.ref (He.ga K "NotAGame")) (.ref (He.ga K "NotAPlace")) = some false
  g__law_rows_by : mg "_law_rows_by" = some (.ref (He.ga K "_law_rows_by"))
  mk_Told : Mk K (He.ga K "Told") (He.ma K (He.ga K "Told") "__init__")
  g_Told : mg "Told" = some (.ref (He.ga K "Told"))
  g__law_due : mg "_law_due" = some (.ref (He.ga K "_law_due"))
  g__law_whole : mg "_law_whole" = some (.ref (He.ga K "_law_whole"))
  g__law_further : mg "_law_further" = some (.ref (He.ga K "_law_further"))
  g__law_further_numbers : mg "_law_further_numbers" = some (.ref (He.ga K "_law_further_numbers"))
  g_law : mg "law" = some (.ref (He.ga K "law"))
  cf_Game___init__ : ClsF K (He.ga K "Game") "__init__" (He.ma K (He.ga K "Game") "__init__")
  ty_Told : TyC K (He.ga K "Told")
  k_Told_Game : PySem.W.kitOne K (.ref (He.ga K "Told")) (.ref (He.ga K "Game")) = some true
  f_is_whole : ∃ fd, FunD K "is_whole" "is_whole" (defArgs (top 6)) (defBody (top 6)) (defScope (top 6)) [] [] (He.ga K "is_whole") fd
  f__law_whole : ∃ fd, FunD K "_law_whole" "_law_whole" (defArgs (top 15)) (defBody (top 15)) (defScope (top 15)) [] [] (He.ga K "_law_whole") fd
  f__law_cell_at : ∃ fd, FunD K "_law_cell_at" "_law_cell_at" (defArgs (top 16)) (defBody (top 16)) (defScope (top 16)) [] [] (He.ga K "_law_cell_at") fd
  f_least_lacking : ∃ fd, FunD K "least_lacking" "least_lacking" (defArgs (top 7)) (defBody (top 7)) (defScope (top 7)) [] [] (He.ga K "least_lacking") fd
  f_Game_name : ∃ fd, FunD K "name" "Game.name" (defArgs (inClass (top 10) 2)) (defBody (inClass (top 10) 2)) (defScope (inClass (top 10) 2)) [] [] (He.ma K (He.ga K "Game") "name") fd
  f_is_lead : ∃ fd, FunD K "is_lead" "is_lead" (defArgs (top 12)) (defBody (top 12)) (defScope (top 12)) [] [] (He.ga K "is_lead") fd
  f_asked_rows : ∃ fd, FunD K "asked_rows" "asked_rows" (defArgs (top 11)) (defBody (top 11)) (defScope (top 11)) [] [] (He.ga K "asked_rows") fd
  f_Told_leads : ∃ fd, FunD K "leads" "Told.leads" (defArgs (inClass (top 13) 1)) (defBody (inClass (top 13) 1)) (defScope (inClass (top 13) 1)) [] [] (He.ma K (He.ga K "Told") "leads") fd
  f_Told_name : ∃ fd, FunD K "name" "Told.name" (defArgs (inClass (top 13) 2)) (defBody (inClass (top 13) 2)) (defScope (inClass (top 13) 2)) [] [] (He.ma K (He.ga K "Told") "name") fd
  f_Told_together : ∃ fd, FunD K "together" "Game.together" (defArgs (inClass (top 10) 3)) (defBody (inClass (top 10) 3)) (defScope (inClass (top 10) 3)) [] [] (He.ma K (He.ga K "Told") "together") fd
  f_Told_number : ∃ fd, FunD K "number" "Game.number" (defArgs (inClass (top 10) 4)) (defBody (inClass (top 10) 4)) (defScope (inClass (top 10) 4)) [] [] (He.ma K (He.ga K "Told") "number") fd
  f_Told_numbers : ∃ fd, FunD K "numbers" "Game.numbers" (defArgs (inClass (top 10) 5)) (defBody (inClass (top 10) 5)) (defScope (inClass (top 10) 5)) [] [] (He.ma K (He.ga K "Told") "numbers") fd
  f_Told___init__ : ∃ fd, FunD K "__init__" "Told.__init__" (defArgs (inClass (top 13) 0)) (defBody (inClass (top 13) 0)) (defScope (inClass (top 13) 0)) [] [] (He.ma K (He.ga K "Told") "__init__") fd
  f_Game___init__ : ∃ fd, FunD K "__init__" "Game.__init__" (defArgs (inClass (top 10) 0)) (defBody (inClass (top 10) 0)) (defScope (inClass (top 10) 0)) [] [] (He.ma K (He.ga K "Game") "__init__") fd
  f__law_lacking : ∃ fd, FunD K "_law_lacking" "_law_lacking" (defArgs (top 17)) (defBody (top 17)) (defScope (top 17)) [] [] (He.ga K "_law_lacking") fd
  f__law_sum : ∃ fd, FunD K "_law_sum" "_law_sum" (defArgs (top 18)) (defBody (top 18)) (defScope (top 18)) [] [] (He.ga K "_law_sum") fd
  f__law_lead_by : ∃ fd, FunD K "_law_lead_by" "_law_lead_by" (defArgs (top 19)) (defBody (top 19)) (defScope (top 19)) [] [] (He.ga K "_law_lead_by") fd
  f__law_rows_by : ∃ fd, FunD K "_law_rows_by" "_law_rows_by" (defArgs (top 20)) (defBody (top 20)) (defScope (top 20)) [] [] (He.ga K "_law_rows_by") fd
  f__law_due : ∃ fd, FunD K "_law_due" "_law_due" (defArgs (top 21)) (defBody (top 21)) (defScope (top 21)) [] [] (He.ga K "_law_due") fd
  f__law_further : ∃ fd, FunD K "_law_further" "_law_further" (defArgs (top 22)) (defBody (top 22)) (defScope (top 22)) [] [] (He.ga K "_law_further") fd
  f__law_further_numbers : ∃ fd, FunD K "_law_further_numbers" "_law_further_numbers" (defArgs (top 23)) (defBody (top 23)) (defScope (top 23)) [] [] (He.ga K "_law_further_numbers") fd
  f_law : ∃ fd, FunD K "law" "law" (defArgs (top 24)) (defBody (top 24)) (defScope (top 24)) [] [] (He.ga K "law") fd
section
variable {P : Program} {w : World} {K : PySem.W.Frag} {mg : Str → Option Value} {base : Heap}
local macro_rules | `(tactic| walk_at "rd") => `(tactic| repeat (first
  | (refine ⟨_, rfl, ?_⟩)
  | (refine ⟨_, _, rfl, rfl, ?_⟩)
  | (refine ⟨rfl, ?_⟩)
  | (refine ⟨_, _, _, rfl, (by assumption : SqL _ _ _ _), ?_⟩)
  | (refine ⟨(by decide : (0 : Int) < _), ?_⟩)
  | (refine ⟨(by decide : (0 : Nat) < _), ?_⟩)
  | (refine ⟨(⟨by decide, by decide⟩ : CDiv _ _), ?_⟩)
  | (refine ⟨(⟨by decide, by decide⟩ : (0 : Nat) < _ ∧ _ < 1073741824), ?_⟩)
  | (refine ⟨(Or.inr (by decide) : _ < 2 ^ 64 ∨ _ < 2 ^ 64), ?_⟩)
  | (refine ⟨(Or.inl (by decide) : _ < 2 ^ 64 ∨ _ < 2 ^ 64), ?_⟩)
  | (refine ⟨(Or.inr ⟨by decide, by decide⟩ : CMul _ _), ?_⟩)
  | (refine ⟨(Or.inl ⟨by decide, by decide⟩ : CMul _ _), ?_⟩)))
/-- rd, with lists that stand in the context -/
local macro_rules | `(tactic| walk_at "rl") => `(tactic| repeat (first
  | (refine ⟨_, rfl, ?_⟩)
  | (refine ⟨⟨_, rfl⟩, ?_⟩)
  | (refine ⟨_, _, rfl, rfl, ?_⟩)
  | (refine ⟨rfl, ?_⟩)
  | (refine ⟨_, _, _, rfl, (by assumption : SqL _ _ _ _), ?_⟩)
  | (refine ⟨_, _, rfl, .inl (SqL.of (by assumption)), ?_⟩)
  | (refine ⟨.inl ⟨rfl, _, SqL.of (by assumption)⟩, ?_⟩)
  | (refine ⟨(by decide : (0 : Int) < _), ?_⟩)
  | (refine ⟨(by decide : (0 : Nat) < _), ?_⟩)
  | (refine ⟨(⟨by decide, by decide⟩ : CDiv _ _), ?_⟩)
  | (refine ⟨(⟨by decide, by decide⟩ : (0 : Nat) < _ ∧ _ < 1073741824), ?_⟩)
  | (refine ⟨(Or.inr (by decide) : _ < 2 ^ 64 ∨ _ < 2 ^ 64), ?_⟩)
  | (refine ⟨(Or.inl (by decide) : _ < 2 ^ 64 ∨ _ < 2 ^ 64), ?_⟩)
  | (refine ⟨(Or.inr ⟨by decide, by decide⟩ : CMul _ _), ?_⟩)
  | (refine ⟨(Or.inl ⟨by decide, by decide⟩ : CMul _ _), ?_⟩)))

/-! ### whole numbers, cells of the script -/
/-- is it a whole number -/
def sp_is_whole (K : PySem.W.Frag) : Sp := fun vs H Q _ => ∃ (x : V) (t : String) (b1 b2 : Bool), vs = [x] ∧ TyX K H x (.type t) ∧ kitB t "int" = some b1 ∧ kitB t "bool" = some b2 ∧ Q (.bl (b1 && !b2)) H
theorem whole_int {K : PySem.W.Frag} {i : Int} {H : Hp} {Q : VK} {E : XK} (h : Q (.bl true) H) : sp_is_whole K [.int i] H Q E :=
  ⟨_, "int", true, false, rfl, .base (.int i), by decide +kernel, by decide +kernel, h⟩

abbrev s_is_whole : Stmt := top 6
theorem sc_is_whole : FnScope ["number"] ["number"] (defScope s_is_whole) := ⟨rfl, rfl, rfl, by decide +kernel, rfl, by decide +kernel, by decide +kernel⟩
theorem ok_is_whole (T : Txt K mg) : Dn P w K mg base CX0 1 (He.ga K "is_whole") ["number"] (sp_is_whole K) := by
  refine dn_of (k := 0) T.f_is_whole sc_is_whole (fun _ _ _ _ _ _ us hl => match us, hl with | [_], _ => rfl) (fun cdv A outer s H vs Q E hr h => ?_)
  obtain ⟨x, t, b1, b2, rfl, ht, h1, h2, q⟩ := h
  refine ⟨_, PSs.nox (pss_one (ps_ret (pe_and (pe_callB (r := rIsi K) call_isi (by rfl) T.n_isinstance (by decide +kernel) (pa_cons (pv 0) (pa_cons (pe_bltn (v := .ty "int") rfl T.n_int (by decide +kernel) rfl) pa_nil))) (pe_one (pe_not (pe_callB (r := rIsi K) call_isi (by rfl) T.n_isinstance (by decide +kernel) (pa_cons (pv 0) (pa_cons (pe_bltn (v := .ty "bool") rfl T.n_bool (by decide +kernel) rfl) pa_nil)))))))), ?_⟩
  refine ⟨_, rfl, x, _, _, _, b1, rfl, .ty _, ht, kit_ty h1, b1, rfl, ?_⟩
  cases b1
  · exact iteF q
  · refine iteT ?_
    exact ⟨_, rfl, x, _, _, _, b2, rfl, .ty _, ht, kit_ty h2, b2, rfl, q⟩

abbrev s__law_whole : Stmt := top 15
theorem sc__law_whole : FnScope ["_law_found"] ["_law_found"] (defScope s__law_whole) := ⟨rfl, rfl, rfl, by decide +kernel, rfl, by decide +kernel, by decide +kernel⟩
theorem ok__law_whole (T : Txt K mg) : Dn P w K mg base CX0 1 (He.ga K "_law_whole") ["_law_found"] (sp_is_whole K) := by
  refine dn_of (k := 0) T.f__law_whole sc__law_whole (fun _ _ _ _ _ _ us hl => match us, hl with | [_], _ => rfl) (fun cdv A outer s H vs Q E hr h => ?_)
  obtain ⟨x, t, b1, b2, rfl, ht, h1, h2, q⟩ := h
  refine ⟨_, PSs.nox (pss_one (ps_ret (pe_and (pe_callB (r := rIsi K) call_isi (by rfl) T.n_isinstance (by decide +kernel) (pa_cons (pv 0) (pa_cons (pe_bltn (v := .ty "int") rfl T.n_int (by decide +kernel) rfl) pa_nil))) (pe_one (pe_not (pe_callB (r := rIsi K) call_isi (by rfl) T.n_isinstance (by decide +kernel) (pa_cons (pv 0) (pa_cons (pe_bltn (v := .ty "bool") rfl T.n_bool (by decide +kernel) rfl) pa_nil)))))))), ?_⟩
  refine ⟨_, rfl, x, _, _, _, b1, rfl, .ty _, ht, kit_ty h1, b1, rfl, ?_⟩
  cases b1
  · exact iteF q
  · refine iteT ?_
    exact ⟨_, rfl, x, _, _, _, b2, rfl, .ty _, ht, kit_ty h2, b2, rfl, q⟩

def cell (ns : List Int) (k : Nat) : Int := ns.getD k 0
def sp__law_cell_at (K : PySem.W.Frag) : Sp := fun vs H Q _ => ∃ (a : Addr) (ns : List Int) (k : Nat), vs = [.ref a, .int (k : Int)] ∧ SqL K H a (ns.map V.int) ∧ Q (.int (cell ns k)) H
abbrev s__law_cell_at : Stmt := top 16
theorem sc__law_cell_at : FnScope ["_law_script", "_law_k"] ["_law_script", "_law_k"] (defScope s__law_cell_at) := ⟨rfl, rfl, rfl, by decide +kernel, rfl, by decide +kernel, by decide +kernel⟩
theorem ok__law_cell_at (T : Txt K mg) : Dn P w K mg base CX0 1 (He.ga K "_law_cell_at") ["_law_script", "_law_k"] (sp__law_cell_at K) := by
  refine dn_of (k := 0) T.f__law_cell_at sc__law_cell_at (fun _ _ _ _ _ _ us hl => match us, hl with | [_, _], _ => rfl) (fun cdv A outer s H vs Q E hr h => ?_)
  obtain ⟨a, ns, k, rfl, hS, q⟩ := h
  refine ⟨_, PSs.nox (pss_cons (ps_if (pt_cmpR op_ltn (pv 1) (pe_callB (r := rLenSeq K) cr_lenseq (by rfl) T.n_len PySem.boot_len (pa_cons (pv 0) pa_nil)) (nomark _)) (pss_one (ps_ret (pe_ix ix_list (pv 0) (pv 1) (fun _ _ => rfl)))) pss_nil)
      (pss_one (ps_ret (pe_nat 0)))), ?_⟩
  refine ⟨_, rfl, _, rfl, a, _, rfl, .inl hS, _, _, rfl, rfl, _, rfl, ?_⟩
  rw [List.length_map]
  refine ifN (fun c => ?_) (fun c => ?_)
  · refine ⟨_, rfl, _, rfl, a, _, _, _, rfl, rfl, hS, atI_nat (j := k) (v := .int (cell ns k)) ?_, q⟩
    unfold cell
    simp [c]
  · have e : cell ns k = 0 := by unfold cell; simp [List.getD, List.getElem?_eq_none (Nat.not_lt.mp c)]
    rw [e] at q
    exact q

/-! ### lists of lists -/
/-- rows that stand at R: m of them at as, each w numbers long, f i j in the i-th at j -/
def RowsOk (H : Hp) (R : Addr) (as : List Addr) (f : Nat → Nat → Nat) (m w : Nat) : Prop :=
  H R = some (.lst (as.map V.ref)) ∧ as.length = m ∧ R ∉ as ∧ ∀ i a, as[i]? = some a → H a = some (.lst ((List.range w).map fun j => V.int ((f i j : Nat) : Int)))
theorem RowsOk.keep {H H' : Hp} {R : Addr} {as : List Addr} {f : Nat → Nat → Nat} {m w : Nat} (h : RowsOk H R as f m w) (s : Same H H') : RowsOk H' R as f m w := ⟨s _ _ h.1, h.2.1, h.2.2.1, fun i a e => s _ _ (h.2.2.2 i a e)⟩
theorem range_snoc {f : Nat → V} (n : Nat) : (List.range (n + 1)).map f = (List.range n).map f ++ [f n] := by
  rw [List.range_succ, List.map_append]
  rfl
theorem small_line {n : Nat} (h : n ≤ 1000) : n < sizeLine := small1000 h
theorem range_at {f : Nat → V} {n j : Nat} (h : j < n) : ((List.range n).map f)[j]? = some (f j) := by
  simp [h]
/-- one row more -/
theorem RowsOk.more {H : Hp} {R D : Addr} {as : List Addr} {f : Nat → Nat → Nat} {m w : Nat} (h : RowsOk H R as f m w) (nd : R ≠ D) (hd : H D = some (.lst ((List.range w).map fun j => V.int ((f m j : Nat) : Int)))) :
    RowsOk (upd H R (.lst (as.map V.ref ++ [V.ref D]))) R (as ++ [D]) f (m + 1) w := by
  refine ⟨by rw [upd_same, List.map_append]; rfl, by rw [List.length_append, h.2.1]; rfl, ?_, fun i a e => ?_⟩
  · rw [List.mem_append, List.mem_singleton]
    rintro (z | z)
    · exact h.2.2.1 z
    · exact nd z
  · rw [List.getElem?_append] at e
    split at e
    · have ne : a ≠ R := fun z => h.2.2.1 (z ▸ List.mem_of_getElem? e)
      rw [upd_ne ne]
      exact h.2.2.2 i a e
    · rename_i c
      have e2 : i - as.length = 0 := by
        have := (List.getElem?_eq_some_iff.mp e).1
        simp only [List.length_singleton] at this
        omega
      rw [e2] at e
      obtain rfl : D = a := Option.some.inj e
      have e3 : i = m := by rw [← h.2.1]; omega
      rw [e3, upd_ne nd.symm]
      exact hd
theorem RowsOk.ix {K : PySem.W.Frag} {H : Hp} {R : Addr} {as : List Addr} {f : Nat → Nat → Nat} {m w i j : Nat} (h : RowsOk H R as f m w) (hi : i < m) (hj : j < w) :
    ∃ a, SqL K H R (as.map V.ref) ∧ atI (as.map V.ref) (i : Int) = some (.ref a) ∧ SqL K H a ((List.range w).map fun j => V.int ((f i j : Nat) : Int)) ∧ atI ((List.range w).map fun j => V.int ((f i j : Nat) : Int)) (j : Int) = some (.int ((f i j : Nat) : Int)) := by
  obtain ⟨a, ea⟩ : ∃ a, as[i]? = some a := ⟨as[i]'(by rw [h.2.1]; exact hi), List.getElem?_eq_getElem _⟩
  exact ⟨a, SqL.of h.1, atI_nat (by rw [List.getElem?_map, ea]; rfl), SqL.of (h.2.2.2 i a ea), atI_nat (range_at hj)⟩

/-- a dict of ints as a set -/
def DSet (H : Hp) (d : Addr) (P : Int → Prop) (k : Nat) : Prop := ∃ kvs : List (Key × V), H d = some (.dK kvs) ∧ kvs.length ≤ k ∧ ∀ n : Int, (valV kvs (Sum.inl n : Key)).isSome = true ↔ P n
theorem putK_le {kvs : List (Key × V)} (k : Key) (v : V) : (putK kvs k v).length ≤ kvs.length + 1 := by
  unfold putK
  split
  · rw [List.length_map]
    omega
  · rw [List.length_append]
    exact Nat.le_refl _
theorem DSet.put {H : Hp} {d : Addr} {P : Int → Prop} {k : Nat} {kvs : List (Key × V)} (hl : kvs.length ≤ k) (hp : ∀ n : Int, (valV kvs (Sum.inl n : Key)).isSome = true ↔ P n) (n : Int) (v : V) :
    DSet (upd H d (.dK (putK kvs (Sum.inl n : Key) v))) d (fun m => m = n ∨ P m) (k + 1) := by
  refine ⟨_, upd_same, Nat.le_trans (putK_le _ _) (by omega), fun m => ?_⟩
  rw [valV_put]
  split
  · rename_i c
    exact ⟨fun _ => .inl (Sum.inl.inj c), fun _ => rfl⟩
  · rename_i c
    rw [hp]
    exact ⟨.inr, fun h => h.resolve_left fun e => c (congrArg Sum.inl e)⟩

/-! ### games: objects -/
/-- the class of a kind -/
def kC (K : PySem.W.Frag) : Gm.Kind → Addr
  | .still => He.ga K "Game"
  | .heap => He.ga K "Heap"
  | .taking _ => He.ga K "Taking"
  | .skittles _ => He.ga K "Skittles"
  | .parting => He.ga K "Parting"
  | .runs => He.ga K "Runs"
  | .pairs => He.ga K "Pairs"
  | .few _ => He.ga K "Few"
  | .told _ => He.ga K "Told"
/-- the fields, l the list of what is known, x the list of limits or rows -/
def kfs (l x : Addr) : Gm.Kind → List (Str × V)
  | .taking _ => putF "limits" (.ref x) (putF "known" (.ref l) [])
  | .skittles _ => putF "limits" (.ref x) (putF "known" (.ref l) [])
  | .few m => putF "most" (.int (m : Int)) (putF "known" (.ref l) [])
  | .told _ => putF "rows" (.ref x) (putF "known" (.ref l) [])
  | _ => putF "known" (.ref l) []
/-- rows of leads that stand at x -/
def RowsAt (H : Hp) (x : Addr) (rows : List (List (List Nat))) : Prop := ∃ (ps : List Addr) (ass : List (List Addr)), L3 H x ps ass rows
/-- what stands unchanged beside the object -/
def kst (H : Hp) (x : Addr) : Gm.Kind → Prop
  | .taking ls => H x = some (.lst (NL ls))
  | .skittles ls => H x = some (.lst (NL ls))
  | .told rows => RowsAt H x rows
  | _ => True
structure GameAt (K : PySem.W.Frag) (k : Gm.Kind) (H : Hp) (g l x : Addr) (n : Nat) : Prop where
  ob : ∃ dx, H g = some (.ins (kC K k) dx (kfs l x k))
  kn : H l = some (.lst (NL (Gm.nums k.L n)))
  st : ∀ H', (∀ b o, H b = some o → b ≠ l → H' b = some o) → kst H' x k
/-- all but l stands -/
def But (l : Addr) (H H' : Hp) : Prop := ∀ b o, H b = some o → b ≠ l → H' b = some o
theorem But.refl (l : Addr) (H : Hp) : But l H H := fun _ _ e _ => e
theorem But.trans {l : Addr} {H H1 H2 : Hp} (a : But l H H1) (b : But l H1 H2) : But l H H2 := fun c o e h => b c o (a c o e h) h
theorem Same.but {l : Addr} {H H' : Hp} (s : Same H H') : But l H H' := fun b o e _ => s b o e
theorem GameAt.same {K : PySem.W.Frag} {k : Gm.Kind} {H H' : Hp} {g l x : Addr} {n : Nat} (h : GameAt K k H g l x n) (s : Same H H') : GameAt K k H' g l x n := by
  obtain ⟨dx, e⟩ := h.ob
  exact ⟨⟨dx, s _ _ e⟩, s _ _ h.kn, fun H2 b => h.st H2 fun c o e ne => b c o (s c o e) ne⟩
theorem known_ne : ¬ (("known" : Str) = "limits") ∧ ¬ (("known" : Str) = "most") ∧ ¬ (("known" : Str) = "rows") := by decide +kernel
theorem kfs_known (l x : Addr) (k : Gm.Kind) : (kfs l x k).lookup ("known" : Str) = some (.ref l) := by
  obtain ⟨h1, h2, h3⟩ := known_ne
  cases k <;> unfold kfs <;> simp only [lookup_putF, if_neg h1, if_neg h2, if_neg h3, if_pos]
theorem kfs_no (l x : Addr) (k : Gm.Kind) {m : Str} (h1 : ¬ m = "known") (h2 : ¬ m = "limits") (h3 : ¬ m = "most") (h4 : ¬ m = "rows") : (kfs l x k).lookup m = none := by
  cases k <;> unfold kfs <;> simp only [lookup_putF, if_neg h1, if_neg h2, if_neg h3, if_neg h4] <;> rfl
/-- what the classes of the kinds that are made must have -/
structure Games (K : PySem.W.Frag) (ok : Gm.Kind → Prop) : Prop where
  cls : ∀ k, ok k → Cls K (kC K k)
  known : ∀ k, ok k → NoAttr K (kC K k) "known"
  limits : ∀ k, ok k → NoAttr K (kC K k) "limits"
  most : ∀ k, ok k → NoAttr K (kC K k) "most"
  rows : ∀ k, ok k → NoAttr K (kC K k) "rows"
def sp_least_lacking (K : PySem.W.Frag) : Sp := fun vs H Q _ => ∃ (p : Addr) (ns : List Nat), vs = [.ref p] ∧ SqL K H p (NL ns) ∧ ns.length ≤ 1000000 ∧ ∀ H', Same H H' → Q (.int ((Gm.mex ns : Nat) : Int)) H'
theorem NL_at {ns : List Nat} {i : Nat} {v : V} (h : (NL ns)[i]? = some v) : ∃ n : Nat, ns[i]? = some n ∧ v = .int (n : Int) := by
  unfold NL at h
  rw [List.getElem?_map] at h
  cases e : ns[i]? with
  | none =>
    rw [e] at h
    cases h
  | some n =>
    rw [e] at h
    exact ⟨n, rfl, (Option.some.inj h).symm⟩
theorem mil_line {n : Nat} (h : n ≤ 2000000) : n < sizeLine := by rw [sizeLine_eq]; omega
abbrev s_least_lacking : Stmt := top 7
theorem sc_least_lacking : FnScope ["numbers", "there", "number", "found"] ["numbers"] (defScope s_least_lacking) := ⟨rfl, rfl, rfl, by decide +kernel, rfl, by decide +kernel, by decide +kernel⟩
theorem ok_least_lacking (T : Txt K mg) : Dn P w K mg base CX0 1 (He.ga K "least_lacking") ["numbers"] (sp_least_lacking K) := by
  refine dn_of (k := 0) T.f_least_lacking sc_least_lacking (fun _ _ _ _ _ _ us hl => match us, hl with | [_], _ => rfl) (fun cdv A outer s H vs Q E hr h => ?_)
  obtain ⟨p, ns, rfl, hS, hl, q⟩ := h
  refine ⟨_, PSs.nox (pss_cons (ps_set (i := 1) sc_least_lacking.nd rfl (by first | exact Or.inl rfl | exact Or.inr rfl) pe_dnewK)
      (pss_cons (ps_for PassesOwn.never rfl (pi_list (pv 0)) (pg_name (i := 2) sc_least_lacking.nd rfl (by first | exact Or.inl rfl | exact Or.inr rfl))
      (pss_one (ps_dput (hu_of hr) (pv 1) (pv 2) pe_bl rfl)))
      (pss_cons (ps_set (i := 3) sc_least_lacking.nd rfl (by first | exact Or.inl rfl | exact Or.inr rfl) (pe_nat 0))
      (pss_cons (ps_while PassesOwn.never (pt_cmp (pc_din (hu_of hr) (pv 3) (pv 1)))
      (pss_one (ps_aug (i := 3) sc_least_lacking.nd rfl (by first | exact Or.inl rfl | exact Or.inr rfl) (pe_nat 1) iop_addN)))
      (pss_one (ps_ret (pv 3))))))), ?_⟩
  intro d nd
  walk_at "rd"
  refine ⟨⟨_, (Same.upd nd).seq hS⟩, for_list (K := K) (a := p) (xs := NL ns) (fun i σ H' => ∃ v, σ = [some (.ref p), some (.ref d), v, none] ∧ Same H H' ∧ DSet H' d (fun z => ∃ m ∈ ns.take i, z = ((m : Nat) : Int)) i) ⟨none, rfl, Same.upd nd, [], upd_same, Nat.le_refl _, fun z => ⟨fun h => (by cases h), fun ⟨_, h, _⟩ => (by cases h)⟩⟩ (fun i σ H' _ ⟨_, _, s, _⟩ => s.seq hS) ?_ ?_⟩
  · rintro i v σ H' hi ⟨v2, rfl, sm, kvs, h1, h2, h3⟩
    obtain ⟨m, hm, rfl⟩ := NL_at hi
    have hil : i < ns.length := (List.getElem?_eq_some_iff.mp hm).1
    walk_at "rd"
    refine ⟨d, _, rfl, DPut.k (k := Sum.inl _) h1 (mil_line (by omega)), ?_⟩
    refine ⟨_, rfl, Same.put sm nd, ?_⟩
    obtain ⟨kvs', g1, g2, g3⟩ := DSet.put (H := H') (d := d) h2 h3 ((m : Nat) : Int) (.bl true)
    refine ⟨kvs', g1, g2, fun z => (g3 z).trans ⟨?_, ?_⟩⟩
    · rintro (rfl | ⟨m', hm', rfl⟩)
      · exact ⟨m, by rw [List.take_succ, hm]; simp, rfl⟩
      · exact ⟨m', by rw [List.take_succ]; exact List.mem_append_left _ hm', rfl⟩
    · rintro ⟨m', hm', rfl⟩
      rw [List.take_succ, hm] at hm'
      rcases List.mem_append.mp hm' with h | h
      · exact .inr ⟨m', h, rfl⟩
      · simp only [Option.toList_some, List.mem_singleton] at h
        rw [h]
        exact .inl rfl
  · rintro σ H' ⟨v2, rfl, sm, kvs, h1, h2, h3⟩
    rw [NL_length, List.take_length] at h3
    walk_at "rd"
    refine while_m (fun k σ H2 => ∃ f, H2 = H' ∧ k = ns.length + 1 - f ∧ (∀ j, j < f → j ∈ ns) ∧ σ = [some (.ref p), some (.ref d), v2, some (.int (f : Int))]) _ ⟨0, rfl, rfl, fun j h => absurd h (Nat.not_lt_zero j), rfl⟩ ?_
    rintro k σ H2 ⟨f, rfl, rfl, hf, rfl⟩
    have hle := Gm.all_le f ns hf
    walk_at "rd"
    refine ⟨d, _, rfl, DGet.k (k := Sum.inl _) h1, ?_⟩
    walk_at "rd"
    refine ifB (fun c => ?_) (fun c => ?_)
    · obtain ⟨m, hm, em⟩ := (h3 _).mp c
      refine ⟨_, fun _ _ h => h, ?_⟩
      walk_at "rd"
      refine ⟨ns.length + 1 - (f + 1), by omega, f + 1, rfl, rfl, fun j hj => ?_, rfl⟩
      by_cases e : j = f
      · have : m = f := by omega
        rw [e, ← this]
        exact hm
      · exact hf j (by omega)
    · have e : Gm.mex ns = f := Gm.mex_eq ⟨fun hm => by
        have := (h3 (f : Int)).mpr ⟨f, hm, rfl⟩
        rw [c] at this
        exact absurd this Bool.false_ne_true, hf⟩
      have q2 := q H2 sm
      rw [e] at q2
      exact ⟨_, rfl, q2⟩
def sp_together (K : PySem.W.Frag) (k : Gm.Kind) : Sp := fun vs H Q _ => ∃ (g l x : Addr) (n : Nat) (p : Addr) (lead : List Nat), vs = [.ref g, .ref p] ∧ GameAt K k H g l x n ∧ SqL K H p (NL lead) ∧ (∀ q ∈ lead, q < n) ∧ Q (.int ((Gm.xs (Gm.nums k.L n) lead : Nat) : Int)) H
theorem xs_step {ns lead : List Nat} {i q : Nat} (h : lead[i]? = some q) : Gm.xs ns (lead.take (i + 1)) = Gm.xs ns (lead.take i) ^^^ ns.getD q 0 := by
  unfold Gm.xs
  rw [List.take_succ, h, List.foldl_append]
  rfl
abbrev s_Game_together : Stmt := inClass (top 10) 3
theorem sc_Game_together : FnScope ["self", "places", "found", "place"] ["self", "places"] (defScope s_Game_together) := ⟨rfl, rfl, rfl, by decide +kernel, rfl, by decide +kernel, by decide +kernel⟩
theorem ok_Game_together (T : Txt K mg) (ok : Gm.Kind → Prop) (G : Games K ok) (k : Gm.Kind) (hk : ok k) (f : Addr) (F : ∃ fd, FunD K "together" "Game.together" (defArgs (inClass (top 10) 3)) (defBody (inClass (top 10) 3)) (defScope (inClass (top 10) 3)) [] [] f fd) : Dn P w K mg base CX0 1 f ["self", "places"] (sp_together K k) := by
  refine dn_of (k := 0) F sc_Game_together (fun _ _ _ _ _ _ us hl => match us, hl with | [_, _], _ => rfl) (fun cdv A outer s H vs Q E hr h => ?_)
  obtain ⟨g, l, x, n, p, lead, rfl, ga, hS, hlt, q⟩ := h
  obtain ⟨dx, hg⟩ := ga.ob
  refine ⟨_, PSs.nox (pss_cons (ps_set (i := 2) sc_Game_together.nd rfl (by first | exact Or.inl rfl | exact Or.inr rfl) (pe_nat 0))
      (pss_cons (ps_for PassesOwn.never rfl (pi_list (pv 1)) (pg_name (i := 3) sc_Game_together.nd rfl (by first | exact Or.inl rfl | exact Or.inr rfl))
      (pss_one (ps_set (i := 2) sc_Game_together.nd rfl (by first | exact Or.inl rfl | exact Or.inr rfl) (pe_op op_xorn (pv 2) (pe_ix ix_list (pe_fld (pv 0) rfl) (pv 3) (fun _ _ => rfl))))))
      (pss_one (ps_ret (pv 2))))), ?_⟩
  walk_at "rd"
  refine ⟨⟨_, hS⟩, for_list (K := K) (a := p) (xs := NL lead) (fun i σ H' => ∃ v, σ = [some (.ref g), some (.ref p), some (.int ((Gm.xs (Gm.nums k.L n) (lead.take i) : Nat) : Int)), v] ∧ H' = H) ⟨none, rfl, rfl⟩ (fun i σ H' _ ⟨_, _, e⟩ => by rw [e]; exact hS) ?_ ?_⟩
  · rintro i v σ H' hi ⟨v2, rfl, rfl⟩
    obtain ⟨m, hm, rfl⟩ := NL_at hi
    have hmn := hlt m (List.mem_of_getElem? hm)
    walk_at "rd"
    refine ⟨g, _, _, _, _, rfl, hg, G.cls k hk, G.known k hk, kfs_known _ _ _, ?_⟩
    walk_at "rd"
    refine ⟨l, _, _, _, rfl, rfl, SqL.of ga.kn, atI_nat (j := m) (v := .int ((Gm.num k.L m : Nat) : Int)) ?_, ?_⟩
    · unfold NL
      rw [List.getElem?_map, Gm.nums_at k.L hmn]
      rfl
    walk_at "rd"
    refine ⟨some (.int (m : Int)), ?_, rfl⟩
    rw [xs_step hm, Gm.nums_getD k.L hmn]
    rfl
  · rintro σ H' ⟨v2, rfl, rfl⟩
    rw [NL_length, List.take_length]
    exact ⟨_, rfl, q⟩
/-- leads: a new list of new lists -/
def sp_leads (K : PySem.W.Frag) (k : Gm.Kind) : Sp := fun vs H Q E => ∃ (g l x : Addr) (n p : Nat), vs = [.ref g, .int (p : Int)] ∧ GameAt K k H g l x n ∧ p ≤ 100 ∧
  (p < k.top → ∀ (D : Addr) (as : List Addr) H', Same H H' → H D = none → (∀ a ∈ as, H a = none) → LLs H' D as (k.L p) → Q (.ref D) H') ∧ (¬ p < k.top → E (.ref (He.ga K "NotAPlace")) none H)
/-- what is no place of a game with so many -/
def BadPlace (K : PySem.W.Frag) (H : Hp) (top : Nat) (v : V) : Prop :=
  (∃ (t : String) (b1 b2 : Bool), TyX K H v (.type t) ∧ kitB t "int" = some b1 ∧ kitB t "bool" = some b2 ∧ (b1 && !b2) = false) ∨ ∃ i : Int, v = .int i ∧ (i < 0 ∨ 100 < i ∨ (top : Int) ≤ i)
/-- what holds of the kinds that are made -/
structure Kinds (ok : Gm.Kind → Prop) : Prop where
  good : ∀ k, ok k → k.Ok
  top : ∀ k : Gm.Kind, ok k → k.top ≤ 101
  few : ∀ k : Gm.Kind, ok k → ∀ p, p < k.top → (k.L p).length ≤ 1000000
def sp_number (K : PySem.W.Frag) (k : Gm.Kind) : Sp := fun vs H Q E => ∃ (g l x : Addr) (n : Nat) (v : V), vs = [.ref g, v] ∧ GameAt K k H g l x n ∧ n ≤ k.top ∧
  ((∃ p : Nat, v = .int (p : Int) ∧ p < k.top ∧ ∀ n' H', But l H H' → GameAt K k H' g l x n' → n ≤ n' → p < n' → n' ≤ k.top → Q (.int ((Gm.num k.L p : Nat) : Int)) H') ∨
   (BadPlace K H k.top v ∧ ∀ n' H', But l H H' → GameAt K k H' g l x n' → n ≤ n' → n' ≤ k.top → E (.ref (He.ga K "NotAPlace")) none H'))
abbrev s_Game_number : Stmt := inClass (top 10) 4
theorem sc_Game_number : FnScope ["self", "place", "lead"] ["self", "place"] (defScope s_Game_number) := ⟨rfl, rfl, rfl, by decide +kernel, rfl, by decide +kernel, by decide +kernel⟩
theorem ok_Game_number (T : Txt K mg) (ok : Gm.Kind → Prop) (G : Games K ok) (KK : Kinds ok) (DL : Disp P w K mg base (L2.CX P w) 10 "leads" (kC K) ok ["self", "place"] (sp_leads K)) (DT : Disp P w K mg base CX0 10 "together" (kC K) ok ["self", "places"] (sp_together K)) (k : Gm.Kind) (hk : ok k) (d_is_whole : Dn P w K mg base CX0 1 (He.ga K "is_whole") ["number"] (sp_is_whole K)) (d_least_lacking : Dn P w K mg base CX0 1 (He.ga K "least_lacking") ["numbers"] (sp_least_lacking K)) (f : Addr) (F : ∃ fd, FunD K "number" "Game.number" (defArgs (inClass (top 10) 4)) (defBody (inClass (top 10) 4)) (defScope (inClass (top 10) 4)) [] [] f fd) : Dn P w K mg base (L2.CX P w) 20 f ["self", "place"] (sp_number K k) := by
  refine dn_of (k := 19) F sc_Game_number (fun _ _ _ _ _ _ us hl => match us, hl with | [_, _], _ => rfl) (fun cdv A outer s H vs Q E hr h => ?_)
  obtain ⟨g, l, x, n, v, rfl, ga, hn, hv⟩ := h
  have hv' : (∃ (t : String) (b1 b2 : Bool), TyX K H v (.type t) ∧ kitB t "int" = some b1 ∧ kitB t "bool" = some b2 ∧ (b1 && !b2) = false ∧ E (.ref (He.ga K "NotAPlace")) none H) ∨ (∃ i : Int, v = .int i ∧ (i < 0 ∨ 100 < i) ∧ E (.ref (He.ga K "NotAPlace")) none H) ∨
      ∃ p : Nat, v = .int (p : Int) ∧ p ≤ 100 ∧ (p < k.top → ∀ n' H', But l H H' → GameAt K k H' g l x n' → n ≤ n' → p < n' → n' ≤ k.top → Q (.int ((Gm.num k.L p : Nat) : Int)) H') ∧ (¬ p < k.top → ∀ n' H', But l H H' → GameAt K k H' g l x n' → n ≤ n' → n' ≤ k.top → E (.ref (He.ga K "NotAPlace")) none H') := by
    rcases hv with ⟨p, rfl, hp, q⟩ | ⟨⟨t, b1, b2, h1, h2, h3, h4⟩ | ⟨i, rfl, hi⟩, q⟩
    · have := KK.top k hk
      exact .inr (.inr ⟨p, rfl, by omega, fun _ => q, fun c => absurd hp c⟩)
    · exact .inl ⟨t, b1, b2, h1, h2, h3, h4, q n H (But.refl _ _) ga (Nat.le_refl _) hn⟩
    · by_cases c : i < 0 ∨ 100 < i
      · exact .inr (.inl ⟨i, rfl, c, q n H (But.refl _ _) ga (Nat.le_refl _) hn⟩)
      · obtain ⟨p, rfl⟩ := Int.eq_ofNat_of_zero_le (show 0 ≤ i by omega)
        exact .inr (.inr ⟨p, rfl, by omega, fun z => by omega, fun _ => q⟩)
  refine ⟨_, (pss_cons (ps_if (PW.pt (pw_or (pt_not (pt_val (pe_cl d_is_whole (hr.mono (by omega)) T.g_is_whole pass0 (pa_cons (pv 1) pa_nil)))) (pw_or (pt_cmpR op_lt (pv 1) pe_int (nomark _)) (pw_or1 (pt_cmpR op_gt (pv 1) (pe_gint T.c_MOST) (nomark _)))))) (pss_one (ps_raise rfl (takes_of rfl rfl rfl rfl) (pmk_own PySem.F.excBase_ValueError T.x_NotAPlace.1 T.g_NotAPlace T.x_NotAPlace.2.1 (raises_own T.x_NotAPlace.2.2.1 T.x_NotAPlace.2.2.2) (by exact rfl)))) pss_nil)
      (pss_cons (ps_while (passes_of rfl) (pt_cmpR op_le (pe_callB (r := rLenSeq K) cr_lenseq (by rfl) T.n_len PySem.boot_len (pa_cons (pe_fld (pv 0) rfl) pa_nil)) (pv 1) (nomark _))
      (pss_one (ps_expr (pe_bm PySem.F.plainAttrs_list PySem.F.slot_list_append PySem.F.type_list_append mt_append (pe_fld (pv 0) rfl) (pa_cons (pe_cl d_least_lacking (hr.mono (by omega)) T.g_least_lacking pass0 (pa_cons (pe_lc (own := [("lead", 2)]) (g := gName 2) (by rfl) sc_Game_number.nd (pi_list (pe_mf (DL) (hr.mono (by omega)) (passes_call (takes_of rfl rfl rfl rfl) (fun _ _ _ _ h => h)) (pv 0) (pa_cons (pe_callB (r := rLenSeq K) cr_lenseq (by rfl) T.n_len PySem.boot_len (pa_cons (pe_fld (pv 0) rfl) pa_nil)) pa_nil))) (blkOk_by (own := [("lead", 2)]) (N := ["self", "place", "lead"]) (sc := defScope (s_Game_number)) (by decide +kernel)) (fun _ _ _ _ _ => pg_name (i := 2) sc_Game_number.nd rfl (by first | exact Or.inl rfl | exact Or.inr rfl)) (fun _ _ _ _ _ => pts_nil) (fun _ _ _ _ _ => (pe_mf (DT) (hr.mono (by omega)) pass0 (pv 0) (pa_cons (pv 2) pa_nil)))) pa_nil)) pa_nil)))))
      (pss_one (ps_ret (pe_ix ix_list (pe_fld (pv 0) rfl) (pv 1) (fun _ _ => rfl)))))), ?_⟩
  rcases hv' with ⟨t, b1, b2, h1, h2, h3, h4, q⟩ | ⟨i, rfl, hi, q⟩ | ⟨p, rfl, hp, qv, qb⟩
  · walk_at "rd"
    refine ⟨v, t, b1, b2, rfl, h1, h2, h3, ?_⟩
    rw [h4]
    walk_at "rd"
    exact q
  · walk_at "rd"
    refine whole_int ?_
    walk_at "rd"
    refine ifN (fun _ => q) (fun c => ?_)
    walk_at "rd"
    refine ifN (fun _ => q) (fun c2 => ?_)
    exact absurd hi (by omega)
  · walk_at "rd"
    refine whole_int ?_
    walk_at "rd"
    refine ifN (fun c => absurd c (by omega)) (fun _ => ?_)
    refine while_m (fun m σ H' => ∃ n' v2, σ = [some (.ref g), some (.int (p : Int)), v2] ∧ m = p + 1 - n' ∧ But l H H' ∧ GameAt K k H' g l x n' ∧ n ≤ n' ∧ n' ≤ k.top) _ ⟨n, none, rfl, rfl, But.refl _ _, ga, Nat.le_refl _, hn⟩ ?_
    rintro m σ H1 ⟨n', v2, rfl, rfl, bt, ga1, hnn, hnt⟩
    obtain ⟨dx1, hg1⟩ := ga1.ob
    walk_at "rd"
    refine ⟨g, _, _, _, _, rfl, hg1, G.cls k hk, G.known k hk, kfs_known _ _ _, ?_⟩
    walk_at "rd"
    refine ⟨l, _, rfl, .inl (SqL.of ga1.kn), ?_⟩
    walk_at "rd"
    rw [NL_length, Gm.nums_length]
    refine ifN (fun c => ?_) (fun c => ?_)
    · refine ⟨_, fun _ _ h => h, ?_⟩
      walk_at "rd"
      refine ⟨g, _, _, _, _, rfl, hg1, G.cls k hk, G.known k hk, kfs_known _ _ _, ?_⟩
      walk_at "rd"
      refine ⟨.inl ⟨rfl, _, SqL.of ga1.kn⟩, ?_⟩
      walk_at "rd"
      refine ⟨k, g, _, _, hk, rfl, hg1, kfs_no _ _ _ (by decide +kernel) (by decide +kernel) (by decide +kernel) (by decide +kernel), ?_⟩
      walk_at "rd"
      refine ⟨g, _, _, _, _, rfl, hg1, G.cls k hk, G.known k hk, kfs_known _ _ _, ?_⟩
      walk_at "rd"
      refine ⟨l, _, rfl, .inl (SqL.of ga1.kn), ?_⟩
      walk_at "rd"
      refine ⟨g, l, x, n', n', by rw [NL_length, Gm.nums_length], ga1, by omega, fun hn' D as H2 s2 nD nas lls => ?_, fun c => qb (by omega) n' H1 bt ga1 hnn hnt⟩
      walk_at "rd"
      refine ⟨⟨_, SqL.of lls.top⟩, fun E' nE => ?_⟩
      have ga2 := ga1.same s2
      refine lc_list (K := K) (a := D) (xs := as.map V.ref) (fun i H3 => H3 E' = some (.lst (NL (((k.L n').take i).map (Gm.xs (Gm.nums k.L n'))))) ∧ Same H2 H3) ⟨upd_same, Same.upd nE⟩ (fun i H3 _ h => SqL.of (h.2 _ _ lls.top)) ?_ ?_
      · rintro i v H3 hi ⟨hE, s3⟩
        obtain ⟨a, ea, rfl⟩ : ∃ a, as[i]? = some a ∧ v = V.ref a := by
          rw [List.getElem?_map] at hi
          cases e : as[i]? with
          | none =>
            rw [e] at hi
            cases hi
          | some a =>
            rw [e] at hi
            exact ⟨a, rfl, (Option.some.inj hi).symm⟩
        have hil : i < (k.L n').length := by rw [← lls.len]; exact (List.getElem?_eq_some_iff.mp ea).1
        obtain ⟨lead, el⟩ : ∃ lead, (k.L n')[i]? = some lead := ⟨_, List.getElem?_eq_getElem hil⟩
        have ga3 := ga2.same s3
        obtain ⟨dx3, hg3⟩ := ga3.ob
        walk_at "rd"
        refine ⟨k, g, _, _, hk, rfl, hg3, kfs_no _ _ _ (by decide +kernel) (by decide +kernel) (by decide +kernel) (by decide +kernel), ?_⟩
        walk_at "rd"
        refine ⟨g, l, x, n', a, lead, rfl, ga3, SqL.of (s3 _ _ (lls.row i a lead ea el)), fun q hq => Gm.Kind.lesser (KK.good k hk) n' lead (List.mem_of_getElem? el) q hq, ?_⟩
        refine ⟨_, hE, mil_line (by have := KK.few k hk n' hn'; rw [NL_length, List.length_map, List.length_take]; omega), ?_, Same.put s3 nE⟩
        rw [upd_same, List.take_succ, el, List.map_append]
        unfold NL
        rw [List.map_append]
        rfl
      · rintro H3 ⟨hE, s3⟩
        rw [List.length_map, lls.len, List.take_length] at hE
        walk_at "rd"
        refine ⟨_, _, rfl, SqL.of hE, by rw [List.length_map]; exact KK.few k hk n' hn', fun H4 s4 => ?_⟩
        have ga4 := (ga2.same s3).same s4
        have tp := KK.top k hk
        walk_at "rd"
        refine ⟨l, _, _, rfl, rfl, ga4.kn, mil_line (by rw [NL_length, Gm.nums_length]; omega), ?_⟩
        have b4 : But l H (upd H4 l (.lst (NL (Gm.nums k.L n') ++ [V.int ((Gm.num k.L n' : Nat) : Int)]))) := fun b o e ne => by
          rw [upd_ne ne]
          exact s4 _ _ (s3 _ _ (s2 _ _ (bt b o e ne)))
        have lg : l ≠ g := fun e => by
          have h1 := ga4.kn
          obtain ⟨dx4, hg4⟩ := ga4.ob
          rw [e, hg4] at h1
          cases h1
        refine ⟨p + 1 - (n' + 1), by omega, n' + 1, v2, rfl, rfl, b4, ⟨?_, ?_, ?_⟩, by omega, by omega⟩
        · obtain ⟨dx4, hg4⟩ := ga4.ob
          exact ⟨dx4, by rw [upd_ne lg.symm]; exact hg4⟩
        · rw [upd_same, Gm.nums_succ]
          unfold NL
          rw [List.map_append]
          rfl
        · exact fun H' b => ga4.st H' fun c o e ne => b c o (by rw [upd_ne ne]; exact e) ne
    · walk_at "rd"
      refine ⟨g, _, _, _, _, rfl, hg1, G.cls k hk, G.known k hk, kfs_known _ _ _, ?_⟩
      walk_at "rd"
      have hpn : p < n' := by omega
      refine ⟨l, _, _, _, rfl, rfl, SqL.of ga1.kn, atI_nat (j := p) (v := .int ((Gm.num k.L p : Nat) : Int)) ?_, ?_⟩
      · unfold NL
        rw [List.getElem?_map, Gm.nums_at k.L hpn]
        rfl
      exact qv (by omega) n' H1 bt ga1 hnn hpn hnt

/-! ### leads, class by class -/
theorem range_snocN {α : Type} (f : Nat → α) (n : Nat) : (List.range (n + 1)).map f = (List.range n).map f ++ [f n] := by
  rw [List.range_succ, List.map_append]
  rfl
abbrev s_Game_leads : Stmt := inClass (top 10) 1
theorem sc_Game_leads : FnScope ["self", "place"] ["self", "place"] (defScope s_Game_leads) := ⟨rfl, rfl, rfl, by decide +kernel, rfl, by decide +kernel, by decide +kernel⟩
theorem ok_Game_leads (T : Txt K mg) (f : Addr) (F : ∃ fd, FunD K "leads" "Game.leads" (defArgs (inClass (top 10) 1)) (defBody (inClass (top 10) 1)) (defScope (inClass (top 10) 1)) [] [] f fd) : Dn P w K mg base (L2.CX P w) 10 f ["self", "place"] (sp_leads K .still) := by
  refine dn_of (k := 9) F sc_Game_leads (fun _ _ _ _ _ _ us hl => match us, hl with | [_, _], _ => rfl) (fun cdv A outer s H vs Q E hr h => ?_)
  obtain ⟨g, l, x, n, p, rfl, ga, hp, q, _⟩ := h
  refine ⟨_, (pss_one (ps_ret (pe_lst pa_nil))), ?_⟩
  refine ⟨by show 0 ≤ sizeLine; decide, fun D nD => ?_⟩
  exact q (by show p < 101; omega) D [] _ (Same.upd nD) nD (fun a h => by cases h) (.nil upd_same)

/-! ### games made -/
/-- what is no whole number -/
def NoW (K : PySem.W.Frag) (H : Hp) (v : V) : Prop := ∃ (t : String) (b1 b2 : Bool), TyX K H v (.type t) ∧ kitB t "int" = some b1 ∧ kitB t "bool" = some b2 ∧ (b1 && !b2) = false
/-- types stand while all but instances stands -/
theorem tyx_but {K : PySem.W.Frag} {H H' : Hp} {v : V} {t : String} (h : TyX K H v (.type t)) (s : ∀ b o, H b = some o → (∀ C dx fs, o ≠ .ins C dx fs) → H' b = some o) : TyX K H' v (.type t) := by
  cases h with
  | base b =>
    cases b with
    | non => exact .base .non
    | bl y => exact .base (.bl y)
    | int i => exact .base (.int i)
    | str y => exact .base (.str y)
    | flt y => exact .base (.flt y)
    | lst e => exact .base (.lst (s _ _ e fun _ _ _ => by intro z; cases z))
    | frz e => exact .base (.frz (s _ _ e fun _ _ _ => by intro z; cases z))
    | tup e => exact .base (.tup (s _ _ e fun _ _ _ => by intro z; cases z))
    | dK e => exact .base (.dK (s _ _ e fun _ _ _ => by intro z; cases z))
    | dT e => exact .base (.dT (s _ _ e fun _ _ _ => by intro z; cases z))
  | byt b => exact .byt b
  | set e => exact .set (s _ _ e fun _ _ _ => by intro z; cases z)
  | kList e c => exact .kList e c
  | kTuple e c => exact .kTuple e c
  | kDict e c => exact .kDict e c
  | fTuple e => exact .fTuple (s _ _ e fun _ _ _ => by intro z; cases z)
  | fDict e => exact .fDict (s _ _ e fun _ _ _ => by intro z; cases z)
theorem now_but {K : PySem.W.Frag} {H H' : Hp} {v : V} (h : NoW K H v) (s : ∀ b o, H b = some o → (∀ C dx fs, o ≠ .ins C dx fs) → H' b = some o) : NoW K H' v := by
  obtain ⟨t, b1, b2, h1, h2, h3, h4⟩ := h
  exact ⟨t, b1, b2, tyx_but h1 s, h2, h3, h4⟩
theorem now_same {K : PySem.W.Frag} {H H' : Hp} {v : V} (h : NoW K H v) (s : Same H H') : NoW K H' v := now_but h fun b o e _ => s b o e
/-- the first of us that spoils the rising row -/
def LimBad (K : PySem.W.Frag) (H : Hp) (us : List V) : Prop := us = [] ∨ ∃ (ls : List Nat) (u : V) (r : List V), us = NL ls ++ u :: r ∧ ls.Pairwise (· < ·) ∧ (∀ l ∈ ls, 1 ≤ l ∧ l ≤ 12) ∧ (NoW K H u ∨ ∃ i : Int, u = .int i ∧ (i ≤ ((ls.getLastD 0 : Nat) : Int) ∨ 12 < i))
def BadLimits (K : PySem.W.Frag) (H : Hp) (v : V) : Prop := (∃ t : String, TyX K H v (.type t) ∧ kitB t "list" = some false ∧ kitB t "tuple" = some false) ∨ ∃ (a : Addr) (us : List V), v = .ref a ∧ LT H a us ∧ LimBad K H us
theorem badlimits_but {K : PySem.W.Frag} {H H' : Hp} {v : V} (h : BadLimits K H v) (s : ∀ b o, H b = some o → (∀ C dx fs, o ≠ .ins C dx fs) → H' b = some o) : BadLimits K H' v := by
  rcases h with ⟨t, h1, h2⟩ | ⟨a, us, rfl, h1, h2⟩
  · exact .inl ⟨t, tyx_but h1 s, h2⟩
  · refine .inr ⟨a, us, rfl, h1.elim (fun e => .inl (s _ _ e fun _ _ _ => by intro z; cases z)) fun e => .inr (s _ _ e fun _ _ _ => by intro z; cases z), ?_⟩
    rcases h2 with h | ⟨ls, u, r, e, h3, h4, h5 | h5⟩
    · exact .inl h
    · exact .inr ⟨ls, u, r, e, h3, h4, .inl (now_but h5 s)⟩
    · exact .inr ⟨ls, u, r, e, h3, h4, .inr h5⟩
theorem getLastD_take_succ {ls : List Nat} {i m : Nat} (h : ls[i]? = some m) : (ls.take (i + 1)).getLastD 0 = m := by
  rw [List.take_succ, h]
  simp
theorem rise_at {ls : List Nat} (hp : ls.Pairwise (· < ·)) (h1 : ∀ l ∈ ls, 1 ≤ l ∧ l ≤ 12) {i m : Nat} (h : ls[i]? = some m) : (ls.take i).getLastD 0 < m := by
  by_cases c : i = 0
  · subst c
    exact (h1 m (List.mem_of_getElem? h)).1
  · obtain ⟨j, rfl⟩ : ∃ j, i = j + 1 := ⟨i - 1, by omega⟩
    have hj : j + 1 < ls.length := (List.getElem?_eq_some_iff.mp h).1
    obtain ⟨m', e'⟩ : ∃ m', ls[j]? = some m' := ⟨_, List.getElem?_eq_getElem (by omega)⟩
    rw [getLastD_take_succ e']
    have := List.pairwise_iff_getElem.mp hp j (j + 1) (by omega) hj (by omega)
    rw [List.getElem?_eq_getElem (by omega)] at e'
    rw [List.getElem?_eq_getElem hj] at h
    rw [← Option.some.inj e', ← Option.some.inj h]
    exact this
def sp_ginit (C : Addr) : Sp := fun vs H Q _ => ∃ (a dx : Addr) (fs : List (Str × V)), vs = [.ref a] ∧ H a = some (.ins C dx fs) ∧ fs.length < 1000 ∧ ∀ l, H l = none → Q .non (upd (upd H l (.lst [])) a (.ins C dx (putF "known" (.ref l) fs)))
abbrev s_Game___init__ : Stmt := inClass (top 10) 0
theorem sc_Game___init__ : FnScope ["self"] ["self"] (defScope s_Game___init__) := ⟨rfl, rfl, rfl, by decide +kernel, rfl, by decide +kernel, by decide +kernel⟩
theorem ok_Game___init__ (T : Txt K mg) (C : Addr) (cC : Cls K C) (nC : NoAttr K C "known") (f : Addr) (F : ∃ fd, FunD K "__init__" "Game.__init__" (defArgs (inClass (top 10) 0)) (defBody (inClass (top 10) 0)) (defScope (inClass (top 10) 0)) [] [] f fd) : Dn P w K mg base CX0 2 f ["self"] (sp_ginit C) := by
  refine dn_of (k := 1) F sc_Game___init__ (fun _ _ _ _ _ _ us hl => match us, hl with | [_], _ => rfl) (fun cdv A outer s H vs Q E hr h => ?_)
  obtain ⟨a, dx, fs, rfl, ha, hl, q⟩ := h
  refine ⟨_, PSs.nox (pss_one (ps_fld (pv 0) (pe_lst pa_nil) rfl)), ?_⟩
  refine ⟨by show 0 ≤ sizeLine; decide, fun l nl => ?_⟩
  walk_at "rl"
  exact ⟨a, C, dx, fs, rfl, Same.upd nl _ _ ha, cC, nC, hl, q l nl⟩
/-! ### how many leads a place has -/
theorem few_le {k : Gm.Kind} (ok : k.Ok) (nt : match k with | .told _ => False | _ => True) {p : Nat} (hp : p ≤ 100) : (k.L p).length ≤ 1000000 := by
  cases k with
  | still => exact Nat.zero_le _
  | heap => show ((List.range p).map _).length ≤ _; rw [List.length_map, List.length_range]; omega
  | taking ls =>
    have h1 : (Gm.rests ls p).length ≤ 12 := by
      unfold Gm.rests
      rw [List.length_map]
      refine Nat.le_trans (List.length_filter_le _ _) ?_
      rw [List.length_reverse]
      exact Gm.Rising.len ok
    show ((Gm.rests ls p).map _).length ≤ _
    rw [List.length_map]
    omega
  | skittles ls =>
    have h1 : (Gm.rests ls p).length ≤ 12 := by
      unfold Gm.rests
      rw [List.length_map]
      refine Nat.le_trans (List.length_filter_le _ _) ?_
      rw [List.length_reverse]
      exact Gm.Rising.len ok
    have h2 : ∀ (rs : List Nat), (∀ r ∈ rs, r ≤ 100) → (rs.flatMap fun r => (List.range (r / 2 + 1)).map fun q => [q, r - q]).length ≤ 51 * rs.length := by
      intro rs
      induction rs with
      | nil => intro _; exact Nat.zero_le _
      | cons r t ih =>
        intro h
        have h1 := ih fun m hm => h m (List.mem_cons_of_mem _ hm)
        have h2 := h r List.mem_cons_self
        rw [List.flatMap_cons, List.length_append, List.length_map, List.length_range, List.length_cons]
        omega
    have h3 := h2 (Gm.rests ls p) fun r hr => by have := Gm.rests_lt ok hr; omega
    show (List.flatMap _ _).length ≤ _
    omega
  | parting => show ((List.range' 1 _).map _).length ≤ _; rw [List.length_map, List.length_range']; omega
  | runs => show ((List.range (p + 1)).map _).length ≤ _; rw [List.length_map, List.length_range]; omega
  | pairs => show ((List.range p).map _).length ≤ _; rw [List.length_map, List.length_range]; omega
  | few m =>
    have hl : ∀ rows : List (List Nat), (Gm.longer rows p).length ≤ rows.length * p := by
      intro rows
      induction rows with
      | nil => exact Nat.zero_le _
      | cons row t ih =>
        unfold Gm.longer at ih ⊢
        rw [List.flatMap_cons, List.length_append, List.length_map, List.length_range', List.length_cons, Nat.succ_mul]
        omega
    have h0 : (Gm.fewN p 0).length = 1 := rfl
    have h1 := hl (Gm.fewN p 0)
    have h2 := hl (Gm.fewN p 1)
    rw [h0, Nat.one_mul] at h1
    have e1 : (Gm.fewN p 1).length ≤ 100 := Nat.le_trans h1 hp
    have e2 : (Gm.fewN p 2).length ≤ 10000 := Nat.le_trans h2 (Nat.mul_le_mul e1 hp)
    have ok : 1 ≤ m ∧ m ≤ 3 := ok
    have hm : m = 1 ∨ m = 2 ∨ m = 3 := by omega
    rcases hm with rfl | rfl | rfl
    · show (Gm.fewAll p 0).length ≤ _
      exact (by decide : 1 ≤ 1000000)
    · show (Gm.fewAll p 0 ++ Gm.fewN p 1).length ≤ _
      rw [List.length_append]
      have : (Gm.fewAll p 0).length = 1 := rfl
      omega
    · show ((Gm.fewAll p 0 ++ Gm.fewN p 1) ++ Gm.fewN p 2).length ≤ _
      rw [List.length_append, List.length_append]
      have : (Gm.fewAll p 0).length = 1 := rfl
      omega
  | told rows => exact nt.elim
theorem told_le {rows : List (List (List Nat))} (h : Gm.Kind.Ok (.told rows) ∧ ∀ leads ∈ rows, leads.length ≤ 1000000) (p : Nat) : ((Gm.Kind.told rows).L p).length ≤ 1000000 := by
  show (rows.getD p []).length ≤ _
  rw [List.getD_eq_getElem?_getD]
  cases e : rows[p]? with
  | none => exact Nat.zero_le _
  | some leads => exact h.2 leads (List.mem_of_getElem? e)

theorem mk_plain {K : PySem.W.Frag} {k : Gm.Kind} (hk : k = .still ∨ k = .heap ∨ k = .parting ∨ k = .runs ∨ k = .pairs) {H : Hp} {g l dx : Addr} (hg : H g = some (.ins (kC K k) dx (putF "known" (.ref l) []))) (hl : H l = some (.lst [])) : GameAt K k H g l l 0 := by
  rcases hk with rfl | rfl | rfl | rfl | rfl <;> exact ⟨⟨dx, hg⟩, hl, fun _ _ => trivial⟩
/-- from ahead of the making -/
theorem made_same {H H' : Hp} {x dx C : Addr} (hx : H x = none) (hd : H dx = none) (b : ∀ c o, upd (upd H dx (.own x)) x (.ins C dx []) c = some o → c ≠ x → H' c = some o) : Same H H' := fun c o e => by
  have h1 : c ≠ x := ne_of_none e hx
  have h2 : c ≠ dx := ne_of_none e hd
  exact b c o (by rw [upd_ne h1, upd_ne h2]; exact e) h1
theorem none2 {H : Hp} {x dx C l : Addr} (h : upd (upd H dx (.own x)) x (.ins C dx []) l = none) : H l = none := by
  have h1 : l ≠ x := fun e => by rw [e, upd_same] at h; cases h
  have h2 : l ≠ dx := fun e => by rw [upd_ne h1, e, upd_same] at h; cases h
  rwa [upd_ne h1, upd_ne h2] at h
/-- C(): what is left to be shown, behind intro x dx nx nd ne -/
theorem few_plain {K : PySem.W.Frag} {C : Addr} (k : Gm.Kind) (hk : k = .still ∨ k = .heap ∨ k = .parting ∨ k = .runs ∨ k = .pairs) (hC : kC K k = C) {H : Hp} {R : VK} {E : XK} {x dx : Addr} (nx : H x = none) (nd : H dx = none) (ne : dx ≠ x)
    (q : ∀ l H', Same H H' → GameAt K k H' x l l 0 → H l = none → l ≠ x → R .non H') : few ["self"] (sp_ginit C) [.ref x] (upd (upd H dx (.own x)) x (.ins C dx [])) R E := by
  refine ⟨rfl, x, dx, [], rfl, upd_same, by simp, fun l nl => ?_⟩
  have lx : l ≠ x := fun e => by rw [e, upd_same] at nl; cases nl
  refine q l _ (made_same (C := C) nx nd fun c o e h => ?_) (mk_plain hk (by rw [hC]; exact upd_same) ?_) (none2 nl) lx
  · rw [upd_ne h]
    exact Same.upd nl _ _ e
  · rw [upd_ne lx, upd_same]
/-- ifs whose tests are settled -/
local macro_rules | `(tactic| walk_at "ks") => `(tactic| repeat (first
  | (refine ifN (fun c => absurd c (by decide)) (fun _ => ?_))
  | (refine ifN (fun _ => ?_) (fun c => absurd (by decide) c))
  | (refine iteT ?_)
  | (refine iteF ?_)
  | (refine ⟨_, rfl, ?_⟩)
  | (refine ⟨_, _, rfl, rfl, ?_⟩)
  | (refine ⟨rfl, ?_⟩)))

/-! ### names -/
/-- a number as a text -/
def nS (n : Nat) : Str := Str.ofString (toString ((n : Nat) : Int))
theorem nS_len {n : Nat} (h : n < 1000) : (nS n).length ≤ 3 := by
  rw [TL.len_tl]
  unfold nS
  rw [TL.tl_num]
  exact TL.numL_len (by decide) (by omega)
/-- limits with blanks between -/
def wordsOf (ls : List Nat) : Str := Txt.join (Str.ofString " ") (ls.map nS)
def nameOf : Gm.Kind → Str
  | .still => "still"
  | .heap => "heap"
  | .taking ls => Str.ofString "taking " ++ wordsOf ls
  | .skittles ls => Str.ofString "skittles " ++ wordsOf ls
  | .parting => "parting"
  | .runs => "runs"
  | .pairs => "pairs"
  | .few m => Str.ofString "few " ++ nS m
  | .told rows => Str.ofString "told " ++ nS rows.length
def sp_name (K : PySem.W.Frag) (k : Gm.Kind) : Sp := fun vs H Q _ => ∃ (g l x : Addr) (n : Nat), vs = [.ref g] ∧ GameAt K k H g l x n ∧ ∀ H', Same H H' → Q (.str (nameOf k)) H'
theorem nS_log {n : Nat} (h : n < 1000) : ((n : Nat) : Int).natAbs.log2 < 1920 := by
  have e : ((n : Nat) : Int).natAbs = n := rfl
  rw [e]
  by_cases c : n = 0
  · rw [c]; decide
  · have := (Nat.log2_lt c).mpr (show n < 2 ^ 1920 from Nat.lt_of_lt_of_le h (by decide +kernel))
    exact this
theorem sum_le_mul {xs : List Nat} {b : Nat} (h : ∀ x ∈ xs, x ≤ b) : xs.sum ≤ xs.length * b := by
  induction xs with
  | nil => exact Nat.zero_le _
  | cons a t ih =>
    have h1 := h a List.mem_cons_self
    have h2 := ih fun y hy => h y (List.mem_cons_of_mem _ hy)
    rw [List.sum_cons, List.length_cons, Nat.succ_mul]
    omega
theorem small_join {ls : List Nat} (hl : ls.length ≤ 1000) (h : ∀ n ∈ ls, n < 1000) : ((ls.map nS).map (·.length)).sum + (ls.map nS).length * (Str.ofString " ").length ≤ 16777216 := by
  have h1 : ((ls.map nS).map (·.length)).sum ≤ ((ls.map nS).map (·.length)).length * 3 := sum_le_mul fun x hx => by
    obtain ⟨y, hy, rfl⟩ := List.mem_map.mp hx
    obtain ⟨z, hz, rfl⟩ := List.mem_map.mp hy
    exact nS_len (h z hz)
  have h2 : (Str.ofString " ").length = 1 := by decide +kernel
  rw [h2]
  simp only [List.length_map] at h1 ⊢
  omega
theorem wordsOf_len {ls : List Nat} (hl : ls.length ≤ 1000) (h : ∀ n ∈ ls, n < 1000) : (wordsOf ls).length ≤ 4000 := by
  unfold wordsOf
  rw [TL.join_eq]
  refine Nat.le_trans (StrLaws.join_length_le _ _) ?_
  have h1 : ((ls.map nS).map (·.length)).sum ≤ ((ls.map nS).map (·.length)).length * 3 := sum_le_mul fun x hx => by
    obtain ⟨y, hy, rfl⟩ := List.mem_map.mp hx
    obtain ⟨z, hz, rfl⟩ := List.mem_map.mp hy
    exact nS_len (h z hz)
  have h2 : (Str.ofString " ").length = 1 := by decide +kernel
  rw [h2]
  simp only [List.length_map] at h1 ⊢
  omega
/-- words put behind, each with a blank ahead -/
def wl (base : Str) (ls : List Nat) : Str := ls.foldl (fun w l => w ++ Str.ofString " " ++ nS l) base
theorem wl_snoc (base : Str) (ls : List Nat) {i m : Nat} (h : ls[i]? = some m) : wl base (ls.take (i + 1)) = wl base (ls.take i) ++ Str.ofString " " ++ nS m := by
  unfold wl
  rw [List.take_succ, h, List.foldl_append]
  rfl
theorem tl_wl : ∀ (ls : List Nat) (base : Str), TL.tl (wl base ls) = TL.tl base ++ ls.flatMap fun l => TL.tl (Str.ofString " ") ++ TL.tl (nS l)
  | [], base => by simp [wl]
  | l :: r, base => by
    show TL.tl (wl (base ++ Str.ofString " " ++ nS l) r) = _
    rw [tl_wl r, TL.tl_append, TL.tl_append, List.flatMap_cons, List.append_assoc, List.append_assoc, List.append_assoc]
theorem joinL_cons (S p : List Nat) : ∀ r : List (List Nat), TL.joinL S (p :: r) = p ++ r.flatMap fun x => S ++ x
  | [] => (List.append_nil p).symm
  | x :: r => by
    show p ++ (S ++ TL.joinL S (x :: r)) = _
    rw [joinL_cons S x r, List.flatMap_cons, List.append_assoc]
theorem wl_words (base : Str) {ls : List Nat} (h : ls ≠ []) : wl base ls = base ++ Str.ofString " " ++ wordsOf ls := by
  refine TL.ext_tl ?_
  rw [tl_wl, TL.tl_append, TL.tl_append]
  unfold wordsOf
  rw [TL.join_eq, TL.tl_join]
  cases ls with
  | nil => exact absurd rfl h
  | cons l r =>
    rw [List.map_cons, List.map_cons, joinL_cons, List.flatMap_cons, List.flatMap_map, List.flatMap_map, List.append_assoc, List.append_assoc]
theorem wl_len {base : Str} : ∀ {ls : List Nat}, (∀ n ∈ ls, n < 1000) → (wl base ls).length ≤ base.length + 4 * ls.length
  | ls, h => by
    rw [TL.len_tl, tl_wl, List.length_append, ← TL.len_tl]
    have : ∀ ls : List Nat, (∀ n ∈ ls, n < 1000) → (ls.flatMap fun l => TL.tl (Str.ofString " ") ++ TL.tl (nS l)).length ≤ 4 * ls.length := by
      intro ls
      induction ls with
      | nil => intro _; exact Nat.le_refl _
      | cons l r ih =>
        intro h
        have h1 := ih fun n hn => h n (List.mem_cons_of_mem _ hn)
        have h2 := nS_len (h l List.mem_cons_self)
        have h3 : (TL.tl (Str.ofString " ")).length = 1 := by decide +kernel
        rw [TL.len_tl] at h2
        rw [List.flatMap_cons, List.length_append, List.length_append, List.length_cons, h3]
        omega
    have := this ls h
    omega
theorem str_line {n : Nat} (h : n ≤ 1000000) : n ≤ sizeLine := by rw [sizeLine_eq]; omega
abbrev s_Game_name : Stmt := inClass (top 10) 2
theorem sc_Game_name : FnScope ["self"] ["self"] (defScope s_Game_name) := ⟨rfl, rfl, rfl, by decide +kernel, rfl, by decide +kernel, by decide +kernel⟩
theorem ok_Game_name (T : Txt K mg) : Dn P w K mg base CX0 9 (He.ma K (He.ga K "Game") "name") ["self"] (sp_name K .still) := by
  refine dn_of (k := 8) T.f_Game_name sc_Game_name (fun _ _ _ _ _ _ us hl => match us, hl with | [_], _ => rfl) (fun cdv A outer s H vs Q E hr h => ?_)
  obtain ⟨g, l, x, n, rfl, ga, q⟩ := h
  refine ⟨_, PSs.nox (pss_one (ps_ret pe_str)), ?_⟩
  exact q _ (Same.refl _)

/-! ### told games -/
theorem noL {xs : List V} : ∀ (C dx : Addr) (fs : List (Str × V)), (HO.lst xs) ≠ .ins C dx fs := fun _ _ _ z => by cases z
/-- a lead that is none: at a place p -/
def LeadNo (K : PySem.W.Frag) (H : Hp) (p : Nat) (v : V) : Prop := (∃ t : String, TyX K H v (.type t) ∧ kitB t "list" = some false) ∨
  ∃ (a : Addr) (ls : List Nat) (u : V) (r : List V), v = .ref a ∧ H a = some (.lst (NL ls ++ u :: r)) ∧ (∀ l ∈ ls, l < p) ∧ (NoW K H u ∨ ∃ i : Int, u = .int i ∧ (i < 0 ∨ (p : Int) ≤ i))
def LeadYes (H : Hp) (p : Nat) (v : V) (ls : List Nat) : Prop := ∃ a : Addr, v = .ref a ∧ H a = some (.lst (NL ls)) ∧ ∀ l ∈ ls, l < p
/-- whether it is one -/
def LeadB (K : PySem.W.Frag) (H : Hp) (p : Nat) (v : V) (b : Bool) : Prop := (b = true ∧ ∃ ls, LeadYes H p v ls) ∨ (b = false ∧ LeadNo K H p v)
theorem LeadB.same' {K : PySem.W.Frag} {H H' : Hp} {p : Nat} {v : V} {b : Bool} (h : LeadB K H p v b) (s : Same H H') : LeadB K H' p v b := by
  rcases h with ⟨e, ls, a, h1, h2, h3⟩ | ⟨e, ⟨t, h1, h2⟩ | ⟨a, ls, u, r, h1, h2, h3, h4⟩⟩
  · exact .inl ⟨e, ls, a, h1, s _ _ h2, h3⟩
  · exact .inr ⟨e, .inl ⟨t, tyx_but h1 fun b o z _ => s b o z, h2⟩⟩
  · exact .inr ⟨e, .inr ⟨a, ls, u, r, h1, s _ _ h2, h3, h4.imp (fun z => now_same z s) id⟩⟩
def sp_is_lead (K : PySem.W.Frag) : Sp := fun vs H Q _ => ∃ (v : V) (p : Nat) (b : Bool), vs = [v, .int (p : Int)] ∧ LeadB K H p v b ∧ Q (.bl b) H
abbrev s_is_lead : Stmt := top 12
theorem sc_is_lead : FnScope ["lead", "place", "other"] ["lead", "place"] (defScope s_is_lead) := ⟨rfl, rfl, rfl, by decide +kernel, rfl, by decide +kernel, by decide +kernel⟩
theorem ok_is_lead (T : Txt K mg) (d_is_whole : Dn P w K mg base CX0 1 (He.ga K "is_whole") ["number"] (sp_is_whole K)) : Dn P w K mg base CX0 2 (He.ga K "is_lead") ["lead", "place"] (sp_is_lead K) := by
  refine dn_of (k := 1) T.f_is_lead sc_is_lead (fun _ _ _ _ _ _ us hl => match us, hl with | [_, _], _ => rfl) (fun cdv A outer s H vs Q E hr h => ?_)
  obtain ⟨v, p, b, rfl, h, q⟩ := h
  refine ⟨_, PSs.nox (pss_cons (ps_if (pt_not (pt_val (pe_callB (r := rIsi K) call_isi (by rfl) T.n_isinstance (by decide +kernel) (pa_cons (pv 0) (pa_cons (pe_bltn (v := .ty "list") rfl T.n_list (by decide +kernel) rfl) pa_nil))))) (pss_one (ps_ret pe_bl)) pss_nil)
      (pss_cons (ps_for PassesOwn.never rfl (pi_list (pv 0)) (pg_name (i := 2) sc_is_lead.nd rfl (by first | exact Or.inl rfl | exact Or.inr rfl))
      (pss_one (ps_if (PW.pt (pw_or (pt_not (pt_val (pe_cl d_is_whole (hr.mono (by omega)) T.g_is_whole pass0 (pa_cons (pv 2) pa_nil)))) (pw_or (pt_cmpR op_lt (pv 2) pe_int (nomark _)) (pw_or1 (pt_cmpR op_ge (pv 2) (pv 1) (nomark _)))))) (pss_one (ps_ret pe_bl)) pss_nil)))
      (pss_one (ps_ret pe_bl)))), ?_⟩
  walk_at "rl"
  have h' : (b = false ∧ ∃ t : String, TyX K H v (.type t) ∧ kitB t "list" = some false) ∨ ∃ (a : Addr) (ls : List Nat) (r : List V), v = .ref a ∧ H a = some (.lst (NL ls ++ r)) ∧ (∀ l ∈ ls, l < p) ∧
      ((b = true ∧ r = []) ∨ (b = false ∧ ∃ (u : V) (r' : List V), r = u :: r' ∧ (NoW K H u ∨ ∃ i : Int, u = .int i ∧ (i < 0 ∨ (p : Int) ≤ i)))) := by
    rcases h with ⟨e, ls, a, h1, h2, h3⟩ | ⟨e, ⟨t, h1, h2⟩ | ⟨a, ls, u, r, h1, h2, h3, h4⟩⟩
    · exact .inr ⟨a, ls, [], h1, by rw [List.append_nil]; exact h2, h3, .inl ⟨e, rfl⟩⟩
    · exact .inl ⟨e, t, h1, h2⟩
    · exact .inr ⟨a, ls, u :: r, h1, h2, h3, .inr ⟨e, u, r, rfl, h4⟩⟩
  clear h
  rcases h' with ⟨rfl, t, h1, h2⟩ | ⟨a, ls, r, rfl, h2, h3, h4⟩
  · refine ⟨v, .ty "list", _, _, false, rfl, .ty _, h1, kit_ty h2, ?_⟩
    walk_at "rl"
    exact q
  · refine ⟨.ref a, .ty "list", _, _, true, rfl, .ty _, .base (.lst h2), kit_ty (by decide +kernel), ?_⟩
    walk_at "rl"
    refine ⟨⟨_, SqL.of h2⟩, for_list (K := K) (a := a) (xs := NL ls ++ r) (fun i σ H' => H' = H ∧ i ≤ ls.length ∧ ∃ v2, σ = [some (.ref a), some (.int (p : Int)), v2]) ⟨rfl, Nat.zero_le _, none, rfl⟩ (fun i σ H' _ h => by rw [h.1]; exact SqL.of h2) ?_ ?_⟩
    · rintro i x σ H' hi ⟨rfl, hil, v2, rfl⟩
      by_cases c : i < ls.length
      · rw [List.getElem?_append_left (by rw [NL_length]; exact c)] at hi
        obtain ⟨m, hm, rfl⟩ := NL_at hi
        have hm3 := h3 m (List.mem_of_getElem? hm)
        walk_at "rl"
        refine whole_int ?_
        walk_at "rl"
        refine ifN (fun c => absurd c (by omega)) (fun _ => ?_)
        first | exact ⟨rfl, c, some (.int (m : Int)), rfl⟩ | exact ⟨c, some (.int (m : Int)), rfl⟩
      · have e : i = ls.length := by omega
        subst e
        rw [List.getElem?_append_right (by rw [NL_length]; exact Nat.le_refl _), NL_length, Nat.sub_self] at hi
        rcases h4 with ⟨_, rfl⟩ | ⟨rfl, u, r', rfl, hu⟩
        · cases hi
        · obtain rfl : u = x := Option.some.inj hi
          rcases hu with ⟨t, b1, b2, k1, k2, k3, k4⟩ | ⟨k, rfl, hk⟩
          · walk_at "rl"
            refine ⟨_, t, b1, b2, rfl, k1, k2, k3, ?_⟩
            rw [k4]
            walk_at "rl"
            exact q
          · walk_at "rl"
            refine whole_int ?_
            walk_at "rl"
            refine ifN (fun _ => ?_) (fun c1 => ?_)
            · walk_at "rl"
              exact q
            walk_at "rl"
            refine ifN (fun _ => ?_) (fun c2 => ?_)
            · walk_at "rl"
              exact q
            exact absurd hk (by omega)
    · rintro σ H' ⟨rfl, hil, v2, rfl⟩
      rcases h4 with ⟨rfl, rfl⟩ | ⟨rfl, u, r', rfl, hu⟩
      · walk_at "rl"
        exact q
      · rw [List.length_append, NL_length, List.length_cons] at hil
        exact absurd hil (by omega)
def RowYes (H : Hp) (i : Nat) (v : V) (leads : List (List Nat)) : Prop := ∃ (p : Addr) (ws : List V), v = .ref p ∧ H p = some (.lst ws) ∧ ws.length = leads.length ∧ leads.length ≤ 1000000 ∧ ∀ (t : Nat) w ld, ws[t]? = some w → leads[t]? = some ld → LeadYes H i w ld
def RowNo (K : PySem.W.Frag) (H : Hp) (i : Nat) (v : V) : Prop := (∃ t : String, TyX K H v (.type t) ∧ kitB t "list" = some false) ∨
  ∃ (p : Addr) (ws : List V) (bs : List Bool), v = .ref p ∧ H p = some (.lst ws) ∧ ws.length = bs.length ∧ bs.length ≤ 1000000 ∧ (∀ (t : Nat) w b, ws[t]? = some w → bs[t]? = some b → LeadB K H i w b) ∧ false ∈ bs
theorem RowYes.same' {H H' : Hp} {i : Nat} {v : V} {leads : List (List Nat)} (h : RowYes H i v leads) (s : Same H H') : RowYes H' i v leads := by
  obtain ⟨p, ws, h1, h2, h3, h4, h5⟩ := h
  exact ⟨p, ws, h1, s _ _ h2, h3, h4, fun t w ld e1 e2 => by
    obtain ⟨a, z1, z2, z3⟩ := h5 t w ld e1 e2
    exact ⟨a, z1, s _ _ z2, z3⟩⟩
theorem RowNo.same' {K : PySem.W.Frag} {H H' : Hp} {i : Nat} {v : V} (h : RowNo K H i v) (s : Same H H') : RowNo K H' i v := by
  rcases h with ⟨t, h1, h2⟩ | ⟨p, ws, bs, h1, h2, h3, h4, h5, h6⟩
  · exact .inl ⟨t, tyx_but h1 fun b o z _ => s b o z, h2⟩
  · exact .inr ⟨p, ws, bs, h1, s _ _ h2, h3, h4, fun t w b e1 e2 => LeadB.same' (h5 t w b e1 e2) s, h6⟩
/-- rows that tell a game -/
def RowsGood (H : Hp) (us : List V) (rows : List (List (List Nat))) : Prop := us.length = rows.length ∧ ∀ (i : Nat) u leads, us[i]? = some u → rows[i]? = some leads → RowYes H i u leads
def RowsBad (K : PySem.W.Frag) (H : Hp) (v : V) : Prop := (∃ t : String, TyX K H v (.type t) ∧ kitB t "list" = some false) ∨
  ∃ (x : Addr) (us : List V), v = .ref x ∧ H x = some (.lst us) ∧ us.length ≤ 1000000 ∧ (101 < us.length ∨ (us.length ≤ 101 ∧ ∃ (ws : List V) (rows : List (List (List Nat))) (u : V) (r : List V), us = ws ++ u :: r ∧ RowsGood H ws rows ∧ RowNo K H ws.length u))
def sp_asked_rows (K : PySem.W.Frag) : Sp := fun vs H Q E => ∃ v, vs = [v] ∧
  ((∃ (x : Addr) (us : List V) (rows : List (List (List Nat))), v = .ref x ∧ H x = some (.lst us) ∧ rows.length ≤ 101 ∧ RowsGood H us rows ∧ ∀ x' ps ass H', B3 H H' x' ps ass rows → Q (.ref x') H') ∨
   (RowsBad K H v ∧ ∀ H', Same H H' → E (.ref (He.ga K "NotAGame")) none H'))
abbrev s_asked_rows : Stmt := top 11
theorem sc_asked_rows : FnScope ["rows", "found", "leads", "lead"] ["rows"] (defScope s_asked_rows) := ⟨rfl, rfl, rfl, by decide +kernel, rfl, by decide +kernel, by decide +kernel⟩
theorem ok_asked_rows (T : Txt K mg) (d_is_lead : Dn P w K mg base CX0 2 (He.ga K "is_lead") ["lead", "place"] (sp_is_lead K)) : Dn P w K mg base (L2.CX P w) 3 (He.ga K "asked_rows") ["rows"] (sp_asked_rows K) := by
  refine dn_of (k := 2) T.f_asked_rows sc_asked_rows (fun _ _ _ _ _ _ us hl => match us, hl with | [_], _ => rfl) (fun cdv A outer s H vs Q E hr h => ?_)
  obtain ⟨v, rfl, h⟩ := h
  have h' : (∃ t : String, TyX K H v (.type t) ∧ kitB t "list" = some false ∧ ∀ H', Same H H' → E (.ref (He.ga K "NotAGame")) none H') ∨ ∃ (x : Addr) (us : List V), v = .ref x ∧ H x = some (.lst us) ∧ us.length ≤ 1000000 ∧
      ((101 < us.length ∧ ∀ H', Same H H' → E (.ref (He.ga K "NotAGame")) none H') ∨ (us.length ≤ 101 ∧ ∃ (ws : List V) (rows : List (List (List Nat))) (r : List V), us = ws ++ r ∧ RowsGood H ws rows ∧
        ((r = [] ∧ ∀ x' ps ass H', B3 H H' x' ps ass rows → Q (.ref x') H') ∨ (∃ u r', r = u :: r' ∧ RowNo K H ws.length u ∧ ∀ H', Same H H' → E (.ref (He.ga K "NotAGame")) none H')))) := by
    rcases h with ⟨x, us, rows, e, hx, hl, hg, q⟩ | ⟨⟨t, h1, h2⟩ | ⟨x, us, e, hx, hm, hl | ⟨hl, ws, rows, u, r, e2, hg, hn⟩⟩, q⟩
    · have := hg.1
      exact .inr ⟨x, us, e, hx, by omega, .inr ⟨by omega, us, rows, [], by rw [List.append_nil], hg, .inl ⟨rfl, q⟩⟩⟩
    · exact .inl ⟨t, h1, h2, q⟩
    · exact .inr ⟨x, us, e, hx, hm, .inl ⟨hl, q⟩⟩
    · exact .inr ⟨x, us, e, hx, hm, .inr ⟨hl, ws, rows, u :: r, e2, hg, .inr ⟨u, r, rfl, hn, q⟩⟩⟩
  clear h
  refine ⟨_, (pss_cons (ps_if (PW.pt (pw_or (pt_not (pt_val (pe_callB (r := rIsi K) call_isi (by rfl) T.n_isinstance (by decide +kernel) (pa_cons (pv 0) (pa_cons (pe_bltn (v := .ty "list") rfl T.n_list (by decide +kernel) rfl) pa_nil))))) (pw_or1 (pt_cmpR op_gtn (pe_callB (r := rLenSeq K) cr_lenseq (by rfl) T.n_len PySem.boot_len (pa_cons (pv 0) pa_nil)) (pe_op op_addn (pe_gnat (n := 100) T.c_MOST) (pe_nat 1)) (nomark _))))) (pss_one (ps_raise rfl (takes_of rfl rfl rfl rfl) (pmk_own PySem.F.excBase_ValueError T.x_NotAGame.1 T.g_NotAGame T.x_NotAGame.2.1 (raises_own T.x_NotAGame.2.2.1 T.x_NotAGame.2.2.2) (by exact rfl)))) pss_nil)
      (pss_cons (ps_set (i := 1) sc_asked_rows.nd rfl (by first | exact Or.inl rfl | exact Or.inr rfl) (pe_lst pa_nil))
      (pss_cons (ps_for (passes_of rfl) rfl (pi_list (pv 0)) (pg_name (i := 2) sc_asked_rows.nd rfl (by first | exact Or.inl rfl | exact Or.inr rfl))
      (pss_cons (ps_if (PW.pt (pw_or (pt_not (pt_val (pe_callB (r := rIsi K) call_isi (by rfl) T.n_isinstance (by decide +kernel) (pa_cons (pv 2) (pa_cons (pe_bltn (v := .ty "list") rfl T.n_list (by decide +kernel) rfl) pa_nil))))) (pw_or1 (pt_val (pe_callB (r := rAny K) (cr_any rfl) (by rfl) T.n_any (by decide +kernel) (pa_cons (pe_lc (own := [("lead", 3)]) (g := gName 3) (by rfl) sc_asked_rows.nd (pi_list (pv 2)) (blkOk_by (own := [("lead", 3)]) (N := ["rows", "found", "leads", "lead"]) (sc := defScope (s_asked_rows)) (by decide +kernel)) (fun _ _ _ _ _ => pg_name (i := 3) sc_asked_rows.nd rfl (by first | exact Or.inl rfl | exact Or.inr rfl)) (fun _ _ _ _ _ => pts_nil) (fun _ _ _ _ _ => (pe_not (pe_cl d_is_lead (hr.mono (by omega)) T.g_is_lead pass0 (pa_cons (pv 3) (pa_cons (pe_callB (r := rLenSeq K) cr_lenseq (by rfl) T.n_len PySem.boot_len (pa_cons (pv 1) pa_nil)) pa_nil)))))) pa_nil)))))) (pss_one (ps_raise rfl (takes_of rfl rfl rfl rfl) (pmk_own PySem.F.excBase_ValueError T.x_NotAGame.1 T.g_NotAGame T.x_NotAGame.2.1 (raises_own T.x_NotAGame.2.2.1 T.x_NotAGame.2.2.2) (by exact rfl)))) pss_nil)
      (pss_one (ps_expr (pe_bm PySem.F.plainAttrs_list PySem.F.slot_list_append PySem.F.type_list_append mt_append (pv 1) (pa_cons (pe_lc (own := [("lead", 3)]) (g := gName 3) (by rfl) sc_asked_rows.nd (pi_list (pv 2)) (blkOk_by (own := [("lead", 3)]) (N := ["rows", "found", "leads", "lead"]) (sc := defScope (s_asked_rows)) (by decide +kernel)) (fun _ _ _ _ _ => pg_name (i := 3) sc_asked_rows.nd rfl (by first | exact Or.inl rfl | exact Or.inr rfl)) (fun _ _ _ _ _ => pts_nil) (fun _ _ _ _ _ => (pe_callTy (T := "list") (r := rListOf K) cr_listof (by rfl) T.n_list (by decide +kernel) (pa_cons (pv 3) pa_nil)))) pa_nil))))))
      (pss_one (ps_ret (pv 1)))))), ?_⟩
  walk_at "rl"
  rcases h' with ⟨t, h1, h2, q⟩ | ⟨x, us, rfl, hx, hm, hh⟩
  · refine ⟨v, .ty "list", _, _, false, rfl, .ty _, h1, kit_ty h2, ?_⟩
    walk_at "rl"
    exact q _ (Same.refl _)
  refine ⟨.ref x, .ty "list", _, _, true, rfl, .ty _, .base (.lst hx), kit_ty (by decide +kernel), ?_⟩
  walk_at "rl"
  rcases hh with ⟨hl, q⟩ | ⟨hl, ws, rows, r, rfl, hg, hr'⟩
  · refine ifN (fun _ => q _ (Same.refl _)) (fun c => absurd hl (by omega))
  refine ifN (fun c => absurd c (by omega)) (fun _ => ?_)
  walk_at "rl"
  refine ⟨by show 0 ≤ sizeLine; decide, fun D nD => ?_⟩
  have s0 := Same.upd nD (o := .lst [])
  walk_at "rl"
  refine ⟨⟨_, SqL.of (s0 _ _ hx)⟩, for_list (K := K) (a := x) (xs := ws ++ r) (fun i σ H' => ∃ v2 ps ass, i ≤ ws.length ∧ σ = [some (.ref x), some (.ref D), v2, none] ∧ B3 H H' D ps ass (rows.take i)) ⟨none, [], [], Nat.zero_le _, rfl, B3.nil (Same.refl _) nD⟩ (fun i σ H' _ ⟨_, _, _, _, _, b⟩ => SqL.of (b.same _ _ hx)) ?_ ?_⟩
  · rintro i u σ H' hi ⟨v2, ps, ass, hil, rfl, b⟩
    have hpl : ps.length = i := by
      have h1 := b.l3.l1
      have h2 := hg.1
      rw [List.length_take] at h1
      omega
    have hir : i ≤ rows.length := by rw [← hg.1]; exact hil
    have hwl2 : ws.length ≤ 101 := by rw [List.length_append] at hl; omega
    have hu : (∃ t : String, TyX K H u (.type t) ∧ kitB t "list" = some false ∧ ∀ H', Same H H' → E (.ref (He.ga K "NotAGame")) none H') ∨ ∃ (p : Addr) (wl : List V) (bs : List Bool), u = .ref p ∧ H p = some (.lst wl) ∧ wl.length = bs.length ∧ bs.length ≤ 1000000 ∧ (∀ (t : Nat) w b, wl[t]? = some w → bs[t]? = some b → LeadB K H i w b) ∧
        ((false ∈ bs ∧ ∀ H', Same H H' → E (.ref (He.ga K "NotAGame")) none H') ∨ ((∀ b ∈ bs, b = true) ∧ i < ws.length ∧ ∃ leads, rows[i]? = some leads ∧ wl.length = leads.length ∧ ∀ (t : Nat) w ld, wl[t]? = some w → leads[t]? = some ld → LeadYes H i w ld)) := by
      by_cases c : i < ws.length
      · rw [List.getElem?_append_left c] at hi
        have hr1 : i < rows.length := by rw [← hg.1]; exact c
        obtain ⟨p, wl, e1, e2, e3, e4, e5⟩ := hg.2 i u rows[i] hi (List.getElem?_eq_getElem hr1)
        refine .inr ⟨p, wl, List.replicate wl.length true, e1, e2, by simp, by rw [List.length_replicate, e3]; exact e4, fun t w b z1 z2 => ?_, .inr ⟨fun b hb => (List.mem_replicate.mp hb).2, c, rows[i], List.getElem?_eq_getElem hr1, e3, e5⟩⟩
        have hb : b = true := (List.mem_replicate.mp (List.mem_of_getElem? z2)).2
        have ht : t < rows[i].length := by rw [← e3]; exact (List.getElem?_eq_some_iff.mp z1).1
        exact .inl ⟨hb, _, e5 t w _ z1 (List.getElem?_eq_getElem ht)⟩
      · have e : i = ws.length := by omega
        subst e
        rw [List.getElem?_append_right (Nat.le_refl _), Nat.sub_self] at hi
        rcases hr' with ⟨rfl, _⟩ | ⟨u', r', rfl, hn, q⟩
        · cases hi
        · obtain rfl : u' = u := Option.some.inj hi
          rcases hn with ⟨t, h1, h2⟩ | ⟨p, wl, bs, h1, h2, h3, h4, h5, h6⟩
          · exact .inl ⟨t, h1, h2, q⟩
          · exact .inr ⟨p, wl, bs, h1, h2, h3, h4, h5, .inl ⟨h6, q⟩⟩
    have hrt := b.l3.top
    walk_at "rl"
    rcases hu with ⟨t, h1, h2, q⟩ | ⟨p, wl, bs, rfl, hp, hlb, hbm, hB, hfin⟩
    · refine ⟨u, .ty "list", _, _, false, rfl, .ty _, tyx_but h1 fun c o z _ => b.same c o z, kit_ty h2, ?_⟩
      walk_at "rl"
      exact q _ b.same
    refine ⟨.ref p, .ty "list", _, _, true, rfl, .ty _, .base (.lst (b.same _ _ hp)), kit_ty (by decide +kernel), ?_⟩
    walk_at "rl"
    refine ⟨⟨_, SqL.of (b.same _ _ hp)⟩, fun Eb nE => ?_⟩
    refine lc_list (K := K) (a := p) (xs := wl) (fun t H2 => H2 Eb = some (.lst (((bs.take t).map not).map V.bl)) ∧ Same H' H2) ⟨upd_same, Same.upd nE⟩ (fun t H2 _ h => SqL.of (h.2 _ _ (b.same _ _ hp))) ?_ ?_
    · rintro t w H2 ht ⟨hE, sm⟩
      have htl : t < bs.length := by rw [← hlb]; exact (List.getElem?_eq_some_iff.mp ht).1
      have hbt : bs[t]? = some bs[t] := List.getElem?_eq_getElem htl
      have hLB := LeadB.same' (hB t w _ ht hbt) (b.same.trans sm)
      have hrt2 := sm _ _ hrt
      walk_at "rl"
      rw [List.length_map, hpl]
      refine ⟨w, i, bs[t], rfl, hLB, ?_⟩
      walk_at "rl"
      refine ⟨_, hE, mil_line (by rw [List.length_map, List.length_map, List.length_take]; omega), ?_, N.Same.put sm nE⟩
      rw [upd_same, List.take_succ, hbt, List.map_append, List.map_append]
      rfl
    · rintro H2 ⟨hE, sm⟩
      rw [hlb, List.take_length] at hE
      walk_at "rl"
      refine ⟨Eb, bs.map not, rfl, SqL.of hE, ?_⟩
      walk_at "rl"
      rcases hfin with ⟨hf, q⟩ | ⟨hall, hiw, leads, hld, hwl, hY⟩
      · have e : (bs.map not).any id = true := List.any_eq_true.mpr ⟨true, List.mem_map.mpr ⟨false, hf, rfl⟩, rfl⟩
        rw [e]
        refine iteT ?_
        exact q _ (b.same.trans sm)
      · have e : (bs.map not).any id = false := by
          rw [Bool.eq_false_iff]
          intro h
          obtain ⟨z, hz, hz2⟩ := List.any_eq_true.mp h
          obtain ⟨y, hy, rfl⟩ := List.mem_map.mp hz
          rw [hall y hy] at hz2
          cases hz2
        rw [e]
        refine iteF ?_
        have hrt2 := sm _ _ hrt
        walk_at "rl"
        have hp2 := sm _ _ (b.same _ _ hp)
        refine ⟨⟨_, SqL.of hp2⟩, fun Dl nDl => ?_⟩
        refine lc_list (K := K) (a := p) (xs := wl) (fun t H3 => ∃ as, as.length = t ∧ Bld H2 H3 Dl as (leads.take t)) ⟨[], rfl, Bld.nil (Same.refl _) nDl⟩ (fun t H3 _ ⟨_, _, h⟩ => SqL.of (h.same _ _ hp2)) ?_ ?_
        · rintro t w H3 ht ⟨as, hal, bl⟩
          have htl : t < leads.length := by rw [← hwl]; exact (List.getElem?_eq_some_iff.mp ht).1
          have hlt : leads[t]? = some leads[t] := List.getElem?_eq_getElem htl
          obtain ⟨aw, rfl, haw, _⟩ := hY t w _ ht hlt
          have haw3 := bl.same _ _ (sm _ _ (b.same _ _ haw))
          walk_at "rl"
          intro na nna
          refine ⟨_, Same.upd nna _ _ bl.ll.top, mil_line (by rw [List.length_map]; omega), as ++ [na], by rw [List.length_append, hal]; rfl, ?_⟩
          rw [List.take_succ, hlt]
          exact bl.snoc (Same.upd nna) nna upd_same
        · rintro H3 ⟨as, hal, bl⟩
          rw [hwl, List.take_length] at bl
          have hrt3 := bl.same _ _ hrt2
          refine ⟨D, _, _, rfl, rfl, hrt3, mil_line (by rw [List.length_map]; omega), some (.ref p), ps ++ [Dl], ass ++ [as], by omega, rfl, ?_⟩
          rw [List.take_succ, hld]
          exact (b.same' sm).snoc bl
  · rintro σ H' ⟨v2, ps, ass, hil, rfl, b⟩
    rcases hr' with ⟨rfl, q⟩ | ⟨u, r', rfl, _⟩
    · walk_at "rl"
      have e : rows.take (ws ++ []).length = rows := by rw [List.append_nil, hg.1, List.take_length]
      rw [e] at b
      exact q D ps ass H' b
    · rw [List.length_append, List.length_cons] at hil
      exact absurd hil (by omega)
/-- v: what is handed in -/
def sp_toinit (K : PySem.W.Frag) (C : Addr) : Sp := fun vs H Q E => ∃ (a dx : Addr) (v : V), vs = [.ref a, v] ∧ H a = some (.ins C dx []) ∧
  ((∃ (x : Addr) (us : List V) (rows : List (List (List Nat))), v = .ref x ∧ H x = some (.lst us) ∧ rows.length ≤ 101 ∧ RowsGood H us rows ∧ ∀ l x' ps ass H', (∀ b o, H b = some o → b ≠ a → H' b = some o) → H l = none → l ≠ a → L3 H' x' ps ass rows → (∀ b, Own3 x' ps ass b → H b = none ∧ b ≠ l ∧ b ≠ a) →
      H' a = some (.ins C dx (putF "rows" (.ref x') (putF "known" (.ref l) []))) → H' l = some (.lst []) → Q .non H') ∨
   (RowsBad K H v ∧ ∀ H', (∀ b o, H b = some o → b ≠ a → H' b = some o) → E (.ref (He.ga K "NotAGame")) none H'))
theorem RowsGood.but {H H' : Hp} {us : List V} {rows : List (List (List Nat))} (h : RowsGood H us rows) (s : ∀ b o, H b = some o → (∀ C dx fs, o ≠ .ins C dx fs) → H' b = some o) : RowsGood H' us rows :=
  ⟨h.1, fun i u leads e1 e2 => by
    obtain ⟨p, ws, h1, h2, h3, h4, h5⟩ := h.2 i u leads e1 e2
    exact ⟨p, ws, h1, s _ _ h2 noL, h3, h4, fun t w ld z1 z2 => by
      obtain ⟨a, y1, y2, y3⟩ := h5 t w ld z1 z2
      exact ⟨a, y1, s _ _ y2 noL, y3⟩⟩⟩
theorem LeadB.but {K : PySem.W.Frag} {H H' : Hp} {p : Nat} {v : V} {b : Bool} (h : LeadB K H p v b) (s : ∀ b o, H b = some o → (∀ C dx fs, o ≠ .ins C dx fs) → H' b = some o) : LeadB K H' p v b := by
  rcases h with ⟨e, ls, a, h1, h2, h3⟩ | ⟨e, ⟨t, h1, h2⟩ | ⟨a, ls, u, r, h1, h2, h3, h4⟩⟩
  · exact .inl ⟨e, ls, a, h1, s _ _ h2 noL, h3⟩
  · exact .inr ⟨e, .inl ⟨t, tyx_but h1 s, h2⟩⟩
  · exact .inr ⟨e, .inr ⟨a, ls, u, r, h1, s _ _ h2 noL, h3, h4.imp (fun z => now_but z s) id⟩⟩
theorem RowsBad.but {K : PySem.W.Frag} {H H' : Hp} {v : V} (h : RowsBad K H v) (s : ∀ b o, H b = some o → (∀ C dx fs, o ≠ .ins C dx fs) → H' b = some o) : RowsBad K H' v := by
  rcases h with ⟨t, h1, h2⟩ | ⟨x, us, h1, h2, hm, h3 | ⟨h3, ws, rows, u, r, h4, h5, h6⟩⟩
  · exact .inl ⟨t, tyx_but h1 s, h2⟩
  · exact .inr ⟨x, us, h1, s _ _ h2 noL, hm, .inl h3⟩
  · refine .inr ⟨x, us, h1, s _ _ h2 noL, hm, .inr ⟨h3, ws, rows, u, r, h4, RowsGood.but h5 s, ?_⟩⟩
    rcases h6 with ⟨t, k1, k2⟩ | ⟨p, wl, bs, k1, k2, k3, k4, k5, k6⟩
    · exact .inl ⟨t, tyx_but k1 s, k2⟩
    · exact .inr ⟨p, wl, bs, k1, s _ _ k2 noL, k3, k4, fun t w b e1 e2 => LeadB.but (k5 t w b e1 e2) s, k6⟩
abbrev s_Told___init__ : Stmt := inClass (top 13) 0
theorem sc_Told___init__ : FnScope ["self", "rows"] ["self", "rows"] (defScope s_Told___init__) := ⟨rfl, rfl, rfl, by decide +kernel, rfl, by decide +kernel, by decide +kernel⟩
theorem ok_Told___init__ (T : Txt K mg) (C : Addr) (cC : Cls K C) (nK : NoAttr K C "known") (nR : NoAttr K C "rows") (d_Game_ginit : Dn P w K mg base CX0 2 (He.ma K (He.ga K "Game") "__init__") ["self"] (sp_ginit C)) (d_asked_rows : Dn P w K mg base (L2.CX P w) 3 (He.ga K "asked_rows") ["rows"] (sp_asked_rows K)) (f : Addr) (F : ∃ fd, FunD K "__init__" "Told.__init__" (defArgs (inClass (top 13) 0)) (defBody (inClass (top 13) 0)) (defScope (inClass (top 13) 0)) [] [] f fd) : Dn P w K mg base (L2.CX P w) 5 f ["self", "rows"] (sp_toinit K C) := by
  refine dn_of (k := 4) F sc_Told___init__ (fun _ _ _ _ _ _ us hl => match us, hl with | [_, _], _ => rfl) (fun cdv A outer s H vs Q E hr h => ?_)
  obtain ⟨a, dx, v, rfl, ha, h⟩ := h
  refine ⟨_, (pss_cons (ps_expr (pe_clsf T.cf_Game___init__ d_Game_ginit (hr.mono (by omega)) pass0 (pe_glob (v := .ref (He.ga K "Game")) rfl T.g_Game rfl) (pa_cons (pv 0) pa_nil)))
      (pss_one (ps_fld (pv 0) (pe_cl d_asked_rows (hr.mono (by omega)) T.g_asked_rows (passes_call (takes_of rfl rfl rfl rfl) (fun _ _ _ _ h => h)) (pa_cons (pv 1) pa_nil)) rfl))), ?_⟩
  walk_at "rl"
  refine ⟨a, dx, [], rfl, ha, by simp, fun l nl => ?_⟩
  have la : l ≠ a := fun e => by rw [e, ha] at nl; cases nl
  have b1 : ∀ b o, H b = some o → b ≠ a → upd (upd H l (.lst [])) a (.ins C dx (putF "known" (.ref l) [])) b = some o := fun b o e ne => by
    rw [upd_ne ne]
    exact Same.upd nl _ _ e
  have ea := upd_same (H := upd H l (.lst [])) (a := a) (o := .ins C dx (putF "known" (.ref l) []))
  have el : upd (upd H l (.lst [])) a (.ins C dx (putF "known" (.ref l) [])) l = some (.lst []) := by
    rw [upd_ne la, upd_same]
  have nb : ∀ D, upd (upd H l (.lst [])) a (.ins C dx (putF "known" (.ref l) [])) D = none → H D = none := fun D e => by
    have h1 : D ≠ a := fun z => by rw [z, upd_same] at e; cases e
    rw [upd_ne h1] at e
    exact none_of_same (Same.upd nl) e
  have b2 : ∀ b o, H b = some o → (∀ C dx fs, o ≠ .ins C dx fs) → upd (upd H l (.lst [])) a (.ins C dx (putF "known" (.ref l) [])) b = some o := fun b o e no => b1 b o e fun z => by
    rw [z, ha] at e
    exact no _ _ _ (Option.some.inj e).symm
  generalize upd (upd H l (.lst [])) a (.ins C dx (putF "known" (.ref l) [])) = H1 at *
  walk_at "rl"
  rcases h with ⟨x, us, rows, rfl, hx, hl, hg, q⟩ | ⟨bad, q⟩
  · refine .inl ⟨x, us, rows, rfl, b2 _ _ hx noL, hl, RowsGood.but hg b2, fun x' ps ass H' b3 => ?_⟩
    have own : ∀ b, Own3 x' ps ass b → H b = none ∧ b ≠ l ∧ b ≠ a := fun b hb => by
      have n1 := b3.new b hb
      exact ⟨nb b n1, (fun z => by rw [z, el] at n1; cases n1), (fun z => by rw [z, ea] at n1; cases n1)⟩
    walk_at "rl"
    refine ⟨a, C, dx, _, rfl, b3.same _ _ ea, cC, nR, by simp [putF], ?_⟩
    refine q l x' ps ass _ (fun b o e ne => ?_) nl la (b3.l3.keep fun b o hb e => ?_) own upd_same ?_
    · rw [upd_ne ne]
      exact b3.same _ _ (b1 b o e ne)
    · rw [upd_ne (own b hb).2.2]
      exact e
    · rw [upd_ne la]
      exact b3.same _ _ el
  · refine .inr ⟨RowsBad.but bad b2, fun H' sm => ?_⟩
    exact q H' fun b o e ne => sm _ _ (b1 b o e ne)
theorem kfs_rows (rows : List (List (List Nat))) (l x : Addr) : (kfs l x (.told rows)).lookup ("rows" : Str) = some (.ref x) := by
  unfold kfs
  rw [lookup_putF, if_pos rfl]
abbrev s_Told_leads : Stmt := inClass (top 13) 1
theorem sc_Told_leads : FnScope ["self", "place", "lead"] ["self", "place"] (defScope s_Told_leads) := ⟨rfl, rfl, rfl, by decide +kernel, rfl, by decide +kernel, by decide +kernel⟩
theorem ok_Told_leads (T : Txt K mg) (ok : Gm.Kind → Prop) (G : Games K ok) (KK : Kinds ok) (rows : List (List (List Nat))) (hk : ok (.told rows)) : Dn P w K mg base (L2.CX P w) 10 (He.ma K (He.ga K "Told") "leads") ["self", "place"] (sp_leads K (.told rows)) := by
  refine dn_of (k := 9) T.f_Told_leads sc_Told_leads (fun _ _ _ _ _ _ us hl => match us, hl with | [_, _], _ => rfl) (fun cdv A outer s H vs Q E hr h => ?_)
  obtain ⟨g, l, x, n, p, rfl, ga, hp, q, qb⟩ := h
  obtain ⟨dx, hg⟩ := ga.ob
  have hR : Gm.Kind.Ok (.told rows) := KK.good _ hk
  obtain ⟨ps, ass, l3⟩ : RowsAt H x rows := ga.st H fun _ _ e _ => e
  have hx := l3.top
  refine ⟨_, (pss_cons (ps_if (pt_cmpR op_gen (pv 1) (pe_callB (r := rLenSeq K) cr_lenseq (by rfl) T.n_len PySem.boot_len (pa_cons (pe_fld (pv 0) rfl) pa_nil)) (nomark _)) (pss_one (ps_raise rfl (takes_of rfl rfl rfl rfl) (pmk_own PySem.F.excBase_ValueError T.x_NotAPlace.1 T.g_NotAPlace T.x_NotAPlace.2.1 (raises_own T.x_NotAPlace.2.2.1 T.x_NotAPlace.2.2.2) (by exact rfl)))) pss_nil)
      (pss_one (ps_ret (pe_lc (own := [("lead", 2)]) (g := gName 2) (by rfl) sc_Told_leads.nd (pi_list (pe_ix ix_list (pe_fld (pv 0) rfl) (pv 1) (fun _ _ => rfl))) (blkOk_by (own := [("lead", 2)]) (N := ["self", "place", "lead"]) (sc := defScope (s_Told_leads)) (by decide +kernel)) (fun _ _ _ _ _ => pg_name (i := 2) sc_Told_leads.nd rfl (by first | exact Or.inl rfl | exact Or.inr rfl)) (fun _ _ _ _ _ => pts_nil) (fun _ _ _ _ _ => (pe_callTy (T := "list") (r := rListOf K) cr_listof (by rfl) T.n_list (by decide +kernel) (pa_cons (pv 2) pa_nil))))))), ?_⟩
  walk_at "rl"
  refine ⟨g, _, _, _, _, rfl, hg, G.cls _ hk, G.rows _ hk, kfs_rows _ _ _, ?_⟩
  walk_at "rl"
  rw [List.length_map, l3.l1]
  refine ifN (fun c => ?_) (fun c => ?_)
  · exact qb (show ¬ p < rows.length by omega)
  have hpr : p < rows.length := by omega
  have hpp : p < ps.length := by rw [l3.l1]; exact hpr
  have hpa : p < ass.length := by rw [l3.l2]; exact hpr
  have e1 : ps[p]? = some ps[p] := List.getElem?_eq_getElem hpp
  have e3 : rows[p]? = some rows[p] := List.getElem?_eq_getElem hpr
  have ll := l3.row p _ _ _ e1 (List.getElem?_eq_getElem hpa) e3
  have htp := ll.top
  walk_at "rl"
  refine ⟨g, _, _, _, _, rfl, hg, G.cls _ hk, G.rows _ hk, kfs_rows _ _ _, ?_⟩
  walk_at "rl"
  refine ⟨x, _, _, .ref ps[p], rfl, rfl, SqL.of hx, atI_nat (by rw [List.getElem?_map, e1]; rfl), ?_⟩
  walk_at "rl"
  refine ⟨⟨_, SqL.of htp⟩, fun D nD => ?_⟩
  have hle := KK.few _ hk p hpr
  have eL : (Gm.Kind.told rows).L p = rows[p] := by
    show rows.getD p [] = _
    rw [List.getD_eq_getElem?_getD, e3]
    rfl
  rw [eL] at hle
  refine lc_list (K := K) (a := ps[p]) (xs := ass[p].map V.ref) (fun t H3 => ∃ as, as.length = t ∧ Bld H H3 D as (rows[p].take t)) ⟨[], rfl, Bld.nil (Same.refl _) nD⟩ (fun t H3 _ ⟨_, _, h⟩ => SqL.of (h.same _ _ htp)) ?_ ?_
  · rintro t w H3 ht ⟨as, hal, bl⟩
    obtain ⟨aw, lead, ea, el, rfl, haw⟩ := ll.item ht
    have haw3 := bl.same _ _ haw
    have htl := (List.getElem?_eq_some_iff.mp el).1
    walk_at "rl"
    intro na nna
    refine ⟨_, Same.upd nna _ _ bl.ll.top, mil_line (by rw [List.length_map]; omega), as ++ [na], by rw [List.length_append, hal]; rfl, ?_⟩
    rw [List.take_succ, el]
    exact bl.snoc (Same.upd nna) nna upd_same
  · rintro H3 ⟨as, hal, bl⟩
    rw [List.length_map, ll.len, List.take_length] at bl
    exact q hpr D as H3 bl.same bl.nD bl.nas (eL.symm ▸ bl.ll)
abbrev s_Told_name : Stmt := inClass (top 13) 2
theorem sc_Told_name : FnScope ["self"] ["self"] (defScope s_Told_name) := ⟨rfl, rfl, rfl, by decide +kernel, rfl, by decide +kernel, by decide +kernel⟩
theorem ok_Told_name (T : Txt K mg) (ok : Gm.Kind → Prop) (G : Games K ok) (KK : Kinds ok) (rows : List (List (List Nat))) (hk : ok (.told rows)) : Dn P w K mg base CX0 9 (He.ma K (He.ga K "Told") "name") ["self"] (sp_name K (.told rows)) := by
  refine dn_of (k := 8) T.f_Told_name sc_Told_name (fun _ _ _ _ _ _ us hl => match us, hl with | [_], _ => rfl) (fun cdv A outer s H vs Q E hr h => ?_)
  obtain ⟨g, l, x, n, rfl, ga, q⟩ := h
  obtain ⟨dx, hg⟩ := ga.ob
  have hR : Gm.Kind.Ok (.told rows) := KK.good _ hk
  obtain ⟨ps, ass, l3⟩ : RowsAt H x rows := ga.st H fun _ _ e _ => e
  have hx := l3.top
  have h101 : rows.length ≤ 101 := hR.1
  refine ⟨_, PSs.nox (pss_one (ps_ret (pe_op op_add_str pe_str (pe_callTy (T := "str") call_str_int (by rfl) T.n_str (by decide +kernel) (pa_cons (pe_callB (r := rLenSeq K) cr_lenseq (by rfl) T.n_len PySem.boot_len (pa_cons (pe_fld (pv 0) rfl) pa_nil)) pa_nil))))), ?_⟩
  walk_at "rl"
  refine ⟨g, _, _, _, _, rfl, hg, G.cls _ hk, G.rows _ hk, kfs_rows _ _ _, ?_⟩
  walk_at "rl"
  rw [List.length_map, l3.l1]
  refine ⟨nS_log (by omega), ?_⟩
  walk_at "rl"
  have h1 : (Str.ofString "told ").length = 5 := by decide +kernel
  have h2 := nS_len (n := rows.length) (by omega)
  unfold nS at h2
  refine ⟨str_line (by rw [h1]; omega), ?_⟩
  exact q _ (Same.refl _)
/-- Told(..): what is left to be shown -/
theorem mk_told {K : PySem.W.Frag} {rows : List (List (List Nat))} {H : Hp} {g l x dx : Addr} {ps : List Addr} {ass : List (List Addr)} (hg : H g = some (.ins (He.ga K "Told") dx (putF "rows" (.ref x) (putF "known" (.ref l) [])))) (hl : H l = some (.lst [])) (l3 : L3 H x ps ass rows) (ne : ∀ b, Own3 x ps ass b → b ≠ l) : GameAt K (.told rows) H g l x 0 :=
  ⟨⟨dx, hg⟩, hl, fun H' b => ⟨ps, ass, l3.keep fun c o hc e => b c o e (ne c hc)⟩⟩
theorem few_told {K : PySem.W.Frag} {v : Addr} {us : List V} {rows : List (List (List Nat))} {H : Hp} {R : VK} {E : XK} {x dx : Addr} (nx : H x = none) (nd : H dx = none) (ne : dx ≠ x) (hv : H v = some (.lst us)) (hl : rows.length ≤ 101) (hg : RowsGood H us rows)
    (q : ∀ l y H', Same H H' → GameAt K (.told rows) H' x l y 0 → H l = none → l ≠ x → (∃ ps ass, L3 H' y ps ass rows ∧ ∀ b, Own3 y ps ass b → H b = none ∧ b ≠ l ∧ b ≠ x) → R .non H') : few ["self", "rows"] (sp_toinit K (He.ga K "Told")) [.ref x, .ref v] (upd (upd H dx (.own x)) x (.ins (He.ga K "Told") dx [])) R E := by
  have sm : Same H (upd (upd H dx (.own x)) x (.ins (He.ga K "Told") dx [])) := (Same.upd nd).trans (Same.upd (by rw [upd_ne (fun e => ne e.symm)]; exact nx))
  refine ⟨rfl, x, dx, .ref v, rfl, upd_same, .inl ⟨v, us, rows, rfl, sm _ _ hv, hl, RowsGood.but hg fun b o e _ => sm b o e, fun l y ps ass H' bt nl lx l3 own ea el => ?_⟩⟩
  refine q l y H' (made_same (C := He.ga K "Told") nx nd bt) (mk_told ea el l3 fun b hb => (own b hb).2.1) (none2 nl) lx ⟨ps, ass, l3, fun b hb => ?_⟩
  obtain ⟨h1, h2, h3⟩ := own b hb
  exact ⟨none2 h1, h2, h3⟩
theorem few_toldC {K : PySem.W.Frag} {v : Addr} {us : List V} {rows : List (List (List Nat))} {H : Hp} {R : VK} {E : XK} {x dx : Addr} (nx : H x = none) (nd : H dx = none) (ne : dx ≠ x) (hv : H v = some (.lst us)) (hl : rows.length ≤ 101) (hg : RowsGood H us rows)
    (q : ∀ l y H', Same H H' → GameAt K (.told rows) H' x l y 0 → H l = none → l ≠ x → (∃ ps ass, L3 H' y ps ass rows ∧ ∀ b, Own3 y ps ass b → H b = none ∧ b ≠ l ∧ b ≠ x) → R .non H') : few ["self", "rows"] (fun vs H Q _ => sp_toinit K (He.ga K "Told") vs H Q E0) [.ref x, .ref v] (upd (upd H dx (.own x)) x (.ins (He.ga K "Told") dx [])) R E :=
  let h := few_told (K := K) (E := E0) nx nd ne hv hl hg q
  ⟨h.1, h.2⟩
theorem rows_good {H : Hp} {x : Addr} {ps : List Addr} {ass : List (List Addr)} {rows : List (List (List Nat))} (l3 : L3 H x ps ass rows) (ok : Gm.Kind.Ok (.told rows)) (hl : ∀ leads ∈ rows, leads.length ≤ 1000000) : RowsGood H (ps.map V.ref) rows := by
  refine ⟨by rw [List.length_map, l3.l1], fun i u leads e1 e2 => ?_⟩
  obtain ⟨p, as, ld, h1, h2, h3, rfl, ll⟩ := l3.at e1
  rw [e2] at h3
  obtain rfl : leads = ld := Option.some.inj h3
  refine ⟨p, as.map V.ref, rfl, ll.top, by rw [List.length_map, ll.len], hl _ (List.mem_of_getElem? e2), fun t w lead z1 z2 => ?_⟩
  obtain ⟨a, row, k1, k2, rfl, k3⟩ := ll.item z1
  rw [z2] at k2
  obtain rfl : lead = row := Option.some.inj k2
  exact ⟨a, rfl, k3, ok.2 i leads e2 lead (List.mem_of_getElem? z2)⟩

/-! ### numbers of so many places (nothing refused) -/
theorem GameAt.re {K : PySem.W.Frag} {k : Gm.Kind} {H H' : Hp} {g l x : Addr} {n n' : Nat} (ga : GameAt K k H g l x n) (b : But l H H') (e : H' l = some (.lst (NL (Gm.nums k.L n')))) : GameAt K k H' g l x n' := by
  obtain ⟨dx, hg⟩ := ga.ob
  have ne : g ≠ l := fun z => by
    have := ga.kn
    rw [← z, hg] at this
    cases this
  exact ⟨⟨dx, b g _ hg ne⟩, e, fun H2 b2 => ga.st H2 fun c o h1 h2 => b2 c o (b c o h1 h2) h2⟩
theorem nums_snocN (L : Nat → List (List Nat)) (i : Nat) : NL (Gm.nums L (i + 1)) = NL (Gm.nums L i) ++ [V.int ((Gm.num L i : Nat) : Int)] := by
  rw [Gm.nums_succ]
  unfold NL
  rw [List.map_append]
  rfl
theorem kfs_number (l x : Addr) (k : Gm.Kind) : (kfs l x k).lookup ("number" : Str) = none := kfs_no _ _ _ (by decide +kernel) (by decide +kernel) (by decide +kernel) (by decide +kernel)
theorem kfs_numbers (l x : Addr) (k : Gm.Kind) : (kfs l x k).lookup ("numbers" : Str) = none := kfs_no _ _ _ (by decide +kernel) (by decide +kernel) (by decide +kernel) (by decide +kernel)
theorem kfs_leads (l x : Addr) (k : Gm.Kind) : (kfs l x k).lookup ("leads" : Str) = none := kfs_no _ _ _ (by decide +kernel) (by decide +kernel) (by decide +kernel) (by decide +kernel)
theorem kfs_together (l x : Addr) (k : Gm.Kind) : (kfs l x k).lookup ("together" : Str) = none := kfs_no _ _ _ (by decide +kernel) (by decide +kernel) (by decide +kernel) (by decide +kernel)
theorem kfs_name (l x : Addr) (k : Gm.Kind) : (kfs l x k).lookup ("name" : Str) = none := kfs_no _ _ _ (by decide +kernel) (by decide +kernel) (by decide +kernel) (by decide +kernel)
theorem kfs_value (l x : Addr) (k : Gm.Kind) : (kfs l x k).lookup ("value" : Str) = none := kfs_no _ _ _ (by decide +kernel) (by decide +kernel) (by decide +kernel) (by decide +kernel)
theorem kfs_winning (l x : Addr) (k : Gm.Kind) : (kfs l x k).lookup ("winning" : Str) = none := kfs_no _ _ _ (by decide +kernel) (by decide +kernel) (by decide +kernel) (by decide +kernel)
/-- a number's promise where nothing is refused -/
def sp_numC (K : PySem.W.Frag) (k : Gm.Kind) : Sp := fun vs H Q _ => sp_number K k vs H Q E0
def sp_numbers (K : PySem.W.Frag) (k : Gm.Kind) : Sp := fun vs H Q E => ∃ (g l x : Addr) (n m : Nat), vs = [.ref g, .int (m : Int)] ∧ GameAt K k H g l x n ∧ n ≤ k.top ∧ m ≤ 100000 ∧
  ((m ≤ k.top ∧ ∀ D n' H', But l H H' → H D = none → H' D = some (.lst (NL (Gm.nums k.L m))) → GameAt K k H' g l x n' → n ≤ n' → m ≤ n' → n' ≤ k.top → Q (.ref D) H') ∨
   (k.top < m ∧ ∀ n' H', But l H H' → GameAt K k H' g l x n' → n ≤ n' → n' ≤ k.top → E (.ref (He.ga K "NotAPlace")) none H'))
abbrev s_Game_numbers : Stmt := inClass (top 10) 5
theorem sc_Game_numbers : FnScope ["self", "many", "place"] ["self", "many"] (defScope s_Game_numbers) := ⟨rfl, rfl, rfl, by decide +kernel, rfl, by decide +kernel, by decide +kernel⟩
theorem ok_Game_numbers (T : Txt K mg) (ok : Gm.Kind → Prop) (KK : Kinds ok) (DN : Disp P w K mg base (L2.CX P w) 20 "number" (kC K) ok ["self", "place"] (sp_number K)) (k : Gm.Kind) (hk : ok k) (f : Addr) (F : ∃ fd, FunD K "numbers" "Game.numbers" (defArgs (inClass (top 10) 5)) (defBody (inClass (top 10) 5)) (defScope (inClass (top 10) 5)) [] [] f fd) : Dn P w K mg base (L2.CX P w) 21 f ["self", "many"] (sp_numbers K k) := by
  refine dn_of (k := 20) F sc_Game_numbers (fun _ _ _ _ _ _ us hl => match us, hl with | [_, _], _ => rfl) (fun cdv A outer s H vs Q E hr h => ?_)
  obtain ⟨g, l, x, n, m, rfl, ga, hn, hmb, hq⟩ := h
  have tp := KK.top k hk
  refine ⟨_, (pss_one (ps_ret (pe_lcX (own := [("place", 2)]) (g := gName 2) rfl rfl (takes_of rfl rfl rfl rfl) (by rfl) sc_Game_numbers.nd (pi_range1 rfl T.n_range (pa_cons (pv 1) pa_nil)) (blkOk_by (own := [("place", 2)]) (N := ["self", "many", "place"]) (sc := defScope (s_Game_numbers)) (by decide +kernel)) (fun _ _ _ _ _ => pg_name (i := 2) sc_Game_numbers.nd rfl (by first | exact Or.inl rfl | exact Or.inr rfl)) (fun _ _ _ _ _ => pts_nil) (fun _ _ _ _ _ => (pe_mf (DN) (hr.mono (by omega)) (passB rfl rfl rfl) (pv 0) (pa_cons (pv 2) pa_nil)))))), ?_⟩
  walk_at "rl"
  refine ⟨by omega, by omega, fun D nD => ?_⟩
  have Dl : D ≠ l := fun e => by
    have := ga.kn
    rw [← e, nD] at this
    cases this
  have b0 : But l H (upd H D (.lst [])) := Same.but (Same.upd nD)
  refine lc_rangeN (n := m) (fun i H' => ∃ n', i ≤ k.top ∧ H' D = some (.lst (NL (Gm.nums k.L i))) ∧ But l H H' ∧ H' l = some (.lst (NL (Gm.nums k.L n'))) ∧ n ≤ n' ∧ i ≤ n' ∧ n' ≤ k.top) ⟨n, Nat.zero_le _, upd_same, b0, Same.upd nD _ _ ga.kn, Nat.le_refl _, Nat.zero_le _, hn⟩ ?_ ?_
  · rintro i H' hi ⟨n', hit, hD, bt, hl, h1, h2, h3⟩
    have ga1 := ga.re bt hl
    obtain ⟨dx, hg⟩ := ga1.ob
    walk_at "rl"
    refine ⟨k, g, _, _, hk, rfl, hg, kfs_number _ _ _, ?_⟩
    walk_at "rl"
    by_cases c : i < k.top
    · refine ⟨g, l, x, n', _, rfl, ga1, h3, .inl ⟨i, rfl, c, fun n2 H2 bt2 ga2 h4 h5 h6 => ?_⟩⟩
      have bt3 := bt.trans bt2
      refine ⟨_, bt2 D _ hD Dl, mil_line (by rw [NL_length, Gm.nums_length]; omega), n2, by omega, ?_, fun b o e ne => ?_, ?_, by omega, by omega, h6⟩
      · rw [upd_same, nums_snocN]
      · rw [upd_ne (fun z => by rw [z, nD] at e; cases e)]
        exact bt3 b o e ne
      · rw [upd_ne Dl.symm]
        exact ga2.kn
    · rcases hq with ⟨hm, _⟩ | ⟨hm, qb⟩
      · exact absurd hi (by omega)
      · refine ⟨g, l, x, n', _, rfl, ga1, h3, .inr ⟨.inr ⟨(i : Int), rfl, .inr (.inr (by omega))⟩, fun n2 H2 bt2 ga2 h4 h5 => ?_⟩⟩
        exact qb n2 H2 (bt.trans bt2) (ga.re (bt.trans bt2) ga2.kn) (by omega) h5
  · rintro H' ⟨n', hit, hD, bt, hl, h1, h2, h3⟩
    rcases hq with ⟨hm, q⟩ | ⟨hm, _⟩
    · exact q D n' H' bt nD hD (ga.re bt hl) h1 h2 h3
    · exact absurd hit (by omega)

def okK : Gm.Kind → Prop
  | .still => False
  | .heap => False
  | .taking _ => False
  | .skittles _ => False
  | .parting => False
  | .runs => False
  | .pairs => False
  | .few _ => False
  | .told rows => Gm.Kind.Ok (.told rows) ∧ ∀ leads ∈ rows, leads.length ≤ 1000000
theorem games_ok {K : PySem.W.Frag} {mg : Str → Option Value} (T : Txt K mg) : Games K okK := ⟨fun k h => match k, h with | .still, h => h.elim | .heap, h => h.elim | .taking ls, h => h.elim | .skittles ls, h => h.elim | .parting, h => h.elim | .runs, h => h.elim | .pairs, h => h.elim | .few m, h => h.elim | .told rows, h => T.cl_Told, fun k h => match k, h with | .still, h => h.elim | .heap, h => h.elim | .taking ls, h => h.elim | .skittles ls, h => h.elim | .parting, h => h.elim | .runs, h => h.elim | .pairs, h => h.elim | .few m, h => h.elim | .told rows, h => T.na_Told_known, fun k h => match k, h with | .still, h => h.elim | .heap, h => h.elim | .taking ls, h => h.elim | .skittles ls, h => h.elim | .parting, h => h.elim | .runs, h => h.elim | .pairs, h => h.elim | .few m, h => h.elim | .told rows, h => T.na_Told_limits, fun k h => match k, h with | .still, h => h.elim | .heap, h => h.elim | .taking ls, h => h.elim | .skittles ls, h => h.elim | .parting, h => h.elim | .runs, h => h.elim | .pairs, h => h.elim | .few m, h => h.elim | .told rows, h => T.na_Told_most, fun k h => match k, h with | .still, h => h.elim | .heap, h => h.elim | .taking ls, h => h.elim | .skittles ls, h => h.elim | .parting, h => h.elim | .runs, h => h.elim | .pairs, h => h.elim | .few m, h => h.elim | .told rows, h => T.na_Told_rows⟩
theorem kinds_ok : Kinds okK := ⟨fun k h => match k, h with | .still, h => h.elim | .heap, h => h.elim | .taking ls, h => h.elim | .skittles ls, h => h.elim | .parting, h => h.elim | .runs, h => h.elim | .pairs, h => h.elim | .few m, h => h.elim | .told rows, h => h.1, fun k h => match k, h with | .still, h => h.elim | .heap, h => h.elim | .taking ls, h => h.elim | .skittles ls, h => h.elim | .parting, h => h.elim | .runs, h => h.elim | .pairs, h => h.elim | .few m, h => h.elim | .told rows, h => h.1.1, fun k h => match k, h with | .still, h => h.elim | .heap, h => h.elim | .taking ls, h => h.elim | .skittles ls, h => h.elim | .parting, h => h.elim | .runs, h => h.elim | .pairs, h => h.elim | .few m, h => h.elim | .told rows, h => fun p hp => told_le h p⟩
theorem tyk {K : PySem.W.Frag} {mg : Str → Option Value} (T : Txt K mg) : ∀ k, okK k → TyC K (kC K k) := fun k h => match k, h with | .still, h => h.elim | .heap, h => h.elim | .taking ls, h => h.elim | .skittles ls, h => h.elim | .parting, h => h.elim | .runs, h => h.elim | .pairs, h => h.elim | .few m, h => h.elim | .told rows, h => T.ty_Told
def isK_Game : Gm.Kind → Bool | .still => false | .heap => false | .taking _ => false | .skittles _ => false | .parting => false | .runs => false | .pairs => false | .few _ => false | .told _ => true
theorem kit_Game {K : PySem.W.Frag} {mg : Str → Option Value} (T : Txt K mg) : ∀ k, okK k → PySem.W.kitOne K (.ref (kC K k)) (.ref (He.ga K "Game")) = some (isK_Game k) := fun k h => match k, h with | .still, h => h.elim | .heap, h => h.elim | .taking ls, h => h.elim | .skittles ls, h => h.elim | .parting, h => h.elim | .runs, h => h.elim | .pairs, h => h.elim | .few m, h => h.elim | .told rows, h => T.k_Told_Game
/-- the rows at as have been emptied, in part; all else stands -/
def Cleared (H H' : Hp) (as : List Addr) : Prop := (∀ b o, H b = some o → b ∉ as → H' b = some o) ∧ ∀ a ∈ as, ∃ xs, H' a = some (.lst xs)
theorem Cleared.refl {H : Hp} {D : Addr} {as : List Addr} {xss : List (List Nat)} (ll : LLs H D as xss) : Cleared H H as := ⟨fun _ _ e _ => e, fun a ha => by
  obtain ⟨i, hi, e⟩ := List.getElem_of_mem ha
  exact ⟨_, ll.row i a _ (by rw [List.getElem?_eq_getElem hi, e]) (List.getElem?_eq_getElem (by rw [← ll.len]; exact hi))⟩⟩
theorem Cleared.put {H H' : Hp} {as : List Addr} {r : Addr} {xs : List V} (c : Cleared H H' as) (hr : r ∈ as) : Cleared H (upd H' r (.lst xs)) as := ⟨fun b o e hb => by
  rw [upd_ne (fun z : b = r => hb (z ▸ hr))]
  exact c.1 b o e hb, fun a ha => by
  by_cases z : a = r
  · rw [z]
    exact ⟨_, upd_same⟩
  · rw [upd_ne z]
    exact c.2 a ha⟩
theorem LLs.out {H : Hp} {D : Addr} {as : List Addr} {xss : List (List Nat)} (ll : LLs H D as xss) : D ∉ as := (List.nodup_cons.mp ll.nd).1
theorem NL_num {ns : List Nat} {p n : Nat} (h : ns[p]? = some n) : atI (NL ns) (p : Int) = some (.int (n : Int)) := by
  refine atI_nat ?_
  unfold NL
  rw [List.getElem?_map, h]
  rfl
/-! ### the law's own reckoning -/
def sp__law_lacking (K : PySem.W.Frag) : Sp := fun vs H Q _ => ∃ (p : Addr) (ns : List Nat), vs = [.ref p] ∧ SqL K H p (NL ns) ∧ Q (.int ((Gm.mex ns : Nat) : Int)) H
abbrev s__law_lacking : Stmt := top 17
theorem sc__law_lacking : FnScope ["_law_numbers", "_law_found"] ["_law_numbers"] (defScope s__law_lacking) := ⟨rfl, rfl, rfl, by decide +kernel, rfl, by decide +kernel, by decide +kernel⟩
theorem ok__law_lacking (T : Txt K mg) : Dn P w K mg base CX0 1 (He.ga K "_law_lacking") ["_law_numbers"] (sp__law_lacking K) := by
  refine dn_of (k := 0) T.f__law_lacking sc__law_lacking (fun _ _ _ _ _ _ us hl => match us, hl with | [_], _ => rfl) (fun cdv A outer s H vs Q E hr h => ?_)
  obtain ⟨p, ns, rfl, hS, q⟩ := h
  refine ⟨_, PSs.nox (pss_cons (ps_set (i := 1) sc__law_lacking.nd rfl (by first | exact Or.inl rfl | exact Or.inr rfl) (pe_nat 0))
      (pss_cons (ps_while PassesOwn.never (pt_cmpR op_in_seq (pv 1) (pv 0) rfl)
      (pss_one (ps_set (i := 1) sc__law_lacking.nd rfl (by first | exact Or.inl rfl | exact Or.inr rfl) (pe_op op_addn (pv 1) (pe_nat 1)))))
      (pss_one (ps_ret (pv 1))))), ?_⟩
  refine while_m (fun k σ H2 => ∃ f, H2 = H ∧ k = ns.length + 1 - f ∧ (∀ j, j < f → j ∈ ns) ∧ σ = [some (.ref p), some (.int (f : Int))]) _ ⟨0, rfl, rfl, fun j h => absurd h (Nat.not_lt_zero j), rfl⟩ ?_
  rintro k σ H2 ⟨f, rfl, rfl, hf, rfl⟩
  have hle := Gm.all_le f ns hf
  walk_at "rl"
  refine ⟨p, _, rfl, .inl hS, rfl, flat_NL ns, ?_⟩
  rw [inV_NL]
  walk_at "rl"
  refine ifN (fun c => ?_) (fun c => ?_)
  · refine ⟨_, fun _ _ h => h, ?_⟩
    walk_at "rl"
    refine ⟨ns.length + 1 - (f + 1), by omega, f + 1, rfl, rfl, fun j hj => ?_, rfl⟩
    by_cases e : j = f
    · rw [e]; exact c
    · exact hf j (by omega)
  · have e : Gm.mex ns = f := Gm.mex_eq ⟨c, hf⟩
    rw [e] at q
    exact ⟨_, rfl, q⟩
def sp__law_sum (K : PySem.W.Frag) : Sp := fun vs H Q _ => ∃ (a p : Addr) (ns lead : List Nat), vs = [.ref a, .ref p] ∧ SqL K H a (NL ns) ∧ SqL K H p (NL lead) ∧ (∀ q ∈ lead, q < ns.length) ∧ Q (.int ((Gm.xs ns lead : Nat) : Int)) H
abbrev s__law_sum : Stmt := top 18
theorem sc__law_sum : FnScope ["_law_numbers", "_law_lead", "_law_found", "_law_place"] ["_law_numbers", "_law_lead"] (defScope s__law_sum) := ⟨rfl, rfl, rfl, by decide +kernel, rfl, by decide +kernel, by decide +kernel⟩
theorem ok__law_sum (T : Txt K mg) : Dn P w K mg base CX0 1 (He.ga K "_law_sum") ["_law_numbers", "_law_lead"] (sp__law_sum K) := by
  refine dn_of (k := 0) T.f__law_sum sc__law_sum (fun _ _ _ _ _ _ us hl => match us, hl with | [_, _], _ => rfl) (fun cdv A outer s H vs Q E hr h => ?_)
  obtain ⟨a, p, ns, lead, rfl, hA, hS, hlt, q⟩ := h
  refine ⟨_, PSs.nox (pss_cons (ps_set (i := 2) sc__law_sum.nd rfl (by first | exact Or.inl rfl | exact Or.inr rfl) (pe_nat 0))
      (pss_cons (ps_for PassesOwn.never rfl (pi_list (pv 1)) (pg_name (i := 3) sc__law_sum.nd rfl (by first | exact Or.inl rfl | exact Or.inr rfl))
      (pss_one (ps_set (i := 2) sc__law_sum.nd rfl (by first | exact Or.inl rfl | exact Or.inr rfl) (pe_op op_xorn (pv 2) (pe_ix ix_list (pv 0) (pv 3) (fun _ _ => rfl))))))
      (pss_one (ps_ret (pv 2))))), ?_⟩
  walk_at "rd"
  refine ⟨⟨_, hS⟩, for_list (K := K) (a := p) (xs := NL lead) (fun i σ H' => ∃ v, σ = [some (.ref a), some (.ref p), some (.int ((Gm.xs ns (lead.take i) : Nat) : Int)), v] ∧ H' = H) ⟨none, rfl, rfl⟩ (fun i σ H' _ ⟨_, _, e⟩ => by rw [e]; exact hS) ?_ ?_⟩
  · rintro i v σ H' hi ⟨v2, rfl, rfl⟩
    obtain ⟨m, hm, rfl⟩ := NL_at hi
    have hmn := hlt m (List.mem_of_getElem? hm)
    walk_at "rl"
    refine ⟨a, _, _, .int ((ns.getD m 0 : Nat) : Int), rfl, rfl, hA, atI_nat (j := m) ?_, ?_⟩
    · unfold NL
      rw [List.getElem?_map, List.getElem?_eq_getElem hmn, List.getD_eq_getElem?_getD, List.getElem?_eq_getElem hmn]
      rfl
    walk_at "rl"
    refine ⟨some (.int (m : Int)), ?_, rfl⟩
    rw [xs_step hm]
    rfl
  · rintro σ H' ⟨v2, rfl, rfl⟩
    rw [NL_length, List.take_length]
    exact ⟨_, rfl, q⟩

/-! ### k08: rows drawn -/
theorem mod_nat (c : Int) {k : Nat} (hk : 0 < k) : ∃ m : Nat, c % (k : Int) = (m : Int) ∧ m < k := by
  have h1 := Int.emod_nonneg c (show ((k : Nat) : Int) ≠ 0 by omega)
  have h2 := Int.emod_lt_of_pos c (show (0 : Int) < (k : Int) by omega)
  exact ⟨(c % (k : Int)).toNat, by omega, by omega⟩
def sp__law_lead_by (K : PySem.W.Frag) : Sp := fun vs H Q _ => ∃ (m p : Nat), vs = [.int (m : Int), .int (p : Int)] ∧ 0 < p ∧ ∀ (D : Addr) (H' : Hp) (lead : List Nat), Same H H' → H D = none → H' D = some (.lst (NL lead)) → (∀ q ∈ lead, q < p) → Q (.ref D) H'
abbrev s__law_lead_by : Stmt := top 19
theorem sc__law_lead_by : FnScope ["_law_mixed", "_law_place", "_law_k"] ["_law_mixed", "_law_place"] (defScope s__law_lead_by) := ⟨rfl, rfl, rfl, by decide +kernel, rfl, by decide +kernel, by decide +kernel⟩
theorem ok__law_lead_by (T : Txt K mg) : Dn P w K mg base CX0 1 (He.ga K "_law_lead_by") ["_law_mixed", "_law_place"] (sp__law_lead_by K) := by
  refine dn_of (k := 0) T.f__law_lead_by sc__law_lead_by (fun _ _ _ _ _ _ us hl => match us, hl with | [_, _], _ => rfl) (fun cdv A outer s H vs Q E hr h => ?_)
  obtain ⟨m, p, rfl, hp, q⟩ := h
  refine ⟨_, PSs.nox (pss_one (ps_ret (pe_lc (own := [("_law_k", 2)]) (g := gName 2) (by rfl) sc__law_lead_by.nd (pi_range1 rfl T.n_range (pa_cons (pe_op op_modn (pv 0) (pe_nat 4)) pa_nil)) (blkOk_by (own := [("_law_k", 2)]) (N := ["_law_mixed", "_law_place", "_law_k"]) (sc := defScope (s__law_lead_by)) (by decide +kernel)) (fun _ _ _ _ _ => pg_name (i := 2) sc__law_lead_by.nd rfl (by first | exact Or.inl rfl | exact Or.inr rfl)) (fun _ _ _ _ _ => pts_nil) (fun _ _ _ _ _ => (pe_op op_modn (pe_op op_fdivn (pv 0) (pe_op op_addn (pe_nat 7) (pe_op op_muln (pv 2) (pe_nat 5)))) (pv 1)))))), ?_⟩
  walk_at "rl"
  have h4 : m % 4 < 4 := Nat.mod_lt _ (by decide)
  refine ⟨by omega, by omega, fun D nD => ?_⟩
  refine lc_rangeN (n := m % 4) (fun i H' => ∃ lead, lead.length = i ∧ Same H H' ∧ H' D = some (.lst (NL lead)) ∧ ∀ q ∈ lead, q < p) ⟨[], rfl, Same.upd nD, upd_same, by simp⟩ ?_ ?_
  · rintro i H' hi ⟨lead, hl, sm, hD, hlt⟩
    walk_at "rl"
    refine ⟨⟨by omega, by omega⟩, ?_⟩
    walk_at "rl"
    refine ⟨hp, ?_⟩
    refine ⟨_, hD, mil_line (by rw [NL_length]; omega), lead ++ [m / (7 + i * 5) % p], by rw [List.length_append, hl]; rfl, N.Same.put sm nD, ?_, ?_⟩
    · rw [upd_same]
      unfold NL
      rw [List.map_append]
      rfl
    · intro q hq
      rcases List.mem_append.mp hq with hq | hq
      · exact hlt q hq
      · rw [List.mem_singleton] at hq
        rw [hq]
        exact Nat.mod_lt _ hp
  · rintro H' ⟨lead, hl, sm, hD, hlt⟩
    exact q D H' lead sm nD hD hlt
theorem arg_nat {e : Int} {v : V} (h : 0 ≤ e) : [V.int e, v] = [V.int ((e.toNat : Nat) : Int), v] := by rw [Int.toNat_of_nonneg h]
/-- rows as they are drawn -/
def Drawn (rows : List (List (List Nat))) : Prop := Gm.Kind.Ok (.told rows) ∧ ∀ leads ∈ rows, leads.length ≤ 1000000
def sp__law_rows_by (K : PySem.W.Frag) : Sp := fun vs H Q _ => ∃ (a : Addr) (ns : List Int) (many : Nat), vs = [.ref a, .int (many : Int)] ∧ SqL K H a (ns.map V.int) ∧ many ≤ 60 ∧ ∀ D ps ass H' rows, B3 H H' D ps ass rows → rows.length = many → Drawn rows → Q (.ref D) H'
abbrev s__law_rows_by : Stmt := top 20
theorem sc__law_rows_by : FnScope ["_law_script", "_law_many", "_law_rows", "_law_place", "_law_cell", "_law_leads", "_law_k"] ["_law_script", "_law_many"] (defScope s__law_rows_by) := ⟨rfl, rfl, rfl, by decide +kernel, rfl, by decide +kernel, by decide +kernel⟩
theorem ok__law_rows_by (T : Txt K mg) (d__law_cell_at : Dn P w K mg base CX0 1 (He.ga K "_law_cell_at") ["_law_script", "_law_k"] (sp__law_cell_at K)) (d__law_lead_by : Dn P w K mg base CX0 1 (He.ga K "_law_lead_by") ["_law_mixed", "_law_place"] (sp__law_lead_by K)) : Dn P w K mg base CX0 2 (He.ga K "_law_rows_by") ["_law_script", "_law_many"] (sp__law_rows_by K) := by
  refine dn_of (k := 1) T.f__law_rows_by sc__law_rows_by (fun _ _ _ _ _ _ us hl => match us, hl with | [_, _], _ => rfl) (fun cdv A outer s H vs Q E hr h => ?_)
  obtain ⟨a, ns, many, rfl, hS, hm, q⟩ := h
  refine ⟨_, PSs.nox (pss_cons (ps_set (i := 2) sc__law_rows_by.nd rfl (by first | exact Or.inl rfl | exact Or.inr rfl) (pe_lst pa_nil))
      (pss_cons (ps_for PassesOwn.never rfl (pi_range1 rfl T.n_range (pa_cons (pv 1) pa_nil)) (pg_name (i := 3) sc__law_rows_by.nd rfl (by first | exact Or.inl rfl | exact Or.inr rfl))
      (pss_cons (ps_cut (ps_set (i := 4) sc__law_rows_by.nd rfl (by first | exact Or.inl rfl | exact Or.inr rfl) (pe_op op_add (pe_op op_mul (pe_cl d__law_cell_at (hr.mono (by omega)) T.g__law_cell_at pass0 (pa_cons (pv 0) (pa_cons (pe_op op_addn (pe_nat 2) (pe_op op_modn (pv 3) (pe_nat 61))) pa_nil))) pe_int) (pe_op op_muln (pe_nat 31) (pv 3)))))
      (pss_cons (ps_set (i := 5) sc__law_rows_by.nd rfl (by first | exact Or.inl rfl | exact Or.inr rfl) (pe_lst pa_nil))
      (pss_cons (ps_cut (ps_if (pt_cmpR op_gtn (pv 3) (pe_nat 0) (nomark _)) (pss_one (ps_setLc (i := 5) (own := [("_law_k", 6)]) (g := gName 6) (by rfl) sc__law_rows_by.nd rfl rfl (sw_true rfl rfl rfl (by decide +kernel)) (pi_range1 rfl T.n_range (pa_cons (pe_op op_mod (pv 4) pe_int) pa_nil)) (blkOk_by (own := [("_law_k", 6)]) (N := ["_law_script", "_law_many", "_law_rows", "_law_place", "_law_cell", "_law_leads", "_law_k"]) (sc := defScope (s__law_rows_by)) (by decide +kernel)) (fun _ _ _ _ _ => pg_name (i := 6) sc__law_rows_by.nd rfl (by first | exact Or.inl rfl | exact Or.inr rfl)) (fun _ _ _ _ _ => pts_nil) (fun _ _ _ _ _ => (pe_cl d__law_lead_by (hr.mono (by omega)) T.g__law_lead_by pass0 (pa_cons (pe_op op_fdiv (pe_op op_mod (pe_op op_mul (pe_op op_add (pv 4) (pe_op op_mulX (pe_op op_mul pe_int (pv 6)) (pv 6))) pe_int) pe_int) pe_int) (pa_cons (pv 3) pa_nil)))))) pss_nil))
      (pss_one (ps_expr (pe_bm PySem.F.plainAttrs_list PySem.F.slot_list_append PySem.F.type_list_append mt_append (pv 2) (pa_cons (pv 5) pa_nil))))))))
      (pss_one (ps_ret (pv 2))))), ?_⟩
  refine ⟨by show 0 ≤ sizeLine; decide, fun D nD => ?_⟩
  walk_at "rl"
  refine ⟨by omega, by omega, for_rangeN (n := many) (fun i σ H' => ∃ v3 v4 v5 v6 ps ass rows, σ = [some (.ref a), some (.int (many : Int)), some (.ref D), v3, v4, v5, v6] ∧ rows.length = i ∧ B3 H H' D ps ass rows ∧ Drawn rows) ⟨none, none, none, none, [], [], [], rfl, rfl, B3.nil (Same.refl _) nD, ⟨⟨by decide, fun p leads e => by cases e⟩, fun l h => by cases h⟩⟩ ?_ ?_⟩
  · rintro i σ H' hi ⟨v3, v4, v5, v6, ps, ass, rows, rfl, hrl, b, ⟨⟨hd1, hd2⟩, hd3⟩⟩
    refine ⟨fun σ' H2 => ∃ c : Int, H2 = H' ∧ σ' = [some (.ref a), some (.int (many : Int)), some (.ref D), some (.int (i : Int)), some (.int c), v5, v6], ?_, ?_⟩
    rotate_left
    · walk_at "rl"
      refine ⟨a, ns, 2 + i % 61, rfl, b.same.seq hS, ?_⟩
      walk_at "rl"
      exact ⟨_, rfl, rfl⟩
    rintro σ' H2 ⟨c, rfl, rfl⟩
    refine ⟨by show 0 ≤ sizeLine; decide, fun L0 nL0 => ?_⟩
    walk_at "rl"
    have bl0 : Bld H2 (upd H2 L0 (.lst [])) L0 [] [] := Bld.nil (Same.refl _) nL0
    refine ⟨fun σ' H3 => ∃ L as leads, Bld H2 H3 L as leads ∧ leads.length ≤ 5 ∧ (∀ lead ∈ leads, ∀ q ∈ lead, q < i) ∧ σ' = [some (.ref a), some (.int (many : Int)), some (.ref D), some (.int (i : Int)), some (.int c), some (.ref L), v6], ?_, ?_⟩
    · rintro σ' H3 ⟨L, as, leads, bl, h5, hlt, rfl⟩
      have htop := bl.same _ _ b.l3.top
      have hpl := b.l3.l1
      walk_at "rl"
      refine ⟨D, _, _, rfl, rfl, htop, mil_line (by rw [List.length_map]; omega), some (.int (i : Int)), some (.int c), some (.ref L), v6, ps ++ [L], ass ++ [as], rows ++ [leads], rfl, by rw [List.length_append, hrl]; rfl, b.snoc bl, ⟨by rw [List.length_append, List.length_singleton]; omega, fun p ld e => ?_⟩, fun ld hl => ?_⟩
      · by_cases hp : p < rows.length
        · rw [List.getElem?_append_left hp] at e
          exact hd2 p ld e
        · rw [List.getElem?_append_right (by omega)] at e
          have e0 : p - rows.length = 0 := by
            have := (List.getElem?_eq_some_iff.mp e).1
            simp only [List.length_singleton] at this
            omega
          rw [e0] at e
          obtain rfl : leads = ld := Option.some.inj e
          have : p = i := by omega
          rw [this]
          exact hlt
      · rcases List.mem_append.mp hl with hl | hl
        · exact hd3 ld hl
        · rw [List.mem_singleton] at hl
          rw [hl]
          omega
    · walk_at "rl"
      refine ifN (fun ci => ?_) (fun ci => ⟨L0, [], [], bl0, by decide, by simp, rfl⟩)
      obtain ⟨n6, e6, l6⟩ := mod_nat c (k := 6) (by decide)
      rw [show ((6 : Nat) : Int) = 6 from rfl] at e6
      walk_at "rl"
      rw [e6]
      refine ⟨by omega, by omega, fun L nL => ?_⟩
      refine lc_rangeN (n := n6) (fun k H3 => ∃ as leads, leads.length = k ∧ Bld (upd H2 L0 (.lst [])) H3 L as leads ∧ ∀ lead ∈ leads, ∀ q ∈ lead, q < i) ⟨[], [], rfl, Bld.nil (Same.refl _) nL, by simp⟩ ?_ ?_
      · rintro k H3 hk ⟨as, leads, hl, bl, hlt⟩
        walk_at "rl"
        refine ⟨mulx_ok (a := 13) (b := 3) (by omega) (by omega) (by decide), ?_⟩
        walk_at "rl"
        refine ⟨_, i, arg_nat (Int.ediv_nonneg (Int.emod_nonneg _ (by decide)) (by decide)), ci, fun D4 H4 lead s4 nD4 hD4 hlead => ?_⟩
        refine ⟨_, s4 _ _ bl.ll.top, mil_line (by rw [List.length_map, bl.ll.len]; omega), as ++ [D4], leads ++ [lead], by rw [List.length_append, hl]; rfl, bl.snoc s4 nD4 hD4, fun ld hld => ?_⟩
        rcases List.mem_append.mp hld with hld | hld
        · exact hlt ld hld
        · rw [List.mem_singleton] at hld
          rw [hld]
          exact hlead
      · rintro H3 ⟨as, leads, hl, bl, hlt⟩
        exact ⟨L, as, leads, bl.since (Same.upd nL0), by omega, hlt, rfl⟩
  · rintro σ H' ⟨v3, v4, v5, v6, ps, ass, rows, rfl, hrl, b, hd⟩
    walk_at "rl"
    exact q D ps ass H' rows b hrl hd
def sp__law_due (K : PySem.W.Frag) : Sp := fun vs H Q _ => ∃ (x : Addr) (ps : List Addr) (ass : List (List Addr)) (rows : List (List (List Nat))), vs = [.ref x] ∧ L3 H x ps ass rows ∧ Drawn rows ∧ ∀ D H', Same H H' → H D = none → H' D = some (.lst (NL (Gm.nums (Gm.Kind.told rows).L rows.length))) → Q (.ref D) H'
abbrev s__law_due : Stmt := top 21
theorem sc__law_due : FnScope ["_law_rows", "_law_numbers", "_law_leads", "_law_lead"] ["_law_rows"] (defScope s__law_due) := ⟨rfl, rfl, rfl, by decide +kernel, rfl, by decide +kernel, by decide +kernel⟩
theorem ok__law_due (T : Txt K mg) (d__law_lacking : Dn P w K mg base CX0 1 (He.ga K "_law_lacking") ["_law_numbers"] (sp__law_lacking K)) (d__law_sum : Dn P w K mg base CX0 1 (He.ga K "_law_sum") ["_law_numbers", "_law_lead"] (sp__law_sum K)) : Dn P w K mg base CX0 2 (He.ga K "_law_due") ["_law_rows"] (sp__law_due K) := by
  refine dn_of (k := 1) T.f__law_due sc__law_due (fun _ _ _ _ _ _ us hl => match us, hl with | [_], _ => rfl) (fun cdv A outer s H vs Q E hr h => ?_)
  obtain ⟨x, ps, ass, rows, rfl, l3, ⟨hok, hd3⟩, q⟩ := h
  have hx := l3.top
  have h101 : rows.length ≤ 101 := hok.1
  refine ⟨_, PSs.nox (pss_cons (ps_set (i := 1) sc__law_due.nd rfl (by first | exact Or.inl rfl | exact Or.inr rfl) (pe_lst pa_nil))
      (pss_cons (ps_for PassesOwn.never rfl (pi_list (pv 0)) (pg_name (i := 2) sc__law_due.nd rfl (by first | exact Or.inl rfl | exact Or.inr rfl))
      (pss_one (ps_expr (pe_bm PySem.F.plainAttrs_list PySem.F.slot_list_append PySem.F.type_list_append mt_append (pv 1) (pa_cons (pe_cl d__law_lacking (hr.mono (by omega)) T.g__law_lacking pass0 (pa_cons (pe_lc (own := [("_law_lead", 3)]) (g := gName 3) (by rfl) sc__law_due.nd (pi_list (pv 2)) (blkOk_by (own := [("_law_lead", 3)]) (N := ["_law_rows", "_law_numbers", "_law_leads", "_law_lead"]) (sc := defScope (s__law_due)) (by decide +kernel)) (fun _ _ _ _ _ => pg_name (i := 3) sc__law_due.nd rfl (by first | exact Or.inl rfl | exact Or.inr rfl)) (fun _ _ _ _ _ => pts_nil) (fun _ _ _ _ _ => (pe_cl d__law_sum (hr.mono (by omega)) T.g__law_sum pass0 (pa_cons (pv 1) (pa_cons (pv 3) pa_nil))))) pa_nil)) pa_nil)))))
      (pss_one (ps_ret (pv 1))))), ?_⟩
  refine ⟨by show 0 ≤ sizeLine; decide, fun D nD => ?_⟩
  have s0 := Same.upd nD (o := .lst [])
  walk_at "rl"
  refine ⟨⟨_, SqL.of (s0 _ _ hx)⟩, for_list (K := K) (a := x) (xs := ps.map V.ref) (fun i σ H' => ∃ v2, i ≤ rows.length ∧ σ = [some (.ref x), some (.ref D), v2, none] ∧ Same H H' ∧ H' D = some (.lst (NL (Gm.nums (Gm.Kind.told rows).L i)))) ⟨none, Nat.zero_le _, rfl, s0, upd_same⟩ (fun i σ H' _ ⟨_, _, _, s, _⟩ => SqL.of (s _ _ hx)) ?_ ?_⟩
  · rintro i v σ H' hi ⟨v2, hil, rfl, sm, hD⟩
    obtain ⟨p, as, leads, e1, e2, e3, rfl, ll⟩ := l3.at hi
    have hir := (List.getElem?_eq_some_iff.mp e3).1
    have ll' := ll.same sm
    have htp := ll'.top
    have eL : (Gm.Kind.told rows).L i = leads := by
      show rows.getD i [] = _
      rw [List.getD_eq_getElem?_getD, e3]
      rfl
    have hle := hd3 leads (List.mem_of_getElem? e3)
    walk_at "rl"
    refine ⟨⟨_, SqL.of htp⟩, fun E nE => ?_⟩
    refine lc_list (K := K) (a := p) (xs := as.map V.ref) (fun t H4 => H4 E = some (.lst (NL ((leads.take t).map (Gm.xs (Gm.nums (Gm.Kind.told rows).L i))))) ∧ Same H' H4) ⟨upd_same, Same.upd nE⟩ (fun t H4 _ h => SqL.of (h.2 _ _ htp)) ?_ ?_
    · rintro t v H4 ht ⟨hE, s4⟩
      obtain ⟨r, lead, er, el, rfl, hr⟩ := ll'.item ht
      have htl := (List.getElem?_eq_some_iff.mp el).1
      walk_at "rl"
      refine ⟨D, r, _, lead, rfl, SqL.of (s4 _ _ hD), SqL.of (s4 _ _ hr), fun q hq => by rw [Gm.nums_length]; exact hok.2 i leads e3 lead (List.mem_of_getElem? el) q hq, ?_⟩
      refine ⟨_, hE, mil_line (by rw [NL_length, List.length_map, List.length_take]; omega), ?_, N.Same.put s4 nE⟩
      rw [upd_same, List.take_succ, el, List.map_append]
      unfold NL
      rw [List.map_append]
      rfl
    · rintro H4 ⟨hE, s4⟩
      rw [List.length_map, ll.len, List.take_length] at hE
      walk_at "rl"
      refine ⟨E, _, rfl, SqL.of hE, ?_⟩
      walk_at "rl"
      refine ⟨D, _, _, rfl, rfl, s4 _ _ hD, mil_line (by rw [NL_length, Gm.nums_length]; omega), some (.ref p), by omega, rfl, N.Same.put (sm.trans s4) nD, ?_⟩
      rw [upd_same, nums_snocN]
      unfold Gm.num
      rw [eL]
  · rintro σ H' ⟨v2, hil, rfl, sm, hD⟩
    rw [List.length_map, l3.l1] at hD
    walk_at "rl"
    exact q D H' sm nD hD
/-- a place beyond: refused -/
def sp__law_further (K : PySem.W.Frag) : Sp := fun vs H Q _ => ∃ (k : Gm.Kind) (g l x : Addr) (n p : Nat), vs = [.ref g, .int (p : Int)] ∧ okK k ∧ GameAt K k H g l x n ∧ n ≤ k.top ∧ k.top ≤ p ∧
  ∀ n' H', But l H H' → GameAt K k H' g l x n' → n ≤ n' → n' ≤ k.top → Q (.bl true) H'
abbrev s__law_further : Stmt := top 22
theorem sc__law_further : FnScope ["_law_game", "_law_place"] ["_law_game", "_law_place"] (defScope s__law_further) := ⟨rfl, rfl, rfl, by decide +kernel, rfl, by decide +kernel, by decide +kernel⟩
theorem ok__law_further (T : Txt K mg) (DN : Disp P w K mg base (L2.CX P w) 20 "number" (kC K) okK ["self", "place"] (sp_number K)) : Dn P w K mg base CX0 21 (He.ga K "_law_further") ["_law_game", "_law_place"] (sp__law_further K) := by
  refine dn_of (k := 20) T.f__law_further sc__law_further (fun _ _ _ _ _ _ us hl => match us, hl with | [_, _], _ => rfl) (fun cdv A outer s H vs Q E hr h => ?_)
  obtain ⟨k, g, l, x, n, p, rfl, hk, ga, hn, hp, q⟩ := h
  obtain ⟨dx, hg⟩ := ga.ob
  refine ⟨_, PSs.nox (pss_cons (ps_try_only rfl rfl ⟨rfl, by decide, .inl T.g_NotAPlace⟩ takes0 (fun W pn xe tk po => (pss_one (ps_expr (pe_mfS (DN) (hr.mono (by omega)) (E := WE W) (fun σ => passAt tk σ) (pv 0) (pa_cons (pv 1) pa_nil))))) (fun a oe cls d pn hz hf => (pss_one (ps_ret pe_bl))))
      (pss_one (ps_ret pe_bl))), ?_⟩
  walk_at "rl"
  refine ⟨k, g, _, _, hk, rfl, hg, kfs_number _ _ _, ?_⟩
  walk_at "rl"
  refine ⟨g, l, x, n, _, rfl, ga, hn, .inr ⟨.inr ⟨(p : Int), rfl, .inr (.inr (by omega))⟩, fun n' H' bt ga' h1 h2 => ?_⟩⟩
  exact ⟨true, T.e_NotAPlace_NotAPlace, fun _ a _ => q n' H' bt ga' h1 h2, fun z => nomatch z⟩
def sp__law_further_numbers (K : PySem.W.Frag) : Sp := fun vs H Q _ => ∃ (k : Gm.Kind) (g l x : Addr) (n p : Nat), vs = [.ref g, .int (p : Int)] ∧ okK k ∧ GameAt K k H g l x n ∧ n ≤ k.top ∧ k.top < p ∧ p ≤ 100000 ∧
  ∀ n' H', But l H H' → GameAt K k H' g l x n' → n ≤ n' → n' ≤ k.top → Q (.bl true) H'
abbrev s__law_further_numbers : Stmt := top 23
theorem sc__law_further_numbers : FnScope ["_law_game", "_law_many"] ["_law_game", "_law_many"] (defScope s__law_further_numbers) := ⟨rfl, rfl, rfl, by decide +kernel, rfl, by decide +kernel, by decide +kernel⟩
theorem ok__law_further_numbers (T : Txt K mg) (DA : Disp P w K mg base (L2.CX P w) 21 "numbers" (kC K) okK ["self", "many"] (sp_numbers K)) : Dn P w K mg base CX0 22 (He.ga K "_law_further_numbers") ["_law_game", "_law_many"] (sp__law_further_numbers K) := by
  refine dn_of (k := 21) T.f__law_further_numbers sc__law_further_numbers (fun _ _ _ _ _ _ us hl => match us, hl with | [_, _], _ => rfl) (fun cdv A outer s H vs Q E hr h => ?_)
  obtain ⟨k, g, l, x, n, p, rfl, hk, ga, hn, hp, hpm, q⟩ := h
  obtain ⟨dx, hg⟩ := ga.ob
  refine ⟨_, PSs.nox (pss_cons (ps_try_only rfl rfl ⟨rfl, by decide, .inl T.g_NotAPlace⟩ takes0 (fun W pn xe tk po => (pss_one (ps_expr (pe_mfS (DA) (hr.mono (by omega)) (E := WE W) (fun σ => passAt tk σ) (pv 0) (pa_cons (pv 1) pa_nil))))) (fun a oe cls d pn hz hf => (pss_one (ps_ret pe_bl))))
      (pss_one (ps_ret pe_bl))), ?_⟩
  walk_at "rl"
  refine ⟨k, g, _, _, hk, rfl, hg, kfs_numbers _ _ _, ?_⟩
  walk_at "rl"
  refine ⟨g, l, x, n, p, rfl, ga, hn, hpm, .inr ⟨hp, fun n' H' bt ga' h1 h2 => ?_⟩⟩
  exact ⟨true, T.e_NotAPlace_NotAPlace, fun _ a _ => q n' H' bt ga' h1 h2, fun z => nomatch z⟩
/-- the first n rows have been emptied, in part; all else stands -/
def Cl3 (H H' : Hp) (ps : List Addr) (ass : List (List Addr)) (n : Nat) : Prop := (∀ b o, H b = some o → (∀ i, i < n → ¬ InRow ps ass i b) → H' b = some o) ∧ ∀ i b, InRow ps ass i b → ∃ xs, H' b = some (.lst xs)
theorem Cl3.refl {H : Hp} {x : Addr} {ps : List Addr} {ass : List (List Addr)} {rows : List (List (List Nat))} (h : L3 H x ps ass rows) : Cl3 H H ps ass 0 := ⟨fun _ _ e _ => e, fun i b hb => h.has hb.own⟩
theorem Cl3.weak {H H' : Hp} {ps : List Addr} {ass : List (List Addr)} {n : Nat} (h : Cl3 H H' ps ass n) : Cl3 H H' ps ass (n + 1) := ⟨fun b o e k => h.1 b o e fun i hi => k i (by omega), h.2⟩
theorem Cl3.put {H H' : Hp} {ps : List Addr} {ass : List (List Addr)} {n : Nat} {c : Addr} (h : Cl3 H H' ps ass (n + 1)) (hc : InRow ps ass n c) : Cl3 H (upd H' c (.lst [])) ps ass (n + 1) :=
  ⟨fun b o e k => by
    rw [upd_ne (fun z : b = c => k n (by omega) (z ▸ hc))]
    exact h.1 b o e k, fun i b hb => by
    by_cases z : b = c
    · rw [z]
      exact ⟨_, upd_same⟩
    · rw [upd_ne z]
      exact h.2 i b hb⟩
theorem L3.row' {H : Hp} {x : Addr} {ps : List Addr} {ass : List (List Addr)} {rows : List (List (List Nat))} (h : L3 H x ps ass rows) {o : Nat} (ho : o < rows.length) : ∃ p as, atI (ps.map V.ref) (o : Int) = some (.ref p) ∧ LLs H p as ((Gm.Kind.told rows).L o) := by
  have hp : o < ps.length := by
    rw [h.l1]
    exact ho
  have e : (ps.map V.ref)[o]? = some (.ref ps[o]) := by rw [List.getElem?_map, List.getElem?_eq_getElem hp]; rfl
  obtain ⟨p, as, leads, e1, e2, e3, ev, ll⟩ := h.at e
  have eL : (Gm.Kind.told rows).L o = leads := by
    show rows.getD o [] = _
    rw [List.getD_eq_getElem?_getD, e3]
    rfl
  rw [eL]
  exact ⟨p, as, atI_nat (by rw [e, ev]), ll⟩
abbrev s_law : Stmt := top 24
theorem sc_law : FnScope ["_law_script", "_law_many", "_law_rows", "_law_handed", "_law_lead", "_law_leads", "_law_game", "_law_due_here", "_law_order", "_law_k", "_law_place", "_law_found", "_law_numbers"] ["_law_script"] (defScope s_law) := ⟨rfl, rfl, rfl, by decide +kernel, rfl, by decide +kernel, by decide +kernel⟩
theorem ok_law (T : Txt K mg) (DM : Disp P w K mg base CX0 11 "name" (kC K) okK ["self"] (sp_name K)) (DNc : Disp P w K mg base CX0 20 "number" (kC K) okK ["self", "place"] (sp_numC K)) (DLc : Disp P w K mg base CX0 10 "leads" (kC K) okK ["self", "place"] (fun k vs H Q _ => sp_leads K k vs H Q E0)) (DAc : Disp P w K mg base CX0 21 "numbers" (kC K) okK ["self", "many"] (fun k vs H Q _ => sp_numbers K k vs H Q E0)) (d__law_cell_at : Dn P w K mg base CX0 1 (He.ga K "_law_cell_at") ["_law_script", "_law_k"] (sp__law_cell_at K)) (d__law_rows_by : Dn P w K mg base CX0 2 (He.ga K "_law_rows_by") ["_law_script", "_law_many"] (sp__law_rows_by K)) (c_Told___init__ : Dn P w K mg base CX0 5 (He.ma K (He.ga K "Told") "__init__") ["self", "rows"] (fun vs H Q _ => (sp_toinit K (He.ga K "Told")) vs H Q E0)) (d__law_due : Dn P w K mg base CX0 2 (He.ga K "_law_due") ["_law_rows"] (sp__law_due K)) (d__law_whole : Dn P w K mg base CX0 1 (He.ga K "_law_whole") ["_law_found"] (sp_is_whole K)) (d__law_further : Dn P w K mg base CX0 21 (He.ga K "_law_further") ["_law_game", "_law_place"] (sp__law_further K)) (d__law_further_numbers : Dn P w K mg base CX0 22 (He.ga K "_law_further_numbers") ["_law_game", "_law_many"] (sp__law_further_numbers K)) : Dn P w K mg base CX0 23 (He.ga K "law") ["_law_script"] (spLaw K) := by
  refine dn_of (k := 22) T.f_law sc_law (fun _ _ _ _ _ _ us hl => match us, hl with | [_], _ => rfl) (fun cdv A outer s H vs Q E hr h => ?_)
  obtain ⟨a, ns, rfl, hS, hlen, hbits, q⟩ := h
  have GG := games_ok T
  have KK := kinds_ok
  obtain ⟨n15, e15, l15⟩ := mod_nat (cell ns 0) (k := 15) (by decide)
  rw [show ((15 : Nat) : Int) = 15 from rfl] at e15
  refine ⟨_, PSs.nox (pss_cons (ps_set (i := 1) sc_law.nd rfl (by first | exact Or.inl rfl | exact Or.inr rfl) (pe_op op_mod (pe_cl d__law_cell_at (hr.mono (by omega)) T.g__law_cell_at pass0 (pa_cons (pv 0) (pa_cons (pe_nat 0) pa_nil))) pe_int))
      (pss_cons (ps_cut (ps_if (pt_cmpR op_eqi (pe_op op_mod (pe_op op_fdiv (pe_cl d__law_cell_at (hr.mono (by omega)) T.g__law_cell_at pass0 (pa_cons (pv 0) (pa_cons (pe_nat 0) pa_nil))) pe_int) pe_int) pe_int (nomark _)) (pss_one (ps_set (i := 1) sc_law.nd rfl (by first | exact Or.inl rfl | exact Or.inr rfl) (pe_op op_mod (pe_op op_fdiv (pe_cl d__law_cell_at (hr.mono (by omega)) T.g__law_cell_at pass0 (pa_cons (pv 0) (pa_cons (pe_nat 0) pa_nil))) pe_int) pe_int))) pss_nil))
      (pss_cons (ps_set (i := 2) sc_law.nd rfl (by first | exact Or.inl rfl | exact Or.inr rfl) (pe_cl d__law_rows_by (hr.mono (by omega)) T.g__law_rows_by pass0 (pa_cons (pv 0) (pa_cons (pv 1) pa_nil))))
      (pss_cons (ps_setLc (i := 3) (own := [("_law_leads", 5)]) (g := gName 5) (by rfl) sc_law.nd rfl rfl (sw_true rfl rfl rfl (by decide +kernel)) (pi_list (pv 2)) (blkOk_by (own := [("_law_leads", 5)]) (N := ["_law_script", "_law_many", "_law_rows", "_law_handed", "_law_lead", "_law_leads", "_law_game", "_law_due_here", "_law_order", "_law_k", "_law_place", "_law_found", "_law_numbers"]) (sc := defScope (s_law)) (by decide +kernel)) (fun _ _ _ _ _ => pg_name (i := 5) sc_law.nd rfl (by first | exact Or.inl rfl | exact Or.inr rfl)) (fun _ _ _ _ _ => pts_nil) (fun _ _ _ _ _ => (pe_lc (wi := iList K (tVar 5)) (own := [("_law_lead", 4)]) (g := gName 4) (by rfl) sc_law.nd (pi_list (pv 5)) (blk_nest (by kernel_rfl)) (fun _ _ _ _ _ => pg_name (i := 4) sc_law.nd rfl (by first | exact Or.inl rfl | exact Or.inr rfl)) (fun _ _ _ _ _ => pts_nil) (fun _ _ _ _ _ => (pe_callTy (T := "list") (r := rListOf K) cr_listof (by rfl) T.n_list (by decide +kernel) (pa_cons (pv 4) pa_nil))))))
      (pss_cons (ps_set (i := 6) sc_law.nd rfl (by first | exact Or.inl rfl | exact Or.inr rfl) (pe_mk T.mk_Told c_Told___init__ (hr.mono (by omega)) T.g_Told pass0 (pa_cons (pv 3) pa_nil)))
      (pss_cons (ps_if (pt_cmpR (op_neL3 hr.units) (pv 3) (pv 2) (nomark _)) (pss_one (ps_ret pe_bl)) pss_nil)
      (pss_cons (ps_for PassesOwn.never rfl (pi_list (pv 3)) (pg_name (i := 5) sc_law.nd rfl (by first | exact Or.inl rfl | exact Or.inr rfl))
      (pss_cons (ps_for PassesOwn.never rfl (pi_list (pv 5)) (pg_name (i := 4) sc_law.nd rfl (by first | exact Or.inl rfl | exact Or.inr rfl))
      (pss_one (ps_expr (pe_bm0 PySem.F.plainAttrs_list PySem.F.slot_list_clear PySem.F.type_list_clear mt_clear (pv 4)))))
      (pss_one (ps_expr (pe_bm0 PySem.F.plainAttrs_list PySem.F.slot_list_clear PySem.F.type_list_clear mt_clear (pv 5))))))
      (pss_cons (ps_expr (pe_bm0 PySem.F.plainAttrs_list PySem.F.slot_list_clear PySem.F.type_list_clear mt_clear (pv 3)))
      (pss_cons (ps_set (i := 7) sc_law.nd rfl (by first | exact Or.inl rfl | exact Or.inr rfl) (pe_cl d__law_due (hr.mono (by omega)) T.g__law_due pass0 (pa_cons (pv 2) pa_nil)))
      (pss_cons (ps_if (PW.pt (pw_or (pt_not (pt_val (pe_callB (r := rIsi K) call_isi (by rfl) T.n_isinstance (by decide +kernel) (pa_cons (pv 6) (pa_cons (pe_glob (v := .ref (He.ga K "Game")) rfl T.g_Game rfl) pa_nil))))) (pw_or1 (pt_cmpR op_ne (pe_mf0 (DM) (hr.mono (by omega)) pass0 (pv 6)) (pe_op op_add_str pe_str (pe_callTy (T := "str") call_str_int (by rfl) T.n_str (by decide +kernel) (pa_cons (pv 1) pa_nil))) (nomark _))))) (pss_one (ps_ret pe_bl)) pss_nil)
      (pss_cons (ps_setLc (i := 8) (own := [("_law_k", 9)]) (g := gName 9) (by rfl) sc_law.nd rfl rfl (sw_true rfl rfl rfl (by decide +kernel)) (pi_range1 rfl T.n_range (pa_cons (pv 1) pa_nil)) (blkOk_by (own := [("_law_k", 9)]) (N := ["_law_script", "_law_many", "_law_rows", "_law_handed", "_law_lead", "_law_leads", "_law_game", "_law_due_here", "_law_order", "_law_k", "_law_place", "_law_found", "_law_numbers"]) (sc := defScope (s_law)) (by decide +kernel)) (fun _ _ _ _ _ => pg_name (i := 9) sc_law.nd rfl (by first | exact Or.inl rfl | exact Or.inr rfl)) (fun _ _ _ _ _ => pts_nil) (fun _ _ _ _ _ => (pe_op op_mod (pe_op op_add (pv 9) (pe_op op_fdiv (pe_cl d__law_cell_at (hr.mono (by omega)) T.g__law_cell_at pass0 (pa_cons (pv 0) (pa_cons (pe_nat 1) pa_nil))) pe_int)) (pv 1))))
      (pss_cons (ps_cut (ps_if (pt_cmpR op_eqi (pe_op op_mod (pe_cl d__law_cell_at (hr.mono (by omega)) T.g__law_cell_at pass0 (pa_cons (pv 0) (pa_cons (pe_nat 1) pa_nil))) pe_int) pe_int (nomark _)) (pss_one (ps_set (i := 8) sc_law.nd rfl (by first | exact Or.inl rfl | exact Or.inr rfl) (pe_revL (pv 8)))) pss_nil))
      (pss_cons (ps_for PassesOwn.never rfl (pi_list (pv 8)) (pg_name (i := 10) sc_law.nd rfl (by first | exact Or.inl rfl | exact Or.inr rfl))
      (pss_cons (ps_set (i := 11) sc_law.nd rfl (by first | exact Or.inl rfl | exact Or.inr rfl) (pe_mf (DNc) (hr.mono (by omega)) pass0 (pv 6) (pa_cons (pv 10) pa_nil)))
      (pss_cons (ps_set (i := 5) sc_law.nd rfl (by first | exact Or.inl rfl | exact Or.inr rfl) (pe_mf (DLc) (hr.mono (by omega)) pass0 (pv 6) (pa_cons (pv 10) pa_nil)))
      (pss_cons (ps_if (PW.pt (pw_or (pt_not (pt_val (pe_cl d__law_whole (hr.mono (by omega)) T.g__law_whole pass0 (pa_cons (pv 11) pa_nil)))) (pw_or (pt_cmpR op_nen (pv 11) (pe_ix ix_list (pv 7) (pv 10) (fun _ _ => rfl)) (nomark _)) (pw_or1 (pt_cmpR (op_neLL hr.units) (pv 5) (pe_ix ix_list (pv 2) (pv 10) (fun _ _ => rfl)) (nomark _)))))) (pss_one (ps_ret pe_bl)) pss_nil)
      (pss_cons (ps_for PassesOwn.never rfl (pi_list (pv 5)) (pg_name (i := 4) sc_law.nd rfl (by first | exact Or.inl rfl | exact Or.inr rfl))
      (pss_one (ps_expr (pe_bm0 PySem.F.plainAttrs_list PySem.F.slot_list_clear PySem.F.type_list_clear mt_clear (pv 4)))))
      (pss_cons (ps_expr (pe_bm0 PySem.F.plainAttrs_list PySem.F.slot_list_clear PySem.F.type_list_clear mt_clear (pv 5)))
      (pss_one (ps_if (PW.pt (pw_or (pt_cmpR (op_neLL hr.units) (pe_mf (DLc) (hr.mono (by omega)) pass0 (pv 6) (pa_cons (pv 10) pa_nil)) (pe_ix ix_list (pv 2) (pv 10) (fun _ _ => rfl)) (nomark _)) (pw_or1 (pt_cmpR op_nen (pe_mf (DNc) (hr.mono (by omega)) pass0 (pv 6) (pa_cons (pv 10) pa_nil)) (pe_ix ix_list (pv 7) (pv 10) (fun _ _ => rfl)) (nomark _))))) (pss_one (ps_ret pe_bl)) pss_nil))))))))
      (pss_cons (ps_set (i := 12) sc_law.nd rfl (by first | exact Or.inl rfl | exact Or.inr rfl) (pe_mf (DAc) (hr.mono (by omega)) pass0 (pv 6) (pa_cons (pv 1) pa_nil)))
      (pss_cons (ps_if (PW.pt (pw_or (pt_not (pt_val (pe_callB (r := rIsi K) call_isi (by rfl) T.n_isinstance (by decide +kernel) (pa_cons (pv 12) (pa_cons (pe_bltn (v := .ty "list") rfl T.n_list (by decide +kernel) rfl) pa_nil))))) (pw_or (pt_cmpR (op_neLN hr.units) (pv 12) (pv 7) (nomark _)) (pw_or1 (pt_not (pt_val (pe_cl d__law_further (hr.mono (by omega)) T.g__law_further pass0 (pa_cons (pv 6) (pa_cons (pv 1) pa_nil))))))))) (pss_one (ps_ret pe_bl)) pss_nil)
      (pss_cons (ps_expr (pe_bm0 PySem.F.plainAttrs_list PySem.F.slot_list_clear PySem.F.type_list_clear mt_clear (pv 12)))
      (pss_cons (ps_if (pt_not (pt_val (pe_cl d__law_further_numbers (hr.mono (by omega)) T.g__law_further_numbers pass0 (pa_cons (pv 6) (pa_cons (pe_op op_add (pe_op op_addn (pv 1) (pe_nat 1)) (pe_op op_mod (pe_cl d__law_cell_at (hr.mono (by omega)) T.g__law_cell_at pass0 (pa_cons (pv 0) (pa_cons (pe_nat 1) pa_nil))) pe_int)) pa_nil))))) (pss_one (ps_ret pe_bl)) pss_nil)
      (pss_one (ps_ret (pe_and (pe_cmpR (op_eqLN hr.units) (pe_mf (DAc) (hr.mono (by omega)) pass0 (pv 6) (pa_cons (pv 1) pa_nil)) (pv 7) (nomark _)) (pe_one (pe_cl d__law_further (hr.mono (by omega)) T.g__law_further pass0 (pa_cons (pv 6) (pa_cons (pe_op op_addn (pv 1) (pe_nat 1)) pa_nil)))))))))))))))))))))))), ?_⟩
  walk_at "rl"
  dsimp only
  rw [e15]
  refine ⟨fun σ' H' => ∃ m, m ≤ 60 ∧ H' = H ∧ σ' = [some (.ref a), some (.int ((m : Nat) : Int)), none, none, none, none, none, none, none, none, none, none, none], ?_, ?_⟩
  rotate_left
  · walk_at "rl"
    refine ifN (fun c => ?_) (fun c => ⟨n15, by omega, rfl, rfl⟩)
    obtain ⟨n61, e61, l61⟩ := mod_nat (cell ns 0 / 120) (k := 61) (by decide)
    rw [show ((61 : Nat) : Int) = 61 from rfl] at e61
    walk_at "rl"
    dsimp only
    rw [e61]
    exact ⟨n61, by omega, rfl, rfl⟩
  rintro σ' H' ⟨m, hm, rfl, rfl⟩
  walk_at "rl"
  refine ⟨hm, fun x ps ass H1 rows b1 hrl hd => ?_⟩
  have hx := b1.l3.top
  walk_at "rl"
  refine ⟨⟨_, SqL.of hx⟩, fun Dh nDh => ?_⟩
  refine lc_list (K := K) (a := x) (xs := ps.map V.ref) (fun t H2 => ∃ ps2 ass2, B3 H1 H2 Dh ps2 ass2 (rows.take t)) ⟨[], [], B3.nil (Same.refl _) nDh⟩ (fun t H2 _ ⟨_, _, b⟩ => SqL.of (b.same _ _ hx)) ?_ ?_
  · rintro t v H2 ht ⟨ps2, ass2, b⟩
    obtain ⟨p, as, leads, e1, e2, e3, rfl, ll⟩ := b1.l3.at ht
    have ll2 := ll.same b.same
    have htp := ll2.top
    have hld := hd.2 leads (List.mem_of_getElem? e3)
    walk_at "rl"
    refine ⟨⟨_, SqL.of htp⟩, fun E nE => ?_⟩
    refine lc_list (K := K) (a := p) (xs := as.map V.ref) (fun u H3 => ∃ bs, bs.length = u ∧ Bld H2 H3 E bs (leads.take u)) ⟨[], rfl, Bld.nil (Same.refl _) nE⟩ (fun u H3 _ ⟨_, _, b⟩ => SqL.of (b.same _ _ htp)) ?_ ?_
    · rintro u w H3 hu ⟨bs, hbl, bl⟩
      obtain ⟨aw, lead, ea, el, rfl, haw⟩ := ll2.item hu
      have haw3 := bl.same _ _ haw
      have hul := (List.getElem?_eq_some_iff.mp el).1
      walk_at "rl"
      intro na nna
      refine ⟨_, Same.upd nna _ _ bl.ll.top, mil_line (by rw [List.length_map]; omega), bs ++ [na], by rw [List.length_append, hbl]; rfl, ?_⟩
      rw [List.take_succ, el]
      exact bl.snoc (Same.upd nna) nna upd_same
    · rintro H3 ⟨bs, hbl, bl⟩
      rw [List.length_map, ll2.len, List.take_length] at bl
      have h2 := b.l3.l1
      rw [List.length_take] at h2
      refine ⟨_, bl.same _ _ b.l3.top, mil_line (by rw [List.length_map]; omega), ps2 ++ [E], ass2 ++ [bs], ?_⟩
      rw [List.take_succ, e3]
      exact b.snoc bl
  rintro H2 ⟨ps2, ass2, b2⟩
  rw [List.length_map, b1.l3.l1, List.take_length] at b2
  have hDh := b2.l3.top
  walk_at "rl"
  intro g dx ng ndx nedx
  refine few_toldC ng ndx nedx hDh (by omega) (rows_good b2.l3 hd.1 hd.2) fun l y H3 s3 ga nl lg ⟨ps3, ass3, l33, own3⟩ => ⟨rfl, ?_⟩
  have hkk : okK (.told rows) := hd
  have rowsL := (b1.l3.same b2.same).same s3
  have handL := b2.l3.same s3
  walk_at "rl"
  refine ⟨Dh, x, _, _, _, _, _, _, rfl, rfl, handL, rowsL, ?_⟩
  walk_at "rl"
  rw [decide_eq_true rfl]
  refine iteF ?_
  have hDh3 := handL.top
  walk_at "rl"
  refine ⟨⟨_, SqL.of hDh3⟩, for_list (K := K) (a := Dh) (xs := ps2.map V.ref) (fun t σ H' => ∃ v4 v5, σ = [some (.ref a), some (.int (m : Int)), some (.ref x), some (.ref Dh), v4, v5, some (.ref g), none, none, none, none, none, none] ∧ Cl3 H3 H' ps2 ass2 t) ⟨none, none, rfl, Cl3.refl handL⟩ (fun t σ H' _ ⟨_, _, _, c⟩ => SqL.of (c.1 _ _ hDh3 fun i _ hi => handL.xo i _ hi rfl)) ?_ ?_⟩
  · rintro t v σ H' ht ⟨v4, v5, rfl, cl⟩
    obtain ⟨p, as, leads, e1, e2, e3, rfl, ll⟩ := handL.at ht
    have hpt := cl.1 _ _ ll.top fun i hi hin => absurd (handL.ap i t _ hin (.inl e1)) (by omega)
    walk_at "rl"
    refine ⟨⟨_, SqL.of hpt⟩, for_list (K := K) (a := p) (xs := as.map V.ref) (fun u σ H' => ∃ v4, σ = [some (.ref a), some (.int (m : Int)), some (.ref x), some (.ref Dh), v4, some (.ref p), some (.ref g), none, none, none, none, none, none] ∧ Cl3 H3 H' ps2 ass2 (t + 1) ∧ H' p = some (.lst (as.map V.ref))) ⟨v4, rfl, cl.weak, hpt⟩ (fun u σ H' _ ⟨_, _, _, h⟩ => SqL.of h) ?_ ?_⟩
    · rintro u w σ H'' hu ⟨v4', rfl, cl', hp'⟩
      obtain ⟨aw, lead, ea, el, rfl, haw⟩ := ll.item hu
      have hin : InRow ps2 ass2 t aw := .inr ⟨as, e2, List.mem_of_getElem? ea⟩
      obtain ⟨xs, hxs⟩ := cl'.2 t aw hin
      walk_at "rl"
      refine ⟨_, _, rfl, rfl, hxs, some (.ref aw), rfl, cl'.put hin, ?_⟩
      rw [upd_ne (fun z : p = aw => (List.nodup_cons.mp ll.nd).1 (z ▸ List.mem_of_getElem? ea))]
      exact hp'
    · rintro σ H'' ⟨v4', rfl, cl', hp'⟩
      walk_at "rl"
      refine ⟨_, _, rfl, rfl, hp', v4', _, rfl, cl'.put (.inl e1)⟩
  rintro σ H4 ⟨v4, v5, rfl, cl⟩
  have hDh4 := cl.1 _ _ hDh3 fun i _ hi => handL.xo i _ hi rfl
  walk_at "rl"
  refine ⟨_, _, rfl, rfl, hDh4, ?_⟩
  -- what is not of the handed rows stands
  have st4 : ∀ b o, H3 b = some o → ¬ Own3 Dh ps2 ass2 b → upd H4 Dh (.lst []) b = some o := fun b o e no => by
    rw [upd_ne (fun z => no (.inl z))]
    exact cl.1 b o e fun i _ hi => no hi.own
  generalize upd H4 Dh (.lst []) = H5 at st4 ⊢
  have rows5 : L3 H5 x ps ass rows := rowsL.keep fun b o hb e => st4 b o e fun ho => by
    obtain ⟨xs, e1⟩ := b1.l3.has hb
    rw [b2.new b ho] at e1
    cases e1
  have fresh5 : ∀ b o, H3 b = some o → H2 b = none → H5 b = some o := fun b o e n => st4 b o e fun ho => by
    obtain ⟨xs, e1⟩ := b2.l3.has ho
    rw [n] at e1
    cases e1
  have ga5 : GameAt K (.told rows) H5 g l y 0 := by
    obtain ⟨dx3, hg3⟩ := ga.ob
    refine mk_told (fresh5 _ _ hg3 ng) (fresh5 _ _ ga.kn nl) (l33.keep fun b o hb e => fresh5 b o e (own3 b hb).1) fun b hb => (own3 b hb).2.1
  walk_at "rl"
  refine ⟨x, ps, ass, rows, rfl, rows5, hd, fun Dd H6 s6 nDd hDd => ?_⟩
  have ga6 := ga5.same s6
  have rows6 := rows5.same s6
  obtain ⟨dx6, hg6⟩ := ga6.ob
  walk_at "rl"
  refine ⟨.ref g, .ref (He.ga K "Game"), _, _, _, rfl, .own _, (tyk T _ hkk).ty (GG.cls _ hkk) hg6, kit_Game T _ hkk, ?_⟩
  walk_at "rl"
  refine ⟨_, g, _, _, hkk, rfl, hg6, kfs_name _ _ _, ?_⟩
  refine ⟨rfl, g, l, y, 0, rfl, ga6, fun H7 s7 => ?_⟩
  walk_at "rl"
  refine ⟨nS_log (by omega), ?_⟩
  have en : Str.ofString "told " ++ Str.ofString (toString ((m : Nat) : Int)) = nameOf (.told rows) := by rw [← hrl]; rfl
  have el : (Str.ofString (toString ((m : Nat) : Int))).length ≤ 3 := nS_len (n := m) (by omega)
  walk_at "rl"
  have h5 : (Str.ofString "told ").length = 5 := by decide +kernel
  refine ⟨str_line (by omega), ?_⟩
  walk_at "rl"
  refine ifNn (fun c => absurd (congrArg V.str en.symm) c) (fun _ => ?_)
  have s15 : Same H1 H5 := fun b o e => st4 b o (s3 _ _ (b2.same _ _ e)) fun ho => by
    rw [b2.new b ho] at e
    cases e
  have s57 := s6.trans s7
  have hS7 := (s15.trans s57).seq (b1.same.seq hS)
  have rows7 := rows5.same s57
  have ga7 := ga5.same s57
  have hDd7 := s7 _ _ hDd
  walk_at "rl"
  refine ⟨by omega, by omega, fun D0 nD0 => ?_⟩
  refine lc_rangeN (n := m) (fun i H' => ∃ os : List Nat, os.length = i ∧ H' D0 = some (.lst (NL os)) ∧ (∀ o ∈ os, o < m) ∧ Same H7 H') ⟨[], rfl, upd_same, by simp, Same.upd nD0⟩ ?_ ?_
  · rintro i H' hi ⟨os, hl, hD0, hos, s8⟩
    have hS8 := s8.seq hS7
    walk_at "rl"
    refine ⟨by show 0 < ((m : Nat) : Int); omega, ?_⟩
    obtain ⟨o, eo, lo⟩ := mod_nat ((i : Int) + cell ns 1 / 2) (k := m) (by omega)
    dsimp only
    rw [eo]
    refine ⟨_, hD0, mil_line (by rw [NL_length]; omega), os ++ [o], by rw [List.length_append, hl]; rfl, ?_, fun o' ho => ?_, N.Same.put s8 nD0⟩
    · rw [upd_same]
      unfold NL
      rw [List.map_append]
      rfl
    · rcases List.mem_append.mp ho with h | h
      · exact hos o' h
      · rw [List.mem_singleton] at h
        rw [h]
        exact lo
  rintro H8 ⟨os, hl, hD0, hos, s8⟩
  have hS8 := s8.seq hS7
  walk_at "rl"
  refine ⟨fun σ' H' => ∃ (D : Addr) (os : List Nat), os.length = m ∧ H' D = some (.lst (NL os)) ∧ (∀ o ∈ os, o < m) ∧ Same H7 H' ∧ H7 D = none ∧ σ' = [some (.ref a), some (.int (m : Int)), some (.ref x), some (.ref Dh), v4, v5, some (.ref g), some (.ref Dd), some (.ref D), none, none, none, none], ?_, ?_⟩
  rotate_left
  · walk_at "rl"
    refine ifN (fun c => ?_) (fun c => ⟨D0, os, hl, hD0, hos, s8, nD0, rfl⟩)
    walk_at "rl"
    refine ⟨D0, NL os, rfl, SqL.of hD0, fun D1 nD1 => ?_⟩
    refine ⟨D1, os.reverse, by rw [List.length_reverse, hl], ?_, fun o ho => hos o (List.mem_reverse.mp ho), s8.trans (Same.upd nD1), none_of_same s8 nD1, rfl⟩
    rw [upd_same]
    unfold NL
    rw [List.map_reverse]
  rintro σ' H9 ⟨D, os, hl, hD, hos, s9, nD, rfl⟩
  have Dl : D ≠ l := fun e => by
    have := ga7.kn
    rw [← e, nD] at this
    cases this
  have ga9 := ga7.same s9
  have s09 := ((b1.same.trans s15).trans s57).trans s9
  have l0 := none_of_same (b1.same.trans b2.same) nl
  have rows9 := rows7.same s9
  have lno : H2 l = none := nl
  have Ddl : Dd ≠ l := fun e => by
    rw [e] at nDd
    rw [ga5.kn] at nDd
    cases nDd
  have rl : ∀ b, Own3 x ps ass b → b ≠ l := fun b hb e => by
    obtain ⟨xs, e1⟩ := (b1.l3.same b2.same).has hb
    rw [e, nl] at e1
    cases e1
  have hS9 := s9.seq hS7
  walk_at "rl"
  refine ⟨⟨_, SqL.of hD⟩, for_list (K := K) (a := D) (xs := NL os) (fun t σ H' => ∃ v4 v5 v10 v11 n', σ = [some (.ref a), some (.int (m : Int)), some (.ref x), some (.ref Dh), v4, v5, some (.ref g), some (.ref Dd), some (.ref D), none, v10, v11, none] ∧ n' ≤ m ∧ But l H9 H' ∧ H' l = some (.lst (NL (Gm.nums (Gm.Kind.told rows).L n')))) ⟨v4, v5, none, none, 0, rfl, Nat.zero_le _, But.refl _ _, ga9.kn⟩ (fun t σ H' _ ⟨_, _, _, _, _, _, _, bt, _⟩ => SqL.of (bt _ _ hD Dl)) ?_ ?_⟩
  · rintro t v σ H10 ht ⟨v4, v5, v10, v11, n10, rfl, hn10, b10, kn10⟩
    obtain ⟨o, ho, rfl⟩ := NL_at ht
    have hom := hos o (List.mem_of_getElem? ho)
    have ga10 := ga9.re b10 kn10
    obtain ⟨dx10, hg10⟩ := ga10.ob
    walk_at "rl"
    refine ⟨_, g, _, _, hkk, rfl, hg10, kfs_number _ _ _, ?_⟩
    walk_at "rl"
    refine ⟨g, l, y, n10, _, rfl, ga10, by show n10 ≤ rows.length; omega, .inl ⟨o, rfl, by show o < rows.length; omega, fun n11 H11 b11 ga11 h1 h2 h3 => ?_⟩⟩
    have h3 : n11 ≤ rows.length := h3
    obtain ⟨dx11, hg11⟩ := ga11.ob
    walk_at "rl"
    refine ⟨_, g, _, _, hkk, rfl, hg11, kfs_leads _ _ _, ?_⟩
    walk_at "rl"
    refine ⟨g, l, y, n11, o, rfl, ga11, by omega, fun _ L as H12 s12 nL nas ll => ?_, fun c => absurd (show o < rows.length by omega) c⟩
    have bt12 := (b10.trans b11).trans (Same.but s12)
    have hDd12 := bt12 _ _ (s9 _ _ hDd7) Ddl
    have rows12 := rows9.keep fun b o hb e => bt12 b o e (rl b hb)
    walk_at "rl"
    refine whole_int ?_
    walk_at "rl"
    refine ⟨Dd, _, _, _, rfl, rfl, SqL.of hDd12, NL_num (Gm.nums_at _ (show o < rows.length by omega)), ?_⟩
    walk_at "rl"
    refine ifNn (fun c => absurd rfl c) (fun _ => ?_)
    walk_at "rl"
    obtain ⟨pr, ar, er, lr⟩ := rows12.row' (show o < rows.length by omega)
    refine ⟨x, _, _, _, rfl, rfl, SqL.of rows12.top, er, ?_⟩
    walk_at "rl"
    refine ⟨L, pr, as, ar, _, _, rfl, rfl, ll, lr, ?_⟩
    walk_at "rl"
    rw [decide_eq_true rfl]
    refine iteF ?_
    have t12 := ll.top
    walk_at "rl"
    refine ⟨⟨_, SqL.of t12⟩, for_list (K := K) (a := L) (xs := as.map V.ref) (fun u σ H' => ∃ v4, σ = [some (.ref a), some (.int (m : Int)), some (.ref x), some (.ref Dh), v4, some (.ref L), some (.ref g), some (.ref Dd), some (.ref D), none, some (.int (o : Int)), some (.int ((Gm.num (Gm.Kind.told rows).L o : Nat) : Int)), none] ∧ Cleared H12 H' as) ⟨v4, rfl, Cleared.refl ll⟩ (fun u σ H' _ ⟨_, _, c⟩ => SqL.of (c.1 _ _ t12 ll.out)) ?_ ?_⟩
    · rintro u w σ H' hu ⟨v4', rfl, cl⟩
      obtain ⟨aw, lead, ea, el, rfl, haw⟩ := ll.item hu
      have hmm := List.mem_of_getElem? ea
      obtain ⟨xs, hxs⟩ := cl.2 aw hmm
      walk_at "rl"
      exact ⟨_, _, rfl, rfl, hxs, some (.ref aw), rfl, cl.put hmm⟩
    rintro σ H13 ⟨v4', rfl, cl⟩
    have tL := cl.1 _ _ t12 ll.out
    walk_at "rl"
    refine ⟨_, _, rfl, rfl, tL, ?_⟩
    have s14 : Same H11 (upd H13 L (.lst [])) := fun b o e => by
      rw [upd_ne (ne_of_none e nL)]
      exact cl.1 _ _ (s12 _ _ e) fun hm => by
        rw [nas b hm] at e
        cases e
    generalize upd H13 L (.lst []) = H14 at s14 ⊢
    have ga14 := ga11.same s14
    obtain ⟨dx14, hg14⟩ := ga14.ob
    walk_at "rl"
    refine ⟨_, g, _, _, hkk, rfl, hg14, kfs_leads _ _ _, ?_⟩
    walk_at "rl"
    refine ⟨g, l, y, n11, o, rfl, ga14, by omega, fun _ L2 as2 H15 s15' nL2 nas2 ll2 => ?_, fun c => absurd (show o < rows.length by omega) c⟩
    have s15 := s14.trans s15'
    have bt15 := (b10.trans b11).trans (Same.but s15)
    have rows15 := rows9.keep fun b o hb e => bt15 b o e (rl b hb)
    have ga15 := ga11.same s15
    obtain ⟨dx15, hg15⟩ := ga15.ob
    obtain ⟨pr2, ar2, er2, lr2⟩ := rows15.row' (show o < rows.length by omega)
    walk_at "rl"
    refine ⟨x, _, _, _, rfl, rfl, SqL.of rows15.top, er2, ?_⟩
    walk_at "rl"
    refine ⟨L2, pr2, as2, ar2, _, _, rfl, rfl, ll2, lr2, ?_⟩
    walk_at "rl"
    rw [decide_eq_true rfl]
    refine iteF ?_
    walk_at "rl"
    refine ⟨_, g, _, _, hkk, rfl, hg15, kfs_number _ _ _, ?_⟩
    walk_at "rl"
    refine ⟨g, l, y, n11, _, rfl, ga15, by show n11 ≤ rows.length; omega, .inl ⟨o, rfl, by show o < rows.length; omega, fun n16 H16 b16 ga16 h4 h5 h6 => ?_⟩⟩
    have h6 : n16 ≤ rows.length := h6
    have bt16 := bt15.trans b16
    have hDd16 := bt16 _ _ (s9 _ _ hDd7) Ddl
    walk_at "rl"
    refine ⟨Dd, _, _, _, rfl, rfl, SqL.of hDd16, NL_num (Gm.nums_at _ (show o < rows.length by omega)), ?_⟩
    walk_at "rl"
    refine ifNn (fun c => absurd rfl c) (fun _ => ?_)
    exact ⟨_, _, _, _, n16, rfl, by omega, bt16, ga16.kn⟩
  rintro σ H10 ⟨v4, v5, v10, v11, n10, rfl, hn10, b10, kn10⟩
  have ga10 := ga9.re b10 kn10
  obtain ⟨dx10, hg10⟩ := ga10.ob
  walk_at "rl"
  refine ⟨_, g, _, _, hkk, rfl, hg10, kfs_numbers _ _ _, ?_⟩
  walk_at "rl"
  refine ⟨g, l, y, n10, m, rfl, ga10, by show n10 ≤ rows.length; omega, by omega, .inl ⟨by show m ≤ rows.length; omega, fun N1 n11 H11 b11 nN1 hN1 ga11 h1 h2 h3 => ?_⟩⟩
  have h3 : n11 ≤ rows.length := h3
  have hN1 : H11 N1 = some (.lst (NL (Gm.nums (Gm.Kind.told rows).L rows.length))) := by
    rw [hrl]
    exact hN1
  have b11' := b10.trans b11
  have hDd11 := b11' _ _ (s9 _ _ hDd7) Ddl
  walk_at "rl"
  refine ⟨.ref N1, .ty "list", _, _, true, rfl, .ty _, .base (.lst hN1), kit_ty (by decide +kernel), ?_⟩
  walk_at "rl"
  refine ⟨N1, Dd, _, _, rfl, rfl, SqL.of hN1, SqL.of hDd11, ?_⟩
  walk_at "rl"
  rw [decide_eq_true rfl]
  refine iteF ?_
  walk_at "rl"
  refine ⟨.told rows, g, l, y, n11, m, rfl, hkk, ga11, h3, by show rows.length ≤ m; omega, fun n12 H12 b12 ga12 h4 h5 => ?_⟩
  have h5 : n12 ≤ rows.length := h5
  have Nl : N1 ≠ l := fun e => by
    rw [e, kn10] at nN1
    cases nN1
  have hN12 := b12 _ _ hN1 Nl
  walk_at "rl"
  refine ⟨_, _, rfl, rfl, hN12, ?_⟩
  have b13 : But l H9 (upd H12 N1 (.lst [])) := fun b o e ne => by
    rw [upd_ne (fun z => by
      have e2 := b10 _ _ e ne
      rw [z, nN1] at e2
      cases e2)]
    exact (b11'.trans b12) _ _ e ne
  have kn13 : (upd H12 N1 (.lst [])) l = some (.lst (NL (Gm.nums (Gm.Kind.told rows).L n12))) := by
    rw [upd_ne Nl.symm]
    exact ga12.kn
  generalize upd H12 N1 (.lst []) = H13 at b13 kn13 ⊢
  have ga13 := ga9.re b13 kn13
  have hS13 : SqL K H13 a (ns.map V.int) := Same.seq (fun b o e => b13 b o (s09 b o e) (fun z => by rw [z, l0] at e; cases e)) hS
  obtain ⟨q9, e9, l9⟩ := mod_nat (cell ns 1) (k := 9) (by decide)
  rw [show ((9 : Nat) : Int) = 9 from rfl] at e9
  walk_at "rl"
  dsimp only
  rw [e9]
  refine ⟨.told rows, g, l, y, n12, m + 1 + q9, rfl, hkk, ga13, h5, by show rows.length < m + 1 + q9; omega, by omega, fun n14 H14 b14 ga14 h6 h7 => ?_⟩
  have h7 : n14 ≤ rows.length := h7
  obtain ⟨dx14, hg14⟩ := ga14.ob
  walk_at "rl"
  refine ⟨_, g, _, _, hkk, rfl, hg14, kfs_numbers _ _ _, ?_⟩
  walk_at "rl"
  refine ⟨g, l, y, n14, m, rfl, ga14, h7, by omega, .inl ⟨by show m ≤ rows.length; omega, fun N2 n15 H15 b15 nN2 hN2 ga15 h8 h9 h10 => ?_⟩⟩
  have h10 : n15 ≤ rows.length := h10
  have hN2 : H15 N2 = some (.lst (NL (Gm.nums (Gm.Kind.told rows).L rows.length))) := by
    rw [hrl]
    exact hN2
  have hDd15 := (b13.trans (b14.trans b15)) _ _ (s9 _ _ hDd7) Ddl
  walk_at "rl"
  refine ⟨N2, Dd, _, _, rfl, rfl, SqL.of hN2, SqL.of hDd15, ?_⟩
  walk_at "rl"
  rw [decide_eq_true rfl]
  refine iteT ?_
  walk_at "rl"
  refine ⟨.told rows, g, l, y, n15, m + 1, rfl, hkk, ga15, h10, by show rows.length ≤ m + 1; omega, fun n16 H16 b16 ga16 h11 h12 => ?_⟩
  exact q _

end
def fn : List He.DefD := [⟨("is_whole", none), "is_whole", "is_whole", defArgs (top 6), defBody (top 6), defScope (top 6), [], []⟩,
  ⟨("_law_whole", none), "_law_whole", "_law_whole", defArgs (top 15), defBody (top 15), defScope (top 15), [], []⟩,
  ⟨("_law_cell_at", none), "_law_cell_at", "_law_cell_at", defArgs (top 16), defBody (top 16), defScope (top 16), [], []⟩,
  ⟨("least_lacking", none), "least_lacking", "least_lacking", defArgs (top 7), defBody (top 7), defScope (top 7), [], []⟩,
  ⟨("Game", some "name"), "name", "Game.name", defArgs (inClass (top 10) 2), defBody (inClass (top 10) 2), defScope (inClass (top 10) 2), [], []⟩,
  ⟨("is_lead", none), "is_lead", "is_lead", defArgs (top 12), defBody (top 12), defScope (top 12), [], []⟩,
  ⟨("asked_rows", none), "asked_rows", "asked_rows", defArgs (top 11), defBody (top 11), defScope (top 11), [], []⟩,
  ⟨("Told", some "leads"), "leads", "Told.leads", defArgs (inClass (top 13) 1), defBody (inClass (top 13) 1), defScope (inClass (top 13) 1), [], []⟩,
  ⟨("Told", some "name"), "name", "Told.name", defArgs (inClass (top 13) 2), defBody (inClass (top 13) 2), defScope (inClass (top 13) 2), [], []⟩,
  ⟨("Told", some "together"), "together", "Game.together", defArgs (inClass (top 10) 3), defBody (inClass (top 10) 3), defScope (inClass (top 10) 3), [], []⟩,
  ⟨("Told", some "number"), "number", "Game.number", defArgs (inClass (top 10) 4), defBody (inClass (top 10) 4), defScope (inClass (top 10) 4), [], []⟩,
  ⟨("Told", some "numbers"), "numbers", "Game.numbers", defArgs (inClass (top 10) 5), defBody (inClass (top 10) 5), defScope (inClass (top 10) 5), [], []⟩,
  ⟨("Told", some "__init__"), "__init__", "Told.__init__", defArgs (inClass (top 13) 0), defBody (inClass (top 13) 0), defScope (inClass (top 13) 0), [], []⟩,
  ⟨("Game", some "__init__"), "__init__", "Game.__init__", defArgs (inClass (top 10) 0), defBody (inClass (top 10) 0), defScope (inClass (top 10) 0), [], []⟩,
  ⟨("_law_lacking", none), "_law_lacking", "_law_lacking", defArgs (top 17), defBody (top 17), defScope (top 17), [], []⟩,
  ⟨("_law_sum", none), "_law_sum", "_law_sum", defArgs (top 18), defBody (top 18), defScope (top 18), [], []⟩,
  ⟨("_law_lead_by", none), "_law_lead_by", "_law_lead_by", defArgs (top 19), defBody (top 19), defScope (top 19), [], []⟩,
  ⟨("_law_rows_by", none), "_law_rows_by", "_law_rows_by", defArgs (top 20), defBody (top 20), defScope (top 20), [], []⟩,
  ⟨("_law_due", none), "_law_due", "_law_due", defArgs (top 21), defBody (top 21), defScope (top 21), [], []⟩,
  ⟨("_law_further", none), "_law_further", "_law_further", defArgs (top 22), defBody (top 22), defScope (top 22), [], []⟩,
  ⟨("_law_further_numbers", none), "_law_further_numbers", "_law_further_numbers", defArgs (top 23), defBody (top 23), defScope (top 23), [], []⟩,
  ⟨("law", none), "law", "law", defArgs (top 24), defBody (top 24), defScope (top 24), [], []⟩]
def fa : List He.Fa := [.free "isinstance", .free "int", .free "bool", .free "len", .glo "is_whole", .int "MOST" 100, .exc "NotAPlace", .glo "NotAPlace", .glo "least_lacking", .free "list", .exc "NotAGame", .glo "NotAGame", .free "any", .glo "is_lead", .glo "Game", .glo "asked_rows", .free "str", .free "range", .cls "Told", .noat "Told" "known", .noat "Told" "limits", .noat "Told" "most", .noat "Told" "rows", .meth "Told" "leads", .meth "Told" "together", .meth "Told" "number", .meth "Told" "numbers", .meth "Told" "name", .meth "Told" "__init__", .meth "Game" "__init__", .glo "_law_cell_at", .glo "_law_lead_by", .glo "_law_sum", .glo "_law_lacking", .exm "NotAPlace" "NotAPlace" true, .exm "NotAGame" "NotAPlace" false, .glo "_law_rows_by", .mkr "Told", .glo "Told", .glo "_law_due", .glo "_law_whole", .glo "_law_further", .glo "_law_further_numbers", .glo "law"]
def fx : List (PySem.W.Frag → Bool) := [clsfB "Game" "__init__", tyB "Told", kitB2 "Told" "Game" true]
theorem txt_mk {K : PySem.W.Frag} {h : Heap} {mg : Str → Option Value} (X : K.In h) (G : h.Ns mainGlobals mg) (c : He.SaysD fa fn K) (cx : (fx.all fun f => f K) = true) : Txt K mg where
  n_isinstance := He.free_ok X G (c.fact 0 (f := .free "isinstance") rfl)
  n_int := He.free_ok X G (c.fact 1 (f := .free "int") rfl)
  n_bool := He.free_ok X G (c.fact 2 (f := .free "bool") rfl)
  n_len := He.free_ok X G (c.fact 3 (f := .free "len") rfl)
  g_is_whole := He.glo_ok X G (c.fact 4 (f := .glo "is_whole") rfl)
  c_MOST := He.int_ok X G (c.fact 5 (f := .int "MOST" 100) rfl)
  x_NotAPlace := He.exc_ok (c.fact 6 (f := .exc "NotAPlace") rfl)
  g_NotAPlace := He.glo_ok X G (c.fact 7 (f := .glo "NotAPlace") rfl)
  g_least_lacking := He.glo_ok X G (c.fact 8 (f := .glo "least_lacking") rfl)
  n_list := He.free_ok X G (c.fact 9 (f := .free "list") rfl)
  x_NotAGame := He.exc_ok (c.fact 10 (f := .exc "NotAGame") rfl)
  g_NotAGame := He.glo_ok X G (c.fact 11 (f := .glo "NotAGame") rfl)
  n_any := He.free_ok X G (c.fact 12 (f := .free "any") rfl)
  g_is_lead := He.glo_ok X G (c.fact 13 (f := .glo "is_lead") rfl)
  g_Game := He.glo_ok X G (c.fact 14 (f := .glo "Game") rfl)
  g_asked_rows := He.glo_ok X G (c.fact 15 (f := .glo "asked_rows") rfl)
  n_str := He.free_ok X G (c.fact 16 (f := .free "str") rfl)
  n_range := He.free_ok X G (c.fact 17 (f := .free "range") rfl)
  cl_Told := He.cls_ok (c.fact 18 (f := .cls "Told") rfl)
  na_Told_known := He.noat_ok (c.fact 19 (f := .noat "Told" "known") rfl)
  na_Told_limits := He.noat_ok (c.fact 20 (f := .noat "Told" "limits") rfl)
  na_Told_most := He.noat_ok (c.fact 21 (f := .noat "Told" "most") rfl)
  na_Told_rows := He.noat_ok (c.fact 22 (f := .noat "Told" "rows") rfl)
  m_Told_leads := He.meth_ok (c.fact 23 (f := .meth "Told" "leads") rfl)
  m_Told_together := He.meth_ok (c.fact 24 (f := .meth "Told" "together") rfl)
  m_Told_number := He.meth_ok (c.fact 25 (f := .meth "Told" "number") rfl)
  m_Told_numbers := He.meth_ok (c.fact 26 (f := .meth "Told" "numbers") rfl)
  m_Told_name := He.meth_ok (c.fact 27 (f := .meth "Told" "name") rfl)
  m_Told___init__ := He.meth_ok (c.fact 28 (f := .meth "Told" "__init__") rfl)
  m_Game___init__ := He.meth_ok (c.fact 29 (f := .meth "Game" "__init__") rfl)
  g__law_cell_at := He.glo_ok X G (c.fact 30 (f := .glo "_law_cell_at") rfl)
  g__law_lead_by := He.glo_ok X G (c.fact 31 (f := .glo "_law_lead_by") rfl)
  g__law_sum := He.glo_ok X G (c.fact 32 (f := .glo "_law_sum") rfl)
  g__law_lacking := He.glo_ok X G (c.fact 33 (f := .glo "_law_lacking") rfl)
  e_NotAPlace_NotAPlace := He.exm_ok (c.fact 34 (f := .exm "NotAPlace" "NotAPlace" true) rfl)
  e_NotAGame_NotAPlace := He.exm_ok (c.fact 35 (f := .exm "NotAGame" "NotAPlace" false) rfl)
  g__law_rows_by := He.glo_ok X G (c.fact 36 (f := .glo "_law_rows_by") rfl)
  mk_Told := He.mkr_ok (c.fact 37 (f := .mkr "Told") rfl)
  g_Told := He.glo_ok X G (c.fact 38 (f := .glo "Told") rfl)
  g__law_due := He.glo_ok X G (c.fact 39 (f := .glo "_law_due") rfl)
  g__law_whole := He.glo_ok X G (c.fact 40 (f := .glo "_law_whole") rfl)
  g__law_further := He.glo_ok X G (c.fact 41 (f := .glo "_law_further") rfl)
  g__law_further_numbers := He.glo_ok X G (c.fact 42 (f := .glo "_law_further_numbers") rfl)
  g_law := He.glo_ok X G (c.fact 43 (f := .glo "law") rfl)
  cf_Game___init__ := clsf_ok (fx_at cx 0 (f := clsfB "Game" "__init__") rfl)
  ty_Told := tyc_ok (fx_at cx 1 (f := tyB "Told") rfl)
  k_Told_Game := of_decide_eq_true (fx_at cx 2 (f := kitB2 "Told" "Game" true) rfl)
  f_is_whole := c.def_ 0 rfl
  f__law_whole := c.def_ 1 rfl
  f__law_cell_at := c.def_ 2 rfl
  f_least_lacking := c.def_ 3 rfl
  f_Game_name := c.def_ 4 rfl
  f_is_lead := c.def_ 5 rfl
  f_asked_rows := c.def_ 6 rfl
  f_Told_leads := c.def_ 7 rfl
  f_Told_name := c.def_ 8 rfl
  f_Told_together := c.def_ 9 rfl
  f_Told_number := c.def_ 10 rfl
  f_Told_numbers := c.def_ 11 rfl
  f_Told___init__ := c.def_ 12 rfl
  f_Game___init__ := c.def_ 13 rfl
  f__law_lacking := c.def_ 14 rfl
  f__law_sum := c.def_ 15 rfl
  f__law_lead_by := c.def_ 16 rfl
  f__law_rows_by := c.def_ 17 rfl
  f__law_due := c.def_ 18 rfl
  f__law_further := c.def_ 19 rfl
  f__law_further_numbers := c.def_ 20 rfl
  f_law := c.def_ 21 rfl
abbrev R : PySem.W.OpenRow := PySem.W.OpenLaw.row PySem.Challenge.rw_nimhouse_k08_whole_numbers
abbrev hk : PySem.W.Hook := hookQ 5 fa fn fx
def ob (s : PySem.W.SharedT) : AlQ := obsQ 5 fa fn fx (HandSHeadRun.getT s)
theorem ob_eq (s : PySem.W.SharedT) : ob s = hk.obs s.abs := obsQ_eq (HandSHeadRun.getT_eq s)
def names0 : List Str := ["_wall", "HouseError", "NotAPlace", "NotAGame", "is_whole", "least_lacking", "MOST", "Game", "asked_rows", "is_lead", "Told", "_law_whole", "_law_cell_at", "_law_lacking", "_law_sum", "_law_lead_by", "_law_rows_by", "_law_due", "_law_further", "_law_further_numbers"]
def names : List Str := names0
theorem run (w : World) : HandSHeadRun.RunEq R (PySem.W.view R.prog [24]) hk ob 4000 names w := by
  intro os
  kernel_rfl
theorem facts {P : Program} {w : World} {K : PySem.W.Frag} {h : Heap} {mg : Str → Option Value} {f : Addr} (X : K.In h) (G : h.Ns mainGlobals mg) (hfa : mg ("law" : Str) = some (.ref f)) (c : He.SaysD fa fn K) (cx : (fx.all fun f => f K) = true) :
    ∃ fd : FuncData, (∀ (s : Shared) (v : Value), BindsTo s fd ⟨[v], []⟩ [("_law_script", v)]) ∧ ∀ base : Heap, K.In base → base.Ns mainGlobals mg → FnOk P w K mg base CX0 23 f fd ["_law_script"] (few ["_law_script"] (spLaw K)) := by
  have T := txt_mk X G c cx
  have e := hfa.symm.trans T.g_law
  cases e
  obtain ⟨fd, F⟩ := T.f_law
  have b := FunD.bindsA (ps := ["_law_script"]) F fun _ _ _ _ _ _ us hl => match us, hl with | [_], _ => rfl
  refine ⟨fd, fun s v => b s [v] rfl, fun base _ _ => ?_⟩
  have d_is_whole := ok_is_whole (P := P) (w := w) (base := base) T 
  have d__law_whole := ok__law_whole (P := P) (w := w) (base := base) T 
  have d__law_cell_at := ok__law_cell_at (P := P) (w := w) (base := base) T 
  have d_least_lacking := ok_least_lacking (P := P) (w := w) (base := base) T 
  have d_Game_name := ok_Game_name (P := P) (w := w) (base := base) T 
  have d_is_lead := ok_is_lead (P := P) (w := w) (base := base) T d_is_whole
  have d_asked_rows := ok_asked_rows (P := P) (w := w) (base := base) T d_is_lead
  have GG := games_ok T
  have DL : Disp P w K mg base (L2.CX P w) 10 "leads" (kC K) okK ["self", "place"] (sp_leads K) := ⟨fun k h => GG.cls k h, fun k h => match k, h with | .still, h => h.elim | .heap, h => h.elim | .taking ls, h => h.elim | .skittles ls, h => h.elim | .parting, h => h.elim | .runs, h => h.elim | .pairs, h => h.elim | .few m, h => h.elim | .told rows, h => ⟨_, T.m_Told_leads, (ok_Told_leads (P := P) (w := w) (base := base) T okK (games_ok T) kinds_ok rows h).mono (by decide)⟩⟩
  have DLc : Disp P w K mg base CX0 10 "leads" (kC K) okK ["self", "place"] (fun k vs H Q _ => sp_leads K k vs H Q E0) := DL.calm
  have DT : Disp P w K mg base CX0 10 "together" (kC K) okK ["self", "places"] (sp_together K) := ⟨fun k h => GG.cls k h, fun k h => match k, h with | .still, h => h.elim | .heap, h => h.elim | .taking ls, h => h.elim | .skittles ls, h => h.elim | .parting, h => h.elim | .runs, h => h.elim | .pairs, h => h.elim | .few m, h => h.elim | .told rows, h => ⟨_, T.m_Told_together, (ok_Game_together (P := P) (w := w) (base := base) T okK (games_ok T) (.told rows) h (He.ma K (He.ga K "Told") "together") T.f_Told_together).mono (by decide)⟩⟩
  have DN : Disp P w K mg base (L2.CX P w) 20 "number" (kC K) okK ["self", "place"] (sp_number K) := ⟨fun k h => GG.cls k h, fun k h => match k, h with | .still, h => h.elim | .heap, h => h.elim | .taking ls, h => h.elim | .skittles ls, h => h.elim | .parting, h => h.elim | .runs, h => h.elim | .pairs, h => h.elim | .few m, h => h.elim | .told rows, h => ⟨_, T.m_Told_number, (ok_Game_number (P := P) (w := w) (base := base) T okK (games_ok T) kinds_ok DL DT (.told rows) h d_is_whole d_least_lacking (He.ma K (He.ga K "Told") "number") T.f_Told_number).mono (by decide)⟩⟩
  have DNc : Disp P w K mg base CX0 20 "number" (kC K) okK ["self", "place"] (sp_numC K) := DN.calm
  have DA : Disp P w K mg base (L2.CX P w) 21 "numbers" (kC K) okK ["self", "many"] (sp_numbers K) := ⟨fun k h => GG.cls k h, fun k h => match k, h with | .still, h => h.elim | .heap, h => h.elim | .taking ls, h => h.elim | .skittles ls, h => h.elim | .parting, h => h.elim | .runs, h => h.elim | .pairs, h => h.elim | .few m, h => h.elim | .told rows, h => ⟨_, T.m_Told_numbers, (ok_Game_numbers (P := P) (w := w) (base := base) T okK kinds_ok DN (.told rows) h (He.ma K (He.ga K "Told") "numbers") T.f_Told_numbers).mono (by decide)⟩⟩
  have DAc : Disp P w K mg base CX0 21 "numbers" (kC K) okK ["self", "many"] (fun k vs H Q _ => sp_numbers K k vs H Q E0) := DA.calm
  have DM : Disp P w K mg base CX0 11 "name" (kC K) okK ["self"] (sp_name K) := ⟨fun k h => GG.cls k h, fun k h => match k, h with | .still, h => h.elim | .heap, h => h.elim | .taking ls, h => h.elim | .skittles ls, h => h.elim | .parting, h => h.elim | .runs, h => h.elim | .pairs, h => h.elim | .few m, h => h.elim | .told rows, h => ⟨_, T.m_Told_name, (ok_Told_name (P := P) (w := w) (base := base) T okK (games_ok T) kinds_ok rows h).mono (by decide)⟩⟩
  have d_Told___init__ := ok_Told___init__ (P := P) (w := w) (base := base) T (He.ga K "Told") T.cl_Told T.na_Told_known T.na_Told_rows (ok_Game___init__ (P := P) (w := w) (base := base) T (He.ga K "Told") T.cl_Told T.na_Told_known (He.ma K (He.ga K "Game") "__init__") T.f_Game___init__) d_asked_rows (He.ma K (He.ga K "Told") "__init__") T.f_Told___init__
  have d__law_lacking := ok__law_lacking (P := P) (w := w) (base := base) T 
  have d__law_sum := ok__law_sum (P := P) (w := w) (base := base) T 
  have d__law_lead_by := ok__law_lead_by (P := P) (w := w) (base := base) T 
  have d__law_rows_by := ok__law_rows_by (P := P) (w := w) (base := base) T d__law_cell_at d__law_lead_by
  have d__law_due := ok__law_due (P := P) (w := w) (base := base) T d__law_lacking d__law_sum
  have d__law_further := ok__law_further (P := P) (w := w) (base := base) T DN
  have d__law_further_numbers := ok__law_further_numbers (P := P) (w := w) (base := base) T DA
  have d_law := ok_law (P := P) (w := w) (base := base) T DM DNc DLc DAc d__law_cell_at d__law_rows_by d_Told___init__.calm d__law_due d__law_whole d__law_further d__law_further_numbers
  obtain ⟨fd', F', _, lk⟩ := d_law.ex
  have e := fd_eq F lk
  rw [e] at F'
  exact F'
end N
open PySem PySem.W PySem.Calls PyProof.Rows
theorem PySem.Challenge.cw_nimhouse_k08_whole_numbers_holds : PySem.Challenge.rw_nimhouse_k08_whole_numbers.Holds := by
  w_on; o_law
  refine HandSHeadRun.head_any (r := OpenLaw.row PySem.Challenge.rw_nimhouse_k08_whole_numbers) (q := view (OpenLaw.row PySem.Challenge.rw_nimhouse_k08_whole_numbers).prog [24]) (H := N.hk) (ob := N.ob) (M := 4000) (loose := N.names) (d := HandSHeadRun.topDef (OpenLaw.row PySem.Challenge.rw_nimhouse_k08_whole_numbers).prog 24) (kwd := []) N.ob_eq
    (by kernel_rfl) (fun s => by kernel_rfl) N.run (by kernel_rfl) (by kernel_rfl) (by kernel_rfl) (by rfl) (by first | assumption | decide +kernel) (by decide +kernel) ⟨rfl, rfl, rfl, rfl, rfl, by decide +kernel⟩ ?hw ?hc
  case hw => w_witness2
  case hc =>
    refine N.walk_ofEB (l := PySem.Challenge.rw_nimhouse_k08_whole_numbers) (n := 63) (k := 23) (x := "_law_script") (CX := L2.CX0) rfl (by decide) (by kernel_rfl) ⟨rfl, by decide, by decide⟩ ?F (fun _ _ _ _ z => z)
    intro w mg fa h Y G hmg0
    obtain ⟨K, KX, c, cx⟩ := Y
    have hmg : mg ("law" : PySem.Str) = some (.ref fa) := by
      have e : (HandSHeadRun.topDef (OpenLaw.row PySem.Challenge.rw_nimhouse_k08_whole_numbers).prog 24).name = ("law" : PySem.Str) := by kernel_rfl
      rw [← e]
      exact hmg0
    obtain ⟨fd, hb, hF⟩ := N.facts (P := (PySem.Challenge.rw_nimhouse_k08_whole_numbers).prog) (w := w) KX G hmg c cx
    exact ⟨K, fd, _, KX, hb, fun H a ns hl hbt _ hS => ⟨rfl, a, ns, rfl, hS, hl, hbt, fun _ => rfl⟩, hF⟩
