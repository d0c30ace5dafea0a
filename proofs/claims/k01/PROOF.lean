import PyProof.Rows.All
import Wide.All
import OpenK.AllK
import Wide.FinOn
import KE.KStateDown
import Lean
import HandS.ForMost
import HandS.ForExc
import HandS.More
import HandS.Defaults
import HandS.IsInst
import HandS.Wide
import HandS.WideBits
import HandS.EndBits
import HandS.Head0
import HandS.Head1
import HandS.Head2
import HandS.HeadEnd
import HandS.HeadHook1
import HandS.HeadHook2
import PySem.Challenge.RW_nimhouse_k01_sums
set_option Elab.async false
set_option linter.all false
set_option maxRecDepth 100000
set_option maxHeartbeats 4000000
/-! Our own rules over the hand layer: defs by one datum, numbers as naturals, the end with the numbers' bits. -/
namespace N
open PySem PySem.Spec PyProof.Rows L2
/-! ### a def that keeps a promise -/
/-- the promise with the number of its arguments -/
def few (ps : List Str) (sp : Sp) : Sp := fun vs H Q E => vs.length = ps.length ∧ sp vs H Q E
structure Dn (P : Program) (w : World) (K : PySem.W.Frag) (mg : Str → Option Value) (base : Heap) (CX : CXT) (k : Nat) (f : Addr) (ps : List Str) (sp : Sp) : Prop where
  ex : ∃ fd, FnOk P w K mg base CX k f fd ps (few ps sp) ∧ Binds K fd ps [] ∧ ∃ oc od osl, K.lookup f = some ⟨oc, od, .func fd, osl⟩
  kp : PySem.W.keepIn K (.ref f) = true
section
variable {P : Program} {w : World} {K : PySem.W.Frag} {mg : Str → Option Value} {base : Heap} {CX : CXT} {x qual : Str} {params : Arguments} {body : List Stmt} {scope : Scope} {f : Addr} {fd : FuncData} {N ps : List Str} {k : Nat} {sp : Sp}
theorem dn_of (F : ∃ fd, FunD K x qual params body scope [] [] f fd) (S : FnScope N ps scope)
    (hb : ∀ (kV doc pm : Value) (an : Option Addr) (cdv ct : Value) (us : List Value), us.length = ps.length → bindArgs (PySem.W.fnOf x qual params body scope .none kV doc pm an cdv ct) ⟨us, []⟩ = pure (ps.zip us))
    (hbody : ∀ (cdv : Value) (A : Around) (outer : List Env) (s : Shared) (H : Hp) (vs : List V) (Q : VK) (E : XK), Room k (A.deeper (envOfC qual scope s.heap.objs.size f cdv)) → sp vs H Q E →
      ∃ t, PSs (cxOf CX P w K mg base N qual scope f cdv A outer s H E) body t ∧ t { nx := fun _ H' => Q .non H', rt := Q } (start N vs) H) : Dn P w K mg base CX (k + 1) f ps sp := by
  obtain ⟨fd, F⟩ := F
  refine ⟨⟨fd, F.ok S (fun vs H Q E h => h.1) (fun cdv A outer s H vs Q E hr h => hbody cdv A outer s H vs Q E hr h.2), F.bindsN hb, ?_⟩, F.kp⟩
  obtain ⟨oc, od, dV, kV, doc, pm, an, cdv, ct, osl, _, lk, _⟩ := F.ex
  exact ⟨oc, od, osl, lk⟩
theorem fd_eq {dvs : List V} {kws : List (Str × V)} {fd' : FuncData} (F : FunD K x qual params body scope dvs kws f fd) (h : ∃ oc od osl, K.lookup f = some ⟨oc, od, .func fd', osl⟩) : fd' = fd := by
  obtain ⟨oc, od, dV, kV, doc, pm, an, cdv, ct, osl, _, lk, _⟩ := F.ex
  obtain ⟨oc', od', osl', h⟩ := h
  rw [lk] at h
  injection h with h
  injection h with h1 h2 h3 h4
  injection h3 with h3
  exact h3.symm
theorem Dn.mono {j : Nat} (D : Dn P w K mg base CX j f ps sp) (h : j ≤ k) : Dn P w K mg base CX k f ps sp := by
  obtain ⟨fd, F, b⟩ := D.ex
  exact ⟨⟨fd, F.mono h, b⟩, D.kp⟩
theorem Dn.imp {sp' : Sp} (D : Dn P w K mg base CX k f ps sp) (h : ∀ vs H Q E, sp' vs H Q E → sp vs H Q E) : Dn P w K mg base CX k f ps sp' := by
  obtain ⟨fd, F, b⟩ := D.ex
  exact ⟨⟨fd, F.imp fun vs H Q E q => ⟨q.1, h vs H Q E q.2⟩, b⟩, D.kp⟩
/-- a def that may raise, where it does not -/
theorem Dn.calm (D : Dn P w K mg base (L2.CX P w) k f ps sp) : Dn P w K mg base CX0 k f ps fun vs H Q _ => sp vs H Q E0 := by
  obtain ⟨fd, F, b⟩ := D.ex
  refine ⟨⟨fd, ⟨fun vs H Q E q => q.1, fun A outer s H args us vs Q E hr he hb hv hs => ?_⟩, b⟩, D.kp⟩
  refine codeAny_mono (F.run A outer s H args us vs Q E0 hr he hb hv hs) fun r s' hq => ?_
  cases r with
  | error e =>
    obtain ⟨_, _, _, _, _, _, _, _, _, _, _, _, h⟩ := hq
    exact h.elim
  | ok fl => cases fl <;> exact hq
end
section
variable {X : Cx} {CX : CXT} {k : Nat} {f C : Addr} {ps : List Str} {sp : Sp} {E : XK} {x m : Str} {p pos apos : Pos} {e o : Expr} {es : List Expr} {ta : TE} {t : TA}
/-- f(..) -/
def tCl (ps : List Str) (sp : Sp) (E : XK) (t : TA) : TE := fun σ H Q => t σ H fun vs H1 => few ps sp vs H1 Q E
theorem pe_cl (D : Dn X.prog X.w X.K X.mg X.base CX k f ps sp) (hr : Room k X.A) (hm : X.mg x = some (.ref f)) (hx : Passes CX X E) (ha : PA X (e :: es) t) (hg : Gl X x := by rfl)
    (hdb : (x == ("__debug__" : Str)) = false := by decide) (he : starEach (e :: es) X.env = (false, eval e X.env) :: starEach es X.env := by rfl) (hpl : (backTo pos (starEach es X.env)).any (·.1) = false := by rfl) :
    PE X (.Call (.Name x p) (e :: es) [] pos) (tCl ps sp E t) := by
  obtain ⟨fd, F, b, _⟩ := D.ex
  have h := pe_call (p := p) (ds := []) (dvs := []) F hr hg hm D.kp b .nil hx ha hdb he hpl
  refine ⟨fun pins s σ H Q I q => h.run pins s σ H Q I ?_⟩
  have e2 : tCall (few ps sp) [] E t = tCl ps sp E t := by
    funext σ H Q
    unfold tCall tCl
    simp only [List.append_nil]
  rw [e2]
  exact q
theorem pe_cl0 (D : Dn X.prog X.w X.K X.mg X.base CX k f ps sp) (hr : Room k X.A) (hm : X.mg x = some (.ref f)) (hx : Passes CX X E) (hg : Gl X x := by rfl)
    (hdb : (x == ("__debug__" : Str)) = false := by decide) : PE X (.Call (.Name x p) [] [] pos) (tCl ps sp E tNil) := by
  obtain ⟨fd, F, b, _⟩ := D.ex
  exact pe_call0 (ds := []) (dvs := []) F hr hg hm D.kp b .nil hx hdb
end
/-! ### numbers as naturals -/
section
variable {X : Cx}
theorem pe_nat (n : Nat) {j : Nat} {pos : Pos} : PE X (.Constant (.int (n : Int)) j pos) (tC (.int (n : Int))) := pe_int
/-- a module's number -/
theorem pe_gint {x : Str} {i : Int} {pos : Pos} (h : ∃ t, X.mg x = some (.int i t)) (hg : Gl X x := by rfl) (hd : (x == ("__debug__" : Str)) = false := by decide) : PE X (.Name x pos) (tC (.int i)) := by
  obtain ⟨t, h⟩ := h
  exact pe_glob hg h ⟨t, rfl⟩ hd
theorem pe_gnat {x : Str} {n : Nat} {pos : Pos} (h : ∃ t, X.mg x = some (.int (n : Int) t)) (hg : Gl X x := by rfl) (hd : (x == ("__debug__" : Str)) = false := by decide) : PE X (.Name x pos) (tC (.int (n : Int))) := pe_gint h hg hd
/-- two naturals -/
def rN (C : Nat → Nat → Prop) (g : Nat → Nat → V) : R2 := fun x y H Q => ∃ n m : Nat, x = .int (n : Int) ∧ y = .int (m : Int) ∧ C n m ∧ Q (g n m) H
def rN0 (g : Nat → Nat → V) : R2 := fun x y H Q => ∃ n m : Nat, x = .int (n : Int) ∧ y = .int (m : Int) ∧ Q (g n m) H
theorem opN {f : Value → Value → Sem Value} {C : Int → Int → Prop} {g : Int → Int → V} (h : OpR X f (rI C g)) {C' : Nat → Nat → Prop} {g' : Nat → Nat → V} (hc : ∀ n m : Nat, C' n m → C n m) (e : ∀ n m : Nat, C' n m → g n m = g' n m) : OpR X f (rN C' g') := by
  intro pins s σ H x y v u Q I rx ry q
  obtain ⟨n, m, rfl, rfl, c, q⟩ := q
  rw [← e n m c] at q
  exact h pins s σ H _ _ v u Q I rx ry ⟨_, _, rfl, rfl, hc n m c, q⟩
theorem opN0 {f : Value → Value → Sem Value} {g : Int → Int → V} (h : OpR X f (rI0 g)) {g' : Nat → Nat → V} (e : ∀ n m : Nat, g n m = g' n m) : OpR X f (rN0 g') := by
  intro pins s σ H x y v u Q I rx ry q
  obtain ⟨n, m, rfl, rfl, q⟩ := q
  rw [← e n m] at q
  exact h pins s σ H _ _ v u Q I rx ry ⟨_, _, rfl, rfl, q⟩
theorem op_addn : OpR X (binaryOp .Add) (rN0 fun n m => .int ((n + m : Nat) : Int)) := opN0 op_add fun n m => by rw [Int.natCast_add]
theorem op_subn : OpR X (binaryOp .Sub) (rN (fun n m => m ≤ n) fun n m => .int ((n - m : Nat) : Int)) := by
  intro pins s σ H x y v u Q I rx ry q
  obtain ⟨n, m, rfl, rfl, c, q⟩ := q
  have q : Q (V.int ((n - m : Nat) : Int)) H := q
  rw [Int.ofNat_sub c] at q
  exact op_sub pins s σ H _ _ v u Q I rx ry ⟨_, _, rfl, rfl, q⟩
/-- one factor below 2 ^ 64 -/
theorem op_muln : OpR X (binaryOp .Mult) (rN (fun n m => n < 2 ^ 64 ∨ m < 2 ^ 64) fun n m => .int ((n * m : Nat) : Int)) := opN op_mul (fun n m c => by
  have e : (2 : Int) ^ 64 = 18446744073709551616 := by decide
  have e' : (2 : Nat) ^ 64 = 18446744073709551616 := by decide
  unfold CMul
  rw [e]
  rw [e'] at c
  omega) fun n m _ => by rw [Int.natCast_mul]
theorem op_xorn : OpR X (binaryOp .BitXor) (rN0 fun n m => .int ((n ^^^ m : Nat) : Int)) := opN0 op_xor fun n m => by rw [Bits.bitXor_pp (by omega) (by omega)]; rfl
theorem op_orn : OpR X (binaryOp .BitOr) (rN0 fun n m => .int ((n ||| m : Nat) : Int)) := opN0 op_or fun n m => by rw [Bits.bitOr_pp (by omega) (by omega)]; rfl
theorem op_andn : OpR X (binaryOp .BitAnd) (rN0 fun n m => .int ((n &&& m : Nat) : Int)) := opN0 op_and fun n m => by rw [bitAnd_pp (by omega) (by omega)]; rfl
/-- n << m: n below 2 ^ a, a + m at most 2 ^ 27 -/
theorem op_shln : OpR X (binaryOp .LShift) (rN (fun n m => ∃ a, n < 2 ^ a ∧ a + m ≤ 134217728) fun n m => .int ((n * 2 ^ m : Nat) : Int)) := opN op_shlW (fun n m ⟨a, h1, h2⟩ => shl_ok (by simpa using h1) h2) fun n m _ => by rw [Int.toNat_natCast, Int.natCast_mul, Int.natCast_pow]; rfl
theorem op_shrn : OpR X (binaryOp .RShift) (rN0 fun n m => .int ((n / 2 ^ m : Nat) : Int)) := by
  intro pins s σ H x y v u Q I rx ry q
  obtain ⟨n, m, rfl, rfl, q⟩ := q
  refine op_shr pins s σ H _ _ v u Q I rx ry ⟨_, _, rfl, rfl, Int.natCast_nonneg _, ?_⟩
  have q : Q (V.int ((n / 2 ^ m : Nat) : Int)) H := q
  rw [Int.natCast_ediv, Int.natCast_pow] at q
  show Q (V.int ((n : Int) / 2 ^ (m : Int).toNat)) H
  rw [Int.toNat_natCast]
  exact q
theorem op_modn : OpR X (binaryOp .Mod) (rN (fun _ m => 0 < m) fun n m => .int ((n % m : Nat) : Int)) := opN op_mod (fun n m c => by omega) fun n m _ => by rw [Int.natCast_emod]
theorem op_fdivn : OpR X (binaryOp .FloorDiv) (rN (fun _ m => 0 < m ∧ m < 1073741824) fun n m => .int ((n / m : Nat) : Int)) := opN op_fdiv (fun n m c => ⟨by omega, by omega⟩) fun n m _ => by rw [Int.natCast_ediv]
theorem dec_cast {p q : Prop} [Decidable p] [Decidable q] (h : p ↔ q) : decide p = decide q := decide_eq_decide.mpr h
theorem op_ltn : OpR X (compareOp .Lt) (rN0 fun n m => .bl (decide (n < m))) := opN0 op_lt fun n m => congrArg V.bl (dec_cast (by omega))
theorem op_len : OpR X (compareOp .LtE) (rN0 fun n m => .bl (decide (n ≤ m))) := opN0 op_le fun n m => congrArg V.bl (dec_cast (by omega))
theorem op_gtn : OpR X (compareOp .Gt) (rN0 fun n m => .bl (decide (m < n))) := opN0 op_gt fun n m => congrArg V.bl (dec_cast (by omega))
theorem op_gen : OpR X (compareOp .GtE) (rN0 fun n m => .bl (decide (m ≤ n))) := opN0 op_ge fun n m => congrArg V.bl (dec_cast (by omega))
theorem v_eq {n m : Nat} : (V.int (n : Int) = V.int (m : Int)) ↔ n = m := ⟨fun h => by injection h with h; omega, fun h => by rw [h]⟩
theorem op_eqn : OpR X (compareOp .Eq) (rN0 fun n m => .bl (decide (n = m))) := by
  intro pins s σ H x y v u Q I rx ry q
  obtain ⟨n, m, rfl, rfl, q⟩ := q
  refine op_eq pins s σ H _ _ v u Q I rx ry ⟨rfl, ?_⟩
  rw [dec_cast v_eq]
  exact q
theorem op_nen : OpR X (compareOp .NotEq) (rN0 fun n m => .bl (!decide (n = m))) := by
  intro pins s σ H x y v u Q I rx ry q
  obtain ⟨n, m, rfl, rfl, q⟩ := q
  refine op_ne pins s σ H _ _ v u Q I rx ry ⟨rfl, ?_⟩
  rw [dec_cast v_eq]
  exact q
/-- ints -/
theorem op_eqi : OpR X (compareOp .Eq) (rI0 fun i j => .bl (decide (i = j))) := by
  intro pins s σ H x y v u Q I rx ry q
  obtain ⟨n, m, rfl, rfl, q⟩ := q
  refine op_eq pins s σ H _ _ v u Q I rx ry ⟨rfl, ?_⟩
  rw [dec_cast (q := n = m) ⟨fun h => by injection h, fun h => by rw [h]⟩]
  exact q
theorem op_nei : OpR X (compareOp .NotEq) (rI0 fun i j => .bl (!decide (i = j))) := by
  intro pins s σ H x y v u Q I rx ry q
  obtain ⟨n, m, rfl, rfl, q⟩ := q
  refine op_ne pins s σ H _ _ v u Q I rx ry ⟨rfl, ?_⟩
  rw [dec_cast (q := n = m) ⟨fun h => by injection h, fun h => by rw [h]⟩]
  exact q
theorem call_maxn (hc : X.calm = true) : CallR X (.builtin "max") (fun xs H Q => ∃ n m : Nat, xs = [.int (n : Int), .int (m : Int)] ∧ Q (.int ((max n m : Nat) : Int)) H) := by
  intro pins s σ H xs us Q I r h
  obtain ⟨n, m, rfl, q⟩ := h
  refine call_max2 hc pins s σ H _ us Q I r ⟨_, _, rfl, ?_⟩
  have e : (if (m : Int) > (n : Int) then (m : Int) else (n : Int)) = ((max n m : Nat) : Int) := by
    split <;> omega
  rw [e]
  exact q
theorem call_minn (hc : X.calm = true) : CallR X (.builtin "min") (fun xs H Q => ∃ n m : Nat, xs = [.int (n : Int), .int (m : Int)] ∧ Q (.int ((min n m : Nat) : Int)) H) := by
  intro pins s σ H xs us Q I r h
  obtain ⟨n, m, rfl, q⟩ := h
  refine call_min2 hc pins s σ H _ us Q I r ⟨_, _, rfl, ?_⟩
  have e : (if (m : Int) < (n : Int) then (m : Int) else (n : Int)) = ((min n m : Nat) : Int) := by
    split <;> omega
  rw [e]
  exact q
end
/-- a state's sentence, not to be looked into by the readings -/
@[irreducible] def Hd (p : Prop) : Prop := p
theorem Hd.mk {p : Prop} (h : p) : Hd p := by unfold Hd; exact h
theorem Hd.out {p : Prop} (h : Hd p) : p := by unfold Hd at h; exact h
/-! ### cuts: what holds behind a statement, a test, an expression, once for all its ways -/
section
variable {X : Cx}
def tCut (t : TS) : TS := fun D σ H => ∃ M : L2.St → Hp → Prop, (∀ σ' H', M σ' H' → D.nx σ' H') ∧ t { nx := M, rt := D.rt, bk := D.bk, ct := D.ct } σ H
theorem ps_cut {st : Stmt} {t : TS} (h : PS X st t) : PS X st (tCut t) := ⟨fun pins s σ H D I ⟨M, hM, q⟩ => thn (h.run pins s σ H _ I q) fun f s' z => by
  cases f with
  | next =>
    obtain ⟨σ', H', I', q'⟩ := z
    exact ⟨σ', H', I', hM _ _ q'⟩
  | brk => exact z
  | cont => exact z
  | ret u => exact z⟩
def tCutT (t : TT) : TT := fun σ H Q => ∃ M : Bool → Hp → Prop, (∀ b H', M b H' → Q b H') ∧ t σ H M
theorem pt_cut {e : Expr} {t : TT} (h : PT X e t) : PT X e (tCutT t) := ⟨fun pins s σ H Q I ⟨M, hM, q⟩ => thn (h.run pins s σ H _ I q) fun b s' ⟨H', I', q'⟩ => ⟨H', I', hM _ _ q'⟩⟩
def tCutE (t : TE) : TE := fun σ H Q => ∃ M : V → Hp → Prop, (∀ v H', M v H' → Q v H') ∧ t σ H M
theorem pe_cut {e : Expr} {t : TE} (h : PE X e t) : PE X e (tCutE t) := ⟨fun pins s σ H Q I ⟨M, hM, q⟩ => thn (h.run pins s σ H _ I q) fun u s' ⟨v, H', I', r, q'⟩ => ⟨v, H', I', r, hM _ _ q'⟩⟩
end
/-! ### tests, loops -/
theorem while_m {c : TT} {tb : TS} {D : Ends} {σ : L2.St} {H : Hp} (W : Nat → L2.St → Hp → Prop) (m : Nat) (h0 : W m σ H)
    (hs : ∀ m σ H, W m σ H → c σ H fun b H1 => if b = true then ∃ N : L2.St → Hp → Prop, (∀ σ' H', N σ' H' → ∃ m', m' < m ∧ W m' σ' H') ∧ tb { D with nx := N, ct := N, bk := D.nx } σ H1 else D.nx σ H1) : tWhile c tb D σ H := ⟨W, ⟨m, h0⟩, hs⟩
theorem ifN {c : Prop} [Decidable c] {A B : Prop} (h1 : c → A) (h2 : ¬ c → B) : if decide c = true then A else B := by
  by_cases h : c
  · rw [if_pos (decide_eq_true h)]; exact h1 h
  · rw [if_neg (by rw [decide_eq_false h]; exact Bool.false_ne_true)]; exact h2 h
theorem ifNn {c : Prop} [Decidable c] {A B : Prop} (h1 : ¬ c → A) (h2 : c → B) : if (!decide c) = true then A else B := by
  by_cases h : c
  · rw [if_neg (by rw [decide_eq_true h]; exact Bool.false_ne_true)]; exact h2 h
  · rw [if_pos (by rw [decide_eq_false h]; rfl)]; exact h1 h
theorem ifB {b : Bool} {A B : Prop} (h1 : b = true → A) (h2 : b = false → B) : if b = true then A else B := by
  cases b
  · rw [if_neg Bool.false_ne_true]; exact h2 rfl
  · rw [if_pos rfl]; exact h1 rfl
/-- the plain readings, one behind another -/
local macro_rules | `(tactic| walk_at "rd") => `(tactic| repeat (first
  | (refine ⟨_, rfl, ?_⟩)
  | (refine ⟨_, _, rfl, rfl, ?_⟩)
  | (refine ⟨rfl, ?_⟩)
  | (refine ⟨(by decide : (0 : Int) < _), ?_⟩)
  | (refine ⟨(⟨by decide, by decide⟩ : CDiv _ _), ?_⟩)
  | (refine ⟨(Or.inr ⟨by decide, by decide⟩ : CMul _ _), ?_⟩)
  | (refine ⟨(Or.inl ⟨by decide, by decide⟩ : CMul _ _), ?_⟩)))
theorem ret_dec {p : Prop} [Decidable p] {Q : VK} {H : Hp} (hp : p) (q : Q (.bl true) H) : Q (.bl (decide p)) H := by
  rw [decide_eq_true hp]
  exact q
/-! ### the law's end, with the numbers' bits -/
theorem walk_ofEB {l : PySem.W.OpenLaw} {n k : Nat} {q : Program} {loose : List Str} {XP : (Str → Option Value) → Heap → Prop} {YP : World → Heap → Prop} {d : DefRec} {CX : CXT} {x : Str}
    (hn : l.most = some n) (hn2 : n ≤ sizeLine) (hdf : d.params.defaults = []) (hr : Room k callerA)
    (F : ∀ (w : World) (mg : Str → Option Value) (fa : Addr) (h : Heap), YP w h → h.Ns mainGlobals mg → mg d.name = some (.ref fa) →
      ∃ (K : PySem.W.Frag) (fd : FuncData) (sp : Sp), K.In h ∧ (∀ (s : Shared) (u : Value), BindsTo s fd ⟨[u], []⟩ [(x, u)]) ∧
        (∀ (H : Hp) (a : Addr) (ns : List Int), ns.length ≤ n → (∀ z ∈ ns, Builtin.Int.intBits z ≤ 1048576) → Only H → SqL K H a (ns.map V.int) → sp [.ref a] H (fun v _ => v = .bl true) fun _ _ _ => False) ∧
        ∀ base : Heap, K.In base → base.Ns mainGlobals mg → FnOk l.prog w K mg base CX k fa fd [x] sp)
    (hCX : ∀ (H : Hp) (s : Shared) (e : Value) (s' : Shared), CX [] H s (fun _ _ _ => False) e s' → False) :
    PySem.W.WalkO q loose XP YP l.row.toRowW d [] (fun f vs => PySem.call f vs) := by
  refine Att.attach_callB hn hdf fun w s₀ s₁ mg mb fa o pm cd doc a vs ns G Y ho hd hcd hmg hobj hints hlen hbits hg => ?_
  obtain ⟨K, fd, sp, KX, hb, hsp, hF⟩ := F w mg fa _ Y G.T.g hmg
  exact law_call KX G.T.g G.T.b G.T.builtins G.T.nolimit hg hobj hints (Nat.le_trans hlen hn2) hr hF hb (fun H hO hS => hsp H a ns hlen hbits hO hS) fun H e s' => hCX H s₁ e s'
/-- the law's promise: a list of at most 63 ints, each of at most 2 ^ 20 bits -/
def spLaw (K : PySem.W.Frag) : Sp := fun vs H Q _ => ∃ (a : Addr) (ns : List Int), vs = [.ref a] ∧ SqL K H a (ns.map V.int) ∧ ns.length ≤ 63 ∧ (∀ z ∈ ns, Builtin.Int.intBits z ≤ 1048576) ∧ ∀ H', Q (.bl true) H'
/-- the law's def: what the end asks of it -/
structure LawOk (l : PySem.W.OpenLaw) (w : World) (K : PySem.W.Frag) (mg : Str → Option Value) (k : Nat) (f : Addr) (x : Str) (fd : FuncData) : Prop where
  bind : ∀ (s : Shared) (u : Value), BindsTo s fd ⟨[u], []⟩ [(x, u)]
  run : ∀ base : Heap, K.In base → base.Ns mainGlobals mg → FnOk l.prog w K mg base CX0 k f fd [x] (few [x] (spLaw K))
end N
set_option Elab.async false
set_option linter.all false
set_option maxRecDepth 100000
set_option maxHeartbeats 4000000
namespace N
open PySem PySem.Spec PyProof.Rows L2
def top (i : Nat) : Stmt := PySem.Challenge.pw_nimhouse_k01_sums.main.body.getD i (.Pass ⟨0, 0, 0, 0⟩)
structure Txt (K : PySem.W.Frag) (mg : Str → Option Value) : Prop where
  n_isinstance : mg "isinstance" = none
  n_int : mg "int" = none
  n_bool : mg "bool" = none
  n_len : mg "len" = none
  g_is_whole : mg "is_whole" = some (.ref (He.ga K "is_whole"))
  c_BITS : ∃ t, mg "BITS" = some (.int 256 t)
  g_asked_number : mg "asked_number" = some (.ref (He.ga K "asked_number"))
  g__law_cell_at : mg "_law_cell_at" = some (.ref (He.ga K "_law_cell_at"))
  g__law_number_by : mg "_law_number_by" = some (.ref (He.ga K "_law_number_by"))
  g_added : mg "added" = some (.ref (He.ga K "added"))
  g__law_whole : mg "_law_whole" = some (.ref (He.ga K "_law_whole"))
  g__law_sum : mg "_law_sum" = some (.ref (He.ga K "_law_sum"))
  g_law : mg "law" = some (.ref (He.ga K "law"))
  f_is_whole : ∃ fd, FunD K "is_whole" "is_whole" (defArgs (top 5)) (defBody (top 5)) (defScope (top 5)) [] [] (He.ga K "is_whole") fd
  f__law_whole : ∃ fd, FunD K "_law_whole" "_law_whole" (defArgs (top 10)) (defBody (top 10)) (defScope (top 10)) [] [] (He.ga K "_law_whole") fd
  f__law_cell_at : ∃ fd, FunD K "_law_cell_at" "_law_cell_at" (defArgs (top 11)) (defBody (top 11)) (defScope (top 11)) [] [] (He.ga K "_law_cell_at") fd
  f_asked_number : ∃ fd, FunD K "asked_number" "asked_number" (defArgs (top 6)) (defBody (top 6)) (defScope (top 6)) [] [] (He.ga K "asked_number") fd
  f__law_number_by : ∃ fd, FunD K "_law_number_by" "_law_number_by" (defArgs (top 12)) (defBody (top 12)) (defScope (top 12)) [] [] (He.ga K "_law_number_by") fd
  f_added : ∃ fd, FunD K "added" "added" (defArgs (top 8)) (defBody (top 8)) (defScope (top 8)) [] [] (He.ga K "added") fd
  f__law_sum : ∃ fd, FunD K "_law_sum" "_law_sum" (defArgs (top 13)) (defBody (top 13)) (defScope (top 13)) [] [] (He.ga K "_law_sum") fd
  f_law : ∃ fd, FunD K "law" "law" (defArgs (top 14)) (defBody (top 14)) (defScope (top 14)) [] [] (He.ga K "law") fd
section
variable {P : Program} {w : World} {K : PySem.W.Frag} {mg : Str → Option Value} {base : Heap}
local macro_rules | `(tactic| walk_at "rd") => `(tactic| repeat (first
  | (refine ⟨_, rfl, ?_⟩)
  | (refine ⟨_, _, rfl, rfl, ?_⟩)
  | (refine ⟨rfl, ?_⟩)
  | (refine ⟨_, _, _, rfl, (by assumption : SqL _ _ _ _), ?_⟩)
  | (refine ⟨(by decide : (0 : Int) < _), ?_⟩)
  | (refine ⟨(by decide : (0 : Nat) < _), ?_⟩)
  | (refine ⟨(⟨by decide, by decide⟩ : CDiv _ _), ?_⟩)
  | (refine ⟨(⟨by decide, by decide⟩ : (0 : Nat) < _ ∧ _ < 1073741824), ?_⟩)
  | (refine ⟨(Or.inr (by decide) : _ < 2 ^ 64 ∨ _ < 2 ^ 64), ?_⟩)
  | (refine ⟨(Or.inl (by decide) : _ < 2 ^ 64 ∨ _ < 2 ^ 64), ?_⟩)
  | (refine ⟨(Or.inr ⟨by decide, by decide⟩ : CMul _ _), ?_⟩)
  | (refine ⟨(Or.inl ⟨by decide, by decide⟩ : CMul _ _), ?_⟩)))

/-! ### whole numbers, cells of the script -/
/-- is it a whole number -/
def sp_is_whole (K : PySem.W.Frag) : Sp := fun vs H Q _ => ∃ (x : V) (t : String) (b1 b2 : Bool), vs = [x] ∧ TyX K H x (.type t) ∧ kitB t "int" = some b1 ∧ kitB t "bool" = some b2 ∧ Q (.bl (b1 && !b2)) H
theorem whole_int {K : PySem.W.Frag} {i : Int} {H : Hp} {Q : VK} {E : XK} (h : Q (.bl true) H) : sp_is_whole K [.int i] H Q E :=
  ⟨_, "int", true, false, rfl, .base (.int i), by decide +kernel, by decide +kernel, h⟩

abbrev s_is_whole : Stmt := top 5
theorem sc_is_whole : FnScope ["number"] ["number"] (defScope s_is_whole) := ⟨rfl, rfl, rfl, by decide +kernel, rfl, by decide +kernel, by decide +kernel⟩
theorem ok_is_whole (T : Txt K mg) : Dn P w K mg base CX0 1 (He.ga K "is_whole") ["number"] (sp_is_whole K) := by
  refine dn_of (k := 0) T.f_is_whole sc_is_whole (fun _ _ _ _ _ _ us hl => match us, hl with | [_], _ => rfl) (fun cdv A outer s H vs Q E hr h => ?_)
  obtain ⟨x, t, b1, b2, rfl, ht, h1, h2, q⟩ := h
  refine ⟨_, PSs.nox (pss_one (ps_ret (pe_and (pe_callB call_isi (by rfl) T.n_isinstance (by decide +kernel) (pa_cons (pv 0) (pa_cons (pe_bltn (v := .ty "int") rfl T.n_int (by decide +kernel) rfl) pa_nil))) (pe_one (pe_not (pe_callB call_isi (by rfl) T.n_isinstance (by decide +kernel) (pa_cons (pv 0) (pa_cons (pe_bltn (v := .ty "bool") rfl T.n_bool (by decide +kernel) rfl) pa_nil)))))))), ?_⟩
  refine ⟨_, rfl, x, _, _, _, b1, rfl, .ty _, ht, kit_ty h1, b1, rfl, ?_⟩
  cases b1
  · exact iteF q
  · refine iteT ?_
    exact ⟨_, rfl, x, _, _, _, b2, rfl, .ty _, ht, kit_ty h2, b2, rfl, q⟩

abbrev s__law_whole : Stmt := top 10
theorem sc__law_whole : FnScope ["_law_found"] ["_law_found"] (defScope s__law_whole) := ⟨rfl, rfl, rfl, by decide +kernel, rfl, by decide +kernel, by decide +kernel⟩
theorem ok__law_whole (T : Txt K mg) : Dn P w K mg base CX0 1 (He.ga K "_law_whole") ["_law_found"] (sp_is_whole K) := by
  refine dn_of (k := 0) T.f__law_whole sc__law_whole (fun _ _ _ _ _ _ us hl => match us, hl with | [_], _ => rfl) (fun cdv A outer s H vs Q E hr h => ?_)
  obtain ⟨x, t, b1, b2, rfl, ht, h1, h2, q⟩ := h
  refine ⟨_, PSs.nox (pss_one (ps_ret (pe_and (pe_callB call_isi (by rfl) T.n_isinstance (by decide +kernel) (pa_cons (pv 0) (pa_cons (pe_bltn (v := .ty "int") rfl T.n_int (by decide +kernel) rfl) pa_nil))) (pe_one (pe_not (pe_callB call_isi (by rfl) T.n_isinstance (by decide +kernel) (pa_cons (pv 0) (pa_cons (pe_bltn (v := .ty "bool") rfl T.n_bool (by decide +kernel) rfl) pa_nil)))))))), ?_⟩
  refine ⟨_, rfl, x, _, _, _, b1, rfl, .ty _, ht, kit_ty h1, b1, rfl, ?_⟩
  cases b1
  · exact iteF q
  · refine iteT ?_
    exact ⟨_, rfl, x, _, _, _, b2, rfl, .ty _, ht, kit_ty h2, b2, rfl, q⟩

def cell (ns : List Int) (k : Nat) : Int := ns.getD k 0
def sp__law_cell_at (K : PySem.W.Frag) : Sp := fun vs H Q _ => ∃ (a : Addr) (ns : List Int) (k : Nat), vs = [.ref a, .int (k : Int)] ∧ SqL K H a (ns.map V.int) ∧ Q (.int (cell ns k)) H
abbrev s__law_cell_at : Stmt := top 11
theorem sc__law_cell_at : FnScope ["_law_script", "_law_k"] ["_law_script", "_law_k"] (defScope s__law_cell_at) := ⟨rfl, rfl, rfl, by decide +kernel, rfl, by decide +kernel, by decide +kernel⟩
theorem ok__law_cell_at (T : Txt K mg) : Dn P w K mg base CX0 1 (He.ga K "_law_cell_at") ["_law_script", "_law_k"] (sp__law_cell_at K) := by
  refine dn_of (k := 0) T.f__law_cell_at sc__law_cell_at (fun _ _ _ _ _ _ us hl => match us, hl with | [_, _], _ => rfl) (fun cdv A outer s H vs Q E hr h => ?_)
  obtain ⟨a, ns, k, rfl, hS, q⟩ := h
  refine ⟨_, PSs.nox (pss_cons (ps_if (pt_cmpR op_ltn (pv 1) (pe_callB call_len_seq (by rfl) T.n_len PySem.boot_len (pa_cons (pv 0) pa_nil)) (nomark _)) (pss_one (ps_ret (pe_ix ix_list (pv 0) (pv 1) (fun _ _ => rfl)))) pss_nil)
      (pss_one (ps_ret (pe_nat 0)))), ?_⟩
  refine ⟨_, rfl, _, rfl, a, _, rfl, .inl hS, _, _, rfl, rfl, _, rfl, ?_⟩
  rw [List.length_map]
  refine ifN (fun c => ?_) (fun c => ?_)
  · refine ⟨_, rfl, _, rfl, a, _, _, _, rfl, rfl, hS, atI_nat (j := k) (v := .int (cell ns k)) ?_, q⟩
    unfold cell
    simp [c]
  · have e : cell ns k = 0 := by unfold cell; simp [List.getD, List.getElem?_eq_none (Nat.not_lt.mp c)]
    rw [e] at q
    exact q

/-! ### asked_number (of a number that is none is nothing said here) -/
theorem bits_nat {n k : Nat} (h : n < 2 ^ k) : Builtin.Int.intBits (n : Int) ≤ k := intBits_le (by simpa using h)
theorem nat_bits {n k : Nat} (h : Builtin.Int.intBits (n : Int) ≤ k) : n < 2 ^ k := by
  have := natAbs_lt_pow_bits (n : Int)
  exact Nat.lt_of_lt_of_le (by simpa using this) (Nat.pow_le_pow_right (by decide) h)
def sp_asked_number (K : PySem.W.Frag) : Sp := fun vs H Q _ => ∃ n m : Nat, vs = [.int (n : Int), .int (m : Int)] ∧ n < 2 ^ m ∧ Q (.int (n : Int)) H
abbrev s_asked_number : Stmt := top 6
theorem sc_asked_number : FnScope ["number", "bits"] ["number", "bits"] (defScope s_asked_number) := ⟨rfl, rfl, rfl, by decide +kernel, rfl, by decide +kernel, by decide +kernel⟩
theorem ok_asked_number (T : Txt K mg) (d_is_whole : Dn P w K mg base CX0 1 (He.ga K "is_whole") ["number"] (sp_is_whole K)) : Dn P w K mg base CX0 2 (He.ga K "asked_number") ["number", "bits"] (sp_asked_number K) := by
  refine dn_of (k := 1) T.f_asked_number sc_asked_number (fun _ _ _ _ _ _ us hl => match us, hl with | [_, _], _ => rfl) (fun cdv A outer s H vs Q E hr h => ?_)
  obtain ⟨n, m, rfl, hn, q⟩ := h
  refine ⟨_, PSs.nox (pss_cons (ps_if (PW.pt (pw_or (pt_not (pt_val (pe_cl d_is_whole (hr.mono (by decide)) T.g_is_whole pass0 (pa_cons (pv 0) pa_nil)))) (pw_or (pt_cmpR op_ltn (pv 0) (pe_nat 0) (nomark _)) (pw_or1 (pt_cmpR op_gtn (pe_bits (pv 0)) (pv 1) (nomark _)))))) (pss_one ps_never) pss_nil)
      (pss_one (ps_ret (pv 0)))), ?_⟩
  refine ⟨_, rfl, rfl, whole_int ?_⟩
  refine ⟨_, rfl, iteF ⟨_, rfl, _, _, rfl, rfl, _, rfl, ifN (fun c => absurd c (Nat.not_lt_zero _)) (fun _ => ?_)⟩⟩
  refine ⟨_, rfl, _, rfl, _, rfl, _, _, rfl, rfl, _, rfl, ifN (fun c => absurd c (Nat.not_lt.mpr (bits_nat hn))) (fun _ => ?_)⟩
  exact ⟨_, rfl, q⟩

set_option exponentiation.threshold 2000000
/-! ### a drawn number -/
def nbits (o : Int) : Nat :=
  if o % 256 = 45 then (65 + o / 256 % 192).toNat else if o % 32 = 21 then (33 + o / 32 % 32).toNat else if o % 16 = 13 then (17 + o / 16 % 16).toNat else [4, 8, 12, 16, 6, 10, 16, 8].getD (o % 8).toNat 0
theorem nbits_table (i : Int) (h0 : 0 ≤ i) (h8 : i < 8) : ∃ b : Int, atI ([4, 8, 12, 16, 6, 10, 16, 8] : List Int) i = some b ∧ b = (([4, 8, 12, 16, 6, 10, 16, 8] : List Nat).getD i.toNat 0 : Nat) ∧ 4 ≤ b ∧ b ≤ 16 := by
  have : i = 0 ∨ i = 1 ∨ i = 2 ∨ i = 3 ∨ i = 4 ∨ i = 5 ∨ i = 6 ∨ i = 7 := by omega
  rcases this with rfl | rfl | rfl | rfl | rfl | rfl | rfl | rfl <;> exact ⟨_, rfl, rfl, by decide, by decide⟩
theorem atI_map {α β : Type} (f : α → β) (xs : List α) (i : Int) : atI (xs.map f) i = (atI xs i).map f := by
  unfold atI
  rw [List.length_map]
  cases ixN xs.length i with
  | none => rfl
  | some j => simp [Option.bind]
/-- a number of at most 2 ^ 20 bits -/
def Bt (z : Int) : Prop := Builtin.Int.intBits z ≤ 1048576
theorem Bt.abs {z : Int} (h : Bt z) : z.natAbs < 2 ^ 1048576 :=
  Nat.lt_of_lt_of_le (natAbs_lt_pow_bits z) (Nat.pow_le_pow_right (by decide) h)
theorem abs_add {x y : Int} {n : Nat} (hx : x.natAbs < 2 ^ n) (hy : y.natAbs < 2 ^ n) : (x + y).natAbs < 2 ^ (n + 1) := by
  have := Int.natAbs_add_le x y
  rw [Nat.pow_succ]
  omega
theorem abs_up {x : Int} {n : Nat} (m : Nat) (hx : x.natAbs < 2 ^ n) (h : n ≤ m) : x.natAbs < 2 ^ m := Nat.lt_of_lt_of_le hx (Nat.pow_le_pow_right (by decide) h)
theorem mixed_lt {c o : Int} (hc : Bt c) (ho : Bt o) : ((c * 48271 + o) * 6364136223846793005 + 1442695040888963407).natAbs < 2 ^ 1048700 := by
  have h1 : (c * 48271).natAbs < 2 ^ (1048576 + 16) := wide_lt hc.abs (by decide)
  have h2 : (c * 48271 + o).natAbs < 2 ^ (1048592 + 1) := abs_add h1 (abs_up _ ho.abs (by decide))
  have h3 : ((c * 48271 + o) * 6364136223846793005).natAbs < 2 ^ (1048593 + 63) := wide_lt h2 (by decide)
  have h4 : (1442695040888963407 : Int).natAbs < 2 ^ (1048593 + 63) := abs_up (n := 63) _ (by decide) (by decide)
  exact abs_up _ (abs_add h3 h4) (by decide)
theorem shl_one {b : Int} (h0 : 0 ≤ b) (h : b ≤ 256) : CShl 1 b := by
  obtain ⟨n, rfl⟩ := Int.eq_ofNat_of_zero_le h0
  exact shl_ok (n := 1) (by decide) (by omega)
theorem pow_pos_i (n : Nat) : (0 : Int) < 1 * 2 ^ n := by
  rw [Int.one_mul]
  exact Int.pow_pos (by decide)
/-- what is left by a power of two -/
theorem mod_pow (x : Int) (n : Nat) : ∃ m : Nat, x % (1 * 2 ^ n) = (m : Int) ∧ m < 2 ^ n := by
  have p := pow_pos_i n
  obtain ⟨m, e⟩ := Int.eq_ofNat_of_zero_le (Int.emod_nonneg x (Int.ne_of_gt p))
  refine ⟨m, e, ?_⟩
  have l := Int.emod_lt_of_pos x p
  rw [e, Int.one_mul] at l
  have e2 : ((2 ^ n : Nat) : Int) = 2 ^ n := by rw [Int.natCast_pow]; rfl
  rw [← e2] at l
  exact Int.ofNat_lt.mp l
def sp__law_number_by (K : PySem.W.Frag) : Sp := fun vs H Q _ => ∃ c o : Int, vs = [.int c, .int o] ∧ Bt c ∧ Bt o ∧ ∀ (n : Nat) (H' : Hp), n < 2 ^ nbits o → Same H H' → Q (.int (n : Int)) H'
theorem nbits_le (o : Int) : nbits o ≤ 256 := by
  unfold nbits
  split
  · omega
  · split
    · omega
    · split
      · omega
      · have h0 : 0 ≤ o % 8 := by omega
        have h8 : o % 8 < 8 := by omega
        obtain ⟨b, _, e, _, l⟩ := nbits_table (o % 8) h0 h8
        omega
abbrev s__law_number_by : Stmt := top 12
theorem sc__law_number_by : FnScope ["_law_cell", "_law_other", "_law_bits", "_law_mixed"] ["_law_cell", "_law_other"] (defScope s__law_number_by) := ⟨rfl, rfl, rfl, by decide +kernel, rfl, by decide +kernel, by decide +kernel⟩
theorem ok__law_number_by (T : Txt K mg) : Dn P w K mg base CX0 1 (He.ga K "_law_number_by") ["_law_cell", "_law_other"] (sp__law_number_by K) := by
  refine dn_of (k := 0) T.f__law_number_by sc__law_number_by (fun _ _ _ _ _ _ us hl => match us, hl with | [_, _], _ => rfl) (fun cdv A outer s H vs Q E hr h => ?_)
  obtain ⟨c, o, rfl, hc, ho, q⟩ := h
  have h0 : 0 ≤ o % 8 := by omega
  have h8 : o % 8 < 8 := by omega
  obtain ⟨b, eb, b2, b4, b16⟩ := nbits_table (o % 8) h0 h8
  refine ⟨_, PSs.nox (pss_cons (ps_set (i := 2) sc__law_number_by.nd rfl (by first | exact Or.inl rfl | exact Or.inr rfl) (pe_ix ix_list (pe_lst (pa_cons (pe_nat 4) (pa_cons (pe_nat 8) (pa_cons (pe_nat 12) (pa_cons (pe_nat 16) (pa_cons (pe_nat 6) (pa_cons (pe_nat 10) (pa_cons (pe_nat 16) (pa_cons (pe_nat 8) pa_nil))))))))) (pe_op op_mod (pv 1) pe_int) (fun _ _ => rfl)))
      (pss_cons (ps_if (pt_cmpR op_eqi (pe_op op_mod (pv 1) pe_int) pe_int (nomark _)) (pss_one (ps_set (i := 2) sc__law_number_by.nd rfl (by first | exact Or.inl rfl | exact Or.inr rfl) (pe_op op_add pe_int (pe_op op_mod (pe_op op_fdiv (pv 1) pe_int) pe_int)))) pss_nil)
      (pss_cons (ps_if (pt_cmpR op_eqi (pe_op op_mod (pv 1) pe_int) pe_int (nomark _)) (pss_one (ps_set (i := 2) sc__law_number_by.nd rfl (by first | exact Or.inl rfl | exact Or.inr rfl) (pe_op op_add pe_int (pe_op op_mod (pe_op op_fdiv (pv 1) pe_int) pe_int)))) pss_nil)
      (pss_cons (ps_if (pt_cmpR op_eqi (pe_op op_mod (pv 1) pe_int) pe_int (nomark _)) (pss_one (ps_set (i := 2) sc__law_number_by.nd rfl (by first | exact Or.inl rfl | exact Or.inr rfl) (pe_op op_add pe_int (pe_op op_mod (pe_op op_fdiv (pv 1) pe_int) pe_int)))) pss_nil)
      (pss_cons (ps_if (pt_cmpR op_eqi (pe_op op_mod (pe_op op_fdiv (pv 1) pe_int) pe_int) pe_int (nomark _)) (pss_one (ps_ret (pe_op op_mod (pv 0) (pe_op op_shlW pe_int (pv 2))))) pss_nil)
      (pss_cons (ps_set (i := 3) sc__law_number_by.nd rfl (by first | exact Or.inl rfl | exact Or.inr rfl) (pe_op op_add (pe_op op_mul (pe_op op_add (pe_op op_mul (pv 0) pe_int) (pv 1)) pe_int) pe_int))
      (pss_one (ps_ret (pe_op op_mod (pe_op op_fdiv (pe_op op_mulX (pv 3) (pv 3)) pe_int) (pe_op op_shlW pe_int (pv 2))))))))))), ?_⟩
  refine ⟨by show 8 ≤ sizeLine; decide, fun p hp => ?_⟩
  have sm : Same H (upd H p (.lst [V.int 4, V.int 8, V.int 12, V.int 16, V.int 6, V.int 10, V.int 16, V.int 8])) := fun a u e => by
    rw [upd_ne (ne_of_none e hp)]
    exact e
  refine ⟨_, rfl, _, _, rfl, rfl, (by decide : (0 : Int) < 8), p, _, _, .int b, rfl, rfl, SqL.of upd_same, ?_, ?_⟩
  · show atI (([4, 8, 12, 16, 6, 10, 16, 8] : List Int).map V.int) (o % 8) = some (.int b)
    rw [atI_map, eb]
    rfl
  -- what is left, for the three ifs' ways
  have fin : ∀ b' x : Int, 0 ≤ b' → b' ≤ 256 → b'.toNat = nbits o → CShl 1 b' ∧ rI (fun _ j => 0 < j) (fun i j => V.int (i % j)) (V.int x) (V.int (1 * 2 ^ b'.toNat)) (upd H p (.lst [V.int 4, V.int 8, V.int 12, V.int 16, V.int 6, V.int 10, V.int 16, V.int 8])) Q := fun b' x h0 h1 e => by
    refine ⟨shl_one h0 h1, _, _, rfl, rfl, pow_pos_i _, ?_⟩
    rw [e]
    obtain ⟨m, em, lm⟩ := mod_pow x (nbits o)
    show Q (V.int (x % (1 * 2 ^ nbits o))) _
    rw [em]
    exact q m _ lm sm
  walk_at "rd"
  refine ifN (fun c1 => ?_) (fun c1 => ?_) <;> walk_at "rd" <;> refine ifN (fun c2 => ?_) (fun c2 => ?_) <;> walk_at "rd" <;> refine ifN (fun c3 => ?_) (fun c3 => ?_) <;> walk_at "rd" <;> refine ifN (fun c4 => ?_) (fun c4 => ?_)
  all_goals walk_at "rd"
  all_goals try (refine ⟨mulx_ok (mixed_lt hc ho) (mixed_lt hc ho) (by decide), ?_⟩; walk_at "rd")
  all_goals refine fin _ _ ?_ ?_ ?_
  all_goals first
    | omega
    | (simp only [nbits, if_pos, if_neg, c1, c2, c3, not_false_eq_true]; done)
    | (simp only [nbits, if_pos, if_neg, c1, c2, c3, not_false_eq_true]; rfl)
    | (simp only [nbits, if_pos, if_neg, c1, c2, c3, not_false_eq_true]; rw [b2]; rfl)

def sp_added (K : PySem.W.Frag) : Sp := fun vs H Q _ => ∃ n m : Nat, vs = [.int (n : Int), .int (m : Int)] ∧ n < 2 ^ 256 ∧ m < 2 ^ 256 ∧ Q (.int ((n ^^^ m : Nat) : Int)) H
abbrev s_added : Stmt := top 8
theorem sc_added : FnScope ["one", "other"] ["one", "other"] (defScope s_added) := ⟨rfl, rfl, rfl, by decide +kernel, rfl, by decide +kernel, by decide +kernel⟩
theorem ok_added (T : Txt K mg) (d_asked_number : Dn P w K mg base CX0 2 (He.ga K "asked_number") ["number", "bits"] (sp_asked_number K)) : Dn P w K mg base CX0 3 (He.ga K "added") ["one", "other"] (sp_added K) := by
  refine dn_of (k := 2) T.f_added sc_added (fun _ _ _ _ _ _ us hl => match us, hl with | [_, _], _ => rfl) (fun cdv A outer s H vs Q E hr h => ?_)
  obtain ⟨n, m, rfl, hn, hm, q⟩ := h
  refine ⟨_, PSs.nox (pss_one (ps_ret (pe_op op_xorn (pe_cl d_asked_number (hr.mono (by decide)) T.g_asked_number pass0 (pa_cons (pv 0) (pa_cons (pe_gnat (n := 256) T.c_BITS) pa_nil))) (pe_cl d_asked_number (hr.mono (by decide)) T.g_asked_number pass0 (pa_cons (pv 1) (pa_cons (pe_gnat (n := 256) T.c_BITS) pa_nil)))))), ?_⟩
  exact ⟨_, rfl, rfl, _, _, rfl, hn, _, rfl, rfl, _, _, rfl, hm, _, _, rfl, rfl, q⟩

/-! ### the sum, bit by bit -/
theorem xor_step (a b i : Nat) : (a ^^^ b) % 2 ^ (i + 1) = (a ^^^ b) % 2 ^ i + (if a / 2 ^ i % 2 = b / 2 ^ i % 2 then 0 else 2 ^ i) := by
  rw [Nat.mod_pow_succ, Nat.xor_div_two_pow]
  have e : ∀ x y : Nat, (x ^^^ y) % 2 = x % 2 ^^^ y % 2 := fun x y => Nat.xor_mod_two_pow (n := 1)
  rw [e]
  have h1 : a / 2 ^ i % 2 < 2 := Nat.mod_lt _ (by decide)
  have h2 : b / 2 ^ i % 2 < 2 := Nat.mod_lt _ (by decide)
  have c1 : a / 2 ^ i % 2 = 0 ∨ a / 2 ^ i % 2 = 1 := by omega
  have c2 : b / 2 ^ i % 2 = 0 ∨ b / 2 ^ i % 2 = 1 := by omega
  rcases c1 with c1 | c1 <;> rcases c2 with c2 | c2 <;> rw [c1, c2] <;> simp
theorem div_succ (a i : Nat) : a / 2 ^ i / 2 = a / 2 ^ (i + 1) := by rw [Nat.div_div_eq_div_mul, Nat.pow_succ]
def sp__law_sum (K : PySem.W.Frag) : Sp := fun vs H Q _ => ∃ n m : Nat, vs = [.int (n : Int), .int (m : Int)] ∧ Q (.int ((n ^^^ m : Nat) : Int)) H
abbrev s__law_sum : Stmt := top 13
theorem sc__law_sum : FnScope ["_law_one", "_law_other", "_law_found", "_law_bit"] ["_law_one", "_law_other"] (defScope s__law_sum) := ⟨rfl, rfl, rfl, by decide +kernel, rfl, by decide +kernel, by decide +kernel⟩
theorem ok__law_sum (T : Txt K mg) : Dn P w K mg base CX0 1 (He.ga K "_law_sum") ["_law_one", "_law_other"] (sp__law_sum K) := by
  refine dn_of (k := 0) T.f__law_sum sc__law_sum (fun _ _ _ _ _ _ us hl => match us, hl with | [_, _], _ => rfl) (fun cdv A outer s H vs Q E hr h => ?_)
  obtain ⟨n, m, rfl, q⟩ := h
  refine ⟨_, PSs.nox (pss_cons (ps_set (i := 2) sc__law_sum.nd rfl (by first | exact Or.inl rfl | exact Or.inr rfl) (pe_nat 0))
      (pss_cons (ps_set (i := 3) sc__law_sum.nd rfl (by first | exact Or.inl rfl | exact Or.inr rfl) (pe_nat 1))
      (pss_cons (ps_while PassesOwn.never (PW.pt (pw_or (pt_cmpR op_gtn (pv 0) (pe_nat 0) (nomark _)) (pw_or1 (pt_cmpR op_gtn (pv 1) (pe_nat 0) (nomark _)))))
      (pss_cons (ps_if (pt_cmpR op_nen (pe_op op_modn (pv 0) (pe_nat 2)) (pe_op op_modn (pv 1) (pe_nat 2)) (nomark _)) (pss_one (ps_set (i := 2) sc__law_sum.nd rfl (by first | exact Or.inl rfl | exact Or.inr rfl) (pe_op op_addn (pv 2) (pv 3)))) pss_nil)
      (pss_cons (ps_set (i := 0) sc__law_sum.nd rfl (by first | exact Or.inl rfl | exact Or.inr rfl) (pe_op op_fdivn (pv 0) (pe_nat 2)))
      (pss_cons (ps_set (i := 1) sc__law_sum.nd rfl (by first | exact Or.inl rfl | exact Or.inr rfl) (pe_op op_fdivn (pv 1) (pe_nat 2)))
      (pss_one (ps_set (i := 3) sc__law_sum.nd rfl (by first | exact Or.inl rfl | exact Or.inr rfl) (pe_op op_muln (pv 3) (pe_nat 2))))))))
      (pss_one (ps_ret (pv 2)))))), ?_⟩
  refine while_m (fun k σ H' => ∃ i, H' = H ∧ k = n / 2 ^ i + m / 2 ^ i ∧ σ = [some (.int ((n / 2 ^ i : Nat) : Int)), some (.int ((m / 2 ^ i : Nat) : Int)), some (.int (((n ^^^ m) % 2 ^ i : Nat) : Int)), some (.int ((2 ^ i : Nat) : Int))]) _ ⟨0, rfl, rfl, ?_⟩ ?_
  · simp only [Nat.pow_zero, Nat.div_one, Nat.mod_one]
    rfl
  · rintro k σ H' ⟨i, rfl, rfl, rfl⟩
    have step : ∀ f : Nat, f = (n ^^^ m) % 2 ^ (i + 1) → 0 < n / 2 ^ i + m / 2 ^ i → ∃ m', m' < n / 2 ^ i + m / 2 ^ i ∧ ∃ j, H' = H' ∧ m' = n / 2 ^ j + m / 2 ^ j ∧ [some (V.int ((n / 2 ^ i / 2 : Nat) : Int)), some (.int ((m / 2 ^ i / 2 : Nat) : Int)), some (.int (f : Int)), some (.int ((2 ^ i * 2 : Nat) : Int))] = [some (.int ((n / 2 ^ j : Nat) : Int)), some (.int ((m / 2 ^ j : Nat) : Int)), some (.int (((n ^^^ m) % 2 ^ j : Nat) : Int)), some (.int ((2 ^ j : Nat) : Int))] := fun f e c => by
      refine ⟨_, ?_, i + 1, rfl, rfl, by rw [e, div_succ, div_succ, Nat.pow_succ]⟩
      rw [← div_succ, ← div_succ]
      omega
    walk_at "rd"
    refine (fun (turn : 0 < n / 2 ^ i + m / 2 ^ i → _) => ifN (fun c => iteT (turn (Nat.add_pos_left c _))) (fun c => ?_)) ?_
    · walk_at "rd"
      refine ifN (fun c2 => turn (Nat.add_pos_right _ c2)) (fun c2 => ?_)
      have e1 : n / 2 ^ i = 0 := Nat.eq_zero_of_not_pos c
      have e2 : m / 2 ^ i = 0 := Nat.eq_zero_of_not_pos c2
      have lt0 : ∀ x : Nat, x / 2 ^ i = 0 → x < 2 ^ i := fun x h => by
        rcases Nat.div_eq_zero_iff.mp h with h | h
        · exact absurd h (Nat.ne_of_gt (Nat.two_pow_pos i))
        · exact h
      have e3 : (n ^^^ m) % 2 ^ i = n ^^^ m := Nat.mod_eq_of_lt (Nat.xor_lt_two_pow (lt0 _ e1) (lt0 _ e2))
      rw [e3]
      exact ⟨_, rfl, q⟩
    · intro cc
      refine ⟨_, fun _ _ h => h, ?_⟩
      walk_at "rd"
      have xs := xor_step n m i
      refine ifNn (fun d => ?_) (fun d => ?_) <;> walk_at "rd" <;> refine step _ ?_ cc
      · rw [xs, if_neg d]
      · rw [xs, if_pos d, Nat.add_zero]

abbrev s_law : Stmt := top 14
theorem sc_law : FnScope ["_law_script", "_law_one", "_law_other", "_law_found"] ["_law_script"] (defScope s_law) := ⟨rfl, rfl, rfl, by decide +kernel, rfl, by decide +kernel, by decide +kernel⟩
theorem ok_law (T : Txt K mg) (d__law_number_by : Dn P w K mg base CX0 1 (He.ga K "_law_number_by") ["_law_cell", "_law_other"] (sp__law_number_by K)) (d__law_cell_at : Dn P w K mg base CX0 1 (He.ga K "_law_cell_at") ["_law_script", "_law_k"] (sp__law_cell_at K)) (d_added : Dn P w K mg base CX0 3 (He.ga K "added") ["one", "other"] (sp_added K)) (d__law_whole : Dn P w K mg base CX0 1 (He.ga K "_law_whole") ["_law_found"] (sp_is_whole K)) (d__law_sum : Dn P w K mg base CX0 1 (He.ga K "_law_sum") ["_law_one", "_law_other"] (sp__law_sum K)) : Dn P w K mg base CX0 4 (He.ga K "law") ["_law_script"] (spLaw K) := by
  refine dn_of (k := 3) T.f_law sc_law (fun _ _ _ _ _ _ us hl => match us, hl with | [_], _ => rfl) (fun cdv A outer s H vs Q E hr h => ?_)
  obtain ⟨a, ns, rfl, hS, hl, hb, q⟩ := h
  have cb : ∀ k, Bt (cell ns k) := fun k => by
    unfold cell
    by_cases c : k < ns.length
    · have e : ns.getD k 0 = ns[k] := by simp [List.getD, c]
      rw [e]
      exact hb _ (List.getElem_mem c)
    · have e : ns.getD k 0 = 0 := by simp [List.getD, List.getElem?_eq_none (Nat.not_lt.mp c)]
      rw [e]
      exact (by decide : Builtin.Int.intBits 0 ≤ 1048576)
  refine ⟨_, PSs.nox (pss_cons (ps_set (i := 1) sc_law.nd rfl (by first | exact Or.inl rfl | exact Or.inr rfl) (pe_cl d__law_number_by (hr.mono (by decide)) T.g__law_number_by pass0 (pa_cons (pe_cl d__law_cell_at (hr.mono (by decide)) T.g__law_cell_at pass0 (pa_cons (pv 0) (pa_cons (pe_nat 0) pa_nil))) (pa_cons (pe_cl d__law_cell_at (hr.mono (by decide)) T.g__law_cell_at pass0 (pa_cons (pv 0) (pa_cons (pe_nat 1) pa_nil))) pa_nil))))
      (pss_cons (ps_set (i := 2) sc_law.nd rfl (by first | exact Or.inl rfl | exact Or.inr rfl) (pe_cl d__law_number_by (hr.mono (by decide)) T.g__law_number_by pass0 (pa_cons (pe_cl d__law_cell_at (hr.mono (by decide)) T.g__law_cell_at pass0 (pa_cons (pv 0) (pa_cons (pe_nat 2) pa_nil))) (pa_cons (pe_cl d__law_cell_at (hr.mono (by decide)) T.g__law_cell_at pass0 (pa_cons (pv 0) (pa_cons (pe_nat 3) pa_nil))) pa_nil))))
      (pss_cons (ps_cut (ps_if (pt_cmpR op_eqi (pe_op op_mod (pe_cl d__law_cell_at (hr.mono (by decide)) T.g__law_cell_at pass0 (pa_cons (pv 0) (pa_cons (pe_nat 4) pa_nil))) pe_int) pe_int (nomark _)) (pss_one (ps_set (i := 1) sc_law.nd rfl (by first | exact Or.inl rfl | exact Or.inr rfl) (pe_op op_sub (pe_op op_subn (pe_op op_shln (pe_nat 1) (pe_nat 256)) (pe_nat 1)) (pe_op op_mod (pe_cl d__law_cell_at (hr.mono (by decide)) T.g__law_cell_at pass0 (pa_cons (pv 0) (pa_cons (pe_nat 0) pa_nil))) pe_int)))) pss_nil))
      (pss_cons (ps_set (i := 3) sc_law.nd rfl (by first | exact Or.inl rfl | exact Or.inr rfl) (pe_cl d_added (hr.mono (by decide)) T.g_added pass0 (pa_cons (pv 1) (pa_cons (pv 2) pa_nil))))
      (pss_cons (ps_if (PW.pt (pw_or (pt_not (pt_val (pe_cl d__law_whole (hr.mono (by decide)) T.g__law_whole pass0 (pa_cons (pv 3) pa_nil)))) (pw_or1 (pt_cmpR op_nen (pv 3) (pe_cl d__law_sum (hr.mono (by decide)) T.g__law_sum pass0 (pa_cons (pv 1) (pa_cons (pv 2) pa_nil))) (nomark _))))) (pss_one (ps_ret pe_bl)) pss_nil)
      (pss_one (ps_ret (pe_and (pe_cmpR op_eqn (pe_cl d_added (hr.mono (by decide)) T.g_added pass0 (pa_cons (pv 2) (pa_cons (pv 1) pa_nil))) (pv 3) (nomark _)) (pe_and (pe_cmpR op_eqn (pe_cl d_added (hr.mono (by decide)) T.g_added pass0 (pa_cons (pv 1) (pa_cons (pv 1) pa_nil))) (pe_nat 0) (nomark _)) (pe_one (pe_cmpR op_eqn (pe_cl d_added (hr.mono (by decide)) T.g_added pass0 (pa_cons (pv 1) (pa_cons (pe_nat 0) pa_nil))) (pv 1) (nomark _)))))))))))), ?_⟩
  walk_at "rd"
  refine ⟨_, _, rfl, cb _, cb _, fun n1 H1 l1 s1 => ?_⟩
  have hS1 := s1.seq hS
  walk_at "rd"
  refine ⟨_, _, rfl, cb _, cb _, fun n2 H2 l2 s2 => ?_⟩
  have hS2 := s2.seq hS1
  have l1' : n1 < 2 ^ 256 := Nat.lt_of_lt_of_le l1 (Nat.pow_le_pow_right (by decide) (nbits_le _))
  have l2' : n2 < 2 ^ 256 := Nat.lt_of_lt_of_le l2 (Nat.pow_le_pow_right (by decide) (nbits_le _))
  walk_at "rd"
  refine ⟨fun σ' H' => Hd (∃ m : Nat, m < 2 ^ 256 ∧ H' = H2 ∧ σ' = [some (.ref a), some (.int (m : Int)), some (.int (n2 : Int)), none]), ?_, ?_⟩
  · intro σ' H' h
    obtain ⟨m, lm, rfl, rfl⟩ := h.out
    walk_at "rd"
    refine ⟨_, _, rfl, lm, l2', ?_⟩
    walk_at "rd"
    refine whole_int ?_
    walk_at "rd"
    refine ⟨_, _, rfl, ?_⟩
    walk_at "rd"
    refine ifNn (fun c => absurd rfl c) (fun _ => ?_)
    walk_at "rd"
    refine ⟨_, _, rfl, l2', lm, ?_⟩
    walk_at "rd"
    refine ifN (fun _ => ?_) (fun c => absurd (Nat.xor_comm _ _) c)
    walk_at "rd"
    refine ⟨_, _, rfl, lm, lm, ?_⟩
    walk_at "rd"
    refine ifN (fun _ => ?_) (fun c => absurd (Nat.xor_self _) c)
    walk_at "rd"
    refine ⟨_, 0, rfl, lm, by decide, ?_⟩
    walk_at "rd"
    exact ret_dec (Nat.xor_zero _) (q _)
  · walk_at "rd"
    refine ifN (fun c => ?_) (fun c => Hd.mk ⟨n1, l1', rfl, rfl⟩)
    walk_at "rd"
    refine ⟨⟨1, by decide, by decide⟩, ?_⟩
    walk_at "rd"
    refine Hd.mk ⟨2 ^ 256 - 1 - (cell ns 0 % 1000).toNat, by omega, rfl, ?_⟩
    have e : ((1 * 2 ^ 256 - 1 : Nat) : Int) - cell ns 0 % 1000 = ((2 ^ 256 - 1 - (cell ns 0 % 1000).toNat : Nat) : Int) := by omega
    show [some (V.ref a), some (V.int (((1 * 2 ^ 256 - 1 : Nat) : Int) - cell ns 0 % 1000)), some (V.int (n2 : Int)), none] = _
    rw [e]
end
def fn : List He.DefD := [⟨("is_whole", none), "is_whole", "is_whole", defArgs (top 5), defBody (top 5), defScope (top 5), [], []⟩,
  ⟨("_law_whole", none), "_law_whole", "_law_whole", defArgs (top 10), defBody (top 10), defScope (top 10), [], []⟩,
  ⟨("_law_cell_at", none), "_law_cell_at", "_law_cell_at", defArgs (top 11), defBody (top 11), defScope (top 11), [], []⟩,
  ⟨("asked_number", none), "asked_number", "asked_number", defArgs (top 6), defBody (top 6), defScope (top 6), [], []⟩,
  ⟨("_law_number_by", none), "_law_number_by", "_law_number_by", defArgs (top 12), defBody (top 12), defScope (top 12), [], []⟩,
  ⟨("added", none), "added", "added", defArgs (top 8), defBody (top 8), defScope (top 8), [], []⟩,
  ⟨("_law_sum", none), "_law_sum", "_law_sum", defArgs (top 13), defBody (top 13), defScope (top 13), [], []⟩,
  ⟨("law", none), "law", "law", defArgs (top 14), defBody (top 14), defScope (top 14), [], []⟩]
def fa : List He.Fa := [.free "isinstance", .free "int", .free "bool", .free "len", .glo "is_whole", .int "BITS" 256, .glo "asked_number", .glo "_law_cell_at", .glo "_law_number_by", .glo "added", .glo "_law_whole", .glo "_law_sum", .glo "law"]
theorem txt_mk {K : PySem.W.Frag} {h : Heap} {mg : Str → Option Value} (X : K.In h) (G : h.Ns mainGlobals mg) (c : He.SaysD fa fn K) : Txt K mg where
  n_isinstance := He.free_ok X G (c.fact 0 (f := .free "isinstance") rfl)
  n_int := He.free_ok X G (c.fact 1 (f := .free "int") rfl)
  n_bool := He.free_ok X G (c.fact 2 (f := .free "bool") rfl)
  n_len := He.free_ok X G (c.fact 3 (f := .free "len") rfl)
  g_is_whole := He.glo_ok X G (c.fact 4 (f := .glo "is_whole") rfl)
  c_BITS := He.int_ok X G (c.fact 5 (f := .int "BITS" 256) rfl)
  g_asked_number := He.glo_ok X G (c.fact 6 (f := .glo "asked_number") rfl)
  g__law_cell_at := He.glo_ok X G (c.fact 7 (f := .glo "_law_cell_at") rfl)
  g__law_number_by := He.glo_ok X G (c.fact 8 (f := .glo "_law_number_by") rfl)
  g_added := He.glo_ok X G (c.fact 9 (f := .glo "added") rfl)
  g__law_whole := He.glo_ok X G (c.fact 10 (f := .glo "_law_whole") rfl)
  g__law_sum := He.glo_ok X G (c.fact 11 (f := .glo "_law_sum") rfl)
  g_law := He.glo_ok X G (c.fact 12 (f := .glo "law") rfl)
  f_is_whole := c.def_ 0 rfl
  f__law_whole := c.def_ 1 rfl
  f__law_cell_at := c.def_ 2 rfl
  f_asked_number := c.def_ 3 rfl
  f__law_number_by := c.def_ 4 rfl
  f_added := c.def_ 5 rfl
  f__law_sum := c.def_ 6 rfl
  f_law := c.def_ 7 rfl
abbrev R : PySem.W.OpenRow := PySem.W.OpenLaw.row PySem.Challenge.rw_nimhouse_k01_sums
abbrev hk : PySem.W.Hook := He.hookD 5 fa fn
def ob (s : PySem.W.SharedT) : He.AlD := He.obsDG 5 fa fn (HandSHeadRun.getT s)
theorem ob_eq (s : PySem.W.SharedT) : ob s = hk.obs s.abs := He.obsDG_eq (HandSHeadRun.getT_eq s)
def names0 : List Str := ["HouseError", "NotANumber", "BITS", "is_whole", "asked_number", "added", "_law_whole", "_law_cell_at", "_law_number_by", "_law_sum"]
def names : List Str := names0
theorem run (w : World) : HandSHeadRun.RunEq R (PySem.W.view R.prog [14]) hk ob 4000 names w := by
  intro os
  kernel_rfl
theorem facts {P : Program} {w : World} {K : PySem.W.Frag} {h : Heap} {mg : Str → Option Value} {f : Addr} (X : K.In h) (G : h.Ns mainGlobals mg) (hfa : mg ("law" : Str) = some (.ref f)) (c : He.SaysD fa fn K) :
    ∃ fd : FuncData, (∀ (s : Shared) (v : Value), BindsTo s fd ⟨[v], []⟩ [("_law_script", v)]) ∧ ∀ base : Heap, K.In base → base.Ns mainGlobals mg → FnOk P w K mg base CX0 4 f fd ["_law_script"] (few ["_law_script"] (spLaw K)) := by
  have T := txt_mk X G c
  have e := hfa.symm.trans T.g_law
  cases e
  obtain ⟨fd, F⟩ := T.f_law
  have b := FunD.bindsA (ps := ["_law_script"]) F fun _ _ _ _ _ _ us hl => match us, hl with | [_], _ => rfl
  refine ⟨fd, fun s v => b s [v] rfl, fun base _ _ => ?_⟩
  have d_is_whole := ok_is_whole (P := P) (w := w) (base := base) T 
  have d__law_whole := ok__law_whole (P := P) (w := w) (base := base) T 
  have d__law_cell_at := ok__law_cell_at (P := P) (w := w) (base := base) T 
  have d_asked_number := ok_asked_number (P := P) (w := w) (base := base) T d_is_whole
  have d__law_number_by := ok__law_number_by (P := P) (w := w) (base := base) T 
  have d_added := ok_added (P := P) (w := w) (base := base) T d_asked_number
  have d__law_sum := ok__law_sum (P := P) (w := w) (base := base) T 
  have d_law := ok_law (P := P) (w := w) (base := base) T d__law_number_by d__law_cell_at d_added d__law_whole d__law_sum
  obtain ⟨fd', F', _, lk⟩ := d_law.ex
  have e := fd_eq F lk
  rw [e] at F'
  exact F'
end N
open PySem PySem.W PySem.Calls PyProof.Rows
theorem PySem.Challenge.cw_nimhouse_k01_sums_holds : PySem.Challenge.rw_nimhouse_k01_sums.Holds := by
  w_on; o_law
  refine HandSHeadRun.head_any (r := OpenLaw.row PySem.Challenge.rw_nimhouse_k01_sums) (q := view (OpenLaw.row PySem.Challenge.rw_nimhouse_k01_sums).prog [14]) (H := N.hk) (ob := N.ob) (M := 4000) (loose := N.names) (d := HandSHeadRun.topDef (OpenLaw.row PySem.Challenge.rw_nimhouse_k01_sums).prog 14) (kwd := []) N.ob_eq
    (by kernel_rfl) (fun s => by kernel_rfl) N.run (by kernel_rfl) (by kernel_rfl) (by kernel_rfl) (by rfl) (by first | assumption | decide +kernel) (by decide +kernel) ⟨rfl, rfl, rfl, rfl, rfl, by decide +kernel⟩ ?hw ?hc
  case hw => w_witness2
  case hc =>
    refine N.walk_ofEB (l := PySem.Challenge.rw_nimhouse_k01_sums) (n := 63) (k := 4) (x := "_law_script") (CX := L2.CX0) rfl (by decide) (by kernel_rfl) ⟨rfl, by decide, by decide⟩ ?F (fun _ _ _ _ z => z)
    intro w mg fa h Y G hmg0
    obtain ⟨K, KX, c⟩ := Y
    have hmg : mg ("law" : PySem.Str) = some (.ref fa) := by
      have e : (HandSHeadRun.topDef (OpenLaw.row PySem.Challenge.rw_nimhouse_k01_sums).prog 14).name = ("law" : PySem.Str) := by kernel_rfl
      rw [← e]
      exact hmg0
    obtain ⟨fd, hb, hF⟩ := N.facts (P := (PySem.Challenge.rw_nimhouse_k01_sums).prog) (w := w) KX G hmg c
    exact ⟨K, fd, _, KX, hb, fun H a ns hl hbt _ hS => ⟨rfl, a, ns, rfl, hS, hl, hbt, fun _ => rfl⟩, hF⟩
