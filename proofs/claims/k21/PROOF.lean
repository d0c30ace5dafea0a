import PyProof.Rows.All
import Wide.All
import OpenK.AllK
import Wide.FinOn
import KE.KStateDown
import Lean
import HandS.ForMost
import HandS.ForExc
import HandS.More
import HandS.Defaults
import HandS.IsInst
import HandS.Wide
import HandS.WideBits
import HandS.EndBits
import HandS.Head0
import HandS.Head1
import HandS.Head2
import HandS.HeadEnd
import HandS.HeadHook1
import HandS.HeadHook2
import HandS.SortInts
import KE.KEqSeq
import HandS.RevRange
import HandS.Walk
import HandS.Conv
import HandS.Style
import HandS.ClsMeth
import HandS.Text
import HandS.StrMore
import PyProof.Rows.StrPadWhole
import HandS.ExcIs
import PyProof.StrBlock2
import PySem.Challenge.RW_nimhouse_k21_whole_lines
import HandS.Comp
import HandS.Exc
import HandS.TryOnly
import HandS.TryMany
import HandS.TryElse
import HandS.ExcOwn
import HandS.WordsExc
import HandS.TupLe
import HandS.MakeKw
import HandS.Iter
import KE.GoesEnumKw
import HandS.Replace
import KE.KRevSl
import PyProof.SliceStr2
import HandS.Codes
import HandS.StrSplit
import PyProof.StrLawsLines
import PyProof.Rows.StrCut
import PyProof.Rows.StrLawsPart
set_option Elab.async false
set_option linter.all false
set_option maxRecDepth 100000
set_option maxHeartbeats 4000000
/-! Our own rules over the hand layer: defs by one datum, numbers as naturals, the end with the numbers' bits. -/
namespace N
open PySem PySem.Spec PyProof.Rows L2
/-! ### a def that keeps a promise -/
/-- the promise with the number of its arguments -/
def few (ps : List Str) (sp : Sp) : Sp := fun vs H Q E => vs.length = ps.length ∧ sp vs H Q E
structure Dn (P : Program) (w : World) (K : PySem.W.Frag) (mg : Str → Option Value) (base : Heap) (CX : CXT) (k : Nat) (f : Addr) (ps : List Str) (sp : Sp) : Prop where
  ex : ∃ fd, FnOk P w K mg base CX k f fd ps (few ps sp) ∧ Binds K fd ps [] ∧ ∃ oc od osl, K.lookup f = some ⟨oc, od, .func fd, osl⟩
  kp : PySem.W.keepIn K (.ref f) = true
section
variable {P : Program} {w : World} {K : PySem.W.Frag} {mg : Str → Option Value} {base : Heap} {CX : CXT} {x qual : Str} {params : Arguments} {body : List Stmt} {scope : Scope} {f : Addr} {fd : FuncData} {N ps : List Str} {k : Nat} {sp : Sp}
theorem dn_of (F : ∃ fd, FunD K x qual params body scope [] [] f fd) (S : FnScope N ps scope)
    (hb : ∀ (kV doc pm : Value) (an : Option Addr) (cdv ct : Value) (us : List Value), us.length = ps.length → bindArgs (PySem.W.fnOf x qual params body scope .none kV doc pm an cdv ct) ⟨us, []⟩ = pure (ps.zip us))
    (hbody : ∀ (cdv : Value) (A : Around) (outer : List Env) (s : Shared) (H : Hp) (vs : List V) (Q : VK) (E : XK), Room k (A.deeper (envOfC qual scope s.heap.objs.size f cdv)) → sp vs H Q E →
      ∃ t, PSs (cxOf CX P w K mg base N qual scope f cdv A outer s H E) body t ∧ t { nx := fun _ H' => Q .non H', rt := Q } (start N vs) H) : Dn P w K mg base CX (k + 1) f ps sp := by
  obtain ⟨fd, F⟩ := F
  refine ⟨⟨fd, F.ok S (fun vs H Q E h => h.1) (fun cdv A outer s H vs Q E hr h => hbody cdv A outer s H vs Q E hr h.2), F.bindsN hb, ?_⟩, F.kp⟩
  obtain ⟨oc, od, dV, kV, doc, pm, an, cdv, ct, osl, _, lk, _⟩ := F.ex
  exact ⟨oc, od, osl, lk⟩
theorem fd_eq {dvs : List V} {kws : List (Str × V)} {fd' : FuncData} (F : FunD K x qual params body scope dvs kws f fd) (h : ∃ oc od osl, K.lookup f = some ⟨oc, od, .func fd', osl⟩) : fd' = fd := by
  obtain ⟨oc, od, dV, kV, doc, pm, an, cdv, ct, osl, _, lk, _⟩ := F.ex
  obtain ⟨oc', od', osl', h⟩ := h
  rw [lk] at h
  injection h with h
  injection h with h1 h2 h3 h4
  injection h3 with h3
  exact h3.symm
/-- a def that calls itself: the n-th promise leans on the one ahead of it -/
def recSp (sp : Nat → Sp) : Nat → Sp
  | 0 => fun _ _ _ _ => False
  | n + 1 => sp n
theorem rec_dn {sp : Nat → Sp} {c : Nat} (F : ∃ fd, FunD K x qual params body scope [] [] f fd)
    (hb : ∀ (kV doc pm : Value) (an : Option Addr) (cdv ct : Value) (us : List Value), us.length = ps.length → bindArgs (PySem.W.fnOf x qual params body scope .none kV doc pm an cdv ct) ⟨us, []⟩ = pure (ps.zip us))
    (h : ∀ n, Dn P w K mg base CX (n + c) f ps (recSp sp n) → Dn P w K mg base CX (n + c + 1) f ps (sp n)) : ∀ n, Dn P w K mg base CX (n + c) f ps (recSp sp n)
  | 0 => by
    obtain ⟨fd, F⟩ := F
    refine ⟨⟨fd, ⟨fun vs H Q E h => h.1, fun A outer s H args us vs Q E hr he hb hv hs => hs.2.elim⟩, F.bindsN hb, ?_⟩, F.kp⟩
    obtain ⟨oc, od, dV, kV, doc, pm, an, cdv, ct, osl, _, lk, _⟩ := F.ex
    exact ⟨oc, od, osl, lk⟩
  | n + 1 => by
    have e : n + 1 + c = n + c + 1 := by omega
    rw [e]
    exact h n (rec_dn F hb h n)
theorem Dn.mono {j : Nat} (D : Dn P w K mg base CX j f ps sp) (h : j ≤ k) : Dn P w K mg base CX k f ps sp := by
  obtain ⟨fd, F, b⟩ := D.ex
  exact ⟨⟨fd, F.mono h, b⟩, D.kp⟩
theorem Dn.imp {sp' : Sp} (D : Dn P w K mg base CX k f ps sp) (h : ∀ vs H Q E, sp' vs H Q E → sp vs H Q E) : Dn P w K mg base CX k f ps sp' := by
  obtain ⟨fd, F, b⟩ := D.ex
  exact ⟨⟨fd, F.imp fun vs H Q E q => ⟨q.1, h vs H Q E q.2⟩, b⟩, D.kp⟩
/-- a def that may raise, where it does not -/
theorem Dn.calm (D : Dn P w K mg base (L2.CX P w) k f ps sp) : Dn P w K mg base CX0 k f ps fun vs H Q _ => sp vs H Q E0 := by
  obtain ⟨fd, F, b⟩ := D.ex
  refine ⟨⟨fd, ⟨fun vs H Q E q => q.1, fun A outer s H args us vs Q E hr he hb hv hs => ?_⟩, b⟩, D.kp⟩
  refine codeAny_mono (F.run A outer s H args us vs Q E0 hr he hb hv hs) fun r s' hq => ?_
  cases r with
  | error e =>
    obtain ⟨_, _, _, _, _, _, _, _, _, _, _, _, h⟩ := hq
    exact h.elim
  | ok fl => cases fl <;> exact hq
end
section
variable {X : Cx} {CX : CXT} {k : Nat} {f C : Addr} {ps : List Str} {sp : Sp} {E : XK} {x m : Str} {p pos apos : Pos} {e o : Expr} {es : List Expr} {ta : TE} {t : TA}
/-- f(..) -/
def tCl (ps : List Str) (sp : Sp) (E : XK) (t : TA) : TE := fun σ H Q => t σ H fun vs H1 => few ps sp vs H1 Q E
theorem pe_cl (D : Dn X.prog X.w X.K X.mg X.base CX k f ps sp) (hr : Room k X.A) (hm : X.mg x = some (.ref f)) (hx : Passes CX X E) (ha : PA X (e :: es) t) (hg : Gl X x := by rfl)
    (hdb : (x == ("__debug__" : Str)) = false := by decide) (he : starEach (e :: es) X.env = (false, eval e X.env) :: starEach es X.env := by rfl) (hpl : (backTo pos (starEach es X.env)).any (·.1) = false := by rfl) :
    PE X (.Call (.Name x p) (e :: es) [] pos) (tCl ps sp E t) := by
  obtain ⟨fd, F, b, _⟩ := D.ex
  have h := pe_call (p := p) (ds := []) (dvs := []) F hr hg hm D.kp b .nil hx ha hdb he hpl
  refine ⟨fun pins s σ H Q I q => h.run pins s σ H Q I ?_⟩
  have e2 : tCall (few ps sp) [] E t = tCl ps sp E t := by
    funext σ H Q
    unfold tCall tCl
    simp only [List.append_nil]
  rw [e2]
  exact q
theorem pe_cl0 (D : Dn X.prog X.w X.K X.mg X.base CX k f ps sp) (hr : Room k X.A) (hm : X.mg x = some (.ref f)) (hx : Passes CX X E) (hg : Gl X x := by rfl)
    (hdb : (x == ("__debug__" : Str)) = false := by decide) : PE X (.Call (.Name x p) [] [] pos) (tCl ps sp E tNil) := by
  obtain ⟨fd, F, b, _⟩ := D.ex
  exact pe_call0 (ds := []) (dvs := []) F hr hg hm D.kp b .nil hx hdb
end
/-! ### numbers as naturals -/
section
variable {X : Cx}
theorem pe_nat (n : Nat) {j : Nat} {pos : Pos} : PE X (.Constant (.int (n : Int)) j pos) (tC (.int (n : Int))) := pe_int
/-- a module's number -/
theorem pe_gint {x : Str} {i : Int} {pos : Pos} (h : ∃ t, X.mg x = some (.int i t)) (hg : Gl X x := by rfl) (hd : (x == ("__debug__" : Str)) = false := by decide) : PE X (.Name x pos) (tC (.int i)) := by
  obtain ⟨t, h⟩ := h
  exact pe_glob hg h ⟨t, rfl⟩ hd
theorem pe_gnat {x : Str} {n : Nat} {pos : Pos} (h : ∃ t, X.mg x = some (.int (n : Int) t)) (hg : Gl X x := by rfl) (hd : (x == ("__debug__" : Str)) = false := by decide) : PE X (.Name x pos) (tC (.int (n : Int))) := pe_gint h hg hd
/-- two naturals -/
def rN (C : Nat → Nat → Prop) (g : Nat → Nat → V) : R2 := fun x y H Q => ∃ n m : Nat, x = .int (n : Int) ∧ y = .int (m : Int) ∧ C n m ∧ Q (g n m) H
def rN0 (g : Nat → Nat → V) : R2 := fun x y H Q => ∃ n m : Nat, x = .int (n : Int) ∧ y = .int (m : Int) ∧ Q (g n m) H
theorem opN {f : Value → Value → Sem Value} {C : Int → Int → Prop} {g : Int → Int → V} (h : OpR X f (rI C g)) {C' : Nat → Nat → Prop} {g' : Nat → Nat → V} (hc : ∀ n m : Nat, C' n m → C n m) (e : ∀ n m : Nat, C' n m → g n m = g' n m) : OpR X f (rN C' g') := by
  intro pins s σ H x y v u Q I rx ry q
  obtain ⟨n, m, rfl, rfl, c, q⟩ := q
  rw [← e n m c] at q
  exact h pins s σ H _ _ v u Q I rx ry ⟨_, _, rfl, rfl, hc n m c, q⟩
theorem opN0 {f : Value → Value → Sem Value} {g : Int → Int → V} (h : OpR X f (rI0 g)) {g' : Nat → Nat → V} (e : ∀ n m : Nat, g n m = g' n m) : OpR X f (rN0 g') := by
  intro pins s σ H x y v u Q I rx ry q
  obtain ⟨n, m, rfl, rfl, q⟩ := q
  rw [← e n m] at q
  exact h pins s σ H _ _ v u Q I rx ry ⟨_, _, rfl, rfl, q⟩
theorem op_addn : OpR X (binaryOp .Add) (rN0 fun n m => .int ((n + m : Nat) : Int)) := opN0 op_add fun n m => by rw [Int.natCast_add]
theorem op_subn : OpR X (binaryOp .Sub) (rN (fun n m => m ≤ n) fun n m => .int ((n - m : Nat) : Int)) := by
  intro pins s σ H x y v u Q I rx ry q
  obtain ⟨n, m, rfl, rfl, c, q⟩ := q
  have q : Q (V.int ((n - m : Nat) : Int)) H := q
  rw [Int.ofNat_sub c] at q
  exact op_sub pins s σ H _ _ v u Q I rx ry ⟨_, _, rfl, rfl, q⟩
/-- one factor below 2 ^ 64 -/
theorem op_muln : OpR X (binaryOp .Mult) (rN (fun n m => n < 2 ^ 64 ∨ m < 2 ^ 64) fun n m => .int ((n * m : Nat) : Int)) := opN op_mul (fun n m c => by
  have e : (2 : Int) ^ 64 = 18446744073709551616 := by decide
  have e' : (2 : Nat) ^ 64 = 18446744073709551616 := by decide
  unfold CMul
  rw [e]
  rw [e'] at c
  omega) fun n m _ => by rw [Int.natCast_mul]
/-- great factors -/
theorem op_mulnX : OpR X (binaryOp .Mult) (rN (fun n m => ∃ a b, n < 2 ^ a ∧ m < 2 ^ b ∧ a + b ≤ 134217728) fun n m => .int ((n * m : Nat) : Int)) := opN op_mulX (fun n m ⟨a, b, h1, h2, h3⟩ => mulx_ok (by simpa using h1) (by simpa using h2) h3) fun n m _ => by rw [Int.natCast_mul]
theorem op_xorn : OpR X (binaryOp .BitXor) (rN0 fun n m => .int ((n ^^^ m : Nat) : Int)) := opN0 op_xor fun n m => by rw [Bits.bitXor_pp (by omega) (by omega)]; rfl
theorem op_orn : OpR X (binaryOp .BitOr) (rN0 fun n m => .int ((n ||| m : Nat) : Int)) := opN0 op_or fun n m => by rw [Bits.bitOr_pp (by omega) (by omega)]; rfl
theorem op_andn : OpR X (binaryOp .BitAnd) (rN0 fun n m => .int ((n &&& m : Nat) : Int)) := opN0 op_and fun n m => by rw [bitAnd_pp (by omega) (by omega)]; rfl
/-- n << m: n below 2 ^ a, a + m at most 2 ^ 27 -/
theorem op_shln : OpR X (binaryOp .LShift) (rN (fun n m => ∃ a, n < 2 ^ a ∧ a + m ≤ 134217728) fun n m => .int ((n * 2 ^ m : Nat) : Int)) := opN op_shlW (fun n m ⟨a, h1, h2⟩ => shl_ok (by simpa using h1) h2) fun n m _ => by rw [Int.toNat_natCast, Int.natCast_mul, Int.natCast_pow]; rfl
theorem op_shrn : OpR X (binaryOp .RShift) (rN0 fun n m => .int ((n / 2 ^ m : Nat) : Int)) := by
  intro pins s σ H x y v u Q I rx ry q
  obtain ⟨n, m, rfl, rfl, q⟩ := q
  refine op_shr pins s σ H _ _ v u Q I rx ry ⟨_, _, rfl, rfl, Int.natCast_nonneg _, ?_⟩
  have q : Q (V.int ((n / 2 ^ m : Nat) : Int)) H := q
  rw [Int.natCast_ediv, Int.natCast_pow] at q
  show Q (V.int ((n : Int) / 2 ^ (m : Int).toNat)) H
  rw [Int.toNat_natCast]
  exact q
theorem op_modn : OpR X (binaryOp .Mod) (rN (fun _ m => 0 < m) fun n m => .int ((n % m : Nat) : Int)) := opN op_mod (fun n m c => by omega) fun n m _ => by rw [Int.natCast_emod]
theorem op_fdivn : OpR X (binaryOp .FloorDiv) (rN (fun _ m => 0 < m ∧ m < 1073741824) fun n m => .int ((n / m : Nat) : Int)) := opN op_fdiv (fun n m c => ⟨by omega, by omega⟩) fun n m _ => by rw [Int.natCast_ediv]
theorem dec_cast {p q : Prop} [Decidable p] [Decidable q] (h : p ↔ q) : decide p = decide q := decide_eq_decide.mpr h
theorem op_ltn : OpR X (compareOp .Lt) (rN0 fun n m => .bl (decide (n < m))) := opN0 op_lt fun n m => congrArg V.bl (dec_cast (by omega))
theorem op_len : OpR X (compareOp .LtE) (rN0 fun n m => .bl (decide (n ≤ m))) := opN0 op_le fun n m => congrArg V.bl (dec_cast (by omega))
theorem op_gtn : OpR X (compareOp .Gt) (rN0 fun n m => .bl (decide (m < n))) := opN0 op_gt fun n m => congrArg V.bl (dec_cast (by omega))
theorem op_gen : OpR X (compareOp .GtE) (rN0 fun n m => .bl (decide (m ≤ n))) := opN0 op_ge fun n m => congrArg V.bl (dec_cast (by omega))
theorem v_eq {n m : Nat} : (V.int (n : Int) = V.int (m : Int)) ↔ n = m := ⟨fun h => by injection h with h; omega, fun h => by rw [h]⟩
theorem op_eqn : OpR X (compareOp .Eq) (rN0 fun n m => .bl (decide (n = m))) := by
  intro pins s σ H x y v u Q I rx ry q
  obtain ⟨n, m, rfl, rfl, q⟩ := q
  refine op_eq pins s σ H _ _ v u Q I rx ry ⟨rfl, ?_⟩
  rw [dec_cast v_eq]
  exact q
theorem op_nen : OpR X (compareOp .NotEq) (rN0 fun n m => .bl (!decide (n = m))) := by
  intro pins s σ H x y v u Q I rx ry q
  obtain ⟨n, m, rfl, rfl, q⟩ := q
  refine op_ne pins s σ H _ _ v u Q I rx ry ⟨rfl, ?_⟩
  rw [dec_cast v_eq]
  exact q
/-- ints -/
theorem op_eqi : OpR X (compareOp .Eq) (rI0 fun i j => .bl (decide (i = j))) := by
  intro pins s σ H x y v u Q I rx ry q
  obtain ⟨n, m, rfl, rfl, q⟩ := q
  refine op_eq pins s σ H _ _ v u Q I rx ry ⟨rfl, ?_⟩
  rw [dec_cast (q := n = m) ⟨fun h => by injection h, fun h => by rw [h]⟩]
  exact q
theorem op_nei : OpR X (compareOp .NotEq) (rI0 fun i j => .bl (!decide (i = j))) := by
  intro pins s σ H x y v u Q I rx ry q
  obtain ⟨n, m, rfl, rfl, q⟩ := q
  refine op_ne pins s σ H _ _ v u Q I rx ry ⟨rfl, ?_⟩
  rw [dec_cast (q := n = m) ⟨fun h => by injection h, fun h => by rw [h]⟩]
  exact q
theorem call_maxn (hc : X.calm = true) : CallR X (.builtin "max") (fun xs H Q => ∃ n m : Nat, xs = [.int (n : Int), .int (m : Int)] ∧ Q (.int ((max n m : Nat) : Int)) H) := by
  intro pins s σ H xs us Q I r h
  obtain ⟨n, m, rfl, q⟩ := h
  refine call_max2 hc pins s σ H _ us Q I r ⟨_, _, rfl, ?_⟩
  have e : (if (m : Int) > (n : Int) then (m : Int) else (n : Int)) = ((max n m : Nat) : Int) := by
    split <;> omega
  rw [e]
  exact q
theorem call_minn (hc : X.calm = true) : CallR X (.builtin "min") (fun xs H Q => ∃ n m : Nat, xs = [.int (n : Int), .int (m : Int)] ∧ Q (.int ((min n m : Nat) : Int)) H) := by
  intro pins s σ H xs us Q I r h
  obtain ⟨n, m, rfl, q⟩ := h
  refine call_min2 hc pins s σ H _ us Q I r ⟨_, _, rfl, ?_⟩
  have e : (if (m : Int) < (n : Int) then (m : Int) else (n : Int)) = ((min n m : Nat) : Int) := by
    split <;> omega
  rw [e]
  exact q
end
/-- a state's sentence, not to be looked into by the readings -/
@[irreducible] def Hd (p : Prop) : Prop := p
theorem Hd.mk {p : Prop} (h : p) : Hd p := by unfold Hd; exact h
theorem Hd.out {p : Prop} (h : Hd p) : p := by unfold Hd at h; exact h
/-! ### cuts: what holds behind a statement, a test, an expression, once for all its ways -/
section
variable {X : Cx}
def tCut (t : TS) : TS := fun D σ H => ∃ M : L2.St → Hp → Prop, (∀ σ' H', M σ' H' → D.nx σ' H') ∧ t { nx := M, rt := D.rt, bk := D.bk, ct := D.ct } σ H
theorem ps_cut {st : Stmt} {t : TS} (h : PS X st t) : PS X st (tCut t) := ⟨fun pins s σ H D I ⟨M, hM, q⟩ => thn (h.run pins s σ H _ I q) fun f s' z => by
  cases f with
  | next =>
    obtain ⟨σ', H', I', q'⟩ := z
    exact ⟨σ', H', I', hM _ _ q'⟩
  | brk => exact z
  | cont => exact z
  | ret u => exact z⟩
def tCutT (t : TT) : TT := fun σ H Q => ∃ M : Bool → Hp → Prop, (∀ b H', M b H' → Q b H') ∧ t σ H M
theorem pt_cut {e : Expr} {t : TT} (h : PT X e t) : PT X e (tCutT t) := ⟨fun pins s σ H Q I ⟨M, hM, q⟩ => thn (h.run pins s σ H _ I q) fun b s' ⟨H', I', q'⟩ => ⟨H', I', hM _ _ q'⟩⟩
def tCutE (t : TE) : TE := fun σ H Q => ∃ M : V → Hp → Prop, (∀ v H', M v H' → Q v H') ∧ t σ H M
theorem pe_cut {e : Expr} {t : TE} (h : PE X e t) : PE X e (tCutE t) := ⟨fun pins s σ H Q I ⟨M, hM, q⟩ => thn (h.run pins s σ H _ I q) fun u s' ⟨v, H', I', r, q'⟩ => ⟨v, H', I', r, hM _ _ q'⟩⟩
end
/-! ### tests, loops -/
theorem while_m {c : TT} {tb : TS} {D : Ends} {σ : L2.St} {H : Hp} (W : Nat → L2.St → Hp → Prop) (m : Nat) (h0 : W m σ H)
    (hs : ∀ m σ H, W m σ H → c σ H fun b H1 => if b = true then ∃ N : L2.St → Hp → Prop, (∀ σ' H', N σ' H' → ∃ m', m' < m ∧ W m' σ' H') ∧ tb { D with nx := N, ct := N, bk := D.nx } σ H1 else D.nx σ H1) : tWhile c tb D σ H := ⟨W, ⟨m, h0⟩, hs⟩
theorem ifN {c : Prop} [Decidable c] {A B : Prop} (h1 : c → A) (h2 : ¬ c → B) : if decide c = true then A else B := by
  by_cases h : c
  · rw [if_pos (decide_eq_true h)]; exact h1 h
  · rw [if_neg (by rw [decide_eq_false h]; exact Bool.false_ne_true)]; exact h2 h
theorem ifNn {c : Prop} [Decidable c] {A B : Prop} (h1 : ¬ c → A) (h2 : c → B) : if (!decide c) = true then A else B := by
  by_cases h : c
  · rw [if_neg (by rw [decide_eq_true h]; exact Bool.false_ne_true)]; exact h2 h
  · rw [if_pos (by rw [decide_eq_false h]; rfl)]; exact h1 h
theorem ifB {b : Bool} {A B : Prop} (h1 : b = true → A) (h2 : b = false → B) : if b = true then A else B := by
  cases b
  · rw [if_neg Bool.false_ne_true]; exact h2 rfl
  · rw [if_pos rfl]; exact h1 rfl
/-- the plain readings, one behind another -/
local macro_rules | `(tactic| walk_at "rd") => `(tactic| repeat (first
  | (refine ⟨_, rfl, ?_⟩)
  | (refine ⟨_, _, rfl, rfl, ?_⟩)
  | (refine ⟨rfl, ?_⟩)
  | (refine ⟨(by decide : (0 : Int) < _), ?_⟩)
  | (refine ⟨(⟨by decide, by decide⟩ : CDiv _ _), ?_⟩)
  | (refine ⟨(Or.inr ⟨by decide, by decide⟩ : CMul _ _), ?_⟩)
  | (refine ⟨(Or.inl ⟨by decide, by decide⟩ : CMul _ _), ?_⟩)))
/-! ranges from a natural on -/
theorem for_rangeN {n : Nat} {g : TG} {tb : TS} {D : Ends} {σ : L2.St} {H : Hp} (Pv : Nat → L2.St → Hp → Prop) (h0 : Pv 0 σ H)
    (hs : ∀ i σ H, i < n → Pv i σ H → g (.int (i : Int)) σ H fun σ2 H2 => tb { nx := Pv (i + 1), rt := D.rt, bk := D.nx, ct := Pv (i + 1) } σ2 H2) (hd : ∀ σ H, Pv n σ H → D.nx σ H) :
    ∃ W : Nat → Nat → L2.St → Hp → Prop, (∃ m, W 0 m σ H) ∧ ∀ i m σ H, W i m σ H →
      ((Itr 0 n).stop i H ∧ D.nx σ H) ∨ ((Itr 0 n).go i H ∧ ∃ N : L2.St → Hp → Prop, (∀ σ' H', N σ' H' → ∃ m', m' < m ∧ W (i + 1) m' σ' H') ∧ ∀ x H', (Itr 0 n).yld i H x H' → g x σ H' fun σ2 H2 => tb { D with nx := N, ct := N, bk := D.nx } σ2 H2) :=
  for_range (lo := 0) Pv h0 (fun i σ H hi h => by rw [Int.zero_add]; exact hs i σ H hi h) hd
theorem for_rangeM {lo n : Nat} {g : TG} {tb : TS} {D : Ends} {σ : L2.St} {H : Hp} (Pv : Nat → L2.St → Hp → Prop) (h0 : Pv 0 σ H)
    (hs : ∀ i σ H, i < n → Pv i σ H → g (.int ((lo + i : Nat) : Int)) σ H fun σ2 H2 => tb { nx := Pv (i + 1), rt := D.rt, bk := D.nx, ct := Pv (i + 1) } σ2 H2) (hd : ∀ σ H, Pv n σ H → D.nx σ H) :
    ∃ W : Nat → Nat → L2.St → Hp → Prop, (∃ m, W 0 m σ H) ∧ ∀ i m σ H, W i m σ H →
      ((Itr lo n).stop i H ∧ D.nx σ H) ∨ ((Itr lo n).go i H ∧ ∃ N : L2.St → Hp → Prop, (∀ σ' H', N σ' H' → ∃ m', m' < m ∧ W (i + 1) m' σ' H') ∧ ∀ x H', (Itr lo n).yld i H x H' → g x σ H' fun σ2 H2 => tb { D with nx := N, ct := N, bk := D.nx } σ2 H2) :=
  for_range (lo := (lo : Int)) Pv h0 (fun i σ H hi h => by rw [← Int.natCast_add]; exact hs i σ H hi h) hd
theorem lc_rangeN {n : Nat} {g : TG} {tt : TT} {te : TE} {vs : List Nat} {σ : L2.St} {H1 : Hp} {D : Addr} {Qd : Hp → Prop} (Pv : Nat → Hp → Prop) (h0 : Pv 0 (upd H1 D (.lst [])))
    (hs : ∀ i H, i < n → Pv i H → g (.int (i : Int)) (wipe σ vs) H fun σ2 H2 => wipe σ2 vs = wipe σ vs ∧ tt σ2 H2 fun b H3 =>
      if b = true then te σ2 H3 fun y H4 => ∃ acc, H4 D = some (.lst acc) ∧ acc.length < sizeLine ∧ Pv (i + 1) (upd H4 D (.lst (acc ++ [y]))) else Pv (i + 1) H3) (hd : ∀ H, Pv n H → Qd H) :
    ∃ W : Nat → Nat → Hp → Prop, (∃ m, W 0 m (upd H1 D (.lst []))) ∧ ∀ i m H, W i m H →
      ((Itr 0 n).stop i H ∧ Qd H) ∨ ((Itr 0 n).go i H ∧ ∃ Nx : Hp → Prop, (∀ H', Nx H' → ∃ m', m' < m ∧ W (i + 1) m' H') ∧ ∀ x H', (Itr 0 n).yld i H x H' → g x (wipe σ vs) H' fun σ2 H2 => wipe σ2 vs = wipe σ vs ∧ tt σ2 H2 fun b H3 =>
        if b = true then te σ2 H3 fun y H4 => ∃ acc, H4 D = some (.lst acc) ∧ acc.length < sizeLine ∧ Nx (upd H4 D (.lst (acc ++ [y]))) else Nx H3) :=
  lc_range (lo := 0) Pv h0 (fun i H hi h => by rw [Int.zero_add]; exact hs i H hi h) hd
theorem lc_rangeM {lo n : Nat} {g : TG} {tt : TT} {te : TE} {vs : List Nat} {σ : L2.St} {H1 : Hp} {D : Addr} {Qd : Hp → Prop} (Pv : Nat → Hp → Prop) (h0 : Pv 0 (upd H1 D (.lst [])))
    (hs : ∀ i H, i < n → Pv i H → g (.int ((lo + i : Nat) : Int)) (wipe σ vs) H fun σ2 H2 => wipe σ2 vs = wipe σ vs ∧ tt σ2 H2 fun b H3 =>
      if b = true then te σ2 H3 fun y H4 => ∃ acc, H4 D = some (.lst acc) ∧ acc.length < sizeLine ∧ Pv (i + 1) (upd H4 D (.lst (acc ++ [y]))) else Pv (i + 1) H3) (hd : ∀ H, Pv n H → Qd H) :
    ∃ W : Nat → Nat → Hp → Prop, (∃ m, W 0 m (upd H1 D (.lst []))) ∧ ∀ i m H, W i m H →
      ((Itr lo n).stop i H ∧ Qd H) ∨ ((Itr lo n).go i H ∧ ∃ Nx : Hp → Prop, (∀ H', Nx H' → ∃ m', m' < m ∧ W (i + 1) m' H') ∧ ∀ x H', (Itr lo n).yld i H x H' → g x (wipe σ vs) H' fun σ2 H2 => wipe σ2 vs = wipe σ vs ∧ tt σ2 H2 fun b H3 =>
        if b = true then te σ2 H3 fun y H4 => ∃ acc, H4 D = some (.lst acc) ∧ acc.length < sizeLine ∧ Nx (upd H4 D (.lst (acc ++ [y]))) else Nx H3) :=
  lc_range (lo := (lo : Int)) Pv h0 (fun i H hi h => by rw [← Int.natCast_add]; exact hs i H hi h) hd
theorem Same.upd {H : Hp} {p : Addr} {o : HO} (hp : H p = none) : Same H (upd H p o) := fun a u e => by
  rw [upd_ne (ne_of_none e hp)]
  exact e
theorem Same.put {H H' : Hp} {d : Addr} {o : HO} (s : Same H H') (nd : H d = none) : Same H (L2.upd H' d o) := fun b u e => by
  rw [upd_ne (ne_of_none e nd)]
  exact s b u e
theorem ret_dec {p : Prop} [Decidable p] {Q : VK} {H : Hp} (hp : p) (q : Q (.bl true) H) : Q (.bl (decide p)) H := by
  rw [decide_eq_true hp]
  exact q
/-! ### the law's end, with the numbers' bits -/
theorem walk_ofEB {l : PySem.W.OpenLaw} {n k : Nat} {q : Program} {loose : List Str} {XP : (Str → Option Value) → Heap → Prop} {YP : World → Heap → Prop} {d : DefRec} {CX : CXT} {x : Str}
    (hn : l.most = some n) (hn2 : n ≤ sizeLine) (hdf : d.params.defaults = []) (hr : Room k callerA)
    (F : ∀ (w : World) (mg : Str → Option Value) (fa : Addr) (h : Heap), YP w h → h.Ns mainGlobals mg → mg d.name = some (.ref fa) →
      ∃ (K : PySem.W.Frag) (fd : FuncData) (sp : Sp), K.In h ∧ (∀ (s : Shared) (u : Value), BindsTo s fd ⟨[u], []⟩ [(x, u)]) ∧
        (∀ (H : Hp) (a : Addr) (ns : List Int), ns.length ≤ n → (∀ z ∈ ns, Builtin.Int.intBits z ≤ 1048576) → Only H → SqL K H a (ns.map V.int) → sp [.ref a] H (fun v _ => v = .bl true) fun _ _ _ => False) ∧
        ∀ base : Heap, K.In base → base.Ns mainGlobals mg → FnOk l.prog w K mg base CX k fa fd [x] sp)
    (hCX : ∀ (H : Hp) (s : Shared) (e : Value) (s' : Shared), CX [] H s (fun _ _ _ => False) e s' → False) :
    PySem.W.WalkO q loose XP YP l.row.toRowW d [] (fun f vs => PySem.call f vs) := by
  refine Att.attach_callB hn hdf fun w s₀ s₁ mg mb fa o pm cd doc a vs ns G Y ho hd hcd hmg hobj hints hlen hbits hg => ?_
  obtain ⟨K, fd, sp, KX, hb, hsp, hF⟩ := F w mg fa _ Y G.T.g hmg
  exact law_call KX G.T.g G.T.b G.T.builtins G.T.nolimit hg hobj hints (Nat.le_trans hlen hn2) hr hF hb (fun H hO hS => hsp H a ns hlen hbits hO hS) fun H e s' => hCX H s₁ e s'
/-- the law's promise: a list of at most 63 ints, each of at most 2 ^ 20 bits -/
def spLaw (K : PySem.W.Frag) : Sp := fun vs H Q _ => ∃ (a : Addr) (ns : List Int), vs = [.ref a] ∧ SqL K H a (ns.map V.int) ∧ ns.length ≤ 63 ∧ (∀ z ∈ ns, Builtin.Int.intBits z ≤ 1048576) ∧ ∀ H', Q (.bl true) H'
/-- the law's def: what the end asks of it -/
structure LawOk (l : PySem.W.OpenLaw) (w : World) (K : PySem.W.Frag) (mg : Str → Option Value) (k : Nat) (f : Addr) (x : Str) (fd : FuncData) : Prop where
  bind : ∀ (s : Shared) (u : Value), BindsTo s fd ⟨[u], []⟩ [(x, u)]
  run : ∀ base : Heap, K.In base → base.Ns mainGlobals mg → FnOk l.prog w K mg base CX0 k f fd [x] (few [x] (spLaw K))
end N
set_option Elab.async false
set_option linter.all false
set_option maxRecDepth 100000
set_option maxHeartbeats 4000000
/-! Lists of numbers: compared, sorted. -/
namespace N
open PySem PySem.Spec PyProof.Rows L2
/-- a list of naturals as values -/
def NL (ns : List Nat) : List V := ns.map fun n : Nat => V.int (n : Int)
theorem NL_eq (ns : List Nat) : NL ns = (ns.map fun n : Nat => (n : Int)).map V.int := by
  unfold NL
  rw [List.map_map]
  rfl
theorem NL_length (ns : List Nat) : (NL ns).length = ns.length := List.length_map _
theorem eqvAll_ints : ∀ xs ys : List Int, PyData.eqvAll (xs.map PyData.int) (ys.map PyData.int) = decide (xs = ys)
  | [], [] => rfl
  | [], _ :: _ => rfl
  | _ :: _, [] => rfl
  | x :: xs, y :: ys => by
    show (PyData.eqv (.int x) (.int y) && PyData.eqvAll (xs.map PyData.int) (ys.map PyData.int)) = _
    rw [eqvAll_ints xs ys]
    have e : PyData.eqv (.int x) (.int y) = decide (x = y) := by
      show (x == y) = _
      exact Bool.beq_eq_decide_eq x y
    rw [e]
    by_cases c : x = y <;> by_cases c2 : xs = ys <;> simp [c, c2]
theorem eqv_ints (xs ys : List Int) : PyData.eqv (.list (xs.map PyData.int)) (.list (ys.map PyData.int)) = decide (xs = ys) := eqvAll_ints xs ys
theorem dp_ints {K : PySem.W.Frag} {H : Hp} : ∀ xs : List Int, DpAll K H (xs.map V.int) (xs.map PyData.int)
  | [] => .nil
  | x :: xs => .cons (.int x) (dp_ints xs)
theorem cast_inj : ∀ {ns ms : List Nat}, (ns.map fun n : Nat => (n : Int)) = (ms.map fun n : Nat => (n : Int)) ↔ ns = ms
  | ns, ms => by
    constructor
    · intro h
      have h2 := congrArg (List.map Int.toNat) h
      simpa [List.map_map, Function.comp_def] using h2
    · intro h
      rw [h]
section
variable {X : Cx}
/-- two lists of naturals -/
def rEqLN (K : PySem.W.Frag) (f : Bool → Bool) : R2 := fun x y H Q => ∃ (p q : Addr) (ns ms : List Nat), x = .ref p ∧ y = .ref q ∧ SqL K H p (NL ns) ∧ SqL K H q (NL ms) ∧ Q (.bl (f (decide (ns = ms)))) H
theorem op_eqLN (hu : X.A.units + 64 < cLine) : OpR X (compareOp .Eq) (rEqLN X.K id) := by
  intro pins s σ H x y v u Q I rx ry h
  obtain ⟨p, q, ns, ms, rfl, rfl, h1, h2, k⟩ := h
  rw [NL_eq] at h1 h2
  refine op_eqD hu pins s σ H _ _ v u Q I rx ry ⟨_, _, .lst h1 (dp_ints _), .lst h2 (dp_ints _), PySem.W.ke_shaped_ints _, PySem.W.ke_shaped_ints _, ?_⟩
  rw [eqv_ints, decide_eq_decide.mpr cast_inj]
  exact k
theorem op_neLN (hu : X.A.units + 64 < cLine) : OpR X (compareOp .NotEq) (rEqLN X.K not) := by
  intro pins s σ H x y v u Q I rx ry h
  obtain ⟨p, q, ns, ms, rfl, rfl, h1, h2, k⟩ := h
  rw [NL_eq] at h1 h2
  refine op_neD hu pins s σ H _ _ v u Q I rx ry ⟨_, _, .lst h1 (dp_ints _), .lst h2 (dp_ints _), PySem.W.ke_shaped_ints _, PySem.W.ke_shaped_ints _, ?_⟩
  rw [eqv_ints, decide_eq_decide.mpr cast_inj]
  exact k
theorem perm2 {p q x y : Int} (h : [p, q].Perm [x, y]) : (p = x ∧ q = y) ∨ (p = y ∧ q = x) := by
  have hm : p ∈ [x, y] := h.mem_iff.mp (by simp)
  rcases List.mem_cons.mp hm with e | e
  · subst e
    have h2 := h.cons_inv
    exact .inl ⟨rfl, List.perm_singleton.mp h2 |> fun z => by simpa using z⟩
  · have e : p = y := by simpa using e
    subst e
    have h2 := (h.trans (List.Perm.swap _ _ _)).cons_inv
    exact .inr ⟨rfl, List.perm_singleton.mp h2 |> fun z => by simpa using z⟩
/-- sorted([x, y]) of naturals -/
def rSort2 (K : PySem.W.Frag) : List V → Hp → VK → Prop := fun vs H Q => ∃ (a : Addr) (x y : Nat), vs = [V.ref a] ∧ SqL K H a (NL [x, y]) ∧ ∀ p, H p = none → Q (.ref p) (upd H p (.lst (NL [min x y, max x y])))
theorem cr_sort2 : CallR X (.builtin "sorted") (rSort2 X.K) := by
  intro pins s σ H vs us Q I r h
  obtain ⟨a, x, y, rfl, hs, q⟩ := h
  refine cr_sortedI pins s σ H _ us Q I r ⟨a, [(x : Int), (y : Int)], rfl, hs, fun ns' p perm rise np => ?_⟩
  have hl := perm.length_eq
  match ns', hl with
  | [b, c], _ =>
    have le : b ≤ c := by simpa using rise
    have e : ([b, c] : List Int).map V.int = NL [min x y, max x y] := by
      rcases perm2 perm with ⟨rfl, rfl⟩ | ⟨rfl, rfl⟩
      · have h1 : min x y = x := by omega
        have h2 : max x y = y := by omega
        rw [h1, h2]
        rfl
      · have h1 : min x y = y := by omega
        have h2 : max x y = x := by omega
        rw [h1, h2]
        rfl
    rw [e]
    exact q p np
end
end N
set_option Elab.async false
set_option linter.all false
set_option maxRecDepth 100000
set_option maxHeartbeats 4000000
/-! Objects of one of several classes: methods by the class; lists of lists of numbers. -/
namespace N
open PySem PySem.Spec PyProof.Rows L2
section
variable {P : Program} {w : World} {K : PySem.W.Frag} {mg : Str → Option Value} {base : Heap} {CX : CXT} {ι : Type}
/-- a method m of several classes C i: each keeps its promise -/
structure Disp (P : Program) (w : World) (K : PySem.W.Frag) (mg : Str → Option Value) (base : Heap) (CX : CXT) (k : Nat) (m : Str) (C : ι → Addr) (ok : ι → Prop) (ps : List Str) (sp : ι → Sp) : Prop where
  cls : ∀ i, ok i → Cls K (C i)
  run : ∀ i, ok i → ∃ f, Meth K (C i) m f ∧ Dn P w K mg base CX k f ps (sp i)
theorem Disp.mono {j k : Nat} {m : Str} {C : ι → Addr} {ok : ι → Prop} {ps : List Str} {sp : ι → Sp} (D : Disp P w K mg base CX j m C ok ps sp) (h : j ≤ k) : Disp P w K mg base CX k m C ok ps sp :=
  ⟨D.cls, fun i hi => by
    obtain ⟨f, hm, d⟩ := D.run i hi
    exact ⟨f, hm, d.mono h⟩⟩
end
theorem Disp.calm {P : Program} {w : World} {K : PySem.W.Frag} {mg : Str → Option Value} {base : Heap} {ι : Type} {k : Nat} {m : Str} {C : ι → Addr} {ok : ι → Prop} {ps : List Str} {sp : ι → Sp} (D : Disp P w K mg base (L2.CX P w) k m C ok ps sp) : Disp P w K mg base CX0 k m C ok ps (fun i vs H Q _ => sp i vs H Q E0) :=
  ⟨D.cls, fun i hi => by
    obtain ⟨f, hm, d⟩ := D.run i hi
    exact ⟨f, hm, d.calm⟩⟩
section
variable {X : Cx} {CX : CXT} {k : Nat} {ι : Type} {C : ι → Addr} {ok : ι → Prop} {ps : List Str} {sp : ι → Sp} {E : XK} {m : Str} {pos apos : Pos} {e o : Expr} {es : List Expr} {ta : TE} {t : TA}
/-- o.m(..), o an instance of one of the classes -/
def tMF (C : ι → Addr) (ok : ι → Prop) (m : Str) (ps : List Str) (sp : ι → Sp) (E : XK) (ta : TE) (t : TA) : TE := fun σ H Q => ta σ H fun x H1 => ∃ i a dx fs, ok i ∧ x = .ref a ∧ H1 a = some (.ins (C i) dx fs) ∧ fs.lookup m = none ∧
  t σ H1 fun vs H2 => few ps (sp i) (x :: vs) H2 Q E
theorem pe_mf {pl : Sem Bool} (D : Disp X.prog X.w X.K X.mg X.base CX k m C ok ps sp) (hr : Room k X.A) (hx : Passes CX X E) (he : PE X o ta) (ha : PA X (e :: es) t)
    (hst : starEach (e :: es) X.env = (false, eval e X.env) :: starEach es X.env := by rfl) (hpl : (backTo pos (starEach es X.env)).any (·.1) = false := by rfl)
    (ht : eval (.Call (.Attribute o m apos) (e :: es) [] pos) X.env = (do
      let ov ← eval o X.env
      standAt apos.atName
      let (f, first) ← holding [ov] (getMethod ov m pl)
      callWith pos f first (backTo pos (starEach (e :: es) X.env)) (backToKw pos (keywordEach [] X.env))) := by rfl) :
    PE X (.Call (.Attribute o m apos) (e :: es) [] pos) (tMF C ok m ps sp E ta t) := by
  refine ⟨fun pins s σ H Q I h => ?_⟩
  refine PySem.W.methodCall_KW (pl := pl) (thn (he.run pins s σ H _ I h) fun u s1 ⟨x, H1, I1, rx, i, a, dx, fs, hi, ex, ea, l, q⟩ => ?_) ht
  subst ex
  obtain rfl : u = Value.ref a := rx
  obtain ⟨f, hm, d⟩ := D.run i hi
  obtain ⟨fd, F, b, _⟩ := d.ex
  refine getmeth_ok I1 ea (D.cls i hi) hm l ?_
  refine PySem.W.callWith_K (first := [.ref a]) (h₀ := X.base) I.ok.mod.kin hm.kp (thn (ha.run pos pins s1 σ H1 _ I1 q) fun us s2 ⟨vs, H2, I2, r, q2⟩ => ⟨I2.kIn, ?_⟩) hst hpl
  refine run_fn (us := .ref a :: us) (vs := .ref a :: vs) (ds := []) (dvs := []) F hr b .nil hx I2 (.cons rfl r) ?_
  rw [List.append_nil]
  exact q2
/-- o.m() -/
theorem pe_mf0 {pl : Sem Bool} (D : Disp X.prog X.w X.K X.mg X.base CX k m C ok ps sp) (hr : Room k X.A) (hx : Passes CX X E) (he : PE X o ta)
    (ht : eval (.Call (.Attribute o m apos) [] [] pos) X.env = (do
      let ov ← eval o X.env
      standAt apos.atName
      let (f, first) ← holding [ov] (getMethod ov m pl)
      callWith pos f first (backTo pos (starEach [] X.env)) (backToKw pos (keywordEach [] X.env))) := by rfl) :
    PE X (.Call (.Attribute o m apos) [] [] pos) (tMF C ok m ps sp E ta tNil) := by
  refine ⟨fun pins s σ H Q I h => ?_⟩
  refine PySem.W.methodCall_KW (pl := pl) (thn (he.run pins s σ H _ I h) fun u s1 ⟨x, H1, I1, rx, i, a, dx, fs, hi, ex, ea, l, q⟩ => ?_) ht
  subst ex
  obtain rfl : u = Value.ref a := rx
  obtain ⟨f, hm, d⟩ := D.run i hi
  obtain ⟨fd, F, b, _⟩ := d.ex
  refine getmeth_ok I1 ea (D.cls i hi) hm l ?_
  refine PySem.W.callWith_K0 (first := [.ref a]) I1.kIn hm.kp (run_fn (us := [.ref a]) (vs := [.ref a]) (ds := []) (dvs := []) F hr b .nil hx I1 (.cons rfl .nil) ?_)
  rw [List.append_nil]
  exact q
/-- C(..), by its __init__ -/
def tMk (C : Addr) (ps : List Str) (sp : Sp) (E : XK) (t : TA) : TE := fun σ H Q => t σ H fun vs H1 => ∀ x dx, H1 x = none → H1 dx = none → dx ≠ x →
  few ps sp (.ref x :: vs) (upd (upd H1 dx (.own x)) x (.ins C dx [])) (fun v H2 => v = .non ∧ Q (.ref x) H2) E
theorem pe_mk {C f : Addr} {sp : Sp} {x : Str} {p : Pos} (M : Mk X.K C f) (D : Dn X.prog X.w X.K X.mg X.base CX k f ps sp) (hr : Room (k + 1) X.A) (hm : X.mg x = some (.ref C)) (hx : Passes CX X E) (ha : PA X (e :: es) t) (hg : Gl X x := by rfl)
    (hdb : (x == ("__debug__" : Str)) = false := by decide) (he : starEach (e :: es) X.env = (false, eval e X.env) :: starEach es X.env := by rfl) (hpl : (backTo pos (starEach es X.env)).any (·.1) = false := by rfl) :
    PE X (.Call (.Name x p) (e :: es) [] pos) (tMk C ps sp E t) := by
  obtain ⟨fd, F, b, _⟩ := D.ex
  have h := pe_make (p := p) (pos := pos) (ds := []) (dvs := []) M F hr hg hm b .nil hx ha hdb he hpl
  refine ⟨fun pins s σ H Q I q => h.run pins s σ H Q I ?_⟩
  have e2 : tMake C (few ps sp) [] E t = tMk C ps sp E t := by
    funext σ H Q
    unfold tMake tMk
    simp only [List.append_nil]
  rw [e2]
  exact q
theorem pe_mk0 {C f : Addr} {sp : Sp} {x : Str} {p : Pos} (M : Mk X.K C f) (D : Dn X.prog X.w X.K X.mg X.base CX k f ps sp) (hr : Room (k + 1) X.A) (hm : X.mg x = some (.ref C)) (hx : Passes CX X E) (hg : Gl X x := by rfl)
    (hdb : (x == ("__debug__" : Str)) = false := by decide) : PE X (.Call (.Name x p) [] [] pos) (tMk C ps sp E tNil) := by
  obtain ⟨fd, F, b, _⟩ := D.ex
  exact pe_make0 (ds := []) (dvs := []) M F hr hg hm b .nil hx hdb
end
/-! ### the head's facts, with Bools of one's own -/
abbrev AlQ : Type := He.AlD × Bool
def obsQ (n : Nat) (fa : List He.Fa) (fn : List He.DefD) (fx : List (PySem.W.Frag → Bool)) (g : Addr → Option Obj) : AlQ := (He.obsD fa fn (He.frG g (cStatics :: He.asD g n)), fx.all fun f => f (He.frG g (cStatics :: He.asD g n)))
def hookQ (n : Nat) (fa : List He.Fa) (fn : List He.DefD) (fx : List (PySem.W.Frag → Bool)) : PySem.W.Hook where
  α := AlQ
  obs := fun s => obsQ n fa fn fx s.heap.get?
  val := fun _ => (He.valD fn, true)
  says := fun _ h => ∃ K : PySem.W.Frag, K.In h ∧ He.SaysD fa fn K ∧ (fx.all fun f => f K) = true
  of := fun _ _ e => ⟨_, He.frG_in, congrArg (fun z : AlQ => z.1) e, congrArg (fun z : AlQ => z.2) e⟩
  keeps := fun _ _ _ ⟨K, hK, c⟩ k => ⟨K, PySem.W.Frag.In.keeps hK k, c⟩
theorem obsQ_eq {n : Nat} {fa : List He.Fa} {fn : List He.DefD} {fx : List (PySem.W.Frag → Bool)} {g : Addr → Option Obj} {s : Shared} (h : ∀ a, g a = s.heap.get? a) : obsQ n fa fn fx g = (hookQ n fa fn fx).obs s := by
  have e : g = s.heap.get? := funext h
  rw [e] <;> rfl
theorem fx_at {fx : List (PySem.W.Frag → Bool)} {K : PySem.W.Frag} (c : (fx.all fun f => f K) = true) (i : Nat) {f : PySem.W.Frag → Bool} (h : fx[i]? = some f) : f K = true := List.all_eq_true.mp c f (List.mem_of_getElem? h)
/-! ### a def read off a class: C.m(..) -/
def clsfB (C m : Str) (K : PySem.W.Frag) : Bool := PySem.W.readsIn K (He.ga K C) (.type "type") && (He.eqO (PySem.W.specialIn K (.ref (He.ga K C)) "__getattribute__") (some (some (.builtin "type.__getattribute__"))) && (match PySem.W.findCls K (.ref (He.ga K C)) (.type "type") m with
  | some (.val (.ref f)) => decide (f = He.ma K (He.ga K C) m)
  | _ => false))
structure ClsF (K : PySem.W.Frag) (C : Addr) (m : Str) (f : Addr) : Prop where
  rd : ClX.CRead K C (.type "type")
  at_ : PySem.W.findCls K (.ref C) (.type "type") m = some (.val (.ref f))
theorem clsf_ok {K : PySem.W.Frag} {C m : Str} (h : clsfB C m K = true) : ClsF K (He.ga K C) m (He.ma K (He.ga K C) m) := by
  obtain ⟨h1, h⟩ := He.ba h
  obtain ⟨h2, h3⟩ := He.ba h
  refine ⟨⟨h1, He.eqO_ok h2⟩, ?_⟩
  split at h3
  · rename_i f e
    rw [e, of_decide_eq_true h3]
  · cases h3
section
variable {X : Cx} {CX : CXT} {k : Nat} {C f : Addr} {ps : List Str} {sp : Sp} {E : XK} {m : Str} {pos apos : Pos} {e o : Expr} {es : List Expr} {ta : TE} {t : TA}
def tCF (C : Addr) (ps : List Str) (sp : Sp) (E : XK) (ta : TE) (t : TA) : TE := fun σ H Q => ta σ H fun x H1 => x = .ref C ∧ t σ H1 fun vs H2 => few ps sp vs H2 Q E
theorem pe_clsf {pl : Sem Bool} (c : ClsF X.K C m f) (D : Dn X.prog X.w X.K X.mg X.base CX k f ps sp) (hr : Room k X.A) (hx : Passes CX X E) (he : PE X o ta) (ha : PA X (e :: es) t)
    (hst : starEach (e :: es) X.env = (false, eval e X.env) :: starEach es X.env := by rfl) (hpl : (backTo pos (starEach es X.env)).any (·.1) = false := by rfl)
    (ht : eval (.Call (.Attribute o m apos) (e :: es) [] pos) X.env = (do
      let ov ← eval o X.env
      standAt apos.atName
      let (f, first) ← holding [ov] (getMethod ov m pl)
      callWith pos f first (backTo pos (starEach (e :: es) X.env)) (backToKw pos (keywordEach [] X.env))) := by rfl) :
    PE X (.Call (.Attribute o m apos) (e :: es) [] pos) (tCF C ps sp E ta t) := by
  refine ⟨fun pins s σ H Q I h => ?_⟩
  refine PySem.W.methodCall_KW (pl := pl) (thn (he.run pins s σ H _ I h) fun u s1 ⟨x, H1, I1, rx, ex, q⟩ => ?_) ht
  subst ex
  obtain rfl : u = Value.ref C := rx
  obtain ⟨fd, F, b, _⟩ := D.ex
  refine PySem.W.method_cls I1.kIn c.rd.ga (ClX.getcval_ok (v := .ref f) (u := .ref f) I1 c.rd ⟨c.at_, rfl⟩ fun s' I2 => ?_)
  refine PySem.W.callWith_K (first := []) (h₀ := X.base) I2.ok.mod.kin D.kp (thn (ha.run pos pins s' σ H1 _ I2 q) fun us s2 ⟨vs, H2, I3, r, q2⟩ => ⟨I3.kIn, ?_⟩) hst hpl
  refine run_fn (us := us) (vs := vs) (ds := []) (dvs := []) F hr b .nil hx I3 r ?_
  rw [List.append_nil]
  exact q2
end
/-- a comprehension in a comprehension -/
theorem blk_nest {X : Cx} {s : Shared} {H : Hp} {scope1 scope : Scope} {cl : List (Str × Addr)} {C : Addr} {fp : List Addr} {own : List (Str × Nat)} (h : blkC X.N (relS scope1 X.env.scope) scope own = true) :
    BlkOk (X.blk s H scope1 (compEnvC scope1 cl C X.env) fp).N (X.blk s H scope1 (compEnvC scope1 cl C X.env) fp).env.scope scope own := blkOk_by h
theorem inV_NL (x : Nat) (ns : List Nat) : inV (.int (x : Int)) (NL ns) = decide (x ∈ ns) := by
  induction ns with
  | nil => rfl
  | cons n t ih =>
    show (eqV (V.int (n : Int)) (.int (x : Int)) || inV (.int (x : Int)) (NL t)) = _
    rw [ih]
    have e : eqV (V.int (n : Int)) (.int (x : Int)) = decide (n = x) := by
      show ((n : Int) == (x : Int)) = _
      rw [Bool.beq_eq_decide_eq]
      exact decide_eq_decide.mpr (by omega)
    rw [e]
    by_cases c : n = x <;> by_cases c2 : x ∈ t
    · simp [c]
    · simp [c]
    · simp [c2]
    · have c3 : ¬ x = n := fun e => c e.symm
      simp [c, c2, c3]
theorem flat_NL (ns : List Nat) : (NL ns).all flatV = true := by
  unfold NL
  rw [List.all_map]
  exact List.all_eq_true.mpr fun _ _ => rfl
/-! ### isinstance of own classes -/
structure TyC (K : PySem.W.Frag) (C : Addr) : Prop where
  ha : PySem.W.findIn K (.ref C) "__class__" = some (some (.builtin "object.__class__"))
  hn : PySem.W.specialIn K (.builtin "object.__class__") "__get__" = some (some (.builtin "getset_descriptor.__get__"))
  tk : PySem.W.takesIn K (.builtin "object.__class__") = some true
  mr : PySem.W.mroIn K C (.type "object") = some true
def tyB (C : Str) (K : PySem.W.Frag) : Bool := He.eqO (PySem.W.findIn K (.ref (He.ga K C)) "__class__") (some (some (.builtin "object.__class__"))) && (He.eqO (PySem.W.specialIn K (.builtin "object.__class__") "__get__") (some (some (.builtin "getset_descriptor.__get__"))) &&
  (decide (PySem.W.takesIn K (.builtin "object.__class__") = some true) && decide (PySem.W.mroIn K (He.ga K C) (.type "object") = some true)))
theorem tyc_ok {K : PySem.W.Frag} {C : Str} (h : tyB C K = true) : TyC K (He.ga K C) := by
  obtain ⟨h1, h⟩ := He.ba h
  obtain ⟨h2, h⟩ := He.ba h
  obtain ⟨h3, h4⟩ := He.ba h
  exact ⟨He.eqO_ok h1, He.eqO_ok h2, of_decide_eq_true h3, of_decide_eq_true h4⟩
theorem TyC.ty {K : PySem.W.Frag} {C : Addr} (t : TyC K C) (c : Cls K C) {H : Hp} {a dx : Addr} {fs : List (Str × V)} (e : H a = some (.ins C dx fs)) : TyX K H (.ref a) (.ref C) := .base (.ins e c t.ha t.hn t.tk t.mr)
def kitB2 (C D : Str) (b : Bool) (K : PySem.W.Frag) : Bool := decide (PySem.W.kitOne K (.ref (He.ga K C)) (.ref (He.ga K D)) = some b)
/-! ### built-ins whose readings name the part: by names, so that they fit in a block -/
def rListOf (K : PySem.W.Frag) : List V → Hp → VK → Prop := fun xs H Q => ∃ (p : Addr) (ys : List V), xs = [.ref p] ∧ (SqL K H p ys ∨ SqT K H p ys) ∧ ∀ l, H l = none → Q (.ref l) (upd H l (.lst ys))
theorem cr_listof {X : Cx} : CallR X (.type "list") (rListOf X.K) := call_list_of
def rLenSeq (K : PySem.W.Frag) : List V → Hp → VK → Prop := fun xs H Q => ∃ (p : Addr) (ys : List V), xs = [.ref p] ∧ (SqL K H p ys ∨ SqT K H p ys) ∧ Q (.int ys.length) H
theorem cr_lenseq {X : Cx} : CallR X (.builtin "len") (rLenSeq X.K) := call_len_seq
/-! ### one of two ways -/
def iOr (w1 w2 : TI) : TI := fun σ H R => w1 σ H R ∨ w2 σ H R
theorem pi_or {X : Cx} {tg e : Expr} {w1 w2 : TI} (h1 : PI X tg e w1) (h2 : PI X tg e w2) : PI X tg e (iOr w1 w2) := ⟨fun pins s σ H R I h => h.elim (h1.run pins s σ H R I) (h2.run pins s σ H R I)⟩
/-- a list or a tuple -/
def LT (H : Hp) (a : Addr) (xs : List V) : Prop := H a = some (.lst xs) ∨ H a = some (.tup xs)
theorem LT.same {H H' : Hp} {a : Addr} {xs : List V} (h : LT H a xs) (s : Same H H') : LT H' a xs := h.elim (fun e => .inl (s _ _ e)) fun e => .inr (s _ _ e)
theorem for_lt {K : PySem.W.Frag} {a : Addr} {xs : List V} {g : TG} {tb : TS} {D : Ends} {σ : L2.St} {H : Hp} {j : Nat} (hj : σ[j]? = some (some (.ref a))) (lt : LT H a xs) (Pv : Nat → L2.St → Hp → Prop) (h0 : Pv 0 σ H) (hl : ∀ i σ H', i ≤ xs.length → Pv i σ H' → H' a = H a)
    (hs : ∀ i x σ H, xs[i]? = some x → Pv i σ H → g x σ H fun σ2 H2 => tb { D with nx := Pv (i + 1), ct := Pv (i + 1), bk := D.nx } σ2 H2) (hd : ∀ σ H, Pv xs.length σ H → D.nx σ H) :
    tFor (iOr (iList K (tVar j)) (iTup K (tVar j))) g tb D σ H := by
  rcases lt with e | e
  · exact .inl ⟨_, hj, a, rfl, ⟨_, SqL.of e⟩, for_list Pv h0 (fun i σ H' hi p => SqL.of ((hl i σ H' hi p).trans e)) hs hd⟩
  · exact .inr ⟨_, hj, a, rfl, ⟨_, SqT.of e⟩, for_tup Pv h0 (fun i σ H' hi p => SqT.of ((hl i σ H' hi p).trans e)) hs hd⟩
def tOrE (t1 t2 : TE) : TE := fun σ H Q => t1 σ H Q ∨ t2 σ H Q
theorem pe_alt {X : Cx} {e : Expr} {t1 t2 : TE} (h1 : PE X e t1) (h2 : PE X e t2) : PE X e (tOrE t1 t2) := ⟨fun pins s σ H Q I h => h.elim (h1.run pins s σ H Q I) (h2.run pins s σ H Q I)⟩
theorem none_of_same {H H' : Hp} {a : Addr} (s : Same H H') (n : H' a = none) : H a = none := by
  cases e : H a with
  | none => rfl
  | some o => rw [s _ _ e] at n; cases n
/-! ### lists of lists of naturals -/
structure LLs (H : Hp) (p : Addr) (as : List Addr) (xss : List (List Nat)) : Prop where
  top : H p = some (.lst (as.map V.ref))
  len : as.length = xss.length
  nd : (p :: as).Nodup
  row : ∀ (i : Nat) (a : Addr) (xs : List Nat), as[i]? = some a → xss[i]? = some xs → H a = some (.lst (NL xs))
theorem LLs.keep {H H' : Hp} {p : Addr} {as : List Addr} {xss : List (List Nat)} (h : LLs H p as xss) (k : ∀ b o, (b = p ∨ b ∈ as) → H b = some o → H' b = some o) : LLs H' p as xss :=
  ⟨k _ _ (.inl rfl) h.top, h.len, h.nd, fun i a xs e e2 => k _ _ (.inr (List.mem_of_getElem? e)) (h.row i a xs e e2)⟩
theorem LLs.same {H H' : Hp} {p : Addr} {as : List Addr} {xss : List (List Nat)} (h : LLs H p as xss) (s : Same H H') : LLs H' p as xss := h.keep fun b o _ e => s b o e
/-- the i-th row of a list of lists -/
theorem LLs.item {H : Hp} {p : Addr} {as : List Addr} {xss : List (List Nat)} (h : LLs H p as xss) {i : Nat} {v : V} (hi : (as.map V.ref)[i]? = some v) : ∃ a row, as[i]? = some a ∧ xss[i]? = some row ∧ v = .ref a ∧ H a = some (.lst (NL row)) := by
  rw [List.getElem?_map] at hi
  cases e : as[i]? with
  | none =>
    rw [e] at hi
    cases hi
  | some a =>
    rw [e] at hi
    have hil : i < xss.length := by rw [← h.len]; exact (List.getElem?_eq_some_iff.mp e).1
    exact ⟨a, xss[i], rfl, List.getElem?_eq_getElem hil, (Option.some.inj hi).symm, h.row i a _ e (List.getElem?_eq_getElem hil)⟩
theorem LLs.nil {H : Hp} {p : Addr} (h : H p = some (.lst [])) : LLs H p [] [] := ⟨h, rfl, by simp, fun i a xs e => by cases e⟩
/-- one row more, that stands at a -/
theorem LLs.snoc {H : Hp} {p a : Addr} {as : List Addr} {xss : List (List Nat)} {xs : List Nat} (h : LLs H p as xss) (ha : a ∉ p :: as) (hr : H a = some (.lst (NL xs))) : LLs (upd H p (.lst (as.map V.ref ++ [V.ref a]))) p (as ++ [a]) (xss ++ [xs]) := by
  have hpa : a ≠ p := fun e => ha (e ▸ List.mem_cons_self)
  have hpn : p ∉ as := (List.nodup_cons.mp h.nd).1
  refine ⟨by rw [upd_same, List.map_append]; rfl, by rw [List.length_append, List.length_append, h.len]; rfl, ?_, fun i b ys e e2 => ?_⟩
  · rw [← List.cons_append]
    refine List.nodup_append.mpr ⟨h.nd, by simp, fun x hx y hy => ?_⟩
    rw [List.mem_singleton] at hy
    subst hy
    exact fun e => ha (e ▸ hx)
  · by_cases c : i < as.length
    · rw [List.getElem?_append_left c] at e
      rw [List.getElem?_append_left (by rw [← h.len]; exact c)] at e2
      have hb : b ≠ p := fun z => hpn (z ▸ List.mem_of_getElem? e)
      rw [upd_ne hb]
      exact h.row i b ys e e2
    · rw [List.getElem?_append_right (Nat.le_of_not_lt c)] at e
      rw [List.getElem?_append_right (by rw [← h.len]; exact Nat.le_of_not_lt c), ← h.len] at e2
      have e3 : i - as.length = 0 := by
        have := (List.getElem?_eq_some_iff.mp e).1
        simp only [List.length_singleton] at this
        omega
      rw [e3] at e e2
      obtain rfl : a = b := Option.some.inj e
      obtain rfl : xs = ys := Option.some.inj e2
      rw [upd_ne hpa]
      exact hr
/-! == of them -/
def dI (xs : List Nat) : PyData := .list ((xs.map fun n : Nat => (n : Int)).map PyData.int)
def dLL (xss : List (List Nat)) : PyData := .list (xss.map dI)
theorem eqv_dI (xs ys : List Nat) : PyData.eqv (dI xs) (dI ys) = decide (xs = ys) := by
  unfold dI
  rw [eqv_ints, decide_eq_decide.mpr cast_inj]
theorem eqvAll_dI : ∀ xs ys : List (List Nat), PyData.eqvAll (xs.map dI) (ys.map dI) = decide (xs = ys)
  | [], [] => rfl
  | [], _ :: _ => rfl
  | _ :: _, [] => rfl
  | x :: xs, y :: ys => by
    show (PyData.eqv (dI x) (dI y) && PyData.eqvAll (xs.map dI) (ys.map dI)) = _
    rw [eqvAll_dI xs ys, eqv_dI]
    by_cases c : x = y <;> by_cases c2 : xs = ys <;> simp [c, c2]
theorem eqv_dLL (xs ys : List (List Nat)) : PyData.eqv (dLL xs) (dLL ys) = decide (xs = ys) := eqvAll_dI xs ys
theorem can_dI (xs : List Nat) : PyData.canLay0 (dI xs) = true := SeqAt.canLay_of_shaped (PySem.W.ke_shaped_ints _)
theorem can_dIs : ∀ xss : List (List Nat), PyData.canLayAll0 (xss.map dI) = true
  | [] => rfl
  | x :: r => by
    show (PyData.canLay0 (dI x) && PyData.canLayAll0 (r.map dI)) = true
    rw [can_dI, can_dIs r]
    rfl
theorem depth_dI (xs : List Nat) : PyData.depth (dI xs) ≤ 1 := by
  unfold dI
  generalize (xs.map fun n : Nat => (n : Int)) = l
  simp [PyData.depth, PySem.W.ke_depthAll]
theorem depth_dIs : ∀ xss : List (List Nat), PyData.depthAll (xss.map dI) ≤ 1
  | [] => Nat.zero_le _
  | x :: r => by
    have h1 := depth_dI x
    have h2 := depth_dIs r
    simp only [List.map_cons, PyData.depthAll]
    omega
theorem shaped_dLL (xss : List (List Nat)) : SeqAt.shaped (dLL xss) = true := by
  have h1 := can_dIs xss
  have h2 := depth_dIs xss
  unfold dLL SeqAt.shaped
  simp only [PyData.canLay0, PyData.depth, h1, Bool.true_and]
  exact decide_eq_true (by omega)
theorem dp_rows {K : PySem.W.Frag} {H : Hp} : ∀ (as : List Addr) (xss : List (List Nat)), as.length = xss.length → (∀ (i : Nat) (a : Addr) (xs : List Nat), as[i]? = some a → xss[i]? = some xs → H a = some (.lst (NL xs))) → DpAll K H (as.map V.ref) (xss.map dI)
  | [], [], _, _ => .nil
  | a :: as, x :: xss, h, f => by
    have e := f 0 a x rfl rfl
    rw [NL_eq] at e
    exact .cons (.lst (SqL.of e) (dp_ints _)) (dp_rows as xss (Nat.succ.inj h) fun i b ys e1 e2 => f (i + 1) b ys e1 e2)
theorem LLs.dp {K : PySem.W.Frag} {H : Hp} {p : Addr} {as : List Addr} {xss : List (List Nat)} (h : LLs H p as xss) : Dp K H (.ref p) (dLL xss) := .lst (SqL.of h.top) (dp_rows as xss h.len h.row)
section
variable {X : Cx}
def rEqLL (f : Bool → Bool) : R2 := fun x y H Q => ∃ (p q : Addr) (as bs : List Addr) (xss yss : List (List Nat)), x = .ref p ∧ y = .ref q ∧ LLs H p as xss ∧ LLs H q bs yss ∧ Q (.bl (f (decide (xss = yss)))) H
theorem op_eqLL (hu : X.A.units + 64 < cLine) : OpR X (compareOp .Eq) (rEqLL id) := by
  intro pins s σ H x y v u Q I rx ry h
  obtain ⟨p, q, as, bs, xss, yss, rfl, rfl, h1, h2, k⟩ := h
  refine op_eqD hu pins s σ H _ _ v u Q I rx ry ⟨_, _, h1.dp, h2.dp, shaped_dLL _, shaped_dLL _, ?_⟩
  rw [eqv_dLL]
  exact k
theorem op_neLL (hu : X.A.units + 64 < cLine) : OpR X (compareOp .NotEq) (rEqLL not) := by
  intro pins s σ H x y v u Q I rx ry h
  obtain ⟨p, q, as, bs, xss, yss, rfl, rfl, h1, h2, k⟩ := h
  refine op_neD hu pins s σ H _ _ v u Q I rx ry ⟨_, _, h1.dp, h2.dp, shaped_dLL _, shaped_dLL _, ?_⟩
  rw [eqv_dLL]
  exact k
end
/-! a new list of new lists, as it is made -/
structure Bld (H0 H : Hp) (D : Addr) (as : List Addr) (xss : List (List Nat)) : Prop where
  ll : LLs H D as xss
  same : Same H0 H
  nD : H0 D = none
  nas : ∀ a ∈ as, H0 a = none
theorem Bld.nil {H0 H : Hp} {D : Addr} (s : Same H0 H) (n : H D = none) : Bld H0 (upd H D (.lst [])) D [] [] := ⟨.nil upd_same, s.trans (Same.upd n), s.free n, fun a h => by cases h⟩
/-- what stood stands on -/
theorem Bld.same' {H0 H H' : Hp} {D : Addr} {as : List Addr} {xss : List (List Nat)} (b : Bld H0 H D as xss) (s : Same H H') : Bld H0 H' D as xss := ⟨b.ll.same s, b.same.trans s, b.nD, b.nas⟩
/-- from H to H' nothing that stood is changed, and a row stands at the new a -/
theorem Bld.snoc {H0 H H' : Hp} {D a : Addr} {as : List Addr} {xss : List (List Nat)} {xs : List Nat} (b : Bld H0 H D as xss) (s : Same H H') (na : H a = none) (ha : H' a = some (.lst (NL xs))) : Bld H0 (upd H' D (.lst (as.map V.ref ++ [V.ref a]))) D (as ++ [a]) (xss ++ [xs]) := by
  have hm : a ∉ D :: as := fun h => by
    rcases List.mem_cons.mp h with e | h
    · have := b.ll.top
      rw [← e, na] at this
      cases this
    · obtain ⟨i, hi, e⟩ := List.getElem_of_mem h
      have e2 : as[i]? = some a := by rw [List.getElem?_eq_getElem hi, e]
      have hx : i < xss.length := by rw [← b.ll.len]; exact hi
      have := b.ll.row i a _ e2 (List.getElem?_eq_getElem hx)
      rw [na] at this
      cases this
  refine ⟨(b.ll.same s).snoc hm ha, N.Same.put (b.same.trans s) b.nD, b.nD, fun c hc => ?_⟩
  rcases List.mem_append.mp hc with hc | hc
  · exact b.nas c hc
  · rw [List.mem_singleton] at hc
    rw [hc]
    exact b.same.free na
theorem Bld.app {H0 H H' : Hp} {D L : Addr} {as cs : List Addr} {xss yss : List (List Nat)} (b : Bld H0 H D as xss) (s : Same H H') (ll : LLs H' L cs yss) (nc : ∀ c ∈ cs, H c = none) : Bld H0 (upd H' D (.lst (as.map V.ref ++ cs.map V.ref))) D (as ++ cs) (xss ++ yss) := by
  have old : ∀ a, a ∈ D :: as → ∃ o, H a = some o := fun a ha => by
    rcases List.mem_cons.mp ha with e | ha
    · exact ⟨_, e ▸ b.ll.top⟩
    · obtain ⟨i, hi, e⟩ := List.getElem_of_mem ha
      have e2 : as[i]? = some a := by rw [List.getElem?_eq_getElem hi, e]
      exact ⟨_, b.ll.row i a _ e2 (List.getElem?_eq_getElem (by rw [← b.ll.len]; exact hi))⟩
  have dis : ∀ c ∈ cs, c ∉ D :: as := fun c hc h => by
    obtain ⟨o, e⟩ := old c h
    rw [nc c hc] at e
    cases e
  have hD : D ∉ as := (List.nodup_cons.mp b.ll.nd).1
  refine ⟨⟨by rw [upd_same, List.map_append], by rw [List.length_append, List.length_append, b.ll.len, ll.len], ?_, fun i a xs e e2 => ?_⟩, N.Same.put (b.same.trans s) b.nD, b.nD, fun c hc => ?_⟩
  · rw [← List.cons_append]
    exact List.nodup_append.mpr ⟨b.ll.nd, (List.nodup_cons.mp ll.nd).2, fun x hx y hy e => dis y hy (e ▸ hx)⟩
  · by_cases c : i < as.length
    · rw [List.getElem?_append_left c] at e
      rw [List.getElem?_append_left (by rw [← b.ll.len]; exact c)] at e2
      rw [upd_ne (fun z : a = D => hD (z ▸ List.mem_of_getElem? e))]
      exact s _ _ (b.ll.row i a xs e e2)
    · rw [List.getElem?_append_right (Nat.le_of_not_lt c)] at e
      rw [List.getElem?_append_right (by rw [← b.ll.len]; exact Nat.le_of_not_lt c), ← b.ll.len] at e2
      rw [upd_ne (fun z : a = D => dis a (List.mem_of_getElem? e) (z ▸ List.mem_cons_self))]
      exact ll.row _ a xs e e2
  · rcases List.mem_append.mp hc with hc | hc
    · exact b.nas c hc
    · exact b.same.free (nc c hc)
/-- from earlier on -/
theorem Bld.since {H0 H H' : Hp} {D : Addr} {as : List Addr} {xss : List (List Nat)} (b : Bld H H' D as xss) (s : Same H0 H) : Bld H0 H' D as xss := ⟨b.ll, s.trans b.same, none_of_same s b.nD, fun a ha => none_of_same s (b.nas a ha)⟩
/-- two such lists, put together: a new one -/
theorem Bld.cat {H0 H H2 : Hp} {D E p : Addr} {as bs : List Addr} {xss yss : List (List Nat)} (b1 : Bld H0 H D as xss) (b2 : Bld H H2 E bs yss) (np : H2 p = none) : Bld H0 (upd H2 p (.lst (as.map V.ref ++ bs.map V.ref))) p (as ++ bs) (xss ++ yss) := by
  have old : ∀ a ∈ as, ∃ o, H a = some o := fun a ha => by
    obtain ⟨i, hi, e⟩ := List.getElem_of_mem ha
    have e2 : as[i]? = some a := by rw [List.getElem?_eq_getElem hi, e]
    exact ⟨_, b1.ll.row i a _ e2 (List.getElem?_eq_getElem (by rw [← b1.ll.len]; exact hi))⟩
  have new : ∀ a ∈ bs, ∃ o, H2 a = some o := fun a ha => by
    obtain ⟨i, hi, e⟩ := List.getElem_of_mem ha
    have e2 : bs[i]? = some a := by rw [List.getElem?_eq_getElem hi, e]
    exact ⟨_, b2.ll.row i a _ e2 (List.getElem?_eq_getElem (by rw [← b2.ll.len]; exact hi))⟩
  have dis : ∀ c ∈ bs, c ∉ as := fun c hc h => by
    obtain ⟨o, e⟩ := old c h
    rw [b2.nas c hc] at e
    cases e
  have p1 : p ∉ as := fun h => by
    obtain ⟨o, e⟩ := old p h
    rw [b2.same _ _ e] at np
    cases np
  have p2 : p ∉ bs := fun h => by
    obtain ⟨o, e⟩ := new p h
    rw [e] at np
    cases np
  have sm := b1.same.trans b2.same
  refine ⟨⟨by rw [upd_same, List.map_append], by rw [List.length_append, List.length_append, b1.ll.len, b2.ll.len], ?_, fun i a xs e e2 => ?_⟩, sm.trans (Same.upd np), none_of_same sm np, fun c hc => ?_⟩
  · refine List.nodup_cons.mpr ⟨fun h => (List.mem_append.mp h).elim p1 p2, ?_⟩
    exact List.nodup_append.mpr ⟨(List.nodup_cons.mp b1.ll.nd).2, (List.nodup_cons.mp b2.ll.nd).2, fun x hx y hy e => dis y hy (e ▸ hx)⟩
  · by_cases c : i < as.length
    · rw [List.getElem?_append_left c] at e
      rw [List.getElem?_append_left (by rw [← b1.ll.len]; exact c)] at e2
      rw [upd_ne (fun z : a = p => p1 (z ▸ List.mem_of_getElem? e))]
      exact b2.same _ _ (b1.ll.row i a xs e e2)
    · rw [List.getElem?_append_right (Nat.le_of_not_lt c)] at e
      rw [List.getElem?_append_right (by rw [← b1.ll.len]; exact Nat.le_of_not_lt c), ← b1.ll.len] at e2
      rw [upd_ne (fun z : a = p => p2 (z ▸ List.mem_of_getElem? e))]
      exact b2.ll.row _ a xs e e2
  · rcases List.mem_append.mp hc with hc | hc
    · exact b1.nas c hc
    · exact none_of_same b1.same (b2.nas c hc)
end N
set_option Elab.async false
set_option linter.all false
set_option maxRecDepth 100000
set_option maxHeartbeats 4000000
/-! Lists of texts. -/
namespace N
open PySem PySem.Spec PyProof.Rows L2
def SL (xs : List Str) : List V := xs.map V.str
theorem SL_length (xs : List Str) : (SL xs).length = xs.length := List.length_map _
theorem SL_snoc (xs : List Str) (x : Str) : SL (xs ++ [x]) = SL xs ++ [V.str x] := List.map_append
theorem eqvAll_strs : ∀ xs ys : List Str, PyData.eqvAll (xs.map PyData.str) (ys.map PyData.str) = decide (xs = ys)
  | [], [] => rfl
  | [], _ :: _ => rfl
  | _ :: _, [] => rfl
  | x :: xs, y :: ys => by
    show (PyData.eqv (.str x) (.str y) && PyData.eqvAll (xs.map PyData.str) (ys.map PyData.str)) = _
    rw [eqvAll_strs xs ys]
    have e : PyData.eqv (.str x) (.str y) = decide (x = y) := by
      show (x == y) = _
      exact Bool.beq_eq_decide_eq x y
    rw [e]
    by_cases c : x = y <;> by_cases c2 : xs = ys <;> simp [c, c2]
theorem eqv_strs (xs ys : List Str) : PyData.eqv (.list (xs.map PyData.str)) (.list (ys.map PyData.str)) = decide (xs = ys) := eqvAll_strs xs ys
theorem dp_strs {K : PySem.W.Frag} {H : Hp} : ∀ xs : List Str, DpAll K H (SL xs) (xs.map PyData.str)
  | [] => .nil
  | x :: xs => .cons (.str x) (dp_strs xs)
theorem can_strs : ∀ xs : List Str, (∀ x ∈ xs, PyData.strOk x = true) → PyData.canLayAll0 (xs.map PyData.str) = true
  | [], _ => rfl
  | x :: r, h => by
    show (PyData.strOk x && PyData.canLayAll0 (r.map PyData.str)) = true
    rw [h x List.mem_cons_self, can_strs r fun y hy => h y (List.mem_cons_of_mem _ hy)]
    rfl
theorem depth_strs : ∀ xs : List Str, PyData.depthAll (xs.map PyData.str) = 0
  | [] => rfl
  | x :: r => by simp [PyData.depthAll, PyData.depth, depth_strs r]
theorem shaped_strs {xs : List Str} (h : ∀ x ∈ xs, PyData.strOk x = true) : SeqAt.shaped (.list (xs.map PyData.str)) = true := by
  simp [SeqAt.shaped, PyData.canLay0, PyData.depth, can_strs xs h, depth_strs xs]
/-- a text's signs are signs -/
def SOk (x : Str) : Prop := ∀ c ∈ TL.tl x, c < 1114112
theorem SOk.ok {x : Str} (h : SOk x) : PyData.strOk x = true := by
  unfold PyData.strOk
  rw [← Array.all_toList]
  exact List.all_eq_true.mpr fun c hc => decide_eq_true (h c hc)
theorem SOk.app {x y : Str} (h : SOk x) (h2 : SOk y) : SOk (x ++ y) := fun c hc => by
  rw [TL.tl_append] at hc
  exact (List.mem_append.mp hc).elim (h c) (h2 c)
theorem SOk.num (n : Nat) : SOk (Str.ofString (toString ((n : Nat) : Int))) := fun c hc => by
  rw [TL.tl_num] at hc
  have := fun s (h : s < 48 ∨ 57 < s) (e : c = s) => TL.numL_free (n := n) h (e ▸ hc)
  by_cases h : c < 48 ∨ 57 < c
  · exact absurd rfl (this c h)
  · omega
theorem SOk.of {x : Str} (h : PyData.strOk x = true) : SOk x := fun c hc => by
  unfold PyData.strOk at h
  rw [← Array.all_toList] at h
  exact of_decide_eq_true (List.all_eq_true.mp h c hc)
theorem SOk.join {y : Str} (hy : SOk y) {xs : List Str} (h : ∀ x ∈ xs, SOk x) : SOk (Txt.join y xs) := by
  rw [TL.join_eq]
  have e : ∀ c ∈ TL.joinL (TL.tl y) (xs.map TL.tl), c < 1114112 := by
    induction xs with
    | nil => intro c hc; cases hc
    | cons x r ih =>
      intro c hc
      cases r with
      | nil =>
        exact h x List.mem_cons_self c (by simpa [TL.joinL] using hc)
      | cons z t =>
        have hc : c ∈ TL.tl x ++ (TL.tl y ++ TL.joinL (TL.tl y) ((z :: t).map TL.tl)) := by simpa [TL.joinL] using hc
        rcases List.mem_append.mp hc with hc | hc
        · exact h x List.mem_cons_self c hc
        · rcases List.mem_append.mp hc with hc | hc
          · exact hy c hc
          · exact ih (fun w hw => h w (List.mem_cons_of_mem _ hw)) c hc
  intro c hc
  rw [TL.tl_join] at hc
  exact e c hc
theorem tl_rjust (x : Str) (i : Nat) : TL.tl (Txt.rjust x (i : Int)) = List.replicate (i - x.length) 32 ++ TL.tl x := by
  unfold Txt.rjust TL.tl
  split
  · rename_i c
    rw [show i - x.length = 0 by omega]
    rfl
  · rw [padded_list, Int.toNat_natCast]
    simp
theorem SOk.rjust {x : Str} (h : SOk x) (i : Nat) : SOk (Txt.rjust x (i : Int)) := fun c hc => by
  rw [tl_rjust] at hc
  rcases List.mem_append.mp hc with hc | hc
  · have := (List.mem_replicate.mp hc).2
    omega
  · exact h c hc
theorem rjust_len (x : Str) (i : Nat) : (Txt.rjust x (i : Int)).length = max i x.length := by
  rw [TL.len_tl, tl_rjust, List.length_append, List.length_replicate, ← TL.len_tl]
  omega
section
variable {X : Cx}
def rEqLS (K : PySem.W.Frag) (f : Bool → Bool) : R2 := fun x y H Q => ∃ (p q : Addr) (ns ms : List Str), x = .ref p ∧ y = .ref q ∧ SqL K H p (SL ns) ∧ SqL K H q (SL ms) ∧ (∀ z ∈ ns, SOk z) ∧ (∀ z ∈ ms, SOk z) ∧ Q (.bl (f (decide (ns = ms)))) H
theorem op_eqLS (hu : X.A.units + 64 < cLine) : OpR X (compareOp .Eq) (rEqLS X.K id) := by
  intro pins s σ H x y v u Q I rx ry h
  obtain ⟨p, q, ns, ms, rfl, rfl, h1, h2, l1, l2, k⟩ := h
  refine op_eqD hu pins s σ H _ _ v u Q I rx ry ⟨_, _, .lst h1 (dp_strs _), .lst h2 (dp_strs _), shaped_strs fun x hx => (l1 x hx).ok, shaped_strs fun x hx => (l2 x hx).ok, ?_⟩
  rw [eqv_strs]
  exact k
theorem op_neLS (hu : X.A.units + 64 < cLine) : OpR X (compareOp .NotEq) (rEqLS X.K not) := by
  intro pins s σ H x y v u Q I rx ry h
  obtain ⟨p, q, ns, ms, rfl, rfl, h1, h2, l1, l2, k⟩ := h
  refine op_neD hu pins s σ H _ _ v u Q I rx ry ⟨_, _, .lst h1 (dp_strs _), .lst h2 (dp_strs _), shaped_strs fun x hx => (l1 x hx).ok, shaped_strs fun x hx => (l2 x hx).ok, ?_⟩
  rw [eqv_strs]
  exact k
end
end N
namespace N
open PySem PySem.Spec PyProof.Rows L2
theorem tl_zfill {x : Str} (h : ∀ c, (TL.tl x)[0]? = some c → c ≠ 43 ∧ c ≠ 45) (i : Nat) : TL.tl (Txt.zfill x (i : Int)) = List.replicate (i - x.length) 48 ++ TL.tl x := by
  unfold Txt.zfill
  split
  · rename_i c
    rw [show i - x.length = 0 by omega]
    rfl
  · unfold zfilled
    split
    · rename_i c
      have := h 43 (by rw [← c]; simp [TL.tl])
      omega
    · rename_i c
      have := h 45 (by rw [← c]; simp [TL.tl])
      omega
    · refine (padded_list _ _ _ _).trans ?_
      rw [Int.toNat_natCast]
      simp
theorem num_head (n : Nat) : ∀ c, (TL.tl (Str.ofString (toString ((n : Nat) : Int))))[0]? = some c → c ≠ 43 ∧ c ≠ 45 := fun c hc => by
  rw [TL.tl_num] at hc
  have hm := List.mem_of_getElem? hc
  exact ⟨fun e => TL.numL_free (n := n) (s := 43) (by omega) (e ▸ hm), fun e => TL.numL_free (n := n) (s := 45) (by omega) (e ▸ hm)⟩
theorem zfill_num (n i : Nat) : TL.tl (Txt.zfill (Str.ofString (toString ((n : Nat) : Int))) (i : Int)) = List.replicate (i - (Str.ofString (toString ((n : Nat) : Int))).length) 48 ++ TL.tl (Str.ofString (toString ((n : Nat) : Int))) := tl_zfill (num_head n) i
theorem SOk.zfill (n i : Nat) : SOk (Txt.zfill (Str.ofString (toString ((n : Nat) : Int))) (i : Int)) := fun c hc => by
  rw [zfill_num] at hc
  rcases List.mem_append.mp hc with hc | hc
  · have := (List.mem_replicate.mp hc).2
    omega
  · exact SOk.num n c hc
theorem zfill_len (n i : Nat) : (Txt.zfill (Str.ofString (toString ((n : Nat) : Int))) (i : Int)).length = max i (Str.ofString (toString ((n : Nat) : Int))).length := by
  rw [TL.len_tl, zfill_num, List.length_append, List.length_replicate, ← TL.len_tl]
  omega
/-- so many signs ahead -/
def ahead (c : Nat) : Nat → Str → Str
  | 0, x => x
  | n + 1, x => ahead c n ((⟨#[c]⟩ : Str) ++ x)
theorem tl_ahead (c : Nat) : ∀ (n : Nat) (x : Str), TL.tl (ahead c n x) = List.replicate n c ++ TL.tl x
  | 0, x => rfl
  | n + 1, x => by
    unfold ahead
    rw [tl_ahead c n, TL.tl_append, List.replicate_succ', List.append_assoc]
end N
set_option Elab.async false
set_option linter.all false
set_option maxRecDepth 100000
set_option maxHeartbeats 4000000
/-! isinstance of what has been caught; a text so many times; a module's tuple of texts. -/
namespace N
open PySem PySem.Spec PyProof.Rows L2
def excB (C : Str) (K : PySem.W.Frag) : Bool :=
  He.eqO (PySem.W.findIn K (.ref (He.ga K C)) "__getattribute__") (some (some (.builtin "BaseException.__getattribute__"))) && (He.eqO (PySem.W.findIn K (.ref (He.ga K C)) "__getattr__") (some none) &&
  (decide (PySem.W.subIn K (.ref (He.ga K C)) (.type "BaseException") = some true) && (PySem.W.hasDictIn K (He.ga K C) && (He.eqO (PySem.W.findIn K (.ref (He.ga K C)) "__class__") (some (some (.builtin "object.__class__"))) &&
  (He.eqO (PySem.W.specialIn K (.builtin "object.__class__") "__get__") (some (some (.builtin "getset_descriptor.__get__"))) && (decide (PySem.W.takesIn K (.builtin "object.__class__") = some true) && decide (PySem.W.mroIn K (He.ga K C) (.type "object") = some true)))))))
theorem exc_c {K : PySem.W.Frag} {C : Str} (h : excB C K = true) : ExcC K (He.ga K C) := by
  obtain ⟨h1, h⟩ := He.ba h
  obtain ⟨h2, h⟩ := He.ba h
  obtain ⟨h3, h⟩ := He.ba h
  obtain ⟨h4, h⟩ := He.ba h
  obtain ⟨h5, h⟩ := He.ba h
  obtain ⟨h6, h⟩ := He.ba h
  obtain ⟨h7, h8⟩ := He.ba h
  exact ⟨He.eqO_ok h1, He.eqO_ok h2, of_decide_eq_true h3, h4, He.eqO_ok h5, He.eqO_ok h6, of_decide_eq_true h7, of_decide_eq_true h8⟩
def kitBT (C : Str) (D : String) (b : Bool) (K : PySem.W.Frag) : Bool := decide (PySem.W.kitOne K (.ref (He.ga K C)) (.type D) = some b)
/-- isinstance(e, c), e what the suite holds -/
def rIsE1 (K : PySem.W.Frag) (cls : Value) (d : Option Addr) (a : Addr) : List V → Hp → VK → Prop := fun xs H Q => ∃ (c : V) (cv : Value) (D : Addr) (b : Bool), xs = [.ref a, c] ∧ ClsV c cv ∧ cls = .ref D ∧ d = none ∧ ExcC K D ∧ PySem.W.kitOne K (.ref D) cv = some b ∧ Q (.bl b) H
def rIsET (K : PySem.W.Frag) (cls : Value) (d : Option Addr) (a : Addr) : List V → Hp → VK → Prop := fun xs H Q => ∃ (tp : Addr) (cs : List V) (us : List Value) (D : Addr) (b : Bool), xs = [.ref a, .ref tp] ∧ H tp = some (.tup cs) ∧ Paired ClsV cs us ∧ cls = .ref D ∧ d = none ∧ ExcC K D ∧ PySem.W.kitAny K (.ref D) us = some b ∧ Q (.bl b) H
section
variable {X : Cx} {a : Addr} {cls : Value} {d : Option Addr} {oe : Obj} {pn : List (Addr × Obj)}
theorem call_isE1 (hz : Zc cls d oe) (hf : ∃ vs, oe.data = .fields vs) : CallR (X.suite a ((a, oe) :: pn)) (.builtin "isinstance") (rIsE1 X.K cls d a) := by
  intro pins s σ H xs us Q I r h
  obtain ⟨c, cv, D, b, rfl, k, rfl, rfl, C, e, q⟩ := h
  exact call_isE C hz hf pins s σ H _ us Q I r ⟨c, cv, b, rfl, fun u ru => (k.eq ru), e, q⟩
theorem call_isET (hz : Zc cls d oe) (hf : ∃ vs, oe.data = .fields vs) : CallR (X.suite a ((a, oe) :: pn)) (.builtin "isinstance") (rIsET X.K cls d a) := by
  intro pins s σ H xs us Q I r h
  obtain ⟨tp, cs, ws, D, b, rfl, hT, k, rfl, rfl, C, e, q⟩ := h
  obtain ⟨u1, u2, rfl, r1, r2⟩ := vals2 r
  cases r1
  cases (show u2 = Value.ref tp from r2)
  obtain ⟨_, its, rv, o, h1, h2, n, h3⟩ := (show ObjOk X.prog X.w H s.heap tp (.tup cs) from I.hok tp _ hT)
  have e3 := ClsV.all k rv
  subst e3
  obtain ⟨oc, od, dt, sl⟩ := o
  simp only at h2 h3
  subst h2 h3
  obtain ⟨hget, _⟩ := I.pin (a, oe) (List.mem_append.mpr (.inl List.mem_cons_self))
  obtain ⟨vs, hv⟩ := hf
  have J : PySem.W.InstAt s.heap a oe D none := by
    obtain ⟨oc, od, oda, osl⟩ := oe
    obtain ⟨h1, h2⟩ := hz
    dsimp only at h1 h2 hv
    subst h1 h2 hv
    exact ⟨hget, rfl, rfl, trivial⟩
  exact PySem.W.kia_tup (PySem.W.handS_kitx_exc C.hg C.hk C.hs C.hd C.ha C.hn C.ht C.hm) I.kIn J h1 e (fun z => nomatch z) fun tk => ⟨.bl b, H, I.kept (t' := tk) fun _ _ z => z, rfl, q⟩
end
/-! a text so many times -/
theorem op_mul_str {X : Cx} : OpR X (binaryOp .Mult) (fun x y H Q => ∃ (a : Str) (n : Int), x = .str a ∧ y = .int n ∧ MulOk a n ∧ Q (.str (Txt.mul a n)) H) := by
  intro pins s σ H x y v u Q I rx ry h
  obtain ⟨a, n, rfl, rfl, ok, q⟩ := h
  obtain ⟨t, rfl⟩ := rx
  obtain ⟨t', rfl⟩ := ry
  exact SB.mul ok fun t' k => ⟨.str (Txt.mul a n), H, I.kept (t' := k) fun _ _ z => z, ⟨t', rfl⟩, q⟩
theorem tl_mul (x : Str) (n : Nat) : TL.tl (Txt.mul x (n : Int)) = (List.replicate n (TL.tl x)).flatten := by
  have fold : ∀ (m : Nat) (acc : Array Nat), ((List.replicate m x.cps).foldl (· ++ ·) acc).toList = acc.toList ++ (List.replicate m (TL.tl x)).flatten := fun m => by
    induction m with
    | zero => intro acc; simp
    | succ m ih =>
      intro acc
      rw [List.replicate_succ, List.foldl_cons, ih, List.replicate_succ, List.flatten_cons, Array.toList_append, List.append_assoc]
  unfold Txt.mul
  split
  · rename_i c
    have : n = 0 := by omega
    rw [this]
    rfl
  · rename_i c
    split
    · rename_i c2
      rw [Bool.or_eq_true] at c2
      rcases c2 with c2 | c2
      · have : n = 1 := by
          have := of_decide_eq_true (by simpa using c2)
          omega
        rw [this]
        simp
      · have e : TL.tl x = [] := (TL.len0_tl x).mp (by simpa using c2)
        rw [e]
        simp
    · rw [Int.toNat_natCast]
      exact (fold n #[]).trans (List.nil_append _)
/-- one sign so many times -/
theorem tl_mul1 (c : Nat) (n : Nat) : TL.tl (Txt.mul ⟨#[c]⟩ (n : Int)) = List.replicate n c := by
  rw [tl_mul]
  have e : TL.tl ⟨#[c]⟩ = [c] := rfl
  rw [e]
  induction n with
  | zero => rfl
  | succ n ih => rw [List.replicate_succ, List.flatten_cons, ih]; rfl
theorem mul_ok {x : Str} {n : Nat} (hx : x.length ≤ 1000) (hn : n ≤ 1000) : MulOk x (n : Int) := by
  have e : (2 : Int) ^ 63 = 9223372036854775808 := by decide
  refine ⟨?_, fun h1 _ => ?_, fun h1 _ => ?_⟩
  · rw [e, Bool.or_eq_false_iff]
    exact ⟨decide_eq_false (by omega), decide_eq_false (by omega)⟩
  · rw [e]
    have : (1000 : Int) ≤ (9223372036854775808 - 1) / (n : Int) := (Int.le_ediv_iff_mul_le (by omega)).mpr (by omega)
    omega
  · unfold Builtin.Str.tooLong
    rw [Int.toNat_natCast]
    refine decide_eq_false ?_
    rw [sizeLine_eq]
    have : x.length * n ≤ 1000 * 1000 := Nat.mul_le_mul hx hn
    omega
/-! a module's tuple of texts -/
def strsOf : List Value → Option (List Str)
  | [] => some []
  | .str z _ :: r => (strsOf r).map (z :: ·)
  | _ => none
def tupB (x : Str) (zs : List Str) (K : PySem.W.Frag) : Bool := match K.lookup (He.ga K x) with
  | some o => decide (o.cls = .type "tuple") && (match o.data with
    | .seq its _ => decide (its.size ≤ 1000) && decide (strsOf its.toList = some zs)
    | _ => false)
  | none => false
theorem strs_vals : ∀ {its : List Value} {zs : List Str}, strsOf its = some zs → Vals (SL zs) its
  | [], zs, h => by
    obtain rfl : [] = zs := Option.some.inj h
    exact .nil
  | v :: r, zs, h => by
    cases v <;> first | (cases h; done) | skip
    rename_i z t
    have h : (strsOf r).map (z :: ·) = some zs := h
    cases e : strsOf r with
    | none => rw [e] at h; cases h
    | some ys =>
      rw [e] at h
      obtain rfl : z :: ys = zs := Option.some.inj h
      exact .cons ⟨t, rfl⟩ (strs_vals e)
def TupS (K : PySem.W.Frag) (x : Str) (zs : List Str) : Prop := ∀ H, SqT K H (He.ga K x) (SL zs)
theorem tup_ok {K : PySem.W.Frag} {x : Str} {zs : List Str} (h : tupB x zs K = true) : TupS K x zs := by
  intro H
  unfold tupB at h
  split at h
  · rename_i o lk
    obtain ⟨h1, h2⟩ := He.ba h
    split at h2
    · rename_i its n ed
      obtain ⟨h3, h4⟩ := He.ba h2
      refine .inr ⟨o, its, n, lk, of_decide_eq_true h1, ed, ?_, strs_vals (of_decide_eq_true h4)⟩
      have := of_decide_eq_true h3
      rw [sizeLine_eq]
      omega
    · cases h2
  · cases h
theorem inV_SL (x : Str) (zs : List Str) : inV (.str x) (SL zs) = decide (x ∈ zs) := by
  induction zs with
  | nil => rfl
  | cons n t ih =>
    show (eqV (V.str n) (.str x) || inV (.str x) (SL t)) = _
    rw [ih]
    have e : eqV (V.str n) (.str x) = decide (n = x) := by
      show (n == x) = _
      exact Bool.beq_eq_decide_eq n x
    rw [e]
    by_cases c : n = x <;> by_cases c2 : x ∈ t
    · simp [c]
    · simp [c]
    · simp [c2]
    · have c3 : ¬ x = n := fun e => c e.symm
      simp [c, c2, c3]
theorem flat_SL (zs : List Str) : (SL zs).all flatV = true := by
  unfold SL
  rw [List.all_map]
  exact List.all_eq_true.mpr fun _ _ => rfl
end N
namespace N
open PySem PySem.Spec PyProof.Rows L2
/-! readings that name the part, for a try's body -/
def rTupOf (K : PySem.W.Frag) : List V → Hp → VK → Prop := fun xs H Q => ∃ (p : Addr) (ys : List V), xs = [.ref p] ∧ ((SqL K H p ys ∧ ∀ l, H l = none → Q (.ref l) (upd H l (.tup ys))) ∨ (SqT K H p ys ∧ Q (.ref p) H))
theorem cr_tupof {X : Cx} : CallR X (.type "tuple") (rTupOf X.K) := call_tuple_of
def rJoin (K : PySem.W.Frag) : V → List V → Hp → VK → Prop := fun x xs H Q => ∃ a p, ∃ ys : List Str, x = .str a ∧ xs = [.ref p] ∧ (SqL K H p (ys.map V.str) ∨ SqT K H p (ys.map V.str)) ∧ (ys.map (·.length)).sum + ys.length * a.length ≤ 16777216 ∧ Q (.str (Txt.join a ys)) H
theorem pe_joinK {X : Cx} {o e : Expr} {to te : TE} {apos pos : Pos} (ho : PE X o to) (he : PE X e te) (hs : starEach [e] X.env = [(false, eval e X.env)] := by rfl) (hbase : attributeBase o "join" X.env (eval o X.env) = eval o X.env := by rfl) (hline : (apos.endLine == pos.line) = true := by rfl) :
    PE X (.Call (.Attribute o "join" apos) [e] [] pos) (tM1 (rJoin X.K) to te) := pe_join ho he hs hbase hline
end N
set_option Elab.async false
set_option linter.all false
set_option maxRecDepth 100000
set_option maxHeartbeats 4000000
namespace N
open PySem PySem.Spec PyProof.Rows L2
def top (i : Nat) : Stmt := PySem.Challenge.pw_nimhouse_k21_whole_lines.main.body.getD i (.Pass ⟨0, 0, 0, 0⟩)
def fn : List He.DefD := [⟨("is_whole", none), "is_whole", "is_whole", defArgs (top 6), defBody (top 6), defScope (top 6), [], []⟩,
  ⟨("_law_cell_at", none), "_law_cell_at", "_law_cell_at", defArgs (top 32), defBody (top 32), defScope (top 32), [], []⟩,
  ⟨("least_lacking", none), "least_lacking", "least_lacking", defArgs (top 7), defBody (top 7), defScope (top 7), [], []⟩,
  ⟨("Heap", some "leads"), "leads", "Heap.leads", defArgs (inClass (top 19) 0), defBody (inClass (top 19) 0), defScope (inClass (top 19) 0), [], []⟩,
  ⟨("Pairs", some "leads"), "leads", "Pairs.leads", defArgs (inClass (top 13) 0), defBody (inClass (top 13) 0), defScope (inClass (top 13) 0), [], []⟩,
  ⟨("Parting", some "leads"), "leads", "Parting.leads", defArgs (inClass (top 22) 0), defBody (inClass (top 22) 0), defScope (inClass (top 22) 0), [], []⟩,
  ⟨("Taking", some "leads"), "leads", "Taking.leads", defArgs (inClass (top 20) 2), defBody (inClass (top 20) 2), defScope (inClass (top 20) 2), [], []⟩,
  ⟨("Skittles", some "leads"), "leads", "Skittles.leads", defArgs (inClass (top 21) 0), defBody (inClass (top 21) 0), defScope (inClass (top 21) 0), [], []⟩,
  ⟨("Runs", some "leads"), "leads", "Runs.leads", defArgs (inClass (top 12) 0), defBody (inClass (top 12) 0), defScope (inClass (top 12) 0), [], []⟩,
  ⟨("longer", none), "longer", "longer", defArgs (top 15), defBody (top 15), defScope (top 15), [], []⟩,
  ⟨("Few", some "leads"), "leads", "Few.leads", defArgs (inClass (top 14) 1), defBody (inClass (top 14) 1), defScope (inClass (top 14) 1), [], []⟩,
  ⟨("asked_limits", none), "asked_limits", "asked_limits", defArgs (top 18), defBody (top 18), defScope (top 18), [], []⟩,
  ⟨("Heap", some "__init__"), "__init__", "Game.__init__", defArgs (inClass (top 10) 0), defBody (inClass (top 10) 0), defScope (inClass (top 10) 0), [], []⟩,
  ⟨("Game", some "name"), "name", "Game.name", defArgs (inClass (top 10) 2), defBody (inClass (top 10) 2), defScope (inClass (top 10) 2), [], []⟩,
  ⟨("Heap", some "name"), "name", "Heap.name", defArgs (inClass (top 19) 1), defBody (inClass (top 19) 1), defScope (inClass (top 19) 1), [], []⟩,
  ⟨("Parting", some "name"), "name", "Parting.name", defArgs (inClass (top 22) 1), defBody (inClass (top 22) 1), defScope (inClass (top 22) 1), [], []⟩,
  ⟨("Runs", some "name"), "name", "Runs.name", defArgs (inClass (top 12) 1), defBody (inClass (top 12) 1), defScope (inClass (top 12) 1), [], []⟩,
  ⟨("Pairs", some "name"), "name", "Pairs.name", defArgs (inClass (top 13) 1), defBody (inClass (top 13) 1), defScope (inClass (top 13) 1), [], []⟩,
  ⟨("Few", some "name"), "name", "Few.name", defArgs (inClass (top 14) 2), defBody (inClass (top 14) 2), defScope (inClass (top 14) 2), [], []⟩,
  ⟨("Taking", some "name"), "name", "Taking.name", defArgs (inClass (top 20) 3), defBody (inClass (top 20) 3), defScope (inClass (top 20) 3), [], []⟩,
  ⟨("Skittles", some "name"), "name", "Skittles.name", defArgs (inClass (top 21) 1), defBody (inClass (top 21) 1), defScope (inClass (top 21) 1), [], []⟩,
  ⟨("Taking", some "rests"), "rests", "Taking.rests", defArgs (inClass (top 20) 1), defBody (inClass (top 20) 1), defScope (inClass (top 20) 1), [], []⟩,
  ⟨("Skittles", some "rests"), "rests", "Taking.rests", defArgs (inClass (top 20) 1), defBody (inClass (top 20) 1), defScope (inClass (top 20) 1), [], []⟩,
  ⟨("Game", some "leads"), "leads", "Game.leads", defArgs (inClass (top 10) 1), defBody (inClass (top 10) 1), defScope (inClass (top 10) 1), [], []⟩,
  ⟨("Game", some "together"), "together", "Game.together", defArgs (inClass (top 10) 3), defBody (inClass (top 10) 3), defScope (inClass (top 10) 3), [], []⟩,
  ⟨("Heap", some "together"), "together", "Game.together", defArgs (inClass (top 10) 3), defBody (inClass (top 10) 3), defScope (inClass (top 10) 3), [], []⟩,
  ⟨("Taking", some "together"), "together", "Game.together", defArgs (inClass (top 10) 3), defBody (inClass (top 10) 3), defScope (inClass (top 10) 3), [], []⟩,
  ⟨("Skittles", some "together"), "together", "Game.together", defArgs (inClass (top 10) 3), defBody (inClass (top 10) 3), defScope (inClass (top 10) 3), [], []⟩,
  ⟨("Parting", some "together"), "together", "Game.together", defArgs (inClass (top 10) 3), defBody (inClass (top 10) 3), defScope (inClass (top 10) 3), [], []⟩,
  ⟨("Runs", some "together"), "together", "Game.together", defArgs (inClass (top 10) 3), defBody (inClass (top 10) 3), defScope (inClass (top 10) 3), [], []⟩,
  ⟨("Pairs", some "together"), "together", "Game.together", defArgs (inClass (top 10) 3), defBody (inClass (top 10) 3), defScope (inClass (top 10) 3), [], []⟩,
  ⟨("Few", some "together"), "together", "Game.together", defArgs (inClass (top 10) 3), defBody (inClass (top 10) 3), defScope (inClass (top 10) 3), [], []⟩,
  ⟨("Game", some "number"), "number", "Game.number", defArgs (inClass (top 10) 4), defBody (inClass (top 10) 4), defScope (inClass (top 10) 4), [], []⟩,
  ⟨("Heap", some "number"), "number", "Game.number", defArgs (inClass (top 10) 4), defBody (inClass (top 10) 4), defScope (inClass (top 10) 4), [], []⟩,
  ⟨("Taking", some "number"), "number", "Game.number", defArgs (inClass (top 10) 4), defBody (inClass (top 10) 4), defScope (inClass (top 10) 4), [], []⟩,
  ⟨("Skittles", some "number"), "number", "Game.number", defArgs (inClass (top 10) 4), defBody (inClass (top 10) 4), defScope (inClass (top 10) 4), [], []⟩,
  ⟨("Parting", some "number"), "number", "Game.number", defArgs (inClass (top 10) 4), defBody (inClass (top 10) 4), defScope (inClass (top 10) 4), [], []⟩,
  ⟨("Runs", some "number"), "number", "Game.number", defArgs (inClass (top 10) 4), defBody (inClass (top 10) 4), defScope (inClass (top 10) 4), [], []⟩,
  ⟨("Pairs", some "number"), "number", "Game.number", defArgs (inClass (top 10) 4), defBody (inClass (top 10) 4), defScope (inClass (top 10) 4), [], []⟩,
  ⟨("Few", some "number"), "number", "Game.number", defArgs (inClass (top 10) 4), defBody (inClass (top 10) 4), defScope (inClass (top 10) 4), [], []⟩,
  ⟨("Game", some "numbers"), "numbers", "Game.numbers", defArgs (inClass (top 10) 5), defBody (inClass (top 10) 5), defScope (inClass (top 10) 5), [], []⟩,
  ⟨("Heap", some "numbers"), "numbers", "Game.numbers", defArgs (inClass (top 10) 5), defBody (inClass (top 10) 5), defScope (inClass (top 10) 5), [], []⟩,
  ⟨("Taking", some "numbers"), "numbers", "Game.numbers", defArgs (inClass (top 10) 5), defBody (inClass (top 10) 5), defScope (inClass (top 10) 5), [], []⟩,
  ⟨("Skittles", some "numbers"), "numbers", "Game.numbers", defArgs (inClass (top 10) 5), defBody (inClass (top 10) 5), defScope (inClass (top 10) 5), [], []⟩,
  ⟨("Parting", some "numbers"), "numbers", "Game.numbers", defArgs (inClass (top 10) 5), defBody (inClass (top 10) 5), defScope (inClass (top 10) 5), [], []⟩,
  ⟨("Runs", some "numbers"), "numbers", "Game.numbers", defArgs (inClass (top 10) 5), defBody (inClass (top 10) 5), defScope (inClass (top 10) 5), [], []⟩,
  ⟨("Pairs", some "numbers"), "numbers", "Game.numbers", defArgs (inClass (top 10) 5), defBody (inClass (top 10) 5), defScope (inClass (top 10) 5), [], []⟩,
  ⟨("Few", some "numbers"), "numbers", "Game.numbers", defArgs (inClass (top 10) 5), defBody (inClass (top 10) 5), defScope (inClass (top 10) 5), [], []⟩,
  ⟨("Game", some "value"), "value", "Game.value", defArgs (inClass (top 10) 6), defBody (inClass (top 10) 6), defScope (inClass (top 10) 6), [], []⟩,
  ⟨("Heap", some "value"), "value", "Game.value", defArgs (inClass (top 10) 6), defBody (inClass (top 10) 6), defScope (inClass (top 10) 6), [], []⟩,
  ⟨("Taking", some "value"), "value", "Game.value", defArgs (inClass (top 10) 6), defBody (inClass (top 10) 6), defScope (inClass (top 10) 6), [], []⟩,
  ⟨("Skittles", some "value"), "value", "Game.value", defArgs (inClass (top 10) 6), defBody (inClass (top 10) 6), defScope (inClass (top 10) 6), [], []⟩,
  ⟨("Parting", some "value"), "value", "Game.value", defArgs (inClass (top 10) 6), defBody (inClass (top 10) 6), defScope (inClass (top 10) 6), [], []⟩,
  ⟨("Runs", some "value"), "value", "Game.value", defArgs (inClass (top 10) 6), defBody (inClass (top 10) 6), defScope (inClass (top 10) 6), [], []⟩,
  ⟨("Pairs", some "value"), "value", "Game.value", defArgs (inClass (top 10) 6), defBody (inClass (top 10) 6), defScope (inClass (top 10) 6), [], []⟩,
  ⟨("Few", some "value"), "value", "Game.value", defArgs (inClass (top 10) 6), defBody (inClass (top 10) 6), defScope (inClass (top 10) 6), [], []⟩,
  ⟨("Game", some "winning"), "winning", "Game.winning", defArgs (inClass (top 10) 7), defBody (inClass (top 10) 7), defScope (inClass (top 10) 7), [], []⟩,
  ⟨("Heap", some "winning"), "winning", "Game.winning", defArgs (inClass (top 10) 7), defBody (inClass (top 10) 7), defScope (inClass (top 10) 7), [], []⟩,
  ⟨("Taking", some "winning"), "winning", "Game.winning", defArgs (inClass (top 10) 7), defBody (inClass (top 10) 7), defScope (inClass (top 10) 7), [], []⟩,
  ⟨("Skittles", some "winning"), "winning", "Game.winning", defArgs (inClass (top 10) 7), defBody (inClass (top 10) 7), defScope (inClass (top 10) 7), [], []⟩,
  ⟨("Parting", some "winning"), "winning", "Game.winning", defArgs (inClass (top 10) 7), defBody (inClass (top 10) 7), defScope (inClass (top 10) 7), [], []⟩,
  ⟨("Runs", some "winning"), "winning", "Game.winning", defArgs (inClass (top 10) 7), defBody (inClass (top 10) 7), defScope (inClass (top 10) 7), [], []⟩,
  ⟨("Pairs", some "winning"), "winning", "Game.winning", defArgs (inClass (top 10) 7), defBody (inClass (top 10) 7), defScope (inClass (top 10) 7), [], []⟩,
  ⟨("Few", some "winning"), "winning", "Game.winning", defArgs (inClass (top 10) 7), defBody (inClass (top 10) 7), defScope (inClass (top 10) 7), [], []⟩,
  ⟨("Game", some "__init__"), "__init__", "Game.__init__", defArgs (inClass (top 10) 0), defBody (inClass (top 10) 0), defScope (inClass (top 10) 0), [], []⟩,
  ⟨("Taking", some "__init__"), "__init__", "Taking.__init__", defArgs (inClass (top 20) 0), defBody (inClass (top 20) 0), defScope (inClass (top 20) 0), [], []⟩,
  ⟨("Skittles", some "__init__"), "__init__", "Taking.__init__", defArgs (inClass (top 20) 0), defBody (inClass (top 20) 0), defScope (inClass (top 20) 0), [], []⟩,
  ⟨("Parting", some "__init__"), "__init__", "Game.__init__", defArgs (inClass (top 10) 0), defBody (inClass (top 10) 0), defScope (inClass (top 10) 0), [], []⟩,
  ⟨("Runs", some "__init__"), "__init__", "Game.__init__", defArgs (inClass (top 10) 0), defBody (inClass (top 10) 0), defScope (inClass (top 10) 0), [], []⟩,
  ⟨("Pairs", some "__init__"), "__init__", "Game.__init__", defArgs (inClass (top 10) 0), defBody (inClass (top 10) 0), defScope (inClass (top 10) 0), [], []⟩,
  ⟨("Few", some "__init__"), "__init__", "Few.__init__", defArgs (inClass (top 14) 0), defBody (inClass (top 14) 0), defScope (inClass (top 14) 0), [], []⟩,
  ⟨("figures_of", none), "figures_of", "figures_of", defArgs (top 25), defBody (top 25), defScope (top 25), [], []⟩,
  ⟨("bare_game", none), "bare_game", "bare_game", defArgs (top 26), defBody (top 26), defScope (top 26), [], []⟩,
  ⟨("game_told", none), "game_told", "game_told", defArgs (top 27), defBody (top 27), defScope (top 27), [], []⟩,
  ⟨("turn_told", none), "turn_told", "turn_told", defArgs (top 28), defBody (top 28), defScope (top 28), [], []⟩,
  ⟨("line_answered", none), "line_answered", "line_answered", defArgs (top 29), defBody (top 29), defScope (top 29), [], []⟩,
  ⟨("answered", none), "answered", "answered", defArgs (top 30), defBody (top 30), defScope (top 30), [.str "-"], []⟩,
  ⟨("_law_figures", none), "_law_figures", "_law_figures", defArgs (top 33), defBody (top 33), defScope (top 33), [], []⟩,
  ⟨("_law_limits_good", none), "_law_limits_good", "_law_limits_good", defArgs (top 34), defBody (top 34), defScope (top 34), [], []⟩,
  ⟨("_law_bare", none), "_law_bare", "_law_bare", defArgs (top 35), defBody (top 35), defScope (top 35), [], []⟩,
  ⟨("_law_value", none), "_law_value", "_law_value", defArgs (top 37), defBody (top 37), defScope (top 37), [], []⟩,
  ⟨("_law_turn", none), "_law_turn", "_law_turn", defArgs (top 38), defBody (top 38), defScope (top 38), [], []⟩,
  ⟨("_law_words", none), "_law_words", "_law_words", defArgs (top 39), defBody (top 39), defScope (top 39), [], []⟩,
  ⟨("_law_game", none), "_law_game", "_law_game", defArgs (top 36), defBody (top 36), defScope (top 36), [], []⟩,
  ⟨("_law_answer", none), "_law_answer", "_law_answer", defArgs (top 40), defBody (top 40), defScope (top 40), [], []⟩,
  ⟨("_law_named", none), "_law_named", "_law_named", defArgs (top 41), defBody (top 41), defScope (top 41), [], []⟩,
  ⟨("_law_not_written", none), "_law_not_written", "_law_not_written", defArgs (top 42), defBody (top 42), defScope (top 42), [], []⟩,
  ⟨("_law_digits", none), "_law_digits", "_law_digits", defArgs (top 43), defBody (top 43), defScope (top 43), [], []⟩,
  ⟨("_law_built", none), "_law_built", "_law_built", defArgs (top 44), defBody (top 44), defScope (top 44), [], []⟩,
  ⟨("_law_changed", none), "_law_changed", "_law_changed", defArgs (top 45), defBody (top 45), defScope (top 45), [], []⟩,
  ⟨("_law_line", none), "_law_line", "_law_line", defArgs (top 46), defBody (top 46), defScope (top 46), [], []⟩,
  ⟨("law", none), "law", "law", defArgs (top 47), defBody (top 47), defScope (top 47), [], []⟩]
def fa : List He.Fa := [.free "isinstance", .free "int", .free "bool", .free "len", .glo "is_whole", .int "MOST" 100, .exc "NotAPlace", .glo "NotAPlace", .glo "least_lacking", .free "range", .free "reversed", .free "list", .glo "longer", .free "tuple", .exc "NotAGame", .glo "NotAGame", .int "GREATEST" 12, .meth "Heap" "__init__", .glo "Heap", .glo "asked_limits", .glo "Game", .free "str", .glo "Taking", .cls "Game", .cls "Heap", .cls "Taking", .cls "Skittles", .cls "Parting", .cls "Runs", .cls "Pairs", .cls "Few", .noat "Game" "known", .noat "Heap" "known", .noat "Taking" "known", .noat "Skittles" "known", .noat "Parting" "known", .noat "Runs" "known", .noat "Pairs" "known", .noat "Few" "known", .noat "Game" "limits", .noat "Heap" "limits", .noat "Taking" "limits", .noat "Skittles" "limits", .noat "Parting" "limits", .noat "Runs" "limits", .noat "Pairs" "limits", .noat "Few" "limits", .noat "Game" "most", .noat "Heap" "most", .noat "Taking" "most", .noat "Skittles" "most", .noat "Parting" "most", .noat "Runs" "most", .noat "Pairs" "most", .noat "Few" "most", .noat "Game" "rows", .noat "Heap" "rows", .noat "Taking" "rows", .noat "Skittles" "rows", .noat "Parting" "rows", .noat "Runs" "rows", .noat "Pairs" "rows", .noat "Few" "rows", .meth "Taking" "rests", .meth "Skittles" "rests", .meth "Game" "leads", .meth "Heap" "leads", .meth "Taking" "leads", .meth "Skittles" "leads", .meth "Parting" "leads", .meth "Runs" "leads", .meth "Pairs" "leads", .meth "Few" "leads", .meth "Game" "together", .meth "Heap" "together", .meth "Taking" "together", .meth "Skittles" "together", .meth "Parting" "together", .meth "Runs" "together", .meth "Pairs" "together", .meth "Few" "together", .meth "Game" "number", .meth "Heap" "number", .meth "Taking" "number", .meth "Skittles" "number", .meth "Parting" "number", .meth "Runs" "number", .meth "Pairs" "number", .meth "Few" "number", .meth "Game" "numbers", .meth "Heap" "numbers", .meth "Taking" "numbers", .meth "Skittles" "numbers", .meth "Parting" "numbers", .meth "Runs" "numbers", .meth "Pairs" "numbers", .meth "Few" "numbers", .meth "Game" "value", .meth "Heap" "value", .meth "Taking" "value", .meth "Skittles" "value", .meth "Parting" "value", .meth "Runs" "value", .meth "Pairs" "value", .meth "Few" "value", .meth "Game" "winning", .meth "Heap" "winning", .meth "Taking" "winning", .meth "Skittles" "winning", .meth "Parting" "winning", .meth "Runs" "winning", .meth "Pairs" "winning", .meth "Few" "winning", .meth "Game" "name", .meth "Heap" "name", .meth "Taking" "name", .meth "Skittles" "name", .meth "Parting" "name", .meth "Runs" "name", .meth "Pairs" "name", .meth "Few" "name", .meth "Game" "__init__", .meth "Taking" "__init__", .meth "Skittles" "__init__", .meth "Parting" "__init__", .meth "Runs" "__init__", .meth "Pairs" "__init__", .meth "Few" "__init__", .glo "NotWritten", .exc "NotWritten", .mkr "Game", .mkr "Heap", .mkr "Parting", .glo "Parting", .mkr "Runs", .glo "Runs", .mkr "Pairs", .glo "Pairs", .glo "BARE", .glo "bare_game", .glo "figures_of", .mkr "Taking", .mkr "Skittles", .glo "Skittles", .mkr "Few", .glo "Few", .glo "game_told", .glo "turn_told", .free "enumerate", .exm "NotAPlace" "NotAPlace" true, .exm "NotAGame" "NotAPlace" false, .exm "NotWritten" "NotAPlace" false, .exm "NotAPlace" "NotAGame" false, .exm "NotAGame" "NotAGame" true, .exm "NotWritten" "NotAGame" false, .exm "NotAPlace" "HouseError" true, .exm "NotAGame" "HouseError" true, .exm "NotWritten" "HouseError" true, .glo "line_answered", .glo "HouseError", .glo "_law_value", .glo "_law_bare", .glo "_law_figures", .glo "_law_limits_good", .glo "_law_words", .glo "_law_game", .free "max", .glo "_law_turn", .glo "_law_digits", .glo "_law_cell_at", .glo "_law_built", .glo "_law_changed", .free "min", .glo "_law_line", .glo "_law_answer", .glo "_law_named", .glo "_law_not_written", .glo "answered", .glo "law"]
def fx : List (PySem.W.Frag → Bool) := [clsfB "Heap" "__init__", clsfB "Game" "__init__", clsfB "Taking" "name", excB "NotAGame", kitBT "NotAGame" "ValueError" true, kitB2 "NotAGame" "NotAGame" true, kitB2 "NotAGame" "NotWritten" false, excB "NotWritten", kitBT "NotWritten" "ValueError" true, kitB2 "NotWritten" "NotAGame" false, kitB2 "NotWritten" "NotWritten" true, tupB "BARE" [Str.ofString "still", Str.ofString "heap", Str.ofString "parting", Str.ofString "runs", Str.ofString "pairs"]]
abbrev R : PySem.W.OpenRow := PySem.W.OpenLaw.row PySem.Challenge.rw_nimhouse_k21_whole_lines
abbrev hk : PySem.W.Hook := hookQ 5 fa fn fx
def ob (s : PySem.W.SharedT) : AlQ := obsQ 5 fa fn fx (HandSHeadRun.getT s)
theorem ob_eq (s : PySem.W.SharedT) : ob s = hk.obs s.abs := obsQ_eq (HandSHeadRun.getT_eq s)
def names0 : List Str := ["HouseError", "NotAPlace", "NotAGame", "NotWritten", "is_whole", "least_lacking", "MOST", "Game", "Runs", "Pairs", "Few", "longer", "GREATEST", "asked_limits", "Heap", "Taking", "Skittles", "Parting", "BARE", "figures_of", "bare_game", "game_told", "turn_told", "line_answered", "answered", "_law_cell_at", "_law_figures", "_law_limits_good", "_law_bare", "_law_game"]
def names1 : List Str := ["_law_value", "_law_turn", "_law_words", "_law_answer", "_law_named", "_law_not_written", "_law_digits", "_law_built", "_law_changed", "_law_line"]
def names : List Str := names0 ++ names1
theorem run (w : World) : HandSHeadRun.RunEq R (PySem.W.view R.prog [47]) hk ob 20000 names w := by
  intro os
  kernel_rfl
end N
set_option linter.all false
/-! Games by turns: leads of each kind, numbers by the least that lacks. Plain Lean. -/
namespace Gm
/-- the least natural that is not in xs, looked for from n on, at most f steps -/
def mexA (xs : List Nat) : Nat → Nat → Nat
  | 0, n => n
  | f + 1, n => if n ∈ xs then mexA xs f (n + 1) else n
def mex (xs : List Nat) : Nat := mexA xs (xs.length + 1) 0
def IsMex (xs : List Nat) (m : Nat) : Prop := m ∉ xs ∧ ∀ k, k < m → k ∈ xs
theorem IsMex.uniq {xs : List Nat} {m n : Nat} (h : IsMex xs m) (h' : IsMex xs n) : m = n := by
  rcases Nat.lt_trichotomy m n with c | c | c
  · exact absurd (h'.2 m c) h.1
  · exact c
  · exact absurd (h.2 n c) h'.1
theorem all_le : ∀ (k : Nat) (xs : List Nat), (∀ m, m < k → m ∈ xs) → k ≤ xs.length
  | 0, _, _ => Nat.zero_le _
  | k + 1, xs, h => by
    have hk : k ∈ xs := h k (Nat.lt_succ_self k)
    have ih := all_le k (xs.erase k) fun m hm => (List.mem_erase_of_ne (by omega)).mpr (h m (by omega))
    rw [List.length_erase_of_mem hk] at ih
    have : 0 < xs.length := List.length_pos_of_mem hk
    omega
theorem mexA_ok (xs : List Nat) : ∀ f n, (∀ k, k < n → k ∈ xs) → xs.length < f + n → IsMex xs (mexA xs f n)
  | 0, n, h, hl => absurd (all_le n xs h) (by omega)
  | f + 1, n, h, hl => by
    unfold mexA
    split
    · rename_i c
      refine mexA_ok xs f (n + 1) (fun k hk => ?_) (by omega)
      by_cases e : k = n
      · rw [e]; exact c
      · exact h k (by omega)
    · rename_i c
      exact ⟨c, h⟩
theorem mex_ok (xs : List Nat) : IsMex xs (mex xs) := mexA_ok xs _ 0 (fun k h => absurd h (Nat.not_lt_zero k)) (by omega)
theorem mex_eq {xs : List Nat} {m : Nat} (h : IsMex xs m) : mex xs = m := (mex_ok xs).uniq h
theorem mex_le (xs : List Nat) : mex xs ≤ xs.length := all_le _ _ (mex_ok xs).2
/-- the sum of the numbers of a lead's places -/
def xs (ns : List Nat) (lead : List Nat) : Nat := lead.foldl (fun f p => f ^^^ ns.getD p 0) 0
/-- the numbers of n places from 0 on -/
def nums (L : Nat → List (List Nat)) : Nat → List Nat
  | 0 => []
  | n + 1 => nums L n ++ [mex ((L n).map (xs (nums L n)))]
def num (L : Nat → List (List Nat)) (p : Nat) : Nat := mex ((L p).map (xs (nums L p)))
def Lesser (L : Nat → List (List Nat)) : Prop := ∀ p lead, lead ∈ L p → ∀ q ∈ lead, q < p
theorem nums_length (L : Nat → List (List Nat)) : ∀ n, (nums L n).length = n
  | 0 => rfl
  | n + 1 => by
    unfold nums
    rw [List.length_append, nums_length L n]
    rfl
theorem nums_succ (L : Nat → List (List Nat)) (n : Nat) : nums L (n + 1) = nums L n ++ [num L n] := rfl
theorem nums_at (L : Nat → List (List Nat)) {p : Nat} : ∀ {n}, p < n → (nums L n)[p]? = some (num L p)
  | n + 1, h => by
    rw [nums_succ]
    by_cases e : p = n
    · subst e
      rw [List.getElem?_append_right (by rw [nums_length]; exact Nat.le_refl _), nums_length, Nat.sub_self]
      rfl
    · rw [List.getElem?_append_left (by rw [nums_length]; omega)]
      exact nums_at L (by omega)
theorem nums_getD (L : Nat → List (List Nat)) {p n : Nat} (h : p < n) : (nums L n).getD p 0 = num L p := by
  rw [List.getD_eq_getElem?_getD, nums_at L h]
  rfl
theorem nums_map (L : Nat → List (List Nat)) : ∀ n, nums L n = (List.range n).map (num L)
  | 0 => rfl
  | n + 1 => by
    rw [nums_succ, nums_map L n, List.range_succ, List.map_append]
    rfl
theorem foldl_congr' {α β : Type} {f g : α → β → α} : ∀ (l : List β) (a : α), (∀ b ∈ l, ∀ a, f a b = g a b) → l.foldl f a = l.foldl g a
  | [], _, _ => rfl
  | b :: l, a, h => by
    rw [List.foldl_cons, List.foldl_cons, h b List.mem_cons_self]
    exact foldl_congr' l _ fun c hc => h c (List.mem_cons_of_mem _ hc)
/-- the sum over the numbers themselves -/
def sumN (L : Nat → List (List Nat)) (lead : List Nat) : Nat := lead.foldl (fun f p => f ^^^ num L p) 0
theorem xs_sumN {L : Nat → List (List Nat)} {n : Nat} {lead : List Nat} (h : ∀ q ∈ lead, q < n) : xs (nums L n) lead = sumN L lead :=
  foldl_congr' lead 0 fun q hq a => by rw [nums_getD L (h q hq)]
theorem num_eq {L : Nat → List (List Nat)} (hL : Lesser L) (p : Nat) : num L p = mex ((L p).map (sumN L)) := by
  unfold num
  congr 1
  exact List.map_congr_left fun lead hl => xs_sumN (hL p lead hl)
/-! ### the kinds -/
def rests (ls : List Nat) (p : Nat) : List Nat := (ls.reverse.filter (· ≤ p)).map (p - ·)
def first (row : List Nat) : Nat := if row.isEmpty then 0 else row.getLastD 0 + 1
def longer (rows : List (List Nat)) (p : Nat) : List (List Nat) := rows.flatMap fun row => (List.range' (first row) (p - first row)).map fun o => row ++ [o]
inductive Kind where
  | still | heap | taking (ls : List Nat) | skittles (ls : List Nat) | parting | runs | pairs | few (m : Nat) | told (rows : List (List (List Nat)))
def fewN (p : Nat) : Nat → List (List Nat)
  | 0 => [[]]
  | n + 1 => longer (fewN p n) p
def fewAll (p : Nat) : Nat → List (List Nat)
  | 0 => [[]]
  | n + 1 => fewAll p n ++ fewN p (n + 1)
def Kind.L : Kind → Nat → List (List Nat)
  | .still, _ => []
  | .heap, p => (List.range p).map fun r => [r]
  | .taking ls, p => (rests ls p).map fun r => [r]
  | .skittles ls, p => (rests ls p).flatMap fun r => (List.range (r / 2 + 1)).map fun q => [q, r - q]
  | .parting, p => (List.range' 1 ((p + 1) / 2 - 1)).map fun q => [q, p - q]
  | .runs, p => (List.range (p + 1)).map fun i => List.range' (p - i) i
  | .pairs, p => (List.range p).map fun r => [r]
  | .few m, p => fewAll p (m - 1)
  | .told rows, p => rows.getD p []
/-- limits: rising, from 1 to 12, one at least -/
def Rising : List Nat → Prop := fun ls => ls ≠ [] ∧ ls.Pairwise (· < ·) ∧ ∀ l ∈ ls, 1 ≤ l ∧ l ≤ 12
theorem pw_len : ∀ (ls : List Nat) (a b : Nat), ls.Pairwise (· < ·) → (∀ l ∈ ls, a < l ∧ l ≤ b) → a ≤ b → ls.length + a ≤ b
  | [], a, b, _, _, h => by simpa using h
  | l :: r, a, b, p, h, _ => by
    have h1 := h l List.mem_cons_self
    have h2 := pw_len r l b (List.pairwise_cons.mp p).2 (fun m hm => ⟨(List.pairwise_cons.mp p).1 m hm, (h m (List.mem_cons_of_mem _ hm)).2⟩) h1.2
    rw [List.length_cons]
    omega
theorem Rising.len {ls : List Nat} (h : Rising ls) : ls.length ≤ 12 := by
  have := pw_len ls 0 12 h.2.1 (fun l hl => ⟨(h.2.2 l hl).1, (h.2.2 l hl).2⟩) (by omega)
  omega
/-- what tells a game -/
def Kind.Ok : Kind → Prop
  | .taking ls => Rising ls
  | .skittles ls => Rising ls
  | .few m => 1 ≤ m ∧ m ≤ 3
  | .told rows => rows.length ≤ 101 ∧ ∀ (p : Nat) (leads : List (List Nat)), rows[p]? = some leads → ∀ lead ∈ leads, ∀ q ∈ lead, q < p
  | _ => True
/-- how many places it has -/
def Kind.top : Kind → Nat
  | .told rows => rows.length
  | _ => 101
theorem rests_lt {ls : List Nat} (h : Rising ls) {p r : Nat} (hr : r ∈ rests ls p) : r < p := by
  unfold rests at hr
  obtain ⟨l, hl, rfl⟩ := List.mem_map.mp hr
  rw [List.mem_filter, List.mem_reverse] at hl
  have h1 := (h.2.2 l hl.1).1
  have h2 : l ≤ p := of_decide_eq_true hl.2
  omega
theorem longer_lt {rows : List (List Nat)} {p : Nat} (h : ∀ row ∈ rows, ∀ q ∈ row, q < p) : ∀ row ∈ longer rows p, ∀ q ∈ row, q < p := by
  intro row hr q hq
  unfold longer at hr
  obtain ⟨r0, h0, h1⟩ := List.mem_flatMap.mp hr
  obtain ⟨o, ho, rfl⟩ := List.mem_map.mp h1
  rcases List.mem_append.mp hq with hq | hq
  · exact h r0 h0 q hq
  · rw [List.mem_singleton] at hq
    rw [List.mem_range'_1] at ho
    omega
theorem fewN_lt (p : Nat) : ∀ n, ∀ row ∈ fewN p n, ∀ q ∈ row, q < p
  | 0, row, h, q, hq => by
    have h : row ∈ [[]] := h
    rw [List.mem_singleton] at h
    rw [h] at hq
    cases hq
  | n + 1, row, h, q, hq => longer_lt (fewN_lt p n) row h q hq
theorem fewAll_lt (p : Nat) : ∀ n, ∀ row ∈ fewAll p n, ∀ q ∈ row, q < p
  | 0, row, h, q, hq => fewN_lt p 0 row h q hq
  | n + 1, row, h, q, hq => by
    rcases List.mem_append.mp (show row ∈ fewAll p n ++ fewN p (n + 1) from h) with h | h
    · exact fewAll_lt p n row h q hq
    · exact fewN_lt p (n + 1) row h q hq
theorem Kind.lesser : ∀ {k : Kind}, k.Ok → Lesser k.L
  | .still, _, p, lead, h, q, hq => by cases h
  | .heap, _, p, lead, h, q, hq => by
    obtain ⟨r, hr, rfl⟩ := List.mem_map.mp h
    rw [List.mem_singleton] at hq
    rw [hq]
    exact List.mem_range.mp hr
  | .taking ls, ok, p, lead, h, q, hq => by
    obtain ⟨r, hr, rfl⟩ := List.mem_map.mp h
    rw [List.mem_singleton] at hq
    rw [hq]
    exact rests_lt ok hr
  | .skittles ls, ok, p, lead, h, q, hq => by
    obtain ⟨r, hr, h1⟩ := List.mem_flatMap.mp h
    obtain ⟨o, ho, rfl⟩ := List.mem_map.mp h1
    have h2 := rests_lt ok hr
    have h3 := List.mem_range.mp ho
    simp only [List.mem_cons, List.not_mem_nil, or_false] at hq
    rcases hq with rfl | rfl <;> omega
  | .parting, _, p, lead, h, q, hq => by
    obtain ⟨o, ho, rfl⟩ := List.mem_map.mp h
    rw [List.mem_range'_1] at ho
    simp only [List.mem_cons, List.not_mem_nil, or_false] at hq
    rcases hq with rfl | rfl <;> omega
  | .runs, _, p, lead, h, q, hq => by
    obtain ⟨i, hi, rfl⟩ := List.mem_map.mp h
    rw [List.mem_range] at hi
    rw [List.mem_range'_1] at hq
    omega
  | .pairs, _, p, lead, h, q, hq => by
    obtain ⟨r, hr, rfl⟩ := List.mem_map.mp h
    rw [List.mem_singleton] at hq
    rw [hq]
    exact List.mem_range.mp hr
  | .few m, _, p, lead, h, q, hq => fewAll_lt p (m - 1) lead h q hq
  | .told rows, ok, p, lead, h, q, hq => by
    have h : lead ∈ rows.getD p [] := h
    cases e : rows[p]? with
    | none =>
      rw [List.getD_eq_getElem?_getD, e] at h
      cases h
    | some leads =>
      rw [List.getD_eq_getElem?_getD, e] at h
      exact ok.2 p leads e lead h q hq
end Gm
set_option Elab.async false
set_option linter.all false
set_option maxRecDepth 100000
set_option maxHeartbeats 4000000
/-! A comprehension whose element may raise, out of the def around. -/
namespace N
open PySem PySem.Spec PyProof.Rows L2
section
variable {M : Model} {A : Around} {E : Value → Shared → Prop} {s : Shared} {env : Env}
/-- behind the block: as the library says it, but of an error's way with the frame told -/
def postX (M : Model) (A : Around) (E : Value → Shared → Prop) (use : Option (Value → Sem Unit)) (Qf : Value → Shared → Prop) (acc : Value) (C : Addr) (fr : Option Addr) (r : Result) (t : Shared) : Prop :=
  match r with
  | .ok f => compPost M A E use Qf acc C (.ok f) t
  | .error u => ∃ m, t.heap.Ns C m ∧
      ∀ hz, Heap.SameBut C t.heap hz →
        ∀ ev : Env, ev.locals = C → ev.frame = fr →
          wpAny M A (passOn "comprehension.variables-let-go" u ev : Sem Value) (fun _ _ => False) E { t with heap := hz }
theorem compX {ex : Expr} {sc : Scope} {ps : Pos} {mk fst : Sem Value} {g0 : Comprehension} {gs : List Comprehension} {cls : List (Str × Addr)} {use : Option (Value → Sem Unit)} {Qf : Value → Shared → Prop}
    (h1 : clausesOf ex = g0 :: gs) (h2 : ∀ x, foldedSetIterable g0.iter env x = pure x) (h3 : closureFor sc env = pure cls) (h4 : sc.kind = .function)
    (h5 : ∀ x ∈ sc.names, x.2 = .local → sc.names.lookup x.1 = some .local)
    (h6 : wpAny M A fst (fun x t1 => wpAny M A (pyIter x) (fun it t2 => wpAny M A mk (fun acc t3 =>
      wpAny M A (newFunctionEnv sc env.globals cls [] env.qual none .none (some env)) (fun cv t4 =>
        codeAny M A (.compStart ex 0 it acc { cv with scope := relabel sc env }) (postX M A E use Qf acc cv.locals cv.frame) t4) E t3) E t2) E t1) E s) :
    wpAny M A (comprehension ex sc env ps mk false fst use) Qf E s := by
  unfold comprehension
  rw [h3, h1]
  refine wpAny_bind (wpAny_mono h6 (fun x t1 k1 => ?_) fun _ _ z => z)
  refine wpAny_bind (wpAny_standAt (wpAny_bind (wpAny_of_eq (h2 x) ?_)))
  refine wpAny_bind (wpAny_holding (wpAny_mono k1 (fun it t2 k2 => ?_) fun _ _ z => z))
  refine wpAny_standIf (wpAny_bind (wpAny_mono k2 (fun acc t3 k3 => ?_) fun _ _ z => z))
  refine wpAny_bind (wpAny_pure (wpAny_bind (wpAny_mono k3 (fun cv t4 k4 => ?_) fun _ _ z => z)))
  dsimp only
  have v1 : ∀ x ∈ (sc.names.filter fun x => (x.2 == .local || x.2 == .cell) && x.1 != (".0" : Str)).reverse, x.2 = .local →
      Env.kindOf { cv with scope := relabel sc env } x.1 = some .local :=
    fun x hm hk => lookup_relabel_local (h5 x (List.mem_filter.mp (List.mem_reverse.mp hm)).1 hk)
  refine wpAny_holding (wpAny_bind (wpAny_attempt (wpAny_holding (wpAny_run (codeAny_mono k4 fun r t hr => ?_)))))
  cases r with
  | ok f =>
    cases use with
    | none =>
      obtain ⟨m, km, kq⟩ := hr
      refine wpAny_bind (wpAny_holding (wpAny_comp_letGo (cenv := { cv with scope := relabel sc env }) h4 _ t m v1 km fun hz _ _ sb => ?_))
      exact wpAny_pure (kq hz sb)
    | some u =>
      refine wpAny_bind (wpAny_rule (wpAny_bind (wpAny_holding (wpAny_mono hr (fun _ t' kt => ?_) fun _ _ z => z))))
      obtain ⟨m, km, kq⟩ := kt
      refine wpAny_bind (wpAny_comp_letGo (cenv := { cv with scope := relabel sc env }) h4 _ t' m (fun x hm hk => ?_) km fun hz _ _ sb => ?_)
      · rcases List.mem_append.mp hm with z | z
        · exact v1 x (List.mem_of_mem_drop z) hk
        · exact v1 x (List.mem_of_mem_take z) hk
      · exact wpAny_pure (kq hz sb)
  | error u =>
    obtain ⟨m, km, kq⟩ := (show ∃ m, t.heap.Ns cv.locals m ∧ ∀ hz, Heap.SameBut cv.locals t.heap hz → ∀ ev : Env, ev.locals = cv.locals → ev.frame = cv.frame →
      wpAny M A (passOn "comprehension.variables-let-go" u ev : Sem Value) (fun _ _ => False) E { t with heap := hz } from by cases use <;> exact hr)
    refine wpAny_bind (wpAny_holding (wpAny_comp_letGo (cenv := { cv with scope := relabel sc env }) h4 _ t m v1 km fun hz _ _ sb => ?_))
    exact wpAny_mono (kq hz sb _ rfl rfl) (fun _ _ z => z.elim) fun _ _ z => z
end
theorem funFrames_at {g g' B B' : Heap} : ∀ {l : List Env}, g.FunFrames B l → (∀ b ∈ frs l, g'.get? b = g.get? b ∧ B'.get? b = none) → g'.FunFrames B' l
  | [], _, _ => trivial
  | ev :: l, h, k => by
    obtain ⟨hk, ⟨L, o, hf, _, ho, hd⟩, hr⟩ := h
    have z := k L (List.mem_filterMap.mpr ⟨ev, List.mem_cons_self, hf⟩)
    refine ⟨hk, ⟨L, o, hf, z.2, z.1.trans ho, hd⟩, funFrames_at hr fun b hb => k b ?_⟩
    obtain ⟨e, he, q⟩ := List.mem_filterMap.mp hb
    exact List.mem_filterMap.mpr ⟨e, List.mem_cons_of_mem _ he, q⟩
/-- the wish within a block: what a call lets out -/
def blkWish (X : Cx) (Y : Cx) (E : XK) : Value → Shared → Prop := fun u t => ∃ pins σ H s, Inv Y pins σ H s ∧ L2.CX X.prog X.w X.stack H s E u t
section
variable {X : Cx} {pins pinsb : List (Addr × Obj)} {σ σb : L2.St} {H3 H0 : Hp} {s3 s0 t : Shared} {sc : Scope} {ce : Env} {fp : List Addr} {E : XK} {u : Value}
/-- what leaves the block by a call is noted, let go, and in the def's air -/
theorem blk_err (hs : X.stack = X.env :: X.outer) (hf : X.env.frame = some X.env.locals) (tk : Takes X (fun cls d _ H => E cls d H))
    (I3 : Inv X pins σ H3 s3) (f3 : ∀ b ∈ fp, FpOk X pins H3 b) (hcf : ce.frame = X.env.frame) (hcl : ce.locals = s3.heap.objs.size)
    (Ib : Inv (X.blk s3 H3 sc ce fp) pinsb σb H0 s0) (c : L2.CX X.prog X.w X.stack H0 s0 E u t) {use : Option (Value → Sem Unit)} {Qf : Value → Shared → Prop} {acc : Value} :
    notedBy (model X.prog X.w) X.A ce (fun u t' => postX (model X.prog X.w) X.A X.xe use Qf acc s3.heap.objs.size X.env.frame (.error u) t') u t := by
  obtain ⟨a, B, H', cls, d, rfl, fl, hok, ub, na, os, ag, hE⟩ := c
  have e1 : noteFrame (.ref a) ce = noteFrame (.ref a) X.env := by
    unfold noteFrame PySem.frameOf
    rw [hcf]
  have hfr : X.A.frames = some (X.env :: X.outer) := by rw [I3.ok.frames, hs]
  have fl0 := fl
  rw [hs] at fl
  unfold notedBy
  rw [e1]
  refine HandSPX.looks_onZ Zc.steady hfr hf fl fun h1 held up => ?_
  rw [← hs] at held
  -- the block's own dict
  obtain ⟨m0, ⟨oC, es, ep, hoC, hdC, hmC⟩, _⟩ := Ib.loc
  have hoC : s0.heap.get? ce.locals = some oC := hoC
  rw [hcl] at hoC
  have n0 : H0 s3.heap.objs.size = none := by
    have z : H0 ce.locals = none := Ib.free
    rwa [hcl] at z
  have Cfr : s3.heap.objs.size ∉ frs X.stack := fun hm => by
    obtain ⟨_, o, ho, _⟩ := I3.stack.mem hm
    exact absurd (Heap.lt_size ho) (Nat.lt_irrefl _)
  have bC : B.get? s3.heap.objs.size = some oC := ub.keep _ _ hoC n0 Cfr
  have nC : H' s3.heap.objs.size = none := ub.free _ _ hoC n0
  obtain ⟨w1, w2, w3, oe, vs, Tb, oT, ts, z1, z2, z3, z4, z5, z6, z7, z8, z9⟩ := held
  have aC : a ≠ s3.heap.objs.size := fun z => by
    rw [z] at w2
    rw [bC] at w2
    cases w2
  have tC : Tb ≠ s3.heap.objs.size := fun z => by
    rw [z] at z5
    rw [bC] at z5
    cases z5
  refine ⟨m0, ⟨oC, es, ep, w1 _ _ bC, hdC, hmC⟩, fun hz sb ev hl hef => ?_⟩
  have sbn : ∀ b, b ≠ s3.heap.objs.size → hz.get? b = h1.get? b := sb.2
  generalize hB' : PySem.W.hideAll B [s3.heap.objs.size] = B'
  have gB : ∀ b o, B.get? b = some o → b ≠ s3.heap.objs.size → B'.get? b = some o := fun b o e ne => by
    rw [← hB']
    exact PySem.W.hideAll_get _ e (by simpa using ne)
  have ofB : ∀ b o, B'.get? b = some o → B.get? b = some o ∧ b ≠ s3.heap.objs.size := fun b o e => by
    rw [← hB'] at e
    refine ⟨PySem.W.of_hideAll _ e, fun z => ?_⟩
    rw [PySem.W.hideAll_none _ (by simpa using z)] at e
    cases e
  have noB : ∀ b, B.get? b = none → B'.get? b = none := fun b e => by
    cases q : B'.get? b with
    | none => rfl
    | some o =>
      have := (ofB b o q).1
      rw [e] at this
      cases this
  have stz : B'.StaysIn hz := fun b o e => by
    obtain ⟨x1, x2⟩ := ofB b o e
    rw [sbn b x2]
    exact w1 b o x1
  have fz : hz.FunFrames B' X.stack := funFrames_at w3 fun b hb => ⟨sbn b fun z => Cfr (z ▸ hb), noB b (w3.mem hb).1⟩
  have tr : HandSPX.TracedZ hz B' a (Zc cls d) (rawInt X.env.locals) := ⟨oe, vs, Tb, oT, ts, (sbn a aC).trans z1, z2, z3, z4, noB Tb z5, z6, (sbn Tb tC).trans z7, z8, z9⟩
  unfold PySem.passOn
  refine wpAny_bind (wpAny_field ((sbn a aC).trans z1) z3 z4 ?_)
  rw [if_neg (show ¬ ((Value.ref Tb == Value.none) = true) from by simp)]
  refine wpAny_bind (HandSPX.setFlight_anyZ stz fz tr fun h2 k1 k2 k3 k4 => ?_)
  refine wpAny_throw (tk _ _ ?_)
  rw [hef, hf] at k3
  obtain ⟨G, g1, g2⟩ := restrict h2 fun b => (B'.get? b).isSome || decide (b ∈ frs X.stack)
  have gG : ∀ b o, B'.get? b = some o → G.get? b = some o := fun b o e => by
    rw [g1 b (by simp [e])]
    exact k1 b o e
  have gF : ∀ b, b ∈ frs X.stack → G.get? b = h2.get? b := fun b hb => g1 b (by simp [hb])
  have og : ∀ b o, G.get? b = some o → h2.get? b = some o ∧ ((B'.get? b).isSome = true ∨ b ∈ frs X.stack) := fun b o e => by
    cases q : ((B'.get? b).isSome || decide (b ∈ frs X.stack)) with
    | false =>
      rw [g2 b q] at e
      cases e
    | true =>
      rw [g1 b q] at e
      exact ⟨e, by simpa [Bool.or_eq_true] using q⟩
  -- a caller's frame, from the start of the block to here
  have slots : ∀ b o, s0.heap.get? b = some o → b ∈ frs X.stack → ∃ sl, h2.get? b = some { o with slots := sl } := fun b o e hb => by
    obtain ⟨sl, q⟩ := ub.slot b o e hb
    have nf : ∀ vs, o.data ≠ .fields vs := by
      obtain ⟨_, o', ho', hd'⟩ := fl0.2.2.1.mem hb
      rw [q] at ho'
      injection ho' with ho'
      rw [← ho'] at hd'
      exact hd'
    obtain ⟨sl2, q2⟩ := up b _ q nf
    have q3 : hz.get? b = some { o with slots := sl2 } := (sbn b fun z => Cfr (z ▸ hb)).trans q2
    obtain ⟨sl3, q4⟩ := k4 b _ q3 nf
    exact ⟨sl3, q4⟩
  have ne3 : ∀ b o, s3.heap.get? b = some o → b ≠ s3.heap.objs.size := fun b o e => Nat.ne_of_lt (Heap.lt_size e)
  have bs := Ib.base
  refine ⟨a, B', { s3 with heap := G, gens := t.gens, drawn := t.drawn, toks := t.toks }, pins, σ, H', cls, d, rfl, ?_, fun b o e hb => ?_, Heap.UpToSlots.of_keeps fun b o e => (og b o e).1, .inr (.inr ⟨k1, noB a w2, k2, k3⟩), na, ?_, ag, hE⟩
  · refine I3.call (ch := fp) ⟨fun b o e n hb hx => ?_, fun b o e n hb hx => ?_, fun b o e n hx => ?_, fun b o e hx => ?_, fun b xs e => ub.tups _ _ (bs.tups b xs e), fun b o xs e => ub.frzs _ _ _ (bs.frzs b o xs e), fun b ps e => ?_⟩ ?_ ag fun b hb => ⟨(f3 b hb).2.2.2.1, (f3 b hb).2.1, (f3 b hb).2.2.2.2.1, (f3 b hb).2.2.2.2.2⟩
    · exact gG _ _ (gB _ _ (ub.keep _ _ (bs.keep b o e n hb hx) (bs.free b o e n hx) hb) (ne3 b o e))
    · obtain ⟨sl, q⟩ := bs.slot b o e n hb hx
      obtain ⟨sl2, q2⟩ := slots b _ q hb
      exact ⟨sl2, by rw [gF b hb]; exact q2⟩
    · obtain ⟨o', q⟩ := bs.there b o e hx
      exact ub.free b o' q (bs.free b o e n hx)
    · obtain ⟨o', q⟩ := bs.there b o e hx
      by_cases hb : b ∈ frs X.stack
      · obtain ⟨sl2, q2⟩ := slots b _ q hb
        exact ⟨_, by rw [gF b hb]; exact q2⟩
      · obtain ⟨o2, q2⟩ := ub.there b o' q hb
        exact ⟨o2, gG _ _ (gB _ _ q2 (ne3 b o e))⟩
    · obtain ⟨m1, q1⟩ := bs.tbls b ps e
      obtain ⟨m2, q2⟩ := ub.tbls b _ q1
      exact ⟨m1 ++ m2, by rw [q2, Array.append_assoc]⟩
    · intro b o q
      refine ((hok b o q).stay (fun x v hx r => ?_) (fun _ r => r) fun _ _ r => r : ObjOk X.prog X.w H' G b o)
      refine gG _ _ (gB _ _ r fun z => ?_)
      rw [← z] at nC
      rcases hx with hx | hx
      · rw [hx, q] at nC
        cases nC
      · rw [hx] at nC
        cases nC
  · obtain ⟨e', h⟩ := og b o e
    rcases h with h | h
    · obtain ⟨o', q⟩ := Option.isSome_iff_exists.mp h
      have z := k1 b o' q
      rw [e'] at z
      cases z
      exact q
    · exact absurd h hb
  · show t.os = s3.os
    exact os.trans Ib.os
end
section
variable {X : Cx} {E : XK}
/-- a call in the block -/
theorem passB {Y : Cx} (hst : Y.stack = X.stack) (hp : Y.prog = X.prog) (hw : Y.w = X.w) : Passes (L2.CX Y.prog Y.w) (Y.wish (blkWish X Y E)) E := fun pn σ1 H1 t1 u t2 I c => by
  refine ⟨pn, σ1, H1, t1, I.unwish, ?_⟩
  have c : L2.CX Y.prog Y.w Y.stack H1 t1 E u t2 := c
  rw [hst, hp, hw] at c
  exact c
theorem lcx {pins : List (Addr × Obj)} {s : Shared} {σ : L2.St} {H : Hp} {Q : VK} {elt tg iter : Expr} {ifs : List Expr} {sc : Scope} {own : List (Str × Nat)} {p1 p2 : Pos} {wi : TI} {g : TG} {tt : TT} {te : TE}
    {use : Option (Value → Sem Unit)} {Qf : Value → Shared → Prop}
    (hs : X.stack = X.env :: X.outer) (hf : X.env.frame = some X.env.locals) (tk : Takes X (fun cls d _ H => E cls d H))
    (hc : X.calm = true) (hN : X.N.Nodup) (I : Inv X pins σ H s) (hi : PI X tg iter wi) (ok : BlkOk X.N X.env.scope sc own)
    (hg : ∀ (t : Shared) (H1 : Hp) (C : Addr) (cl : List (Str × Addr)) (fp : List Addr), PG (X.blk t H1 sc (compEnvC sc cl C X.env) fp) tg g)
    (ht : ∀ (t : Shared) (H1 : Hp) (C : Addr) (cl : List (Str × Addr)) (fp : List Addr), PTs (X.blk t H1 sc (compEnvC sc cl C X.env) fp) ifs tt)
    (he : ∀ (t : Shared) (H1 : Hp) (C : Addr) (cl : List (Str × Addr)) (fp : List Addr), PE ((X.blk t H1 sc (compEnvC sc cl C X.env) fp).wish (blkWish X (X.blk t H1 sc (compEnvC sc cl C X.env) fp) E)) elt te)
    (hfd : ∀ x, foldedSetIterable iter X.env x = pure x) (h : tLc wi g tt te (own.map (·.2)) σ H Q)
    (hQ : ∀ D C t m H1, Inv X pins σ H1 t → Q (.ref D) H1 → t.heap.Ns C m → FpOk X pins H1 C → compPost (model X.prog X.w) X.A X.xe use Qf (.ref D) C (.ok .next) t) :
    wpAny (model X.prog X.w) X.A (comprehension (.ListComp elt [⟨tg, iter, ifs, 0⟩] sc p1) sc X.env p2 (newList []) false (eval iter X.env) use) Qf X.xe s := by
  have fr : ∀ y ∈ sc.names, y.2 = .free → ∃ c, X.env.cells.lookup y.1 = some c := fun y hy e =>
    (ok.free y hy e).elim (fun k => I.ok.has _ (.inl k)) fun k => I.ok.has _ (.inr k)
  refine compX rfl hfd (closure_ok fr) ok.kind (fun y hy e => (ok.uniq y hy).trans (congrArg some e)) (thn (hi.run pins s σ H _ I h) fun xv t1 k1 => thn k1 fun itv t2 k2 => ?_)
  obtain ⟨it, fp, tn, J, H2, rfl, I2, T, b2, f2, q⟩ := k2
  refine wpAny_newObj_type (newEnv_comp ?_) (by show 0 ≤ sizeLine; decide)
  generalize eD : t2.heap.objs.size = D
  obtain ⟨W, ⟨m0, w0⟩, turn⟩ := q D (I2.hok.fresh (Nat.le_of_eq eD))
  generalize e3 : ({ t2 with heap := t2.heap.push { cls := .type "list", data := .seq ([] : List Value).toArray } } : Shared) = t3
  have hp3 : t3.heap = t2.heap.push { cls := .type "list", data := .seq ([] : List Value).toArray } := by rw [← e3]
  have I3 : Inv X pins σ (upd H2 D (.lst [])) t3 := by
    rw [← e3]
    exact I2.laid (t' := t2.toks) (fun b o e => Heap.get?_push_of_some _ e) (Nat.le_of_eq eD) ⟨Nat.zero_le _, [], 0, .nil, by rw [← eD]; exact Heap.get?_push_size _ rfl⟩
  have lt2 : ∀ b ∈ fp, b < t2.heap.objs.size := fun b hb =>
    let ⟨_, e, _⟩ := T.obj _ _ b2 b hb
    Heap.lt_size e
  have f3 : ∀ b ∈ fp, FpOk X pins (upd H2 D (.lst [])) b ∧ b < t3.heap.objs.size := fun b hb => by
    have z := lt2 b hb
    refine ⟨⟨?_, (f2 b hb).2⟩, ?_⟩
    · rw [upd_ne (by rw [← eD]; exact Nat.ne_of_lt z)]
      exact (f2 b hb).1
    · rw [hp3, Heap.size_push]
      exact Nat.lt_succ_of_lt z
  have b3 : tn 0 t3.heap := T.keep _ _ _ b2 fun b _ o e => by
    rw [hp3]
    exact Heap.get?_push_of_some _ e
  have I4 := block_start I3 ok hN f3
  generalize eC : cellsFrom (t3.heap.objs.size + 1) sc.names (cloFrom X.env.cells sc.names []) = cl at I4
  have gg := hg t3 (upd H2 D (.lst [])) t3.heap.objs.size cl fp
  have gt := ht t3 (upd H2 D (.lst [])) t3.heap.objs.size cl fp
  have ge := he t3 (upd H2 D (.lst [])) t3.heap.objs.size cl fp
  have nf : ∀ b ∈ fp, (upd H2 D (.lst [])) b = none := fun b hb => (f3 b hb).1.1
  show codeAny _ _ (.compStart _ 0 (.ref it) (.ref D) (compEnvC sc cl t3.heap.objs.size X.env))
    (postX (model X.prog X.w) X.A X.xe use Qf (.ref D) t3.heap.objs.size X.env.frame) { t3 with heap := pushCells (t3.heap.push { cls := .type "dict", data := .dict #[] }) sc.names }
  generalize ec : compEnvC sc cl t3.heap.objs.size X.env = ce at I4 gg gt ge ⊢
  have cL : ce.locals = t3.heap.objs.size := by rw [← ec]; rfl
  have cF : ce.frame = X.env.frame := by rw [← ec]; rfl
  generalize eH : upd H2 D (.lst []) = H3 at I3 I4 gg gt ge w0 nf f3
  generalize e4 : ({ t3 with heap := pushCells (t3.heap.push { cls := .type "dict", data := .dict #[] }) sc.names } : Shared) = t4 at I4 ⊢
  have b4 : tn 0 t4.heap := T.keep _ _ _ b3 fun b _ o e => by
    rw [← e4]
    exact pushCells_keeps _ _ _ _ (Heap.get?_push_of_some _ e)
  have still : ∀ {σ1 : L2.St} {H1 : Hp} {u : Shared}, Inv (X.blk t3 H3 sc ce fp) [] σ1 H1 u → (∀ b ∈ fp, H1 b = none) → ∀ b ∈ fp, FpOk (X.blk t3 H3 sc ce fp) [] H1 b := fun {σ1 H1 u} J1 hn b hb => by
    refine ⟨hn b hb, (J1.ok.exf b hb).1, J1.ok.exfs b hb, .inl hb, fun x c e => (J1.ok.exf b hb).2 x c e, fun p hp => ?_⟩
    exact absurd (show p ∈ ([] : List (Addr × Obj)) ++ [] from hp) (by simp)
  have loop : codeAny (model X.prog X.w) X.A (.compLoop (.ListComp elt [⟨tg, iter, ifs, 0⟩] sc p1) 0 (.ref it) (.ref D) ce) (postX (model X.prog X.w) X.A X.xe use Qf (.ref D) t3.heap.objs.size X.env.frame) t4 := by
    refine compLoop_any (fun n u => ∃ i H1, Inv (X.blk t3 H3 sc ce fp) [] (wipe σ (own.map (·.2))) H1 u ∧ tn i u.heap ∧ (∀ b ∈ fp, H1 b = none) ∧ W i n H1) ?_ m0 ⟨0, H3, I4, b4, nf, w0⟩
    rintro n t5 ⟨i, H5, I5, b5, n5, w5⟩
    rcases turn i n H5 w5 with ⟨stop, qq⟩ | ⟨go, Nx, hNx, step⟩
    · refine thnF (T.done (X.blk t3 H3 sc ce fp) rfl rfl rfl hc i [] t5 _ H5 (fun _ _ => False) I5 (still I5 n5) b5 stop) fun r t6 ⟨hr, I6⟩ => ?_
      subst hr
      have back : Inv X pins σ H5 t6 := I3.call' (ch := fp) I6.os I6.base I6.hok I6.bare fun b hb =>
        ⟨(f3 b hb).1.2.2.2.1, (f3 b hb).1.2.1, (f3 b hb).1.2.2.2.2.1, (f3 b hb).1.2.2.2.2.2⟩
      have nC : H5 t3.heap.objs.size = none := by
        have z : H5 ce.locals = none := I6.free
        rwa [cL] at z
      obtain ⟨m, km, _⟩ := I6.loc
      have km : t6.heap.Ns ce.locals m := km
      rw [cL] at km
      exact hQ D t3.heap.objs.size t6 m H5 back qq km (I3.fpOk (Nat.le_refl _) nC)
    · refine thnF (T.item (X.blk t3 H3 sc ce fp) rfl rfl rfl hc i [] t5 _ H5 (fun _ _ => False) I5 (still I5 n5) b5 go) fun r t6 ⟨v, hr, k6⟩ => ?_
      subst hr
      refine thnF k6 fun _ t7 ⟨x, H7, I7, r7, y7, b7, n7⟩ => ?_
      refine thnF (gg.run _ t7 _ H7 x v _ (I7.pinned (still I7 n7) (T.obj _ _ b7)) r7 (step x H7 y7)) fun _ t8 ⟨σ8, H8, I8, hw8, q8⟩ => ?_
      refine thnF (gt.run _ t8 σ8 H8 _ I8 q8) fun b t9 ⟨H9, I9, q9⟩ => ?_
      have fin : ∀ {u : Shared} {H1 : Hp}, Inv (X.blk t3 H3 sc ce fp) ([] ++ pinsAt fp t7.heap) σ8 H1 u → Nx H1 →
          ∃ m, m < n ∧ ∃ i H1, Inv (X.blk t3 H3 sc ce fp) [] (wipe σ (own.map (·.2))) H1 u ∧ tn i u.heap ∧ (∀ b ∈ fp, H1 b = none) ∧ W i m H1 := fun {u H1} J1 nx => by
        obtain ⟨m1, hm, w1⟩ := hNx H1 nx
        have pn : ∀ b ∈ fp, ∀ o, t7.heap.get? b = some o → u.heap.get? b = some o ∧ H1 b = none := fun b hb o e => by
          have z := J1.pin (b, o) (List.mem_append_right _ (List.mem_append_right _ (mem_pinsAt hb e)))
          exact ⟨z.1, z.2.1⟩
        refine ⟨m1, hm, i + 1, H1, (J1.unpinned (pins := [])).weak (by rw [← hw8, wipe_length]) (fun j v e => ?_), T.keep _ _ _ b7 fun b hb o e => (pn b hb o e).1, fun b hb => ?_, w1⟩
        · rw [← hw8] at e
          exact (wipe_some e).1
        · obtain ⟨o, e, _⟩ := T.obj _ _ b7 b hb
          exact (pn b hb o e).2
      cases b with
      | false =>
        simp only [Bool.false_eq_true, if_false] at q9 ⊢
        exact fin I9 q9
      | true =>
        simp only [if_true] at q9 ⊢
        refine wpAny_mono (ge.run _ t9 σ8 H9 _ (I9.wish _) q9) (fun z t10 k10 => ?_) (fun w t10 k10 => ?_)
        · obtain ⟨yv, H10, I10, r10, acc, hD, hz, nx⟩ := k10
          exact app_ok (X := X.blk t3 H3 sc ce fp) I10.unwish hD hz r10 fun t11 I11 => fin I11 nx
        · obtain ⟨pn, σ1, H1, u1, Ib, c⟩ := k10
          exact blk_err hs hf tk I3 (fun b hb => (f3 b hb).1) cF cL Ib c
  exact codeAny_compStart_list loop (T.self X.A 0 _ _ _ b4 loop)
/-- [.. for ..] whose element may raise, as a value -/
theorem pe_lcX {elt tg iter : Expr} {ifs : List Expr} {sc : Scope} {own : List (Str × Nat)} {pos : Pos} {wi : TI} {g : TG} {tt : TT} {te : TE} (hs : X.stack = X.env :: X.outer) (hf : X.env.frame = some X.env.locals) (tk : Takes X (fun cls d _ H => E cls d H))
    (hc : X.calm = true) (hN : X.N.Nodup) (hi : PI X tg iter wi) (ok : BlkOk X.N X.env.scope sc own)
    (hg : ∀ (t : Shared) (H1 : Hp) (C : Addr) (cl : List (Str × Addr)) (fp : List Addr), PG (X.blk t H1 sc (compEnvC sc cl C X.env) fp) tg g)
    (ht : ∀ (t : Shared) (H1 : Hp) (C : Addr) (cl : List (Str × Addr)) (fp : List Addr), PTs (X.blk t H1 sc (compEnvC sc cl C X.env) fp) ifs tt)
    (he : ∀ (t : Shared) (H1 : Hp) (C : Addr) (cl : List (Str × Addr)) (fp : List Addr), PE ((X.blk t H1 sc (compEnvC sc cl C X.env) fp).wish (blkWish X (X.blk t H1 sc (compEnvC sc cl C X.env) fp) E)) elt te)
    (hfd : ∀ x, foldedSetIterable iter X.env x = pure x := by intro _; rfl) : PE X (.ListComp elt [⟨tg, iter, ifs, 0⟩] sc pos) (tLc wi g tt te (own.map (·.2))) := by
  refine ⟨fun pins s σ H Q I h => ?_⟩
  rw [eval_ListComp]
  refine lcx hs hf tk hc hN I hi ok hg ht he hfd h fun D C t m H1 J1 q km f => ⟨m, km, fun hz sb => ?_⟩
  exact ⟨.ref D, H1, J1.turned (t' := t.toks) (fun b o hb e => (sb.2 b hb).trans e) f.1 f.2.1 f.2.2.2.1 f.2.2.2.2.1 f.2.2.2.2.2, rfl, q⟩
/-- y = [.. for ..] on one line, the element may raise -/
theorem ps_setLcX {i : Nat} {y : Str} {py : Pos} {elt tg iter : Expr} {ifs : List Expr} {sc : Scope} {own : List (Str × Nat)} {pos sp : Pos} {wi : TI} {g : TG} {tt : TT} {te : TE} (hs : X.stack = X.env :: X.outer) (hf : X.env.frame = some X.env.locals) (tk : Takes X (fun cls d _ H => E cls d H))
    (hc : X.calm = true) (hN : X.N.Nodup) (hy : X.N[i]? = some y) (hl : X.env.scope.names.lookup y = some .local)
    (hw : swapsWith (.ListComp elt [⟨tg, iter, ifs, 0⟩] sc pos) (some (.Name y py)) sp.line X.env = pure true) (hi : PI X tg iter wi) (ok : BlkOk X.N X.env.scope sc own)
    (hg : ∀ (t : Shared) (H1 : Hp) (C : Addr) (cl : List (Str × Addr)) (fp : List Addr), PG (X.blk t H1 sc (compEnvC sc cl C X.env) fp) tg g)
    (ht : ∀ (t : Shared) (H1 : Hp) (C : Addr) (cl : List (Str × Addr)) (fp : List Addr), PTs (X.blk t H1 sc (compEnvC sc cl C X.env) fp) ifs tt)
    (he : ∀ (t : Shared) (H1 : Hp) (C : Addr) (cl : List (Str × Addr)) (fp : List Addr), PE ((X.blk t H1 sc (compEnvC sc cl C X.env) fp).wish (blkWish X (X.blk t H1 sc (compEnvC sc cl C X.env) fp) E)) elt te)
    (hfd : ∀ x, foldedSetIterable iter X.env x = pure x := by intro _; rfl) : PS X (.Assign [.Name y py] (.ListComp elt [⟨tg, iter, ifs, 0⟩] sc pos) sp) (tAsg (tLc wi g tt te (own.map (·.2))) (gName i)) := by
  refine ⟨fun pins s σ H D I h => ?_⟩
  rw [exec_Assign_Name_used _ _ _ _ hw]
  refine wpAny_bind (wpAny_standAt (wpAny_bind ?_))
  have h : tLc wi g tt te (own.map (·.2)) σ H (fun x H1 => gName i x σ H1 D.nx) := h
  refine wpAny_bind (thn (lcx (use := some (assign (.Name y py) X.env)) (Qf := fun _ t => SP X pins D .next t) hs hf tk hc hN I hi ok hg ht he hfd h fun L C t m H1 J1 q km f => ?_) fun _ t kt => wpAny_pure (wpAny_pure kt))
  refine wpAny_assign_Name (store_ok2 (v := V.ref L) J1 hN hy (.inl hl) rfl (fun t2 J2 ⟨a, sb, ka⟩ => ?_) (.inr hl))
  obtain ⟨c0, c1, c2, c3, c4, c5⟩ := f
  have Ca : C ≠ a := by
    rcases ka with z | z
    · rw [z]; exact c1
    · exact fun e => c4 y a z e.symm
  refine ⟨m, km.sameBut sb Ca, fun hz sb3 => ⟨_, H1, J2.turned (t' := t2.toks) (fun b o hb e => (sb3.2 b hb).trans e) c0 c1 c3 c4 c5, q⟩⟩
end
end N
set_option Elab.async false
set_option linter.all false
set_option maxRecDepth 100000
set_option maxHeartbeats 4000000
/-! Calls within a try; lists three deep; isinstance of errors. -/
namespace N
open PySem PySem.Spec PyProof.Rows L2
section
variable {X : Cx} {CX : CXT} {k : Nat} {f C : Addr} {ps : List Str} {sp : Sp} {E : L2.St → XK} {x m : Str} {p pos apos : Pos} {e o : Expr} {es : List Expr} {ta : TE} {t : TA}
/-- f(..) in a try's body: what is raised is wished for at the slots -/
def tClS (ps : List Str) (sp : Sp) (E : L2.St → XK) (t : TA) : TE := fun σ H Q => t σ H fun vs H1 => few ps sp vs H1 Q (E σ)
theorem pe_clS (D : Dn X.prog X.w X.K X.mg X.base CX k f ps sp) (hr : Room k X.A) (hm : X.mg x = some (.ref f)) (hx : ∀ σ, PassesAt CX X σ (E σ)) (ha : PA X (e :: es) t) (hg : Gl X x := by rfl)
    (hdb : (x == ("__debug__" : Str)) = false := by decide) (he : starEach (e :: es) X.env = (false, eval e X.env) :: starEach es X.env := by rfl) (hpl : (backTo pos (starEach es X.env)).any (·.1) = false := by rfl) :
    PE X (.Call (.Name x p) (e :: es) [] pos) (tClS ps sp E t) := by
  obtain ⟨fd, F, b, _⟩ := D.ex
  exact pe_callS (p := p) F hr hg hm D.kp b hx ha hdb he hpl
/-- o.m(..) of several classes, in a try's body -/
def tMFS {ι : Type} (C : ι → Addr) (ok : ι → Prop) (m : Str) (ps : List Str) (sp : ι → Sp) (E : L2.St → XK) (ta : TE) (t : TA) : TE := fun σ H Q => ta σ H fun x H1 => ∃ i a dx fs, ok i ∧ x = .ref a ∧ H1 a = some (.ins (C i) dx fs) ∧ fs.lookup m = none ∧
  t σ H1 fun vs H2 => few ps (sp i) (x :: vs) H2 Q (E σ)
theorem pe_mfS {ι : Type} {C : ι → Addr} {ok : ι → Prop} {sp : ι → Sp} {pl : Sem Bool} (D : Disp X.prog X.w X.K X.mg X.base CX k m C ok ps sp) (hr : Room k X.A) (hx : ∀ σ, PassesAt CX X σ (E σ)) (he : PE X o ta) (ha : PA X (e :: es) t)
    (hst : starEach (e :: es) X.env = (false, eval e X.env) :: starEach es X.env := by rfl) (hpl : (backTo pos (starEach es X.env)).any (·.1) = false := by rfl)
    (ht : eval (.Call (.Attribute o m apos) (e :: es) [] pos) X.env = (do
      let ov ← eval o X.env
      standAt apos.atName
      let (f, first) ← holding [ov] (getMethod ov m pl)
      callWith pos f first (backTo pos (starEach (e :: es) X.env)) (backToKw pos (keywordEach [] X.env))) := by rfl) :
    PE X (.Call (.Attribute o m apos) (e :: es) [] pos) (tMFS C ok m ps sp E ta t) := by
  refine ⟨fun pins s σ H Q I h => ?_⟩
  refine PySem.W.methodCall_KW (pl := pl) (thn (he.run pins s σ H _ I h) fun u s1 ⟨x, H1, I1, rx, i, a, dx, fs, hi, ex, ea, l, q⟩ => ?_) ht
  subst ex
  obtain rfl : u = Value.ref a := rx
  obtain ⟨f, hm, d⟩ := D.run i hi
  obtain ⟨fd, F, b, _⟩ := d.ex
  refine getmeth_ok I1 ea (D.cls i hi) hm l ?_
  refine PySem.W.callWith_K (first := [.ref a]) (h₀ := X.base) I1.ok.mod.kin hm.kp (thn (ha.run pos pins s1 σ H1 _ I1 q) fun us s2 ⟨vs, H2, I2, r, q2⟩ => ⟨I2.kIn, ?_⟩) hst hpl
  exact run_fnS (us := .ref a :: us) (vs := .ref a :: vs) F hr b (hx σ) I2 (.cons rfl r) q2
/-- C(..) in a try's body -/
def tMkS (C : Addr) (ps : List Str) (sp : Sp) (E : L2.St → XK) (t : TA) : TE := fun σ H Q => t σ H fun vs H1 => ∀ x dx, H1 x = none → H1 dx = none → dx ≠ x →
  few ps sp (.ref x :: vs) (upd (upd H1 dx (.own x)) x (.ins C dx [])) (fun v H2 => v = .non ∧ Q (.ref x) H2) (E σ)
theorem pe_mkS (M : Mk X.K C f) (D : Dn X.prog X.w X.K X.mg X.base CX k f ps sp) (hr : Room (k + 1) X.A) (hm : X.mg x = some (.ref C)) (hx : ∀ σ, PassesAt CX X σ (E σ)) (ha : PA X (e :: es) t) (hg : Gl X x := by rfl)
    (hdb : (x == ("__debug__" : Str)) = false := by decide) (he : starEach (e :: es) X.env = (false, eval e X.env) :: starEach es X.env := by rfl) (hpl : (backTo pos (starEach es X.env)).any (·.1) = false := by rfl) :
    PE X (.Call (.Name x p) (e :: es) [] pos) (tMkS C ps sp E t) := by
  obtain ⟨fd, F, b, _⟩ := D.ex
  refine ⟨fun pins s σ H Q I h => wpAny_Call_Name_kw (ld_glob I hg hm ?_ hdb)⟩
  refine PySem.W.callWith_K (h₀ := X.base) I.ok.mod.kin M.kp (thn (ha.run pos pins s σ H _ I h) fun us t1 ⟨vs, H1, I1, r, q⟩ => ⟨I1.kIn, ?_⟩) he hpl
  have z := q (t1.heap.objs.size + 1) t1.heap.objs.size (I1.hok.fresh (Nat.le_succ _)) (I1.hok.fresh (Nat.le_refl _)) (Nat.ne_of_lt (Nat.lt_succ_self _))
  have J := Inv.made (C := C) I1
  have rr : Vals (V.ref (t1.heap.objs.size + 1) :: vs) (Value.ref (t1.heap.objs.size + 1) :: us) := .cons rfl r
  have ll : (Value.ref (t1.heap.objs.size + 1) :: us).length = ps.length := by
    rw [← rr.length]
    exact F.len _ _ _ _ z
  have bb := b _ (Value.ref (t1.heap.objs.size + 1) :: us) J.kIn (by rw [List.append_nil]; exact ll)
  rw [List.append_nil] at bb
  refine wpAny_call (make_map (f := f) I1.kIn M.makes M.init (beq_iff_eq.mp M.fn) (codeAny_mono (F.run _ X.stack _ _ ⟨Value.ref (t1.heap.objs.size + 1) :: us, []⟩ (Value.ref (t1.heap.objs.size + 1) :: us) _ _ (E σ) (hr.make C us [])
    (J.env0.make C us []) bb rr z) fun w t2 hw => ?_))
  cases w with
  | error u => exact hx σ pins _ _ u t2 J hw
  | ok fl =>
    cases fl with
    | ret u =>
      obtain ⟨v, H', I3, rv, ev, q3⟩ := J.after hw
      subst ev
      exact ⟨rv, ⟨V.ref (t1.heap.objs.size + 1), H', I3, rfl, q3⟩⟩
    | next => exact False.elim hw
    | brk => exact False.elim hw
    | cont => exact False.elim hw
end
/-! ### lists three deep -/
/-- the addresses of such a list -/
def Own3 (x : Addr) (ps : List Addr) (ass : List (List Addr)) (b : Addr) : Prop := b = x ∨ b ∈ ps ∨ ∃ as ∈ ass, b ∈ as
/-- in the i-th row: its list, or a list in it -/
def InRow (ps : List Addr) (ass : List (List Addr)) (i : Nat) (b : Addr) : Prop := ps[i]? = some b ∨ ∃ as, ass[i]? = some as ∧ b ∈ as
structure L3 (H : Hp) (x : Addr) (ps : List Addr) (ass : List (List Addr)) (rows : List (List (List Nat))) : Prop where
  top : H x = some (.lst (ps.map V.ref))
  l1 : ps.length = rows.length
  l2 : ass.length = rows.length
  xo : ∀ i b, InRow ps ass i b → b ≠ x
  ap : ∀ i j b, InRow ps ass i b → InRow ps ass j b → i = j
  row : ∀ (i : Nat) p as leads, ps[i]? = some p → ass[i]? = some as → rows[i]? = some leads → LLs H p as leads
theorem InRow.own {x : Addr} {ps : List Addr} {ass : List (List Addr)} {i : Nat} {b : Addr} (h : InRow ps ass i b) : Own3 x ps ass b :=
  h.elim (fun e => .inr (.inl (List.mem_of_getElem? e))) fun ⟨as, e, hb⟩ => .inr (.inr ⟨as, List.mem_of_getElem? e, hb⟩)
theorem Own3.row {x : Addr} {ps : List Addr} {ass : List (List Addr)} {b : Addr} (h : Own3 x ps ass b) : b = x ∨ ∃ i, InRow ps ass i b := by
  rcases h with h | h | ⟨as, ha, h⟩
  · exact .inl h
  · obtain ⟨i, hi, e⟩ := List.getElem_of_mem h
    exact .inr ⟨i, .inl (by rw [List.getElem?_eq_getElem hi, e])⟩
  · obtain ⟨i, hi, e⟩ := List.getElem_of_mem ha
    exact .inr ⟨i, .inr ⟨as, by rw [List.getElem?_eq_getElem hi, e], h⟩⟩
theorem LLs.has {H : Hp} {p : Addr} {as : List Addr} {xss : List (List Nat)} (h : LLs H p as xss) : ∀ b, (b = p ∨ b ∈ as) → ∃ xs, H b = some (.lst xs) := fun b hb => by
  rcases hb with rfl | hb
  · exact ⟨_, h.top⟩
  · obtain ⟨i, hi, e⟩ := List.getElem_of_mem hb
    exact ⟨_, h.row i b _ (by rw [List.getElem?_eq_getElem hi, e]) (List.getElem?_eq_getElem (by rw [← h.len]; exact hi))⟩
theorem L3.at {H : Hp} {x : Addr} {ps : List Addr} {ass : List (List Addr)} {rows : List (List (List Nat))} (h : L3 H x ps ass rows) {i : Nat} {v : V} (hi : (ps.map V.ref)[i]? = some v) :
    ∃ p as leads, ps[i]? = some p ∧ ass[i]? = some as ∧ rows[i]? = some leads ∧ v = .ref p ∧ LLs H p as leads := by
  rw [List.getElem?_map] at hi
  cases e : ps[i]? with
  | none =>
    rw [e] at hi
    cases hi
  | some p =>
    rw [e] at hi
    have hil := (List.getElem?_eq_some_iff.mp e).1
    have h1 : i < rows.length := by rw [← h.l1]; exact hil
    have h2 : i < ass.length := by rw [h.l2]; exact h1
    exact ⟨p, ass[i], rows[i], rfl, List.getElem?_eq_getElem h2, List.getElem?_eq_getElem h1, (Option.some.inj hi).symm, h.row i p _ _ e (List.getElem?_eq_getElem h2) (List.getElem?_eq_getElem h1)⟩
theorem L3.has {H : Hp} {x : Addr} {ps : List Addr} {ass : List (List Addr)} {rows : List (List (List Nat))} (h : L3 H x ps ass rows) {b : Addr} (hb : Own3 x ps ass b) : ∃ xs, H b = some (.lst xs) := by
  rcases hb with rfl | hb | ⟨as, ha, hb⟩
  · exact ⟨_, h.top⟩
  · obtain ⟨i, hi, e⟩ := List.getElem_of_mem hb
    have h1 : i < rows.length := by rw [← h.l1]; exact hi
    have h2 : i < ass.length := by rw [h.l2]; exact h1
    exact (h.row i b _ _ (by rw [List.getElem?_eq_getElem hi, e]) (List.getElem?_eq_getElem h2) (List.getElem?_eq_getElem h1)).has b (.inl rfl)
  · obtain ⟨i, hi, e⟩ := List.getElem_of_mem ha
    have h1 : i < rows.length := by rw [← h.l2]; exact hi
    have h2 : i < ps.length := by rw [h.l1]; exact h1
    exact (h.row i _ as _ (List.getElem?_eq_getElem h2) (by rw [List.getElem?_eq_getElem hi, e]) (List.getElem?_eq_getElem h1)).has b (.inr hb)
theorem L3.keep {H H' : Hp} {x : Addr} {ps : List Addr} {ass : List (List Addr)} {rows : List (List (List Nat))} (h : L3 H x ps ass rows) (k : ∀ b o, Own3 x ps ass b → H b = some o → H' b = some o) : L3 H' x ps ass rows :=
  ⟨k _ _ (.inl rfl) h.top, h.l1, h.l2, h.xo, h.ap, fun i p as leads e1 e2 e3 => (h.row i p as leads e1 e2 e3).keep fun b o hb e => k b o (hb.elim (fun z => .inr (.inl (z ▸ List.mem_of_getElem? e1))) fun z => .inr (.inr ⟨as, List.mem_of_getElem? e2, z⟩)) e⟩
theorem L3.same {H H' : Hp} {x : Addr} {ps : List Addr} {ass : List (List Addr)} {rows : List (List (List Nat))} (h : L3 H x ps ass rows) (s : Same H H') : L3 H' x ps ass rows := h.keep fun b o _ e => s b o e
/-- such a list, new, as it is made -/
structure B3 (H0 H : Hp) (x : Addr) (ps : List Addr) (ass : List (List Addr)) (rows : List (List (List Nat))) : Prop where
  l3 : L3 H x ps ass rows
  same : Same H0 H
  new : ∀ b, Own3 x ps ass b → H0 b = none
theorem B3.nil {H0 H : Hp} {x : Addr} (s : Same H0 H) (n : H x = none) : B3 H0 (upd H x (.lst [])) x [] [] [] :=
  ⟨⟨upd_same, rfl, rfl, (fun i b h => by rcases h with h | ⟨as, h, _⟩ <;> cases h), (fun i j b h => by rcases h with h | ⟨as, h, _⟩ <;> cases h), fun i p as leads e => by cases e⟩, s.trans (Same.upd n), fun b hb => by
    rcases hb with rfl | hb | ⟨as, ha, _⟩
    · exact s.free n
    · cases hb
    · cases ha⟩
theorem B3.since {H0 H H' : Hp} {x : Addr} {ps : List Addr} {ass : List (List Addr)} {rows : List (List (List Nat))} (b : B3 H H' x ps ass rows) (s : Same H0 H) : B3 H0 H' x ps ass rows :=
  ⟨b.l3, s.trans b.same, fun c hc => none_of_same s (b.new c hc)⟩
theorem B3.same' {H0 H H' : Hp} {x : Addr} {ps : List Addr} {ass : List (List Addr)} {rows : List (List (List Nat))} (b : B3 H0 H x ps ass rows) (s : Same H H') : B3 H0 H' x ps ass rows := ⟨b.l3.same s, b.same.trans s, b.new⟩
theorem B3.snoc {H0 H H' : Hp} {x p : Addr} {ps as : List Addr} {ass : List (List Addr)} {rows : List (List (List Nat))} {leads : List (List Nat)} (b : B3 H0 H x ps ass rows) (r : Bld H H' p as leads) :
    B3 H0 (upd H' x (.lst (ps.map V.ref ++ [V.ref p]))) x (ps ++ [p]) (ass ++ [as]) (rows ++ [leads]) := by
  have old : ∀ c, Own3 x ps ass c → c ≠ p ∧ c ∉ as := fun c hc => by
    obtain ⟨xs, e⟩ := b.l3.has hc
    refine ⟨fun z => ?_, fun z => ?_⟩
    · rw [z, r.nD] at e
      cases e
    · rw [r.nas c z] at e
      cases e
  have hx := old x (.inl rfl)
  have hp := b.l3.l1
  have hq := b.l3.l2
  -- a row of the new list is an old one, or the last
  have inr : ∀ i c, InRow (ps ++ [p]) (ass ++ [as]) i c → InRow ps ass i c ∨ (i = rows.length ∧ (c = p ∨ c ∈ as)) := fun i c h => by
    rcases h with h | ⟨l, h, hc⟩
    · by_cases hi : i < ps.length
      · rw [List.getElem?_append_left hi] at h
        exact .inl (.inl h)
      · rw [List.getElem?_append_right (by omega)] at h
        have e0 : i - ps.length = 0 := by
          have := (List.getElem?_eq_some_iff.mp h).1
          simp only [List.length_singleton] at this
          omega
        rw [e0] at h
        exact .inr ⟨by omega, .inl (Option.some.inj h).symm⟩
    · by_cases hi : i < ass.length
      · rw [List.getElem?_append_left hi] at h
        exact .inl (.inr ⟨l, h, hc⟩)
      · rw [List.getElem?_append_right (by omega)] at h
        have e0 : i - ass.length = 0 := by
          have := (List.getElem?_eq_some_iff.mp h).1
          simp only [List.length_singleton] at this
          omega
        rw [e0] at h
        exact .inr ⟨by omega, .inr ((Option.some.inj h) ▸ hc)⟩
  have bad : ∀ i c, InRow ps ass i c → (c = p ∨ c ∈ as) → False := fun i c h1 h2 => by
    have := old c h1.own
    exact h2.elim this.1 this.2
  have xout : ∀ c, (c ∈ ps ∨ ∃ as ∈ ass, c ∈ as) → c ≠ x := fun c hc => by
    rcases Own3.row (x := x) (ps := ps) (ass := ass) (b := c) (hc.elim (fun h => .inr (.inl h)) fun h => .inr (.inr h)) with z | ⟨i, z⟩
    · intro _
      rcases hc with h | ⟨l, h1, h2⟩
      · obtain ⟨i, hi, e⟩ := List.getElem_of_mem h
        exact b.l3.xo i c (.inl (by rw [List.getElem?_eq_getElem hi, e])) z
      · obtain ⟨i, hi, e⟩ := List.getElem_of_mem h1
        exact b.l3.xo i c (.inr ⟨l, by rw [List.getElem?_eq_getElem hi, e], h2⟩) z
    · exact b.l3.xo i c z
  refine ⟨⟨by rw [upd_same, List.map_append]; rfl, by rw [List.length_append, List.length_append, b.l3.l1]; rfl, by rw [List.length_append, List.length_append, b.l3.l2]; rfl, fun i c h z => ?_, fun i j c h1 h2 => ?_, fun i q bs ld e1 e2 e3 => ?_⟩, N.Same.put (b.same.trans r.same) (b.new x (.inl rfl)), fun c hc => ?_⟩
  · rcases inr i c h with h | ⟨_, h⟩
    · exact b.l3.xo i c h z
    · rw [z] at h
      exact h.elim hx.1 hx.2
  · rcases inr i c h1 with h1 | ⟨k1, h1⟩ <;> rcases inr j c h2 with h2 | ⟨k2, h2⟩
    · exact b.l3.ap i j c h1 h2
    · exact (bad i c h1 h2).elim
    · exact (bad j c h2 h1).elim
    · rw [k1, k2]
  · by_cases c : i < ps.length
    · have h1 : i < rows.length := by rw [← b.l3.l1]; exact c
      rw [List.getElem?_append_left c] at e1
      rw [List.getElem?_append_left (by rw [b.l3.l2]; exact h1)] at e2
      rw [List.getElem?_append_left h1] at e3
      have z := b.l3.row i q bs ld e1 e2 e3
      refine (z.same r.same).keep fun a o ha e => ?_
      have : a ≠ x := ha.elim (fun w => w ▸ xout q (.inl (List.mem_of_getElem? e1))) fun w => xout a (.inr ⟨bs, List.mem_of_getElem? e2, w⟩)
      rw [upd_ne this]
      exact e
    · rw [List.getElem?_append_right (Nat.le_of_not_lt c)] at e1
      have e0 : i - ps.length = 0 := by
        have := (List.getElem?_eq_some_iff.mp e1).1
        simp only [List.length_singleton] at this
        omega
      rw [List.getElem?_append_right (by omega), show i - ass.length = 0 by omega] at e2
      rw [List.getElem?_append_right (by omega), show i - rows.length = 0 by omega] at e3
      rw [e0] at e1
      obtain rfl : p = q := Option.some.inj e1
      obtain rfl : as = bs := Option.some.inj e2
      obtain rfl : leads = ld := Option.some.inj e3
      refine r.ll.keep fun a o ha e => ?_
      have : a ≠ x := fun z => ha.elim (fun w => hx.1 (z.symm.trans w)) fun w => hx.2 (z ▸ w)
      rw [upd_ne this]
      exact e
  · rcases hc with rfl | hc | ⟨l, hl, hc⟩
    · exact b.new _ (.inl rfl)
    · rcases List.mem_append.mp hc with hc | hc
      · exact b.new c (.inr (.inl hc))
      · rw [List.mem_singleton] at hc
        rw [hc]
        exact b.same.free r.nD
    · rcases List.mem_append.mp hl with hl | hl
      · exact b.new c (.inr (.inr ⟨l, hl, hc⟩))
      · rw [List.mem_singleton] at hl
        exact b.same.free (r.nas c (hl ▸ hc))
/-! == of them -/
def dL3 (rows : List (List (List Nat))) : PyData := .list (rows.map dLL)
theorem eqvAll_dLL : ∀ xs ys : List (List (List Nat)), PyData.eqvAll (xs.map dLL) (ys.map dLL) = decide (xs = ys)
  | [], [] => rfl
  | [], _ :: _ => rfl
  | _ :: _, [] => rfl
  | x :: xs, y :: ys => by
    show (PyData.eqv (dLL x) (dLL y) && PyData.eqvAll (xs.map dLL) (ys.map dLL)) = _
    rw [eqvAll_dLL xs ys, eqv_dLL]
    by_cases c : x = y <;> by_cases c2 : xs = ys <;> simp [c, c2]
theorem eqv_dL3 (xs ys : List (List (List Nat))) : PyData.eqv (dL3 xs) (dL3 ys) = decide (xs = ys) := eqvAll_dLL xs ys
theorem depth_dLL (xss : List (List Nat)) : PyData.depth (dLL xss) ≤ 2 := by
  have := depth_dIs xss
  unfold dLL
  simp only [PyData.depth]
  omega
theorem can_dLLs : ∀ l : List (List (List Nat)), PyData.canLayAll0 (l.map dLL) = true
  | [] => rfl
  | x :: r => by
    show (PyData.canLay0 (dLL x) && PyData.canLayAll0 (r.map dLL)) = true
    rw [SeqAt.canLay_of_shaped (shaped_dLL x), can_dLLs r]
    rfl
theorem depth_dLLs : ∀ l : List (List (List Nat)), PyData.depthAll (l.map dLL) ≤ 2
  | [] => Nat.zero_le _
  | x :: r => by
    have h1 := depth_dLL x
    have h2 := depth_dLLs r
    simp only [List.map_cons, PyData.depthAll]
    omega
theorem shaped_dL3 (l : List (List (List Nat))) : SeqAt.shaped (dL3 l) = true := by
  have h1 := can_dLLs l
  have h2 := depth_dLLs l
  unfold dL3 SeqAt.shaped
  simp only [PyData.canLay0, PyData.depth, h1, Bool.true_and]
  exact decide_eq_true (by omega)
theorem dp_rows3 {K : PySem.W.Frag} {H : Hp} : ∀ (ps : List Addr) (ass : List (List Addr)) (rows : List (List (List Nat))), ps.length = rows.length → ass.length = rows.length → (∀ (i : Nat) p as leads, ps[i]? = some p → ass[i]? = some as → rows[i]? = some leads → LLs H p as leads) → DpAll K H (ps.map V.ref) (rows.map dLL)
  | [], _, [], _, _, _ => .nil
  | [], _, _ :: _, h1, _, _ => by cases h1
  | _ :: _, _, [], h1, _, _ => by cases h1
  | _ :: _, [], _ :: _, _, h2, _ => by cases h2
  | p :: ps, as :: ass, r :: rows, h1, h2, f => .cons (f 0 p as r rfl rfl rfl).dp (dp_rows3 ps ass rows (Nat.succ.inj h1) (Nat.succ.inj h2) fun i q bs ld e1 e2 e3 => f (i + 1) q bs ld e1 e2 e3)
theorem L3.dp {K : PySem.W.Frag} {H : Hp} {x : Addr} {ps : List Addr} {ass : List (List Addr)} {rows : List (List (List Nat))} (h : L3 H x ps ass rows) : Dp K H (.ref x) (dL3 rows) := .lst (SqL.of h.top) (dp_rows3 ps ass rows h.l1 h.l2 h.row)
section
variable {X : Cx}
def rEqL3 (f : Bool → Bool) : R2 := fun x y H Q => ∃ (p q : Addr) (ps : List Addr) (ass : List (List Addr)) (ps' : List Addr) (ass' : List (List Addr)) (xs ys : List (List (List Nat))), x = .ref p ∧ y = .ref q ∧ L3 H p ps ass xs ∧ L3 H q ps' ass' ys ∧ Q (.bl (f (decide (xs = ys)))) H
theorem op_eqL3 (hu : X.A.units + 64 < cLine) : OpR X (compareOp .Eq) (rEqL3 id) := by
  intro pins s σ H x y v u Q I rx ry h
  obtain ⟨p, q, _, _, _, _, xs, ys, rfl, rfl, h1, h2, k⟩ := h
  refine op_eqD hu pins s σ H _ _ v u Q I rx ry ⟨_, _, h1.dp, h2.dp, shaped_dL3 _, shaped_dL3 _, ?_⟩
  rw [eqv_dL3]
  exact k
theorem op_neL3 (hu : X.A.units + 64 < cLine) : OpR X (compareOp .NotEq) (rEqL3 not) := by
  intro pins s σ H x y v u Q I rx ry h
  obtain ⟨p, q, _, _, _, _, xs, ys, rfl, rfl, h1, h2, k⟩ := h
  refine op_neD hu pins s σ H _ _ v u Q I rx ry ⟨_, _, h1.dp, h2.dp, shaped_dL3 _, shaped_dL3 _, ?_⟩
  rw [eqv_dL3]
  exact k
end
end N
set_option linter.all false
/-! Turns of play: the sum of places, the first turn that leaves nought. Plain Lean. -/
namespace Gm
theorem sumN_from (L : Nat → List (List Nat)) : ∀ (ls : List Nat) (a : Nat), ls.foldl (fun f p => f ^^^ num L p) a = a ^^^ sumN L ls
  | [], a => by unfold sumN; rw [List.foldl_nil, List.foldl_nil, Nat.xor_zero]
  | p :: r, a => by
    unfold sumN
    rw [List.foldl_cons, List.foldl_cons, sumN_from L r, sumN_from L r, Nat.zero_xor, Nat.xor_assoc]
theorem sumN_cons (L : Nat → List (List Nat)) (p : Nat) (r : List Nat) : sumN L (p :: r) = num L p ^^^ sumN L r := by
  conv => lhs; unfold sumN
  rw [List.foldl_cons, sumN_from, Nat.zero_xor]
theorem sumN_app (L : Nat → List (List Nat)) (a b : List Nat) : sumN L (a ++ b) = sumN L a ^^^ sumN L b := by
  conv => lhs; unfold sumN
  rw [List.foldl_append, sumN_from]
  rfl
theorem sumN_snoc (L : Nat → List (List Nat)) {ls : List Nat} {i p : Nat} (h : ls[i]? = some p) : sumN L (ls.take (i + 1)) = sumN L (ls.take i) ^^^ num L p := by
  rw [List.take_succ, h, sumN_app]
  show _ ^^^ sumN L [p] = _
  rw [sumN_cons]
  show _ ^^^ (_ ^^^ 0) = _
  rw [Nat.xor_zero]
/-- a place left as a lead -/
def taken (ls : List Nat) (i : Nat) (lead : List Nat) : List Nat := ls.take i ++ lead ++ ls.drop (i + 1)
theorem sumN_taken (L : Nat → List (List Nat)) {ls : List Nat} {i p : Nat} (h : ls[i]? = some p) (lead : List Nat) : sumN L (taken ls i lead) = sumN L ls ^^^ (sumN L lead ^^^ num L p) := by
  have hd : ls.drop i = p :: ls.drop (i + 1) := by
    obtain ⟨hi, e⟩ := List.getElem?_eq_some_iff.mp h
    rw [List.drop_eq_getElem_cons hi, e]
  have e1 : sumN L ls = sumN L (ls.take i) ^^^ (num L p ^^^ sumN L (ls.drop (i + 1))) := by
    rw [← sumN_cons, ← hd, ← sumN_app, List.take_append_drop]
  unfold taken
  rw [sumN_app, sumN_app, e1]
  generalize sumN L (ls.take i) = A
  generalize sumN L (ls.drop (i + 1)) = B
  generalize sumN L lead = C
  generalize num L p = D
  refine Nat.eq_of_testBit_eq fun k => ?_
  simp only [Nat.testBit_xor]
  cases A.testBit k <;> cases B.testBit k <;> cases C.testBit k <;> cases D.testBit k <;> rfl
theorem xor_zero_iff {a b : Nat} (h : a ^^^ b = 0) : a = b := by
  have : a ^^^ (a ^^^ b) = a ^^^ 0 := by rw [h]
  rw [← Nat.xor_assoc, Nat.xor_self, Nat.zero_xor, Nat.xor_zero] at this
  exact this.symm
/-- whether a lead of p leaves nought where the sum is t -/
def hits (L : Nat → List (List Nat)) (t p : Nat) (lead : List Nat) : Bool := decide (sumN L lead ^^^ num L p = t)
def firstT (L : Nat → List (List Nat)) (t : Nat) : List Nat → Nat → Option (Nat × List Nat)
  | [], _ => none
  | p :: r, i => match (L p).find? (hits L t p) with
    | some lead => some (i, lead)
    | none => firstT L t r (i + 1)
def best (L : Nat → List (List Nat)) (ls : List Nat) : Option (Nat × List Nat) := if sumN L ls = 0 then none else firstT L (sumN L ls) ls 0
theorem firstT_some (L : Nat → List (List Nat)) (t : Nat) : ∀ (r : List Nat) (i j : Nat) (lead : List Nat), firstT L t r i = some (j, lead) → ∃ k p, j = i + k ∧ r[k]? = some p ∧ lead ∈ L p ∧ sumN L lead ^^^ num L p = t
  | p :: r, i, j, lead, h => by
    unfold firstT at h
    split at h
    · rename_i ld e
      cases h
      exact ⟨0, p, rfl, rfl, List.mem_of_find?_eq_some e, of_decide_eq_true (show decide (sumN L lead ^^^ num L p = t) = true from List.find?_some (p := hits L t p) e)⟩
    · obtain ⟨k, q, e1, e2, e3⟩ := firstT_some L t r (i + 1) j lead h
      exact ⟨k + 1, q, by omega, e2, e3⟩
theorem best_some {L : Nat → List (List Nat)} {ls : List Nat} {i : Nat} {lead : List Nat} (h : best L ls = some (i, lead)) : ∃ p, ls[i]? = some p ∧ lead ∈ L p ∧ sumN L (taken ls i lead) = 0 := by
  unfold best at h
  split at h
  · cases h
  · obtain ⟨k, p, e1, e2, e3, e4⟩ := firstT_some _ _ _ _ _ _ h
    rw [Nat.zero_add] at e1
    subst e1
    exact ⟨p, e2, e3, by rw [sumN_taken L e2, e4, Nat.xor_self]⟩
theorem firstT_none (L : Nat → List (List Nat)) (t : Nat) : ∀ (r : List Nat) (i : Nat), firstT L t r i = none → ∀ p ∈ r, ∀ lead ∈ L p, ¬ sumN L lead ^^^ num L p = t
  | p :: r, i, h, q, hq, lead, hl => by
    unfold firstT at h
    split at h
    · cases h
    · rename_i e
      rcases List.mem_cons.mp hq with rfl | hq
      · intro c
        exact absurd (decide_eq_true c) (List.find?_eq_none.mp e lead hl)
      · exact firstT_none L t r (i + 1) h q hq lead hl
theorem xor_lt {a t : Nat} (ht : t ≠ 0) (hb : a.testBit t.log2 = true) : a ^^^ t < a := by
  have h1 : t / 2 ^ t.log2 = 1 := by
    have h2 := Nat.log2_self_le ht
    have h3 : t < 2 ^ (t.log2 + 1) := Nat.lt_log2_self
    rw [Nat.pow_succ] at h3
    exact Nat.div_eq_of_lt_le (by omega) (by omega)
  have h4 : (a ^^^ t) / 2 ^ t.log2 = a / 2 ^ t.log2 ^^^ 1 := by rw [Nat.xor_div_two_pow, h1]
  have h5 : a / 2 ^ t.log2 % 2 = 1 := by
    rw [Nat.testBit_eq_decide_div_mod_eq] at hb
    exact of_decide_eq_true hb
  have h9 : ∀ x : Nat, x % 2 = 1 → x ^^^ 1 < x := fun x h5 => by
    have h6 : (x ^^^ 1) / 2 ^ 1 = x / 2 := by
      rw [Nat.xor_div_two_pow]
      show x / 2 ^ 1 ^^^ 0 = _
      rw [Nat.xor_zero, Nat.pow_one]
    have h7 : (x ^^^ 1) % 2 ^ 1 = 0 := by
      rw [Nat.xor_mod_two_pow, Nat.pow_one, h5]
      rfl
    rw [Nat.pow_one] at h6 h7
    omega
  have h8 : (a ^^^ t) / 2 ^ t.log2 < a / 2 ^ t.log2 := by
    rw [h4]
    exact h9 _ h5
  exact Nat.lt_of_div_lt_div h8
/-- some number's bit makes the sum's -/
theorem bit_of (L : Nat → List (List Nat)) (b : Nat) : ∀ (ls : List Nat), (sumN L ls).testBit b = true → ∃ p ∈ ls, (num L p).testBit b = true
  | [], h => by
    unfold sumN at h
    rw [List.foldl_nil, Nat.zero_testBit] at h
    cases h
  | p :: r, h => by
    rw [sumN_cons, Nat.testBit_xor] at h
    cases e : (num L p).testBit b with
    | true => exact ⟨p, List.mem_cons_self, e⟩
    | false =>
      rw [e, Bool.false_xor] at h
      obtain ⟨q, hq, e2⟩ := bit_of L b r h
      exact ⟨q, List.mem_cons_of_mem _ hq, e2⟩
theorem best_ne {L : Nat → List (List Nat)} (hL : Lesser L) {ls : List Nat} (h : sumN L ls ≠ 0) : ∃ i lead, best L ls = some (i, lead) := by
  cases e : best L ls with
  | some x => exact ⟨x.1, x.2, rfl⟩
  | none =>
    unfold best at e
    rw [if_neg h] at e
    have hno := firstT_none _ _ _ _ e
    have hb : (sumN L ls).testBit (sumN L ls).log2 = true := by
      rw [Nat.testBit_log2]
      exact h
    obtain ⟨p, hp, hpb⟩ := bit_of L _ ls hb
    have hlt : num L p ^^^ sumN L ls < num L p := xor_lt h hpb
    have hm := (mex_ok ((L p).map (sumN L))).2
    rw [← num_eq hL p] at hm
    obtain ⟨lead, hl, e2⟩ := List.mem_map.mp (hm _ hlt)
    refine absurd ?_ (hno p hp lead hl)
    rw [e2]
    rw [Nat.xor_comm (num L p), Nat.xor_assoc, Nat.xor_self, Nat.xor_zero]
/-- from nought every turn leaves something -/
theorem turn_ne {L : Nat → List (List Nat)} (hL : Lesser L) {ls : List Nat} (h : sumN L ls = 0) {i p : Nat} (hp : ls[i]? = some p) {lead : List Nat} (hl : lead ∈ L p) : sumN L (taken ls i lead) ≠ 0 := by
  rw [sumN_taken L hp, h, Nat.zero_xor]
  intro c
  have e := xor_zero_iff c
  have hm := (mex_ok ((L p).map (sumN L))).1
  rw [← num_eq hL p, ← e] at hm
  exact hm (List.mem_map.mpr ⟨lead, hl, rfl⟩)
/-- all turns -/
def turns (L : Nat → List (List Nat)) (ls : List Nat) (n : Nat) : List (List Nat) := (List.range n).flatMap fun i => (L (ls.getD i 0)).map (taken ls i)
theorem turns_succ (L : Nat → List (List Nat)) (ls : List Nat) (n : Nat) : turns L ls (n + 1) = turns L ls n ++ (L (ls.getD n 0)).map (taken ls n) := by
  unfold turns
  rw [List.range_succ, List.flatMap_append]
  simp
theorem turns_mem {L : Nat → List (List Nat)} {ls : List Nat} {n : Nat} (hn : n ≤ ls.length) {t : List Nat} (h : t ∈ turns L ls n) : ∃ i p lead, ls[i]? = some p ∧ lead ∈ L p ∧ t = taken ls i lead := by
  obtain ⟨i, hi, h2⟩ := List.mem_flatMap.mp h
  obtain ⟨lead, hl, rfl⟩ := List.mem_map.mp h2
  have hil : i < ls.length := by have := List.mem_range.mp hi; omega
  rw [List.getD_eq_getElem?_getD, List.getElem?_eq_getElem hil] at hl
  exact ⟨i, ls[i], lead, List.getElem?_eq_getElem hil, hl, rfl⟩
theorem turns_len {L : Nat → List (List Nat)} {ls : List Nat} {B : Nat} (h : ∀ p ∈ ls, (L p).length ≤ B) : ∀ n, n ≤ ls.length → (turns L ls n).length ≤ B * n
  | 0, _ => Nat.zero_le _
  | n + 1, hn => by
    rw [turns_succ, List.length_append, List.length_map]
    have ih := turns_len h n (by omega)
    have hl : (L (ls.getD n 0)).length ≤ B := by
      rw [List.getD_eq_getElem?_getD, List.getElem?_eq_getElem (show n < ls.length by omega)]
      exact h _ (List.getElem_mem _)
    rw [Nat.mul_succ]
    omega
/-- places no greater than B, of few and short leads -/
structure Small (L : Nat → List (List Nat)) (B : Nat) : Prop where
  few : ∀ p, p ≤ B → (L p).length ≤ 700
  short : ∀ p, p ≤ B → ∀ lead ∈ L p, lead.length ≤ 100
theorem taken_small {L : Nat → List (List Nat)} (hL : Lesser L) {B : Nat} {ls : List Nat} (h : ∀ p ∈ ls, p ≤ B) {i p : Nat} (hp : ls[i]? = some p) {lead : List Nat} (hl : lead ∈ L p) : ∀ q ∈ taken ls i lead, q ≤ B := by
  intro q hq
  unfold taken at hq
  rcases List.mem_append.mp hq with hq | hq
  · rcases List.mem_append.mp hq with hq | hq
    · exact h q (List.mem_of_mem_take hq)
    · have := hL p lead hl q hq
      have := h p (List.mem_of_getElem? hp)
      omega
  · exact h q (List.mem_of_mem_drop hq)
theorem taken_len {ls : List Nat} {i : Nat} {lead : List Nat} (h : lead.length ≤ 100) : (taken ls i lead).length ≤ ls.length + 100 := by
  unfold taken
  rw [List.length_append, List.length_append, List.length_take, List.length_drop]
  omega
end Gm
set_option Elab.async false
set_option linter.all false
set_option maxRecDepth 100000
set_option maxHeartbeats 4000000
/-! Slices by naturals; is, is not of truths; told turns. -/
namespace N
open PySem PySem.Spec PyProof.Rows L2
theorem cut_take (xs : List V) (n : Nat) : cutV xs none (some (n : Int)) = xs.take n := by
  unfold cutV
  rw [HT.sIx_none, HT.sIx_nat, List.drop_zero, Nat.sub_zero]
  by_cases c : n ≤ xs.length
  · rw [Nat.min_eq_left c]
  · rw [Nat.min_eq_right (by omega), List.take_length, List.take_of_length_le (by omega)]
theorem cut_drop (xs : List V) (n : Nat) : cutV xs (some (n : Int)) none = xs.drop n := by
  unfold cutV
  rw [HT.sIx_none, HT.sIx_nat]
  by_cases c : n ≤ xs.length
  · rw [Nat.min_eq_left c, List.take_of_length_le (by rw [List.length_drop]; omega)]
  · rw [Nat.min_eq_right (by omega), Nat.sub_self, List.take_zero, List.drop_eq_nil_of_le (by omega)]
theorem cut_mid (xs : List V) (a b : Nat) : cutV xs (some (a : Int)) (some (b : Int)) = (xs.drop a).take (b - a) := by
  unfold cutV
  rw [HT.sIx_nat, HT.sIx_nat]
  by_cases c : a ≤ xs.length
  · rw [Nat.min_eq_left c]
    by_cases d : b ≤ xs.length
    · rw [Nat.min_eq_left d]
    · rw [Nat.min_eq_right (by omega), List.take_of_length_le (by rw [List.length_drop]; omega), List.take_of_length_le (by rw [List.length_drop]; omega)]
  · rw [Nat.min_eq_right (show xs.length ≤ a by omega), List.drop_eq_nil_of_le (Nat.le_refl _), List.drop_eq_nil_of_le (by omega), List.take_nil, List.take_nil]
/-- a told turn -/
def TurnA (H : Hp) (v : V) : Option (Nat × List Nat) → Prop
  | none => ∃ t, v = .ref t ∧ H t = some (.tup [.bl false])
  | some (i, lead) => ∃ t D, v = .ref t ∧ H t = some (.tup [.bl true, .int (i : Int), .ref D]) ∧ H D = some (.lst (NL lead))
theorem TurnA.same {H H' : Hp} {v : V} : ∀ {o : Option (Nat × List Nat)}, TurnA H v o → Same H H' → TurnA H' v o
  | none, ⟨t, e, h⟩, s => ⟨t, e, s _ _ h⟩
  | some (i, lead), ⟨t, D, e, h1, h2⟩, s => ⟨t, D, e, s _ _ h1, s _ _ h2⟩
/-- a told turn as plain data -/
def dTurn : Option (Nat × List Nat) → PyData
  | none => .tuple [.bool false]
  | some (i, lead) => .tuple [.bool true, .int (i : Int), dI lead]
theorem TurnA.dp {K : PySem.W.Frag} {H : Hp} {v : V} : ∀ {o : Option (Nat × List Nat)}, TurnA H v o → Dp K H v (dTurn o)
  | none, ⟨t, e, h⟩ => by
    rw [e]
    exact .tup (SqT.of h) (.cons (.bl false) .nil)
  | some (i, lead), ⟨t, D, e, h1, h2⟩ => by
    rw [e]
    rw [NL_eq] at h2
    exact .tup (SqT.of h1) (.cons (.bl true) (.cons (.int _) (.cons (.lst (SqL.of h2) (dp_ints _)) .nil)))
theorem shaped_dTurn : ∀ o : Option (Nat × List Nat), SeqAt.shaped (dTurn o) = true
  | none => rfl
  | some (i, lead) => by
    have h1 := can_dI lead
    have h2 := depth_dI lead
    unfold dTurn SeqAt.shaped
    simp only [PyData.canLay0, PyData.canLayAll0, PyData.depth, PyData.depthAll, h1, Bool.true_and, Bool.and_true]
    exact decide_eq_true (by omega)
end N
set_option Elab.async false
set_option linter.all false
set_option maxRecDepth 100000
set_option maxHeartbeats 4000000
/-! Defs whose last parameter has a default: called with it, without it, by its keyword. -/
namespace N
open PySem PySem.Spec PyProof.Rows L2
structure DnD (P : Program) (w : World) (K : PySem.W.Frag) (mg : Str → Option Value) (base : Heap) (CX : CXT) (k : Nat) (f : Addr) (ps : List Str) (last : Str) (dv : V) (sp : Sp) : Prop where
  full : Dn P w K mg base CX k f (ps ++ [last]) sp
  ex : ∃ fd, FnOk P w K mg base CX k f fd (ps ++ [last]) (few (ps ++ [last]) sp) ∧ (∃ ds, Vals [dv] ds ∧ Binds K fd (ps ++ [last]) ds) ∧ KBn K fd (ps ++ [last]) ps.length [last] (fun us ws => us ++ ws) (fun vs zs => vs ++ zs)
theorem dnd_of {P : Program} {w : World} {K : PySem.W.Frag} {mg : Str → Option Value} {base : Heap} {CX : CXT} {x qual last : Str} {params : Arguments} {body : List Stmt} {scope : Scope} {f : Addr} {N ps : List Str} {k : Nat} {dv : V} {sp : Sp}
    (F : ∃ fd, FunD K x qual params body scope [dv] [] f fd) (S : FnScope N (ps ++ [last]) scope)
    (h3 : ∀ (T : Addr) (kV doc pm : Value) (an : Option Addr) (cdv ct : Value) (us its : List Value), us.length = ps.length + 1 → its.length = 1 → ∃ k, bindArgs (PySem.W.fnOf x qual params body scope (.ref T) kV doc pm an cdv ct) ⟨us, []⟩ = seqItems? (.ref T) >>= k ∧ k (some its.toArray) = pure ((ps ++ [last]).zip (us ++ its.drop 1)))
    (h2 : ∀ (T : Addr) (kV doc pm : Value) (an : Option Addr) (cdv ct : Value) (us its : List Value), us.length = ps.length → its.length = 1 → ∃ k, bindArgs (PySem.W.fnOf x qual params body scope (.ref T) kV doc pm an cdv ct) ⟨us, []⟩ = seqItems? (.ref T) >>= k ∧ k (some its.toArray) = pure ((ps ++ [last]).zip (us ++ its.drop 0)))
    (hk : ∀ (T : Addr) (kV doc pm : Value) (an : Option Addr) (cdv ct : Value) (us its ws : List Value), us.length = ps.length → its.length = 1 → ws.length = 1 → ∃ k, bindArgs (PySem.W.fnOf x qual params body scope (.ref T) kV doc pm an cdv ct) ⟨us, [last].zip ws⟩ = seqItems? (.ref T) >>= k ∧ k (some its.toArray) = pure ((ps ++ [last]).zip (us ++ ws)))
    (hbody : ∀ (cdv : Value) (A : Around) (outer : List Env) (s : Shared) (H : Hp) (vs : List V) (Q : VK) (E : XK), Room k (A.deeper (envOfC qual scope s.heap.objs.size f cdv)) → sp vs H Q E →
      ∃ t, PSs (cxOf CX P w K mg base N qual scope f cdv A outer s H E) body t ∧ t { nx := fun _ H' => Q .non H', rt := Q } (start N vs) H) : DnD P w K mg base CX (k + 1) f ps last dv sp := by
  obtain ⟨fd, F⟩ := F
  have ok : FnOk P w K mg base CX (k + 1) f fd (ps ++ [last]) (few (ps ++ [last]) sp) := F.ok S (fun vs H Q E h => h.1) (fun cdv A outer s H vs Q E hr h => hbody cdv A outer s H vs Q E hr h.2)
  obtain ⟨ds1, r1, b1⟩ := F.binds1 (ps := ps ++ [last]) (ps.length + 1) 1 (by simp) (by simp) h3
  obtain ⟨ds2, r2, b2⟩ := F.binds1 (ps := ps ++ [last]) ps.length 0 (by simp) (by simp) h2
  obtain ⟨its, kb⟩ := F.kbindsD (ps := ps ++ [last]) ps.length [last] (fun us its ws => us ++ ws) (by simp) (fun r1 _ r2 => r1.append r2) hk
  refine ⟨⟨⟨fd, ok, ?_, ?_⟩, F.kp⟩, fd, ok, ⟨ds2, r2, b2⟩, kb⟩
  · have r1 : Vals [] ds1 := r1
    cases r1
    exact b1
  · obtain ⟨oc, od, dV, kV, doc, pm, an, cdv, ct, osl, _, lk, _⟩ := F.ex
    exact ⟨oc, od, osl, lk⟩
theorem DnD.mono {P : Program} {w : World} {K : PySem.W.Frag} {mg : Str → Option Value} {base : Heap} {CX : CXT} {j k : Nat} {f : Addr} {ps : List Str} {last : Str} {dv : V} {sp : Sp} (D : DnD P w K mg base CX j f ps last dv sp) (h : j ≤ k) : DnD P w K mg base CX k f ps last dv sp := by
  obtain ⟨fd, F, b⟩ := D.ex
  exact ⟨D.full.mono h, fd, F.mono h, b⟩
section
variable {X : Cx} {CX : CXT} {k : Nat} {f : Addr} {ps : List Str} {last : Str} {dv : V} {sp : Sp} {E : XK} {x : Str} {p pos : Pos} {e o : Expr} {es : List Expr} {kws : List Keyword} {t tk : TA}
/-- f(..) without the last -/
def tClD (ps : List Str) (last : Str) (dv : V) (sp : Sp) (E : XK) (t : TA) : TE := fun σ H Q => t σ H fun vs H1 => few (ps ++ [last]) sp (vs ++ [dv]) H1 Q E
theorem pe_clD (D : DnD X.prog X.w X.K X.mg X.base CX k f ps last dv sp) (hr : Room k X.A) (hm : X.mg x = some (.ref f)) (hx : Passes CX X E) (ha : PA X (e :: es) t) (hg : Gl X x := by rfl)
    (hdb : (x == ("__debug__" : Str)) = false := by decide) (he : starEach (e :: es) X.env = (false, eval e X.env) :: starEach es X.env := by rfl) (hpl : (backTo pos (starEach es X.env)).any (·.1) = false := by rfl) :
    PE X (.Call (.Name x p) (e :: es) [] pos) (tClD ps last dv sp E t) := by
  obtain ⟨fd, F, ⟨ds, r, b⟩, _⟩ := D.ex
  exact pe_call (p := p) (ds := ds) (dvs := [dv]) F hr hg hm D.full.kp b r hx ha hdb he hpl
/-- f(.., last = v) -/
theorem pe_clK (D : DnD X.prog X.w X.K X.mg X.base CX k f ps last dv sp) (hr : Room k X.A) (hm : X.mg x = some (.ref f)) (hx : Passes CX X E) (ha : PA X (e :: es) t) (hkw : PK X kws tk) (hg : Gl X x := by rfl)
    (hall : (backToKw pos (keywordEach kws X.env)).all (·.1.isSome) = true := by rfl) (hks : (backToKw pos (keywordEach kws X.env)).filterMap (·.1) = [last] := by rfl)
    (hdb : (x == ("__debug__" : Str)) = false := by decide) (he : starEach (e :: es) X.env = (false, eval e X.env) :: starEach es X.env := by rfl)
    (hpl : ((backTo pos (starEach (e :: es) X.env)).any (·.1) || (backToKw pos (keywordEach kws X.env)).any (·.1.isNone)) = false := by rfl) :
    PE X (.Call (.Name x p) (e :: es) kws pos) (tCallN ps.length 1 (few (ps ++ [last]) sp) (fun vs zs => vs ++ zs) E t tk) := by
  obtain ⟨fd, F, _, kb⟩ := D.ex
  exact pe_callN F hr hg hm D.full.kp kb hx ha hkw hall hks hdb he hpl
end
end N
set_option Elab.async false
set_option linter.all false
set_option maxRecDepth 100000
set_option maxHeartbeats 4000000
/-! enumerate(xs, start=k), each pair kept whole by a name. -/
namespace N
open PySem PySem.Spec PyProof.Rows L2
/-- an enumerate object, whatever it has handed out -/
def EnumSt (h : Heap) (e it : Addr) (c : Int) : Prop := ∃ (f0 : Value) (f1 : Bool) (old : Value), (f0 = .none ∨ ∃ a : Addr, f0 = rawInt a) ∧
  h.get? e = some { cls := .type "enumerate", dict := none, data := .fields #[f0, .bool f1, .ref it, rawInt c, .none, old], slots := #[] }
section
variable {prog : Program} {w : World} {A : Around} {E : Value → Shared → Prop} {s : Shared}
theorem alive_any {a : Addr} {Q : Option Obj → Shared → Prop} (h : Q (s.heap.get? a) s) : wpAny (model prog w) A (loadIfAlive a) Q E s := fun _ _ _ => h
theorem enum_next_any {e it l : Addr} {i : Nat} {c : Int} {items : Array Value} {x : Value} {Q : Option Value → Shared → Prop}
    (he : EnumSt s.heap e it c) (hit : s.heap.IsListIter it l i) (hl : s.heap.IsList l items) (hx : items[i]? = some x) (hne : e ≠ it)
    (hQ : ∀ h', EnumSt h' e it (c + 1) → h'.IsListIter it l (i + 1) →
      h'.get? s.heap.objs.size = some { cls := .type "tuple", data := .seq #[.int c s.toks, x] } → h'.objs.size = s.heap.objs.size + 1 →
      (∀ b o, b ≠ e → b ≠ it → s.heap.get? b = some o → h'.get? b = some o) → Q (some (.ref s.heap.objs.size)) { s with heap := h', toks := s.toks + 1 }) :
    wpAny (model prog w) A (pyNext (.ref e)) Q E s := by
  obtain ⟨f0, f1, old, hf0, he⟩ := he
  have hT : s.TypeIs (.ref e) "enumerate" := ⟨_, he, rfl⟩
  unfold pyNext
  refine wpAny_bind (wpAny_attempt (wpAny_callSpecial?_slot (name := Str.ofString "__next__") hT PySem.F.slot_enumerate_next
    (wpAny_call_entry PySem.F.slot_enumerate_next hT PySem.F.entry_enumerate_next ?_ (PySem.F.args_enumerate_next_1 _))))
  obtain ⟨hp, g, d, tk, os⟩ := s
  show wpAny _ _ (field (.ref e) 2 >>= _) _ _ _
  refine wpAny_bind (wpAny_field he rfl (x := .ref it) rfl ?_)
  refine wpAny_bind (wpAny_nextOf_list_item hit hl hx fun h₁ hit₁ hs₁ => ?_)
  replace hs₁ : Heap.SameBut it hp h₁ := hs₁
  have he₁ := (hs₁.2 e hne).trans he
  show wpAny _ _ (field (.ref e) 3 >>= _) _ _ ⟨h₁, g, d, tk, os⟩
  refine wpAny_bind (wpAny_field he₁ rfl (x := rawInt c) rfl ?_)
  show wpAny _ _ (field (.ref e) 4 >>= _) _ _ ⟨h₁, g, d, tk, os⟩
  refine wpAny_bind (wpAny_field he₁ rfl (x := .none) rfl ?_)
  show wpAny _ _ (mkInt c >>= _) _ _ ⟨h₁, g, d, tk, os⟩
  refine wpAny_bind (wpAny_mkInt ?_)
  show wpAny _ _ (setField (.ref e) 3 (rawInt (c + 1)) >>= _) _ _ ⟨h₁, g, d, tk + 1, os⟩
  refine wpAny_bind (wpAny_setField_rec he₁ (by simp) fun h₂ he₂ hs₂ => ?_)
  replace hs₂ : Heap.SameBut e h₁ h₂ := hs₂
  show wpAny _ _ (setField (.ref e) 4 .none >>= _) _ _ ⟨h₂, g, d, tk + 1, os⟩
  refine wpAny_bind (wpAny_setField_rec he₂ (by simp) fun h₃ he₃ hs₃ => ?_)
  replace hs₃ : Heap.SameBut e h₂ h₃ := hs₃
  replace he₃ : h₃.get? e = some { cls := .type "enumerate", dict := none, data := .fields #[f0, .bool f1, .ref it, rawInt (c + 1), .none, old], slots := #[] } := he₃
  show wpAny _ _ (newTuple [.int c tk, x] >>= _) _ _ ⟨h₃, g, d, tk + 1, os⟩
  refine wpAny_bind (wpAny_newTuple ?_)
  have he₄ : (h₃.push { cls := .type "tuple", data := .seq #[.int c tk, x] }).get? e = some { cls := .type "enumerate", dict := none, data := .fields #[f0, .bool f1, .ref it, rawInt (c + 1), .none, old], slots := #[] } := Heap.get?_push_of_some _ he₃
  generalize hh₄ : h₃.push { cls := .type "tuple", data := .seq #[.int c tk, x] } = h₄ at he₄
  have hsz : h₃.objs.size = hp.objs.size := by rw [hs₃.1, hs₂.1, hs₁.1]
  have hel : e < hp.objs.size := Heap.lt_size he
  have ht₄ : h₄.get? hp.objs.size = some { cls := .type "tuple", data := .seq #[.int c tk, x] } := by rw [← hh₄, ← hsz]; exact Heap.get?_push_size _ rfl
  have hz₄ : h₄.objs.size = hp.objs.size + 1 := by rw [← hh₄, Heap.size_push, hsz]
  have hk₄ : ∀ b o, b ≠ e → b ≠ it → hp.get? b = some o → h₄.get? b = some o := fun b o hbe hbi hb => by
    rw [← hh₄]; exact Heap.get?_push_of_some _ (hs₃.extBut b o hbe (hs₂.extBut b o hbe (hs₁.extBut b o hbi hb)))
  have hit₄ : h₄.IsListIter it l (i + 1) := by
    rw [← hh₄]; obtain ⟨o, ho, r⟩ := (hit₁.extBut hs₂.extBut (Ne.symm hne)).extBut hs₃.extBut (Ne.symm hne); exact ⟨o, Heap.get?_push_of_some _ ho, r⟩
  show wpAny _ _ (Builtin.SmallTypes.ownedTupleIsFree (.ref e) >>= _) _ _ ⟨h₄, g, d, tk + 1, os⟩
  rw [hsz]
  clear hh₄ he₃ hs₃ he₂ hs₂ he₁ hs₁ hit₁ hsz h₃ h₂ h₁
  -- the tuple is handed out, and kept in mind
  have out : ∀ E' : Value → Shared → Prop, wpAny (model prog w) A.in1 (do
      rule "enumerate.__next__.owned-tuple-again"
      let old ← field (.ref e) 5
      setField (.ref e) 5 x
      Builtin.SmallTypes.ownedTupleHandOut (.ref e) (.ref hp.objs.size)
      letGo [old] [Value.ref hp.objs.size]
      ret (.ref hp.objs.size)) (fun fin s' => ∃ v, fin = .done (.ret v) ∧ Q (some v) s') E' ⟨h₄, g, d, tk + 1, os⟩ := by
    intro E'
    refine wpAny_bind (wpAny_rule ?_)
    refine wpAny_bind (wpAny_field he₄ rfl (x := old) rfl ?_)
    refine wpAny_bind (wpAny_setField_rec he₄ (by simp) fun h₅ he₅ hs₅ => ?_)
    replace hs₅ : Heap.SameBut e h₄ h₅ := hs₅
    show wpAny _ _ (Builtin.SmallTypes.ownedTupleHandOut (.ref e) (.ref hp.objs.size) >>= _) _ _ ⟨h₅, g, d, tk + 1, os⟩
    refine wpAny_bind ?_
    unfold Builtin.SmallTypes.ownedTupleHandOut
    refine wpAny_bind (wpAny_setField_rec he₅ (by simp) fun h₆ he₆ hs₆ => ?_)
    replace hs₆ : Heap.SameBut e h₅ h₆ := hs₆
    refine wpAny_setField_rec he₆ (by simp) fun h₇ he₇ hs₇ => ?_
    replace hs₇ : Heap.SameBut e h₆ h₇ := hs₇
    refine wpAny_bind (wpAny_letGo (wpAny_pure ⟨_, rfl, hQ h₇ ⟨rawInt hp.objs.size, false, x, .inr ⟨_, rfl⟩, he₇⟩ ?_ ?_ ?_ ?_⟩))
    · exact ((hit₄.extBut hs₅.extBut (Ne.symm hne)).extBut hs₆.extBut (Ne.symm hne)).extBut hs₇.extBut (Ne.symm hne)
    · exact hs₇.extBut _ _ (Nat.ne_of_gt hel) (hs₆.extBut _ _ (Nat.ne_of_gt hel) (hs₅.extBut _ _ (Nat.ne_of_gt hel) ht₄))
    · rw [hs₇.1, hs₆.1, hs₅.1, hz₄]
    · exact fun b o hbe hbi hb => hs₇.extBut b o hbe (hs₆.extBut b o hbe (hs₅.extBut b o hbe (hk₄ b o hbe hbi hb)))
  -- the first one is held by somebody
  have kept : ∀ (f : Bool) (h₅ : Heap), h₅.get? e = some { cls := .type "enumerate", dict := none, data := .fields #[f0, .bool f, .ref it, rawInt (c + 1), .none, old], slots := #[] } → Heap.SameBut e h₄ h₅ →
      Q (some (.ref hp.objs.size)) ⟨h₅, g, d, tk + 1, os⟩ := fun f h₅ he₅ hs₅ =>
    hQ h₅ ⟨f0, f, old, hf0, he₅⟩ (hit₄.extBut hs₅.extBut (Ne.symm hne)) (hs₅.extBut _ _ (Nat.ne_of_gt hel) ht₄) (by rw [hs₅.1, hz₄]) fun b o hbe hbi hb => hs₅.extBut b o hbe (hk₄ b o hbe hbi hb)
  refine wpAny_mono (Q := fun fin s' => ∃ v, fin = .done (.ret v) ∧ Q (some v) s') ?_ (fun fin s' ⟨v, e, q⟩ => ⟨v, e, wpAny_pure q⟩) fun _ _ z => z
  refine wpAny_bind ?_
  unfold Builtin.SmallTypes.ownedTupleIsFree
  rcases hf0 with rfl | ⟨a, rfl⟩
  · refine wpAny_bind (wpAny_field he₄ rfl (x := .none) rfl (wpAny_pure ?_))
    simp only [if_true]
    exact out _
  · refine wpAny_bind (wpAny_field he₄ rfl (x := rawInt a) rfl ?_)
    show wpAny _ _ (loadIfAlive ((a : Int).toNat) >>= _) _ _ _
    rw [Int.toNat_natCast]
    refine wpAny_bind (alive_any ?_)
    cases h₄.get? a with
    | none =>
      simp only [Option.isNone_none, if_true]
      refine wpAny_pure ?_
      simp only [if_true]
      exact out _
    | some oa =>
      simp only [Option.isNone_some, Bool.false_eq_true, if_false]
      refine wpAny_bind (wpAny_field he₄ rfl (x := .bool f1) rfl ?_)
      cases f1 with
      | true =>
        rw [if_neg (show ¬ ((Value.bool true != Value.bool true) = true) from Bool.false_ne_true)]
        refine wpAny_pure ?_
        simp only [Bool.false_eq_true, if_false]
        exact wpAny_pure ⟨_, rfl, kept true h₄ he₄ (Heap.SameBut.refl _ _)⟩
      | false =>
        rw [if_pos (show (Value.bool false != Value.bool true) = true from rfl)]
        refine wpAny_bind (wpAny_setField_rec he₄ (by simp) fun h₅ he₅ hs₅ => ?_)
        refine wpAny_pure ?_
        simp only [Bool.false_eq_true, if_false]
        exact wpAny_pure ⟨_, rfl, kept true h₅ he₅ hs₅⟩
theorem enum_end_any {e it l : Addr} {i : Nat} {c : Int} {items : Array Value} {Q : Option Value → Shared → Prop} (hh : A.handled = none)
    (he : EnumSt s.heap e it c) (hit : s.heap.IsListIter it l i) (hl : s.heap.IsList l items) (hx : items[i]? = none)
    (hQ : ∀ h', Heap.ExtBut it s.heap h' → Q none { s with heap := h' }) : wpAny (model prog w) A (pyNext (.ref e)) Q E s := by
  obtain ⟨f0, f1, old, hf0, he⟩ := he
  have hT : s.TypeIs (.ref e) "enumerate" := ⟨_, he, rfl⟩
  unfold pyNext
  refine wpAny_bind (wpAny_attempt (wpAny_callSpecial?_slot (name := Str.ofString "__next__") hT PySem.F.slot_enumerate_next
    (wpAny_call_entry PySem.F.slot_enumerate_next hT PySem.F.entry_enumerate_next ?_ (PySem.F.args_enumerate_next_1 _))))
  show wpAny _ _ (field (.ref e) 2 >>= _) _ _ _
  refine wpAny_bind (wpAny_field he rfl (x := .ref it) rfl ?_)
  refine wpAny_bind (wpAny_nextOf_list_end hh hit hl hx fun h' x he' hx' => ?_)
  obtain ⟨o, ho, hc⟩ := hx'
  refine wpAny_bind (wpAny_isInstance (T := "StopIteration") (b := true) ⟨o, ho, hc⟩ isSubtype_stop ?_)
  exact wpAny_pure (hQ _ he')
theorem enum_iter_any {e it : Addr} {c : Int} {Q : Value → Shared → Prop} (he : EnumSt s.heap e it c) (h : Q (.ref e) s) : wpAny (model prog w) A (pyIter (.ref e)) Q E s := by
  obtain ⟨f0, f1, old, hf0, he⟩ := he
  have hT : s.TypeIs (.ref e) "enumerate" := ⟨_, he, rfl⟩
  refine wpAny_pyIter_slot hT PySem.F.slot_enumerate_iter (wpAny_call_entry PySem.F.slot_enumerate_iter hT PySem.F.entry_enumerate_iter ?_ (PySem.F.args_enumerate_iter_1 _))
  show wpAny _ _ (ret (.ref e)) _ _ s
  exact wpAny_pure ⟨_, rfl, "enumerate", _, hT, PySem.F.slot_enumerate_next.lookup, h⟩
end
theorem callWith_typeKw {M : Model} {pos : Pos} {T : String} {first : List Value} {args : List (Bool × Sem Value)} {keywords : List (Option Str × Sem Value)} {Q E : Value → Shared → Prop} {A : Around} {s : Shared}
    (hplain : (args.any (·.1) || keywords.any (·.1.isNone)) = false)
    (h : wpAny M A (evalArgs (.type T) true args keywords) (fun a s₁ => wpAny M A (call (.type T) (first ++ a.pos) a.kw) Q E s₁) E s) :
    wpAny M A (callWith pos (.type T) first args keywords) Q E s := by
  unfold callWith
  refine wpAny_bind (wpAny_holding (wpAny_mono h (fun a s₁ h₁ => wpAny_bind (wpAny_standAt ?_)) fun _ _ x => x))
  simp only [hplain]
  refine wpAny_bind (wpAny_pure ?_)
  exact wpAny_bind (wpAny_mono h₁ (fun r s₂ hr => wpAny_bind (wpAny_holding (wpAny_point (wpAny_pure hr)))) fun _ _ x => x)
/-- the list at a as it stands at each turn, each item in a new pair, counted from k -/
def Itek (K : PySem.W.Frag) (a : Addr) (k : Int) : It :=
  ⟨fun i H => ∃ (xs : List V) (x : V), SqL K H a xs ∧ xs[i]? = some x, fun i H v H' => ∃ T x, v = .ref T ∧ H T = none ∧ H' = upd H T (.tup [.int (k + (i : Nat)), x]) ∧ ∀ xs, SqL K H a xs → xs[i]? = some x, fun i H => ∃ xs : List V, SqL K H a xs ∧ xs.length ≤ i⟩
theorem turn_enumk {P : Program} {w : World} {K : PySem.W.Frag} {y : Str} {np : Pos} (k : Int) (a e it : Addr) :
    Turn P w K (.Name y np) (Itek K a k) [e, it] e (fun i h => EnumSt h e it (k + (i : Nat)) ∧ h.IsListIter it a i ∧ e ≠ it) where
  mem := by simp
  obj := fun i h st b hb => by
    obtain ⟨⟨f0, f1, old, _, he⟩, ⟨o, ho, hc, hd⟩, _⟩ := st
    have e' : b = e ∨ b = it := by simpa using hb
    rcases e' with z | z
    · rw [z]; exact ⟨_, he, fun v q => nomatch q⟩
    · rw [z]; exact ⟨o, ho, fun v q => by rw [hd] at q; cases q⟩
  keep := fun i h h' st kk => let ⟨⟨f0, f1, old, hf, he⟩, hi, hne⟩ := st; ⟨⟨f0, f1, old, hf, kk e (by simp) _ he⟩, hi.at fun o q => kk it (by simp) o q, hne⟩
  item := by
    intro X hP hw hK hc i pins s σ H E I hf st hg
    subst hP hw hK
    obtain ⟨he, hit, hne⟩ := st
    obtain ⟨xs, x, hq, hx⟩ := hg
    obtain ⟨its, rv, p, hz⟩ := I.list hq
    obtain ⟨u, hu, ru⟩ := rv.get hx
    have hel : e < s.heap.objs.size := by obtain ⟨_, _, _, _, q⟩ := he; exact Heap.lt_size q
    have hil : it < s.heap.objs.size := by obtain ⟨_, q, _⟩ := hit; exact Heap.lt_size q
    refine enum_next_any he hit p.isList (x := u) (by simpa using hu) hne fun h' he' hit' hT hsz hk => ?_
    have new : ObjOk X.prog X.w (upd H s.heap.objs.size (.tup [.int (k + (i : Nat)), x])) h' s.heap.objs.size (.tup [.int (k + (i : Nat)), x]) :=
      ⟨by show 2 ≤ sizeLine; decide, [.int (k + (i : Nat)) s.toks, u], .cons ⟨_, rfl⟩ (.cons ru .nil), ⟨_, hT, rfl, _, rfl⟩⟩
    have I1 : Inv X pins σ (upd H s.heap.objs.size (.tup [.int (k + (i : Nat)), x])) { s with heap := h', toks := s.toks + 1 } :=
      I.turnedNew (ch := [e, it]) (fun b ob hb q => hk b ob (fun z => hb (by simp [z])) (fun z => hb (by simp [z])) q) hf (Nat.le_refl _) new
    refine ⟨_, rfl, wpAny_pure ⟨.ref s.heap.objs.size, _, I1, rfl, ⟨_, x, rfl, I.hok.fresh (Nat.le_refl _), rfl, fun ys hy => by rw [I.list_inj hy hq]; exact hx⟩, ⟨?_, hit', hne⟩, fun b hb => ?_⟩⟩
    · have e1 : k + ((i + 1 : Nat) : Int) = k + (i : Nat) + 1 := by omega
      rw [e1]; exact he'
    · have hb' : b < s.heap.objs.size := by
        have e' : b = e ∨ b = it := by simpa using hb
        rcases e' with z | z
        · rw [z]; exact hel
        · rw [z]; exact hil
      rw [upd_ne (Nat.ne_of_lt hb')]
      exact (hf b hb).1
  done := by
    intro X hP hw hK hc i pins s σ H E I hf st hg
    subst hP hw hK
    obtain ⟨he, hit, hne⟩ := st
    obtain ⟨xs, hq, hx⟩ := hg
    obtain ⟨its, rv, p, hz⟩ := I.list hq
    obtain ⟨f0, f1, f2, f3, f4, f5⟩ := hf it (by simp)
    have hl := rv.length
    exact enum_end_any (I.ok.hd hc) he hit p.isList (by simp; omega) fun h' eb => ⟨rfl, I.turned (t' := s.toks) (fun b o hb q => eb b o hb q) f0 f1 f3 f4 f5⟩
  self := fun A i s Q E st h => enum_iter_any st.1 h
def iEnumK (K : PySem.W.Frag) (ta tk : TA) : TI := fun σ H R => ta σ H fun vs H1 => tk σ H1 fun zs H2 => ∃ a xs k, vs = [.ref a] ∧ zs = [.int k] ∧ -(2 ^ 63) ≤ k ∧ k < 2 ^ 63 ∧ SqL K H2 a xs ∧ R (Itek K a k) H2
theorem pi_enumK {X : Cx} {e : Expr} {ta tk : TA} {p pos np : Pos} {y : Str} {kws : List Keyword} (hg : Gl X "enumerate") (hm : X.mg "enumerate" = none) (ha : PA X [e] ta) (hk : PK X kws tk)
    (hall : (backToKw pos (keywordEach kws X.env)).all (·.1.isSome) = true := by rfl) (hks : (backToKw pos (keywordEach kws X.env)).filterMap (·.1) = [Str.ofString "start"] := by rfl)
    (hs : starEach [e] X.env = [(false, eval e X.env)] := by rfl) (hpl : ((backTo pos (starEach [e] X.env)).any (·.1) || (backToKw pos (keywordEach kws X.env)).any (·.1.isNone)) = false := by rfl) :
    PI X (.Name y np) (.Call (.Name "enumerate" p) [e] kws pos) (iEnumK X.K ta tk) := by
  refine ⟨fun pins s σ H R I h => ?_⟩
  refine wpAny_Call_Name_kw (ld_blt I hg hm boot_enumerate (callWith_typeKw hpl (evalArgs_kw2 hall (thn (ha.run pos pins s σ H _ I h) fun us s1 ⟨vs, H1, I1, r1, q1⟩ => thn (hk.run pos pins s1 σ H1 _ I1 q1) fun ws s2 ⟨zs, H2, I2, r2, q2⟩ => ?_) hs)))
  obtain ⟨a, xs, k, rfl, rfl, k0, k1, hq, q⟩ := q2
  cases r1 with
  | cons r rr =>
    cases rr
    cases r
    cases r2 with
    | cons r' rr' =>
      cases rr'
      obtain ⟨t, rfl⟩ := r'
      obtain ⟨its, rv, p', hz⟩ := I2.list hq
      rw [hks]
      refine enum_begins_start (begins_list a its.toArray) p'.isList k0 k1 fun h' he hit hsz hk => ?_
      have st : EnumSt h' (s2.heap.objs.size + 1) s2.heap.objs.size k := ⟨_, _, _, .inl rfl, he⟩
      refine enum_iter_any st ?_
      have I3 : Inv X pins σ H2 { s2 with heap := h' } := I2.kept (t' := s2.toks) hk
      refine ⟨s2.heap.objs.size + 1, [s2.heap.objs.size + 1, s2.heap.objs.size], _, _, H2, rfl, I3, turn_enumk k a (s2.heap.objs.size + 1) s2.heap.objs.size, ⟨?_, ⟨_, hit, rfl, rfl⟩, Nat.succ_ne_self _⟩, fun b hb => ?_, q⟩
      · rw [show k + ((0 : Nat) : Int) = k by omega]
        exact st
      · have e' : b = s2.heap.objs.size + 1 ∨ b = s2.heap.objs.size := by simpa using hb
        have hle : s2.heap.objs.size ≤ b := by
          rcases e' with z | z
          · rw [z]; exact Nat.le_add_right _ _
          · rw [z]; exact Nat.le_refl _
        exact I2.fpOk hle (I2.hok.fresh hle)
theorem walk_enumk {K : PySem.W.Frag} {a : Addr} {xs : List V} {k : Int} : Walk (Itek K a k) xs.length (fun H => SqL K H a xs) (YPair (fun i => some (.int (k + (i : Nat)))) (fun i => xs[i]?)) := by
  refine ⟨fun i _ hi q => ⟨xs, xs[i], q, by simp [hi]⟩, fun _ q => ⟨xs, q, Nat.le_refl _⟩, fun i H v H' _ q y => ?_⟩
  obtain ⟨T, x, h1, h2, h3, h4⟩ := y
  exact ⟨T, .int (k + (i : Nat)), x, h1, h2, h3, rfl, h4 xs q⟩
end N
set_option Elab.async false
set_option linter.all false
set_option maxRecDepth 100000
set_option maxHeartbeats 4000000
/-! max of a list of naturals; a text without its last sign. -/
namespace N
open PySem PySem.Spec PyProof.Rows L2
def rMaxN (K : PySem.W.Frag) : List V → Hp → VK → Prop := fun xs H Q => ∃ (a : Addr) (ns : List Nat), xs = [.ref a] ∧ SqL K H a (NL ns) ∧ 0 < ns.length ∧ ∀ m : Nat, m ∈ ns → (∀ n ∈ ns, n ≤ m) → Q (.int (m : Int)) H
theorem call_maxN {X : Cx} (hc : X.calm = true) : CallR X (.builtin "max") (rMaxN X.K) := by
  intro pins s σ H xs us Q I r h
  obtain ⟨a, ns, rfl, hS, h0, q⟩ := h
  rw [NL_eq] at hS
  refine cr_max hc pins s σ H _ us Q I r ⟨a, _, rfl, hS, by rw [List.length_map]; exact h0, fun m hm hle => ?_⟩
  obtain ⟨k, hk, rfl⟩ := List.mem_map.mp hm
  refine q k hk fun n hn => ?_
  have := hle _ (List.mem_map.mpr ⟨n, hn, rfl⟩)
  omega
theorem tl_cutS (z : Str) (lo hi : Option Int) : TL.tl (cutS z lo hi) = ((TL.tl z).drop (HT.sIx z.length 0 lo)).take (HT.sIx z.length z.length hi - HT.sIx z.length 0 lo) := TL.tl_mk _
/-- z[:-1] -/
theorem tl_cut_last (z : Str) : TL.tl (cutS z none (some (-1))) = (TL.tl z).dropLast := by
  rw [tl_cutS, HT.sIx_none, List.drop_zero, Nat.sub_zero, List.dropLast_eq_take, TL.len_tl]
  congr 1
  show (if (-1 : Int) < 0 then ((-1 : Int) + (((TL.tl z).length : Nat) : Int)).toNat else min (-1 : Int).toNat (TL.tl z).length) = _
  rw [if_pos (by decide)]
  omega
theorem tl_cut_to (z : Str) (n : Nat) : TL.tl (cutS z none (some (n : Int))) = (TL.tl z).take n := by
  rw [tl_cutS, HT.sIx_none, HT.sIx_nat, List.drop_zero, Nat.sub_zero, TL.len_tl]
  by_cases c : n ≤ (TL.tl z).length
  · rw [Nat.min_eq_left c]
  · rw [Nat.min_eq_right (by omega), List.take_length, List.take_of_length_le (by omega)]
theorem tl_cut_from (z : Str) (n : Nat) : TL.tl (cutS z (some (n : Int)) none) = (TL.tl z).drop n := by
  rw [tl_cutS, HT.sIx_none, HT.sIx_nat, TL.len_tl]
  by_cases c : n ≤ (TL.tl z).length
  · rw [Nat.min_eq_left c, List.take_of_length_le (by rw [List.length_drop]; omega)]
  · rw [Nat.min_eq_right (by omega), Nat.sub_self, List.take_zero, List.drop_eq_nil_of_le (by omega)]
theorem tl_cut_mid (z : Str) (a b : Nat) : TL.tl (cutS z (some (a : Int)) (some (b : Int))) = ((TL.tl z).drop a).take (b - a) := by
  rw [tl_cutS, HT.sIx_nat, HT.sIx_nat, TL.len_tl]
  by_cases c : a ≤ (TL.tl z).length
  · rw [Nat.min_eq_left c]
    by_cases d : b ≤ (TL.tl z).length
    · rw [Nat.min_eq_left d]
    · rw [Nat.min_eq_right (by omega), List.take_of_length_le (by rw [List.length_drop]; omega), List.take_of_length_le (by rw [List.length_drop]; omega)]
  · rw [Nat.min_eq_right (show (TL.tl z).length ≤ a by omega), List.drop_eq_nil_of_le (Nat.le_refl _), List.drop_eq_nil_of_le (by omega), List.take_nil, List.take_nil]
end N
set_option Elab.async false
set_option linter.all false
set_option maxRecDepth 100000
set_option maxHeartbeats 4000000
/-! A text turned about: x[::-1]. -/
namespace N
open PySem PySem.Spec PyProof.Rows L2
def tRevS (te : TE) : TE := fun σ H Q => te σ H fun x H1 => ∃ z : Str, x = .str z ∧ z.length ≤ sizeLine ∧ Q (.str ⟨(TL.tl z).reverse.toArray⟩) H1
theorem rev_picked (x : Str) : (Builtin.Str.strSliceIndices none none (-1) x.length).filterMap (x.cps[·]?) = (TL.tl x).reverse := by
  have e : Builtin.Str.strSliceIndices none none (-1) x.length = sliceRange ((x.length : Int) - 1) (-1) (-1) := by
    unfold Builtin.Str.strSliceIndices
    rfl
  rw [e, PySem.W.krv_sliceRange, PySem.W.krv_range, List.filterMap_reverse]
  exact congrArg List.reverse (PySem.W.krv_all x.cps)
theorem pe_revS {X : Cx} {e : Expr} {te : TE} {k : Nat} {p1 p2 p3 pos : Pos} (he : PE X e te) : PE X (.Subscript e (.Slice none none (some (.UnaryOp .USub (.Constant (.int 1) k p1) p2)) p3) pos) (tRevS te) := by
  refine ⟨fun pins s σ H Q I h => ?_⟩
  refine Subscript_ (thn (he.run pins s σ H _ I h) fun v s1 ⟨x, H1, I1, r1, q1⟩ => ?_)
  obtain ⟨z, ex, hz, q⟩ := q1
  subst ex
  obtain ⟨t, rfl⟩ := r1
  have hst : PO X (some (.UnaryOp .USub (.Constant (.int 1) k p1) p2)) (tPart (tUn (rU fun i => .int (-i)) (tC (.int 1)))) := po_some (pe_un un_neg pe_int)
  refine wpAny_Slice (thn (po_none.run pins s1 σ H1 (fun o H2 => o = none ∧ H2 = H1) I1 ⟨rfl, rfl⟩) fun vl s2 ⟨l, H2, I2, pl, el, e2⟩ => ?_)
  subst el e2
  refine thn (po_none.run pins s2 σ H2 (fun o H3 => o = none ∧ H3 = H2) I2 ⟨rfl, rfl⟩) fun vu s3 ⟨u, H3, I3, pu, eu, e3⟩ => ?_
  subst eu e3
  refine thn (hst.run pins s3 σ H3 (fun o H4 => o = some (-1) ∧ H4 = H3) I3 ⟨1, rfl, -1, rfl, rfl, rfl⟩) fun vs s4 ⟨o, H4, I4, ps, eo, e4⟩ => ?_
  subst eo e4
  have I5 : Inv X pins σ H4 { s4 with heap := s4.heap.push { cls := .type "slice", data := .fields #[vl, vu, vs] } } := I4.kept (t' := s4.toks) fun b ob q => Heap.get?_push_of_some _ q
  show wpAny (model X.prog X.w) X.A (subscriptTail e (.Slice none none (some (.UnaryOp .USub (.Constant (.int 1) k p1) p2)) p3) (.str z t) (.ref s4.heap.objs.size)) (EP X pins σ Q) X.xe { s4 with heap := s4.heap.push { cls := .type "slice", data := .fields #[vl, vu, vs] } }
  refine tail_any (ops := [.str z t, .ref s4.heap.objs.size]) (typeIs_str _ _ _) (F.slot_str_getitem.lookup) ?_ (by with_unfolding_all rfl)
  obtain ⟨l, rfl, e1⟩ := IsPart.raw pl
  obtain ⟨u, rfl, e2⟩ := IsPart.raw pu
  obtain ⟨st, rfl, e3⟩ := IsPart.raw ps
  have hs := Heap.IsSliceOf.new s4.heap (partValue l) (partValue u) (partValue st)
  obtain ⟨os, hos, hcs, hds⟩ := hs
  refine wpAny_getItem_str_slice (l := l) (u := u) (st := st) ⟨os, hos, hcs, hds⟩ (by rw [e3]; rfl) ?_
  have hl : slicePicked z l u st = Builtin.Str.strSliceIndices none none (-1) z.length := by
    unfold slicePicked
    rw [e1, e2, e3]
    rfl
  unfold sliceMade
  rw [hl, e3]
  show Made.post (if ((-1 : Int) == 1 && (Builtin.Str.strSliceIndices none none (-1) z.length).length == z.length) = true then Made.val (.str z t) else Made.str ⟨((Builtin.Str.strSliceIndices none none (-1) z.length).filterMap (z.cps[·]?)).toArray⟩) (EP X pins σ Q) _
  rw [show ((-1 : Int) == 1) = false by decide, Bool.false_and, if_neg Bool.false_ne_true, rev_picked]
  refine ⟨?_, .str _, _, I5.tok _, ⟨_, rfl⟩, q⟩
  show (TL.tl z).reverse.toArray.size ≤ _
  rw [List.size_toArray, List.length_reverse, ← TL.len_tl]
  exact hz
end N
set_option Elab.async false
set_option linter.all false
set_option maxRecDepth 100000
set_option maxHeartbeats 4000000
/-! What words tell: numbers, games. -/
namespace Gm
instance (ls : List Nat) : Decidable (Rising ls) := by unfold Rising; infer_instance
end Gm
namespace Wd
open PySem PySem.Spec PyProof.Rows L2
def words (x : Str) : List Str := (Txt.split x (Str.ofString " ")).filter fun w => !decide (w = Str.ofString "")
def isDig (c : Nat) : Bool := decide (48 ≤ c) && decide (c ≤ 57)
/-- the number that some figures write -/
def figL (l : List Nat) : Option Nat := if l = [] ∨ 3 < l.length ∨ (l[0]? = some 48 ∧ l ≠ [48]) ∨ l.all isDig = false then none else some (NumText.digitsVal l)
def figs (x : Str) : Option Nat := figL (TL.tl x)
inductive Out where
  | made (k : Gm.Kind) | written | game
def Out.isW : Out → Bool | .written => true | _ => false
def Out.isG : Out → Bool | .game => true | _ => false
def bare : List Str := [Str.ofString "still", Str.ofString "heap", Str.ofString "parting", Str.ofString "runs", Str.ofString "pairs"]
def heads : List Str := [Str.ofString "taking", Str.ofString "skittles", Str.ofString "few"]
def bareK (w : Str) : Gm.Kind := if w = Str.ofString "still" then .still else if w = Str.ofString "heap" then .heap else if w = Str.ofString "parting" then .parting else if w = Str.ofString "runs" then .runs else .pairs
def figsAll : List Str → Option (List Nat)
  | [] => some []
  | w :: r => match figs w with
    | none => none
    | some n => (figsAll r).map (n :: ·)
def ofHead (w : Str) (ns : List Nat) : Out :=
  if w = Str.ofString "taking" then (if Gm.Rising ns then .made (.taking ns) else .game)
  else if w = Str.ofString "skittles" then (if Gm.Rising ns then .made (.skittles ns) else .game)
  else match ns with
    | [n] => if 1 ≤ n ∧ n ≤ 3 then .made (.few n) else .game
    | _ => .written
def told : List Str → Out
  | [] => .written
  | [w] => if w ∈ bare then .made (bareK w) else .written
  | w :: r => if w ∈ heads then (match figsAll r with
    | none => .written
    | some ns => ofHead w ns) else .written
/-- what a text tells -/
def ofText (x : Str) : Out := told (words x)
/-! ### figures -/
theorem all_digits {l : List Nat} (h : l.all isDig = true) : NumText.AllDigits l := fun c hc => by
  have := List.all_eq_true.mp h c hc
  unfold isDig at this
  rw [Bool.and_eq_true] at this
  exact ⟨of_decide_eq_true this.1, of_decide_eq_true this.2⟩
theorem figL_num {l : List Nat} {n : Nat} (h : figL l = some n) : l = TL.numL n ∧ n < 1000 := by
  unfold figL at h
  split at h
  · cases h
  · rename_i c
    simp only [not_or, Bool.not_eq_false] at c
    obtain ⟨c1, c2, c3, c4⟩ := c
    have hd := all_digits c4
    have en : NumText.digitsVal l = n := Option.some.inj h
    match l, c1, c2, c3, hd, en with
    | [a], _, _, _, hd, en =>
      have ha := hd a (by simp)
      have e : n = a - 48 := by rw [← en]; simp [NumText.digitsVal]
      refine ⟨?_, by omega⟩
      rw [TL.numL_lt (by omega), e, show 48 + (a - 48) = a by omega]
    | [a, b], _, _, c3, hd, en =>
      have ha := hd a (by simp)
      have hb := hd b (by simp)
      have e : n = (a - 48) * 10 + (b - 48) := by rw [← en]; simp [NumText.digitsVal]
      have a1 : a ≠ 48 := fun z => c3 ⟨by rw [z]; rfl, by simp⟩
      refine ⟨?_, by omega⟩
      rw [TL.numL_step (by omega), TL.numL_lt (by omega), show n / 10 = a - 48 by omega, show n % 10 = b - 48 by omega, show 48 + (a - 48) = a by omega, show 48 + (b - 48) = b by omega]
      rfl
    | [a, b, d], _, _, c3, hd, en =>
      have ha := hd a (by simp)
      have hb := hd b (by simp)
      have hc := hd d (by simp)
      have e : n = ((a - 48) * 10 + (b - 48)) * 10 + (d - 48) := by rw [← en]; simp [NumText.digitsVal]
      have a1 : a ≠ 48 := fun z => c3 ⟨by rw [z]; rfl, by simp⟩
      refine ⟨?_, by omega⟩
      rw [TL.numL_step (by omega), TL.numL_step (by omega), TL.numL_lt (by omega), show n / 10 / 10 = a - 48 by omega, show n / 10 % 10 = b - 48 by omega, show n % 10 = d - 48 by omega, show 48 + (a - 48) = a by omega, show 48 + (b - 48) = b by omega, show 48 + (d - 48) = d by omega]
      rfl
    | _ :: _ :: _ :: _ :: _, _, c2, _, _, _ => exact absurd (by simp) c2
    | [], c1, _, _, _, _ => exact absurd rfl c1
theorem figL_of (n : Nat) (h : n < 1000) : figL (TL.numL n) = some n := by
  have hd := TL.numL_digits n
  have hl := TL.numL_len (n := n) (k := 3) (by decide) h
  have hn := TL.numL_ne n
  unfold figL
  rw [if_neg, TL.numL_val]
  rintro (c | c | ⟨c1, c2⟩ | c)
  · exact hn c
  · omega
  · by_cases h10 : n < 10
    · rw [TL.numL_lt h10] at c1 c2
      have : 48 + n = 48 := Option.some.inj c1
      exact c2 (by rw [this])
    · rw [TL.numL_step (by omega)] at c1
      by_cases h100 : n / 10 < 10
      · rw [TL.numL_lt h100] at c1
        have : 48 + n / 10 = 48 := Option.some.inj c1
        omega
      · rw [TL.numL_step (by omega), TL.numL_lt (show n / 10 / 10 < 10 by omega)] at c1
        have : 48 + n / 10 / 10 = 48 := Option.some.inj c1
        omega
  · have : (TL.numL n).all isDig = true := List.all_eq_true.mpr fun d hd2 => by
      have := hd d hd2
      unfold isDig
      rw [Bool.and_eq_true]
      exact ⟨decide_eq_true this.1, decide_eq_true this.2⟩
    rw [this] at c
    cases c
theorem figs_int {x : Str} {n : Nat} (h : figs x = some n) : intText? x = some (n : Int) ∧ n < 1000 := by
  obtain ⟨h1, h2⟩ := figL_num h
  have e : x = Str.ofString (toString ((n : Nat) : Int)) := TL.ext_tl (by rw [TL.tl_num]; exact h1)
  refine ⟨?_, h2⟩
  rw [e]
  exact TL.int_num (by have := TL.numL_len (n := n) (k := 3) (by decide) h2; omega)
theorem figs_num {n : Nat} (h : n < 1000) : figs (Str.ofString (toString ((n : Nat) : Int))) = some n := by
  unfold figs
  rw [TL.tl_num]
  exact figL_of n h
theorem figsAll_num : ∀ ns : List Nat, (∀ n ∈ ns, n < 1000) → figsAll (ns.map fun n => Str.ofString (toString ((n : Nat) : Int))) = some ns
  | [], _ => rfl
  | n :: r, h => by
    show (match figs _ with | none => none | some n => (figsAll (r.map _)).map (n :: ·)) = _
    rw [figs_num (h n List.mem_cons_self), figsAll_num r fun m hm => h m (List.mem_cons_of_mem _ hm)]
    rfl
theorem figsAll_len : ∀ {ws : List Str} {ns : List Nat}, figsAll ws = some ns → ns.length = ws.length ∧ (∀ n ∈ ns, n < 1000)
  | [], ns, h => by
    obtain rfl : [] = ns := Option.some.inj h
    exact ⟨rfl, fun n hn => by cases hn⟩
  | w :: r, ns, h => by
    have h : (match figs w with | none => none | some n => (figsAll r).map (n :: ·)) = some ns := h
    cases e : figs w with
    | none => rw [e] at h; cases h
    | some n =>
      rw [e] at h
      have h : (figsAll r).map (n :: ·) = some ns := h
      cases e2 : figsAll r with
      | none => rw [e2] at h; cases h
      | some ms =>
        rw [e2] at h
        obtain rfl : n :: ms = ns := Option.some.inj h
        obtain ⟨l, hs⟩ := figsAll_len e2
        refine ⟨by rw [List.length_cons, List.length_cons, l], fun m hm => ?_⟩
        rcases List.mem_cons.mp hm with rfl | hm
        · exact (figs_int e).2
        · exact hs m hm
theorem figsAll_app : ∀ {a : List Str} {ms : List Nat} (b : List Str), figsAll a = some ms → figsAll (a ++ b) = (figsAll b).map (ms ++ ·)
  | [], ms, b, h => by
    obtain rfl : [] = ms := Option.some.inj h
    show figsAll b = _
    cases figsAll b <;> rfl
  | w :: r, ms, b, h => by
    have h : (match figs w with | none => none | some n => (figsAll r).map (n :: ·)) = some ms := h
    show (match figs w with | none => none | some n => (figsAll (r ++ b)).map (n :: ·)) = _
    cases e : figs w with
    | none => rw [e] at h; cases h
    | some n =>
      rw [e] at h
      have h : (figsAll r).map (n :: ·) = some ms := h
      cases e2 : figsAll r with
      | none => rw [e2] at h; cases h
      | some ns =>
        rw [e2] at h
        obtain rfl : n :: ns = ms := Option.some.inj h
        show (figsAll (r ++ b)).map (n :: ·) = _
        rw [figsAll_app b e2]
        cases figsAll b <;> rfl
theorem figsAll_snoc {us : List Str} {i n : Nat} {z : Str} {ms : List Nat} (hz : us[i]? = some z) (h : figsAll (us.take i) = some ms) (hn : figs z = some n) : figsAll (us.take (i + 1)) = some (ms ++ [n]) := by
  rw [List.take_succ, hz, figsAll_app _ h]
  show (match figs z with | none => none | some n => (figsAll []).map (n :: ·)).map (ms ++ ·) = _
  rw [hn]
  rfl
theorem figsAll_bad {us : List Str} {i : Nat} {z : Str} {ms : List Nat} (hz : us[i]? = some z) (h : figsAll (us.take i) = some ms) (hn : figs z = none) : figsAll us = none := by
  have e : us = us.take i ++ z :: us.drop (i + 1) := by
    obtain ⟨hi, e⟩ := List.getElem?_eq_some_iff.mp hz
    rw [← e, ← List.drop_eq_getElem_cons hi, List.take_append_drop]
  rw [e, figsAll_app _ h]
  show (match figs z with | none => none | some n => (figsAll (us.drop (i + 1))).map (n :: ·)).map (ms ++ ·) = _
  rw [hn]
  rfl
/-- a sign among the figures -/
theorem fig_sign (c : Nat) : (!(Builtin.Str.occurrences (Str.ofString "0123456789") ⟨#[c]⟩ 0 (Str.ofString "0123456789").length 1).isEmpty) = isDig c := by
  have e : Str.ofString "0123456789" = SX.S [48, 49, 50, 51, 52, 53, 54, 55, 56, 57] := by decide +kernel
  rw [e]
  refine (SX.in_one [48, 49, 50, 51, 52, 53, 54, 55, 56, 57] c).trans ?_
  unfold isDig
  rw [← Bool.decide_and]
  refine decide_eq_decide.mpr ?_
  simp only [List.mem_cons, List.not_mem_nil, or_false]
  omega
/-! ### words -/
theorem words_len (x : Str) : (words x).length ≤ (Txt.split x (Str.ofString " ")).length := List.length_filter_le _ _
end Wd
set_option Elab.async false
set_option linter.all false
set_option maxRecDepth 100000
set_option maxHeartbeats 4000000
/-! Words with blanks between. -/
namespace Wd
open PySem PySem.Spec PyProof.Rows L2
def ne (l : List Nat) : List (List Nat) := (TL.spl [32] 0 [] l).filter fun w => !decide (w = [])
theorem filter_map_tl (xs : List Str) : (xs.filter fun w => !decide (w = Str.ofString "")).map TL.tl = (xs.map TL.tl).filter fun w => !decide (w = []) := by
  induction xs with
  | nil => rfl
  | cons x r ih =>
    have e : decide (x = Str.ofString "") = decide (TL.tl x = []) := decide_eq_decide.mpr ⟨fun h => by rw [h, TL.tl_ofString]; rfl, fun h => TL.ext_tl (by rw [h, TL.tl_ofString]; rfl)⟩
    rw [List.map_cons, List.filter_cons, List.filter_cons, e]
    cases decide (TL.tl x = [])
    · show (_ :: _) = _ :: _
      rw [ih]
    · exact ih
theorem blank_tl : TL.tl (Str.ofString " ") = [32] := by rw [TL.tl_ofString]; rfl
theorem split_tl (x : Str) : (Txt.split x (Str.ofString " ")).map TL.tl = TL.spl [32] 0 [] (TL.tl x) := by
  have := TL.split_spl x (Str.ofString " ") (by rw [blank_tl]; simp) (TL.kind_ok (by
    have : Str.ofString " " = ⟨#[32]⟩ := TL.ext_tl blank_tl
    rw [this]
    decide +kernel))
  rw [blank_tl] at this
  exact this
theorem words_tl (x : Str) : (words x).map TL.tl = ne (TL.tl x) := by
  unfold words ne
  rw [filter_map_tl, split_tl]
theorem pre_blank (r : List Nat) : TL.pre [32] (32 :: r) = true := TL.pre_self [32] r
theorem ne_blank (r : List Nat) : ne (32 :: r) = ne r := by
  unfold ne
  rw [TL.spl_hit (pre_blank r)]
  rfl
theorem ne_blanks : ∀ (n : Nat) (r : List Nat), ne (List.replicate n 32 ++ r) = ne r
  | 0, r => rfl
  | n + 1, r => by
    rw [List.replicate_succ, List.cons_append, ne_blank, ne_blanks n r]
theorem ne_word {p : List Nat} (h : 32 ∉ p) (hn : p ≠ []) (r : List Nat) : ne (p ++ 32 :: r) = p :: ne r := by
  unfold ne
  have := TL.spl_part1 (S := []) (acc := []) (rest := r) h
  rw [show p ++ 32 :: r = p ++ ([32] ++ r) from rfl, this, List.filter_cons_of_pos (by simpa using hn)]
  rfl
theorem ne_last {p : List Nat} (h : 32 ∉ p) (hn : p ≠ []) : ne p = [p] := by
  unfold ne
  rw [TL.spl_last1 (S := []) h, List.filter_cons_of_pos (by simpa using hn)]
  rfl
theorem ne_nil : ne [] = [] := rfl
theorem ne_join (b c : Nat) (hb : 1 ≤ b) : ∀ (ps : List (List Nat)), (∀ p ∈ ps, 32 ∉ p ∧ p ≠ []) → ne (TL.joinL (List.replicate b 32) ps ++ List.replicate c 32) = ps
  | [], _ => by
    have := ne_blanks c []
    rw [List.append_nil] at this
    exact this
  | [p], h => by
    obtain ⟨h1, h2⟩ := h p List.mem_cons_self
    show ne (p ++ List.replicate c 32) = [p]
    cases c with
    | zero => rw [List.replicate_zero, List.append_nil]; exact ne_last h1 h2
    | succ c =>
      rw [List.replicate_succ, ne_word h1 h2]
      have := ne_blanks c []
      rw [List.append_nil] at this
      rw [this]
      rfl
  | p :: q :: r, h => by
    obtain ⟨h1, h2⟩ := h p List.mem_cons_self
    have ih := ne_join b c hb (q :: r) fun x hx => h x (List.mem_cons_of_mem _ hx)
    show ne (p ++ (List.replicate b 32 ++ TL.joinL (List.replicate b 32) (q :: r)) ++ List.replicate c 32) = _
    obtain ⟨b', rfl⟩ : ∃ b', b = b' + 1 := ⟨b - 1, by omega⟩
    rw [List.replicate_succ, List.append_assoc, List.append_assoc, List.cons_append, ne_word h1 h2, ne_blanks]
    rw [List.replicate_succ] at ih
    rw [ih]
/-- a text of such words tells them -/
theorem words_of {x : Str} {a b c : Nat} (hb : 1 ≤ b) {ws : List Str} (h : ∀ w ∈ ws, 32 ∉ TL.tl w ∧ TL.tl w ≠ []) (e : TL.tl x = List.replicate a 32 ++ (TL.joinL (List.replicate b 32) (ws.map TL.tl) ++ List.replicate c 32)) : words x = ws := by
  refine TL.map_tl_inj ?_
  rw [words_tl, e, ne_blanks, ne_join b c hb]
  intro p hp
  obtain ⟨w, hw, rfl⟩ := List.mem_map.mp hp
  exact h w hw
/-- the words of a kind -/
def num (n : Nat) : Str := Str.ofString (toString ((n : Nat) : Int))
def kw : Gm.Kind → List Str
  | .still => [Str.ofString "still"]
  | .heap => [Str.ofString "heap"]
  | .taking ls => Str.ofString "taking" :: ls.map num
  | .skittles ls => Str.ofString "skittles" :: ls.map num
  | .parting => [Str.ofString "parting"]
  | .runs => [Str.ofString "runs"]
  | .pairs => [Str.ofString "pairs"]
  | .few m => [Str.ofString "few", num m]
  | .told rows => [Str.ofString "told", num rows.length]
theorem num_word (n : Nat) : 32 ∉ TL.tl (num n) ∧ TL.tl (num n) ≠ [] := by
  unfold num
  rw [TL.tl_num]
  exact ⟨TL.numL_free (by omega), TL.numL_ne n⟩
theorem lit_word {s : String} (h1 : (s.toList.map Char.toNat).contains 32 = false) (h2 : (s.toList.map Char.toNat).isEmpty = false) : 32 ∉ TL.tl (Str.ofString s) ∧ TL.tl (Str.ofString s) ≠ [] := by
  rw [TL.tl_ofString]
  refine ⟨fun h => ?_, fun h => ?_⟩
  · rw [List.contains_iff_mem.mpr h] at h1
    cases h1
  · rw [h] at h2
    cases h2
theorem kw_word (k : Gm.Kind) : ∀ w ∈ kw k, 32 ∉ TL.tl w ∧ TL.tl w ≠ [] := by
  have nums : ∀ (ls : List Nat), ∀ w ∈ ls.map num, 32 ∉ TL.tl w ∧ TL.tl w ≠ [] := fun ls w hw => by
    obtain ⟨n, _, rfl⟩ := List.mem_map.mp hw
    exact num_word n
  intro w hw
  cases k <;> simp only [kw, List.mem_cons, List.not_mem_nil, or_false] at hw
  · rw [hw]; exact lit_word (by decide) (by decide)
  · rw [hw]; exact lit_word (by decide) (by decide)
  · rcases hw with rfl | hw
    · exact lit_word (by decide) (by decide)
    · exact nums _ w hw
  · rcases hw with rfl | hw
    · exact lit_word (by decide) (by decide)
    · exact nums _ w hw
  · rw [hw]; exact lit_word (by decide) (by decide)
  · rw [hw]; exact lit_word (by decide) (by decide)
  · rw [hw]; exact lit_word (by decide) (by decide)
  · rcases hw with rfl | rfl
    · exact lit_word (by decide) (by decide)
    · exact num_word _
  · rcases hw with rfl | rfl
    · exact lit_word (by decide) (by decide)
    · exact num_word _
/-- its words tell a kind -/
theorem told_kw {k : Gm.Kind} (h : match k with | .told _ => False | .taking ls => Gm.Rising ls | .skittles ls => Gm.Rising ls | .few m => 1 ≤ m ∧ m ≤ 3 | _ => True) : told (kw k) = .made k := by
  have fa : ∀ {ls : List Nat}, Gm.Rising ls → figsAll (ls.map num) = some ls := fun hR => figsAll_num _ fun n hn => by have := hR.2.2 n hn; omega
  have hd1 : Str.ofString "taking" ∈ heads := by unfold heads; simp
  have hd2 : Str.ofString "skittles" ∈ heads := by unfold heads; simp
  have hd3 : Str.ofString "few" ∈ heads := by unfold heads; simp
  have n21 : ¬ Str.ofString "skittles" = Str.ofString "taking" := by decide +kernel
  have n31 : ¬ Str.ofString "few" = Str.ofString "taking" := by decide +kernel
  have n32 : ¬ Str.ofString "few" = Str.ofString "skittles" := by decide +kernel
  have step : ∀ (w v : Str) (r : List Str) (ns : List Nat), w ∈ heads → figsAll (v :: r) = some ns → told (w :: v :: r) = ofHead w ns := fun w v r ns hw hf => by
    show (if w ∈ heads then (match figsAll (v :: r) with | none => Out.written | some ns => ofHead w ns) else .written) = _
    rw [if_pos hw, hf]
  have b1 : ∀ w, w ∈ bare → told [w] = .made (bareK w) := fun w hw => if_pos hw
  cases k with
  | told _ => exact h.elim
  | still => exact (b1 _ (by unfold bare; simp)).trans (congrArg Out.made (if_pos rfl))
  | heap => exact (b1 _ (by unfold bare; simp)).trans (congrArg Out.made ((if_neg (by decide +kernel)).trans (if_pos rfl)))
  | parting => exact (b1 _ (by unfold bare; simp)).trans (congrArg Out.made ((if_neg (by decide +kernel)).trans ((if_neg (by decide +kernel)).trans (if_pos rfl))))
  | runs => exact (b1 _ (by unfold bare; simp)).trans (congrArg Out.made ((if_neg (by decide +kernel)).trans ((if_neg (by decide +kernel)).trans ((if_neg (by decide +kernel)).trans (if_pos rfl)))))
  | pairs => exact (b1 _ (by unfold bare; simp)).trans (congrArg Out.made ((if_neg (by decide +kernel)).trans ((if_neg (by decide +kernel)).trans ((if_neg (by decide +kernel)).trans (if_neg (by decide +kernel))))))
  | taking ls =>
    have hR : Gm.Rising ls := h
    match ls, hR with
    | n :: r, hR =>
      refine (step (Str.ofString "taking") (num n) (r.map num) (n :: r) hd1 (fa hR)).trans ?_
      unfold ofHead
      rw [if_pos rfl, if_pos hR]
    | [], hR => exact absurd rfl hR.1
  | skittles ls =>
    have hR : Gm.Rising ls := h
    match ls, hR with
    | n :: r, hR =>
      refine (step (Str.ofString "skittles") (num n) (r.map num) (n :: r) hd2 (fa hR)).trans ?_
      unfold ofHead
      rw [if_neg n21, if_pos rfl, if_pos hR]
    | [], hR => exact absurd rfl hR.1
  | few m =>
    have hm : 1 ≤ m ∧ m ≤ 3 := h
    refine (step (Str.ofString "few") (num m) [] [m] hd3 (figsAll_num [m] fun n hn => by rw [List.mem_singleton] at hn; omega)).trans ?_
    unfold ofHead
    rw [if_neg n31, if_neg n32]
    exact if_pos hm
/-- words joined: joined lists -/
theorem tl_joinS (b : Nat) (ws : List Str) : TL.tl (Txt.join (Txt.mul ⟨#[32]⟩ (b : Int)) ws) = TL.joinL (TL.tl (Txt.mul ⟨#[32]⟩ (b : Int))) (ws.map TL.tl) := by
  rw [TL.join_eq, TL.tl_join]
theorem tl_joinB (ws : List Str) : TL.tl (Txt.join (Str.ofString " ") ws) = TL.joinL [32] (ws.map TL.tl) := by
  rw [TL.join_eq, TL.tl_join, blank_tl]
end Wd
set_option Elab.async false
set_option linter.all false
set_option maxRecDepth 100000
set_option maxHeartbeats 4000000
/-! The desk: a text's lines, what each is answered. Plain Lean. -/
namespace Ds
open PySem PySem.Spec PyProof.Rows L2
/-! ### lines -/
/-- cut at each line end; no empty last one -/
def cut : List Nat → List Nat → List (List Nat)
  | acc, [] => if acc = [] then [] else [acc]
  | acc, c :: r => if c = 10 then acc :: cut [] r else cut (acc ++ [c]) r
/-- signs that end no line, but the line end -/
def Plain (l : List Nat) : Prop := ∀ c ∈ l, Unicode.isLineBreak c = decide (c = 10)
def piece (t : List Nat) (p : Nat × Nat × Nat) : List Nat := (t.drop p.1).take (p.2.1 - p.1)
theorem run_cut (x : Str) (h : Plain (TL.tl x)) : ∀ (m cur : Nat) (st : StrLaws.LsSt), cur + m = x.length → st.2 ≤ cur →
    (StrLaws.lsEnd x (Id.run (forIn (m := Id) (List.range' cur m) st (StrLaws.lsBody x)))).map (piece (TL.tl x)) = st.1.toList.map (piece (TL.tl x)) ++ cut (((TL.tl x).drop st.2).take (cur - st.2)) ((TL.tl x).drop cur)
  | 0, cur, (lines, b0), hm, hs => by
    have hs : b0 ≤ cur := hs
    have hl := TL.len_tl x
    have hc : cur = (TL.tl x).length := by omega
    show (StrLaws.lsEnd x (lines, b0)).map _ = lines.toList.map _ ++ cut (((TL.tl x).drop b0).take (cur - b0)) _
    rw [hc, List.drop_length]
    unfold StrLaws.lsEnd
    show List.map _ (if b0 < x.length then lines.push (b0, x.length, x.length) else lines).toList = _ ++ (if ((TL.tl x).drop b0).take ((TL.tl x).length - b0) = [] then [] else [((TL.tl x).drop b0).take ((TL.tl x).length - b0)])
    by_cases c : b0 < x.length
    · rw [if_pos c, if_neg, Array.toList_push, List.map_append]
      · show _ ++ [piece (TL.tl x) (b0, x.length, x.length)] = _
        unfold piece
        rw [← hl]
      · intro e
        have := congrArg List.length e
        rw [List.length_take, List.length_drop, List.length_nil] at this
        omega
    · rw [if_neg c, if_pos, List.append_nil]
      rw [List.drop_eq_nil_of_le (by omega), List.take_nil]
  | m + 1, cur, (lines, b0), hm, hs => by
    have hs : b0 ≤ cur := hs
    have hl := TL.len_tl x
    have hlt : cur < (TL.tl x).length := by omega
    rw [List.range'_succ, List.forIn_cons]
    obtain ⟨c, hc⟩ : ∃ c, (TL.tl x)[cur]? = some c := ⟨_, List.getElem?_eq_getElem hlt⟩
    have hd : (TL.tl x).drop cur = c :: (TL.tl x).drop (cur + 1) := by
      obtain ⟨h1, e⟩ := List.getElem?_eq_some_iff.mp hc
      rw [List.drop_eq_getElem_cons h1, e]
    have hg : x.cps.getD cur 0 = c := by
      have : x.cps[cur]? = some c := by rw [← hc]; exact (Array.getElem?_toList ..).symm
      rw [Array.getD_eq_getD_getElem?, this]
      rfl
    have hb := h c (List.mem_of_getElem? hc)
    rw [hd]
    show _ = lines.toList.map _ ++ (if c = 10 then ((TL.tl x).drop b0).take (cur - b0) :: cut [] _ else cut (((TL.tl x).drop b0).take (cur - b0) ++ [c]) _)
    unfold StrLaws.lsBody
    show List.map _ (StrLaws.lsEnd x (Id.run (do
      let r ← (if (decide (b0 ≤ cur) && Unicode.isLineBreak (x.cps.getD cur 0)) = true then pure (ForInStep.yield (lines.push (b0, cur, StrLaws.lsNext x cur), StrLaws.lsNext x cur)) else pure (ForInStep.yield (lines, b0)))
      _))) = _
    rw [hg, hb, decide_eq_true hs, Bool.true_and]
    by_cases e : c = 10
    · subst e
      have hn : StrLaws.lsNext x cur = cur + 1 := by
        unfold StrLaws.lsNext
        rw [hg]
        rfl
      rw [if_pos rfl, if_pos (decide_eq_true rfl), hn]
      have ih := run_cut x h m (cur + 1) (lines.push (b0, cur, cur + 1), cur + 1) (by omega) (Nat.le_refl _)
      refine ih.trans ?_
      show List.map _ (lines.push (b0, cur, cur + 1)).toList ++ cut (((TL.tl x).drop (cur + 1)).take (cur + 1 - (cur + 1))) _ = _
      rw [Nat.sub_self, List.take_zero, Array.toList_push, List.map_append, List.append_assoc]
      rfl
    · rw [if_neg e, if_neg (by rw [decide_eq_false e]; exact Bool.false_ne_true)]
      have ih := run_cut x h m (cur + 1) (lines, b0) (by omega) (by show b0 ≤ cur + 1; omega)
      refine ih.trans ?_
      show lines.toList.map _ ++ cut (((TL.tl x).drop b0).take (cur + 1 - b0)) _ = _
      have e2 : ((TL.tl x).drop b0).take (cur + 1 - b0) = ((TL.tl x).drop b0).take (cur - b0) ++ [c] := by
        rw [show cur + 1 - b0 = (cur - b0) + 1 by omega, List.take_succ, List.getElem?_drop, show b0 + (cur - b0) = cur by omega, hc]
        rfl
      rw [e2]
theorem lines_cut {x : Str} (h : Plain (TL.tl x)) : (Txt.lines x).map TL.tl = cut [] (TL.tl x) := by
  have e : (Txt.lines x).map TL.tl = (Builtin.Str.lineSpans x).map (piece (TL.tl x)) := by
    unfold Txt.lines
    split
    · rename_i c
      have c : (lineCuts x) = [(0, x.length)] := by simpa using c
      have : (Builtin.Str.lineSpans x).map (piece (TL.tl x)) = (lineCuts x).map fun p => ((TL.tl x).drop p.1).take (p.2 - p.1) := by
        unfold lineCuts
        rw [List.map_map]
        rfl
      rw [this, c]
      show [TL.tl x] = [((TL.tl x).drop 0).take (x.length - 0)]
      rw [List.drop_zero, Nat.sub_zero, TL.len_tl, List.take_length]
    · unfold linesOf lineCuts
      rw [List.map_map, List.map_map]
      refine List.map_congr_left fun p _ => ?_
      exact TL.tl_strSub _ _ _
  rw [e, StrLaws.ls_eq]
  have := run_cut x h x.length 0 (#[], 0) (by omega) (Nat.le_refl _)
  refine this.trans ?_
  show [] ++ cut (List.take (0 - 0) _) (List.drop 0 _) = _
  rw [List.nil_append, List.take_zero, List.drop_zero]
theorem cut_line {p : List Nat} (h : 10 ∉ p) : ∀ (acc r : List Nat), cut acc (p ++ 10 :: r) = (acc ++ p) :: cut [] r := by
  induction p with
  | nil =>
    intro acc r
    show (if 10 = 10 then acc :: cut [] r else _) = _
    rw [if_pos rfl, List.append_nil]
  | cons c t ih =>
    intro acc r
    show (if c = 10 then _ else cut (acc ++ [c]) (t ++ 10 :: r)) = _
    rw [if_neg (fun e : c = 10 => h (e ▸ List.mem_cons_self)), ih (fun m => h (List.mem_cons_of_mem _ m)), List.append_assoc]
    rfl
theorem cut_last {p : List Nat} (h : 10 ∉ p) : ∀ acc, cut acc p = if acc ++ p = [] then [] else [acc ++ p] := by
  induction p with
  | nil => intro acc; rw [List.append_nil]; rfl
  | cons c t ih =>
    intro acc
    show (if c = 10 then _ else cut (acc ++ [c]) t) = _
    rw [if_neg (fun e : c = 10 => h (e ▸ List.mem_cons_self)), ih (fun m => h (List.mem_cons_of_mem _ m)), List.append_assoc]
    rfl
/-- each line with its end -/
def ended : List (List Nat) → List Nat
  | [] => []
  | p :: r => p ++ 10 :: ended r
theorem cut_ended : ∀ (ps : List (List Nat)), (∀ p ∈ ps, 10 ∉ p) → cut [] (ended ps) = ps
  | [], _ => rfl
  | p :: r, h => by
    show cut [] (p ++ 10 :: ended r) = _
    rw [cut_line (h p List.mem_cons_self), List.nil_append, cut_ended r fun q hq => h q (List.mem_cons_of_mem _ hq)]
/-! ### strip -/
def trim (l : List Nat) : List Nat := ((l.dropWhile (· == 32)).reverse.dropWhile (· == 32)).reverse
theorem drop_takeWhile {α : Type} (p : α → Bool) : ∀ l : List α, l.drop (l.takeWhile p).length = l.dropWhile p
  | [] => rfl
  | a :: r => by
    by_cases c : p a = true
    · rw [List.takeWhile_cons_of_pos c, List.dropWhile_cons_of_pos c]
      exact drop_takeWhile p r
    · rw [List.takeWhile_cons_of_neg c, List.dropWhile_cons_of_neg c]
      rfl
theorem tl_strip (x : Str) : TL.tl (Txt.stripChars x (Str.ofString " ")) = trim (TL.tl x) := by
  have eg : (Str.ofString " ").cps.contains = fun c : Nat => c == 32 := by
    funext c
    have e : (Str.ofString " ") = ⟨#[32]⟩ := TL.ext_tl (by rw [TL.tl_ofString]; rfl)
    rw [e]
    simp [Array.contains]
  unfold Txt.stripChars
  rw [stripBy_eq, TL.tl_strSub, eg]
  unfold stripLo stripHi trim
  have eT : x.cps.toList = TL.tl x := rfl
  have hx := TL.len_tl x
  simp only [if_true, eT, hx]
  rw [drop_takeWhile]
  have hl := congrArg List.length (drop_takeWhile (fun c : Nat => c == 32) (TL.tl x))
  rw [List.length_drop] at hl
  generalize (TL.tl x).dropWhile (fun c => c == 32) = m at *
  have e2 : (TL.tl x).length - (m.reverse.takeWhile fun c => c == 32).length - ((TL.tl x).takeWhile fun c : Nat => c == 32).length = m.length - (m.reverse.takeWhile fun c => c == 32).length := by omega
  rw [e2, ← drop_takeWhile (fun c => c == 32) m.reverse, List.drop_reverse, List.reverse_reverse]
theorem dropWhile_rep : ∀ (n : Nat) (l : List Nat), (List.replicate n 32 ++ l).dropWhile (· == 32) = l.dropWhile (· == 32)
  | 0, l => rfl
  | n + 1, l => by
    rw [List.replicate_succ, List.cons_append, List.dropWhile_cons_of_pos (by rfl), dropWhile_rep n l]
theorem dropWhile_head {l : List Nat} (h : ∀ c, l[0]? = some c → c ≠ 32) : l.dropWhile (· == 32) = l := by
  cases l with
  | nil => rfl
  | cons c r => exact List.dropWhile_cons_of_neg (by simpa using h c rfl)
/-- a text between blanks, itself without any at its ends -/
theorem trim_of (a b : Nat) {l : List Nat} (h0 : ∀ c, l[0]? = some c → c ≠ 32) (h1 : ∀ c, l.reverse[0]? = some c → c ≠ 32) : trim (List.replicate a 32 ++ l ++ List.replicate b 32) = l := by
  unfold trim
  rw [List.append_assoc, dropWhile_rep]
  cases l with
  | nil =>
    rw [List.nil_append]
    have := dropWhile_rep b []
    rw [List.append_nil] at this
    rw [this]
    rfl
  | cons c r =>
    rw [dropWhile_head (l := c :: r ++ List.replicate b 32) (fun d hd => h0 d hd), List.reverse_append, List.reverse_replicate, dropWhile_rep, dropWhile_head h1, List.reverse_reverse]
theorem trim_same {l : List Nat} (h0 : ∀ c, l[0]? = some c → c ≠ 32) (h1 : ∀ c, l.reverse[0]? = some c → c ≠ 32) : trim l = l := by
  have := trim_of 0 0 h0 h1
  rwa [List.replicate_zero, List.append_nil, List.nil_append] at this
theorem strip_same {x : Str} (h0 : ∀ c, (TL.tl x)[0]? = some c → c ≠ 32) (h1 : ∀ c, (TL.tl x).reverse[0]? = some c → c ≠ 32) : Txt.stripChars x (Str.ofString " ") = x := TL.ext_tl (by rw [tl_strip, trim_same h0 h1])
/-! ### begins with a sign -/
theorem starts_hash (x : Str) : Txt.startswith x (Str.ofString "#") = decide ((TL.tl x)[0]? = some 35) := by
  have e : (Str.ofString "#") = ⟨#[35]⟩ := TL.ext_tl (by rw [TL.tl_ofString]; rfl)
  rw [e]
  unfold Txt.startswith Builtin.Str.subAt
  have hl := TL.len_tl x
  show (decide (0 + 1 ≤ x.length) && (x.cps.extract 0 (0 + 1) == #[35])) = _
  have e2 : (x.cps.extract 0 (0 + 1) == #[35]) = decide ((TL.tl x).take 1 = [35]) := by
    rw [Bool.beq_eq_decide_eq]
    refine decide_eq_decide.mpr ?_
    rw [← Array.toList_inj, Array.toList_extract]
    simp [TL.tl, List.extract]
  rw [e2, hl]
  cases h : TL.tl x with
  | nil => rfl
  | cons c r => simp
/-! ### what a line is answered -/
/-- a turn's words -/
def told (k : Gm.Kind) (ps : List Nat) : Str := match Gm.best k.L ps with
  | none => Str.ofString "lost"
  | some (i, lead) => if lead = [] then Wd.num (ps.getD i 0) ++ Str.ofString " to nothing" else Wd.num (ps.getD i 0) ++ Str.ofString " to " ++ Txt.join (Str.ofString " ") (lead.map Wd.num)
inductive Ans where
  | turn (k : Gm.Kind) (ps : List Nat) | place | game | written
def colon (z : Str) : Option (List Nat × List Nat) := TL.par [58] [] (TL.tl z)
/-- behind the colon: places of a game -/
def places (k : Gm.Kind) (b : Str) : Ans := match Wd.figsAll (Wd.words b) with
  | none => .written
  | some ps => if ∀ p ∈ ps, p ≤ 100 then .turn k ps else .place
def ans (z : Str) : Ans := match colon z with
  | none => .written
  | some (a, b) => match Wd.ofText ⟨a.toArray⟩ with
    | .written => .written
    | .game => .game
    | .made k => places k ⟨b.toArray⟩
def ansS : Ans → Str
  | .turn k ps => told k ps
  | .place => Str.ofString "no place"
  | .game => Str.ofString "no game"
  | .written => Str.ofString "not read"
def passed (z : Str) : Prop := z = Str.ofString "" ∨ (TL.tl z)[0]? = some 35
instance (z : Str) : Decidable (passed z) := by unfold passed; infer_instance
def strip (l : Str) : Str := Txt.stripChars l (Str.ofString " ")
def line (mark : Str) (n : Nat) (l : Str) : List Str := if passed (strip l) then [] else [Wd.num n ++ mark ++ ansS (ans (strip l))]
def answers (mark : Str) : Nat → List Str → List Str
  | _, [] => []
  | n, l :: r => line mark n l ++ answers mark (n + 1) r
theorem answers_snoc (mark : Str) : ∀ (ls : List Str) (n : Nat) (l : Str), answers mark n (ls ++ [l]) = answers mark n ls ++ line mark (n + ls.length) l
  | [], n, l => by
    show line mark n l ++ [] = [] ++ line mark (n + 0) l
    rw [List.append_nil, List.nil_append, Nat.add_zero]
  | m :: r, n, l => by
    show line mark n m ++ answers mark (n + 1) (r ++ [l]) = line mark n m ++ answers mark (n + 1) r ++ line mark (n + (r.length + 1)) l
    rw [answers_snoc mark r (n + 1) l, List.append_assoc, show n + 1 + r.length = n + (r.length + 1) by omega]
/-- no blanks at a turn's ends -/
theorem num_ends (n : Nat) : (∀ c, (TL.tl (Wd.num n))[0]? = some c → c ≠ 32) ∧ (∀ c, (TL.tl (Wd.num n)).reverse[0]? = some c → c ≠ 32) := by
  have h := (Wd.num_word n).1
  refine ⟨fun c hc e => h (e ▸ List.mem_of_getElem? hc), fun c hc e => h (e ▸ ?_)⟩
  exact List.mem_reverse.mp (List.mem_of_getElem? hc)
theorem app_head {a b : List Nat} (ha : a ≠ []) (h : ∀ c, a[0]? = some c → c ≠ 32) : ∀ c, (a ++ b)[0]? = some c → c ≠ 32 := by
  intro c hc
  cases a with
  | nil => exact absurd rfl ha
  | cons d r => exact h c hc
theorem app_last {a b : List Nat} (hb : b ≠ []) (h : ∀ c, b.reverse[0]? = some c → c ≠ 32) : ∀ c, (a ++ b).reverse[0]? = some c → c ≠ 32 := by
  rw [List.reverse_append]
  exact app_head (by simpa using hb) h
theorem join_last : ∀ (ns : List Nat), ns ≠ [] → TL.joinL [32] ((ns.map Wd.num).map TL.tl) ≠ [] ∧ ∀ c, (TL.joinL [32] ((ns.map Wd.num).map TL.tl)).reverse[0]? = some c → c ≠ 32
  | [], h => absurd rfl h
  | [n], _ => ⟨(Wd.num_word n).2, (num_ends n).2⟩
  | n :: m :: r, _ => by
    obtain ⟨h1, h2⟩ := join_last (m :: r) (by simp)
    show TL.tl (Wd.num n) ++ ([32] ++ TL.joinL [32] (((m :: r).map Wd.num).map TL.tl)) ≠ [] ∧ _
    refine ⟨fun e => (Wd.num_word n).2 (List.append_eq_nil_iff.mp e).1, ?_⟩
    show ∀ c, (TL.tl (Wd.num n) ++ ([32] ++ TL.joinL [32] (((m :: r).map Wd.num).map TL.tl))).reverse[0]? = some c → c ≠ 32
    rw [← List.append_assoc]
    exact app_last h1 h2
theorem told_ends (k : Gm.Kind) (ps : List Nat) : (∀ c, (TL.tl (told k ps))[0]? = some c → c ≠ 32) ∧ (∀ c, (TL.tl (told k ps)).reverse[0]? = some c → c ≠ 32) := by
  unfold told
  split
  · rw [TL.tl_ofString]
    exact ⟨fun c hc => by cases hc; decide, fun c hc => by cases hc; decide⟩
  · rename_i i lead _
    split
    · rw [TL.tl_append, TL.tl_ofString]
      exact ⟨app_head (Wd.num_word _).2 (num_ends _).1, app_last (by decide) fun c hc => by cases hc; decide⟩
    · rename_i hne
      obtain ⟨h1, h2⟩ := join_last lead hne
      rw [TL.tl_append, TL.tl_append, Wd.tl_joinB]
      refine ⟨?_, app_last h1 h2⟩
      rw [List.append_assoc]
      exact app_head (Wd.num_word _).2 (num_ends _).1
theorem told_strip (k : Gm.Kind) (ps : List Nat) : Txt.stripChars (told k ps) (Str.ofString " ") = told k ps := strip_same (told_ends k ps).1 (told_ends k ps).2
end Ds
set_option Elab.async false
set_option linter.all false
set_option maxRecDepth 100000
set_option maxHeartbeats 4000000
/-! The desk: lines with a colon, texts of lines. Plain Lean. -/
namespace Ds
open PySem PySem.Spec PyProof.Rows L2
theorem trimR : ∀ (l : List Nat), ∃ r b, l = r ++ List.replicate b 32 ∧ ∀ c, r.reverse[0]? = some c → c ≠ 32 := by
  have key : ∀ l : List Nat, ∃ r b, l.reverse = r ++ List.replicate b 32 ∧ ∀ c, r.reverse[0]? = some c → c ≠ 32 := by
    intro l
    induction l with
    | nil => exact ⟨[], 0, rfl, fun c h => by cases h⟩
    | cons a t ih =>
      by_cases e : a = 32
      · obtain ⟨r, b, h1, h2⟩ := ih
        refine ⟨r, b + 1, ?_, h2⟩
        rw [List.reverse_cons, h1, e, List.replicate_succ', List.append_assoc]
      · refine ⟨(a :: t).reverse, 0, by simp, fun c h => ?_⟩
        rw [List.reverse_reverse] at h
        have h : some a = some c := h
        injection h with h
        rw [← h]
        exact e
  intro l
  have := key l.reverse
  rwa [List.reverse_reverse] at this
theorem split32 : ∀ (l : List Nat), 32 ∈ l → ∃ p r, l = p ++ 32 :: r ∧ 32 ∉ p
  | a :: t, h => by
    by_cases e : a = 32
    · exact ⟨[], t, by rw [e]; rfl, by simp⟩
    · have h : 32 ∈ t := (List.mem_cons.mp h).resolve_left fun z => e z.symm
      obtain ⟨p, r, h1, h2⟩ := split32 t h
      exact ⟨a :: p, r, by rw [h1]; rfl, fun z => (List.mem_cons.mp z).elim (fun w => e w.symm) h2⟩
theorem ne_right (b : Nat) : ∀ (n : Nat) (r : List Nat), r.length ≤ n → Wd.ne (r ++ List.replicate b 32) = Wd.ne r
  | n, r, hn => by
    have blanks : Wd.ne (List.replicate b 32) = [] := by
      have := Wd.ne_blanks b []
      rwa [List.append_nil] at this
    by_cases h : 32 ∈ r
    · obtain ⟨p, r', e, hp⟩ := split32 r h
      subst e
      rw [List.length_append, List.length_cons] at hn
      match n, hn with
      | n + 1, hn =>
        have ih := ne_right b n r' (by omega)
        rw [List.append_assoc, List.cons_append]
        by_cases hp0 : p = []
        · rw [hp0, List.nil_append, List.nil_append, Wd.ne_blank, Wd.ne_blank, ih]
        · rw [Wd.ne_word hp hp0, Wd.ne_word hp hp0, ih]
    · by_cases h0 : r = []
      · rw [h0, List.nil_append, blanks]
        rfl
      · cases b with
        | zero => rw [List.replicate_zero, List.append_nil]
        | succ b =>
          rw [List.replicate_succ, Wd.ne_word h h0, Wd.ne_last h h0]
          have : Wd.ne (List.replicate b 32) = [] := by
            have := Wd.ne_blanks b []
            rwa [List.append_nil] at this
          rw [this]
theorem ne_rep (b : Nat) (r : List Nat) : Wd.ne (r ++ List.replicate b 32) = Wd.ne r := ne_right b r.length r (Nat.le_refl _)
theorem words_eq {x y : Str} (h : Wd.ne (TL.tl x) = Wd.ne (TL.tl y)) : Wd.words x = Wd.words y := TL.map_tl_inj (by rw [Wd.words_tl, Wd.words_tl, h])
theorem words_is {x : Str} {ws : List Str} (h : Wd.ne (TL.tl x) = ws.map TL.tl) : Wd.words x = ws := TL.map_tl_inj (by rw [Wd.words_tl, h])
/-- what a line with a colon is answered -/
def colAns (hd rest : List Nat) : Ans := match Wd.ofText ⟨hd.toArray⟩ with
  | .written => .written
  | .game => .game
  | .made k => places k ⟨rest.toArray⟩
theorem colAns_rest {hd r1 r2 : List Nat} (h : Wd.ne r1 = Wd.ne r2) : colAns hd r1 = colAns hd r2 := by
  have e : Wd.words ⟨r1.toArray⟩ = Wd.words ⟨r2.toArray⟩ := words_eq h
  unfold colAns places
  rw [e]
theorem ans_colon {z : Str} {hd rest : List Nat} (e : TL.tl z = hd ++ 58 :: rest) (h : 58 ∉ hd) : ans z = colAns hd rest := by
  have : colon z = some (hd, rest) := by
    unfold colon
    rw [e]
    exact TL.par_part1 (s := 58) (S := []) h
  unfold ans
  rw [this]
  rfl
theorem ans_none {z : Str} (h : 58 ∉ TL.tl z) : ans z = .written := by
  have : colon z = none := TL.par_none1 (s := 58) (S := []) h
  unfold ans
  rw [this]
theorem strip_of {l x : Str} {a b : Nat} (e : TL.tl l = List.replicate a 32 ++ TL.tl x ++ List.replicate b 32) (h0 : ∀ c, (TL.tl x)[0]? = some c → c ≠ 32) (h1 : ∀ c, (TL.tl x).reverse[0]? = some c → c ≠ 32) : strip l = x :=
  TL.ext_tl (by unfold strip; rw [tl_strip, e, trim_of a b h0 h1])
/-- a line: blanks, the game's words, a colon, the rest -/
theorem line_colon {l mark : Str} {n a : Nat} {hd rest : List Nat} (e : TL.tl l = List.replicate a 32 ++ hd ++ 58 :: rest) (h : 58 ∉ hd) (h0 : ∀ c, hd[0]? = some c → c ≠ 32 ∧ c ≠ 35) :
    line mark n l = [Wd.num n ++ mark ++ ansS (colAns hd rest)] := by
  obtain ⟨r, b, er, hr⟩ := trimR rest
  have hs : strip l = ⟨(hd ++ 58 :: r).toArray⟩ := by
    refine strip_of (a := a) (b := b) (by rw [e, er, TL.tl_mk]; simp) ?_ ?_
    · rw [TL.tl_mk]
      intro c hc
      cases hd with
      | nil => cases hc; decide
      | cons d t => exact (h0 c hc).1
    · rw [TL.tl_mk]
      refine app_last (by simp) ?_
      intro c hc
      rw [List.reverse_cons] at hc
      cases hrr : r.reverse with
      | nil =>
        rw [hrr] at hc
        cases hc
        decide
      | cons d t =>
        rw [hrr] at hc
        exact hr c (by rw [hrr]; exact hc)
  have hp : ¬ passed (strip l) := by
    rw [hs]
    rintro (z | z)
    · have := congrArg TL.tl z
      rw [TL.tl_mk, TL.tl_ofString] at this
      cases hd <;> cases this
    · rw [TL.tl_mk] at z
      cases hd with
      | nil => cases z
      | cons d t => exact (h0 35 z).2 rfl
  unfold line
  rw [if_neg hp, hs, ans_colon (TL.tl_mk _) h, colAns_rest (r2 := rest)]
  rw [er, ne_rep]
/-! ### texts -/
/-- signs from the blank to ~ -/
def Safe (l : List Nat) : Prop := ∀ c ∈ l, 32 ≤ c ∧ c < 127
theorem safe_break : ∀ c, c < 127 → 32 ≤ c → Unicode.isLineBreak c = false := by decide
theorem Safe.app {a b : List Nat} (h1 : Safe a) (h2 : Safe b) : Safe (a ++ b) := fun c hc => (List.mem_append.mp hc).elim (h1 c) (h2 c)
theorem Safe.rep (n : Nat) : Safe (List.replicate n 32) := fun c hc => by rw [(List.mem_replicate.mp hc).2]; decide
theorem Safe.no10 {l : List Nat} (h : Safe l) : 10 ∉ l := fun z => by have := h 10 z; omega
theorem ended_plain : ∀ {ps : List (List Nat)}, (∀ p ∈ ps, Safe p) → Plain (ended ps)
  | [], _, c, hc => by cases hc
  | p :: r, h, c, hc => by
    have hc : c ∈ p ++ 10 :: ended r := hc
    rcases List.mem_append.mp hc with hc | hc
    · have := h p List.mem_cons_self c hc
      rw [safe_break c this.2 this.1, decide_eq_false (by omega)]
    · rcases List.mem_cons.mp hc with rfl | hc
      · decide
      · exact ended_plain (fun q hq => h q (List.mem_cons_of_mem _ hq)) c hc
theorem ended_snoc : ∀ (ps : List (List Nat)) (p : List Nat), ended (ps ++ [p]) = ended ps ++ p ++ [10]
  | [], p => by
    show p ++ [10] = [] ++ p ++ [10]
    rfl
  | q :: r, p => by
    show q ++ 10 :: ended (r ++ [p]) = q ++ 10 :: ended r ++ p ++ [10]
    rw [ended_snoc r p]
    simp
theorem cut_pre : ∀ (ps : List (List Nat)) (t : List Nat), (∀ p ∈ ps, 10 ∉ p) → cut [] (ended ps ++ t) = ps ++ cut [] t
  | [], _, _ => rfl
  | p :: r, t, h => by
    show cut [] ((p ++ 10 :: ended r) ++ t) = _
    rw [List.append_assoc, List.cons_append, cut_line (h p List.mem_cons_self), List.nil_append, cut_pre r t fun q hq => h q (List.mem_cons_of_mem _ hq)]
    rfl
theorem lines_text {x : Str} {ls : List Str} (e : TL.tl x = ended (ls.map TL.tl)) (h : ∀ l ∈ ls, Safe (TL.tl l)) : Txt.lines x = ls := by
  have hs : ∀ p ∈ ls.map TL.tl, Safe p := fun p hp => by
    obtain ⟨l, hl, rfl⟩ := List.mem_map.mp hp
    exact h l hl
  refine TL.map_tl_inj ?_
  rw [lines_cut (by rw [e]; exact ended_plain hs), e, cut_ended _ fun p hp => (hs p hp).no10]
theorem line_empty (mark : Str) (n : Nat) {l : Str} (h : TL.tl l = []) : line mark n l = [] := by
  unfold line
  rw [if_pos]
  refine .inl (TL.ext_tl ?_)
  unfold strip
  rw [tl_strip, h, TL.tl_ofString]
  rfl
theorem answers_app (mark : Str) : ∀ (a : List Str) (n : Nat) (b : List Str), answers mark n (a ++ b) = answers mark n a ++ answers mark (n + a.length) b
  | [], n, b => rfl
  | l :: r, n, b => by
    show line mark n l ++ answers mark (n + 1) (r ++ b) = line mark n l ++ answers mark (n + 1) r ++ answers mark (n + (r.length + 1)) b
    rw [answers_app mark r (n + 1) b, List.append_assoc, show n + 1 + r.length = n + (r.length + 1) by omega]
/-- the last line may lack its end -/
theorem answers_open {x : Str} {ls : List Str} {l : Str} (e : TL.tl x = ended (ls.map TL.tl) ++ TL.tl l) (h : ∀ l ∈ ls, Safe (TL.tl l)) (hl : Safe (TL.tl l)) (mark : Str) : answers mark 1 (Txt.lines x) = answers mark 1 (ls ++ [l]) := by
  have hs : ∀ p ∈ ls.map TL.tl, Safe p := fun p hp => by
    obtain ⟨l, hl, rfl⟩ := List.mem_map.mp hp
    exact h l hl
  have hp : Plain (TL.tl x) := by
    rw [e]
    intro c hc
    rcases List.mem_append.mp hc with hc | hc
    · exact ended_plain hs c hc
    · have := hl c hc
      rw [safe_break c this.2 this.1, decide_eq_false (by omega)]
  have hc := lines_cut hp
  rw [e, cut_pre _ _ fun p hp => (hs p hp).no10, cut_last hl.no10, List.nil_append] at hc
  by_cases h0 : TL.tl l = []
  · rw [if_pos h0, List.append_nil] at hc
    rw [TL.map_tl_inj hc, answers_app]
    show _ = _ ++ (line mark _ l ++ [])
    rw [line_empty mark _ h0, List.append_nil, List.append_nil]
  · rw [if_neg h0] at hc
    have : Txt.lines x = ls ++ [l] := TL.map_tl_inj (by rw [hc, List.map_append]; rfl)
    rw [this]
end Ds
namespace Ds
open PySem PySem.Spec PyProof.Rows L2 N
theorem lit_ok {s : String} (h : (s.toList.map Char.toNat).all (· < 1114112) = true) : SOk (Str.ofString s) := fun c hc => by
  rw [TL.tl_ofString] at hc
  exact of_decide_eq_true (List.all_eq_true.mp h c hc)
theorem ansS_ok (a : Ans) : SOk (ansS a) := by
  cases a with
  | place => exact lit_ok (by decide)
  | game => exact lit_ok (by decide)
  | written => exact lit_ok (by decide)
  | turn k ps =>
    show SOk (told k ps)
    unfold told
    split
    · exact lit_ok (by decide)
    · split
      · exact (SOk.num _).app (lit_ok (by decide))
      · refine ((SOk.num _).app (lit_ok (by decide))).app (SOk.join (lit_ok (by decide)) fun x hx => ?_)
        obtain ⟨n, _, rfl⟩ := List.mem_map.mp hx
        exact SOk.num n
theorem line_ok {mark : Str} (hm : SOk mark) (n : Nat) (l : Str) : ∀ z ∈ line mark n l, SOk z := by
  intro z hz
  unfold line at hz
  split at hz
  · cases hz
  · rw [List.mem_singleton] at hz
    rw [hz]
    exact ((SOk.num n).app hm).app (ansS_ok _)
theorem answers_ok {mark : Str} (hm : SOk mark) : ∀ (ls : List Str) (n : Nat), ∀ z ∈ answers mark n ls, SOk z
  | [], _, z, hz => by cases hz
  | l :: r, n, z, hz => by
    rcases List.mem_append.mp (show z ∈ line mark n l ++ answers mark (n + 1) r from hz) with hz | hz
    · exact line_ok hm n l z hz
    · exact answers_ok hm r (n + 1) z hz
/-! literal lines -/
def Ans.isW : Ans → Bool | .written => true | _ => false
def Ans.isG : Ans → Bool | .game => true | _ => false
def Ans.isP : Ans → Bool | .place => true | _ => false
/-- a literal text: signs, ends -/
def litB (x : Str) : Bool := (TL.tl x).all (fun c => decide (32 ≤ c ∧ c < 127)) && decide ((TL.tl x)[0]? ≠ some 32) && decide ((TL.tl x).reverse[0]? ≠ some 32) && decide (x.length ≤ 100)
theorem lit_of {x : Str} (h : litB x = true) : Safe (TL.tl x) ∧ (∀ c, (TL.tl x)[0]? = some c → c ≠ 32) ∧ (∀ c, (TL.tl x).reverse[0]? = some c → c ≠ 32) ∧ x.length ≤ 100 := by
  unfold litB at h
  simp only [Bool.and_eq_true] at h
  obtain ⟨⟨⟨h1, h2⟩, h3⟩, h4⟩ := h
  refine ⟨fun c hc => of_decide_eq_true (List.all_eq_true.mp h1 c hc), fun c hc e => ?_, fun c hc e => ?_, of_decide_eq_true h4⟩
  · exact of_decide_eq_true h2 (e ▸ hc)
  · exact of_decide_eq_true h3 (e ▸ hc)
/-- what a line of such a text and blanks at its ends is answered -/
def Says (x : Str) (d : Option Str) : Prop := Safe (TL.tl x) ∧ x.length ≤ 200 ∧ ∀ (a b : Nat) (l mark : Str) (n : Nat), TL.tl l = List.replicate a 32 ++ TL.tl x ++ List.replicate b 32 → line mark n l = match d with | none => [] | some u => [Wd.num n ++ mark ++ u]
theorem says_lit {x : Str} (h : litB x = true) {d : Option Str} (hd : (d = none ∧ passed x) ∨ ∃ u, d = some u ∧ ¬ passed x ∧ ansS (ans x) = u) : Says x d := by
  obtain ⟨h1, h2, h3, h4⟩ := lit_of h
  refine ⟨h1, by omega, fun a b l mark n e => ?_⟩
  have hs : strip l = x := strip_of e h2 h3
  unfold line
  rw [hs]
  rcases hd with ⟨rfl, hp⟩ | ⟨u, rfl, hp, rfl⟩
  · rw [if_pos hp]
  · rw [if_neg hp]
theorem isW_eq {a : Ans} (h : a.isW = true) : a = .written := by
  cases a <;> first | rfl | cases h
theorem isG_eq {a : Ans} (h : a.isG = true) : a = .game := by
  cases a <;> first | rfl | cases h
theorem isP_eq {a : Ans} (h : a.isP = true) : a = .place := by
  cases a <;> first | rfl | cases h
theorem all_W {xs : List Str} (h : xs.all (fun x => litB x && (!decide (passed x) && (ans x).isW)) = true) {x : Str} (hx : x ∈ xs) : Says x (some (Str.ofString "not read")) := by
  have := List.all_eq_true.mp h x hx
  simp only [Bool.and_eq_true] at this
  exact says_lit this.1 (.inr ⟨_, rfl, by simpa using this.2.1, by rw [isW_eq this.2.2]; rfl⟩)
theorem all_G {xs : List Str} (h : xs.all (fun x => litB x && (!decide (passed x) && (ans x).isG)) = true) {x : Str} (hx : x ∈ xs) : Says x (some (Str.ofString "no game")) := by
  have := List.all_eq_true.mp h x hx
  simp only [Bool.and_eq_true] at this
  exact says_lit this.1 (.inr ⟨_, rfl, by simpa using this.2.1, by rw [isG_eq this.2.2]; rfl⟩)
theorem one_P {x : Str} (h : (litB x && (!decide (passed x) && (ans x).isP)) = true) : Says x (some (Str.ofString "no place")) := by
  simp only [Bool.and_eq_true] at h
  exact says_lit h.1 (.inr ⟨_, rfl, by simpa using h.2.1, by rw [isP_eq h.2.2]; rfl⟩)
theorem one_N {x : Str} (h : (litB x && decide (passed x)) = true) : Says x none := by
  simp only [Bool.and_eq_true] at h
  exact says_lit h.1 (.inl ⟨rfl, by simpa using h.2⟩)
theorem says_col {x : Str} {hd rest : List Nat} (e : TL.tl x = hd ++ 58 :: rest) (h : 58 ∉ hd) (h0 : ∀ c, hd[0]? = some c → c ≠ 32 ∧ c ≠ 35) (hs : Safe (TL.tl x)) (hl : x.length ≤ 200) : Says x (some (ansS (colAns hd rest))) := by
  refine ⟨hs, hl, fun a b l mark n el => ?_⟩
  have e2 : TL.tl l = List.replicate a 32 ++ hd ++ 58 :: (rest ++ List.replicate b 32) := by rw [el, e]; simp
  rw [line_colon e2 h h0, colAns_rest (ne_rep b rest)]
end Ds
set_option Elab.async false
set_option linter.all false
set_option maxRecDepth 100000
set_option maxHeartbeats 4000000
/-! Any text's lines, told words, what none tells. Plain Lean. -/
namespace Ln
open PySem PySem.Spec PyProof.Rows L2 Wd Ds
/-! ### told words are a kind's words -/
theorem figs_is {w : Str} {n : Nat} (h : figs w = some n) : w = num n := TL.ext_tl (by unfold num; rw [TL.tl_num]; exact (figL_num h).1)
theorem figsAll_is : ∀ {ws : List Str} {ns : List Nat}, figsAll ws = some ns → ws = ns.map num
  | [], ns, h => by
    obtain rfl : [] = ns := Option.some.inj h
    rfl
  | w :: r, ns, h => by
    have h : (match figs w with | none => none | some n => (figsAll r).map (n :: ·)) = some ns := h
    cases e : figs w with
    | none => rw [e] at h; cases h
    | some n =>
      rw [e] at h
      have h : (figsAll r).map (n :: ·) = some ns := h
      cases e2 : figsAll r with
      | none => rw [e2] at h; cases h
      | some ms =>
        rw [e2] at h
        obtain rfl : n :: ms = ns := Option.some.inj h
        rw [figs_is e, figsAll_is e2]
        rfl
theorem told_is {ws : List Str} {k : Gm.Kind} (h : told ws = .made k) : ws = kw k := by
  match ws, h with
  | [w], h =>
    have h : (if w ∈ bare then Out.made (bareK w) else .written) = .made k := h
    split at h
    · rename_i hb
      have e : bareK w = k := by injection h
      rw [← e]
      unfold bare at hb
      simp only [List.mem_cons, List.not_mem_nil, or_false] at hb
      rcases hb with rfl | rfl | rfl | rfl | rfl
      · rfl
      · exact (congrArg kw (show bareK (Str.ofString "heap") = .heap from (if_neg (by decide +kernel)).trans (if_pos rfl))).symm
      · exact (congrArg kw (show bareK (Str.ofString "parting") = .parting from (if_neg (by decide +kernel)).trans ((if_neg (by decide +kernel)).trans (if_pos rfl)))).symm
      · exact (congrArg kw (show bareK (Str.ofString "runs") = .runs from (if_neg (by decide +kernel)).trans ((if_neg (by decide +kernel)).trans ((if_neg (by decide +kernel)).trans (if_pos rfl))))).symm
      · exact (congrArg kw (show bareK (Str.ofString "pairs") = .pairs from (if_neg (by decide +kernel)).trans ((if_neg (by decide +kernel)).trans ((if_neg (by decide +kernel)).trans (if_neg (by decide +kernel)))))).symm
    · cases h
  | w :: v :: r, h =>
    have h : (if w ∈ heads then (match figsAll (v :: r) with | none => Out.written | some ns => ofHead w ns) else .written) = .made k := h
    split at h
    · rename_i hh
      cases ef : figsAll (v :: r) with
      | none => rw [ef] at h; cases h
      | some ns =>
        rw [ef] at h
        have hv := figsAll_is ef
        have h : ofHead w ns = .made k := h
        unfold ofHead at h
        rw [hv]
        split at h
        · rename_i e1
          split at h
          · have e : Gm.Kind.taking ns = k := by injection h
            rw [← e, e1]
            rfl
          · cases h
        split at h
        · rename_i e1
          split at h
          · have e : Gm.Kind.skittles ns = k := by injection h
            rw [← e, e1]
            rfl
          · cases h
        · rename_i n1 n2
          have hw : w = Str.ofString "few" := by
            unfold heads at hh
            simp only [List.mem_cons, List.not_mem_nil, or_false] at hh
            rcases hh with z | z | z
            · exact absurd z n1
            · exact absurd z n2
            · exact z
          split at h
          · rename_i n _
            split at h
            · have e : Gm.Kind.few n = k := by injection h
              rw [← e, hw]
              rfl
            · cases h
          · cases h
    · cases h
/-! ### a word with a line end tells nothing -/
theorem figs_10 {w : Str} (h : 10 ∈ TL.tl w) : figs w = none := by
  refine if_pos (.inr (.inr (.inr (Bool.eq_false_iff.mpr fun a => ?_))))
  have := List.all_eq_true.mp a 10 h
  exact absurd this (by decide)
theorem figsAll_none : ∀ {us : List Str} {z : Str}, z ∈ us → figs z = none → figsAll us = none
  | w :: r, z, h, hz => by
    show (match figs w with | none => none | some n => (figsAll r).map (n :: ·)) = none
    rcases List.mem_cons.mp h with rfl | h
    · rw [hz]
    · rw [figsAll_none h hz]
      cases figs w <;> rfl
theorem lit_10 {xs : List Str} (h : (xs.all fun x => !(TL.tl x).contains 10) = true) {w : Str} (hw : 10 ∈ TL.tl w) : w ∉ xs := fun hm => by
  have := List.all_eq_true.mp h w hm
  rw [List.contains_iff_mem.mpr hw] at this
  cases this
theorem told_10 {ws : List Str} (h : ∃ w ∈ ws, 10 ∈ TL.tl w) : told ws = .written := by
  obtain ⟨w, hm, hw⟩ := h
  match ws, hm with
  | [v], hm =>
    obtain rfl := List.mem_singleton.mp hm
    exact if_neg (lit_10 (by decide +kernel) hw)
  | v :: u :: r, hm =>
    by_cases c : v ∈ heads
    · have hm2 : w ∈ u :: r := (List.mem_cons.mp hm).resolve_left fun e => lit_10 (xs := heads) (by decide +kernel) hw (e ▸ c)
      refine (if_pos c).trans ?_
      rw [figsAll_none hm2 (figs_10 hw)]
    · exact if_neg c
/-- each sign but the blank stands in a word -/
theorem ne_has {c : Nat} (hc : c ≠ 32) : ∀ (n : Nat) (l : List Nat), l.length ≤ n → c ∈ l → ∃ w ∈ ne l, c ∈ w
  | n, l, hn, h => by
    by_cases hb : 32 ∈ l
    · obtain ⟨p, r, e, hp⟩ := split32 l hb
      subst e
      rw [List.length_append, List.length_cons] at hn
      match n, hn with
      | n + 1, hn =>
        by_cases hp0 : p = []
        · subst hp0
          rw [List.nil_append, ne_blank]
          rw [List.nil_append] at h
          exact ne_has hc n r (by omega) ((List.mem_cons.mp h).resolve_left hc)
        · rw [ne_word hp hp0]
          rcases List.mem_append.mp h with h | h
          · exact ⟨p, List.mem_cons_self, h⟩
          · obtain ⟨w, h1, h2⟩ := ne_has hc n r (by omega) ((List.mem_cons.mp h).resolve_left hc)
            exact ⟨w, List.mem_cons_of_mem _ h1, h2⟩
    · have h0 : l ≠ [] := fun z => by rw [z] at h; cases h
      rw [ne_last hb h0]
      exact ⟨l, List.mem_singleton.mpr rfl, h⟩
theorem text_10 {x : Str} (h : 10 ∈ TL.tl x) : ofText x = .written := by
  obtain ⟨w, h1, h2⟩ := ne_has (by decide) _ _ (Nat.le_refl _) h
  rw [← words_tl] at h1
  obtain ⟨v, hv, rfl⟩ := List.mem_map.mp h1
  exact told_10 ⟨v, hv, h2⟩
/-! ### split at line ends, lines -/
theorem split10 : ∀ (l : List Nat), 10 ∈ l → ∃ p r, l = p ++ 10 :: r ∧ 10 ∉ p
  | a :: t, h => by
    by_cases e : a = 10
    · exact ⟨[], t, by rw [e]; rfl, by simp⟩
    · have h : 10 ∈ t := (List.mem_cons.mp h).resolve_left fun z => e z.symm
      obtain ⟨p, r, h1, h2⟩ := split10 t h
      exact ⟨a :: p, r, by rw [h1]; rfl, fun z => (List.mem_cons.mp z).elim (fun w => e w.symm) h2⟩
theorem spl_cut : ∀ (n : Nat) (l : List Nat), l.length ≤ n → TL.spl [10] 0 [] l = cut [] (l ++ [10]) ∧ (TL.spl [10] 0 [] l = cut [] l ∨ TL.spl [10] 0 [] l = cut [] l ++ [[]])
  | n, l, hn => by
    by_cases h : 10 ∈ l
    · obtain ⟨p, r, e, hp⟩ := split10 l h
      subst e
      rw [List.length_append, List.length_cons] at hn
      match n, hn with
      | n + 1, hn =>
        obtain ⟨h1, h2⟩ := spl_cut n r (by omega)
        have e1 : TL.spl [10] 0 [] (p ++ 10 :: r) = p :: TL.spl [10] 0 [] r := TL.spl_part1 (S := []) (acc := []) (rest := r) hp
        rw [e1, List.append_assoc, List.cons_append, cut_line hp, cut_line hp, List.nil_append]
        refine ⟨by rw [h1], ?_⟩
        rcases h2 with h2 | h2
        · exact .inl (by rw [h2])
        · exact .inr (by rw [h2]; rfl)
    · have e1 : TL.spl [10] 0 [] l = [l] := TL.spl_last1 (S := []) h
      have e2 := cut_line h [] []
      rw [e1, e2, List.nil_append]
      refine ⟨rfl, ?_⟩
      rw [cut_last h, List.nil_append]
      by_cases c : l = []
      · rw [if_pos c, c]
        exact .inr rfl
      · rw [if_neg c]
        exact .inl rfl
theorem nl_tl : TL.tl (Str.ofString "\n") = [10] := by rw [TL.tl_ofString]; rfl
theorem split_nl (x : Str) : (Txt.split x (Str.ofString "\n")).map TL.tl = TL.spl [10] 0 [] (TL.tl x) := by
  have := TL.split_spl x (Str.ofString "\n") (by rw [nl_tl]; simp) (TL.kind_ok (by
    have : Str.ofString "\n" = ⟨#[10]⟩ := TL.ext_tl nl_tl
    rw [this]
    decide +kernel))
  rw [nl_tl] at this
  exact this
/-- signs of a text: line ends, and from the blank to ~ -/
def Sg (x : Str) : Prop := ∀ c ∈ TL.tl x, c = 10 ∨ (32 ≤ c ∧ c < 127)
theorem Sg.plain {x : Str} (h : Sg x) : Plain (TL.tl x) := fun c hc => by
  rcases h c hc with rfl | h
  · decide
  · rw [safe_break c h.2 h.1, decide_eq_false (by omega)]
theorem Sg.app {x y : Str} (h : Sg x) (g : Sg y) : Sg (x ++ y) := fun c hc => by
  rw [TL.tl_append] at hc
  exact (List.mem_append.mp hc).elim (h c) (g c)
theorem Sg.sub {x y : Str} (h : Sg x) (g : ∀ c ∈ TL.tl y, c ∈ TL.tl x) : Sg y := fun c hc => h c (g c hc)
theorem Sg.ok {x : Str} (h : Sg x) : N.SOk x := fun c hc => by rcases h c hc with e | e <;> omega
theorem sg_lit {s : String} (h : ((s.toList.map Char.toNat).all fun c => decide (c = 10 ∨ (32 ≤ c ∧ c < 127))) = true) : Sg (Str.ofString s) := fun c hc => by
  rw [TL.tl_ofString] at hc
  exact of_decide_eq_true (List.all_eq_true.mp h c hc)
theorem sg_num (n : Nat) : Sg (num n) := fun c hc => by
  unfold num at hc
  rw [TL.tl_num] at hc
  have := TL.numL_digits n c hc
  omega
theorem Sg.blanks (n : Nat) : Sg (Txt.mul (Str.ofString " ") (n : Int)) := fun c hc => by
  have e : Str.ofString " " = ⟨#[32]⟩ := by decide +kernel
  rw [e, N.tl_mul1] at hc
  rw [(List.mem_replicate.mp hc).2]
  decide
theorem Sg.join {y : Str} (hy : Sg y) {xs : List Str} (h : ∀ x ∈ xs, Sg x) : Sg (Txt.join y xs) := by
  rw [TL.join_eq]
  have e : ∀ c ∈ TL.joinL (TL.tl y) (xs.map TL.tl), c = 10 ∨ (32 ≤ c ∧ c < 127) := by
    induction xs with
    | nil => intro c hc; cases hc
    | cons x r ih =>
      intro c hc
      cases r with
      | nil => exact h x List.mem_cons_self c (by simpa [TL.joinL] using hc)
      | cons z t =>
        have hc : c ∈ TL.tl x ++ (TL.tl y ++ TL.joinL (TL.tl y) ((z :: t).map TL.tl)) := by simpa [TL.joinL] using hc
        rcases List.mem_append.mp hc with hc | hc
        · exact h x List.mem_cons_self c hc
        · rcases List.mem_append.mp hc with hc | hc
          · exact hy c hc
          · exact ih (fun w hw => h w (List.mem_cons_of_mem _ hw)) c hc
  intro c hc
  rw [TL.tl_join] at hc
  exact e c hc
/-- the lines' answers, by splitting at line ends -/
theorem answers_split {x : Str} (h : Sg x) (mark : Str) : answers mark 1 (Txt.lines x) = answers mark 1 (Txt.split x (Str.ofString "\n")) ∧ answers mark 1 (Txt.lines (x ++ Str.ofString "\n")) = answers mark 1 (Txt.split x (Str.ofString "\n")) := by
  obtain ⟨h1, h2⟩ := spl_cut _ _ (Nat.le_refl (TL.tl x).length)
  have hs := split_nl x
  have hc := lines_cut h.plain
  have hp2 : Plain (TL.tl (x ++ Str.ofString "\n")) := (h.app (sg_lit (by decide))).plain
  have hc2 := lines_cut hp2
  rw [TL.tl_append, nl_tl] at hc2
  constructor
  · rcases h2 with h2 | h2
    · rw [TL.map_tl_inj (hc.trans (h2.symm.trans hs.symm))]
    · have e : Txt.split x (Str.ofString "\n") = Txt.lines x ++ [Str.ofString ""] := TL.map_tl_inj (by
        rw [hs, h2, List.map_append, hc]
        show _ = _ ++ [TL.tl (Str.ofString "")]
        rw [TL.tl_ofString]
        rfl)
      rw [e, answers_app]
      show _ = _ ++ (line mark _ (Str.ofString "") ++ [])
      rw [line_empty mark _ (by rw [TL.tl_ofString]; rfl), List.append_nil, List.append_nil]
  · rw [TL.map_tl_inj (hc2.trans (h1.symm.trans hs.symm))]
theorem split_sub {x : Str} : ∀ z ∈ Txt.split x (Str.ofString "\n"), ∀ c ∈ TL.tl z, c ∈ TL.tl x := by
  have key : ∀ (n : Nat) (l : List Nat), l.length ≤ n → ∀ w ∈ TL.spl [10] 0 [] l, ∀ c ∈ w, c ∈ l := by
    intro n
    induction n with
    | zero =>
      intro l hn w hw c hc
      obtain rfl : l = [] := List.length_eq_zero_iff.mp (by omega)
      rw [TL.spl_last1 (S := []) (by simp)] at hw
      rw [List.mem_singleton.mp hw] at hc
      exact hc
    | succ n ih =>
      intro l hn w hw c hc
      by_cases h : 10 ∈ l
      · obtain ⟨p, r, e, hp⟩ := split10 l h
        subst e
        rw [List.length_append, List.length_cons] at hn
        have e1 : TL.spl [10] 0 [] (p ++ 10 :: r) = p :: TL.spl [10] 0 [] r := TL.spl_part1 (S := []) (acc := []) (rest := r) hp
        rw [e1] at hw
        rcases List.mem_cons.mp hw with rfl | hw
        · exact List.mem_append_left _ hc
        · exact List.mem_append_right _ (List.mem_cons_of_mem _ (ih r (by omega) w hw c hc))
      · rw [TL.spl_last1 (S := []) h] at hw
        rw [List.mem_singleton.mp hw] at hc
        exact hc
  intro z hz c hc
  exact key _ _ (Nat.le_refl _) (TL.tl z) (by rw [← split_nl]; exact List.mem_map.mpr ⟨z, hz, rfl⟩) c hc
theorem split_len10 {x z : Str} (hz : z ∈ Txt.split x (Str.ofString "\n")) : z.length ≤ x.length := by
  have key : ∀ (n : Nat) (l : List Nat), l.length ≤ n → ∀ w ∈ TL.spl [10] 0 [] l, w.length ≤ l.length := by
    intro n
    induction n with
    | zero =>
      intro l hn w hw
      obtain rfl : l = [] := List.length_eq_zero_iff.mp (by omega)
      rw [TL.spl_last1 (S := []) (by simp)] at hw
      rw [List.mem_singleton.mp hw]
      exact Nat.le_refl _
    | succ n ih =>
      intro l hn w hw
      by_cases h : 10 ∈ l
      · obtain ⟨p, r, e, hp⟩ := split10 l h
        subst e
        rw [List.length_append, List.length_cons] at hn ⊢
        have e1 : TL.spl [10] 0 [] (p ++ 10 :: r) = p :: TL.spl [10] 0 [] r := TL.spl_part1 (S := []) (acc := []) (rest := r) hp
        rw [e1] at hw
        rcases List.mem_cons.mp hw with rfl | hw
        · omega
        · have := ih r (by omega) w hw
          omega
      · rw [TL.spl_last1 (S := []) h] at hw
        rw [List.mem_singleton.mp hw]
        exact Nat.le_refl _
  have := key _ _ (Nat.le_refl _) (TL.tl z) (by rw [← split_nl]; exact List.mem_map.mpr ⟨z, hz, rfl⟩)
  rw [TL.len_tl, TL.len_tl x]
  exact this
theorem split_cnt10 (x : Str) : (Txt.split x (Str.ofString "\n")).length ≤ x.length + 1 := by
  have key : ∀ (n : Nat) (l : List Nat), l.length ≤ n → (TL.spl [10] 0 [] l).length ≤ l.length + 1 := by
    intro n
    induction n with
    | zero =>
      intro l hn
      obtain rfl : l = [] := List.length_eq_zero_iff.mp (by omega)
      rw [TL.spl_last1 (S := []) (by simp)]
      exact Nat.le_refl _
    | succ n ih =>
      intro l hn
      by_cases h : 10 ∈ l
      · obtain ⟨p, r, e, hp⟩ := split10 l h
        subst e
        rw [List.length_append, List.length_cons] at hn ⊢
        have e1 : TL.spl [10] 0 [] (p ++ 10 :: r) = p :: TL.spl [10] 0 [] r := TL.spl_part1 (S := []) (acc := []) (rest := r) hp
        have := ih r (by omega)
        rw [e1, List.length_cons]
        omega
      · rw [TL.spl_last1 (S := []) h, List.length_singleton]
        omega
  have h := congrArg List.length (split_nl x)
  rw [List.length_map] at h
  rw [h, TL.len_tl]
  exact key _ _ (Nat.le_refl _)
/-! ### the first colon -/
theorem colon_in (z : Str) : (!(Builtin.Str.occurrences z (Str.ofString ":") 0 z.length 1).isEmpty) = decide (58 ∈ TL.tl z) := by
  have e : Str.ofString ":" = ⟨#[58]⟩ := by decide +kernel
  rw [e]
  exact StrLaws.found_one z 58
theorem split58 : ∀ (l : List Nat), 58 ∈ l → ∃ p r, l = p ++ 58 :: r ∧ 58 ∉ p
  | a :: t, h => by
    by_cases e : a = 58
    · exact ⟨[], t, by rw [e]; rfl, by simp⟩
    · have h : 58 ∈ t := (List.mem_cons.mp h).resolve_left fun z => e z.symm
      obtain ⟨p, r, h1, h2⟩ := split58 t h
      exact ⟨a :: p, r, by rw [h1]; rfl, fun z => (List.mem_cons.mp z).elim (fun w => e w.symm) h2⟩
theorem colon_at {z : Str} {p r : List Nat} (e : TL.tl z = p ++ 58 :: r) (hp : 58 ∉ p) : ∃ rest, Builtin.Str.occurrences z (Str.ofString ":") 0 z.length 1 = p.length :: rest := by
  have hcol : TL.tl (Str.ofString ":") = [58] := by rw [TL.tl_ofString]; rfl
  have hpart := TL.partition_par z (Str.ofString ":") (by rw [hcol]; simp)
  rw [hcol, e] at hpart
  have h2 : TL.par [58] [] (p ++ 58 :: r) = some (p, r) := TL.par_part1 (s := 58) (S := []) hp
  rw [h2] at hpart
  cases ho : Builtin.Str.occurrences z (Str.ofString ":") 0 z.length 1 with
  | nil =>
    have := colon_in z
    rw [ho, e, decide_eq_true (by simp)] at this
    cases this
  | cons i rest =>
    have hs := StrLaws.occ_spec z (Str.ofString ":") 0 z.length 1 i (by rw [ho]; exact List.mem_cons_self)
    unfold Txt.partition at hpart
    rw [ho] at hpart
    have h3 : Builtin.Str.strSub z 0 i = ⟨p.toArray⟩ := congrArg Prod.fst hpart
    have h4 := congrArg TL.tl h3
    rw [TL.tl_strSub, TL.tl_mk, List.drop_zero, Nat.sub_zero] at h4
    have h5 := congrArg List.length h4
    have hl : (Str.ofString ":").length = 1 := by rw [TL.len_tl, hcol]; rfl
    rw [hl] at hs
    have hzl : z.length = (TL.tl z).length := TL.len_tl z
    have hs1 : i + 1 ≤ z.length := hs.1
    rw [List.length_take] at h5
    have h6 : min i (TL.tl z).length = p.length := h5
    have h7 : i = p.length := by omega
    exact ⟨rest, by rw [h7]⟩
theorem part0 {z : Str} : ∃ h r : Str, (Txt.partition z (Str.ofString ":")).1 = h ∧ (∀ c ∈ TL.tl h, c ∈ TL.tl z) ∧ h.length ≤ z.length := by
  refine ⟨_, z, rfl, ?_⟩
  unfold Txt.partition
  split
  · rename_i i _ _
    refine ⟨fun c hc => ?_, ?_⟩
    · have hc : c ∈ TL.tl (Builtin.Str.strSub z 0 i) := hc
      rw [TL.tl_strSub] at hc
      exact List.mem_of_mem_drop (List.mem_of_mem_take hc)
    · show (Builtin.Str.strSub z 0 i).length ≤ _
      rw [TL.len_tl, TL.tl_strSub, TL.len_tl z, List.length_take, List.length_drop]
      omega
  · exact ⟨fun c hc => hc, Nat.le_refl _⟩
end Ln
set_option Elab.async false
set_option linter.all false
set_option maxRecDepth 100000
set_option maxHeartbeats 4000000
namespace N
open PySem PySem.Spec PyProof.Rows L2
structure Txt0 (K : PySem.W.Frag) (mg : Str → Option Value) : Prop where
  n_isinstance : mg "isinstance" = none
  n_int : mg "int" = none
  n_bool : mg "bool" = none
  n_len : mg "len" = none
  g_is_whole : mg "is_whole" = some (.ref (He.ga K "is_whole"))
  c_MOST : ∃ t, mg "MOST" = some (.int 100 t)
  x_NotAPlace : PySem.W.excIn K (He.ga K "NotAPlace") He.veBase "ValueError.__new__" = true ∧ PySem.W.keepIn K (.ref (He.ga K "NotAPlace")) = true ∧ PySem.W.subIn K (.ref (He.ga K "NotAPlace")) (.type "BaseException") = some true ∧ PySem.W.typeIn K (.ref (He.ga K "NotAPlace")) = some (.type "type")
  g_NotAPlace : mg "NotAPlace" = some (.ref (He.ga K "NotAPlace"))
  g_least_lacking : mg "least_lacking" = some (.ref (He.ga K "least_lacking"))
  n_range : mg "range" = none
  n_reversed : mg "reversed" = none
  n_list : mg "list" = none
  g_longer : mg "longer" = some (.ref (He.ga K "longer"))
  n_tuple : mg "tuple" = none
  x_NotAGame : PySem.W.excIn K (He.ga K "NotAGame") He.veBase "ValueError.__new__" = true ∧ PySem.W.keepIn K (.ref (He.ga K "NotAGame")) = true ∧ PySem.W.subIn K (.ref (He.ga K "NotAGame")) (.type "BaseException") = some true ∧ PySem.W.typeIn K (.ref (He.ga K "NotAGame")) = some (.type "type")
  g_NotAGame : mg "NotAGame" = some (.ref (He.ga K "NotAGame"))
  c_GREATEST : ∃ t, mg "GREATEST" = some (.int 12 t)
  m_Heap___init__ : Meth K (He.ga K "Heap") "__init__" (He.ma K (He.ga K "Heap") "__init__")
  g_Heap : mg "Heap" = some (.ref (He.ga K "Heap"))
  g_asked_limits : mg "asked_limits" = some (.ref (He.ga K "asked_limits"))
  g_Game : mg "Game" = some (.ref (He.ga K "Game"))
  n_str : mg "str" = none
  g_Taking : mg "Taking" = some (.ref (He.ga K "Taking"))
  cl_Game : Cls K (He.ga K "Game")
structure Txt1 (K : PySem.W.Frag) (mg : Str → Option Value) : Prop where
  cl_Heap : Cls K (He.ga K "Heap")
  cl_Taking : Cls K (He.ga K "Taking")
  cl_Skittles : Cls K (He.ga K "Skittles")
  cl_Parting : Cls K (He.ga K "Parting")
  cl_Runs : Cls K (He.ga K "Runs")
  cl_Pairs : Cls K (He.ga K "Pairs")
  cl_Few : Cls K (He.ga K "Few")
  na_Game_known : NoAttr K (He.ga K "Game") "known"
  na_Heap_known : NoAttr K (He.ga K "Heap") "known"
  na_Taking_known : NoAttr K (He.ga K "Taking") "known"
  na_Skittles_known : NoAttr K (He.ga K "Skittles") "known"
  na_Parting_known : NoAttr K (He.ga K "Parting") "known"
  na_Runs_known : NoAttr K (He.ga K "Runs") "known"
  na_Pairs_known : NoAttr K (He.ga K "Pairs") "known"
  na_Few_known : NoAttr K (He.ga K "Few") "known"
  na_Game_limits : NoAttr K (He.ga K "Game") "limits"
  na_Heap_limits : NoAttr K (He.ga K "Heap") "limits"
  na_Taking_limits : NoAttr K (He.ga K "Taking") "limits"
  na_Skittles_limits : NoAttr K (He.ga K "Skittles") "limits"
  na_Parting_limits : NoAttr K (He.ga K "Parting") "limits"
  na_Runs_limits : NoAttr K (He.ga K "Runs") "limits"
  na_Pairs_limits : NoAttr K (He.ga K "Pairs") "limits"
  na_Few_limits : NoAttr K (He.ga K "Few") "limits"
  na_Game_most : NoAttr K (He.ga K "Game") "most"
structure Txt2 (K : PySem.W.Frag) (mg : Str → Option Value) : Prop where
  na_Heap_most : NoAttr K (He.ga K "Heap") "most"
  na_Taking_most : NoAttr K (He.ga K "Taking") "most"
  na_Skittles_most : NoAttr K (He.ga K "Skittles") "most"
  na_Parting_most : NoAttr K (He.ga K "Parting") "most"
  na_Runs_most : NoAttr K (He.ga K "Runs") "most"
  na_Pairs_most : NoAttr K (He.ga K "Pairs") "most"
  na_Few_most : NoAttr K (He.ga K "Few") "most"
  na_Game_rows : NoAttr K (He.ga K "Game") "rows"
  na_Heap_rows : NoAttr K (He.ga K "Heap") "rows"
  na_Taking_rows : NoAttr K (He.ga K "Taking") "rows"
  na_Skittles_rows : NoAttr K (He.ga K "Skittles") "rows"
  na_Parting_rows : NoAttr K (He.ga K "Parting") "rows"
  na_Runs_rows : NoAttr K (He.ga K "Runs") "rows"
  na_Pairs_rows : NoAttr K (He.ga K "Pairs") "rows"
  na_Few_rows : NoAttr K (He.ga K "Few") "rows"
  m_Taking_rests : Meth K (He.ga K "Taking") "rests" (He.ma K (He.ga K "Taking") "rests")
  m_Skittles_rests : Meth K (He.ga K "Skittles") "rests" (He.ma K (He.ga K "Skittles") "rests")
  m_Game_leads : Meth K (He.ga K "Game") "leads" (He.ma K (He.ga K "Game") "leads")
  m_Heap_leads : Meth K (He.ga K "Heap") "leads" (He.ma K (He.ga K "Heap") "leads")
  m_Taking_leads : Meth K (He.ga K "Taking") "leads" (He.ma K (He.ga K "Taking") "leads")
  m_Skittles_leads : Meth K (He.ga K "Skittles") "leads" (He.ma K (He.ga K "Skittles") "leads")
  m_Parting_leads : Meth K (He.ga K "Parting") "leads" (He.ma K (He.ga K "Parting") "leads")
  m_Runs_leads : Meth K (He.ga K "Runs") "leads" (He.ma K (He.ga K "Runs") "leads")
  m_Pairs_leads : Meth K (He.ga K "Pairs") "leads" (He.ma K (He.ga K "Pairs") "leads")
structure Txt3 (K : PySem.W.Frag) (mg : Str → Option Value) : Prop where
  m_Few_leads : Meth K (He.ga K "Few") "leads" (He.ma K (He.ga K "Few") "leads")
  m_Game_together : Meth K (He.ga K "Game") "together" (He.ma K (He.ga K "Game") "together")
  m_Heap_together : Meth K (He.ga K "Heap") "together" (He.ma K (He.ga K "Heap") "together")
  m_Taking_together : Meth K (He.ga K "Taking") "together" (He.ma K (He.ga K "Taking") "together")
  m_Skittles_together : Meth K (He.ga K "Skittles") "together" (He.ma K (He.ga K "Skittles") "together")
  m_Parting_together : Meth K (He.ga K "Parting") "together" (He.ma K (He.ga K "Parting") "together")
  m_Runs_together : Meth K (He.ga K "Runs") "together" (He.ma K (He.ga K "Runs") "together")
  m_Pairs_together : Meth K (He.ga K "Pairs") "together" (He.ma K (He.ga K "Pairs") "together")
  m_Few_together : Meth K (He.ga K "Few") "together" (He.ma K (He.ga K "Few") "together")
  m_Game_number : Meth K (He.ga K "Game") "number" (He.ma K (He.ga K "Game") "number")
  m_Heap_number : Meth K (He.ga K "Heap") "number" (He.ma K (He.ga K "Heap") "number")
  m_Taking_number : Meth K (He.ga K "Taking") "number" (He.ma K (He.ga K "Taking") "number")
  m_Skittles_number : Meth K (He.ga K "Skittles") "number" (He.ma K (He.ga K "Skittles") "number")
  m_Parting_number : Meth K (He.ga K "Parting") "number" (He.ma K (He.ga K "Parting") "number")
  m_Runs_number : Meth K (He.ga K "Runs") "number" (He.ma K (He.ga K "Runs") "number")
  m_Pairs_number : Meth K (He.ga K "Pairs") "number" (He.ma K (He.ga K "Pairs") "number")
  m_Few_number : Meth K (He.ga K "Few") "number" (He.ma K (He.ga K "Few") "number")
  m_Game_numbers : Meth K (He.ga K "Game") "numbers" (He.ma K (He.ga K "Game") "numbers")
  m_Heap_numbers : Meth K (He.ga K "Heap") "numbers" (He.ma K (He.ga K "Heap") "numbers")
  m_Taking_numbers : Meth K (He.ga K "Taking") "numbers" (He.ma K (He.ga K "Taking") "numbers")
  m_Skittles_numbers : Meth K (He.ga K "Skittles") "numbers" (He.ma K (He.ga K "Skittles") "numbers")
  m_Parting_numbers : Meth K (He.ga K "Parting") "numbers" (He.ma K (He.ga K "Parting") "numbers")
  m_Runs_numbers : Meth K (He.ga K "Runs") "numbers" (He.ma K (He.ga K "Runs") "numbers")
  m_Pairs_numbers : Meth K (He.ga K "Pairs") "numbers" (He.ma K (He.ga K "Pairs") "numbers")
structure Txt4 (K : PySem.W.Frag) (mg : Str → Option Value) : Prop where
  m_Few_numbers : Meth K (He.ga K "Few") "numbers" (He.ma K (He.ga K "Few") "numbers")
  m_Game_value : Meth K (He.ga K "Game") "value" (He.ma K (He.ga K "Game") "value")
  m_Heap_value : Meth K (He.ga K "Heap") "value" (He.ma K (He.ga K "Heap") "value")
  m_Taking_value : Meth K (He.ga K "Taking") "value" (He.ma K (He.ga K "Taking") "value")
  m_Skittles_value : Meth K (He.ga K "Skittles") "value" (He.ma K (He.ga K "Skittles") "value")
  m_Parting_value : Meth K (He.ga K "Parting") "value" (He.ma K (He.ga K "Parting") "value")
  m_Runs_value : Meth K (He.ga K "Runs") "value" (He.ma K (He.ga K "Runs") "value")
  m_Pairs_value : Meth K (He.ga K "Pairs") "value" (He.ma K (He.ga K "Pairs") "value")
  m_Few_value : Meth K (He.ga K "Few") "value" (He.ma K (He.ga K "Few") "value")
  m_Game_winning : Meth K (He.ga K "Game") "winning" (He.ma K (He.ga K "Game") "winning")
  m_Heap_winning : Meth K (He.ga K "Heap") "winning" (He.ma K (He.ga K "Heap") "winning")
  m_Taking_winning : Meth K (He.ga K "Taking") "winning" (He.ma K (He.ga K "Taking") "winning")
  m_Skittles_winning : Meth K (He.ga K "Skittles") "winning" (He.ma K (He.ga K "Skittles") "winning")
  m_Parting_winning : Meth K (He.ga K "Parting") "winning" (He.ma K (He.ga K "Parting") "winning")
  m_Runs_winning : Meth K (He.ga K "Runs") "winning" (He.ma K (He.ga K "Runs") "winning")
  m_Pairs_winning : Meth K (He.ga K "Pairs") "winning" (He.ma K (He.ga K "Pairs") "winning")
  m_Few_winning : Meth K (He.ga K "Few") "winning" (He.ma K (He.ga K "Few") "winning")
  m_Game_name : Meth K (He.ga K "Game") "name" (He.ma K (He.ga K "Game") "name")
  m_Heap_name : Meth K (He.ga K "Heap") "name" (He.ma K (He.ga K "Heap") "name")
  m_Taking_name : Meth K (He.ga K "Taking") "name" (He.ma K (He.ga K "Taking") "name")
  m_Skittles_name : Meth K (He.ga K "Skittles") "name" (He.ma K (He.ga K "Skittles") "name")
  m_Parting_name : Meth K (He.ga K "Parting") "name" (He.ma K (He.ga K "Parting") "name")
  m_Runs_name : Meth K (He.ga K "Runs") "name" (He.ma K (He.ga K "Runs") "name")
  m_Pairs_name : Meth K (He.ga K "Pairs") "name" (He.ma K (He.ga K "Pairs") "name")
structure Txt5 (K : PySem.W.Frag) (mg : Str → Option Value) : Prop where
  m_Few_name : Meth K (He.ga K "Few") "name" (He.ma K (He.ga K "Few") "name")
  m_Game___init__ : Meth K (He.ga K "Game") "__init__" (He.ma K (He.ga K "Game") "__init__")
  m_Taking___init__ : Meth K (He.ga K "Taking") "__init__" (He.ma K (He.ga K "Taking") "__init__")
  m_Skittles___init__ : Meth K (He.ga K "Skittles") "__init__" (He.ma K (He.ga K "Skittles") "__init__")
  m_Parting___init__ : Meth K (He.ga K "Parting") "__init__" (He.ma K (He.ga K "Parting") "__init__")
  m_Runs___init__ : Meth K (He.ga K "Runs") "__init__" (He.ma K (He.ga K "Runs") "__init__")
  m_Pairs___init__ : Meth K (He.ga K "Pairs") "__init__" (He.ma K (He.ga K "Pairs") "__init__")
  m_Few___init__ : Meth K (He.ga K "Few") "__init__" (He.ma K (He.ga K "Few") "__init__")
  g_NotWritten : mg "NotWritten" = some (.ref (He.ga K "NotWritten"))
  x_NotWritten : PySem.W.excIn K (He.ga K "NotWritten") He.veBase "ValueError.__new__" = true ∧ PySem.W.keepIn K (.ref (He.ga K "NotWritten")) = true ∧ PySem.W.subIn K (.ref (He.ga K "NotWritten")) (.type "BaseException") = some true ∧ PySem.W.typeIn K (.ref (He.ga K "NotWritten")) = some (.type "type")
  mk_Game : Mk K (He.ga K "Game") (He.ma K (He.ga K "Game") "__init__")
  mk_Heap : Mk K (He.ga K "Heap") (He.ma K (He.ga K "Heap") "__init__")
  mk_Parting : Mk K (He.ga K "Parting") (He.ma K (He.ga K "Parting") "__init__")
  g_Parting : mg "Parting" = some (.ref (He.ga K "Parting"))
  mk_Runs : Mk K (He.ga K "Runs") (He.ma K (He.ga K "Runs") "__init__")
  g_Runs : mg "Runs" = some (.ref (He.ga K "Runs"))
  mk_Pairs : Mk K (He.ga K "Pairs") (He.ma K (He.ga K "Pairs") "__init__")
  g_Pairs : mg "Pairs" = some (.ref (He.ga K "Pairs"))
  g_BARE : mg "BARE" = some (.ref (He.ga K "BARE"))
  g_bare_game : mg "bare_game" = some (.ref (He.ga K "bare_game"))
  g_figures_of : mg "figures_of" = some (.ref (He.ga K "figures_of"))
  mk_Taking : Mk K (He.ga K "Taking") (He.ma K (He.ga K "Taking") "__init__")
  mk_Skittles : Mk K (He.ga K "Skittles") (He.ma K (He.ga K "Skittles") "__init__")
  g_Skittles : mg "Skittles" = some (.ref (He.ga K "Skittles"))
structure Txt6 (K : PySem.W.Frag) (mg : Str → Option Value) : Prop where
  mk_Few : Mk K (He.ga K "Few") (He.ma K (He.ga K "Few") "__init__")
  g_Few : mg "Few" = some (.ref (He.ga K "Few"))
  g_game_told : mg "game_told" = some (.ref (He.ga K "game_told"))
  g_turn_told : mg "turn_told" = some (.ref (He.ga K "turn_told"))
  n_enumerate : mg "enumerate" = none
  e_NotAPlace_NotAPlace : PySem.W.exmOne K (.ref (He.ga K "NotAPlace")) (.ref (He.ga K "NotAPlace")) = some true
  e_NotAGame_NotAPlace : PySem.W.exmOne K (.ref (He.ga K "NotAGame")) (.ref (He.ga K "NotAPlace")) = some false
  e_NotWritten_NotAPlace : PySem.W.exmOne K (.ref (He.ga K "NotWritten")) (.ref (He.ga K "NotAPlace")) = some false
  e_NotAPlace_NotAGame : PySem.W.exmOne K (.ref (He.ga K "NotAPlace")) (.ref (He.ga K "NotAGame")) = some false
  e_NotAGame_NotAGame : PySem.W.exmOne K (.ref (He.ga K "NotAGame")) (.ref (He.ga K "NotAGame")) = some true
  e_NotWritten_NotAGame : PySem.W.exmOne K (.ref (He.ga K "NotWritten")) (.ref (He.ga K "NotAGame")) = some false
  e_NotAPlace_HouseError : PySem.W.exmOne K (.ref (He.ga K "NotAPlace")) (.ref (He.ga K "HouseError")) = some true
  e_NotAGame_HouseError : PySem.W.exmOne K (.ref (He.ga K "NotAGame")) (.ref (He.ga K "HouseError")) = some true
  e_NotWritten_HouseError : PySem.W.exmOne K (.ref (He.ga K "NotWritten")) (.ref (He.ga K "HouseError")) = some true
  g_line_answered : mg "line_answered" = some (.ref (He.ga K "line_answered"))
  g_HouseError : mg "HouseError" = some (.ref (He.ga K "HouseError"))
  g__law_value : mg "_law_value" = some (.ref (He.ga K "_law_value"))
  g__law_bare : mg "_law_bare" = some (.ref (He.ga K "_law_bare"))
  g__law_figures : mg "_law_figures" = some (.ref (He.ga K "_law_figures"))
  g__law_limits_good : mg "_law_limits_good" = some (.ref (He.ga K "_law_limits_good"))
  g__law_words : mg "_law_words" = some (.ref (He.ga K "_law_words"))
  g__law_game : mg "_law_game" = some (.ref (He.ga K "_law_game"))
  n_max : mg "max" = none
  g__law_turn : mg "_law_turn" = some (.ref (He.ga K "_law_turn"))
structure Txt7 (K : PySem.W.Frag) (mg : Str → Option Value) : Prop where
  g__law_digits : mg "_law_digits" = some (.ref (He.ga K "_law_digits"))
  g__law_cell_at : mg "_law_cell_at" = some (.ref (He.ga K "_law_cell_at"))
  g__law_built : mg "_law_built" = some (.ref (He.ga K "_law_built"))
  g__law_changed : mg "_law_changed" = some (.ref (He.ga K "_law_changed"))
  n_min : mg "min" = none
  g__law_line : mg "_law_line" = some (.ref (He.ga K "_law_line"))
  g__law_answer : mg "_law_answer" = some (.ref (He.ga K "_law_answer"))
  g__law_named : mg "_law_named" = some (.ref (He.ga K "_law_named"))
  g__law_not_written : mg "_law_not_written" = some (.ref (He.ga K "_law_not_written"))
  g_answered : mg "answered" = some (.ref (He.ga K "answered"))
  g_law : mg "law" = some (.ref (He.ga K "law"))
  cf_Heap___init__ : ClsF K (He.ga K "Heap") "__init__" (He.ma K (He.ga K "Heap") "__init__")
  cf_Game___init__ : ClsF K (He.ga K "Game") "__init__" (He.ma K (He.ga K "Game") "__init__")
  cf_Taking_name : ClsF K (He.ga K "Taking") "name" (He.ma K (He.ga K "Taking") "name")
  xc_NotAGame : ExcC K (He.ga K "NotAGame")
  kt_NotAGame_ValueError : PySem.W.kitOne K (.ref (He.ga K "NotAGame")) (.type "ValueError") = some true
  k_NotAGame_NotAGame : PySem.W.kitOne K (.ref (He.ga K "NotAGame")) (.ref (He.ga K "NotAGame")) = some true
  k_NotAGame_NotWritten : PySem.W.kitOne K (.ref (He.ga K "NotAGame")) (.ref (He.ga K "NotWritten")) = some false
  xc_NotWritten : ExcC K (He.ga K "NotWritten")
  kt_NotWritten_ValueError : PySem.W.kitOne K (.ref (He.ga K "NotWritten")) (.type "ValueError") = some true
  k_NotWritten_NotAGame : PySem.W.kitOne K (.ref (He.ga K "NotWritten")) (.ref (He.ga K "NotAGame")) = some false
  k_NotWritten_NotWritten : PySem.W.kitOne K (.ref (He.ga K "NotWritten")) (.ref (He.ga K "NotWritten")) = some true
  tup_BARE : TupS K "BARE" [Str.ofString "still", Str.ofString "heap", Str.ofString "parting", Str.ofString "runs", Str.ofString "pairs"]
  f_is_whole : ∃ fd, FunD K "is_whole" "is_whole" (defArgs (top 6)) (defBody (top 6)) (defScope (top 6)) [] [] (He.ga K "is_whole") fd
structure Txt8 (K : PySem.W.Frag) (mg : Str → Option Value) : Prop where
  f__law_cell_at : ∃ fd, FunD K "_law_cell_at" "_law_cell_at" (defArgs (top 32)) (defBody (top 32)) (defScope (top 32)) [] [] (He.ga K "_law_cell_at") fd
  f_least_lacking : ∃ fd, FunD K "least_lacking" "least_lacking" (defArgs (top 7)) (defBody (top 7)) (defScope (top 7)) [] [] (He.ga K "least_lacking") fd
  f_Heap_leads : ∃ fd, FunD K "leads" "Heap.leads" (defArgs (inClass (top 19) 0)) (defBody (inClass (top 19) 0)) (defScope (inClass (top 19) 0)) [] [] (He.ma K (He.ga K "Heap") "leads") fd
  f_Pairs_leads : ∃ fd, FunD K "leads" "Pairs.leads" (defArgs (inClass (top 13) 0)) (defBody (inClass (top 13) 0)) (defScope (inClass (top 13) 0)) [] [] (He.ma K (He.ga K "Pairs") "leads") fd
  f_Parting_leads : ∃ fd, FunD K "leads" "Parting.leads" (defArgs (inClass (top 22) 0)) (defBody (inClass (top 22) 0)) (defScope (inClass (top 22) 0)) [] [] (He.ma K (He.ga K "Parting") "leads") fd
  f_Taking_leads : ∃ fd, FunD K "leads" "Taking.leads" (defArgs (inClass (top 20) 2)) (defBody (inClass (top 20) 2)) (defScope (inClass (top 20) 2)) [] [] (He.ma K (He.ga K "Taking") "leads") fd
  f_Skittles_leads : ∃ fd, FunD K "leads" "Skittles.leads" (defArgs (inClass (top 21) 0)) (defBody (inClass (top 21) 0)) (defScope (inClass (top 21) 0)) [] [] (He.ma K (He.ga K "Skittles") "leads") fd
  f_Runs_leads : ∃ fd, FunD K "leads" "Runs.leads" (defArgs (inClass (top 12) 0)) (defBody (inClass (top 12) 0)) (defScope (inClass (top 12) 0)) [] [] (He.ma K (He.ga K "Runs") "leads") fd
  f_longer : ∃ fd, FunD K "longer" "longer" (defArgs (top 15)) (defBody (top 15)) (defScope (top 15)) [] [] (He.ga K "longer") fd
  f_Few_leads : ∃ fd, FunD K "leads" "Few.leads" (defArgs (inClass (top 14) 1)) (defBody (inClass (top 14) 1)) (defScope (inClass (top 14) 1)) [] [] (He.ma K (He.ga K "Few") "leads") fd
  f_asked_limits : ∃ fd, FunD K "asked_limits" "asked_limits" (defArgs (top 18)) (defBody (top 18)) (defScope (top 18)) [] [] (He.ga K "asked_limits") fd
  f_Heap___init__ : ∃ fd, FunD K "__init__" "Game.__init__" (defArgs (inClass (top 10) 0)) (defBody (inClass (top 10) 0)) (defScope (inClass (top 10) 0)) [] [] (He.ma K (He.ga K "Heap") "__init__") fd
  f_Game_name : ∃ fd, FunD K "name" "Game.name" (defArgs (inClass (top 10) 2)) (defBody (inClass (top 10) 2)) (defScope (inClass (top 10) 2)) [] [] (He.ma K (He.ga K "Game") "name") fd
  f_Heap_name : ∃ fd, FunD K "name" "Heap.name" (defArgs (inClass (top 19) 1)) (defBody (inClass (top 19) 1)) (defScope (inClass (top 19) 1)) [] [] (He.ma K (He.ga K "Heap") "name") fd
  f_Parting_name : ∃ fd, FunD K "name" "Parting.name" (defArgs (inClass (top 22) 1)) (defBody (inClass (top 22) 1)) (defScope (inClass (top 22) 1)) [] [] (He.ma K (He.ga K "Parting") "name") fd
  f_Runs_name : ∃ fd, FunD K "name" "Runs.name" (defArgs (inClass (top 12) 1)) (defBody (inClass (top 12) 1)) (defScope (inClass (top 12) 1)) [] [] (He.ma K (He.ga K "Runs") "name") fd
  f_Pairs_name : ∃ fd, FunD K "name" "Pairs.name" (defArgs (inClass (top 13) 1)) (defBody (inClass (top 13) 1)) (defScope (inClass (top 13) 1)) [] [] (He.ma K (He.ga K "Pairs") "name") fd
  f_Few_name : ∃ fd, FunD K "name" "Few.name" (defArgs (inClass (top 14) 2)) (defBody (inClass (top 14) 2)) (defScope (inClass (top 14) 2)) [] [] (He.ma K (He.ga K "Few") "name") fd
  f_Taking_name : ∃ fd, FunD K "name" "Taking.name" (defArgs (inClass (top 20) 3)) (defBody (inClass (top 20) 3)) (defScope (inClass (top 20) 3)) [] [] (He.ma K (He.ga K "Taking") "name") fd
  f_Skittles_name : ∃ fd, FunD K "name" "Skittles.name" (defArgs (inClass (top 21) 1)) (defBody (inClass (top 21) 1)) (defScope (inClass (top 21) 1)) [] [] (He.ma K (He.ga K "Skittles") "name") fd
  f_Taking_rests : ∃ fd, FunD K "rests" "Taking.rests" (defArgs (inClass (top 20) 1)) (defBody (inClass (top 20) 1)) (defScope (inClass (top 20) 1)) [] [] (He.ma K (He.ga K "Taking") "rests") fd
  f_Skittles_rests : ∃ fd, FunD K "rests" "Taking.rests" (defArgs (inClass (top 20) 1)) (defBody (inClass (top 20) 1)) (defScope (inClass (top 20) 1)) [] [] (He.ma K (He.ga K "Skittles") "rests") fd
  f_Game_leads : ∃ fd, FunD K "leads" "Game.leads" (defArgs (inClass (top 10) 1)) (defBody (inClass (top 10) 1)) (defScope (inClass (top 10) 1)) [] [] (He.ma K (He.ga K "Game") "leads") fd
  f_Game_together : ∃ fd, FunD K "together" "Game.together" (defArgs (inClass (top 10) 3)) (defBody (inClass (top 10) 3)) (defScope (inClass (top 10) 3)) [] [] (He.ma K (He.ga K "Game") "together") fd
structure Txt9 (K : PySem.W.Frag) (mg : Str → Option Value) : Prop where
  f_Heap_together : ∃ fd, FunD K "together" "Game.together" (defArgs (inClass (top 10) 3)) (defBody (inClass (top 10) 3)) (defScope (inClass (top 10) 3)) [] [] (He.ma K (He.ga K "Heap") "together") fd
  f_Taking_together : ∃ fd, FunD K "together" "Game.together" (defArgs (inClass (top 10) 3)) (defBody (inClass (top 10) 3)) (defScope (inClass (top 10) 3)) [] [] (He.ma K (He.ga K "Taking") "together") fd
  f_Skittles_together : ∃ fd, FunD K "together" "Game.together" (defArgs (inClass (top 10) 3)) (defBody (inClass (top 10) 3)) (defScope (inClass (top 10) 3)) [] [] (He.ma K (He.ga K "Skittles") "together") fd
  f_Parting_together : ∃ fd, FunD K "together" "Game.together" (defArgs (inClass (top 10) 3)) (defBody (inClass (top 10) 3)) (defScope (inClass (top 10) 3)) [] [] (He.ma K (He.ga K "Parting") "together") fd
  f_Runs_together : ∃ fd, FunD K "together" "Game.together" (defArgs (inClass (top 10) 3)) (defBody (inClass (top 10) 3)) (defScope (inClass (top 10) 3)) [] [] (He.ma K (He.ga K "Runs") "together") fd
  f_Pairs_together : ∃ fd, FunD K "together" "Game.together" (defArgs (inClass (top 10) 3)) (defBody (inClass (top 10) 3)) (defScope (inClass (top 10) 3)) [] [] (He.ma K (He.ga K "Pairs") "together") fd
  f_Few_together : ∃ fd, FunD K "together" "Game.together" (defArgs (inClass (top 10) 3)) (defBody (inClass (top 10) 3)) (defScope (inClass (top 10) 3)) [] [] (He.ma K (He.ga K "Few") "together") fd
  f_Game_number : ∃ fd, FunD K "number" "Game.number" (defArgs (inClass (top 10) 4)) (defBody (inClass (top 10) 4)) (defScope (inClass (top 10) 4)) [] [] (He.ma K (He.ga K "Game") "number") fd
  f_Heap_number : ∃ fd, FunD K "number" "Game.number" (defArgs (inClass (top 10) 4)) (defBody (inClass (top 10) 4)) (defScope (inClass (top 10) 4)) [] [] (He.ma K (He.ga K "Heap") "number") fd
  f_Taking_number : ∃ fd, FunD K "number" "Game.number" (defArgs (inClass (top 10) 4)) (defBody (inClass (top 10) 4)) (defScope (inClass (top 10) 4)) [] [] (He.ma K (He.ga K "Taking") "number") fd
  f_Skittles_number : ∃ fd, FunD K "number" "Game.number" (defArgs (inClass (top 10) 4)) (defBody (inClass (top 10) 4)) (defScope (inClass (top 10) 4)) [] [] (He.ma K (He.ga K "Skittles") "number") fd
  f_Parting_number : ∃ fd, FunD K "number" "Game.number" (defArgs (inClass (top 10) 4)) (defBody (inClass (top 10) 4)) (defScope (inClass (top 10) 4)) [] [] (He.ma K (He.ga K "Parting") "number") fd
  f_Runs_number : ∃ fd, FunD K "number" "Game.number" (defArgs (inClass (top 10) 4)) (defBody (inClass (top 10) 4)) (defScope (inClass (top 10) 4)) [] [] (He.ma K (He.ga K "Runs") "number") fd
  f_Pairs_number : ∃ fd, FunD K "number" "Game.number" (defArgs (inClass (top 10) 4)) (defBody (inClass (top 10) 4)) (defScope (inClass (top 10) 4)) [] [] (He.ma K (He.ga K "Pairs") "number") fd
  f_Few_number : ∃ fd, FunD K "number" "Game.number" (defArgs (inClass (top 10) 4)) (defBody (inClass (top 10) 4)) (defScope (inClass (top 10) 4)) [] [] (He.ma K (He.ga K "Few") "number") fd
  f_Game_numbers : ∃ fd, FunD K "numbers" "Game.numbers" (defArgs (inClass (top 10) 5)) (defBody (inClass (top 10) 5)) (defScope (inClass (top 10) 5)) [] [] (He.ma K (He.ga K "Game") "numbers") fd
  f_Heap_numbers : ∃ fd, FunD K "numbers" "Game.numbers" (defArgs (inClass (top 10) 5)) (defBody (inClass (top 10) 5)) (defScope (inClass (top 10) 5)) [] [] (He.ma K (He.ga K "Heap") "numbers") fd
  f_Taking_numbers : ∃ fd, FunD K "numbers" "Game.numbers" (defArgs (inClass (top 10) 5)) (defBody (inClass (top 10) 5)) (defScope (inClass (top 10) 5)) [] [] (He.ma K (He.ga K "Taking") "numbers") fd
  f_Skittles_numbers : ∃ fd, FunD K "numbers" "Game.numbers" (defArgs (inClass (top 10) 5)) (defBody (inClass (top 10) 5)) (defScope (inClass (top 10) 5)) [] [] (He.ma K (He.ga K "Skittles") "numbers") fd
  f_Parting_numbers : ∃ fd, FunD K "numbers" "Game.numbers" (defArgs (inClass (top 10) 5)) (defBody (inClass (top 10) 5)) (defScope (inClass (top 10) 5)) [] [] (He.ma K (He.ga K "Parting") "numbers") fd
  f_Runs_numbers : ∃ fd, FunD K "numbers" "Game.numbers" (defArgs (inClass (top 10) 5)) (defBody (inClass (top 10) 5)) (defScope (inClass (top 10) 5)) [] [] (He.ma K (He.ga K "Runs") "numbers") fd
  f_Pairs_numbers : ∃ fd, FunD K "numbers" "Game.numbers" (defArgs (inClass (top 10) 5)) (defBody (inClass (top 10) 5)) (defScope (inClass (top 10) 5)) [] [] (He.ma K (He.ga K "Pairs") "numbers") fd
  f_Few_numbers : ∃ fd, FunD K "numbers" "Game.numbers" (defArgs (inClass (top 10) 5)) (defBody (inClass (top 10) 5)) (defScope (inClass (top 10) 5)) [] [] (He.ma K (He.ga K "Few") "numbers") fd
  f_Game_value : ∃ fd, FunD K "value" "Game.value" (defArgs (inClass (top 10) 6)) (defBody (inClass (top 10) 6)) (defScope (inClass (top 10) 6)) [] [] (He.ma K (He.ga K "Game") "value") fd
structure Txt10 (K : PySem.W.Frag) (mg : Str → Option Value) : Prop where
  f_Heap_value : ∃ fd, FunD K "value" "Game.value" (defArgs (inClass (top 10) 6)) (defBody (inClass (top 10) 6)) (defScope (inClass (top 10) 6)) [] [] (He.ma K (He.ga K "Heap") "value") fd
  f_Taking_value : ∃ fd, FunD K "value" "Game.value" (defArgs (inClass (top 10) 6)) (defBody (inClass (top 10) 6)) (defScope (inClass (top 10) 6)) [] [] (He.ma K (He.ga K "Taking") "value") fd
  f_Skittles_value : ∃ fd, FunD K "value" "Game.value" (defArgs (inClass (top 10) 6)) (defBody (inClass (top 10) 6)) (defScope (inClass (top 10) 6)) [] [] (He.ma K (He.ga K "Skittles") "value") fd
  f_Parting_value : ∃ fd, FunD K "value" "Game.value" (defArgs (inClass (top 10) 6)) (defBody (inClass (top 10) 6)) (defScope (inClass (top 10) 6)) [] [] (He.ma K (He.ga K "Parting") "value") fd
  f_Runs_value : ∃ fd, FunD K "value" "Game.value" (defArgs (inClass (top 10) 6)) (defBody (inClass (top 10) 6)) (defScope (inClass (top 10) 6)) [] [] (He.ma K (He.ga K "Runs") "value") fd
  f_Pairs_value : ∃ fd, FunD K "value" "Game.value" (defArgs (inClass (top 10) 6)) (defBody (inClass (top 10) 6)) (defScope (inClass (top 10) 6)) [] [] (He.ma K (He.ga K "Pairs") "value") fd
  f_Few_value : ∃ fd, FunD K "value" "Game.value" (defArgs (inClass (top 10) 6)) (defBody (inClass (top 10) 6)) (defScope (inClass (top 10) 6)) [] [] (He.ma K (He.ga K "Few") "value") fd
  f_Game_winning : ∃ fd, FunD K "winning" "Game.winning" (defArgs (inClass (top 10) 7)) (defBody (inClass (top 10) 7)) (defScope (inClass (top 10) 7)) [] [] (He.ma K (He.ga K "Game") "winning") fd
  f_Heap_winning : ∃ fd, FunD K "winning" "Game.winning" (defArgs (inClass (top 10) 7)) (defBody (inClass (top 10) 7)) (defScope (inClass (top 10) 7)) [] [] (He.ma K (He.ga K "Heap") "winning") fd
  f_Taking_winning : ∃ fd, FunD K "winning" "Game.winning" (defArgs (inClass (top 10) 7)) (defBody (inClass (top 10) 7)) (defScope (inClass (top 10) 7)) [] [] (He.ma K (He.ga K "Taking") "winning") fd
  f_Skittles_winning : ∃ fd, FunD K "winning" "Game.winning" (defArgs (inClass (top 10) 7)) (defBody (inClass (top 10) 7)) (defScope (inClass (top 10) 7)) [] [] (He.ma K (He.ga K "Skittles") "winning") fd
  f_Parting_winning : ∃ fd, FunD K "winning" "Game.winning" (defArgs (inClass (top 10) 7)) (defBody (inClass (top 10) 7)) (defScope (inClass (top 10) 7)) [] [] (He.ma K (He.ga K "Parting") "winning") fd
  f_Runs_winning : ∃ fd, FunD K "winning" "Game.winning" (defArgs (inClass (top 10) 7)) (defBody (inClass (top 10) 7)) (defScope (inClass (top 10) 7)) [] [] (He.ma K (He.ga K "Runs") "winning") fd
  f_Pairs_winning : ∃ fd, FunD K "winning" "Game.winning" (defArgs (inClass (top 10) 7)) (defBody (inClass (top 10) 7)) (defScope (inClass (top 10) 7)) [] [] (He.ma K (He.ga K "Pairs") "winning") fd
  f_Few_winning : ∃ fd, FunD K "winning" "Game.winning" (defArgs (inClass (top 10) 7)) (defBody (inClass (top 10) 7)) (defScope (inClass (top 10) 7)) [] [] (He.ma K (He.ga K "Few") "winning") fd
  f_Game___init__ : ∃ fd, FunD K "__init__" "Game.__init__" (defArgs (inClass (top 10) 0)) (defBody (inClass (top 10) 0)) (defScope (inClass (top 10) 0)) [] [] (He.ma K (He.ga K "Game") "__init__") fd
  f_Taking___init__ : ∃ fd, FunD K "__init__" "Taking.__init__" (defArgs (inClass (top 20) 0)) (defBody (inClass (top 20) 0)) (defScope (inClass (top 20) 0)) [] [] (He.ma K (He.ga K "Taking") "__init__") fd
  f_Skittles___init__ : ∃ fd, FunD K "__init__" "Taking.__init__" (defArgs (inClass (top 20) 0)) (defBody (inClass (top 20) 0)) (defScope (inClass (top 20) 0)) [] [] (He.ma K (He.ga K "Skittles") "__init__") fd
  f_Parting___init__ : ∃ fd, FunD K "__init__" "Game.__init__" (defArgs (inClass (top 10) 0)) (defBody (inClass (top 10) 0)) (defScope (inClass (top 10) 0)) [] [] (He.ma K (He.ga K "Parting") "__init__") fd
  f_Runs___init__ : ∃ fd, FunD K "__init__" "Game.__init__" (defArgs (inClass (top 10) 0)) (defBody (inClass (top 10) 0)) (defScope (inClass (top 10) 0)) [] [] (He.ma K (He.ga K "Runs") "__init__") fd
  f_Pairs___init__ : ∃ fd, FunD K "__init__" "Game.__init__" (defArgs (inClass (top 10) 0)) (defBody (inClass (top 10) 0)) (defScope (inClass (top 10) 0)) [] [] (He.ma K (He.ga K "Pairs") "__init__") fd
  f_Few___init__ : ∃ fd, FunD K "__init__" "Few.__init__" (defArgs (inClass (top 14) 0)) (defBody (inClass (top 14) 0)) (defScope (inClass (top 14) 0)) [] [] (He.ma K (He.ga K "Few") "__init__") fd
  f_figures_of : ∃ fd, FunD K "figures_of" "figures_of" (defArgs (top 25)) (defBody (top 25)) (defScope (top 25)) [] [] (He.ga K "figures_of") fd
  f_bare_game : ∃ fd, FunD K "bare_game" "bare_game" (defArgs (top 26)) (defBody (top 26)) (defScope (top 26)) [] [] (He.ga K "bare_game") fd
structure Txt11 (K : PySem.W.Frag) (mg : Str → Option Value) : Prop where
  f_game_told : ∃ fd, FunD K "game_told" "game_told" (defArgs (top 27)) (defBody (top 27)) (defScope (top 27)) [] [] (He.ga K "game_told") fd
  f_turn_told : ∃ fd, FunD K "turn_told" "turn_told" (defArgs (top 28)) (defBody (top 28)) (defScope (top 28)) [] [] (He.ga K "turn_told") fd
  f_line_answered : ∃ fd, FunD K "line_answered" "line_answered" (defArgs (top 29)) (defBody (top 29)) (defScope (top 29)) [] [] (He.ga K "line_answered") fd
  f_answered : ∃ fd, FunD K "answered" "answered" (defArgs (top 30)) (defBody (top 30)) (defScope (top 30)) [V.str "-"] [] (He.ga K "answered") fd
  f__law_figures : ∃ fd, FunD K "_law_figures" "_law_figures" (defArgs (top 33)) (defBody (top 33)) (defScope (top 33)) [] [] (He.ga K "_law_figures") fd
  f__law_limits_good : ∃ fd, FunD K "_law_limits_good" "_law_limits_good" (defArgs (top 34)) (defBody (top 34)) (defScope (top 34)) [] [] (He.ga K "_law_limits_good") fd
  f__law_bare : ∃ fd, FunD K "_law_bare" "_law_bare" (defArgs (top 35)) (defBody (top 35)) (defScope (top 35)) [] [] (He.ga K "_law_bare") fd
  f__law_value : ∃ fd, FunD K "_law_value" "_law_value" (defArgs (top 37)) (defBody (top 37)) (defScope (top 37)) [] [] (He.ga K "_law_value") fd
  f__law_turn : ∃ fd, FunD K "_law_turn" "_law_turn" (defArgs (top 38)) (defBody (top 38)) (defScope (top 38)) [] [] (He.ga K "_law_turn") fd
  f__law_words : ∃ fd, FunD K "_law_words" "_law_words" (defArgs (top 39)) (defBody (top 39)) (defScope (top 39)) [] [] (He.ga K "_law_words") fd
  f__law_game : ∃ fd, FunD K "_law_game" "_law_game" (defArgs (top 36)) (defBody (top 36)) (defScope (top 36)) [] [] (He.ga K "_law_game") fd
  f__law_answer : ∃ fd, FunD K "_law_answer" "_law_answer" (defArgs (top 40)) (defBody (top 40)) (defScope (top 40)) [] [] (He.ga K "_law_answer") fd
  f__law_named : ∃ fd, FunD K "_law_named" "_law_named" (defArgs (top 41)) (defBody (top 41)) (defScope (top 41)) [] [] (He.ga K "_law_named") fd
  f__law_not_written : ∃ fd, FunD K "_law_not_written" "_law_not_written" (defArgs (top 42)) (defBody (top 42)) (defScope (top 42)) [] [] (He.ga K "_law_not_written") fd
  f__law_digits : ∃ fd, FunD K "_law_digits" "_law_digits" (defArgs (top 43)) (defBody (top 43)) (defScope (top 43)) [] [] (He.ga K "_law_digits") fd
  f__law_built : ∃ fd, FunD K "_law_built" "_law_built" (defArgs (top 44)) (defBody (top 44)) (defScope (top 44)) [] [] (He.ga K "_law_built") fd
  f__law_changed : ∃ fd, FunD K "_law_changed" "_law_changed" (defArgs (top 45)) (defBody (top 45)) (defScope (top 45)) [] [] (He.ga K "_law_changed") fd
  f__law_line : ∃ fd, FunD K "_law_line" "_law_line" (defArgs (top 46)) (defBody (top 46)) (defScope (top 46)) [] [] (He.ga K "_law_line") fd
  f_law : ∃ fd, FunD K "law" "law" (defArgs (top 47)) (defBody (top 47)) (defScope (top 47)) [] [] (He.ga K "law") fd
structure Txt (K : PySem.W.Frag) (mg : Str → Option Value) : Prop where
  p0 : Txt0 K mg
  p1 : Txt1 K mg
  p2 : Txt2 K mg
  p3 : Txt3 K mg
  p4 : Txt4 K mg
  p5 : Txt5 K mg
  p6 : Txt6 K mg
  p7 : Txt7 K mg
  p8 : Txt8 K mg
  p9 : Txt9 K mg
  p10 : Txt10 K mg
  p11 : Txt11 K mg
theorem Txt.n_isinstance {K : PySem.W.Frag} {mg : Str → Option Value} (T : Txt K mg) : mg "isinstance" = none := T.p0.n_isinstance
theorem Txt.n_int {K : PySem.W.Frag} {mg : Str → Option Value} (T : Txt K mg) : mg "int" = none := T.p0.n_int
theorem Txt.n_bool {K : PySem.W.Frag} {mg : Str → Option Value} (T : Txt K mg) : mg "bool" = none := T.p0.n_bool
theorem Txt.n_len {K : PySem.W.Frag} {mg : Str → Option Value} (T : Txt K mg) : mg "len" = none := T.p0.n_len
theorem Txt.g_is_whole {K : PySem.W.Frag} {mg : Str → Option Value} (T : Txt K mg) : mg "is_whole" = some (.ref (He.ga K "is_whole")) := T.p0.g_is_whole
theorem Txt.c_MOST {K : PySem.W.Frag} {mg : Str → Option Value} (T : Txt K mg) : ∃ t, mg "MOST" = some (.int 100 t) := T.p0.c_MOST
theorem Txt.x_NotAPlace {K : PySem.W.Frag} {mg : Str → Option Value} (T : Txt K mg) : PySem.W.excIn K (He.ga K "NotAPlace") He.veBase "ValueError.__new__" = true ∧ PySem.W.keepIn K (.ref (He.ga K "NotAPlace")) = true ∧ PySem.W.subIn K (.ref (He.ga K "NotAPlace")) (.type "BaseException") = some true ∧ PySem.W.typeIn K (.ref (He.ga K "NotAPlace")) = some (.type "type") := T.p0.x_NotAPlace
theorem Txt.g_NotAPlace {K : PySem.W.Frag} {mg : Str → Option Value} (T : Txt K mg) : mg "NotAPlace" = some (.ref (He.ga K "NotAPlace")) := T.p0.g_NotAPlace
theorem Txt.g_least_lacking {K : PySem.W.Frag} {mg : Str → Option Value} (T : Txt K mg) : mg "least_lacking" = some (.ref (He.ga K "least_lacking")) := T.p0.g_least_lacking
theorem Txt.n_range {K : PySem.W.Frag} {mg : Str → Option Value} (T : Txt K mg) : mg "range" = none := T.p0.n_range
theorem Txt.n_reversed {K : PySem.W.Frag} {mg : Str → Option Value} (T : Txt K mg) : mg "reversed" = none := T.p0.n_reversed
theorem Txt.n_list {K : PySem.W.Frag} {mg : Str → Option Value} (T : Txt K mg) : mg "list" = none := T.p0.n_list
theorem Txt.g_longer {K : PySem.W.Frag} {mg : Str → Option Value} (T : Txt K mg) : mg "longer" = some (.ref (He.ga K "longer")) := T.p0.g_longer
theorem Txt.n_tuple {K : PySem.W.Frag} {mg : Str → Option Value} (T : Txt K mg) : mg "tuple" = none := T.p0.n_tuple
theorem Txt.x_NotAGame {K : PySem.W.Frag} {mg : Str → Option Value} (T : Txt K mg) : PySem.W.excIn K (He.ga K "NotAGame") He.veBase "ValueError.__new__" = true ∧ PySem.W.keepIn K (.ref (He.ga K "NotAGame")) = true ∧ PySem.W.subIn K (.ref (He.ga K "NotAGame")) (.type "BaseException") = some true ∧ PySem.W.typeIn K (.ref (He.ga K "NotAGame")) = some (.type "type") := T.p0.x_NotAGame
theorem Txt.g_NotAGame {K : PySem.W.Frag} {mg : Str → Option Value} (T : Txt K mg) : mg "NotAGame" = some (.ref (He.ga K "NotAGame")) := T.p0.g_NotAGame
theorem Txt.c_GREATEST {K : PySem.W.Frag} {mg : Str → Option Value} (T : Txt K mg) : ∃ t, mg "GREATEST" = some (.int 12 t) := T.p0.c_GREATEST
theorem Txt.m_Heap___init__ {K : PySem.W.Frag} {mg : Str → Option Value} (T : Txt K mg) : Meth K (He.ga K "Heap") "__init__" (He.ma K (He.ga K "Heap") "__init__") := T.p0.m_Heap___init__
theorem Txt.g_Heap {K : PySem.W.Frag} {mg : Str → Option Value} (T : Txt K mg) : mg "Heap" = some (.ref (He.ga K "Heap")) := T.p0.g_Heap
theorem Txt.g_asked_limits {K : PySem.W.Frag} {mg : Str → Option Value} (T : Txt K mg) : mg "asked_limits" = some (.ref (He.ga K "asked_limits")) := T.p0.g_asked_limits
theorem Txt.g_Game {K : PySem.W.Frag} {mg : Str → Option Value} (T : Txt K mg) : mg "Game" = some (.ref (He.ga K "Game")) := T.p0.g_Game
theorem Txt.n_str {K : PySem.W.Frag} {mg : Str → Option Value} (T : Txt K mg) : mg "str" = none := T.p0.n_str
theorem Txt.g_Taking {K : PySem.W.Frag} {mg : Str → Option Value} (T : Txt K mg) : mg "Taking" = some (.ref (He.ga K "Taking")) := T.p0.g_Taking
theorem Txt.cl_Game {K : PySem.W.Frag} {mg : Str → Option Value} (T : Txt K mg) : Cls K (He.ga K "Game") := T.p0.cl_Game
theorem Txt.cl_Heap {K : PySem.W.Frag} {mg : Str → Option Value} (T : Txt K mg) : Cls K (He.ga K "Heap") := T.p1.cl_Heap
theorem Txt.cl_Taking {K : PySem.W.Frag} {mg : Str → Option Value} (T : Txt K mg) : Cls K (He.ga K "Taking") := T.p1.cl_Taking
theorem Txt.cl_Skittles {K : PySem.W.Frag} {mg : Str → Option Value} (T : Txt K mg) : Cls K (He.ga K "Skittles") := T.p1.cl_Skittles
theorem Txt.cl_Parting {K : PySem.W.Frag} {mg : Str → Option Value} (T : Txt K mg) : Cls K (He.ga K "Parting") := T.p1.cl_Parting
theorem Txt.cl_Runs {K : PySem.W.Frag} {mg : Str → Option Value} (T : Txt K mg) : Cls K (He.ga K "Runs") := T.p1.cl_Runs
theorem Txt.cl_Pairs {K : PySem.W.Frag} {mg : Str → Option Value} (T : Txt K mg) : Cls K (He.ga K "Pairs") := T.p1.cl_Pairs
theorem Txt.cl_Few {K : PySem.W.Frag} {mg : Str → Option Value} (T : Txt K mg) : Cls K (He.ga K "Few") := T.p1.cl_Few
theorem Txt.na_Game_known {K : PySem.W.Frag} {mg : Str → Option Value} (T : Txt K mg) : NoAttr K (He.ga K "Game") "known" := T.p1.na_Game_known
theorem Txt.na_Heap_known {K : PySem.W.Frag} {mg : Str → Option Value} (T : Txt K mg) : NoAttr K (He.ga K "Heap") "known" := T.p1.na_Heap_known
theorem Txt.na_Taking_known {K : PySem.W.Frag} {mg : Str → Option Value} (T : Txt K mg) : NoAttr K (He.ga K "Taking") "known" := T.p1.na_Taking_known
theorem Txt.na_Skittles_known {K : PySem.W.Frag} {mg : Str → Option Value} (T : Txt K mg) : NoAttr K (He.ga K "Skittles") "known" := T.p1.na_Skittles_known
theorem Txt.na_Parting_known {K : PySem.W.Frag} {mg : Str → Option Value} (T : Txt K mg) : NoAttr K (He.ga K "Parting") "known" := T.p1.na_Parting_known
theorem Txt.na_Runs_known {K : PySem.W.Frag} {mg : Str → Option Value} (T : Txt K mg) : NoAttr K (He.ga K "Runs") "known" := T.p1.na_Runs_known
theorem Txt.na_Pairs_known {K : PySem.W.Frag} {mg : Str → Option Value} (T : Txt K mg) : NoAttr K (He.ga K "Pairs") "known" := T.p1.na_Pairs_known
theorem Txt.na_Few_known {K : PySem.W.Frag} {mg : Str → Option Value} (T : Txt K mg) : NoAttr K (He.ga K "Few") "known" := T.p1.na_Few_known
theorem Txt.na_Game_limits {K : PySem.W.Frag} {mg : Str → Option Value} (T : Txt K mg) : NoAttr K (He.ga K "Game") "limits" := T.p1.na_Game_limits
theorem Txt.na_Heap_limits {K : PySem.W.Frag} {mg : Str → Option Value} (T : Txt K mg) : NoAttr K (He.ga K "Heap") "limits" := T.p1.na_Heap_limits
theorem Txt.na_Taking_limits {K : PySem.W.Frag} {mg : Str → Option Value} (T : Txt K mg) : NoAttr K (He.ga K "Taking") "limits" := T.p1.na_Taking_limits
theorem Txt.na_Skittles_limits {K : PySem.W.Frag} {mg : Str → Option Value} (T : Txt K mg) : NoAttr K (He.ga K "Skittles") "limits" := T.p1.na_Skittles_limits
theorem Txt.na_Parting_limits {K : PySem.W.Frag} {mg : Str → Option Value} (T : Txt K mg) : NoAttr K (He.ga K "Parting") "limits" := T.p1.na_Parting_limits
theorem Txt.na_Runs_limits {K : PySem.W.Frag} {mg : Str → Option Value} (T : Txt K mg) : NoAttr K (He.ga K "Runs") "limits" := T.p1.na_Runs_limits
theorem Txt.na_Pairs_limits {K : PySem.W.Frag} {mg : Str → Option Value} (T : Txt K mg) : NoAttr K (He.ga K "Pairs") "limits" := T.p1.na_Pairs_limits
theorem Txt.na_Few_limits {K : PySem.W.Frag} {mg : Str → Option Value} (T : Txt K mg) : NoAttr K (He.ga K "Few") "limits" := T.p1.na_Few_limits
theorem Txt.na_Game_most {K : PySem.W.Frag} {mg : Str → Option Value} (T : Txt K mg) : NoAttr K (He.ga K "Game") "most" := T.p1.na_Game_most
theorem Txt.na_Heap_most {K : PySem.W.Frag} {mg : Str → Option Value} (T : Txt K mg) : NoAttr K (He.ga K "Heap") "most" := T.p2.na_Heap_most
theorem Txt.na_Taking_most {K : PySem.W.Frag} {mg : Str → Option Value} (T : Txt K mg) : NoAttr K (He.ga K "Taking") "most" := T.p2.na_Taking_most
theorem Txt.na_Skittles_most {K : PySem.W.Frag} {mg : Str → Option Value} (T : Txt K mg) : NoAttr K (He.ga K "Skittles") "most" := T.p2.na_Skittles_most
theorem Txt.na_Parting_most {K : PySem.W.Frag} {mg : Str → Option Value} (T : Txt K mg) : NoAttr K (He.ga K "Parting") "most" := T.p2.na_Parting_most
theorem Txt.na_Runs_most {K : PySem.W.Frag} {mg : Str → Option Value} (T : Txt K mg) : NoAttr K (He.ga K "Runs") "most" := T.p2.na_Runs_most
theorem Txt.na_Pairs_most {K : PySem.W.Frag} {mg : Str → Option Value} (T : Txt K mg) : NoAttr K (He.ga K "Pairs") "most" := T.p2.na_Pairs_most
theorem Txt.na_Few_most {K : PySem.W.Frag} {mg : Str → Option Value} (T : Txt K mg) : NoAttr K (He.ga K "Few") "most" := T.p2.na_Few_most
theorem Txt.na_Game_rows {K : PySem.W.Frag} {mg : Str → Option Value} (T : Txt K mg) : NoAttr K (He.ga K "Game") "rows" := T.p2.na_Game_rows
theorem Txt.na_Heap_rows {K : PySem.W.Frag} {mg : Str → Option Value} (T : Txt K mg) : NoAttr K (He.ga K "Heap") "rows" := T.p2.na_Heap_rows
theorem Txt.na_Taking_rows {K : PySem.W.Frag} {mg : Str → Option Value} (T : Txt K mg) : NoAttr K (He.ga K "Taking") "rows" := T.p2.na_Taking_rows
theorem Txt.na_Skittles_rows {K : PySem.W.Frag} {mg : Str → Option Value} (T : Txt K mg) : NoAttr K (He.ga K "Skittles") "rows" := T.p2.na_Skittles_rows
theorem Txt.na_Parting_rows {K : PySem.W.Frag} {mg : Str → Option Value} (T : Txt K mg) : NoAttr K (He.ga K "Parting") "rows" := T.p2.na_Parting_rows
theorem Txt.na_Runs_rows {K : PySem.W.Frag} {mg : Str → Option Value} (T : Txt K mg) : NoAttr K (He.ga K "Runs") "rows" := T.p2.na_Runs_rows
theorem Txt.na_Pairs_rows {K : PySem.W.Frag} {mg : Str → Option Value} (T : Txt K mg) : NoAttr K (He.ga K "Pairs") "rows" := T.p2.na_Pairs_rows
theorem Txt.na_Few_rows {K : PySem.W.Frag} {mg : Str → Option Value} (T : Txt K mg) : NoAttr K (He.ga K "Few") "rows" := T.p2.na_Few_rows
theorem Txt.m_Taking_rests {K : PySem.W.Frag} {mg : Str → Option Value} (T : Txt K mg) : Meth K (He.ga K "Taking") "rests" (He.ma K (He.ga K "Taking") "rests") := T.p2.m_Taking_rests
theorem Txt.m_Skittles_rests {K : PySem.W.Frag} {mg : Str → Option Value} (T : Txt K mg) : Meth K (He.ga K "Skittles") "rests" (He.ma K (He.ga K "Skittles") "rests") := T.p2.m_Skittles_rests
theorem Txt.m_Game_leads {K : PySem.W.Frag} {mg : Str → Option Value} (T : Txt K mg) : Meth K (He.ga K "Game") "leads" (He.ma K (He.ga K "Game") "leads") := T.p2.m_Game_leads
theorem Txt.m_Heap_leads {K : PySem.W.Frag} {mg : Str → Option Value} (T : Txt K mg) : Meth K (He.ga K "Heap") "leads" (He.ma K (He.ga K "Heap") "leads") := T.p2.m_Heap_leads
theorem Txt.m_Taking_leads {K : PySem.W.Frag} {mg : Str → Option Value} (T : Txt K mg) : Meth K (He.ga K "Taking") "leads" (He.ma K (He.ga K "Taking") "leads") := T.p2.m_Taking_leads
theorem Txt.m_Skittles_leads {K : PySem.W.Frag} {mg : Str → Option Value} (T : Txt K mg) : Meth K (He.ga K "Skittles") "leads" (He.ma K (He.ga K "Skittles") "leads") := T.p2.m_Skittles_leads
theorem Txt.m_Parting_leads {K : PySem.W.Frag} {mg : Str → Option Value} (T : Txt K mg) : Meth K (He.ga K "Parting") "leads" (He.ma K (He.ga K "Parting") "leads") := T.p2.m_Parting_leads
theorem Txt.m_Runs_leads {K : PySem.W.Frag} {mg : Str → Option Value} (T : Txt K mg) : Meth K (He.ga K "Runs") "leads" (He.ma K (He.ga K "Runs") "leads") := T.p2.m_Runs_leads
theorem Txt.m_Pairs_leads {K : PySem.W.Frag} {mg : Str → Option Value} (T : Txt K mg) : Meth K (He.ga K "Pairs") "leads" (He.ma K (He.ga K "Pairs") "leads") := T.p2.m_Pairs_leads
theorem Txt.m_Few_leads {K : PySem.W.Frag} {mg : Str → Option Value} (T : Txt K mg) : Meth K (He.ga K "Few") "leads" (He.ma K (He.ga K "Few") "leads") := T.p3.m_Few_leads
theorem Txt.m_Game_together {K : PySem.W.Frag} {mg : Str → Option Value} (T : Txt K mg) : Meth K (He.ga K "Game") "together" (He.ma K (He.ga K "Game") "together") := T.p3.m_Game_together
theorem Txt.m_Heap_together {K : PySem.W.Frag} {mg : Str → Option Value} (T : Txt K mg) : Meth K (He.ga K "Heap") "together" (He.ma K (He.ga K "Heap") "together") := T.p3.m_Heap_together
theorem Txt.m_Taking_together {K : PySem.W.Frag} {mg : Str → Option Value} (T : Txt K mg) : Meth K (He.ga K "Taking") "together" (He.ma K (He.ga K "Taking") "together") := T.p3.m_Taking_together
theorem Txt.m_Skittles_together {K : PySem.W.Frag} {mg : Str → Option Value} (T : Txt K mg) : Meth K (He.ga K "Skittles") "together" (He.ma K (He.ga K "Skittles") "together") := T.p3.m_Skittles_together
theorem Txt.m_Parting_together {K : PySem.W.Frag} {mg : Str → Option Value} (T : Txt K mg) : Meth K (He.ga K "Parting") "together" (He.ma K (He.ga K "Parting") "together") := T.p3.m_Parting_together
theorem Txt.m_Runs_together {K : PySem.W.Frag} {mg : Str → Option Value} (T : Txt K mg) : Meth K (He.ga K "Runs") "together" (He.ma K (He.ga K "Runs") "together") := T.p3.m_Runs_together
theorem Txt.m_Pairs_together {K : PySem.W.Frag} {mg : Str → Option Value} (T : Txt K mg) : Meth K (He.ga K "Pairs") "together" (He.ma K (He.ga K "Pairs") "together") := T.p3.m_Pairs_together
theorem Txt.m_Few_together {K : PySem.W.Frag} {mg : Str → Option Value} (T : Txt K mg) : Meth K (He.ga K "Few") "together" (He.ma K (He.ga K "Few") "together") := T.p3.m_Few_together
theorem Txt.m_Game_number {K : PySem.W.Frag} {mg : Str → Option Value} (T : Txt K mg) : Meth K (He.ga K "Game") "number" (He.ma K (He.ga K "Game") "number") := T.p3.m_Game_number
theorem Txt.m_Heap_number {K : PySem.W.Frag} {mg : Str → Option Value} (T : Txt K mg) : Meth K (He.ga K "Heap") "number" (He.ma K (He.ga K "Heap") "number") := T.p3.m_Heap_number
theorem Txt.m_Taking_number {K : PySem.W.Frag} {mg : Str → Option Value} (T : Txt K mg) : Meth K (He.ga K "Taking") "number" (He.ma K (He.ga K "Taking") "number") := T.p3.m_Taking_number
theorem Txt.m_Skittles_number {K : PySem.W.Frag} {mg : Str → Option Value} (T : Txt K mg) : Meth K (He.ga K "Skittles") "number" (He.ma K (He.ga K "Skittles") "number") := T.p3.m_Skittles_number
theorem Txt.m_Parting_number {K : PySem.W.Frag} {mg : Str → Option Value} (T : Txt K mg) : Meth K (He.ga K "Parting") "number" (He.ma K (He.ga K "Parting") "number") := T.p3.m_Parting_number
theorem Txt.m_Runs_number {K : PySem.W.Frag} {mg : Str → Option Value} (T : Txt K mg) : Meth K (He.ga K "Runs") "number" (He.ma K (He.ga K "Runs") "number") := T.p3.m_Runs_number
theorem Txt.m_Pairs_number {K : PySem.W.Frag} {mg : Str → Option Value} (T : Txt K mg) : Meth K (He.ga K "Pairs") "number" (He.ma K (He.ga K "Pairs") "number") := T.p3.m_Pairs_number
theorem Txt.m_Few_number {K : PySem.W.Frag} {mg : Str → Option Value} (T : Txt K mg) : Meth K (He.ga K "Few") "number" (He.ma K (He.ga K "Few") "number") := T.p3.m_Few_number
theorem Txt.m_Game_numbers {K : PySem.W.Frag} {mg : Str → Option Value} (T : Txt K mg) : Meth K (He.ga K "Game") "numbers" (He.ma K (He.ga K "Game") "numbers") := T.p3.m_Game_numbers
theorem Txt.m_Heap_numbers {K : PySem.W.Frag} {mg : Str → Option Value} (T : Txt K mg) : Meth K (He.ga K "Heap") "numbers" (He.ma K (He.ga K "Heap") "numbers") := T.p3.m_Heap_numbers
theorem Txt.m_Taking_numbers {K : PySem.W.Frag} {mg : Str → Option Value} (T : Txt K mg) : Meth K (He.ga K "Taking") "numbers" (He.ma K (He.ga K "Taking") "numbers") := T.p3.m_Taking_numbers
theorem Txt.m_Skittles_numbers {K : PySem.W.Frag} {mg : Str → Option Value} (T : Txt K mg) : Meth K (He.ga K "Skittles") "numbers" (He.ma K (He.ga K "Skittles") "numbers") := T.p3.m_Skittles_numbers
theorem Txt.m_Parting_numbers {K : PySem.W.Frag} {mg : Str → Option Value} (T : Txt K mg) : Meth K (He.ga K "Parting") "numbers" (He.ma K (He.ga K "Parting") "numbers") := T.p3.m_Parting_numbers
theorem Txt.m_Runs_numbers {K : PySem.W.Frag} {mg : Str → Option Value} (T : Txt K mg) : Meth K (He.ga K "Runs") "numbers" (He.ma K (He.ga K "Runs") "numbers") := T.p3.m_Runs_numbers
theorem Txt.m_Pairs_numbers {K : PySem.W.Frag} {mg : Str → Option Value} (T : Txt K mg) : Meth K (He.ga K "Pairs") "numbers" (He.ma K (He.ga K "Pairs") "numbers") := T.p3.m_Pairs_numbers
theorem Txt.m_Few_numbers {K : PySem.W.Frag} {mg : Str → Option Value} (T : Txt K mg) : Meth K (He.ga K "Few") "numbers" (He.ma K (He.ga K "Few") "numbers") := T.p4.m_Few_numbers
theorem Txt.m_Game_value {K : PySem.W.Frag} {mg : Str → Option Value} (T : Txt K mg) : Meth K (He.ga K "Game") "value" (He.ma K (He.ga K "Game") "value") := T.p4.m_Game_value
theorem Txt.m_Heap_value {K : PySem.W.Frag} {mg : Str → Option Value} (T : Txt K mg) : Meth K (He.ga K "Heap") "value" (He.ma K (He.ga K "Heap") "value") := T.p4.m_Heap_value
theorem Txt.m_Taking_value {K : PySem.W.Frag} {mg : Str → Option Value} (T : Txt K mg) : Meth K (He.ga K "Taking") "value" (He.ma K (He.ga K "Taking") "value") := T.p4.m_Taking_value
theorem Txt.m_Skittles_value {K : PySem.W.Frag} {mg : Str → Option Value} (T : Txt K mg) : Meth K (He.ga K "Skittles") "value" (He.ma K (He.ga K "Skittles") "value") := T.p4.m_Skittles_value
theorem Txt.m_Parting_value {K : PySem.W.Frag} {mg : Str → Option Value} (T : Txt K mg) : Meth K (He.ga K "Parting") "value" (He.ma K (He.ga K "Parting") "value") := T.p4.m_Parting_value
theorem Txt.m_Runs_value {K : PySem.W.Frag} {mg : Str → Option Value} (T : Txt K mg) : Meth K (He.ga K "Runs") "value" (He.ma K (He.ga K "Runs") "value") := T.p4.m_Runs_value
theorem Txt.m_Pairs_value {K : PySem.W.Frag} {mg : Str → Option Value} (T : Txt K mg) : Meth K (He.ga K "Pairs") "value" (He.ma K (He.ga K "Pairs") "value") := T.p4.m_Pairs_value
theorem Txt.m_Few_value {K : PySem.W.Frag} {mg : Str → Option Value} (T : Txt K mg) : Meth K (He.ga K "Few") "value" (He.ma K (He.ga K "Few") "value") := T.p4.m_Few_value
theorem Txt.m_Game_winning {K : PySem.W.Frag} {mg : Str → Option Value} (T : Txt K mg) : Meth K (He.ga K "Game") "winning" (He.ma K (He.ga K "Game") "winning") := T.p4.m_Game_winning
theorem Txt.m_Heap_winning {K : PySem.W.Frag} {mg : Str → Option Value} (T : Txt K mg) : Meth K (He.ga K "Heap") "winning" (He.ma K (He.ga K "Heap") "winning") := T.p4.m_Heap_winning
theorem Txt.m_Taking_winning {K : PySem.W.Frag} {mg : Str → Option Value} (T : Txt K mg) : Meth K (He.ga K "Taking") "winning" (He.ma K (He.ga K "Taking") "winning") := T.p4.m_Taking_winning
theorem Txt.m_Skittles_winning {K : PySem.W.Frag} {mg : Str → Option Value} (T : Txt K mg) : Meth K (He.ga K "Skittles") "winning" (He.ma K (He.ga K "Skittles") "winning") := T.p4.m_Skittles_winning
theorem Txt.m_Parting_winning {K : PySem.W.Frag} {mg : Str → Option Value} (T : Txt K mg) : Meth K (He.ga K "Parting") "winning" (He.ma K (He.ga K "Parting") "winning") := T.p4.m_Parting_winning
theorem Txt.m_Runs_winning {K : PySem.W.Frag} {mg : Str → Option Value} (T : Txt K mg) : Meth K (He.ga K "Runs") "winning" (He.ma K (He.ga K "Runs") "winning") := T.p4.m_Runs_winning
theorem Txt.m_Pairs_winning {K : PySem.W.Frag} {mg : Str → Option Value} (T : Txt K mg) : Meth K (He.ga K "Pairs") "winning" (He.ma K (He.ga K "Pairs") "winning") := T.p4.m_Pairs_winning
theorem Txt.m_Few_winning {K : PySem.W.Frag} {mg : Str → Option Value} (T : Txt K mg) : Meth K (He.ga K "Few") "winning" (He.ma K (He.ga K "Few") "winning") := T.p4.m_Few_winning
theorem Txt.m_Game_name {K : PySem.W.Frag} {mg : Str → Option Value} (T : Txt K mg) : Meth K (He.ga K "Game") "name" (He.ma K (He.ga K "Game") "name") := T.p4.m_Game_name
theorem Txt.m_Heap_name {K : PySem.W.Frag} {mg : Str → Option Value} (T : Txt K mg) : Meth K (He.ga K "Heap") "name" (He.ma K (He.ga K "Heap") "name") := T.p4.m_Heap_name
theorem Txt.m_Taking_name {K : PySem.W.Frag} {mg : Str → Option Value} (T : Txt K mg) : Meth K (He.ga K "Taking") "name" (He.ma K (He.ga K "Taking") "name") := T.p4.m_Taking_name
theorem Txt.m_Skittles_name {K : PySem.W.Frag} {mg : Str → Option Value} (T : Txt K mg) : Meth K (He.ga K "Skittles") "name" (He.ma K (He.ga K "Skittles") "name") := T.p4.m_Skittles_name
theorem Txt.m_Parting_name {K : PySem.W.Frag} {mg : Str → Option Value} (T : Txt K mg) : Meth K (He.ga K "Parting") "name" (He.ma K (He.ga K "Parting") "name") := T.p4.m_Parting_name
theorem Txt.m_Runs_name {K : PySem.W.Frag} {mg : Str → Option Value} (T : Txt K mg) : Meth K (He.ga K "Runs") "name" (He.ma K (He.ga K "Runs") "name") := T.p4.m_Runs_name
theorem Txt.m_Pairs_name {K : PySem.W.Frag} {mg : Str → Option Value} (T : Txt K mg) : Meth K (He.ga K "Pairs") "name" (He.ma K (He.ga K "Pairs") "name") := T.p4.m_Pairs_name
theorem Txt.m_Few_name {K : PySem.W.Frag} {mg : Str → Option Value} (T : Txt K mg) : Meth K (He.ga K "Few") "name" (He.ma K (He.ga K "Few") "name") := T.p5.m_Few_name
theorem Txt.m_Game___init__ {K : PySem.W.Frag} {mg : Str → Option Value} (T : Txt K mg) : Meth K (He.ga K "Game") "__init__" (He.ma K (He.ga K "Game") "__init__") := T.p5.m_Game___init__
theorem Txt.m_Taking___init__ {K : PySem.W.Frag} {mg : Str → Option Value} (T : Txt K mg) : Meth K (He.ga K "Taking") "__init__" (He.ma K (He.ga K "Taking") "__init__") := T.p5.m_Taking___init__
theorem Txt.m_Skittles___init__ {K : PySem.W.Frag} {mg : Str → Option Value} (T : Txt K mg) : Meth K (He.ga K "Skittles") "__init__" (He.ma K (He.ga K "Skittles") "__init__") := T.p5.m_Skittles___init__
theorem Txt.m_Parting___init__ {K : PySem.W.Frag} {mg : Str → Option Value} (T : Txt K mg) : Meth K (He.ga K "Parting") "__init__" (He.ma K (He.ga K "Parting") "__init__") := T.p5.m_Parting___init__
theorem Txt.m_Runs___init__ {K : PySem.W.Frag} {mg : Str → Option Value} (T : Txt K mg) : Meth K (He.ga K "Runs") "__init__" (He.ma K (He.ga K "Runs") "__init__") := T.p5.m_Runs___init__
theorem Txt.m_Pairs___init__ {K : PySem.W.Frag} {mg : Str → Option Value} (T : Txt K mg) : Meth K (He.ga K "Pairs") "__init__" (He.ma K (He.ga K "Pairs") "__init__") := T.p5.m_Pairs___init__
theorem Txt.m_Few___init__ {K : PySem.W.Frag} {mg : Str → Option Value} (T : Txt K mg) : Meth K (He.ga K "Few") "__init__" (He.ma K (He.ga K "Few") "__init__") := T.p5.m_Few___init__
theorem Txt.g_NotWritten {K : PySem.W.Frag} {mg : Str → Option Value} (T : Txt K mg) : mg "NotWritten" = some (.ref (He.ga K "NotWritten")) := T.p5.g_NotWritten
theorem Txt.x_NotWritten {K : PySem.W.Frag} {mg : Str → Option Value} (T : Txt K mg) : PySem.W.excIn K (He.ga K "NotWritten") He.veBase "ValueError.__new__" = true ∧ PySem.W.keepIn K (.ref (He.ga K "NotWritten")) = true ∧ PySem.W.subIn K (.ref (He.ga K "NotWritten")) (.type "BaseException") = some true ∧ PySem.W.typeIn K (.ref (He.ga K "NotWritten")) = some (.type "type") := T.p5.x_NotWritten
theorem Txt.mk_Game {K : PySem.W.Frag} {mg : Str → Option Value} (T : Txt K mg) : Mk K (He.ga K "Game") (He.ma K (He.ga K "Game") "__init__") := T.p5.mk_Game
theorem Txt.mk_Heap {K : PySem.W.Frag} {mg : Str → Option Value} (T : Txt K mg) : Mk K (He.ga K "Heap") (He.ma K (He.ga K "Heap") "__init__") := T.p5.mk_Heap
theorem Txt.mk_Parting {K : PySem.W.Frag} {mg : Str → Option Value} (T : Txt K mg) : Mk K (He.ga K "Parting") (He.ma K (He.ga K "Parting") "__init__") := T.p5.mk_Parting
theorem Txt.g_Parting {K : PySem.W.Frag} {mg : Str → Option Value} (T : Txt K mg) : mg "Parting" = some (.ref (He.ga K "Parting")) := T.p5.g_Parting
theorem Txt.mk_Runs {K : PySem.W.Frag} {mg : Str → Option Value} (T : Txt K mg) : Mk K (He.ga K "Runs") (He.ma K (He.ga K "Runs") "__init__") := T.p5.mk_Runs
theorem Txt.g_Runs {K : PySem.W.Frag} {mg : Str → Option Value} (T : Txt K mg) : mg "Runs" = some (.ref (He.ga K "Runs")) := T.p5.g_Runs
theorem Txt.mk_Pairs {K : PySem.W.Frag} {mg : Str → Option Value} (T : Txt K mg) : Mk K (He.ga K "Pairs") (He.ma K (He.ga K "Pairs") "__init__") := T.p5.mk_Pairs
theorem Txt.g_Pairs {K : PySem.W.Frag} {mg : Str → Option Value} (T : Txt K mg) : mg "Pairs" = some (.ref (He.ga K "Pairs")) := T.p5.g_Pairs
theorem Txt.g_BARE {K : PySem.W.Frag} {mg : Str → Option Value} (T : Txt K mg) : mg "BARE" = some (.ref (He.ga K "BARE")) := T.p5.g_BARE
theorem Txt.g_bare_game {K : PySem.W.Frag} {mg : Str → Option Value} (T : Txt K mg) : mg "bare_game" = some (.ref (He.ga K "bare_game")) := T.p5.g_bare_game
theorem Txt.g_figures_of {K : PySem.W.Frag} {mg : Str → Option Value} (T : Txt K mg) : mg "figures_of" = some (.ref (He.ga K "figures_of")) := T.p5.g_figures_of
theorem Txt.mk_Taking {K : PySem.W.Frag} {mg : Str → Option Value} (T : Txt K mg) : Mk K (He.ga K "Taking") (He.ma K (He.ga K "Taking") "__init__") := T.p5.mk_Taking
theorem Txt.mk_Skittles {K : PySem.W.Frag} {mg : Str → Option Value} (T : Txt K mg) : Mk K (He.ga K "Skittles") (He.ma K (He.ga K "Skittles") "__init__") := T.p5.mk_Skittles
theorem Txt.g_Skittles {K : PySem.W.Frag} {mg : Str → Option Value} (T : Txt K mg) : mg "Skittles" = some (.ref (He.ga K "Skittles")) := T.p5.g_Skittles
theorem Txt.mk_Few {K : PySem.W.Frag} {mg : Str → Option Value} (T : Txt K mg) : Mk K (He.ga K "Few") (He.ma K (He.ga K "Few") "__init__") := T.p6.mk_Few
theorem Txt.g_Few {K : PySem.W.Frag} {mg : Str → Option Value} (T : Txt K mg) : mg "Few" = some (.ref (He.ga K "Few")) := T.p6.g_Few
theorem Txt.g_game_told {K : PySem.W.Frag} {mg : Str → Option Value} (T : Txt K mg) : mg "game_told" = some (.ref (He.ga K "game_told")) := T.p6.g_game_told
theorem Txt.g_turn_told {K : PySem.W.Frag} {mg : Str → Option Value} (T : Txt K mg) : mg "turn_told" = some (.ref (He.ga K "turn_told")) := T.p6.g_turn_told
theorem Txt.n_enumerate {K : PySem.W.Frag} {mg : Str → Option Value} (T : Txt K mg) : mg "enumerate" = none := T.p6.n_enumerate
theorem Txt.e_NotAPlace_NotAPlace {K : PySem.W.Frag} {mg : Str → Option Value} (T : Txt K mg) : PySem.W.exmOne K (.ref (He.ga K "NotAPlace")) (.ref (He.ga K "NotAPlace")) = some true := T.p6.e_NotAPlace_NotAPlace
theorem Txt.e_NotAGame_NotAPlace {K : PySem.W.Frag} {mg : Str → Option Value} (T : Txt K mg) : PySem.W.exmOne K (.ref (He.ga K "NotAGame")) (.ref (He.ga K "NotAPlace")) = some false := T.p6.e_NotAGame_NotAPlace
theorem Txt.e_NotWritten_NotAPlace {K : PySem.W.Frag} {mg : Str → Option Value} (T : Txt K mg) : PySem.W.exmOne K (.ref (He.ga K "NotWritten")) (.ref (He.ga K "NotAPlace")) = some false := T.p6.e_NotWritten_NotAPlace
theorem Txt.e_NotAPlace_NotAGame {K : PySem.W.Frag} {mg : Str → Option Value} (T : Txt K mg) : PySem.W.exmOne K (.ref (He.ga K "NotAPlace")) (.ref (He.ga K "NotAGame")) = some false := T.p6.e_NotAPlace_NotAGame
theorem Txt.e_NotAGame_NotAGame {K : PySem.W.Frag} {mg : Str → Option Value} (T : Txt K mg) : PySem.W.exmOne K (.ref (He.ga K "NotAGame")) (.ref (He.ga K "NotAGame")) = some true := T.p6.e_NotAGame_NotAGame
theorem Txt.e_NotWritten_NotAGame {K : PySem.W.Frag} {mg : Str → Option Value} (T : Txt K mg) : PySem.W.exmOne K (.ref (He.ga K "NotWritten")) (.ref (He.ga K "NotAGame")) = some false := T.p6.e_NotWritten_NotAGame
theorem Txt.e_NotAPlace_HouseError {K : PySem.W.Frag} {mg : Str → Option Value} (T : Txt K mg) : PySem.W.exmOne K (.ref (He.ga K "NotAPlace")) (.ref (He.ga K "HouseError")) = some true := T.p6.e_NotAPlace_HouseError
theorem Txt.e_NotAGame_HouseError {K : PySem.W.Frag} {mg : Str → Option Value} (T : Txt K mg) : PySem.W.exmOne K (.ref (He.ga K "NotAGame")) (.ref (He.ga K "HouseError")) = some true := T.p6.e_NotAGame_HouseError
theorem Txt.e_NotWritten_HouseError {K : PySem.W.Frag} {mg : Str → Option Value} (T : Txt K mg) : PySem.W.exmOne K (.ref (He.ga K "NotWritten")) (.ref (He.ga K "HouseError")) = some true := T.p6.e_NotWritten_HouseError
theorem Txt.g_line_answered {K : PySem.W.Frag} {mg : Str → Option Value} (T : Txt K mg) : mg "line_answered" = some (.ref (He.ga K "line_answered")) := T.p6.g_line_answered
theorem Txt.g_HouseError {K : PySem.W.Frag} {mg : Str → Option Value} (T : Txt K mg) : mg "HouseError" = some (.ref (He.ga K "HouseError")) := T.p6.g_HouseError
theorem Txt.g__law_value {K : PySem.W.Frag} {mg : Str → Option Value} (T : Txt K mg) : mg "_law_value" = some (.ref (He.ga K "_law_value")) := T.p6.g__law_value
theorem Txt.g__law_bare {K : PySem.W.Frag} {mg : Str → Option Value} (T : Txt K mg) : mg "_law_bare" = some (.ref (He.ga K "_law_bare")) := T.p6.g__law_bare
theorem Txt.g__law_figures {K : PySem.W.Frag} {mg : Str → Option Value} (T : Txt K mg) : mg "_law_figures" = some (.ref (He.ga K "_law_figures")) := T.p6.g__law_figures
theorem Txt.g__law_limits_good {K : PySem.W.Frag} {mg : Str → Option Value} (T : Txt K mg) : mg "_law_limits_good" = some (.ref (He.ga K "_law_limits_good")) := T.p6.g__law_limits_good
theorem Txt.g__law_words {K : PySem.W.Frag} {mg : Str → Option Value} (T : Txt K mg) : mg "_law_words" = some (.ref (He.ga K "_law_words")) := T.p6.g__law_words
theorem Txt.g__law_game {K : PySem.W.Frag} {mg : Str → Option Value} (T : Txt K mg) : mg "_law_game" = some (.ref (He.ga K "_law_game")) := T.p6.g__law_game
theorem Txt.n_max {K : PySem.W.Frag} {mg : Str → Option Value} (T : Txt K mg) : mg "max" = none := T.p6.n_max
theorem Txt.g__law_turn {K : PySem.W.Frag} {mg : Str → Option Value} (T : Txt K mg) : mg "_law_turn" = some (.ref (He.ga K "_law_turn")) := T.p6.g__law_turn
theorem Txt.g__law_digits {K : PySem.W.Frag} {mg : Str → Option Value} (T : Txt K mg) : mg "_law_digits" = some (.ref (He.ga K "_law_digits")) := T.p7.g__law_digits
theorem Txt.g__law_cell_at {K : PySem.W.Frag} {mg : Str → Option Value} (T : Txt K mg) : mg "_law_cell_at" = some (.ref (He.ga K "_law_cell_at")) := T.p7.g__law_cell_at
theorem Txt.g__law_built {K : PySem.W.Frag} {mg : Str → Option Value} (T : Txt K mg) : mg "_law_built" = some (.ref (He.ga K "_law_built")) := T.p7.g__law_built
theorem Txt.g__law_changed {K : PySem.W.Frag} {mg : Str → Option Value} (T : Txt K mg) : mg "_law_changed" = some (.ref (He.ga K "_law_changed")) := T.p7.g__law_changed
theorem Txt.n_min {K : PySem.W.Frag} {mg : Str → Option Value} (T : Txt K mg) : mg "min" = none := T.p7.n_min
theorem Txt.g__law_line {K : PySem.W.Frag} {mg : Str → Option Value} (T : Txt K mg) : mg "_law_line" = some (.ref (He.ga K "_law_line")) := T.p7.g__law_line
theorem Txt.g__law_answer {K : PySem.W.Frag} {mg : Str → Option Value} (T : Txt K mg) : mg "_law_answer" = some (.ref (He.ga K "_law_answer")) := T.p7.g__law_answer
theorem Txt.g__law_named {K : PySem.W.Frag} {mg : Str → Option Value} (T : Txt K mg) : mg "_law_named" = some (.ref (He.ga K "_law_named")) := T.p7.g__law_named
theorem Txt.g__law_not_written {K : PySem.W.Frag} {mg : Str → Option Value} (T : Txt K mg) : mg "_law_not_written" = some (.ref (He.ga K "_law_not_written")) := T.p7.g__law_not_written
theorem Txt.g_answered {K : PySem.W.Frag} {mg : Str → Option Value} (T : Txt K mg) : mg "answered" = some (.ref (He.ga K "answered")) := T.p7.g_answered
theorem Txt.g_law {K : PySem.W.Frag} {mg : Str → Option Value} (T : Txt K mg) : mg "law" = some (.ref (He.ga K "law")) := T.p7.g_law
theorem Txt.cf_Heap___init__ {K : PySem.W.Frag} {mg : Str → Option Value} (T : Txt K mg) : ClsF K (He.ga K "Heap") "__init__" (He.ma K (He.ga K "Heap") "__init__") := T.p7.cf_Heap___init__
theorem Txt.cf_Game___init__ {K : PySem.W.Frag} {mg : Str → Option Value} (T : Txt K mg) : ClsF K (He.ga K "Game") "__init__" (He.ma K (He.ga K "Game") "__init__") := T.p7.cf_Game___init__
theorem Txt.cf_Taking_name {K : PySem.W.Frag} {mg : Str → Option Value} (T : Txt K mg) : ClsF K (He.ga K "Taking") "name" (He.ma K (He.ga K "Taking") "name") := T.p7.cf_Taking_name
theorem Txt.xc_NotAGame {K : PySem.W.Frag} {mg : Str → Option Value} (T : Txt K mg) : ExcC K (He.ga K "NotAGame") := T.p7.xc_NotAGame
theorem Txt.kt_NotAGame_ValueError {K : PySem.W.Frag} {mg : Str → Option Value} (T : Txt K mg) : PySem.W.kitOne K (.ref (He.ga K "NotAGame")) (.type "ValueError") = some true := T.p7.kt_NotAGame_ValueError
theorem Txt.k_NotAGame_NotAGame {K : PySem.W.Frag} {mg : Str → Option Value} (T : Txt K mg) : PySem.W.kitOne K (.ref (He.ga K "NotAGame")) (.ref (He.ga K "NotAGame")) = some true := T.p7.k_NotAGame_NotAGame
theorem Txt.k_NotAGame_NotWritten {K : PySem.W.Frag} {mg : Str → Option Value} (T : Txt K mg) : PySem.W.kitOne K (.ref (He.ga K "NotAGame")) (.ref (He.ga K "NotWritten")) = some false := T.p7.k_NotAGame_NotWritten
theorem Txt.xc_NotWritten {K : PySem.W.Frag} {mg : Str → Option Value} (T : Txt K mg) : ExcC K (He.ga K "NotWritten") := T.p7.xc_NotWritten
theorem Txt.kt_NotWritten_ValueError {K : PySem.W.Frag} {mg : Str → Option Value} (T : Txt K mg) : PySem.W.kitOne K (.ref (He.ga K "NotWritten")) (.type "ValueError") = some true := T.p7.kt_NotWritten_ValueError
theorem Txt.k_NotWritten_NotAGame {K : PySem.W.Frag} {mg : Str → Option Value} (T : Txt K mg) : PySem.W.kitOne K (.ref (He.ga K "NotWritten")) (.ref (He.ga K "NotAGame")) = some false := T.p7.k_NotWritten_NotAGame
theorem Txt.k_NotWritten_NotWritten {K : PySem.W.Frag} {mg : Str → Option Value} (T : Txt K mg) : PySem.W.kitOne K (.ref (He.ga K "NotWritten")) (.ref (He.ga K "NotWritten")) = some true := T.p7.k_NotWritten_NotWritten
theorem Txt.tup_BARE {K : PySem.W.Frag} {mg : Str → Option Value} (T : Txt K mg) : TupS K "BARE" [Str.ofString "still", Str.ofString "heap", Str.ofString "parting", Str.ofString "runs", Str.ofString "pairs"] := T.p7.tup_BARE
theorem Txt.f_is_whole {K : PySem.W.Frag} {mg : Str → Option Value} (T : Txt K mg) : ∃ fd, FunD K "is_whole" "is_whole" (defArgs (top 6)) (defBody (top 6)) (defScope (top 6)) [] [] (He.ga K "is_whole") fd := T.p7.f_is_whole
theorem Txt.f__law_cell_at {K : PySem.W.Frag} {mg : Str → Option Value} (T : Txt K mg) : ∃ fd, FunD K "_law_cell_at" "_law_cell_at" (defArgs (top 32)) (defBody (top 32)) (defScope (top 32)) [] [] (He.ga K "_law_cell_at") fd := T.p8.f__law_cell_at
theorem Txt.f_least_lacking {K : PySem.W.Frag} {mg : Str → Option Value} (T : Txt K mg) : ∃ fd, FunD K "least_lacking" "least_lacking" (defArgs (top 7)) (defBody (top 7)) (defScope (top 7)) [] [] (He.ga K "least_lacking") fd := T.p8.f_least_lacking
theorem Txt.f_Heap_leads {K : PySem.W.Frag} {mg : Str → Option Value} (T : Txt K mg) : ∃ fd, FunD K "leads" "Heap.leads" (defArgs (inClass (top 19) 0)) (defBody (inClass (top 19) 0)) (defScope (inClass (top 19) 0)) [] [] (He.ma K (He.ga K "Heap") "leads") fd := T.p8.f_Heap_leads
theorem Txt.f_Pairs_leads {K : PySem.W.Frag} {mg : Str → Option Value} (T : Txt K mg) : ∃ fd, FunD K "leads" "Pairs.leads" (defArgs (inClass (top 13) 0)) (defBody (inClass (top 13) 0)) (defScope (inClass (top 13) 0)) [] [] (He.ma K (He.ga K "Pairs") "leads") fd := T.p8.f_Pairs_leads
theorem Txt.f_Parting_leads {K : PySem.W.Frag} {mg : Str → Option Value} (T : Txt K mg) : ∃ fd, FunD K "leads" "Parting.leads" (defArgs (inClass (top 22) 0)) (defBody (inClass (top 22) 0)) (defScope (inClass (top 22) 0)) [] [] (He.ma K (He.ga K "Parting") "leads") fd := T.p8.f_Parting_leads
theorem Txt.f_Taking_leads {K : PySem.W.Frag} {mg : Str → Option Value} (T : Txt K mg) : ∃ fd, FunD K "leads" "Taking.leads" (defArgs (inClass (top 20) 2)) (defBody (inClass (top 20) 2)) (defScope (inClass (top 20) 2)) [] [] (He.ma K (He.ga K "Taking") "leads") fd := T.p8.f_Taking_leads
theorem Txt.f_Skittles_leads {K : PySem.W.Frag} {mg : Str → Option Value} (T : Txt K mg) : ∃ fd, FunD K "leads" "Skittles.leads" (defArgs (inClass (top 21) 0)) (defBody (inClass (top 21) 0)) (defScope (inClass (top 21) 0)) [] [] (He.ma K (He.ga K "Skittles") "leads") fd := T.p8.f_Skittles_leads
theorem Txt.f_Runs_leads {K : PySem.W.Frag} {mg : Str → Option Value} (T : Txt K mg) : ∃ fd, FunD K "leads" "Runs.leads" (defArgs (inClass (top 12) 0)) (defBody (inClass (top 12) 0)) (defScope (inClass (top 12) 0)) [] [] (He.ma K (He.ga K "Runs") "leads") fd := T.p8.f_Runs_leads
theorem Txt.f_longer {K : PySem.W.Frag} {mg : Str → Option Value} (T : Txt K mg) : ∃ fd, FunD K "longer" "longer" (defArgs (top 15)) (defBody (top 15)) (defScope (top 15)) [] [] (He.ga K "longer") fd := T.p8.f_longer
theorem Txt.f_Few_leads {K : PySem.W.Frag} {mg : Str → Option Value} (T : Txt K mg) : ∃ fd, FunD K "leads" "Few.leads" (defArgs (inClass (top 14) 1)) (defBody (inClass (top 14) 1)) (defScope (inClass (top 14) 1)) [] [] (He.ma K (He.ga K "Few") "leads") fd := T.p8.f_Few_leads
theorem Txt.f_asked_limits {K : PySem.W.Frag} {mg : Str → Option Value} (T : Txt K mg) : ∃ fd, FunD K "asked_limits" "asked_limits" (defArgs (top 18)) (defBody (top 18)) (defScope (top 18)) [] [] (He.ga K "asked_limits") fd := T.p8.f_asked_limits
theorem Txt.f_Heap___init__ {K : PySem.W.Frag} {mg : Str → Option Value} (T : Txt K mg) : ∃ fd, FunD K "__init__" "Game.__init__" (defArgs (inClass (top 10) 0)) (defBody (inClass (top 10) 0)) (defScope (inClass (top 10) 0)) [] [] (He.ma K (He.ga K "Heap") "__init__") fd := T.p8.f_Heap___init__
theorem Txt.f_Game_name {K : PySem.W.Frag} {mg : Str → Option Value} (T : Txt K mg) : ∃ fd, FunD K "name" "Game.name" (defArgs (inClass (top 10) 2)) (defBody (inClass (top 10) 2)) (defScope (inClass (top 10) 2)) [] [] (He.ma K (He.ga K "Game") "name") fd := T.p8.f_Game_name
theorem Txt.f_Heap_name {K : PySem.W.Frag} {mg : Str → Option Value} (T : Txt K mg) : ∃ fd, FunD K "name" "Heap.name" (defArgs (inClass (top 19) 1)) (defBody (inClass (top 19) 1)) (defScope (inClass (top 19) 1)) [] [] (He.ma K (He.ga K "Heap") "name") fd := T.p8.f_Heap_name
theorem Txt.f_Parting_name {K : PySem.W.Frag} {mg : Str → Option Value} (T : Txt K mg) : ∃ fd, FunD K "name" "Parting.name" (defArgs (inClass (top 22) 1)) (defBody (inClass (top 22) 1)) (defScope (inClass (top 22) 1)) [] [] (He.ma K (He.ga K "Parting") "name") fd := T.p8.f_Parting_name
theorem Txt.f_Runs_name {K : PySem.W.Frag} {mg : Str → Option Value} (T : Txt K mg) : ∃ fd, FunD K "name" "Runs.name" (defArgs (inClass (top 12) 1)) (defBody (inClass (top 12) 1)) (defScope (inClass (top 12) 1)) [] [] (He.ma K (He.ga K "Runs") "name") fd := T.p8.f_Runs_name
theorem Txt.f_Pairs_name {K : PySem.W.Frag} {mg : Str → Option Value} (T : Txt K mg) : ∃ fd, FunD K "name" "Pairs.name" (defArgs (inClass (top 13) 1)) (defBody (inClass (top 13) 1)) (defScope (inClass (top 13) 1)) [] [] (He.ma K (He.ga K "Pairs") "name") fd := T.p8.f_Pairs_name
theorem Txt.f_Few_name {K : PySem.W.Frag} {mg : Str → Option Value} (T : Txt K mg) : ∃ fd, FunD K "name" "Few.name" (defArgs (inClass (top 14) 2)) (defBody (inClass (top 14) 2)) (defScope (inClass (top 14) 2)) [] [] (He.ma K (He.ga K "Few") "name") fd := T.p8.f_Few_name
theorem Txt.f_Taking_name {K : PySem.W.Frag} {mg : Str → Option Value} (T : Txt K mg) : ∃ fd, FunD K "name" "Taking.name" (defArgs (inClass (top 20) 3)) (defBody (inClass (top 20) 3)) (defScope (inClass (top 20) 3)) [] [] (He.ma K (He.ga K "Taking") "name") fd := T.p8.f_Taking_name
theorem Txt.f_Skittles_name {K : PySem.W.Frag} {mg : Str → Option Value} (T : Txt K mg) : ∃ fd, FunD K "name" "Skittles.name" (defArgs (inClass (top 21) 1)) (defBody (inClass (top 21) 1)) (defScope (inClass (top 21) 1)) [] [] (He.ma K (He.ga K "Skittles") "name") fd := T.p8.f_Skittles_name
theorem Txt.f_Taking_rests {K : PySem.W.Frag} {mg : Str → Option Value} (T : Txt K mg) : ∃ fd, FunD K "rests" "Taking.rests" (defArgs (inClass (top 20) 1)) (defBody (inClass (top 20) 1)) (defScope (inClass (top 20) 1)) [] [] (He.ma K (He.ga K "Taking") "rests") fd := T.p8.f_Taking_rests
theorem Txt.f_Skittles_rests {K : PySem.W.Frag} {mg : Str → Option Value} (T : Txt K mg) : ∃ fd, FunD K "rests" "Taking.rests" (defArgs (inClass (top 20) 1)) (defBody (inClass (top 20) 1)) (defScope (inClass (top 20) 1)) [] [] (He.ma K (He.ga K "Skittles") "rests") fd := T.p8.f_Skittles_rests
theorem Txt.f_Game_leads {K : PySem.W.Frag} {mg : Str → Option Value} (T : Txt K mg) : ∃ fd, FunD K "leads" "Game.leads" (defArgs (inClass (top 10) 1)) (defBody (inClass (top 10) 1)) (defScope (inClass (top 10) 1)) [] [] (He.ma K (He.ga K "Game") "leads") fd := T.p8.f_Game_leads
theorem Txt.f_Game_together {K : PySem.W.Frag} {mg : Str → Option Value} (T : Txt K mg) : ∃ fd, FunD K "together" "Game.together" (defArgs (inClass (top 10) 3)) (defBody (inClass (top 10) 3)) (defScope (inClass (top 10) 3)) [] [] (He.ma K (He.ga K "Game") "together") fd := T.p8.f_Game_together
theorem Txt.f_Heap_together {K : PySem.W.Frag} {mg : Str → Option Value} (T : Txt K mg) : ∃ fd, FunD K "together" "Game.together" (defArgs (inClass (top 10) 3)) (defBody (inClass (top 10) 3)) (defScope (inClass (top 10) 3)) [] [] (He.ma K (He.ga K "Heap") "together") fd := T.p9.f_Heap_together
theorem Txt.f_Taking_together {K : PySem.W.Frag} {mg : Str → Option Value} (T : Txt K mg) : ∃ fd, FunD K "together" "Game.together" (defArgs (inClass (top 10) 3)) (defBody (inClass (top 10) 3)) (defScope (inClass (top 10) 3)) [] [] (He.ma K (He.ga K "Taking") "together") fd := T.p9.f_Taking_together
theorem Txt.f_Skittles_together {K : PySem.W.Frag} {mg : Str → Option Value} (T : Txt K mg) : ∃ fd, FunD K "together" "Game.together" (defArgs (inClass (top 10) 3)) (defBody (inClass (top 10) 3)) (defScope (inClass (top 10) 3)) [] [] (He.ma K (He.ga K "Skittles") "together") fd := T.p9.f_Skittles_together
theorem Txt.f_Parting_together {K : PySem.W.Frag} {mg : Str → Option Value} (T : Txt K mg) : ∃ fd, FunD K "together" "Game.together" (defArgs (inClass (top 10) 3)) (defBody (inClass (top 10) 3)) (defScope (inClass (top 10) 3)) [] [] (He.ma K (He.ga K "Parting") "together") fd := T.p9.f_Parting_together
theorem Txt.f_Runs_together {K : PySem.W.Frag} {mg : Str → Option Value} (T : Txt K mg) : ∃ fd, FunD K "together" "Game.together" (defArgs (inClass (top 10) 3)) (defBody (inClass (top 10) 3)) (defScope (inClass (top 10) 3)) [] [] (He.ma K (He.ga K "Runs") "together") fd := T.p9.f_Runs_together
theorem Txt.f_Pairs_together {K : PySem.W.Frag} {mg : Str → Option Value} (T : Txt K mg) : ∃ fd, FunD K "together" "Game.together" (defArgs (inClass (top 10) 3)) (defBody (inClass (top 10) 3)) (defScope (inClass (top 10) 3)) [] [] (He.ma K (He.ga K "Pairs") "together") fd := T.p9.f_Pairs_together
theorem Txt.f_Few_together {K : PySem.W.Frag} {mg : Str → Option Value} (T : Txt K mg) : ∃ fd, FunD K "together" "Game.together" (defArgs (inClass (top 10) 3)) (defBody (inClass (top 10) 3)) (defScope (inClass (top 10) 3)) [] [] (He.ma K (He.ga K "Few") "together") fd := T.p9.f_Few_together
theorem Txt.f_Game_number {K : PySem.W.Frag} {mg : Str → Option Value} (T : Txt K mg) : ∃ fd, FunD K "number" "Game.number" (defArgs (inClass (top 10) 4)) (defBody (inClass (top 10) 4)) (defScope (inClass (top 10) 4)) [] [] (He.ma K (He.ga K "Game") "number") fd := T.p9.f_Game_number
theorem Txt.f_Heap_number {K : PySem.W.Frag} {mg : Str → Option Value} (T : Txt K mg) : ∃ fd, FunD K "number" "Game.number" (defArgs (inClass (top 10) 4)) (defBody (inClass (top 10) 4)) (defScope (inClass (top 10) 4)) [] [] (He.ma K (He.ga K "Heap") "number") fd := T.p9.f_Heap_number
theorem Txt.f_Taking_number {K : PySem.W.Frag} {mg : Str → Option Value} (T : Txt K mg) : ∃ fd, FunD K "number" "Game.number" (defArgs (inClass (top 10) 4)) (defBody (inClass (top 10) 4)) (defScope (inClass (top 10) 4)) [] [] (He.ma K (He.ga K "Taking") "number") fd := T.p9.f_Taking_number
theorem Txt.f_Skittles_number {K : PySem.W.Frag} {mg : Str → Option Value} (T : Txt K mg) : ∃ fd, FunD K "number" "Game.number" (defArgs (inClass (top 10) 4)) (defBody (inClass (top 10) 4)) (defScope (inClass (top 10) 4)) [] [] (He.ma K (He.ga K "Skittles") "number") fd := T.p9.f_Skittles_number
theorem Txt.f_Parting_number {K : PySem.W.Frag} {mg : Str → Option Value} (T : Txt K mg) : ∃ fd, FunD K "number" "Game.number" (defArgs (inClass (top 10) 4)) (defBody (inClass (top 10) 4)) (defScope (inClass (top 10) 4)) [] [] (He.ma K (He.ga K "Parting") "number") fd := T.p9.f_Parting_number
theorem Txt.f_Runs_number {K : PySem.W.Frag} {mg : Str → Option Value} (T : Txt K mg) : ∃ fd, FunD K "number" "Game.number" (defArgs (inClass (top 10) 4)) (defBody (inClass (top 10) 4)) (defScope (inClass (top 10) 4)) [] [] (He.ma K (He.ga K "Runs") "number") fd := T.p9.f_Runs_number
theorem Txt.f_Pairs_number {K : PySem.W.Frag} {mg : Str → Option Value} (T : Txt K mg) : ∃ fd, FunD K "number" "Game.number" (defArgs (inClass (top 10) 4)) (defBody (inClass (top 10) 4)) (defScope (inClass (top 10) 4)) [] [] (He.ma K (He.ga K "Pairs") "number") fd := T.p9.f_Pairs_number
theorem Txt.f_Few_number {K : PySem.W.Frag} {mg : Str → Option Value} (T : Txt K mg) : ∃ fd, FunD K "number" "Game.number" (defArgs (inClass (top 10) 4)) (defBody (inClass (top 10) 4)) (defScope (inClass (top 10) 4)) [] [] (He.ma K (He.ga K "Few") "number") fd := T.p9.f_Few_number
theorem Txt.f_Game_numbers {K : PySem.W.Frag} {mg : Str → Option Value} (T : Txt K mg) : ∃ fd, FunD K "numbers" "Game.numbers" (defArgs (inClass (top 10) 5)) (defBody (inClass (top 10) 5)) (defScope (inClass (top 10) 5)) [] [] (He.ma K (He.ga K "Game") "numbers") fd := T.p9.f_Game_numbers
theorem Txt.f_Heap_numbers {K : PySem.W.Frag} {mg : Str → Option Value} (T : Txt K mg) : ∃ fd, FunD K "numbers" "Game.numbers" (defArgs (inClass (top 10) 5)) (defBody (inClass (top 10) 5)) (defScope (inClass (top 10) 5)) [] [] (He.ma K (He.ga K "Heap") "numbers") fd := T.p9.f_Heap_numbers
theorem Txt.f_Taking_numbers {K : PySem.W.Frag} {mg : Str → Option Value} (T : Txt K mg) : ∃ fd, FunD K "numbers" "Game.numbers" (defArgs (inClass (top 10) 5)) (defBody (inClass (top 10) 5)) (defScope (inClass (top 10) 5)) [] [] (He.ma K (He.ga K "Taking") "numbers") fd := T.p9.f_Taking_numbers
theorem Txt.f_Skittles_numbers {K : PySem.W.Frag} {mg : Str → Option Value} (T : Txt K mg) : ∃ fd, FunD K "numbers" "Game.numbers" (defArgs (inClass (top 10) 5)) (defBody (inClass (top 10) 5)) (defScope (inClass (top 10) 5)) [] [] (He.ma K (He.ga K "Skittles") "numbers") fd := T.p9.f_Skittles_numbers
theorem Txt.f_Parting_numbers {K : PySem.W.Frag} {mg : Str → Option Value} (T : Txt K mg) : ∃ fd, FunD K "numbers" "Game.numbers" (defArgs (inClass (top 10) 5)) (defBody (inClass (top 10) 5)) (defScope (inClass (top 10) 5)) [] [] (He.ma K (He.ga K "Parting") "numbers") fd := T.p9.f_Parting_numbers
theorem Txt.f_Runs_numbers {K : PySem.W.Frag} {mg : Str → Option Value} (T : Txt K mg) : ∃ fd, FunD K "numbers" "Game.numbers" (defArgs (inClass (top 10) 5)) (defBody (inClass (top 10) 5)) (defScope (inClass (top 10) 5)) [] [] (He.ma K (He.ga K "Runs") "numbers") fd := T.p9.f_Runs_numbers
theorem Txt.f_Pairs_numbers {K : PySem.W.Frag} {mg : Str → Option Value} (T : Txt K mg) : ∃ fd, FunD K "numbers" "Game.numbers" (defArgs (inClass (top 10) 5)) (defBody (inClass (top 10) 5)) (defScope (inClass (top 10) 5)) [] [] (He.ma K (He.ga K "Pairs") "numbers") fd := T.p9.f_Pairs_numbers
theorem Txt.f_Few_numbers {K : PySem.W.Frag} {mg : Str → Option Value} (T : Txt K mg) : ∃ fd, FunD K "numbers" "Game.numbers" (defArgs (inClass (top 10) 5)) (defBody (inClass (top 10) 5)) (defScope (inClass (top 10) 5)) [] [] (He.ma K (He.ga K "Few") "numbers") fd := T.p9.f_Few_numbers
theorem Txt.f_Game_value {K : PySem.W.Frag} {mg : Str → Option Value} (T : Txt K mg) : ∃ fd, FunD K "value" "Game.value" (defArgs (inClass (top 10) 6)) (defBody (inClass (top 10) 6)) (defScope (inClass (top 10) 6)) [] [] (He.ma K (He.ga K "Game") "value") fd := T.p9.f_Game_value
theorem Txt.f_Heap_value {K : PySem.W.Frag} {mg : Str → Option Value} (T : Txt K mg) : ∃ fd, FunD K "value" "Game.value" (defArgs (inClass (top 10) 6)) (defBody (inClass (top 10) 6)) (defScope (inClass (top 10) 6)) [] [] (He.ma K (He.ga K "Heap") "value") fd := T.p10.f_Heap_value
theorem Txt.f_Taking_value {K : PySem.W.Frag} {mg : Str → Option Value} (T : Txt K mg) : ∃ fd, FunD K "value" "Game.value" (defArgs (inClass (top 10) 6)) (defBody (inClass (top 10) 6)) (defScope (inClass (top 10) 6)) [] [] (He.ma K (He.ga K "Taking") "value") fd := T.p10.f_Taking_value
theorem Txt.f_Skittles_value {K : PySem.W.Frag} {mg : Str → Option Value} (T : Txt K mg) : ∃ fd, FunD K "value" "Game.value" (defArgs (inClass (top 10) 6)) (defBody (inClass (top 10) 6)) (defScope (inClass (top 10) 6)) [] [] (He.ma K (He.ga K "Skittles") "value") fd := T.p10.f_Skittles_value
theorem Txt.f_Parting_value {K : PySem.W.Frag} {mg : Str → Option Value} (T : Txt K mg) : ∃ fd, FunD K "value" "Game.value" (defArgs (inClass (top 10) 6)) (defBody (inClass (top 10) 6)) (defScope (inClass (top 10) 6)) [] [] (He.ma K (He.ga K "Parting") "value") fd := T.p10.f_Parting_value
theorem Txt.f_Runs_value {K : PySem.W.Frag} {mg : Str → Option Value} (T : Txt K mg) : ∃ fd, FunD K "value" "Game.value" (defArgs (inClass (top 10) 6)) (defBody (inClass (top 10) 6)) (defScope (inClass (top 10) 6)) [] [] (He.ma K (He.ga K "Runs") "value") fd := T.p10.f_Runs_value
theorem Txt.f_Pairs_value {K : PySem.W.Frag} {mg : Str → Option Value} (T : Txt K mg) : ∃ fd, FunD K "value" "Game.value" (defArgs (inClass (top 10) 6)) (defBody (inClass (top 10) 6)) (defScope (inClass (top 10) 6)) [] [] (He.ma K (He.ga K "Pairs") "value") fd := T.p10.f_Pairs_value
theorem Txt.f_Few_value {K : PySem.W.Frag} {mg : Str → Option Value} (T : Txt K mg) : ∃ fd, FunD K "value" "Game.value" (defArgs (inClass (top 10) 6)) (defBody (inClass (top 10) 6)) (defScope (inClass (top 10) 6)) [] [] (He.ma K (He.ga K "Few") "value") fd := T.p10.f_Few_value
theorem Txt.f_Game_winning {K : PySem.W.Frag} {mg : Str → Option Value} (T : Txt K mg) : ∃ fd, FunD K "winning" "Game.winning" (defArgs (inClass (top 10) 7)) (defBody (inClass (top 10) 7)) (defScope (inClass (top 10) 7)) [] [] (He.ma K (He.ga K "Game") "winning") fd := T.p10.f_Game_winning
theorem Txt.f_Heap_winning {K : PySem.W.Frag} {mg : Str → Option Value} (T : Txt K mg) : ∃ fd, FunD K "winning" "Game.winning" (defArgs (inClass (top 10) 7)) (defBody (inClass (top 10) 7)) (defScope (inClass (top 10) 7)) [] [] (He.ma K (He.ga K "Heap") "winning") fd := T.p10.f_Heap_winning
theorem Txt.f_Taking_winning {K : PySem.W.Frag} {mg : Str → Option Value} (T : Txt K mg) : ∃ fd, FunD K "winning" "Game.winning" (defArgs (inClass (top 10) 7)) (defBody (inClass (top 10) 7)) (defScope (inClass (top 10) 7)) [] [] (He.ma K (He.ga K "Taking") "winning") fd := T.p10.f_Taking_winning
theorem Txt.f_Skittles_winning {K : PySem.W.Frag} {mg : Str → Option Value} (T : Txt K mg) : ∃ fd, FunD K "winning" "Game.winning" (defArgs (inClass (top 10) 7)) (defBody (inClass (top 10) 7)) (defScope (inClass (top 10) 7)) [] [] (He.ma K (He.ga K "Skittles") "winning") fd := T.p10.f_Skittles_winning
theorem Txt.f_Parting_winning {K : PySem.W.Frag} {mg : Str → Option Value} (T : Txt K mg) : ∃ fd, FunD K "winning" "Game.winning" (defArgs (inClass (top 10) 7)) (defBody (inClass (top 10) 7)) (defScope (inClass (top 10) 7)) [] [] (He.ma K (He.ga K "Parting") "winning") fd := T.p10.f_Parting_winning
theorem Txt.f_Runs_winning {K : PySem.W.Frag} {mg : Str → Option Value} (T : Txt K mg) : ∃ fd, FunD K "winning" "Game.winning" (defArgs (inClass (top 10) 7)) (defBody (inClass (top 10) 7)) (defScope (inClass (top 10) 7)) [] [] (He.ma K (He.ga K "Runs") "winning") fd := T.p10.f_Runs_winning
theorem Txt.f_Pairs_winning {K : PySem.W.Frag} {mg : Str → Option Value} (T : Txt K mg) : ∃ fd, FunD K "winning" "Game.winning" (defArgs (inClass (top 10) 7)) (defBody (inClass (top 10) 7)) (defScope (inClass (top 10) 7)) [] [] (He.ma K (He.ga K "Pairs") "winning") fd := T.p10.f_Pairs_winning
theorem Txt.f_Few_winning {K : PySem.W.Frag} {mg : Str → Option Value} (T : Txt K mg) : ∃ fd, FunD K "winning" "Game.winning" (defArgs (inClass (top 10) 7)) (defBody (inClass (top 10) 7)) (defScope (inClass (top 10) 7)) [] [] (He.ma K (He.ga K "Few") "winning") fd := T.p10.f_Few_winning
theorem Txt.f_Game___init__ {K : PySem.W.Frag} {mg : Str → Option Value} (T : Txt K mg) : ∃ fd, FunD K "__init__" "Game.__init__" (defArgs (inClass (top 10) 0)) (defBody (inClass (top 10) 0)) (defScope (inClass (top 10) 0)) [] [] (He.ma K (He.ga K "Game") "__init__") fd := T.p10.f_Game___init__
theorem Txt.f_Taking___init__ {K : PySem.W.Frag} {mg : Str → Option Value} (T : Txt K mg) : ∃ fd, FunD K "__init__" "Taking.__init__" (defArgs (inClass (top 20) 0)) (defBody (inClass (top 20) 0)) (defScope (inClass (top 20) 0)) [] [] (He.ma K (He.ga K "Taking") "__init__") fd := T.p10.f_Taking___init__
theorem Txt.f_Skittles___init__ {K : PySem.W.Frag} {mg : Str → Option Value} (T : Txt K mg) : ∃ fd, FunD K "__init__" "Taking.__init__" (defArgs (inClass (top 20) 0)) (defBody (inClass (top 20) 0)) (defScope (inClass (top 20) 0)) [] [] (He.ma K (He.ga K "Skittles") "__init__") fd := T.p10.f_Skittles___init__
theorem Txt.f_Parting___init__ {K : PySem.W.Frag} {mg : Str → Option Value} (T : Txt K mg) : ∃ fd, FunD K "__init__" "Game.__init__" (defArgs (inClass (top 10) 0)) (defBody (inClass (top 10) 0)) (defScope (inClass (top 10) 0)) [] [] (He.ma K (He.ga K "Parting") "__init__") fd := T.p10.f_Parting___init__
theorem Txt.f_Runs___init__ {K : PySem.W.Frag} {mg : Str → Option Value} (T : Txt K mg) : ∃ fd, FunD K "__init__" "Game.__init__" (defArgs (inClass (top 10) 0)) (defBody (inClass (top 10) 0)) (defScope (inClass (top 10) 0)) [] [] (He.ma K (He.ga K "Runs") "__init__") fd := T.p10.f_Runs___init__
theorem Txt.f_Pairs___init__ {K : PySem.W.Frag} {mg : Str → Option Value} (T : Txt K mg) : ∃ fd, FunD K "__init__" "Game.__init__" (defArgs (inClass (top 10) 0)) (defBody (inClass (top 10) 0)) (defScope (inClass (top 10) 0)) [] [] (He.ma K (He.ga K "Pairs") "__init__") fd := T.p10.f_Pairs___init__
theorem Txt.f_Few___init__ {K : PySem.W.Frag} {mg : Str → Option Value} (T : Txt K mg) : ∃ fd, FunD K "__init__" "Few.__init__" (defArgs (inClass (top 14) 0)) (defBody (inClass (top 14) 0)) (defScope (inClass (top 14) 0)) [] [] (He.ma K (He.ga K "Few") "__init__") fd := T.p10.f_Few___init__
theorem Txt.f_figures_of {K : PySem.W.Frag} {mg : Str → Option Value} (T : Txt K mg) : ∃ fd, FunD K "figures_of" "figures_of" (defArgs (top 25)) (defBody (top 25)) (defScope (top 25)) [] [] (He.ga K "figures_of") fd := T.p10.f_figures_of
theorem Txt.f_bare_game {K : PySem.W.Frag} {mg : Str → Option Value} (T : Txt K mg) : ∃ fd, FunD K "bare_game" "bare_game" (defArgs (top 26)) (defBody (top 26)) (defScope (top 26)) [] [] (He.ga K "bare_game") fd := T.p10.f_bare_game
theorem Txt.f_game_told {K : PySem.W.Frag} {mg : Str → Option Value} (T : Txt K mg) : ∃ fd, FunD K "game_told" "game_told" (defArgs (top 27)) (defBody (top 27)) (defScope (top 27)) [] [] (He.ga K "game_told") fd := T.p11.f_game_told
theorem Txt.f_turn_told {K : PySem.W.Frag} {mg : Str → Option Value} (T : Txt K mg) : ∃ fd, FunD K "turn_told" "turn_told" (defArgs (top 28)) (defBody (top 28)) (defScope (top 28)) [] [] (He.ga K "turn_told") fd := T.p11.f_turn_told
theorem Txt.f_line_answered {K : PySem.W.Frag} {mg : Str → Option Value} (T : Txt K mg) : ∃ fd, FunD K "line_answered" "line_answered" (defArgs (top 29)) (defBody (top 29)) (defScope (top 29)) [] [] (He.ga K "line_answered") fd := T.p11.f_line_answered
theorem Txt.f_answered {K : PySem.W.Frag} {mg : Str → Option Value} (T : Txt K mg) : ∃ fd, FunD K "answered" "answered" (defArgs (top 30)) (defBody (top 30)) (defScope (top 30)) [V.str "-"] [] (He.ga K "answered") fd := T.p11.f_answered
theorem Txt.f__law_figures {K : PySem.W.Frag} {mg : Str → Option Value} (T : Txt K mg) : ∃ fd, FunD K "_law_figures" "_law_figures" (defArgs (top 33)) (defBody (top 33)) (defScope (top 33)) [] [] (He.ga K "_law_figures") fd := T.p11.f__law_figures
theorem Txt.f__law_limits_good {K : PySem.W.Frag} {mg : Str → Option Value} (T : Txt K mg) : ∃ fd, FunD K "_law_limits_good" "_law_limits_good" (defArgs (top 34)) (defBody (top 34)) (defScope (top 34)) [] [] (He.ga K "_law_limits_good") fd := T.p11.f__law_limits_good
theorem Txt.f__law_bare {K : PySem.W.Frag} {mg : Str → Option Value} (T : Txt K mg) : ∃ fd, FunD K "_law_bare" "_law_bare" (defArgs (top 35)) (defBody (top 35)) (defScope (top 35)) [] [] (He.ga K "_law_bare") fd := T.p11.f__law_bare
theorem Txt.f__law_value {K : PySem.W.Frag} {mg : Str → Option Value} (T : Txt K mg) : ∃ fd, FunD K "_law_value" "_law_value" (defArgs (top 37)) (defBody (top 37)) (defScope (top 37)) [] [] (He.ga K "_law_value") fd := T.p11.f__law_value
theorem Txt.f__law_turn {K : PySem.W.Frag} {mg : Str → Option Value} (T : Txt K mg) : ∃ fd, FunD K "_law_turn" "_law_turn" (defArgs (top 38)) (defBody (top 38)) (defScope (top 38)) [] [] (He.ga K "_law_turn") fd := T.p11.f__law_turn
theorem Txt.f__law_words {K : PySem.W.Frag} {mg : Str → Option Value} (T : Txt K mg) : ∃ fd, FunD K "_law_words" "_law_words" (defArgs (top 39)) (defBody (top 39)) (defScope (top 39)) [] [] (He.ga K "_law_words") fd := T.p11.f__law_words
theorem Txt.f__law_game {K : PySem.W.Frag} {mg : Str → Option Value} (T : Txt K mg) : ∃ fd, FunD K "_law_game" "_law_game" (defArgs (top 36)) (defBody (top 36)) (defScope (top 36)) [] [] (He.ga K "_law_game") fd := T.p11.f__law_game
theorem Txt.f__law_answer {K : PySem.W.Frag} {mg : Str → Option Value} (T : Txt K mg) : ∃ fd, FunD K "_law_answer" "_law_answer" (defArgs (top 40)) (defBody (top 40)) (defScope (top 40)) [] [] (He.ga K "_law_answer") fd := T.p11.f__law_answer
theorem Txt.f__law_named {K : PySem.W.Frag} {mg : Str → Option Value} (T : Txt K mg) : ∃ fd, FunD K "_law_named" "_law_named" (defArgs (top 41)) (defBody (top 41)) (defScope (top 41)) [] [] (He.ga K "_law_named") fd := T.p11.f__law_named
theorem Txt.f__law_not_written {K : PySem.W.Frag} {mg : Str → Option Value} (T : Txt K mg) : ∃ fd, FunD K "_law_not_written" "_law_not_written" (defArgs (top 42)) (defBody (top 42)) (defScope (top 42)) [] [] (He.ga K "_law_not_written") fd := T.p11.f__law_not_written
theorem Txt.f__law_digits {K : PySem.W.Frag} {mg : Str → Option Value} (T : Txt K mg) : ∃ fd, FunD K "_law_digits" "_law_digits" (defArgs (top 43)) (defBody (top 43)) (defScope (top 43)) [] [] (He.ga K "_law_digits") fd := T.p11.f__law_digits
theorem Txt.f__law_built {K : PySem.W.Frag} {mg : Str → Option Value} (T : Txt K mg) : ∃ fd, FunD K "_law_built" "_law_built" (defArgs (top 44)) (defBody (top 44)) (defScope (top 44)) [] [] (He.ga K "_law_built") fd := T.p11.f__law_built
theorem Txt.f__law_changed {K : PySem.W.Frag} {mg : Str → Option Value} (T : Txt K mg) : ∃ fd, FunD K "_law_changed" "_law_changed" (defArgs (top 45)) (defBody (top 45)) (defScope (top 45)) [] [] (He.ga K "_law_changed") fd := T.p11.f__law_changed
theorem Txt.f__law_line {K : PySem.W.Frag} {mg : Str → Option Value} (T : Txt K mg) : ∃ fd, FunD K "_law_line" "_law_line" (defArgs (top 46)) (defBody (top 46)) (defScope (top 46)) [] [] (He.ga K "_law_line") fd := T.p11.f__law_line
theorem Txt.f_law {K : PySem.W.Frag} {mg : Str → Option Value} (T : Txt K mg) : ∃ fd, FunD K "law" "law" (defArgs (top 47)) (defBody (top 47)) (defScope (top 47)) [] [] (He.ga K "law") fd := T.p11.f_law
section
variable {P : Program} {w : World} {K : PySem.W.Frag} {mg : Str → Option Value} {base : Heap}
local macro_rules | `(tactic| walk_at "rd") => `(tactic| repeat (first
  | (refine ⟨_, rfl, ?_⟩)
  | (refine ⟨_, _, rfl, rfl, ?_⟩)
  | (refine ⟨rfl, ?_⟩)
  | (refine ⟨_, _, _, rfl, (by assumption : SqL _ _ _ _), ?_⟩)
  | (refine ⟨(by decide : (0 : Int) < _), ?_⟩)
  | (refine ⟨(by decide : (0 : Nat) < _), ?_⟩)
  | (refine ⟨(⟨by decide, by decide⟩ : CDiv _ _), ?_⟩)
  | (refine ⟨(⟨by decide, by decide⟩ : (0 : Nat) < _ ∧ _ < 1073741824), ?_⟩)
  | (refine ⟨(Or.inr (by decide) : _ < 2 ^ 64 ∨ _ < 2 ^ 64), ?_⟩)
  | (refine ⟨(Or.inl (by decide) : _ < 2 ^ 64 ∨ _ < 2 ^ 64), ?_⟩)
  | (refine ⟨(Or.inr ⟨by decide, by decide⟩ : CMul _ _), ?_⟩)
  | (refine ⟨(Or.inl ⟨by decide, by decide⟩ : CMul _ _), ?_⟩)))
/-- rd, with lists that stand in the context -/
local macro_rules | `(tactic| walk_at "rl") => `(tactic| repeat (first
  | (refine ⟨_, rfl, ?_⟩)
  | (refine ⟨⟨_, rfl⟩, ?_⟩)
  | (refine ⟨_, _, rfl, rfl, ?_⟩)
  | (refine ⟨rfl, ?_⟩)
  | (refine ⟨_, _, _, rfl, (by assumption : SqL _ _ _ _), ?_⟩)
  | (refine ⟨_, _, rfl, .inl (SqL.of (by assumption)), ?_⟩)
  | (refine ⟨.inl ⟨rfl, _, SqL.of (by assumption)⟩, ?_⟩)
  | (refine ⟨(by decide : (0 : Int) < _), ?_⟩)
  | (refine ⟨(by decide : (0 : Nat) < _), ?_⟩)
  | (refine ⟨(⟨by decide, by decide⟩ : CDiv _ _), ?_⟩)
  | (refine ⟨(⟨by decide, by decide⟩ : (0 : Nat) < _ ∧ _ < 1073741824), ?_⟩)
  | (refine ⟨(Or.inr (by decide) : _ < 2 ^ 64 ∨ _ < 2 ^ 64), ?_⟩)
  | (refine ⟨(Or.inl (by decide) : _ < 2 ^ 64 ∨ _ < 2 ^ 64), ?_⟩)
  | (refine ⟨(Or.inr ⟨by decide, by decide⟩ : CMul _ _), ?_⟩)
  | (refine ⟨(Or.inl ⟨by decide, by decide⟩ : CMul _ _), ?_⟩)))

/-! ### whole numbers, cells of the script -/
/-- is it a whole number -/
def sp_is_whole (K : PySem.W.Frag) : Sp := fun vs H Q _ => ∃ (x : V) (t : String) (b1 b2 : Bool), vs = [x] ∧ TyX K H x (.type t) ∧ kitB t "int" = some b1 ∧ kitB t "bool" = some b2 ∧ Q (.bl (b1 && !b2)) H
theorem whole_int {K : PySem.W.Frag} {i : Int} {H : Hp} {Q : VK} {E : XK} (h : Q (.bl true) H) : sp_is_whole K [.int i] H Q E :=
  ⟨_, "int", true, false, rfl, .base (.int i), by decide +kernel, by decide +kernel, h⟩

abbrev s_is_whole : Stmt := top 6
theorem sc_is_whole : FnScope ["number"] ["number"] (defScope s_is_whole) := ⟨rfl, rfl, rfl, by decide +kernel, rfl, by decide +kernel, by decide +kernel⟩
theorem ok_is_whole (T : Txt K mg) : Dn P w K mg base CX0 1 (He.ga K "is_whole") ["number"] (sp_is_whole K) := by
  refine dn_of (k := 0) T.f_is_whole sc_is_whole (fun _ _ _ _ _ _ us hl => match us, hl with | [_], _ => rfl) (fun cdv A outer s H vs Q E hr h => ?_)
  obtain ⟨x, t, b1, b2, rfl, ht, h1, h2, q⟩ := h
  refine ⟨_, PSs.nox (pss_one (ps_ret (pe_and (pe_callB (r := rIsi K) call_isi (by rfl) T.n_isinstance (by decide +kernel) (pa_cons (pv 0) (pa_cons (pe_bltn (v := .ty "int") rfl T.n_int (by decide +kernel) rfl) pa_nil))) (pe_one (pe_not (pe_callB (r := rIsi K) call_isi (by rfl) T.n_isinstance (by decide +kernel) (pa_cons (pv 0) (pa_cons (pe_bltn (v := .ty "bool") rfl T.n_bool (by decide +kernel) rfl) pa_nil)))))))), ?_⟩
  refine ⟨_, rfl, x, _, _, _, b1, rfl, .ty _, ht, kit_ty h1, b1, rfl, ?_⟩
  cases b1
  · exact iteF q
  · refine iteT ?_
    exact ⟨_, rfl, x, _, _, _, b2, rfl, .ty _, ht, kit_ty h2, b2, rfl, q⟩

/-! ### cells, also behind the script's end -/
theorem mil2_line {n : Nat} (h : n ≤ 2000000) : n < sizeLine := by rw [sizeLine_eq]; omega
def cell3 (ns : List Int) (k : Nat) : Int := if k < ns.length then ns.getD k 0 else if ns = [] then (k : Int) * 48271 else (ns.getD (k % ns.length) 0 + (k : Int)) * 48271 % 2147483647
def sp__law_cell_at (K : PySem.W.Frag) : Sp := fun vs H Q _ => ∃ (a : Addr) (ns : List Int) (k : Nat), vs = [.ref a, .int (k : Int)] ∧ SqL K H a (ns.map V.int) ∧ k < 1000000 ∧ ∀ H', Same H H' → Q (.int (cell3 ns k)) H'
abbrev s__law_cell_at : Stmt := top 32
theorem sc__law_cell_at : FnScope ["_law_script", "_law_k"] ["_law_script", "_law_k"] (defScope s__law_cell_at) := ⟨rfl, rfl, rfl, by decide +kernel, rfl, by decide +kernel, by decide +kernel⟩
theorem ok__law_cell_at (T : Txt K mg) : Dn P w K mg base CX0 1 (He.ga K "_law_cell_at") ["_law_script", "_law_k"] (sp__law_cell_at K) := by
  refine dn_of (k := 0) T.f__law_cell_at sc__law_cell_at (fun _ _ _ _ _ _ us hl => match us, hl with | [_, _], _ => rfl) (fun cdv A outer s H vs Q E hr h => ?_)
  obtain ⟨a, ns, k, rfl, hS, hk, q⟩ := h
  refine ⟨_, PSs.nox (pss_cons (ps_if (pt_cmpR op_ltn (pv 1) (pe_callB (r := rLenSeq K) cr_lenseq (by rfl) T.n_len PySem.boot_len (pa_cons (pv 0) pa_nil)) (nomark _)) (pss_one (ps_ret (pe_ix ix_list (pv 0) (pv 1) (fun _ _ => rfl)))) pss_nil)
      (pss_cons (ps_if (pt_cmpR (op_eqD hr.units) (pv 0) (pe_lst pa_nil) (nomark _)) (pss_one (ps_ret (pe_op op_muln (pv 1) (pe_nat 48271)))) pss_nil)
      (pss_one (ps_ret (pe_op op_mod (pe_op op_mul (pe_op op_add (pe_ix ix_list (pv 0) (pe_op op_modn (pv 1) (pe_callB (r := rLenSeq K) cr_lenseq (by rfl) T.n_len PySem.boot_len (pa_cons (pv 0) pa_nil))) (fun _ _ => rfl)) (pv 1)) pe_int) pe_int))))), ?_⟩
  walk_at "rl"
  refine ⟨a, _, rfl, .inl hS, ?_⟩
  rw [List.length_map]
  walk_at "rl"
  refine ifN (fun c => ?_) (fun c => ?_)
  · walk_at "rl"
    have e : cell3 ns k = ns.getD k 0 := by unfold cell3; rw [if_pos c]
    refine ⟨a, _, _, .int (cell3 ns k), rfl, rfl, hS, atI_nat ?_, q _ (Same.refl _)⟩
    rw [e]
    simp [c]
  walk_at "rl"
  refine ⟨by show 0 ≤ sizeLine; decide, fun D nD => ?_⟩
  have s1 := Same.upd nD (o := .lst [])
  have hD := upd_same (H := H) (a := D) (o := .lst [])
  generalize upd H D (.lst []) = H1 at *
  have hS1 := s1.seq hS
  refine ⟨_, _, .lst hS1 (dp_ints _), .lst (SqL.of (xs := ([] : List Int).map V.int) hD) (dp_ints []), PySem.W.ke_shaped_ints _, PySem.W.ke_shaped_ints [], ?_⟩
  rw [eqv_ints]
  walk_at "rl"
  refine ifN (fun d => ?_) (fun d => ?_)
  · walk_at "rl"
    have e : cell3 ns k = ((k * 48271 : Nat) : Int) := by unfold cell3; rw [if_neg c, if_pos d, Int.natCast_mul]; rfl
    have q2 := q _ s1
    rw [e] at q2
    exact q2
  walk_at "rl"
  refine ⟨a, _, rfl, .inl hS1, ?_⟩
  rw [List.length_map]
  have hl : 0 < ns.length := List.length_pos_iff.mpr d
  walk_at "rl"
  refine ⟨hl, ?_⟩
  have hm := Nat.mod_lt k hl
  refine ⟨a, _, _, .int (ns.getD (k % ns.length) 0), rfl, rfl, hS1, atI_nat ?_, ?_⟩
  · simp [hm]
  walk_at "rl"
  have e : cell3 ns k = (ns.getD (k % ns.length) 0 + (k : Int)) * 48271 % 2147483647 := by unfold cell3; rw [if_neg c, if_neg d]
  have q2 := q _ s1
  rw [e] at q2
  exact q2

/-! ### lists of lists -/
/-- rows that stand at R: m of them at as, each w numbers long, f i j in the i-th at j -/
def RowsOk (H : Hp) (R : Addr) (as : List Addr) (f : Nat → Nat → Nat) (m w : Nat) : Prop :=
  H R = some (.lst (as.map V.ref)) ∧ as.length = m ∧ R ∉ as ∧ ∀ i a, as[i]? = some a → H a = some (.lst ((List.range w).map fun j => V.int ((f i j : Nat) : Int)))
theorem RowsOk.keep {H H' : Hp} {R : Addr} {as : List Addr} {f : Nat → Nat → Nat} {m w : Nat} (h : RowsOk H R as f m w) (s : Same H H') : RowsOk H' R as f m w := ⟨s _ _ h.1, h.2.1, h.2.2.1, fun i a e => s _ _ (h.2.2.2 i a e)⟩
theorem range_snoc {f : Nat → V} (n : Nat) : (List.range (n + 1)).map f = (List.range n).map f ++ [f n] := by
  rw [List.range_succ, List.map_append]
  rfl
theorem small_line {n : Nat} (h : n ≤ 1000) : n < sizeLine := small1000 h
theorem range_at {f : Nat → V} {n j : Nat} (h : j < n) : ((List.range n).map f)[j]? = some (f j) := by
  simp [h]
/-- one row more -/
theorem RowsOk.more {H : Hp} {R D : Addr} {as : List Addr} {f : Nat → Nat → Nat} {m w : Nat} (h : RowsOk H R as f m w) (nd : R ≠ D) (hd : H D = some (.lst ((List.range w).map fun j => V.int ((f m j : Nat) : Int)))) :
    RowsOk (upd H R (.lst (as.map V.ref ++ [V.ref D]))) R (as ++ [D]) f (m + 1) w := by
  refine ⟨by rw [upd_same, List.map_append]; rfl, by rw [List.length_append, h.2.1]; rfl, ?_, fun i a e => ?_⟩
  · rw [List.mem_append, List.mem_singleton]
    rintro (z | z)
    · exact h.2.2.1 z
    · exact nd z
  · rw [List.getElem?_append] at e
    split at e
    · have ne : a ≠ R := fun z => h.2.2.1 (z ▸ List.mem_of_getElem? e)
      rw [upd_ne ne]
      exact h.2.2.2 i a e
    · rename_i c
      have e2 : i - as.length = 0 := by
        have := (List.getElem?_eq_some_iff.mp e).1
        simp only [List.length_singleton] at this
        omega
      rw [e2] at e
      obtain rfl : D = a := Option.some.inj e
      have e3 : i = m := by rw [← h.2.1]; omega
      rw [e3, upd_ne nd.symm]
      exact hd
theorem RowsOk.ix {K : PySem.W.Frag} {H : Hp} {R : Addr} {as : List Addr} {f : Nat → Nat → Nat} {m w i j : Nat} (h : RowsOk H R as f m w) (hi : i < m) (hj : j < w) :
    ∃ a, SqL K H R (as.map V.ref) ∧ atI (as.map V.ref) (i : Int) = some (.ref a) ∧ SqL K H a ((List.range w).map fun j => V.int ((f i j : Nat) : Int)) ∧ atI ((List.range w).map fun j => V.int ((f i j : Nat) : Int)) (j : Int) = some (.int ((f i j : Nat) : Int)) := by
  obtain ⟨a, ea⟩ : ∃ a, as[i]? = some a := ⟨as[i]'(by rw [h.2.1]; exact hi), List.getElem?_eq_getElem _⟩
  exact ⟨a, SqL.of h.1, atI_nat (by rw [List.getElem?_map, ea]; rfl), SqL.of (h.2.2.2 i a ea), atI_nat (range_at hj)⟩

/-- a dict of ints as a set -/
def DSet (H : Hp) (d : Addr) (P : Int → Prop) (k : Nat) : Prop := ∃ kvs : List (Key × V), H d = some (.dK kvs) ∧ kvs.length ≤ k ∧ ∀ n : Int, (valV kvs (Sum.inl n : Key)).isSome = true ↔ P n
theorem putK_le {kvs : List (Key × V)} (k : Key) (v : V) : (putK kvs k v).length ≤ kvs.length + 1 := by
  unfold putK
  split
  · rw [List.length_map]
    omega
  · rw [List.length_append]
    exact Nat.le_refl _
theorem DSet.put {H : Hp} {d : Addr} {P : Int → Prop} {k : Nat} {kvs : List (Key × V)} (hl : kvs.length ≤ k) (hp : ∀ n : Int, (valV kvs (Sum.inl n : Key)).isSome = true ↔ P n) (n : Int) (v : V) :
    DSet (upd H d (.dK (putK kvs (Sum.inl n : Key) v))) d (fun m => m = n ∨ P m) (k + 1) := by
  refine ⟨_, upd_same, Nat.le_trans (putK_le _ _) (by omega), fun m => ?_⟩
  rw [valV_put]
  split
  · rename_i c
    exact ⟨fun _ => .inl (Sum.inl.inj c), fun _ => rfl⟩
  · rename_i c
    rw [hp]
    exact ⟨.inr, fun h => h.resolve_left fun e => c (congrArg Sum.inl e)⟩

/-! ### games: objects -/
/-- the class of a kind -/
def kC (K : PySem.W.Frag) : Gm.Kind → Addr
  | .still => He.ga K "Game"
  | .heap => He.ga K "Heap"
  | .taking _ => He.ga K "Taking"
  | .skittles _ => He.ga K "Skittles"
  | .parting => He.ga K "Parting"
  | .runs => He.ga K "Runs"
  | .pairs => He.ga K "Pairs"
  | .few _ => He.ga K "Few"
  | .told _ => He.ga K "Told"
/-- the fields, l the list of what is known, x the list of limits or rows -/
def kfs (l x : Addr) : Gm.Kind → List (Str × V)
  | .taking _ => putF "limits" (.ref x) (putF "known" (.ref l) [])
  | .skittles _ => putF "limits" (.ref x) (putF "known" (.ref l) [])
  | .few m => putF "most" (.int (m : Int)) (putF "known" (.ref l) [])
  | .told _ => putF "rows" (.ref x) (putF "known" (.ref l) [])
  | _ => putF "known" (.ref l) []
/-- rows of leads that stand at x -/
def RowsAt (H : Hp) (x : Addr) (rows : List (List (List Nat))) : Prop := ∃ (ps : List Addr) (ass : List (List Addr)), L3 H x ps ass rows
/-- what stands unchanged beside the object -/
def kst (H : Hp) (x : Addr) : Gm.Kind → Prop
  | .taking ls => H x = some (.lst (NL ls))
  | .skittles ls => H x = some (.lst (NL ls))
  | .told rows => RowsAt H x rows
  | _ => True
structure GameAt (K : PySem.W.Frag) (k : Gm.Kind) (H : Hp) (g l x : Addr) (n : Nat) : Prop where
  ob : ∃ dx, H g = some (.ins (kC K k) dx (kfs l x k))
  kn : H l = some (.lst (NL (Gm.nums k.L n)))
  st : ∀ H', (∀ b o, H b = some o → b ≠ l → H' b = some o) → kst H' x k
/-- all but l stands -/
def But (l : Addr) (H H' : Hp) : Prop := ∀ b o, H b = some o → b ≠ l → H' b = some o
theorem But.refl (l : Addr) (H : Hp) : But l H H := fun _ _ e _ => e
theorem But.trans {l : Addr} {H H1 H2 : Hp} (a : But l H H1) (b : But l H1 H2) : But l H H2 := fun c o e h => b c o (a c o e h) h
theorem Same.but {l : Addr} {H H' : Hp} (s : Same H H') : But l H H' := fun b o e _ => s b o e
theorem GameAt.same {K : PySem.W.Frag} {k : Gm.Kind} {H H' : Hp} {g l x : Addr} {n : Nat} (h : GameAt K k H g l x n) (s : Same H H') : GameAt K k H' g l x n := by
  obtain ⟨dx, e⟩ := h.ob
  exact ⟨⟨dx, s _ _ e⟩, s _ _ h.kn, fun H2 b => h.st H2 fun c o e ne => b c o (s c o e) ne⟩
theorem known_ne : ¬ (("known" : Str) = "limits") ∧ ¬ (("known" : Str) = "most") ∧ ¬ (("known" : Str) = "rows") := by decide +kernel
theorem kfs_known (l x : Addr) (k : Gm.Kind) : (kfs l x k).lookup ("known" : Str) = some (.ref l) := by
  obtain ⟨h1, h2, h3⟩ := known_ne
  cases k <;> unfold kfs <;> simp only [lookup_putF, if_neg h1, if_neg h2, if_neg h3, if_pos]
theorem kfs_no (l x : Addr) (k : Gm.Kind) {m : Str} (h1 : ¬ m = "known") (h2 : ¬ m = "limits") (h3 : ¬ m = "most") (h4 : ¬ m = "rows") : (kfs l x k).lookup m = none := by
  cases k <;> unfold kfs <;> simp only [lookup_putF, if_neg h1, if_neg h2, if_neg h3, if_neg h4] <;> rfl
/-- what the classes of the kinds that are made must have -/
structure Games (K : PySem.W.Frag) (ok : Gm.Kind → Prop) : Prop where
  cls : ∀ k, ok k → Cls K (kC K k)
  known : ∀ k, ok k → NoAttr K (kC K k) "known"
  limits : ∀ k, ok k → NoAttr K (kC K k) "limits"
  most : ∀ k, ok k → NoAttr K (kC K k) "most"
  rows : ∀ k, ok k → NoAttr K (kC K k) "rows"
def sp_least_lacking (K : PySem.W.Frag) : Sp := fun vs H Q _ => ∃ (p : Addr) (ns : List Nat), vs = [.ref p] ∧ SqL K H p (NL ns) ∧ ns.length ≤ 1000000 ∧ ∀ H', Same H H' → Q (.int ((Gm.mex ns : Nat) : Int)) H'
theorem NL_at {ns : List Nat} {i : Nat} {v : V} (h : (NL ns)[i]? = some v) : ∃ n : Nat, ns[i]? = some n ∧ v = .int (n : Int) := by
  unfold NL at h
  rw [List.getElem?_map] at h
  cases e : ns[i]? with
  | none =>
    rw [e] at h
    cases h
  | some n =>
    rw [e] at h
    exact ⟨n, rfl, (Option.some.inj h).symm⟩
theorem NL_num {ns : List Nat} {p n : Nat} (h : ns[p]? = some n) : atI (NL ns) (p : Int) = some (.int (n : Int)) := by
  refine atI_nat ?_
  unfold NL
  rw [List.getElem?_map, h]
  rfl
theorem mil_line {n : Nat} (h : n ≤ 2000000) : n < sizeLine := by rw [sizeLine_eq]; omega
abbrev s_least_lacking : Stmt := top 7
theorem sc_least_lacking : FnScope ["numbers", "there", "number", "found"] ["numbers"] (defScope s_least_lacking) := ⟨rfl, rfl, rfl, by decide +kernel, rfl, by decide +kernel, by decide +kernel⟩
theorem ok_least_lacking (T : Txt K mg) : Dn P w K mg base CX0 1 (He.ga K "least_lacking") ["numbers"] (sp_least_lacking K) := by
  refine dn_of (k := 0) T.f_least_lacking sc_least_lacking (fun _ _ _ _ _ _ us hl => match us, hl with | [_], _ => rfl) (fun cdv A outer s H vs Q E hr h => ?_)
  obtain ⟨p, ns, rfl, hS, hl, q⟩ := h
  refine ⟨_, PSs.nox (pss_cons (ps_set (i := 1) sc_least_lacking.nd rfl (by first | exact Or.inl rfl | exact Or.inr rfl) pe_dnewK)
      (pss_cons (ps_for PassesOwn.never rfl (pi_list (pv 0)) (pg_name (i := 2) sc_least_lacking.nd rfl (by first | exact Or.inl rfl | exact Or.inr rfl))
      (pss_one (ps_dput (hu_of hr) (pv 1) (pv 2) pe_bl rfl)))
      (pss_cons (ps_set (i := 3) sc_least_lacking.nd rfl (by first | exact Or.inl rfl | exact Or.inr rfl) (pe_nat 0))
      (pss_cons (ps_while PassesOwn.never (pt_cmp (pc_din (hu_of hr) (pv 3) (pv 1)))
      (pss_one (ps_aug (i := 3) sc_least_lacking.nd rfl (by first | exact Or.inl rfl | exact Or.inr rfl) (pe_nat 1) iop_addN)))
      (pss_one (ps_ret (pv 3))))))), ?_⟩
  intro d nd
  walk_at "rd"
  refine ⟨⟨_, (Same.upd nd).seq hS⟩, for_list (K := K) (a := p) (xs := NL ns) (fun i σ H' => ∃ v, σ = [some (.ref p), some (.ref d), v, none] ∧ Same H H' ∧ DSet H' d (fun z => ∃ m ∈ ns.take i, z = ((m : Nat) : Int)) i) ⟨none, rfl, Same.upd nd, [], upd_same, Nat.le_refl _, fun z => ⟨fun h => (by cases h), fun ⟨_, h, _⟩ => (by cases h)⟩⟩ (fun i σ H' _ ⟨_, _, s, _⟩ => s.seq hS) ?_ ?_⟩
  · rintro i v σ H' hi ⟨v2, rfl, sm, kvs, h1, h2, h3⟩
    obtain ⟨m, hm, rfl⟩ := NL_at hi
    have hil : i < ns.length := (List.getElem?_eq_some_iff.mp hm).1
    walk_at "rd"
    refine ⟨d, _, rfl, DPut.k (k := Sum.inl _) h1 (mil_line (by omega)), ?_⟩
    refine ⟨_, rfl, Same.put sm nd, ?_⟩
    obtain ⟨kvs', g1, g2, g3⟩ := DSet.put (H := H') (d := d) h2 h3 ((m : Nat) : Int) (.bl true)
    refine ⟨kvs', g1, g2, fun z => (g3 z).trans ⟨?_, ?_⟩⟩
    · rintro (rfl | ⟨m', hm', rfl⟩)
      · exact ⟨m, by rw [List.take_succ, hm]; simp, rfl⟩
      · exact ⟨m', by rw [List.take_succ]; exact List.mem_append_left _ hm', rfl⟩
    · rintro ⟨m', hm', rfl⟩
      rw [List.take_succ, hm] at hm'
      rcases List.mem_append.mp hm' with h | h
      · exact .inr ⟨m', h, rfl⟩
      · simp only [Option.toList_some, List.mem_singleton] at h
        rw [h]
        exact .inl rfl
  · rintro σ H' ⟨v2, rfl, sm, kvs, h1, h2, h3⟩
    rw [NL_length, List.take_length] at h3
    walk_at "rd"
    refine while_m (fun k σ H2 => ∃ f, H2 = H' ∧ k = ns.length + 1 - f ∧ (∀ j, j < f → j ∈ ns) ∧ σ = [some (.ref p), some (.ref d), v2, some (.int (f : Int))]) _ ⟨0, rfl, rfl, fun j h => absurd h (Nat.not_lt_zero j), rfl⟩ ?_
    rintro k σ H2 ⟨f, rfl, rfl, hf, rfl⟩
    have hle := Gm.all_le f ns hf
    walk_at "rd"
    refine ⟨d, _, rfl, DGet.k (k := Sum.inl _) h1, ?_⟩
    walk_at "rd"
    refine ifB (fun c => ?_) (fun c => ?_)
    · obtain ⟨m, hm, em⟩ := (h3 _).mp c
      refine ⟨_, fun _ _ h => h, ?_⟩
      walk_at "rd"
      refine ⟨ns.length + 1 - (f + 1), by omega, f + 1, rfl, rfl, fun j hj => ?_, rfl⟩
      by_cases e : j = f
      · have : m = f := by omega
        rw [e, ← this]
        exact hm
      · exact hf j (by omega)
    · have e : Gm.mex ns = f := Gm.mex_eq ⟨fun hm => by
        have := (h3 (f : Int)).mpr ⟨f, hm, rfl⟩
        rw [c] at this
        exact absurd this Bool.false_ne_true, hf⟩
      have q2 := q H2 sm
      rw [e] at q2
      exact ⟨_, rfl, q2⟩
def sp_together (K : PySem.W.Frag) (k : Gm.Kind) : Sp := fun vs H Q _ => ∃ (g l x : Addr) (n : Nat) (p : Addr) (lead : List Nat), vs = [.ref g, .ref p] ∧ GameAt K k H g l x n ∧ SqL K H p (NL lead) ∧ (∀ q ∈ lead, q < n) ∧ Q (.int ((Gm.xs (Gm.nums k.L n) lead : Nat) : Int)) H
theorem xs_step {ns lead : List Nat} {i q : Nat} (h : lead[i]? = some q) : Gm.xs ns (lead.take (i + 1)) = Gm.xs ns (lead.take i) ^^^ ns.getD q 0 := by
  unfold Gm.xs
  rw [List.take_succ, h, List.foldl_append]
  rfl
abbrev s_Game_together : Stmt := inClass (top 10) 3
theorem sc_Game_together : FnScope ["self", "places", "found", "place"] ["self", "places"] (defScope s_Game_together) := ⟨rfl, rfl, rfl, by decide +kernel, rfl, by decide +kernel, by decide +kernel⟩
theorem ok_Game_together (T : Txt K mg) (ok : Gm.Kind → Prop) (G : Games K ok) (k : Gm.Kind) (hk : ok k) (f : Addr) (F : ∃ fd, FunD K "together" "Game.together" (defArgs (inClass (top 10) 3)) (defBody (inClass (top 10) 3)) (defScope (inClass (top 10) 3)) [] [] f fd) : Dn P w K mg base CX0 1 f ["self", "places"] (sp_together K k) := by
  refine dn_of (k := 0) F sc_Game_together (fun _ _ _ _ _ _ us hl => match us, hl with | [_, _], _ => rfl) (fun cdv A outer s H vs Q E hr h => ?_)
  obtain ⟨g, l, x, n, p, lead, rfl, ga, hS, hlt, q⟩ := h
  obtain ⟨dx, hg⟩ := ga.ob
  refine ⟨_, PSs.nox (pss_cons (ps_set (i := 2) sc_Game_together.nd rfl (by first | exact Or.inl rfl | exact Or.inr rfl) (pe_nat 0))
      (pss_cons (ps_for PassesOwn.never rfl (pi_list (pv 1)) (pg_name (i := 3) sc_Game_together.nd rfl (by first | exact Or.inl rfl | exact Or.inr rfl))
      (pss_one (ps_set (i := 2) sc_Game_together.nd rfl (by first | exact Or.inl rfl | exact Or.inr rfl) (pe_op op_xorn (pv 2) (pe_ix ix_list (pe_fld (pv 0) rfl) (pv 3) (fun _ _ => rfl))))))
      (pss_one (ps_ret (pv 2))))), ?_⟩
  walk_at "rd"
  refine ⟨⟨_, hS⟩, for_list (K := K) (a := p) (xs := NL lead) (fun i σ H' => ∃ v, σ = [some (.ref g), some (.ref p), some (.int ((Gm.xs (Gm.nums k.L n) (lead.take i) : Nat) : Int)), v] ∧ H' = H) ⟨none, rfl, rfl⟩ (fun i σ H' _ ⟨_, _, e⟩ => by rw [e]; exact hS) ?_ ?_⟩
  · rintro i v σ H' hi ⟨v2, rfl, rfl⟩
    obtain ⟨m, hm, rfl⟩ := NL_at hi
    have hmn := hlt m (List.mem_of_getElem? hm)
    walk_at "rd"
    refine ⟨g, _, _, _, _, rfl, hg, G.cls k hk, G.known k hk, kfs_known _ _ _, ?_⟩
    walk_at "rd"
    refine ⟨l, _, _, _, rfl, rfl, SqL.of ga.kn, atI_nat (j := m) (v := .int ((Gm.num k.L m : Nat) : Int)) ?_, ?_⟩
    · unfold NL
      rw [List.getElem?_map, Gm.nums_at k.L hmn]
      rfl
    walk_at "rd"
    refine ⟨some (.int (m : Int)), ?_, rfl⟩
    rw [xs_step hm, Gm.nums_getD k.L hmn]
    rfl
  · rintro σ H' ⟨v2, rfl, rfl⟩
    rw [NL_length, List.take_length]
    exact ⟨_, rfl, q⟩
/-- leads: a new list of new lists -/
def sp_leads (K : PySem.W.Frag) (k : Gm.Kind) : Sp := fun vs H Q E => ∃ (g l x : Addr) (n p : Nat), vs = [.ref g, .int (p : Int)] ∧ GameAt K k H g l x n ∧ p ≤ 100 ∧
  (p < k.top → ∀ (D : Addr) (as : List Addr) H', Same H H' → H D = none → (∀ a ∈ as, H a = none) → LLs H' D as (k.L p) → Q (.ref D) H') ∧ (¬ p < k.top → E (.ref (He.ga K "NotAPlace")) none H)
/-- what is no place of a game with so many -/
def BadPlace (K : PySem.W.Frag) (H : Hp) (top : Nat) (v : V) : Prop :=
  (∃ (t : String) (b1 b2 : Bool), TyX K H v (.type t) ∧ kitB t "int" = some b1 ∧ kitB t "bool" = some b2 ∧ (b1 && !b2) = false) ∨ ∃ i : Int, v = .int i ∧ (i < 0 ∨ 100 < i ∨ (top : Int) ≤ i)
/-- what holds of the kinds that are made -/
structure Kinds (ok : Gm.Kind → Prop) : Prop where
  good : ∀ k, ok k → k.Ok
  top : ∀ k : Gm.Kind, ok k → k.top ≤ 101
  few : ∀ k : Gm.Kind, ok k → ∀ p, p < k.top → (k.L p).length ≤ 1000000
def sp_number (K : PySem.W.Frag) (k : Gm.Kind) : Sp := fun vs H Q E => ∃ (g l x : Addr) (n : Nat) (v : V), vs = [.ref g, v] ∧ GameAt K k H g l x n ∧ n ≤ k.top ∧
  ((∃ p : Nat, v = .int (p : Int) ∧ p < k.top ∧ ∀ n' H', But l H H' → GameAt K k H' g l x n' → n ≤ n' → p < n' → n' ≤ k.top → Q (.int ((Gm.num k.L p : Nat) : Int)) H') ∨
   (BadPlace K H k.top v ∧ ∀ n' H', But l H H' → GameAt K k H' g l x n' → n ≤ n' → n' ≤ k.top → E (.ref (He.ga K "NotAPlace")) none H'))
abbrev s_Game_number : Stmt := inClass (top 10) 4
theorem sc_Game_number : FnScope ["self", "place", "lead"] ["self", "place"] (defScope s_Game_number) := ⟨rfl, rfl, rfl, by decide +kernel, rfl, by decide +kernel, by decide +kernel⟩
theorem ok_Game_number (T : Txt K mg) (ok : Gm.Kind → Prop) (G : Games K ok) (KK : Kinds ok) (DL : Disp P w K mg base (L2.CX P w) 10 "leads" (kC K) ok ["self", "place"] (sp_leads K)) (DT : Disp P w K mg base CX0 10 "together" (kC K) ok ["self", "places"] (sp_together K)) (k : Gm.Kind) (hk : ok k) (d_is_whole : Dn P w K mg base CX0 1 (He.ga K "is_whole") ["number"] (sp_is_whole K)) (d_least_lacking : Dn P w K mg base CX0 1 (He.ga K "least_lacking") ["numbers"] (sp_least_lacking K)) (f : Addr) (F : ∃ fd, FunD K "number" "Game.number" (defArgs (inClass (top 10) 4)) (defBody (inClass (top 10) 4)) (defScope (inClass (top 10) 4)) [] [] f fd) : Dn P w K mg base (L2.CX P w) 20 f ["self", "place"] (sp_number K k) := by
  refine dn_of (k := 19) F sc_Game_number (fun _ _ _ _ _ _ us hl => match us, hl with | [_, _], _ => rfl) (fun cdv A outer s H vs Q E hr h => ?_)
  obtain ⟨g, l, x, n, v, rfl, ga, hn, hv⟩ := h
  have hv' : (∃ (t : String) (b1 b2 : Bool), TyX K H v (.type t) ∧ kitB t "int" = some b1 ∧ kitB t "bool" = some b2 ∧ (b1 && !b2) = false ∧ E (.ref (He.ga K "NotAPlace")) none H) ∨ (∃ i : Int, v = .int i ∧ (i < 0 ∨ 100 < i) ∧ E (.ref (He.ga K "NotAPlace")) none H) ∨
      ∃ p : Nat, v = .int (p : Int) ∧ p ≤ 100 ∧ (p < k.top → ∀ n' H', But l H H' → GameAt K k H' g l x n' → n ≤ n' → p < n' → n' ≤ k.top → Q (.int ((Gm.num k.L p : Nat) : Int)) H') ∧ (¬ p < k.top → ∀ n' H', But l H H' → GameAt K k H' g l x n' → n ≤ n' → n' ≤ k.top → E (.ref (He.ga K "NotAPlace")) none H') := by
    rcases hv with ⟨p, rfl, hp, q⟩ | ⟨⟨t, b1, b2, h1, h2, h3, h4⟩ | ⟨i, rfl, hi⟩, q⟩
    · have := KK.top k hk
      exact .inr (.inr ⟨p, rfl, by omega, fun _ => q, fun c => absurd hp c⟩)
    · exact .inl ⟨t, b1, b2, h1, h2, h3, h4, q n H (But.refl _ _) ga (Nat.le_refl _) hn⟩
    · by_cases c : i < 0 ∨ 100 < i
      · exact .inr (.inl ⟨i, rfl, c, q n H (But.refl _ _) ga (Nat.le_refl _) hn⟩)
      · obtain ⟨p, rfl⟩ := Int.eq_ofNat_of_zero_le (show 0 ≤ i by omega)
        exact .inr (.inr ⟨p, rfl, by omega, fun z => by omega, fun _ => q⟩)
  refine ⟨_, (pss_cons (ps_if (PW.pt (pw_or (pt_not (pt_val (pe_cl d_is_whole (hr.mono (by omega)) T.g_is_whole pass0 (pa_cons (pv 1) pa_nil)))) (pw_or (pt_cmpR op_lt (pv 1) pe_int (nomark _)) (pw_or1 (pt_cmpR op_gt (pv 1) (pe_gint T.c_MOST) (nomark _)))))) (pss_one (ps_raise rfl (takes_of rfl rfl rfl rfl) (pmk_own PySem.F.excBase_ValueError T.x_NotAPlace.1 T.g_NotAPlace T.x_NotAPlace.2.1 (raises_own T.x_NotAPlace.2.2.1 T.x_NotAPlace.2.2.2) (by exact rfl)))) pss_nil)
      (pss_cons (ps_while (passes_of rfl) (pt_cmpR op_le (pe_callB (r := rLenSeq K) cr_lenseq (by rfl) T.n_len PySem.boot_len (pa_cons (pe_fld (pv 0) rfl) pa_nil)) (pv 1) (nomark _))
      (pss_one (ps_expr (pe_bm PySem.F.plainAttrs_list PySem.F.slot_list_append PySem.F.type_list_append mt_append (pe_fld (pv 0) rfl) (pa_cons (pe_cl d_least_lacking (hr.mono (by omega)) T.g_least_lacking pass0 (pa_cons (pe_lc (own := [("lead", 2)]) (g := gName 2) (by rfl) sc_Game_number.nd (pi_list (pe_mf (DL) (hr.mono (by omega)) (passes_call (takes_of rfl rfl rfl rfl) (fun _ _ _ _ h => h)) (pv 0) (pa_cons (pe_callB (r := rLenSeq K) cr_lenseq (by rfl) T.n_len PySem.boot_len (pa_cons (pe_fld (pv 0) rfl) pa_nil)) pa_nil))) (blkOk_by (own := [("lead", 2)]) (N := ["self", "place", "lead"]) (sc := defScope (s_Game_number)) (by decide +kernel)) (fun _ _ _ _ _ => pg_name (i := 2) sc_Game_number.nd rfl (by first | exact Or.inl rfl | exact Or.inr rfl)) (fun _ _ _ _ _ => pts_nil) (fun _ _ _ _ _ => (pe_mf (DT) (hr.mono (by omega)) pass0 (pv 0) (pa_cons (pv 2) pa_nil)))) pa_nil)) pa_nil)))))
      (pss_one (ps_ret (pe_ix ix_list (pe_fld (pv 0) rfl) (pv 1) (fun _ _ => rfl)))))), ?_⟩
  rcases hv' with ⟨t, b1, b2, h1, h2, h3, h4, q⟩ | ⟨i, rfl, hi, q⟩ | ⟨p, rfl, hp, qv, qb⟩
  · walk_at "rd"
    refine ⟨v, t, b1, b2, rfl, h1, h2, h3, ?_⟩
    rw [h4]
    walk_at "rd"
    exact q
  · walk_at "rd"
    refine whole_int ?_
    walk_at "rd"
    refine ifN (fun _ => q) (fun c => ?_)
    walk_at "rd"
    refine ifN (fun _ => q) (fun c2 => ?_)
    exact absurd hi (by omega)
  · walk_at "rd"
    refine whole_int ?_
    walk_at "rd"
    refine ifN (fun c => absurd c (by omega)) (fun _ => ?_)
    refine while_m (fun m σ H' => ∃ n' v2, σ = [some (.ref g), some (.int (p : Int)), v2] ∧ m = p + 1 - n' ∧ But l H H' ∧ GameAt K k H' g l x n' ∧ n ≤ n' ∧ n' ≤ k.top) _ ⟨n, none, rfl, rfl, But.refl _ _, ga, Nat.le_refl _, hn⟩ ?_
    rintro m σ H1 ⟨n', v2, rfl, rfl, bt, ga1, hnn, hnt⟩
    obtain ⟨dx1, hg1⟩ := ga1.ob
    walk_at "rd"
    refine ⟨g, _, _, _, _, rfl, hg1, G.cls k hk, G.known k hk, kfs_known _ _ _, ?_⟩
    walk_at "rd"
    refine ⟨l, _, rfl, .inl (SqL.of ga1.kn), ?_⟩
    walk_at "rd"
    rw [NL_length, Gm.nums_length]
    refine ifN (fun c => ?_) (fun c => ?_)
    · refine ⟨_, fun _ _ h => h, ?_⟩
      walk_at "rd"
      refine ⟨g, _, _, _, _, rfl, hg1, G.cls k hk, G.known k hk, kfs_known _ _ _, ?_⟩
      walk_at "rd"
      refine ⟨.inl ⟨rfl, _, SqL.of ga1.kn⟩, ?_⟩
      walk_at "rd"
      refine ⟨k, g, _, _, hk, rfl, hg1, kfs_no _ _ _ (by decide +kernel) (by decide +kernel) (by decide +kernel) (by decide +kernel), ?_⟩
      walk_at "rd"
      refine ⟨g, _, _, _, _, rfl, hg1, G.cls k hk, G.known k hk, kfs_known _ _ _, ?_⟩
      walk_at "rd"
      refine ⟨l, _, rfl, .inl (SqL.of ga1.kn), ?_⟩
      walk_at "rd"
      refine ⟨g, l, x, n', n', by rw [NL_length, Gm.nums_length], ga1, by omega, fun hn' D as H2 s2 nD nas lls => ?_, fun c => qb (by omega) n' H1 bt ga1 hnn hnt⟩
      walk_at "rd"
      refine ⟨⟨_, SqL.of lls.top⟩, fun E' nE => ?_⟩
      have ga2 := ga1.same s2
      refine lc_list (K := K) (a := D) (xs := as.map V.ref) (fun i H3 => H3 E' = some (.lst (NL (((k.L n').take i).map (Gm.xs (Gm.nums k.L n'))))) ∧ Same H2 H3) ⟨upd_same, Same.upd nE⟩ (fun i H3 _ h => SqL.of (h.2 _ _ lls.top)) ?_ ?_
      · rintro i v H3 hi ⟨hE, s3⟩
        obtain ⟨a, ea, rfl⟩ : ∃ a, as[i]? = some a ∧ v = V.ref a := by
          rw [List.getElem?_map] at hi
          cases e : as[i]? with
          | none =>
            rw [e] at hi
            cases hi
          | some a =>
            rw [e] at hi
            exact ⟨a, rfl, (Option.some.inj hi).symm⟩
        have hil : i < (k.L n').length := by rw [← lls.len]; exact (List.getElem?_eq_some_iff.mp ea).1
        obtain ⟨lead, el⟩ : ∃ lead, (k.L n')[i]? = some lead := ⟨_, List.getElem?_eq_getElem hil⟩
        have ga3 := ga2.same s3
        obtain ⟨dx3, hg3⟩ := ga3.ob
        walk_at "rd"
        refine ⟨k, g, _, _, hk, rfl, hg3, kfs_no _ _ _ (by decide +kernel) (by decide +kernel) (by decide +kernel) (by decide +kernel), ?_⟩
        walk_at "rd"
        refine ⟨g, l, x, n', a, lead, rfl, ga3, SqL.of (s3 _ _ (lls.row i a lead ea el)), fun q hq => Gm.Kind.lesser (KK.good k hk) n' lead (List.mem_of_getElem? el) q hq, ?_⟩
        refine ⟨_, hE, mil_line (by have := KK.few k hk n' hn'; rw [NL_length, List.length_map, List.length_take]; omega), ?_, Same.put s3 nE⟩
        rw [upd_same, List.take_succ, el, List.map_append]
        unfold NL
        rw [List.map_append]
        rfl
      · rintro H3 ⟨hE, s3⟩
        rw [List.length_map, lls.len, List.take_length] at hE
        walk_at "rd"
        refine ⟨_, _, rfl, SqL.of hE, by rw [List.length_map]; exact KK.few k hk n' hn', fun H4 s4 => ?_⟩
        have ga4 := (ga2.same s3).same s4
        have tp := KK.top k hk
        walk_at "rd"
        refine ⟨l, _, _, rfl, rfl, ga4.kn, mil_line (by rw [NL_length, Gm.nums_length]; omega), ?_⟩
        have b4 : But l H (upd H4 l (.lst (NL (Gm.nums k.L n') ++ [V.int ((Gm.num k.L n' : Nat) : Int)]))) := fun b o e ne => by
          rw [upd_ne ne]
          exact s4 _ _ (s3 _ _ (s2 _ _ (bt b o e ne)))
        have lg : l ≠ g := fun e => by
          have h1 := ga4.kn
          obtain ⟨dx4, hg4⟩ := ga4.ob
          rw [e, hg4] at h1
          cases h1
        refine ⟨p + 1 - (n' + 1), by omega, n' + 1, v2, rfl, rfl, b4, ⟨?_, ?_, ?_⟩, by omega, by omega⟩
        · obtain ⟨dx4, hg4⟩ := ga4.ob
          exact ⟨dx4, by rw [upd_ne lg.symm]; exact hg4⟩
        · rw [upd_same, Gm.nums_succ]
          unfold NL
          rw [List.map_append]
          rfl
        · exact fun H' b => ga4.st H' fun c o e ne => b c o (by rw [upd_ne ne]; exact e) ne
    · walk_at "rd"
      refine ⟨g, _, _, _, _, rfl, hg1, G.cls k hk, G.known k hk, kfs_known _ _ _, ?_⟩
      walk_at "rd"
      have hpn : p < n' := by omega
      refine ⟨l, _, _, _, rfl, rfl, SqL.of ga1.kn, atI_nat (j := p) (v := .int ((Gm.num k.L p : Nat) : Int)) ?_, ?_⟩
      · unfold NL
        rw [List.getElem?_map, Gm.nums_at k.L hpn]
        rfl
      exact qv (by omega) n' H1 bt ga1 hnn hpn hnt

/-! ### leads, class by class -/
theorem range_snocN {α : Type} (f : Nat → α) (n : Nat) : (List.range (n + 1)).map f = (List.range n).map f ++ [f n] := by
  rw [List.range_succ, List.map_append]
  rfl
abbrev s_Game_leads : Stmt := inClass (top 10) 1
theorem sc_Game_leads : FnScope ["self", "place"] ["self", "place"] (defScope s_Game_leads) := ⟨rfl, rfl, rfl, by decide +kernel, rfl, by decide +kernel, by decide +kernel⟩
theorem ok_Game_leads (T : Txt K mg) (f : Addr) (F : ∃ fd, FunD K "leads" "Game.leads" (defArgs (inClass (top 10) 1)) (defBody (inClass (top 10) 1)) (defScope (inClass (top 10) 1)) [] [] f fd) : Dn P w K mg base (L2.CX P w) 10 f ["self", "place"] (sp_leads K .still) := by
  refine dn_of (k := 9) F sc_Game_leads (fun _ _ _ _ _ _ us hl => match us, hl with | [_, _], _ => rfl) (fun cdv A outer s H vs Q E hr h => ?_)
  obtain ⟨g, l, x, n, p, rfl, ga, hp, q, _⟩ := h
  refine ⟨_, (pss_one (ps_ret (pe_lst pa_nil))), ?_⟩
  refine ⟨by show 0 ≤ sizeLine; decide, fun D nD => ?_⟩
  exact q (by show p < 101; omega) D [] _ (Same.upd nD) nD (fun a h => by cases h) (.nil upd_same)
abbrev s_Heap_leads : Stmt := inClass (top 19) 0
theorem sc_Heap_leads : FnScope ["self", "place", "rest"] ["self", "place"] (defScope s_Heap_leads) := ⟨rfl, rfl, rfl, by decide +kernel, rfl, by decide +kernel, by decide +kernel⟩
theorem ok_Heap_leads (T : Txt K mg) : Dn P w K mg base (L2.CX P w) 10 (He.ma K (He.ga K "Heap") "leads") ["self", "place"] (sp_leads K .heap) := by
  refine dn_of (k := 9) T.f_Heap_leads sc_Heap_leads (fun _ _ _ _ _ _ us hl => match us, hl with | [_, _], _ => rfl) (fun cdv A outer s H vs Q E hr h => ?_)
  obtain ⟨g, l, x, n, p, rfl, ga, hp, q, qb⟩ := h
  refine ⟨_, (pss_one (ps_ret (pe_lc (own := [("rest", 2)]) (g := gName 2) (by rfl) sc_Heap_leads.nd (pi_range1 rfl T.n_range (pa_cons (pv 1) pa_nil)) (blkOk_by (own := [("rest", 2)]) (N := ["self", "place", "rest"]) (sc := defScope (s_Heap_leads)) (by decide +kernel)) (fun _ _ _ _ _ => pg_name (i := 2) sc_Heap_leads.nd rfl (by first | exact Or.inl rfl | exact Or.inr rfl)) (fun _ _ _ _ _ => pts_nil) (fun _ _ _ _ _ => (pe_lst (pa_cons (pv 2) pa_nil)))))), ?_⟩
  walk_at "rd"
  refine ⟨by omega, by omega, fun D nD => ?_⟩
  refine lc_rangeN (n := p) (fun i H' => ∃ as, as.length = i ∧ Bld H H' D as ((List.range i).map fun r => [r])) ⟨[], rfl, Bld.nil (Same.refl _) nD⟩ ?_ ?_
  · rintro i H' hi ⟨as, hl, b⟩
    walk_at "rd"
    intro a na
    refine ⟨_, Same.upd na _ _ b.ll.top, mil_line (by rw [List.length_map]; omega), as ++ [a], by rw [List.length_append, hl]; rfl, ?_⟩
    rw [range_snocN]
    exact b.snoc (Same.upd na) na upd_same
  · rintro H' ⟨as, hl, b⟩
    exact q (by show p < 101; omega) D as H' b.same b.nD b.nas b.ll
abbrev s_Pairs_leads : Stmt := inClass (top 13) 0
theorem sc_Pairs_leads : FnScope ["self", "place", "other"] ["self", "place"] (defScope s_Pairs_leads) := ⟨rfl, rfl, rfl, by decide +kernel, rfl, by decide +kernel, by decide +kernel⟩
theorem ok_Pairs_leads (T : Txt K mg) : Dn P w K mg base (L2.CX P w) 10 (He.ma K (He.ga K "Pairs") "leads") ["self", "place"] (sp_leads K .pairs) := by
  refine dn_of (k := 9) T.f_Pairs_leads sc_Pairs_leads (fun _ _ _ _ _ _ us hl => match us, hl with | [_, _], _ => rfl) (fun cdv A outer s H vs Q E hr h => ?_)
  obtain ⟨g, l, x, n, p, rfl, ga, hp, q, qb⟩ := h
  refine ⟨_, (pss_one (ps_ret (pe_lc (own := [("other", 2)]) (g := gName 2) (by rfl) sc_Pairs_leads.nd (pi_range1 rfl T.n_range (pa_cons (pv 1) pa_nil)) (blkOk_by (own := [("other", 2)]) (N := ["self", "place", "other"]) (sc := defScope (s_Pairs_leads)) (by decide +kernel)) (fun _ _ _ _ _ => pg_name (i := 2) sc_Pairs_leads.nd rfl (by first | exact Or.inl rfl | exact Or.inr rfl)) (fun _ _ _ _ _ => pts_nil) (fun _ _ _ _ _ => (pe_lst (pa_cons (pv 2) pa_nil)))))), ?_⟩
  walk_at "rd"
  refine ⟨by omega, by omega, fun D nD => ?_⟩
  refine lc_rangeN (n := p) (fun i H' => ∃ as, as.length = i ∧ Bld H H' D as ((List.range i).map fun r => [r])) ⟨[], rfl, Bld.nil (Same.refl _) nD⟩ ?_ ?_
  · rintro i H' hi ⟨as, hl, b⟩
    walk_at "rd"
    intro a na
    refine ⟨_, Same.upd na _ _ b.ll.top, mil_line (by rw [List.length_map]; omega), as ++ [a], by rw [List.length_append, hl]; rfl, ?_⟩
    rw [range_snocN]
    exact b.snoc (Same.upd na) na upd_same
  · rintro H' ⟨as, hl, b⟩
    exact q (by show p < 101; omega) D as H' b.same b.nD b.nas b.ll
abbrev s_Parting_leads : Stmt := inClass (top 22) 0
theorem sc_Parting_leads : FnScope ["self", "place", "part"] ["self", "place"] (defScope s_Parting_leads) := ⟨rfl, rfl, rfl, by decide +kernel, rfl, by decide +kernel, by decide +kernel⟩
theorem ok_Parting_leads (T : Txt K mg) : Dn P w K mg base (L2.CX P w) 10 (He.ma K (He.ga K "Parting") "leads") ["self", "place"] (sp_leads K .parting) := by
  refine dn_of (k := 9) T.f_Parting_leads sc_Parting_leads (fun _ _ _ _ _ _ us hl => match us, hl with | [_, _], _ => rfl) (fun cdv A outer s H vs Q E hr h => ?_)
  obtain ⟨g, l, x, n, p, rfl, ga, hp, q, qb⟩ := h
  refine ⟨_, (pss_one (ps_ret (pe_lc (own := [("part", 2)]) (g := gName 2) (by rfl) sc_Parting_leads.nd (pi_range2 rfl T.n_range (pa_cons (pe_nat 1) (pa_cons (pe_op op_fdivn (pe_op op_addn (pv 1) (pe_nat 1)) (pe_nat 2)) pa_nil))) (blkOk_by (own := [("part", 2)]) (N := ["self", "place", "part"]) (sc := defScope (s_Parting_leads)) (by decide +kernel)) (fun _ _ _ _ _ => pg_name (i := 2) sc_Parting_leads.nd rfl (by first | exact Or.inl rfl | exact Or.inr rfl)) (fun _ _ _ _ _ => pts_nil) (fun _ _ _ _ _ => (pe_lst (pa_cons (pv 2) (pa_cons (pe_op op_subn (pv 1) (pv 2)) pa_nil))))))), ?_⟩
  walk_at "rd"
  refine ⟨((1 : Nat) : Int), (((p + 1) / 2 : Nat) : Int), rfl, ⟨by omega, by omega, by omega, by omega⟩, fun D nD => ?_⟩
  have e : ((((p + 1) / 2 : Nat) : Int) - ((1 : Nat) : Int)).toNat = (p + 1) / 2 - 1 := by omega
  rw [e]
  refine lc_rangeM (lo := 1) (n := (p + 1) / 2 - 1) (fun i H' => ∃ as, as.length = i ∧ Bld H H' D as ((List.range' 1 i).map fun r => [r, p - r])) ⟨[], rfl, Bld.nil (Same.refl _) nD⟩ ?_ ?_
  · rintro i H' hi ⟨as, hl, b⟩
    walk_at "rd"
    refine ⟨show 1 + i ≤ p by omega, ?_⟩
    walk_at "rd"
    refine ⟨by show 2 ≤ sizeLine; decide, fun a na => ?_⟩
    refine ⟨_, Same.upd na _ _ b.ll.top, mil_line (by rw [List.length_map]; omega), as ++ [a], by rw [List.length_append, hl]; rfl, ?_⟩
    rw [List.range'_1_concat, List.map_append]
    exact b.snoc (Same.upd na) na upd_same
  · rintro H' ⟨as, hl, b⟩
    exact q (by show p < 101; omega) D as H' b.same b.nD b.nas b.ll
/-- the limits of a kind -/
def lim : Gm.Kind → Option (List Nat)
  | .taking ls => some ls
  | .skittles ls => some ls
  | _ => none
theorem kfs_limits {k : Gm.Kind} {ls : List Nat} (h : lim k = some ls) (l x : Addr) : (kfs l x k).lookup ("limits" : Str) = some (.ref x) := by
  cases k <;> first | (cases h; done) | (unfold kfs; rw [lookup_putF, if_pos rfl])
theorem kst_limits {k : Gm.Kind} {ls : List Nat} (h : lim k = some ls) {H : Hp} {x : Addr} (st : kst H x k) : H x = some (.lst (NL ls)) := by
  cases k <;> first | (cases h; exact st) | (cases h; done)
def sp_rests (K : PySem.W.Frag) (k : Gm.Kind) : Sp := fun vs H Q _ => ∃ (g l x : Addr) (n p : Nat) (ls : List Nat), vs = [.ref g, .int (p : Int)] ∧ GameAt K k H g l x n ∧ lim k = some ls ∧ Gm.Rising ls ∧ p ≤ 100 ∧
  ∀ (D : Addr) H', Same H H' → H D = none → H' D = some (.lst (NL (Gm.rests ls p))) → Q (.ref D) H'
abbrev s_Taking_rests : Stmt := inClass (top 20) 1
theorem sc_Taking_rests : FnScope ["self", "place", "limit"] ["self", "place"] (defScope s_Taking_rests) := ⟨rfl, rfl, rfl, by decide +kernel, rfl, by decide +kernel, by decide +kernel⟩
theorem ok_Taking_rests (T : Txt K mg) (ok : Gm.Kind → Prop) (G : Games K ok) (k : Gm.Kind) (hk : ok k) (f : Addr) (F : ∃ fd, FunD K "rests" "Taking.rests" (defArgs (inClass (top 20) 1)) (defBody (inClass (top 20) 1)) (defScope (inClass (top 20) 1)) [] [] f fd) : Dn P w K mg base CX0 1 f ["self", "place"] (sp_rests K k) := by
  refine dn_of (k := 0) F sc_Taking_rests (fun _ _ _ _ _ _ us hl => match us, hl with | [_, _], _ => rfl) (fun cdv A outer s H vs Q E hr h => ?_)
  obtain ⟨g, l, x, n, p, ls, rfl, ga, hl, hR, hp, q⟩ := h
  obtain ⟨dx, hg⟩ := ga.ob
  have hx := kst_limits hl (ga.st H fun _ _ e _ => e)
  have hll : ls.length ≤ 12 := Gm.Rising.len hR
  refine ⟨_, PSs.nox (pss_one (ps_ret (pe_lc (own := [("limit", 2)]) (g := gName 2) (by rfl) sc_Taking_rests.nd (pi_reversed (by rfl) T.n_reversed (pa_cons (pe_fld (pv 0) rfl) pa_nil)) (blkOk_by (own := [("limit", 2)]) (N := ["self", "place", "limit"]) (sc := defScope (s_Taking_rests)) (by decide +kernel)) (fun _ _ _ _ _ => pg_name (i := 2) sc_Taking_rests.nd rfl (by first | exact Or.inl rfl | exact Or.inr rfl)) (fun _ _ _ _ _ => (pts_one (pt_cmpR op_len (pv 2) (pv 1) (nomark _)))) (fun _ _ _ _ _ => (pe_op op_subn (pv 1) (pv 2)))))), ?_⟩
  walk_at "rd"
  refine ⟨g, _, _, _, _, rfl, hg, G.cls k hk, G.limits k hk, kfs_limits hl _ _, ?_⟩
  walk_at "rd"
  refine ⟨x, NL ls, rfl, SqL.of hx, fun D nD => ?_⟩
  refine L2.lc_it (L2.walk_rev (K := K) (a := x) (xs := NL ls)) (fun i H' => H' D = some (.lst (NL (((ls.reverse.take i).filter (· ≤ p)).map (p - ·)))) ∧ Same H H') ⟨upd_same, Same.upd nD⟩ (fun i H' _ h => SqL.of (h.2 _ _ hx)) ?_ ?_
  · rintro i v H1 H2 hi ⟨hD, sm⟩ ⟨rfl, hv⟩
    rw [NL_length] at hi hv
    obtain ⟨m, hm, rfl⟩ := NL_at hv
    have hr' : ls.reverse[i]? = some m := by rw [List.getElem?_reverse hi]; exact hm
    walk_at "rd"
    refine ifB (fun c => ?_) (fun c => ?_)
    · have c : m ≤ p := of_decide_eq_true c
      walk_at "rd"
      refine ⟨c, ?_⟩
      walk_at "rd"
      refine ⟨_, hD, mil_line (by rw [NL_length, List.length_map]; refine Nat.le_trans (List.length_filter_le _ _) ?_; rw [List.length_take, List.length_reverse]; omega), ?_, Same.put sm nD⟩
      rw [upd_same, List.take_succ, hr', List.filter_append, List.map_append]
      show _ = some (HO.lst (NL (_ ++ List.map _ (List.filter _ [m]))))
      rw [List.filter_cons_of_pos (by exact decide_eq_true c)]
      unfold NL
      rw [List.map_append]
      rfl
    · have c : ¬ m ≤ p := of_decide_eq_false c
      refine ⟨?_, sm⟩
      rw [hD, List.take_succ, hr', List.filter_append, List.map_append]
      show _ = some (HO.lst (NL (_ ++ List.map _ (List.filter _ [m]))))
      rw [List.filter_cons_of_neg (by simpa using c)]
      show _ = some (HO.lst (NL (_ ++ [])))
      rw [List.append_nil]
  · rintro H1 ⟨hD, sm⟩
    rw [NL_length, ← List.length_reverse, List.take_length] at hD
    exact q D H1 sm nD hD
theorem rests_len {ls : List Nat} (h : Gm.Rising ls) (p : Nat) : (Gm.rests ls p).length ≤ 12 := by
  unfold Gm.rests
  rw [List.length_map]
  refine Nat.le_trans (List.length_filter_le _ _) ?_
  rw [List.length_reverse]
  exact h.len
abbrev s_Taking_leads : Stmt := inClass (top 20) 2
theorem sc_Taking_leads : FnScope ["self", "place", "rest"] ["self", "place"] (defScope s_Taking_leads) := ⟨rfl, rfl, rfl, by decide +kernel, rfl, by decide +kernel, by decide +kernel⟩
theorem ok_Taking_leads (T : Txt K mg) (ok : Gm.Kind → Prop) (KK : Kinds ok) (DR : Disp P w K mg base CX0 5 "rests" (kC K) (fun k => ok k ∧ ∃ ls, lim k = some ls) ["self", "place"] (sp_rests K)) (ls : List Nat) (hk : ok (.taking ls)) : Dn P w K mg base (L2.CX P w) 10 (He.ma K (He.ga K "Taking") "leads") ["self", "place"] (sp_leads K (.taking ls)) := by
  refine dn_of (k := 9) T.f_Taking_leads sc_Taking_leads (fun _ _ _ _ _ _ us hl => match us, hl with | [_, _], _ => rfl) (fun cdv A outer s H vs Q E hr h => ?_)
  obtain ⟨g, l, x, n, p, rfl, ga, hp, q, qb⟩ := h
  obtain ⟨dx, hg⟩ := ga.ob
  have hR : Gm.Rising ls := KK.good _ hk
  refine ⟨_, (pss_one (ps_ret (pe_lc (own := [("rest", 2)]) (g := gName 2) (by rfl) sc_Taking_leads.nd (pi_list (pe_mf (DR) (hr.mono (by omega)) pass0 (pv 0) (pa_cons (pv 1) pa_nil))) (blkOk_by (own := [("rest", 2)]) (N := ["self", "place", "rest"]) (sc := defScope (s_Taking_leads)) (by decide +kernel)) (fun _ _ _ _ _ => pg_name (i := 2) sc_Taking_leads.nd rfl (by first | exact Or.inl rfl | exact Or.inr rfl)) (fun _ _ _ _ _ => pts_nil) (fun _ _ _ _ _ => (pe_lst (pa_cons (pv 2) pa_nil)))))), ?_⟩
  walk_at "rd"
  refine ⟨.taking ls, g, _, _, ⟨hk, ls, rfl⟩, rfl, hg, kfs_no _ _ _ (by decide +kernel) (by decide +kernel) (by decide +kernel) (by decide +kernel), ?_⟩
  walk_at "rd"
  refine ⟨g, l, x, n, p, ls, rfl, ga, rfl, hR, hp, fun D0 H0 sm0 nD0 hD0 => ?_⟩
  walk_at "rd"
  have hll := rests_len hR p
  refine ⟨⟨_, SqL.of hD0⟩, fun D nD => ?_⟩
  refine lc_list (K := K) (a := D0) (xs := NL (Gm.rests ls p)) (fun i H' => ∃ as, as.length = i ∧ Bld H0 H' D as (((Gm.rests ls p).take i).map fun r => [r])) ⟨[], rfl, Bld.nil (Same.refl _) nD⟩ (fun i H' _ ⟨as, _, b⟩ => SqL.of (b.same _ _ hD0)) ?_ ?_
  · rintro i v H' hi ⟨as, hl, b⟩
    obtain ⟨m, hm, rfl⟩ := NL_at hi
    have hil : i < (Gm.rests ls p).length := (List.getElem?_eq_some_iff.mp hm).1
    walk_at "rd"
    intro a na
    refine ⟨_, Same.upd na _ _ b.ll.top, mil_line (by rw [List.length_map]; omega), as ++ [a], by rw [List.length_append, hl]; rfl, ?_⟩
    rw [List.take_succ, hm, List.map_append]
    exact b.snoc (Same.upd na) na upd_same
  · rintro H' ⟨as, hl, b⟩
    rw [NL_length, List.take_length] at b
    exact q (by show p < 101; omega) D as H' (fun b' o e => b.same _ _ (sm0 _ _ e)) (none_of_same sm0 nD) (fun a ha => none_of_same sm0 (b.nas a ha)) b.ll
/-- the parts of some rests -/
def partsOf (rs : List Nat) : List (List Nat) := rs.flatMap fun r => (List.range (r / 2 + 1)).map fun q => [q, r - q]
theorem partsOf_len : ∀ (rs : List Nat), (∀ r ∈ rs, r ≤ 100) → (partsOf rs).length ≤ 51 * rs.length
  | [], _ => Nat.zero_le _
  | r :: t, h => by
    have h1 := partsOf_len t fun m hm => h m (List.mem_cons_of_mem _ hm)
    have h2 := h r List.mem_cons_self
    show ((List.range (r / 2 + 1)).map _ ++ partsOf t).length ≤ _
    rw [List.length_append, List.length_map, List.length_range, List.length_cons]
    omega
theorem rests_le {ls : List Nat} {p r : Nat} (hr : r ∈ Gm.rests ls p) : r ≤ p := by
  unfold Gm.rests at hr
  obtain ⟨l, _, rfl⟩ := List.mem_map.mp hr
  omega
abbrev s_Skittles_leads : Stmt := inClass (top 21) 0
theorem sc_Skittles_leads : FnScope ["self", "place", "found", "rest", "part"] ["self", "place"] (defScope s_Skittles_leads) := ⟨rfl, rfl, rfl, by decide +kernel, rfl, by decide +kernel, by decide +kernel⟩
theorem ok_Skittles_leads (T : Txt K mg) (ok : Gm.Kind → Prop) (KK : Kinds ok) (DR : Disp P w K mg base CX0 5 "rests" (kC K) (fun k => ok k ∧ ∃ ls, lim k = some ls) ["self", "place"] (sp_rests K)) (ls : List Nat) (hk : ok (.skittles ls)) : Dn P w K mg base (L2.CX P w) 10 (He.ma K (He.ga K "Skittles") "leads") ["self", "place"] (sp_leads K (.skittles ls)) := by
  refine dn_of (k := 9) T.f_Skittles_leads sc_Skittles_leads (fun _ _ _ _ _ _ us hl => match us, hl with | [_, _], _ => rfl) (fun cdv A outer s H vs Q E hr h => ?_)
  obtain ⟨g, l, x, n, p, rfl, ga, hp, q, qb⟩ := h
  obtain ⟨dx, hg⟩ := ga.ob
  have hR : Gm.Rising ls := KK.good _ hk
  refine ⟨_, (pss_cons (ps_set (i := 2) sc_Skittles_leads.nd rfl (by first | exact Or.inl rfl | exact Or.inr rfl) (pe_lst pa_nil))
      (pss_cons (ps_for (passes_of rfl) rfl (pi_list (pe_mf (DR) (hr.mono (by omega)) pass0 (pv 0) (pa_cons (pv 1) pa_nil))) (pg_name (i := 3) sc_Skittles_leads.nd rfl (by first | exact Or.inl rfl | exact Or.inr rfl))
      (pss_one (ps_for (passes_of rfl) rfl (pi_range1 rfl T.n_range (pa_cons (pe_op op_addn (pe_op op_fdivn (pv 3) (pe_nat 2)) (pe_nat 1)) pa_nil)) (pg_name (i := 4) sc_Skittles_leads.nd rfl (by first | exact Or.inl rfl | exact Or.inr rfl))
      (pss_one (ps_expr (pe_bm PySem.F.plainAttrs_list PySem.F.slot_list_append PySem.F.type_list_append mt_append (pv 2) (pa_cons (pe_lst (pa_cons (pv 4) (pa_cons (pe_op op_subn (pv 3) (pv 4)) pa_nil))) pa_nil)))))))
      (pss_one (ps_ret (pv 2))))), ?_⟩
  walk_at "rd"
  refine ⟨by show 0 ≤ sizeLine; decide, fun D nD => ?_⟩
  walk_at "rd"
  have ga0 := ga.same (Same.upd nD (o := .lst []))
  obtain ⟨dx0, hg0⟩ := ga0.ob
  refine ⟨.skittles ls, g, _, _, ⟨hk, ls, rfl⟩, rfl, hg0, kfs_no _ _ _ (by decide +kernel) (by decide +kernel) (by decide +kernel) (by decide +kernel), ?_⟩
  walk_at "rd"
  refine ⟨g, l, x, n, p, ls, rfl, ga0, rfl, hR, hp, fun D0 H0 sm0 nD0 hD0 => ?_⟩
  walk_at "rd"
  have hll := rests_len hR p
  have hne : D0 ≠ D := fun e => by rw [e, upd_same] at nD0; cases nD0
  refine ⟨⟨_, SqL.of hD0⟩, for_list (K := K) (a := D0) (xs := NL (Gm.rests ls p)) (fun i σ H' => ∃ v3 v4 as, σ = [some (.ref g), some (.int (p : Int)), some (.ref D), v3, v4] ∧ H' D0 = some (.lst (NL (Gm.rests ls p))) ∧ Bld H H' D as (partsOf ((Gm.rests ls p).take i))) ⟨none, none, [], rfl, hD0, (Bld.nil (Same.refl _) nD).same' sm0⟩ (fun i σ H' _ ⟨_, _, as, _, h, _⟩ => SqL.of h) ?_ ?_⟩
  · rintro i v σ H' hi ⟨v3, v4, as, rfl, hD', b⟩
    obtain ⟨m, hm, rfl⟩ := NL_at hi
    have hil : i < (Gm.rests ls p).length := (List.getElem?_eq_some_iff.mp hm).1
    have hmp := rests_le (List.mem_of_getElem? hm)
    walk_at "rd"
    refine ⟨by omega, by omega, for_rangeN (n := m / 2 + 1) (fun j σ H2 => ∃ v4 as, σ = [some (.ref g), some (.int (p : Int)), some (.ref D), some (.int (m : Int)), v4] ∧ H2 D0 = some (.lst (NL (Gm.rests ls p))) ∧ Bld H H2 D as (partsOf ((Gm.rests ls p).take i) ++ (List.range j).map fun q => [q, m - q])) ⟨v4, as, rfl, hD', by simpa using b⟩ ?_ ?_⟩
    · rintro j σ H2 hj ⟨v4, as, rfl, hD2, b⟩
      walk_at "rd"
      have hlen := partsOf_len ((Gm.rests ls p).take i) fun r hr => Nat.le_trans (rests_le (List.mem_of_mem_take hr)) hp
      refine ⟨.inl ⟨rfl, _, SqL.of b.ll.top⟩, ?_⟩
      walk_at "rd"
      refine ⟨by omega, ?_⟩
      walk_at "rd"
      refine ⟨by show 2 ≤ sizeLine; decide, fun a na => ?_⟩
      have hl := b.ll.len
      rw [List.length_append, List.length_map, List.length_range] at hl
      rw [List.length_take] at hlen
      refine ⟨D, _, _, rfl, rfl, Same.upd na _ _ b.ll.top, mil_line (by rw [List.length_map]; omega), some (.int (j : Int)), as ++ [a], rfl, ?_, ?_⟩
      · rw [upd_ne hne]
        exact Same.upd na _ _ hD2
      · rw [range_snocN, ← List.append_assoc]
        exact b.snoc (Same.upd na) na upd_same
    · rintro σ H2 ⟨v4, as, rfl, hD2, b⟩
      refine ⟨_, v4, as, rfl, hD2, ?_⟩
      rw [List.take_succ, hm]
      unfold partsOf at b ⊢
      rw [List.flatMap_append]
      simpa using b
  · rintro σ H' ⟨v3, v4, as, rfl, hD', b⟩
    rw [NL_length, List.take_length] at b
    walk_at "rd"
    exact q (by show p < 101; omega) D as H' b.same b.nD b.nas b.ll
theorem rgV_nat (a b : Nat) : rgV (a : Int) (b : Int) = NL (List.range' a (b - a)) := by
  have e : ((b : Int) - (a : Int)).toNat = b - a := by omega
  unfold rgV NL
  rw [e, List.range'_eq_map_range, List.map_map]
  refine List.map_congr_left fun i _ => ?_
  show V.int ((a : Int) + (i : Nat)) = V.int ((a + i : Nat) : Int)
  rw [Int.natCast_add]
abbrev s_Runs_leads : Stmt := inClass (top 12) 0
theorem sc_Runs_leads : FnScope ["self", "place", "first"] ["self", "place"] (defScope s_Runs_leads) := ⟨rfl, rfl, rfl, by decide +kernel, rfl, by decide +kernel, by decide +kernel⟩
theorem ok_Runs_leads (T : Txt K mg) : Dn P w K mg base (L2.CX P w) 10 (He.ma K (He.ga K "Runs") "leads") ["self", "place"] (sp_leads K .runs) := by
  refine dn_of (k := 9) T.f_Runs_leads sc_Runs_leads (fun _ _ _ _ _ _ us hl => match us, hl with | [_, _], _ => rfl) (fun cdv A outer s H vs Q E hr h => ?_)
  obtain ⟨g, l, x, n, p, rfl, ga, hp, q, qb⟩ := h
  refine ⟨_, (pss_one (ps_ret (pe_lc (own := [("first", 2)]) (g := gName 2) (by rfl) sc_Runs_leads.nd (pi_range3 rfl T.n_range (pa_cons (pv 1) (pa_cons (pe_un un_neg pe_int) (pa_cons (pe_un un_neg pe_int) pa_nil)))) (blkOk_by (own := [("first", 2)]) (N := ["self", "place", "first"]) (sc := defScope (s_Runs_leads)) (by decide +kernel)) (fun _ _ _ _ _ => pg_name (i := 2) sc_Runs_leads.nd rfl (by first | exact Or.inl rfl | exact Or.inr rfl)) (fun _ _ _ _ _ => pts_nil) (fun _ _ _ _ _ => (pe_listRg rfl (by rfl) T.n_list (prg_2 (by rfl) T.n_range (pv 2) (pv 1))))))), ?_⟩
  walk_at "rd"
  have hc : ((p : Int) - -1).toNat = p + 1 := by omega
  refine ⟨(p : Int), -1, -1, p + 1, rfl, hc ▸ RgC.neg (by omega) (by omega) (by omega) (by omega), fun D nD => ?_⟩
  refine L2.lc_it (L2.walk_rangeC (lo := (p : Int)) (c := -1) (n := p + 1)) (fun i H' => ∃ as, as.length = i ∧ Bld H H' D as ((List.range i).map fun i => List.range' (p - i) i)) ⟨[], rfl, Bld.nil (Same.refl _) nD⟩ (fun _ _ _ _ => trivial) ?_ ?_
  · rintro i v H1 H2 hi ⟨as, hl, b⟩ ⟨rfl, rfl⟩
    have e : (p : Int) + (i : Nat) * -1 = ((p - i : Nat) : Int) := by omega
    show gName 2 (V.int ((p : Int) + (i : Nat) * -1)) _ _ _
    rw [e]
    walk_at "rd"
    refine ⟨RgOk.of_le (by omega) (by omega) (by omega) (by omega), fun a na => ?_⟩
    refine ⟨_, Same.upd na _ _ b.ll.top, mil_line (by rw [List.length_map]; omega), as ++ [a], by rw [List.length_append, hl]; rfl, ?_⟩
    rw [range_snocN, rgV_nat]
    have e2 : p - (p - i) = i := by omega
    rw [e2]
    exact b.snoc (Same.upd na) na upd_same
  · rintro H' ⟨as, hl, b⟩
    exact q (by show p < 101; omega) D as H' b.same b.nD b.nas b.ll
def sp_longer (K : PySem.W.Frag) : Sp := fun vs H Q _ => ∃ (R : Addr) (as : List Addr) (rows : List (List Nat)) (p : Nat), vs = [.ref R, .int (p : Int)] ∧ LLs H R as rows ∧ (∀ row ∈ rows, row.length ≤ 3 ∧ ∀ q ∈ row, q < p) ∧ rows.length ≤ 10000 ∧ p ≤ 100 ∧
  ∀ (D : Addr) (bs : List Addr) H', Same H H' → H D = none → (∀ a ∈ bs, H a = none) → LLs H' D bs (Gm.longer rows p) → Q (.ref D) H'
theorem longer_len : ∀ (rows : List (List Nat)) (p : Nat), (Gm.longer rows p).length ≤ rows.length * p
  | [], _ => Nat.zero_le _
  | row :: t, p => by
    have h1 := longer_len t p
    show ((List.range' (Gm.first row) (p - Gm.first row)).map _ ++ Gm.longer t p).length ≤ _
    rw [List.length_append, List.length_map, List.length_range', List.length_cons, Nat.succ_mul]
    omega
theorem longer_snoc (rows : List (List Nat)) (p : Nat) {i : Nat} {row : List Nat} (h : rows[i]? = some row) : Gm.longer (rows.take (i + 1)) p = Gm.longer (rows.take i) p ++ (List.range' (Gm.first row) (p - Gm.first row)).map fun o => row ++ [o] := by
  unfold Gm.longer
  rw [List.take_succ, h, List.flatMap_append]
  simp
theorem longer_take (rows : List (List Nat)) (p i : Nat) (h : rows.length ≤ 10000) (hp : p ≤ 100) : (Gm.longer (rows.take i) p).length ≤ 1000000 := by
  have h1 := longer_len (rows.take i) p
  have h2 : (rows.take i).length ≤ 10000 := by rw [List.length_take]; omega
  have h3 : (rows.take i).length * p ≤ 10000 * 100 := Nat.mul_le_mul h2 hp
  omega
/-- a row's first free place -/
theorem first_ne {row : List Nat} (h : ¬ 0 < row.length) : Gm.first row = 0 := by
  cases row with
  | nil => rfl
  | cons a t => exact absurd (Nat.zero_lt_succ _) h
theorem first_at {row : List Nat} (h : 0 < row.length) : ∃ m, atI (NL row) (-1) = some (.int ((m : Nat) : Int)) ∧ Gm.first row = m + 1 ∧ m ∈ row := by
  have hne : row ≠ [] := fun e => by rw [e] at h; exact absurd h (Nat.lt_irrefl 0)
  obtain ⟨t, m, rfl⟩ : ∃ t m, row = t ++ [m] := ⟨row.dropLast, row.getLast hne, (List.dropLast_concat_getLast hne).symm⟩
  refine ⟨m, ?_, ?_, by simp⟩
  · unfold NL
    rw [List.map_append]
    exact atI_last _ _
  · unfold Gm.first
    simp
theorem first_le {row : List Nat} {p : Nat} (h : ∀ q ∈ row, q < p) : Gm.first row ≤ p := by
  by_cases c : 0 < row.length
  · obtain ⟨m, _, e, hm⟩ := first_at c
    rw [e]
    exact h m hm
  · rw [first_ne c]
    exact Nat.zero_le _
abbrev s_longer : Stmt := top 15
theorem sc_longer : FnScope ["rows", "place", "found", "row", "first", "other"] ["rows", "place"] (defScope s_longer) := ⟨rfl, rfl, rfl, by decide +kernel, rfl, by decide +kernel, by decide +kernel⟩
theorem ok_longer (T : Txt K mg) : Dn P w K mg base CX0 1 (He.ga K "longer") ["rows", "place"] (sp_longer K) := by
  refine dn_of (k := 0) T.f_longer sc_longer (fun _ _ _ _ _ _ us hl => match us, hl with | [_, _], _ => rfl) (fun cdv A outer s H vs Q E hr h => ?_)
  obtain ⟨R, as, rows, p, rfl, ll, h3, hr, hp, q⟩ := h
  refine ⟨_, PSs.nox (pss_cons (ps_set (i := 2) sc_longer.nd rfl (by first | exact Or.inl rfl | exact Or.inr rfl) (pe_lst pa_nil))
      (pss_cons (ps_for PassesOwn.never rfl (pi_list (pv 0)) (pg_name (i := 3) sc_longer.nd rfl (by first | exact Or.inl rfl | exact Or.inr rfl))
      (pss_cons (ps_set (i := 4) sc_longer.nd rfl (by first | exact Or.inl rfl | exact Or.inr rfl) (pe_nat 0))
      (pss_cons (ps_cut (ps_if (pt_cmpR op_gtn (pe_callB (r := rLenSeq K) cr_lenseq (by rfl) T.n_len PySem.boot_len (pa_cons (pv 3) pa_nil)) (pe_nat 0) (nomark _)) (pss_one (ps_set (i := 4) sc_longer.nd rfl (by first | exact Or.inl rfl | exact Or.inr rfl) (pe_op op_addn (pe_ix ix_list (pv 3) (pe_un un_neg pe_int) (fun _ _ => rfl)) (pe_nat 1)))) pss_nil))
      (pss_one (ps_for PassesOwn.never rfl (pi_range2 rfl T.n_range (pa_cons (pv 4) (pa_cons (pv 1) pa_nil))) (pg_name (i := 5) sc_longer.nd rfl (by first | exact Or.inl rfl | exact Or.inr rfl))
      (pss_one (ps_expr (pe_bm PySem.F.plainAttrs_list PySem.F.slot_list_append PySem.F.type_list_append mt_append (pv 2) (pa_cons (pe_op op_cat (pv 3) (pe_lst (pa_cons (pv 5) pa_nil))) pa_nil)))))))))
      (pss_one (ps_ret (pv 2))))), ?_⟩
  refine ⟨by show 0 ≤ sizeLine; decide, fun D nD => ?_⟩
  walk_at "rd"
  have hll := ll.len
  refine ⟨⟨_, (Same.upd nD).seq (SqL.of ll.top)⟩, for_list (K := K) (a := R) (xs := as.map V.ref) (fun i σ H' => ∃ v3 v4 v5 bs, σ = [some (.ref R), some (.int (p : Int)), some (.ref D), v3, v4, v5] ∧ Bld H H' D bs (Gm.longer (rows.take i) p)) ⟨none, none, none, [], rfl, Bld.nil (Same.refl _) nD⟩ (fun i σ H' _ ⟨_, _, _, bs, _, b⟩ => b.same.seq (SqL.of ll.top)) ?_ ?_⟩
  · rintro i v σ H' hi ⟨v3, v4, v5, bs, rfl, b⟩
    obtain ⟨a, row, ea, er, rfl, har⟩ := ll.item hi
    have ha := b.same _ _ har
    have hr3 := h3 row (List.mem_of_getElem? er)
    have hlt := longer_take rows p i hr hp
    have hbl := b.ll.len
    walk_at "rl"
    refine ⟨fun σ' H2 => H2 = H' ∧ σ' = [some (.ref R), some (.int (p : Int)), some (.ref D), some (.ref a), some (.int ((Gm.first row : Nat) : Int)), v5], ?_, ?_⟩
    · rintro σ' H2 ⟨rfl, rfl⟩
      walk_at "rl"
      have e : (((p : Nat) : Int) - ((Gm.first row : Nat) : Int)).toNat = p - Gm.first row := by omega
      have hf := first_le hr3.2
      refine ⟨((Gm.first row : Nat) : Int), (p : Int), rfl, ⟨by omega, by omega, by omega, by omega⟩, ?_⟩
      rw [e]
      refine for_rangeM (lo := Gm.first row) (n := p - Gm.first row) (fun j σ H3 => ∃ v5 bs, σ = [some (.ref R), some (.int (p : Int)), some (.ref D), some (.ref a), some (.int ((Gm.first row : Nat) : Int)), v5] ∧ Same H H3 ∧ Bld H H3 D bs (Gm.longer (rows.take i) p ++ (List.range' (Gm.first row) j).map fun o => row ++ [o])) ⟨v5, bs, rfl, b.same, by simpa using b⟩ ?_ ?_
      · rintro j σ H3 hj ⟨v5, bs, rfl, sm, b⟩
        have ha := sm _ _ har
        have hbl := b.ll.len
        rw [List.length_append, List.length_map, List.length_range'] at hbl
        have htop := b.ll.top
        walk_at "rl"
        intro p1 np1
        have ha1 := Same.upd np1 (o := .lst [V.int ((Gm.first row + j : Nat) : Int)]) _ _ ha
        refine ⟨a, p1, _, _, rfl, rfl, ha1, upd_same, Nat.le_of_lt (mil_line (by rw [NL_length]; have := hr3.1; simp; omega)), fun p2 np2 => ?_⟩
        walk_at "rl"
        have sm2 := (Same.upd np1 (o := .lst [V.int ((Gm.first row + j : Nat) : Int)])).trans (Same.upd np2 (o := .lst (NL row ++ [V.int ((Gm.first row + j : Nat) : Int)])))
        refine ⟨D, _, _, rfl, rfl, sm2 _ _ htop, mil_line (by rw [List.length_map]; omega), some (.int ((Gm.first row + j : Nat) : Int)), bs ++ [p2], rfl, ?_, ?_⟩
        · exact N.Same.put (sm.trans sm2) nD
        · rw [List.range'_1_concat, List.map_append, ← List.append_assoc]
          exact b.snoc sm2 (none_of_same (Same.upd np1) np2) (by rw [upd_same]; unfold NL; rw [List.map_append]; rfl)
      · rintro σ H3 ⟨v5, bs, rfl, sm, b⟩
        refine ⟨_, _, _, bs, rfl, ?_⟩
        rw [longer_snoc rows p er]
        exact b
    · walk_at "rl"
      rw [NL_length]
      refine ifN (fun c => ?_) (fun c => ?_)
      · obtain ⟨m, e1, e2, _⟩ := first_at c
        walk_at "rl"
        refine ⟨a, _, _, _, rfl, rfl, SqL.of ha, e1, ?_⟩
        walk_at "rl"
        rw [e2]
        first | exact ⟨rfl, rfl⟩ | rfl
      · rw [first_ne c]
        first | exact ⟨rfl, rfl⟩ | rfl
  · rintro σ H' ⟨v3, v4, v5, bs, rfl, b⟩
    rw [List.length_map, hll, List.take_length] at b
    walk_at "rd"
    exact q D bs H' b.same b.nD b.nas b.ll
theorem kfs_most (m : Nat) (l x : Addr) : (kfs l x (.few m)).lookup ("most" : Str) = some (.int (m : Int)) := by
  unfold kfs
  rw [lookup_putF, if_pos rfl]
theorem fewN_len (p : Nat) : ∀ n, (Gm.fewN p n).length ≤ p ^ n
  | 0 => Nat.le_refl _
  | n + 1 => by
    have h1 := longer_len (Gm.fewN p n) p
    have h2 := Nat.mul_le_mul_right p (fewN_len p n)
    rw [Nat.pow_succ]
    exact Nat.le_trans h1 h2
theorem longer_mem {rows : List (List Nat)} {p : Nat} {row : List Nat} (h : row ∈ Gm.longer rows p) : ∃ r0 ∈ rows, row.length = r0.length + 1 := by
  unfold Gm.longer at h
  obtain ⟨r0, h0, h1⟩ := List.mem_flatMap.mp h
  obtain ⟨o, _, rfl⟩ := List.mem_map.mp h1
  exact ⟨r0, h0, by simp⟩
theorem fewN_rowlen (p : Nat) : ∀ n, ∀ row ∈ Gm.fewN p n, row.length = n
  | 0, row, h => by
    have h : row ∈ [[]] := h
    rw [List.mem_singleton] at h
    rw [h]
    rfl
  | n + 1, row, h => by
    obtain ⟨r0, h0, e⟩ := longer_mem h
    rw [e, fewN_rowlen p n r0 h0]
theorem few_small {p i : Nat} (hp : p ≤ 100) (hi : i < 2) : (Gm.fewN p i).length ≤ 100 ∧ (Gm.fewAll p i).length ≤ 101 ∧ (Gm.fewN p (i + 1)).length ≤ 10000 := by
  have h0 : (Gm.fewN p 0).length = 1 := rfl
  have h1 := fewN_len p 1
  have h2 := fewN_len p 2
  have h3 : p ^ 2 ≤ 100 ^ 2 := Nat.pow_le_pow_left hp 2
  have h4 : (Gm.fewAll p 0).length = 1 := rfl
  have h5 : (Gm.fewAll p 1).length = 1 + (Gm.fewN p 1).length := by
    show (Gm.fewAll p 0 ++ Gm.fewN p 1).length = _
    rw [List.length_append, h4]
  rw [Nat.pow_one] at h1
  have : i = 0 ∨ i = 1 := by omega
  rcases this with rfl | rfl
  · refine ⟨by omega, by omega, ?_⟩
    show (Gm.fewN p 1).length ≤ 10000
    omega
  · refine ⟨by omega, by omega, ?_⟩
    show (Gm.fewN p 2).length ≤ 10000
    omega
abbrev s_Few_leads : Stmt := inClass (top 14) 1
theorem sc_Few_leads : FnScope ["self", "place", "found", "last", "turn"] ["self", "place"] (defScope s_Few_leads) := ⟨rfl, rfl, rfl, by decide +kernel, rfl, by decide +kernel, by decide +kernel⟩
theorem ok_Few_leads (T : Txt K mg) (ok : Gm.Kind → Prop) (G : Games K ok) (KK : Kinds ok) (m : Nat) (hk : ok (.few m)) (d_longer : Dn P w K mg base CX0 1 (He.ga K "longer") ["rows", "place"] (sp_longer K)) : Dn P w K mg base (L2.CX P w) 10 (He.ma K (He.ga K "Few") "leads") ["self", "place"] (sp_leads K (.few m)) := by
  refine dn_of (k := 9) T.f_Few_leads sc_Few_leads (fun _ _ _ _ _ _ us hl => match us, hl with | [_, _], _ => rfl) (fun cdv A outer s H vs Q E hr h => ?_)
  obtain ⟨g, l, x, n, p, rfl, ga, hp, q, qb⟩ := h
  obtain ⟨dx, hg⟩ := ga.ob
  have hm : 1 ≤ m ∧ m ≤ 3 := KK.good _ hk
  refine ⟨_, (pss_cons (ps_set (i := 2) sc_Few_leads.nd rfl (by first | exact Or.inl rfl | exact Or.inr rfl) (pe_lst (pa_cons (pe_lst pa_nil) pa_nil)))
      (pss_cons (ps_set (i := 3) sc_Few_leads.nd rfl (by first | exact Or.inl rfl | exact Or.inr rfl) (pe_lst (pa_cons (pe_lst pa_nil) pa_nil)))
      (pss_cons (ps_for (passes_of rfl) rfl (pi_range1 rfl T.n_range (pa_cons (pe_op op_subn (pe_fld (pv 0) rfl) (pe_nat 1)) pa_nil)) (pg_name (i := 4) sc_Few_leads.nd rfl (by first | exact Or.inl rfl | exact Or.inr rfl))
      (pss_cons (ps_set (i := 3) sc_Few_leads.nd rfl (by first | exact Or.inl rfl | exact Or.inr rfl) (pe_cl d_longer (hr.mono (by omega)) T.g_longer pass0 (pa_cons (pv 3) (pa_cons (pv 1) pa_nil))))
      (pss_one (ps_expr (pe_bm PySem.F.plainAttrs_list PySem.F.slot_list_extend PySem.F.type_list_extend mt_extend (pv 2) (pa_cons (pv 3) pa_nil))))))
      (pss_one (ps_ret (pv 2)))))), ?_⟩
  refine ⟨by show 0 ≤ sizeLine; decide, fun a0 na0 => ?_⟩
  walk_at "rl"
  intro D nD
  walk_at "rl"
  refine ⟨by show 0 ≤ sizeLine; decide, fun a1 na1 => ?_⟩
  walk_at "rl"
  intro L0 nL0
  walk_at "rl"
  have s1 := Same.upd na0 (o := .lst [])
  have s2 := s1.trans (Same.upd nD (o := .lst [V.ref a0]))
  have s3 := s2.trans (Same.upd na1 (o := .lst []))
  have s4 := s3.trans (Same.upd nL0 (o := .lst [V.ref a1]))
  have t3 := Same.upd nL0 (o := .lst [V.ref a1])
  have t2 := (Same.upd na1 (o := .lst [])).trans t3
  have t1 := (Same.upd nD (o := .lst [V.ref a0])).trans t2
  have eD := t2 _ _ (upd_same (H := upd H a0 (HO.lst [])) (a := D) (o := .lst [V.ref a0]))
  have ea0 := t1 _ _ (upd_same (H := H) (a := a0) (o := .lst []))
  have ea1 := t3 _ _ (upd_same (H := upd (upd H a0 (HO.lst [])) D (HO.lst [V.ref a0])) (a := a1) (o := .lst []))
  have eL := upd_same (H := upd (upd (upd H a0 (HO.lst [])) D (HO.lst [V.ref a0])) a1 (HO.lst [])) (a := L0) (o := .lst [V.ref a1])
  have dD : D ≠ a0 := fun e => by rw [e, upd_same] at nD; cases nD
  have dL1 : L0 ≠ a1 := fun e => by rw [e, upd_same] at nL0; cases nL0
  have dLD : L0 ≠ D := fun e => by
    rw [e, upd_ne (fun z => by rw [← z, upd_same] at na1; cases na1), upd_same] at nL0
    cases nL0
  have dD1 : D ≠ a1 := fun e => by rw [← e, upd_same] at na1; cases na1
  generalize upd (upd (upd (upd H a0 (HO.lst [])) D (HO.lst [V.ref a0])) a1 (HO.lst [])) L0 (HO.lst [V.ref a1]) = H4 at *
  have nD' := none_of_same s1 nD
  have ga4 := ga.same s4
  obtain ⟨dx4, hg4⟩ := ga4.ob
  refine ⟨g, _, _, _, _, rfl, hg4, G.cls _ hk, G.most _ hk, kfs_most _ _ _, ?_⟩
  walk_at "rl"
  refine ⟨hm.1, ?_⟩
  walk_at "rl"
  refine ⟨by omega, by omega, for_rangeN (n := m - 1) (fun i σ H' => ∃ v4 as L bs, σ = [some (.ref g), some (.int (p : Int)), some (.ref D), some (.ref L), v4] ∧ Bld H H' D as (Gm.fewAll p i) ∧ LLs H' L bs (Gm.fewN p i) ∧ D ∉ L :: bs) ⟨none, [a0], L0, [a1], rfl, ⟨⟨eD, rfl, by simpa using dD, fun i a xs e1 e2 => ?_⟩, s4, nD', fun a ha => ?_⟩, ⟨eL, rfl, by simpa using dL1, fun i a xs e1 e2 => ?_⟩, ?_⟩ ?_ ?_⟩
  · have := (List.getElem?_eq_some_iff.mp e1).1
    have e : i = 0 := by simpa using this
    subst e
    cases e1
    cases e2
    exact ea0
  · rw [List.mem_singleton] at ha
    rw [ha]
    exact na0
  · have := (List.getElem?_eq_some_iff.mp e1).1
    have e : i = 0 := by simpa using this
    subst e
    cases e1
    cases e2
    exact ea1
  · simp only [List.mem_cons, List.not_mem_nil, or_false, not_or]
    exact ⟨fun e => dLD e.symm, dD1⟩
  · rintro i σ H' hi ⟨v4, as, L, bs, rfl, b, ll, hD⟩
    obtain ⟨f1, f2, f3⟩ := few_small hp (show i < 2 by omega)
    walk_at "rl"
    refine ⟨L, bs, Gm.fewN p i, p, rfl, ll, fun row hr => ⟨by rw [fewN_rowlen p i row hr]; omega, Gm.fewN_lt p i row hr⟩, by omega, hp, fun L' cs H2 sm nL' ncs ll' => ?_⟩
    have ht := sm _ _ b.ll.top
    walk_at "rl"
    have hl1 := b.ll.len
    have hl2 := ll'.len
    have hl3 : (Gm.longer (Gm.fewN p i) p).length ≤ 10000 := f3
    have hDL : D ∉ L' :: cs := fun h => by
      rcases List.mem_cons.mp h with e | h
      · have := b.ll.top
        rw [e, nL'] at this
        cases this
      · have := b.ll.top
        rw [ncs D h] at this
        cases this
    refine ⟨D, L', _, _, rfl, rfl, ht, ll'.top, Nat.le_of_lt (mil_line (by rw [List.length_map, List.length_map]; omega)), some (.int (i : Int)), as ++ cs, L', cs, rfl, b.app sm ll' ncs, ll'.keep fun c o hc e => ?_, hDL⟩
    rw [upd_ne (fun z : c = D => hDL (by rw [← z]; rcases hc with e | e; exact e ▸ List.mem_cons_self; exact List.mem_cons_of_mem _ e))]
    exact e
  · rintro σ H' ⟨v4, as, L, bs, rfl, b, ll, hD⟩
    walk_at "rl"
    exact q (by show p < 101; omega) D as H' b.same b.nD b.nas b.ll

/-! ### games made -/
/-- what is no whole number -/
def NoW (K : PySem.W.Frag) (H : Hp) (v : V) : Prop := ∃ (t : String) (b1 b2 : Bool), TyX K H v (.type t) ∧ kitB t "int" = some b1 ∧ kitB t "bool" = some b2 ∧ (b1 && !b2) = false
/-- types stand while all but instances stands -/
theorem tyx_but {K : PySem.W.Frag} {H H' : Hp} {v : V} {t : String} (h : TyX K H v (.type t)) (s : ∀ b o, H b = some o → (∀ C dx fs, o ≠ .ins C dx fs) → H' b = some o) : TyX K H' v (.type t) := by
  cases h with
  | base b =>
    cases b with
    | non => exact .base .non
    | bl y => exact .base (.bl y)
    | int i => exact .base (.int i)
    | str y => exact .base (.str y)
    | flt y => exact .base (.flt y)
    | lst e => exact .base (.lst (s _ _ e fun _ _ _ => by intro z; cases z))
    | frz e => exact .base (.frz (s _ _ e fun _ _ _ => by intro z; cases z))
    | tup e => exact .base (.tup (s _ _ e fun _ _ _ => by intro z; cases z))
    | dK e => exact .base (.dK (s _ _ e fun _ _ _ => by intro z; cases z))
    | dT e => exact .base (.dT (s _ _ e fun _ _ _ => by intro z; cases z))
  | byt b => exact .byt b
  | set e => exact .set (s _ _ e fun _ _ _ => by intro z; cases z)
  | kList e c => exact .kList e c
  | kTuple e c => exact .kTuple e c
  | kDict e c => exact .kDict e c
  | fTuple e => exact .fTuple (s _ _ e fun _ _ _ => by intro z; cases z)
  | fDict e => exact .fDict (s _ _ e fun _ _ _ => by intro z; cases z)
theorem now_but {K : PySem.W.Frag} {H H' : Hp} {v : V} (h : NoW K H v) (s : ∀ b o, H b = some o → (∀ C dx fs, o ≠ .ins C dx fs) → H' b = some o) : NoW K H' v := by
  obtain ⟨t, b1, b2, h1, h2, h3, h4⟩ := h
  exact ⟨t, b1, b2, tyx_but h1 s, h2, h3, h4⟩
theorem now_same {K : PySem.W.Frag} {H H' : Hp} {v : V} (h : NoW K H v) (s : Same H H') : NoW K H' v := now_but h fun b o e _ => s b o e
/-- the first of us that spoils the rising row -/
def LimBad (K : PySem.W.Frag) (H : Hp) (us : List V) : Prop := us = [] ∨ ∃ (ls : List Nat) (u : V) (r : List V), us = NL ls ++ u :: r ∧ ls.Pairwise (· < ·) ∧ (∀ l ∈ ls, 1 ≤ l ∧ l ≤ 12) ∧ (NoW K H u ∨ ∃ i : Int, u = .int i ∧ (i ≤ ((ls.getLastD 0 : Nat) : Int) ∨ 12 < i))
def BadLimits (K : PySem.W.Frag) (H : Hp) (v : V) : Prop := (∃ t : String, TyX K H v (.type t) ∧ kitB t "list" = some false ∧ kitB t "tuple" = some false) ∨ ∃ (a : Addr) (us : List V), v = .ref a ∧ LT H a us ∧ LimBad K H us
theorem badlimits_but {K : PySem.W.Frag} {H H' : Hp} {v : V} (h : BadLimits K H v) (s : ∀ b o, H b = some o → (∀ C dx fs, o ≠ .ins C dx fs) → H' b = some o) : BadLimits K H' v := by
  rcases h with ⟨t, h1, h2⟩ | ⟨a, us, rfl, h1, h2⟩
  · exact .inl ⟨t, tyx_but h1 s, h2⟩
  · refine .inr ⟨a, us, rfl, h1.elim (fun e => .inl (s _ _ e fun _ _ _ => by intro z; cases z)) fun e => .inr (s _ _ e fun _ _ _ => by intro z; cases z), ?_⟩
    rcases h2 with h | ⟨ls, u, r, e, h3, h4, h5 | h5⟩
    · exact .inl h
    · exact .inr ⟨ls, u, r, e, h3, h4, .inl (now_but h5 s)⟩
    · exact .inr ⟨ls, u, r, e, h3, h4, .inr h5⟩
theorem getLastD_take_succ {ls : List Nat} {i m : Nat} (h : ls[i]? = some m) : (ls.take (i + 1)).getLastD 0 = m := by
  rw [List.take_succ, h]
  simp
theorem rise_at {ls : List Nat} (hp : ls.Pairwise (· < ·)) (h1 : ∀ l ∈ ls, 1 ≤ l ∧ l ≤ 12) {i m : Nat} (h : ls[i]? = some m) : (ls.take i).getLastD 0 < m := by
  by_cases c : i = 0
  · subst c
    exact (h1 m (List.mem_of_getElem? h)).1
  · obtain ⟨j, rfl⟩ : ∃ j, i = j + 1 := ⟨i - 1, by omega⟩
    have hj : j + 1 < ls.length := (List.getElem?_eq_some_iff.mp h).1
    obtain ⟨m', e'⟩ : ∃ m', ls[j]? = some m' := ⟨_, List.getElem?_eq_getElem (by omega)⟩
    rw [getLastD_take_succ e']
    have := List.pairwise_iff_getElem.mp hp j (j + 1) (by omega) hj (by omega)
    rw [List.getElem?_eq_getElem (by omega)] at e'
    rw [List.getElem?_eq_getElem hj] at h
    rw [← Option.some.inj e', ← Option.some.inj h]
    exact this
def sp_ginit (C : Addr) : Sp := fun vs H Q _ => ∃ (a dx : Addr) (fs : List (Str × V)), vs = [.ref a] ∧ H a = some (.ins C dx fs) ∧ fs.length < 1000 ∧ ∀ l, H l = none → Q .non (upd (upd H l (.lst [])) a (.ins C dx (putF "known" (.ref l) fs)))
abbrev s_Game___init__ : Stmt := inClass (top 10) 0
theorem sc_Game___init__ : FnScope ["self"] ["self"] (defScope s_Game___init__) := ⟨rfl, rfl, rfl, by decide +kernel, rfl, by decide +kernel, by decide +kernel⟩
theorem ok_Game___init__ (T : Txt K mg) (C : Addr) (cC : Cls K C) (nC : NoAttr K C "known") (f : Addr) (F : ∃ fd, FunD K "__init__" "Game.__init__" (defArgs (inClass (top 10) 0)) (defBody (inClass (top 10) 0)) (defScope (inClass (top 10) 0)) [] [] f fd) : Dn P w K mg base CX0 2 f ["self"] (sp_ginit C) := by
  refine dn_of (k := 1) F sc_Game___init__ (fun _ _ _ _ _ _ us hl => match us, hl with | [_], _ => rfl) (fun cdv A outer s H vs Q E hr h => ?_)
  obtain ⟨a, dx, fs, rfl, ha, hl, q⟩ := h
  refine ⟨_, PSs.nox (pss_one (ps_fld (pv 0) (pe_lst pa_nil) rfl)), ?_⟩
  refine ⟨by show 0 ≤ sizeLine; decide, fun l nl => ?_⟩
  walk_at "rl"
  exact ⟨a, C, dx, fs, rfl, Same.upd nl _ _ ha, cC, nC, hl, q l nl⟩
def sp_asked_limits (K : PySem.W.Frag) : Sp := fun vs H Q E => ∃ v, vs = [v] ∧
  ((∃ (a : Addr) (ls : List Nat), v = .ref a ∧ LT H a (NL ls) ∧ Gm.Rising ls ∧ ∀ D H', Same H H' → H D = none → H' D = some (.lst (NL ls)) → Q (.ref D) H') ∨
   (BadLimits K H v ∧ ∀ H', Same H H' → E (.ref (He.ga K "NotAGame")) none H'))
abbrev s_asked_limits : Stmt := top 18
theorem sc_asked_limits : FnScope ["limits", "last", "limit"] ["limits"] (defScope s_asked_limits) := ⟨rfl, rfl, rfl, by decide +kernel, rfl, by decide +kernel, by decide +kernel⟩
theorem ok_asked_limits (T : Txt K mg) (d_is_whole : Dn P w K mg base CX0 1 (He.ga K "is_whole") ["number"] (sp_is_whole K)) : Dn P w K mg base (L2.CX P w) 2 (He.ga K "asked_limits") ["limits"] (sp_asked_limits K) := by
  refine dn_of (k := 1) T.f_asked_limits sc_asked_limits (fun _ _ _ _ _ _ us hl => match us, hl with | [_], _ => rfl) (fun cdv A outer s H vs Q E hr h => ?_)
  obtain ⟨v, rfl, h⟩ := h
  -- what is a list or a tuple
  have seq : ∀ (a : Addr) (us : List V), LT H a us → ∃ t : String, TyX K H (.ref a) (.type t) ∧ PySem.W.kitAny K (.type t) [.type "list", .type "tuple"] = some true := fun a us h => h.elim
    (fun e => ⟨"list", .base (.lst e), kitAny_cons (b := true) (kit_ty (by decide +kernel)) (fun z => nomatch z) fun _ => rfl⟩)
    (fun e => ⟨"tuple", .base (.tup e), kitAny_cons (b := false) (kit_ty (by decide +kernel)) (fun _ => kitAny_cons (b := true) (kit_ty (by decide +kernel)) (fun z => nomatch z) fun _ => rfl) (fun z => nomatch z)⟩)
  have h' : (∃ t : String, TyX K H v (.type t) ∧ PySem.W.kitAny K (.type t) [.type "list", .type "tuple"] = some false ∧ ∀ H', Same H H' → E (.ref (He.ga K "NotAGame")) none H') ∨
      ∃ (a : Addr) (us : List V), v = .ref a ∧ LT H a us ∧ (∃ t : String, TyX K H (.ref a) (.type t) ∧ PySem.W.kitAny K (.type t) [.type "list", .type "tuple"] = some true) ∧
        ((us = [] ∧ ∀ H', Same H H' → E (.ref (He.ga K "NotAGame")) none H') ∨ ∃ (ls : List Nat) (r : List V), us = NL ls ++ r ∧ us ≠ [] ∧ ls.Pairwise (· < ·) ∧ (∀ l ∈ ls, 1 ≤ l ∧ l ≤ 12) ∧
          ((r = [] ∧ ∀ D H', Same H H' → H D = none → H' D = some (.lst (NL ls)) → Q (.ref D) H') ∨ ∃ (u : V) (r' : List V), r = u :: r' ∧ (NoW K H u ∨ ∃ i : Int, u = .int i ∧ (i ≤ ((ls.getLastD 0 : Nat) : Int) ∨ 12 < i)) ∧ ∀ H', Same H H' → E (.ref (He.ga K "NotAGame")) none H')) := by
    rcases h with ⟨a, ls, rfl, lt, ⟨h1, h2, h3⟩, q⟩ | ⟨⟨t, h1, h2, h3⟩ | ⟨a, us, rfl, lt, h⟩, q⟩
    · exact .inr ⟨a, _, rfl, lt, seq a _ lt, .inr ⟨ls, [], by simp, fun e => h1 (by unfold NL at e; simpa using e), h2, h3, .inl ⟨rfl, q⟩⟩⟩
    · exact .inl ⟨t, h1, kitAny_cons (b := false) (kit_ty h2) (fun _ => kitAny_cons (b := false) (kit_ty h3) (fun _ => rfl) (fun z => nomatch z)) (fun z => nomatch z), q⟩
    · rcases h with rfl | ⟨ls, u, r, rfl, h1, h2, h3⟩
      · exact .inr ⟨a, _, rfl, lt, seq a _ lt, .inl ⟨rfl, q⟩⟩
      · exact .inr ⟨a, _, rfl, lt, seq a _ lt, .inr ⟨ls, u :: r, rfl, by simp, h1, h2, .inr ⟨u, r, rfl, h3, q⟩⟩⟩
  clear h
  refine ⟨_, (pss_cons (ps_if (PW.pt (pw_or (pt_not (pt_val (pe_callB (r := rIsiT K) call_isiT (by rfl) T.n_isinstance (by decide +kernel) (pa_cons (pv 0) (pa_cons (pe_tup (pa_cons (pe_bltn (v := .ty "list") rfl T.n_list (by decide +kernel) rfl) (pa_cons (pe_bltn (v := .ty "tuple") rfl T.n_tuple (by decide +kernel) rfl) pa_nil))) pa_nil))))) (pw_or1 (pt_cmpR op_eqn (pe_callB (r := rLenSeq K) cr_lenseq (by rfl) T.n_len PySem.boot_len (pa_cons (pv 0) pa_nil)) (pe_nat 0) (nomark _))))) (pss_one (ps_raise rfl (takes_of rfl rfl rfl rfl) (pmk_own PySem.F.excBase_ValueError T.x_NotAGame.1 T.g_NotAGame T.x_NotAGame.2.1 (raises_own T.x_NotAGame.2.2.1 T.x_NotAGame.2.2.2) (by exact rfl)))) pss_nil)
      (pss_cons (ps_set (i := 1) sc_asked_limits.nd rfl (by first | exact Or.inl rfl | exact Or.inr rfl) pe_int)
      (pss_cons (ps_for (passes_of rfl) rfl (pi_or (pi_list (pv 0)) (pi_tup (pv 0))) (pg_name (i := 2) sc_asked_limits.nd rfl (by first | exact Or.inl rfl | exact Or.inr rfl))
      (pss_cons (ps_if (PW.pt (pw_or (pt_not (pt_val (pe_cl d_is_whole (hr.mono (by omega)) T.g_is_whole pass0 (pa_cons (pv 2) pa_nil)))) (pw_or (pt_cmpR op_le (pv 2) (pv 1) (nomark _)) (pw_or1 (pt_cmpR op_gt (pv 2) (pe_gint T.c_GREATEST) (nomark _)))))) (pss_one (ps_raise rfl (takes_of rfl rfl rfl rfl) (pmk_own PySem.F.excBase_ValueError T.x_NotAGame.1 T.g_NotAGame T.x_NotAGame.2.1 (raises_own T.x_NotAGame.2.2.1 T.x_NotAGame.2.2.2) (by exact rfl)))) pss_nil)
      (pss_one (ps_set (i := 1) sc_asked_limits.nd rfl (by first | exact Or.inl rfl | exact Or.inr rfl) (pv 2)))))
      (pss_one (ps_ret (pe_callTy (T := "list") (r := rListOf K) cr_listof (by rfl) T.n_list (by decide +kernel) (pa_cons (pv 0) pa_nil))))))), ?_⟩
  walk_at "rl"
  refine ⟨by show 2 ≤ sizeLine; decide, fun tp ntp => ?_⟩
  have s0 := Same.upd ntp (o := .tup [V.ty "list", V.ty "tuple"])
  have e0 := upd_same (H := H) (a := tp) (o := .tup [V.ty "list", V.ty "tuple"])
  generalize upd H tp (.tup [V.ty "list", V.ty "tuple"]) = H1 at *
  rcases h' with ⟨t, h1, h2, q⟩ | ⟨a, us, rfl, lt, ⟨t, h1, h2⟩, h3⟩
  · refine ⟨v, tp, _, _, [.type "list", .type "tuple"], false, rfl, e0, .cons (.ty _) (.cons (.ty _) .nil), tyx_but h1 fun b o e _ => s0 b o e, h2, ?_⟩
    walk_at "rl"
    exact q _ s0
  · have lt1 := LT.same lt s0
    have sq : SqL K H1 a us ∨ SqT K H1 a us := lt1.elim (fun e => .inl (SqL.of e)) fun e => .inr (SqT.of e)
    refine ⟨.ref a, tp, _, _, [.type "list", .type "tuple"], true, rfl, e0, .cons (.ty _) (.cons (.ty _) .nil), tyx_but h1 fun b o e _ => s0 b o e, h2, ?_⟩
    walk_at "rl"
    refine ⟨a, us, rfl, sq, ?_⟩
    walk_at "rl"
    rcases h3 with ⟨rfl, q⟩ | ⟨ls, r, rfl, hne, hp, hl, h4⟩
    · exact q _ s0
    · have hlen : ¬ (NL ls ++ r).length = 0 := fun e => hne (List.length_eq_zero_iff.mp e)
      refine ifN (fun c => absurd c hlen) (fun _ => ?_)
      have hx : H1 a = H1 a := rfl
      refine for_lt (j := 0) (a := a) rfl lt1 (fun i σ H' => H' = H1 ∧ i ≤ ls.length ∧ ∃ v2, σ = [some (.ref a), some (.int (((ls.take i).getLastD 0 : Nat) : Int)), v2]) ⟨rfl, Nat.zero_le _, none, rfl⟩ (fun i σ H' _ h => by rw [h.1]) ?_ ?_
      · rintro i x σ H' hi ⟨rfl, hil, v2, rfl⟩
        by_cases c : i < ls.length
        · rw [List.getElem?_append_left (by rw [NL_length]; exact c)] at hi
          obtain ⟨m, hm, rfl⟩ := NL_at hi
          have h1 := rise_at hp hl hm
          have h2 := hl m (List.mem_of_getElem? hm)
          walk_at "rl"
          refine whole_int ?_
          walk_at "rl"
          refine ifN (fun c => absurd c (by omega)) (fun _ => ?_)
          walk_at "rl"
          refine ifN (fun c => absurd c (by omega)) (fun _ => ?_)
          refine ⟨_, rfl, rfl, c, some (.int (m : Int)), ?_⟩
          rw [getLastD_take_succ hm]
          rfl
        · have e : i = ls.length := by omega
          subst e
          rw [List.getElem?_append_right (by rw [NL_length]; exact Nat.le_refl _), NL_length, Nat.sub_self] at hi
          rcases h4 with ⟨rfl, _⟩ | ⟨u, r', rfl, hu, q⟩
          · cases hi
          · obtain rfl : u = x := Option.some.inj hi
            rcases hu with hu | ⟨k, rfl, hk⟩
            · obtain ⟨t, b1, b2, k1, k2, k3, k4⟩ := now_same hu s0
              walk_at "rl"
              refine ⟨_, t, b1, b2, rfl, k1, k2, k3, ?_⟩
              rw [k4]
              walk_at "rl"
              exact q _ s0
            · walk_at "rl"
              refine whole_int ?_
              walk_at "rl"
              rw [List.take_length]
              refine ifN (fun _ => q _ s0) (fun c1 => ?_)
              walk_at "rl"
              refine ifN (fun _ => q _ s0) (fun c2 => ?_)
              exact absurd hk (by omega)
      · rintro σ H' ⟨rfl, hil, v2, rfl⟩
        rcases h4 with ⟨rfl, q⟩ | ⟨u, r', rfl, _⟩
        · walk_at "rl"
          refine ⟨a, _, rfl, sq, fun D nD => ?_⟩
          rw [List.append_nil]
          exact q D _ (s0.trans (Same.upd nD)) (none_of_same s0 nD) upd_same
        · rw [List.length_append, NL_length, List.length_cons] at hil
          exact absurd hil (by omega)
/-- v: what is handed in -/
def sp_tinit (K : PySem.W.Frag) (C : Addr) : Sp := fun vs H Q E => ∃ (a dx : Addr) (v : V), vs = [.ref a, v] ∧ H a = some (.ins C dx []) ∧
  ((∃ (b : Addr) (ls : List Nat), v = .ref b ∧ LT H b (NL ls) ∧ Gm.Rising ls ∧ ∀ l D H', (∀ b o, H b = some o → b ≠ a → H' b = some o) → H l = none → H D = none → l ≠ D →
      H' a = some (.ins C dx (putF "limits" (.ref D) (putF "known" (.ref l) []))) → H' l = some (.lst []) → H' D = some (.lst (NL ls)) → Q .non H') ∨
   (BadLimits K H v ∧ ∀ H', (∀ b o, H b = some o → b ≠ a → H' b = some o) → E (.ref (He.ga K "NotAGame")) none H'))
abbrev s_Taking___init__ : Stmt := inClass (top 20) 0
theorem sc_Taking___init__ : FnScope ["self", "limits"] ["self", "limits"] (defScope s_Taking___init__) := ⟨rfl, rfl, rfl, by decide +kernel, rfl, by decide +kernel, by decide +kernel⟩
theorem ok_Taking___init__ (T : Txt K mg) (C : Addr) (cC : Cls K C) (nK : NoAttr K C "known") (nL : NoAttr K C "limits") (d_Heap_ginit : Dn P w K mg base CX0 2 (He.ma K (He.ga K "Heap") "__init__") ["self"] (sp_ginit C)) (d_asked_limits : Dn P w K mg base (L2.CX P w) 2 (He.ga K "asked_limits") ["limits"] (sp_asked_limits K)) (f : Addr) (F : ∃ fd, FunD K "__init__" "Taking.__init__" (defArgs (inClass (top 20) 0)) (defBody (inClass (top 20) 0)) (defScope (inClass (top 20) 0)) [] [] f fd) : Dn P w K mg base (L2.CX P w) 5 f ["self", "limits"] (sp_tinit K C) := by
  refine dn_of (k := 4) F sc_Taking___init__ (fun _ _ _ _ _ _ us hl => match us, hl with | [_, _], _ => rfl) (fun cdv A outer s H vs Q E hr h => ?_)
  obtain ⟨a, dx, v, rfl, ha, h⟩ := h
  refine ⟨_, (pss_cons (ps_expr (pe_clsf T.cf_Heap___init__ d_Heap_ginit (hr.mono (by omega)) pass0 (pe_glob (v := .ref (He.ga K "Heap")) rfl T.g_Heap rfl) (pa_cons (pv 0) pa_nil)))
      (pss_one (ps_fld (pv 0) (pe_cl d_asked_limits (hr.mono (by omega)) T.g_asked_limits (passes_call (takes_of rfl rfl rfl rfl) (fun _ _ _ _ h => h)) (pa_cons (pv 1) pa_nil)) rfl))), ?_⟩
  walk_at "rl"
  refine ⟨a, dx, [], rfl, ha, by simp, fun l nl => ?_⟩
  have la : l ≠ a := fun e => by rw [e, ha] at nl; cases nl
  have b1 : ∀ b o, H b = some o → b ≠ a → upd (upd H l (.lst [])) a (.ins C dx (putF "known" (.ref l) [])) b = some o := fun b o e ne => by
    rw [upd_ne ne]
    exact Same.upd nl _ _ e
  have ea := upd_same (H := upd H l (.lst [])) (a := a) (o := .ins C dx (putF "known" (.ref l) []))
  have el : upd (upd H l (.lst [])) a (.ins C dx (putF "known" (.ref l) [])) l = some (.lst []) := by
    rw [upd_ne la, upd_same]
  have nb : ∀ D, upd (upd H l (.lst [])) a (.ins C dx (putF "known" (.ref l) [])) D = none → H D = none := fun D e => by
    have h1 : D ≠ a := fun z => by rw [z, upd_same] at e; cases e
    rw [upd_ne h1] at e
    exact none_of_same (Same.upd nl) e
  have b2 : ∀ b o, H b = some o → (∀ C dx fs, o ≠ .ins C dx fs) → upd (upd H l (.lst [])) a (.ins C dx (putF "known" (.ref l) [])) b = some o := fun b o e no => b1 b o e fun z => by
    rw [z, ha] at e
    exact no _ _ _ (Option.some.inj e).symm
  generalize upd (upd H l (.lst [])) a (.ins C dx (putF "known" (.ref l) [])) = H1 at *
  walk_at "rl"
  rcases h with ⟨b, ls, rfl, lt, hR, q⟩ | ⟨bad, q⟩
  · refine .inl ⟨b, ls, rfl, lt.elim (fun e => .inl (b2 _ _ e fun _ _ _ => by intro z; cases z)) (fun e => .inr (b2 _ _ e fun _ _ _ => by intro z; cases z)), hR, fun D H' sm nD hD => ?_⟩
    have Da : D ≠ a := fun e => by rw [e, ea] at nD; cases nD
    have Dl : D ≠ l := fun e => by rw [e, el] at nD; cases nD
    walk_at "rl"
    refine ⟨a, C, dx, _, rfl, sm _ _ ea, cC, nL, by simp [putF], ?_⟩
    refine q l D _ (fun b o e ne => ?_) nl (nb D nD) Dl.symm upd_same ?_ ?_
    · rw [upd_ne ne]
      exact sm _ _ (b1 b o e ne)
    · rw [upd_ne la]
      exact sm _ _ el
    · rw [upd_ne Da]
      exact hD
  · refine .inr ⟨badlimits_but bad b2, fun H' sm => ?_⟩
    exact q H' fun b o e ne => sm _ _ (b1 b o e ne)
def sp_finit (K : PySem.W.Frag) (C : Addr) : Sp := fun vs H Q E => ∃ (a dx : Addr) (v : V), vs = [.ref a, v] ∧ H a = some (.ins C dx []) ∧
  ((∃ m : Nat, v = .int (m : Int) ∧ 1 ≤ m ∧ m ≤ 3 ∧ ∀ l H', (∀ b o, H b = some o → b ≠ a → H' b = some o) → H l = none → H' a = some (.ins C dx (putF "most" (.int (m : Int)) (putF "known" (.ref l) []))) → H' l = some (.lst []) → Q .non H') ∨
   ((NoW K H v ∨ ∃ i : Int, v = .int i ∧ (i < 1 ∨ 3 < i)) ∧ ∀ H', (∀ b o, H b = some o → b ≠ a → H' b = some o) → E (.ref (He.ga K "NotAGame")) none H'))
abbrev s_Few___init__ : Stmt := inClass (top 14) 0
theorem sc_Few___init__ : FnScope ["self", "most"] ["self", "most"] (defScope s_Few___init__) := ⟨rfl, rfl, rfl, by decide +kernel, rfl, by decide +kernel, by decide +kernel⟩
theorem ok_Few___init__ (T : Txt K mg) (C : Addr) (cC : Cls K C) (nK : NoAttr K C "known") (nM : NoAttr K C "most") (d_Game_ginit : Dn P w K mg base CX0 2 (He.ma K (He.ga K "Game") "__init__") ["self"] (sp_ginit C)) (d_is_whole : Dn P w K mg base CX0 1 (He.ga K "is_whole") ["number"] (sp_is_whole K)) (f : Addr) (F : ∃ fd, FunD K "__init__" "Few.__init__" (defArgs (inClass (top 14) 0)) (defBody (inClass (top 14) 0)) (defScope (inClass (top 14) 0)) [] [] f fd) : Dn P w K mg base (L2.CX P w) 5 f ["self", "most"] (sp_finit K C) := by
  refine dn_of (k := 4) F sc_Few___init__ (fun _ _ _ _ _ _ us hl => match us, hl with | [_, _], _ => rfl) (fun cdv A outer s H vs Q E hr h => ?_)
  obtain ⟨a, dx, v, rfl, ha, h⟩ := h
  refine ⟨_, (pss_cons (ps_expr (pe_clsf T.cf_Game___init__ d_Game_ginit (hr.mono (by omega)) pass0 (pe_glob (v := .ref (He.ga K "Game")) rfl T.g_Game rfl) (pa_cons (pv 0) pa_nil)))
      (pss_cons (ps_if (PW.pt (pw_or (pt_not (pt_val (pe_cl d_is_whole (hr.mono (by omega)) T.g_is_whole pass0 (pa_cons (pv 1) pa_nil)))) (pw_or (pt_cmpR op_lt (pv 1) pe_int (nomark _)) (pw_or1 (pt_cmpR op_gt (pv 1) pe_int (nomark _)))))) (pss_one (ps_raise rfl (takes_of rfl rfl rfl rfl) (pmk_own PySem.F.excBase_ValueError T.x_NotAGame.1 T.g_NotAGame T.x_NotAGame.2.1 (raises_own T.x_NotAGame.2.2.1 T.x_NotAGame.2.2.2) (by exact rfl)))) pss_nil)
      (pss_one (ps_fld (pv 0) (pv 1) rfl)))), ?_⟩
  walk_at "rl"
  refine ⟨a, dx, [], rfl, ha, by simp, fun l nl => ?_⟩
  have la : l ≠ a := fun e => by rw [e, ha] at nl; cases nl
  have b1 : ∀ b o, H b = some o → b ≠ a → upd (upd H l (.lst [])) a (.ins C dx (putF "known" (.ref l) [])) b = some o := fun b o e ne => by
    rw [upd_ne ne]
    exact Same.upd nl _ _ e
  have ea := upd_same (H := upd H l (.lst [])) (a := a) (o := .ins C dx (putF "known" (.ref l) []))
  have el : upd (upd H l (.lst [])) a (.ins C dx (putF "known" (.ref l) [])) l = some (.lst []) := by
    rw [upd_ne la, upd_same]
  have b2 : ∀ b o, H b = some o → (∀ C dx fs, o ≠ .ins C dx fs) → upd (upd H l (.lst [])) a (.ins C dx (putF "known" (.ref l) [])) b = some o := fun b o e no => b1 b o e fun z => by
    rw [z, ha] at e
    exact no _ _ _ (Option.some.inj e).symm
  generalize upd (upd H l (.lst [])) a (.ins C dx (putF "known" (.ref l) [])) = H1 at *
  walk_at "rl"
  rcases h with ⟨m, rfl, h1, h3, q⟩ | ⟨hn | ⟨i, rfl, hi⟩, q⟩
  · refine whole_int ?_
    walk_at "rl"
    refine ifN (fun c => absurd c (by omega)) (fun _ => ?_)
    walk_at "rl"
    refine ifN (fun c => absurd c (by omega)) (fun _ => ?_)
    walk_at "rl"
    refine ⟨a, C, dx, _, rfl, ea, cC, nM, by simp [putF], ?_⟩
    refine q l _ (fun b o e ne => ?_) nl upd_same ?_
    · rw [upd_ne ne]
      exact b1 b o e ne
    · rw [upd_ne la]
      exact el
  · obtain ⟨t, k1, k2, g1, g2, g3, g4⟩ := now_but hn b2
    refine ⟨_, t, k1, k2, rfl, g1, g2, g3, ?_⟩
    rw [g4]
    walk_at "rl"
    exact q _ b1
  · refine whole_int ?_
    walk_at "rl"
    refine ifN (fun _ => q _ b1) (fun c1 => ?_)
    walk_at "rl"
    refine ifN (fun _ => q _ b1) (fun c2 => ?_)
    exact absurd hi (by omega)
/-! ### how many leads a place has -/
theorem few_le {k : Gm.Kind} (ok : k.Ok) (nt : match k with | .told _ => False | _ => True) {p : Nat} (hp : p ≤ 100) : (k.L p).length ≤ 1000000 := by
  cases k with
  | still => exact Nat.zero_le _
  | heap => show ((List.range p).map _).length ≤ _; rw [List.length_map, List.length_range]; omega
  | taking ls =>
    have h1 : (Gm.rests ls p).length ≤ 12 := by
      unfold Gm.rests
      rw [List.length_map]
      refine Nat.le_trans (List.length_filter_le _ _) ?_
      rw [List.length_reverse]
      exact Gm.Rising.len ok
    show ((Gm.rests ls p).map _).length ≤ _
    rw [List.length_map]
    omega
  | skittles ls =>
    have h1 : (Gm.rests ls p).length ≤ 12 := by
      unfold Gm.rests
      rw [List.length_map]
      refine Nat.le_trans (List.length_filter_le _ _) ?_
      rw [List.length_reverse]
      exact Gm.Rising.len ok
    have h2 : ∀ (rs : List Nat), (∀ r ∈ rs, r ≤ 100) → (rs.flatMap fun r => (List.range (r / 2 + 1)).map fun q => [q, r - q]).length ≤ 51 * rs.length := by
      intro rs
      induction rs with
      | nil => intro _; exact Nat.zero_le _
      | cons r t ih =>
        intro h
        have h1 := ih fun m hm => h m (List.mem_cons_of_mem _ hm)
        have h2 := h r List.mem_cons_self
        rw [List.flatMap_cons, List.length_append, List.length_map, List.length_range, List.length_cons]
        omega
    have h3 := h2 (Gm.rests ls p) fun r hr => by have := Gm.rests_lt ok hr; omega
    show (List.flatMap _ _).length ≤ _
    omega
  | parting => show ((List.range' 1 _).map _).length ≤ _; rw [List.length_map, List.length_range']; omega
  | runs => show ((List.range (p + 1)).map _).length ≤ _; rw [List.length_map, List.length_range]; omega
  | pairs => show ((List.range p).map _).length ≤ _; rw [List.length_map, List.length_range]; omega
  | few m =>
    have hl : ∀ rows : List (List Nat), (Gm.longer rows p).length ≤ rows.length * p := by
      intro rows
      induction rows with
      | nil => exact Nat.zero_le _
      | cons row t ih =>
        unfold Gm.longer at ih ⊢
        rw [List.flatMap_cons, List.length_append, List.length_map, List.length_range', List.length_cons, Nat.succ_mul]
        omega
    have h0 : (Gm.fewN p 0).length = 1 := rfl
    have h1 := hl (Gm.fewN p 0)
    have h2 := hl (Gm.fewN p 1)
    rw [h0, Nat.one_mul] at h1
    have e1 : (Gm.fewN p 1).length ≤ 100 := Nat.le_trans h1 hp
    have e2 : (Gm.fewN p 2).length ≤ 10000 := Nat.le_trans h2 (Nat.mul_le_mul e1 hp)
    have ok : 1 ≤ m ∧ m ≤ 3 := ok
    have hm : m = 1 ∨ m = 2 ∨ m = 3 := by omega
    rcases hm with rfl | rfl | rfl
    · show (Gm.fewAll p 0).length ≤ _
      exact (by decide : 1 ≤ 1000000)
    · show (Gm.fewAll p 0 ++ Gm.fewN p 1).length ≤ _
      rw [List.length_append]
      have : (Gm.fewAll p 0).length = 1 := rfl
      omega
    · show ((Gm.fewAll p 0 ++ Gm.fewN p 1) ++ Gm.fewN p 2).length ≤ _
      rw [List.length_append, List.length_append]
      have : (Gm.fewAll p 0).length = 1 := rfl
      omega
  | told rows => exact nt.elim
theorem told_le {rows : List (List (List Nat))} (h : Gm.Kind.Ok (.told rows) ∧ ∀ leads ∈ rows, leads.length ≤ 1000000) (p : Nat) : ((Gm.Kind.told rows).L p).length ≤ 1000000 := by
  show (rows.getD p []).length ≤ _
  rw [List.getD_eq_getElem?_getD]
  cases e : rows[p]? with
  | none => exact Nat.zero_le _
  | some leads => exact h.2 leads (List.mem_of_getElem? e)

theorem mk_lim {K : PySem.W.Frag} {k : Gm.Kind} {ls : List Nat} {H : Hp} {g l D dx : Addr} (h : lim k = some ls) (hg : H g = some (.ins (kC K k) dx (putF "limits" (.ref D) (putF "known" (.ref l) [])))) (hl : H l = some (.lst [])) (hD : H D = some (.lst (NL ls))) (ne : D ≠ l) : GameAt K k H g l D 0 := by
  refine ⟨⟨dx, ?_⟩, hl, fun H' b => ?_⟩
  · rw [hg]
    cases k <;> first | rfl | (cases h; done)
  · have := b D _ hD ne
    cases k <;> first | (cases h; exact this) | (cases h; done)
theorem mk_few {K : PySem.W.Frag} {m : Nat} {H : Hp} {g l dx : Addr} (hg : H g = some (.ins (kC K (.few m)) dx (putF "most" (.int (m : Int)) (putF "known" (.ref l) [])))) (hl : H l = some (.lst [])) : GameAt K (.few m) H g l l 0 :=
  ⟨⟨dx, hg⟩, hl, fun _ _ => trivial⟩
theorem mk_plain {K : PySem.W.Frag} {k : Gm.Kind} (hk : k = .still ∨ k = .heap ∨ k = .parting ∨ k = .runs ∨ k = .pairs) {H : Hp} {g l dx : Addr} (hg : H g = some (.ins (kC K k) dx (putF "known" (.ref l) []))) (hl : H l = some (.lst [])) : GameAt K k H g l l 0 := by
  rcases hk with rfl | rfl | rfl | rfl | rfl <;> exact ⟨⟨dx, hg⟩, hl, fun _ _ => trivial⟩
/-- from ahead of the making -/
theorem made_same {H H' : Hp} {x dx C : Addr} (hx : H x = none) (hd : H dx = none) (b : ∀ c o, upd (upd H dx (.own x)) x (.ins C dx []) c = some o → c ≠ x → H' c = some o) : Same H H' := fun c o e => by
  have h1 : c ≠ x := ne_of_none e hx
  have h2 : c ≠ dx := ne_of_none e hd
  exact b c o (by rw [upd_ne h1, upd_ne h2]; exact e) h1
theorem none2 {H : Hp} {x dx C l : Addr} (h : upd (upd H dx (.own x)) x (.ins C dx []) l = none) : H l = none := by
  have h1 : l ≠ x := fun e => by rw [e, upd_same] at h; cases h
  have h2 : l ≠ dx := fun e => by rw [upd_ne h1, e, upd_same] at h; cases h
  rwa [upd_ne h1, upd_ne h2] at h
/-- C(): what is left to be shown, behind intro x dx nx nd ne -/
theorem few_plain {K : PySem.W.Frag} {C : Addr} (k : Gm.Kind) (hk : k = .still ∨ k = .heap ∨ k = .parting ∨ k = .runs ∨ k = .pairs) (hC : kC K k = C) {H : Hp} {R : VK} {E : XK} {x dx : Addr} (nx : H x = none) (nd : H dx = none) (ne : dx ≠ x)
    (q : ∀ l H', Same H H' → GameAt K k H' x l l 0 → H l = none → l ≠ x → R .non H') : few ["self"] (sp_ginit C) [.ref x] (upd (upd H dx (.own x)) x (.ins C dx [])) R E := by
  refine ⟨rfl, x, dx, [], rfl, upd_same, by simp, fun l nl => ?_⟩
  have lx : l ≠ x := fun e => by rw [e, upd_same] at nl; cases nl
  refine q l _ (made_same (C := C) nx nd fun c o e h => ?_) (mk_plain hk (by rw [hC]; exact upd_same) ?_) (none2 nl) lx
  · rw [upd_ne h]
    exact Same.upd nl _ _ e
  · rw [upd_ne lx, upd_same]
theorem few_lim {K : PySem.W.Frag} {C b : Addr} {ls : List Nat} {H : Hp} {R : VK} {E : XK} {x dx : Addr} (nx : H x = none) (nd : H dx = none) (ne : dx ≠ x) (lt : LT H b (NL ls)) (hR : Gm.Rising ls)
    (q : ∀ l D H', Same H H' → H' x = some (.ins C dx (putF "limits" (.ref D) (putF "known" (.ref l) []))) → H' l = some (.lst []) → H' D = some (.lst (NL ls)) → D ≠ l → H l = none → H D = none → l ≠ x → D ≠ x → R .non H') :
    few ["self", "limits"] (sp_tinit K C) [.ref x, .ref b] (upd (upd H dx (.own x)) x (.ins C dx [])) R E := by
  have sm : Same H (upd (upd H dx (.own x)) x (.ins C dx [])) := (Same.upd nd).trans (Same.upd (by rw [upd_ne (fun e => ne e.symm)]; exact nx))
  refine ⟨rfl, x, dx, .ref b, rfl, upd_same, .inl ⟨b, ls, rfl, LT.same lt sm, hR, fun l D H' bt nl nD lD hg hl hD => ?_⟩⟩
  refine q l D H' (made_same (C := C) nx nd bt) hg hl hD lD.symm (none2 nl) (none2 nD) (fun e => ?_) (fun e => ?_)
  · rw [e, upd_same] at nl; cases nl
  · rw [e, upd_same] at nD; cases nD
theorem few_limC {K : PySem.W.Frag} {C b : Addr} {ls : List Nat} {H : Hp} {R : VK} {E : XK} {x dx : Addr} (nx : H x = none) (nd : H dx = none) (ne : dx ≠ x) (lt : LT H b (NL ls)) (hR : Gm.Rising ls)
    (q : ∀ l D H', Same H H' → H' x = some (.ins C dx (putF "limits" (.ref D) (putF "known" (.ref l) []))) → H' l = some (.lst []) → H' D = some (.lst (NL ls)) → D ≠ l → H l = none → H D = none → l ≠ x → D ≠ x → R .non H') :
    few ["self", "limits"] (fun vs H Q _ => sp_tinit K C vs H Q E0) [.ref x, .ref b] (upd (upd H dx (.own x)) x (.ins C dx [])) R E :=
  let h := few_lim (K := K) (C := C) (E := E0) nx nd ne lt hR q
  ⟨h.1, h.2⟩
theorem few_few {K : PySem.W.Frag} {C : Addr} {m : Nat} (hC : kC K (.few m) = C) {H : Hp} {R : VK} {E : XK} {x dx : Addr} (nx : H x = none) (nd : H dx = none) (ne : dx ≠ x) (h1 : 1 ≤ m) (h3 : m ≤ 3)
    (q : ∀ l H', Same H H' → GameAt K (.few m) H' x l l 0 → H l = none → l ≠ x → R .non H') : few ["self", "most"] (sp_finit K C) [.ref x, .int (m : Int)] (upd (upd H dx (.own x)) x (.ins C dx [])) R E := by
  refine ⟨rfl, x, dx, .int (m : Int), rfl, upd_same, .inl ⟨m, rfl, h1, h3, fun l H' bt nl hg hl => ?_⟩⟩
  refine q l H' (made_same (C := C) nx nd bt) (mk_few (by rw [hC]; exact hg) hl) (none2 nl) (fun e => ?_)
  rw [e, upd_same] at nl; cases nl
theorem few_fewC {K : PySem.W.Frag} {C : Addr} {m : Nat} (hC : kC K (.few m) = C) {H : Hp} {R : VK} {E : XK} {x dx : Addr} (nx : H x = none) (nd : H dx = none) (ne : dx ≠ x) (h1 : 1 ≤ m) (h3 : m ≤ 3)
    (q : ∀ l H', Same H H' → GameAt K (.few m) H' x l l 0 → H l = none → l ≠ x → R .non H') : few ["self", "most"] (fun vs H Q _ => sp_finit K C vs H Q E0) [.ref x, .int (m : Int)] (upd (upd H dx (.own x)) x (.ins C dx [])) R E :=
  let h := few_few (K := K) hC (E := E0) nx nd ne h1 h3 q
  ⟨h.1, h.2⟩
theorem few_limB {K : PySem.W.Frag} {C : Addr} {v : V} {H : Hp} {R : VK} {E : XK} {x dx : Addr} (nx : H x = none) (nd : H dx = none) (ne : dx ≠ x) (bad : BadLimits K H v)
    (q : ∀ H', Same H H' → E (.ref (He.ga K "NotAGame")) none H') : few ["self", "limits"] (sp_tinit K C) [.ref x, v] (upd (upd H dx (.own x)) x (.ins C dx [])) R E := by
  have sm : Same H (upd (upd H dx (.own x)) x (.ins C dx [])) := (Same.upd nd).trans (Same.upd (by rw [upd_ne (fun e => ne e.symm)]; exact nx))
  exact ⟨rfl, x, dx, v, rfl, upd_same, .inr ⟨badlimits_but bad fun b o e _ => sm b o e, fun H' bt => q H' (made_same (C := C) nx nd bt)⟩⟩
theorem few_fewB {K : PySem.W.Frag} {C : Addr} {v : V} {H : Hp} {R : VK} {E : XK} {x dx : Addr} (nx : H x = none) (nd : H dx = none) (ne : dx ≠ x) (bad : NoW K H v ∨ ∃ i : Int, v = .int i ∧ (i < 1 ∨ 3 < i))
    (q : ∀ H', Same H H' → E (.ref (He.ga K "NotAGame")) none H') : few ["self", "most"] (sp_finit K C) [.ref x, v] (upd (upd H dx (.own x)) x (.ins C dx [])) R E := by
  have sm : Same H (upd (upd H dx (.own x)) x (.ins C dx [])) := (Same.upd nd).trans (Same.upd (by rw [upd_ne (fun e => ne e.symm)]; exact nx))
  exact ⟨rfl, x, dx, v, rfl, upd_same, .inr ⟨bad.imp (fun h => now_same h sm) id, fun H' bt => q H' (made_same (C := C) nx nd bt)⟩⟩
/-- ifs whose tests are settled -/
local macro_rules | `(tactic| walk_at "ks") => `(tactic| repeat (first
  | (refine ifN (fun c => absurd c (by decide)) (fun _ => ?_))
  | (refine ifN (fun _ => ?_) (fun c => absurd (by decide) c))
  | (refine iteT ?_)
  | (refine iteF ?_)
  | (refine ⟨_, rfl, ?_⟩)
  | (refine ⟨_, _, rfl, rfl, ?_⟩)
  | (refine ⟨rfl, ?_⟩)))

/-! ### names -/
/-- a number as a text -/
def nS (n : Nat) : Str := Str.ofString (toString ((n : Nat) : Int))
theorem nS_len {n : Nat} (h : n < 1000) : (nS n).length ≤ 3 := by
  rw [TL.len_tl]
  unfold nS
  rw [TL.tl_num]
  exact TL.numL_len (by decide) (by omega)
/-- limits with blanks between -/
def wordsOf (ls : List Nat) : Str := Txt.join (Str.ofString " ") (ls.map nS)
def nameOf : Gm.Kind → Str
  | .still => "still"
  | .heap => "heap"
  | .taking ls => Str.ofString "taking " ++ wordsOf ls
  | .skittles ls => Str.ofString "skittles " ++ wordsOf ls
  | .parting => "parting"
  | .runs => "runs"
  | .pairs => "pairs"
  | .few m => Str.ofString "few " ++ nS m
  | .told rows => Str.ofString "told " ++ nS rows.length
def sp_name (K : PySem.W.Frag) (k : Gm.Kind) : Sp := fun vs H Q _ => ∃ (g l x : Addr) (n : Nat), vs = [.ref g] ∧ GameAt K k H g l x n ∧ ∀ H', Same H H' → Q (.str (nameOf k)) H'
theorem nS_log {n : Nat} (h : n < 1000) : ((n : Nat) : Int).natAbs.log2 < 1920 := by
  have e : ((n : Nat) : Int).natAbs = n := rfl
  rw [e]
  by_cases c : n = 0
  · rw [c]; decide
  · have := (Nat.log2_lt c).mpr (show n < 2 ^ 1920 from Nat.lt_of_lt_of_le h (by decide +kernel))
    exact this
theorem sum_le_mul {xs : List Nat} {b : Nat} (h : ∀ x ∈ xs, x ≤ b) : xs.sum ≤ xs.length * b := by
  induction xs with
  | nil => exact Nat.zero_le _
  | cons a t ih =>
    have h1 := h a List.mem_cons_self
    have h2 := ih fun y hy => h y (List.mem_cons_of_mem _ hy)
    rw [List.sum_cons, List.length_cons, Nat.succ_mul]
    omega
theorem small_join {ls : List Nat} (hl : ls.length ≤ 1000) (h : ∀ n ∈ ls, n < 1000) : ((ls.map nS).map (·.length)).sum + (ls.map nS).length * (Str.ofString " ").length ≤ 16777216 := by
  have h1 : ((ls.map nS).map (·.length)).sum ≤ ((ls.map nS).map (·.length)).length * 3 := sum_le_mul fun x hx => by
    obtain ⟨y, hy, rfl⟩ := List.mem_map.mp hx
    obtain ⟨z, hz, rfl⟩ := List.mem_map.mp hy
    exact nS_len (h z hz)
  have h2 : (Str.ofString " ").length = 1 := by decide +kernel
  rw [h2]
  simp only [List.length_map] at h1 ⊢
  omega
theorem wordsOf_len {ls : List Nat} (hl : ls.length ≤ 1000) (h : ∀ n ∈ ls, n < 1000) : (wordsOf ls).length ≤ 4000 := by
  unfold wordsOf
  rw [TL.join_eq]
  refine Nat.le_trans (StrLaws.join_length_le _ _) ?_
  have h1 : ((ls.map nS).map (·.length)).sum ≤ ((ls.map nS).map (·.length)).length * 3 := sum_le_mul fun x hx => by
    obtain ⟨y, hy, rfl⟩ := List.mem_map.mp hx
    obtain ⟨z, hz, rfl⟩ := List.mem_map.mp hy
    exact nS_len (h z hz)
  have h2 : (Str.ofString " ").length = 1 := by decide +kernel
  rw [h2]
  simp only [List.length_map] at h1 ⊢
  omega
/-- words put behind, each with a blank ahead -/
def wl (base : Str) (ls : List Nat) : Str := ls.foldl (fun w l => w ++ Str.ofString " " ++ nS l) base
theorem wl_snoc (base : Str) (ls : List Nat) {i m : Nat} (h : ls[i]? = some m) : wl base (ls.take (i + 1)) = wl base (ls.take i) ++ Str.ofString " " ++ nS m := by
  unfold wl
  rw [List.take_succ, h, List.foldl_append]
  rfl
theorem tl_wl : ∀ (ls : List Nat) (base : Str), TL.tl (wl base ls) = TL.tl base ++ ls.flatMap fun l => TL.tl (Str.ofString " ") ++ TL.tl (nS l)
  | [], base => by simp [wl]
  | l :: r, base => by
    show TL.tl (wl (base ++ Str.ofString " " ++ nS l) r) = _
    rw [tl_wl r, TL.tl_append, TL.tl_append, List.flatMap_cons, List.append_assoc, List.append_assoc, List.append_assoc]
theorem joinL_cons (S p : List Nat) : ∀ r : List (List Nat), TL.joinL S (p :: r) = p ++ r.flatMap fun x => S ++ x
  | [] => (List.append_nil p).symm
  | x :: r => by
    show p ++ (S ++ TL.joinL S (x :: r)) = _
    rw [joinL_cons S x r, List.flatMap_cons, List.append_assoc]
theorem wl_words (base : Str) {ls : List Nat} (h : ls ≠ []) : wl base ls = base ++ Str.ofString " " ++ wordsOf ls := by
  refine TL.ext_tl ?_
  rw [tl_wl, TL.tl_append, TL.tl_append]
  unfold wordsOf
  rw [TL.join_eq, TL.tl_join]
  cases ls with
  | nil => exact absurd rfl h
  | cons l r =>
    rw [List.map_cons, List.map_cons, joinL_cons, List.flatMap_cons, List.flatMap_map, List.flatMap_map, List.append_assoc, List.append_assoc]
theorem wl_len {base : Str} : ∀ {ls : List Nat}, (∀ n ∈ ls, n < 1000) → (wl base ls).length ≤ base.length + 4 * ls.length
  | ls, h => by
    rw [TL.len_tl, tl_wl, List.length_append, ← TL.len_tl]
    have : ∀ ls : List Nat, (∀ n ∈ ls, n < 1000) → (ls.flatMap fun l => TL.tl (Str.ofString " ") ++ TL.tl (nS l)).length ≤ 4 * ls.length := by
      intro ls
      induction ls with
      | nil => intro _; exact Nat.le_refl _
      | cons l r ih =>
        intro h
        have h1 := ih fun n hn => h n (List.mem_cons_of_mem _ hn)
        have h2 := nS_len (h l List.mem_cons_self)
        have h3 : (TL.tl (Str.ofString " ")).length = 1 := by decide +kernel
        rw [TL.len_tl] at h2
        rw [List.flatMap_cons, List.length_append, List.length_append, List.length_cons, h3]
        omega
    have := this ls h
    omega
theorem str_line {n : Nat} (h : n ≤ 1000000) : n ≤ sizeLine := by rw [sizeLine_eq]; omega
abbrev s_Game_name : Stmt := inClass (top 10) 2
theorem sc_Game_name : FnScope ["self"] ["self"] (defScope s_Game_name) := ⟨rfl, rfl, rfl, by decide +kernel, rfl, by decide +kernel, by decide +kernel⟩
theorem ok_Game_name (T : Txt K mg) : Dn P w K mg base CX0 9 (He.ma K (He.ga K "Game") "name") ["self"] (sp_name K .still) := by
  refine dn_of (k := 8) T.f_Game_name sc_Game_name (fun _ _ _ _ _ _ us hl => match us, hl with | [_], _ => rfl) (fun cdv A outer s H vs Q E hr h => ?_)
  obtain ⟨g, l, x, n, rfl, ga, q⟩ := h
  refine ⟨_, PSs.nox (pss_one (ps_ret pe_str)), ?_⟩
  exact q _ (Same.refl _)
abbrev s_Heap_name : Stmt := inClass (top 19) 1
theorem sc_Heap_name : FnScope ["self"] ["self"] (defScope s_Heap_name) := ⟨rfl, rfl, rfl, by decide +kernel, rfl, by decide +kernel, by decide +kernel⟩
theorem ok_Heap_name (T : Txt K mg) : Dn P w K mg base CX0 9 (He.ma K (He.ga K "Heap") "name") ["self"] (sp_name K .heap) := by
  refine dn_of (k := 8) T.f_Heap_name sc_Heap_name (fun _ _ _ _ _ _ us hl => match us, hl with | [_], _ => rfl) (fun cdv A outer s H vs Q E hr h => ?_)
  obtain ⟨g, l, x, n, rfl, ga, q⟩ := h
  refine ⟨_, PSs.nox (pss_one (ps_ret pe_str)), ?_⟩
  exact q _ (Same.refl _)
abbrev s_Parting_name : Stmt := inClass (top 22) 1
theorem sc_Parting_name : FnScope ["self"] ["self"] (defScope s_Parting_name) := ⟨rfl, rfl, rfl, by decide +kernel, rfl, by decide +kernel, by decide +kernel⟩
theorem ok_Parting_name (T : Txt K mg) : Dn P w K mg base CX0 9 (He.ma K (He.ga K "Parting") "name") ["self"] (sp_name K .parting) := by
  refine dn_of (k := 8) T.f_Parting_name sc_Parting_name (fun _ _ _ _ _ _ us hl => match us, hl with | [_], _ => rfl) (fun cdv A outer s H vs Q E hr h => ?_)
  obtain ⟨g, l, x, n, rfl, ga, q⟩ := h
  refine ⟨_, PSs.nox (pss_one (ps_ret pe_str)), ?_⟩
  exact q _ (Same.refl _)
abbrev s_Runs_name : Stmt := inClass (top 12) 1
theorem sc_Runs_name : FnScope ["self"] ["self"] (defScope s_Runs_name) := ⟨rfl, rfl, rfl, by decide +kernel, rfl, by decide +kernel, by decide +kernel⟩
theorem ok_Runs_name (T : Txt K mg) : Dn P w K mg base CX0 9 (He.ma K (He.ga K "Runs") "name") ["self"] (sp_name K .runs) := by
  refine dn_of (k := 8) T.f_Runs_name sc_Runs_name (fun _ _ _ _ _ _ us hl => match us, hl with | [_], _ => rfl) (fun cdv A outer s H vs Q E hr h => ?_)
  obtain ⟨g, l, x, n, rfl, ga, q⟩ := h
  refine ⟨_, PSs.nox (pss_one (ps_ret pe_str)), ?_⟩
  exact q _ (Same.refl _)
abbrev s_Pairs_name : Stmt := inClass (top 13) 1
theorem sc_Pairs_name : FnScope ["self"] ["self"] (defScope s_Pairs_name) := ⟨rfl, rfl, rfl, by decide +kernel, rfl, by decide +kernel, by decide +kernel⟩
theorem ok_Pairs_name (T : Txt K mg) : Dn P w K mg base CX0 9 (He.ma K (He.ga K "Pairs") "name") ["self"] (sp_name K .pairs) := by
  refine dn_of (k := 8) T.f_Pairs_name sc_Pairs_name (fun _ _ _ _ _ _ us hl => match us, hl with | [_], _ => rfl) (fun cdv A outer s H vs Q E hr h => ?_)
  obtain ⟨g, l, x, n, rfl, ga, q⟩ := h
  refine ⟨_, PSs.nox (pss_one (ps_ret pe_str)), ?_⟩
  exact q _ (Same.refl _)
abbrev s_Few_name : Stmt := inClass (top 14) 2
theorem sc_Few_name : FnScope ["self"] ["self"] (defScope s_Few_name) := ⟨rfl, rfl, rfl, by decide +kernel, rfl, by decide +kernel, by decide +kernel⟩
theorem ok_Few_name (T : Txt K mg) (ok : Gm.Kind → Prop) (G : Games K ok) (KK : Kinds ok) (m : Nat) (hk : ok (.few m)) : Dn P w K mg base CX0 9 (He.ma K (He.ga K "Few") "name") ["self"] (sp_name K (.few m)) := by
  refine dn_of (k := 8) T.f_Few_name sc_Few_name (fun _ _ _ _ _ _ us hl => match us, hl with | [_], _ => rfl) (fun cdv A outer s H vs Q E hr h => ?_)
  obtain ⟨g, l, x, n, rfl, ga, q⟩ := h
  obtain ⟨dx, hg⟩ := ga.ob
  have hm : 1 ≤ m ∧ m ≤ 3 := KK.good _ hk
  refine ⟨_, PSs.nox (pss_one (ps_ret (pe_op op_add_str pe_str (pe_callTy (T := "str") call_str_int (by rfl) T.n_str (by decide +kernel) (pa_cons (pe_fld (pv 0) rfl) pa_nil))))), ?_⟩
  walk_at "rl"
  refine ⟨g, _, _, _, _, rfl, hg, G.cls _ hk, G.most _ hk, kfs_most _ _ _, ?_⟩
  walk_at "rl"
  refine ⟨nS_log (by omega), ?_⟩
  walk_at "rl"
  have h1 : (Str.ofString "few ").length = 4 := by decide +kernel
  have h2 := nS_len (n := m) (by omega)
  unfold nS at h2
  refine ⟨str_line (by rw [h1]; omega), ?_⟩
  exact q _ (Same.refl _)
def sp_tname (K : PySem.W.Frag) (ok : Gm.Kind → Prop) : Sp := fun vs H Q _ => ∃ (k : Gm.Kind) (ls : List Nat) (g l x : Addr) (n : Nat), vs = [.ref g] ∧ ok k ∧ lim k = some ls ∧ GameAt K k H g l x n ∧ ∀ H', Same H H' → Q (.str (Str.ofString "taking " ++ wordsOf ls)) H'
theorem lim_good {ok : Gm.Kind → Prop} (KK : Kinds ok) {k : Gm.Kind} {ls : List Nat} (hk : ok k) (h : lim k = some ls) : Gm.Rising ls := by
  have := KK.good k hk
  cases k <;> first | (cases h; exact this) | (cases h; done)
abbrev s_Taking_name : Stmt := inClass (top 20) 3
theorem sc_Taking_name : FnScope ["self", "limit"] ["self"] (defScope s_Taking_name) := ⟨rfl, rfl, rfl, by decide +kernel, rfl, by decide +kernel, by decide +kernel⟩
theorem ok_Taking_name (T : Txt K mg) (ok : Gm.Kind → Prop) (G : Games K ok) (KK : Kinds ok) : Dn P w K mg base CX0 9 (He.ma K (He.ga K "Taking") "name") ["self"] (sp_tname K ok) := by
  refine dn_of (k := 8) T.f_Taking_name sc_Taking_name (fun _ _ _ _ _ _ us hl => match us, hl with | [_], _ => rfl) (fun cdv A outer s H vs Q E hr h => ?_)
  obtain ⟨k, ls, g, l, x, n, rfl, hk, hl, ga, q⟩ := h
  obtain ⟨dx, hg⟩ := ga.ob
  have hR := lim_good KK hk hl
  have hx := kst_limits hl (ga.st H fun _ _ e _ => e)
  have h12 : ∀ m ∈ ls, m < 1000 := fun m hm => by have := (hR.2.2 m hm).2; omega
  have hll := hR.len
  refine ⟨_, PSs.nox (pss_one (ps_ret (pe_op op_add_str pe_str (pe_join pe_str (pe_lc (own := [("limit", 1)]) (g := gName 1) (by rfl) sc_Taking_name.nd (pi_list (pe_fld (pv 0) rfl)) (blkOk_by (own := [("limit", 1)]) (N := ["self", "limit"]) (sc := defScope (s_Taking_name)) (by decide +kernel)) (fun _ _ _ _ _ => pg_name (i := 1) sc_Taking_name.nd rfl (by first | exact Or.inl rfl | exact Or.inr rfl)) (fun _ _ _ _ _ => pts_nil) (fun _ _ _ _ _ => (pe_callTy (T := "str") call_str_int (by rfl) T.n_str (by decide +kernel) (pa_cons (pv 1) pa_nil)))))))), ?_⟩
  walk_at "rl"
  refine ⟨g, _, _, _, _, rfl, hg, G.cls k hk, G.limits k hk, kfs_limits hl _ _, ?_⟩
  walk_at "rl"
  refine ⟨⟨_, SqL.of hx⟩, fun D nD => ?_⟩
  refine lc_list (K := K) (a := x) (xs := NL ls) (fun i H' => H' D = some (.lst (((ls.take i).map nS).map V.str)) ∧ Same H H') ⟨upd_same, Same.upd nD⟩ (fun i H' _ h => SqL.of (h.2 _ _ hx)) ?_ ?_
  · rintro i v H' hi ⟨hD, sm⟩
    obtain ⟨m, hm, rfl⟩ := NL_at hi
    have h3 := h12 m (List.mem_of_getElem? hm)
    walk_at "rl"
    refine ⟨nS_log h3, ?_⟩
    refine ⟨_, hD, mil_line (by rw [List.length_map, List.length_map, List.length_take]; omega), ?_, N.Same.put sm nD⟩
    rw [upd_same, List.take_succ, hm, List.map_append, List.map_append]
    rfl
  · rintro H' ⟨hD, sm⟩
    rw [NL_length, List.take_length] at hD
    walk_at "rl"
    refine ⟨_, D, ls.map nS, rfl, rfl, .inl (SqL.of hD), small_join (by omega) h12, ?_⟩
    walk_at "rl"
    have h1 : (Str.ofString "taking ").length = 7 := by decide +kernel
    have h2 := wordsOf_len (by omega) h12
    refine ⟨str_line (by rw [h1]; unfold wordsOf at h2; omega), ?_⟩
    exact q _ sm
abbrev s_Skittles_name : Stmt := inClass (top 21) 1
theorem sc_Skittles_name : FnScope ["self"] ["self"] (defScope s_Skittles_name) := ⟨rfl, rfl, rfl, by decide +kernel, rfl, by decide +kernel, by decide +kernel⟩
theorem ok_Skittles_name (T : Txt K mg) (ok : Gm.Kind → Prop) (KK : Kinds ok) (ls : List Nat) (hk : ok (.skittles ls)) (d_Taking_name : Dn P w K mg base CX0 9 (He.ma K (He.ga K "Taking") "name") ["self"] (sp_tname K ok)) : Dn P w K mg base CX0 10 (He.ma K (He.ga K "Skittles") "name") ["self"] (sp_name K (.skittles ls)) := by
  refine dn_of (k := 9) T.f_Skittles_name sc_Skittles_name (fun _ _ _ _ _ _ us hl => match us, hl with | [_], _ => rfl) (fun cdv A outer s H vs Q E hr h => ?_)
  obtain ⟨g, l, x, n, rfl, ga, q⟩ := h
  have hR : Gm.Rising ls := KK.good _ hk
  have h12 : ∀ m ∈ ls, m < 1000 := fun m hm => by have := (hR.2.2 m hm).2; omega
  have hll := hR.len
  refine ⟨_, PSs.nox (pss_one (ps_ret (pe_op op_add_str pe_str (pe_slice sl_str (pe_clsf T.cf_Taking_name d_Taking_name (hr.mono (by omega)) pass0 (pe_glob (v := .ref (He.ga K "Taking")) rfl T.g_Taking rfl) (pa_cons (pv 0) pa_nil)) (po_some pe_int) po_none)))), ?_⟩
  walk_at "rl"
  refine ⟨.skittles ls, ls, g, l, x, n, rfl, hk, rfl, ga, fun H' sm => ?_⟩
  have h0 : (Str.ofString "skittles").length = 8 := by decide +kernel
  have h1 : (Str.ofString "taking ").length = 7 := by decide +kernel
  have h2 := wordsOf_len (by omega) h12
  walk_at "rl"
  have h3 : (Str.ofString "taking " ++ wordsOf ls).length ≤ 10000 := by rw [TL.len_tl, TL.tl_append, List.length_append, ← TL.len_tl, ← TL.len_tl, h1]; omega
  refine ⟨str_line (by omega), ?_⟩
  walk_at "rl"
  have h4 := cutS_length (Str.ofString "taking " ++ wordsOf ls) (some 6) none
  refine ⟨str_line (by rw [h0]; omega), ?_⟩
  have e : Str.ofString "skittles" ++ cutS (Str.ofString "taking " ++ wordsOf ls) (some 6) none = nameOf (.skittles ls) := by
    refine TL.ext_tl ?_
    unfold cutS nameOf
    rw [TL.tl_append, TL.tl_append, TL.tl_mk]
    have e1 : HT.sIx (Str.ofString "taking " ++ wordsOf ls).length 0 (some 6) = 6 := by
      have := HT.sIx_nat (Str.ofString "taking " ++ wordsOf ls).length 0 6
      rw [show ((6 : Nat) : Int) = 6 from rfl] at this
      rw [this, TL.len_tl, TL.tl_append, List.length_append, ← TL.len_tl, h1]
      omega
    rw [e1, HT.sIx_none]
    have e2 : TL.tl (Str.ofString "skittles ") = TL.tl (Str.ofString "skittles") ++ TL.tl (Str.ofString " ") := by decide +kernel
    have e3 : (TL.tl (Str.ofString "taking ")).drop 6 = TL.tl (Str.ofString " ") := by decide +kernel
    have e4 : (TL.tl (Str.ofString "taking ")).length = 7 := by decide +kernel
    rw [e2, List.append_assoc]
    congr 1
    rw [TL.len_tl]
    show List.take _ (List.drop 6 (TL.tl (Str.ofString "taking " ++ wordsOf ls))) = _
    rw [TL.tl_append, List.drop_append_of_le_length (by rw [e4]; decide), e3]
    refine List.take_of_length_le ?_
    rw [List.length_append, List.length_append, e4]
    have e5 : (TL.tl (Str.ofString " ")).length = 1 := by decide +kernel
    rw [e5]
    omega
  rw [← e] at q
  exact q _ sm

/-! ### numbers of so many places (nothing refused) -/
theorem GameAt.re {K : PySem.W.Frag} {k : Gm.Kind} {H H' : Hp} {g l x : Addr} {n n' : Nat} (ga : GameAt K k H g l x n) (b : But l H H') (e : H' l = some (.lst (NL (Gm.nums k.L n')))) : GameAt K k H' g l x n' := by
  obtain ⟨dx, hg⟩ := ga.ob
  have ne : g ≠ l := fun z => by
    have := ga.kn
    rw [← z, hg] at this
    cases this
  exact ⟨⟨dx, b g _ hg ne⟩, e, fun H2 b2 => ga.st H2 fun c o h1 h2 => b2 c o (b c o h1 h2) h2⟩
theorem nums_snocN (L : Nat → List (List Nat)) (i : Nat) : NL (Gm.nums L (i + 1)) = NL (Gm.nums L i) ++ [V.int ((Gm.num L i : Nat) : Int)] := by
  rw [Gm.nums_succ]
  unfold NL
  rw [List.map_append]
  rfl
theorem kfs_number (l x : Addr) (k : Gm.Kind) : (kfs l x k).lookup ("number" : Str) = none := kfs_no _ _ _ (by decide +kernel) (by decide +kernel) (by decide +kernel) (by decide +kernel)
theorem kfs_numbers (l x : Addr) (k : Gm.Kind) : (kfs l x k).lookup ("numbers" : Str) = none := kfs_no _ _ _ (by decide +kernel) (by decide +kernel) (by decide +kernel) (by decide +kernel)
theorem kfs_leads (l x : Addr) (k : Gm.Kind) : (kfs l x k).lookup ("leads" : Str) = none := kfs_no _ _ _ (by decide +kernel) (by decide +kernel) (by decide +kernel) (by decide +kernel)
theorem kfs_together (l x : Addr) (k : Gm.Kind) : (kfs l x k).lookup ("together" : Str) = none := kfs_no _ _ _ (by decide +kernel) (by decide +kernel) (by decide +kernel) (by decide +kernel)
theorem kfs_name (l x : Addr) (k : Gm.Kind) : (kfs l x k).lookup ("name" : Str) = none := kfs_no _ _ _ (by decide +kernel) (by decide +kernel) (by decide +kernel) (by decide +kernel)
theorem kfs_value (l x : Addr) (k : Gm.Kind) : (kfs l x k).lookup ("value" : Str) = none := kfs_no _ _ _ (by decide +kernel) (by decide +kernel) (by decide +kernel) (by decide +kernel)
theorem kfs_winning (l x : Addr) (k : Gm.Kind) : (kfs l x k).lookup ("winning" : Str) = none := kfs_no _ _ _ (by decide +kernel) (by decide +kernel) (by decide +kernel) (by decide +kernel)
theorem none_but {l a : Addr} {H H' : Hp} {o : HO} (b : But l H H') (hl : H' l = some o) (ha : H' a = none) : H a = none := by
  cases e : H a with
  | none => rfl
  | some u =>
    by_cases z : a = l
    · rw [z, hl] at ha
      cases ha
    · rw [b a u e z] at ha
      cases ha
theorem same_but {l : Addr} {H0 H1 H' : Hp} (s : Same H0 H1) (n : H0 l = none) (b : But l H1 H') : Same H0 H' := fun c o e => b c o (s c o e) fun z => by
  rw [z, n] at e
  cases e
theorem GameAt.ne {K : PySem.W.Frag} {k : Gm.Kind} {H : Hp} {g l x F : Addr} {n : Nat} (ga : GameAt K k H g l x n) (h : H F = none) : F ≠ l := fun e => by
  have := ga.kn
  rw [← e, h] at this
  cases this
/-- a number's promise where nothing is refused -/
def sp_numC (K : PySem.W.Frag) (k : Gm.Kind) : Sp := fun vs H Q _ => sp_number K k vs H Q E0
def sp_numbers (K : PySem.W.Frag) (k : Gm.Kind) : Sp := fun vs H Q E => ∃ (g l x : Addr) (n m : Nat), vs = [.ref g, .int (m : Int)] ∧ GameAt K k H g l x n ∧ n ≤ k.top ∧ m ≤ 100000 ∧
  ((m ≤ k.top ∧ ∀ D n' H', But l H H' → H D = none → H' D = some (.lst (NL (Gm.nums k.L m))) → GameAt K k H' g l x n' → n ≤ n' → m ≤ n' → n' ≤ k.top → Q (.ref D) H') ∨
   (k.top < m ∧ ∀ n' H', But l H H' → GameAt K k H' g l x n' → n ≤ n' → n' ≤ k.top → E (.ref (He.ga K "NotAPlace")) none H'))
abbrev s_Game_numbers : Stmt := inClass (top 10) 5
theorem sc_Game_numbers : FnScope ["self", "many", "place"] ["self", "many"] (defScope s_Game_numbers) := ⟨rfl, rfl, rfl, by decide +kernel, rfl, by decide +kernel, by decide +kernel⟩
theorem ok_Game_numbers (T : Txt K mg) (ok : Gm.Kind → Prop) (KK : Kinds ok) (DN : Disp P w K mg base (L2.CX P w) 20 "number" (kC K) ok ["self", "place"] (sp_number K)) (k : Gm.Kind) (hk : ok k) (f : Addr) (F : ∃ fd, FunD K "numbers" "Game.numbers" (defArgs (inClass (top 10) 5)) (defBody (inClass (top 10) 5)) (defScope (inClass (top 10) 5)) [] [] f fd) : Dn P w K mg base (L2.CX P w) 21 f ["self", "many"] (sp_numbers K k) := by
  refine dn_of (k := 20) F sc_Game_numbers (fun _ _ _ _ _ _ us hl => match us, hl with | [_, _], _ => rfl) (fun cdv A outer s H vs Q E hr h => ?_)
  obtain ⟨g, l, x, n, m, rfl, ga, hn, hmb, hq⟩ := h
  have tp := KK.top k hk
  refine ⟨_, (pss_one (ps_ret (pe_lcX (own := [("place", 2)]) (g := gName 2) rfl rfl (takes_of rfl rfl rfl rfl) (by rfl) sc_Game_numbers.nd (pi_range1 rfl T.n_range (pa_cons (pv 1) pa_nil)) (blkOk_by (own := [("place", 2)]) (N := ["self", "many", "place"]) (sc := defScope (s_Game_numbers)) (by decide +kernel)) (fun _ _ _ _ _ => pg_name (i := 2) sc_Game_numbers.nd rfl (by first | exact Or.inl rfl | exact Or.inr rfl)) (fun _ _ _ _ _ => pts_nil) (fun _ _ _ _ _ => (pe_mf (DN) (hr.mono (by omega)) (passB rfl rfl rfl) (pv 0) (pa_cons (pv 2) pa_nil)))))), ?_⟩
  walk_at "rl"
  refine ⟨by omega, by omega, fun D nD => ?_⟩
  have Dl : D ≠ l := fun e => by
    have := ga.kn
    rw [← e, nD] at this
    cases this
  have b0 : But l H (upd H D (.lst [])) := Same.but (Same.upd nD)
  refine lc_rangeN (n := m) (fun i H' => ∃ n', i ≤ k.top ∧ H' D = some (.lst (NL (Gm.nums k.L i))) ∧ But l H H' ∧ H' l = some (.lst (NL (Gm.nums k.L n'))) ∧ n ≤ n' ∧ i ≤ n' ∧ n' ≤ k.top) ⟨n, Nat.zero_le _, upd_same, b0, Same.upd nD _ _ ga.kn, Nat.le_refl _, Nat.zero_le _, hn⟩ ?_ ?_
  · rintro i H' hi ⟨n', hit, hD, bt, hl, h1, h2, h3⟩
    have ga1 := ga.re bt hl
    obtain ⟨dx, hg⟩ := ga1.ob
    walk_at "rl"
    refine ⟨k, g, _, _, hk, rfl, hg, kfs_number _ _ _, ?_⟩
    walk_at "rl"
    by_cases c : i < k.top
    · refine ⟨g, l, x, n', _, rfl, ga1, h3, .inl ⟨i, rfl, c, fun n2 H2 bt2 ga2 h4 h5 h6 => ?_⟩⟩
      have bt3 := bt.trans bt2
      refine ⟨_, bt2 D _ hD Dl, mil_line (by rw [NL_length, Gm.nums_length]; omega), n2, by omega, ?_, fun b o e ne => ?_, ?_, by omega, by omega, h6⟩
      · rw [upd_same, nums_snocN]
      · rw [upd_ne (fun z => by rw [z, nD] at e; cases e)]
        exact bt3 b o e ne
      · rw [upd_ne Dl.symm]
        exact ga2.kn
    · rcases hq with ⟨hm, _⟩ | ⟨hm, qb⟩
      · exact absurd hi (by omega)
      · refine ⟨g, l, x, n', _, rfl, ga1, h3, .inr ⟨.inr ⟨(i : Int), rfl, .inr (.inr (by omega))⟩, fun n2 H2 bt2 ga2 h4 h5 => ?_⟩⟩
        exact qb n2 H2 (bt.trans bt2) (ga.re (bt.trans bt2) ga2.kn) (by omega) h5
  · rintro H' ⟨n', hit, hD, bt, hl, h1, h2, h3⟩
    rcases hq with ⟨hm, q⟩ | ⟨hm, _⟩
    · exact q D n' H' bt nD hD (ga.re bt hl) h1 h2 h3
    · exact absurd hit (by omega)

/-! ### several places: their value, the first turn that leaves nought -/
def sp_value (K : PySem.W.Frag) (k : Gm.Kind) : Sp := fun vs H Q E => ∃ (g l x p : Addr) (n : Nat) (ls : List Nat) (us : List V), vs = [.ref g, .ref p] ∧ GameAt K k H g l x n ∧ n ≤ k.top ∧ (∀ H', But l H H' → SqL K H' p us) ∧ (∀ q ∈ ls, q < k.top) ∧
  ((us = NL ls ∧ ∀ n' H', But l H H' → GameAt K k H' g l x n' → n ≤ n' → n' ≤ k.top → (∀ q ∈ ls, q < n') → Q (.int ((Gm.sumN k.L ls : Nat) : Int)) H') ∨
   (∃ u r, us = NL ls ++ u :: r ∧ (∀ H', But l H H' → BadPlace K H' k.top u) ∧ ∀ n' H', But l H H' → GameAt K k H' g l x n' → n ≤ n' → n' ≤ k.top → E (.ref (He.ga K "NotAPlace")) none H'))
abbrev s_Game_value : Stmt := inClass (top 10) 6
theorem sc_Game_value : FnScope ["self", "places", "found", "place"] ["self", "places"] (defScope s_Game_value) := ⟨rfl, rfl, rfl, by decide +kernel, rfl, by decide +kernel, by decide +kernel⟩
theorem ok_Game_value (T : Txt K mg) (ok : Gm.Kind → Prop) (KK : Kinds ok) (DN : Disp P w K mg base (L2.CX P w) 20 "number" (kC K) ok ["self", "place"] (sp_number K)) (k : Gm.Kind) (hk : ok k) (f : Addr) (F : ∃ fd, FunD K "value" "Game.value" (defArgs (inClass (top 10) 6)) (defBody (inClass (top 10) 6)) (defScope (inClass (top 10) 6)) [] [] f fd) : Dn P w K mg base (L2.CX P w) 22 f ["self", "places"] (sp_value K k) := by
  refine dn_of (k := 21) F sc_Game_value (fun _ _ _ _ _ _ us hl => match us, hl with | [_, _], _ => rfl) (fun cdv A outer s H vs Q E hr h => ?_)
  obtain ⟨g, l, x, p, n, ls, us, rfl, ga, hn, hS, hlt, hq⟩ := h
  have hge : ls.length ≤ us.length := by
    rcases hq with ⟨rfl, _⟩ | ⟨u, r, rfl, _⟩
    · rw [NL_length]
      exact Nat.le_refl _
    · rw [List.length_append, NL_length]
      omega
  have hat : ∀ i, i < ls.length → us[i]? = some (.int ((ls.getD i 0 : Nat) : Int)) := fun i hi => by
    have e : (NL ls)[i]? = some (.int ((ls.getD i 0 : Nat) : Int)) := by
      unfold NL
      rw [List.getElem?_map, List.getD_eq_getElem?_getD, List.getElem?_eq_getElem hi]
      rfl
    rcases hq with ⟨rfl, _⟩ | ⟨u, r, rfl, _⟩
    · exact e
    · rw [List.getElem?_append_left (by rw [NL_length]; exact hi)]
      exact e
  refine ⟨_, (pss_cons (ps_set (i := 2) sc_Game_value.nd rfl (by first | exact Or.inl rfl | exact Or.inr rfl) (pe_nat 0))
      (pss_cons (ps_for (passes_of rfl) rfl (pi_list (pv 1)) (pg_name (i := 3) sc_Game_value.nd rfl (by first | exact Or.inl rfl | exact Or.inr rfl))
      (pss_one (ps_set (i := 2) sc_Game_value.nd rfl (by first | exact Or.inl rfl | exact Or.inr rfl) (pe_op op_xorn (pv 2) (pe_mf (DN) (hr.mono (by omega)) (passes_call (takes_of rfl rfl rfl rfl) (fun _ _ _ _ h => h)) (pv 0) (pa_cons (pv 3) pa_nil))))))
      (pss_one (ps_ret (pv 2))))), ?_⟩
  walk_at "rl"
  refine ⟨⟨_, hS H (But.refl _ _)⟩, for_list (K := K) (a := p) (xs := us) (fun i σ H' => ∃ v3 n', i ≤ ls.length ∧ σ = [some (.ref g), some (.ref p), some (.int ((Gm.sumN k.L (ls.take i) : Nat) : Int)), v3] ∧ But l H H' ∧ GameAt K k H' g l x n' ∧ n ≤ n' ∧ n' ≤ k.top ∧ ∀ q ∈ ls.take i, q < n') ⟨none, n, Nat.zero_le _, rfl, But.refl _ _, ga, Nat.le_refl _, hn, by simp⟩ (fun i σ H' _ ⟨_, _, _, _, b, _⟩ => hS H' b) ?_ ?_⟩
  · rintro i v σ H' hi ⟨v3, n', hil, rfl, bt, ga1, h1, h2, h3⟩
    obtain ⟨dx, hg⟩ := ga1.ob
    walk_at "rl"
    refine ⟨k, g, _, _, hk, rfl, hg, kfs_number _ _ _, ?_⟩
    walk_at "rl"
    by_cases c : i < ls.length
    · have e := hat i c
      rw [e] at hi
      obtain rfl := Option.some.inj hi
      have el : ls[i]? = some (ls.getD i 0) := by
        rw [List.getD_eq_getElem?_getD, List.getElem?_eq_getElem c]
        rfl
      have hm : ls.getD i 0 ∈ ls := List.mem_of_getElem? el
      refine ⟨g, l, x, n', _, rfl, ga1, h2, .inl ⟨ls.getD i 0, rfl, hlt _ hm, fun n2 H2 bt2 ga2 h4 h5 h6 => ?_⟩⟩
      walk_at "rl"
      refine ⟨some (.int ((ls.getD i 0 : Nat) : Int)), n2, by omega, ?_, bt.trans bt2, ga2, by omega, h6, fun q hq => ?_⟩
      · rw [Gm.sumN_snoc k.L el]
        rfl
      · rw [List.take_succ, el] at hq
        rcases List.mem_append.mp hq with hq | hq
        · have := h3 q hq
          omega
        · have hq : q ∈ [ls.getD i 0] := hq
          rw [List.mem_singleton] at hq
          rw [hq]
          exact h5
    · rcases hq with ⟨rfl, _⟩ | ⟨u, r, rfl, hu, qb⟩
      · have := (List.getElem?_eq_some_iff.mp hi).1
        rw [NL_length] at this
        exact absurd this c
      · have ei : i = ls.length := by omega
        rw [ei, List.getElem?_append_right (by rw [NL_length]; exact Nat.le_refl _), NL_length, Nat.sub_self] at hi
        obtain rfl : u = v := Option.some.inj hi
        refine ⟨g, l, x, n', u, rfl, ga1, h2, .inr ⟨hu H' bt, fun n2 H2 bt2 ga2 h4 h5 => ?_⟩⟩
        exact qb n2 H2 (bt.trans bt2) ga2 (by omega) h5
  · rintro σ H' ⟨v3, n', hil, rfl, bt, ga1, h1, h2, h3⟩
    rcases hq with ⟨rfl, q⟩ | ⟨u, r, rfl, _⟩
    · rw [NL_length, List.take_length] at *
      exact ⟨_, rfl, q n' H' bt ga1 h1 h2 h3⟩
    · rw [List.length_append, NL_length, List.length_cons] at hil
      exact absurd hil (by omega)
/-- a told turn, new from H on -/
def TurnN (H H' : Hp) (v : V) : Option (Nat × List Nat) → Prop
  | none => ∃ t, v = .ref t ∧ H t = none ∧ H' t = some (.tup [.bl false])
  | some (i, lead) => ∃ t D, v = .ref t ∧ H t = none ∧ H D = none ∧ H' t = some (.tup [.bl true, .int (i : Int), .ref D]) ∧ H' D = some (.lst (NL lead))
def sp_winning (K : PySem.W.Frag) (k : Gm.Kind) : Sp := fun vs H Q E => ∃ (g l x p : Addr) (n : Nat) (ls : List Nat) (us : List V), vs = [.ref g, .ref p] ∧ GameAt K k H g l x n ∧ n ≤ k.top ∧ (∀ H', But l H H' → SqL K H' p us) ∧ (∀ q ∈ ls, q < k.top) ∧
  ((us = NL ls ∧ ls.length ≤ 1000000 ∧ ∀ n' H' v, But l H H' → GameAt K k H' g l x n' → n ≤ n' → n' ≤ k.top → (∀ q ∈ ls, q < n') → TurnN H H' v (Gm.best k.L ls) → Q v H') ∨
   (∃ u r, us = NL ls ++ u :: r ∧ (∀ H', But l H H' → BadPlace K H' k.top u) ∧ ∀ n' H', But l H H' → GameAt K k H' g l x n' → n ≤ n' → n' ≤ k.top → E (.ref (He.ga K "NotAPlace")) none H'))
theorem NL_num' {ns : List Nat} {p : Nat} (h : p < ns.length) : atI (NL ns) (p : Int) = some (.int ((ns.getD p 0 : Nat) : Int)) := by
  refine atI_nat ?_
  unfold NL
  rw [List.getElem?_map, List.getD_eq_getElem?_getD, List.getElem?_eq_getElem h]
  rfl
abbrev s_Game_winning : Stmt := inClass (top 10) 7
theorem sc_Game_winning : FnScope ["self", "places", "total", "at", "lead"] ["self", "places"] (defScope s_Game_winning) := ⟨rfl, rfl, rfl, by decide +kernel, rfl, by decide +kernel, by decide +kernel⟩
theorem ok_Game_winning (T : Txt K mg) (ok : Gm.Kind → Prop) (G : Games K ok) (KK : Kinds ok) (DV : Disp P w K mg base (L2.CX P w) 22 "value" (kC K) ok ["self", "places"] (sp_value K)) (DL : Disp P w K mg base (L2.CX P w) 10 "leads" (kC K) ok ["self", "place"] (sp_leads K)) (DT : Disp P w K mg base CX0 10 "together" (kC K) ok ["self", "places"] (sp_together K)) (k : Gm.Kind) (hk : ok k) (f : Addr) (F : ∃ fd, FunD K "winning" "Game.winning" (defArgs (inClass (top 10) 7)) (defBody (inClass (top 10) 7)) (defScope (inClass (top 10) 7)) [] [] f fd) : Dn P w K mg base (L2.CX P w) 24 f ["self", "places"] (sp_winning K k) := by
  refine dn_of (k := 23) F sc_Game_winning (fun _ _ _ _ _ _ us hl => match us, hl with | [_, _], _ => rfl) (fun cdv A outer s H vs Q E hr h => ?_)
  obtain ⟨g, l, x, p, n, ls, us, rfl, ga, hn, hS, hlt, hq⟩ := h
  obtain ⟨dx, hg⟩ := ga.ob
  have lesser := Gm.Kind.lesser (KK.good k hk)
  have tp := KK.top k hk
  refine ⟨_, (pss_cons (ps_set (i := 2) sc_Game_winning.nd rfl (by first | exact Or.inl rfl | exact Or.inr rfl) (pe_mf (DV) (hr.mono (by omega)) (passes_call (takes_of rfl rfl rfl rfl) (fun _ _ _ _ h => h)) (pv 0) (pa_cons (pv 1) pa_nil)))
      (pss_cons (ps_for (passes_of rfl) rfl (pi_range1 rfl T.n_range (pa_cons (pe_callB (r := rLenSeq K) cr_lenseq (by rfl) T.n_len PySem.boot_len (pa_cons (pv 1) pa_nil)) pa_nil)) (pg_name (i := 3) sc_Game_winning.nd rfl (by first | exact Or.inl rfl | exact Or.inr rfl))
      (pss_one (ps_for (passes_of rfl) rfl (pi_list (pe_mf (DL) (hr.mono (by omega)) (passes_call (takes_of rfl rfl rfl rfl) (fun _ _ _ _ h => h)) (pv 0) (pa_cons (pe_ix ix_list (pv 1) (pv 3) (fun _ _ => rfl)) pa_nil))) (pg_name (i := 4) sc_Game_winning.nd rfl (by first | exact Or.inl rfl | exact Or.inr rfl))
      (pss_one (ps_if (pt_chain op_eqn op_nen (pe_op op_xorn (pe_mf (DT) (hr.mono (by omega)) pass0 (pv 0) (pa_cons (pv 4) pa_nil)) (pe_ix ix_list (pe_fld (pv 0) rfl) (pe_ix ix_list (pv 1) (pv 3) (fun _ _ => rfl)) (fun _ _ => rfl))) (pv 2) (pe_nat 0)) (pss_one (ps_ret (pe_tup (pa_cons pe_bl (pa_cons (pv 3) (pa_cons (pv 4) pa_nil)))))) pss_nil)))))
      (pss_one (ps_ret (pe_tup (pa_cons pe_bl pa_nil)))))), ?_⟩
  walk_at "rl"
  refine ⟨k, g, _, _, hk, rfl, hg, kfs_value _ _ _, ?_⟩
  walk_at "rl"
  rcases hq with ⟨rfl, hll, q⟩ | ⟨u, r, rfl, hu, qb⟩
  rotate_left
  · exact ⟨g, l, x, p, n, ls, _, rfl, ga, hn, hS, hlt, .inr ⟨u, r, rfl, hu, qb⟩⟩
  refine ⟨g, l, x, p, n, ls, _, rfl, ga, hn, hS, hlt, .inl ⟨rfl, fun n1 H1 b1 ga1 h1 h2 h3 => ?_⟩⟩
  have hS1 := hS H1 b1
  walk_at "rl"
  refine ⟨p, _, rfl, .inl hS1, ?_⟩
  walk_at "rl"
  rw [NL_length]
  refine ⟨by omega, by omega, for_rangeN (n := ls.length) (fun i σ H' => ∃ v3 v4, σ = [some (.ref g), some (.ref p), some (.int ((Gm.sumN k.L ls : Nat) : Int)), v3, v4] ∧ Same H1 H' ∧ (Gm.sumN k.L ls ≠ 0 → Gm.firstT k.L (Gm.sumN k.L ls) ls 0 = Gm.firstT k.L (Gm.sumN k.L ls) (ls.drop i) i)) ⟨none, none, rfl, Same.refl _, fun _ => rfl⟩ ?_ ?_⟩
  · rintro i σ H2 hi ⟨v3, v4, rfl, s2, hf⟩
    have ga2 := ga1.same s2
    obtain ⟨dx2, hg2⟩ := ga2.ob
    have hS2 := hS H2 (b1.trans (Same.but s2))
    have hm : ls.getD i 0 ∈ ls := by
      rw [List.getD_eq_getElem?_getD, List.getElem?_eq_getElem hi]
      exact List.getElem_mem _
    have hd : ls.drop i = ls.getD i 0 :: ls.drop (i + 1) := by
      rw [List.drop_eq_getElem_cons hi, List.getD_eq_getElem?_getD, List.getElem?_eq_getElem hi]
      rfl
    have hpt := hlt _ hm
    have hpn := h3 _ hm
    walk_at "rl"
    refine ⟨k, g, _, _, hk, rfl, hg2, kfs_leads _ _ _, ?_⟩
    walk_at "rl"
    refine ⟨p, _, _, _, rfl, rfl, hS2, NL_num' hi, ?_⟩
    walk_at "rl"
    refine ⟨g, l, x, n1, ls.getD i 0, rfl, ga2, by omega, fun _ D as H3 s3 nD nas lls => ?_, fun c => absurd hpt c⟩
    walk_at "rl"
    refine ⟨⟨_, SqL.of lls.top⟩, for_list (K := K) (a := D) (xs := as.map V.ref) (fun j σ H' => ∃ v4, σ = [some (.ref g), some (.ref p), some (.int ((Gm.sumN k.L ls : Nat) : Int)), some (.int (i : Int)), v4] ∧ H' = H3 ∧ (Gm.sumN k.L ls ≠ 0 → (k.L (ls.getD i 0)).find? (Gm.hits k.L (Gm.sumN k.L ls) (ls.getD i 0)) = ((k.L (ls.getD i 0)).drop j).find? (Gm.hits k.L (Gm.sumN k.L ls) (ls.getD i 0)))) ⟨v4, rfl, rfl, fun _ => rfl⟩ (fun j σ H' _ ⟨_, _, e, _⟩ => by rw [e]; exact SqL.of lls.top) ?_ ?_⟩
    · rintro j v σ H4 hj ⟨v4, rfl, rfl, hf2⟩
      obtain ⟨a, lead, ea, el, rfl, ha⟩ := lls.item hj
      have hjl := (List.getElem?_eq_some_iff.mp el).1
      have ga3 := ga2.same s3
      obtain ⟨dx3, hg3⟩ := ga3.ob
      have hS3 := hS H4 (b1.trans (Same.but (s2.trans s3)))
      have hlead := lesser _ lead (List.mem_of_getElem? el)
      have hd2 : (k.L (ls.getD i 0)).drop j = lead :: (k.L (ls.getD i 0)).drop (j + 1) := by
        obtain ⟨h, e⟩ := List.getElem?_eq_some_iff.mp el
        rw [List.drop_eq_getElem_cons h, e]
      walk_at "rl"
      refine ⟨k, g, _, _, hk, rfl, hg3, kfs_together _ _ _, ?_⟩
      walk_at "rl"
      refine ⟨g, l, x, n1, a, lead, rfl, ga3, SqL.of ha, fun q hq => by have := hlead q hq; omega, ?_⟩
      rw [Gm.xs_sumN (fun q hq => by have := hlead q hq; omega)]
      walk_at "rl"
      refine ⟨g, _, _, _, _, rfl, hg3, G.cls k hk, G.known k hk, kfs_known _ _ _, ?_⟩
      walk_at "rl"
      refine ⟨p, _, _, _, rfl, rfl, hS3, NL_num' hi, ?_⟩
      walk_at "rl"
      refine ⟨l, _, _, _, rfl, rfl, SqL.of ga3.kn, NL_num (Gm.nums_at _ hpn), ?_⟩
      walk_at "rl"
      refine ifN (fun c => ?_) (fun c => ?_)
      · walk_at "rl"
        refine ifNn (fun c2 => ?_) (fun c2 => ?_)
        · walk_at "rl"
          refine ⟨by show 3 ≤ sizeLine; decide, fun t nt => ?_⟩
          have eb : Gm.best k.L ls = some (i, lead) := by
            unfold Gm.best
            rw [if_neg c2, hf c2, hd]
            show (match (k.L (ls.getD i 0)).find? (Gm.hits k.L (Gm.sumN k.L ls) (ls.getD i 0)) with | some lead => some (i, lead) | none => _) = _
            rw [hf2 c2, hd2, List.find?_cons_of_pos (p := Gm.hits k.L (Gm.sumN k.L ls) (ls.getD i 0)) (show Gm.hits k.L (Gm.sumN k.L ls) (ls.getD i 0) lead = true from decide_eq_true c)]
          have s13 := s2.trans s3
          refine q n1 _ _ (b1.trans (Same.but (s13.trans (Same.upd nt)))) (ga3.same (Same.upd nt)) h1 h2 h3 ?_
          rw [eb]
          refine ⟨t, a, rfl, none_but (b1.trans (Same.but s13)) ga3.kn nt, none_but (b1.trans (Same.but s2)) ga2.kn (nas a (List.mem_of_getElem? ea)), upd_same, Same.upd nt _ _ ha⟩
        · exact ⟨_, rfl, rfl, fun c3 => absurd c2 c3⟩
      · walk_at "rl"
        intro c2
        rw [hf2 c2, hd2, List.find?_cons_of_neg (by simpa [Gm.hits] using c)]
    · rintro σ H4 ⟨v4, rfl, rfl, hf2⟩
      refine ⟨_, _, rfl, s2.trans s3, fun c => ?_⟩
      have e2 := hf2 c
      rw [List.length_map, lls.len, List.drop_length] at e2
      rw [hf c, hd]
      show (match (k.L (ls.getD i 0)).find? (Gm.hits k.L (Gm.sumN k.L ls) (ls.getD i 0)) with | some lead => some (i, lead) | none => _) = _
      rw [e2]
      rfl
  · rintro σ H2 ⟨v3, v4, rfl, s2, hf⟩
    walk_at "rl"
    intro t nt
    have eb : Gm.best k.L ls = none := by
      unfold Gm.best
      split
      · rfl
      · rename_i c
        rw [hf c, List.drop_length]
        rfl
    refine q n1 _ _ (b1.trans (Same.but (s2.trans (Same.upd nt)))) ((ga1.same s2).same (Same.upd nt)) h1 h2 h3 ?_
    rw [eb]
    exact ⟨t, rfl, none_but (b1.trans (Same.but s2)) (ga1.same s2).kn nt, upd_same⟩

def okK : Gm.Kind → Prop
  | .still => True
  | .heap => True
  | .taking ls => Gm.Rising ls
  | .skittles ls => Gm.Rising ls
  | .parting => True
  | .runs => True
  | .pairs => True
  | .few m => 1 ≤ m ∧ m ≤ 3
  | .told _ => False
theorem games_ok {K : PySem.W.Frag} {mg : Str → Option Value} (T : Txt K mg) : Games K okK := ⟨fun k h => match k, h with | .still, h => T.cl_Game | .heap, h => T.cl_Heap | .taking ls, h => T.cl_Taking | .skittles ls, h => T.cl_Skittles | .parting, h => T.cl_Parting | .runs, h => T.cl_Runs | .pairs, h => T.cl_Pairs | .few m, h => T.cl_Few | .told rows, h => h.elim, fun k h => match k, h with | .still, h => T.na_Game_known | .heap, h => T.na_Heap_known | .taking ls, h => T.na_Taking_known | .skittles ls, h => T.na_Skittles_known | .parting, h => T.na_Parting_known | .runs, h => T.na_Runs_known | .pairs, h => T.na_Pairs_known | .few m, h => T.na_Few_known | .told rows, h => h.elim, fun k h => match k, h with | .still, h => T.na_Game_limits | .heap, h => T.na_Heap_limits | .taking ls, h => T.na_Taking_limits | .skittles ls, h => T.na_Skittles_limits | .parting, h => T.na_Parting_limits | .runs, h => T.na_Runs_limits | .pairs, h => T.na_Pairs_limits | .few m, h => T.na_Few_limits | .told rows, h => h.elim, fun k h => match k, h with | .still, h => T.na_Game_most | .heap, h => T.na_Heap_most | .taking ls, h => T.na_Taking_most | .skittles ls, h => T.na_Skittles_most | .parting, h => T.na_Parting_most | .runs, h => T.na_Runs_most | .pairs, h => T.na_Pairs_most | .few m, h => T.na_Few_most | .told rows, h => h.elim, fun k h => match k, h with | .still, h => T.na_Game_rows | .heap, h => T.na_Heap_rows | .taking ls, h => T.na_Taking_rows | .skittles ls, h => T.na_Skittles_rows | .parting, h => T.na_Parting_rows | .runs, h => T.na_Runs_rows | .pairs, h => T.na_Pairs_rows | .few m, h => T.na_Few_rows | .told rows, h => h.elim⟩
theorem kinds_ok : Kinds okK := ⟨fun k h => match k, h with | .still, h => trivial | .heap, h => trivial | .taking ls, h => h | .skittles ls, h => h | .parting, h => trivial | .runs, h => trivial | .pairs, h => trivial | .few m, h => h | .told rows, h => h.elim, fun k h => match k, h with | .still, h => Nat.le_refl _ | .heap, h => Nat.le_refl _ | .taking ls, h => Nat.le_refl _ | .skittles ls, h => Nat.le_refl _ | .parting, h => Nat.le_refl _ | .runs, h => Nat.le_refl _ | .pairs, h => Nat.le_refl _ | .few m, h => Nat.le_refl _ | .told rows, h => h.elim, fun k h => match k, h with | .still, h => fun p hp => few_le (k := .still) trivial trivial (by show p ≤ 100; have : p < 101 := hp; omega) | .heap, h => fun p hp => few_le (k := .heap) trivial trivial (by show p ≤ 100; have : p < 101 := hp; omega) | .taking ls, h => fun p hp => few_le (k := .taking ls) h trivial (by show p ≤ 100; have : p < 101 := hp; omega) | .skittles ls, h => fun p hp => few_le (k := .skittles ls) h trivial (by show p ≤ 100; have : p < 101 := hp; omega) | .parting, h => fun p hp => few_le (k := .parting) trivial trivial (by show p ≤ 100; have : p < 101 := hp; omega) | .runs, h => fun p hp => few_le (k := .runs) trivial trivial (by show p ≤ 100; have : p < 101 := hp; omega) | .pairs, h => fun p hp => few_le (k := .pairs) trivial trivial (by show p ≤ 100; have : p < 101 := hp; omega) | .few m, h => fun p hp => few_le (k := .few m) h trivial (by show p ≤ 100; have : p < 101 := hp; omega) | .told rows, h => h.elim⟩
/-- what is beside the object has been made since -/
def Fresh (k : Gm.Kind) (H H' : Hp) (l y : Addr) : Prop := ∀ H2, (∀ b o, H' b = some o → b ≠ l → H b = none → H2 b = some o) → kst H2 y k
theorem fresh_plain {k : Gm.Kind} (hk : k = .still ∨ k = .heap ∨ k = .parting ∨ k = .runs ∨ k = .pairs ∨ ∃ m, k = .few m) {H H' : Hp} {l y : Addr} : Fresh k H H' l y := fun H2 _ => by
  rcases hk with rfl | rfl | rfl | rfl | rfl | ⟨m, rfl⟩ <;> trivial
theorem fresh_lim {k : Gm.Kind} {ls : List Nat} (h : lim k = some ls) {H H' : Hp} {l D : Addr} (hD : H' D = some (.lst (NL ls))) (ne : D ≠ l) (nD : H D = none) : Fresh k H H' l D := fun H2 b => by
  have := b D _ hD ne nD
  cases k <;> first | (cases h; exact this) | (cases h; done)
theorem Fresh.since {k : Gm.Kind} {H0 H H' : Hp} {l y : Addr} (f : Fresh k H H' l y) (s : Same H0 H) : Fresh k H0 H' l y := fun H2 b => f H2 fun c o h1 h2 h3 => b c o h1 h2 (none_of_same s h3)

/-! ### games told by words -/
theorem long_line {n : Nat} (h : n ≤ 10000000) : n ≤ sizeLine := by rw [sizeLine_eq]; omega
theorem str_inj {a b : Str} (h : V.str a = V.str b) : a = b := by injection h
theorem tl_lit0 : TL.tl (Str.ofString "") = [] := by rw [TL.tl_ofString]; rfl
theorem tl_litN : TL.tl (Str.ofString "0") = [48] := by rw [TL.tl_ofString]; rfl
theorem figs_bad {x : Str} (h : TL.tl x = [] ∨ 3 < (TL.tl x).length ∨ ((TL.tl x)[0]? = some 48 ∧ TL.tl x ≠ [48]) ∨ (TL.tl x).all Wd.isDig = false) : Wd.figs x = none := if_pos h
theorem figs_ok {x : Str} (h : ¬ (TL.tl x = [] ∨ 3 < (TL.tl x).length ∨ ((TL.tl x)[0]? = some 48 ∧ TL.tl x ≠ [48]) ∨ (TL.tl x).all Wd.isDig = false)) : ∃ n, Wd.figs x = some n := ⟨_, if_neg h⟩
def sp_figures_of (K : PySem.W.Frag) : Sp := fun vs H Q E => ∃ (x : Str), vs = [.str x] ∧ x.length ≤ 1000000 ∧ (∀ n, Wd.figs x = some n → Q (.int (n : Int)) H) ∧ (Wd.figs x = none → E (.ref (He.ga K "NotWritten")) none H)
abbrev s_figures_of : Stmt := top 25
theorem sc_figures_of : FnScope ["text", "sign"] ["text"] (defScope s_figures_of) := ⟨rfl, rfl, rfl, by decide +kernel, rfl, by decide +kernel, by decide +kernel⟩
theorem ok_figures_of (T : Txt K mg) : Dn P w K mg base (L2.CX P w) 1 (He.ga K "figures_of") ["text"] (sp_figures_of K) := by
  refine dn_of (k := 0) T.f_figures_of sc_figures_of (fun _ _ _ _ _ _ us hl => match us, hl with | [_], _ => rfl) (fun cdv A outer s H vs Q E hr h => ?_)
  obtain ⟨x, rfl, hx, qv, qe⟩ := h
  have hlen := TL.len_tl x
  refine ⟨_, (pss_cons (ps_if (pt_cut (PW.pt (pw_or (pt_cmpR op_eq (pv 0) pe_str (nomark _)) (pw_or (pt_cmpR op_gtn (pe_callB call_len_str (by rfl) T.n_len PySem.boot_len (pa_cons (pv 0) pa_nil)) (pe_nat 3) (nomark _)) (pw_or1 (PW.pt (pw_and (pt_cmpR op_eq (pe_ix ix_str (pv 0) (pe_nat 0) (fun _ _ => rfl)) pe_str (nomark _)) (pw_and1 (pt_cmpR op_ne (pv 0) pe_str (nomark _)))))))))) (pss_one (ps_raise rfl (takes_of rfl rfl rfl rfl) (pmk_own PySem.F.excBase_ValueError T.x_NotWritten.1 T.g_NotWritten T.x_NotWritten.2.1 (raises_own T.x_NotWritten.2.2.1 T.x_NotWritten.2.2.2) (by exact rfl)))) pss_nil)
      (pss_cons (ps_for (passes_of rfl) rfl (pi_str (pv 0)) (pg_name (i := 1) sc_figures_of.nd rfl (by first | exact Or.inl rfl | exact Or.inr rfl))
      (pss_one (ps_if (pt_cmpR op_notIn_str (pv 1) pe_str rfl) (pss_one (ps_raise rfl (takes_of rfl rfl rfl rfl) (pmk_own PySem.F.excBase_ValueError T.x_NotWritten.1 T.g_NotWritten T.x_NotWritten.2.1 (raises_own T.x_NotWritten.2.2.1 T.x_NotWritten.2.2.2) (by exact rfl)))) pss_nil)))
      (pss_one (ps_ret (pe_callTy (T := "int") call_int_str (by rfl) T.n_int (by decide +kernel) (pa_cons (pv 0) pa_nil)))))), ?_⟩
  refine ⟨fun b H' => Hd (H' = H ∧ (b = true → Wd.figs x = none) ∧ (b = false → TL.tl x ≠ [] ∧ ¬ 3 < (TL.tl x).length ∧ ¬ ((TL.tl x)[0]? = some 48 ∧ TL.tl x ≠ [48]))), ?_, ?_⟩
  rotate_left
  · walk_at "rl"
    refine ifN (fun c => Hd.mk ⟨rfl, fun _ => figs_bad (.inl (by rw [str_inj c, tl_lit0])), fun z => nomatch z⟩) (fun c0 => ?_)
    have h0 : TL.tl x ≠ [] := fun z => c0 (congrArg V.str (TL.ext_tl (by rw [z, tl_lit0])))
    walk_at "rl"
    refine ⟨long_line (by omega), ?_⟩
    walk_at "rl"
    refine ifN (fun c => Hd.mk ⟨rfl, fun _ => figs_bad (.inr (.inl (by omega))), fun z => nomatch z⟩) (fun c1 => ?_)
    obtain ⟨d, r, e⟩ : ∃ d r, TL.tl x = d :: r := by
      cases h : TL.tl x with
      | nil => exact absurd h h0
      | cons d r => exact ⟨d, r, rfl⟩
    walk_at "rl"
    refine ⟨x, 0, d, rfl, rfl, long_line (by omega), by show atI (TL.tl x) ((0 : Nat) : Int) = _; exact atI_nat (by rw [e]; rfl), ?_⟩
    walk_at "rl"
    have e48 : (V.str ⟨#[d]⟩ = V.str (Str.ofString "0")) ↔ d = 48 := by
      constructor
      · intro z
        have := congrArg TL.tl (str_inj z)
        rw [tl_litN] at this
        exact (List.cons.inj (show [d] = [48] from this)).1
      · rintro rfl
        exact congrArg V.str (TL.ext_tl (by rw [tl_litN]))
    refine ifN (fun c => ?_) (fun c2 => ?_)
    · walk_at "rl"
      refine Hd.mk ⟨rfl, fun z => ?_, fun z => ?_⟩
      · have z : (!decide (V.str x = V.str (Str.ofString "0"))) = true := z
        refine figs_bad (.inr (.inr (.inl ⟨by rw [e]; exact congrArg some (e48.mp c), fun z2 => ?_⟩)))
        rw [decide_eq_true (congrArg V.str (TL.ext_tl (by rw [tl_litN, z2])))] at z
        cases z
      · have z : (!decide (V.str x = V.str (Str.ofString "0"))) = false := z
        refine ⟨h0, by omega, fun z2 => z2.2 ?_⟩
        have z3 : V.str x = V.str (Str.ofString "0") := by
          refine Decidable.byContradiction fun z3 => ?_
          rw [decide_eq_false z3] at z
          cases z
        rw [str_inj z3, tl_litN]
    · walk_at "rl"
      exact Hd.mk ⟨rfl, (fun z => nomatch z), fun _ => ⟨h0, by omega, fun z => c2 (e48.mpr (by rw [e] at z; exact Option.some.inj z.1))⟩⟩
  intro b H' hh
  obtain ⟨rfl, ht, hf⟩ := hh.out
  refine ifB (fun c => qe (ht c)) (fun c => ?_)
  obtain ⟨h0, h1, h2⟩ := hf c
  walk_at "rl"
  refine L2.for_it L2.walk_str (fun i σ H2 => H2 = H' ∧ (∀ c ∈ (TL.tl x).take i, Wd.isDig c = true) ∧ ∃ v, σ = [some (.str x), v]) ⟨rfl, by simp, none, rfl⟩ (fun _ _ _ _ _ => trivial) ?_ ?_
  · rintro i v σ H2 H3 hi ⟨rfl, hd, v2, rfl⟩ ⟨rfl, c, hc, rfl⟩
    have hc : (TL.tl x)[i]? = some c := by rw [← hc]; exact (Array.getElem?_toList ..)
    walk_at "rl"
    rw [Wd.fig_sign]
    walk_at "rl"
    refine ifB (fun z => ?_) (fun z => ?_)
    · refine qe (figs_bad (.inr (.inr (.inr (Bool.eq_false_iff.mpr fun a => ?_)))))
      have := List.all_eq_true.mp a c (List.mem_of_getElem? hc)
      rw [this] at z
      cases z
    · refine ⟨rfl, fun k hk => ?_, _, rfl⟩
      rw [List.take_succ, hc] at hk
      rcases List.mem_append.mp hk with hk | hk
      · exact hd k hk
      · have hk : k ∈ [c] := hk
        rw [List.mem_singleton] at hk
        rw [hk]
        cases h : Wd.isDig c with
        | true => rfl
        | false => rw [h] at z; cases z
  · rintro σ H2 ⟨rfl, hd, v2, rfl⟩
    have hall : (TL.tl x).all Wd.isDig = true := List.all_eq_true.mpr fun c hc => hd c (by
      have : x.cps.size = (TL.tl x).length := hlen
      rw [this, List.take_length]
      exact hc)
    obtain ⟨n, en⟩ := figs_ok (x := x) (by
      rintro (z | z | z | z)
      · exact h0 z
      · exact h1 z
      · exact h2 z
      · rw [hall] at z; cases z)
    walk_at "rl"
    refine ⟨x, n, rfl, (Wd.figs_int en).1, by omega, ?_⟩
    exact qv n en
def sp_bare_game (K : PySem.W.Frag) : Sp := fun vs H Q _ => ∃ (x : Str), vs = [.str x] ∧ x ∈ Wd.bare ∧ ∀ g l H', Same H H' → H g = none → H l = none → GameAt K (Wd.bareK x) H' g l l 0 → Q (.ref g) H'
abbrev s_bare_game : Stmt := top 26
theorem sc_bare_game : FnScope ["word"] ["word"] (defScope s_bare_game) := ⟨rfl, rfl, rfl, by decide +kernel, rfl, by decide +kernel, by decide +kernel⟩
theorem ok_bare_game (T : Txt K mg) (d_Game___init__ : Dn P w K mg base CX0 2 (He.ma K (He.ga K "Game") "__init__") ["self"] (sp_ginit (He.ga K "Game"))) (d_Heap___init__ : Dn P w K mg base CX0 2 (He.ma K (He.ga K "Heap") "__init__") ["self"] (sp_ginit (He.ga K "Heap"))) (d_Parting___init__ : Dn P w K mg base CX0 2 (He.ma K (He.ga K "Parting") "__init__") ["self"] (sp_ginit (He.ga K "Parting"))) (d_Runs___init__ : Dn P w K mg base CX0 2 (He.ma K (He.ga K "Runs") "__init__") ["self"] (sp_ginit (He.ga K "Runs"))) (d_Pairs___init__ : Dn P w K mg base CX0 2 (He.ma K (He.ga K "Pairs") "__init__") ["self"] (sp_ginit (He.ga K "Pairs"))) : Dn P w K mg base CX0 4 (He.ga K "bare_game") ["word"] (sp_bare_game K) := by
  refine dn_of (k := 3) T.f_bare_game sc_bare_game (fun _ _ _ _ _ _ us hl => match us, hl with | [_], _ => rfl) (fun cdv A outer s H vs Q E hr h => ?_)
  obtain ⟨x, rfl, hx, q⟩ := h
  refine ⟨_, PSs.nox (pss_cons (ps_if (pt_cmpR op_eq (pv 0) pe_str (nomark _)) (pss_one (ps_ret (pe_mk0 T.mk_Game d_Game___init__ (hr.mono (by omega)) T.g_Game pass0))) pss_nil)
      (pss_cons (ps_if (pt_cmpR op_eq (pv 0) pe_str (nomark _)) (pss_one (ps_ret (pe_mk0 T.mk_Heap d_Heap___init__ (hr.mono (by omega)) T.g_Heap pass0))) pss_nil)
      (pss_cons (ps_if (pt_cmpR op_eq (pv 0) pe_str (nomark _)) (pss_one (ps_ret (pe_mk0 T.mk_Parting d_Parting___init__ (hr.mono (by omega)) T.g_Parting pass0))) pss_nil)
      (pss_cons (ps_if (pt_cmpR op_eq (pv 0) pe_str (nomark _)) (pss_one (ps_ret (pe_mk0 T.mk_Runs d_Runs___init__ (hr.mono (by omega)) T.g_Runs pass0))) pss_nil)
      (pss_one (ps_ret (pe_mk0 T.mk_Pairs d_Pairs___init__ (hr.mono (by omega)) T.g_Pairs pass0))))))), ?_⟩
  walk_at "rl"
  refine ifN (fun c => ?_) (fun c0 => ?_)
  · walk_at "rl"
    intro y dx nx nd ne
    have e : Wd.bareK x = .still := if_pos (str_inj c)
    rw [e] at q
    exact few_plain .still (by simp) rfl nx nd ne fun l H' sm ga nl _ => ⟨rfl, q y l H' sm nx nl ga⟩
  walk_at "rl"
  refine ifN (fun c => ?_) (fun c1 => ?_)
  · walk_at "rl"
    intro y dx nx nd ne
    have e : Wd.bareK x = .heap := (if_neg fun z => c0 (congrArg V.str z)).trans (if_pos (str_inj c))
    rw [e] at q
    exact few_plain .heap (by simp) rfl nx nd ne fun l H' sm ga nl _ => ⟨rfl, q y l H' sm nx nl ga⟩
  walk_at "rl"
  refine ifN (fun c => ?_) (fun c2 => ?_)
  · walk_at "rl"
    intro y dx nx nd ne
    have e : Wd.bareK x = .parting := (if_neg fun z => c0 (congrArg V.str z)).trans ((if_neg fun z => c1 (congrArg V.str z)).trans (if_pos (str_inj c)))
    rw [e] at q
    exact few_plain .parting (by simp) rfl nx nd ne fun l H' sm ga nl _ => ⟨rfl, q y l H' sm nx nl ga⟩
  walk_at "rl"
  refine ifN (fun c => ?_) (fun c3 => ?_)
  · walk_at "rl"
    intro y dx nx nd ne
    have e : Wd.bareK x = .runs := (if_neg fun z => c0 (congrArg V.str z)).trans ((if_neg fun z => c1 (congrArg V.str z)).trans ((if_neg fun z => c2 (congrArg V.str z)).trans (if_pos (str_inj c))))
    rw [e] at q
    exact few_plain .runs (by simp) rfl nx nd ne fun l H' sm ga nl _ => ⟨rfl, q y l H' sm nx nl ga⟩
  walk_at "rl"
  intro y dx nx nd ne
  have e : Wd.bareK x = .pairs := (if_neg fun z => c0 (congrArg V.str z)).trans ((if_neg fun z => c1 (congrArg V.str z)).trans ((if_neg fun z => c2 (congrArg V.str z)).trans (if_neg fun z => c3 (congrArg V.str z))))
  rw [e] at q
  exact few_plain .pairs (by simp) rfl nx nd ne fun l H' sm ga nl _ => ⟨rfl, q y l H' sm nx nl ga⟩
/-- what is told is one of the kinds that are made -/
theorem told_ok {ws : List Str} {k : Gm.Kind} (h : Wd.told ws = .made k) : okK k := by
  match ws, h with
  | [w], h =>
    have h : (if w ∈ Wd.bare then Wd.Out.made (Wd.bareK w) else .written) = .made k := h
    split at h
    · have e : Wd.bareK w = k := by injection h
      rw [← e]
      unfold Wd.bareK
      split
      · trivial
      split
      · trivial
      split
      · trivial
      split <;> trivial
    · cases h
  | w :: v :: r, h =>
    have h : (if w ∈ Wd.heads then (match Wd.figsAll (v :: r) with | none => Wd.Out.written | some ns => Wd.ofHead w ns) else .written) = .made k := h
    split at h
    · split at h
      · cases h
      · rename_i ns _
        unfold Wd.ofHead at h
        split at h
        · split at h
          · rename_i hR
            have e : Gm.Kind.taking ns = k := by injection h
            rw [← e]
            exact hR
          · cases h
        split at h
        · split at h
          · rename_i hR
            have e : Gm.Kind.skittles ns = k := by injection h
            rw [← e]
            exact hR
          · cases h
        split at h
        · rename_i n _
          split at h
          · rename_i hR
            have e : Gm.Kind.few n = k := by injection h
            rw [← e]
            exact hR
          · cases h
        · cases h
    · cases h
theorem limBad_go {K : PySem.W.Frag} {H : Hp} : ∀ (suf pre : List Nat), pre.Pairwise (· < ·) → (∀ l ∈ pre, 1 ≤ l ∧ l ≤ 12) → pre ++ suf ≠ [] → ¬ Gm.Rising (pre ++ suf) → LimBad K H (NL (pre ++ suf))
  | [], pre, hp, h1, hne, hR => by
    rw [List.append_nil] at hne hR
    exact absurd ⟨hne, hp, h1⟩ hR
  | u :: r, pre, hp, h1, hne, hR => by
    have hlast : ∀ l ∈ pre, l ≤ pre.getLastD 0 := fun l hl => by
      have hn : pre ≠ [] := fun z => by rw [z] at hl; cases hl
      have e : pre = pre.dropLast ++ [pre.getLast hn] := (List.dropLast_concat_getLast hn).symm
      rw [List.getLastD_eq_getLast?, List.getLast?_eq_some_getLast hn]
      show l ≤ pre.getLast hn
      generalize pre.getLast hn = z at *
      generalize pre.dropLast = t at *
      rw [e] at hl hp
      rcases List.mem_append.mp hl with hl | hl
      · have := (List.pairwise_append.mp hp).2.2 l hl z (by simp)
        omega
      · rw [List.mem_singleton] at hl
        omega
    by_cases c : pre.getLastD 0 < u ∧ u ≤ 12
    · have := limBad_go (K := K) (H := H) r (pre ++ [u]) (List.pairwise_append.mpr ⟨hp, by simp, fun x hx y hy => by rw [List.mem_singleton] at hy; have := hlast x hx; omega⟩) (fun l hl => by
        rcases List.mem_append.mp hl with hl | hl
        · exact h1 l hl
        · rw [List.mem_singleton] at hl; omega) (by simp) (by rw [List.append_assoc]; exact hR)
      rw [List.append_assoc] at this
      exact this
    · refine .inr ⟨pre, .int (u : Int), NL r, ?_, hp, h1, .inr ⟨(u : Int), rfl, by omega⟩⟩
      unfold NL
      rw [List.map_append]
      rfl
theorem limBad_of {K : PySem.W.Frag} {H : Hp} {ns : List Nat} (h : ¬ Gm.Rising ns) : LimBad K H (NL ns) := by
  by_cases c : ns = []
  · rw [c]
    exact .inl rfl
  · exact limBad_go ns [] .nil (by simp) c h
theorem spl_len (S : List Nat) : ∀ (l : List Nat) (k : Nat) (acc : List Nat), (TL.spl S k acc l).length ≤ l.length + 1
  | [], k, acc => by cases k <;> exact Nat.le_refl _
  | c :: r, 0, acc => by
    show (if TL.pre S (c :: r) = true then acc :: TL.spl S (S.length - 1) [] r else TL.spl S 0 (acc ++ [c]) r).length ≤ _
    split
    · have := spl_len S r (S.length - 1) []
      simp only [List.length_cons]
      omega
    · have := spl_len S r 0 (acc ++ [c])
      simp only [List.length_cons]
      omega
  | c :: r, k + 1, acc => by
    have := spl_len S r k acc
    simp only [List.length_cons]
    exact Nat.le_trans this (by omega)
theorem spl_each (S : List Nat) : ∀ (l : List Nat) (k : Nat) (acc : List Nat), ∀ z ∈ TL.spl S k acc l, z.length ≤ acc.length + l.length
  | [], k, acc, z, h => by
    rw [TL.spl_nil, List.mem_singleton] at h
    rw [h]
    exact Nat.le_add_right _ _
  | c :: r, 0, acc, z, h => by
    have h : z ∈ (if TL.pre S (c :: r) = true then acc :: TL.spl S (S.length - 1) [] r else TL.spl S 0 (acc ++ [c]) r) := h
    split at h
    · rcases List.mem_cons.mp h with rfl | h
      · exact Nat.le_add_right _ _
      · have := spl_each S r (S.length - 1) [] z h
        simp only [List.length_cons, List.length_nil] at this ⊢
        omega
    · have := spl_each S r 0 (acc ++ [c]) z h
      simp only [List.length_cons, List.length_append, List.length_nil] at this ⊢
      omega
  | c :: r, k + 1, acc, z, h => by
    have := spl_each S r k acc z h
    simp only [List.length_cons]
    omega
theorem split_blank (x : Str) : (Txt.split x (Str.ofString " ")).map TL.tl = TL.spl [32] 0 [] (TL.tl x) := by
  have e : TL.tl (Str.ofString " ") = [32] := by rw [TL.tl_ofString]; rfl
  have := TL.split_spl x (Str.ofString " ") (by rw [e]; simp) (TL.kind_ok (by
    have : Str.ofString " " = ⟨#[32]⟩ := TL.ext_tl e
    rw [this]
    decide +kernel))
  rw [e] at this
  exact this
theorem split_len (x : Str) : (Txt.split x (Str.ofString " ")).length ≤ x.length + 1 := by
  have h := congrArg List.length (split_blank x)
  rw [List.length_map] at h
  rw [h, TL.len_tl]
  exact spl_len _ _ _ _
theorem split_each (x : Str) : ∀ z ∈ Txt.split x (Str.ofString " "), z.length ≤ x.length := fun z hz => by
  have h := spl_each [32] (TL.tl x) 0 [] (TL.tl z) (by rw [← split_blank]; exact List.mem_map.mpr ⟨z, hz, rfl⟩)
  rw [TL.len_tl, TL.len_tl x]
  simpa using h
def sp_game_told (K : PySem.W.Frag) : Sp := fun vs H Q E => ∃ (x : Str), vs = [.str x] ∧ x.length ≤ 1000000 ∧
  (∀ k, Wd.ofText x = .made k → ∀ g l y H', Same H H' → H g = none → H l = none → Fresh k H H' l y → GameAt K k H' g l y 0 → Q (.ref g) H') ∧
  (Wd.ofText x = .written → ∀ H', Same H H' → E (.ref (He.ga K "NotWritten")) none H') ∧ (Wd.ofText x = .game → ∀ H', Same H H' → E (.ref (He.ga K "NotAGame")) none H')
abbrev s_game_told : Stmt := top 27
theorem sc_game_told : FnScope ["text", "words", "word", "numbers"] ["text"] (defScope s_game_told) := ⟨rfl, rfl, rfl, by decide +kernel, rfl, by decide +kernel, by decide +kernel⟩
theorem ok_game_told (T : Txt K mg) (d_bare_game : Dn P w K mg base CX0 4 (He.ga K "bare_game") ["word"] (sp_bare_game K)) (d_figures_of : Dn P w K mg base (L2.CX P w) 1 (He.ga K "figures_of") ["text"] (sp_figures_of K)) (d_Taking___init__ : Dn P w K mg base (L2.CX P w) 5 (He.ma K (He.ga K "Taking") "__init__") ["self", "limits"] (sp_tinit K (He.ga K "Taking"))) (d_Skittles___init__ : Dn P w K mg base (L2.CX P w) 5 (He.ma K (He.ga K "Skittles") "__init__") ["self", "limits"] (sp_tinit K (He.ga K "Skittles"))) (d_Few___init__ : Dn P w K mg base (L2.CX P w) 5 (He.ma K (He.ga K "Few") "__init__") ["self", "most"] (sp_finit K (He.ga K "Few"))) : Dn P w K mg base (L2.CX P w) 7 (He.ga K "game_told") ["text"] (sp_game_told K) := by
  refine dn_of (k := 6) T.f_game_told sc_game_told (fun _ _ _ _ _ _ us hl => match us, hl with | [_], _ => rfl) (fun cdv A outer s H vs Q E hr h => ?_)
  obtain ⟨x, rfl, hx, qk, qw, qg⟩ := h
  refine ⟨_, (pss_cons (ps_setLc (i := 1) (own := [("word", 2)]) (g := gName 2) (by rfl) sc_game_told.nd rfl rfl (sw_true rfl rfl rfl (by decide +kernel)) (pi_list (pe_split (pv 0) pe_str)) (blkOk_by (own := [("word", 2)]) (N := ["text", "words", "word", "numbers"]) (sc := defScope (s_game_told)) (by decide +kernel)) (fun _ _ _ _ _ => pg_name (i := 2) sc_game_told.nd rfl (by first | exact Or.inl rfl | exact Or.inr rfl)) (fun _ _ _ _ _ => (pts_one (pt_cmpR op_ne (pv 2) pe_str (nomark _)))) (fun _ _ _ _ _ => (pv 2)))
      (pss_cons (ps_if (PW.pt (pw_and (pt_cmpR op_eqn (pe_callB (r := rLenSeq K) cr_lenseq (by rfl) T.n_len PySem.boot_len (pa_cons (pv 1) pa_nil)) (pe_nat 1) (nomark _)) (pw_and1 (pt_cmpR op_in_seq (pe_ix ix_list (pv 1) (pe_nat 0) (fun _ _ => rfl)) (pe_glob (v := .ref (He.ga K "BARE")) rfl T.g_BARE rfl) rfl)))) (pss_one (ps_ret (pe_cl d_bare_game (hr.mono (by omega)) T.g_bare_game pass0 (pa_cons (pe_ix ix_list (pv 1) (pe_nat 0) (fun _ _ => rfl)) pa_nil)))) pss_nil)
      (pss_cons (ps_if (PW.pt (pw_or (pt_cmpR op_ltn (pe_callB (r := rLenSeq K) cr_lenseq (by rfl) T.n_len PySem.boot_len (pa_cons (pv 1) pa_nil)) (pe_nat 2) (nomark _)) (pw_or1 (pt_cmpR op_notIn_seq (pe_ix ix_list (pv 1) (pe_nat 0) (fun _ _ => rfl)) (pe_tup (pa_cons pe_str (pa_cons pe_str (pa_cons pe_str pa_nil)))) rfl)))) (pss_one (ps_raise rfl (takes_of rfl rfl rfl rfl) (pmk_own PySem.F.excBase_ValueError T.x_NotWritten.1 T.g_NotWritten T.x_NotWritten.2.1 (raises_own T.x_NotWritten.2.2.1 T.x_NotWritten.2.2.2) (by exact rfl)))) pss_nil)
      (pss_cons (ps_setLcX (i := 3) (own := [("word", 2)]) (g := gName 2) rfl rfl (takes_of rfl rfl rfl rfl) (by rfl) sc_game_told.nd rfl rfl (sw_true rfl rfl rfl (by decide +kernel)) (pi_list (pe_slice sl_list (pv 1) (po_some pe_int) po_none)) (blkOk_by (own := [("word", 2)]) (N := ["text", "words", "word", "numbers"]) (sc := defScope (s_game_told)) (by decide +kernel)) (fun _ _ _ _ _ => pg_name (i := 2) sc_game_told.nd rfl (by first | exact Or.inl rfl | exact Or.inr rfl)) (fun _ _ _ _ _ => pts_nil) (fun _ _ _ _ _ => (pe_cl d_figures_of (hr.mono (by omega)) T.g_figures_of (passB rfl rfl rfl) (pa_cons (pv 2) pa_nil))))
      (pss_cons (ps_if (pt_cmpR op_eq (pe_ix ix_list (pv 1) (pe_nat 0) (fun _ _ => rfl)) pe_str (nomark _)) (pss_one (ps_ret (pe_mk T.mk_Taking d_Taking___init__ (hr.mono (by omega)) T.g_Taking (passes_call (takes_of rfl rfl rfl rfl) (fun _ _ _ _ h => h)) (pa_cons (pv 3) pa_nil)))) pss_nil)
      (pss_cons (ps_if (pt_cmpR op_eq (pe_ix ix_list (pv 1) (pe_nat 0) (fun _ _ => rfl)) pe_str (nomark _)) (pss_one (ps_ret (pe_mk T.mk_Skittles d_Skittles___init__ (hr.mono (by omega)) T.g_Skittles (passes_call (takes_of rfl rfl rfl rfl) (fun _ _ _ _ h => h)) (pa_cons (pv 3) pa_nil)))) pss_nil)
      (pss_cons (ps_if (pt_cmpR op_nen (pe_callB (r := rLenSeq K) cr_lenseq (by rfl) T.n_len PySem.boot_len (pa_cons (pv 3) pa_nil)) (pe_nat 1) (nomark _)) (pss_one (ps_raise rfl (takes_of rfl rfl rfl rfl) (pmk_own PySem.F.excBase_ValueError T.x_NotWritten.1 T.g_NotWritten T.x_NotWritten.2.1 (raises_own T.x_NotWritten.2.2.1 T.x_NotWritten.2.2.2) (by exact rfl)))) pss_nil)
      (pss_one (ps_ret (pe_mk T.mk_Few d_Few___init__ (hr.mono (by omega)) T.g_Few (passes_call (takes_of rfl rfl rfl rfl) (fun _ _ _ _ h => h)) (pa_cons (pe_ix ix_list (pv 3) (pe_nat 0) (fun _ _ => rfl)) pa_nil))))))))))), ?_⟩
  walk_at "rl"
  refine ⟨long_line (by omega), fun W0 nW0 => ?_⟩
  have hsl := split_len x
  have hse := split_each x
  unfold Wd.ofText Wd.words at qk qw qg
  generalize Txt.split x (Str.ofString " ") = parts at *
  have s1 := Same.upd nW0 (o := .lst (SL parts))
  have e1 : upd H W0 (.lst (SL parts)) W0 = _ := upd_same
  refine ⟨W0, rfl, ⟨_, SqL.of e1⟩, fun W nW => ?_⟩
  have e1' : upd H W0 (.lst (parts.map V.str)) W0 = some (.lst (SL parts)) := e1
  have s1' : Same H (upd H W0 (.lst (parts.map V.str))) := s1
  generalize upd H W0 (.lst (parts.map V.str)) = H1 at *
  refine lc_list (K := K) (a := W0) (xs := SL parts) (fun i H' => H' W = some (.lst (SL ((parts.take i).filter fun w => !decide (w = Str.ofString "")))) ∧ Same H1 H') ⟨upd_same, Same.upd nW⟩ (fun i H' _ h => SqL.of (h.2 _ _ e1')) ?_ ?_
  · rintro i v H' hi ⟨hW, sm⟩
    obtain ⟨z, hz, rfl⟩ : ∃ z, parts[i]? = some z ∧ v = V.str z := by
      unfold SL at hi
      rw [List.getElem?_map] at hi
      cases e : parts[i]? with
      | none => rw [e] at hi; cases hi
      | some z => rw [e] at hi; exact ⟨z, rfl, (Option.some.inj hi).symm⟩
    have hil : i < parts.length := (List.getElem?_eq_some_iff.mp hz).1
    walk_at "rl"
    refine ifNn (fun c => ?_) (fun c => ?_)
    · refine ⟨_, rfl, _, hW, mil_line (by rw [SL_length]; refine Nat.le_trans (List.length_filter_le _ _) ?_; rw [List.length_take]; omega), ?_, Same.put sm nW⟩
      rw [upd_same, List.take_succ, hz, List.filter_append]
      show _ = some (HO.lst (SL (_ ++ List.filter _ [z])))
      rw [List.filter_cons_of_pos (by rw [decide_eq_false (fun e => c (congrArg V.str e))]; rfl), List.filter_nil, SL_snoc]
    · refine ⟨?_, sm⟩
      rw [hW, List.take_succ, hz, List.filter_append]
      show _ = some (HO.lst (SL (_ ++ List.filter _ [z])))
      rw [List.filter_cons_of_neg (by rw [decide_eq_true (str_inj c)]; exact Bool.false_ne_true)]
      show _ = some (HO.lst (SL (_ ++ [])))
      rw [List.append_nil]
  rintro H2 ⟨hW, s2⟩
  rw [SL_length, List.take_length] at hW
  have hwl : ∀ z ∈ parts.filter (fun w => !decide (w = Str.ofString "")), z.length ≤ 1000000 := fun z hz => Nat.le_trans (hse z (List.mem_filter.mp hz).1) hx
  have hwn : (parts.filter (fun w => !decide (w = Str.ofString ""))).length ≤ 1000001 := Nat.le_trans (List.length_filter_le _ _) (by omega)
  generalize parts.filter (fun w => !decide (w = Str.ofString "")) = ws at *
  have s02 := s1'.trans s2
  match ws, qk, qw, qg, hW, hwl, hwn with
  | [], qk, qw, qg, hW, hwl, hwn =>
    walk_at "rl"
    refine ifN (fun _ => ?_) (fun c => absurd (by show 0 < 2; decide) c)
    exact qw rfl H2 s02
  | [w'], qk, qw, qg, hW, hwl, hwn =>
    walk_at "rl"
    refine ⟨W, _, _, _, rfl, rfl, SqL.of hW, atI_nat (j := 0) rfl, ?_⟩
    walk_at "rl"
    refine ⟨_, _, rfl, .inr (T.tup_BARE _), rfl, flat_SL _, ?_⟩
    rw [inV_SL]
    walk_at "rl"
    refine ifN (fun c => ?_) (fun c => ?_)
    · walk_at "rl"
      refine ⟨W, _, _, _, rfl, rfl, SqL.of hW, atI_nat (j := 0) rfl, ?_⟩
      walk_at "rl"
      refine ⟨c, fun g l H3 s3 ng nl ga => ?_⟩
      refine qk _ (if_pos c) g l l H3 (s02.trans s3) (none_of_same s02 ng) (none_of_same s02 nl) (fresh_plain ?_) ga
      unfold Wd.bareK
      split
      · simp
      split
      · simp
      split
      · simp
      split <;> simp
    · walk_at "rl"
      refine ifN (fun _ => ?_) (fun c => absurd (by show 1 < 2; decide) c)
      exact qw (if_neg c) H2 s02
  | w' :: v :: r, qk, qw, qg, hW, hwl, hwn =>
    walk_at "rl"
    refine ⟨W, _, _, _, rfl, rfl, SqL.of hW, atI_nat (j := 0) rfl, ?_⟩
    walk_at "rl"
    refine ⟨by show 3 ≤ sizeLine; decide, fun Tp nT => ?_⟩
    have s3 := Same.upd nT (o := .tup [V.str (Str.ofString "taking"), V.str (Str.ofString "skittles"), V.str (Str.ofString "few")])
    have eT : upd H2 Tp (.tup [V.str (Str.ofString "taking"), V.str (Str.ofString "skittles"), V.str (Str.ofString "few")]) Tp = some (.tup (SL Wd.heads)) := upd_same
    generalize upd H2 Tp (.tup [V.str (Str.ofString "taking"), V.str (Str.ofString "skittles"), V.str (Str.ofString "few")]) = H3 at *
    have hW3 := s3 _ _ hW
    have s03 := s02.trans s3
    refine ⟨Tp, SL Wd.heads, rfl, .inr (SqT.of eT), rfl, flat_SL _, ?_⟩
    walk_at "rl"
    rw [if_pos rfl, inV_SL]
    refine ifNn (fun c => ?_) (fun c => ?_)
    · exact qw (if_neg c) H3 s03
    have qk : ∀ k, (match Wd.figsAll (v :: r) with | none => Wd.Out.written | some ns => Wd.ofHead w' ns) = .made k → _ := fun k e => qk k ((if_pos c).trans e)
    have qw : (match Wd.figsAll (v :: r) with | none => Wd.Out.written | some ns => Wd.ofHead w' ns) = .written → _ := fun e => qw ((if_pos c).trans e)
    have qg : (match Wd.figsAll (v :: r) with | none => Wd.Out.written | some ns => Wd.ofHead w' ns) = .game → _ := fun e => qg ((if_pos c).trans e)
    walk_at "rl"
    refine ⟨W, _, rfl, SqL.of hW3, fun S nSl => ?_⟩
    have ecut : cutV (SL (w' :: v :: r)) (some ((1 : Nat) : Int)) none = SL (v :: r) := cut_drop _ 1
    rw [show (1 : Int) = ((1 : Nat) : Int) from rfl, ecut]
    have s4 := Same.upd nSl (o := .lst (SL (v :: r)))
    have eS : upd H3 S (.lst (SL (v :: r))) S = _ := upd_same
    have hW4 := s4 _ _ hW3
    have s04 := s03.trans s4
    generalize upd H3 S (.lst (SL (v :: r))) = H4 at *
    generalize eu : v :: r = us at *
    have hul : us.length ≤ 1000001 := by rw [List.length_cons] at hwn; omega
    walk_at "rl"
    refine ⟨⟨_, SqL.of eS⟩, fun Nn nNn => ?_⟩
    refine lc_list (K := K) (a := S) (xs := SL us) (fun i H' => ∃ ms, Wd.figsAll (us.take i) = some ms ∧ H' Nn = some (.lst (NL ms)) ∧ Same H4 H') ⟨[], rfl, upd_same, Same.upd nNn⟩ (fun i H' _ h => by obtain ⟨_, _, _, sm⟩ := h; exact SqL.of (sm _ _ eS)) ?_ ?_
    · rintro i v' H' hi ⟨ms, hms, hN, sm⟩
      obtain ⟨z, hz, rfl⟩ : ∃ z, us[i]? = some z ∧ v' = V.str z := by
        unfold SL at hi
        rw [List.getElem?_map] at hi
        cases e : us[i]? with
        | none => rw [e] at hi; cases hi
        | some z => rw [e] at hi; exact ⟨z, rfl, (Option.some.inj hi).symm⟩
      have hil : i < us.length := (List.getElem?_eq_some_iff.mp hz).1
      have hml := (Wd.figsAll_len hms).1
      rw [List.length_take] at hml
      walk_at "rl"
      refine ⟨hwl z (List.mem_cons_of_mem _ (List.mem_of_getElem? hz)), fun n en => ?_, fun en => ?_⟩
      · refine ⟨_, hN, mil_line (by rw [NL_length]; omega), ms ++ [n], ?_, ?_, Same.put sm nNn⟩
        · exact Wd.figsAll_snoc hz hms en
        · rw [upd_same]
          unfold NL
          rw [List.map_append]
          rfl
      · refine qw ?_ H' (s04.trans sm)
        rw [Wd.figsAll_bad hz hms en]
    rintro H5 ⟨ms, hms, hN, s45⟩
    rw [SL_length, List.take_length] at hms
    rw [hms] at qk qw qg
    have hW5 := s45 _ _ hW4
    have s05 := s04.trans s45
    have hml := Wd.figsAll_len hms
    have qk : ∀ k, Wd.ofHead w' ms = .made k → _ := qk
    have qw : Wd.ofHead w' ms = .written → _ := qw
    have qg : Wd.ofHead w' ms = .game → _ := qg
    unfold Wd.ofHead at qk qw qg
    walk_at "rl"
    refine ⟨W, _, _, _, rfl, rfl, SqL.of hW5, atI_nat (j := 0) rfl, ?_⟩
    walk_at "rl"
    refine ifN (fun c1 => ?_) (fun c1 => ?_)
    · rw [if_pos (str_inj c1)] at qk qw qg
      walk_at "rl"
      intro y dx nx nd ne
      by_cases hR : Gm.Rising ms
      · rw [if_pos hR] at qk
        refine few_lim nx nd ne (.inl hN) hR fun l D H' sm hg hl hD neD nl nD _ _ => ⟨rfl, ?_⟩
        exact qk _ rfl y l D H' (s05.trans sm) (none_of_same s05 nx) (none_of_same s05 nl) (fresh_lim rfl hD neD (none_of_same s05 nD)) (mk_lim rfl hg hl hD neD)
      · rw [if_neg hR] at qg
        exact few_limB nx nd ne (.inr ⟨Nn, _, rfl, .inl hN, limBad_of hR⟩) fun H' sm => qg rfl H' (s05.trans sm)
    have c1' : ¬ w' = Str.ofString "taking" := fun z => c1 (congrArg V.str z)
    rw [if_neg c1'] at qk qw qg
    walk_at "rl"
    refine ⟨W, _, _, _, rfl, rfl, SqL.of hW5, atI_nat (j := 0) rfl, ?_⟩
    walk_at "rl"
    refine ifN (fun c2 => ?_) (fun c2 => ?_)
    · rw [if_pos (str_inj c2)] at qk qw qg
      walk_at "rl"
      intro y dx nx nd ne
      by_cases hR : Gm.Rising ms
      · rw [if_pos hR] at qk
        refine few_lim nx nd ne (.inl hN) hR fun l D H' sm hg hl hD neD nl nD _ _ => ⟨rfl, ?_⟩
        exact qk _ rfl y l D H' (s05.trans sm) (none_of_same s05 nx) (none_of_same s05 nl) (fresh_lim rfl hD neD (none_of_same s05 nD)) (mk_lim rfl hg hl hD neD)
      · rw [if_neg hR] at qg
        exact few_limB nx nd ne (.inr ⟨Nn, _, rfl, .inl hN, limBad_of hR⟩) fun H' sm => qg rfl H' (s05.trans sm)
    have c2' : ¬ w' = Str.ofString "skittles" := fun z => c2 (congrArg V.str z)
    rw [if_neg c2'] at qk qw qg
    walk_at "rl"
    rw [NL_length]
    refine ifNn (fun c3 => ?_) (fun c3 => ?_)
    · refine qw ?_ H5 s05
      split
      · exact absurd rfl c3
      · rfl
    obtain ⟨m, rfl⟩ : ∃ m, ms = [m] := by
      match ms, c3 with
      | [m], _ => exact ⟨m, rfl⟩
    have qk : ∀ k, (if 1 ≤ m ∧ m ≤ 3 then Wd.Out.made (.few m) else .game) = .made k → _ := qk
    have qg : (if 1 ≤ m ∧ m ≤ 3 then Wd.Out.made (.few m) else .game) = .game → _ := qg
    walk_at "rl"
    refine ⟨Nn, _, _, _, rfl, rfl, SqL.of hN, atI_nat (j := 0) rfl, ?_⟩
    walk_at "rl"
    intro y dx nx nd ne
    by_cases hR : 1 ≤ m ∧ m ≤ 3
    · rw [if_pos hR] at qk
      refine few_few rfl nx nd ne hR.1 hR.2 fun l H' sm ga nl _ => ⟨rfl, ?_⟩
      exact qk _ rfl y l l H' (s05.trans sm) (none_of_same s05 nx) (none_of_same s05 nl) (fresh_plain (by simp)) ga
    · rw [if_neg hR] at qg
      exact few_fewB nx nd ne (.inr ⟨(m : Int), rfl, by omega⟩) fun H' sm => qg rfl H' (s05.trans sm)

theorem blank1 : Str.ofString " " = ⟨#[32]⟩ := by decide +kernel
theorem tl_blanks (n : Nat) : TL.tl (Txt.mul (Str.ofString " ") (n : Int)) = List.replicate n 32 := by rw [blank1, tl_mul1]
theorem len_blanks (n : Nat) : (Txt.mul (Str.ofString " ") (n : Int)).length = n := by rw [TL.len_tl, tl_blanks, List.length_replicate]
theorem lit_len {s : String} {n : Nat} (h : s.toList.length ≤ n) : (Str.ofString s).length ≤ n := by
  rw [TL.len_tl, TL.tl_ofString, List.length_map]
  exact h
theorem kw_len {k : Gm.Kind} (h : okK k) : (kw : List Str) = Wd.kw k → kw.length ≤ 13 ∧ ∀ w ∈ kw, w.length ≤ 10 := by
  rintro rfl
  have nums : ∀ ls : List Nat, Gm.Rising ls → (ls.map Wd.num).length ≤ 12 ∧ ∀ w ∈ ls.map Wd.num, w.length ≤ 10 := fun ls hR => by
    refine ⟨by rw [List.length_map]; exact hR.len, fun w hw => ?_⟩
    obtain ⟨n, hn, rfl⟩ := List.mem_map.mp hw
    have := nS_len (n := n) (by have := hR.2.2 n hn; omega)
    exact Nat.le_trans this (by decide)
  cases k with
  | still => exact ⟨by decide, fun w hw => by rw [List.mem_singleton.mp hw]; exact lit_len (by decide)⟩
  | heap => exact ⟨by decide, fun w hw => by rw [List.mem_singleton.mp hw]; exact lit_len (by decide)⟩
  | parting => exact ⟨by decide, fun w hw => by rw [List.mem_singleton.mp hw]; exact lit_len (by decide)⟩
  | runs => exact ⟨by decide, fun w hw => by rw [List.mem_singleton.mp hw]; exact lit_len (by decide)⟩
  | pairs => exact ⟨by decide, fun w hw => by rw [List.mem_singleton.mp hw]; exact lit_len (by decide)⟩
  | taking ls =>
    obtain ⟨h1, h2⟩ := nums ls h
    refine ⟨by show (ls.map Wd.num).length + 1 ≤ 13; omega, fun w hw => ?_⟩
    rcases List.mem_cons.mp hw with rfl | hw
    · exact lit_len (by decide)
    · exact h2 w hw
  | skittles ls =>
    obtain ⟨h1, h2⟩ := nums ls h
    refine ⟨by show (ls.map Wd.num).length + 1 ≤ 13; omega, fun w hw => ?_⟩
    rcases List.mem_cons.mp hw with rfl | hw
    · exact lit_len (by decide)
    · exact h2 w hw
  | few m =>
    have hm : 1 ≤ m ∧ m ≤ 3 := h
    refine ⟨by show 2 ≤ 13; decide, fun w hw => ?_⟩
    rcases List.mem_cons.mp hw with rfl | hw
    · exact lit_len (by decide)
    · rw [List.mem_singleton.mp hw]
      exact Nat.le_trans (nS_len (n := m) (by omega)) (by decide)
  | told _ => exact h.elim
theorem joinL1 (S p : List Nat) : TL.joinL S [p] = p := rfl
theorem name_kw {k : Gm.Kind} (h : okK k) : Txt.join (Str.ofString " ") (Wd.kw k) = nameOf k := by
  refine TL.ext_tl ?_
  rw [Wd.tl_joinB]
  have lim : ∀ (s : String) (ls : List Nat), Gm.Rising ls → TL.joinL [32] ((Str.ofString s :: ls.map Wd.num).map TL.tl) = TL.tl (Str.ofString (s ++ " ") ++ wordsOf ls) := fun s ls hR => by
    rw [TL.tl_append, TL.tl_ofString, wordsOf, Wd.tl_joinB]
    match ls, hR with
    | [], hR => exact absurd rfl hR.1
    | n :: r, _ =>
      show TL.tl (Str.ofString s) ++ ([32] ++ TL.joinL [32] ((Wd.num n :: r.map Wd.num).map TL.tl)) = _
      rw [TL.tl_ofString, String.toList_append, List.map_append, List.append_assoc]
      rfl
  cases k with
  | still => rfl
  | heap => rfl
  | parting => rfl
  | runs => rfl
  | pairs => rfl
  | taking ls => exact lim "taking" ls h
  | skittles ls => exact lim "skittles" ls h
  | few m =>
    show TL.tl (Str.ofString "few") ++ ([32] ++ TL.tl (Wd.num m)) = TL.tl (Str.ofString "few " ++ nS m)
    rw [TL.tl_append, TL.tl_ofString, TL.tl_ofString, ← List.append_assoc]
    rfl
  | told _ => exact h.elim
theorem sum_small {ws : List Str} (h1 : ws.length ≤ 13) (h2 : ∀ w ∈ ws, w.length ≤ 10) : (ws.map (·.length)).sum + ws.length * (Str.ofString " ").length ≤ 16777216 := by
  have e : (ws.map (·.length)).sum ≤ (ws.map (·.length)).length * 10 := sum_le_mul fun x hx => by
    obtain ⟨y, hy, rfl⟩ := List.mem_map.mp hx
    exact h2 y hy
  rw [List.length_map] at e
  rw [blank1]
  show _ + ws.length * 1 ≤ _
  omega
theorem join_small {b : Nat} (hb : b ≤ 3) {ws : List Str} (h1 : ws.length ≤ 13) (h2 : ∀ w ∈ ws, w.length ≤ 10) : (ws.map (·.length)).sum + ws.length * (Txt.mul (Str.ofString " ") (b : Int)).length ≤ 1000 ∧ (Txt.join (Txt.mul (Str.ofString " ") (b : Int)) ws).length ≤ 1000 := by
  have e : (ws.map (·.length)).sum ≤ (ws.map (·.length)).length * 10 := sum_le_mul fun x hx => by
    obtain ⟨y, hy, rfl⟩ := List.mem_map.mp hx
    exact h2 y hy
  rw [List.length_map] at e
  have hl := len_blanks b
  have e2 : ws.length * (Txt.mul (Str.ofString " ") (b : Int)).length ≤ 13 * 3 := Nat.mul_le_mul h1 (by omega)
  refine ⟨by omega, ?_⟩
  rw [TL.join_eq]
  refine Nat.le_trans (StrLaws.join_length_le _ _) ?_
  omega
theorem ofText_name {k : Gm.Kind} (h : okK k) : Wd.ofText (nameOf k) = .made k := by
  have hw : Wd.words (nameOf k) = Wd.kw k := Wd.words_of (a := 0) (b := 1) (c := 0) (Nat.le_refl _) (Wd.kw_word _) (by
    rw [← name_kw h, Wd.tl_joinB, List.replicate_zero, List.nil_append, List.append_nil]
    rfl)
  unfold Wd.ofText
  rw [hw]
  refine Wd.told_kw ?_
  cases k <;> first | exact h | trivial

/-! ### the desk -/
theorem tl_lit {s : String} : TL.tl (Str.ofString s) = s.toList.map Char.toNat := TL.tl_ofString s
theorem num_join_len : ∀ (ns : List Nat), (∀ n ∈ ns, n < 1000) → ((ns.map Wd.num).map (·.length)).sum ≤ 4 * ns.length
  | [], _ => Nat.le_refl _
  | n :: r, h => by
    have h1 := num_join_len r fun m hm => h m (List.mem_cons_of_mem _ hm)
    have h0 := h n List.mem_cons_self
    have h2 : (Wd.num n).length ≤ 3 := nS_len (n := n) (by omega)
    rw [List.map_cons, List.map_cons, List.sum_cons, List.length_cons]
    omega
/-- a kind that words tell -/
def Wdk : Gm.Kind → Prop
  | .told _ => False
  | _ => True
theorem Wdk.top {k : Gm.Kind} (h : Wdk k) : k.top = 101 := by
  cases k <;> first | rfl | exact h.elim
theorem fewAll_row0 (p n : Nat) : ∀ row ∈ Gm.fewAll p n, row.length ≤ n := by
  induction n with
  | zero =>
    intro row h
    have h : row ∈ [[]] := h
    rw [List.mem_singleton] at h
    rw [h]
    exact Nat.le_refl _
  | succ n ih =>
    intro row h
    rcases List.mem_append.mp (show row ∈ Gm.fewAll p n ++ Gm.fewN p (n + 1) from h) with h | h
    · have := ih row h
      omega
    · rw [fewN_rowlen p (n + 1) row h]
      exact Nat.le_refl _
theorem lead_len {k : Gm.Kind} (hk : k.Ok) (w : Wdk k) {p : Nat} (hp : p ≤ 100) : ∀ lead ∈ k.L p, lead.length ≤ 100 := by
  intro lead hl
  cases k with
  | still => cases hl
  | heap | pairs | taking ls =>
    obtain ⟨r, _, rfl⟩ := List.mem_map.mp hl
    show 1 ≤ 100
    decide
  | skittles ls =>
    obtain ⟨r, _, h1⟩ := List.mem_flatMap.mp hl
    obtain ⟨o, _, rfl⟩ := List.mem_map.mp h1
    show 2 ≤ 100
    decide
  | parting =>
    obtain ⟨o, _, rfl⟩ := List.mem_map.mp hl
    show 2 ≤ 100
    decide
  | runs =>
    obtain ⟨i, hi, rfl⟩ := List.mem_map.mp hl
    rw [List.length_range']
    have := List.mem_range.mp hi
    omega
  | few m =>
    obtain ⟨h1, h3⟩ : 1 ≤ m ∧ m ≤ 3 := hk
    have := fewAll_row0 p (m - 1) lead hl
    omega
  | told rows => exact w.elim
def sp_turn_told (K : PySem.W.Frag) : Sp := fun vs H Q E => ∃ (k : Gm.Kind) (g l x p : Addr) (n : Nat) (ls : List Nat), vs = [.ref g, .ref p] ∧ okK k ∧ Wdk k ∧ GameAt K k H g l x n ∧ n ≤ 101 ∧ H p = some (.lst (NL ls)) ∧ p ≠ l ∧ ls.length ≤ 1000000 ∧
  ((∀ q ∈ ls, q ≤ 100) → ∀ H', But l H H' → Q (.str (Ds.told k ls)) H') ∧ ((¬ ∀ q ∈ ls, q ≤ 100) → ∀ H', But l H H' → E (.ref (He.ga K "NotAPlace")) none H')
theorem app_len (a b : Str) : (a ++ b).length = a.length + b.length := by rw [TL.len_tl, TL.tl_append, List.length_append, ← TL.len_tl, ← TL.len_tl]
theorem joinL_len (S : List Nat) : ∀ ps : List (List Nat), (TL.joinL S ps).length ≤ (ps.map (·.length)).sum + ps.length * S.length
  | [] => Nat.zero_le _
  | [p] => by
    show p.length ≤ p.length + 0 + 1 * S.length
    omega
  | p :: q :: r => by
    have := joinL_len S (q :: r)
    show (p ++ (S ++ TL.joinL S (q :: r))).length ≤ _
    rw [List.length_append, List.length_append, List.map_cons, List.sum_cons, List.length_cons, Nat.succ_mul]
    omega
theorem join_len (y : Str) (xs : List Str) : (Txt.join y xs).length ≤ (xs.map (·.length)).sum + xs.length * y.length := by
  rw [TL.join_eq, TL.len_tl, TL.tl_join]
  have := joinL_len (TL.tl y) (xs.map TL.tl)
  rw [List.map_map, List.length_map, ← TL.len_tl] at this
  have e : ((List.length ∘ TL.tl) : Str → Nat) = (·.length) := funext fun x => (TL.len_tl x).symm
  have this : _ ≤ (xs.map (List.length ∘ TL.tl)).sum + _ := this
  rw [e] at this
  exact this
theorem split_bad : ∀ (ls : List Nat), (∀ q ∈ ls, q ≤ 100) ∨ ∃ (pre : List Nat) (u : Nat) (r : List Nat), ls = pre ++ u :: r ∧ (∀ q ∈ pre, q ≤ 100) ∧ 100 < u
  | [] => .inl fun q h => by cases h
  | a :: t => by
    by_cases c : a ≤ 100
    · rcases split_bad t with h | ⟨pre, u, r, e, h1, h2⟩
      · refine .inl fun q hq => ?_
        rcases List.mem_cons.mp hq with e | hq
        · rw [e]; exact c
        · exact h q hq
      · refine .inr ⟨a :: pre, u, r, by rw [e]; rfl, fun q hq => ?_, h2⟩
        rcases List.mem_cons.mp hq with e | hq
        · rw [e]; exact c
        · exact h1 q hq
    · exact .inr ⟨[], a, t, rfl, (fun q h => by cases h), by omega⟩
theorem NL_app (a b : List Nat) : NL (a ++ b) = NL a ++ NL b := by
  unfold NL
  rw [List.map_append]
theorem best_at {L : Nat → List (List Nat)} {ls : List Nat} {i : Nat} {lead : List Nat} (h : Gm.best L ls = some (i, lead)) : ∃ p, ls[i]? = some p ∧ lead ∈ L p ∧ ls.getD i 0 = p := by
  obtain ⟨p, h1, h2, _⟩ := Gm.best_some h
  exact ⟨p, h1, h2, by rw [List.getD_eq_getElem?_getD, h1]; rfl⟩
abbrev s_turn_told : Stmt := top 28
theorem sc_turn_told : FnScope ["game", "places", "found", "place"] ["game", "places"] (defScope s_turn_told) := ⟨rfl, rfl, rfl, by decide +kernel, rfl, by decide +kernel, by decide +kernel⟩
theorem ok_turn_told (T : Txt K mg) (DW : Disp P w K mg base (L2.CX P w) 24 "winning" (kC K) okK ["self", "places"] (sp_winning K)) : Dn P w K mg base (L2.CX P w) 25 (He.ga K "turn_told") ["game", "places"] (sp_turn_told K) := by
  refine dn_of (k := 24) T.f_turn_told sc_turn_told (fun _ _ _ _ _ _ us hl => match us, hl with | [_, _], _ => rfl) (fun cdv A outer s H vs Q E hr h => ?_)
  obtain ⟨k, g, l, x, p, n, ls, rfl, hk, hw, ga, hn, hp, pl, hll, qv, qb⟩ := h
  obtain ⟨dx, hg⟩ := ga.ob
  have ht := hw.top
  have hok := kinds_ok.good k hk
  refine ⟨_, (pss_cons (ps_set (i := 2) sc_turn_told.nd rfl (by first | exact Or.inl rfl | exact Or.inr rfl) (pe_mf (DW) (hr.mono (by omega)) (passes_call (takes_of rfl rfl rfl rfl) (fun _ _ _ _ h => h)) (pv 0) (pa_cons (pv 1) pa_nil)))
      (pss_cons (ps_if (pt_not (pt_val (pe_ix ix_tup (pv 2) (pe_nat 0) (fun _ _ => rfl)))) (pss_one (ps_ret pe_str)) pss_nil)
      (pss_cons (ps_if (pt_cmpR op_eqn (pe_callB (r := rLenSeq K) cr_lenseq (by rfl) T.n_len PySem.boot_len (pa_cons (pe_ix ix_tup (pv 2) (pe_nat 2) (fun _ _ => rfl)) pa_nil)) (pe_nat 0) (nomark _)) (pss_one (ps_ret (pe_op op_add_str (pe_callTy (T := "str") call_str_int (by rfl) T.n_str (by decide +kernel) (pa_cons (pe_ix ix_list (pv 1) (pe_ix ix_tup (pv 2) (pe_nat 1) (fun _ _ => rfl)) (fun _ _ => rfl)) pa_nil)) pe_str))) pss_nil)
      (pss_one (ps_ret (pe_op op_add_str (pe_op op_add_str (pe_callTy (T := "str") call_str_int (by rfl) T.n_str (by decide +kernel) (pa_cons (pe_ix ix_list (pv 1) (pe_ix ix_tup (pv 2) (pe_nat 1) (fun _ _ => rfl)) (fun _ _ => rfl)) pa_nil)) pe_str) (pe_join pe_str (pe_lc (own := [("place", 3)]) (g := gName 3) (by rfl) sc_turn_told.nd (pi_list (pe_ix ix_tup (pv 2) (pe_nat 2) (fun _ _ => rfl))) (blkOk_by (own := [("place", 3)]) (N := ["game", "places", "found", "place"]) (sc := defScope (s_turn_told)) (by decide +kernel)) (fun _ _ _ _ _ => pg_name (i := 3) sc_turn_told.nd rfl (by first | exact Or.inl rfl | exact Or.inr rfl)) (fun _ _ _ _ _ => pts_nil) (fun _ _ _ _ _ => (pe_callTy (T := "str") call_str_int (by rfl) T.n_str (by decide +kernel) (pa_cons (pv 3) pa_nil))))))))))), ?_⟩
  walk_at "rl"
  refine ⟨k, g, _, _, hk, rfl, hg, kfs_winning _ _ _, ?_⟩
  walk_at "rl"
  rcases split_bad ls with good | ⟨pre, u, r, e, h1, h2⟩
  rotate_left
  · refine ⟨g, l, x, p, n, pre, _, rfl, ga, by omega, fun H' b => SqL.of (b _ _ hp pl), fun q hq => by have := h1 q hq; omega, .inr ⟨.int (u : Int), NL r, by rw [e, NL_app]; rfl, fun H' _ => .inr ⟨_, rfl, .inr (.inl (by omega))⟩, fun n' H' b ga' _ _ => ?_⟩⟩
    exact qb (fun z => by have := z u (by rw [e]; simp); omega) H' b
  refine ⟨g, l, x, p, n, ls, _, rfl, ga, by omega, fun H' b => SqL.of (b _ _ hp pl), fun q hq => by have := good q hq; omega, .inl ⟨rfl, hll, fun n' H1 v b ga1 _ _ _ ht1 => ?_⟩⟩
  have hp1 := b _ _ hp pl
  have qv := fun H' s => qv good H' (b.trans (Same.but s))
  unfold Ds.told at qv
  cases eb : Gm.best k.L ls with
  | none =>
    rw [eb] at ht1 qv
    obtain ⟨t, rfl, nt, et⟩ := ht1
    walk_at "rl"
    refine ⟨t, _, _, _, rfl, rfl, SqT.of et, atI_nat (j := 0) rfl, ?_⟩
    walk_at "rl"
    exact qv H1 (Same.refl _)
  | some il =>
    obtain ⟨i, lead⟩ := il
    rw [eb] at ht1 qv
    obtain ⟨t, D, rfl, nt, nD, et, eD⟩ := ht1
    obtain ⟨pl0, e1, e2, e3⟩ := best_at eb
    have hpl := good pl0 (List.mem_of_getElem? e1)
    walk_at "rl"
    refine ⟨t, _, _, _, rfl, rfl, SqT.of et, atI_nat (j := 0) rfl, ?_⟩
    walk_at "rl"
    refine ⟨t, _, _, _, rfl, rfl, SqT.of et, atI_nat (j := 2) rfl, ?_⟩
    walk_at "rl"
    have qv : ∀ z, (if lead = [] then Wd.num (ls.getD i 0) ++ Str.ofString " to nothing" else Wd.num (ls.getD i 0) ++ Str.ofString " to " ++ Txt.join (Str.ofString " ") (lead.map Wd.num)) = z → ∀ H', Same H1 H' → Q (.str z) H' := fun z h H' s => by
      rw [← h]
      exact qv H' s
    rw [NL_length]
    have hnl := nS_len (n := pl0) (by omega)
    refine ifN (fun c => ?_) (fun c => ?_)
    · walk_at "rl"
      refine ⟨t, _, _, _, rfl, rfl, SqT.of et, atI_nat (j := 1) rfl, ?_⟩
      walk_at "rl"
      refine ⟨p, _, _, _, rfl, rfl, SqL.of hp1, NL_num e1, ?_⟩
      walk_at "rl"
      refine ⟨nS_log (by omega), ?_⟩
      walk_at "rl"
      refine ⟨?_, ?_⟩
      · show (nS pl0).length + (Str.ofString " to nothing").length ≤ sizeLine
        rw [TL.len_tl (Str.ofString " to nothing"), TL.tl_ofString]
        exact str_line (by show _ + 11 ≤ _; omega)
      · exact qv _ (by rw [if_pos (List.length_eq_zero_iff.mp c), e3]; rfl) H1 (Same.refl _)
    · have hll := lead_len hok hw hpl lead e2
      have hlq : ∀ q ∈ lead, q < 1000 := fun q hq => by have := Gm.Kind.lesser hok pl0 lead e2 q hq; omega
      walk_at "rl"
      refine ⟨t, _, _, _, rfl, rfl, SqT.of et, atI_nat (j := 1) rfl, ?_⟩
      walk_at "rl"
      refine ⟨p, _, _, _, rfl, rfl, SqL.of hp1, NL_num e1, ?_⟩
      walk_at "rl"
      refine ⟨nS_log (by omega), ?_⟩
      walk_at "rl"
      have l4 : (Str.ofString " to ").length = 4 := by rw [TL.len_tl, TL.tl_ofString]; rfl
      have l1 : (Str.ofString " ").length = 1 := by rw [TL.len_tl, TL.tl_ofString]; rfl
      have eN : Str.ofString (toString ((pl0 : Nat) : Int)) = Wd.num pl0 := rfl
      have hnl : (Wd.num pl0).length ≤ 3 := hnl
      rw [eN]
      refine ⟨str_line (by omega), ?_⟩
      walk_at "rl"
      refine ⟨t, _, _, _, rfl, rfl, SqT.of et, atI_nat (j := 2) rfl, ?_⟩
      walk_at "rl"
      refine ⟨⟨_, SqL.of eD⟩, fun N nN => ?_⟩
      refine lc_list (K := K) (a := D) (xs := NL lead) (fun i H3 => H3 N = some (.lst (SL ((lead.take i).map Wd.num))) ∧ Same H1 H3) ⟨upd_same, Same.upd nN⟩ (fun i H3 _ h => SqL.of (h.2 _ _ eD)) ?_ ?_
      · rintro i v H3 hi ⟨hN, s3⟩
        obtain ⟨z, hz, rfl⟩ := NL_at hi
        have hil : i < lead.length := (List.getElem?_eq_some_iff.mp hz).1
        have hzq := hlq z (List.mem_of_getElem? hz)
        walk_at "rl"
        refine ⟨nS_log (by omega), ?_⟩
        refine ⟨_, hN, mil_line (by rw [SL_length, List.length_map, List.length_take]; omega), ?_, Same.put s3 nN⟩
        rw [upd_same, List.take_succ, hz, List.map_append]
        show some (HO.lst (SL _ ++ [V.str (Wd.num z)])) = some (HO.lst (SL (_ ++ [Wd.num z])))
        rw [SL_snoc]
      · rintro H3 ⟨hN, s3⟩
        rw [NL_length, List.take_length] at hN
        have hj := num_join_len lead hlq
        have hjl := join_len (Str.ofString " ") (lead.map Wd.num)
        rw [List.length_map, l1] at hjl
        refine ⟨_, N, lead.map Wd.num, rfl, rfl, .inl (SqL.of hN), by rw [List.length_map, l1]; omega, ?_⟩
        walk_at "rl"
        refine ⟨str_line (by rw [app_len, l4]; omega), ?_⟩
        exact qv _ (by rw [if_neg (fun z => c (by rw [z]; rfl)), e3]) H3 s3
theorem par_len : ∀ (l acc a b : List Nat), TL.par [58] acc l = some (a, b) → a.length + b.length ≤ acc.length + l.length
  | [], acc, a, b, h => by cases h
  | c :: r, acc, a, b, h => by
    cases hp : TL.pre [58] (c :: r) with
    | true =>
      rw [TL.par_hit hp] at h
      have h : (acc, (c :: r).drop 1) = (a, b) := Option.some.inj h
      injection h with h1 h2
      rw [← h1, ← h2, List.length_drop, List.length_cons]
      omega
    | false =>
      rw [TL.par_miss hp] at h
      have := par_len r _ a b h
      rw [List.length_append, List.length_singleton] at this
      rw [List.length_cons]
      omega
theorem told_wdk {ws : List Str} {k : Gm.Kind} (h : Wd.told ws = .made k) : Wdk k := by
  match ws, h with
  | [w], h =>
    have h : (if w ∈ Wd.bare then Wd.Out.made (Wd.bareK w) else .written) = .made k := h
    split at h
    · have e : Wd.bareK w = k := by injection h
      rw [← e]
      unfold Wd.bareK
      split
      · trivial
      split
      · trivial
      split
      · trivial
      split <;> trivial
    · cases h
  | w :: v :: r, h =>
    have h : (if w ∈ Wd.heads then (match Wd.figsAll (v :: r) with | none => Wd.Out.written | some ns => Wd.ofHead w ns) else .written) = .made k := h
    split at h
    · split at h
      · cases h
      · rename_i ns _
        unfold Wd.ofHead at h
        split at h
        · split at h
          · have e : Gm.Kind.taking ns = k := by injection h
            rw [← e]
            trivial
          · cases h
        split at h
        · split at h
          · have e : Gm.Kind.skittles ns = k := by injection h
            rw [← e]
            trivial
          · cases h
        split at h
        · rename_i n _
          split at h
          · have e : Gm.Kind.few n = k := by injection h
            rw [← e]
            trivial
          · cases h
        · cases h
    · cases h
def sp_line_answered (K : PySem.W.Frag) : Sp := fun vs H Q E => ∃ (z : Str), vs = [.str z] ∧ z.length ≤ 900000 ∧ (∀ k ps, Ds.ans z = .turn k ps → ∀ H', Same H H' → Q (.str (Ds.told k ps)) H') ∧ (Ds.ans z = .place → ∀ H', Same H H' → E (.ref (He.ga K "NotAPlace")) none H') ∧
  (Ds.ans z = .game → ∀ H', Same H H' → E (.ref (He.ga K "NotAGame")) none H') ∧ (Ds.ans z = .written → ∀ H', Same H H' → E (.ref (He.ga K "NotWritten")) none H')
abbrev s_line_answered : Stmt := top 29
theorem sc_line_answered : FnScope ["line", "parts", "game", "words", "word"] ["line"] (defScope s_line_answered) := ⟨rfl, rfl, rfl, by decide +kernel, rfl, by decide +kernel, by decide +kernel⟩
theorem ok_line_answered (T : Txt K mg) (d_game_told : Dn P w K mg base (L2.CX P w) 7 (He.ga K "game_told") ["text"] (sp_game_told K)) (d_turn_told : Dn P w K mg base (L2.CX P w) 25 (He.ga K "turn_told") ["game", "places"] (sp_turn_told K)) (d_figures_of : Dn P w K mg base (L2.CX P w) 1 (He.ga K "figures_of") ["text"] (sp_figures_of K)) : Dn P w K mg base (L2.CX P w) 26 (He.ga K "line_answered") ["line"] (sp_line_answered K) := by
  refine dn_of (k := 25) T.f_line_answered sc_line_answered (fun _ _ _ _ _ _ us hl => match us, hl with | [_], _ => rfl) (fun cdv A outer s H vs Q E hr h => ?_)
  obtain ⟨z, rfl, hz, qt, qp, qg, qw⟩ := h
  have hcol : TL.tl (Str.ofString ":") = [58] := by rw [TL.tl_ofString]; rfl
  have hpart := TL.partition_par z (Str.ofString ":") (by rw [hcol]; simp)
  rw [hcol] at hpart
  unfold Ds.ans Ds.colon at qt qp qg qw
  refine ⟨_, (pss_cons (ps_set (i := 1) sc_line_answered.nd rfl (by first | exact Or.inl rfl | exact Or.inr rfl) (pe_partition (pv 0) pe_str))
      (pss_cons (ps_if (pt_cmpR op_eq (pe_ix ix_tup (pv 1) (pe_nat 1) (fun _ _ => rfl)) pe_str (nomark _)) (pss_one (ps_raise rfl (takes_of rfl rfl rfl rfl) (pmk_own PySem.F.excBase_ValueError T.x_NotWritten.1 T.g_NotWritten T.x_NotWritten.2.1 (raises_own T.x_NotWritten.2.2.1 T.x_NotWritten.2.2.2) (by exact rfl)))) pss_nil)
      (pss_cons (ps_set (i := 2) sc_line_answered.nd rfl (by first | exact Or.inl rfl | exact Or.inr rfl) (pe_cl d_game_told (hr.mono (by omega)) T.g_game_told (passes_call (takes_of rfl rfl rfl rfl) (fun _ _ _ _ h => h)) (pa_cons (pe_ix ix_tup (pv 1) (pe_nat 0) (fun _ _ => rfl)) pa_nil)))
      (pss_cons (ps_setLc (i := 3) (own := [("word", 4)]) (g := gName 4) (by rfl) sc_line_answered.nd rfl rfl (sw_true rfl rfl rfl (by decide +kernel)) (pi_list (pe_split (pe_ix ix_tup (pv 1) (pe_nat 2) (fun _ _ => rfl)) pe_str)) (blkOk_by (own := [("word", 4)]) (N := ["line", "parts", "game", "words", "word"]) (sc := defScope (s_line_answered)) (by decide +kernel)) (fun _ _ _ _ _ => pg_name (i := 4) sc_line_answered.nd rfl (by first | exact Or.inl rfl | exact Or.inr rfl)) (fun _ _ _ _ _ => (pts_one (pt_cmpR op_ne (pv 4) pe_str (nomark _)))) (fun _ _ _ _ _ => (pv 4)))
      (pss_one (ps_ret (pe_cl d_turn_told (hr.mono (by omega)) T.g_turn_told (passes_call (takes_of rfl rfl rfl rfl) (fun _ _ _ _ h => h)) (pa_cons (pv 2) (pa_cons (pe_lcX (own := [("word", 4)]) (g := gName 4) rfl rfl (takes_of rfl rfl rfl rfl) (by rfl) sc_line_answered.nd (pi_list (pv 3)) (blkOk_by (own := [("word", 4)]) (N := ["line", "parts", "game", "words", "word"]) (sc := defScope (s_line_answered)) (by decide +kernel)) (fun _ _ _ _ _ => pg_name (i := 4) sc_line_answered.nd rfl (by first | exact Or.inl rfl | exact Or.inr rfl)) (fun _ _ _ _ _ => pts_nil) (fun _ _ _ _ _ => (pe_cl d_figures_of (hr.mono (by omega)) T.g_figures_of (passB rfl rfl rfl) (pa_cons (pv 4) pa_nil)))) pa_nil))))))))), ?_⟩
  walk_at "rl"
  refine ⟨str_line (by omega), fun P nP => ?_⟩
  cases ec : TL.par [58] [] (TL.tl z) with
  | none =>
    rw [ec] at hpart qw
    have hpart : Txt.partition z (Str.ofString ":") = (z, Str.empty, Str.empty) := hpart
    have s1 := Same.upd nP (o := .tup [V.str z, V.str Str.empty, V.str Str.empty])
    have eP : upd H P (.tup [V.str z, V.str Str.empty, V.str Str.empty]) P = _ := upd_same
    rw [hpart]
    walk_at "rl"
    refine ⟨P, _, _, _, rfl, rfl, SqT.of eP, atI_nat (j := 1) rfl, ?_⟩
    walk_at "rl"
    refine ifN (fun _ => qw rfl _ s1) (fun c => absurd (congrArg V.str (show Str.empty = Str.ofString "" by decide +kernel)) c)
  | some ab =>
    obtain ⟨a, b⟩ := ab
    rw [ec] at hpart qt qp qg qw
    have hlab := par_len _ _ _ _ ec
    rw [List.length_nil, ← TL.len_tl] at hlab
    have qt : ∀ k ps, (match Wd.ofText ⟨a.toArray⟩ with | .written => Ds.Ans.written | .game => .game | .made k => Ds.places k ⟨b.toArray⟩) = .turn k ps → _ := qt
    have qp : (match Wd.ofText ⟨a.toArray⟩ with | .written => Ds.Ans.written | .game => .game | .made k => Ds.places k ⟨b.toArray⟩) = .place → _ := qp
    have qg : (match Wd.ofText ⟨a.toArray⟩ with | .written => Ds.Ans.written | .game => .game | .made k => Ds.places k ⟨b.toArray⟩) = .game → _ := qg
    have qw : (match Wd.ofText ⟨a.toArray⟩ with | .written => Ds.Ans.written | .game => .game | .made k => Ds.places k ⟨b.toArray⟩) = .written → _ := qw
    have hpart : Txt.partition z (Str.ofString ":") = (⟨a.toArray⟩, Str.ofString ":", ⟨b.toArray⟩) := hpart
    rw [hpart]
    have hla : (⟨a.toArray⟩ : Str).length ≤ 900000 := by rw [TL.len_tl, TL.tl_mk]; omega
    have hlb : (⟨b.toArray⟩ : Str).length ≤ 900000 := by rw [TL.len_tl, TL.tl_mk]; omega
    generalize (⟨a.toArray⟩ : Str) = A at *
    generalize (⟨b.toArray⟩ : Str) = B at *
    have s1 := Same.upd nP (o := .tup [V.str A, V.str (Str.ofString ":"), V.str B])
    have eP : upd H P (.tup [V.str A, V.str (Str.ofString ":"), V.str B]) P = _ := upd_same
    show gName 1 (V.ref P) _ (upd H P (.tup [V.str A, V.str (Str.ofString ":"), V.str B])) _
    generalize upd H P (.tup [V.str A, V.str (Str.ofString ":"), V.str B]) = H1 at *
    walk_at "rl"
    refine ⟨P, _, _, _, rfl, rfl, SqT.of eP, atI_nat (j := 1) rfl, ?_⟩
    walk_at "rl"
    refine ⟨P, _, _, _, rfl, rfl, SqT.of eP, atI_nat (j := 0) rfl, ?_⟩
    walk_at "rl"
    refine ⟨by omega, fun k ek g l y H2 s2 ng nl fr ga => ?_, fun e H' s => qw (by rw [e]) H' (s1.trans s), fun e H' s => qg (by rw [e]) H' (s1.trans s)⟩
    rw [ek] at qt qp qw
    have qt : ∀ k' ps, Ds.places k B = .turn k' ps → _ := qt
    have qp : Ds.places k B = .place → _ := qp
    have qw : Ds.places k B = .written → _ := qw
    unfold Ds.places at qt qp qw
    have s02 := s1.trans s2
    have eP2 := s2 _ _ eP
    walk_at "rl"
    refine ⟨P, _, _, _, rfl, rfl, SqT.of eP2, atI_nat (j := 2) rfl, ?_⟩
    walk_at "rl"
    have hsl := split_len B
    have hse := split_each B
    unfold Wd.words at qt qp qw
    refine ⟨long_line (by omega), fun W0 nW0 => ?_⟩
    generalize Txt.split B (Str.ofString " ") = parts at *
    have s1' := Same.upd nW0 (o := .lst (SL parts))
    have e1 : upd H2 W0 (.lst (SL parts)) W0 = _ := upd_same
    refine ⟨W0, rfl, ⟨_, SqL.of e1⟩, fun W nW => ?_⟩
    have e1' : upd H2 W0 (.lst (parts.map V.str)) W0 = some (.lst (SL parts)) := e1
    have s1'' : Same H2 (upd H2 W0 (.lst (parts.map V.str))) := s1'
    generalize upd H2 W0 (.lst (parts.map V.str)) = H3 at *
    refine lc_list (K := K) (a := W0) (xs := SL parts) (fun i H' => H' W = some (.lst (SL ((parts.take i).filter fun w => !decide (w = Str.ofString "")))) ∧ Same H3 H') ⟨upd_same, Same.upd nW⟩ (fun i H' _ h => SqL.of (h.2 _ _ e1')) ?_ ?_
    · rintro i v H' hi ⟨hW, sm⟩
      obtain ⟨w, hw, rfl⟩ : ∃ w, parts[i]? = some w ∧ v = V.str w := by
        unfold SL at hi
        rw [List.getElem?_map] at hi
        cases e : parts[i]? with
        | none => rw [e] at hi; cases hi
        | some w => rw [e] at hi; exact ⟨w, rfl, (Option.some.inj hi).symm⟩
      have hil : i < parts.length := (List.getElem?_eq_some_iff.mp hw).1
      walk_at "rl"
      refine ifNn (fun c => ?_) (fun c => ?_)
      · refine ⟨_, rfl, _, hW, mil_line (by rw [SL_length]; refine Nat.le_trans (List.length_filter_le _ _) ?_; rw [List.length_take]; omega), ?_, Same.put sm nW⟩
        rw [upd_same, List.take_succ, hw, List.filter_append]
        show _ = some (HO.lst (SL (_ ++ List.filter _ [w])))
        rw [List.filter_cons_of_pos (by rw [decide_eq_false (fun e => c (congrArg V.str e))]; rfl), List.filter_nil, SL_snoc]
      · refine ⟨?_, sm⟩
        rw [hW, List.take_succ, hw, List.filter_append]
        show _ = some (HO.lst (SL (_ ++ List.filter _ [w])))
        rw [List.filter_cons_of_neg (by rw [decide_eq_true (str_inj c)]; exact Bool.false_ne_true)]
        show _ = some (HO.lst (SL (_ ++ [])))
        rw [List.append_nil]
    rintro H4 ⟨hW, s34⟩
    rw [SL_length, List.take_length] at hW
    have hwl : ∀ w ∈ parts.filter (fun w => !decide (w = Str.ofString "")), w.length ≤ 1000000 := fun w hw => Nat.le_trans (hse w (List.mem_filter.mp hw).1) (by omega)
    have hwn : (parts.filter (fun w => !decide (w = Str.ofString ""))).length ≤ B.length + 1 := Nat.le_trans (List.length_filter_le _ _) (by omega)
    generalize parts.filter (fun w => !decide (w = Str.ofString "")) = us at *
    have s04 := (s02.trans s1'').trans s34
    have s24 := s1''.trans s34
    walk_at "rl"
    refine ⟨⟨_, SqL.of hW⟩, fun Nn nNn => ?_⟩
    refine lc_list (K := K) (a := W) (xs := SL us) (fun i H' => ∃ ms, Wd.figsAll (us.take i) = some ms ∧ H' Nn = some (.lst (NL ms)) ∧ Same H4 H') ⟨[], rfl, upd_same, Same.upd nNn⟩ (fun i H' _ h => by obtain ⟨_, _, _, sm⟩ := h; exact SqL.of (sm _ _ hW)) ?_ ?_
    · rintro i v' H' hi ⟨ms, hms, hN, sm⟩
      obtain ⟨w, hw, rfl⟩ : ∃ w, us[i]? = some w ∧ v' = V.str w := by
        unfold SL at hi
        rw [List.getElem?_map] at hi
        cases e : us[i]? with
        | none => rw [e] at hi; cases hi
        | some w => rw [e] at hi; exact ⟨w, rfl, (Option.some.inj hi).symm⟩
      have hil : i < us.length := (List.getElem?_eq_some_iff.mp hw).1
      have hml := (Wd.figsAll_len hms).1
      rw [List.length_take] at hml
      walk_at "rl"
      refine ⟨hwl w (List.mem_of_getElem? hw), fun n en => ?_, fun en => ?_⟩
      · refine ⟨_, hN, mil_line (by rw [NL_length]; omega), ms ++ [n], ?_, ?_, Same.put sm nNn⟩
        · exact Wd.figsAll_snoc hw hms en
        · rw [upd_same]
          unfold NL
          rw [List.map_append]
          rfl
      · refine qw ?_ H' (s04.trans sm)
        rw [Wd.figsAll_bad hw hms en]
    rintro H5 ⟨ms, hms, hN, s45⟩
    rw [SL_length, List.take_length] at hms
    rw [hms] at qt qp qw
    have hml := (Wd.figsAll_len hms).1
    have qt : ∀ k' ps, (if ∀ p ∈ ms, p ≤ 100 then Ds.Ans.turn k ms else .place) = .turn k' ps → _ := qt
    have qp : (if ∀ p ∈ ms, p ≤ 100 then Ds.Ans.turn k ms else .place) = .place → _ := qp
    have s05 := s04.trans s45
    have s25 := s24.trans s45
    have nl0 : H l = none := none_of_same s1 nl
    refine ⟨rfl, k, g, l, y, Nn, 0, ms, rfl, told_ok ek, told_wdk ek, ga.same s25, Nat.zero_le _, hN, fun e => ?_, by omega, fun good H' b => ?_, fun bad H' b => ?_⟩
    · have := s24 _ _ ga.kn
      rw [← e, nNn] at this
      cases this
    · exact qt k ms (if_pos good) H' (same_but s05 nl0 b)
    · exact qp (if_neg bad) H' (same_but s05 nl0 b)
theorem mem_sum : ∀ {ls : List Str} {l : Str}, l ∈ ls → l.length ≤ (ls.map (·.length)).sum
  | m :: r, l, h => by
    rw [List.map_cons, List.sum_cons]
    rcases List.mem_cons.mp h with rfl | h
    · omega
    · have := mem_sum h
      omega
theorem line_len (mark : Str) (n : Nat) (l : Str) : (Ds.line mark n l).length ≤ 1 := by
  unfold Ds.line
  split
  · exact Nat.zero_le _
  · exact Nat.le_refl _
theorem answers_len (mark : Str) : ∀ (ls : List Str) (n : Nat), (Ds.answers mark n ls).length ≤ ls.length
  | [], _ => Nat.le_refl _
  | l :: r, n => by
    have h1 := answers_len mark r (n + 1)
    have h2 := line_len mark n l
    show (Ds.line mark n l ++ Ds.answers mark (n + 1) r).length ≤ _
    rw [List.length_append, List.length_cons]
    omega
theorem num_log {n : Nat} (h : n ≤ 9999999) : ((n : Nat) : Int).natAbs.log2 < 1920 := by
  have e : ((n : Nat) : Int).natAbs = n := rfl
  rw [e]
  by_cases c : n = 0
  · rw [c]; decide
  · have := (Nat.log2_lt c).mpr (show n < 2 ^ 1920 from Nat.lt_of_le_of_lt h (by decide +kernel))
    exact this
theorem num_len7 {n : Nat} (h : n ≤ 9999999) : (Wd.num n).length ≤ 7 := by
  rw [TL.len_tl]
  unfold Wd.num
  rw [TL.tl_num]
  exact TL.numL_len (by decide) (by omega)
theorem best_two {L : Nat → List (List Nat)} {ls : List Nat} {i : Nat} {lead : List Nat} (h : Gm.best L ls = some (i, lead)) : ∃ p, p ∈ ls ∧ lead ∈ L p ∧ ls.getD i 0 = p := by
  obtain ⟨p, h1, h2, h3⟩ := best_at h
  exact ⟨p, List.mem_of_getElem? h1, h2, h3⟩
theorem ans_len {z : Str} : (Ds.ansS (Ds.ans z)).length ≤ 1000 := by
  have lit : ∀ s : String, (s.toList.map Char.toNat).length ≤ 1000 → (Str.ofString s).length ≤ 1000 := fun s h => by
    rw [TL.len_tl, TL.tl_ofString]
    exact h
  unfold Ds.ans
  split
  · exact lit _ (by decide)
  · split
    · exact lit _ (by decide)
    · exact lit _ (by decide)
    · rename_i k ek
      unfold Ds.places
      split
      · exact lit _ (by decide)
      · split
        · rename_i ps _ good
          show (Ds.told k ps).length ≤ 1000
          unfold Ds.told
          split
          · exact lit _ (by decide)
          · rename_i i lead eb
            obtain ⟨p, h1, h2, h3⟩ := best_two eb
            have hp := good p h1
            have hk := kinds_ok.good k (told_ok ek)
            have hll := lead_len hk (told_wdk ek) hp lead h2
            have hlq : ∀ q ∈ lead, q < 1000 := fun q hq => by have := Gm.Kind.lesser hk p lead h2 q hq; omega
            have hnl : (Wd.num p).length ≤ 3 := nS_len (n := p) (by omega)
            have hj := num_join_len lead hlq
            have hjl := join_len (Str.ofString " ") (lead.map Wd.num)
            have l4 : (Str.ofString " to ").length = 4 := by rw [TL.len_tl, TL.tl_ofString]; rfl
            have l11 : (Str.ofString " to nothing").length = 11 := by rw [TL.len_tl, TL.tl_ofString]; rfl
            have l1 : (Str.ofString " ").length = 1 := by rw [TL.len_tl, TL.tl_ofString]; rfl
            rw [List.length_map, l1] at hjl
            rw [h3]
            split
            · rw [app_len, l11]; omega
            · rw [app_len, app_len, l4]; omega
        · exact lit _ (by decide)
def sp_answered (K : PySem.W.Frag) : Sp := fun vs H Q _ => ∃ (x mark : Str), vs = [.str x, .str mark] ∧ x.length ≤ 900000 ∧ mark.length ≤ 1000 ∧
  ∀ D H', Same H H' → H D = none → H' D = some (.lst (SL (Ds.answers mark 1 (Txt.lines x)))) → Q (.ref D) H'
abbrev s_answered : Stmt := top 30
theorem sc_answered : FnScope ["text", "mark", "found", "pair", "line", "told"] ["text", "mark"] (defScope s_answered) := ⟨rfl, rfl, rfl, by decide +kernel, rfl, by decide +kernel, by decide +kernel⟩
theorem ok_answered (T : Txt K mg) (d_line_answered : Dn P w K mg base (L2.CX P w) 26 (He.ga K "line_answered") ["line"] (sp_line_answered K)) : DnD P w K mg base CX0 27 (He.ga K "answered") ["text"] "mark" (V.str "-") (sp_answered K) := by
  refine dnd_of (k := 26) T.f_answered sc_answered (fun _ _ _ _ _ _ _ us its hl h1 => match us, its, hl, h1 with | [_, _], [_], _, _ => ⟨_, rfl, rfl⟩) (fun _ _ _ _ _ _ _ us its hl h1 => match us, its, hl, h1 with | [_], [_], _, _ => ⟨_, rfl, rfl⟩) (fun _ _ _ _ _ _ _ us its ws hl h1 h2 => match us, its, ws, hl, h1, h2 with | [_], [_], [_], _, _, _ => ⟨_, rfl, rfl⟩) (fun cdv A outer s H vs Q E hr h => ?_)
  obtain ⟨x, mark, rfl, hx, hm, q⟩ := h
  refine ⟨_, PSs.nox (pss_cons (ps_set (i := 2) sc_answered.nd rfl (by first | exact Or.inl rfl | exact Or.inr rfl) (pe_lst pa_nil))
      (pss_cons (ps_for PassesOwn.never rfl (pi_enumK (by rfl) T.n_enumerate (pa_cons (pe_bm0 PySem.F.plainAttrs_str PySem.F.slot_str_splitlines PySem.F.type_str_splitlines mt_lines (pv 0)) pa_nil) (pk_cons (pe_nat 1) pk_nil)) (pg_name (i := 3) sc_answered.nd rfl (by first | exact Or.inl rfl | exact Or.inr rfl))
      (pss_cons (ps_set (i := 4) sc_answered.nd rfl (by first | exact Or.inl rfl | exact Or.inr rfl) (pe_bm PySem.F.plainAttrs_str PySem.F.slot_str_strip PySem.F.type_str_strip mt_stripChars (pe_ix ix_tup (pv 3) (pe_nat 1) (fun _ _ => rfl)) (pa_cons pe_str pa_nil)))
      (pss_one (ps_if (PW.pt (pw_and (pt_cmpR op_ne (pv 4) pe_str (nomark _)) (pw_and1 (pt_not (pt_val (pe_bm PySem.F.plainAttrs_str PySem.F.slot_str_startswith PySem.F.type_str_startswith mt_startswith (pv 4) (pa_cons pe_str pa_nil))))))) (pss_cons (ps_cut (ps_try_manyE (pss_one (ps_set (i := 5) sc_answered.nd rfl (by first | exact Or.inl rfl | exact Or.inr rfl) (pe_bm PySem.F.plainAttrs_str PySem.F.slot_str_strip PySem.F.type_str_strip mt_stripChars (pv 5) (pa_cons pe_str pa_nil)))) rfl rfl takes0 (fun W pn xe tk po => (pss_one (ps_set (i := 5) sc_answered.nd rfl (by first | exact Or.inl rfl | exact Or.inr rfl) (pe_clS d_line_answered (hr.mono (by omega)) T.g_line_answered (E := WE W) (fun σ => passAt tk σ) (pa_cons (pv 4) pa_nil))))) (HdsOk.cons ⟨rfl, by decide, .inl T.g_NotAPlace⟩ (fun a oe cls d pn hz hf => (pss_one (ps_set (i := 5) sc_answered.nd rfl (by first | exact Or.inl rfl | exact Or.inr rfl) pe_str))) (HdsOk.cons ⟨rfl, by decide, .inl T.g_NotAGame⟩ (fun a oe cls d pn hz hf => (pss_one (ps_set (i := 5) sc_answered.nd rfl (by first | exact Or.inl rfl | exact Or.inr rfl) pe_str))) (HdsOk.cons ⟨rfl, by decide, .inl T.g_HouseError⟩ (fun a oe cls d pn hz hf => (pss_one (ps_set (i := 5) sc_answered.nd rfl (by first | exact Or.inl rfl | exact Or.inr rfl) pe_str))) HdsOk.nil)))))
      (pss_one (ps_expr (pe_bm PySem.F.plainAttrs_list PySem.F.slot_list_append PySem.F.type_list_append mt_append (pv 2) (pa_cons (pe_op op_add_str (pe_op op_add_str (pe_callTy (T := "str") call_str_int (by rfl) T.n_str (by decide +kernel) (pa_cons (pe_ix ix_tup (pv 3) (pe_nat 0) (fun _ _ => rfl)) pa_nil)) (pv 1)) (pv 5)) pa_nil))))) pss_nil))))
      (pss_one (ps_ret (pv 2))))), ?_⟩
  refine ⟨by show 0 ≤ sizeLine; decide, fun F nF => ?_⟩
  walk_at "rl"
  have hw := StrLaws.lines_weight x
  have hc := lineCuts_le x
  refine ⟨str_line (by omega), str_line (by omega), fun L nL => ?_⟩
  generalize Txt.lines x = lines at *
  have eF : upd (upd H F (.lst [])) L (.lst (SL lines)) F = some (.lst []) := Same.upd nL _ _ upd_same
  have s1 : Same H (upd (upd H F (.lst [])) L (.lst (SL lines))) := (Same.upd nF).trans (Same.upd nL)
  have eL : upd (upd H F (.lst [])) L (.lst (lines.map V.str)) L = some (.lst (SL lines)) := upd_same
  have s1 : Same H (upd (upd H F (.lst [])) L (.lst (lines.map V.str))) := s1
  have eF : upd (upd H F (.lst [])) L (.lst (lines.map V.str)) F = some (.lst []) := eF
  generalize upd (upd H F (.lst [])) L (.lst (lines.map V.str)) = H1 at *
  have LF : L ≠ F := fun e => by rw [e, upd_same] at nL; cases nL
  walk_at "rl"
  refine ⟨L, SL lines, ((1 : Nat) : Int), rfl, rfl, by decide, by decide, SqL.of eL, L2.for_it (walk_enumk (K := K) (a := L) (xs := SL lines) (k := ((1 : Nat) : Int))) (fun i σ H' => ∃ v3 v4 v5, σ = [some (.str x), some (.str mark), some (.ref F), v3, v4, v5] ∧ Same H H' ∧ H' L = some (.lst (SL lines)) ∧ H' F = some (.lst (SL (Ds.answers mark 1 (lines.take i))))) ⟨none, none, none, rfl, s1, eL, eF⟩ (fun i σ H' _ ⟨_, _, _, _, _, e, _⟩ => SqL.of e) ?_ ?_⟩
  · rintro i v σ H2 H3 hi ⟨v3, v4, v5, rfl, s2, eL2, eF2⟩ ⟨Tp, xi, yi, rfl, nT, rfl, e1, e2⟩
    obtain rfl := Option.some.inj e1
    obtain ⟨l, hl, rfl⟩ : ∃ l, lines[i]? = some l ∧ yi = V.str l := by
      have e2 : (SL lines)[i]? = some yi := e2
      unfold SL at e2
      rw [List.getElem?_map] at e2
      cases e : lines[i]? with
      | none => rw [e] at e2; cases e2
      | some l => rw [e] at e2; exact ⟨l, rfl, (Option.some.inj e2).symm⟩
    have hll := mem_sum (List.mem_of_getElem? hl)
    have hil : i < lines.length := (List.getElem?_eq_some_iff.mp hl).1
    have e1i : ((1 : Nat) : Int) + ((i : Nat) : Int) = ((1 + i : Nat) : Int) := by omega
    rw [e1i]
    have eT : upd H2 Tp (.tup [V.int ((1 + i : Nat) : Int), V.str l]) Tp = some (.tup [V.int ((1 + i : Nat) : Int), V.str l]) := upd_same
    have sT := Same.upd nT (o := .tup [V.int ((1 + i : Nat) : Int), V.str l])
    generalize upd H2 Tp (.tup [V.int ((1 + i : Nat) : Int), V.str l]) = H3 at *
    have s3 := s2.trans sT
    have eL3 := sT _ _ eL2
    have eF3 := sT _ _ eF2
    walk_at "rl"
    refine ⟨Tp, _, _, _, rfl, rfl, SqT.of eT, atI_nat (j := 1) rfl, ?_⟩
    walk_at "rl"
    refine ⟨str_line (by omega), ?_⟩
    walk_at "rl"
    have esn : lines.take (i + 1) = lines.take i ++ [l] := by
      rw [List.take_succ, hl]
      rfl
    have elen : (lines.take i).length = i := by rw [List.length_take]; omega
    have eans : Ds.answers mark 1 (lines.take (i + 1)) = Ds.answers mark 1 (lines.take i) ++ Ds.line mark (1 + i) l := by
      rw [esn, Ds.answers_snoc, elen]
    have skip : Ds.passed (Txt.stripChars l (Str.ofString " ")) → Ds.answers mark 1 (lines.take (i + 1)) = Ds.answers mark 1 (lines.take i) := fun h => by
      rw [eans]
      unfold Ds.line
      rw [if_pos (show Ds.passed (Ds.strip l) from h), List.append_nil]
    refine ifNn (fun c0 => ?_) (fun c0 => ?_)
    rotate_left
    · exact ⟨_, _, _, rfl, s3, eL3, by rw [skip (.inl (str_inj c0))]; exact eF3⟩
    walk_at "rl"
    rw [Ds.starts_hash]
    refine ifNn (fun c1 => ?_) (fun c1 => ?_)
    rotate_left
    · exact ⟨_, _, _, rfl, s3, eL3, by rw [skip (.inr c1)]; exact eF3⟩
    have go : Ds.answers mark 1 (lines.take (i + 1)) = Ds.answers mark 1 (lines.take i) ++ [Wd.num (1 + i) ++ mark ++ Ds.ansS (Ds.ans (Ds.strip l))] := by
      rw [eans]
      unfold Ds.line
      rw [if_neg (show ¬ Ds.passed (Ds.strip l) from fun h => h.elim (fun z => c0 (congrArg V.str z)) c1)]
    have hsl : (Ds.strip l).length ≤ 900000 := Nat.le_trans (len_stripChars l _) (by omega)
    have eS : Txt.stripChars l (Str.ofString " ") = Ds.strip l := rfl
    rw [eS]
    generalize Ds.strip l = z at *
    refine ⟨fun σ' H' => Hd (∃ v5, v5 = .str (Ds.ansS (Ds.ans z)) ∧ σ' = [some (.str x), some (.str mark), some (.ref F), some (.ref Tp), some (.str z), some v5] ∧ Same H3 H'), ?_, ?_⟩
    rotate_left
    · walk_at "rl"
      refine ⟨hsl, fun k ps ek H' s => ?_, fun ek H' s => ?_, fun ek H' s => ?_, fun ek H' s => ?_⟩
      · have hal := ans_len (z := z)
        rw [ek] at hal
        have hal : (Ds.told k ps).length ≤ 1000 := hal
        walk_at "rl"
        refine ⟨str_line (by omega), ?_⟩
        rw [Ds.told_strip]
        exact Hd.mk ⟨_, by rw [ek]; rfl, rfl, s⟩
      · refine ⟨true, T.e_NotAPlace_NotAPlace, fun _ a na => ?_, fun z => nomatch z⟩
        walk_at "rl"
        exact Hd.mk ⟨_, by rw [ek]; rfl, rfl, s⟩
      · refine ⟨false, T.e_NotAGame_NotAPlace, (fun z => nomatch z), fun _ => ⟨true, T.e_NotAGame_NotAGame, fun _ a na => ?_, fun z => nomatch z⟩⟩
        walk_at "rl"
        exact Hd.mk ⟨_, by rw [ek]; rfl, rfl, s⟩
      · refine ⟨false, T.e_NotWritten_NotAPlace, (fun z => nomatch z), fun _ => ⟨false, T.e_NotWritten_NotAGame, (fun z => nomatch z), fun _ => ⟨true, T.e_NotWritten_HouseError, fun _ a na => ?_, fun z => nomatch z⟩⟩⟩
        walk_at "rl"
        exact Hd.mk ⟨_, by rw [ek]; rfl, rfl, s⟩
    intro σ' H4 hh
    obtain ⟨v5, rfl, rfl, s4⟩ := hh.out
    have eF4 := s4 _ _ eF3
    have eL4 := s4 _ _ eL3
    have eT4 := s4 _ _ eT
    have hal := ans_len (z := z)
    have hnl := num_len7 (n := 1 + i) (by omega)
    generalize Ds.ansS (Ds.ans z) = u at *
    walk_at "rl"
    refine ⟨Tp, _, _, _, rfl, rfl, SqT.of eT4, atI_nat (j := 0) rfl, ?_⟩
    walk_at "rl"
    refine ⟨num_log (by omega), ?_⟩
    walk_at "rl"
    have eN : Str.ofString (toString ((1 + i : Nat) : Int)) = Wd.num (1 + i) := rfl
    rw [eN]
    refine ⟨str_line (by omega), ?_⟩
    walk_at "rl"
    refine ⟨str_line (by rw [app_len]; omega), ?_⟩
    have hacc := answers_len mark (lines.take i) 1
    refine ⟨F, _, _, rfl, rfl, eF4, mil_line (by rw [SL_length]; omega), ?_⟩
    refine ⟨_, _, _, rfl, Same.put (s3.trans s4) nF, ?_, ?_⟩
    · rw [upd_ne LF]
      exact eL4
    · rw [upd_same, go, SL_snoc]
  · rintro σ H2 ⟨v3, v4, v5, rfl, s2, eL2, eF2⟩
    rw [SL_length, List.take_length] at eF2
    walk_at "rl"
    exact q F H2 s2 nF eF2

/-! ### k21 -/
theorem mod_nat (c : Int) {k : Nat} (hk : 0 < k) : ∃ m : Nat, c % (k : Int) = (m : Int) ∧ m < k := by
  have h1 := Int.emod_nonneg c (show ((k : Nat) : Int) ≠ 0 by omega)
  have h2 := Int.emod_lt_of_pos c (show (0 : Int) < (k : Int) by omega)
  exact ⟨(c % (k : Int)).toNat, by omega, by omega⟩
def optV : Option Nat → V
  | none => .non
  | some n => .int (n : Int)
theorem SL_at {xs : List Str} {i : Nat} {z : Str} (h : xs[i]? = some z) : atI (SL xs) (i : Int) = some (.str z) := atI_nat (by unfold SL; rw [List.getElem?_map, h]; rfl)
theorem SL_item {xs : List Str} {i : Nat} {v : V} (h : (SL xs)[i]? = some v) : ∃ z, xs[i]? = some z ∧ v = .str z := by
  unfold SL at h
  rw [List.getElem?_map] at h
  obtain ⟨z, e, rfl⟩ := Option.map_eq_some_iff.mp h
  exact ⟨z, e, rfl⟩
def sp__law_figures (K : PySem.W.Frag) : Sp := fun vs H Q _ => ∃ (x : Str), vs = [.str x] ∧ x.length ≤ 1000000 ∧ Q (optV (Wd.figs x)) H
abbrev s__law_figures : Stmt := top 33
theorem sc__law_figures : FnScope ["_law_text", "_law_sign"] ["_law_text"] (defScope s__law_figures) := ⟨rfl, rfl, rfl, by decide +kernel, rfl, by decide +kernel, by decide +kernel⟩
theorem ok__law_figures (T : Txt K mg) : Dn P w K mg base CX0 1 (He.ga K "_law_figures") ["_law_text"] (sp__law_figures K) := by
  refine dn_of (k := 0) T.f__law_figures sc__law_figures (fun _ _ _ _ _ _ us hl => match us, hl with | [_], _ => rfl) (fun cdv A outer s H vs Q E hr h => ?_)
  obtain ⟨x, rfl, hx, q⟩ := h
  have hlen := TL.len_tl x
  have qe : Wd.figs x = none → Q .non H := fun e => by rw [e] at q; exact q
  have qv : ∀ n, Wd.figs x = some n → Q (.int (n : Int)) H := fun n e => by rw [e] at q; exact q
  clear q
  refine ⟨_, PSs.nox (pss_cons (ps_if (pt_cut (PW.pt (pw_or (pt_cmpR op_eq (pv 0) pe_str (nomark _)) (pw_or (pt_cmpR op_gtn (pe_callB call_len_str (by rfl) T.n_len PySem.boot_len (pa_cons (pv 0) pa_nil)) (pe_nat 3) (nomark _)) (pw_or1 (PW.pt (pw_and (pt_cmpR op_eq (pe_ix ix_str (pv 0) (pe_nat 0) (fun _ _ => rfl)) pe_str (nomark _)) (pw_and1 (pt_cmpR op_gtn (pe_callB call_len_str (by rfl) T.n_len PySem.boot_len (pa_cons (pv 0) pa_nil)) (pe_nat 1) (nomark _)))))))))) (pss_one (ps_ret pe_non)) pss_nil)
      (pss_cons (ps_for PassesOwn.never rfl (pi_str (pv 0)) (pg_name (i := 1) sc__law_figures.nd rfl (by first | exact Or.inl rfl | exact Or.inr rfl))
      (pss_one (ps_if (pt_cmpR op_notIn_str (pv 1) pe_str rfl) (pss_one (ps_ret pe_non)) pss_nil)))
      (pss_one (ps_ret (pe_callTy (T := "int") call_int_str (by rfl) T.n_int (by decide +kernel) (pa_cons (pv 0) pa_nil)))))), ?_⟩
  refine ⟨fun b H' => Hd (H' = H ∧ (b = true → Wd.figs x = none) ∧ (b = false → TL.tl x ≠ [] ∧ ¬ 3 < (TL.tl x).length ∧ ¬ ((TL.tl x)[0]? = some 48 ∧ TL.tl x ≠ [48]))), ?_, ?_⟩
  rotate_left
  · walk_at "rl"
    refine ifN (fun c => Hd.mk ⟨rfl, fun _ => figs_bad (.inl (by rw [str_inj c, tl_lit0])), fun z => nomatch z⟩) (fun c0 => ?_)
    have h0 : TL.tl x ≠ [] := fun z => c0 (congrArg V.str (TL.ext_tl (by rw [z, tl_lit0])))
    walk_at "rl"
    refine ⟨long_line (by omega), ?_⟩
    walk_at "rl"
    refine ifN (fun c => Hd.mk ⟨rfl, fun _ => figs_bad (.inr (.inl (by omega))), fun z => nomatch z⟩) (fun c1 => ?_)
    obtain ⟨d, r, e⟩ : ∃ d r, TL.tl x = d :: r := by
      cases h : TL.tl x with
      | nil => exact absurd h h0
      | cons d r => exact ⟨d, r, rfl⟩
    walk_at "rl"
    refine ⟨x, 0, d, rfl, rfl, long_line (by omega), by show atI (TL.tl x) ((0 : Nat) : Int) = _; exact atI_nat (by rw [e]; rfl), ?_⟩
    walk_at "rl"
    have e48 : (V.str ⟨#[d]⟩ = V.str (Str.ofString "0")) ↔ d = 48 := by
      constructor
      · intro z
        have := congrArg TL.tl (str_inj z)
        rw [tl_litN] at this
        exact (List.cons.inj (show [d] = [48] from this)).1
      · rintro rfl
        exact congrArg V.str (TL.ext_tl (by rw [tl_litN]))
    refine ifN (fun c => ?_) (fun c2 => ?_)
    · walk_at "rl"
      refine ⟨long_line (by omega), ?_⟩
      walk_at "rl"
      refine Hd.mk ⟨rfl, fun z => ?_, fun z => ?_⟩
      · have z := of_decide_eq_true z
        refine figs_bad (.inr (.inr (.inl ⟨by rw [e]; exact congrArg some (e48.mp c), fun z2 => ?_⟩)))
        rw [hlen, z2] at z
        exact absurd z (by decide)
      · have z := of_decide_eq_false z
        refine ⟨h0, by omega, fun z2 => z2.2 ?_⟩
        rw [e, e48.mp c]
        rw [hlen, e, List.length_cons] at z
        have : r = [] := List.length_eq_zero_iff.mp (by omega)
        rw [this]
    · walk_at "rl"
      exact Hd.mk ⟨rfl, (fun z => nomatch z), fun _ => ⟨h0, by omega, fun z => c2 (e48.mpr (by rw [e] at z; exact Option.some.inj z.1))⟩⟩
  intro b H' hh
  obtain ⟨rfl, ht, hf⟩ := hh.out
  refine ifB (fun c => ?_) (fun c => ?_)
  · walk_at "rl"
    exact qe (ht c)
  obtain ⟨h0, h1, h2⟩ := hf c
  walk_at "rl"
  refine L2.for_it L2.walk_str (fun i σ H2 => H2 = H' ∧ (∀ c ∈ (TL.tl x).take i, Wd.isDig c = true) ∧ ∃ v, σ = [some (.str x), v]) ⟨rfl, by simp, none, rfl⟩ (fun _ _ _ _ _ => trivial) ?_ ?_
  · rintro i v σ H2 H3 hi ⟨rfl, hd, v2, rfl⟩ ⟨rfl, c, hc, rfl⟩
    have hc : (TL.tl x)[i]? = some c := by rw [← hc]; exact (Array.getElem?_toList ..)
    walk_at "rl"
    rw [Wd.fig_sign]
    walk_at "rl"
    refine ifB (fun z => ?_) (fun z => ?_)
    · walk_at "rl"
      refine qe (figs_bad (.inr (.inr (.inr (Bool.eq_false_iff.mpr fun a => ?_)))))
      have := List.all_eq_true.mp a c (List.mem_of_getElem? hc)
      rw [this] at z
      cases z
    · refine ⟨rfl, fun k hk => ?_, _, rfl⟩
      rw [List.take_succ, hc] at hk
      rcases List.mem_append.mp hk with hk | hk
      · exact hd k hk
      · have hk : k ∈ [c] := hk
        rw [List.mem_singleton] at hk
        rw [hk]
        cases h : Wd.isDig c with
        | true => rfl
        | false => rw [h] at z; cases z
  · rintro σ H2 ⟨rfl, hd, v2, rfl⟩
    have hall : (TL.tl x).all Wd.isDig = true := List.all_eq_true.mpr fun c hc => hd c (by
      have : x.cps.size = (TL.tl x).length := hlen
      rw [this, List.take_length]
      exact hc)
    obtain ⟨n, en⟩ := figs_ok (x := x) (by
      rintro (z | z | z | z)
      · exact h0 z
      · exact h1 z
      · exact h2 z
      · rw [hall] at z; cases z)
    walk_at "rl"
    refine ⟨x, n, rfl, (Wd.figs_int en).1, by omega, ?_⟩
    exact qv n en
/-! rising rows -/
def limB : Nat → List Nat → Bool
  | _, [] => true
  | l, n :: r => decide (l < n ∧ n ≤ 12) && limB n r
theorem limB_iff : ∀ (ns : List Nat) (l : Nat), limB l ns = true ↔ (ns.Pairwise (· < ·) ∧ ∀ n ∈ ns, l < n ∧ n ≤ 12)
  | [], l => by simp [limB]
  | n :: r, l => by
    unfold limB
    rw [Bool.and_eq_true, limB_iff r n, decide_eq_true_iff, List.pairwise_cons]
    constructor
    · rintro ⟨⟨h1, h2⟩, h3, h4⟩
      refine ⟨⟨fun m hm => (h4 m hm).1, h3⟩, fun m hm => ?_⟩
      rcases List.mem_cons.mp hm with rfl | hm
      · exact ⟨h1, h2⟩
      · have := h4 m hm
        exact ⟨by omega, this.2⟩
    · rintro ⟨⟨h1, h2⟩, h3⟩
      exact ⟨h3 n List.mem_cons_self, h2, fun m hm => ⟨h1 m hm, (h3 m (List.mem_cons_of_mem _ hm)).2⟩⟩
theorem limB_rising {ns : List Nat} (h : ns ≠ []) : limB 0 ns = decide (Gm.Rising ns) := by
  have e : limB 0 ns = true ↔ Gm.Rising ns := (limB_iff ns 0).trans ⟨fun ⟨h1, h2⟩ => ⟨h, h1, fun n hn => by have := h2 n hn; omega⟩, fun ⟨_, h1, h2⟩ => ⟨h1, fun n hn => by have := h2 n hn; omega⟩⟩
  by_cases c : Gm.Rising ns
  · rw [decide_eq_true c]
    exact e.mpr c
  · rw [decide_eq_false c]
    exact Bool.eq_false_iff.mpr fun z => c (e.mp z)
def sp__law_limits_good (K : PySem.W.Frag) : Sp := fun vs H Q _ => ∃ (a : Addr) (ns : List Nat), vs = [.ref a] ∧ H a = some (.lst (NL ns)) ∧ Q (.bl (limB 0 ns)) H
abbrev s__law_limits_good : Stmt := top 34
theorem sc__law_limits_good : FnScope ["_law_limits", "_law_last", "_law_limit"] ["_law_limits"] (defScope s__law_limits_good) := ⟨rfl, rfl, rfl, by decide +kernel, rfl, by decide +kernel, by decide +kernel⟩
theorem ok__law_limits_good (T : Txt K mg) : Dn P w K mg base CX0 1 (He.ga K "_law_limits_good") ["_law_limits"] (sp__law_limits_good K) := by
  refine dn_of (k := 0) T.f__law_limits_good sc__law_limits_good (fun _ _ _ _ _ _ us hl => match us, hl with | [_], _ => rfl) (fun cdv A outer s H vs Q E hr h => ?_)
  obtain ⟨a, ns, rfl, ha, q⟩ := h
  refine ⟨_, PSs.nox (pss_cons (ps_set (i := 1) sc__law_limits_good.nd rfl (by first | exact Or.inl rfl | exact Or.inr rfl) (pe_nat 0))
      (pss_cons (ps_for PassesOwn.never rfl (pi_list (pv 0)) (pg_name (i := 2) sc__law_limits_good.nd rfl (by first | exact Or.inl rfl | exact Or.inr rfl))
      (pss_cons (ps_if (PW.pt (pw_or (pt_cmpR op_len (pv 2) (pv 1) (nomark _)) (pw_or1 (pt_cmpR op_gtn (pv 2) (pe_nat 12) (nomark _))))) (pss_one (ps_ret pe_bl)) pss_nil)
      (pss_one (ps_set (i := 1) sc__law_limits_good.nd rfl (by first | exact Or.inl rfl | exact Or.inr rfl) (pv 2)))))
      (pss_one (ps_ret pe_bl)))), ?_⟩
  walk_at "rl"
  refine ⟨⟨_, SqL.of ha⟩, for_list (K := K) (a := a) (xs := NL ns) (fun i σ H' => ∃ la v3, σ = [some (.ref a), some (.int ((la : Nat) : Int)), v3] ∧ H' = H ∧ limB 0 ns = limB la (ns.drop i)) ⟨0, none, rfl, rfl, rfl⟩ (fun i σ H' _ ⟨_, _, _, e, _⟩ => by rw [e]; exact SqL.of ha) ?_ ?_⟩
  · rintro i v σ H' hi ⟨la, v3, rfl, rfl, e⟩
    obtain ⟨m, hm, rfl⟩ := NL_at hi
    have hd : ns.drop i = m :: ns.drop (i + 1) := by
      obtain ⟨h, e⟩ := List.getElem?_eq_some_iff.mp hm
      rw [List.drop_eq_getElem_cons h, e]
    rw [hd] at e
    have e : limB 0 ns = (decide (la < m ∧ m ≤ 12) && limB m (ns.drop (i + 1))) := e
    have bad : ¬ (la < m ∧ m ≤ 12) → Q (.bl false) H' := fun c => by
      rw [e, decide_eq_false c, Bool.false_and] at q
      exact q
    walk_at "rl"
    refine ifN (fun c => ?_) (fun c => ?_)
    · walk_at "rl"
      exact bad (by omega)
    walk_at "rl"
    refine ifN (fun c2 => ?_) (fun c2 => ?_)
    · walk_at "rl"
      exact bad (by omega)
    walk_at "rl"
    rw [e, decide_eq_true (by omega), Bool.true_and]
  · rintro σ H' ⟨la, v3, rfl, rfl, e⟩
    rw [NL_length, List.drop_length] at e
    rw [e] at q
    walk_at "rl"
    exact q
def sp__law_bare (K : PySem.W.Frag) : Sp := fun vs H Q _ => ∃ (x : Str), vs = [.str x] ∧ x ∈ Wd.bare ∧ ∀ g l H', Same H H' → H g = none → H l = none → GameAt K (Wd.bareK x) H' g l l 0 → Q (.ref g) H'
abbrev s__law_bare : Stmt := top 35
theorem sc__law_bare : FnScope ["_law_word"] ["_law_word"] (defScope s__law_bare) := ⟨rfl, rfl, rfl, by decide +kernel, rfl, by decide +kernel, by decide +kernel⟩
theorem ok__law_bare (T : Txt K mg) (d_Game___init__ : Dn P w K mg base CX0 2 (He.ma K (He.ga K "Game") "__init__") ["self"] (sp_ginit (He.ga K "Game"))) (d_Heap___init__ : Dn P w K mg base CX0 2 (He.ma K (He.ga K "Heap") "__init__") ["self"] (sp_ginit (He.ga K "Heap"))) (d_Parting___init__ : Dn P w K mg base CX0 2 (He.ma K (He.ga K "Parting") "__init__") ["self"] (sp_ginit (He.ga K "Parting"))) (d_Runs___init__ : Dn P w K mg base CX0 2 (He.ma K (He.ga K "Runs") "__init__") ["self"] (sp_ginit (He.ga K "Runs"))) (d_Pairs___init__ : Dn P w K mg base CX0 2 (He.ma K (He.ga K "Pairs") "__init__") ["self"] (sp_ginit (He.ga K "Pairs"))) : Dn P w K mg base CX0 4 (He.ga K "_law_bare") ["_law_word"] (sp__law_bare K) := by
  refine dn_of (k := 3) T.f__law_bare sc__law_bare (fun _ _ _ _ _ _ us hl => match us, hl with | [_], _ => rfl) (fun cdv A outer s H vs Q E hr h => ?_)
  obtain ⟨x, rfl, hx, q⟩ := h
  refine ⟨_, PSs.nox (pss_cons (ps_if (pt_cmpR op_eq (pv 0) pe_str (nomark _)) (pss_one (ps_ret (pe_mk0 T.mk_Game d_Game___init__ (hr.mono (by omega)) T.g_Game pass0))) pss_nil)
      (pss_cons (ps_if (pt_cmpR op_eq (pv 0) pe_str (nomark _)) (pss_one (ps_ret (pe_mk0 T.mk_Heap d_Heap___init__ (hr.mono (by omega)) T.g_Heap pass0))) pss_nil)
      (pss_cons (ps_if (pt_cmpR op_eq (pv 0) pe_str (nomark _)) (pss_one (ps_ret (pe_mk0 T.mk_Parting d_Parting___init__ (hr.mono (by omega)) T.g_Parting pass0))) pss_nil)
      (pss_cons (ps_if (pt_cmpR op_eq (pv 0) pe_str (nomark _)) (pss_one (ps_ret (pe_mk0 T.mk_Runs d_Runs___init__ (hr.mono (by omega)) T.g_Runs pass0))) pss_nil)
      (pss_one (ps_ret (pe_mk0 T.mk_Pairs d_Pairs___init__ (hr.mono (by omega)) T.g_Pairs pass0))))))), ?_⟩
  walk_at "rl"
  refine ifN (fun c => ?_) (fun c0 => ?_)
  · walk_at "rl"
    intro y dx nx nd ne
    have e : Wd.bareK x = .still := if_pos (str_inj c)
    rw [e] at q
    exact few_plain .still (by simp) rfl nx nd ne fun l H' sm ga nl _ => ⟨rfl, q y l H' sm nx nl ga⟩
  walk_at "rl"
  refine ifN (fun c => ?_) (fun c1 => ?_)
  · walk_at "rl"
    intro y dx nx nd ne
    have e : Wd.bareK x = .heap := (if_neg fun z => c0 (congrArg V.str z)).trans (if_pos (str_inj c))
    rw [e] at q
    exact few_plain .heap (by simp) rfl nx nd ne fun l H' sm ga nl _ => ⟨rfl, q y l H' sm nx nl ga⟩
  walk_at "rl"
  refine ifN (fun c => ?_) (fun c2 => ?_)
  · walk_at "rl"
    intro y dx nx nd ne
    have e : Wd.bareK x = .parting := (if_neg fun z => c0 (congrArg V.str z)).trans ((if_neg fun z => c1 (congrArg V.str z)).trans (if_pos (str_inj c)))
    rw [e] at q
    exact few_plain .parting (by simp) rfl nx nd ne fun l H' sm ga nl _ => ⟨rfl, q y l H' sm nx nl ga⟩
  walk_at "rl"
  refine ifN (fun c => ?_) (fun c3 => ?_)
  · walk_at "rl"
    intro y dx nx nd ne
    have e : Wd.bareK x = .runs := (if_neg fun z => c0 (congrArg V.str z)).trans ((if_neg fun z => c1 (congrArg V.str z)).trans ((if_neg fun z => c2 (congrArg V.str z)).trans (if_pos (str_inj c))))
    rw [e] at q
    exact few_plain .runs (by simp) rfl nx nd ne fun l H' sm ga nl _ => ⟨rfl, q y l H' sm nx nl ga⟩
  walk_at "rl"
  intro y dx nx nd ne
  have e : Wd.bareK x = .pairs := (if_neg fun z => c0 (congrArg V.str z)).trans ((if_neg fun z => c1 (congrArg V.str z)).trans ((if_neg fun z => c2 (congrArg V.str z)).trans (if_neg fun z => c3 (congrArg V.str z))))
  rw [e] at q
  exact few_plain .pairs (by simp) rfl nx nd ne fun l H' sm ga nl _ => ⟨rfl, q y l H' sm nx nl ga⟩
def sp__law_value (K : PySem.W.Frag) : Sp := fun vs H Q _ => ∃ (k : Gm.Kind) (g l x p : Addr) (n : Nat) (ls : List Nat), vs = [.ref g, .ref p] ∧ okK k ∧ GameAt K k H g l x n ∧ n ≤ k.top ∧ (∀ H', But l H H' → SqL K H' p (NL ls)) ∧ (∀ q ∈ ls, q < k.top) ∧
  ∀ n' H', But l H H' → GameAt K k H' g l x n' → n ≤ n' → n' ≤ k.top → (∀ q ∈ ls, q < n') → Q (.int ((Gm.sumN k.L ls : Nat) : Int)) H'
abbrev s__law_value : Stmt := top 37
theorem sc__law_value : FnScope ["_law_game_here", "_law_places", "_law_found", "_law_place"] ["_law_game_here", "_law_places"] (defScope s__law_value) := ⟨rfl, rfl, rfl, by decide +kernel, rfl, by decide +kernel, by decide +kernel⟩
theorem ok__law_value (T : Txt K mg) (DNc : Disp P w K mg base CX0 20 "number" (kC K) okK ["self", "place"] (sp_numC K)) : Dn P w K mg base CX0 21 (He.ga K "_law_value") ["_law_game_here", "_law_places"] (sp__law_value K) := by
  refine dn_of (k := 20) T.f__law_value sc__law_value (fun _ _ _ _ _ _ us hl => match us, hl with | [_, _], _ => rfl) (fun cdv A outer s H vs Q E hr h => ?_)
  obtain ⟨k, g, l, x, p, n, ls, rfl, hk, ga, hn, hS, hlt, q⟩ := h
  refine ⟨_, PSs.nox (pss_cons (ps_set (i := 2) sc__law_value.nd rfl (by first | exact Or.inl rfl | exact Or.inr rfl) (pe_nat 0))
      (pss_cons (ps_for PassesOwn.never rfl (pi_list (pv 1)) (pg_name (i := 3) sc__law_value.nd rfl (by first | exact Or.inl rfl | exact Or.inr rfl))
      (pss_one (ps_set (i := 2) sc__law_value.nd rfl (by first | exact Or.inl rfl | exact Or.inr rfl) (pe_op op_xorn (pv 2) (pe_mf (DNc) (hr.mono (by omega)) pass0 (pv 0) (pa_cons (pv 3) pa_nil))))))
      (pss_one (ps_ret (pv 2))))), ?_⟩
  walk_at "rl"
  refine ⟨⟨_, hS H (But.refl _ _)⟩, for_list (K := K) (a := p) (xs := NL ls) (fun i σ H' => ∃ v3 n', σ = [some (.ref g), some (.ref p), some (.int ((Gm.sumN k.L (ls.take i) : Nat) : Int)), v3] ∧ But l H H' ∧ GameAt K k H' g l x n' ∧ n ≤ n' ∧ n' ≤ k.top ∧ ∀ q ∈ ls.take i, q < n') ⟨none, n, rfl, But.refl _ _, ga, Nat.le_refl _, hn, by simp⟩ (fun i σ H' _ ⟨_, _, _, b, _⟩ => hS H' b) ?_ ?_⟩
  · rintro i v σ H' hi ⟨v3, n', rfl, bt, ga1, h1, h2, h3⟩
    obtain ⟨dx, hg⟩ := ga1.ob
    obtain ⟨m, hm, rfl⟩ := NL_at hi
    have hml := List.mem_of_getElem? hm
    walk_at "rl"
    refine ⟨k, g, _, _, hk, rfl, hg, kfs_number _ _ _, ?_⟩
    walk_at "rl"
    refine ⟨g, l, x, n', _, rfl, ga1, h2, .inl ⟨m, rfl, hlt _ hml, fun n2 H2 bt2 ga2 h4 h5 h6 => ?_⟩⟩
    walk_at "rl"
    refine ⟨some (.int (m : Int)), n2, ?_, bt.trans bt2, ga2, by omega, h6, fun q hq => ?_⟩
    · rw [Gm.sumN_snoc k.L hm]
      rfl
    · rw [List.take_succ, hm] at hq
      rcases List.mem_append.mp hq with hq | hq
      · have := h3 q hq
        omega
      · have hq : q ∈ [m] := hq
        rw [List.mem_singleton] at hq
        rw [hq]
        exact h5
  · rintro σ H' ⟨v3, n', rfl, bt, ga1, h1, h2, h3⟩
    rw [NL_length, List.take_length] at *
    exact ⟨_, rfl, q n' H' bt ga1 h1 h2 h3⟩
theorem xor_swap {a b t : Nat} : a = t ^^^ b ↔ a ^^^ b = t := by
  constructor
  · intro h
    rw [h, Nat.xor_assoc, Nat.xor_self, Nat.xor_zero]
  · intro h
    rw [← h, Nat.xor_assoc, Nat.xor_self, Nat.xor_zero]
theorem LLs.but {l : Addr} {H H' : Hp} {D : Addr} {as : List Addr} {xss : List (List Nat)} (h : LLs H D as xss) (b : But l H H') (hD : D ≠ l) (ha : ∀ a ∈ as, a ≠ l) : LLs H' D as xss :=
  ⟨b _ _ h.top hD, h.len, h.nd, fun i a xs e1 e2 => b _ _ (h.row i a xs e1 e2) (ha a (List.mem_of_getElem? e1))⟩
def sp__law_turn (K : PySem.W.Frag) : Sp := fun vs H Q _ => ∃ (k : Gm.Kind) (g l x p : Addr) (n : Nat) (ls : List Nat), vs = [.ref g, .ref p] ∧ okK k ∧ Wdk k ∧ GameAt K k H g l x n ∧ n ≤ 101 ∧ H p = some (.lst (NL ls)) ∧ p ≠ l ∧ ls.length ≤ 1000000 ∧ (∀ p ∈ ls, p ≤ 100) ∧
  ∀ H', But l H H' → Q (.str (Ds.told k ls)) H'
abbrev s__law_turn : Stmt := top 38
theorem sc__law_turn : FnScope ["_law_game_here", "_law_places", "_law_total", "_law_place", "_law_lead", "_law_one"] ["_law_game_here", "_law_places"] (defScope s__law_turn) := ⟨rfl, rfl, rfl, by decide +kernel, rfl, by decide +kernel, by decide +kernel⟩
theorem ok__law_turn (T : Txt K mg) (DLc : Disp P w K mg base CX0 10 "leads" (kC K) okK ["self", "place"] (fun k vs H Q _ => sp_leads K k vs H Q E0)) (DNc : Disp P w K mg base CX0 20 "number" (kC K) okK ["self", "place"] (sp_numC K)) (d__law_value : Dn P w K mg base CX0 21 (He.ga K "_law_value") ["_law_game_here", "_law_places"] (sp__law_value K)) : Dn P w K mg base CX0 22 (He.ga K "_law_turn") ["_law_game_here", "_law_places"] (sp__law_turn K) := by
  refine dn_of (k := 21) T.f__law_turn sc__law_turn (fun _ _ _ _ _ _ us hl => match us, hl with | [_, _], _ => rfl) (fun cdv A outer s H vs Q E hr h => ?_)
  obtain ⟨k, g, l, x, p, n, ls, rfl, hk, hw, ga, hn, hp, pl, hll, good, q⟩ := h
  have ht := hw.top
  have hok := kinds_ok.good k hk
  refine ⟨_, PSs.nox (pss_cons (ps_set (i := 2) sc__law_turn.nd rfl (by first | exact Or.inl rfl | exact Or.inr rfl) (pe_cl d__law_value (hr.mono (by omega)) T.g__law_value pass0 (pa_cons (pv 0) (pa_cons (pv 1) pa_nil))))
      (pss_cons (ps_for PassesOwn.never rfl (pi_list (pv 1)) (pg_name (i := 3) sc__law_turn.nd rfl (by first | exact Or.inl rfl | exact Or.inr rfl))
      (pss_one (ps_for PassesOwn.never rfl (pi_list (pe_mf (DLc) (hr.mono (by omega)) pass0 (pv 0) (pa_cons (pv 3) pa_nil))) (pg_name (i := 4) sc__law_turn.nd rfl (by first | exact Or.inl rfl | exact Or.inr rfl))
      (pss_one (ps_if (PW.pt (pw_and (pt_cmpR op_nen (pv 2) (pe_nat 0) (nomark _)) (pw_and1 (pt_cmpR op_eqn (pe_cl d__law_value (hr.mono (by omega)) T.g__law_value pass0 (pa_cons (pv 0) (pa_cons (pv 4) pa_nil))) (pe_op op_xorn (pv 2) (pe_mf (DNc) (hr.mono (by omega)) pass0 (pv 0) (pa_cons (pv 3) pa_nil))) (nomark _))))) (pss_cons (ps_if (pt_cmpR (op_eqLN hr.units) (pv 4) (pe_lst pa_nil) (nomark _)) (pss_one (ps_ret (pe_op op_add_str (pe_callTy (T := "str") call_str_int (by rfl) T.n_str (by decide +kernel) (pa_cons (pv 3) pa_nil)) pe_str))) pss_nil)
      (pss_one (ps_ret (pe_op op_add_str (pe_op op_add_str (pe_callTy (T := "str") call_str_int (by rfl) T.n_str (by decide +kernel) (pa_cons (pv 3) pa_nil)) pe_str) (pe_join pe_str (pe_lc (own := [("_law_one", 5)]) (g := gName 5) (by rfl) sc__law_turn.nd (pi_list (pv 4)) (blkOk_by (own := [("_law_one", 5)]) (N := ["_law_game_here", "_law_places", "_law_total", "_law_place", "_law_lead", "_law_one"]) (sc := defScope (s__law_turn)) (by decide +kernel)) (fun _ _ _ _ _ => pg_name (i := 5) sc__law_turn.nd rfl (by first | exact Or.inl rfl | exact Or.inr rfl)) (fun _ _ _ _ _ => pts_nil) (fun _ _ _ _ _ => (pe_callTy (T := "str") call_str_int (by rfl) T.n_str (by decide +kernel) (pa_cons (pv 5) pa_nil))))))))) pss_nil)))))
      (pss_one (ps_ret pe_str)))), ?_⟩
  obtain ⟨H1, e1⟩ : ∃ H1, H1 = H := ⟨_, rfl⟩
  rw [← e1] at hp ga q ⊢
  have hp1 := hp
  have ga1 := ga
  clear e1
  have lesser := Gm.Kind.lesser hok
  walk_at "rl"
  refine ⟨k, g, l, x, p, n, ls, rfl, hk, ga1, by omega, fun H' b => SqL.of (b _ _ hp1 pl), fun q hq => by have := good q hq; omega, fun n1 H2 b2 ga2 h1 h2 h3 => ?_⟩
  generalize htot : Gm.sumN k.L ls = tot at *
  walk_at "rl"
  refine ⟨⟨_, SqL.of (b2 _ _ hp1 pl)⟩, for_list (K := K) (a := p) (xs := NL ls) (fun i σ H' => ∃ v3 v4 n', σ = [some (.ref g), some (.ref p), some (.int ((tot : Nat) : Int)), v3, v4, none] ∧ But l H1 H' ∧ GameAt K k H' g l x n' ∧ n' ≤ k.top ∧ (tot ≠ 0 → Gm.firstT k.L tot ls 0 = Gm.firstT k.L tot (ls.drop i) i)) ⟨none, none, n1, rfl, b2, ga2, h2, fun _ => rfl⟩ (fun i σ H' _ ⟨_, _, _, _, b, _⟩ => SqL.of (b _ _ hp1 pl)) ?_ ?_⟩
  · rintro i v σ H3 hi ⟨v3, v4, n3, rfl, b3, ga3, h4, hf⟩
    obtain ⟨m, hm, rfl⟩ := NL_at hi
    have hil : i < ls.length := (List.getElem?_eq_some_iff.mp hm).1
    obtain ⟨dx3, hg3⟩ := ga3.ob
    have hmp := good m (List.mem_of_getElem? hm)
    have hgd : ls.getD i 0 = m := by rw [List.getD_eq_getElem?_getD, hm]; rfl
    have hd : ls.drop i = m :: ls.drop (i + 1) := by
      obtain ⟨h, e⟩ := List.getElem?_eq_some_iff.mp hm
      rw [List.drop_eq_getElem_cons h, e]
    rw [hd] at hf
    walk_at "rl"
    refine ⟨k, g, _, _, hk, rfl, hg3, kfs_leads _ _ _, ?_⟩
    walk_at "rl"
    refine ⟨g, l, x, n3, m, rfl, ga3, hmp, fun _ D as H4 s4 nD nas lls => ?_, fun c => absurd (by omega) c⟩
    have Dl : D ≠ l := fun z => by
      have := ga3.kn
      rw [← z, nD] at this
      cases this
    have asl : ∀ a ∈ as, a ≠ l := fun a ha z => by
      have := ga3.kn
      rw [← z, nas a ha] at this
      cases this
    walk_at "rl"
    refine ⟨⟨_, SqL.of lls.top⟩, for_list (K := K) (a := D) (xs := as.map V.ref) (fun j σ H' => ∃ v4 n', σ = [some (.ref g), some (.ref p), some (.int ((tot : Nat) : Int)), some (.int (m : Int)), v4, none] ∧ But l H4 H' ∧ GameAt K k H' g l x n' ∧ n' ≤ k.top ∧ (tot ≠ 0 → (k.L m).find? (Gm.hits k.L tot m) = ((k.L m).drop j).find? (Gm.hits k.L tot m))) ⟨v4, n3, rfl, But.refl _ _, ga3.same s4, h4, fun _ => rfl⟩ (fun j σ H' _ ⟨_, _, _, b, _⟩ => SqL.of (b _ _ lls.top Dl)) ?_ ?_⟩
    · rintro j v σ H5 hj ⟨v4, n5, rfl, b5, ga5, h5, hf2⟩
      have lls5 := lls.but b5 Dl asl
      obtain ⟨a, lead, ea, el, rfl, ha⟩ := lls5.item hj
      have hal := asl a (List.mem_of_getElem? ea)
      have hlm := List.mem_of_getElem? el
      have hlead := lesser _ lead hlm
      have hd2 : (k.L m).drop j = lead :: (k.L m).drop (j + 1) := by
        obtain ⟨h, e⟩ := List.getElem?_eq_some_iff.mp el
        rw [List.drop_eq_getElem_cons h, e]
      have b15 : But l H1 H5 := (b3.trans (Same.but s4)).trans b5
      walk_at "rl"
      refine ifNn (fun c0 => ?_) (fun c0 => ?_)
      rotate_left
      · exact ⟨_, n5, rfl, b5, ga5, h5, fun z => absurd c0 z⟩
      walk_at "rl"
      refine ⟨k, g, l, x, a, n5, lead, rfl, hk, ga5, h5, fun H' b => SqL.of (b _ _ ha hal), fun q hq => by have := hlead q hq; omega, fun n6 H6 b6 ga6 h8 h9 h10 => ?_⟩
      obtain ⟨dx6, hg6⟩ := ga6.ob
      walk_at "rl"
      refine ⟨_, g, _, _, hk, rfl, hg6, kfs_number _ _ _, ?_⟩
      walk_at "rl"
      refine ⟨g, l, x, n6, _, rfl, ga6, h9, .inl ⟨m, rfl, by omega, fun n7 H7 b7 ga7 h11 h12 h13 => ?_⟩⟩
      have b17 := b15.trans (b6.trans b7)
      have ha7 := b7 _ _ (b6 _ _ ha hal) hal
      walk_at "rl"
      refine ifN (fun c => ?_) (fun c => ?_)
      · have eb : Gm.best k.L ls = some (i, lead) := by
          unfold Gm.best
          rw [htot, if_neg c0, hf c0]
          show (match (k.L m).find? (Gm.hits k.L tot m) with | some lead => some (i, lead) | none => _) = _
          rw [hf2 c0, hd2, List.find?_cons_of_pos (p := Gm.hits k.L tot m) (show Gm.hits k.L tot m lead = true from decide_eq_true (xor_swap.mp c))]
        unfold Ds.told at q
        rw [eb] at q
        have q : ∀ z, (if lead = [] then Wd.num (ls.getD i 0) ++ Str.ofString " to nothing" else Wd.num (ls.getD i 0) ++ Str.ofString " to " ++ Txt.join (Str.ofString " ") (lead.map Wd.num)) = z → ∀ H', But l H1 H' → Q (.str z) H' := fun z h H' s => by
          rw [← h]
          exact q H' s
        rw [hgd] at q
        have hll := lead_len hok hw hmp lead hlm
        have hlq : ∀ q ∈ lead, q < 1000 := fun q hq => by have := hlead q hq; omega
        have l4 : (Str.ofString " to ").length = 4 := by rw [TL.len_tl, TL.tl_ofString]; rfl
        have l11 : (Str.ofString " to nothing").length = 11 := by rw [TL.len_tl, TL.tl_ofString]; rfl
        have l1 : (Str.ofString " ").length = 1 := by rw [TL.len_tl, TL.tl_ofString]; rfl
        have eN : Str.ofString (toString ((m : Nat) : Int)) = Wd.num m := rfl
        have hnl : (Wd.num m).length ≤ 3 := nS_len (n := m) (by omega)
        walk_at "rl"
        refine ⟨by show 0 ≤ sizeLine; decide, fun E2 nE => ?_⟩
        have s78 := Same.upd nE (o := .lst [])
        have b18 := b17.trans (Same.but s78)
        have ha8 := s78 _ _ ha7
        have eE : upd H7 E2 (.lst []) E2 = some (.lst (NL [])) := upd_same
        generalize upd H7 E2 (.lst []) = H8 at *
        refine ⟨a, E2, lead, [], rfl, rfl, SqL.of ha8, SqL.of eE, ?_⟩
        walk_at "rl"
        refine ifN (fun c1 => ?_) (fun c1 => ?_)
        · walk_at "rl"
          refine ⟨nS_log (by omega), ?_⟩
          walk_at "rl"
          rw [eN]
          refine ⟨str_line (by omega), ?_⟩
          exact q _ (if_pos c1) H8 b18
        · walk_at "rl"
          refine ⟨nS_log (by omega), ?_⟩
          walk_at "rl"
          rw [eN]
          refine ⟨str_line (by omega), ?_⟩
          walk_at "rl"
          refine ⟨⟨_, SqL.of ha8⟩, fun N nN => ?_⟩
          refine lc_list (K := K) (a := a) (xs := NL lead) (fun i H3 => H3 N = some (.lst (SL ((lead.take i).map Wd.num))) ∧ Same H8 H3) ⟨upd_same, Same.upd nN⟩ (fun i H3 _ h => SqL.of (h.2 _ _ ha8)) ?_ ?_
          · rintro t v H9 hi ⟨hN, s9⟩
            obtain ⟨z, hz, rfl⟩ := NL_at hi
            have hil : t < lead.length := (List.getElem?_eq_some_iff.mp hz).1
            have hzq := hlq z (List.mem_of_getElem? hz)
            walk_at "rl"
            refine ⟨nS_log (by omega), ?_⟩
            refine ⟨_, hN, mil_line (by rw [SL_length, List.length_map, List.length_take]; omega), ?_, Same.put s9 nN⟩
            rw [upd_same, List.take_succ, hz, List.map_append]
            show some (HO.lst (SL _ ++ [V.str (Wd.num z)])) = some (HO.lst (SL (_ ++ [Wd.num z])))
            rw [SL_snoc]
          · rintro H9 ⟨hN, s9⟩
            rw [NL_length, List.take_length] at hN
            have hj := num_join_len lead hlq
            have hjl := join_len (Str.ofString " ") (lead.map Wd.num)
            rw [List.length_map, l1] at hjl
            refine ⟨_, N, lead.map Wd.num, rfl, rfl, .inl (SqL.of hN), by rw [List.length_map, l1]; omega, ?_⟩
            walk_at "rl"
            refine ⟨str_line (by rw [app_len, l4]; omega), ?_⟩
            exact q _ (if_neg c1) H9 (b18.trans (Same.but s9))
      · walk_at "rl"
        refine ⟨_, n7, rfl, b5.trans (b6.trans b7), ga7, h13, fun z => ?_⟩
        rw [hf2 z, hd2, List.find?_cons_of_neg (by simpa [Gm.hits, ← xor_swap] using c)]
    · rintro σ H5 ⟨v4, n5, rfl, b5, ga5, h5, hf2⟩
      refine ⟨_, _, n5, rfl, (b3.trans (Same.but s4)).trans b5, ga5, h5, fun z => ?_⟩
      have hf2 := hf2 z
      rw [List.length_map, lls.len, List.drop_length] at hf2
      rw [hf z]
      show (match (k.L m).find? (Gm.hits k.L tot m) with | some lead => some (i, lead) | none => _) = _
      rw [hf2]
      rfl
  · rintro σ H3 ⟨v3, v4, n3, rfl, b3, ga3, h4, hf⟩
    have eb : Gm.best k.L ls = none := by
      unfold Gm.best
      rw [htot]
      split
      · rfl
      · rename_i c
        rw [hf c, NL_length, List.drop_length]
        rfl
    unfold Ds.told at q
    rw [eb] at q
    walk_at "rl"
    exact q H3 b3
def sp__law_words (K : PySem.W.Frag) : Sp := fun vs H Q _ => ∃ (x : Str), vs = [.str x] ∧ x.length ≤ 1000000 ∧ ∀ W H', Same H H' → H W = none → H' W = some (.lst (SL (Wd.words x))) → Q (.ref W) H'
abbrev s__law_words : Stmt := top 39
theorem sc__law_words : FnScope ["_law_text", "_law_word"] ["_law_text"] (defScope s__law_words) := ⟨rfl, rfl, rfl, by decide +kernel, rfl, by decide +kernel, by decide +kernel⟩
theorem ok__law_words (T : Txt K mg) : Dn P w K mg base CX0 1 (He.ga K "_law_words") ["_law_text"] (sp__law_words K) := by
  refine dn_of (k := 0) T.f__law_words sc__law_words (fun _ _ _ _ _ _ us hl => match us, hl with | [_], _ => rfl) (fun cdv A outer s H vs Q E hr h => ?_)
  obtain ⟨x, rfl, hx, q⟩ := h
  unfold Wd.words at q
  refine ⟨_, PSs.nox (pss_one (ps_ret (pe_lc (own := [("_law_word", 1)]) (g := gName 1) (by rfl) sc__law_words.nd (pi_list (pe_split (pv 0) pe_str)) (blkOk_by (own := [("_law_word", 1)]) (N := ["_law_text", "_law_word"]) (sc := defScope (s__law_words)) (by decide +kernel)) (fun _ _ _ _ _ => pg_name (i := 1) sc__law_words.nd rfl (by first | exact Or.inl rfl | exact Or.inr rfl)) (fun _ _ _ _ _ => (pts_one (pt_cmpR op_ne (pv 1) pe_str (nomark _)))) (fun _ _ _ _ _ => (pv 1))))), ?_⟩
  walk_at "rl"
  refine ⟨long_line (by omega), fun W0 nW0 => ?_⟩
  have hsl := split_len x
  have hse := split_each x
  generalize Txt.split x (Str.ofString " ") = parts at *
  have s1 := Same.upd nW0 (o := .lst (SL parts))
  have e1 : upd H W0 (.lst (SL parts)) W0 = _ := upd_same
  refine ⟨W0, rfl, ⟨_, SqL.of e1⟩, fun W nW => ?_⟩
  have e1' : upd H W0 (.lst (parts.map V.str)) W0 = some (.lst (SL parts)) := e1
  have s1' : Same H (upd H W0 (.lst (parts.map V.str))) := s1
  generalize upd H W0 (.lst (parts.map V.str)) = H1 at *
  refine lc_list (K := K) (a := W0) (xs := SL parts) (fun i H' => H' W = some (.lst (SL ((parts.take i).filter fun w => !decide (w = Str.ofString "")))) ∧ Same H1 H') ⟨upd_same, Same.upd nW⟩ (fun i H' _ h => SqL.of (h.2 _ _ e1')) ?_ ?_
  · rintro i v H' hi ⟨hW, sm⟩
    obtain ⟨z, hz, rfl⟩ : ∃ z, parts[i]? = some z ∧ v = V.str z := by
      unfold SL at hi
      rw [List.getElem?_map] at hi
      cases e : parts[i]? with
      | none => rw [e] at hi; cases hi
      | some z => rw [e] at hi; exact ⟨z, rfl, (Option.some.inj hi).symm⟩
    have hil : i < parts.length := (List.getElem?_eq_some_iff.mp hz).1
    walk_at "rl"
    refine ifNn (fun c => ?_) (fun c => ?_)
    · refine ⟨_, rfl, _, hW, mil_line (by rw [SL_length]; refine Nat.le_trans (List.length_filter_le _ _) ?_; rw [List.length_take]; omega), ?_, Same.put sm nW⟩
      rw [upd_same, List.take_succ, hz, List.filter_append]
      show _ = some (HO.lst (SL (_ ++ List.filter _ [z])))
      rw [List.filter_cons_of_pos (by rw [decide_eq_false (fun e => c (congrArg V.str e))]; rfl), List.filter_nil, SL_snoc]
    · refine ⟨?_, sm⟩
      rw [hW, List.take_succ, hz, List.filter_append]
      show _ = some (HO.lst (SL (_ ++ List.filter _ [z])))
      rw [List.filter_cons_of_neg (by rw [decide_eq_true (str_inj c)]; exact Bool.false_ne_true)]
      show _ = some (HO.lst (SL (_ ++ [])))
      rw [List.append_nil]
  rintro H2 ⟨hW, s2⟩
  rw [SL_length, List.take_length] at hW
  exact q W H2 (s1'.trans s2) (none_of_same s1' nW) hW
/-- what a row of words tells, as a tuple -/
def GmOut (K : PySem.W.Frag) (H H' : Hp) (t : Addr) : Wd.Out → Prop
  | .made k => ∃ g l y, H' t = some (.tup [.str (Str.ofString ""), .ref g]) ∧ H g = none ∧ H l = none ∧ Fresh k H H' l y ∧ GameAt K k H' g l y 0
  | .written => H' t = some (.tup [.str (Str.ofString "not read"), .non])
  | .game => H' t = some (.tup [.str (Str.ofString "no game"), .non])
def OL (os : List (Option Nat)) : List V := os.map optV
theorem OL_snoc (os : List (Option Nat)) (o : Option Nat) : OL (os ++ [o]) = OL os ++ [optV o] := by
  unfold OL
  rw [List.map_append]
  rfl
theorem OL_flat (os : List (Option Nat)) : (OL os).all flatV = true := by
  unfold OL
  rw [List.all_map]
  refine List.all_eq_true.mpr fun o _ => ?_
  cases o <;> rfl
theorem OL_in (os : List (Option Nat)) : inV .non (OL os) = decide (none ∈ os) := by
  induction os with
  | nil => rfl
  | cons o r ih =>
    show (eqV (optV o) .non || inV .non (OL r)) = _
    rw [ih]
    cases o with
    | none => simp [optV, eqV]
    | some n => simp [optV, eqV]
theorem OL_some (ns : List Nat) : OL (ns.map some) = NL ns := by
  unfold OL NL
  rw [List.map_map]
  rfl
theorem figs_none : ∀ {ws : List Str}, Wd.figsAll ws = none → none ∈ ws.map Wd.figs
  | w :: r, h => by
    have h : (match Wd.figs w with | none => none | some n => (Wd.figsAll r).map (n :: ·)) = none := h
    cases e : Wd.figs w with
    | none => rw [List.map_cons, e]; exact List.mem_cons_self
    | some n =>
      rw [e] at h
      have h : (Wd.figsAll r).map (n :: ·) = none := h
      exact List.mem_cons_of_mem _ (figs_none (Option.map_eq_none_iff.mp h))
theorem figs_some : ∀ {ws : List Str} {ns : List Nat}, Wd.figsAll ws = some ns → ws.map Wd.figs = ns.map some
  | [], ns, h => by
    obtain rfl : [] = ns := Option.some.inj h
    rfl
  | w :: r, ns, h => by
    have h : (match Wd.figs w with | none => none | some n => (Wd.figsAll r).map (n :: ·)) = some ns := h
    cases e : Wd.figs w with
    | none => rw [e] at h; cases h
    | some n =>
      rw [e] at h
      have h : (Wd.figsAll r).map (n :: ·) = some ns := h
      cases e2 : Wd.figsAll r with
      | none => rw [e2] at h; cases h
      | some ms =>
        rw [e2] at h
        obtain rfl : n :: ms = ns := Option.some.inj h
        rw [List.map_cons, e, figs_some e2]
        rfl
theorem none_not (ns : List Nat) : decide ((none : Option Nat) ∈ ns.map some) = false := decide_eq_false fun h => by
  obtain ⟨n, _, e⟩ := List.mem_map.mp h
  cases e
theorem bare_fresh (w : Str) {H H' : Hp} {l y : Addr} : Fresh (Wd.bareK w) H H' l y := fresh_plain (by
  unfold Wd.bareK
  split
  · simp
  split
  · simp
  split
  · simp
  split <;> simp)
def sp__law_game (K : PySem.W.Frag) : Sp := fun vs H Q _ => ∃ (W : Addr) (ws : List Str), vs = [.ref W] ∧ H W = some (.lst (SL ws)) ∧ (∀ z ∈ ws, z.length ≤ 1000000) ∧ ws.length ≤ 1000001 ∧ ∀ t H', Same H H' → H t = none → GmOut K H H' t (Wd.told ws) → Q (.ref t) H'
abbrev s__law_game : Stmt := top 36
theorem sc__law_game : FnScope ["_law_words_here", "_law_numbers", "_law_word"] ["_law_words_here"] (defScope s__law_game) := ⟨rfl, rfl, rfl, by decide +kernel, rfl, by decide +kernel, by decide +kernel⟩
theorem ok__law_game (T : Txt K mg) (d__law_bare : Dn P w K mg base CX0 4 (He.ga K "_law_bare") ["_law_word"] (sp__law_bare K)) (d__law_figures : Dn P w K mg base CX0 1 (He.ga K "_law_figures") ["_law_text"] (sp__law_figures K)) (c_Few___init__ : Dn P w K mg base CX0 5 (He.ma K (He.ga K "Few") "__init__") ["self", "most"] (fun vs H Q _ => (sp_finit K (He.ga K "Few")) vs H Q E0)) (d__law_limits_good : Dn P w K mg base CX0 1 (He.ga K "_law_limits_good") ["_law_limits"] (sp__law_limits_good K)) (c_Taking___init__ : Dn P w K mg base CX0 5 (He.ma K (He.ga K "Taking") "__init__") ["self", "limits"] (fun vs H Q _ => (sp_tinit K (He.ga K "Taking")) vs H Q E0)) (c_Skittles___init__ : Dn P w K mg base CX0 5 (He.ma K (He.ga K "Skittles") "__init__") ["self", "limits"] (fun vs H Q _ => (sp_tinit K (He.ga K "Skittles")) vs H Q E0)) : Dn P w K mg base CX0 7 (He.ga K "_law_game") ["_law_words_here"] (sp__law_game K) := by
  refine dn_of (k := 6) T.f__law_game sc__law_game (fun _ _ _ _ _ _ us hl => match us, hl with | [_], _ => rfl) (fun cdv A outer s H vs Q E hr h => ?_)
  obtain ⟨W, ws, rfl, hW, hwl, hwn, q⟩ := h
  refine ⟨_, PSs.nox (pss_cons (ps_if (PW.pt (pw_and (pt_cmpR op_eqn (pe_callB (r := rLenSeq K) cr_lenseq (by rfl) T.n_len PySem.boot_len (pa_cons (pv 0) pa_nil)) (pe_nat 1) (nomark _)) (pw_and1 (pt_cmpR op_in_seq (pe_ix ix_list (pv 0) (pe_nat 0) (fun _ _ => rfl)) (pe_tup (pa_cons pe_str (pa_cons pe_str (pa_cons pe_str (pa_cons pe_str (pa_cons pe_str pa_nil)))))) rfl)))) (pss_one (ps_ret (pe_tup (pa_cons pe_str (pa_cons (pe_cl d__law_bare (hr.mono (by omega)) T.g__law_bare pass0 (pa_cons (pe_ix ix_list (pv 0) (pe_nat 0) (fun _ _ => rfl)) pa_nil)) pa_nil))))) pss_nil)
      (pss_cons (ps_if (PW.pt (pw_or (pt_cmpR op_ltn (pe_callB (r := rLenSeq K) cr_lenseq (by rfl) T.n_len PySem.boot_len (pa_cons (pv 0) pa_nil)) (pe_nat 2) (nomark _)) (pw_or1 (pt_cmpR op_notIn_seq (pe_ix ix_list (pv 0) (pe_nat 0) (fun _ _ => rfl)) (pe_tup (pa_cons pe_str (pa_cons pe_str (pa_cons pe_str pa_nil)))) rfl)))) (pss_one (ps_ret (pe_tup (pa_cons pe_str (pa_cons pe_non pa_nil))))) pss_nil)
      (pss_cons (ps_setLc (i := 1) (own := [("_law_word", 2)]) (g := gName 2) (by rfl) sc__law_game.nd rfl rfl (sw_true rfl rfl rfl (by decide +kernel)) (pi_list (pe_slice sl_list (pv 0) (po_some pe_int) po_none)) (blkOk_by (own := [("_law_word", 2)]) (N := ["_law_words_here", "_law_numbers", "_law_word"]) (sc := defScope (s__law_game)) (by decide +kernel)) (fun _ _ _ _ _ => pg_name (i := 2) sc__law_game.nd rfl (by first | exact Or.inl rfl | exact Or.inr rfl)) (fun _ _ _ _ _ => pts_nil) (fun _ _ _ _ _ => (pe_cl d__law_figures (hr.mono (by omega)) T.g__law_figures pass0 (pa_cons (pv 2) pa_nil))))
      (pss_cons (ps_if (PW.pt (pw_or (pt_cmpR op_in_seq pe_non (pv 1) rfl) (pw_or1 (PW.pt (pw_and (pt_cmpR op_eq (pe_ix ix_list (pv 0) (pe_nat 0) (fun _ _ => rfl)) pe_str (nomark _)) (pw_and1 (pt_cmpR op_gtn (pe_callB (r := rLenSeq K) cr_lenseq (by rfl) T.n_len PySem.boot_len (pa_cons (pv 1) pa_nil)) (pe_nat 1) (nomark _)))))))) (pss_one (ps_ret (pe_tup (pa_cons pe_str (pa_cons pe_non pa_nil))))) pss_nil)
      (pss_cons (ps_if (pt_cmpR op_eq (pe_ix ix_list (pv 0) (pe_nat 0) (fun _ _ => rfl)) pe_str (nomark _)) (pss_one (ps_ret (pe_ifExp (pt_chain op_len op_len (pe_nat 1) (pe_ix ix_list (pv 1) (pe_nat 0) (fun _ _ => rfl)) (pe_nat 3)) (pe_tup (pa_cons pe_str (pa_cons (pe_mk T.mk_Few c_Few___init__ (hr.mono (by omega)) T.g_Few pass0 (pa_cons (pe_ix ix_list (pv 1) (pe_nat 0) (fun _ _ => rfl)) pa_nil)) pa_nil))) (pe_tup (pa_cons pe_str (pa_cons pe_non pa_nil)))))) pss_nil)
      (pss_cons (ps_if (pt_not (pt_val (pe_cl d__law_limits_good (hr.mono (by omega)) T.g__law_limits_good pass0 (pa_cons (pv 1) pa_nil)))) (pss_one (ps_ret (pe_tup (pa_cons pe_str (pa_cons pe_non pa_nil))))) pss_nil)
      (pss_one (ps_ret (pe_ifExp (pt_cmpR op_eq (pe_ix ix_list (pv 0) (pe_nat 0) (fun _ _ => rfl)) pe_str (nomark _)) (pe_tup (pa_cons pe_str (pa_cons (pe_mk T.mk_Taking c_Taking___init__ (hr.mono (by omega)) T.g_Taking pass0 (pa_cons (pv 1) pa_nil)) pa_nil))) (pe_tup (pa_cons pe_str (pa_cons (pe_mk T.mk_Skittles c_Skittles___init__ (hr.mono (by omega)) T.g_Skittles pass0 (pa_cons (pv 1) pa_nil)) pa_nil)))))))))))), ?_⟩
  have fin : ∀ (H1 : Hp) (y : String), Same H H1 → (∀ t H', H' t = some (.tup [.str (Str.ofString y), .non]) → GmOut K H H' t (Wd.told ws)) → 2 ≤ sizeLine ∧ ∀ t, H1 t = none → Q (.ref t) (upd H1 t (.tup [.str (Str.ofString y), .non])) := fun H1 y s g =>
    ⟨by show 2 ≤ sizeLine; decide, fun t nt => q t _ (s.trans (Same.upd nt)) (none_of_same s nt) (g t _ upd_same)⟩
  match ws, q, hW, hwl, hwn, fin with
  | [], q, hW, hwl, hwn, fin =>
    walk_at "rl"
    refine ifN (fun _ => ?_) (fun c => absurd (by show 0 < 2; decide) c)
    walk_at "rl"
    exact fin H "not read" (Same.refl _) fun t H' e => e
  | [w'], q, hW, hwl, hwn, fin =>
    walk_at "rl"
    refine ⟨W, _, _, _, rfl, rfl, SqL.of hW, atI_nat (j := 0) rfl, ?_⟩
    walk_at "rl"
    refine ⟨by show 5 ≤ sizeLine; decide, fun Tp nT => ?_⟩
    have s3 := Same.upd nT (o := .tup [V.str (Str.ofString "still"), V.str (Str.ofString "heap"), V.str (Str.ofString "parting"), V.str (Str.ofString "runs"), V.str (Str.ofString "pairs")])
    have eT : upd H Tp (.tup [V.str (Str.ofString "still"), V.str (Str.ofString "heap"), V.str (Str.ofString "parting"), V.str (Str.ofString "runs"), V.str (Str.ofString "pairs")]) Tp = some (.tup (SL Wd.bare)) := upd_same
    generalize upd H Tp (.tup [V.str (Str.ofString "still"), V.str (Str.ofString "heap"), V.str (Str.ofString "parting"), V.str (Str.ofString "runs"), V.str (Str.ofString "pairs")]) = H3 at *
    have hW3 := s3 _ _ hW
    refine ⟨Tp, SL Wd.bare, rfl, .inr (SqT.of eT), rfl, flat_SL _, ?_⟩
    walk_at "rl"
    rw [if_neg Bool.false_ne_true, inV_SL]
    walk_at "rl"
    refine ifN (fun c => ?_) (fun c => ?_)
    · walk_at "rl"
      refine ⟨W, _, _, _, rfl, rfl, SqL.of hW3, atI_nat (j := 0) rfl, ?_⟩
      walk_at "rl"
      refine ⟨c, fun g l H4 s4 ng nl ga => ?_⟩
      walk_at "rl"
      refine ⟨by show 2 ≤ sizeLine; decide, fun t nt => ?_⟩
      have st := Same.upd nt (o := .tup [V.str (Str.ofString ""), V.ref g])
      refine q t _ ((s3.trans s4).trans st) (none_of_same (s3.trans s4) nt) ?_
      have e : Wd.told [w'] = .made (Wd.bareK w') := if_pos c
      rw [e]
      exact ⟨g, l, l, upd_same, none_of_same s3 ng, none_of_same s3 nl, bare_fresh w', ga.same st⟩
    · walk_at "rl"
      refine ifN (fun _ => ?_) (fun c => absurd (by show 1 < 2; decide) c)
      walk_at "rl"
      refine fin H3 "not read" s3 fun t H' e => ?_
      have e2 : Wd.told [w'] = .written := if_neg c
      rw [e2]
      exact e
  | w' :: v :: r, q, hW, hwl, hwn, fin =>
    walk_at "rl"
    refine ⟨W, _, _, _, rfl, rfl, SqL.of hW, atI_nat (j := 0) rfl, ?_⟩
    walk_at "rl"
    refine ⟨by show 3 ≤ sizeLine; decide, fun Tp nT => ?_⟩
    have s3 := Same.upd nT (o := .tup [V.str (Str.ofString "taking"), V.str (Str.ofString "skittles"), V.str (Str.ofString "few")])
    have eT : upd H Tp (.tup [V.str (Str.ofString "taking"), V.str (Str.ofString "skittles"), V.str (Str.ofString "few")]) Tp = some (.tup (SL Wd.heads)) := upd_same
    generalize upd H Tp (.tup [V.str (Str.ofString "taking"), V.str (Str.ofString "skittles"), V.str (Str.ofString "few")]) = H3 at *
    have hW3 := s3 _ _ hW
    refine ⟨Tp, SL Wd.heads, rfl, .inr (SqT.of eT), rfl, flat_SL _, ?_⟩
    walk_at "rl"
    rw [if_pos rfl, inV_SL]
    refine ifNn (fun c => ?_) (fun c => ?_)
    · walk_at "rl"
      refine fin H3 "not read" s3 fun t H' e => ?_
      have e2 : Wd.told (w' :: v :: r) = .written := if_neg c
      rw [e2]
      exact e
    have et : Wd.told (w' :: v :: r) = (match Wd.figsAll (v :: r) with | none => Wd.Out.written | some ns => Wd.ofHead w' ns) := if_pos c
    rw [et] at q fin
    walk_at "rl"
    refine ⟨W, _, rfl, SqL.of hW3, fun S nSl => ?_⟩
    have ecut : cutV (SL (w' :: v :: r)) (some ((1 : Nat) : Int)) none = SL (v :: r) := cut_drop _ 1
    rw [show (1 : Int) = ((1 : Nat) : Int) from rfl, ecut]
    have s4 := Same.upd nSl (o := .lst (SL (v :: r)))
    have eS : upd H3 S (.lst (SL (v :: r))) S = _ := upd_same
    have hW4 := s4 _ _ hW3
    have s04 := s3.trans s4
    generalize upd H3 S (.lst (SL (v :: r))) = H4 at *
    have hun : v :: r ≠ [] := by simp
    generalize eu : v :: r = us at *
    have hul : us.length ≤ 1000001 := by rw [List.length_cons] at hwn; omega
    walk_at "rl"
    refine ⟨⟨_, SqL.of eS⟩, fun Nn nNn => ?_⟩
    refine lc_list (K := K) (a := S) (xs := SL us) (fun i H' => H' Nn = some (.lst (OL ((us.take i).map Wd.figs))) ∧ Same H4 H') ⟨upd_same, Same.upd nNn⟩ (fun i H' _ h => SqL.of (h.2 _ _ eS)) ?_ ?_
    · rintro i v' H' hi ⟨hN, sm⟩
      obtain ⟨z, hz, rfl⟩ := SL_item hi
      have hil : i < us.length := (List.getElem?_eq_some_iff.mp hz).1
      walk_at "rl"
      refine ⟨hwl z (List.mem_cons_of_mem _ (List.mem_of_getElem? hz)), ?_⟩
      refine ⟨_, hN, mil_line (by unfold OL; rw [List.length_map, List.length_map, List.length_take]; omega), ?_, Same.put sm nNn⟩
      rw [upd_same, List.take_succ, hz, List.map_append]
      show some (HO.lst (OL _ ++ [optV (Wd.figs z)])) = some (HO.lst (OL (_ ++ [Wd.figs z])))
      rw [OL_snoc]
    rintro H5 ⟨hN, s45⟩
    rw [SL_length, List.take_length] at hN
    have hW5 := s45 _ _ hW4
    have s05 := s04.trans s45
    walk_at "rl"
    refine ⟨OL_flat _, ?_⟩
    rw [if_neg Bool.false_ne_true, OL_in]
    cases hf : Wd.figsAll us with
    | none =>
      rw [hf] at fin
      rw [decide_eq_true (figs_none hf)]
      walk_at "rl"
      exact fin H5 "not read" s05 fun t H' e => e
    | some ms =>
      rw [hf] at fin q
      have q : ∀ t H', Same H H' → H t = none → GmOut K H H' t (Wd.ofHead w' ms) → Q (.ref t) H' := q
      have fin : ∀ (H1 : Hp) (y : String), Same H H1 → (∀ t H', H' t = some (.tup [.str (Str.ofString y), .non]) → GmOut K H H' t (Wd.ofHead w' ms)) → 2 ≤ sizeLine ∧ ∀ t, H1 t = none → Q (.ref t) (upd H1 t (.tup [.str (Str.ofString y), .non])) := fin
      rw [figs_some hf, OL_some] at hN
      rw [figs_some hf, none_not]
      have hml := (Wd.figsAll_len hf).1
      have hm0 : ms ≠ [] := fun z => by
        rw [z] at hml
        exact hun (List.length_eq_zero_iff.mp hml.symm)
      have lim := limB_rising hm0
      walk_at "rl"
      refine ⟨W, _, _, _, rfl, rfl, SqL.of hW5, atI_nat (j := 0) rfl, ?_⟩
      unfold Wd.ofHead at q fin
      have hw3 : w' = Str.ofString "taking" ∨ w' = Str.ofString "skittles" ∨ w' = Str.ofString "few" := by
        unfold Wd.heads at c
        simpa using c
      rcases hw3 with rfl | rfl | rfl
      · rw [if_pos rfl] at q fin
        walk_at "rl"
        refine ⟨W, _, _, _, rfl, rfl, SqL.of hW5, atI_nat (j := 0) rfl, ?_⟩
        walk_at "rl"
        refine ⟨Nn, ms, rfl, hN, ?_⟩
        rw [lim]
        walk_at "rl"
        by_cases hR : Gm.Rising ms
        · rw [if_pos hR] at q
          rw [decide_eq_true hR]
          walk_at "rl"
          refine ⟨W, _, _, _, rfl, rfl, SqL.of hW5, atI_nat (j := 0) rfl, ?_⟩
          walk_at "rl"
          refine fun y dx nx nd ne => few_limC nx nd ne (.inl hN) hR fun l D H' sm hg hl hD neD nl nD _ _ => ⟨rfl, ?_⟩
          walk_at "rl"
          refine ⟨by show 2 ≤ sizeLine; decide, fun t nt => ?_⟩
          have st := Same.upd nt (o := .tup [V.str (Str.ofString ""), V.ref y])
          refine q t _ ((s05.trans sm).trans st) (none_of_same (s05.trans sm) nt) ?_
          exact ⟨y, l, D, upd_same, none_of_same s05 nx, none_of_same s05 nl, (fresh_lim (k := .taking ms) rfl (st _ _ hD) neD (none_of_same s05 nD)), (mk_lim (k := .taking ms) rfl hg hl hD neD).same st⟩
        · rw [if_neg hR] at fin
          rw [decide_eq_false hR]
          walk_at "rl"
          exact fin H5 "no game" s05 fun t H' e => e
      · rw [if_neg (by decide +kernel), if_pos rfl] at q fin
        walk_at "rl"
        refine ⟨W, _, _, _, rfl, rfl, SqL.of hW5, atI_nat (j := 0) rfl, ?_⟩
        walk_at "rl"
        refine ⟨Nn, ms, rfl, hN, ?_⟩
        rw [lim]
        walk_at "rl"
        by_cases hR : Gm.Rising ms
        · rw [if_pos hR] at q
          rw [decide_eq_true hR]
          walk_at "rl"
          refine ⟨W, _, _, _, rfl, rfl, SqL.of hW5, atI_nat (j := 0) rfl, ?_⟩
          walk_at "rl"
          refine fun y dx nx nd ne => few_limC nx nd ne (.inl hN) hR fun l D H' sm hg hl hD neD nl nD _ _ => ⟨rfl, ?_⟩
          walk_at "rl"
          refine ⟨by show 2 ≤ sizeLine; decide, fun t nt => ?_⟩
          have st := Same.upd nt (o := .tup [V.str (Str.ofString ""), V.ref y])
          refine q t _ ((s05.trans sm).trans st) (none_of_same (s05.trans sm) nt) ?_
          exact ⟨y, l, D, upd_same, none_of_same s05 nx, none_of_same s05 nl, (fresh_lim (k := .skittles ms) rfl (st _ _ hD) neD (none_of_same s05 nD)), (mk_lim (k := .skittles ms) rfl hg hl hD neD).same st⟩
        · rw [if_neg hR] at fin
          rw [decide_eq_false hR]
          walk_at "rl"
          exact fin H5 "no game" s05 fun t H' e => e
      · rw [if_neg (by decide +kernel), if_neg (by decide +kernel)] at q fin
        walk_at "rl"
        rw [NL_length]
        refine ifN (fun c2 => ?_) (fun c2 => ?_)
        · walk_at "rl"
          refine fin H5 "not read" s05 fun t H' e => ?_
          match ms, c2 with
          | _ :: _ :: _, _ => exact e
        obtain ⟨m, rfl⟩ : ∃ m, ms = [m] := by
          match ms, hm0, c2 with
          | [m], _, _ => exact ⟨m, rfl⟩
          | _ :: _ :: _, _, c2 => exact absurd (by simp) c2
        have q : ∀ t H', Same H H' → H t = none → GmOut K H H' t (if 1 ≤ m ∧ m ≤ 3 then Wd.Out.made (.few m) else .game) → Q (.ref t) H' := q
        have fin : ∀ (H1 : Hp) (y : String), Same H H1 → (∀ t H', H' t = some (.tup [.str (Str.ofString y), .non]) → GmOut K H H' t (if 1 ≤ m ∧ m ≤ 3 then Wd.Out.made (.few m) else .game)) → 2 ≤ sizeLine ∧ ∀ t, H1 t = none → Q (.ref t) (upd H1 t (.tup [.str (Str.ofString y), .non])) := fin
        walk_at "rl"
        refine ⟨W, _, _, _, rfl, rfl, SqL.of hW5, atI_nat (j := 0) rfl, ?_⟩
        walk_at "rl"
        refine ⟨Nn, _, _, _, rfl, rfl, SqL.of hN, atI_nat (j := 0) rfl, ?_⟩
        walk_at "rl"
        refine ifN (fun c3 => ?_) (fun c3 => ?_)
        rotate_left
        · rw [if_neg (fun z => c3 z.1)] at fin
          walk_at "rl"
          exact fin H5 "no game" s05 fun t H' e => e
        walk_at "rl"
        refine ifN (fun c4 => ?_) (fun c4 => ?_)
        rotate_left
        · rw [if_neg (fun z => c4 z.2)] at fin
          walk_at "rl"
          exact fin H5 "no game" s05 fun t H' e => e
        rw [if_pos ⟨c3, c4⟩] at q
        walk_at "rl"
        refine ⟨Nn, _, _, _, rfl, rfl, SqL.of hN, atI_nat (j := 0) rfl, ?_⟩
        walk_at "rl"
        refine fun y dx nx nd ne => few_fewC rfl nx nd ne c3 c4 fun l H' sm ga nl _ => ⟨rfl, ?_⟩
        walk_at "rl"
        refine ⟨by show 2 ≤ sizeLine; decide, fun t nt => ?_⟩
        have st := Same.upd nt (o := .tup [V.str (Str.ofString ""), V.ref y])
        refine q t _ ((s05.trans sm).trans st) (none_of_same (s05.trans sm) nt) ?_
        exact ⟨y, l, l, upd_same, none_of_same s05 nx, none_of_same s05 nl, fresh_plain (by simp), ga.same st⟩
theorem words_each (x : Str) : ∀ w ∈ Wd.words x, w.length ≤ x.length := fun w hw => split_each x w (List.mem_filter.mp hw).1
theorem words_cnt (x : Str) : (Wd.words x).length ≤ x.length + 1 := Nat.le_trans (List.length_filter_le _ _) (split_len x)
/-- a line is answered by its own signs -/
def sp__law_answer (K : PySem.W.Frag) : Sp := fun vs H Q _ => ∃ (z : Str), vs = [.str z] ∧ z.length ≤ 900000 ∧ ∀ H', Same H H' → Q (.str (Ds.ansS (Ds.ans z))) H'
abbrev s__law_answer : Stmt := top 40
theorem sc__law_answer : FnScope ["_law_line_here", "_law_at", "_law_told", "_law_places", "_law_word"] ["_law_line_here"] (defScope s__law_answer) := ⟨rfl, rfl, rfl, by decide +kernel, rfl, by decide +kernel, by decide +kernel⟩
theorem ok__law_answer (T : Txt K mg) (d__law_game : Dn P w K mg base CX0 7 (He.ga K "_law_game") ["_law_words_here"] (sp__law_game K)) (d__law_words : Dn P w K mg base CX0 1 (He.ga K "_law_words") ["_law_text"] (sp__law_words K)) (d__law_figures : Dn P w K mg base CX0 1 (He.ga K "_law_figures") ["_law_text"] (sp__law_figures K)) (d__law_turn : Dn P w K mg base CX0 22 (He.ga K "_law_turn") ["_law_game_here", "_law_places"] (sp__law_turn K)) : Dn P w K mg base CX0 23 (He.ga K "_law_answer") ["_law_line_here"] (sp__law_answer K) := by
  refine dn_of (k := 22) T.f__law_answer sc__law_answer (fun _ _ _ _ _ _ us hl => match us, hl with | [_], _ => rfl) (fun cdv A outer s H vs Q E hr h => ?_)
  obtain ⟨z, rfl, hz, q⟩ := h
  have hzl := TL.len_tl z
  refine ⟨_, PSs.nox (pss_cons (ps_if (pt_cmpR op_notIn_str pe_str (pv 0) rfl) (pss_one (ps_ret pe_str)) pss_nil)
      (pss_cons (ps_set (i := 1) sc__law_answer.nd rfl (by first | exact Or.inl rfl | exact Or.inr rfl) (pe_bm PySem.F.plainAttrs_str PySem.F.slot_str_index PySem.F.type_str_index mt_sindex (pv 0) (pa_cons pe_str pa_nil)))
      (pss_cons (ps_set (i := 2) sc__law_answer.nd rfl (by first | exact Or.inl rfl | exact Or.inr rfl) (pe_cl d__law_game (hr.mono (by omega)) T.g__law_game pass0 (pa_cons (pe_cl d__law_words (hr.mono (by omega)) T.g__law_words pass0 (pa_cons (pe_slice sl_str (pv 0) po_none (po_some (pv 1))) pa_nil)) pa_nil)))
      (pss_cons (ps_if (pt_cmpR op_ne (pe_ix ix_tup (pv 2) (pe_nat 0) (fun _ _ => rfl)) pe_str (nomark _)) (pss_one (ps_ret (pe_ix ix_tup (pv 2) (pe_nat 0) (fun _ _ => rfl)))) pss_nil)
      (pss_cons (ps_setLc (i := 3) (own := [("_law_word", 4)]) (g := gName 4) (by rfl) sc__law_answer.nd rfl rfl (sw_true rfl rfl rfl (by decide +kernel)) (pi_list (pe_cl d__law_words (hr.mono (by omega)) T.g__law_words pass0 (pa_cons (pe_slice sl_str (pv 0) (po_some (pe_op op_add (pv 1) pe_int)) po_none) pa_nil))) (blkOk_by (own := [("_law_word", 4)]) (N := ["_law_line_here", "_law_at", "_law_told", "_law_places", "_law_word"]) (sc := defScope (s__law_answer)) (by decide +kernel)) (fun _ _ _ _ _ => pg_name (i := 4) sc__law_answer.nd rfl (by first | exact Or.inl rfl | exact Or.inr rfl)) (fun _ _ _ _ _ => pts_nil) (fun _ _ _ _ _ => (pe_cl d__law_figures (hr.mono (by omega)) T.g__law_figures pass0 (pa_cons (pv 4) pa_nil))))
      (pss_cons (ps_if (pt_cmpR op_in_seq pe_non (pv 3) rfl) (pss_one (ps_ret pe_str)) pss_nil)
      (pss_cons (ps_if (PW.pt (pw_and (pt_cmpR (op_neLN hr.units) (pv 3) (pe_lst pa_nil) (nomark _)) (pw_and1 (pt_cmpR op_gtn (pe_callB (r := rMaxN K) (call_maxN rfl) (by rfl) T.n_max (by decide +kernel) (pa_cons (pv 3) pa_nil)) (pe_nat 100) (nomark _))))) (pss_one (ps_ret pe_str)) pss_nil)
      (pss_one (ps_ret (pe_cl d__law_turn (hr.mono (by omega)) T.g__law_turn pass0 (pa_cons (pe_ix ix_tup (pv 2) (pe_nat 1) (fun _ _ => rfl)) (pa_cons (pv 3) pa_nil)))))))))))), ?_⟩
  walk_at "rl"
  rw [Ln.colon_in]
  by_cases hc : 58 ∈ TL.tl z
  rotate_left
  · rw [decide_eq_false hc]
    walk_at "rl"
    rw [Ds.ans_none hc] at q
    exact q H (Same.refl _)
  obtain ⟨hd, rest, e, hh⟩ := Ln.split58 _ hc
  obtain ⟨rs, ho⟩ := Ln.colon_at e hh
  rw [Ds.ans_colon e hh] at q
  rw [decide_eq_true hc]
  walk_at "rl"
  refine ⟨z, _, _, rs, rfl, rfl, ho, ?_⟩
  walk_at "rl"
  have eA : cutS z none (some ((hd.length : Nat) : Int)) = ⟨hd.toArray⟩ := TL.ext_tl (by rw [tl_cut_to, e, TL.tl_mk, List.take_left])
  have eB : cutS z (some (((hd.length : Nat) : Int) + 1)) none = ⟨rest.toArray⟩ := TL.ext_tl (by
    rw [show ((hd.length : Nat) : Int) + 1 = ((hd.length + 1 : Nat) : Int) by omega, tl_cut_from, e, TL.tl_mk, show hd ++ 58 :: rest = (hd ++ [58]) ++ rest by simp]
    exact List.drop_left' (by simp))
  rw [e, List.length_append, List.length_cons] at hzl
  have hla : (⟨hd.toArray⟩ : Str).length ≤ 900000 := by rw [TL.len_tl, TL.tl_mk]; omega
  have hlb : (⟨rest.toArray⟩ : Str).length ≤ 900000 := by rw [TL.len_tl, TL.tl_mk]; omega
  unfold Ds.colAns at q
  rw [eA]
  generalize (⟨hd.toArray⟩ : Str) = A at *
  generalize (⟨rest.toArray⟩ : Str) = B at *
  refine ⟨long_line (by omega), ?_⟩
  walk_at "rl"
  refine ⟨by omega, fun W H1 s1 nW hW => ?_⟩
  have wl := words_each A
  have wc := words_cnt A
  walk_at "rl"
  refine ⟨W, _, rfl, hW, fun w hw => by have := wl w hw; omega, by omega, fun t H2 s2 nt out => ?_⟩
  have s02 := s1.trans s2
  have out : GmOut K H1 H2 t (Wd.ofText A) := out
  cases ek : Wd.ofText A with
  | written =>
    rw [ek] at out q
    have et : H2 t = some (.tup [.str (Str.ofString "not read"), .non]) := out
    walk_at "rl"
    refine ⟨t, _, _, _, rfl, rfl, SqT.of et, atI_nat (j := 0) rfl, ?_⟩
    walk_at "rl"
    refine ⟨t, _, _, _, rfl, rfl, SqT.of et, atI_nat (j := 0) rfl, ?_⟩
    exact q H2 s02
  | game =>
    rw [ek] at out q
    have et : H2 t = some (.tup [.str (Str.ofString "no game"), .non]) := out
    walk_at "rl"
    refine ⟨t, _, _, _, rfl, rfl, SqT.of et, atI_nat (j := 0) rfl, ?_⟩
    walk_at "rl"
    refine ⟨t, _, _, _, rfl, rfl, SqT.of et, atI_nat (j := 0) rfl, ?_⟩
    exact q H2 s02
  | made k =>
    rw [ek] at out q
    obtain ⟨g, l, y, et, ng, nl, fr, ga⟩ := out
    have q : ∀ H', Same H H' → Q (.str (Ds.ansS (Ds.places k B))) H' := q
    unfold Ds.places at q
    walk_at "rl"
    refine ⟨t, _, _, _, rfl, rfl, SqT.of et, atI_nat (j := 0) rfl, ?_⟩
    walk_at "rl"
    rw [eB]
    refine ⟨long_line (by omega), ?_⟩
    walk_at "rl"
    refine ⟨by omega, fun W2 H3 s3 nW2 hW2 => ?_⟩
    have wl2 := words_each B
    have wc2 := words_cnt B
    generalize Wd.words B = us at *
    have et3 := s3 _ _ et
    walk_at "rl"
    refine ⟨⟨_, SqL.of hW2⟩, fun Nn nNn => ?_⟩
    refine lc_list (K := K) (a := W2) (xs := SL us) (fun i H' => H' Nn = some (.lst (OL ((us.take i).map Wd.figs))) ∧ Same H3 H') ⟨upd_same, Same.upd nNn⟩ (fun i H' _ h => SqL.of (h.2 _ _ hW2)) ?_ ?_
    · rintro i v' H' hi ⟨hN, sm⟩
      obtain ⟨w, hw, rfl⟩ := SL_item hi
      have hil : i < us.length := (List.getElem?_eq_some_iff.mp hw).1
      have hwl := wl2 w (List.mem_of_getElem? hw)
      walk_at "rl"
      refine ⟨by omega, ?_⟩
      refine ⟨_, hN, mil_line (by unfold OL; rw [List.length_map, List.length_map, List.length_take]; omega), ?_, Same.put sm nNn⟩
      rw [upd_same, List.take_succ, hw, List.map_append]
      show some (HO.lst (OL _ ++ [optV (Wd.figs w)])) = some (HO.lst (OL (_ ++ [Wd.figs w])))
      rw [OL_snoc]
    rintro H4 ⟨hN, s34⟩
    rw [SL_length, List.take_length] at hN
    have et4 := s34 _ _ et3
    have s04 := s02.trans (s3.trans s34)
    walk_at "rl"
    refine ⟨OL_flat _, ?_⟩
    rw [if_neg Bool.false_ne_true, OL_in]
    cases hf : Wd.figsAll us with
    | none =>
      rw [hf] at q
      rw [decide_eq_true (figs_none hf)]
      walk_at "rl"
      exact q H4 s04
    | some ms =>
      rw [hf] at q
      have q : ∀ H', Same H H' → Q (.str (Ds.ansS (if ∀ p ∈ ms, p ≤ 100 then .turn k ms else .place))) H' := q
      rw [figs_some hf, OL_some] at hN
      rw [figs_some hf, none_not]
      have hml := (Wd.figsAll_len hf).1
      walk_at "rl"
      refine ⟨by show 0 ≤ sizeLine; decide, fun D nD => ?_⟩
      have sD := Same.upd nD (o := .lst [])
      have hD := upd_same (H := H4) (a := D) (o := .lst [])
      generalize upd H4 D (.lst []) = H5 at *
      have hN5 := sD _ _ hN
      have et5 := sD _ _ et4
      refine ⟨Nn, D, ms, [], rfl, rfl, SqL.of hN5, SqL.of hD, ?_⟩
      have ga5 := ga.same (s3.trans (s34.trans sD))
      have Nl : Nn ≠ l := fun z => by
        have := (ga.same s3).kn
        rw [← z, nNn] at this
        cases this
      have nl0 : H l = none := none_of_same s1 nl
      have s05 := s04.trans sD
      have go : (∀ p ∈ ms, p ≤ 100) → ∀ H', But l H5 H' → Q (.str (Ds.told k ms)) H' := fun good H' b => by
        have q1 := q H' (same_but s05 nl0 b)
        rw [if_pos good] at q1
        exact q1
      have fin : (∀ p ∈ ms, p ≤ 100) → okK k ∧ Wdk k ∧ GameAt K k H5 g l y 0 ∧ 0 ≤ 101 ∧ H5 Nn = some (.lst (NL ms)) ∧ Nn ≠ l ∧ ms.length ≤ 1000000 ∧ (∀ p ∈ ms, p ≤ 100) ∧ ∀ H', But l H5 H' → Q (.str (Ds.told k ms)) H' :=
        fun good => ⟨told_ok ek, told_wdk ek, ga5, by decide, hN5, Nl, by omega, good, go good⟩
      by_cases c : ms = []
      · rw [decide_eq_true c]
        walk_at "rl"
        refine ⟨t, _, _, _, rfl, rfl, SqT.of et5, atI_nat (j := 1) rfl, ?_⟩
        walk_at "rl"
        exact ⟨k, g, l, y, Nn, 0, ms, rfl, fin (by rw [c]; simp)⟩
      rw [decide_eq_false c]
      walk_at "rl"
      refine ⟨Nn, ms, rfl, SqL.of hN5, List.length_pos_iff.mpr c, fun m hm hle => ?_⟩
      walk_at "rl"
      refine ifN (fun c2 => ?_) (fun c2 => ?_)
      · have q1 := q H5 s05
        rw [if_neg (fun z => by have := z m hm; omega)] at q1
        walk_at "rl"
        exact q1
      · walk_at "rl"
        refine ⟨t, _, _, _, rfl, rfl, SqT.of et5, atI_nat (j := 1) rfl, ?_⟩
        walk_at "rl"
        exact ⟨k, g, l, y, Nn, 0, ms, rfl, fin fun q hq => by have := hle q hq; omega⟩
/-- a line's words, read alone -/
def sp__law_named (K : PySem.W.Frag) : Sp := fun vs H Q _ => ∃ (x : Str), vs = [.str x] ∧ x.length ≤ 900000 ∧ ∀ H', Same H H' → Q (.bl true) H'
abbrev s__law_named : Stmt := top 41
theorem sc__law_named : FnScope ["_law_text", "_law_told", "_law_game_here", "e"] ["_law_text"] (defScope s__law_named) := ⟨rfl, rfl, rfl, by decide +kernel, rfl, by decide +kernel, by decide +kernel⟩
theorem ok__law_named (T : Txt K mg) (DM : Disp P w K mg base CX0 11 "name" (kC K) okK ["self"] (sp_name K)) (d__law_game : Dn P w K mg base CX0 7 (He.ga K "_law_game") ["_law_words_here"] (sp__law_game K)) (d__law_words : Dn P w K mg base CX0 1 (He.ga K "_law_words") ["_law_text"] (sp__law_words K)) (d_game_told : Dn P w K mg base (L2.CX P w) 7 (He.ga K "game_told") ["text"] (sp_game_told K)) : Dn P w K mg base CX0 12 (He.ga K "_law_named") ["_law_text"] (sp__law_named K) := by
  refine dn_of (k := 11) T.f__law_named sc__law_named (fun _ _ _ _ _ _ us hl => match us, hl with | [_], _ => rfl) (fun cdv A outer s H vs Q E hr h => ?_)
  obtain ⟨x, rfl, hx, q⟩ := h
  have wl := words_each x
  have wc := words_cnt x
  refine ⟨_, PSs.nox (pss_cons (ps_set (i := 1) sc__law_named.nd rfl (by first | exact Or.inl rfl | exact Or.inr rfl) (pe_cl d__law_game (hr.mono (by omega)) T.g__law_game pass0 (pa_cons (pe_cl d__law_words (hr.mono (by omega)) T.g__law_words pass0 (pa_cons (pv 0) pa_nil)) pa_nil)))
      (pss_cons (ps_try_as (i := 3) rfl rfl sc__law_named.nd rfl rfl ⟨rfl, by decide, .inl T.g_HouseError⟩ takes0 (fun W pn xe tk po => (pss_one (ps_set (i := 2) sc__law_named.nd rfl (by first | exact Or.inl rfl | exact Or.inr rfl) (pe_clS d_game_told (hr.mono (by omega)) T.g_game_told (E := WE W) (fun σ => passAt tk σ) (pa_cons (pv 0) pa_nil))))) (fun a oe cls d pn hz hf => (pss_cons (ps_if (pt_cmpR op_eq (pe_ix (show IxR _ (rIxT K) from ix_tup) (pv 1) (pe_nat 0) (fun _ _ => rfl)) pe_str (nomark _)) (pss_one (ps_ret (pe_and (pe_callB (r := rIsE1 K cls d a) (call_isE1 hz hf) (by rfl) T.n_isinstance (by decide +kernel) (pa_cons (pv 3) (pa_cons (pe_glob (v := .ref (He.ga K "NotAGame")) rfl T.g_NotAGame rfl) pa_nil))) (pe_one (pe_not (pe_callB (r := rIsE1 K cls d a) (call_isE1 hz hf) (by rfl) T.n_isinstance (by decide +kernel) (pa_cons (pv 3) (pa_cons (pe_glob (v := .ref (He.ga K "NotWritten")) rfl T.g_NotWritten rfl) pa_nil)))))))) pss_nil)
      (pss_one (ps_ret (pe_and (pe_cmpR op_eq (pe_ix (show IxR _ (rIxT K) from ix_tup) (pv 1) (pe_nat 0) (fun _ _ => rfl)) pe_str (nomark _)) (pe_and (pe_callB (r := rIsE1 K cls d a) (call_isE1 hz hf) (by rfl) T.n_isinstance (by decide +kernel) (pa_cons (pv 3) (pa_cons (pe_glob (v := .ref (He.ga K "NotWritten")) rfl T.g_NotWritten rfl) pa_nil))) (pe_one (pe_not (pe_callB (r := rIsE1 K cls d a) (call_isE1 hz hf) (by rfl) T.n_isinstance (by decide +kernel) (pa_cons (pv 3) (pa_cons (pe_glob (v := .ref (He.ga K "NotAGame")) rfl T.g_NotAGame rfl) pa_nil))))))))))))
      (pss_one (ps_ret (pe_and (pe_cmpR op_eq (pe_ix ix_tup (pv 1) (pe_nat 0) (fun _ _ => rfl)) pe_str (nomark _)) (pe_one (pe_cmpR op_eq (pe_mf0 (DM) (hr.mono (by omega)) pass0 (pv 2)) (pe_join pe_str (pe_cl d__law_words (hr.mono (by omega)) T.g__law_words pass0 (pa_cons (pv 0) pa_nil))) (nomark _)))))))), ?_⟩
  walk_at "rl"
  refine ⟨by omega, fun W H1 s1 nW hW => ?_⟩
  walk_at "rl"
  refine ⟨W, _, rfl, hW, fun w hw => by have := wl w hw; omega, by omega, fun t H2 s2 nt out => ?_⟩
  have s02 := s1.trans s2
  have out : GmOut K H1 H2 t (Wd.ofText x) := out
  walk_at "rl"
  refine ⟨by omega, fun k ek g l y H3 s3 ng nl fr ga => ?_, fun ek H3 s3 => ?_, fun ek H3 s3 => ?_⟩
  · rw [ek] at out
    obtain ⟨g', l', y', et, _, _, _, _⟩ := out
    have hk := told_ok ek
    have et3 := s3 _ _ et
    obtain ⟨dx, hg⟩ := ga.ob
    walk_at "rl"
    refine ⟨t, _, _, _, rfl, rfl, SqT.of et3, atI_nat (j := 0) rfl, ?_⟩
    walk_at "rl"
    refine ⟨k, g, _, _, hk, rfl, hg, kfs_name _ _ _, ?_⟩
    walk_at "rl"
    refine ⟨g, l, y, 0, rfl, ga, fun H4 s4 => ?_⟩
    walk_at "rl"
    refine ⟨by omega, fun W2 H5 s5 nW2 hW2 => ?_⟩
    walk_at "rl"
    have ew : Wd.words x = Wd.kw k := Ln.told_is ek
    rw [ew] at hW2
    obtain ⟨k1, k2⟩ := kw_len hk rfl
    refine ⟨_, W2, Wd.kw k, rfl, rfl, .inl (SqL.of hW2), sum_small k1 k2, ?_⟩
    rw [name_kw hk]
    walk_at "rl"
    show Q (V.bl (decide (V.str (nameOf k) = V.str (nameOf k)))) H5
    rw [decide_eq_true rfl]
    exact q _ ((s02.trans s3).trans (s4.trans s5))
  · rw [ek] at out
    have et : H2 t = some (.tup [.str (Str.ofString "not read"), .non]) := out
    have et3 := s3 _ _ et
    refine ⟨true, T.e_NotWritten_HouseError, fun _ b nb => ?_, fun z => nomatch z⟩
    walk_at "rl"
    refine ⟨t, _, _, _, rfl, rfl, SqT.of et3, atI_nat (j := 0) rfl, ?_⟩
    walk_at "rl"
    refine ⟨t, _, _, _, rfl, rfl, SqT.of et3, atI_nat (j := 0) rfl, ?_⟩
    walk_at "rl"
    refine ⟨_, _, _, true, rfl, .own _, rfl, rfl, T.xc_NotWritten, T.k_NotWritten_NotWritten, ?_⟩
    walk_at "rl"
    refine ⟨_, _, _, false, rfl, .own _, rfl, rfl, T.xc_NotWritten, T.k_NotWritten_NotAGame, ?_⟩
    walk_at "rl"
    exact q _ (s02.trans s3)
  · rw [ek] at out
    have et : H2 t = some (.tup [.str (Str.ofString "no game"), .non]) := out
    have et3 := s3 _ _ et
    refine ⟨true, T.e_NotAGame_HouseError, fun _ b nb => ?_, fun z => nomatch z⟩
    walk_at "rl"
    refine ⟨t, _, _, _, rfl, rfl, SqT.of et3, atI_nat (j := 0) rfl, ?_⟩
    walk_at "rl"
    refine ⟨_, _, _, true, rfl, .own _, rfl, rfl, T.xc_NotAGame, T.k_NotAGame_NotAGame, ?_⟩
    walk_at "rl"
    refine ⟨_, _, _, false, rfl, .own _, rfl, rfl, T.xc_NotAGame, T.k_NotAGame_NotWritten, ?_⟩
    walk_at "rl"
    exact q _ (s02.trans s3)
def sp__law_not_written (K : PySem.W.Frag) : Sp := fun vs H Q _ => ∃ (x : Str), vs = [.str x] ∧ x.length ≤ 1000000 ∧ 10 ∈ TL.tl x ∧ ∀ H', Same H H' → Q (.bl true) H'
abbrev s__law_not_written : Stmt := top 42
theorem sc__law_not_written : FnScope ["_law_text", "e"] ["_law_text"] (defScope s__law_not_written) := ⟨rfl, rfl, rfl, by decide +kernel, rfl, by decide +kernel, by decide +kernel⟩
theorem ok__law_not_written (T : Txt K mg) (d_game_told : Dn P w K mg base (L2.CX P w) 7 (He.ga K "game_told") ["text"] (sp_game_told K)) : Dn P w K mg base CX0 8 (He.ga K "_law_not_written") ["_law_text"] (sp__law_not_written K) := by
  refine dn_of (k := 7) T.f__law_not_written sc__law_not_written (fun _ _ _ _ _ _ us hl => match us, hl with | [_], _ => rfl) (fun cdv A outer s H vs Q E hr h => ?_)
  obtain ⟨x, rfl, hx, h10, q⟩ := h
  have ew := Ln.text_10 (x := x) h10
  refine ⟨_, PSs.nox (pss_cons (ps_try_as (i := 1) rfl rfl sc__law_not_written.nd rfl rfl ⟨rfl, by decide, .inl T.g_HouseError⟩ takes0 (fun W pn xe tk po => (pss_one (ps_expr (pe_clS d_game_told (hr.mono (by omega)) T.g_game_told (E := WE W) (fun σ => passAt tk σ) (pa_cons (pv 0) pa_nil))))) (fun a oe cls d pn hz hf => (pss_one (ps_ret (pe_and (pe_callB (r := rIsE1 K cls d a) (call_isE1 hz hf) (by rfl) T.n_isinstance (by decide +kernel) (pa_cons (pv 1) (pa_cons (pe_glob (v := .ref (He.ga K "NotWritten")) rfl T.g_NotWritten rfl) pa_nil))) (pe_one (pe_not (pe_callB (r := rIsE1 K cls d a) (call_isE1 hz hf) (by rfl) T.n_isinstance (by decide +kernel) (pa_cons (pv 1) (pa_cons (pe_glob (v := .ref (He.ga K "NotAGame")) rfl T.g_NotAGame rfl) pa_nil))))))))))
      (pss_one (ps_ret pe_bl))), ?_⟩
  walk_at "rl"
  refine ⟨hx, fun k ek g l y H3 s3 ng nl fr ga => ?_, fun ek H3 s3 => ?_, fun ek H3 s3 => ?_⟩
  · rw [ek] at ew; cases ew
  · refine ⟨true, T.e_NotWritten_HouseError, fun _ b nb => ?_, fun z => nomatch z⟩
    walk_at "rl"
    refine ⟨_, _, _, true, rfl, .own _, rfl, rfl, T.xc_NotWritten, T.k_NotWritten_NotWritten, ?_⟩
    walk_at "rl"
    refine ⟨_, _, _, false, rfl, .own _, rfl, rfl, T.xc_NotWritten, T.k_NotWritten_NotAGame, ?_⟩
    walk_at "rl"
    exact q _ s3
  · rw [ek] at ew; cases ew
def sp__law_digits (K : PySem.W.Frag) : Sp := fun vs H Q _ => ∃ (c : Int) (b m : Nat), vs = [.int c, .int (b : Int), .int (m : Int)] ∧ 0 < b ∧ b ≤ 1000 ∧ m ≤ 1000 ∧ ∀ D ns H', Same H H' → H D = none → H' D = some (.lst (NL ns)) → ns.length = m → (∀ n ∈ ns, n < b) → Q (.ref D) H'
abbrev s__law_digits : Stmt := top 43
theorem sc__law_digits : FnScope ["_law_number", "_law_base", "_law_many", "_law_found", "_law_k"] ["_law_number", "_law_base", "_law_many"] (defScope s__law_digits) := ⟨rfl, rfl, rfl, by decide +kernel, rfl, by decide +kernel, by decide +kernel⟩
theorem ok__law_digits (T : Txt K mg) : Dn P w K mg base CX0 1 (He.ga K "_law_digits") ["_law_number", "_law_base", "_law_many"] (sp__law_digits K) := by
  refine dn_of (k := 0) T.f__law_digits sc__law_digits (fun _ _ _ _ _ _ us hl => match us, hl with | [_, _, _], _ => rfl) (fun cdv A outer s H vs Q E hr h => ?_)
  obtain ⟨c, b, m, rfl, hb, hb2, hm, q⟩ := h
  refine ⟨_, PSs.nox (pss_cons (ps_set (i := 3) sc__law_digits.nd rfl (by first | exact Or.inl rfl | exact Or.inr rfl) (pe_lst pa_nil))
      (pss_cons (ps_for PassesOwn.never rfl (pi_range1 rfl T.n_range (pa_cons (pv 2) pa_nil)) (pg_name (i := 4) sc__law_digits.nd rfl (by first | exact Or.inl rfl | exact Or.inr rfl))
      (pss_cons (ps_expr (pe_bm PySem.F.plainAttrs_list PySem.F.slot_list_append PySem.F.type_list_append mt_append (pv 3) (pa_cons (pe_op op_mod (pv 0) (pv 1)) pa_nil)))
      (pss_one (ps_set (i := 0) sc__law_digits.nd rfl (by first | exact Or.inl rfl | exact Or.inr rfl) (pe_op op_fdiv (pv 0) (pv 1))))))
      (pss_one (ps_ret (pv 3))))), ?_⟩
  refine ⟨by show 0 ≤ sizeLine; decide, fun D nD => ?_⟩
  have sD := Same.upd nD (o := .lst [])
  have hD := upd_same (H := H) (a := D) (o := .lst [])
  generalize upd H D (.lst []) = H1 at *
  walk_at "rl"
  refine ⟨by omega, by omega, for_rangeN (n := m) (fun i σ H' => ∃ (ns : List Nat) (c' : Int) (v4 : Option V), σ = [some (.int c'), some (.int (b : Int)), some (.int (m : Int)), some (.ref D), v4] ∧ H' D = some (.lst (NL ns)) ∧ ns.length = i ∧ (∀ n ∈ ns, n < b) ∧ Same H H') ⟨[], c, none, rfl, hD, rfl, by simp, sD⟩ ?_ ?_⟩
  · rintro i σ H' hi ⟨ns, c', v4, rfl, hD', hl, hz, s⟩
    obtain ⟨d, ed, hd⟩ := mod_nat c' hb
    walk_at "rl"
    refine ⟨by show (0 : Int) < _; omega, ?_⟩
    walk_at "rl"
    refine ⟨D, _, _, rfl, rfl, hD', mil_line (by rw [NL_length]; omega), ?_⟩
    walk_at "rl"
    refine ⟨⟨by omega, by omega⟩, ?_⟩
    walk_at "rl"
    refine ⟨ns ++ [d], _, _, rfl, ?_, by rw [List.length_append, hl]; rfl, fun n hn => ?_, Same.put s nD⟩
    · rw [upd_same]
      dsimp only
      rw [ed]
      unfold NL
      rw [List.map_append]
      rfl
    · rcases List.mem_append.mp hn with h | h
      · exact hz n h
      · rw [List.mem_singleton.mp h]
        exact hd
  rintro σ H' ⟨ns, c', v4, rfl, hD', hl, hz, s⟩
  walk_at "rl"
  exact q D ns H' s nD hD' hl hz
theorem sum_10 {ws : List Str} (h2 : ∀ w ∈ ws, w.length ≤ 10) : (ws.map (·.length)).sum ≤ ws.length * 10 := by
  have e : (ws.map (·.length)).sum ≤ (ws.map (·.length)).length * 10 := sum_le_mul fun x hx => by
    obtain ⟨y, hy, rfl⟩ := List.mem_map.mp hx
    exact h2 y hy
  rw [List.length_map] at e
  exact e
def W12 : List Str := ["still", "heap", "parting", "runs", "pairs", "taking", "skittles", "few", "told", "", "Heap", "few 1"]
def sp__law_built (K : PySem.W.Frag) : Sp := fun vs H Q _ => ∃ (c d e : Int), vs = [.int c, .int d, .int e] ∧ ∀ x H', Same H H' → Ln.Sg x → x.length ≤ 200 → Q (.str x) H'
abbrev s__law_built : Stmt := top 44
theorem sc__law_built : FnScope ["_law_one", "_law_two", "_law_three", "_law_word", "_law_numbers", "_law_digits_here", "_law_k", "_law_head", "_law_number", "_law_places", "_law_place", "_law_behind"] ["_law_one", "_law_two", "_law_three"] (defScope s__law_built) := ⟨rfl, rfl, rfl, by decide +kernel, rfl, by decide +kernel, by decide +kernel⟩
theorem ok__law_built (T : Txt K mg) (d__law_digits : Dn P w K mg base CX0 1 (He.ga K "_law_digits") ["_law_number", "_law_base", "_law_many"] (sp__law_digits K)) : Dn P w K mg base CX0 2 (He.ga K "_law_built") ["_law_one", "_law_two", "_law_three"] (sp__law_built K) := by
  refine dn_of (k := 1) T.f__law_built sc__law_built (fun _ _ _ _ _ _ us hl => match us, hl with | [_, _, _], _ => rfl) (fun cdv A outer s H vs Q E hr h => ?_)
  obtain ⟨c, d, e, rfl, q⟩ := h
  refine ⟨_, PSs.nox (pss_cons (ps_set (i := 3) sc__law_built.nd rfl (by first | exact Or.inl rfl | exact Or.inr rfl) (pe_lst (pa_cons pe_str (pa_cons pe_str (pa_cons pe_str (pa_cons pe_str (pa_cons pe_str (pa_cons pe_str (pa_cons pe_str (pa_cons pe_str (pa_cons pe_str (pa_cons pe_str (pa_cons pe_str (pa_cons pe_str pa_nil))))))))))))))
      (pss_cons (ps_set (i := 4) sc__law_built.nd rfl (by first | exact Or.inl rfl | exact Or.inr rfl) (pe_lst pa_nil))
      (pss_cons (ps_cut (ps_if (pt_cmpR op_in_seq (pe_op op_mod (pv 0) pe_int) (pe_tup (pa_cons (pe_nat 5) (pa_cons (pe_nat 6) pa_nil))) rfl) (pss_cons (ps_set (i := 5) sc__law_built.nd rfl (by first | exact Or.inl rfl | exact Or.inr rfl) (pe_cl d__law_digits (hr.mono (by omega)) T.g__law_digits pass0 (pa_cons (pe_op op_fdiv (pv 1) pe_int) (pa_cons (pe_nat 3) (pa_cons (pe_op op_addn (pe_nat 1) (pe_op op_mod (pv 1) pe_int)) pa_nil)))))
      (pss_cons (ps_setLc (i := 4) (own := [("_law_k", 6)]) (g := gName 6) (by rfl) sc__law_built.nd rfl rfl (sw_true rfl rfl rfl (by decide +kernel)) (pi_range1 rfl T.n_range (pa_cons (pe_callB (r := rLenSeq K) cr_lenseq (by rfl) T.n_len PySem.boot_len (pa_cons (pv 5) pa_nil)) pa_nil)) (blkOk_by (own := [("_law_k", 6)]) (N := ["_law_one", "_law_two", "_law_three", "_law_word", "_law_numbers", "_law_digits_here", "_law_k", "_law_head", "_law_number", "_law_places", "_law_place", "_law_behind"]) (sc := defScope (s__law_built)) (by decide +kernel)) (fun _ _ _ _ _ => pg_name (i := 6) sc__law_built.nd rfl (by first | exact Or.inl rfl | exact Or.inr rfl)) (fun _ _ _ _ _ => pts_nil) (fun _ _ _ _ _ => (pe_op op_addn (pe_op op_addn (pe_nat 1) (pe_ix (show IxR _ (rIxL K) from ix_list) (pv 5) (pv 6) (fun _ _ => rfl))) (pe_op op_muln (pe_nat 4) (pv 6)))))
      (pss_one (ps_if (pt_cmpR op_eqi (pe_op op_mod (pe_op op_fdiv (pv 0) pe_int) pe_int) pe_int (nomark _)) (pss_one (ps_set (i := 4) sc__law_built.nd rfl (by first | exact Or.inl rfl | exact Or.inr rfl) (pe_revL (pv 4)))) pss_nil)))) (pss_one (ps_if (pt_cmpR op_eqi (pe_op op_mod (pv 0) pe_int) pe_int (nomark _)) (pss_one (ps_set (i := 4) sc__law_built.nd rfl (by first | exact Or.inl rfl | exact Or.inr rfl) (pe_lst (pa_cons (pe_op op_mod (pv 1) pe_int) pa_nil)))) (pss_one (ps_if (pt_cmpR op_eqi (pe_op op_mod (pe_op op_fdiv (pv 0) pe_int) pe_int) pe_int (nomark _)) (pss_one (ps_set (i := 4) sc__law_built.nd rfl (by first | exact Or.inl rfl | exact Or.inr rfl) (pe_lst (pa_cons (pe_op op_mod (pv 1) pe_int) (pa_cons (pe_op op_mod (pe_op op_fdiv (pv 1) pe_int) pe_int) pa_nil))))) pss_nil))))))
      (pss_cons (ps_cut (ps_set (i := 7) sc__law_built.nd rfl (by first | exact Or.inl rfl | exact Or.inr rfl) (pe_join (pe_op op_mul_str pe_str (pe_op op_addn (pe_nat 1) (pe_op op_mod (pe_op op_fdiv (pv 0) pe_int) pe_int))) (pe_op op_cat (pe_lst (pa_cons (pe_ix ix_list (pv 3) (pe_op op_mod (pv 0) pe_int) (fun _ _ => rfl)) pa_nil)) (pe_lc (own := [("_law_number", 8)]) (g := gName 8) (by rfl) sc__law_built.nd (pi_list (pv 4)) (blkOk_by (own := [("_law_number", 8)]) (N := ["_law_one", "_law_two", "_law_three", "_law_word", "_law_numbers", "_law_digits_here", "_law_k", "_law_head", "_law_number", "_law_places", "_law_place", "_law_behind"]) (sc := defScope (s__law_built)) (by decide +kernel)) (fun _ _ _ _ _ => pg_name (i := 8) sc__law_built.nd rfl (by first | exact Or.inl rfl | exact Or.inr rfl)) (fun _ _ _ _ _ => pts_nil) (fun _ _ _ _ _ => (pe_callTy (T := "str") call_str_int (by rfl) T.n_str (by decide +kernel) (pa_cons (pv 8) pa_nil))))))))
      (pss_cons (ps_set (i := 9) sc__law_built.nd rfl (by first | exact Or.inl rfl | exact Or.inr rfl) (pe_cl d__law_digits (hr.mono (by omega)) T.g__law_digits pass0 (pa_cons (pv 2) (pa_cons (pe_nat 13) (pa_cons (pe_op op_mod (pe_op op_fdiv (pv 1) pe_int) pe_int) pa_nil)))))
      (pss_cons (ps_cut (ps_if (pt_cmpR op_eqi (pe_op op_mod (pe_op op_fdiv (pv 1) pe_int) pe_int) pe_int (nomark _)) (pss_one (ps_expr (pe_bm PySem.F.plainAttrs_list PySem.F.slot_list_append PySem.F.type_list_append mt_append (pv 9) (pa_cons (pe_op op_addn (pe_nat 95) (pe_op op_mod (pe_op op_fdiv (pv 1) pe_int) pe_int)) pa_nil)))) pss_nil))
      (pss_cons (ps_cut (ps_if (pt_cmpR op_in_seq (pe_op op_mod (pv 0) pe_int) (pe_tup (pa_cons (pe_nat 3) (pa_cons (pe_nat 6) (pa_cons (pe_nat 7) pa_nil)))) rfl) (pss_one (ps_setLc (i := 9) (own := [("_law_place", 10)]) (g := gName 10) (by rfl) sc__law_built.nd rfl rfl (sw_true rfl rfl rfl (by decide +kernel)) (pi_list (pv 9)) (blkOk_by (own := [("_law_place", 10)]) (N := ["_law_one", "_law_two", "_law_three", "_law_word", "_law_numbers", "_law_digits_here", "_law_k", "_law_head", "_law_number", "_law_places", "_law_place", "_law_behind"]) (sc := defScope (s__law_built)) (by decide +kernel)) (fun _ _ _ _ _ => pg_name (i := 10) sc__law_built.nd rfl (by first | exact Or.inl rfl | exact Or.inr rfl)) (fun _ _ _ _ _ => pts_nil) (fun _ _ _ _ _ => (pe_ifExp (pt_cmpR op_gtn (pv 10) (pe_nat 100) (nomark _)) (pv 10) (pe_op op_modn (pv 10) (pe_nat 13)))))) pss_nil))
      (pss_cons (ps_cut (ps_set (i := 11) sc__law_built.nd rfl (by first | exact Or.inl rfl | exact Or.inr rfl) (pe_op op_add_str (pe_op op_mul_str pe_str (pe_op op_mod (pe_op op_fdiv (pv 0) pe_int) pe_int)) (pe_join pe_str (pe_lc (own := [("_law_place", 10)]) (g := gName 10) (by rfl) sc__law_built.nd (pi_list (pv 9)) (blkOk_by (own := [("_law_place", 10)]) (N := ["_law_one", "_law_two", "_law_three", "_law_word", "_law_numbers", "_law_digits_here", "_law_k", "_law_head", "_law_number", "_law_places", "_law_place", "_law_behind"]) (sc := defScope (s__law_built)) (by decide +kernel)) (fun _ _ _ _ _ => pg_name (i := 10) sc__law_built.nd rfl (by first | exact Or.inl rfl | exact Or.inr rfl)) (fun _ _ _ _ _ => pts_nil) (fun _ _ _ _ _ => (pe_callTy (T := "str") call_str_int (by rfl) T.n_str (by decide +kernel) (pa_cons (pv 10) pa_nil))))))))
      (pss_one (ps_ret (pe_op op_add_str (pe_op op_add_str (pe_op op_add_str (pv 7) (pe_op op_mul_str pe_str (pe_op op_mod (pe_op op_fdiv (pv 0) pe_int) pe_int))) pe_str) (pv 11)))))))))))), ?_⟩
  refine ⟨by show 12 ≤ sizeLine; decide, fun D nD => ?_⟩
  have s1 := Same.upd nD (o := .lst [.str "still", .str "heap", .str "parting", .str "runs", .str "pairs", .str "taking", .str "skittles", .str "few", .str "told", .str "", .str "Heap", .str "few 1"])
  have hD : upd H D (.lst [.str "still", .str "heap", .str "parting", .str "runs", .str "pairs", .str "taking", .str "skittles", .str "few", .str "told", .str "", .str "Heap", .str "few 1"]) D = some (.lst (SL W12)) := upd_same
  generalize upd H D (.lst [.str "still", .str "heap", .str "parting", .str "runs", .str "pairs", .str "taking", .str "skittles", .str "few", .str "told", .str "", .str "Heap", .str "few 1"]) = H1 at *
  walk_at "rl"
  refine ⟨by show 0 ≤ sizeLine; decide, fun N0 nN0 => ?_⟩
  have s2 := Same.upd nN0 (o := .lst [])
  have hN0 : upd H1 N0 (.lst []) N0 = some (.lst (NL [])) := upd_same
  generalize upd H1 N0 (.lst []) = H2 at *
  have hD2 := s2 _ _ hD
  have s02 := s1.trans s2
  walk_at "rl"
  refine ⟨fun σ' H' => Hd (∃ (Nn : Addr) (v5 v6 : Option V) (ms : List Nat), σ' = [some (.int c), some (.int d), some (.int e), some (.ref D), some (.ref Nn), v5, v6, none, none, none, none, none] ∧ Same H2 H' ∧ H' Nn = some (.lst (NL ms)) ∧ ms.length ≤ 3 ∧ ∀ m ∈ ms, m < 1000), ?_, ?_⟩
  rotate_left
  · walk_at "rl"
    refine ⟨by show 2 ≤ sizeLine; decide, fun t nt => ?_⟩
    have s3 := Same.upd nt (o := .tup [.int ((5 : Nat) : Int), .int ((6 : Nat) : Int)])
    have ht := upd_same (H := H2) (a := t) (o := .tup [.int ((5 : Nat) : Int), .int ((6 : Nat) : Int)])
    generalize upd H2 t (.tup [.int ((5 : Nat) : Int), .int ((6 : Nat) : Int)]) = H3 at *
    refine ⟨t, _, rfl, .inr (SqT.of ht), rfl, rfl, ?_⟩
    walk_at "rl"
    refine ifB (fun _ => ?_) (fun _ => ?_)
    · obtain ⟨m3, e3, h3⟩ := mod_nat d (k := 3) (by decide)
      rw [show ((3 : Nat) : Int) = 3 from rfl] at e3
      walk_at "rl"
      refine ⟨1, m3, rfl, congrArg V.int e3, ?_⟩
      walk_at "rl"
      refine ⟨_, 3, 1 + m3, rfl, by decide, by decide, by omega, fun G gs H4 s4 nG hG hgl hgz => ?_⟩
      walk_at "rl"
      have hnl := NL_length gs
      refine ⟨by omega, by omega, fun N nN => ?_⟩
      refine lc_rangeN (n := (NL gs).length) (fun i H' => ∃ ms : List Nat, ms.length = i ∧ H' N = some (.lst (NL ms)) ∧ Same H4 H' ∧ ∀ m ∈ ms, m < 1000) ⟨[], rfl, upd_same, Same.upd nN, by simp⟩ ?_ ?_
      · rintro i H5 hi ⟨ms, hl, hN, s5, hz⟩
        rw [NL_length] at hi
        walk_at "rl"
        refine ⟨G, _, _, _, rfl, rfl, SqL.of (s5 _ _ hG), NL_num' hi, ?_⟩
        have hgi := hgz (gs.getD i 0) (by rw [List.getD_eq_getElem?_getD, List.getElem?_eq_getElem hi]; exact List.getElem_mem hi)
        walk_at "rl"
        refine ⟨_, hN, mil_line (by rw [NL_length]; omega), ms ++ [1 + gs.getD i 0 + 4 * i], by rw [List.length_append, hl]; rfl, ?_, Same.put s5 nN, fun m hm => ?_⟩
        · rw [upd_same]
          unfold NL
          rw [List.map_append]
          rfl
        · rcases List.mem_append.mp hm with h | h
          · exact hz m h
          · rw [List.mem_singleton.mp h]
            omega
      rintro H5 ⟨ms, hl, hN, s5, hz⟩
      rw [NL_length] at hl
      have s25 := s3.trans (s4.trans s5)
      walk_at "rl"
      refine ifN (fun _ => ?_) (fun _ => ?_)
      · walk_at "rl"
        refine ⟨N, _, rfl, SqL.of hN, fun R nR => ?_⟩
        refine Hd.mk ⟨R, _, _, ms.reverse, rfl, s25.trans (Same.upd nR), ?_, by rw [List.length_reverse]; omega, fun m hm => hz m (List.mem_reverse.mp hm)⟩
        rw [upd_same]
        unfold NL
        rw [List.map_reverse]
      · exact Hd.mk ⟨N, _, _, ms, rfl, s25, hN, by omega, hz⟩
    walk_at "rl"
    refine ifN (fun _ => ?_) (fun _ => ?_)
    · obtain ⟨m4, e4, h4⟩ := mod_nat d (k := 4) (by decide)
      rw [show ((4 : Nat) : Int) = 4 from rfl] at e4
      walk_at "rl"
      dsimp only
      rw [e4]
      refine fun N nN => Hd.mk ⟨N, none, none, [m4], rfl, s3.trans (Same.upd nN), upd_same, by simp, fun m hm => by rw [List.mem_singleton.mp hm]; omega⟩
    walk_at "rl"
    refine ifN (fun _ => ?_) (fun _ => ?_)
    · obtain ⟨m4, e4, h4⟩ := mod_nat d (k := 4) (by decide)
      rw [show ((4 : Nat) : Int) = 4 from rfl] at e4
      obtain ⟨m5, e5, h5⟩ := mod_nat (d / 4) (k := 15) (by decide)
      rw [show ((15 : Nat) : Int) = 15 from rfl] at e5
      walk_at "rl"
      dsimp only
      rw [e4, e5]
      refine ⟨by show 2 ≤ sizeLine; decide, fun N nN => Hd.mk ⟨N, none, none, [m4, m5], rfl, s3.trans (Same.upd nN), upd_same, by simp, fun m hm => ?_⟩⟩
      rcases List.mem_cons.mp hm with rfl | hm
      · omega
      · rw [List.mem_singleton.mp hm]; omega
    · exact Hd.mk ⟨N0, none, none, [], rfl, s3, s3 _ _ hN0, by decide, by simp⟩
  intro σ3 H3 hh
  obtain ⟨Nn, v5, v6, ms, rfl, s3, hN, hml, hmz⟩ := hh.out
  clear hh
  have hD3 := s3 _ _ hD2
  obtain ⟨w12, ew, hw⟩ := mod_nat c (k := 12) (by decide)
  rw [show ((12 : Nat) : Int) = 12 from rfl] at ew
  obtain ⟨b2, eb, hb⟩ := mod_nat (c / 72) (k := 2) (by decide)
  rw [show ((2 : Nat) : Int) = 2 from rfl] at eb
  refine ⟨fun σ' H' => Hd (∃ (hd : Str) (v8 : Option V), σ' = [some (.int c), some (.int d), some (.int e), some (.ref D), some (.ref Nn), v5, v6, some (.str hd), v8, none, none, none] ∧ Same H3 H' ∧ Ln.Sg hd ∧ hd.length ≤ 60), ?_, ?_⟩
  rotate_left
  · obtain ⟨wd, hwd⟩ : ∃ wd, W12[w12]? = some wd := ⟨_, List.getElem?_eq_getElem (show w12 < W12.length from hw)⟩
    have hwm := List.mem_of_getElem? hwd
    have hwl : wd.length ≤ 10 := of_decide_eq_true (List.all_eq_true.mp (show (W12.all fun w => decide (w.length ≤ 10)) = true by decide +kernel) wd hwm)
    have hws : Ln.Sg wd := fun x hx => of_decide_eq_true (List.all_eq_true.mp (of_decide_eq_true (List.all_eq_true.mp (show (W12.all fun w => decide ((TL.tl w).all (fun c => decide (c = 10 ∨ (32 ≤ c ∧ c < 127))) = true)) = true by decide +kernel) wd hwm)) x hx)
    walk_at "rl"
    refine ⟨1, b2, rfl, congrArg V.int eb, ?_⟩
    walk_at "rl"
    refine ⟨mul_ok (lit_len (by decide)) (by omega), ?_⟩
    walk_at "rl"
    dsimp only
    rw [ew]
    refine ⟨_, _, _, .str wd, rfl, rfl, SqL.of hD3, SL_at hwd, ?_⟩
    walk_at "rl"
    refine fun A nA => ?_
    have sA := Same.upd nA (o := .lst [.str wd])
    have hA := upd_same (H := H3) (a := A) (o := .lst [.str wd])
    generalize upd H3 A (.lst [.str wd]) = H4 at *
    have hN4 := sA _ _ hN
    walk_at "rl"
    refine ⟨⟨_, SqL.of hN4⟩, fun L nL => ?_⟩
    refine lc_list (K := K) (a := Nn) (xs := NL ms) (fun i H' => H' L = some (.lst (SL ((ms.take i).map Wd.num))) ∧ Same H4 H') ⟨upd_same, Same.upd nL⟩ (fun i H' _ h => SqL.of (h.2 _ _ hN4)) ?_ ?_
    · rintro t v H5 hi ⟨hL, s5⟩
      obtain ⟨z, hz, rfl⟩ := NL_at hi
      have hzq := hmz z (List.mem_of_getElem? hz)
      walk_at "rl"
      refine ⟨nS_log (by omega), ?_⟩
      refine ⟨_, hL, mil_line (by rw [SL_length, List.length_map, List.length_take]; omega), ?_, Same.put s5 nL⟩
      rw [upd_same, List.take_succ, hz, List.map_append]
      show some (HO.lst (SL _ ++ [V.str (Wd.num z)])) = some (HO.lst (SL (_ ++ [Wd.num z])))
      rw [SL_snoc]
    rintro H5 ⟨hL, s5⟩
    rw [NL_length, List.take_length] at hL
    refine ⟨A, L, _, _, rfl, rfl, s5 _ _ hA, hL, Nat.le_of_lt (mil_line (by rw [SL_length, List.length_map]; show 1 + _ ≤ _; omega)), fun C nC => ?_⟩
    have hC : upd H5 C (.lst ([.str wd] ++ SL (ms.map Wd.num))) C = some (.lst (SL (wd :: ms.map Wd.num))) := upd_same
    have sC := Same.upd nC (o := .lst ([.str wd] ++ SL (ms.map Wd.num)))
    generalize upd H5 C (.lst ([.str wd] ++ SL (ms.map Wd.num))) = H6 at *
    have hb : ∀ w ∈ wd :: ms.map Wd.num, w.length ≤ 10 := fun w hw => by
      rcases List.mem_cons.mp hw with rfl | hw
      · exact hwl
      · obtain ⟨n, hn, rfl⟩ := List.mem_map.mp hw
        exact Nat.le_trans (nS_len (n := n) (hmz n hn)) (by decide)
    have hcl : (wd :: ms.map Wd.num).length ≤ 4 := by rw [List.length_cons, List.length_map]; omega
    have hsm := sum_10 hb
    have hbl := len_blanks (1 + b2)
    have hj := join_len (Txt.mul (Str.ofString " ") ((1 + b2 : Nat) : Int)) (wd :: ms.map Wd.num)
    have hmu : (wd :: ms.map Wd.num).length * (Txt.mul (Str.ofString " ") ((1 + b2 : Nat) : Int)).length ≤ 4 * 2 := Nat.mul_le_mul hcl (by omega)
    walk_at "rl"
    refine ⟨_, C, _, rfl, rfl, .inl (SqL.of hC), by omega, ?_⟩
    walk_at "rl"
    refine Hd.mk ⟨_, none, rfl, (sA.trans s5).trans sC, ?_, by omega⟩
    refine (Ln.Sg.blanks (1 + b2)).join fun w hw => ?_
    rcases List.mem_cons.mp hw with rfl | hw
    · exact hws
    · obtain ⟨n, hn, rfl⟩ := List.mem_map.mp hw
      exact Ln.sg_num n
  intro σ4 H4 hh
  obtain ⟨hd, v8, rfl, s4, sg4, hl4⟩ := hh.out
  clear hh
  obtain ⟨m5, e5, h5⟩ := mod_nat (d / 3) (k := 5) (by decide)
  rw [show ((5 : Nat) : Int) = 5 from rfl] at e5
  walk_at "rl"
  refine ⟨e, 13, m5, by rw [← e5], by decide, by decide, by omega, fun P ps H5 s5 nP hP hpl hpz => ?_⟩
  walk_at "rl"
  refine ⟨fun σ' H' => Hd (∃ (ps : List Nat), σ' = [some (.int c), some (.int d), some (.int e), some (.ref D), some (.ref Nn), v5, v6, some (.str hd), v8, some (.ref P), none, none] ∧ Same H4 H' ∧ H' P = some (.lst (NL ps)) ∧ ps.length ≤ 6 ∧ ∀ m ∈ ps, m < 1000), ?_, ?_⟩
  rotate_left
  · walk_at "rl"
    refine ifN (fun _ => ?_) (fun _ => Hd.mk ⟨ps, rfl, s5, hP, by omega, fun m hm => by have := hpz m hm; omega⟩)
    obtain ⟨m6, e6, h6⟩ := mod_nat (d / 135) (k := 12) (by decide)
    rw [show ((12 : Nat) : Int) = 12 from rfl] at e6
    walk_at "rl"
    refine ⟨95, m6, rfl, congrArg V.int e6, ?_⟩
    refine ⟨P, _, _, rfl, rfl, hP, mil_line (by rw [NL_length]; omega), ?_⟩
    refine Hd.mk ⟨ps ++ [95 + m6], rfl, Same.put s5 nP, ?_, by rw [List.length_append, List.length_singleton]; omega, fun m hm => ?_⟩
    · rw [upd_same]
      unfold NL
      rw [List.map_append]
      rfl
    · rcases List.mem_append.mp hm with h | h
      · have := hpz m h; omega
      · rw [List.mem_singleton.mp h]; omega
  intro σ6 H6 hh
  obtain ⟨ps6, rfl, s6, hP6, hl6, hz6⟩ := hh.out
  clear hh hP hpl hpz s5 nP
  refine ⟨fun σ' H' => Hd (∃ (P : Addr) (ps : List Nat) (v10 : Option V), σ' = [some (.int c), some (.int d), some (.int e), some (.ref D), some (.ref Nn), v5, v6, some (.str hd), v8, some (.ref P), v10, none] ∧ Same H4 H' ∧ H' P = some (.lst (NL ps)) ∧ ps.length ≤ 6 ∧ ∀ m ∈ ps, m < 1000), ?_, ?_⟩
  rotate_left
  · walk_at "rl"
    refine ⟨by show 3 ≤ sizeLine; decide, fun t nt => ?_⟩
    have s7 := Same.upd nt (o := .tup [.int ((3 : Nat) : Int), .int ((6 : Nat) : Int), .int ((7 : Nat) : Int)])
    have ht := upd_same (H := H6) (a := t) (o := .tup [.int ((3 : Nat) : Int), .int ((6 : Nat) : Int), .int ((7 : Nat) : Int)])
    generalize upd H6 t (.tup [.int ((3 : Nat) : Int), .int ((6 : Nat) : Int), .int ((7 : Nat) : Int)]) = H7 at *
    have hP7 := s7 _ _ hP6
    refine ⟨t, _, rfl, .inr (SqT.of ht), rfl, rfl, ?_⟩
    walk_at "rl"
    refine ifB (fun _ => ?_) (fun _ => Hd.mk ⟨P, ps6, none, rfl, s6.trans s7, hP7, hl6, hz6⟩)
    walk_at "rl"
    refine ⟨⟨_, SqL.of hP7⟩, fun L nL => ?_⟩
    refine lc_list (K := K) (a := P) (xs := NL ps6) (fun i H' => ∃ ms : List Nat, ms.length = i ∧ H' L = some (.lst (NL ms)) ∧ (∀ m ∈ ms, m < 1000) ∧ Same H7 H') ⟨[], rfl, upd_same, by simp, Same.upd nL⟩ (fun i H' _ ⟨_, _, _, _, h⟩ => SqL.of (h _ _ hP7)) ?_ ?_
    · rintro t v H8 hi ⟨ms, hl, hL, hz, s8⟩
      obtain ⟨z, hz0, rfl⟩ := NL_at hi
      have hzq := hz6 z (List.mem_of_getElem? hz0)
      have hil : t < ps6.length := (List.getElem?_eq_some_iff.mp hz0).1
      have fin : ∀ u : Nat, u < 1000 → ∃ acc, H8 L = some (.lst acc) ∧ acc.length < sizeLine ∧ ∃ ms : List Nat, ms.length = t + 1 ∧ upd H8 L (.lst (acc ++ [.int (u : Int)])) L = some (.lst (NL ms)) ∧ (∀ m ∈ ms, m < 1000) ∧ Same H7 (upd H8 L (.lst (acc ++ [.int (u : Int)]))) := fun u hu => by
        refine ⟨_, hL, mil_line (by rw [NL_length]; omega), ms ++ [u], by rw [List.length_append, hl]; rfl, ?_, fun m hm => ?_, Same.put s8 nL⟩
        · rw [upd_same]
          unfold NL
          rw [List.map_append]
          rfl
        · rcases List.mem_append.mp hm with h | h
          · exact hz m h
          · rw [List.mem_singleton.mp h]; exact hu
      walk_at "rl"
      refine ifN (fun _ => ?_) (fun _ => ?_)
      · walk_at "rl"
        exact fin z hzq
      · walk_at "rl"
        exact fin (z % 13) (by omega)
    rintro H8 ⟨ms, hl, hL, hz, s8⟩
    rw [NL_length] at hl
    walk_at "rl"
    exact Hd.mk ⟨L, ms, none, rfl, s6.trans (s7.trans s8), hL, by omega, hz⟩
  intro σ7 H7 hh
  obtain ⟨P7, ps7, v10, rfl, s7, hP7, hl7, hz7⟩ := hh.out
  clear hh hP6 hl6 hz6 s6 H6 H5
  obtain ⟨b3, eb3, hb3⟩ := mod_nat (c / 432) (k := 3) (by decide)
  rw [show ((3 : Nat) : Int) = 3 from rfl] at eb3
  obtain ⟨b4, eb4, hb4⟩ := mod_nat (c / 144) (k := 3) (by decide)
  rw [show ((3 : Nat) : Int) = 3 from rfl] at eb4
  refine ⟨fun σ' H' => Hd (∃ (bh : Str) (v10 : Option V), σ' = [some (.int c), some (.int d), some (.int e), some (.ref D), some (.ref Nn), v5, v6, some (.str hd), v8, some (.ref P7), v10, some (.str bh)] ∧ Same H7 H' ∧ Ln.Sg bh ∧ bh.length ≤ 100), ?_, ?_⟩
  rotate_left
  · walk_at "rl"
    rw [eb3]
    refine ⟨mul_ok (lit_len (by decide)) (by omega), ?_⟩
    walk_at "rl"
    refine ⟨⟨_, SqL.of hP7⟩, fun L nL => ?_⟩
    refine lc_list (K := K) (a := P7) (xs := NL ps7) (fun i H' => H' L = some (.lst (SL ((ps7.take i).map Wd.num))) ∧ Same H7 H') ⟨upd_same, Same.upd nL⟩ (fun i H' _ h => SqL.of (h.2 _ _ hP7)) ?_ ?_
    · rintro t v H8 hi ⟨hL, s8⟩
      obtain ⟨z, hz, rfl⟩ := NL_at hi
      have hzq := hz7 z (List.mem_of_getElem? hz)
      walk_at "rl"
      refine ⟨nS_log (by omega), ?_⟩
      refine ⟨_, hL, mil_line (by rw [SL_length, List.length_map, List.length_take]; omega), ?_, Same.put s8 nL⟩
      rw [upd_same, List.take_succ, hz, List.map_append]
      show some (HO.lst (SL _ ++ [V.str (Wd.num z)])) = some (HO.lst (SL (_ ++ [Wd.num z])))
      rw [SL_snoc]
    rintro H8 ⟨hL, s8⟩
    rw [NL_length, List.take_length] at hL
    have hbd : ∀ w ∈ ps7.map Wd.num, w.length ≤ 10 := fun w hw => by
      obtain ⟨n, hn, rfl⟩ := List.mem_map.mp hw
      exact Nat.le_trans (nS_len (n := n) (hz7 n hn)) (by decide)
    have hsm := sum_10 hbd
    have l1 : (Str.ofString " ").length = 1 := by rw [TL.len_tl, TL.tl_ofString]; rfl
    have hj := join_len (Str.ofString " ") (ps7.map Wd.num)
    have hbl := len_blanks b3
    rw [List.length_map, l1] at hj
    rw [List.length_map] at hsm
    walk_at "rl"
    refine ⟨_, L, _, rfl, rfl, .inl (SqL.of hL), by rw [List.length_map, l1]; omega, ?_⟩
    walk_at "rl"
    refine ⟨str_line (by omega), ?_⟩
    refine Hd.mk ⟨_, v10, rfl, s8, (Ln.Sg.blanks b3).app ((Ln.sg_lit (by decide)).join fun w hw => ?_), by rw [app_len]; omega⟩
    obtain ⟨n, hn, rfl⟩ := List.mem_map.mp hw
    exact Ln.sg_num n
  intro σ8 H8 hh
  obtain ⟨bh, v10, rfl, s8, sg8, hl8⟩ := hh.out
  clear hh
  have hbl := len_blanks b4
  have lc : (Str.ofString ":").length = 1 := by rw [TL.len_tl, TL.tl_ofString]; rfl
  walk_at "rl"
  rw [eb4]
  refine ⟨mul_ok (lit_len (by decide)) (by omega), ?_⟩
  walk_at "rl"
  refine ⟨str_line (by omega), ?_⟩
  walk_at "rl"
  refine ⟨str_line (by rw [app_len]; omega), ?_⟩
  walk_at "rl"
  refine ⟨str_line (by rw [app_len, app_len]; omega), ?_⟩
  exact q _ H8 (s02.trans (s3.trans (s4.trans (s7.trans s8)))) (((sg4.app (Ln.Sg.blanks b4)).app (Ln.sg_lit (by decide))).app sg8) (by rw [app_len, app_len, app_len]; omega)
def sp__law_changed (K : PySem.W.Frag) : Sp := fun vs H Q _ => ∃ (x : Str) (c : Int), vs = [.str x, .int c] ∧ Ln.Sg x ∧ x.length ≤ 1000 ∧ ∀ y H', Same H H' → Ln.Sg y → y.length ≤ x.length + 1 → Q (.str y) H'
abbrev s__law_changed : Stmt := top 45
theorem sc__law_changed : FnScope ["_law_text", "_law_cell", "_law_at", "_law_signs", "_law_sign", "_law_pair"] ["_law_text", "_law_cell"] (defScope s__law_changed) := ⟨rfl, rfl, rfl, by decide +kernel, rfl, by decide +kernel, by decide +kernel⟩
theorem ok__law_changed (T : Txt K mg) : Dn P w K mg base CX0 1 (He.ga K "_law_changed") ["_law_text", "_law_cell"] (sp__law_changed K) := by
  refine dn_of (k := 0) T.f__law_changed sc__law_changed (fun _ _ _ _ _ _ us hl => match us, hl with | [_, _], _ => rfl) (fun cdv A outer s H vs Q E hr h => ?_)
  obtain ⟨x, c, rfl, hx, hl, q⟩ := h
  refine ⟨_, PSs.nox (pss_cons (ps_cut (ps_set (i := 2) sc__law_changed.nd rfl (by first | exact Or.inl rfl | exact Or.inr rfl) (pe_op op_mod (pe_op op_fdiv (pv 1) pe_int) (pe_op op_addn (pe_callB call_len_str (by rfl) T.n_len PySem.boot_len (pa_cons (pv 0) pa_nil)) (pe_nat 1)))))
      (pss_cons (ps_set (i := 3) sc__law_changed.nd rfl (by first | exact Or.inl rfl | exact Or.inr rfl) pe_str)
      (pss_cons (ps_cut (ps_set (i := 4) sc__law_changed.nd rfl (by first | exact Or.inl rfl | exact Or.inr rfl) (pe_ix ix_str (pv 3) (pe_op op_mod (pe_op op_mod (pe_op op_mul (pv 1) pe_int) pe_int) (pe_callB call_len_str (by rfl) T.n_len PySem.boot_len (pa_cons (pv 3) pa_nil))) (fun _ _ => rfl))))
      (pss_cons (ps_if (pt_cmpR op_eqi (pe_op op_mod (pv 1) pe_int) pe_int (nomark _)) (pss_one (ps_ret (pe_op op_add_str (pe_op op_add_str (pe_slice sl_str (pv 0) po_none (po_some (pv 2))) (pv 4)) (pe_slice sl_str (pv 0) (po_some (pv 2)) po_none)))) pss_nil)
      (pss_cons (ps_if (pt_cmpR op_eqi (pe_op op_mod (pv 1) pe_int) pe_int (nomark _)) (pss_one (ps_ret (pe_op op_add_str (pe_slice sl_str (pv 0) po_none (po_some (pv 2))) (pe_slice sl_str (pv 0) (po_some (pe_op op_add (pv 2) pe_int)) po_none)))) pss_nil)
      (pss_cons (ps_set (i := 5) sc__law_changed.nd rfl (by first | exact Or.inl rfl | exact Or.inr rfl) (pe_slice sl_str (pv 0) (po_some (pv 2)) (po_some (pe_op op_add (pv 2) pe_int))))
      (pss_one (ps_ret (pe_op op_add_str (pe_op op_add_str (pe_slice sl_str (pv 0) po_none (po_some (pv 2))) (pe_revS (pv 5))) (pe_slice sl_str (pv 0) (po_some (pe_op op_add (pv 2) pe_int)) po_none)))))))))), ?_⟩
  have hlen := TL.len_tl x
  obtain ⟨p, ep, hp⟩ := mod_nat (c / 3) (k := x.length + 1) (by omega)
  refine ⟨fun σ' H' => Hd (σ' = [some (.str x), some (.int c), some (.int (p : Int)), none, none, none] ∧ H' = H), ?_, ?_⟩
  rotate_left
  · walk_at "rl"
    refine ⟨long_line (by omega), ?_⟩
    walk_at "rl"
    refine ⟨by show (0 : Int) < _; omega, ?_⟩
    walk_at "rl"
    dsimp only
    rw [ep]
    exact Hd.mk ⟨rfl, rfl⟩
  intro σ1 H1 hh
  obtain ⟨rfl, rfl⟩ := hh.out
  clear hh
  walk_at "rl"
  obtain ⟨S, eS⟩ : ∃ S : Str, S = Str.ofString "0123456789 :#,-+._abcdefghiklmnoprstuw\nH::##  01" := ⟨_, rfl⟩
  have hS : Ln.Sg S := by rw [eS]; exact Ln.sg_lit (by decide)
  have lS : S.length = 48 := by rw [eS, TL.len_tl, TL.tl_ofString]; rfl
  rw [← eS]
  clear eS
  obtain ⟨i, ei, hi⟩ := mod_nat (c * 48271 % 1000003) (k := S.length) (by omega)
  refine ⟨fun σ' H' => Hd (∃ y : Str, σ' = [some (.str x), some (.int c), some (.int (p : Int)), some (.str S), some (.str y), none] ∧ H' = H1 ∧ Ln.Sg y ∧ y.length = 1), ?_, ?_⟩
  rotate_left
  · have hSl := TL.len_tl S
    obtain ⟨z, ez⟩ : ∃ z, (TL.tl S)[i]? = some z := ⟨_, List.getElem?_eq_getElem (by omega)⟩
    walk_at "rl"
    refine ⟨long_line (by omega), ?_⟩
    walk_at "rl"
    refine ⟨by show (0 : Int) < _; omega, ?_⟩
    dsimp only
    rw [ei]
    refine ⟨S, i, z, rfl, rfl, long_line (by omega), atI_nat ez, ?_⟩
    walk_at "rl"
    exact Hd.mk ⟨_, rfl, rfl, fun d hd => hS d (by rw [List.mem_singleton.mp (show d ∈ [z] from hd)]; exact List.mem_of_getElem? ez), rfl⟩
  intro σ2 H2 hh
  obtain ⟨y, rfl, rfl, hy, ly⟩ := hh.out
  clear hh
  have sgT : ∀ m : Nat, Ln.Sg (cutS x none (some (m : Int))) ∧ (cutS x none (some (m : Int))).length = min m x.length := fun m =>
    ⟨hx.sub fun d hd => by rw [tl_cut_to] at hd; exact List.mem_of_mem_take hd, by rw [TL.len_tl, tl_cut_to, List.length_take, ← TL.len_tl]⟩
  have sgF : ∀ m : Nat, Ln.Sg (cutS x (some (m : Int)) none) ∧ (cutS x (some (m : Int)) none).length = x.length - m := fun m =>
    ⟨hx.sub fun d hd => by rw [tl_cut_from] at hd; exact List.mem_of_mem_drop hd, by rw [TL.len_tl, tl_cut_from, List.length_drop, ← TL.len_tl]⟩
  walk_at "rl"
  refine ifN (fun _ => ?_) (fun _ => ?_)
  · walk_at "rl"
    refine ⟨long_line (by omega), ?_⟩
    walk_at "rl"
    obtain ⟨g1, l1⟩ := sgT p
    obtain ⟨g2, l2⟩ := sgF p
    refine ⟨str_line (by omega), ?_⟩
    walk_at "rl"
    refine ⟨long_line (by omega), ?_⟩
    walk_at "rl"
    refine ⟨str_line (by rw [app_len]; omega), ?_⟩
    exact q _ H2 (Same.refl _) ((g1.app hy).app g2) (by rw [app_len, app_len]; omega)
  walk_at "rl"
  refine ifN (fun _ => ?_) (fun _ => ?_)
  · walk_at "rl"
    refine ⟨long_line (by omega), ?_⟩
    walk_at "rl"
    refine ⟨long_line (by omega), ?_⟩
    walk_at "rl"
    rw [show ((p : Nat) : Int) + 1 = ((p + 1 : Nat) : Int) by omega]
    obtain ⟨g1, l1⟩ := sgT p
    obtain ⟨g2, l2⟩ := sgF (p + 1)
    refine ⟨str_line (by omega), ?_⟩
    exact q _ H2 (Same.refl _) (g1.app g2) (by rw [app_len]; omega)
  walk_at "rl"
  refine ⟨long_line (by omega), ?_⟩
  rw [show ((p : Nat) : Int) + 2 = ((p + 2 : Nat) : Int) by omega]
  have gM : Ln.Sg (cutS x (some (p : Int)) (some ((p + 2 : Nat) : Int))) := hx.sub fun d hd => by
    rw [tl_cut_mid] at hd
    exact List.mem_of_mem_drop (List.mem_of_mem_take hd)
  have lM : (cutS x (some (p : Int)) (some ((p + 2 : Nat) : Int))).length = min 2 (x.length - p) := by
    rw [TL.len_tl, tl_cut_mid, List.length_take, List.length_drop, ← TL.len_tl]
    omega
  generalize cutS x (some (p : Int)) (some ((p + 2 : Nat) : Int)) = M at *
  walk_at "rl"
  refine ⟨long_line (by omega), ?_⟩
  walk_at "rl"
  refine ⟨long_line (by omega), ?_⟩
  obtain ⟨g1, l1⟩ := sgT p
  have gR : Ln.Sg ⟨(TL.tl M).reverse.toArray⟩ := gM.sub fun d hd => by
    rw [TL.tl_mk] at hd
    exact List.mem_reverse.mp hd
  have lR : (⟨(TL.tl M).reverse.toArray⟩ : Str).length = M.length := by rw [TL.len_tl, TL.tl_mk, List.length_reverse, ← TL.len_tl]
  generalize (⟨(TL.tl M).reverse.toArray⟩ : Str) = R at *
  walk_at "rl"
  refine ⟨str_line (by omega), ?_⟩
  walk_at "rl"
  refine ⟨long_line (by omega), ?_⟩
  rw [show ((p : Nat) : Int) + 2 = ((p + 2 : Nat) : Int) by omega]
  obtain ⟨g2, l2⟩ := sgF (p + 2)
  walk_at "rl"
  refine ⟨str_line (by rw [app_len]; omega), ?_⟩
  exact q _ H2 (Same.refl _) ((g1.app gR).app g2) (by rw [app_len, app_len]; omega)
def sp__law_line (K : PySem.W.Frag) : Sp := fun vs H Q _ => ∃ (a : Addr) (ns : List Int) (k : Nat), vs = [.ref a, .int (k : Int)] ∧ SqL K H a (ns.map V.int) ∧ k ≤ 1000 ∧ ∀ y H', Same H H' → Ln.Sg y → y.length ≤ 300 → Q (.str y) H'
abbrev s__law_line : Stmt := top 46
theorem sc__law_line : FnScope ["_law_script", "_law_k", "_law_cells", "_law_more", "_law_text", "_law_changes", "_law_turn_here", "_law_cell"] ["_law_script", "_law_k"] (defScope s__law_line) := ⟨rfl, rfl, rfl, by decide +kernel, rfl, by decide +kernel, by decide +kernel⟩
theorem ok__law_line (T : Txt K mg) (d__law_cell_at : Dn P w K mg base CX0 1 (He.ga K "_law_cell_at") ["_law_script", "_law_k"] (sp__law_cell_at K)) (d__law_built : Dn P w K mg base CX0 2 (He.ga K "_law_built") ["_law_one", "_law_two", "_law_three"] (sp__law_built K)) (d__law_changed : Dn P w K mg base CX0 1 (He.ga K "_law_changed") ["_law_text", "_law_cell"] (sp__law_changed K)) : Dn P w K mg base CX0 3 (He.ga K "_law_line") ["_law_script", "_law_k"] (sp__law_line K) := by
  refine dn_of (k := 2) T.f__law_line sc__law_line (fun _ _ _ _ _ _ us hl => match us, hl with | [_, _], _ => rfl) (fun cdv A outer s H vs Q E hr h => ?_)
  obtain ⟨a, ns, k, rfl, hS, hk, q⟩ := h
  refine ⟨_, PSs.nox (pss_cons (ps_setLc (i := 2) (own := [("_law_more", 3)]) (g := gName 3) (by rfl) sc__law_line.nd rfl rfl (sw_true rfl rfl rfl (by decide +kernel)) (pi_range1 rfl T.n_range (pa_cons (pe_nat 3) pa_nil)) (blkOk_by (own := [("_law_more", 3)]) (N := ["_law_script", "_law_k", "_law_cells", "_law_more", "_law_text", "_law_changes", "_law_turn_here", "_law_cell"]) (sc := defScope (s__law_line)) (by decide +kernel)) (fun _ _ _ _ _ => pg_name (i := 3) sc__law_line.nd rfl (by first | exact Or.inl rfl | exact Or.inr rfl)) (fun _ _ _ _ _ => pts_nil) (fun _ _ _ _ _ => (pe_cl d__law_cell_at (hr.mono (by omega)) T.g__law_cell_at pass0 (pa_cons (pv 0) (pa_cons (pe_op op_addn (pv 1) (pv 3)) pa_nil)))))
      (pss_cons (ps_set (i := 4) sc__law_line.nd rfl (by first | exact Or.inl rfl | exact Or.inr rfl) (pe_cl d__law_built (hr.mono (by omega)) T.g__law_built pass0 (pa_cons (pe_ix ix_list (pv 2) (pe_nat 0) (fun _ _ => rfl)) (pa_cons (pe_ix ix_list (pv 2) (pe_nat 1) (fun _ _ => rfl)) (pa_cons (pe_ix ix_list (pv 2) (pe_nat 2) (fun _ _ => rfl)) pa_nil)))))
      (pss_cons (ps_set (i := 5) sc__law_line.nd rfl (by first | exact Or.inl rfl | exact Or.inr rfl) (pe_cl d__law_cell_at (hr.mono (by omega)) T.g__law_cell_at pass0 (pa_cons (pv 0) (pa_cons (pe_op op_addn (pv 1) (pe_nat 3)) pa_nil))))
      (pss_cons (ps_for PassesOwn.never rfl (pi_range1 rfl T.n_range (pa_cons (pe_op op_mod (pv 5) pe_int) pa_nil)) (pg_name (i := 6) sc__law_line.nd rfl (by first | exact Or.inl rfl | exact Or.inr rfl))
      (pss_cons (ps_set (i := 7) sc__law_line.nd rfl (by first | exact Or.inl rfl | exact Or.inr rfl) (pe_op op_add (pe_cl d__law_cell_at (hr.mono (by omega)) T.g__law_cell_at pass0 (pa_cons (pv 0) (pa_cons (pe_op op_addn (pv 1) (pe_nat 4)) pa_nil))) (pe_op op_mul (pe_op op_fdiv (pv 5) pe_int) (pe_op op_add (pv 6) pe_int))))
      (pss_one (ps_set (i := 4) sc__law_line.nd rfl (by first | exact Or.inl rfl | exact Or.inr rfl) (pe_cl d__law_changed (hr.mono (by omega)) T.g__law_changed pass0 (pa_cons (pv 4) (pa_cons (pe_op op_mod (pv 7) (pe_op op_pow pe_int pe_int)) pa_nil)))))))
      (pss_one (ps_ret (pe_op op_add_str (pe_op op_mul_str pe_str (pe_op op_mod (pe_op op_fdiv (pv 5) pe_int) pe_int)) (pv 4)))))))), ?_⟩
  walk_at "rl"
  refine ⟨by decide, by decide, fun D nD => ?_⟩
  refine lc_rangeN (n := 3) (fun i H' => ∃ is : List Int, is.length = i ∧ H' D = some (.lst (is.map V.int)) ∧ Same H H') ⟨[], rfl, upd_same, Same.upd nD⟩ ?_ ?_
  · rintro i H1 hi ⟨is, hl, hD, s1⟩
    have hS1 := s1.seq hS
    walk_at "rl"
    refine ⟨by omega, fun H2 s2 => ?_⟩
    refine ⟨_, s2 _ _ hD, mil_line (by rw [List.length_map]; omega), is ++ [cell3 ns (k + i)], by rw [List.length_append, hl]; rfl, ?_, Same.put (s1.trans s2) nD⟩
    rw [upd_same, List.map_append]
    rfl
  rintro H1 ⟨is, hl, hD, s1⟩
  obtain ⟨i0, i1, i2, rfl⟩ : ∃ i0 i1 i2, is = [i0, i1, i2] := by
    match is, hl with
    | [i0, i1, i2], _ => exact ⟨i0, i1, i2, rfl⟩
  have hS1 := s1.seq hS
  walk_at "rl"
  refine ⟨_, _, _, _, rfl, rfl, SqL.of hD, atI_nat (j := 0) rfl, ?_⟩
  walk_at "rl"
  refine ⟨_, _, _, _, rfl, rfl, SqL.of hD, atI_nat (j := 1) rfl, ?_⟩
  walk_at "rl"
  refine ⟨_, _, _, _, rfl, rfl, SqL.of hD, atI_nat (j := 2) rfl, ?_⟩
  walk_at "rl"
  refine ⟨i0, i1, i2, rfl, fun x H2 s2 gx lx => ?_⟩
  have hS2 := s2.seq hS1
  walk_at "rl"
  refine ⟨by omega, fun H3 s3 => ?_⟩
  have s03 := s1.trans (s2.trans s3)
  generalize cell3 ns (k + 3) = ch
  obtain ⟨m4, e4, h4⟩ := mod_nat ch (k := 4) (by decide)
  rw [show ((4 : Nat) : Int) = 4 from rfl] at e4
  obtain ⟨m3, e3, h3⟩ := mod_nat (ch / 4) (k := 3) (by decide)
  rw [show ((3 : Nat) : Int) = 3 from rfl] at e3
  walk_at "rl"
  rw [e4]
  refine ⟨by omega, by omega, for_rangeN (n := m4) (fun i σ H' => ∃ (y : Str) (v6 v7 : Option V), σ = [some (.ref a), some (.int (k : Int)), some (.ref D), none, some (.str y), some (.int ch), v6, v7] ∧ Same H H' ∧ Ln.Sg y ∧ y.length ≤ 200 + i) ⟨x, none, none, rfl, s03, gx, by omega⟩ ?_ ?_⟩
  · rintro i σ H4 hi ⟨y, v6, v7, rfl, s4, gy, ly⟩
    have hS4 := s4.seq hS
    walk_at "rl"
    refine ⟨by omega, fun H5 s5 => ?_⟩
    walk_at "rl"
    refine ⟨.inr ⟨by omega, by omega⟩, ?_⟩
    walk_at "rl"
    refine ⟨⟨by decide, by decide, by decide⟩, ?_⟩
    walk_at "rl"
    refine ⟨y, _, rfl, gy, by omega, fun y' H6 s6 gy' ly' => ?_⟩
    walk_at "rl"
    exact ⟨y', _, _, rfl, s4.trans (s5.trans s6), gy', by omega⟩
  rintro σ H4 ⟨y, v6, v7, rfl, s4, gy, ly⟩
  have hbl := len_blanks m3
  walk_at "rl"
  rw [e3]
  refine ⟨mul_ok (lit_len (by decide)) (by omega), ?_⟩
  walk_at "rl"
  refine ⟨str_line (by omega), ?_⟩
  exact q _ H4 s4 ((Ln.Sg.blanks m3).app gy) (by rw [app_len]; omega)
def M7 : List Str := ["", "-", ": ", ". ", "#", "> 1 > ", "0"]
abbrev s_law : Stmt := top 47
theorem sc_law : FnScope ["_law_script", "_law_lines", "_law_k", "_law_mark", "_law_text", "_law_due", "_law_at", "_law_line_here", "_law_kept", "_law_head", "_law_found"] ["_law_script"] (defScope s_law) := ⟨rfl, rfl, rfl, by decide +kernel, rfl, by decide +kernel, by decide +kernel⟩
theorem ok_law (T : Txt K mg) (d__law_line : Dn P w K mg base CX0 3 (He.ga K "_law_line") ["_law_script", "_law_k"] (sp__law_line K)) (d__law_cell_at : Dn P w K mg base CX0 1 (He.ga K "_law_cell_at") ["_law_script", "_law_k"] (sp__law_cell_at K)) (d__law_answer : Dn P w K mg base CX0 23 (He.ga K "_law_answer") ["_law_line_here"] (sp__law_answer K)) (d__law_named : Dn P w K mg base CX0 12 (He.ga K "_law_named") ["_law_text"] (sp__law_named K)) (d__law_not_written : Dn P w K mg base CX0 8 (He.ga K "_law_not_written") ["_law_text"] (sp__law_not_written K)) (d_answered : DnD P w K mg base CX0 27 (He.ga K "answered") ["text"] "mark" (V.str "-") (sp_answered K)) : Dn P w K mg base CX0 28 (He.ga K "law") ["_law_script"] (spLaw K) := by
  refine dn_of (k := 27) T.f_law sc_law (fun _ _ _ _ _ _ us hl => match us, hl with | [_], _ => rfl) (fun cdv A outer s H vs Q E hr h => ?_)
  obtain ⟨a, ns, rfl, hS, hl, hb, q⟩ := h
  refine ⟨_, PSs.nox (pss_cons (ps_setLc (i := 1) (own := [("_law_k", 2)]) (g := gName 2) (by rfl) sc_law.nd rfl rfl (sw_true rfl rfl rfl (by decide +kernel)) (pi_range1 rfl T.n_range (pa_cons (pe_op op_addn (pe_nat 1) (pe_callB (call_minn rfl) (by rfl) T.n_min (by decide +kernel) (pa_cons (pe_nat 9) (pa_cons (pe_op op_fdivn (pe_callB (r := rLenSeq K) cr_lenseq (by rfl) T.n_len PySem.boot_len (pa_cons (pv 0) pa_nil)) (pe_nat 5)) pa_nil)))) pa_nil)) (blkOk_by (own := [("_law_k", 2)]) (N := ["_law_script", "_law_lines", "_law_k", "_law_mark", "_law_text", "_law_due", "_law_at", "_law_line_here", "_law_kept", "_law_head", "_law_found"]) (sc := defScope (s_law)) (by decide +kernel)) (fun _ _ _ _ _ => pg_name (i := 2) sc_law.nd rfl (by first | exact Or.inl rfl | exact Or.inr rfl)) (fun _ _ _ _ _ => pts_nil) (fun _ _ _ _ _ => (pe_cl d__law_line (hr.mono (by omega)) T.g__law_line pass0 (pa_cons (pv 0) (pa_cons (pe_op op_addn (pe_nat 1) (pe_op op_muln (pe_nat 5) (pv 2))) pa_nil)))))
      (pss_cons (ps_cut (ps_set (i := 3) sc_law.nd rfl (by first | exact Or.inl rfl | exact Or.inr rfl) (pe_ix ix_list (pe_lst (pa_cons pe_str (pa_cons pe_str (pa_cons pe_str (pa_cons pe_str (pa_cons pe_str (pa_cons pe_str (pa_cons pe_str pa_nil)))))))) (pe_op op_mod (pe_cl d__law_cell_at (hr.mono (by omega)) T.g__law_cell_at pass0 (pa_cons (pv 0) (pa_cons (pe_nat 0) pa_nil))) pe_int) (fun _ _ => rfl))))
      (pss_cons (ps_set (i := 4) sc_law.nd rfl (by first | exact Or.inl rfl | exact Or.inr rfl) (pe_join pe_str (pv 1)))
      (pss_cons (ps_set (i := 5) sc_law.nd rfl (by first | exact Or.inl rfl | exact Or.inr rfl) (pe_lst pa_nil))
      (pss_cons (ps_for PassesOwn.never rfl (pi_enum (by rfl) T.n_enumerate (pa_cons (pe_split (pv 4) pe_str) pa_nil)) (pg_tup rfl (pgs_cons (pg_name (i := 6) sc_law.nd rfl (by first | exact Or.inl rfl | exact Or.inr rfl)) (pgs_cons (pg_name (i := 7) sc_law.nd rfl (by first | exact Or.inl rfl | exact Or.inr rfl)) pgs_nil)))
      (pss_cons (ps_set (i := 8) sc_law.nd rfl (by first | exact Or.inl rfl | exact Or.inr rfl) (pe_bm PySem.F.plainAttrs_str PySem.F.slot_str_strip PySem.F.type_str_strip mt_stripChars (pv 7) (pa_cons pe_str pa_nil)))
      (pss_one (ps_if (PW.pt (pw_and (pt_cmpR op_ne (pv 8) pe_str (nomark _)) (pw_and1 (pt_not (pt_val (pe_bm PySem.F.plainAttrs_str PySem.F.slot_str_startswith PySem.F.type_str_startswith mt_startswith (pv 8) (pa_cons pe_str pa_nil))))))) (pss_cons (ps_expr (pe_bm PySem.F.plainAttrs_list PySem.F.slot_list_append PySem.F.type_list_append mt_append (pv 5) (pa_cons (pe_op op_add_str (pe_op op_add_str (pe_callTy (T := "str") call_str_int (by rfl) T.n_str (by decide +kernel) (pa_cons (pe_op op_addn (pv 6) (pe_nat 1)) pa_nil)) (pv 3)) (pe_cl d__law_answer (hr.mono (by omega)) T.g__law_answer pass0 (pa_cons (pv 8) pa_nil))) pa_nil)))
      (pss_cons (ps_set (i := 9) sc_law.nd rfl (by first | exact Or.inl rfl | exact Or.inr rfl) (pe_ix ix_tup (pe_partition (pv 8) pe_str) (pe_nat 0) (fun _ _ => rfl)))
      (pss_cons (ps_if (PW.pt (pw_or (pt_not (pt_val (pe_cl d__law_named (hr.mono (by omega)) T.g__law_named pass0 (pa_cons (pv 9) pa_nil)))) (pw_or1 (pt_not (pt_val (pe_cl d__law_named (hr.mono (by omega)) T.g__law_named pass0 (pa_cons (pe_op op_add_str (pe_op op_add_str pe_str (pv 8)) pe_str) pa_nil))))))) (pss_one (ps_ret pe_bl)) pss_nil)
      (pss_one (ps_if (pt_not (pt_val (pe_cl d__law_not_written (hr.mono (by omega)) T.g__law_not_written pass0 (pa_cons (pe_op op_add_str (pv 9) pe_str) pa_nil)))) (pss_one (ps_ret pe_bl)) pss_nil))))) pss_nil))))
      (pss_cons (ps_cut (ps_if (PW.pt (pw_and (pt_cmpR op_eq (pv 3) pe_str (nomark _)) (pw_and1 (pt_cmpR (op_neLS hr.units) (pe_clD d_answered (hr.mono (by omega)) T.g_answered pass0 (pa_cons (pv 4) pa_nil)) (pv 5) (nomark _))))) (pss_one (ps_ret pe_bl)) pss_nil))
      (pss_cons (ps_set (i := 10) sc_law.nd rfl (by first | exact Or.inl rfl | exact Or.inr rfl) (pe_cl d_answered.full (hr.mono (by omega)) T.g_answered pass0 (pa_cons (pv 4) (pa_cons (pv 3) pa_nil))))
      (pss_one (ps_ret (pe_and (pe_callB (r := rIsi K) call_isi (by rfl) T.n_isinstance (by decide +kernel) (pa_cons (pv 10) (pa_cons (pe_bltn (v := .ty "list") rfl T.n_list (by decide +kernel) rfl) pa_nil))) (pe_and (pe_cmpR (op_eqLS hr.units) (pv 10) (pv 5) (nomark _)) (pe_one (pe_cmpR (op_eqLS hr.units) (pe_cl d_answered.full (hr.mono (by omega)) T.g_answered pass0 (pa_cons (pe_op op_add_str (pv 4) pe_str) (pa_cons (pv 3) pa_nil))) (pv 5) (nomark _)))))))))))))), ?_⟩
  walk_at "rl"
  refine ⟨a, _, rfl, .inl hS, ?_⟩
  rw [List.length_map]
  walk_at "rl"
  refine ⟨_, _, rfl, ?_⟩
  walk_at "rl"
  have hm : min 9 (ns.length / 5) ≤ 9 := Nat.min_le_left _ _
  generalize min 9 (ns.length / 5) = m at *
  refine ⟨by omega, by omega, fun D nD => ?_⟩
  refine lc_rangeN (n := 1 + m) (fun i H' => ∃ xs : List Str, xs.length = i ∧ H' D = some (.lst (SL xs)) ∧ Same H H' ∧ ∀ x ∈ xs, Ln.Sg x ∧ x.length ≤ 300) ⟨[], rfl, upd_same, Same.upd nD, by simp⟩ ?_ ?_
  · rintro i H1 hi ⟨xs, hxl, hD, s1, hz⟩
    have hS1 := s1.seq hS
    walk_at "rl"
    refine ⟨by omega, fun y H2 s2 gy ly => ?_⟩
    refine ⟨_, s2 _ _ hD, mil_line (by rw [SL_length]; omega), xs ++ [y], by rw [List.length_append, hxl]; rfl, ?_, Same.put (s1.trans s2) nD, fun x hx => ?_⟩
    · rw [upd_same, SL_snoc]
    · rcases List.mem_append.mp hx with h | h
      · exact hz x h
      · rw [List.mem_singleton.mp h]
        exact ⟨gy, ly⟩
  rintro H1 ⟨xs, hxl, hD, s1, hz⟩
  have hS1 := s1.seq hS
  refine ⟨fun σ' H' => Hd (∃ (mk : Str), σ' = [some (.ref a), some (.ref D), none, some (.str mk), none, none, none, none, none, none, none] ∧ Same H1 H' ∧ SOk mk ∧ mk.length ≤ 10), ?_, ?_⟩
  rotate_left
  · walk_at "rl"
    refine ⟨by show 7 ≤ sizeLine; decide, fun L nL => ?_⟩
    have sL := Same.upd nL (o := .lst [.str "", .str "-", .str ": ", .str ". ", .str "#", .str "> 1 > ", .str "0"])
    have hL : upd H1 L (.lst [.str "", .str "-", .str ": ", .str ". ", .str "#", .str "> 1 > ", .str "0"]) L = some (.lst (SL M7)) := upd_same
    generalize upd H1 L (.lst [.str "", .str "-", .str ": ", .str ". ", .str "#", .str "> 1 > ", .str "0"]) = H2 at *
    have hS2 := sL.seq hS1
    walk_at "rl"
    refine fun H3 s3 => ?_
    obtain ⟨w, ew, hw⟩ := mod_nat (cell3 ns 0) (k := 7) (by decide)
    rw [show ((7 : Nat) : Int) = 7 from rfl] at ew
    obtain ⟨mk, hmk⟩ : ∃ mk, M7[w]? = some mk := ⟨_, List.getElem?_eq_getElem (show w < M7.length from hw)⟩
    have hmm := List.mem_of_getElem? hmk
    have hml : mk.length ≤ 10 := of_decide_eq_true (List.all_eq_true.mp (show (M7.all fun w => decide (w.length ≤ 10)) = true by decide +kernel) mk hmm)
    have hms : SOk mk := fun x hx => of_decide_eq_true (List.all_eq_true.mp (of_decide_eq_true (List.all_eq_true.mp (show (M7.all fun w => decide ((TL.tl w).all (fun c => decide (c < 1114112)) = true)) = true by decide +kernel) mk hmm)) x hx)
    walk_at "rl"
    dsimp only
    rw [ew]
    refine ⟨_, _, _, .str mk, rfl, rfl, SqL.of (s3 _ _ hL), SL_at hmk, ?_⟩
    walk_at "rl"
    exact Hd.mk ⟨mk, rfl, sL.trans s3, hms, hml⟩
  intro σ2 H2 hh
  obtain ⟨mk, rfl, s2, gm, lm⟩ := hh.out
  clear hh
  have hD2 := s2 _ _ hD
  have ln1 : (Str.ofString "\n").length = 1 := by rw [TL.len_tl, TL.tl_ofString]; rfl
  have hsm : (xs.map (·.length)).sum ≤ xs.length * 300 := by
    have e : (xs.map (·.length)).sum ≤ (xs.map (·.length)).length * 300 := sum_le_mul fun x hx => by
      obtain ⟨y, hy, rfl⟩ := List.mem_map.mp hx
      exact (hz y hy).2
    rwa [List.length_map] at e
  have hj := join_len (Str.ofString "\n") xs
  have sgx : Ln.Sg (Txt.join (Str.ofString "\n") xs) := (Ln.sg_lit (by decide)).join fun x hx => (hz x hx).1
  rw [ln1] at hj
  walk_at "rl"
  refine ⟨_, D, xs, rfl, rfl, .inl (SqL.of hD2), by rw [ln1]; omega, ?_⟩
  generalize Txt.join (Str.ofString "\n") xs = x at *
  have hxl2 : x.length ≤ 4000 := by omega
  obtain ⟨an1, an2⟩ := Ln.answers_split sgx mk
  have hsub := Ln.split_sub (x := x)
  walk_at "rl"
  refine ⟨by show 0 ≤ sizeLine; decide, fun F nF => ?_⟩
  have sF := Same.upd nF (o := .lst [])
  have hF : upd H2 F (.lst []) F = some (.lst (SL [])) := upd_same
  generalize upd H2 F (.lst []) = H3 at *
  walk_at "rl"
  refine ⟨long_line (by omega), fun L nL => ?_⟩
  have hsl : ∀ z ∈ Txt.split x (Str.ofString "\n"), z.length ≤ x.length := fun z hz => by
    have := Ln.split_len10 hz
    exact this
  have hsn := Ln.split_cnt10 x
  generalize Txt.split x (Str.ofString "\n") = lines at *
  have sL := Same.upd nL (o := .lst (SL lines))
  have hL : upd H3 L (.lst (SL lines)) L = some (.lst (SL lines)) := upd_same
  have hL' : upd H3 L (.lst (lines.map V.str)) L = some (.lst (SL lines)) := hL
  have sL' : Same H3 (upd H3 L (.lst (lines.map V.str))) := sL
  generalize upd H3 L (.lst (lines.map V.str)) = H4 at *
  have LF : L ≠ F := fun e => by rw [e, hF] at nL; cases nL
  have hF4 := sL' _ _ hF
  have s24 := sF.trans sL'
  walk_at "rl"
  refine ⟨L, SL lines, rfl, SqL.of hL', L2.for_it (walk_enum (K := K) (a := L) (xs := SL lines)) (fun i σ H' => ∃ (v6 v7 v8 v9 : Option V), σ = [some (.ref a), some (.ref D), none, some (.str mk), some (.str x), some (.ref F), v6, v7, v8, v9, none] ∧ Same H2 H' ∧ H' L = some (.lst (SL lines)) ∧ H' F = some (.lst (SL (Ds.answers mk 1 (lines.take i))))) ⟨none, none, none, none, rfl, s24, hL', hF4⟩ (fun i σ H' _ ⟨_, _, _, _, _, _, e, _⟩ => SqL.of e) ?_ ?_⟩
  · rintro i v σ H5 H6 hi ⟨v6, v7, v8, v9, rfl, s5, hL5, hF5⟩ ⟨Tp, xi, yi, rfl, nT, rfl, e1, e2⟩
    obtain rfl := Option.some.inj e1
    obtain ⟨l, hl, rfl⟩ := SL_item e2
    have hil : i < lines.length := (List.getElem?_eq_some_iff.mp hl).1
    have hlm := List.mem_of_getElem? hl
    have hll := hsl l hlm
    have eT : upd H5 Tp (.tup [V.int ((i : Nat) : Int), V.str l]) Tp = some (.tup [V.int ((i : Nat) : Int), V.str l]) := upd_same
    have sT := Same.upd nT (o := .tup [V.int ((i : Nat) : Int), V.str l])
    generalize upd H5 Tp (.tup [V.int ((i : Nat) : Int), V.str l]) = H6 at *
    have s6 := s5.trans sT
    have hL6 := sT _ _ hL5
    have hF6 := sT _ _ hF5
    refine ⟨Tp, _, rfl, SqT.of eT, rfl, ?_⟩
    refine ⟨_, _, rfl, ?_⟩
    refine ⟨_, _, rfl, ?_⟩
    refine ⟨rfl, ?_⟩
    walk_at "rl"
    refine ⟨str_line (by omega), ?_⟩
    walk_at "rl"
    have esn : lines.take (i + 1) = lines.take i ++ [l] := by
      rw [List.take_succ, hl]
      rfl
    have elen : (lines.take i).length = i := by rw [List.length_take]; omega
    have eans : Ds.answers mk 1 (lines.take (i + 1)) = Ds.answers mk 1 (lines.take i) ++ Ds.line mk (1 + i) l := by
      rw [esn, Ds.answers_snoc, elen]
    have skip : Ds.passed (Txt.stripChars l (Str.ofString " ")) → Ds.answers mk 1 (lines.take (i + 1)) = Ds.answers mk 1 (lines.take i) := fun h => by
      rw [eans]
      unfold Ds.line
      rw [if_pos (show Ds.passed (Ds.strip l) from h), List.append_nil]
    refine ifNn (fun c0 => ?_) (fun c0 => ?_)
    rotate_left
    · exact ⟨_, _, _, _, rfl, s6, hL6, by rw [skip (.inl (str_inj c0))]; exact hF6⟩
    walk_at "rl"
    rw [Ds.starts_hash]
    refine ifNn (fun c1 => ?_) (fun c1 => ?_)
    rotate_left
    · exact ⟨_, _, _, _, rfl, s6, hL6, by rw [skip (.inr c1)]; exact hF6⟩
    have go : Ds.answers mk 1 (lines.take (i + 1)) = Ds.answers mk 1 (lines.take i) ++ [Wd.num (i + 1) ++ mk ++ Ds.ansS (Ds.ans (Ds.strip l))] := by
      rw [eans]
      unfold Ds.line
      rw [if_neg (show ¬ Ds.passed (Ds.strip l) from fun h => h.elim (fun z => c0 (congrArg V.str z)) c1), Nat.add_comm 1 i]
    have hsl2 : (Ds.strip l).length ≤ 4000 := Nat.le_trans (len_stripChars l _) (by omega)
    have eS : Txt.stripChars l (Str.ofString " ") = Ds.strip l := rfl
    rw [eS]
    generalize Ds.strip l = z at *
    have top6 := hF6
    walk_at "rl"
    refine ⟨num_log (by omega), ?_⟩
    walk_at "rl"
    have eN : Str.ofString (toString ((i + 1 : Nat) : Int)) = Wd.num (i + 1) := rfl
    have hnl := num_len7 (n := i + 1) (by omega)
    have hal := ans_len (z := z)
    rw [eN]
    refine ⟨str_line (by omega), ?_⟩
    walk_at "rl"
    refine ⟨by omega, fun H7 s7 => ?_⟩
    walk_at "rl"
    refine ⟨str_line (by rw [app_len]; omega), ?_⟩
    have hacc := answers_len mk (lines.take i) 1
    refine ⟨F, _, _, rfl, rfl, s7 _ _ hF6, mil_line (by rw [SL_length]; omega), ?_⟩
    have s8 : Same H2 (upd H7 F (.lst (SL (Ds.answers mk 1 (lines.take i)) ++ [.str (Wd.num (i + 1) ++ mk ++ Ds.ansS (Ds.ans z))]))) := Same.put (s6.trans s7) nF
    have hF8 : upd H7 F (.lst (SL (Ds.answers mk 1 (lines.take i)) ++ [.str (Wd.num (i + 1) ++ mk ++ Ds.ansS (Ds.ans z))])) F = some (.lst (SL (Ds.answers mk 1 (lines.take (i + 1))))) := by rw [upd_same, go, SL_snoc]
    have hL8 : upd H7 F (.lst (SL (Ds.answers mk 1 (lines.take i)) ++ [.str (Wd.num (i + 1) ++ mk ++ Ds.ansS (Ds.ans z))])) L = some (.lst (SL lines)) := by rw [upd_ne LF]; exact s7 _ _ hL6
    generalize upd H7 F (.lst (SL (Ds.answers mk 1 (lines.take i)) ++ [.str (Wd.num (i + 1) ++ mk ++ Ds.ansS (Ds.ans z))])) = H8 at *
    obtain ⟨h, r, eh, sh, lh⟩ := Ln.part0 (z := z)
    have lb : (Str.ofString " ").length = 1 := by rw [TL.len_tl, TL.tl_ofString]; rfl
    walk_at "rl"
    refine ⟨str_line (by omega), fun Pp nPp => ?_⟩
    have eP : upd H8 Pp (.tup [V.str (Txt.partition z (Str.ofString ":")).1, V.str (Txt.partition z (Str.ofString ":")).2.1, V.str (Txt.partition z (Str.ofString ":")).2.2]) Pp = some (.tup [V.str (Txt.partition z (Str.ofString ":")).1, V.str (Txt.partition z (Str.ofString ":")).2.1, V.str (Txt.partition z (Str.ofString ":")).2.2]) := upd_same
    have sP := Same.upd nPp (o := .tup [V.str (Txt.partition z (Str.ofString ":")).1, V.str (Txt.partition z (Str.ofString ":")).2.1, V.str (Txt.partition z (Str.ofString ":")).2.2])
    generalize upd H8 Pp (.tup [V.str (Txt.partition z (Str.ofString ":")).1, V.str (Txt.partition z (Str.ofString ":")).2.1, V.str (Txt.partition z (Str.ofString ":")).2.2]) = H9 at *
    rw [eh] at eP
    walk_at "rl"
    refine ⟨Pp, _, _, _, rfl, rfl, SqT.of eP, atI_nat (j := 0) rfl, ?_⟩
    walk_at "rl"
    refine ⟨by omega, fun H10 s10 => ?_⟩
    walk_at "rl"
    refine ⟨str_line (by omega), ?_⟩
    walk_at "rl"
    refine ⟨str_line (by rw [app_len]; omega), ?_⟩
    walk_at "rl"
    refine ⟨by rw [app_len, app_len]; omega, fun H11 s11 => ?_⟩
    walk_at "rl"
    refine ⟨str_line (by omega), ?_⟩
    walk_at "rl"
    refine ⟨by rw [app_len]; omega, by rw [TL.tl_append, Ln.nl_tl]; simp, fun H12 s12 => ?_⟩
    have s812 := sP.trans (s10.trans (s11.trans s12))
    walk_at "rl"
    exact ⟨_, _, _, _, rfl, s8.trans s812, s812 _ _ hL8, s812 _ _ hF8⟩
  rintro σ H5 ⟨v6, v7, v8, v9, rfl, s5, hL5, hF5⟩
  rw [SL_length, List.take_length, ← an1] at hF5
  have lnl : (x ++ Str.ofString "\n").length ≤ 4001 := by rw [app_len, ln1]; omega
  have okm := Ds.answers_ok gm (Txt.lines x) 1
  rw [← an1] at an2
  generalize edue : Ds.answers mk 1 (Txt.lines x) = due at *
  refine ⟨fun σ' H' => Hd (σ' = [some (.ref a), some (.ref D), none, some (.str mk), some (.str x), some (.ref F), v6, v7, v8, v9, none] ∧ Same H5 H'), ?_, ?_⟩
  rotate_left
  · walk_at "rl"
    refine ifN (fun c0 => ?_) (fun c0 => Hd.mk ⟨rfl, Same.refl _⟩)
    have emk := str_inj c0
    walk_at "rl"
    refine ⟨x, _, rfl, by omega, lit_len (by decide), fun A H6 s6 nA hA => ?_⟩
    rw [← emk, edue] at hA
    walk_at "rl"
    refine ⟨A, F, due, due, rfl, rfl, SqL.of hA, SqL.of (s6 _ _ hF5), okm, okm, ?_⟩
    rw [decide_eq_true rfl]
    walk_at "rl"
    exact Hd.mk ⟨rfl, s6⟩
  intro σ6 H6 hh
  obtain ⟨rfl, s6⟩ := hh.out
  clear hh
  have hF6 := s6 _ _ hF5
  walk_at "rl"
  refine ⟨x, mk, rfl, by omega, by omega, fun A H7 s7 nA hA => ?_⟩
  rw [edue] at hA
  have hF7 := s7 _ _ hF6
  walk_at "rl"
  refine ⟨_, _, _, _, true, rfl, .ty _, .base (.lst hA), kit_ty (by decide +kernel), ?_⟩
  walk_at "rl"
  refine ⟨A, F, due, due, rfl, rfl, SqL.of hA, SqL.of hF7, okm, okm, ?_⟩
  rw [decide_eq_true rfl]
  walk_at "rl"
  refine ⟨str_line (by omega), ?_⟩
  walk_at "rl"
  refine ⟨_, mk, rfl, by omega, by omega, fun A2 H8 s8 nA2 hA2 => ?_⟩
  rw [an2] at hA2
  walk_at "rl"
  refine ⟨A2, F, due, due, rfl, rfl, SqL.of hA2, SqL.of (s8 _ _ hF7), okm, okm, ?_⟩
  rw [decide_eq_true rfl]
  exact q H8

end
theorem txt_mk0 {K : PySem.W.Frag} {h : Heap} {mg : Str → Option Value} (X : K.In h) (G : h.Ns mainGlobals mg) (c : He.SaysD fa fn K) (cx : (fx.all fun f => f K) = true) : Txt0 K mg where
  n_isinstance := He.free_ok X G (c.fact 0 (f := .free "isinstance") rfl)
  n_int := He.free_ok X G (c.fact 1 (f := .free "int") rfl)
  n_bool := He.free_ok X G (c.fact 2 (f := .free "bool") rfl)
  n_len := He.free_ok X G (c.fact 3 (f := .free "len") rfl)
  g_is_whole := He.glo_ok X G (c.fact 4 (f := .glo "is_whole") rfl)
  c_MOST := He.int_ok X G (c.fact 5 (f := .int "MOST" 100) rfl)
  x_NotAPlace := He.exc_ok (c.fact 6 (f := .exc "NotAPlace") rfl)
  g_NotAPlace := He.glo_ok X G (c.fact 7 (f := .glo "NotAPlace") rfl)
  g_least_lacking := He.glo_ok X G (c.fact 8 (f := .glo "least_lacking") rfl)
  n_range := He.free_ok X G (c.fact 9 (f := .free "range") rfl)
  n_reversed := He.free_ok X G (c.fact 10 (f := .free "reversed") rfl)
  n_list := He.free_ok X G (c.fact 11 (f := .free "list") rfl)
  g_longer := He.glo_ok X G (c.fact 12 (f := .glo "longer") rfl)
  n_tuple := He.free_ok X G (c.fact 13 (f := .free "tuple") rfl)
  x_NotAGame := He.exc_ok (c.fact 14 (f := .exc "NotAGame") rfl)
  g_NotAGame := He.glo_ok X G (c.fact 15 (f := .glo "NotAGame") rfl)
  c_GREATEST := He.int_ok X G (c.fact 16 (f := .int "GREATEST" 12) rfl)
  m_Heap___init__ := He.meth_ok (c.fact 17 (f := .meth "Heap" "__init__") rfl)
  g_Heap := He.glo_ok X G (c.fact 18 (f := .glo "Heap") rfl)
  g_asked_limits := He.glo_ok X G (c.fact 19 (f := .glo "asked_limits") rfl)
  g_Game := He.glo_ok X G (c.fact 20 (f := .glo "Game") rfl)
  n_str := He.free_ok X G (c.fact 21 (f := .free "str") rfl)
  g_Taking := He.glo_ok X G (c.fact 22 (f := .glo "Taking") rfl)
  cl_Game := He.cls_ok (c.fact 23 (f := .cls "Game") rfl)
theorem txt_mk1 {K : PySem.W.Frag} {h : Heap} {mg : Str → Option Value} (X : K.In h) (G : h.Ns mainGlobals mg) (c : He.SaysD fa fn K) (cx : (fx.all fun f => f K) = true) : Txt1 K mg where
  cl_Heap := He.cls_ok (c.fact 24 (f := .cls "Heap") rfl)
  cl_Taking := He.cls_ok (c.fact 25 (f := .cls "Taking") rfl)
  cl_Skittles := He.cls_ok (c.fact 26 (f := .cls "Skittles") rfl)
  cl_Parting := He.cls_ok (c.fact 27 (f := .cls "Parting") rfl)
  cl_Runs := He.cls_ok (c.fact 28 (f := .cls "Runs") rfl)
  cl_Pairs := He.cls_ok (c.fact 29 (f := .cls "Pairs") rfl)
  cl_Few := He.cls_ok (c.fact 30 (f := .cls "Few") rfl)
  na_Game_known := He.noat_ok (c.fact 31 (f := .noat "Game" "known") rfl)
  na_Heap_known := He.noat_ok (c.fact 32 (f := .noat "Heap" "known") rfl)
  na_Taking_known := He.noat_ok (c.fact 33 (f := .noat "Taking" "known") rfl)
  na_Skittles_known := He.noat_ok (c.fact 34 (f := .noat "Skittles" "known") rfl)
  na_Parting_known := He.noat_ok (c.fact 35 (f := .noat "Parting" "known") rfl)
  na_Runs_known := He.noat_ok (c.fact 36 (f := .noat "Runs" "known") rfl)
  na_Pairs_known := He.noat_ok (c.fact 37 (f := .noat "Pairs" "known") rfl)
  na_Few_known := He.noat_ok (c.fact 38 (f := .noat "Few" "known") rfl)
  na_Game_limits := He.noat_ok (c.fact 39 (f := .noat "Game" "limits") rfl)
  na_Heap_limits := He.noat_ok (c.fact 40 (f := .noat "Heap" "limits") rfl)
  na_Taking_limits := He.noat_ok (c.fact 41 (f := .noat "Taking" "limits") rfl)
  na_Skittles_limits := He.noat_ok (c.fact 42 (f := .noat "Skittles" "limits") rfl)
  na_Parting_limits := He.noat_ok (c.fact 43 (f := .noat "Parting" "limits") rfl)
  na_Runs_limits := He.noat_ok (c.fact 44 (f := .noat "Runs" "limits") rfl)
  na_Pairs_limits := He.noat_ok (c.fact 45 (f := .noat "Pairs" "limits") rfl)
  na_Few_limits := He.noat_ok (c.fact 46 (f := .noat "Few" "limits") rfl)
  na_Game_most := He.noat_ok (c.fact 47 (f := .noat "Game" "most") rfl)
theorem txt_mk2 {K : PySem.W.Frag} {h : Heap} {mg : Str → Option Value} (X : K.In h) (G : h.Ns mainGlobals mg) (c : He.SaysD fa fn K) (cx : (fx.all fun f => f K) = true) : Txt2 K mg where
  na_Heap_most := He.noat_ok (c.fact 48 (f := .noat "Heap" "most") rfl)
  na_Taking_most := He.noat_ok (c.fact 49 (f := .noat "Taking" "most") rfl)
  na_Skittles_most := He.noat_ok (c.fact 50 (f := .noat "Skittles" "most") rfl)
  na_Parting_most := He.noat_ok (c.fact 51 (f := .noat "Parting" "most") rfl)
  na_Runs_most := He.noat_ok (c.fact 52 (f := .noat "Runs" "most") rfl)
  na_Pairs_most := He.noat_ok (c.fact 53 (f := .noat "Pairs" "most") rfl)
  na_Few_most := He.noat_ok (c.fact 54 (f := .noat "Few" "most") rfl)
  na_Game_rows := He.noat_ok (c.fact 55 (f := .noat "Game" "rows") rfl)
  na_Heap_rows := He.noat_ok (c.fact 56 (f := .noat "Heap" "rows") rfl)
  na_Taking_rows := He.noat_ok (c.fact 57 (f := .noat "Taking" "rows") rfl)
  na_Skittles_rows := He.noat_ok (c.fact 58 (f := .noat "Skittles" "rows") rfl)
  na_Parting_rows := He.noat_ok (c.fact 59 (f := .noat "Parting" "rows") rfl)
  na_Runs_rows := He.noat_ok (c.fact 60 (f := .noat "Runs" "rows") rfl)
  na_Pairs_rows := He.noat_ok (c.fact 61 (f := .noat "Pairs" "rows") rfl)
  na_Few_rows := He.noat_ok (c.fact 62 (f := .noat "Few" "rows") rfl)
  m_Taking_rests := He.meth_ok (c.fact 63 (f := .meth "Taking" "rests") rfl)
  m_Skittles_rests := He.meth_ok (c.fact 64 (f := .meth "Skittles" "rests") rfl)
  m_Game_leads := He.meth_ok (c.fact 65 (f := .meth "Game" "leads") rfl)
  m_Heap_leads := He.meth_ok (c.fact 66 (f := .meth "Heap" "leads") rfl)
  m_Taking_leads := He.meth_ok (c.fact 67 (f := .meth "Taking" "leads") rfl)
  m_Skittles_leads := He.meth_ok (c.fact 68 (f := .meth "Skittles" "leads") rfl)
  m_Parting_leads := He.meth_ok (c.fact 69 (f := .meth "Parting" "leads") rfl)
  m_Runs_leads := He.meth_ok (c.fact 70 (f := .meth "Runs" "leads") rfl)
  m_Pairs_leads := He.meth_ok (c.fact 71 (f := .meth "Pairs" "leads") rfl)
theorem txt_mk3 {K : PySem.W.Frag} {h : Heap} {mg : Str → Option Value} (X : K.In h) (G : h.Ns mainGlobals mg) (c : He.SaysD fa fn K) (cx : (fx.all fun f => f K) = true) : Txt3 K mg where
  m_Few_leads := He.meth_ok (c.fact 72 (f := .meth "Few" "leads") rfl)
  m_Game_together := He.meth_ok (c.fact 73 (f := .meth "Game" "together") rfl)
  m_Heap_together := He.meth_ok (c.fact 74 (f := .meth "Heap" "together") rfl)
  m_Taking_together := He.meth_ok (c.fact 75 (f := .meth "Taking" "together") rfl)
  m_Skittles_together := He.meth_ok (c.fact 76 (f := .meth "Skittles" "together") rfl)
  m_Parting_together := He.meth_ok (c.fact 77 (f := .meth "Parting" "together") rfl)
  m_Runs_together := He.meth_ok (c.fact 78 (f := .meth "Runs" "together") rfl)
  m_Pairs_together := He.meth_ok (c.fact 79 (f := .meth "Pairs" "together") rfl)
  m_Few_together := He.meth_ok (c.fact 80 (f := .meth "Few" "together") rfl)
  m_Game_number := He.meth_ok (c.fact 81 (f := .meth "Game" "number") rfl)
  m_Heap_number := He.meth_ok (c.fact 82 (f := .meth "Heap" "number") rfl)
  m_Taking_number := He.meth_ok (c.fact 83 (f := .meth "Taking" "number") rfl)
  m_Skittles_number := He.meth_ok (c.fact 84 (f := .meth "Skittles" "number") rfl)
  m_Parting_number := He.meth_ok (c.fact 85 (f := .meth "Parting" "number") rfl)
  m_Runs_number := He.meth_ok (c.fact 86 (f := .meth "Runs" "number") rfl)
  m_Pairs_number := He.meth_ok (c.fact 87 (f := .meth "Pairs" "number") rfl)
  m_Few_number := He.meth_ok (c.fact 88 (f := .meth "Few" "number") rfl)
  m_Game_numbers := He.meth_ok (c.fact 89 (f := .meth "Game" "numbers") rfl)
  m_Heap_numbers := He.meth_ok (c.fact 90 (f := .meth "Heap" "numbers") rfl)
  m_Taking_numbers := He.meth_ok (c.fact 91 (f := .meth "Taking" "numbers") rfl)
  m_Skittles_numbers := He.meth_ok (c.fact 92 (f := .meth "Skittles" "numbers") rfl)
  m_Parting_numbers := He.meth_ok (c.fact 93 (f := .meth "Parting" "numbers") rfl)
  m_Runs_numbers := He.meth_ok (c.fact 94 (f := .meth "Runs" "numbers") rfl)
  m_Pairs_numbers := He.meth_ok (c.fact 95 (f := .meth "Pairs" "numbers") rfl)
theorem txt_mk4 {K : PySem.W.Frag} {h : Heap} {mg : Str → Option Value} (X : K.In h) (G : h.Ns mainGlobals mg) (c : He.SaysD fa fn K) (cx : (fx.all fun f => f K) = true) : Txt4 K mg where
  m_Few_numbers := He.meth_ok (c.fact 96 (f := .meth "Few" "numbers") rfl)
  m_Game_value := He.meth_ok (c.fact 97 (f := .meth "Game" "value") rfl)
  m_Heap_value := He.meth_ok (c.fact 98 (f := .meth "Heap" "value") rfl)
  m_Taking_value := He.meth_ok (c.fact 99 (f := .meth "Taking" "value") rfl)
  m_Skittles_value := He.meth_ok (c.fact 100 (f := .meth "Skittles" "value") rfl)
  m_Parting_value := He.meth_ok (c.fact 101 (f := .meth "Parting" "value") rfl)
  m_Runs_value := He.meth_ok (c.fact 102 (f := .meth "Runs" "value") rfl)
  m_Pairs_value := He.meth_ok (c.fact 103 (f := .meth "Pairs" "value") rfl)
  m_Few_value := He.meth_ok (c.fact 104 (f := .meth "Few" "value") rfl)
  m_Game_winning := He.meth_ok (c.fact 105 (f := .meth "Game" "winning") rfl)
  m_Heap_winning := He.meth_ok (c.fact 106 (f := .meth "Heap" "winning") rfl)
  m_Taking_winning := He.meth_ok (c.fact 107 (f := .meth "Taking" "winning") rfl)
  m_Skittles_winning := He.meth_ok (c.fact 108 (f := .meth "Skittles" "winning") rfl)
  m_Parting_winning := He.meth_ok (c.fact 109 (f := .meth "Parting" "winning") rfl)
  m_Runs_winning := He.meth_ok (c.fact 110 (f := .meth "Runs" "winning") rfl)
  m_Pairs_winning := He.meth_ok (c.fact 111 (f := .meth "Pairs" "winning") rfl)
  m_Few_winning := He.meth_ok (c.fact 112 (f := .meth "Few" "winning") rfl)
  m_Game_name := He.meth_ok (c.fact 113 (f := .meth "Game" "name") rfl)
  m_Heap_name := He.meth_ok (c.fact 114 (f := .meth "Heap" "name") rfl)
  m_Taking_name := He.meth_ok (c.fact 115 (f := .meth "Taking" "name") rfl)
  m_Skittles_name := He.meth_ok (c.fact 116 (f := .meth "Skittles" "name") rfl)
  m_Parting_name := He.meth_ok (c.fact 117 (f := .meth "Parting" "name") rfl)
  m_Runs_name := He.meth_ok (c.fact 118 (f := .meth "Runs" "name") rfl)
  m_Pairs_name := He.meth_ok (c.fact 119 (f := .meth "Pairs" "name") rfl)
theorem txt_mk5 {K : PySem.W.Frag} {h : Heap} {mg : Str → Option Value} (X : K.In h) (G : h.Ns mainGlobals mg) (c : He.SaysD fa fn K) (cx : (fx.all fun f => f K) = true) : Txt5 K mg where
  m_Few_name := He.meth_ok (c.fact 120 (f := .meth "Few" "name") rfl)
  m_Game___init__ := He.meth_ok (c.fact 121 (f := .meth "Game" "__init__") rfl)
  m_Taking___init__ := He.meth_ok (c.fact 122 (f := .meth "Taking" "__init__") rfl)
  m_Skittles___init__ := He.meth_ok (c.fact 123 (f := .meth "Skittles" "__init__") rfl)
  m_Parting___init__ := He.meth_ok (c.fact 124 (f := .meth "Parting" "__init__") rfl)
  m_Runs___init__ := He.meth_ok (c.fact 125 (f := .meth "Runs" "__init__") rfl)
  m_Pairs___init__ := He.meth_ok (c.fact 126 (f := .meth "Pairs" "__init__") rfl)
  m_Few___init__ := He.meth_ok (c.fact 127 (f := .meth "Few" "__init__") rfl)
  g_NotWritten := He.glo_ok X G (c.fact 128 (f := .glo "NotWritten") rfl)
  x_NotWritten := He.exc_ok (c.fact 129 (f := .exc "NotWritten") rfl)
  mk_Game := He.mkr_ok (c.fact 130 (f := .mkr "Game") rfl)
  mk_Heap := He.mkr_ok (c.fact 131 (f := .mkr "Heap") rfl)
  mk_Parting := He.mkr_ok (c.fact 132 (f := .mkr "Parting") rfl)
  g_Parting := He.glo_ok X G (c.fact 133 (f := .glo "Parting") rfl)
  mk_Runs := He.mkr_ok (c.fact 134 (f := .mkr "Runs") rfl)
  g_Runs := He.glo_ok X G (c.fact 135 (f := .glo "Runs") rfl)
  mk_Pairs := He.mkr_ok (c.fact 136 (f := .mkr "Pairs") rfl)
  g_Pairs := He.glo_ok X G (c.fact 137 (f := .glo "Pairs") rfl)
  g_BARE := He.glo_ok X G (c.fact 138 (f := .glo "BARE") rfl)
  g_bare_game := He.glo_ok X G (c.fact 139 (f := .glo "bare_game") rfl)
  g_figures_of := He.glo_ok X G (c.fact 140 (f := .glo "figures_of") rfl)
  mk_Taking := He.mkr_ok (c.fact 141 (f := .mkr "Taking") rfl)
  mk_Skittles := He.mkr_ok (c.fact 142 (f := .mkr "Skittles") rfl)
  g_Skittles := He.glo_ok X G (c.fact 143 (f := .glo "Skittles") rfl)
theorem txt_mk6 {K : PySem.W.Frag} {h : Heap} {mg : Str → Option Value} (X : K.In h) (G : h.Ns mainGlobals mg) (c : He.SaysD fa fn K) (cx : (fx.all fun f => f K) = true) : Txt6 K mg where
  mk_Few := He.mkr_ok (c.fact 144 (f := .mkr "Few") rfl)
  g_Few := He.glo_ok X G (c.fact 145 (f := .glo "Few") rfl)
  g_game_told := He.glo_ok X G (c.fact 146 (f := .glo "game_told") rfl)
  g_turn_told := He.glo_ok X G (c.fact 147 (f := .glo "turn_told") rfl)
  n_enumerate := He.free_ok X G (c.fact 148 (f := .free "enumerate") rfl)
  e_NotAPlace_NotAPlace := He.exm_ok (c.fact 149 (f := .exm "NotAPlace" "NotAPlace" true) rfl)
  e_NotAGame_NotAPlace := He.exm_ok (c.fact 150 (f := .exm "NotAGame" "NotAPlace" false) rfl)
  e_NotWritten_NotAPlace := He.exm_ok (c.fact 151 (f := .exm "NotWritten" "NotAPlace" false) rfl)
  e_NotAPlace_NotAGame := He.exm_ok (c.fact 152 (f := .exm "NotAPlace" "NotAGame" false) rfl)
  e_NotAGame_NotAGame := He.exm_ok (c.fact 153 (f := .exm "NotAGame" "NotAGame" true) rfl)
  e_NotWritten_NotAGame := He.exm_ok (c.fact 154 (f := .exm "NotWritten" "NotAGame" false) rfl)
  e_NotAPlace_HouseError := He.exm_ok (c.fact 155 (f := .exm "NotAPlace" "HouseError" true) rfl)
  e_NotAGame_HouseError := He.exm_ok (c.fact 156 (f := .exm "NotAGame" "HouseError" true) rfl)
  e_NotWritten_HouseError := He.exm_ok (c.fact 157 (f := .exm "NotWritten" "HouseError" true) rfl)
  g_line_answered := He.glo_ok X G (c.fact 158 (f := .glo "line_answered") rfl)
  g_HouseError := He.glo_ok X G (c.fact 159 (f := .glo "HouseError") rfl)
  g__law_value := He.glo_ok X G (c.fact 160 (f := .glo "_law_value") rfl)
  g__law_bare := He.glo_ok X G (c.fact 161 (f := .glo "_law_bare") rfl)
  g__law_figures := He.glo_ok X G (c.fact 162 (f := .glo "_law_figures") rfl)
  g__law_limits_good := He.glo_ok X G (c.fact 163 (f := .glo "_law_limits_good") rfl)
  g__law_words := He.glo_ok X G (c.fact 164 (f := .glo "_law_words") rfl)
  g__law_game := He.glo_ok X G (c.fact 165 (f := .glo "_law_game") rfl)
  n_max := He.free_ok X G (c.fact 166 (f := .free "max") rfl)
  g__law_turn := He.glo_ok X G (c.fact 167 (f := .glo "_law_turn") rfl)
theorem txt_mk7 {K : PySem.W.Frag} {h : Heap} {mg : Str → Option Value} (X : K.In h) (G : h.Ns mainGlobals mg) (c : He.SaysD fa fn K) (cx : (fx.all fun f => f K) = true) : Txt7 K mg where
  g__law_digits := He.glo_ok X G (c.fact 168 (f := .glo "_law_digits") rfl)
  g__law_cell_at := He.glo_ok X G (c.fact 169 (f := .glo "_law_cell_at") rfl)
  g__law_built := He.glo_ok X G (c.fact 170 (f := .glo "_law_built") rfl)
  g__law_changed := He.glo_ok X G (c.fact 171 (f := .glo "_law_changed") rfl)
  n_min := He.free_ok X G (c.fact 172 (f := .free "min") rfl)
  g__law_line := He.glo_ok X G (c.fact 173 (f := .glo "_law_line") rfl)
  g__law_answer := He.glo_ok X G (c.fact 174 (f := .glo "_law_answer") rfl)
  g__law_named := He.glo_ok X G (c.fact 175 (f := .glo "_law_named") rfl)
  g__law_not_written := He.glo_ok X G (c.fact 176 (f := .glo "_law_not_written") rfl)
  g_answered := He.glo_ok X G (c.fact 177 (f := .glo "answered") rfl)
  g_law := He.glo_ok X G (c.fact 178 (f := .glo "law") rfl)
  cf_Heap___init__ := clsf_ok (fx_at cx 0 (f := clsfB "Heap" "__init__") rfl)
  cf_Game___init__ := clsf_ok (fx_at cx 1 (f := clsfB "Game" "__init__") rfl)
  cf_Taking_name := clsf_ok (fx_at cx 2 (f := clsfB "Taking" "name") rfl)
  xc_NotAGame := exc_c (fx_at cx 3 (f := excB "NotAGame") rfl)
  kt_NotAGame_ValueError := of_decide_eq_true (fx_at cx 4 (f := kitBT "NotAGame" "ValueError" true) rfl)
  k_NotAGame_NotAGame := of_decide_eq_true (fx_at cx 5 (f := kitB2 "NotAGame" "NotAGame" true) rfl)
  k_NotAGame_NotWritten := of_decide_eq_true (fx_at cx 6 (f := kitB2 "NotAGame" "NotWritten" false) rfl)
  xc_NotWritten := exc_c (fx_at cx 7 (f := excB "NotWritten") rfl)
  kt_NotWritten_ValueError := of_decide_eq_true (fx_at cx 8 (f := kitBT "NotWritten" "ValueError" true) rfl)
  k_NotWritten_NotAGame := of_decide_eq_true (fx_at cx 9 (f := kitB2 "NotWritten" "NotAGame" false) rfl)
  k_NotWritten_NotWritten := of_decide_eq_true (fx_at cx 10 (f := kitB2 "NotWritten" "NotWritten" true) rfl)
  tup_BARE := tup_ok (fx_at cx 11 (f := tupB "BARE" [Str.ofString "still", Str.ofString "heap", Str.ofString "parting", Str.ofString "runs", Str.ofString "pairs"]) rfl)
  f_is_whole := c.def_ 0 rfl
theorem txt_mk8 {K : PySem.W.Frag} {h : Heap} {mg : Str → Option Value} (X : K.In h) (G : h.Ns mainGlobals mg) (c : He.SaysD fa fn K) (cx : (fx.all fun f => f K) = true) : Txt8 K mg where
  f__law_cell_at := c.def_ 1 rfl
  f_least_lacking := c.def_ 2 rfl
  f_Heap_leads := c.def_ 3 rfl
  f_Pairs_leads := c.def_ 4 rfl
  f_Parting_leads := c.def_ 5 rfl
  f_Taking_leads := c.def_ 6 rfl
  f_Skittles_leads := c.def_ 7 rfl
  f_Runs_leads := c.def_ 8 rfl
  f_longer := c.def_ 9 rfl
  f_Few_leads := c.def_ 10 rfl
  f_asked_limits := c.def_ 11 rfl
  f_Heap___init__ := c.def_ 12 rfl
  f_Game_name := c.def_ 13 rfl
  f_Heap_name := c.def_ 14 rfl
  f_Parting_name := c.def_ 15 rfl
  f_Runs_name := c.def_ 16 rfl
  f_Pairs_name := c.def_ 17 rfl
  f_Few_name := c.def_ 18 rfl
  f_Taking_name := c.def_ 19 rfl
  f_Skittles_name := c.def_ 20 rfl
  f_Taking_rests := c.def_ 21 rfl
  f_Skittles_rests := c.def_ 22 rfl
  f_Game_leads := c.def_ 23 rfl
  f_Game_together := c.def_ 24 rfl
theorem txt_mk9 {K : PySem.W.Frag} {h : Heap} {mg : Str → Option Value} (X : K.In h) (G : h.Ns mainGlobals mg) (c : He.SaysD fa fn K) (cx : (fx.all fun f => f K) = true) : Txt9 K mg where
  f_Heap_together := c.def_ 25 rfl
  f_Taking_together := c.def_ 26 rfl
  f_Skittles_together := c.def_ 27 rfl
  f_Parting_together := c.def_ 28 rfl
  f_Runs_together := c.def_ 29 rfl
  f_Pairs_together := c.def_ 30 rfl
  f_Few_together := c.def_ 31 rfl
  f_Game_number := c.def_ 32 rfl
  f_Heap_number := c.def_ 33 rfl
  f_Taking_number := c.def_ 34 rfl
  f_Skittles_number := c.def_ 35 rfl
  f_Parting_number := c.def_ 36 rfl
  f_Runs_number := c.def_ 37 rfl
  f_Pairs_number := c.def_ 38 rfl
  f_Few_number := c.def_ 39 rfl
  f_Game_numbers := c.def_ 40 rfl
  f_Heap_numbers := c.def_ 41 rfl
  f_Taking_numbers := c.def_ 42 rfl
  f_Skittles_numbers := c.def_ 43 rfl
  f_Parting_numbers := c.def_ 44 rfl
  f_Runs_numbers := c.def_ 45 rfl
  f_Pairs_numbers := c.def_ 46 rfl
  f_Few_numbers := c.def_ 47 rfl
  f_Game_value := c.def_ 48 rfl
theorem txt_mk10 {K : PySem.W.Frag} {h : Heap} {mg : Str → Option Value} (X : K.In h) (G : h.Ns mainGlobals mg) (c : He.SaysD fa fn K) (cx : (fx.all fun f => f K) = true) : Txt10 K mg where
  f_Heap_value := c.def_ 49 rfl
  f_Taking_value := c.def_ 50 rfl
  f_Skittles_value := c.def_ 51 rfl
  f_Parting_value := c.def_ 52 rfl
  f_Runs_value := c.def_ 53 rfl
  f_Pairs_value := c.def_ 54 rfl
  f_Few_value := c.def_ 55 rfl
  f_Game_winning := c.def_ 56 rfl
  f_Heap_winning := c.def_ 57 rfl
  f_Taking_winning := c.def_ 58 rfl
  f_Skittles_winning := c.def_ 59 rfl
  f_Parting_winning := c.def_ 60 rfl
  f_Runs_winning := c.def_ 61 rfl
  f_Pairs_winning := c.def_ 62 rfl
  f_Few_winning := c.def_ 63 rfl
  f_Game___init__ := c.def_ 64 rfl
  f_Taking___init__ := c.def_ 65 rfl
  f_Skittles___init__ := c.def_ 66 rfl
  f_Parting___init__ := c.def_ 67 rfl
  f_Runs___init__ := c.def_ 68 rfl
  f_Pairs___init__ := c.def_ 69 rfl
  f_Few___init__ := c.def_ 70 rfl
  f_figures_of := c.def_ 71 rfl
  f_bare_game := c.def_ 72 rfl
theorem txt_mk11 {K : PySem.W.Frag} {h : Heap} {mg : Str → Option Value} (X : K.In h) (G : h.Ns mainGlobals mg) (c : He.SaysD fa fn K) (cx : (fx.all fun f => f K) = true) : Txt11 K mg where
  f_game_told := c.def_ 73 rfl
  f_turn_told := c.def_ 74 rfl
  f_line_answered := c.def_ 75 rfl
  f_answered := c.def_ 76 rfl
  f__law_figures := c.def_ 77 rfl
  f__law_limits_good := c.def_ 78 rfl
  f__law_bare := c.def_ 79 rfl
  f__law_value := c.def_ 80 rfl
  f__law_turn := c.def_ 81 rfl
  f__law_words := c.def_ 82 rfl
  f__law_game := c.def_ 83 rfl
  f__law_answer := c.def_ 84 rfl
  f__law_named := c.def_ 85 rfl
  f__law_not_written := c.def_ 86 rfl
  f__law_digits := c.def_ 87 rfl
  f__law_built := c.def_ 88 rfl
  f__law_changed := c.def_ 89 rfl
  f__law_line := c.def_ 90 rfl
  f_law := c.def_ 91 rfl
theorem txt_mk {K : PySem.W.Frag} {h : Heap} {mg : Str → Option Value} (X : K.In h) (G : h.Ns mainGlobals mg) (c : He.SaysD fa fn K) (cx : (fx.all fun f => f K) = true) : Txt K mg := ⟨txt_mk0 X G c cx, txt_mk1 X G c cx, txt_mk2 X G c cx, txt_mk3 X G c cx, txt_mk4 X G c cx, txt_mk5 X G c cx, txt_mk6 X G c cx, txt_mk7 X G c cx, txt_mk8 X G c cx, txt_mk9 X G c cx, txt_mk10 X G c cx, txt_mk11 X G c cx⟩
theorem facts {P : Program} {w : World} {K : PySem.W.Frag} {h : Heap} {mg : Str → Option Value} {f : Addr} (X : K.In h) (G : h.Ns mainGlobals mg) (hfa : mg ("law" : Str) = some (.ref f)) (c : He.SaysD fa fn K) (cx : (fx.all fun f => f K) = true) :
    ∃ fd : FuncData, (∀ (s : Shared) (v : Value), BindsTo s fd ⟨[v], []⟩ [("_law_script", v)]) ∧ ∀ base : Heap, K.In base → base.Ns mainGlobals mg → FnOk P w K mg base CX0 28 f fd ["_law_script"] (few ["_law_script"] (spLaw K)) := by
  have T := txt_mk X G c cx
  have e := hfa.symm.trans T.g_law
  cases e
  obtain ⟨fd, F⟩ := T.f_law
  have b := FunD.bindsA (ps := ["_law_script"]) F fun _ _ _ _ _ _ us hl => match us, hl with | [_], _ => rfl
  refine ⟨fd, fun s v => b s [v] rfl, fun base _ _ => ?_⟩
  have d_is_whole := ok_is_whole (P := P) (w := w) (base := base) T 
  have d__law_cell_at := ok__law_cell_at (P := P) (w := w) (base := base) T 
  have d_least_lacking := ok_least_lacking (P := P) (w := w) (base := base) T 
  have d_Heap_leads := ok_Heap_leads (P := P) (w := w) (base := base) T 
  have d_Pairs_leads := ok_Pairs_leads (P := P) (w := w) (base := base) T 
  have d_Parting_leads := ok_Parting_leads (P := P) (w := w) (base := base) T 
  have d_Runs_leads := ok_Runs_leads (P := P) (w := w) (base := base) T 
  have d_longer := ok_longer (P := P) (w := w) (base := base) T 
  have d_asked_limits := ok_asked_limits (P := P) (w := w) (base := base) T d_is_whole
  have d_Game_name := ok_Game_name (P := P) (w := w) (base := base) T 
  have d_Heap_name := ok_Heap_name (P := P) (w := w) (base := base) T 
  have d_Parting_name := ok_Parting_name (P := P) (w := w) (base := base) T 
  have d_Runs_name := ok_Runs_name (P := P) (w := w) (base := base) T 
  have d_Pairs_name := ok_Pairs_name (P := P) (w := w) (base := base) T 
  have d_Taking_name := ok_Taking_name (P := P) (w := w) (base := base) T okK (games_ok T) kinds_ok
  have GG := games_ok T
  have DR : Disp P w K mg base CX0 5 "rests" (kC K) (fun k => okK k ∧ ∃ ls, lim k = some ls) ["self", "place"] (sp_rests K) := ⟨fun k h => GG.cls k h.1, fun k h => match k, h with | .still, h => by obtain ⟨_, _, e⟩ := h; cases e | .heap, h => by obtain ⟨_, _, e⟩ := h; cases e | .taking ls, h => ⟨_, T.m_Taking_rests, (ok_Taking_rests (P := P) (w := w) (base := base) T okK (games_ok T) (.taking ls) h.1 (He.ma K (He.ga K "Taking") "rests") T.f_Taking_rests).mono (by decide)⟩ | .skittles ls, h => ⟨_, T.m_Skittles_rests, (ok_Taking_rests (P := P) (w := w) (base := base) T okK (games_ok T) (.skittles ls) h.1 (He.ma K (He.ga K "Skittles") "rests") T.f_Skittles_rests).mono (by decide)⟩ | .parting, h => by obtain ⟨_, _, e⟩ := h; cases e | .runs, h => by obtain ⟨_, _, e⟩ := h; cases e | .pairs, h => by obtain ⟨_, _, e⟩ := h; cases e | .few m, h => by obtain ⟨_, _, e⟩ := h; cases e | .told rows, h => h.1.elim⟩
  have DL : Disp P w K mg base (L2.CX P w) 10 "leads" (kC K) okK ["self", "place"] (sp_leads K) := ⟨fun k h => GG.cls k h, fun k h => match k, h with | .still, h => ⟨_, T.m_Game_leads, (ok_Game_leads (P := P) (w := w) (base := base) T  (He.ma K (He.ga K "Game") "leads") T.f_Game_leads).mono (by decide)⟩ | .heap, h => ⟨_, T.m_Heap_leads, (ok_Heap_leads (P := P) (w := w) (base := base) T ).mono (by decide)⟩ | .taking ls, h => ⟨_, T.m_Taking_leads, (ok_Taking_leads (P := P) (w := w) (base := base) T okK kinds_ok DR ls h).mono (by decide)⟩ | .skittles ls, h => ⟨_, T.m_Skittles_leads, (ok_Skittles_leads (P := P) (w := w) (base := base) T okK kinds_ok DR ls h).mono (by decide)⟩ | .parting, h => ⟨_, T.m_Parting_leads, (ok_Parting_leads (P := P) (w := w) (base := base) T ).mono (by decide)⟩ | .runs, h => ⟨_, T.m_Runs_leads, (ok_Runs_leads (P := P) (w := w) (base := base) T ).mono (by decide)⟩ | .pairs, h => ⟨_, T.m_Pairs_leads, (ok_Pairs_leads (P := P) (w := w) (base := base) T ).mono (by decide)⟩ | .few m, h => ⟨_, T.m_Few_leads, (ok_Few_leads (P := P) (w := w) (base := base) T okK (games_ok T) kinds_ok m h d_longer).mono (by decide)⟩ | .told rows, h => h.elim⟩
  have DLc : Disp P w K mg base CX0 10 "leads" (kC K) okK ["self", "place"] (fun k vs H Q _ => sp_leads K k vs H Q E0) := DL.calm
  have DT : Disp P w K mg base CX0 10 "together" (kC K) okK ["self", "places"] (sp_together K) := ⟨fun k h => GG.cls k h, fun k h => match k, h with | .still, h => ⟨_, T.m_Game_together, (ok_Game_together (P := P) (w := w) (base := base) T okK (games_ok T) (.still) h (He.ma K (He.ga K "Game") "together") T.f_Game_together).mono (by decide)⟩ | .heap, h => ⟨_, T.m_Heap_together, (ok_Game_together (P := P) (w := w) (base := base) T okK (games_ok T) (.heap) h (He.ma K (He.ga K "Heap") "together") T.f_Heap_together).mono (by decide)⟩ | .taking ls, h => ⟨_, T.m_Taking_together, (ok_Game_together (P := P) (w := w) (base := base) T okK (games_ok T) (.taking ls) h (He.ma K (He.ga K "Taking") "together") T.f_Taking_together).mono (by decide)⟩ | .skittles ls, h => ⟨_, T.m_Skittles_together, (ok_Game_together (P := P) (w := w) (base := base) T okK (games_ok T) (.skittles ls) h (He.ma K (He.ga K "Skittles") "together") T.f_Skittles_together).mono (by decide)⟩ | .parting, h => ⟨_, T.m_Parting_together, (ok_Game_together (P := P) (w := w) (base := base) T okK (games_ok T) (.parting) h (He.ma K (He.ga K "Parting") "together") T.f_Parting_together).mono (by decide)⟩ | .runs, h => ⟨_, T.m_Runs_together, (ok_Game_together (P := P) (w := w) (base := base) T okK (games_ok T) (.runs) h (He.ma K (He.ga K "Runs") "together") T.f_Runs_together).mono (by decide)⟩ | .pairs, h => ⟨_, T.m_Pairs_together, (ok_Game_together (P := P) (w := w) (base := base) T okK (games_ok T) (.pairs) h (He.ma K (He.ga K "Pairs") "together") T.f_Pairs_together).mono (by decide)⟩ | .few m, h => ⟨_, T.m_Few_together, (ok_Game_together (P := P) (w := w) (base := base) T okK (games_ok T) (.few m) h (He.ma K (He.ga K "Few") "together") T.f_Few_together).mono (by decide)⟩ | .told rows, h => h.elim⟩
  have DN : Disp P w K mg base (L2.CX P w) 20 "number" (kC K) okK ["self", "place"] (sp_number K) := ⟨fun k h => GG.cls k h, fun k h => match k, h with | .still, h => ⟨_, T.m_Game_number, (ok_Game_number (P := P) (w := w) (base := base) T okK (games_ok T) kinds_ok DL DT (.still) h d_is_whole d_least_lacking (He.ma K (He.ga K "Game") "number") T.f_Game_number).mono (by decide)⟩ | .heap, h => ⟨_, T.m_Heap_number, (ok_Game_number (P := P) (w := w) (base := base) T okK (games_ok T) kinds_ok DL DT (.heap) h d_is_whole d_least_lacking (He.ma K (He.ga K "Heap") "number") T.f_Heap_number).mono (by decide)⟩ | .taking ls, h => ⟨_, T.m_Taking_number, (ok_Game_number (P := P) (w := w) (base := base) T okK (games_ok T) kinds_ok DL DT (.taking ls) h d_is_whole d_least_lacking (He.ma K (He.ga K "Taking") "number") T.f_Taking_number).mono (by decide)⟩ | .skittles ls, h => ⟨_, T.m_Skittles_number, (ok_Game_number (P := P) (w := w) (base := base) T okK (games_ok T) kinds_ok DL DT (.skittles ls) h d_is_whole d_least_lacking (He.ma K (He.ga K "Skittles") "number") T.f_Skittles_number).mono (by decide)⟩ | .parting, h => ⟨_, T.m_Parting_number, (ok_Game_number (P := P) (w := w) (base := base) T okK (games_ok T) kinds_ok DL DT (.parting) h d_is_whole d_least_lacking (He.ma K (He.ga K "Parting") "number") T.f_Parting_number).mono (by decide)⟩ | .runs, h => ⟨_, T.m_Runs_number, (ok_Game_number (P := P) (w := w) (base := base) T okK (games_ok T) kinds_ok DL DT (.runs) h d_is_whole d_least_lacking (He.ma K (He.ga K "Runs") "number") T.f_Runs_number).mono (by decide)⟩ | .pairs, h => ⟨_, T.m_Pairs_number, (ok_Game_number (P := P) (w := w) (base := base) T okK (games_ok T) kinds_ok DL DT (.pairs) h d_is_whole d_least_lacking (He.ma K (He.ga K "Pairs") "number") T.f_Pairs_number).mono (by decide)⟩ | .few m, h => ⟨_, T.m_Few_number, (ok_Game_number (P := P) (w := w) (base := base) T okK (games_ok T) kinds_ok DL DT (.few m) h d_is_whole d_least_lacking (He.ma K (He.ga K "Few") "number") T.f_Few_number).mono (by decide)⟩ | .told rows, h => h.elim⟩
  have DNc : Disp P w K mg base CX0 20 "number" (kC K) okK ["self", "place"] (sp_numC K) := DN.calm
  have DA : Disp P w K mg base (L2.CX P w) 21 "numbers" (kC K) okK ["self", "many"] (sp_numbers K) := ⟨fun k h => GG.cls k h, fun k h => match k, h with | .still, h => ⟨_, T.m_Game_numbers, (ok_Game_numbers (P := P) (w := w) (base := base) T okK kinds_ok DN (.still) h (He.ma K (He.ga K "Game") "numbers") T.f_Game_numbers).mono (by decide)⟩ | .heap, h => ⟨_, T.m_Heap_numbers, (ok_Game_numbers (P := P) (w := w) (base := base) T okK kinds_ok DN (.heap) h (He.ma K (He.ga K "Heap") "numbers") T.f_Heap_numbers).mono (by decide)⟩ | .taking ls, h => ⟨_, T.m_Taking_numbers, (ok_Game_numbers (P := P) (w := w) (base := base) T okK kinds_ok DN (.taking ls) h (He.ma K (He.ga K "Taking") "numbers") T.f_Taking_numbers).mono (by decide)⟩ | .skittles ls, h => ⟨_, T.m_Skittles_numbers, (ok_Game_numbers (P := P) (w := w) (base := base) T okK kinds_ok DN (.skittles ls) h (He.ma K (He.ga K "Skittles") "numbers") T.f_Skittles_numbers).mono (by decide)⟩ | .parting, h => ⟨_, T.m_Parting_numbers, (ok_Game_numbers (P := P) (w := w) (base := base) T okK kinds_ok DN (.parting) h (He.ma K (He.ga K "Parting") "numbers") T.f_Parting_numbers).mono (by decide)⟩ | .runs, h => ⟨_, T.m_Runs_numbers, (ok_Game_numbers (P := P) (w := w) (base := base) T okK kinds_ok DN (.runs) h (He.ma K (He.ga K "Runs") "numbers") T.f_Runs_numbers).mono (by decide)⟩ | .pairs, h => ⟨_, T.m_Pairs_numbers, (ok_Game_numbers (P := P) (w := w) (base := base) T okK kinds_ok DN (.pairs) h (He.ma K (He.ga K "Pairs") "numbers") T.f_Pairs_numbers).mono (by decide)⟩ | .few m, h => ⟨_, T.m_Few_numbers, (ok_Game_numbers (P := P) (w := w) (base := base) T okK kinds_ok DN (.few m) h (He.ma K (He.ga K "Few") "numbers") T.f_Few_numbers).mono (by decide)⟩ | .told rows, h => h.elim⟩
  have DAc : Disp P w K mg base CX0 21 "numbers" (kC K) okK ["self", "many"] (fun k vs H Q _ => sp_numbers K k vs H Q E0) := DA.calm
  have DV : Disp P w K mg base (L2.CX P w) 22 "value" (kC K) okK ["self", "places"] (sp_value K) := ⟨fun k h => GG.cls k h, fun k h => match k, h with | .still, h => ⟨_, T.m_Game_value, (ok_Game_value (P := P) (w := w) (base := base) T okK kinds_ok DN (.still) h (He.ma K (He.ga K "Game") "value") T.f_Game_value).mono (by decide)⟩ | .heap, h => ⟨_, T.m_Heap_value, (ok_Game_value (P := P) (w := w) (base := base) T okK kinds_ok DN (.heap) h (He.ma K (He.ga K "Heap") "value") T.f_Heap_value).mono (by decide)⟩ | .taking ls, h => ⟨_, T.m_Taking_value, (ok_Game_value (P := P) (w := w) (base := base) T okK kinds_ok DN (.taking ls) h (He.ma K (He.ga K "Taking") "value") T.f_Taking_value).mono (by decide)⟩ | .skittles ls, h => ⟨_, T.m_Skittles_value, (ok_Game_value (P := P) (w := w) (base := base) T okK kinds_ok DN (.skittles ls) h (He.ma K (He.ga K "Skittles") "value") T.f_Skittles_value).mono (by decide)⟩ | .parting, h => ⟨_, T.m_Parting_value, (ok_Game_value (P := P) (w := w) (base := base) T okK kinds_ok DN (.parting) h (He.ma K (He.ga K "Parting") "value") T.f_Parting_value).mono (by decide)⟩ | .runs, h => ⟨_, T.m_Runs_value, (ok_Game_value (P := P) (w := w) (base := base) T okK kinds_ok DN (.runs) h (He.ma K (He.ga K "Runs") "value") T.f_Runs_value).mono (by decide)⟩ | .pairs, h => ⟨_, T.m_Pairs_value, (ok_Game_value (P := P) (w := w) (base := base) T okK kinds_ok DN (.pairs) h (He.ma K (He.ga K "Pairs") "value") T.f_Pairs_value).mono (by decide)⟩ | .few m, h => ⟨_, T.m_Few_value, (ok_Game_value (P := P) (w := w) (base := base) T okK kinds_ok DN (.few m) h (He.ma K (He.ga K "Few") "value") T.f_Few_value).mono (by decide)⟩ | .told rows, h => h.elim⟩
  have DVc : Disp P w K mg base CX0 22 "value" (kC K) okK ["self", "places"] (fun k vs H Q _ => sp_value K k vs H Q E0) := DV.calm
  have DW : Disp P w K mg base (L2.CX P w) 24 "winning" (kC K) okK ["self", "places"] (sp_winning K) := ⟨fun k h => GG.cls k h, fun k h => match k, h with | .still, h => ⟨_, T.m_Game_winning, (ok_Game_winning (P := P) (w := w) (base := base) T okK (games_ok T) kinds_ok DV DL DT (.still) h (He.ma K (He.ga K "Game") "winning") T.f_Game_winning).mono (by decide)⟩ | .heap, h => ⟨_, T.m_Heap_winning, (ok_Game_winning (P := P) (w := w) (base := base) T okK (games_ok T) kinds_ok DV DL DT (.heap) h (He.ma K (He.ga K "Heap") "winning") T.f_Heap_winning).mono (by decide)⟩ | .taking ls, h => ⟨_, T.m_Taking_winning, (ok_Game_winning (P := P) (w := w) (base := base) T okK (games_ok T) kinds_ok DV DL DT (.taking ls) h (He.ma K (He.ga K "Taking") "winning") T.f_Taking_winning).mono (by decide)⟩ | .skittles ls, h => ⟨_, T.m_Skittles_winning, (ok_Game_winning (P := P) (w := w) (base := base) T okK (games_ok T) kinds_ok DV DL DT (.skittles ls) h (He.ma K (He.ga K "Skittles") "winning") T.f_Skittles_winning).mono (by decide)⟩ | .parting, h => ⟨_, T.m_Parting_winning, (ok_Game_winning (P := P) (w := w) (base := base) T okK (games_ok T) kinds_ok DV DL DT (.parting) h (He.ma K (He.ga K "Parting") "winning") T.f_Parting_winning).mono (by decide)⟩ | .runs, h => ⟨_, T.m_Runs_winning, (ok_Game_winning (P := P) (w := w) (base := base) T okK (games_ok T) kinds_ok DV DL DT (.runs) h (He.ma K (He.ga K "Runs") "winning") T.f_Runs_winning).mono (by decide)⟩ | .pairs, h => ⟨_, T.m_Pairs_winning, (ok_Game_winning (P := P) (w := w) (base := base) T okK (games_ok T) kinds_ok DV DL DT (.pairs) h (He.ma K (He.ga K "Pairs") "winning") T.f_Pairs_winning).mono (by decide)⟩ | .few m, h => ⟨_, T.m_Few_winning, (ok_Game_winning (P := P) (w := w) (base := base) T okK (games_ok T) kinds_ok DV DL DT (.few m) h (He.ma K (He.ga K "Few") "winning") T.f_Few_winning).mono (by decide)⟩ | .told rows, h => h.elim⟩
  have DWc : Disp P w K mg base CX0 24 "winning" (kC K) okK ["self", "places"] (fun k vs H Q _ => sp_winning K k vs H Q E0) := DW.calm
  have DM : Disp P w K mg base CX0 11 "name" (kC K) okK ["self"] (sp_name K) := ⟨fun k h => GG.cls k h, fun k h => match k, h with | .still, h => ⟨_, T.m_Game_name, (ok_Game_name (P := P) (w := w) (base := base) T ).mono (by decide)⟩ | .heap, h => ⟨_, T.m_Heap_name, (ok_Heap_name (P := P) (w := w) (base := base) T ).mono (by decide)⟩ | .taking ls, h => ⟨_, T.m_Taking_name, ((ok_Taking_name (P := P) (w := w) (base := base) T okK (games_ok T) kinds_ok).imp fun vs H Q E ⟨g, l, x, n, e, ga, q⟩ => ⟨.taking ls, ls, g, l, x, n, e, h, rfl, ga, q⟩).mono (by decide)⟩ | .skittles ls, h => ⟨_, T.m_Skittles_name, (ok_Skittles_name (P := P) (w := w) (base := base) T okK kinds_ok ls h d_Taking_name).mono (by decide)⟩ | .parting, h => ⟨_, T.m_Parting_name, (ok_Parting_name (P := P) (w := w) (base := base) T ).mono (by decide)⟩ | .runs, h => ⟨_, T.m_Runs_name, (ok_Runs_name (P := P) (w := w) (base := base) T ).mono (by decide)⟩ | .pairs, h => ⟨_, T.m_Pairs_name, (ok_Pairs_name (P := P) (w := w) (base := base) T ).mono (by decide)⟩ | .few m, h => ⟨_, T.m_Few_name, (ok_Few_name (P := P) (w := w) (base := base) T okK (games_ok T) kinds_ok m h).mono (by decide)⟩ | .told rows, h => h.elim⟩
  have d_Game___init__ := ok_Game___init__ (P := P) (w := w) (base := base) T (He.ga K "Game") T.cl_Game T.na_Game_known (He.ma K (He.ga K "Game") "__init__") T.f_Game___init__
  have d_Heap___init__ := ok_Game___init__ (P := P) (w := w) (base := base) T (He.ga K "Heap") T.cl_Heap T.na_Heap_known (He.ma K (He.ga K "Heap") "__init__") T.f_Heap___init__
  have d_Taking___init__ := ok_Taking___init__ (P := P) (w := w) (base := base) T (He.ga K "Taking") T.cl_Taking T.na_Taking_known T.na_Taking_limits (ok_Game___init__ (P := P) (w := w) (base := base) T (He.ga K "Taking") T.cl_Taking T.na_Taking_known (He.ma K (He.ga K "Heap") "__init__") T.f_Heap___init__) d_asked_limits (He.ma K (He.ga K "Taking") "__init__") T.f_Taking___init__
  have d_Skittles___init__ := ok_Taking___init__ (P := P) (w := w) (base := base) T (He.ga K "Skittles") T.cl_Skittles T.na_Skittles_known T.na_Skittles_limits (ok_Game___init__ (P := P) (w := w) (base := base) T (He.ga K "Skittles") T.cl_Skittles T.na_Skittles_known (He.ma K (He.ga K "Heap") "__init__") T.f_Heap___init__) d_asked_limits (He.ma K (He.ga K "Skittles") "__init__") T.f_Skittles___init__
  have d_Parting___init__ := ok_Game___init__ (P := P) (w := w) (base := base) T (He.ga K "Parting") T.cl_Parting T.na_Parting_known (He.ma K (He.ga K "Parting") "__init__") T.f_Parting___init__
  have d_Runs___init__ := ok_Game___init__ (P := P) (w := w) (base := base) T (He.ga K "Runs") T.cl_Runs T.na_Runs_known (He.ma K (He.ga K "Runs") "__init__") T.f_Runs___init__
  have d_Pairs___init__ := ok_Game___init__ (P := P) (w := w) (base := base) T (He.ga K "Pairs") T.cl_Pairs T.na_Pairs_known (He.ma K (He.ga K "Pairs") "__init__") T.f_Pairs___init__
  have d_Few___init__ := ok_Few___init__ (P := P) (w := w) (base := base) T (He.ga K "Few") T.cl_Few T.na_Few_known T.na_Few_most (ok_Game___init__ (P := P) (w := w) (base := base) T (He.ga K "Few") T.cl_Few T.na_Few_known (He.ma K (He.ga K "Game") "__init__") T.f_Game___init__) d_is_whole (He.ma K (He.ga K "Few") "__init__") T.f_Few___init__
  have d_figures_of := ok_figures_of (P := P) (w := w) (base := base) T 
  have d_bare_game := ok_bare_game (P := P) (w := w) (base := base) T d_Game___init__ d_Heap___init__ d_Parting___init__ d_Runs___init__ d_Pairs___init__
  have d_game_told := ok_game_told (P := P) (w := w) (base := base) T d_bare_game d_figures_of d_Taking___init__ d_Skittles___init__ d_Few___init__
  have d_turn_told := ok_turn_told (P := P) (w := w) (base := base) T DW
  have d_line_answered := ok_line_answered (P := P) (w := w) (base := base) T d_game_told d_turn_told d_figures_of
  have d_answered := ok_answered (P := P) (w := w) (base := base) T d_line_answered
  have d__law_figures := ok__law_figures (P := P) (w := w) (base := base) T 
  have d__law_limits_good := ok__law_limits_good (P := P) (w := w) (base := base) T 
  have d__law_bare := ok__law_bare (P := P) (w := w) (base := base) T d_Game___init__ d_Heap___init__ d_Parting___init__ d_Runs___init__ d_Pairs___init__
  have d__law_value := ok__law_value (P := P) (w := w) (base := base) T DNc
  have d__law_turn := ok__law_turn (P := P) (w := w) (base := base) T DLc DNc d__law_value
  have d__law_words := ok__law_words (P := P) (w := w) (base := base) T 
  have d__law_game := ok__law_game (P := P) (w := w) (base := base) T d__law_bare d__law_figures d_Few___init__.calm d__law_limits_good d_Taking___init__.calm d_Skittles___init__.calm
  have d__law_answer := ok__law_answer (P := P) (w := w) (base := base) T d__law_game d__law_words d__law_figures d__law_turn
  have d__law_named := ok__law_named (P := P) (w := w) (base := base) T DM d__law_game d__law_words d_game_told
  have d__law_not_written := ok__law_not_written (P := P) (w := w) (base := base) T d_game_told
  have d__law_digits := ok__law_digits (P := P) (w := w) (base := base) T 
  have d__law_built := ok__law_built (P := P) (w := w) (base := base) T d__law_digits
  have d__law_changed := ok__law_changed (P := P) (w := w) (base := base) T 
  have d__law_line := ok__law_line (P := P) (w := w) (base := base) T d__law_cell_at d__law_built d__law_changed
  have d_law := ok_law (P := P) (w := w) (base := base) T d__law_line d__law_cell_at d__law_answer d__law_named d__law_not_written d_answered
  obtain ⟨fd', F', _, lk⟩ := d_law.ex
  have e := fd_eq F lk
  rw [e] at F'
  exact F'
end N
open PySem PySem.W PySem.Calls PyProof.Rows
theorem PySem.Challenge.cw_nimhouse_k21_whole_lines_holds : PySem.Challenge.rw_nimhouse_k21_whole_lines.Holds := by
  w_on; o_law
  refine HandSHeadRun.head_any (r := OpenLaw.row PySem.Challenge.rw_nimhouse_k21_whole_lines) (q := view (OpenLaw.row PySem.Challenge.rw_nimhouse_k21_whole_lines).prog [47]) (H := N.hk) (ob := N.ob) (M := 20000) (loose := N.names) (d := HandSHeadRun.topDef (OpenLaw.row PySem.Challenge.rw_nimhouse_k21_whole_lines).prog 47) (kwd := []) N.ob_eq
    (by kernel_rfl) (fun s => by kernel_rfl) N.run (by kernel_rfl) (by kernel_rfl) (by kernel_rfl) (by rfl) (by first | assumption | decide +kernel) (by decide +kernel) ⟨rfl, rfl, rfl, rfl, rfl, by decide +kernel⟩ ?hw ?hc
  case hw => w_witness2
  case hc =>
    refine N.walk_ofEB (l := PySem.Challenge.rw_nimhouse_k21_whole_lines) (n := 63) (k := 28) (x := "_law_script") (CX := L2.CX0) rfl (by decide) (by kernel_rfl) ⟨rfl, by decide, by decide⟩ ?F (fun _ _ _ _ z => z)
    intro w mg fa h Y G hmg0
    obtain ⟨K, KX, c, cx⟩ := Y
    have hmg : mg ("law" : PySem.Str) = some (.ref fa) := by
      have e : (HandSHeadRun.topDef (OpenLaw.row PySem.Challenge.rw_nimhouse_k21_whole_lines).prog 47).name = ("law" : PySem.Str) := by kernel_rfl
      rw [← e]
      exact hmg0
    obtain ⟨fd, hb, hF⟩ := N.facts (P := (PySem.Challenge.rw_nimhouse_k21_whole_lines).prog) (w := w) KX G hmg c cx
    exact ⟨K, fd, _, KX, hb, fun H a ns hl hbt _ hS => ⟨rfl, a, ns, rfl, hS, hl, hbt, fun _ => rfl⟩, hF⟩
