import PyProof.Rows.All
import Wide.All
import OpenK.AllK
import Wide.FinOn
import HandS.ForMost
import HandS.Conv
import HandS.IsInst
import HandS.Wide
import HandS.TupAny
import HandS.TupLe
import HandS.TupMul
import PySem.Challenge.RW_ringingchamber_k03_cycles_order_parity
set_option Elab.async false
set_option linter.all false
set_option maxRecDepth 100000
/-! KbA: operators that take any kind, one reading a construct; the step lemmas of a reading. -/
namespace Kb
open PySem PySem.Spec PyProof.Rows L2

/-! ### operators over several kinds of values -/
section
variable {X : Cx}
def rAddU (K : PySem.W.Frag) : R2 := fun x y H Q => rI0 (fun i j => .int (i + j)) x y H Q ∨
  ((fun x y H Q => ∃ i j, x = V.str i ∧ y = V.str j ∧ i.length + j.length ≤ sizeLine ∧ Q (V.str (i ++ j)) H) x y H Q ∨ (rCat x y H Q ∨ rCatA K x y H Q))
theorem op_addU : OpR X (binaryOp .Add) (rAddU X.K) := OpR.or op_add (OpR.or op_add_str (OpR.or op_cat op_catA))
def rMulU (K : PySem.W.Frag) : R2 := fun x y H Q => rI CMul (fun i j => .int (i * j)) x y H Q ∨ (rI CMulW (fun i j => .int (i * j)) x y H Q ∨ (rRep x y H Q ∨ rRepT K x y H Q))
theorem op_mulU : OpR X (binaryOp .Mult) (rMulU X.K) := OpR.or op_mul (OpR.or op_mulW (OpR.or op_rep op_repT))
def rFdivU : R2 := rI CDivW (fun i j => .int (i / j))
theorem op_fdivU : OpR X (binaryOp .FloorDiv) rFdivU := op_fdivW
def rModU : R2 := rI (fun _ j => 0 < j) (fun i j => .int (i % j))
theorem op_modU : OpR X (binaryOp .Mod) rModU := op_mod
def rSubU : R2 := rI0 (fun i j => .int (i - j))
theorem op_subU : OpR X (binaryOp .Sub) rSubU := op_sub
def rPowU : R2 := rI CPow (fun i j => .int (i ^ j.toNat))
theorem op_powU : OpR X (binaryOp .Pow) rPowU := op_pow
def rEqU (K : PySem.W.Frag) : R2 := fun x y H Q => rEq x y H Q ∨ rEqD K x y H Q
theorem op_eqU (hu : X.A.units + 64 < cLine) : OpR X (compareOp .Eq) (rEqU X.K) := OpR.or op_eq (op_eqD hu)
def rNeU (K : PySem.W.Frag) : R2 := fun x y H Q => rNe x y H Q ∨ rNeD K x y H Q
theorem op_neU (hu : X.A.units + 64 < cLine) : OpR X (compareOp .NotEq) (rNeU X.K) := OpR.or op_ne (op_neD hu)
def rLtU (K : PySem.W.Frag) : R2 := fun x y H Q => rI0 (fun i j => .bl (decide (i < j))) x y H Q ∨
  ((fun x y H Q => ∃ i j, x = V.str i ∧ y = V.str j ∧ Q (V.bl (decide (i.cps.toList < j.cps.toList))) H) x y H Q ∨ rLtT K x y H Q)
theorem op_ltU (hu : X.A.units + 64 < cLine) : OpR X (compareOp .Lt) (rLtU X.K) := OpR.or op_lt (OpR.or op_lt_str (op_ltT (by omega)))
def rLeU (K : PySem.W.Frag) : R2 := fun x y H Q => rI0 (fun i j => .bl (decide (i ≤ j))) x y H Q ∨
  ((fun x y H Q => ∃ i j, x = V.str i ∧ y = V.str j ∧ Q (V.bl (!decide (j.cps.toList < i.cps.toList))) H) x y H Q ∨ rLeT K x y H Q)
theorem op_leU (hu : X.A.units + 64 < cLine) : OpR X (compareOp .LtE) (rLeU X.K) := OpR.or op_le (OpR.or op_le_str (op_leT (by omega)))
def rGtU : R2 := fun x y H Q => rI0 (fun i j => .bl (decide (j < i))) x y H Q ∨
  (fun x y H Q => ∃ i j, x = V.str i ∧ y = V.str j ∧ Q (V.bl (decide (j.cps.toList < i.cps.toList))) H) x y H Q
theorem op_gtU : OpR X (compareOp .Gt) rGtU := OpR.or op_gt op_gt_str
def rGeU : R2 := fun x y H Q => rI0 (fun i j => .bl (decide (j ≤ i))) x y H Q ∨
  (fun x y H Q => ∃ i j, x = V.str i ∧ y = V.str j ∧ Q (V.bl (!decide (i.cps.toList < j.cps.toList))) H) x y H Q
theorem op_geU : OpR X (compareOp .GtE) rGeU := OpR.or op_ge op_ge_str
def rInU (K : PySem.W.Frag) : R2 := fun x y H Q => rIn K false x y H Q ∨
  (fun x y H Q => ∃ (c : Nat) (z : Str), x = V.str ⟨#[c]⟩ ∧ y = V.str z ∧ Q (V.bl (decide (c ∈ z.cps.toList))) H) x y H Q
theorem op_inU : OpR X (compareOp .In) (rInU X.K) := OpR.or op_in_seq op_in_sign
def rNotInU (K : PySem.W.Frag) : R2 := fun x y H Q => rIn K true x y H Q ∨
  (fun x y H Q => ∃ (c : Nat) (z : Str), x = V.str ⟨#[c]⟩ ∧ y = V.str z ∧ Q (V.bl (!decide (c ∈ z.cps.toList))) H) x y H Q
theorem op_notInU : OpR X (compareOp .NotIn) (rNotInU X.K) := OpR.or op_notIn_seq op_notIn_sign
def rIsNU : R2 := fun x y H Q => y = V.non ∧ Q (V.bl (decide (x = V.non))) H
theorem op_isNU : OpR X (compareOp .Is) rIsNU := op_isN
def rNotNU : R2 := fun x y H Q => y = V.non ∧ Q (V.bl (!decide (x = V.non))) H
theorem op_notNU : OpR X (compareOp .IsNot) rNotNU := op_notN
def rSlU (K : PySem.W.Frag) : V → Option Int → Option Int → Hp → VK → Prop := fun x lo hi H Q => rSlL K x lo hi H Q ∨ (rSlA K x lo hi H Q ∨ rSlS x lo hi H Q)
theorem sl_U : SlR X (rSlU X.K) := SlR.or sl_list (SlR.or sl_tupA sl_str)
def rLenU (K : PySem.W.Frag) : List V → Hp → VK → Prop := fun xs H Q => (fun xs H Q => ∃ p ys, xs = [V.ref p] ∧ (SqL K H p ys ∨ SqT K H p ys) ∧ Q (V.int ys.length) H) xs H Q ∨
  ((fun xs H Q => ∃ z, xs = [V.str z] ∧ z.length ≤ sizeLine ∧ Q (V.int z.length) H) xs H Q ∨ (fun xs H Q => ∃ a kvs, xs = [V.ref a] ∧ H a = some (.dK kvs) ∧ Q (.int kvs.length) H) xs H Q)
theorem call_lenU : CallR X (.builtin "len") (rLenU X.K) := CallR.or call_len_seq (CallR.or call_len_str call_lenD)
def rIntU : List V → Hp → VK → Prop := fun xs H Q => ∃ i, xs = [V.int i] ∧ Q (V.int i) H
theorem call_intU : CallR X (.type "int") rIntU := fun pins s σ H xs us Q I r h => call_int1 pins s σ H xs us Q I r (.inl h)
def rAbsU : List V → Hp → VK → Prop := fun xs H Q => ∃ i, xs = [V.int i] ∧ Q (V.int (if i < 0 then -i else i)) H
theorem call_absU : CallR X (.builtin "abs") rAbsU := call_abs
def rListU (K : PySem.W.Frag) : List V → Hp → VK → Prop := fun xs H Q => ∃ p ys, xs = [V.ref p] ∧ (SqL K H p ys ∨ SqT K H p ys) ∧ ∀ l, H l = none → Q (V.ref l) (upd H l (.lst ys))
theorem call_listU : CallR X (.type "list") (rListU X.K) := call_list_of
theorem PI.or {tg e : Expr} {w1 w2 : TI} (h1 : PI X tg e w1) (h2 : PI X tg e w2) : PI X tg e (fun σ H R => w1 σ H R ∨ w2 σ H R) := by
  refine ⟨fun pins s σ H R I h => ?_⟩
  rcases h with h | h
  · exact h1.run pins s σ H R I h
  · exact h2.run pins s σ H R I h
def iSeqU (K : PySem.W.Frag) (te : TE) : TI := fun σ H R => iList K te σ H R ∨ (iTup K te σ H R ∨ iStr te σ H R)
theorem pi_seqU {tg e : Expr} {te : TE} (he : PE X e te) : PI X tg e (iSeqU X.K te) := PI.or (pi_list he) (PI.or (pi_tup he) (pi_str he))
def tTru (K : PySem.W.Frag) (ta : TE) : TT := fun σ H Q => ta σ H fun x H' => ∃ k, TruV K x H' k ∧ Q k H'
theorem pt_truU {a : Expr} {ta : TE} (h : PE X a ta) (hq : ∀ whole, isTrue a X.env whole = (do let v ← whole; standAt a.pos; holding [v] (truthy v))) : PT X a (tTru X.K ta) := pt_truth h hq
end
end Kb

set_option Elab.async false
set_option linter.all false
set_option maxRecDepth 100000
/-! KbB: defs by name; heaps; the step lemmas of readings; the tactic rd. -/
namespace Kb
open PySem PySem.Spec PyProof.Rows L2

/-! ### defs by name -/
structure Fn (P : Program) (w : World) (K : PySem.W.Frag) (mg : Str → Option Value) (base : Heap) (CX : CXT) (k : Nat) (x : Str) (ps : List Str) (sp : Sp) : Prop where
  ex : ∃ f fd, FnOk P w K mg base CX k f fd ps sp ∧ mg x = some (.ref f) ∧ PySem.W.keepIn K (.ref f) = true ∧ Binds K fd ps []
def At (K : PySem.W.Frag) (mg : Str → Option Value) (x : Str) (st : Stmt) : Prop := ∃ f fd, Fun K x x st f fd ∧ mg x = some (.ref f)
section
variable {X : Cx} {CX : CXT} {k : Nat} {ps : List Str} {sp : Sp} {E : XK} {x : Str} {p pos : Pos} {e : Expr} {es : List Expr} {t : TA}
theorem Fn.mk' {P : Program} {w : World} {K : PySem.W.Frag} {mg : Str → Option Value} {base : Heap} {f : Addr} {fd : FuncData} (F : FnOk P w K mg base CX k f fd ps sp) (hm : mg x = some (.ref f)) (hk : PySem.W.keepIn K (.ref f) = true) (hb : Binds K fd ps []) : Fn P w K mg base CX k x ps sp := ⟨f, fd, F, hm, hk, hb⟩
theorem pe_callF (G : Fn X.prog X.w X.K X.mg X.base CX k x ps sp) (hr : Room k X.A) (hg : Gl X x) (hx : Passes CX X E) (ha : PA X (e :: es) t) (hdb : (x == ("__debug__" : Str)) = false := by decide)
    (he : starEach (e :: es) X.env = (false, eval e X.env) :: starEach es X.env := by rfl) (hpl : (backTo pos (starEach es X.env)).any (·.1) = false := by rfl) : PE X (.Call (.Name x p) (e :: es) [] pos) (tCall sp [] E t) := by
  obtain ⟨f, fd, F, hm, hk, hb⟩ := G.ex
  exact pe_call F hr hg hm hk hb .nil hx ha hdb he hpl
theorem pe_callF0 (G : Fn X.prog X.w X.K X.mg X.base CX k x ps sp) (hr : Room k X.A) (hg : Gl X x) (hx : Passes CX X E) (hdb : (x == ("__debug__" : Str)) = false := by decide) : PE X (.Call (.Name x p) [] [] pos) (tCall sp [] E tNil) := by
  obtain ⟨f, fd, F, hm, hk, hb⟩ := G.ex
  exact pe_call0 F hr hg hm hk hb .nil hx hdb
end

/-! ### heaps -/
/-- all but l is as it was -/
def But (l : Addr) (H H' : Hp) : Prop := ∀ b o, b ≠ l → H b = some o → H' b = some o
section
variable {K : PySem.W.Frag} {H H1 H2 H' : Hp} {a l p : Addr} {o u : HO} {xs ys : List V} {ns : List Int}
theorem same_new (h : H p = none) : Same H (upd H p o) := fun b x e => by rw [upd_ne (ne_of_none e h)]; exact e
theorem but_upd : But l H (upd H l o) := fun b x n e => by rw [upd_ne n]; exact e
theorem But.trans (a : But l H H1) (b : But l H1 H2) : But l H H2 := fun c o n h => b c o n (a c o n h)
theorem But.refl : But l H H := fun _ _ _ h => h
theorem Same.but (s : Same H H') : But l H H' := fun b o _ h => s b o h
theorem rd_same (s : Same H H') (h : Rd H a u) : Rd H' a u := by
  rcases h with h | ⟨o, h⟩
  · exact .inl (s _ _ h)
  · exact .inr ⟨o, s _ _ h⟩
theorem sqT_same (s : Same H H') (h : SqT K H a xs) : SqT K H' a xs := by
  rcases h with h | h
  · exact .inl (rd_same s h)
  · exact .inr h
theorem sqL_same (s : Same H H') (h : SqL K H a xs) : SqL K H' a xs := s.seq h
theorem sqT_but (b : But l H H') (hl : H l = some (.lst ys)) (h : SqT K H a xs) : SqT K H' a xs := by
  rcases h with (h | ⟨o, h⟩) | h
  · exact .inl (.inl (b _ _ (ne_of h hl (by intro z; cases z)) h))
  · exact .inl (.inr ⟨o, b _ _ (ne_of h hl (by intro z; cases z)) h⟩)
  · exact .inr h
theorem sqL_but (b : But l H H') (hne : a ≠ l) (h : SqL K H a xs) : SqL K H' a xs := by
  rcases h with (h | ⟨o, h⟩) | h
  · exact .inl (.inl (b _ _ hne h))
  · exact .inl (.inr ⟨o, b _ _ hne h⟩)
  · exact .inr h
theorem at_same (s : Same H H') (h : H a = some o) : H' a = some o := s _ _ h
theorem at_but (b : But l H H') (hne : a ≠ l) (h : H a = some o) : H' a = some o := b _ _ hne h
theorem sqL_of (h : H a = some (.lst xs)) : SqL K H a xs := .inl (.inl h)
theorem sqT_of (h : H a = some (.tup xs)) : SqT K H a xs := .inl (.inl h)
/-- a but of an object that the first heap doesn't know is a same -/
theorem But.same (b : But l H H') (h : H l = none) : Same H H' := fun c o e => b c o (ne_of_none e h) e
theorem same_but (s : Same H H1) (b : But l H1 H2) (h : H l = none) : Same H H2 := fun c o e => b c o (ne_of_none e h) (s c o e)
theorem but_same (b : But l H H1) (s : Same H1 H2) : But l H H2 := fun c o n e => s c o (b c o n e)
end

/-! ### what a reading asks, by names (so that what follows stays an argument) -/
def PB (x : V) (H : Hp) (QB : Bool → Hp → Prop) : Prop := ∃ k, x = .bl k ∧ QB k H
def PIf (x : V) (A B : Prop) : Prop := ∃ c, x = .bl c ∧ if c = true then A else B
def PTr (K : PySem.W.Frag) (x : V) (H : Hp) (QB : Bool → Hp → Prop) : Prop := ∃ k, TruV K x H k ∧ QB k H
def PNew (z : Prop) (o : HO) (H : Hp) (Q : VK) : Prop := z ∧ ∀ p, H p = none → Q (.ref p) (upd H p o)
def PI2 (x y : V) (QR : Int → Int → Prop) : Prop := ∃ i j, x = .int i ∧ y = .int j ∧ QR i j
def PI1 (x : V) (QR : Int → Prop) : Prop := ∃ i, x = .int i ∧ QR i
def PNot (x : V) (H : Hp) (Q : VK) : Prop := ∃ c, x = .bl c ∧ Q (.bl (!c)) H
/-! ### steps of statements -/
section
variable {K : PySem.W.Frag} {D : Ends} {σ : L2.St} {H : Hp} {t u : TS} {te ta tb : TE} {g : TG} {c d : TT} {Q : VK} {QB : Bool → Hp → Prop} {v x y : V} {i j : Nat} {m n : Int} {b : Bool}
theorem r_seq (h : t { D with nx := u D } σ H) : tSeq t u D σ H := h
theorem r_next (h : D.nx σ H) : tNext D σ H := h
theorem r_asg (h : te σ H fun x H1 => g x σ H1 D.nx) : tAsg te g D σ H := h
theorem r_name {N : L2.St → Hp → Prop} (h : N (σ.set i (some v)) H) : gName i v σ H N := h
theorem r_drop (h : te σ H fun _ H1 => D.nx σ H1) : tDrop te D σ H := h
theorem r_ret (h : te σ H D.rt) : tRet te D σ H := h
theorem r_retN (h : D.rt .non H) : tRetN D σ H := h
theorem r_if (h : c σ H fun b H1 => if b = true then t D σ H1 else u D σ H1) : tIfS c t u D σ H := h
theorem r_brk (h : D.bk σ H) : tBreak D σ H := h
theorem r_cont (h : D.ct σ H) : tCont D σ H := h
/-! ### of expressions -/
theorem r_var (h : σ[i]? = some (some v)) (q : Q v H) : tVar i σ H Q := ⟨v, h, q⟩
theorem r_c (q : Q v H) : tC v σ H Q := q
theorem r_op {r : R2} (h : ta σ H fun x H1 => tb σ H1 fun y H2 => r x y H2 Q) : tOp r ta tb σ H Q := h
theorem r_un {r : V → Hp → VK → Prop} (h : ta σ H fun x H1 => r x H1 Q) : tUn r ta σ H Q := h
theorem r_neg (q : Q (.int (-m)) H) : rU (fun i => .int (-i)) (.int m) H Q := ⟨m, rfl, q⟩
theorem r_addI (q : Q (.int (m + n)) H) : rAddU K (.int m) (.int n) H Q := .inl ⟨m, n, rfl, rfl, q⟩
theorem r_addS {z w : Str} (hz : z.length + w.length ≤ sizeLine) (q : Q (.str (z ++ w)) H) : rAddU K (.str z) (.str w) H Q := .inr (.inl ⟨z, w, rfl, rfl, hz, q⟩)
theorem r_subI (q : Q (.int (m - n)) H) : rSubU (.int m) (.int n) H Q := ⟨m, n, rfl, rfl, q⟩
theorem r_mulI (c : CMul m n) (q : Q (.int (m * n)) H) : rMulU K (.int m) (.int n) H Q := .inl ⟨m, n, rfl, rfl, c, q⟩
theorem r_mulL {p : Addr} {xs : List V} (h : H p = some (.lst xs)) (h0 : -(2 ^ 63) ≤ n) (h1 : n < 2 ^ 63) (hz : xs.length * n.toNat ≤ sizeLine) (k : ∀ q H', H q = none → Same H H' → H' q = some (.lst (List.replicate n.toNat xs).flatten) → Q (.ref q) H') :
    rMulU K (.ref p) (.int n) H Q := .inr (.inr (.inl ⟨p, n, xs, rfl, rfl, h, h0, h1, hz, fun q hq => k q _ hq (same_new hq) upd_same⟩))
theorem r_fdiv (h0 : 0 < n) (h1 : n.natAbs.log2 < 9000) (q : Q (.int (m / n)) H) : rFdivU (.int m) (.int n) H Q := ⟨m, n, rfl, rfl, ⟨h0, h1⟩, q⟩
theorem r_mod (h0 : 0 < n) (q : Q (.int (m % n)) H) : rModU (.int m) (.int n) H Q := ⟨m, n, rfl, rfl, h0, q⟩
theorem r_pow (h0 : CPow m n) (q : Q (.int (m ^ n.toNat)) H) : rPowU (.int m) (.int n) H Q := ⟨m, n, rfl, rfl, h0, q⟩
theorem r_eqI (q : Q (.bl (decide (m = n))) H) : rEqU K (.int m) (.int n) H Q := .inl ⟨rfl, by
  have e : decide (V.int m = V.int n) = decide (m = n) := by by_cases h : m = n <;> simp [h]
  rw [e]; exact q⟩
theorem r_neI (q : Q (.bl (!decide (m = n))) H) : rNeU K (.int m) (.int n) H Q := .inl ⟨rfl, by
  have e : decide (V.int m = V.int n) = decide (m = n) := by by_cases h : m = n <;> simp [h]
  rw [e]; exact q⟩
theorem r_ltI (q : Q (.bl (decide (m < n))) H) : rLtU K (.int m) (.int n) H Q := .inl ⟨m, n, rfl, rfl, q⟩
theorem r_leI (q : Q (.bl (decide (m ≤ n))) H) : rLeU K (.int m) (.int n) H Q := .inl ⟨m, n, rfl, rfl, q⟩
theorem r_gtI (q : Q (.bl (decide (n < m))) H) : rGtU (.int m) (.int n) H Q := .inl ⟨m, n, rfl, rfl, q⟩
theorem r_geI (q : Q (.bl (decide (n ≤ m))) H) : rGeU (.int m) (.int n) H Q := .inl ⟨m, n, rfl, rfl, q⟩
theorem r_isN (q : Q (.bl (decide (x = .non))) H) : rIsNU x .non H Q := ⟨rfl, q⟩
theorem r_notN (q : Q (.bl (!decide (x = .non))) H) : rNotNU x .non H Q := ⟨rfl, q⟩
theorem r_test (h : te σ H fun x H' => PB x H' QB) : tTest te σ H QB := h
theorem r_B (h : te σ H fun x H' => PB x H' QB) : tB te σ H QB := h
theorem r_k (q : QB b H) : PB (.bl b) H QB := ⟨b, rfl, q⟩
theorem r_not (h : c σ H fun b H1 => QB (!b) H1) : tNot c σ H QB := h
theorem r_and (h : c σ H fun b H1 => if b = true then d σ H1 QB else QB false H1) : tAnd c d σ H QB := h
theorem r_or (h : c σ H fun b H1 => if b = true then QB true H1 else d σ H1 QB) : tOr c d σ H QB := h
theorem r_andV (h : ta σ H fun x H1 => PIf x (tb σ H1 Q) (Q (.bl false) H1)) : tAndV ta tb σ H Q := h
theorem r_orV (h : ta σ H fun x H1 => PIf x (Q (.bl true) H1) (tb σ H1 Q)) : tOrV ta tb σ H Q := h
theorem r_pif {A B : Prop} (h : if b = true then A else B) : PIf (.bl b) A B := ⟨b, rfl, h⟩
theorem r_notV (h : ta σ H fun x H1 => PNot x H1 Q) : tNotV ta σ H Q := h
theorem r_pnot (q : Q (.bl (!b)) H) : PNot (.bl b) H Q := ⟨b, rfl, q⟩
theorem r_ifE (h : c σ H fun b H1 => if b = true then ta σ H1 Q else tb σ H1 Q) : tIf c ta tb σ H Q := h
theorem r_chain {r r' : R2} {tc : TE} (h : ta σ H fun x H1 => tb σ H1 fun y H2 => r x y H2 fun z H3 => PIf z (tc σ H3 fun w' H4 => r' y w' H4 Q) (Q (.bl false) H3)) : tChain r r' ta tb tc σ H Q := h
theorem r_tru (h : ta σ H fun x H' => PTr K x H' QB) : tTru K ta σ H QB := h
theorem r_truB (q : QB b H) : PTr K (.bl b) H QB := ⟨b, rfl, q⟩
theorem r_truI (q : QB (m != 0) H) : PTr K (.int m) H QB := ⟨_, rfl, q⟩
theorem r_truL {p : Addr} {xs : List V} (h : SqL K H p xs) (q : QB (!xs.isEmpty) H) : PTr K (.ref p) H QB := ⟨_, .inl ⟨xs, h, rfl⟩, q⟩
theorem r_truT {p : Addr} {xs : List V} (h : SqT K H p xs) (q : QB (!xs.isEmpty) H) : PTr K (.ref p) H QB := ⟨_, .inr (.inl ⟨xs, h, rfl⟩), q⟩
theorem r_nil {QA : List V → Hp → Prop} (q : QA [] H) : tNil σ H QA := q
theorem r_cons {tr : TA} {QA : List V → Hp → Prop} (h : ta σ H fun x H1 => tr σ H1 fun xs H2 => QA (x :: xs) H2) : tCons ta tr σ H QA := h
theorem r_CB {r : List V → Hp → VK → Prop} {ts : TA} (h : ts σ H fun vs H1 => r vs H1 Q) : tCB r ts σ H Q := h
theorem r_lenL {p : Addr} {xs : List V} (h : SqL K H p xs) (q : Q (.int (xs.length : Int)) H) : rLenU K [.ref p] H Q := .inl ⟨p, xs, rfl, .inl h, q⟩
theorem r_lenT {p : Addr} {xs : List V} (h : SqT K H p xs) (q : Q (.int (xs.length : Int)) H) : rLenU K [.ref p] H Q := .inl ⟨p, xs, rfl, .inr h, q⟩
theorem r_lenS {z : Str} (h : z.length ≤ sizeLine) (q : Q (.int (z.length : Int)) H) : rLenU K [.str z] H Q := .inr (.inl ⟨z, rfl, h, q⟩)
theorem r_int (q : Q (.int m) H) : rIntU [.int m] H Q := ⟨m, rfl, q⟩
theorem r_abs (q : Q (.int (if m < 0 then -m else m)) H) : rAbsU [.int m] H Q := ⟨m, rfl, q⟩
theorem r_ixL {p : Addr} {xs : List V} (h : SqL K H p xs) (ha : atI xs m = some v) (q : Q v H) : rIx K (.ref p) (.int m) H Q := .inl ⟨p, xs, m, v, rfl, rfl, h, ha, q⟩
theorem r_ixT {p : Addr} {xs : List V} (h : SqT K H p xs) (ha : atI xs m = some v) (q : Q v H) : rIx K (.ref p) (.int m) H Q := .inr (.inl ⟨p, xs, m, v, rfl, rfl, h, ha, q⟩)
theorem r_ixS {z : Str} {c : Nat} (h : z.length ≤ sizeLine) (ha : atI z.cps.toList m = some c) (q : Q (.str ⟨#[c]⟩) H) : rIx K (.str z) (.int m) H Q := .inr (.inr ⟨z, m, c, rfl, rfl, h, ha, q⟩)
theorem r_tup {ts : TA} (h : ts σ H fun xs H1 => PNew (xs.length ≤ sizeLine) (.tup xs) H1 Q) : tTup ts σ H Q := h
theorem r_lst {ts : TA} (h : ts σ H fun xs H1 => PNew (xs.length ≤ sizeLine) (.lst xs) H1 Q) : tLst ts σ H Q := h
theorem r_new {z : Prop} {o : HO} (hz : z) (k : ∀ p H', H p = none → Same H H' → H' p = some o → Q (.ref p) H') : PNew z o H Q := ⟨hz, fun p hp => k p _ hp (same_new hp) upd_same⟩
theorem r_new1 {o : HO} (k : ∀ p H', H p = none → Same H H' → H' p = some o → Q (.ref p) H') : ∀ p, H p = none → Q (.ref p) (upd H p o) := fun p hp => k p _ hp (same_new hp) upd_same
theorem r_call {sp : Sp} {E : XK} {ts : TA} (h : ts σ H fun vs H1 => sp (vs ++ []) H1 Q E) : tCall sp [] E ts σ H Q := h
theorem r_BM {T : String} {r : V → List V → Hp → VK → Prop} {ts : TA} (h : ta σ H fun x H1 => tyV K T x H1 ∧ ts σ H1 fun xs H2 => r x xs H2 Q) : tBM K T r ta ts σ H Q := h
theorem r_BM0 {T : String} {r : V → List V → Hp → VK → Prop} (h : ta σ H fun x H1 => tyV K T x H1 ∧ r x [] H1 Q) : tBM0 K T r ta σ H Q := h
theorem r_tyL {p : Addr} {xs : List V} {A : Prop} (h : SqL K H p xs) (a : A) : tyV K "list" (.ref p) H ∧ A := ⟨Or.inl ⟨rfl, _, h⟩, a⟩
theorem r_tyS {z : Str} {A : Prop} (a : A) : tyV K "str" (.str z) H ∧ A := ⟨rfl, a⟩
theorem r_append {p : Addr} {xs : List V} (h : H p = some (.lst xs)) (hz : xs.length < sizeLine) (k : ∀ H', But p H H' → H' p = some (.lst (xs ++ [y])) → Q .non H') : rAppend (.ref p) [y] H Q := ⟨p, xs, y, rfl, rfl, h, hz, k _ but_upd upd_same⟩
theorem r_pop {p : Addr} {xs : List V} (h : H p = some (.lst (xs ++ [y]))) (k : ∀ H', But p H H' → H' p = some (.lst xs) → Q y H') : rPop (.ref p) [] H Q := by
  refine ⟨p, xs ++ [y], y, rfl, rfl, h, ?_, ?_⟩
  · simp
  · rw [List.dropLast_concat]; exact k _ but_upd upd_same
theorem r_popAt {p : Addr} {xs : List V} {k : Nat} (h : H p = some (.lst xs)) (e : m = (k : Int)) (hk : xs[k]? = some y) (hz : xs.length < 2 ^ 62) (q : ∀ H', But p H H' → H' p = some (.lst (xs.eraseIdx k)) → Q y H') : rPopAt (.ref p) [.int m] H Q := by
  have hl : k < xs.length := (List.getElem?_eq_some_iff.mp hk).1
  refine ⟨p, xs, m, k, y, rfl, rfl, h, by omega, by omega, ?_, hk, q _ but_upd upd_same⟩
  subst e
  obtain ⟨j, hj, hx, _⟩ := atI_get (atI_nat hk)
  have e2 : j = k := by
    unfold seqIndex? at hj
    simp at hj
    omega
  rw [hj, e2]
theorem r_then {kk : V → Hp → VK → Prop} (h : ta σ H fun x H1 => kk x H1 Q) : tThen ta kk σ H Q := h
theorem r_kTupL {p : Addr} {xs : List V} (h : SqL K H p xs) (k : ∀ q H', H q = none → Same H H' → H' q = some (.tup xs) → Q (.ref q) H') : kTup K (.ref p) H Q := .inl ⟨p, xs, rfl, h, fun q hq => k q _ hq (same_new hq) upd_same⟩
theorem r_kTupT {p : Addr} {xs : List V} (h : SqT K H p xs) (q : Q (.ref p) H) : kTup K (.ref p) H Q := .inr ⟨p, xs, rfl, h, q⟩
theorem r_listL {p : Addr} {xs : List V} (h : SqL K H p xs) (k : ∀ q H', H q = none → Same H H' → H' q = some (.lst xs) → Q (.ref q) H') : rListU K [.ref p] H Q := ⟨p, xs, rfl, .inl h, fun q hq => k q _ hq (same_new hq) upd_same⟩
theorem r_listT {p : Addr} {xs : List V} (h : SqT K H p xs) (k : ∀ q H', H q = none → Same H H' → H' q = some (.lst xs) → Q (.ref q) H') : rListU K [.ref p] H Q := ⟨p, xs, rfl, .inr h, fun q hq => k q _ hq (same_new hq) upd_same⟩
theorem r_lstRg {tr : L2.St → Hp → (Int → Int → Hp → Prop) → Prop} (h : tr σ H fun a b H1 => PNew (RgOk a b) (.lst (rgV a b)) H1 Q) : tLstRg tr σ H Q := h
theorem r_tupRg {tr : L2.St → Hp → (Int → Int → Hp → Prop) → Prop} (h : tr σ H fun a b H1 => PNew (RgOk a b) (.tup (rgV a b)) H1 Q) : tTupRg tr σ H Q := h
theorem r_rg2 {QR : Int → Int → Hp → Prop} (h : ta σ H fun x H1 => tb σ H1 fun y H2 => PI2 x y fun i j => QR i j H2) : tRg2 ta tb σ H QR := h
theorem r_rg1 {QR : Int → Int → Hp → Prop} (h : ta σ H fun x H1 => PI1 x fun n => QR 0 n H1) : tRg1 ta σ H QR := h
theorem r_ii {QR : Int → Int → Prop} (q : QR m n) : PI2 (.int m) (.int n) QR := ⟨m, n, rfl, rfl, q⟩
theorem r_i {QR : Int → Prop} (q : QR m) : PI1 (.int m) QR := ⟨m, rfl, q⟩
theorem r_gsub {ti : TE} {to : TE} {ts : TSet} {N : L2.St → Hp → Prop} (h : to σ H fun o H1 => ti σ H1 fun i H2 => ts o i v H2 fun H3 => N σ H3) : gSub to ti ts v σ H N := h
theorem r_setL {N : Hp → Prop} {p : Addr} {xs : List V} {k : Nat} (h : H p = some (.lst xs)) (hk : ixN xs.length m = some k) (q : ∀ H', But p H H' → H' p = some (.lst (xs.set k v)) → N H') : rSetL (.ref p) (.int m) v H N := ⟨p, xs, m, k, rfl, rfl, h, hk, q _ but_upd upd_same⟩
theorem r_aug {ti : TIp} (h : σ[i]? = some (some x)) (q : te σ H fun y H1 => ti x y H1 fun z H2 => D.nx (σ.set i (some z)) H2) : tAug i te ti D σ H := ⟨x, h, q⟩
theorem r_ipI {f : Int → Int → Int} (q : Q (.int (f m n)) H) : ipI f (.int m) (.int n) H Q := ⟨m, n, rfl, rfl, q⟩
theorem r_noPart {QO : Option Int → Hp → Prop} (q : QO none H) : tNoPart σ H QO := q
theorem r_part {QO : Option Int → Hp → Prop} (h : te σ H fun x H1 => PI1 x fun i => QO (some i) H1) : tPart te σ H QO := h
theorem r_sl {r : V → Option Int → Option Int → Hp → VK → Prop} {tl th : TO} (h : te σ H fun x H1 => tl σ H1 fun l H2 => th σ H2 fun u H3 => r x l u H3 Q) : tSl r te tl th σ H Q := h
theorem r_ite {c : Prop} [Decidable c] {A B : Prop} (h1 : c → A) (h2 : ¬ c → B) : if decide c = true then A else B := by
  by_cases h : c
  · rw [if_pos (decide_eq_true h)]; exact h1 h
  · rw [if_neg (by simp [h])]; exact h2 h
theorem r_iteN {c : Prop} [Decidable c] {A B : Prop} (h1 : ¬ c → A) (h2 : c → B) : if (!decide c) = true then A else B := by
  by_cases h : c
  · rw [if_neg (by simp [h])]; exact h2 h
  · rw [if_pos (by simp [h])]; exact h1 h
theorem r_iteP {c : Prop} [Decidable c] {A B : Prop} (h : c) (a : A) : if decide c = true then A else B := by rw [if_pos (decide_eq_true h)]; exact a
theorem r_iteM {c : Prop} [Decidable c] {A B : Prop} (h : ¬ c) (a : B) : if decide c = true then A else B := by rw [if_neg (by simp [h])]; exact a
theorem r_iteNP {c : Prop} [Decidable c] {A B : Prop} (h : c) (a : B) : if (!decide c) = true then A else B := by rw [if_neg (by simp [h])]; exact a
theorem r_iteNM {c : Prop} [Decidable c] {A B : Prop} (h : ¬ c) (a : A) : if (!decide c) = true then A else B := by rw [if_pos (by simp [h])]; exact a
theorem r_T {A B : Prop} (a : A) : if true = true then A else B := by rw [if_pos rfl]; exact a
theorem r_F {A B : Prop} (a : B) : if false = true then A else B := by rw [if_neg (by decide)]; exact a
theorem r_nT {A B : Prop} (a : B) : if (!true) = true then A else B := r_F a
theorem r_nF {A B : Prop} (a : A) : if (!false) = true then A else B := r_T a
end
end Kb

set_option Elab.async false
set_option linter.all false
set_option maxRecDepth 100000
set_option maxHeartbeats 4000000
namespace Kb
open PySem PySem.Spec PyProof.Rows L2
/-! the tactics: rd walks a reading; tk closes a fact about a heap from those ahead of it -/
local macro_rules | `(tactic| walk_at "tk") => `(tactic| first
  | assumption
  | ((with_reducible refine' sqT_of ?k); (case k => assumption))
  | ((with_reducible refine' sqL_of ?k); (case k => assumption))
  | ((with_reducible refine' sqT_same ?s ?k); (case s => assumption); (case k => walk_at "tk"))
  | ((with_reducible refine' sqL_same ?s ?k); (case s => assumption); (case k => walk_at "tk"))
  | ((with_reducible refine' sqT_but ?s ?t ?k); (case s => assumption); (case t => walk_at "tk"); (case k => walk_at "tk"))
  | ((with_reducible refine' sqL_but ?s ?t ?k); (case s => assumption); (case t => walk_at "ne"); (case k => walk_at "tk"))
  | ((with_reducible refine' sqL_of ?k); (case k => walk_at "tk"))
  | ((with_reducible refine' sqT_of ?k); (case k => walk_at "tk"))
  | ((with_reducible refine' at_same ?s ?k); (case s => assumption); (case k => walk_at "tk"))
  | ((with_reducible refine' at_but ?s ?t ?k); (case s => assumption); (case t => walk_at "ne"); (case k => walk_at "tk")))
local macro_rules | `(tactic| walk_at "ne") => `(tactic| first
  | assumption
  | (refine Ne.symm ?_; assumption)
  | exact ne_of_none (by assumption) (by assumption)
  | exact (ne_of_none (by assumption) (by assumption)).symm)
local macro_rules | `(tactic| walk_at "side") => `(tactic| first
  | assumption
  | omega
  | (simp only [sizeLine_eq, List.length_cons, List.length_nil, List.length_map]; omega)
  | (show _ ≤ sizeLine; decide))
local macro_rules | `(tactic| walk_at "kit") => `(tactic| first
  | (show kitB _ _ = some true; decide +kernel)
  | (show kitB _ _ = some false; decide +kernel))
local macro_rules | `(tactic| walk_at "rng") => `(tactic| first
  | (refine ⟨by omega, by omega, by omega, by omega⟩)
  | (refine ⟨by omega, by omega⟩)
  | ((simp only [List.length_map]); (refine ⟨by omega, by omega, by omega, by omega⟩))
  | ((simp only [List.length_map]); (refine ⟨by omega, by omega⟩)))
local macro_rules | `(tactic| walk_at "rd1") => `(tactic| first
  | with_reducible refine r_seq ?_
  | ((with_reducible refine' r_var ?k0 ?_); (case k0 => rfl))
  | with_reducible refine r_op ?_
  | with_reducible refine r_c ?_
  | with_reducible refine r_asg ?_
  | with_reducible refine r_name ?_
  | with_reducible refine r_cons ?_
  | with_reducible refine r_nil ?_
  | with_reducible refine r_CB ?_
  | with_reducible refine r_if ?_
  | with_reducible refine r_test ?_
  | with_reducible refine r_k ?_
  | with_reducible refine r_T ?_
  | with_reducible refine r_F ?_
  | with_reducible refine r_nT ?_
  | with_reducible refine r_nF ?_
  | with_reducible refine r_ret ?_
  | with_reducible refine r_drop ?_
  | with_reducible refine r_next ?_
  | with_reducible refine r_call ?_
  | with_reducible refine r_addI ?_
  | with_reducible refine r_subI ?_
  | with_reducible refine r_ltI ?_
  | with_reducible refine r_gtI ?_
  | with_reducible refine r_leI ?_
  | with_reducible refine r_geI ?_
  | with_reducible refine r_eqI ?_
  | with_reducible refine r_neI ?_
  | with_reducible refine r_int ?_
  | with_reducible refine r_abs ?_
  | with_reducible refine r_not ?_
  | with_reducible refine r_and ?_
  | with_reducible refine r_or ?_
  | with_reducible refine r_tru ?_
  | with_reducible refine r_truB ?_
  | with_reducible refine r_lst ?_
  | with_reducible refine r_tup ?_
  | with_reducible refine r_BM ?_
  | with_reducible refine r_BM0 ?_
  | with_reducible refine r_tyS ?_
  | with_reducible refine r_gsub ?_
  | with_reducible refine r_then ?_
  | with_reducible refine r_lstRg ?_
  | with_reducible refine r_tupRg ?_
  | with_reducible refine r_rg2 ?_
  | with_reducible refine r_rg1 ?_
  | with_reducible refine r_ii ?_
  | with_reducible refine r_i ?_
  | with_reducible refine r_ipI ?_
  | with_reducible refine r_un ?_
  | with_reducible refine r_neg ?_
  | with_reducible refine r_isN ?_
  | with_reducible refine r_notN ?_
  | with_reducible refine r_notV ?_
  | with_reducible refine r_pnot ?_
  | with_reducible refine r_pif ?_
  | with_reducible refine r_andV ?_
  | with_reducible refine r_orV ?_
  | with_reducible refine r_ifE ?_
  | with_reducible refine r_chain ?_
  | with_reducible refine r_sl ?_
  | with_reducible refine r_noPart ?_
  | with_reducible refine r_part ?_
  | with_reducible refine r_brk ?_
  | with_reducible refine r_cont ?_
  | with_reducible refine r_retN ?_
  | with_reducible refine r_truI ?_
  | with_reducible refine r_B ?_
  | ((with_reducible refine' r_mod ?k0 ?_); (case k0 => walk_at "side"))
  | ((with_reducible refine' r_mulI ?k0 ?_); (case k0 => first | exact Or.inl ⟨by omega, by omega⟩ | exact Or.inr ⟨by omega, by omega⟩))
  | ((with_reducible refine' r_lenL ?k0 ?_); (case k0 => walk_at "tk"))
  | ((with_reducible refine' r_lenT ?k0 ?_); (case k0 => walk_at "tk"))
  | ((with_reducible refine' r_truL ?k0 ?_); (case k0 => walk_at "tk"))
  | ((with_reducible refine' r_truT ?k0 ?_); (case k0 => walk_at "tk"))
  | ((with_reducible refine' r_ixL ?k0 ?k1 ?_); (case k0 => walk_at "tk"); (case k1 => first | assumption | rfl))
  | ((with_reducible refine' r_ixT ?k0 ?k1 ?_); (case k0 => walk_at "tk"); (case k1 => first | assumption | rfl))
  | ((with_reducible refine' r_new ?k0 ?_); (case k0 => walk_at "side"))
  | ((with_reducible refine' r_tyL ?k0 ?_); (case k0 => walk_at "tk"))
  | ((with_reducible refine' r_append ?k0 ?k1 ?_); (case k0 => walk_at "tk"); (case k1 => walk_at "side"))
  | ((with_reducible refine' r_setL ?k0 ?k1 ?_); (case k0 => walk_at "tk"); (case k1 => first | assumption | rfl))
  | ((with_reducible refine' r_kTupL ?k0 ?_); (case k0 => walk_at "tk"))
  | ((with_reducible refine' r_kTupT ?k0 ?_); (case k0 => walk_at "tk"))
  | ((with_reducible refine' r_listL ?k0 ?_); (case k0 => walk_at "tk"))
  | ((with_reducible refine' r_listT ?k0 ?_); (case k0 => walk_at "tk"))
  | ((with_reducible refine' r_aug ?k0 ?_); (case k0 => rfl))
  | ((with_reducible refine' r_lenS ?k0 ?_); (case k0 => walk_at "side"))
  | ((with_reducible refine' r_pop ?k0 ?_); (case k0 => walk_at "tk")))
local macro_rules | `(tactic| walk_at "rd") => `(tactic| ((repeat (walk_at "rd1")); (try dsimp only)))


/-! ### the law's helpers: cell, pool, draw -/
def sp_law_cell (K : PySem.W.Frag) : Sp := fun vs H Q _ => ∃ (a : Addr) (ns : List Int) (k : Int), vs = [.ref a, .int k] ∧ SqL K H a (ns.map V.int) ∧ ns.length ≤ 63 ∧ 0 ≤ k ∧ ∀ n, Q (.int n) H
def Pl (H : Hp) (p : Addr) : Prop := ∃ x y z, H p = some (.lst [.int x, .int y, .int z])
def sp_law_pool (K : PySem.W.Frag) : Sp := fun vs H Q _ => ∃ (a : Addr) (ns : List Int) (k : Int), vs = [.ref a, .int k] ∧ SqL K H a (ns.map V.int) ∧ ns.length ≤ 63 ∧ 0 ≤ k ∧ ∀ p H', H p = none → Same H H' → Pl H' p → Q (.ref p) H'
def sp_law_draw (K : PySem.W.Frag) : Sp := fun vs H Q _ => ∃ (p : Addr) (m : Int), vs = [.ref p, .int m] ∧ Pl H p ∧ 0 < m ∧ m < 2 ^ 200 ∧ ∀ v H', 0 ≤ v → v < m → But p H H' → Pl H' p → Q (.int v) H'
abbrev N_law_cell : List Str := ["script", "k"]
def t_law_cell (K : PySem.W.Frag) : TS :=
  tSeq (tIfS ((tTest (tOp (rLtU K) (tVar 1) ((tCB (rLenU K) (tCons (tVar 0) tNil)))))) ((tRet ((tCB rAbsU (tCons ((tCB rIntU (tCons ((tOp (rIx K) (tVar 0) (tVar 1))) tNil))) tNil))))) (tNext))
  (tSeq (tIfS ((tTest (tOp (rEqU K) ((tCB (rLenU K) (tCons (tVar 0) tNil))) ((tC (.int 0)))))) ((tRet ((tC (.int 0))))) (tNext))
  ((tRet ((tOp rModU ((tCB rAbsU (tCons ((tCB rIntU (tCons ((tOp (rIx K) (tVar 0) ((tOp rModU ((tCB rIntU (tCons (tVar 1) tNil))) ((tCB (rLenU K) (tCons (tVar 0) tNil))))))) tNil))) tNil))) ((tC (.int 999999999999999989))))))))

abbrev N_law_pool : List Str := ["script", "k", "cell"]
def t_law_pool (K : PySem.W.Frag) : TS :=
  tSeq (tAsg ((tCall (sp_law_cell K) [] E0 (tCons (tVar 0) (tCons (tVar 1) tNil)))) (gName 2))
  (tSeq (tIfS ((tTest (tOp rGeU (tVar 2) ((tOp rPowU ((tC (.int 10))) ((tC (.int 18)))))))) ((tRet ((tLst (tCons ((tOp rSubU (tVar 2) ((tOp rPowU ((tC (.int 10))) ((tC (.int 18))))))) (tCons ((tOp rModU ((tCB rIntU (tCons (tVar 2) tNil))) ((tC (.int 1000003))))) (tCons ((tC (.int 0))) tNil))))))) (tNext))
  ((tRet ((tLst (tCons ((tC (.int 0))) (tCons ((tOp (rAddU K) (tVar 2) ((tOp (rMulU K) ((tC (.int 104729))) ((tOp (rAddU K) (tVar 1) ((tC (.int 1))))))))) (tCons ((tC (.int 0))) tNil))))))))

abbrev N_law_draw : List Str := ["pool", "many", "value", "mixed"]
def t_law_draw (K : PySem.W.Frag) : TS :=
  tSeq (tAsg ((tOp (rAddU K) ((tOp (rIx K) (tVar 0) ((tC (.int 2))))) ((tC (.int 1))))) (gSub (tVar 0) ((tC (.int 2))) rSetL))
  (tSeq (tIfS ((tTest (tOp rGtU ((tOp (rIx K) (tVar 0) ((tC (.int 0))))) ((tC (.int 1)))))) (tSeq (tAsg ((tOp rModU ((tCB rIntU (tCons ((tOp (rIx K) (tVar 0) ((tC (.int 0))))) tNil))) (tVar 1))) (gName 2))
  (tSeq (tAsg ((tOp rFdivU ((tOp (rIx K) (tVar 0) ((tC (.int 0))))) (tVar 1))) (gSub (tVar 0) ((tC (.int 0))) rSetL))
  ((tRet (tVar 2))))) (tNext))
  (tSeq (tAsg ((tOp rModU ((tCB rIntU (tCons ((tOp (rAddU K) ((tOp (rIx K) (tVar 0) ((tC (.int 1))))) ((tOp (rMulU K) ((tC (.int 7919))) ((tOp (rIx K) (tVar 0) ((tC (.int 2))))))))) tNil))) ((tC (.int 1000003))))) (gName 3))
  (tSeq (tAsg ((tOp rModU ((tCB rIntU (tCons ((tOp (rAddU K) ((tOp (rAddU K) ((tOp (rMulU K) (tVar 3) (tVar 3))) ((tOp (rMulU K) ((tC (.int 48271))) ((tOp (rIx K) (tVar 0) ((tC (.int 2))))))))) ((tOp (rIx K) (tVar 0) ((tC (.int 1))))))) tNil))) ((tC (.int 998244353))))) (gName 3))
  (tSeq (tAsg ((tOp rModU ((tCB rIntU (tCons ((tOp (rAddU K) ((tOp (rMulU K) (tVar 3) (tVar 3))) ((tC (.int 69621))))) tNil))) ((tC (.int 2147483647))))) (gName 3))
  ((tRet ((tOp rModU ((tCB rIntU (tCons ((tOp rFdivU (tVar 3) ((tC (.int 7))))) tNil))) (tVar 1)))))))))


theorem len_law_cell {K : PySem.W.Frag} {vs : List V} {H : Hp} {Q : VK} {E : XK} (h : sp_law_cell K vs H Q E) : vs.length = 2 := by
  obtain ⟨a, ns, k, rfl, _⟩ := h; rfl
theorem len_law_pool {K : PySem.W.Frag} {vs : List V} {H : Hp} {Q : VK} {E : XK} (h : sp_law_pool K vs H Q E) : vs.length = 2 := by
  obtain ⟨a, ns, k, rfl, _⟩ := h; rfl
theorem len_law_draw {K : PySem.W.Frag} {vs : List V} {H : Hp} {Q : VK} {E : XK} (h : sp_law_draw K vs H Q E) : vs.length = 2 := by
  obtain ⟨a, m, rfl, _⟩ := h; rfl
abbrev En (Q : VK) : Ends := { nx := fun _ H' => Q .non H', rt := Q }
theorem atI_ints {ns : List Int} {k : Int} (h0 : 0 ≤ k) (h1 : k < (ns.length : Int)) : ∃ n, atI (ns.map V.int) k = some (.int n) ∧ ns[k.toNat]? = some n := by
  have h2 : k.toNat < ns.length := by omega
  refine ⟨ns[k.toNat], ?_, List.getElem?_eq_getElem h2⟩
  have e : ((k.toNat : Nat) : Int) = k := by omega
  have h3 : (ns.map V.int)[k.toNat]? = some (.int ns[k.toNat]) := by rw [List.getElem?_map, List.getElem?_eq_getElem h2]; rfl
  have h4 := atI_nat h3
  rw [e] at h4
  exact h4
theorem pure_law_cell {K : PySem.W.Frag} {vs : List V} {H : Hp} {Q : VK} {E : XK} (h : sp_law_cell K vs H Q E) : t_law_cell K (En Q) (start N_law_cell vs) H := by
  obtain ⟨a, ns, k, rfl, hS, hn, hk, q⟩ := h
  unfold t_law_cell
  walk_at "rd"
  rw [List.length_map]
  refine r_ite (fun hlt => ?_) (fun hge => ?_)
  · obtain ⟨n, e1, _⟩ := atI_ints hk hlt
    walk_at "rd"
    exact q _
  · walk_at "rd"
    rw [List.length_map]
    refine r_ite (fun h0 => ?_) (fun h0 => ?_)
    · walk_at "rd"
      exact q _
    · have hp : (0 : Int) < ((ns.map V.int).length : Int) := by rw [List.length_map]; omega
      walk_at "rd"
      obtain ⟨n, e1, _⟩ := atI_ints (ns := ns) (k := k % ((ns.map V.int).length : Int)) (Int.emod_nonneg _ (by omega)) (by rw [List.length_map] at hp ⊢; exact Int.emod_lt_of_pos _ hp)
      walk_at "rd"
      exact q _
theorem c18 : CPow 10 18 := ⟨by decide, by decide, by decide⟩
theorem pure_law_pool {K : PySem.W.Frag} {vs : List V} {H : Hp} {Q : VK} {E : XK} (h : sp_law_pool K vs H Q E) : t_law_pool K (En Q) (start N_law_pool vs) H := by
  obtain ⟨a, ns, k, rfl, hS, hn, hk, q⟩ := h
  unfold t_law_pool
  walk_at "rd"
  refine ⟨a, ns, k, rfl, hS, hn, hk, fun n => ?_⟩
  walk_at "rd"
  refine r_pow c18 ?_
  walk_at "rd"
  refine r_ite (fun h1 => ?_) (fun h1 => ?_)
  · walk_at "rd"
    refine r_pow c18 ?_
    walk_at "rd"
    intro p H' hp s e
    exact q p H' hp s ⟨_, _, _, e⟩
  · walk_at "rd"
    intro p H' hp s e
    exact q p H' hp s ⟨_, _, _, e⟩
theorem log2_small {m : Int} (h0 : 0 < m) (h1 : m < 2 ^ 200) : m.natAbs.log2 < 9000 := (wide_div (i := 0) h0 (b := 200) (by omega) (by decide) (by decide)).2
theorem pure_law_draw {K : PySem.W.Frag} {vs : List V} {H : Hp} {Q : VK} {E : XK} (h : sp_law_draw K vs H Q E) : t_law_draw K (En Q) (start N_law_draw vs) H := by
  obtain ⟨p, m, rfl, ⟨x, y, z, hp⟩, h0, h1, q⟩ := h
  have hl := log2_small h0 h1
  unfold t_law_draw
  walk_at "rd"
  intro H1 b1 e1
  have e1 : H1 p = some (.lst [.int x, .int y, .int (z + 1)]) := e1
  walk_at "rd"
  refine r_ite (fun hx => ?_) (fun hx => ?_)
  · walk_at "rd"
    refine r_fdiv h0 hl ?_
    walk_at "rd"
    intro H2 b2 e2
    walk_at "rd"
    exact q _ _ (Int.emod_nonneg _ (by omega)) (Int.emod_lt_of_pos _ h0) (b1.trans b2) ⟨_, _, _, e2⟩
  · walk_at "rd"
    refine r_fdiv (by decide) (by decide) ?_
    walk_at "rd"
    exact q _ _ (Int.emod_nonneg _ (by omega)) (Int.emod_lt_of_pos _ h0) b1 ⟨_, _, _, e1⟩
end Kb

set_option Elab.async false
set_option linter.all false
set_option maxRecDepth 100000
set_option maxHeartbeats 4000000
namespace Kb
open PySem PySem.Spec PyProof.Rows L2

/-! ### loops -/
section
variable {K : PySem.W.Frag} {D : Ends} {σ : L2.St} {H : Hp} {tb : TS} {te ta : TE} {g : TG} {c : TT} {i j : Nat} {m n l : Int} {R : It → Hp → Prop}
/-- the body of a while, from a state that holds with the measure m -/
def PBody (W : Nat → L2.St → Hp → Prop) (m : Nat) (tb : TS) (D : Ends) (σ : L2.St) (H : Hp) : Prop := ∃ N : L2.St → Hp → Prop, (∀ σ' H', N σ' H' → ∃ m', m' < m ∧ W m' σ' H') ∧ tb { D with nx := N, ct := N, bk := D.nx } σ H
theorem r_while (W : Nat → L2.St → Hp → Prop) (m : Nat) (h0 : W m σ H)
    (hs : ∀ m σ H, W m σ H → c σ H fun b H1 => if b = true then PBody W m tb D σ H1 else D.nx σ H1) : tWhile c tb D σ H := ⟨W, ⟨m, h0⟩, hs⟩
theorem r_body {W : Nat → L2.St → Hp → Prop} {m : Nat} (h : tb { D with nx := fun σ' H' => ∃ m', m' < m ∧ W m' σ' H', ct := fun σ' H' => ∃ m', m' < m ∧ W m' σ' H', bk := D.nx } σ H) : PBody W m tb D σ H := ⟨_, fun _ _ h => h, h⟩
def PFor (J : It) (g : TG) (tb : TS) (D : Ends) (σ : L2.St) (H : Hp) : Prop := ∃ W : Nat → Nat → L2.St → Hp → Prop, (∃ m, W 0 m σ H) ∧ ∀ i m σ H, W i m σ H →
  (J.stop i H ∧ D.nx σ H) ∨ (J.go i H ∧ ∃ N : L2.St → Hp → Prop, (∀ σ' H', N σ' H' → ∃ m', m' < m ∧ W (i + 1) m' σ' H') ∧ ∀ x H', J.yld i H x H' → g x σ H' fun σ2 H2 => tb { D with nx := N, ct := N, bk := D.nx } σ2 H2)
theorem r_for {wi : TI} (h : wi σ H fun J H1 => PFor J g tb D σ H1) : tFor wi g tb D σ H := h
def PR1 (vs : List V) (R : It → Prop) : Prop := ∃ j : Int, vs = [.int j] ∧ -(2 ^ 62) ≤ j ∧ j < 2 ^ 62 ∧ R (Itr 0 j.toNat)
def PR2 (vs : List V) (R : It → Prop) : Prop := ∃ i j : Int, vs = [.int i, .int j] ∧ (-(2 ^ 62) ≤ i ∧ i < 2 ^ 62 ∧ -(2 ^ 62) ≤ j ∧ j < 2 ^ 62) ∧ R (Itr i (j - i).toNat)
def PR3 (vs : List V) (R : It → Prop) : Prop := ∃ (i j c : Int) (n : Nat), vs = [.int i, .int j, .int c] ∧ RgC i j c n ∧ R (Itc i c n)
theorem r_rng1 {ts : TA} (h : ts σ H fun vs H1 => PR1 vs fun J => R J H1) : iRng1 ts σ H R := h
theorem r_rng2 {ts : TA} (h : ts σ H fun vs H1 => PR2 vs fun J => R J H1) : iRng2 ts σ H R := h
theorem r_rng3 {ts : TA} (h : ts σ H fun vs H1 => PR3 vs fun J => R J H1) : iRng3 ts σ H R := h
theorem r_pr1 {R : It → Prop} (h : -(2 ^ 62) ≤ m ∧ m < 2 ^ 62) (q : R (Itr 0 m.toNat)) : PR1 [.int m] R := ⟨m, rfl, h.1, h.2, q⟩
theorem r_pr2 {R : It → Prop} (h : -(2 ^ 62) ≤ l ∧ l < 2 ^ 62 ∧ -(2 ^ 62) ≤ m ∧ m < 2 ^ 62) (q : R (Itr l (m - l).toNat)) : PR2 [.int l, .int m] R := ⟨l, m, rfl, h, q⟩
theorem r_pr3d {R : It → Prop} (h : -(2 ^ 62) ≤ l ∧ l < 2 ^ 62 ∧ -(2 ^ 62) ≤ m ∧ m < 2 ^ 62) (q : R (Itc l (-1) (l - m).toNat)) : PR3 [.int l, .int m, .int (-1)] R := ⟨l, m, -1, _, rfl, RgC.neg h.1 h.2.1 h.2.2.1 h.2.2.2, q⟩
theorem r_forRange {lo : Int} {n : Nat} (Pv : Nat → L2.St → Hp → Prop) (h0 : Pv 0 σ H)
    (hs : ∀ i σ' H', i < n → Pv i σ' H' → tb { D with nx := Pv (i + 1), ct := Pv (i + 1), bk := D.nx } (σ'.set j (some (.int (lo + (i : Int))))) H')
    (hd : ∀ σ' H', Pv n σ' H' → D.nx σ' H') : PFor (Itr lo n) (gName j) tb D σ H := for_range Pv h0 hs hd
theorem r_forRange0 {n : Nat} (Pv : Nat → L2.St → Hp → Prop) (h0 : Pv 0 σ H)
    (hs : ∀ i σ' H', i < n → Pv i σ' H' → tb { D with nx := Pv (i + 1), ct := Pv (i + 1), bk := D.nx } (σ'.set j (some (.int (i : Int)))) H')
    (hd : ∀ σ' H', Pv n σ' H' → D.nx σ' H') : PFor (Itr 0 n) (gName j) tb D σ H := for_range Pv h0 (fun i σ' H' hi p => by
      show tb _ (σ'.set j (some (.int ((0 : Int) + (i : Int))))) H'
      rw [Int.zero_add]
      exact hs i σ' H' hi p) hd
def PSeqT (K : PySem.W.Frag) (x : V) (H : Hp) (R : It → Hp → Prop) : Prop := ∃ a, x = .ref a ∧ (∃ xs, SqT K H a xs) ∧ R (Itt K a) H
def PSeqL (K : PySem.W.Frag) (x : V) (H : Hp) (R : It → Hp → Prop) : Prop := ∃ a, x = .ref a ∧ (∃ xs, SqL K H a xs) ∧ R (Itl K a) H
def PSeqS (x : V) (H : Hp) (R : It → Hp → Prop) : Prop := ∃ z, x = .str z ∧ R (Its z) H
theorem r_seqT (h : te σ H fun x H1 => PSeqT K x H1 R) : iSeqU K te σ H R := .inr (.inl h)
theorem r_seqL (h : te σ H fun x H1 => PSeqL K x H1 R) : iSeqU K te σ H R := .inl h
theorem r_seqS (h : te σ H fun x H1 => PSeqS x H1 R) : iSeqU K te σ H R := .inr (.inr h)
theorem r_pseqT {a : Addr} {xs : List V} (h : SqT K H a xs) (q : R (Itt K a) H) : PSeqT K (.ref a) H R := ⟨a, rfl, ⟨xs, h⟩, q⟩
theorem r_pseqL {a : Addr} {xs : List V} (h : SqL K H a xs) (q : R (Itl K a) H) : PSeqL K (.ref a) H R := ⟨a, rfl, ⟨xs, h⟩, q⟩
theorem r_pseqS {z : Str} (q : R (Its z) H) : PSeqS (.str z) H R := ⟨z, rfl, q⟩
theorem r_forTup {a : Addr} {xs : List V} (Pv : Nat → L2.St → Hp → Prop) (h0 : Pv 0 σ H) (hl : ∀ i σ' H', i ≤ xs.length → Pv i σ' H' → SqT K H' a xs)
    (hs : ∀ i x σ' H', xs[i]? = some x → Pv i σ' H' → g x σ' H' fun σ2 H2 => tb { D with nx := Pv (i + 1), ct := Pv (i + 1), bk := D.nx } σ2 H2)
    (hd : ∀ σ' H', Pv xs.length σ' H' → D.nx σ' H') : PFor (Itt K a) g tb D σ H := for_tup Pv h0 hl hs hd
theorem r_forLst {a : Addr} {xs : List V} (Pv : Nat → L2.St → Hp → Prop) (h0 : Pv 0 σ H) (hl : ∀ i σ' H', i ≤ xs.length → Pv i σ' H' → SqL K H' a xs)
    (hs : ∀ i x σ' H', xs[i]? = some x → Pv i σ' H' → g x σ' H' fun σ2 H2 => tb { D with nx := Pv (i + 1), ct := Pv (i + 1), bk := D.nx } σ2 H2)
    (hd : ∀ σ' H', Pv xs.length σ' H' → D.nx σ' H') : PFor (Itl K a) g tb D σ H := for_list Pv h0 hl hs hd
/-! ### comprehensions -/
def PLc (J : It) (g : TG) (tt : TT) (te : TE) (vs : List Nat) (σ : L2.St) (H1 : Hp) (Q : VK) : Prop := ∀ D, H1 D = none → ∃ W : Nat → Nat → Hp → Prop, (∃ m, W 0 m (upd H1 D (.lst []))) ∧ ∀ i m H, W i m H →
  (J.stop i H ∧ Q (.ref D) H) ∨ (J.go i H ∧ ∃ Nx : Hp → Prop, (∀ H', Nx H' → ∃ m', m' < m ∧ W (i + 1) m' H') ∧ ∀ x H', J.yld i H x H' → g x (wipe σ vs) H' fun σ2 H2 => wipe σ2 vs = wipe σ vs ∧ tt σ2 H2 fun b H3 =>
    if b = true then te σ2 H3 fun y H4 => ∃ acc, H4 D = some (.lst acc) ∧ acc.length < sizeLine ∧ Nx (upd H4 D (.lst (acc ++ [y]))) else Nx H3)
theorem r_lc {wi : TI} {tt : TT} {vs : List Nat} {Q : VK} (h : wi σ H fun J H1 => PLc J g tt te vs σ H1 Q) : tLc wi g tt te vs σ H Q := h
theorem r_yes {QB : Bool → Hp → Prop} (q : QB true H) : tYes σ H QB := q
/-- the made item goes into the list at D -/
def PAcc (D : Addr) (Nx : Hp → Prop) (y : V) (H : Hp) : Prop := ∃ acc, H D = some (.lst acc) ∧ acc.length < sizeLine ∧ Nx (upd H D (.lst (acc ++ [y])))
theorem r_acc {D : Addr} {Nx : Hp → Prop} {y : V} {acc : List V} (h : H D = some (.lst acc)) (hz : acc.length ≤ 1000000) (k : ∀ H', But D H H' → H' D = some (.lst (acc ++ [y])) → Nx H') : PAcc D Nx y H :=
  ⟨acc, h, by rw [sizeLine_eq]; omega, k _ but_upd upd_same⟩
/-- over a tuple: Pv tells the new list's place, the turn, the heap -/
theorem r_lcT {a : Addr} {xs : List V} {Q : VK} {tt : TT} {vs : List Nat} (Pv : Addr → Nat → Hp → Prop) (hw : ∀ x, wipe ((wipe σ vs).set j (some x)) vs = wipe σ vs)
    (h0 : ∀ D H', H D = none → Same H H' → H' D = some (.lst []) → Pv D 0 H') (hl : ∀ D i H', Pv D i H' → SqT K H' a xs)
    (hs : ∀ D i x H', xs[i]? = some x → Pv D i H' → tt ((wipe σ vs).set j (some x)) H' fun b H3 => if b = true then te ((wipe σ vs).set j (some x)) H3 (fun y H4 => PAcc D (Pv D (i + 1)) y H4) else Pv D (i + 1) H3)
    (hd : ∀ D H', H D = none → Pv D xs.length H' → Q (.ref D) H') : PLc (Itt K a) (gName j) tt te vs σ H Q := by
  intro D hD
  exact lc_tup (xs := xs) (Pv D) (h0 D _ hD (same_new hD) upd_same) (fun i H' _ p => hl D i H' p) (fun i x H' hi p => ⟨hw x, hs D i x H' hi p⟩) (fun H' p => hd D H' hD p)
theorem r_lcL {a : Addr} {xs : List V} {Q : VK} {tt : TT} {vs : List Nat} (Pv : Addr → Nat → Hp → Prop) (hw : ∀ x, wipe ((wipe σ vs).set j (some x)) vs = wipe σ vs)
    (h0 : ∀ D H', H D = none → Same H H' → H' D = some (.lst []) → Pv D 0 H') (hl : ∀ D i H', Pv D i H' → SqL K H' a xs)
    (hs : ∀ D i x H', xs[i]? = some x → Pv D i H' → tt ((wipe σ vs).set j (some x)) H' fun b H3 => if b = true then te ((wipe σ vs).set j (some x)) H3 (fun y H4 => PAcc D (Pv D (i + 1)) y H4) else Pv D (i + 1) H3)
    (hd : ∀ D H', H D = none → Pv D xs.length H' → Q (.ref D) H') : PLc (Itl K a) (gName j) tt te vs σ H Q := by
  intro D hD
  exact lc_list (xs := xs) (Pv D) (h0 D _ hD (same_new hD) upd_same) (fun i H' _ p => hl D i H' p) (fun i x H' hi p => ⟨hw x, hs D i x H' hi p⟩) (fun H' p => hd D H' hD p)
theorem r_lcR {lo : Int} {n : Nat} {Q : VK} {tt : TT} {vs : List Nat} (Pv : Addr → Nat → Hp → Prop) (hw : ∀ x, wipe ((wipe σ vs).set j (some x)) vs = wipe σ vs)
    (h0 : ∀ D H', H D = none → Same H H' → H' D = some (.lst []) → Pv D 0 H')
    (hs : ∀ D i H', i < n → Pv D i H' → tt ((wipe σ vs).set j (some (.int (lo + (i : Int))))) H' fun b H3 => if b = true then te ((wipe σ vs).set j (some (.int (lo + (i : Int))))) H3 (fun y H4 => PAcc D (Pv D (i + 1)) y H4) else Pv D (i + 1) H3)
    (hd : ∀ D H', H D = none → Pv D n H' → Q (.ref D) H') : PLc (Itr lo n) (gName j) tt te vs σ H Q := by
  intro D hD
  exact lc_range (Pv D) (h0 D _ hD (same_new hD) upd_same) (fun i H' hi p => ⟨hw _, hs D i H' hi p⟩) (fun H' p => hd D H' hD p)
/-- the plain case: a tuple's items, each gives a value that its own place and item tell; nothing else is changed -/
theorem r_lcTm {a : Addr} {xs : List V} {Q : VK} {vs : List Nat} (f : Nat → V → V) (hx : SqT K H a xs) (hz : xs.length ≤ 1000000) (hw : ∀ x, wipe ((wipe σ vs).set j (some x)) vs = wipe σ vs)
    (hs : ∀ i x H1 (Q' : VK), xs[i]? = some x → Same H H1 → (∀ H2, Same H1 H2 → Q' (f i x) H2) → te ((wipe σ vs).set j (some x)) H1 Q')
    (hd : ∀ p H', H p = none → Same H H' → H' p = some (.lst ((List.range xs.length).zipWith f xs)) → Q (.ref p) H') : PLc (Itt K a) (gName j) tYes te vs σ H Q := by
  refine r_lcT (xs := xs) (fun D i H' => H D = none ∧ Same H H' ∧ H' D = some (.lst (((List.range xs.length).zipWith f xs).take i))) hw (fun D H' hD s e => ⟨hD, s, by rw [e]; rfl⟩) (fun D i H' p => sqT_same p.2.1 hx) (fun D i x H' hi p => ?_) (fun D H' hD p => ?_)
  · refine r_yes ?_
    refine r_T ?_
    have hil : i < xs.length := (List.getElem?_eq_some_iff.mp hi).1
    refine hs i x H' _ hi p.2.1 (fun H2 s2 => r_acc (s2 _ _ p.2.2) ?_ fun H5 b5 e5 => ⟨p.1, same_but (p.2.1.trans s2) b5 p.1, ?_⟩)
    · rw [List.length_take, List.length_zipWith, List.length_range]; omega
    · rw [e5, List.take_add_one]
      have e : ((List.range xs.length).zipWith f xs)[i]? = some (f i x) := by
        rw [List.getElem?_zipWith, hi, List.getElem?_range hil]
      rw [e]
      rfl
  · refine hd D H' hD p.2.1 ?_
    have e := p.2.2
    rw [List.take_of_length_le (by rw [List.length_zipWith, List.length_range]; omega)] at e
    exact e
end
end Kb

/-! M03: rows as lists of ints: walks, their least bells, order, inversions. Plain Lean. -/
set_option maxRecDepth 100000
set_option linter.all false
namespace Kb
def IsRow (r : List Int) (n : Nat) : Prop := r.length = n ∧ r.Nodup ∧ ∀ x ∈ r, 1 ≤ x ∧ x ≤ (n : Int)
def mulR (x y : List Int) : List Int := y.map fun b => x.getD (b - 1).toNat 0
def roundsR (n : Nat) : List Int := (List.range n).map fun (i : Nat) => 1 + (i : Int)
def nx (r : List Int) (b : Int) : Int := r.getD (b - 1).toNat 0
def itr (r : List Int) : Nat → Int → Int
  | 0, b => b
  | k + 1, b => nx r (itr r k b)
def per (r : List Int) (b : Int) : Nat := ((List.range r.length).find? fun k => decide (itr r (k + 1) b = b)).getD 0 + 1
def orbit (r : List Int) (b : Int) : List Int := (List.range (per r b)).map fun k => itr r k b
def isMin (r : List Int) (b : Int) : Bool := (orbit r b).all fun x => decide (b ≤ x)
def cyc (r : List Int) : List (List Int) := ((roundsR r.length).filter (isMin r)).map (orbit r)
def ordL (cs : List (List Int)) : Nat := cs.foldl (fun a c => Nat.lcm a c.length) 1
def inv : List Int → Nat
  | [] => 0
  | x :: w => (w.filter fun y => decide (y < x)).length + inv w

/-! ### pigeonhole -/
theorem nodup_inj {α : Type} {l : List α} (nd : l.Nodup) {i j : Nat} {hi : i < l.length} {hj : j < l.length} (e : l[i] = l[j]) : i = j := by
  rw [List.nodup_iff_pairwise_ne, List.pairwise_iff_getElem] at nd
  rcases Nat.lt_trichotomy i j with h | h | h
  · exact absurd e (nd i j hi hj h)
  · exact h
  · exact absurd e.symm (nd j i hj hi h)
theorem nodup_erase_len {α : Type} [DecidableEq α] {l : List α} {x : α} (h : x ∈ l) : (l.erase x).length + 1 = l.length := by
  rw [List.length_erase_of_mem h]
  have := List.length_pos_of_mem h
  omega
theorem nodup_le : ∀ (n : Nat) (l : List Int), l.Nodup → (∀ x ∈ l, 1 ≤ x ∧ x ≤ (n : Int)) → l.length ≤ n
  | 0, l, _, h => by
    cases l with
    | nil => exact Nat.le_refl _
    | cons x r => have := h x List.mem_cons_self; omega
  | n + 1, l, nd, h => by
    by_cases hm : ((n : Int) + 1) ∈ l
    · have h1 := nodup_le n (l.erase ((n : Int) + 1)) (nd.erase _) (fun x hx => by
        have h2 := h x (List.mem_of_mem_erase hx)
        have h3 : x ≠ (n : Int) + 1 := fun e => by
          subst e
          exact (List.Nodup.mem_erase_iff nd).mp hx |>.1 rfl
        omega)
      have := nodup_erase_len hm
      omega
    · have := nodup_le n l nd (fun x hx => by
        have h2 := h x hx
        have h3 : x ≠ (n : Int) + 1 := fun e => hm (e ▸ hx)
        omega)
      omega
/-- a row holds every bell -/
theorem row_mem {r : List Int} {n : Nat} (h : IsRow r n) {b : Int} (h1 : 1 ≤ b) (h2 : b ≤ n) : b ∈ r := by
  refine Decidable.byContradiction fun hm => ?_
  have := nodup_le n (b :: r) (List.nodup_cons.mpr ⟨hm, h.2.1⟩) (fun x hx => by
    rcases List.mem_cons.mp hx with rfl | hx
    · exact ⟨h1, h2⟩
    · exact h.2.2 x hx)
  rw [List.length_cons, h.1] at this
  omega
section
variable {r : List Int} {n : Nat} (h : IsRow r n)
include h
theorem nx_get {b : Int} (h1 : 1 ≤ b) (h2 : b ≤ n) : ∃ hl : (b - 1).toNat < r.length, nx r b = r[(b - 1).toNat] := by
  have hl : (b - 1).toNat < r.length := by rw [h.1]; omega
  exact ⟨hl, by unfold nx; rw [List.getD_eq_getElem?_getD, List.getElem?_eq_getElem hl]; rfl⟩
theorem nx_mem {b : Int} (h1 : 1 ≤ b) (h2 : b ≤ n) : 1 ≤ nx r b ∧ nx r b ≤ n := by
  obtain ⟨hl, e⟩ := nx_get h h1 h2
  rw [e]
  exact h.2.2 _ (List.getElem_mem hl)
theorem nx_inj {a b : Int} (ha1 : 1 ≤ a) (ha2 : a ≤ n) (h1 : 1 ≤ b) (h2 : b ≤ n) (e : nx r a = nx r b) : a = b := by
  obtain ⟨hl, e1⟩ := nx_get h h1 h2
  obtain ⟨ha, e2⟩ := nx_get h ha1 ha2
  rw [e1, e2] at e
  have := nodup_inj h.2.1 e
  omega
theorem itr_mem {b : Int} (h1 : 1 ≤ b) (h2 : b ≤ n) : ∀ k, 1 ≤ itr r k b ∧ itr r k b ≤ n
  | 0 => ⟨h1, h2⟩
  | k + 1 => by
    have := itr_mem h1 h2 k
    exact nx_mem h this.1 this.2
omit h in
theorem itr_add (b : Int) (j : Nat) : ∀ k, itr r (j + k) b = itr r k (itr r j b)
  | 0 => rfl
  | k + 1 => by
    show nx r (itr r (j + k) b) = nx r (itr r k (itr r j b))
    rw [itr_add b j k]
theorem itr_inj {a b : Int} (ha1 : 1 ≤ a) (ha2 : a ≤ n) (h1 : 1 ≤ b) (h2 : b ≤ n) : ∀ k, itr r k a = itr r k b → a = b
  | 0, e => e
  | k + 1, e => by
    have x := itr_mem h ha1 ha2 k
    have y := itr_mem h h1 h2 k
    exact itr_inj ha1 ha2 h1 h2 k (nx_inj h x.1 x.2 y.1 y.2 e)
/-- some return within n steps -/
theorem returns {b : Int} (h1 : 1 ≤ b) (h2 : b ≤ n) : ∃ k, k < n ∧ itr r (k + 1) b = b := by
  refine Decidable.byContradiction fun hn => ?_
  have hno : ∀ k, k < n → itr r (k + 1) b ≠ b := fun k hk e => hn ⟨k, hk, e⟩
  have nd : ((List.range (n + 1)).map fun k => itr r k b).Nodup := by
    rw [List.nodup_iff_pairwise_ne, List.pairwise_map]
    refine (List.pairwise_lt_range (n := n + 1)).imp_of_mem (fun {i j} hi hj hij e => ?_)
    rw [List.mem_range] at hi hj
    have e2 : itr r j b = itr r i (itr r (j - i) b) := by
      have := itr_add (r := r) b (j - i) i
      rw [show j - i + i = j by omega] at this
      exact this
    rw [e2] at e
    have hm := itr_mem h h1 h2 (j - i)
    have := itr_inj h h1 h2 hm.1 hm.2 i e
    refine hno (j - i - 1) (by omega) ?_
    rw [show j - i - 1 + 1 = j - i by omega]
    exact this.symm
  have := nodup_le n _ nd (fun x hx => by
    obtain ⟨k, _, rfl⟩ := List.mem_map.mp hx
    exact itr_mem h h1 h2 k)
  simp at this
  omega
theorem per_spec {b : Int} (h1 : 1 ≤ b) (h2 : b ≤ n) : 0 < per r b ∧ per r b ≤ n ∧ itr r (per r b) b = b ∧ ∀ k, 0 < k → k < per r b → itr r k b ≠ b := by
  obtain ⟨k, hk, ek⟩ := returns h h1 h2
  unfold per
  rw [h.1]
  cases e : (List.range n).find? (fun k => decide (itr r (k + 1) b = b)) with
  | none =>
    rw [List.find?_eq_none] at e
    exact absurd (decide_eq_true ek) (e k (List.mem_range.mpr hk))
  | some m =>
    have hm := List.find?_some e
    have hr := List.mem_range.mp (List.mem_of_find?_eq_some e)
    refine ⟨Nat.succ_pos _, hr, of_decide_eq_true hm, fun j hj hl ej => ?_⟩
    have hl : j < m + 1 := hl
    rw [List.find?_range_eq_some] at e
    have := e.2.2 (j - 1) (by omega)
    rw [show j - 1 + 1 = j by omega] at this
    simp [ej] at this
theorem itr_per {b : Int} (h1 : 1 ≤ b) (h2 : b ≤ n) : ∀ q k, itr r (per r b * q + k) b = itr r k b
  | 0, k => by rw [Nat.mul_zero, Nat.zero_add]
  | q + 1, k => by
    rw [show per r b * (q + 1) + k = per r b + (per r b * q + k) by rw [Nat.mul_succ]; omega, itr_add, (per_spec h h1 h2).2.2.1, itr_per h1 h2 q k]
/-- the walk is back exactly at the multiples of its length -/
theorem back_iff {b : Int} (h1 : 1 ≤ b) (h2 : b ≤ n) (m : Nat) : itr r m b = b ↔ per r b ∣ m := by
  have p := per_spec h h1 h2
  constructor
  · intro e
    have e2 := itr_per h h1 h2 (m / per r b) (m % per r b)
    rw [Nat.div_add_mod] at e2
    rw [e] at e2
    refine Nat.dvd_of_mod_eq_zero (Decidable.byContradiction fun hz => ?_)
    exact p.2.2.2 (m % per r b) (Nat.pos_of_ne_zero hz) (Nat.mod_lt _ p.1) e2.symm
  · rintro ⟨q, rfl⟩
    have := itr_per h h1 h2 q 0
    exact this
theorem mem_orbit {b x : Int} (h1 : 1 ≤ b) (h2 : b ≤ n) : x ∈ orbit r b ↔ ∃ k, itr r k b = x := by
  have p := per_spec h h1 h2
  unfold orbit
  rw [List.mem_map]
  constructor
  · rintro ⟨k, _, e⟩
    exact ⟨k, e⟩
  · rintro ⟨k, e⟩
    refine ⟨k % per r b, List.mem_range.mpr (Nat.mod_lt _ p.1), ?_⟩
    have := itr_per h h1 h2 (k / per r b) (k % per r b)
    rw [Nat.div_add_mod] at this
    rw [← this, e]
theorem isMin_iff {b : Int} (h1 : 1 ≤ b) (h2 : b ≤ n) : isMin r b = true ↔ ∀ k, b ≤ itr r k b := by
  unfold isMin
  rw [List.all_eq_true]
  constructor
  · intro q k
    exact of_decide_eq_true (q _ ((mem_orbit h h1 h2).mpr ⟨k, rfl⟩))
  · intro q x hx
    obtain ⟨k, rfl⟩ := (mem_orbit h h1 h2).mp hx
    exact decide_eq_true (q k)
/-- being on one walk -/
theorem orbit_symm {a b : Int} (h1 : 1 ≤ a) (h2 : a ≤ n) {k : Nat} (e : itr r k a = b) : ∃ j, itr r j b = a := by
  have p := per_spec h h1 h2
  refine ⟨per r a * k - k, ?_⟩
  rw [← e, ← itr_add]
  have hle : k ≤ per r a * k := Nat.le_mul_of_pos_left k p.1
  rw [show k + (per r a * k - k) = per r a * k + 0 by omega, itr_per h h1 h2]
  rfl
theorem orbit_nodup {b : Int} (h1 : 1 ≤ b) (h2 : b ≤ n) : (orbit r b).Nodup := by
  have p := per_spec h h1 h2
  unfold orbit
  rw [List.nodup_iff_pairwise_ne, List.pairwise_map]
  refine (List.pairwise_lt_range (n := per r b)).imp_of_mem (fun {i j} hi hj hij e => ?_)
  rw [List.mem_range] at hi hj
  have e2 : itr r j b = itr r i (itr r (j - i) b) := by
    have := itr_add (r := r) b (j - i) i
    rw [show j - i + i = j by omega] at this
    exact this
  rw [e2] at e
  have hm := itr_mem h h1 h2 (j - i)
  have := itr_inj h h1 h2 hm.1 hm.2 i e
  exact p.2.2.2 (j - i) (by omega) (by omega) this.symm
/-- a walk's bell is 1 to i at some step -/
def Seen (r : List Int) (i : Nat) (x : Int) : Prop := ∃ k, itr r k x ≤ (i : Int)
omit h in
theorem seen_zero {x : Int} (hx : IsRow r n) (h1 : 1 ≤ x) (h2 : x ≤ n) : ¬ Seen r 0 x := fun ⟨k, e⟩ => by
  have := itr_mem hx h1 h2 k
  omega
theorem seen_min {i : Nat} (h2 : 1 + (i : Int) ≤ n) : isMin r (1 + (i : Int)) = true ↔ ¬ Seen r i (1 + (i : Int)) := by
  rw [isMin_iff h (by omega) h2]
  constructor
  · rintro q ⟨k, e⟩
    have := q k
    omega
  · intro q k
    refine Decidable.byContradiction fun hc => q ⟨k, by omega⟩
theorem seen_succ_no {i : Nat} {x : Int} (hs : Seen r i (1 + (i : Int))) : Seen r (i + 1) x ↔ Seen r i x := by
  constructor
  · rintro ⟨k, e⟩
    by_cases hk : itr r k x = 1 + (i : Int)
    · obtain ⟨j, ej⟩ := hs
      refine ⟨k + j, ?_⟩
      rw [itr_add, hk]
      exact ej
    · exact ⟨k, by omega⟩
  · rintro ⟨k, e⟩
    exact ⟨k, by omega⟩
theorem seen_succ_yes {i : Nat} {x : Int} (h2 : 1 + (i : Int) ≤ n) (hx1 : 1 ≤ x) (hx2 : x ≤ n) : Seen r (i + 1) x ↔ Seen r i x ∨ ∃ k, k < per r (1 + (i : Int)) ∧ itr r k (1 + (i : Int)) = x := by
  have p := per_spec h (by omega) h2
  constructor
  · rintro ⟨k, e⟩
    by_cases hk : itr r k x = 1 + (i : Int)
    · obtain ⟨j, ej⟩ := orbit_symm h hx1 hx2 hk
      have hm : x ∈ orbit r (1 + (i : Int)) := (mem_orbit h (by omega) h2).mpr ⟨j, ej⟩
      unfold orbit at hm
      obtain ⟨k', hk', e'⟩ := List.mem_map.mp hm
      exact .inr ⟨k', List.mem_range.mp hk', e'⟩
    · exact .inl ⟨k, by omega⟩
  · rintro (⟨k, e⟩ | ⟨k, _, e⟩)
    · exact ⟨k, by omega⟩
    · obtain ⟨j, ej⟩ := orbit_symm h (by omega) h2 e
      exact ⟨j, by omega⟩
theorem fresh_step {i j : Nat} (h2 : 1 + (i : Int) ≤ n) (hm : ¬ Seen r i (1 + (i : Int))) (hj : j < per r (1 + (i : Int))) : ¬ (Seen r i (itr r j (1 + (i : Int))) ∨ ∃ k, k < j ∧ itr r k (1 + (i : Int)) = itr r j (1 + (i : Int))) := by
  have p := per_spec h (by omega) h2
  rintro (⟨k, e⟩ | ⟨k, hk, e⟩)
  · exact hm ⟨j + k, by rw [itr_add]; exact e⟩
  · have nd := orbit_nodup h (by omega : (1 : Int) ≤ 1 + (i : Int)) h2
    unfold orbit at nd
    rw [List.nodup_iff_pairwise_ne, List.pairwise_map] at nd
    have := List.pairwise_iff_getElem.mp nd k j (by rw [List.length_range]; omega) (by rw [List.length_range]; omega) hk
    rw [List.getElem_range, List.getElem_range] at this
    exact this e
end

/-! ### the order -/
theorem lcm_room {o l M : Nat} (ho : 0 < o) (hd : o ∣ M) (hle : M ≤ Nat.lcm o l) (hz : ¬ M % l = 0) : M + o ≤ Nat.lcm o l := by
  obtain ⟨c, hc⟩ := hd
  obtain ⟨e, he⟩ := Nat.dvd_lcm_left o l
  have hne : M ≠ Nat.lcm o l := fun h => hz (by rw [h]; exact Nat.mod_eq_zero_of_dvd (Nat.dvd_lcm_right o l))
  subst hc
  rw [he] at hle hne ⊢
  have h1 : c < e := by
    refine Decidable.byContradiction fun hn => ?_
    have : o * e ≤ o * c := Nat.mul_le_mul_left o (by omega)
    exact hne (Nat.le_antisymm hle this)
  have h2 : o * (c + 1) ≤ o * e := Nat.mul_le_mul_left o h1
  rw [Nat.mul_succ] at h2
  exact h2
theorem mem_rounds {n : Nat} {x : Int} : x ∈ roundsR n ↔ 1 ≤ x ∧ x ≤ (n : Int) := by
  unfold roundsR
  rw [List.mem_map]
  constructor
  · rintro ⟨i, hi, rfl⟩
    rw [List.mem_range] at hi
    omega
  · rintro ⟨h1, h2⟩
    exact ⟨(x - 1).toNat, List.mem_range.mpr (by omega), by omega⟩
theorem cyc_mem {r : List Int} {n : Nat} (h : IsRow r n) {c : List Int} (hc : c ∈ cyc r) : ∃ b : Int, 1 ≤ b ∧ b ≤ n ∧ isMin r b = true ∧ c = orbit r b := by
  unfold cyc at hc
  obtain ⟨b, hb, rfl⟩ := List.mem_map.mp hc
  rw [List.mem_filter, h.1, mem_rounds] at hb
  exact ⟨b, hb.1.1, hb.1.2, hb.2, rfl⟩
theorem orbit_len (r : List Int) (b : Int) : (orbit r b).length = per r b := by unfold orbit; rw [List.length_map, List.length_range]
theorem cyc_pos {r : List Int} {n : Nat} (h : IsRow r n) (c : List Int) (hc : c ∈ cyc r) : 0 < c.length := by
  obtain ⟨b, h1, h2, _, rfl⟩ := cyc_mem h hc
  rw [orbit_len]
  exact (per_spec h h1 h2).1
theorem foldl_lcm_pos : ∀ (cs : List (List Int)) (a : Nat), 0 < a → (∀ c ∈ cs, 0 < c.length) → 0 < cs.foldl (fun a c => Nat.lcm a c.length) a
  | [], _, h, _ => h
  | c :: cs, a, h, hc => foldl_lcm_pos cs _ (Nat.lcm_pos h (hc c List.mem_cons_self)) fun d hd => hc d (List.mem_cons_of_mem _ hd)
theorem ordL_pos {r : List Int} {n : Nat} (h : IsRow r n) (i : Nat) : 0 < ordL ((cyc r).take i) :=
  foldl_lcm_pos _ 1 Nat.one_pos fun c hc => cyc_pos h c (List.mem_of_mem_take hc)
theorem foldl_lcm_dvd (m : Nat) : ∀ (cs : List (List Int)) (a : Nat), cs.foldl (fun a c => Nat.lcm a c.length) a ∣ m ↔ a ∣ m ∧ ∀ c ∈ cs, c.length ∣ m
  | [], a => by simp
  | c :: cs, a => by
    show cs.foldl _ (Nat.lcm a c.length) ∣ m ↔ _
    rw [foldl_lcm_dvd m cs]
    constructor
    · rintro ⟨h1, h2⟩
      refine ⟨Nat.dvd_trans (Nat.dvd_lcm_left _ _) h1, fun d hd => ?_⟩
      rcases List.mem_cons.mp hd with rfl | hd
      · exact Nat.dvd_trans (Nat.dvd_lcm_right _ _) h1
      · exact h2 d hd
    · rintro ⟨h1, h2⟩
      exact ⟨Nat.lcm_dvd h1 (h2 c List.mem_cons_self), fun d hd => h2 d (List.mem_cons_of_mem _ hd)⟩

/-! ### powers: pw r m is the product of m + 1 copies -/
def pw (r : List Int) : Nat → List Int
  | 0 => r
  | m + 1 => mulR (pw r m) r
theorem mulR_len (x y : List Int) : (mulR x y).length = y.length := by unfold mulR; rw [List.length_map]
theorem nx_mul {x y : List Int} {n : Nat} (hy : IsRow y n) {b : Int} (h1 : 1 ≤ b) (h2 : b ≤ n) : nx (mulR x y) b = nx x (nx y b) := by
  obtain ⟨hl, e⟩ := nx_get hy h1 h2
  rw [e]
  unfold nx mulR
  rw [List.getD_eq_getElem?_getD, List.getElem?_map, List.getElem?_eq_getElem hl]
  rfl
theorem mulR_row' {x y : List Int} {n : Nat} (hx : IsRow x n) (hy : IsRow y n) : IsRow (mulR x y) n := by
  refine ⟨by rw [mulR_len]; exact hy.1, ?_, ?_⟩
  · unfold mulR
    rw [List.nodup_iff_pairwise_ne, List.pairwise_map]
    refine (List.nodup_iff_pairwise_ne.mp hy.2.1).imp_of_mem (fun {a b} ha hb hne e => hne ?_)
    have h1 := hy.2.2 a ha
    have h2 := hy.2.2 b hb
    exact nx_inj hx h1.1 h1.2 h2.1 h2.2 e
  · intro b hb
    unfold mulR at hb
    obtain ⟨c, hc, rfl⟩ := List.mem_map.mp hb
    have h1 := hy.2.2 c hc
    exact nx_mem hx h1.1 h1.2
theorem pw_row {r : List Int} {n : Nat} (h : IsRow r n) : ∀ m, IsRow (pw r m) n
  | 0 => h
  | m + 1 => mulR_row' (pw_row h m) h
theorem nx_pw {r : List Int} {n : Nat} (h : IsRow r n) {b : Int} (h1 : 1 ≤ b) (h2 : b ≤ n) : ∀ m, nx (pw r m) b = itr r (m + 1) b
  | 0 => rfl
  | m + 1 => by
    have hm := nx_mem h h1 h2
    show nx (mulR (pw r m) r) b = _
    rw [nx_mul h h1 h2]
    have key : ∀ {c : Int}, 1 ≤ c → c ≤ n → nx (pw r m) c = itr r (m + 1) c := fun c1 c2 => nx_pw h c1 c2 m
    rw [key hm.1 hm.2, show itr r (m + 1 + 1) b = itr r (m + 1) (itr r 1 b) by rw [← itr_add, Nat.add_comm 1 (m + 1)]]
    rfl
theorem roundsR_row' (n : Nat) : IsRow (roundsR n) n := by
  refine ⟨by simp [roundsR], ?_, fun x hx => mem_rounds.mp hx⟩
  unfold roundsR
  rw [List.nodup_iff_pairwise_ne, List.pairwise_map]
  exact List.nodup_range.imp fun h e => h (by omega)
theorem nx_rounds {n : Nat} {b : Int} (h1 : 1 ≤ b) (h2 : b ≤ n) : nx (roundsR n) b = b := by
  unfold nx roundsR
  rw [List.getD_eq_getElem?_getD, List.getElem?_map, List.getElem?_range (by omega)]
  show 1 + (((b - 1).toNat : Nat) : Int) = b
  omega
/-- rows are told by their bells -/
theorem row_ext {x y : List Int} {n : Nat} (hx : IsRow x n) (hy : IsRow y n) (e : ∀ b : Int, 1 ≤ b → b ≤ n → nx x b = nx y b) : x = y := by
  refine List.ext_getElem (hx.1.trans hy.1.symm) fun i h1 h2 => ?_
  have hi : i < n := by rw [← hx.1]; exact h1
  have := e (1 + (i : Int)) (by omega) (by omega)
  unfold nx at this
  rw [show (1 + (i : Int) - 1).toNat = i by omega] at this
  rw [List.getD_eq_getElem?_getD, List.getD_eq_getElem?_getD, List.getElem?_eq_getElem h1, List.getElem?_eq_getElem h2] at this
  exact this
/-- a walk's least bell -/
theorem has_min {r : List Int} {n : Nat} (h : IsRow r n) : ∀ (m : Nat) (b : Int), 1 ≤ b → b ≤ n → b ≤ (m : Int) → ∃ k, isMin r (itr r k b) = true
  | 0, b, h1, _, hm => by omega
  | m + 1, b, h1, h2, hm => by
    by_cases hb : isMin r b = true
    · exact ⟨0, hb⟩
    · have : ∃ k, itr r k b < b := by
        refine Classical.byContradiction fun hc => hb ((isMin_iff h h1 h2).mpr fun k => ?_)
        refine Decidable.byContradiction fun hk => hc ⟨k, by omega⟩
      obtain ⟨k, hk⟩ := this
      have hmem := itr_mem h h1 h2 k
      obtain ⟨j, hj⟩ := has_min h m (itr r k b) hmem.1 hmem.2 (by omega)
      exact ⟨k + j, by rw [itr_add]; exact hj⟩
theorem pw_round {r : List Int} {n : Nat} (h : IsRow r n) (m : Nat) : pw r m = roundsR n ↔ ordL (cyc r) ∣ m + 1 := by
  unfold ordL
  rw [foldl_lcm_dvd]
  constructor
  · intro e
    refine ⟨Nat.one_dvd _, fun c hc => ?_⟩
    obtain ⟨b, h1, h2, _, rfl⟩ := cyc_mem h hc
    rw [orbit_len, ← back_iff h h1 h2, ← nx_pw h h1 h2, e, nx_rounds h1 h2]
  · rintro ⟨_, hd⟩
    refine row_ext (pw_row h m) (roundsR_row' n) fun b h1 h2 => ?_
    rw [nx_pw h h1 h2, nx_rounds h1 h2]
    obtain ⟨k, hk⟩ := has_min h n b h1 h2 h2
    have hm := itr_mem h h1 h2 k
    have hc : orbit r (itr r k b) ∈ cyc r := by
      unfold cyc
      refine List.mem_map.mpr ⟨itr r k b, ?_, rfl⟩
      rw [List.mem_filter, h.1, mem_rounds]
      exact ⟨hm, hk⟩
    have := hd _ hc
    rw [orbit_len, ← back_iff h hm.1 hm.2] at this
    obtain ⟨j, hj⟩ := orbit_symm h h1 h2 (k := k) rfl
    rw [← hj]
    rw [← itr_add, Nat.add_comm, itr_add, this]
/-! ### no order is above 60 up to 12 bells -/
theorem cyc_sum {r : List Int} {n : Nat} (h : IsRow r n) : ((cyc r).map List.length).sum ≤ n := by
  rw [← List.length_flatten]
  refine nodup_le n _ ?_ ?_
  · rw [List.nodup_iff_pairwise_ne, List.pairwise_flatten]
    refine ⟨fun c hc => ?_, ?_⟩
    · obtain ⟨b, h1, h2, _, rfl⟩ := cyc_mem h hc
      exact List.nodup_iff_pairwise_ne.mp (orbit_nodup h h1 h2)
    · unfold cyc
      rw [List.pairwise_map]
      have hlt : (roundsR r.length).Pairwise (· < ·) := by
        unfold roundsR
        rw [List.pairwise_map]
        exact List.pairwise_lt_range.imp fun hab => by omega
      refine (hlt.filter _).imp_of_mem (fun {b c} hb hc hbc x hx y hy e => ?_)
      subst e
      rw [List.mem_filter, h.1, mem_rounds] at hb hc
      obtain ⟨k, hk⟩ := (mem_orbit h hb.1.1 hb.1.2).mp hx
      obtain ⟨k', hk'⟩ := (mem_orbit h hc.1.1 hc.1.2).mp hy
      obtain ⟨j, hj⟩ := orbit_symm h hb.1.1 hb.1.2 hk
      have h3 := (isMin_iff h hc.1.1 hc.1.2).mp hc.2 (k' + j)
      rw [itr_add, hk', hj] at h3
      omega
  · intro x hx
    obtain ⟨c, hc, hxc⟩ := List.mem_flatten.mp hx
    obtain ⟨b, h1, h2, _, rfl⟩ := cyc_mem h hc
    obtain ⟨k, rfl⟩ := (mem_orbit h h1 h2).mp hxc
    exact itr_mem h h1 h2 k
def chk : Nat → Nat → Nat → Bool
  | 0, a, _ => decide (a ≤ 60)
  | f + 1, a, s => decide (a ≤ 60) && (List.range s).all fun l => chk f (Nat.lcm a (l + 1)) (s - (l + 1))
theorem chk_le : ∀ (f a s : Nat), chk f a s = true → a ≤ 60
  | 0, a, s, h => of_decide_eq_true h
  | f + 1, a, s, h => of_decide_eq_true (Bool.and_eq_true_iff.mp h).1
theorem chk_ok : ∀ (cs : List (List Int)) (f a s : Nat), chk f a s = true → (∀ c ∈ cs, 0 < c.length) → (cs.map List.length).sum ≤ s → cs.length ≤ f → cs.foldl (fun a c => Nat.lcm a c.length) a ≤ 60
  | [], f, a, s, h, _, _, _ => chk_le f a s h
  | c :: cs, 0, a, s, h, _, _, hl => by simp at hl
  | c :: cs, f + 1, a, s, h, hp, hs, hl => by
    have hc := hp c List.mem_cons_self
    rw [List.map_cons, List.sum_cons] at hs
    have h2 := (Bool.and_eq_true_iff.mp h).2
    rw [List.all_eq_true] at h2
    have h3 := h2 (c.length - 1) (List.mem_range.mpr (by omega))
    rw [show c.length - 1 + 1 = c.length by omega] at h3
    exact chk_ok cs f _ _ h3 (fun d hd => hp d (List.mem_cons_of_mem _ hd)) (by omega) (by simpa using hl)
theorem chk_mono : ∀ (f a s s' : Nat), s' ≤ s → chk f a s = true → chk f a s' = true
  | 0, _, _, _, _, h => h
  | f + 1, a, s, s', hs, h => by
    have h2 := Bool.and_eq_true_iff.mp h
    refine Bool.and_eq_true_iff.mpr ⟨h2.1, ?_⟩
    rw [List.all_eq_true] at h2 ⊢
    intro l hl
    rw [List.mem_range] at hl
    exact chk_mono f _ _ _ (by omega) (h2.2 l (List.mem_range.mpr (by omega)))
theorem chk12 : chk 12 1 12 = true := by decide +kernel
theorem ord_le {r : List Int} {n : Nat} (h : IsRow r n) (hn : n ≤ 12) : ordL (cyc r) ≤ 60 := by
  have hs := cyc_sum h
  refine chk_ok (cyc r) 12 1 12 chk12 (fun c hc => cyc_pos h c hc) (by omega) ?_
  have : ∀ cs : List (List Int), (∀ c ∈ cs, 0 < c.length) → cs.length ≤ (cs.map List.length).sum := by
    intro cs
    induction cs with
    | nil => intro _; exact Nat.le_refl _
    | cons c cs ih =>
      intro hp
      have h1 := ih fun d hd => hp d (List.mem_cons_of_mem _ hd)
      have h2 := hp c List.mem_cons_self
      rw [List.map_cons, List.sum_cons, List.length_cons]
      omega
  have := this (cyc r) fun c hc => cyc_pos h c hc
  omega
/-! ### crossings -/
def cnt (x : Int) (l : List Int) : Nat := (l.filter fun y => decide (y < x)).length
theorem inv_cons (x : Int) (l : List Int) : inv (x :: l) = cnt x l + inv l := rfl
theorem cnt_append (x : Int) (a b : List Int) : cnt x (a ++ b) = cnt x a + cnt x b := by unfold cnt; rw [List.filter_append, List.length_append]
theorem cnt_cons (x y : Int) (l : List Int) : cnt x (y :: l) = (if y < x then 1 else 0) + cnt x l := by
  unfold cnt
  by_cases h : y < x
  · rw [List.filter_cons_of_pos (by simpa using h), if_pos h, List.length_cons]; omega
  · rw [List.filter_cons_of_neg (by simpa using h), if_neg h]; omega
theorem cnt_perm {x : Int} {a b : List Int} (h : a.Perm b) : cnt x a = cnt x b := (h.filter _).length_eq
theorem inv_adj {a b : Int} (h : a ≠ b) (w : List Int) : ∀ u : List Int, (inv (u ++ a :: b :: w) + inv (u ++ b :: a :: w)) % 2 = 1
  | [] => by
    simp only [List.nil_append, inv_cons, cnt_cons]
    by_cases h1 : a < b
    · rw [if_pos h1, if_neg (by omega : ¬ b < a)]; omega
    · rw [if_neg h1, if_pos (by omega : b < a)]; omega
  | x :: u => by
    have ih := inv_adj h w u
    have e : cnt x (u ++ a :: b :: w) = cnt x (u ++ b :: a :: w) := cnt_perm ((List.Perm.swap b a w).append_left u)
    simp only [List.cons_append, inv_cons, e]
    omega
theorem inv_move {b : Int} (w : List Int) : ∀ (v u : List Int), b ∉ v → inv (u ++ v ++ b :: w) % 2 = (inv (u ++ b :: (v ++ w)) + v.length) % 2
  | [], u, _ => by simp
  | c :: v, u, h => by
    have h1 : c ≠ b := fun e => h (e ▸ List.mem_cons_self)
    have ih := inv_move w v (u ++ [c]) fun hm => h (List.mem_cons_of_mem _ hm)
    have h2 := inv_adj h1 (v ++ w) u
    have e1 : u ++ c :: v ++ b :: w = u ++ [c] ++ v ++ b :: w := by simp
    have e2 : u ++ [c] ++ b :: (v ++ w) = u ++ c :: b :: (v ++ w) := by simp
    rw [e1, ih, e2, List.length_cons, List.cons_append]
    omega
theorem inv_swap {a b : Int} (u v w : List Int) (hab : a ≠ b) (ha : a ∉ v) (hb : b ∉ v) : (inv (u ++ a :: (v ++ b :: w)) + inv (u ++ b :: (v ++ a :: w))) % 2 = 1 := by
  have h1 := inv_move (b := b) w (a :: v) u (fun hm => by
    rcases List.mem_cons.mp hm with e | hm
    · exact hab e.symm
    · exact hb hm)
  have h2 := inv_move (b := a) w v (u ++ [b]) ha
  have e1 : u ++ a :: v ++ b :: w = u ++ a :: (v ++ b :: w) := by simp
  have e2 : u ++ [b] ++ v ++ a :: w = u ++ b :: (v ++ a :: w) := by simp
  have e3 : u ++ [b] ++ a :: (v ++ w) = u ++ b :: (a :: v ++ w) := by simp
  rw [e1, List.length_cons] at h1
  rw [e2, e3] at h2
  omega
theorem inv_perm_map {f : Int → Int} {a b : List Int} (h : a.Perm b) (nd : a.Nodup) (inj : ∀ x ∈ a, ∀ y ∈ a, f x = f y → x = y) : (inv a + inv (a.map f)) % 2 = (inv b + inv (b.map f)) % 2 := by
  induction h with
  | nil => rfl
  | cons x h ih =>
    have := ih (List.nodup_cons.mp nd).2 fun y hy z hz => inj y (List.mem_cons_of_mem _ hy) z (List.mem_cons_of_mem _ hz)
    simp only [List.map_cons, inv_cons, cnt_perm h, cnt_perm (h.map f)]
    omega
  | swap x y l =>
    have hxy : y ≠ x := fun e => by subst e; simp at nd
    have hf : f y ≠ f x := fun e => hxy (inj y List.mem_cons_self x (List.mem_cons_of_mem _ List.mem_cons_self) e)
    have h1 := inv_adj hxy l []
    have h2 := inv_adj hf (l.map f) []
    simp only [List.nil_append] at h1 h2
    simp only [List.map_cons]
    omega
  | trans h1 h2 ih1 ih2 =>
    rw [ih1 nd inj]
    exact ih2 (h1.nodup_iff.mp nd) fun x hx y hy => inj x (h1.mem_iff.mpr hx) y (h1.mem_iff.mpr hy)
theorem inv_sorted : ∀ l : List Int, l.Pairwise (· < ·) → inv l = 0
  | [], _ => rfl
  | x :: l, h => by
    rw [List.pairwise_cons] at h
    rw [inv_cons, inv_sorted l h.2]
    unfold cnt
    rw [Nat.add_zero, List.length_eq_zero_iff, List.filter_eq_nil_iff]
    intro y hy
    have := h.1 y hy
    simp
    omega
theorem rounds_lt (n : Nat) : (roundsR n).Pairwise (· < ·) := by
  unfold roundsR
  rw [List.pairwise_map]
  exact List.pairwise_lt_range.imp fun hab => by omega
theorem row_perm {r : List Int} {n : Nat} (h : IsRow r n) : r.Perm (roundsR n) := by
  rw [List.perm_ext_iff_of_nodup h.2.1 (roundsR_row' n).2.1]
  intro x
  rw [mem_rounds]
  exact ⟨h.2.2 x, fun hx => row_mem h hx.1 hx.2⟩
theorem map_rounds {x : List Int} {n : Nat} (hx : IsRow x n) : (roundsR n).map (nx x) = x := by
  refine List.ext_getElem (by rw [List.length_map, hx.1]; simp [roundsR]) fun i h1 h2 => ?_
  have hi : i < n := by rw [← hx.1]; exact h2
  rw [List.getElem_map]
  unfold roundsR nx
  rw [List.getElem_map, List.getElem_range, show (1 + (i : Int) - 1).toNat = i by omega, List.getD_eq_getElem?_getD, List.getElem?_eq_getElem h2]
  rfl
theorem inv_mul {x y : List Int} {n : Nat} (hx : IsRow x n) (hy : IsRow y n) : inv (mulR x y) % 2 = (inv x + inv y) % 2 := by
  have h := inv_perm_map (f := nx x) (row_perm hy) hy.2.1 (fun a ha b hb e => by
    have h1 := hy.2.2 a ha
    have h2 := hy.2.2 b hb
    exact nx_inj hx h1.1 h1.2 h2.1 h2.2 e)
  rw [map_rounds hx, inv_sorted _ (rounds_lt n)] at h
  have e : mulR x y = y.map (nx x) := rfl
  rw [e]
  omega
/-! ### walks when the greatest bell is taken out -/
section
variable {r r' : List Int} {n : Nat} (h : IsRow r (n + 1)) (h' : IsRow r' n) (hrel : ∀ b : Int, 1 ≤ b → b ≤ n → nx r' b = if nx r b = (n : Int) + 1 then nx r ((n : Int) + 1) else nx r b)
include h h' hrel
theorem out_fwd {b : Int} (h1 : 1 ≤ b) (h2 : b ≤ n) : ∀ k, ∃ j, itr r' k b = itr r j b
  | 0 => ⟨0, rfl⟩
  | k + 1 => by
    obtain ⟨j, hj⟩ := out_fwd h1 h2 k
    have hm := itr_mem h' h1 h2 k
    have e := hrel _ hm.1 hm.2
    show ∃ j, nx r' (itr r' k b) = itr r j b
    rw [e]
    by_cases hc : nx r (itr r' k b) = (n : Int) + 1
    · rw [if_pos hc]
      refine ⟨j + 2, ?_⟩
      show _ = nx r (nx r (itr r j b))
      rw [← hj, hc]
    · rw [if_neg hc]
      refine ⟨j + 1, ?_⟩
      show _ = nx r (itr r j b)
      rw [hj]
theorem out_back {b : Int} (h1 : 1 ≤ b) (h2 : b ≤ n) : ∀ k, (∃ j, itr r' j b = itr r k b) ∨ (itr r k b = (n : Int) + 1 ∧ ∃ j, itr r' j b = nx r ((n : Int) + 1))
  | 0 => .inl ⟨0, rfl⟩
  | k + 1 => by
    rcases out_back h1 h2 k with ⟨j, hj⟩ | ⟨he, j, hj⟩
    · have hm := itr_mem h' h1 h2 j
      have e := hrel _ hm.1 hm.2
      by_cases hc : nx r (itr r' j b) = (n : Int) + 1
      · rw [if_pos hc] at e
        refine .inr ⟨?_, j + 1, e⟩
        show nx r (itr r k b) = _
        rw [← hj, hc]
      · rw [if_neg hc] at e
        refine .inl ⟨j + 1, ?_⟩
        show nx r' (itr r' j b) = nx r (itr r k b)
        rw [e, hj]
    · refine .inl ⟨j, ?_⟩
      show _ = nx r (itr r k b)
      rw [he, hj]
theorem out_min {b : Int} (h1 : 1 ≤ b) (h2 : b ≤ n) : isMin r b = isMin r' b := by
  have i1 := isMin_iff h h1 (by omega : b ≤ ((n + 1 : Nat) : Int))
  have i2 := isMin_iff h' h1 h2
  rw [Bool.eq_iff_iff, i1, i2]
  constructor
  · intro q k
    obtain ⟨j, hj⟩ := out_fwd h h' hrel h1 h2 k
    rw [hj]
    exact q j
  · intro q k
    rcases out_back h h' hrel h1 h2 k with ⟨j, hj⟩ | ⟨he, _⟩
    · rw [← hj]
      exact q j
    · omega
theorem out_cyc : (cyc r).length = (cyc r').length + (if nx r ((n : Int) + 1) = (n : Int) + 1 then 1 else 0) := by
  unfold cyc
  rw [List.length_map, List.length_map, h.1, h'.1]
  have e1 : roundsR (n + 1) = roundsR n ++ [1 + (n : Int)] := by
    unfold roundsR
    rw [List.range_succ, List.map_append]
    rfl
  have e2 : (roundsR n).filter (isMin r) = (roundsR n).filter (isMin r') := List.filter_congr fun b hb => by
    have := mem_rounds.mp hb
    exact out_min h h' hrel this.1 this.2
  rw [e1, List.filter_append, List.length_append, e2]
  congr 1
  have hn1 : (1 : Int) ≤ 1 + (n : Int) := by omega
  have hn2 : 1 + (n : Int) ≤ ((n + 1 : Nat) : Int) := by omega
  have hi := isMin_iff h hn1 hn2
  have ec : (1 : Int) + (n : Int) = (n : Int) + 1 := by omega
  by_cases hc : nx r ((n : Int) + 1) = (n : Int) + 1
  · rw [if_pos hc]
    have hall : ∀ k, itr r k (1 + (n : Int)) = 1 + (n : Int) := by
      intro k
      induction k with
      | zero => rfl
      | succ k ih =>
        show nx r (itr r k (1 + (n : Int))) = _
        rw [ih, ec]
        exact hc
    have : isMin r (1 + (n : Int)) = true := hi.mpr fun k => by rw [hall k]; exact Int.le_refl _
    rw [List.filter_cons_of_pos this]
    rfl
  · rw [if_neg hc]
    have : ¬ isMin r (1 + (n : Int)) = true := fun hm => by
      have h3 := hi.mp hm 1
      have h4 := nx_mem h hn1 hn2
      have e : itr r 1 (1 + (n : Int)) = nx r (1 + (n : Int)) := rfl
      rw [e] at h3
      refine hc ?_
      rw [← ec]
      omega
    rw [List.filter_cons_of_neg this]
    rfl
end
theorem nx_append {u w : List Int} {x : Int} {b : Int} (h1 : 1 ≤ b) : nx (u ++ x :: w) b = if (b - 1).toNat < u.length then nx u b else if (b - 1).toNat = u.length then x else w.getD ((b - 1).toNat - u.length - 1) 0 := by
  unfold nx
  rw [List.getD_eq_getElem?_getD, List.getElem?_append]
  by_cases h : (b - 1).toNat < u.length
  · rw [if_pos h, if_pos h, List.getD_eq_getElem?_getD]
  · rw [if_neg h, if_neg h]
    by_cases he : (b - 1).toNat = u.length
    · rw [if_pos he, he, Nat.sub_self]
      rfl
    · rw [if_neg he, List.getD_eq_getElem?_getD]
      obtain ⟨m, hm⟩ : ∃ m, (b - 1).toNat - u.length = m + 1 := ⟨(b - 1).toNat - u.length - 1, by omega⟩
      rw [hm]
      rfl
theorem parity_eq : ∀ {n : Nat} {r : List Int}, IsRow r n → ((n : Int) - ((cyc r).length : Int)) % 2 = (inv r : Int) % 2
  | 0, r, h => by
    have : r = [] := List.length_eq_zero_iff.mp h.1
    subst this
    rfl
  | n + 1, r, h => by
    have hm : ((n : Int) + 1) ∈ r := row_mem h (by omega) (by omega)
    obtain ⟨u, v, rfl⟩ := List.append_of_mem hm
    have hlen := h.1
    rw [List.length_append, List.length_cons] at hlen
    have nd := h.2.1
    rw [List.nodup_append] at nd
    obtain ⟨ndu, ndv, huv⟩ := nd
    rw [List.nodup_cons] at ndv
    have hbu : ∀ x ∈ u, 1 ≤ x ∧ x ≤ (n : Int) := fun x hx => by
      have := h.2.2 x (List.mem_append_left _ hx)
      have h3 : x ≠ (n : Int) + 1 := huv x hx _ List.mem_cons_self
      omega
    have hbv : ∀ x ∈ v, 1 ≤ x ∧ x ≤ (n : Int) := fun x hx => by
      have := h.2.2 x (List.mem_append_right _ (List.mem_cons_of_mem _ hx))
      have h3 : x ≠ (n : Int) + 1 := fun e => ndv.1 (e ▸ hx)
      omega
    rcases List.eq_nil_or_concat v with rfl | ⟨v, q, rfl⟩
    · -- the greatest bell is last
      have hul : u.length = n := by simpa using hlen
      have h' : IsRow u n := ⟨hul, ndu, hbu⟩
      have hq : nx (u ++ [(n : Int) + 1]) ((n : Int) + 1) = (n : Int) + 1 := by
        rw [nx_append (by omega), if_neg (by omega), if_pos (by omega)]
      have hrel : ∀ b : Int, 1 ≤ b → b ≤ n → nx u b = if nx (u ++ [(n : Int) + 1]) b = (n : Int) + 1 then nx (u ++ [(n : Int) + 1]) ((n : Int) + 1) else nx (u ++ [(n : Int) + 1]) b := by
        intro b h1 h2
        have e : nx (u ++ [(n : Int) + 1]) b = nx u b := by rw [nx_append h1, if_pos (by omega)]
        rw [e, if_neg (by have := nx_mem h' h1 h2; omega)]
      have hc := out_cyc h h' hrel
      rw [if_pos hq] at hc
      have ih := parity_eq h'
      have hi : inv (u ++ [(n : Int) + 1]) = inv u := by
        clear hc ih hrel hq h' hul huv hlen h hm
        induction u with
        | nil => rfl
        | cons x u ihu =>
          rw [List.cons_append, inv_cons, inv_cons, ihu (List.nodup_cons.mp ndu).2 fun y hy => hbu y (List.mem_cons_of_mem _ hy), cnt_append, cnt_cons, if_neg (by have := hbu x List.mem_cons_self; omega)]
          rfl
      rw [hi, hc]
      omega
    · rw [List.concat_eq_append] at *
      have hvl : u.length + 1 + v.length = n := by rw [List.length_append, List.length_singleton] at hlen; omega
      have ndq := ndv.2
      rw [List.nodup_append] at ndq
      have hqv : q ∉ v := fun hx => ndq.2.2 q hx q List.mem_cons_self rfl
      have hqb := hbv q (List.mem_append_right _ List.mem_cons_self)
      have h' : IsRow (u ++ q :: v) n := by
        refine ⟨by rw [List.length_append, List.length_cons]; omega, ?_, ?_⟩
        · rw [List.nodup_append]
          refine ⟨ndu, List.nodup_cons.mpr ⟨hqv, ndq.1⟩, fun a ha b hb => ?_⟩
          refine huv a ha b (List.mem_cons_of_mem _ ?_)
          rcases List.mem_cons.mp hb with rfl | hb
          · exact List.mem_append_right _ List.mem_cons_self
          · exact List.mem_append_left _ hb
        · intro x hx
          rcases List.mem_append.mp hx with hx | hx
          · exact hbu x hx
          · rcases List.mem_cons.mp hx with rfl | hx
            · exact hqb
            · exact hbv x (List.mem_append_left _ hx)
      have hq : nx (u ++ ((n : Int) + 1) :: (v ++ [q])) ((n : Int) + 1) = q := by
        rw [nx_append (by omega), if_neg (by omega), if_neg (by omega), List.getD_eq_getElem?_getD, List.getElem?_append_right (by omega)]
        rw [show ((n : Int) + 1 - 1).toNat - u.length - 1 - v.length = 0 by omega]
        rfl
      have hrel : ∀ b : Int, 1 ≤ b → b ≤ n → nx (u ++ q :: v) b = if nx (u ++ ((n : Int) + 1) :: (v ++ [q])) b = (n : Int) + 1 then nx (u ++ ((n : Int) + 1) :: (v ++ [q])) ((n : Int) + 1) else nx (u ++ ((n : Int) + 1) :: (v ++ [q])) b := by
        intro b h1 h2
        rw [hq]
        have hb := nx_mem h' h1 h2
        rw [nx_append h1] at hb ⊢
        rw [nx_append h1]
        by_cases hc : (b - 1).toNat < u.length
        · rw [if_pos hc] at hb ⊢
          rw [if_pos hc, if_neg (by omega)]
        · rw [if_neg hc] at hb ⊢
          rw [if_neg hc]
          by_cases he : (b - 1).toNat = u.length
          · rw [if_pos he, if_pos he, if_pos rfl]
          · rw [if_neg he] at hb ⊢
            rw [if_neg he]
            have e : (v ++ [q]).getD ((b - 1).toNat - u.length - 1) 0 = v.getD ((b - 1).toNat - u.length - 1) 0 := by
              rw [List.getD_eq_getElem?_getD, List.getElem?_append_left (by omega), List.getD_eq_getElem?_getD]
            rw [e, if_neg (by omega)]
      have hc := out_cyc h h' hrel
      rw [hq, if_neg (by omega)] at hc
      have ih := parity_eq h'
      have hs := inv_swap (a := (n : Int) + 1) (b := q) u v [] (by omega) (fun hx => ndv.1 (List.mem_append_left _ hx)) hqv
      have hi : inv (u ++ q :: (v ++ [(n : Int) + 1])) = inv (u ++ q :: v) := by
        have key : ∀ l : List Int, (∀ x ∈ l, x ≤ (n : Int)) → inv (l ++ [(n : Int) + 1]) = inv l := by
          intro l
          induction l with
          | nil => intro _; rfl
          | cons x l ihl =>
            intro hx
            rw [List.cons_append, inv_cons, inv_cons, ihl fun y hy => hx y (List.mem_cons_of_mem _ hy), cnt_append, cnt_cons, if_neg (by have := hx x List.mem_cons_self; omega)]
            rfl
        have := key (u ++ q :: v) fun x hx => (h'.2.2 x hx).2
        rw [← this]
        simp
      rw [hi] at hs
      rw [hc]
      omega
end Kb

set_option Elab.async false
set_option linter.all false
set_option maxRecDepth 100000
set_option maxHeartbeats 4000000
namespace Kb
open PySem PySem.Spec PyProof.Rows L2

/-! ### data of tuples -/
inductive Dat where | int (i : Int) | bl (b : Bool) | str (s : Str) | non | tup (ds : List Dat)
mutual
def Dat.size : Dat → Nat
  | .tup ds => 1 + Dat.sizes ds
  | _ => 1
def Dat.sizes : List Dat → Nat
  | [] => 0
  | d :: ds => d.size + Dat.sizes ds
end
theorem Dat.size_pos : ∀ d : Dat, 0 < d.size
  | .int _ => by simp [Dat.size]
  | .bl _ => by simp [Dat.size]
  | .str _ => by simp [Dat.size]
  | .non => by simp [Dat.size]
  | .tup _ => by simp [Dat.size]; omega
mutual
inductive Rp (K : PySem.W.Frag) (H : Hp) : V → Dat → Prop
  | int (i : Int) : Rp K H (.int i) (.int i)
  | bl (b : Bool) : Rp K H (.bl b) (.bl b)
  | str (s : Str) : Rp K H (.str s) (.str s)
  | non : Rp K H .non .non
  | tup {a : Addr} {xs : List V} {ds : List Dat} : SqT K H a xs → RpL K H xs ds → Rp K H (.ref a) (.tup ds)
inductive RpL (K : PySem.W.Frag) (H : Hp) : List V → List Dat → Prop
  | nil : RpL K H [] []
  | cons {v : V} {vs : List V} {d : Dat} {ds : List Dat} : Rp K H v d → RpL K H vs ds → RpL K H (v :: vs) (d :: ds)
end
section
variable {K : PySem.W.Frag} {H H' : Hp} {l : Addr} {ys : List V}
/-- tuples stay -/
def TK (K : PySem.W.Frag) (H H' : Hp) : Prop := ∀ a xs, SqT K H a xs → SqT K H' a xs
theorem tk_same (s : Same H H') : TK K H H' := fun _ _ h => sqT_same s h
theorem tk_but (b : But l H H') (hl : H l = some (.lst ys)) : TK K H H' := fun _ _ h => sqT_but b hl h
mutual
theorem rp_keep (k : TK K H H') : ∀ {v : V} {d : Dat}, Rp K H v d → Rp K H' v d
  | _, _, .int i => .int i
  | _, _, .bl b => .bl b
  | _, _, .str s => .str s
  | _, _, .non => .non
  | _, _, .tup h hr => .tup (k _ _ h) (rpL_keep k hr)
theorem rpL_keep (k : TK K H H') : ∀ {vs : List V} {ds : List Dat}, RpL K H vs ds → RpL K H' vs ds
  | _, _, .nil => .nil
  | _, _, .cons h hr => .cons (rp_keep k h) (rpL_keep k hr)
end
theorem rp_same {v : V} {d : Dat} (s : Same H H') (h : Rp K H v d) : Rp K H' v d := rp_keep (tk_same s) h
theorem rp_but {v : V} {d : Dat} (b : But l H H') (hl : H l = some (.lst ys)) (h : Rp K H v d) : Rp K H' v d := rp_keep (tk_but b hl) h
theorem rpL_length : ∀ {vs : List V} {ds : List Dat}, RpL K H vs ds → vs.length = ds.length
  | _, _, .nil => rfl
  | _, _, .cons _ hr => by simp [rpL_length hr]
theorem rpL_get : ∀ {vs : List V} {ds : List Dat} {i : Nat} {d : Dat}, RpL K H vs ds → ds[i]? = some d → ∃ v, vs[i]? = some v ∧ Rp K H v d
  | _, _, _, _, .nil, e => by simp at e
  | _, _, 0, _, .cons h _, e => by simp at e; subst e; exact ⟨_, rfl, h⟩
  | _, _, i + 1, _, .cons _ hr, e => by
    obtain ⟨v, h1, h2⟩ := rpL_get (i := i) hr (by simpa using e)
    exact ⟨v, by simpa using h1, h2⟩
theorem rpL_ints (ns : List Int) : RpL K H (ns.map V.int) (ns.map Dat.int) := by
  induction ns with
  | nil => exact .nil
  | cons n ns ih => exact .cons (.int n) ih
theorem rp_ints {a : Addr} {ns : List Int} (h : SqT K H a (ns.map V.int)) : Rp K H (.ref a) (.tup (ns.map Dat.int)) := .tup h (rpL_ints ns)
end
/-! ### isinstance -/
section
variable {K : PySem.W.Frag} {H : Hp} {Q : VK}
theorem r_isiT {a : Addr} {xs : List V} {b : Bool} {T : String} (h : SqT K H a xs) (hb : kitB "tuple" T = some b) (q : Q (.bl b) H) : rIsi K [.ref a, .ty T] H Q := by
  refine ⟨.ref a, .ty T, .type "tuple", .type T, b, rfl, .ty T, ?_, kit_ty hb, q⟩
  rcases h with (h | ⟨o, h⟩) | h
  · exact .base (.tup h)
  · exact .fTuple h
  · obtain ⟨o, its, n, h1, h2, _⟩ := h
    exact .kTuple h1 h2
theorem r_isiI {i : Int} {b : Bool} {T : String} (hb : kitB "int" T = some b) (q : Q (.bl b) H) : rIsi K [.int i, .ty T] H Q := ⟨_, _, _, _, b, rfl, .ty T, .base (.int i), kit_ty hb, q⟩
theorem r_isiB {i : Bool} {b : Bool} {T : String} (hb : kitB "bool" T = some b) (q : Q (.bl b) H) : rIsi K [.bl i, .ty T] H Q := ⟨_, _, _, _, b, rfl, .ty T, .base (.bl i), kit_ty hb, q⟩
theorem r_isiS {i : Str} {b : Bool} {T : String} (hb : kitB "str" T = some b) (q : Q (.bl b) H) : rIsi K [.str i, .ty T] H Q := ⟨_, _, _, _, b, rfl, .ty T, .base (.str i), kit_ty hb, q⟩
theorem r_isiN {b : Bool} {T : String} (hb : kitB "NoneType" T = some b) (q : Q (.bl b) H) : rIsi K [.non, .ty T] H Q := ⟨_, _, _, _, b, rfl, .ty T, .base .non, kit_ty hb, q⟩
end

/-! the tactics: rd walks a reading; tk closes a fact about a heap from those ahead of it -/
local macro_rules | `(tactic| walk_at "tk") => `(tactic| first
  | assumption
  | ((with_reducible refine' sqT_of ?k); (case k => assumption))
  | ((with_reducible refine' sqL_of ?k); (case k => assumption))
  | ((with_reducible refine' sqT_same ?s ?k); (case s => assumption); (case k => walk_at "tk"))
  | ((with_reducible refine' sqL_same ?s ?k); (case s => assumption); (case k => walk_at "tk"))
  | ((with_reducible refine' sqT_but ?s ?t ?k); (case s => assumption); (case t => walk_at "tk"); (case k => walk_at "tk"))
  | ((with_reducible refine' sqL_but ?s ?t ?k); (case s => assumption); (case t => walk_at "ne"); (case k => walk_at "tk"))
  | ((with_reducible refine' sqL_of ?k); (case k => walk_at "tk"))
  | ((with_reducible refine' sqT_of ?k); (case k => walk_at "tk"))
  | ((with_reducible refine' at_same ?s ?k); (case s => assumption); (case k => walk_at "tk"))
  | ((with_reducible refine' at_but ?s ?t ?k); (case s => assumption); (case t => walk_at "ne"); (case k => walk_at "tk")))
local macro_rules | `(tactic| walk_at "ne") => `(tactic| first
  | assumption
  | (refine Ne.symm ?_; assumption)
  | exact ne_of_none (by assumption) (by assumption)
  | exact (ne_of_none (by assumption) (by assumption)).symm)
local macro_rules | `(tactic| walk_at "side") => `(tactic| first
  | assumption
  | omega
  | (simp only [sizeLine_eq, List.length_cons, List.length_nil, List.length_map]; omega)
  | (show _ ≤ sizeLine; decide))
local macro_rules | `(tactic| walk_at "kit") => `(tactic| first
  | (show kitB _ _ = some true; decide +kernel)
  | (show kitB _ _ = some false; decide +kernel))
local macro_rules | `(tactic| walk_at "rng") => `(tactic| first
  | (refine ⟨by omega, by omega, by omega, by omega⟩)
  | (refine ⟨by omega, by omega⟩)
  | ((simp only [List.length_map]); (refine ⟨by omega, by omega, by omega, by omega⟩))
  | ((simp only [List.length_map]); (refine ⟨by omega, by omega⟩)))
local macro_rules | `(tactic| walk_at "rd1") => `(tactic| first
  | with_reducible refine r_seq ?_
  | ((with_reducible refine' r_var ?k0 ?_); (case k0 => rfl))
  | with_reducible refine r_op ?_
  | with_reducible refine r_c ?_
  | with_reducible refine r_asg ?_
  | with_reducible refine r_name ?_
  | with_reducible refine r_cons ?_
  | with_reducible refine r_nil ?_
  | with_reducible refine r_CB ?_
  | with_reducible refine r_if ?_
  | with_reducible refine r_test ?_
  | with_reducible refine r_k ?_
  | with_reducible refine r_T ?_
  | with_reducible refine r_F ?_
  | with_reducible refine r_nT ?_
  | with_reducible refine r_nF ?_
  | with_reducible refine r_ret ?_
  | with_reducible refine r_drop ?_
  | with_reducible refine r_next ?_
  | with_reducible refine r_call ?_
  | with_reducible refine r_addI ?_
  | with_reducible refine r_subI ?_
  | with_reducible refine r_ltI ?_
  | with_reducible refine r_gtI ?_
  | with_reducible refine r_leI ?_
  | with_reducible refine r_geI ?_
  | with_reducible refine r_eqI ?_
  | with_reducible refine r_neI ?_
  | with_reducible refine r_int ?_
  | with_reducible refine r_abs ?_
  | with_reducible refine r_not ?_
  | with_reducible refine r_and ?_
  | with_reducible refine r_or ?_
  | with_reducible refine r_tru ?_
  | with_reducible refine r_truB ?_
  | with_reducible refine r_lst ?_
  | with_reducible refine r_tup ?_
  | with_reducible refine r_BM ?_
  | with_reducible refine r_BM0 ?_
  | with_reducible refine r_tyS ?_
  | with_reducible refine r_gsub ?_
  | with_reducible refine r_then ?_
  | with_reducible refine r_lstRg ?_
  | with_reducible refine r_tupRg ?_
  | with_reducible refine r_rg2 ?_
  | with_reducible refine r_rg1 ?_
  | with_reducible refine r_ii ?_
  | with_reducible refine r_i ?_
  | with_reducible refine r_ipI ?_
  | with_reducible refine r_un ?_
  | with_reducible refine r_neg ?_
  | with_reducible refine r_isN ?_
  | with_reducible refine r_notN ?_
  | with_reducible refine r_notV ?_
  | with_reducible refine r_pnot ?_
  | with_reducible refine r_pif ?_
  | with_reducible refine r_andV ?_
  | with_reducible refine r_orV ?_
  | with_reducible refine r_ifE ?_
  | with_reducible refine r_chain ?_
  | with_reducible refine r_sl ?_
  | with_reducible refine r_noPart ?_
  | with_reducible refine r_part ?_
  | with_reducible refine r_brk ?_
  | with_reducible refine r_cont ?_
  | with_reducible refine r_retN ?_
  | with_reducible refine r_truI ?_
  | with_reducible refine r_B ?_
  | with_reducible refine r_for ?_
  | with_reducible refine r_rng1 ?_
  | with_reducible refine r_rng2 ?_
  | with_reducible refine r_rng3 ?_
  | with_reducible refine r_body ?_
  | with_reducible refine r_lc ?_
  | with_reducible refine r_yes ?_
  | ((with_reducible refine' r_mod ?k0 ?_); (case k0 => walk_at "side"))
  | ((with_reducible refine' r_mulI ?k0 ?_); (case k0 => first | exact Or.inl ⟨by omega, by omega⟩ | exact Or.inr ⟨by omega, by omega⟩))
  | ((with_reducible refine' r_lenL ?k0 ?_); (case k0 => walk_at "tk"))
  | ((with_reducible refine' r_lenT ?k0 ?_); (case k0 => walk_at "tk"))
  | ((with_reducible refine' r_truL ?k0 ?_); (case k0 => walk_at "tk"))
  | ((with_reducible refine' r_truT ?k0 ?_); (case k0 => walk_at "tk"))
  | ((with_reducible refine' r_ixL ?k0 ?k1 ?_); (case k0 => walk_at "tk"); (case k1 => first | assumption | rfl))
  | ((with_reducible refine' r_ixT ?k0 ?k1 ?_); (case k0 => walk_at "tk"); (case k1 => first | assumption | rfl))
  | ((with_reducible refine' r_new ?k0 ?_); (case k0 => walk_at "side"))
  | ((with_reducible refine' r_tyL ?k0 ?_); (case k0 => walk_at "tk"))
  | ((with_reducible refine' r_append ?k0 ?k1 ?_); (case k0 => walk_at "tk"); (case k1 => walk_at "side"))
  | ((with_reducible refine' r_setL ?k0 ?k1 ?_); (case k0 => walk_at "tk"); (case k1 => first | assumption | rfl))
  | ((with_reducible refine' r_kTupL ?k0 ?_); (case k0 => walk_at "tk"))
  | ((with_reducible refine' r_kTupT ?k0 ?_); (case k0 => walk_at "tk"))
  | ((with_reducible refine' r_listL ?k0 ?_); (case k0 => walk_at "tk"))
  | ((with_reducible refine' r_listT ?k0 ?_); (case k0 => walk_at "tk"))
  | ((with_reducible refine' r_aug ?k0 ?_); (case k0 => rfl))
  | ((with_reducible refine' r_lenS ?k0 ?_); (case k0 => walk_at "side"))
  | ((with_reducible refine' r_pop ?k0 ?_); (case k0 => walk_at "tk"))
  | ((with_reducible refine' r_pr1 ?k0 ?_); (case k0 => walk_at "rng"))
  | ((with_reducible refine' r_pr2 ?k0 ?_); (case k0 => walk_at "rng"))
  | ((with_reducible refine' r_pr3d ?k0 ?_); (case k0 => walk_at "rng"))
  | ((with_reducible refine' r_isiI ?k0 ?_); (case k0 => walk_at "kit"))
  | ((with_reducible refine' r_isiB ?k0 ?_); (case k0 => walk_at "kit"))
  | ((with_reducible refine' r_isiS ?k0 ?_); (case k0 => walk_at "kit"))
  | ((with_reducible refine' r_isiN ?k0 ?_); (case k0 => walk_at "kit"))
  | ((with_reducible refine' r_isiT ?k0 ?k1 ?_); (case k0 => walk_at "tk"); (case k1 => walk_at "kit"))
  | ((with_reducible refine r_seqT ?_); (repeat (walk_at "rd1")); ((with_reducible refine' r_pseqT ?k0 ?_); (case k0 => walk_at "tk")))
  | ((with_reducible refine r_seqL ?_); (repeat (walk_at "rd1")); ((with_reducible refine' r_pseqL ?k0 ?_); (case k0 => walk_at "tk")))
  | ((with_reducible refine r_seqS ?_); (repeat (walk_at "rd1")); (with_reducible refine r_pseqS ?_)))
local macro_rules | `(tactic| walk_at "rd") => `(tactic| ((repeat (walk_at "rd1")); (try dsimp only)))

/-! ### _law_same: it says True of two values of one datum -/
def sp_law_same (K : PySem.W.Frag) : Sp := fun vs H Q _ => ∃ (x y : V) (d : Dat), vs = [x, y] ∧ Rp K H x d ∧ Rp K H y d ∧ d.size ≤ 1000000 ∧ ∀ H', Same H H' → Q (.bl true) H'
abbrev N_law_same : List Str := ["got", "due", "stack", "pair", "k"]
def t_law_same (K : PySem.W.Frag) : TS :=
  tSeq (tAsg ((tLst (tCons ((tLst (tCons (tVar 0) (tCons (tVar 1) tNil)))) tNil))) (gName 2))
  (tSeq (tWhile ((tTru K (tVar 2))) (tSeq (tAsg ((tBM0 K "list" rPop (tVar 2))) (gName 3))
  ((tIfS ((tTru K ((tCB (rIsi K) (tCons ((tOp (rIx K) (tVar 3) ((tC (.int 1))))) (tCons ((tC (.ty "tuple"))) tNil)))))) (tSeq (tIfS ((tOr ((tNot ((tTru K ((tCB (rIsi K) (tCons ((tOp (rIx K) (tVar 3) ((tC (.int 0))))) (tCons ((tC (.ty "tuple"))) tNil)))))))) ((tTest (tOp (rNeU K) ((tCB (rLenU K) (tCons ((tOp (rIx K) (tVar 3) ((tC (.int 0))))) tNil))) ((tCB (rLenU K) (tCons ((tOp (rIx K) (tVar 3) ((tC (.int 1))))) tNil)))))))) ((tRet ((tC (.bl false))))) (tNext))
  ((tFor (iRng1 (tCons ((tCB (rLenU K) (tCons ((tOp (rIx K) (tVar 3) ((tC (.int 1))))) tNil))) tNil)) (gName 4) ((tDrop ((tBM K "list" rAppend (tVar 2) (tCons ((tLst (tCons ((tOp (rIx K) ((tOp (rIx K) (tVar 3) ((tC (.int 0))))) (tVar 4))) (tCons ((tOp (rIx K) ((tOp (rIx K) (tVar 3) ((tC (.int 1))))) (tVar 4))) tNil)))) tNil)))))))) ((tIfS ((tTru K ((tCB (rIsi K) (tCons ((tOp (rIx K) (tVar 3) ((tC (.int 1))))) (tCons ((tC (.ty "bool"))) tNil)))))) ((tIfS ((tOr ((tNot ((tTru K ((tCB (rIsi K) (tCons ((tOp (rIx K) (tVar 3) ((tC (.int 0))))) (tCons ((tC (.ty "bool"))) tNil)))))))) ((tTest (tOp (rNeU K) ((tOp (rIx K) (tVar 3) ((tC (.int 0))))) ((tOp (rIx K) (tVar 3) ((tC (.int 1)))))))))) ((tRet ((tC (.bl false))))) (tNext))) ((tIfS ((tTru K ((tCB (rIsi K) (tCons ((tOp (rIx K) (tVar 3) ((tC (.int 1))))) (tCons ((tC (.ty "int"))) tNil)))))) ((tIfS ((tOr ((tNot ((tTru K ((tCB (rIsi K) (tCons ((tOp (rIx K) (tVar 3) ((tC (.int 0))))) (tCons ((tC (.ty "int"))) tNil)))))))) ((tOr ((tTru K ((tCB (rIsi K) (tCons ((tOp (rIx K) (tVar 3) ((tC (.int 0))))) (tCons ((tC (.ty "bool"))) tNil)))))) ((tTest (tOp (rNeU K) ((tOp (rIx K) (tVar 3) ((tC (.int 0))))) ((tOp (rIx K) (tVar 3) ((tC (.int 1)))))))))))) ((tRet ((tC (.bl false))))) (tNext))) ((tIfS ((tTru K ((tCB (rIsi K) (tCons ((tOp (rIx K) (tVar 3) ((tC (.int 1))))) (tCons ((tC (.ty "str"))) tNil)))))) ((tIfS ((tOr ((tNot ((tTru K ((tCB (rIsi K) (tCons ((tOp (rIx K) (tVar 3) ((tC (.int 0))))) (tCons ((tC (.ty "str"))) tNil)))))))) ((tTest (tOp (rNeU K) ((tOp (rIx K) (tVar 3) ((tC (.int 0))))) ((tOp (rIx K) (tVar 3) ((tC (.int 1)))))))))) ((tRet ((tC (.bl false))))) (tNext))) ((tIfS ((tTest (tOp rNotNU ((tOp (rIx K) (tVar 3) ((tC (.int 0))))) ((tC .non))))) ((tRet ((tC (.bl false))))) (tNext)))))))))))))
  ((tRet ((tC (.bl true))))))


theorem len_law_same {K : PySem.W.Frag} {vs : List V} {H : Hp} {Q : VK} {E : XK} (h : sp_law_same K vs H Q E) : vs.length = 2 := by
  obtain ⟨x, y, d, rfl, _⟩ := h; rfl
theorem r_neSame {K : PySem.W.Frag} {x : V} {H : Hp} {Q : VK} (h : scal x x = true) (q : Q (.bl false) H) : rNeU K x x H Q := .inl ⟨h, by rw [decide_eq_true rfl]; exact q⟩
structure Item where
  q : Addr
  x : V
  y : V
  d : Dat
def Items (K : PySem.W.Frag) (H : Hp) (s : Addr) (its : List Item) : Prop := ∀ it ∈ its, it.q ≠ s ∧ H it.q = some (.lst [it.x, it.y]) ∧ Rp K H it.x it.d ∧ Rp K H it.y it.d
theorem Items.same {K : PySem.W.Frag} {H H' : Hp} {s : Addr} {its : List Item} (h : Items K H s its) (e : Same H H') : Items K H' s its := fun it hi =>
  let ⟨a, b, c, d⟩ := h it hi
  ⟨a, e _ _ b, rp_same e c, rp_same e d⟩
theorem Items.but {K : PySem.W.Frag} {H H' : Hp} {s : Addr} {its : List Item} {ys : List V} (h : Items K H s its) (e : But s H H') (hs : H s = some (.lst ys)) : Items K H' s its := fun it hi =>
  let ⟨a, b, c, d⟩ := h it hi
  ⟨a, e _ _ a b, rp_but e hs c, rp_but e hs d⟩
def total (its : List Item) : Nat := (its.map fun it => it.d.size).sum
def refs (its : List Item) : List V := its.map fun it => .ref it.q
theorem total_append (a b : List Item) : total (a ++ b) = total a + total b := by simp [total]
theorem refs_append (a b : List Item) : refs (a ++ b) = refs a ++ refs b := by simp [refs]
theorem length_le_total : ∀ its : List Item, its.length ≤ total its
  | [] => Nat.le_refl _
  | it :: r => by
    have h1 := length_le_total r
    have h2 := it.d.size_pos
    show r.length + 1 ≤ total ([it] ++ r)
    rw [total_append]
    simp [total] at *
    omega
theorem sizes_take : ∀ (ds : List Dat) (i : Nat) (d : Dat), ds[i]? = some d → Dat.sizes (ds.take (i + 1)) = Dat.sizes (ds.take i) + d.size
  | [], _, _, h => by simp at h
  | e :: r, 0, d, h => by simp at h; subst h; simp [Dat.sizes]
  | e :: r, i + 1, d, h => by
    have := sizes_take r i d (by simpa using h)
    simp only [List.take_succ_cons, Dat.sizes, this]
    omega
theorem sizes_take_le : ∀ (ds : List Dat) (i : Nat), Dat.sizes (ds.take i) ≤ Dat.sizes ds
  | [], i => by simp [Dat.sizes]
  | e :: r, 0 => by simp [Dat.sizes]
  | e :: r, i + 1 => by
    have := sizes_take_le r i
    simp only [List.take_succ_cons, Dat.sizes]
    omega
theorem len_sizes : ∀ (ds : List Dat), ds.length ≤ Dat.sizes ds
  | [] => by simp [Dat.sizes]
  | e :: r => by
    have := len_sizes r
    have := e.size_pos
    simp only [List.length_cons, Dat.sizes]
    omega
theorem pure_law_same {K : PySem.W.Frag} {vs : List V} {H : Hp} {Q : VK} {E : XK} (h : sp_law_same K vs H Q E) : t_law_same K (En Q) (start N_law_same vs) H := by
  obtain ⟨x0, y0, d0, rfl, hx0, hy0, hd0, q⟩ := h
  unfold t_law_same
  walk_at "rd"
  intro p1 H1 np1 s1 e1
  walk_at "rd"
  intro st H2 nst s2 e2
  walk_at "rd"
  have hne : p1 ≠ st := ne_of_none e1 nst
  refine r_while (fun m σ H' => ∃ (its : List Item) (z3 z4 : Option V), σ = [some x0, some y0, some (.ref st), z3, z4] ∧ Same H H' ∧ H st = none ∧ H' st = some (.lst (refs its)) ∧ Items K H' st its ∧ m = total its ∧ m ≤ 1000000) d0.size
    ⟨[⟨p1, x0, y0, d0⟩], none, none, rfl, s1.trans s2, s1.free nst, e2, ?_, ?_, hd0⟩ (fun m σ H' hW => ?_)
  · intro it hi
    rw [List.mem_singleton] at hi
    subst hi
    exact ⟨hne, s2 _ _ e1, rp_same (s1.trans s2) hx0, rp_same (s1.trans s2) hy0⟩
  · simp [total]
  obtain ⟨its, z3, z4, rfl, s3, nst0, e3, hI, rfl, hm⟩ := hW
  walk_at "rd"
  rcases List.eq_nil_or_concat its with rfl | ⟨rest, it, rfl⟩
  · -- the stack is empty
    refine r_F ?_
    walk_at "rd"
    exact q _ s3
  · rw [List.concat_eq_append] at *
    have hb : (!(refs (rest ++ [it])).isEmpty) = true := by rw [refs_append]; simp [refs]
    rw [if_pos hb]
    have e3' : H' st = some (.lst (refs rest ++ [.ref it.q])) := by rw [e3, refs_append]; rfl
    obtain ⟨hq, eq, hx, hy⟩ := hI it (by simp)
    have hR : Items K H' st rest := fun i hi => hI i (by simp [hi])
    obtain ⟨q0, x, y, d⟩ := it
    dsimp only at hq eq hx hy e3'
    have ht : total (rest ++ [⟨q0, x, y, d⟩]) = total rest + d.size := by rw [total_append]; simp [total]
    rw [ht] at hm ⊢
    walk_at "rd"
    intro H4 b4 e4
    have eq4 : H4 q0 = some (.lst [x, y]) := b4 _ _ hq eq
    have hx4 := rp_but b4 e3' hx
    have hy4 := rp_but b4 e3' hy
    have hR4 := hR.but b4 e3'
    have s4 : Same H H4 := same_but s3 b4 nst0
    have dp := d.size_pos
    have fin : ∃ m', m' < total rest + d.size ∧ ∃ (its : List Item) (y3 y4 : Option V), ([some x0, some y0, some (.ref st), some (.ref q0), z4] : L2.St) = [some x0, some y0, some (.ref st), y3, y4] ∧ Same H H4 ∧ H st = none ∧ H4 st = some (.lst (refs its)) ∧ Items K H4 st its ∧ m' = total its ∧ m' ≤ 1000000 :=
      ⟨total rest, by omega, rest, _, _, rfl, s4, nst0, e4, hR4, rfl, by omega⟩
    walk_at "rd"
    cases hy4 with
    | @tup b ys ds hbt hrb =>
      cases hx4 with
      | @tup a xs _ ha hra =>
        have lx := rpL_length hra
        have ly := rpL_length hrb
        walk_at "rd"
        rw [lx, ly]
        refine r_iteNP rfl ?_
        walk_at "rd"
        have hl := len_sizes ds
        have hs : (Dat.tup ds).size = 1 + Dat.sizes ds := by simp [Dat.size]
        refine r_pr1 ⟨by omega, by omega⟩ ?_
        rw [Int.toNat_natCast, ly]
        refine r_forRange0 (fun i σ' H' => ∃ (its : List Item) (z : Option V), σ' = [some x0, some y0, some (.ref st), some (.ref q0), z] ∧ Same H H' ∧ H' st = some (.lst (refs its)) ∧ Items K H' st its ∧ total its = total rest + Dat.sizes (ds.take i) ∧
          H' q0 = some (.lst [.ref a, .ref b]) ∧ SqT K H' a xs ∧ SqT K H' b ys ∧ RpL K H' xs ds ∧ RpL K H' ys ds)
          ⟨rest, _, rfl, s4, e4, hR4, by simp [Dat.sizes], eq4, ha, hbt, hra, hrb⟩ (fun i σ' H5 hi hP => ?_) (fun σ' H5 hP => ?_)
        · obtain ⟨its, z, rfl, s5, e5, hI5, ht5, eq5, ha5, hb5, hra5, hrb5⟩ := hP
          have hd : ds[i]? = some ds[i] := List.getElem?_eq_getElem hi
          obtain ⟨vx, gx, rx⟩ := rpL_get hra5 hd
          obtain ⟨vy, gy, ry⟩ := rpL_get hrb5 hd
          have gx' := atI_nat gx
          have gy' := atI_nat gy
          walk_at "rd"
          intro p H6 np s6 e6
          have hpq : p ≠ st := (ne_of_none e5 np).symm
          have e56 := s6 _ _ e5
          have hle : Dat.sizes (ds.take (i + 1)) ≤ Dat.sizes ds := sizes_take_le ds _
          have h1 := sizes_take ds i _ hd
          have h2 := (ds[i]).size_pos
          have hz : (refs its).length ≤ total its := by rw [show (refs its).length = its.length by simp [refs]]; exact length_le_total its
          walk_at "rd"
          intro H7 b7 e7
          walk_at "rd"
          refine ⟨its ++ [⟨p, vx, vy, ds[i]⟩], _, rfl, same_but (s5.trans s6) b7 nst0, by rw [e7, refs_append]; rfl, ?_, ?_, b7 _ _ hq (s6 _ _ eq5), sqT_but b7 e56 (sqT_same s6 ha5), sqT_but b7 e56 (sqT_same s6 hb5), rpL_keep (tk_but b7 e56) (rpL_keep (tk_same s6) hra5), rpL_keep (tk_but b7 e56) (rpL_keep (tk_same s6) hrb5)⟩
          · intro it hit
            rcases List.mem_append.mp hit with hit | hit
            · exact ((hI5.same s6).but b7 e56) it hit
            · rw [List.mem_singleton] at hit
              subst hit
              exact ⟨hpq, b7 _ _ hpq e6, rp_but b7 e56 (rp_same s6 rx), rp_but b7 e56 (rp_same s6 ry)⟩
          · rw [total_append, ht5, h1]
            simp [total]
            omega
        · obtain ⟨its, z, rfl, s5, e5, hI5, ht5, eq5, ha5, hb5, hra5, hrb5⟩ := hP
          rw [List.take_length] at ht5
          exact ⟨total its, by omega, its, _, _, rfl, s5, nst0, e5, hI5, rfl, by omega⟩
    | bl c =>
      cases hx4 with
      | bl _ =>
        walk_at "rd"
        refine r_neSame rfl ?_
        walk_at "rd"
        exact fin
    | int c =>
      cases hx4 with
      | int _ =>
        walk_at "rd"
        refine r_iteNP rfl ?_
        walk_at "rd"
        exact fin
    | str c =>
      cases hx4 with
      | str _ =>
        walk_at "rd"
        refine r_neSame rfl ?_
        walk_at "rd"
        exact fin
    | non =>
      cases hx4 with
      | non =>
        walk_at "rd"
        refine r_iteNP rfl ?_
        walk_at "rd"
        exact fin
end Kb

set_option Elab.async false
set_option linter.all false
set_option maxRecDepth 100000
set_option maxHeartbeats 4000000
namespace Kb
open PySem PySem.Spec PyProof.Rows L2
/-! the tactics: rd walks a reading; tk closes a fact about a heap from those ahead of it -/
local macro_rules | `(tactic| walk_at "tk") => `(tactic| first
  | assumption
  | ((with_reducible refine' sqT_of ?k); (case k => assumption))
  | ((with_reducible refine' sqL_of ?k); (case k => assumption))
  | ((with_reducible refine' sqT_same ?s ?k); (case s => assumption); (case k => walk_at "tk"))
  | ((with_reducible refine' sqL_same ?s ?k); (case s => assumption); (case k => walk_at "tk"))
  | ((with_reducible refine' sqT_but ?s ?t ?k); (case s => assumption); (case t => walk_at "tk"); (case k => walk_at "tk"))
  | ((with_reducible refine' sqL_but ?s ?t ?k); (case s => assumption); (case t => walk_at "ne"); (case k => walk_at "tk"))
  | ((with_reducible refine' sqL_of ?k); (case k => walk_at "tk"))
  | ((with_reducible refine' sqT_of ?k); (case k => walk_at "tk"))
  | ((with_reducible refine' at_same ?s ?k); (case s => assumption); (case k => walk_at "tk"))
  | ((with_reducible refine' at_but ?s ?t ?k); (case s => assumption); (case t => walk_at "ne"); (case k => walk_at "tk")))
local macro_rules | `(tactic| walk_at "ne") => `(tactic| first
  | assumption
  | (refine Ne.symm ?_; assumption)
  | exact ne_of_none (by assumption) (by assumption)
  | exact (ne_of_none (by assumption) (by assumption)).symm)
local macro_rules | `(tactic| walk_at "side") => `(tactic| first
  | assumption
  | omega
  | (simp only [sizeLine_eq, List.length_cons, List.length_nil, List.length_map]; omega)
  | (show _ ≤ sizeLine; decide))
local macro_rules | `(tactic| walk_at "kit") => `(tactic| first
  | (show kitB _ _ = some true; decide +kernel)
  | (show kitB _ _ = some false; decide +kernel))
local macro_rules | `(tactic| walk_at "rng") => `(tactic| first
  | (refine ⟨by omega, by omega, by omega, by omega⟩)
  | (refine ⟨by omega, by omega⟩)
  | ((simp only [List.length_map]); (refine ⟨by omega, by omega, by omega, by omega⟩))
  | ((simp only [List.length_map]); (refine ⟨by omega, by omega⟩)))
local macro_rules | `(tactic| walk_at "rd1") => `(tactic| first
  | with_reducible refine r_seq ?_
  | ((with_reducible refine' r_var ?k0 ?_); (case k0 => rfl))
  | with_reducible refine r_op ?_
  | with_reducible refine r_c ?_
  | with_reducible refine r_asg ?_
  | with_reducible refine r_name ?_
  | with_reducible refine r_cons ?_
  | with_reducible refine r_nil ?_
  | with_reducible refine r_CB ?_
  | with_reducible refine r_if ?_
  | with_reducible refine r_test ?_
  | with_reducible refine r_k ?_
  | with_reducible refine r_T ?_
  | with_reducible refine r_F ?_
  | with_reducible refine r_nT ?_
  | with_reducible refine r_nF ?_
  | with_reducible refine r_ret ?_
  | with_reducible refine r_drop ?_
  | with_reducible refine r_next ?_
  | with_reducible refine r_call ?_
  | with_reducible refine r_addI ?_
  | with_reducible refine r_subI ?_
  | with_reducible refine r_ltI ?_
  | with_reducible refine r_gtI ?_
  | with_reducible refine r_leI ?_
  | with_reducible refine r_geI ?_
  | with_reducible refine r_eqI ?_
  | with_reducible refine r_neI ?_
  | with_reducible refine r_int ?_
  | with_reducible refine r_abs ?_
  | with_reducible refine r_not ?_
  | with_reducible refine r_and ?_
  | with_reducible refine r_or ?_
  | with_reducible refine r_tru ?_
  | with_reducible refine r_truB ?_
  | with_reducible refine r_lst ?_
  | with_reducible refine r_tup ?_
  | with_reducible refine r_BM ?_
  | with_reducible refine r_BM0 ?_
  | with_reducible refine r_tyS ?_
  | with_reducible refine r_gsub ?_
  | with_reducible refine r_then ?_
  | with_reducible refine r_lstRg ?_
  | with_reducible refine r_tupRg ?_
  | with_reducible refine r_rg2 ?_
  | with_reducible refine r_rg1 ?_
  | with_reducible refine r_ii ?_
  | with_reducible refine r_i ?_
  | with_reducible refine r_ipI ?_
  | with_reducible refine r_un ?_
  | with_reducible refine r_neg ?_
  | with_reducible refine r_isN ?_
  | with_reducible refine r_notN ?_
  | with_reducible refine r_notV ?_
  | with_reducible refine r_pnot ?_
  | with_reducible refine r_pif ?_
  | with_reducible refine r_andV ?_
  | with_reducible refine r_orV ?_
  | with_reducible refine r_ifE ?_
  | with_reducible refine r_chain ?_
  | with_reducible refine r_sl ?_
  | with_reducible refine r_noPart ?_
  | with_reducible refine r_part ?_
  | with_reducible refine r_brk ?_
  | with_reducible refine r_cont ?_
  | with_reducible refine r_retN ?_
  | with_reducible refine r_truI ?_
  | with_reducible refine r_B ?_
  | with_reducible refine r_for ?_
  | with_reducible refine r_rng1 ?_
  | with_reducible refine r_rng2 ?_
  | with_reducible refine r_rng3 ?_
  | with_reducible refine r_body ?_
  | with_reducible refine r_lc ?_
  | with_reducible refine r_yes ?_
  | ((with_reducible refine' r_mod ?k0 ?_); (case k0 => walk_at "side"))
  | ((with_reducible refine' r_mulI ?k0 ?_); (case k0 => first | exact Or.inl ⟨by omega, by omega⟩ | exact Or.inr ⟨by omega, by omega⟩))
  | ((with_reducible refine' r_lenL ?k0 ?_); (case k0 => walk_at "tk"))
  | ((with_reducible refine' r_lenT ?k0 ?_); (case k0 => walk_at "tk"))
  | ((with_reducible refine' r_truL ?k0 ?_); (case k0 => walk_at "tk"))
  | ((with_reducible refine' r_truT ?k0 ?_); (case k0 => walk_at "tk"))
  | ((with_reducible refine' r_ixL ?k0 ?k1 ?_); (case k0 => walk_at "tk"); (case k1 => first | assumption | rfl))
  | ((with_reducible refine' r_ixT ?k0 ?k1 ?_); (case k0 => walk_at "tk"); (case k1 => first | assumption | rfl))
  | ((with_reducible refine' r_new ?k0 ?_); (case k0 => walk_at "side"))
  | ((with_reducible refine' r_tyL ?k0 ?_); (case k0 => walk_at "tk"))
  | ((with_reducible refine' r_append ?k0 ?k1 ?_); (case k0 => walk_at "tk"); (case k1 => walk_at "side"))
  | ((with_reducible refine' r_setL ?k0 ?k1 ?_); (case k0 => walk_at "tk"); (case k1 => first | assumption | rfl))
  | ((with_reducible refine' r_kTupL ?k0 ?_); (case k0 => walk_at "tk"))
  | ((with_reducible refine' r_kTupT ?k0 ?_); (case k0 => walk_at "tk"))
  | ((with_reducible refine' r_listL ?k0 ?_); (case k0 => walk_at "tk"))
  | ((with_reducible refine' r_listT ?k0 ?_); (case k0 => walk_at "tk"))
  | ((with_reducible refine' r_aug ?k0 ?_); (case k0 => rfl))
  | ((with_reducible refine' r_lenS ?k0 ?_); (case k0 => walk_at "side"))
  | ((with_reducible refine' r_pop ?k0 ?_); (case k0 => walk_at "tk"))
  | ((with_reducible refine' r_pr1 ?k0 ?_); (case k0 => walk_at "rng"))
  | ((with_reducible refine' r_pr2 ?k0 ?_); (case k0 => walk_at "rng"))
  | ((with_reducible refine' r_pr3d ?k0 ?_); (case k0 => walk_at "rng"))
  | ((with_reducible refine' r_isiI ?k0 ?_); (case k0 => walk_at "kit"))
  | ((with_reducible refine' r_isiB ?k0 ?_); (case k0 => walk_at "kit"))
  | ((with_reducible refine' r_isiS ?k0 ?_); (case k0 => walk_at "kit"))
  | ((with_reducible refine' r_isiN ?k0 ?_); (case k0 => walk_at "kit"))
  | ((with_reducible refine' r_isiT ?k0 ?k1 ?_); (case k0 => walk_at "tk"); (case k1 => walk_at "kit"))
  | ((with_reducible refine r_seqT ?_); (repeat (walk_at "rd1")); ((with_reducible refine' r_pseqT ?k0 ?_); (case k0 => walk_at "tk")))
  | ((with_reducible refine r_seqL ?_); (repeat (walk_at "rd1")); ((with_reducible refine' r_pseqL ?k0 ?_); (case k0 => walk_at "tk")))
  | ((with_reducible refine r_seqS ?_); (repeat (walk_at "rd1")); (with_reducible refine r_pseqS ?_)))
local macro_rules | `(tactic| walk_at "rd") => `(tactic| ((repeat (walk_at "rd1")); (try dsimp only)))


/-! ### comprehensions over ints -/
section
variable {K : PySem.W.Frag} {σ : L2.St} {H : Hp} {te : TE} {tt : TT} {j : Nat} {vs : List Nat} {Q : VK} {a : Addr} {ns : List Int}
theorem filter_take {p : Int → Bool} {f : Int → Int} {i : Nat} {x : Int} (h : ns[i]? = some x) : ((ns.take (i + 1)).filter p).map (fun y => V.int (f y)) = ((ns.take i).filter p).map (fun y => V.int (f y)) ++ (if p x = true then [V.int (f x)] else []) := by
  rw [List.take_add_one, h, List.filter_append, List.map_append]
  congr 1
  show List.map _ (List.filter p [x]) = _
  by_cases hp : p x = true
  · rw [List.filter_cons_of_pos hp, if_pos hp]; rfl
  · rw [List.filter_cons_of_neg hp, if_neg hp]; rfl
theorem r_lcLf (p : Int → Bool) (f : Int → Int) (hx : SqL K H a (ns.map V.int)) (hz : ns.length ≤ 1000000) (hw : ∀ x, wipe ((wipe σ vs).set j (some x)) vs = wipe σ vs)
    (ht : ∀ x H1 (QB : Bool → Hp → Prop), x ∈ ns → Same H H1 → QB (p x) H1 → tt ((wipe σ vs).set j (some (.int x))) H1 QB)
    (he : ∀ x H1 (Q' : VK), x ∈ ns → Same H H1 → p x = true → Q' (.int (f x)) H1 → te ((wipe σ vs).set j (some (.int x))) H1 Q')
    (hd : ∀ q H', H q = none → Same H H' → H' q = some (.lst ((ns.filter p).map fun y => V.int (f y))) → Q (.ref q) H') : PLc (Itl K a) (gName j) tt te vs σ H Q := by
  refine r_lcL (xs := ns.map V.int) (fun D i H' => H D = none ∧ Same H H' ∧ H' D = some (.lst (((ns.take i).filter p).map fun y => V.int (f y)))) hw (fun D H' hD s e => ⟨hD, s, by rw [e]; rfl⟩) (fun D i H' q => sqL_same q.2.1 hx) (fun D i x H' hi q => ?_) (fun D H' hD q => ?_)
  · obtain ⟨hD, s, e⟩ := q
    rw [List.getElem?_map] at hi
    obtain ⟨y, hy, rfl⟩ := Option.map_eq_some_iff.mp hi
    have hm := List.mem_of_getElem? hy
    refine ht y H' _ hm s ?_
    by_cases hp : p y = true
    · rw [hp]
      refine r_T ?_
      refine he y H' _ hm s hp ?_
      refine r_acc e ?_ (fun H5 b5 e5 => ⟨hD, same_but s b5 hD, ?_⟩)
      · rw [List.length_map]
        have h1 := List.length_filter_le p (ns.take i)
        have h2 := List.length_take_le i ns
        have h3 : (ns.take i).length ≤ ns.length := by rw [List.length_take]; omega
        omega
      · rw [e5, filter_take hy, if_pos hp]
    · rw [Bool.eq_false_iff.mpr hp]
      refine r_F ⟨hD, s, ?_⟩
      rw [e, filter_take hy, if_neg hp, List.append_nil]
  · obtain ⟨_, s, e⟩ := q
    rw [List.length_map, List.take_length] at e
    exact hd D H' hD s e
theorem r_lcTf (p : Int → Bool) (f : Int → Int) (hx : SqT K H a (ns.map V.int)) (hz : ns.length ≤ 1000000) (hw : ∀ x, wipe ((wipe σ vs).set j (some x)) vs = wipe σ vs)
    (ht : ∀ x H1 (QB : Bool → Hp → Prop), x ∈ ns → Same H H1 → QB (p x) H1 → tt ((wipe σ vs).set j (some (.int x))) H1 QB)
    (he : ∀ x H1 (Q' : VK), x ∈ ns → Same H H1 → p x = true → Q' (.int (f x)) H1 → te ((wipe σ vs).set j (some (.int x))) H1 Q')
    (hd : ∀ q H', H q = none → Same H H' → H' q = some (.lst ((ns.filter p).map fun y => V.int (f y))) → Q (.ref q) H') : PLc (Itt K a) (gName j) tt te vs σ H Q := by
  refine r_lcT (xs := ns.map V.int) (fun D i H' => H D = none ∧ Same H H' ∧ H' D = some (.lst (((ns.take i).filter p).map fun y => V.int (f y)))) hw (fun D H' hD s e => ⟨hD, s, by rw [e]; rfl⟩) (fun D i H' q => sqT_same q.2.1 hx) (fun D i x H' hi q => ?_) (fun D H' hD q => ?_)
  · obtain ⟨hD, s, e⟩ := q
    rw [List.getElem?_map] at hi
    obtain ⟨y, hy, rfl⟩ := Option.map_eq_some_iff.mp hi
    have hm := List.mem_of_getElem? hy
    refine ht y H' _ hm s ?_
    by_cases hp : p y = true
    · rw [hp]
      refine r_T ?_
      refine he y H' _ hm s hp ?_
      refine r_acc e ?_ (fun H5 b5 e5 => ⟨hD, same_but s b5 hD, ?_⟩)
      · rw [List.length_map]
        have h1 := List.length_filter_le p (ns.take i)
        have h3 : (ns.take i).length ≤ ns.length := by rw [List.length_take]; omega
        omega
      · rw [e5, filter_take hy, if_pos hp]
    · rw [Bool.eq_false_iff.mpr hp]
      refine r_F ⟨hD, s, ?_⟩
      rw [e, filter_take hy, if_neg hp, List.append_nil]
  · obtain ⟨_, s, e⟩ := q
    rw [List.length_map, List.take_length] at e
    exact hd D H' hD s e
end
/-! ### tuples of ints compared -/
theorem eqvAll_ints : ∀ ns ms : List Int, PyData.eqvAll (ns.map PyData.int) (ms.map PyData.int) = decide (ns = ms)
  | [], [] => by simp [PyData.eqvAll]
  | [], _ :: _ => by simp [PyData.eqvAll]
  | _ :: _, [] => by simp [PyData.eqvAll]
  | a :: r, b :: t => by
    simp only [List.map_cons, PyData.eqvAll, PyData.eqv, eqvAll_ints r t]
    by_cases h : a = b <;> by_cases h' : r = t <;> simp [h, h']
theorem shaped_ints (ns : List Int) : SeqAt.shaped (.tuple (ns.map PyData.int)) = true := by
  simp [SeqAt.shaped, PyData.canLay0, PyData.depth, PySem.W.ke_canLayAll0, PySem.W.ke_depthAll]
section
variable {K : PySem.W.Frag} {H : Hp} {Q : VK} {a b : Addr} {ns ms : List Int}
theorem dpAll_ints : ∀ ns : List Int, DpAll K H (ns.map V.int) (ns.map PyData.int)
  | [] => .nil
  | n :: r => .cons (.int n) (dpAll_ints r)
theorem r_neT (h1 : SqT K H a (ns.map V.int)) (h2 : SqT K H b (ms.map V.int)) (q : Q (.bl (!decide (ns = ms))) H) : rNeU K (.ref a) (.ref b) H Q :=
  .inr ⟨_, _, .tup h1 (dpAll_ints ns), .tup h2 (dpAll_ints ms), shaped_ints ns, shaped_ints ms, by
    show Q (.bl (!PyData.eqvAll _ _)) H
    rw [eqvAll_ints]; exact q⟩
theorem r_eqT (h1 : SqT K H a (ns.map V.int)) (h2 : SqT K H b (ms.map V.int)) (q : Q (.bl (decide (ns = ms))) H) : rEqU K (.ref a) (.ref b) H Q :=
  .inr ⟨_, _, .tup h1 (dpAll_ints ns), .tup h2 (dpAll_ints ms), shaped_ints ns, shaped_ints ms, by
    show Q (.bl (PyData.eqvAll _ _)) H
    rw [eqvAll_ints]; exact q⟩
end
/-! ### slices of tuples -/
section
variable {K : PySem.W.Frag} {H : Hp} {Q : VK} {a : Addr} {xs : List V}
theorem cutV_drop (xs : List V) (k : Nat) : cutV xs (some (k : Int)) none = xs.drop k := by
  unfold cutV
  rw [HT.sIx_nat, HT.sIx_none]
  by_cases h : k ≤ xs.length
  · rw [Nat.min_eq_left h, List.take_of_length_le (by rw [List.length_drop]; omega)]
  · rw [Nat.min_eq_right (by omega), List.drop_eq_nil_of_le (by omega : xs.length ≤ k), List.drop_length]; simp
/-- t[k:] of a tuple, k > 0, the tuple not empty: a new tuple -/
theorem r_slDrop {k : Nat} {m : Int} (h : SqT K H a xs) (e : m = (k : Int)) (hk : 0 < k) (hx : 0 < xs.length) (q : ∀ p H', H p = none → Same H H' → H' p = some (.tup (xs.drop k)) → Q (.ref p) H') : rSlU K (.ref a) (some m) none H Q := by
  subst e
  refine .inr (.inl ⟨a, xs, rfl, h, fun z => ?_, fun _ p hp => ?_⟩)
  · rw [HT.sIx_nat] at z
    have := z.1
    omega
  · rw [cutV_drop]
    exact q p _ hp (same_new hp) upd_same
end
/-! ### rows -/
theorem atI_row {r : List Int} {n : Nat} (h : IsRow r n) {b : Int} (h1 : 1 ≤ b) (h2 : b ≤ n) : atI (r.map V.int) (b - 1) = some (.int (r.getD (b - 1).toNat 0)) := by
  have hl : (b - 1).toNat < r.length := by rw [h.1]; omega
  have e : (((b - 1).toNat : Nat) : Int) = b - 1 := by omega
  have h4 := atI_nat (xs := r.map V.int) (j := (b - 1).toNat) (v := .int (r.getD (b - 1).toNat 0)) (by rw [List.getElem?_map, List.getElem?_eq_getElem hl, List.getD_eq_getElem?_getD, List.getElem?_eq_getElem hl]; rfl)
  rw [e] at h4
  exact h4
/-- a promise that gives a row -/
def sp_law_rounds (K : PySem.W.Frag) : Sp := fun vs H Q _ => ∃ n : Nat, vs = [.int (n : Int)] ∧ n ≤ 1000 ∧ ∀ p H', H p = none → Same H H' → SqT K H' p ((roundsR n).map V.int) → Q (.ref p) H'
def sp_law_times (K : PySem.W.Frag) : Sp := fun vs H Q _ => ∃ (a b : Addr) (x y : List Int) (n : Nat), vs = [.ref a, .ref b] ∧ SqT K H a (x.map V.int) ∧ SqT K H b (y.map V.int) ∧ IsRow x n ∧ IsRow y n ∧ n ≤ 1000 ∧ ∀ p H', H p = none → Same H H' → SqT K H' p ((mulR x y).map V.int) → Q (.ref p) H'
def sp_law_row_draw (K : PySem.W.Frag) : Sp := fun vs H Q _ => ∃ (p : Addr) (n : Nat), vs = [.ref p, .int (n : Int)] ∧ Pl H p ∧ n ≤ 1000 ∧ ∀ a H' r, H a = none → But p H H' → Pl H' p → SqT K H' a (r.map V.int) → IsRow r n → Q (.ref a) H'
abbrev N_law_rounds : List Str := ["stage"]
def t_law_rounds (K : PySem.W.Frag) : TS :=
  (tRet ((tThen ((tLstRg (tRg2 ((tC (.int 1))) ((tOp (rAddU K) (tVar 0) ((tC (.int 1)))))))) (kTup K))))

abbrev N_law_times : List Str := ["first", "second", "bell"]
def t_law_times (K : PySem.W.Frag) : TS :=
  (tRet ((tThen ((tLc ((iSeqU K (tVar 1))) ((gName 2)) (tYes) ((tOp (rIx K) (tVar 0) ((tOp rSubU (tVar 2) ((tC (.int 1))))))) [2])) (kTup K))))

abbrev N_law_row_draw : List Str := ["pool", "stage", "left", "out", "k"]
def t_law_row_draw (K : PySem.W.Frag) : TS :=
  tSeq (tAsg ((tLstRg (tRg2 ((tC (.int 1))) ((tOp (rAddU K) (tVar 1) ((tC (.int 1)))))))) (gName 2))
  (tSeq (tAsg ((tLst tNil)) (gName 3))
  (tSeq (tFor (iRng1 (tCons (tVar 1) tNil)) (gName 4) ((tDrop ((tBM K "list" rAppend (tVar 3) (tCons ((tBM K "list" rPopAt (tVar 2) (tCons ((tCall (sp_law_draw K) [] E0 (tCons (tVar 0) (tCons ((tCB (rLenU K) (tCons (tVar 2) tNil))) tNil)))) tNil))) tNil))))))
  ((tRet ((tThen (tVar 3) (kTup K)))))))


section
variable {K : PySem.W.Frag} {vs : List V} {H : Hp} {Q : VK} {E : XK}
theorem len_law_rounds (h : sp_law_rounds K vs H Q E) : vs.length = 1 := by
  obtain ⟨n, rfl, _⟩ := h; rfl
theorem len_law_times (h : sp_law_times K vs H Q E) : vs.length = 2 := by
  obtain ⟨a, b, x, y, n, rfl, _⟩ := h; rfl
theorem len_law_row_draw (h : sp_law_row_draw K vs H Q E) : vs.length = 2 := by
  obtain ⟨p, n, rfl, _⟩ := h; rfl
theorem rgV_rounds (n : Nat) : rgV 1 ((n : Int) + 1) = (roundsR n).map V.int := by
  unfold rgV roundsR
  rw [List.map_map, show ((n : Int) + 1 - 1).toNat = n by omega]
  rfl
theorem pure_law_rounds (h : sp_law_rounds K vs H Q E) : t_law_rounds K (En Q) (start N_law_rounds vs) H := by
  obtain ⟨n, rfl, hn, q⟩ := h
  unfold t_law_rounds
  walk_at "rd"
  refine r_new (RgOk.of_le (by omega) (by omega) (by omega) (by omega)) ?_
  intro p H1 np s e
  rw [rgV_rounds] at e
  walk_at "rd"
  intro p2 H2 np2 s2 e2
  exact q p2 H2 (s.free np2) (s.trans s2) (sqT_of e2)
theorem pure_law_times (h : sp_law_times K vs H Q E) : t_law_times K (En Q) (start N_law_times vs) H := by
  obtain ⟨a, b, x, y, n, rfl, hx, hy, rx, ry, hn, q⟩ := h
  unfold t_law_times
  walk_at "rd"
  refine r_lcTm (fun i v => match v with | .int b => .int (x.getD (b - 1).toNat 0) | _ => .non) hy (by rw [List.length_map, ry.1]; omega) (fun _ => rfl) (fun i v H1 Q' hi s k => ?_) (fun p H' np s e => ?_)
  · rw [List.getElem?_map] at hi
    obtain ⟨b', hb, rfl⟩ := Option.map_eq_some_iff.mp hi
    have hm := ry.2.2 b' (List.mem_of_getElem? hb)
    have ha := atI_row rx hm.1 hm.2
    walk_at "rd"
    exact k H1 (Same.refl _)
  · have ee : (List.range (y.map V.int).length).zipWith (fun (i : Nat) v => match v with | .int b => V.int (x.getD (b - 1).toNat 0) | _ => .non) (y.map V.int) = (mulR x y).map V.int := by
      apply List.ext_getElem?
      intro i
      rw [List.getElem?_zipWith, List.getElem?_map, List.length_map]
      unfold mulR
      rw [List.getElem?_map, List.getElem?_map]
      by_cases hi : i < y.length
      · rw [List.getElem?_range hi, List.getElem?_eq_getElem hi]; rfl
      · rw [List.getElem?_eq_none (by omega : y.length ≤ i)]
        simp
    rw [ee] at e
    walk_at "rd"
    intro p2 H2 np2 s2 e2
    exact q p2 H2 (s.free np2) (s.trans s2) (sqT_of e2)
theorem roundsR_row (n : Nat) : IsRow (roundsR n) n := by
  refine ⟨by simp [roundsR], ?_, ?_⟩
  · unfold roundsR
    rw [List.nodup_iff_pairwise_ne, List.pairwise_map]
    exact List.nodup_range.imp fun h e => h (by omega)
  · intro x hx
    obtain ⟨i, hi, rfl⟩ := List.mem_map.mp hx
    rw [List.mem_range] at hi
    omega
theorem pop_perm {os ls : List Int} {k : Nat} {v : Int} (h : ls[k]? = some v) : ((os ++ [v]) ++ ls.eraseIdx k).Perm (os ++ ls) := by
  rw [List.append_assoc]
  refine List.Perm.append_left os ?_
  have hk : k < ls.length := (List.getElem?_eq_some_iff.mp h).1
  have e : v = ls[k] := by rw [List.getElem?_eq_getElem hk] at h; exact (Option.some.inj h).symm
  subst e
  rw [List.eraseIdx_eq_take_drop_succ]
  have e2 : ls = ls.take k ++ ls[k] :: ls.drop (k + 1) := by
    rw [List.getElem_cons_drop]
    exact (List.take_append_drop k ls).symm
  conv => rhs; rw [e2]
  exact List.Perm.symm (List.perm_middle (a := ls[k]) (l₁ := ls.take k) (l₂ := ls.drop (k + 1)))
theorem IsRow.perm {a b : List Int} {n : Nat} (h : a.Perm b) (r : IsRow b n) : IsRow a n :=
  ⟨h.length_eq.trans r.1, h.nodup_iff.mpr r.2.1, fun x hx => r.2.2 x (h.mem_iff.mp hx)⟩
theorem mulR_row {x y : List Int} {n : Nat} (hx : IsRow x n) (hy : IsRow y n) : IsRow (mulR x y) n := by
  refine ⟨by unfold mulR; rw [List.length_map]; exact hy.1, ?_, ?_⟩
  · unfold mulR
    rw [List.nodup_iff_pairwise_ne, List.pairwise_map]
    refine (List.nodup_iff_pairwise_ne.mp hy.2.1).imp_of_mem (fun {a b} ha hb hne e => hne ?_)
    have h1 := hy.2.2 a ha
    have h2 := hy.2.2 b hb
    exact nx_inj hx h1.1 h1.2 h2.1 h2.2 e
  · intro b hb
    unfold mulR at hb
    obtain ⟨c, hc, rfl⟩ := List.mem_map.mp hb
    have h1 := hy.2.2 c hc
    exact nx_mem hx h1.1 h1.2
theorem map_eraseIdx {α β : Type} (f : α → β) : ∀ (l : List α) (k : Nat), (l.map f).eraseIdx k = (l.eraseIdx k).map f
  | [], _ => rfl
  | _ :: _, 0 => rfl
  | x :: r, k + 1 => by simp [List.eraseIdx_cons_succ, map_eraseIdx f r k]
theorem but_via {p l : Addr} {H H1 H2 : Hp} (a : But p H H1) (b : But l H1 H2) (h : H l = none) : But p H H2 := fun c o n e => b c o (ne_of_none e h) (a c o n e)
theorem pure_law_row_draw (h : sp_law_row_draw K vs H Q E) : t_law_row_draw K (En Q) (start N_law_row_draw vs) H := by
  obtain ⟨p, n, rfl, hP, hn, q⟩ := h
  unfold t_law_row_draw
  walk_at "rd"
  refine r_new (RgOk.of_le (by omega) (by omega) (by omega) (by omega)) ?_
  intro l H1 nl s1 e1
  rw [rgV_rounds] at e1
  walk_at "rd"
  intro o H2 no s2 e2
  have hpl : p ≠ l := by obtain ⟨x, y, z, hp⟩ := hP; exact ne_of_none hp nl
  have hpo : p ≠ o := by obtain ⟨x, y, z, hp⟩ := hP; exact ne_of_none (s1 _ _ hp) no
  have hlo : l ≠ o := ne_of_none e1 no
  walk_at "rd"
  rw [Int.toNat_natCast]
  refine r_forRange0 (fun i σ' H' => ∃ (os ls : List Int) (z : Option V), σ' = [some (.ref p), some (.int (n : Int)), some (.ref l), some (.ref o), z] ∧ But p H H' ∧ Pl H' p ∧ H' l = some (.lst (ls.map V.int)) ∧ H' o = some (.lst (os.map V.int)) ∧ IsRow (os ++ ls) n ∧ os.length = i)
    ⟨[], roundsR n, none, rfl, (Same.but s1).trans (Same.but s2), ?_, s2 _ _ e1, e2, roundsR_row n, rfl⟩ (fun i σ' H' hi hW => ?_) (fun σ' H' hW => ?_)
  · obtain ⟨x, y, z, hp⟩ := hP
    exact ⟨x, y, z, s2 _ _ (s1 _ _ hp)⟩
  · obtain ⟨os, ls, z, rfl, b, hP', el, eo, hr, ho⟩ := hW
    have hll : ls.length = n - i := by have := hr.1; rw [List.length_append] at this; omega
    walk_at "rd"
    refine ⟨p, _, rfl, hP', by rw [List.length_map]; omega, by rw [List.length_map]; omega, fun v H5 hv0 hv1 b5 hP5 => ?_⟩
    rw [List.length_map] at hv1
    have hk : v.toNat < ls.length := by omega
    have hl5 : H5 l = some (.lst (ls.map V.int)) := b5 _ _ hpl.symm el
    have ho5 : H5 o = some (.lst (os.map V.int)) := b5 _ _ hpo.symm eo
    walk_at "rd"
    refine r_popAt (k := v.toNat) (y := .int ls[v.toNat]) hl5 (by omega) (by rw [List.getElem?_map, List.getElem?_eq_getElem hk]; rfl) (by rw [List.length_map]; omega) ?_
    intro H6 b6 e6
    have ho6 := b6 _ _ hlo.symm ho5
    walk_at "rd"
    intro H7 b7 e7
    walk_at "rd"
    have hpk : ((os ++ [ls[v.toNat]]) ++ ls.eraseIdx v.toNat).Perm (os ++ ls) := pop_perm (List.getElem?_eq_getElem hk)
    refine ⟨os ++ [ls[v.toNat]], ls.eraseIdx v.toNat, _, rfl, but_via (but_via (b.trans b5) b6 nl) b7 (s1.free no), ?_, ?_, ?_, IsRow.perm hpk hr, by rw [List.length_append, ho]; rfl⟩
    · obtain ⟨x, y, z, hp⟩ := hP5
      exact ⟨x, y, z, b7 _ _ hpo (b6 _ _ hpl hp)⟩
    · rw [b7 _ _ hlo e6, map_eraseIdx]
    · rw [e7, List.map_append]; rfl
  · obtain ⟨os, ls, z, rfl, b, hP', el, eo, hr, ho⟩ := hW
    have hll : ls = [] := List.length_eq_zero_iff.mp (by have := hr.1; rw [List.length_append] at this; omega)
    subst hll
    rw [List.append_nil] at hr
    walk_at "rd"
    intro a H3 na s3 e3
    have hna : H a = none := by
      cases e : H a with
      | none => rfl
      | some u =>
        by_cases hap : a = p
        · subst hap
          obtain ⟨x, y, z, hp⟩ := hP'
          rw [hp] at na
          cases na
        · rw [b _ _ hap e] at na
          cases na
    refine q a H3 os hna (b.trans (Same.but s3)) ?_ (sqT_of e3) hr
    obtain ⟨x, y, z, hp⟩ := hP'
    exact ⟨x, y, z, s3 _ _ hp⟩
end
end Kb

set_option Elab.async false
set_option linter.all false
set_option maxRecDepth 100000
set_option maxHeartbeats 4000000
namespace Kb
open PySem PySem.Spec PyProof.Rows L2
/-! the tactics: rd walks a reading; tk closes a fact about a heap from those ahead of it -/
local macro_rules | `(tactic| walk_at "tk") => `(tactic| first
  | assumption
  | ((with_reducible refine' sqT_of ?k); (case k => assumption))
  | ((with_reducible refine' sqL_of ?k); (case k => assumption))
  | ((with_reducible refine' sqT_same ?s ?k); (case s => assumption); (case k => walk_at "tk"))
  | ((with_reducible refine' sqL_same ?s ?k); (case s => assumption); (case k => walk_at "tk"))
  | ((with_reducible refine' sqT_but ?s ?t ?k); (case s => assumption); (case t => walk_at "tk"); (case k => walk_at "tk"))
  | ((with_reducible refine' sqL_but ?s ?t ?k); (case s => assumption); (case t => walk_at "ne"); (case k => walk_at "tk"))
  | ((with_reducible refine' sqL_of ?k); (case k => walk_at "tk"))
  | ((with_reducible refine' sqT_of ?k); (case k => walk_at "tk"))
  | ((with_reducible refine' at_same ?s ?k); (case s => assumption); (case k => walk_at "tk"))
  | ((with_reducible refine' at_but ?s ?t ?k); (case s => assumption); (case t => walk_at "ne"); (case k => walk_at "tk")))
local macro_rules | `(tactic| walk_at "ne") => `(tactic| first
  | assumption
  | (refine Ne.symm ?_; assumption)
  | exact ne_of_none (by assumption) (by assumption)
  | exact (ne_of_none (by assumption) (by assumption)).symm)
local macro_rules | `(tactic| walk_at "side") => `(tactic| first
  | assumption
  | omega
  | (simp only [sizeLine_eq, List.length_cons, List.length_nil, List.length_map]; omega)
  | (show _ ≤ sizeLine; decide))
local macro_rules | `(tactic| walk_at "kit") => `(tactic| first
  | (show kitB _ _ = some true; decide +kernel)
  | (show kitB _ _ = some false; decide +kernel))
local macro_rules | `(tactic| walk_at "rng") => `(tactic| first
  | (refine ⟨by omega, by omega, by omega, by omega⟩)
  | (refine ⟨by omega, by omega⟩)
  | ((simp only [List.length_map]); (refine ⟨by omega, by omega, by omega, by omega⟩))
  | ((simp only [List.length_map]); (refine ⟨by omega, by omega⟩)))
local macro_rules | `(tactic| walk_at "rd1") => `(tactic| first
  | with_reducible refine r_seq ?_
  | ((with_reducible refine' r_var ?k0 ?_); (case k0 => rfl))
  | with_reducible refine r_op ?_
  | with_reducible refine r_c ?_
  | with_reducible refine r_asg ?_
  | with_reducible refine r_name ?_
  | with_reducible refine r_cons ?_
  | with_reducible refine r_nil ?_
  | with_reducible refine r_CB ?_
  | with_reducible refine r_if ?_
  | with_reducible refine r_test ?_
  | with_reducible refine r_k ?_
  | with_reducible refine r_T ?_
  | with_reducible refine r_F ?_
  | with_reducible refine r_nT ?_
  | with_reducible refine r_nF ?_
  | with_reducible refine r_ret ?_
  | with_reducible refine r_drop ?_
  | with_reducible refine r_next ?_
  | with_reducible refine r_call ?_
  | with_reducible refine r_addI ?_
  | with_reducible refine r_subI ?_
  | with_reducible refine r_ltI ?_
  | with_reducible refine r_gtI ?_
  | with_reducible refine r_leI ?_
  | with_reducible refine r_geI ?_
  | with_reducible refine r_eqI ?_
  | with_reducible refine r_neI ?_
  | with_reducible refine r_int ?_
  | with_reducible refine r_abs ?_
  | with_reducible refine r_not ?_
  | with_reducible refine r_and ?_
  | with_reducible refine r_or ?_
  | with_reducible refine r_tru ?_
  | with_reducible refine r_truB ?_
  | with_reducible refine r_lst ?_
  | with_reducible refine r_tup ?_
  | with_reducible refine r_BM ?_
  | with_reducible refine r_BM0 ?_
  | with_reducible refine r_tyS ?_
  | with_reducible refine r_gsub ?_
  | with_reducible refine r_then ?_
  | with_reducible refine r_lstRg ?_
  | with_reducible refine r_tupRg ?_
  | with_reducible refine r_rg2 ?_
  | with_reducible refine r_rg1 ?_
  | with_reducible refine r_ii ?_
  | with_reducible refine r_i ?_
  | with_reducible refine r_ipI ?_
  | with_reducible refine r_un ?_
  | with_reducible refine r_neg ?_
  | with_reducible refine r_isN ?_
  | with_reducible refine r_notN ?_
  | with_reducible refine r_notV ?_
  | with_reducible refine r_pnot ?_
  | with_reducible refine r_pif ?_
  | with_reducible refine r_andV ?_
  | with_reducible refine r_orV ?_
  | with_reducible refine r_ifE ?_
  | with_reducible refine r_chain ?_
  | with_reducible refine r_sl ?_
  | with_reducible refine r_noPart ?_
  | with_reducible refine r_part ?_
  | with_reducible refine r_brk ?_
  | with_reducible refine r_cont ?_
  | with_reducible refine r_retN ?_
  | with_reducible refine r_truI ?_
  | with_reducible refine r_B ?_
  | with_reducible refine r_for ?_
  | with_reducible refine r_rng1 ?_
  | with_reducible refine r_rng2 ?_
  | with_reducible refine r_rng3 ?_
  | with_reducible refine r_body ?_
  | with_reducible refine r_lc ?_
  | with_reducible refine r_yes ?_
  | ((with_reducible refine' r_mod ?k0 ?_); (case k0 => walk_at "side"))
  | ((with_reducible refine' r_mulI ?k0 ?_); (case k0 => first | exact Or.inl ⟨by omega, by omega⟩ | exact Or.inr ⟨by omega, by omega⟩))
  | ((with_reducible refine' r_lenL ?k0 ?_); (case k0 => walk_at "tk"))
  | ((with_reducible refine' r_lenT ?k0 ?_); (case k0 => walk_at "tk"))
  | ((with_reducible refine' r_truL ?k0 ?_); (case k0 => walk_at "tk"))
  | ((with_reducible refine' r_truT ?k0 ?_); (case k0 => walk_at "tk"))
  | ((with_reducible refine' r_ixL ?k0 ?k1 ?_); (case k0 => walk_at "tk"); (case k1 => first | assumption | rfl))
  | ((with_reducible refine' r_ixT ?k0 ?k1 ?_); (case k0 => walk_at "tk"); (case k1 => first | assumption | rfl))
  | ((with_reducible refine' r_new ?k0 ?_); (case k0 => walk_at "side"))
  | ((with_reducible refine' r_tyL ?k0 ?_); (case k0 => walk_at "tk"))
  | ((with_reducible refine' r_append ?k0 ?k1 ?_); (case k0 => walk_at "tk"); (case k1 => walk_at "side"))
  | ((with_reducible refine' r_setL ?k0 ?k1 ?_); (case k0 => walk_at "tk"); (case k1 => first | assumption | rfl))
  | ((with_reducible refine' r_kTupL ?k0 ?_); (case k0 => walk_at "tk"))
  | ((with_reducible refine' r_kTupT ?k0 ?_); (case k0 => walk_at "tk"))
  | ((with_reducible refine' r_listL ?k0 ?_); (case k0 => walk_at "tk"))
  | ((with_reducible refine' r_listT ?k0 ?_); (case k0 => walk_at "tk"))
  | ((with_reducible refine' r_aug ?k0 ?_); (case k0 => rfl))
  | ((with_reducible refine' r_lenS ?k0 ?_); (case k0 => walk_at "side"))
  | ((with_reducible refine' r_pop ?k0 ?_); (case k0 => walk_at "tk"))
  | ((with_reducible refine' r_pr1 ?k0 ?_); (case k0 => walk_at "rng"))
  | ((with_reducible refine' r_pr2 ?k0 ?_); (case k0 => walk_at "rng"))
  | ((with_reducible refine' r_pr3d ?k0 ?_); (case k0 => walk_at "rng"))
  | ((with_reducible refine' r_isiI ?k0 ?_); (case k0 => walk_at "kit"))
  | ((with_reducible refine' r_isiB ?k0 ?_); (case k0 => walk_at "kit"))
  | ((with_reducible refine' r_isiS ?k0 ?_); (case k0 => walk_at "kit"))
  | ((with_reducible refine' r_isiN ?k0 ?_); (case k0 => walk_at "kit"))
  | ((with_reducible refine' r_isiT ?k0 ?k1 ?_); (case k0 => walk_at "tk"); (case k1 => walk_at "kit"))
  | ((with_reducible refine r_seqT ?_); (repeat (walk_at "rd1")); ((with_reducible refine' r_pseqT ?k0 ?_); (case k0 => walk_at "tk")))
  | ((with_reducible refine r_seqL ?_); (repeat (walk_at "rd1")); ((with_reducible refine' r_pseqL ?k0 ?_); (case k0 => walk_at "tk")))
  | ((with_reducible refine r_seqS ?_); (repeat (walk_at "rd1")); (with_reducible refine r_pseqS ?_)))
local macro_rules | `(tactic| walk_at "rd") => `(tactic| ((repeat (walk_at "rd1")); (try dsimp only)))

def datC (cs : List (List Int)) : Dat := .tup (cs.map fun c => .tup (c.map .int))
/-! ### promises -/
def sp_cycles_of (K : PySem.W.Frag) : Sp := fun vs H Q _ => ∃ (a : Addr) (r : List Int) (n : Nat), vs = [.ref a] ∧ SqT K H a (r.map V.int) ∧ IsRow r n ∧ n ≤ 12 ∧ ∀ p H', H p = none → Same H H' → Rp K H' (.ref p) (datC (cyc r)) → Q (.ref p) H'
def sp_law_cycles (K : PySem.W.Frag) : Sp := sp_cycles_of K
def sp_order_of (K : PySem.W.Frag) : Sp := fun vs H Q _ => ∃ (a : Addr) (r : List Int) (n : Nat), vs = [.ref a] ∧ SqT K H a (r.map V.int) ∧ IsRow r n ∧ n ≤ 12 ∧ ∀ H', Same H H' → Q (.int (ordL (cyc r) : Nat)) H'
def sp_law_copies (K : PySem.W.Frag) : Sp := sp_order_of K
def sp_parity_of (K : PySem.W.Frag) : Sp := fun vs H Q _ => ∃ (a : Addr) (r : List Int) (n : Nat), vs = [.ref a] ∧ SqT K H a (r.map V.int) ∧ IsRow r n ∧ n ≤ 12 ∧ ∀ H', Same H H' → Q (.int (((n : Int) - ((cyc r).length : Int)) % 2)) H'
def sp_law_orbit (K : PySem.W.Frag) : Sp := fun vs H Q _ => ∃ (a : Addr) (r : List Int) (n : Nat) (b : Int), vs = [.ref a, .int b] ∧ SqT K H a (r.map V.int) ∧ IsRow r n ∧ n ≤ 12 ∧ 1 ≤ b ∧ b ≤ n ∧ ∀ p H', H p = none → Same H H' → H' p = some (.lst ((orbit r b).map V.int)) → Q (.ref p) H'
def sp_law_crossings (K : PySem.W.Frag) : Sp := fun vs H Q _ => ∃ (a : Addr) (r : List Int) (n : Nat), vs = [.ref a] ∧ SqT K H a (r.map V.int) ∧ IsRow r n ∧ n ≤ 12 ∧ ∀ H', Same H H' → Q (.int (inv r : Nat)) H'
def sp_law (K : PySem.W.Frag) : Sp := fun vs H Q _ => ∃ (a : Addr) (ns : List Int), vs = [.ref a] ∧ SqL K H a (ns.map V.int) ∧ ns.length ≤ 63 ∧ ∀ H', Q (.bl true) H'
abbrev N_cycles_of : List Str := ["row", "seen", "cycles", "least", "cycle", "bell"]
def t_cycles_of (K : PySem.W.Frag) : TS :=
  tSeq (tAsg ((tOp (rMulU K) ((tLst (tCons ((tC (.bl false))) tNil))) ((tCB (rLenU K) (tCons (tVar 0) tNil))))) (gName 1))
  (tSeq (tAsg ((tLst tNil)) (gName 2))
  (tSeq (tFor (iRng2 (tCons ((tC (.int 1))) (tCons ((tOp (rAddU K) ((tCB (rLenU K) (tCons (tVar 0) tNil))) ((tC (.int 1))))) tNil))) (gName 3) (tSeq (tAsg ((tLst tNil)) (gName 4))
  (tSeq (tAsg (tVar 3) (gName 5))
  (tSeq (tWhile ((tNot ((tTru K ((tOp (rIx K) (tVar 1) ((tOp rSubU (tVar 5) ((tC (.int 1))))))))))) (tSeq (tAsg ((tC (.bl true))) (gSub (tVar 1) ((tOp rSubU (tVar 5) ((tC (.int 1))))) rSetL))
  (tSeq (tDrop ((tBM K "list" rAppend (tVar 4) (tCons (tVar 5) tNil))))
  ((tAsg ((tOp (rIx K) (tVar 0) ((tOp rSubU (tVar 5) ((tC (.int 1))))))) (gName 5))))))
  ((tIfS ((tTest (tOp rGtU ((tCB (rLenU K) (tCons (tVar 4) tNil))) ((tC (.int 0)))))) ((tDrop ((tBM K "list" rAppend (tVar 2) (tCons ((tThen (tVar 4) (kTup K))) tNil))))) (tNext)))))))
  ((tRet ((tThen (tVar 2) (kTup K)))))))

abbrev N_order_of : List Str := ["row", "order", "cycle", "multiple"]
def t_order_of (K : PySem.W.Frag) : TS :=
  tSeq (tAsg ((tC (.int 1))) (gName 1))
  (tSeq (tFor (iSeqU K ((tCall (sp_cycles_of K) [] E0 (tCons (tVar 0) tNil)))) (gName 2) (tSeq (tAsg (tVar 1) (gName 3))
  (tSeq (tWhile ((tTest (tOp (rNeU K) ((tOp rModU (tVar 3) ((tCB (rLenU K) (tCons (tVar 2) tNil))))) ((tC (.int 0)))))) ((tAsg ((tOp (rAddU K) (tVar 3) (tVar 1))) (gName 3))))
  ((tAsg (tVar 3) (gName 1))))))
  ((tRet (tVar 1))))

abbrev N_parity_of : List Str := ["row"]
def t_parity_of (K : PySem.W.Frag) : TS :=
  (tRet ((tOp rModU ((tOp rSubU ((tCB (rLenU K) (tCons (tVar 0) tNil))) ((tCB (rLenU K) (tCons ((tCall (sp_cycles_of K) [] E0 (tCons (tVar 0) tNil))) tNil))))) ((tC (.int 2))))))

abbrev N_law_orbit : List Str := ["row", "bell", "out", "k", "after"]
def t_law_orbit (K : PySem.W.Frag) : TS :=
  tSeq (tAsg ((tLst (tCons (tVar 1) tNil))) (gName 2))
  (tSeq (tFor (iRng1 (tCons ((tCB (rLenU K) (tCons (tVar 0) tNil))) tNil)) (gName 3) (tSeq (tAsg ((tOp (rIx K) (tVar 0) ((tOp rSubU ((tOp (rIx K) (tVar 2) ((tUn (rU fun i => .int (-i)) ((tC (.int 1))))))) ((tC (.int 1))))))) (gName 4))
  (tSeq (tIfS ((tTest (tOp (rEqU K) (tVar 4) (tVar 1)))) (tBreak) (tNext))
  ((tDrop ((tBM K "list" rAppend (tVar 2) (tCons (tVar 4) tNil))))))))
  ((tRet (tVar 2))))

abbrev N_law_cycles : List Str := ["row", "out", "bell", "orbit", "other"]
def t_law_cycles (K : PySem.W.Frag) : TS :=
  tSeq (tAsg ((tLst tNil)) (gName 1))
  (tSeq (tFor (iRng2 (tCons ((tC (.int 1))) (tCons ((tOp (rAddU K) ((tCB (rLenU K) (tCons (tVar 0) tNil))) ((tC (.int 1))))) tNil))) (gName 2) (tSeq (tAsg ((tCall (sp_law_orbit K) [] E0 (tCons (tVar 0) (tCons (tVar 2) tNil)))) (gName 3))
  ((tIfS ((tTest (tOp (rEqU K) ((tCB (rLenU K) (tCons ((tLc ((iSeqU K (tVar 3))) ((gName 4)) ((tTest (tOp (rLtU K) (tVar 4) (tVar 2)))) (tVar 4) [4])) tNil))) ((tC (.int 0)))))) ((tDrop ((tBM K "list" rAppend (tVar 1) (tCons ((tThen (tVar 3) (kTup K))) tNil))))) (tNext)))))
  ((tRet ((tThen (tVar 1) (kTup K))))))

abbrev N_law_copies : List Str := ["row", "many", "product", "k"]
def t_law_copies (K : PySem.W.Frag) : TS :=
  tSeq (tAsg ((tC (.int 1))) (gName 1))
  (tSeq (tAsg (tVar 0) (gName 2))
  (tSeq (tFor (iRng1 (tCons ((tC (.int 60))) tNil)) (gName 3) ((tIfS ((tTest (tOp (rNeU K) (tVar 2) ((tCall (sp_law_rounds K) [] E0 (tCons ((tCB (rLenU K) (tCons (tVar 0) tNil))) tNil)))))) (tSeq (tAsg ((tCall (sp_law_times K) [] E0 (tCons (tVar 2) (tCons (tVar 0) tNil)))) (gName 2))
  ((tAsg ((tOp (rAddU K) (tVar 1) ((tC (.int 1))))) (gName 1)))) (tNext))))
  ((tRet (tVar 1)))))

abbrev N_law_crossings : List Str := ["row", "count", "k", "bell"]
def t_law_crossings (K : PySem.W.Frag) : TS :=
  tSeq (tAsg ((tC (.int 0))) (gName 1))
  (tSeq (tFor (iRng1 (tCons ((tCB (rLenU K) (tCons (tVar 0) tNil))) tNil)) (gName 2) ((tAsg ((tOp (rAddU K) (tVar 1) ((tCB (rLenU K) (tCons ((tLc ((iSeqU K ((tSl (rSlU K) (tVar 0) (tPart ((tOp (rAddU K) (tVar 2) ((tC (.int 1)))))) tNoPart)))) ((gName 3)) ((tTest (tOp (rLtU K) (tVar 3) ((tOp (rIx K) (tVar 0) (tVar 2)))))) (tVar 3) [3])) tNil))))) (gName 1))))
  ((tRet (tVar 1))))

abbrev N_law : List Str := ["script", "pool", "stage", "first", "second", "both", "row", "total"]
def t_law (K : PySem.W.Frag) : TS :=
  tSeq (tAsg ((tCall (sp_law_pool K) [] E0 (tCons (tVar 0) (tCons ((tC (.int 0))) tNil)))) (gName 1))
  (tSeq (tAsg ((tOp (rAddU K) ((tC (.int 1))) ((tCall (sp_law_draw K) [] E0 (tCons (tVar 1) (tCons ((tC (.int 12))) tNil)))))) (gName 2))
  (tSeq (tAsg ((tCall (sp_law_row_draw K) [] E0 (tCons (tVar 1) (tCons (tVar 2) tNil)))) (gName 3))
  (tSeq (tAsg ((tCall (sp_law_row_draw K) [] E0 (tCons ((tCall (sp_law_pool K) [] E0 (tCons (tVar 0) (tCons ((tC (.int 1))) tNil)))) (tCons (tVar 2) tNil)))) (gName 4))
  (tSeq (tAsg ((tCall (sp_law_times K) [] E0 (tCons (tVar 3) (tCons (tVar 4) tNil)))) (gName 5))
  (tSeq (tFor (iSeqU K ((tLst (tCons (tVar 3) (tCons (tVar 4) (tCons (tVar 5) tNil)))))) (gName 6) (tSeq (tIfS ((tNot ((tTru K ((tCall (sp_law_same K) [] E0 (tCons ((tCall (sp_cycles_of K) [] E0 (tCons (tVar 6) tNil))) (tCons ((tCall (sp_law_cycles K) [] E0 (tCons (tVar 6) tNil))) tNil)))))))) ((tRet ((tC (.bl false))))) (tNext))
  (tSeq (tIfS ((tNot ((tTru K ((tCall (sp_law_same K) [] E0 (tCons ((tCall (sp_order_of K) [] E0 (tCons (tVar 6) tNil))) (tCons ((tCall (sp_law_copies K) [] E0 (tCons (tVar 6) tNil))) tNil)))))))) ((tRet ((tC (.bl false))))) (tNext))
  ((tIfS ((tNot ((tTru K ((tCall (sp_law_same K) [] E0 (tCons ((tCall (sp_parity_of K) [] E0 (tCons (tVar 6) tNil))) (tCons ((tOp rModU ((tCB rIntU (tCons ((tCall (sp_law_crossings K) [] E0 (tCons (tVar 6) tNil))) tNil))) ((tC (.int 2))))) tNil)))))))) ((tRet ((tC (.bl false))))) (tNext))))))
  (tSeq (tAsg ((tOp (rAddU K) ((tCall (sp_law_crossings K) [] E0 (tCons (tVar 3) tNil))) ((tCall (sp_law_crossings K) [] E0 (tCons (tVar 4) tNil))))) (gName 7))
  ((tRet ((tCall (sp_law_same K) [] E0 (tCons ((tCall (sp_parity_of K) [] E0 (tCons (tVar 5) tNil))) (tCons ((tOp rModU ((tCB rIntU (tCons (tVar 7) tNil))) ((tC (.int 2))))) tNil))))))))))))


section
variable {K : PySem.W.Frag} {vs : List V} {H : Hp} {Q : VK} {E : XK}
theorem len_cycles_of (h : sp_cycles_of K vs H Q E) : vs.length = 1 := by obtain ⟨a, r, n, rfl, _⟩ := h; rfl
theorem len_law_cycles (h : sp_law_cycles K vs H Q E) : vs.length = 1 := by obtain ⟨a, r, n, rfl, _⟩ := h; rfl
theorem len_order_of (h : sp_order_of K vs H Q E) : vs.length = 1 := by obtain ⟨a, r, n, rfl, _⟩ := h; rfl
theorem len_law_copies (h : sp_law_copies K vs H Q E) : vs.length = 1 := by obtain ⟨a, r, n, rfl, _⟩ := h; rfl
theorem len_parity_of (h : sp_parity_of K vs H Q E) : vs.length = 1 := by obtain ⟨a, r, n, rfl, _⟩ := h; rfl
theorem len_law_orbit (h : sp_law_orbit K vs H Q E) : vs.length = 2 := by obtain ⟨a, r, n, b, rfl, _⟩ := h; rfl
theorem len_law_crossings (h : sp_law_crossings K vs H Q E) : vs.length = 1 := by obtain ⟨a, r, n, rfl, _⟩ := h; rfl
theorem len_law (h : sp_law K vs H Q E) : vs.length = 1 := by obtain ⟨a, r, rfl, _⟩ := h; rfl
theorem pure_law_orbit (h : sp_law_orbit K vs H Q E) : t_law_orbit K (En Q) (start N_law_orbit vs) H := by
  obtain ⟨a, r, n, b, rfl, hr, hR, hn, h1, h2, q⟩ := h
  have p := per_spec hR h1 h2
  unfold t_law_orbit
  walk_at "rd"
  intro o H1 no s1 e1
  walk_at "rd"
  rw [List.length_map, hR.1]
  walk_at "rd"
  rw [Int.toNat_natCast]
  refine r_forRange0 (fun i σ' H' => ∃ (z3 z4 : Option V), σ' = [some (.ref a), some (.int b), some (.ref o), z3, z4] ∧ Same H H' ∧ H' o = some (.lst (((List.range (i + 1)).map fun k => itr r k b).map V.int)) ∧ i < per r b)
    ⟨none, none, rfl, s1, e1, p.1⟩ (fun i σ' H' hi hW => ?_) (fun σ' H' hW => ?_)
  · obtain ⟨z3, z4, rfl, s2, e2, hp⟩ := hW
    have e3 : H' o = some (.lst (((List.range i).map fun k => itr r k b).map V.int ++ [.int (itr r i b)])) := by
      rw [e2, List.range_succ, List.map_append, List.map_append]; rfl
    have m := itr_mem hR h1 h2 i
    have ha := atI_row hR m.1 m.2
    have hlast := atI_last (((List.range i).map fun k => itr r k b).map V.int) (.int (itr r i b))
    walk_at "rd"
    refine r_ite (fun hb => ?_) (fun hb => ?_)
    · -- back again
      have hb' : itr r (i + 1) b = b := hb
      have hpi : per r b = i + 1 := by
        refine Decidable.byContradiction fun hne => ?_
        exact p.2.2.2 (i + 1) (by omega) (by omega) hb'
      walk_at "rd"
      refine q o H' no s2 ?_
      rw [e2, ← hpi]
      rfl
    · have hb' : itr r (i + 1) b ≠ b := hb
      have hpi : i + 1 < per r b := by
        refine Decidable.byContradiction fun hne => hb' ?_
        rw [show i + 1 = per r b by omega]
        exact p.2.2.1
      walk_at "rd"
      refine r_append e3 (by rw [sizeLine_eq, List.length_append]; simp; omega) ?_
      intro H2 b2 e4
      walk_at "rd"
      refine ⟨_, _, rfl, same_but s2 b2 no, ?_, hpi⟩
      rw [e4, List.range_succ (n := i + 1), List.range_succ (n := i)]
      simp only [List.map_append]
      rfl
  · obtain ⟨z3, z4, rfl, s2, e2, hp⟩ := hW
    omega
/-- the walks from the first i bells -/
def cycD (r : List Int) (i : Nat) : List Dat := ((roundsR i).filter (isMin r)).map fun b => .tup ((orbit r b).map .int)
theorem roundsR_succ (i : Nat) : roundsR (i + 1) = roundsR i ++ [1 + (i : Int)] := by
  unfold roundsR
  rw [List.range_succ, List.map_append]
  rfl
theorem cycD_succ (r : List Int) (i : Nat) : cycD r (i + 1) = cycD r i ++ (if isMin r (1 + (i : Int)) = true then [.tup ((orbit r (1 + (i : Int))).map .int)] else []) := by
  unfold cycD
  rw [roundsR_succ, List.filter_append, List.map_append]
  congr 1
  by_cases h : isMin r (1 + (i : Int)) = true
  · rw [List.filter_cons_of_pos h, if_pos h]; rfl
  · rw [List.filter_cons_of_neg h, if_neg h]; rfl
theorem cycD_len (r : List Int) (i : Nat) : (cycD r i).length ≤ i := by
  unfold cycD
  rw [List.length_map]
  refine Nat.le_trans (List.length_filter_le _ _) ?_
  simp [roundsR]
theorem cycD_all (r : List Int) : Dat.tup (cycD r r.length) = datC (cyc r) := by
  unfold cycD datC cyc
  rw [List.map_map]
  rfl
theorem rpL_snoc {H : Hp} {vs : List V} {ds : List Dat} {v : V} {d : Dat} (h : RpL K H vs ds) (h2 : Rp K H v d) : RpL K H (vs ++ [v]) (ds ++ [d]) := by
  induction ds generalizing vs with
  | nil => cases h; exact .cons h2 .nil
  | cons e ds ih =>
    cases h with
    | cons h1 h3 => exact .cons h1 (ih h3)
theorem pure_law_cycles (h : sp_law_cycles K vs H Q E) : t_law_cycles K (En Q) (start N_law_cycles vs) H := by
  obtain ⟨a, r, n, rfl, hr, hR, hn, q⟩ := h
  unfold t_law_cycles
  walk_at "rd"
  intro o H1 no s1 e1
  walk_at "rd"
  rw [List.length_map, hR.1]
  walk_at "rd"
  rw [show ((n : Int) + 1 - 1).toNat = n by omega]
  refine r_forRange (fun i σ' H' => ∃ (vs : List V) (z2 z3 z4 : Option V), σ' = [some (.ref a), some (.ref o), z2, z3, z4] ∧ Same H H' ∧ H' o = some (.lst vs) ∧ RpL K H' vs (cycD r i))
    ⟨[], none, none, none, rfl, s1, e1, .nil⟩ (fun i σ' H' hi hW => ?_) (fun σ' H' hW => ?_)
  · obtain ⟨vs, z2, z3, z4, rfl, s2, e2, hv⟩ := hW
    have hb1 : (1 : Int) ≤ 1 + (i : Int) := by omega
    have hb2 : 1 + (i : Int) ≤ (n : Int) := by omega
    have hlen := rpL_length hv
    have hcl := cycD_len r i
    have p := per_spec hR hb1 hb2
    have hol : (orbit r (1 + (i : Int))).length ≤ 12 := by unfold orbit; rw [List.length_map, List.length_range]; omega
    walk_at "rd"
    refine ⟨a, r, n, _, rfl, sqT_same s2 hr, hR, hn, hb1, hb2, fun ob H3 nob s3 e3 => ?_⟩
    walk_at "rd"
    refine r_lcLf (fun x => decide (x < 1 + (i : Int))) (fun x => x) (sqL_of e3) (by omega) (fun _ => rfl) (fun x H4 QB hx s4 k => ?_) (fun x H4 Q' hx s4 hp k => ?_) (fun D H4 nD s4 e4 => ?_)
    · walk_at "rd"
      exact k
    · walk_at "rd"
      exact k
    · walk_at "rd"
      rw [List.length_map]
      have e5 := s4 _ _ (s3 _ _ e2)
      have hv5 := rpL_keep (tk_same s4) (rpL_keep (tk_same s3) hv)
      by_cases hm : isMin r (1 + (i : Int)) = true
      · have hz : ((orbit r (1 + (i : Int))).filter fun x => decide (x < 1 + (i : Int))).length = 0 := by
          rw [List.length_eq_zero_iff, List.filter_eq_nil_iff]
          intro x hx
          unfold isMin at hm
          rw [List.all_eq_true] at hm
          have := of_decide_eq_true (hm x hx)
          simp
          omega
        rw [hz]
        refine r_iteP rfl ?_
        walk_at "rd"
        intro t H6 nt s6 e6
        have e56 := s6 _ _ e5
        walk_at "rd"
        intro H7 b7 e7
        walk_at "rd"
        refine ⟨vs ++ [.ref t], _, _, _, rfl, same_but (((s2.trans s3).trans s4).trans s6) b7 no, e7, ?_⟩
        rw [cycD_succ, if_pos hm]
        have hoH : H' o ≠ none := by rw [e2]; intro z; cases z
        exact rpL_snoc (rpL_keep (tk_but b7 e56) (rpL_keep (tk_same s6) hv5)) (rp_ints (sqT_but b7 e56 (sqT_of e6)))
      · have hz : ¬ ((((orbit r (1 + (i : Int))).filter fun x => decide (x < 1 + (i : Int))).length : Nat) : Int) = 0 := by
          intro hc
          refine hm ?_
          have hc' : ((orbit r (1 + (i : Int))).filter fun x => decide (x < 1 + (i : Int))).length = 0 := by omega
          rw [List.length_eq_zero_iff, List.filter_eq_nil_iff] at hc'
          unfold isMin
          rw [List.all_eq_true]
          intro x hx
          have := hc' x hx
          simp at this ⊢
          exact this
        refine r_iteM hz ?_
        walk_at "rd"
        refine ⟨vs, _, _, _, rfl, (s2.trans s3).trans s4, e5, ?_⟩
        rw [cycD_succ, if_neg hm, List.append_nil]
        exact hv5
  · obtain ⟨vs, z2, z3, z4, rfl, s2, e2, hv⟩ := hW
    walk_at "rd"
    intro t H3 nt s3 e3
    have hnt : H t = none := s2.free nt
    refine q t H3 hnt (s2.trans s3) ?_
    rw [← cycD_all, hR.1]
    exact .tup (sqT_of e3) (rpL_keep (tk_same s3) hv)
/-- the bells seen, told by a list of truth values -/
def SB (bs : List Bool) (n : Nat) (S : Int → Prop) : Prop := bs.length = n ∧ ∀ x : Int, 1 ≤ x → x ≤ n → (bs[(x - 1).toNat]? = some true ↔ S x)
theorem SB.at {bs : List Bool} {n : Nat} {S : Int → Prop} (h : SB bs n S) {x : Int} (h1 : 1 ≤ x) (h2 : x ≤ n) : ∃ b, atI (bs.map V.bl) (x - 1) = some (.bl b) ∧ (b = true ↔ S x) := by
  have hl : (x - 1).toNat < bs.length := by rw [h.1]; omega
  refine ⟨bs[(x - 1).toNat], ?_, ?_⟩
  · have e : (((x - 1).toNat : Nat) : Int) = x - 1 := by omega
    have h4 := atI_nat (xs := bs.map V.bl) (j := (x - 1).toNat) (v := .bl bs[(x - 1).toNat]) (by rw [List.getElem?_map, List.getElem?_eq_getElem hl]; rfl)
    rw [e] at h4
    exact h4
  · have := h.2 x h1 h2
    rw [List.getElem?_eq_getElem hl] at this
    rw [← this]
    constructor
    · intro e; rw [e]
    · intro e; exact Option.some.inj e
theorem SB.put {bs : List Bool} {n : Nat} {S S' : Int → Prop} (h : SB bs n S) {y : Int} (h1 : 1 ≤ y) (h2 : y ≤ n) (hS : ∀ x : Int, 1 ≤ x → x ≤ (n : Int) → (S' x ↔ S x ∨ x = y)) : SB (bs.set (y - 1).toNat true) n S' := by
  refine ⟨by rw [List.length_set]; exact h.1, fun x hx1 hx2 => ?_⟩
  rw [hS x hx1 hx2, List.getElem?_set]
  by_cases e : x = y
  · subst e
    rw [if_pos rfl, if_pos (by rw [h.1]; omega)]
    simp
  · rw [if_neg (by omega), h.2 x hx1 hx2]
    simp [e]
theorem SB.congr {bs : List Bool} {n : Nat} {S S' : Int → Prop} (h : SB bs n S) (hS : ∀ x : Int, 1 ≤ x → x ≤ (n : Int) → (S' x ↔ S x)) : SB bs n S' := ⟨h.1, fun x h1 h2 => (h.2 x h1 h2).trans (hS x h1 h2).symm⟩
theorem ixN_row {n : Nat} {y : Int} (h1 : 1 ≤ y) (h2 : y ≤ n) : ixN n (y - 1) = some (y - 1).toNat := by
  unfold ixN
  rw [if_pos (by omega), if_pos (by omega)]
theorem set_map {bs : List Bool} {k : Nat} : (bs.map V.bl).set k (.bl true) = (bs.set k true).map V.bl := by
  rw [List.map_set]
theorem pure_cycles_of (h : sp_cycles_of K vs H Q E) : t_cycles_of K (En Q) (start N_cycles_of vs) H := by
  obtain ⟨a, r, n, rfl, hr, hR, hn, q⟩ := h
  unfold t_cycles_of
  walk_at "rd"
  intro l0 H0 nl0 s0 e0
  walk_at "rd"
  rw [List.length_map, hR.1]
  refine r_mulL e0 (by omega) (by omega) (by rw [sizeLine_eq]; simp; omega) ?_
  intro sn H1 nsn s1 e1
  have e1 : H1 sn = some (.lst ((List.replicate n false).map V.bl)) := by rw [e1]; simp
  walk_at "rd"
  intro cy H2 ncy s2 e2
  have hsc : sn ≠ cy := ne_of_none e1 ncy
  walk_at "rd"
  rw [List.length_map, hR.1]
  walk_at "rd"
  rw [show ((n : Int) + 1 - 1).toNat = n by omega]
  refine r_forRange (fun i σ' H' => ∃ (vs : List V) (bs : List Bool) (z3 z4 z5 : Option V), σ' = [some (.ref a), some (.ref sn), some (.ref cy), z3, z4, z5] ∧ Same H H' ∧ H' cy = some (.lst vs) ∧ RpL K H' vs (cycD r i) ∧ H' sn = some (.lst (bs.map V.bl)) ∧ SB bs n (Seen r i))
    ⟨[], List.replicate n false, none, none, none, rfl, s0.trans (s1.trans s2), e2, .nil, s2 _ _ e1, ?_⟩ (fun i σ' H' hi hW => ?_) (fun σ' H' hW => ?_)
  · refine ⟨by simp, fun x h1 h2 => ?_⟩
    constructor
    · intro e
      rw [List.getElem?_replicate] at e
      split at e <;> simp at e
    · intro e
      exact absurd e (seen_zero hR h1 h2)
  · obtain ⟨vs, bs, z3, z4, z5, rfl, s3, e3, hv, e4, hS⟩ := hW
    have nsnH : H sn = none := s0.free nsn
    have ncyH : H cy = none := s0.free (s1.free ncy)
    have hb1 : (1 : Int) ≤ 1 + (i : Int) := by omega
    have hb2 : 1 + (i : Int) ≤ (n : Int) := by omega
    have p := per_spec hR hb1 hb2
    have hlen := rpL_length hv
    have hcl := cycD_len r i
    walk_at "rd"
    intro c H4 nc s4 e5
    have hcs : sn ≠ c := ne_of_none e4 nc
    have hcc : cy ≠ c := ne_of_none e3 nc
    have ncH : H c = none := s3.free nc
    have e34 := s4 _ _ e3
    have e44 := s4 _ _ e4
    have hv4 := rpL_keep (tk_same s4) hv
    walk_at "rd"
    by_cases hm : isMin r (1 + (i : Int)) = true
    · have hns := (seen_min hR hb2).mp hm
      refine r_while (fun m σ H' => ∃ (j : Nat) (bs : List Bool), m = per r (1 + (i : Int)) - j ∧ j ≤ per r (1 + (i : Int)) ∧ σ = [some (.ref a), some (.ref sn), some (.ref cy), some (.int (1 + (i : Int))), some (.ref c), some (.int (itr r j (1 + (i : Int))))] ∧ Same H H' ∧ H' cy = some (.lst vs) ∧ RpL K H' vs (cycD r i) ∧ H' sn = some (.lst (bs.map V.bl)) ∧ SB bs n (fun x => Seen r i x ∨ ∃ k, k < j ∧ itr r k (1 + (i : Int)) = x) ∧ H' c = some (.lst (((List.range j).map fun k => itr r k (1 + (i : Int))).map V.int))) (per r (1 + (i : Int)))
        ⟨0, bs, rfl, Nat.zero_le _, rfl, s3.trans s4, e34, hv4, e44, hS.congr (fun x _ _ => by simp), e5⟩ (fun m σ H5 hW => ?_)
      obtain ⟨j, bs5, rfl, hj, rfl, s5, e53, hv5, e54, hS5, e55⟩ := hW
      have mj := itr_mem hR hb1 hb2 j
      obtain ⟨b, hb, hbS⟩ := hS5.at mj.1 mj.2
      walk_at "rd"
      by_cases hjp : j = per r (1 + (i : Int))
      · -- back at the beginning
        have hbt : b = true := hbS.mpr (.inr ⟨0, by omega, by rw [hjp, p.2.2.1]; rfl⟩)
        subst hbt
        refine r_F ?_
        walk_at "rd"
        rw [List.length_map, List.length_map, List.length_range]
        refine r_iteP (by omega) ?_
        walk_at "rd"
        intro t H6 nt s6 e6
        have e63 := s6 _ _ e53
        have hcyt : cy ≠ t := ne_of_none e53 nt
        walk_at "rd"
        intro H7 b7 e7
        walk_at "rd"
        refine ⟨vs ++ [.ref t], bs5, _, _, _, rfl, same_but (s5.trans s6) b7 ncyH, e7, ?_, b7 _ _ hsc (s6 _ _ e54), hS5.congr fun x h1 h2 => ?_⟩
        · rw [cycD_succ, if_pos hm]
          have e6' : H6 t = some (.tup ((orbit r (1 + (i : Int))).map V.int)) := by rw [e6, hjp]; rfl
          exact rpL_snoc (rpL_keep (tk_but b7 e63) (rpL_keep (tk_same s6) hv5)) (rp_ints (sqT_but b7 e63 (sqT_of e6')))
        · rw [hjp]
          exact seen_succ_yes hR hb2 h1 h2
      · have hjl : j < per r (1 + (i : Int)) := by omega
        have hbf : b = false := by
          refine Bool.eq_false_iff.mpr fun e => ?_
          exact fresh_step hR hb2 hns hjl (hbS.mp e)
        subst hbf
        refine r_T ?_
        have hix : ixN (bs5.map V.bl).length (itr r j (1 + (i : Int)) - 1) = some (itr r j (1 + (i : Int)) - 1).toNat := by
          rw [List.length_map, hS5.1]
          exact ixN_row mj.1 mj.2
        walk_at "rd"
        intro H6 b6 e6
        rw [set_map] at e6
        have e65 := b6 _ _ hcs.symm e55
        walk_at "rd"
        refine r_append e65 (by rw [sizeLine_eq]; simp; omega) ?_
        intro H7 b7 e7
        have har := atI_row hR mj.1 mj.2
        have hr7 : SqT K H7 a (r.map V.int) := sqT_but b7 e65 (sqT_but b6 e54 (sqT_same s5 hr))
        walk_at "rd"
        refine ⟨per r (1 + (i : Int)) - (j + 1), by omega, j + 1, _, rfl, hjl, rfl, same_but (same_but s5 b6 nsnH) b7 ncH, b7 _ _ hcc (b6 _ _ hsc.symm e53), rpL_keep (tk_but b7 e65) (rpL_keep (tk_but b6 e54) hv5), b7 _ _ hcs e6, hS5.put mj.1 mj.2 fun x h1 h2 => ?_, ?_⟩
        · constructor
          · rintro (h | ⟨k, hk, e⟩)
            · exact .inl (.inl h)
            · by_cases hkj : k = j
              · subst hkj; exact .inr e.symm
              · exact .inl (.inr ⟨k, by omega, e⟩)
          · rintro ((h | ⟨k, hk, e⟩) | e)
            · exact .inl h
            · exact .inr ⟨k, by omega, e⟩
            · exact .inr ⟨j, by omega, e.symm⟩
        · rw [e7, List.range_succ]
          simp only [List.map_append]
          rfl
    · have hs : Seen r i (1 + (i : Int)) := Classical.byContradiction fun hc => hm ((seen_min hR hb2).mpr hc)
      refine r_while (fun m σ H' => σ = [some (.ref a), some (.ref sn), some (.ref cy), some (.int (1 + (i : Int))), some (.ref c), some (.int (1 + (i : Int)))] ∧ H' = H4) 0 ⟨rfl, rfl⟩ (fun m σ H5 hW => ?_)
      obtain ⟨rfl, rfl⟩ := hW
      obtain ⟨b, hb, hbS⟩ := hS.at hb1 hb2
      have hbt : b = true := hbS.mpr hs
      subst hbt
      walk_at "rd"
      refine r_iteM (by simp) ?_
      walk_at "rd"
      refine ⟨vs, bs, _, _, _, rfl, s3.trans s4, e34, ?_, e44, hS.congr fun x _ _ => seen_succ_no hR hs⟩
      rw [cycD_succ, if_neg hm, List.append_nil]
      exact hv4
  · obtain ⟨vs, bs, z3, z4, z5, rfl, s3, e3, hv, e4, hS⟩ := hW
    walk_at "rd"
    intro t H4 nt s4 e5
    refine q t H4 (s3.free nt) (s3.trans s4) ?_
    rw [← cycD_all, hR.1]
    exact .tup (sqT_of e5) (rpL_keep (tk_same s4) hv)
theorem datC_inv {H : Hp} {p : Addr} {cs : List (List Int)} (h : Rp K H (.ref p) (datC cs)) : ∃ vs : List V, SqT K H p vs ∧ RpL K H vs (cs.map fun c => .tup (c.map .int)) := by
  unfold datC at h
  cases h with
  | tup h1 h2 => exact ⟨_, h1, h2⟩
theorem datI_inv {H : Hp} {v : V} {c : List Int} (h : Rp K H v (.tup (c.map .int))) : ∃ (p : Addr) (vs : List V), v = .ref p ∧ SqT K H p vs ∧ vs = c.map V.int := by
  cases h with
  | @tup p xs _ h1 h2 =>
    refine ⟨p, _, rfl, h1, ?_⟩
    clear h1
    induction c generalizing xs with
    | nil => cases h2; rfl
    | cons x c ih =>
      cases h2 with
      | cons a b =>
        cases a
        rw [List.map_cons, ih b]
theorem pure_order_of (h : sp_order_of K vs H Q E) : t_order_of K (En Q) (start N_order_of vs) H := by
  obtain ⟨a, r, n, rfl, hr, hR, hn, q⟩ := h
  unfold t_order_of
  walk_at "rd"
  refine r_seqT ?_
  walk_at "rd"
  refine ⟨a, r, n, rfl, hr, hR, hn, fun p H1 np s1 hp => ?_⟩
  obtain ⟨vs, hvs, hrp⟩ := datC_inv hp
  refine r_pseqT hvs ?_
  have hlen := rpL_length hrp
  rw [List.length_map] at hlen
  refine r_forTup (xs := vs) (fun i σ' H' => ∃ (z2 z3 : Option V), σ' = [some (.ref a), some (.int (ordL ((cyc r).take i) : Nat)), z2, z3] ∧ H' = H1)
    ⟨none, none, rfl, rfl⟩ (fun i σ' H' _ hW => by obtain ⟨_, _, _, rfl⟩ := hW; exact hvs) (fun i x σ' H' hi hW => ?_) (fun σ' H' hW => ?_)
  · obtain ⟨z2, z3, rfl, eH⟩ := hW
    subst eH
    have hil : i < (cyc r).length := by rw [← hlen]; exact (List.getElem?_eq_some_iff.mp hi).1
    obtain ⟨v, hv, rv⟩ := rpL_get hrp (i := i) (d := .tup ((cyc r)[i].map .int)) (by rw [List.getElem?_map, List.getElem?_eq_getElem hil]; rfl)
    have exv : x = v := Option.some.inj (hi.symm.trans hv)
    subst exv
    obtain ⟨c, cs, rfl, hc, rfl⟩ := datI_inv rv
    have hpos : 0 < ordL ((cyc r).take i) := ordL_pos hR i
    have hcp : 0 < (cyc r)[i].length := cyc_pos hR _ (List.getElem_mem hil)
    have hstep : ordL ((cyc r).take (i + 1)) = Nat.lcm (ordL ((cyc r).take i)) (cyc r)[i].length := by
      unfold ordL
      rw [List.take_add_one, List.getElem?_eq_getElem hil, List.foldl_append]
      rfl
    walk_at "rd"
    refine r_while (fun m σ Hw => ∃ M : Nat, σ = [some (.ref a), some (.int (ordL ((cyc r).take i) : Nat)), some (.ref c), some (.int (M : Int))] ∧ Hw = H' ∧ ordL ((cyc r).take i) ∣ M ∧ M ≤ ordL ((cyc r).take (i + 1)) ∧ 0 < M ∧ m = ordL ((cyc r).take (i + 1)) - M) (ordL ((cyc r).take (i + 1)) - ordL ((cyc r).take i))
      ⟨ordL ((cyc r).take i), rfl, rfl, Nat.dvd_refl _, ?_, hpos, rfl⟩ (fun m σ H5 hW => ?_)
    · rw [hstep]
      exact Nat.le_of_dvd (Nat.lcm_pos hpos hcp) (Nat.dvd_lcm_left _ _)
    · obtain ⟨M, rfl, rfl, hd, hle, hM, rfl⟩ := hW
      have hcp' : (0 : Int) < (((cyc r)[i].map V.int).length : Int) := by rw [List.length_map]; omega
      walk_at "rd"
      rw [List.length_map]
      have hcast : ((M : Int) % (((cyc r)[i].length : Nat) : Int)) = ((M % (cyc r)[i].length : Nat) : Int) := rfl
      rw [hcast]
      refine r_iteN (fun hz => ?_) (fun hz => ?_)
      · have hz' : ¬ M % (cyc r)[i].length = 0 := by omega
        have hlt : M + ordL ((cyc r).take i) ≤ ordL ((cyc r).take (i + 1)) := by
          rw [hstep] at hle ⊢
          exact lcm_room hpos hd hle hz'
        walk_at "rd"
        exact ⟨_, by omega, M + ordL ((cyc r).take i), by rw [Int.natCast_add]; rfl, rfl, Nat.dvd_add hd (Nat.dvd_refl _), hlt, by omega, rfl⟩
      · have hz' : M % (cyc r)[i].length = 0 := by omega
        have heq : M = ordL ((cyc r).take (i + 1)) := by
          refine Nat.le_antisymm hle ?_
          rw [hstep]
          exact Nat.le_of_dvd hM (Nat.lcm_dvd hd (Nat.dvd_of_mod_eq_zero hz'))
        walk_at "rd"
        exact ⟨_, _, by rw [heq]; rfl, rfl⟩
  · obtain ⟨z2, z3, rfl, rfl⟩ := hW
    rw [hlen, List.take_length]
    walk_at "rd"
    exact q _ s1
theorem pure_parity_of (h : sp_parity_of K vs H Q E) : t_parity_of K (En Q) (start N_parity_of vs) H := by
  obtain ⟨a, r, n, rfl, hr, hR, hn, q⟩ := h
  unfold t_parity_of
  walk_at "rd"
  refine ⟨a, r, n, rfl, hr, hR, hn, fun p H1 np s1 hp => ?_⟩
  obtain ⟨vs, hvs, hrp⟩ := datC_inv hp
  have hlen := rpL_length hrp
  rw [List.length_map] at hlen
  walk_at "rd"
  rw [List.length_map, hR.1, hlen]
  exact q _ s1
theorem pure_law_copies (h : sp_law_copies K vs H Q E) : t_law_copies K (En Q) (start N_law_copies vs) H := by
  obtain ⟨a, r, n, rfl, hr, hR, hn, q⟩ := h
  have hL0 : 0 < ordL (cyc r) := by have := ordL_pos hR (cyc r).length; rw [List.take_length] at this; exact this
  have hL : ordL (cyc r) ≤ 60 := ord_le hR hn
  unfold t_law_copies
  walk_at "rd"
  refine r_forRange0 (n := 60) (fun i σ' H' => ∃ (p : Addr) (m : Nat) (z3 : Option V), σ' = [some (.ref a), some (.int ((m + 1 : Nat) : Int)), some (.ref p), z3] ∧ Same H H' ∧ SqT K H' p ((pw r m).map V.int) ∧ m + 1 = min (i + 1) (ordL (cyc r)))
    ⟨a, 0, none, rfl, Same.refl _, hr, by omega⟩ (fun i σ' H' hi hW => ?_) (fun σ' H' hW => ?_)
  · obtain ⟨p, m, z3, rfl, s, hp, hm⟩ := hW
    have hrow := pw_row hR m
    walk_at "rd"
    rw [List.length_map, hR.1]
    refine ⟨n, rfl, by omega, fun p1 H1 np1 s1 h1 => ?_⟩
    have hp1 := sqT_same s1 hp
    refine r_neT hp1 h1 ?_
    walk_at "rd"
    refine r_iteN (fun hne => ?_) (fun heq => ?_)
    · have hml : m + 1 < ordL (cyc r) := by
        refine Decidable.byContradiction fun hc => hne ?_
        rw [pw_round hR]
        rw [show m + 1 = ordL (cyc r) by omega]
        exact Nat.dvd_refl _
      walk_at "rd"
      refine ⟨p, a, pw r m, r, n, rfl, hp1, sqT_same s1 (sqT_same s hr), hrow, hR, by omega, fun p2 H2 np2 s2 h2 => ?_⟩
      walk_at "rd"
      exact ⟨p2, m + 1, _, rfl, (s.trans s1).trans s2, h2, by omega⟩
    · have hml : ordL (cyc r) ∣ m + 1 := (pw_round hR m).mp heq
      have := Nat.le_of_dvd (by omega) hml
      walk_at "rd"
      exact ⟨p, m, _, rfl, s.trans s1, hp1, by omega⟩
  · obtain ⟨p, m, z3, rfl, s, hp, hm⟩ := hW
    walk_at "rd"
    rw [show m + 1 = ordL (cyc r) by omega]
    exact q _ s
theorem pure_law_crossings (h : sp_law_crossings K vs H Q E) : t_law_crossings K (En Q) (start N_law_crossings vs) H := by
  obtain ⟨a, r, n, rfl, hr, hR, hn, q⟩ := h
  unfold t_law_crossings
  walk_at "rd"
  rw [List.length_map, hR.1]
  walk_at "rd"
  rw [Int.toNat_natCast]
  refine r_forRange0 (fun i σ' H' => ∃ (c : Nat) (z2 z3 : Option V), σ' = [some (.ref a), some (.int (c : Int)), z2, z3] ∧ Same H H' ∧ c + inv (r.drop i) = inv r)
    ⟨0, none, none, rfl, Same.refl _, by simp⟩ (fun i σ' H' hi hW => ?_) (fun σ' H' hW => ?_)
  · obtain ⟨c, z2, z3, rfl, s, hc⟩ := hW
    have hil : i < r.length := by rw [hR.1]; exact hi
    have hr' := sqT_same s hr
    have hri : (r.map V.int)[i]? = some (.int r[i]) := by rw [List.getElem?_map, List.getElem?_eq_getElem hil]; rfl
    have hai := atI_nat hri
    walk_at "rd"
    refine r_seqT ?_
    walk_at "rd"
    refine r_slDrop (k := i + 1) hr' (by omega) (by omega) (by rw [List.length_map]; omega) (fun p H1 np s1 e1 => ?_)
    have e1' : H1 p = some (.tup ((r.drop (i + 1)).map V.int)) := by rw [e1, List.map_drop]
    refine r_pseqT (sqT_of e1) ?_
    refine r_lcTf (ns := r.drop (i + 1)) (fun x => decide (x < r[i])) (fun x => x) (sqT_of e1') (by rw [List.length_drop, hR.1]; omega) (fun _ => rfl) (fun x H4 QB hx s4 k => ?_) (fun x H4 Q' hx s4 hp k => ?_) (fun D H4 nD s4 e4 => ?_)
    · walk_at "rd"
      exact k
    · walk_at "rd"
      exact k
    · walk_at "rd"
      rw [List.length_map]
      refine ⟨c + ((r.drop (i + 1)).filter fun x => decide (x < r[i])).length, _, _, by rw [Int.natCast_add]; rfl, (s.trans s1).trans s4, ?_⟩
      rw [← hc, List.drop_eq_getElem_cons hil]
      simp only [inv]
      omega
  · obtain ⟨c, z2, z3, rfl, s, hc⟩ := hW
    rw [List.drop_eq_nil_of_le (by rw [hR.1]; exact Nat.le_refl _)] at hc
    simp only [inv, Nat.add_zero] at hc
    walk_at "rd"
    rw [hc]
    exact q _ s
theorem sizes_append (a b : List Dat) : Dat.sizes (a ++ b) = Dat.sizes a + Dat.sizes b := by
  induction a with
  | nil => simp [Dat.sizes]
  | cons x a ih => simp only [List.cons_append, Dat.sizes, ih]; omega
theorem sizes_ints (c : List Int) : Dat.sizes (c.map .int) = c.length := by
  induction c with
  | nil => rfl
  | cons x c ih => simp only [List.map_cons, Dat.sizes, ih, Dat.size, List.length_cons]; omega
theorem size_datC {r : List Int} {n : Nat} (h : IsRow r n) : (datC (cyc r)).size ≤ 1 + 2 * n := by
  have hs := cyc_sum h
  have hp := cyc_pos h
  unfold datC
  have key : ∀ cs : List (List Int), (∀ c ∈ cs, 0 < c.length) → Dat.sizes (cs.map fun c => .tup (c.map .int)) ≤ 2 * (cs.map List.length).sum := by
    intro cs
    induction cs with
    | nil => intro _; simp [Dat.sizes]
    | cons c cs ih =>
      intro hc
      have h1 := ih fun d hd => hc d (List.mem_cons_of_mem _ hd)
      have h2 := hc c List.mem_cons_self
      simp only [List.map_cons, Dat.sizes, Dat.size, sizes_ints, List.sum_cons]
      omega
  have := key (cyc r) hp
  simp only [Dat.size]
  omega
theorem pure_law (h : sp_law K vs H Q E) : t_law K (En Q) (start N_law vs) H := by
  obtain ⟨a, ns, rfl, hS, hn, q⟩ := h
  unfold t_law
  walk_at "rd"
  refine ⟨a, ns, 0, rfl, hS, hn, by omega, fun p H1 np s1 hp => ?_⟩
  walk_at "rd"
  refine ⟨p, 12, rfl, hp, by omega, by omega, fun v H2 hv0 hv1 b2 hp2 => ?_⟩
  have s2 : Same H H2 := same_but s1 b2 np
  walk_at "rd"
  obtain ⟨n, hnv⟩ : ∃ n : Nat, 1 + v = (n : Int) := ⟨(1 + v).toNat, by omega⟩
  rw [hnv]
  refine ⟨p, n, rfl, hp2, by omega, fun a1 H3 r1 na1 b3 hp3 hr1 hR1 => ?_⟩
  have s3 : Same H H3 := same_but s2 b3 np
  walk_at "rd"
  refine ⟨a, ns, 1, rfl, sqL_same s3 hS, hn, by omega, fun p' H4 np' s4 hp4 => ?_⟩
  walk_at "rd"
  refine ⟨p', n, rfl, hp4, by omega, fun a2 H5 r2 na2 b5 hp5 hr2 hR2 => ?_⟩
  have s5 : Same H3 H5 := same_but s4 b5 np'
  have hr15 := sqT_same s5 hr1
  walk_at "rd"
  refine ⟨a1, a2, r1, r2, n, rfl, hr15, hr2, hR1, hR2, by omega, fun a3 H6 na3 s6 hr3 => ?_⟩
  have hr16 := sqT_same s6 hr15
  have hr26 := sqT_same s6 hr2
  have hR3 := mulR_row' hR1 hR2
  walk_at "rd"
  refine r_seqL ?_
  walk_at "rd"
  intro L H7 nL s7 eL
  refine r_pseqL (sqL_of eL) ?_
  have hn12 : n ≤ 12 := by omega
  have all : ∀ x ∈ [V.ref a1, V.ref a2, V.ref a3], ∃ (b : Addr) (r : List Int), x = .ref b ∧ SqT K H7 b (r.map V.int) ∧ IsRow r n := by
    intro x hx
    simp only [List.mem_cons, List.not_mem_nil, or_false] at hx
    rcases hx with rfl | rfl | rfl
    · exact ⟨a1, r1, rfl, sqT_same s7 hr16, hR1⟩
    · exact ⟨a2, r2, rfl, sqT_same s7 hr26, hR2⟩
    · exact ⟨a3, _, rfl, sqT_same s7 hr3, hR3⟩
  refine r_forLst (xs := [V.ref a1, V.ref a2, V.ref a3]) (fun i σ' H' => ∃ (z6 z7 : Option V), σ' = [some (.ref a), some (.ref p), some (.int (n : Int)), some (.ref a1), some (.ref a2), some (.ref a3), z6, z7] ∧ Same H7 H')
    ⟨none, none, rfl, Same.refl _⟩ (fun i σ' H' _ hW => by obtain ⟨_, _, _, s⟩ := hW; exact sqL_same s (sqL_of eL)) (fun i x σ' H' hi hW => ?_) (fun σ' H' hW => ?_)
  · obtain ⟨z6, z7, rfl, s8⟩ := hW
    obtain ⟨b, r, rfl, hb, hR⟩ := all x (List.mem_of_getElem? hi)
    have hb8 := sqT_same s8 hb
    have hsz := size_datC hR
    walk_at "rd"
    refine ⟨b, r, n, rfl, hb8, hR, hn12, fun p1 G1 np1 t1 h1 => ?_⟩
    have hb9 := sqT_same t1 hb8
    walk_at "rd"
    refine ⟨b, r, n, rfl, hb9, hR, hn12, fun p2 G2 np2 t2 h2 => ?_⟩
    walk_at "rd"
    refine ⟨.ref p1, .ref p2, datC (cyc r), rfl, rp_same t2 h1, h2, by omega, fun G3 t3 => ?_⟩
    have hb10 := sqT_same t3 (sqT_same t2 hb9)
    walk_at "rd"
    refine ⟨b, r, n, rfl, hb10, hR, hn12, fun G4 t4 => ?_⟩
    have hb11 := sqT_same t4 hb10
    walk_at "rd"
    refine ⟨b, r, n, rfl, hb11, hR, hn12, fun G5 t5 => ?_⟩
    have hb12 := sqT_same t5 hb11
    walk_at "rd"
    refine ⟨_, _, .int (ordL (cyc r) : Nat), rfl, .int _, .int _, by simp [Dat.size], fun G6 t6 => ?_⟩
    have hb13 := sqT_same t6 hb12
    walk_at "rd"
    refine ⟨b, r, n, rfl, hb13, hR, hn12, fun G7 t7 => ?_⟩
    have hb14 := sqT_same t7 hb13
    walk_at "rd"
    refine ⟨b, r, n, rfl, hb14, hR, hn12, fun G8 t8 => ?_⟩
    walk_at "rd"
    rw [parity_eq hR]
    refine ⟨_, _, .int ((inv r : Int) % 2), rfl, .int _, .int _, by simp [Dat.size], fun G9 t9 => ?_⟩
    walk_at "rd"
    exact ⟨_, _, rfl, s8.trans (t1.trans (t2.trans (t3.trans (t4.trans (t5.trans (t6.trans (t7.trans (t8.trans t9)))))))) ⟩
  · obtain ⟨z6, z7, rfl, s8⟩ := hW
    have g1 := sqT_same s8 (sqT_same s7 hr16)
    have g2 := sqT_same s8 (sqT_same s7 hr26)
    have g3 := sqT_same s8 (sqT_same s7 hr3)
    walk_at "rd"
    refine ⟨a1, r1, n, rfl, g1, hR1, hn12, fun G1 t1 => ?_⟩
    walk_at "rd"
    refine ⟨a2, r2, n, rfl, sqT_same t1 g2, hR2, hn12, fun G2 t2 => ?_⟩
    walk_at "rd"
    refine ⟨a3, _, n, rfl, sqT_same t2 (sqT_same t1 g3), hR3, hn12, fun G3 t3 => ?_⟩
    walk_at "rd"
    rw [parity_eq hR3]
    have hm := inv_mul hR1 hR2
    have e : ((inv (mulR r1 r2) : Nat) : Int) % 2 = ((inv r1 : Nat) + (inv r2 : Nat) : Int) % 2 := by omega
    rw [e]
    exact ⟨_, _, .int (((inv r1 : Nat) + (inv r2 : Nat) : Int) % 2), rfl, .int _, .int _, by simp [Dat.size], fun G4 t4 => q G4⟩
end
end Kb

set_option Elab.async false
set_option linter.all false
set_option maxRecDepth 100000
set_option maxHeartbeats 4000000
namespace Kb
open PySem PySem.Spec PyProof.Rows L2
def top (i : Nat) : Stmt := PySem.Challenge.pw_ringingchamber_k03_cycles_order_parity.main.body.getD i (.Pass ⟨0, 0, 0, 0⟩)
abbrev s_cycles_of : Stmt := top 1
abbrev s_order_of : Stmt := top 2
abbrev s_parity_of : Stmt := top 3
abbrev s_law_cell : Stmt := top 5
abbrev s_law_pool : Stmt := top 6
abbrev s_law_draw : Stmt := top 7
abbrev s_law_rounds : Stmt := top 8
abbrev s_law_times : Stmt := top 9
abbrev s_law_row_draw : Stmt := top 10
abbrev s_law_same : Stmt := top 11
abbrev s_law_orbit : Stmt := top 12
abbrev s_law_cycles : Stmt := top 13
abbrev s_law_copies : Stmt := top 14
abbrev s_law_crossings : Stmt := top 15
abbrev s_law : Stmt := top 16
structure Bn (mg : Str → Option Value) : Prop where
  n_abs : mg "abs" = none
  n_bool : mg "bool" = none
  n_int : mg "int" = none
  n_isinstance : mg "isinstance" = none
  n_len : mg "len" = none
  n_list : mg "list" = none
  n_range : mg "range" = none
  n_str : mg "str" = none
  n_tuple : mg "tuple" = none
section
variable {P : Program} {w : World} {K : PySem.W.Frag} {mg : Str → Option Value} {base : Heap}
theorem sc_cycles_of : FnScope N_cycles_of ["row"] (defScope s_cycles_of) := ⟨rfl, rfl, rfl, by decide +kernel, rfl, by decide +kernel, by decide +kernel⟩
theorem ok_cycles_of (D : At K mg "cycles_of" s_cycles_of) (B : Bn mg) : Fn P w K mg base CX0 1 "cycles_of" ["row"] (sp_cycles_of K) := by
  obtain ⟨f, fd, F, hm⟩ := D
  refine ⟨f, fd, F.ok sc_cycles_of (fun vs H Q E h => len_cycles_of h) (fun cdv A outer s H vs Q E hr h => ⟨t_cycles_of K, ?_, pure_cycles_of h⟩), hm, F.kp, F.binds fun _ _ _ _ _ _ us hl => match us, hl with | [_], _ => rfl⟩
  have nd := sc_cycles_of.nd
  exact pss_cons (ps_set (i := 1) nd rfl (Or.inl rfl) ((pe_op op_mulU ((pe_lst (pa_cons (pe_bl) pa_nil))) ((pe_callB call_lenU (by rfl) B.n_len (by decide +kernel) (pa_cons (pv 0) pa_nil))))))
      (pss_cons (ps_set (i := 2) nd rfl (Or.inl rfl) ((pe_lst pa_nil)))
      (pss_cons (ps_for PassesOwn.never rfl (pi_range2 (by rfl) B.n_range (pa_cons (pe_int) (pa_cons ((pe_op op_addU ((pe_callB call_lenU (by rfl) B.n_len (by decide +kernel) (pa_cons (pv 0) pa_nil))) (pe_int))) pa_nil))) (pg_name (i := 3) nd rfl (Or.inl rfl)) (pss_cons (ps_set (i := 4) nd rfl (Or.inl rfl) ((pe_lst pa_nil)))
      (pss_cons (ps_set (i := 5) nd rfl (Or.inl rfl) (pv 3))
      (pss_cons (ps_while PassesOwn.never ((pt_not ((pt_truU ((pe_ix ix_seq (pv 1) ((pe_op op_subU (pv 5) (pe_int))) (fun _ _ => rfl))) (by intro _; rfl))))) (pss_cons (ps_asg (pe_bl) (pg_sub (pv 1) ((pe_op op_subU (pv 5) (pe_int))) set_list))
      (pss_cons (ps_expr ((pe_bm PySem.F.plainAttrs_list PySem.F.slot_list_append PySem.F.type_list_append mt_append (pv 4) (pa_cons (pv 5) pa_nil))))
      (pss_one (ps_set (i := 5) nd rfl (Or.inl rfl) ((pe_ix ix_seq (pv 0) ((pe_op op_subU (pv 5) (pe_int))) (fun _ _ => rfl))))))))
      (pss_one (ps_if ((pt_cmpR op_gtU ((pe_callB call_lenU (by rfl) B.n_len (by decide +kernel) (pa_cons (pv 4) pa_nil))) (pe_int) (nomark _))) (pss_one (ps_expr ((pe_bm PySem.F.plainAttrs_list PySem.F.slot_list_append PySem.F.type_list_append mt_append (pv 2) (pa_cons ((pe_tupleOf (by rfl) B.n_tuple (pv 4))) pa_nil))))) (pss_nil)))))))
      (pss_one (ps_ret ((pe_tupleOf (by rfl) B.n_tuple (pv 2)))))))

theorem sc_order_of : FnScope N_order_of ["row"] (defScope s_order_of) := ⟨rfl, rfl, rfl, by decide +kernel, rfl, by decide +kernel, by decide +kernel⟩
theorem ok_order_of (D : At K mg "order_of" s_order_of) (B : Bn mg) (G_cycles_of : Fn P w K mg base CX0 1 "cycles_of" ["row"] (sp_cycles_of K)) : Fn P w K mg base CX0 2 "order_of" ["row"] (sp_order_of K) := by
  obtain ⟨f, fd, F, hm⟩ := D
  refine ⟨f, fd, F.ok sc_order_of (fun vs H Q E h => len_order_of h) (fun cdv A outer s H vs Q E hr h => ⟨t_order_of K, ?_, pure_order_of h⟩), hm, F.kp, F.binds fun _ _ _ _ _ _ us hl => match us, hl with | [_], _ => rfl⟩
  have nd := sc_order_of.nd
  exact pss_cons (ps_set (i := 1) nd rfl (Or.inl rfl) (pe_int))
      (pss_cons (ps_for PassesOwn.never rfl (pi_seqU ((pe_callF G_cycles_of (hr.mono (by decide)) (by rfl) pass0 (pa_cons (pv 0) pa_nil)))) (pg_name (i := 2) nd rfl (Or.inl rfl)) (pss_cons (ps_set (i := 3) nd rfl (Or.inl rfl) (pv 1))
      (pss_cons (ps_while PassesOwn.never ((pt_cmpR (op_neU hr.units) ((pe_op op_modU (pv 3) ((pe_callB call_lenU (by rfl) B.n_len (by decide +kernel) (pa_cons (pv 2) pa_nil))))) (pe_int) (nomark _))) (pss_one (ps_set (i := 3) nd rfl (Or.inl rfl) ((pe_op op_addU (pv 3) (pv 1))))))
      (pss_one (ps_set (i := 1) nd rfl (Or.inl rfl) (pv 3))))))
      (pss_one (ps_ret (pv 1))))

theorem sc_parity_of : FnScope N_parity_of ["row"] (defScope s_parity_of) := ⟨rfl, rfl, rfl, by decide +kernel, rfl, by decide +kernel, by decide +kernel⟩
theorem ok_parity_of (D : At K mg "parity_of" s_parity_of) (B : Bn mg) (G_cycles_of : Fn P w K mg base CX0 1 "cycles_of" ["row"] (sp_cycles_of K)) : Fn P w K mg base CX0 2 "parity_of" ["row"] (sp_parity_of K) := by
  obtain ⟨f, fd, F, hm⟩ := D
  refine ⟨f, fd, F.ok sc_parity_of (fun vs H Q E h => len_parity_of h) (fun cdv A outer s H vs Q E hr h => ⟨t_parity_of K, ?_, pure_parity_of h⟩), hm, F.kp, F.binds fun _ _ _ _ _ _ us hl => match us, hl with | [_], _ => rfl⟩
  have nd := sc_parity_of.nd
  exact pss_one (ps_ret ((pe_op op_modU ((pe_op op_subU ((pe_callB call_lenU (by rfl) B.n_len (by decide +kernel) (pa_cons (pv 0) pa_nil))) ((pe_callB call_lenU (by rfl) B.n_len (by decide +kernel) (pa_cons ((pe_callF G_cycles_of (hr.mono (by decide)) (by rfl) pass0 (pa_cons (pv 0) pa_nil))) pa_nil))))) (pe_int))))

theorem sc_law_cell : FnScope N_law_cell ["script", "k"] (defScope s_law_cell) := ⟨rfl, rfl, rfl, by decide +kernel, rfl, by decide +kernel, by decide +kernel⟩
theorem ok_law_cell (D : At K mg "_law_cell" s_law_cell) (B : Bn mg) : Fn P w K mg base CX0 1 "_law_cell" ["script", "k"] (sp_law_cell K) := by
  obtain ⟨f, fd, F, hm⟩ := D
  refine ⟨f, fd, F.ok sc_law_cell (fun vs H Q E h => len_law_cell h) (fun cdv A outer s H vs Q E hr h => ⟨t_law_cell K, ?_, pure_law_cell h⟩), hm, F.kp, F.binds fun _ _ _ _ _ _ us hl => match us, hl with | [_, _], _ => rfl⟩
  have nd := sc_law_cell.nd
  exact pss_cons (ps_if ((pt_cmpR (op_ltU hr.units) (pv 1) ((pe_callB call_lenU (by rfl) B.n_len (by decide +kernel) (pa_cons (pv 0) pa_nil))) (nomark _))) (pss_one (ps_ret ((pe_callB call_absU (by rfl) B.n_abs (by decide +kernel) (pa_cons ((pe_callTy call_intU (by rfl) B.n_int (by decide +kernel) (pa_cons ((pe_ix ix_seq (pv 0) (pv 1) (fun _ _ => rfl))) pa_nil))) pa_nil))))) (pss_nil))
      (pss_cons (ps_if ((pt_cmpR (op_eqU hr.units) ((pe_callB call_lenU (by rfl) B.n_len (by decide +kernel) (pa_cons (pv 0) pa_nil))) (pe_int) (nomark _))) (pss_one (ps_ret (pe_int))) (pss_nil))
      (pss_one (ps_ret ((pe_op op_modU ((pe_callB call_absU (by rfl) B.n_abs (by decide +kernel) (pa_cons ((pe_callTy call_intU (by rfl) B.n_int (by decide +kernel) (pa_cons ((pe_ix ix_seq (pv 0) ((pe_op op_modU ((pe_callTy call_intU (by rfl) B.n_int (by decide +kernel) (pa_cons (pv 1) pa_nil))) ((pe_callB call_lenU (by rfl) B.n_len (by decide +kernel) (pa_cons (pv 0) pa_nil))))) (fun _ _ => rfl))) pa_nil))) pa_nil))) (pe_int))))))

theorem sc_law_pool : FnScope N_law_pool ["script", "k"] (defScope s_law_pool) := ⟨rfl, rfl, rfl, by decide +kernel, rfl, by decide +kernel, by decide +kernel⟩
theorem ok_law_pool (D : At K mg "_law_pool" s_law_pool) (B : Bn mg) (G_law_cell : Fn P w K mg base CX0 1 "_law_cell" ["script", "k"] (sp_law_cell K)) : Fn P w K mg base CX0 2 "_law_pool" ["script", "k"] (sp_law_pool K) := by
  obtain ⟨f, fd, F, hm⟩ := D
  refine ⟨f, fd, F.ok sc_law_pool (fun vs H Q E h => len_law_pool h) (fun cdv A outer s H vs Q E hr h => ⟨t_law_pool K, ?_, pure_law_pool h⟩), hm, F.kp, F.binds fun _ _ _ _ _ _ us hl => match us, hl with | [_, _], _ => rfl⟩
  have nd := sc_law_pool.nd
  exact pss_cons (ps_set (i := 2) nd rfl (Or.inl rfl) ((pe_callF G_law_cell (hr.mono (by decide)) (by rfl) pass0 (pa_cons (pv 0) (pa_cons (pv 1) pa_nil)))))
      (pss_cons (ps_if ((pt_cmpR op_geU (pv 2) ((pe_op op_powU (pe_int) (pe_int))) (nomark _))) (pss_one (ps_ret ((pe_lst (pa_cons ((pe_op op_subU (pv 2) ((pe_op op_powU (pe_int) (pe_int))))) (pa_cons ((pe_op op_modU ((pe_callTy call_intU (by rfl) B.n_int (by decide +kernel) (pa_cons (pv 2) pa_nil))) (pe_int))) (pa_cons (pe_int) pa_nil))))))) (pss_nil))
      (pss_one (ps_ret ((pe_lst (pa_cons (pe_int) (pa_cons ((pe_op op_addU (pv 2) ((pe_op op_mulU (pe_int) ((pe_op op_addU (pv 1) (pe_int))))))) (pa_cons (pe_int) pa_nil))))))))

theorem sc_law_draw : FnScope N_law_draw ["pool", "many"] (defScope s_law_draw) := ⟨rfl, rfl, rfl, by decide +kernel, rfl, by decide +kernel, by decide +kernel⟩
theorem ok_law_draw (D : At K mg "_law_draw" s_law_draw) (B : Bn mg) : Fn P w K mg base CX0 1 "_law_draw" ["pool", "many"] (sp_law_draw K) := by
  obtain ⟨f, fd, F, hm⟩ := D
  refine ⟨f, fd, F.ok sc_law_draw (fun vs H Q E h => len_law_draw h) (fun cdv A outer s H vs Q E hr h => ⟨t_law_draw K, ?_, pure_law_draw h⟩), hm, F.kp, F.binds fun _ _ _ _ _ _ us hl => match us, hl with | [_, _], _ => rfl⟩
  have nd := sc_law_draw.nd
  exact pss_cons (ps_asg ((pe_op op_addU ((pe_ix ix_seq (pv 0) (pe_int) (fun _ _ => rfl))) (pe_int))) (pg_sub (pv 0) (pe_int) set_list))
      (pss_cons (ps_if ((pt_cmpR op_gtU ((pe_ix ix_seq (pv 0) (pe_int) (fun _ _ => rfl))) (pe_int) (nomark _))) (pss_cons (ps_set (i := 2) nd rfl (Or.inl rfl) ((pe_op op_modU ((pe_callTy call_intU (by rfl) B.n_int (by decide +kernel) (pa_cons ((pe_ix ix_seq (pv 0) (pe_int) (fun _ _ => rfl))) pa_nil))) (pv 1))))
      (pss_cons (ps_asg ((pe_op op_fdivU ((pe_ix ix_seq (pv 0) (pe_int) (fun _ _ => rfl))) (pv 1))) (pg_sub (pv 0) (pe_int) set_list))
      (pss_one (ps_ret (pv 2))))) (pss_nil))
      (pss_cons (ps_set (i := 3) nd rfl (Or.inl rfl) ((pe_op op_modU ((pe_callTy call_intU (by rfl) B.n_int (by decide +kernel) (pa_cons ((pe_op op_addU ((pe_ix ix_seq (pv 0) (pe_int) (fun _ _ => rfl))) ((pe_op op_mulU (pe_int) ((pe_ix ix_seq (pv 0) (pe_int) (fun _ _ => rfl))))))) pa_nil))) (pe_int))))
      (pss_cons (ps_set (i := 3) nd rfl (Or.inl rfl) ((pe_op op_modU ((pe_callTy call_intU (by rfl) B.n_int (by decide +kernel) (pa_cons ((pe_op op_addU ((pe_op op_addU ((pe_op op_mulU (pv 3) (pv 3))) ((pe_op op_mulU (pe_int) ((pe_ix ix_seq (pv 0) (pe_int) (fun _ _ => rfl))))))) ((pe_ix ix_seq (pv 0) (pe_int) (fun _ _ => rfl))))) pa_nil))) (pe_int))))
      (pss_cons (ps_set (i := 3) nd rfl (Or.inl rfl) ((pe_op op_modU ((pe_callTy call_intU (by rfl) B.n_int (by decide +kernel) (pa_cons ((pe_op op_addU ((pe_op op_mulU (pv 3) (pv 3))) (pe_int))) pa_nil))) (pe_int))))
      (pss_one (ps_ret ((pe_op op_modU ((pe_callTy call_intU (by rfl) B.n_int (by decide +kernel) (pa_cons ((pe_op op_fdivU (pv 3) (pe_int))) pa_nil))) (pv 1)))))))))

theorem sc_law_rounds : FnScope N_law_rounds ["stage"] (defScope s_law_rounds) := ⟨rfl, rfl, rfl, by decide +kernel, rfl, by decide +kernel, by decide +kernel⟩
theorem ok_law_rounds (D : At K mg "_law_rounds" s_law_rounds) (B : Bn mg) : Fn P w K mg base CX0 1 "_law_rounds" ["stage"] (sp_law_rounds K) := by
  obtain ⟨f, fd, F, hm⟩ := D
  refine ⟨f, fd, F.ok sc_law_rounds (fun vs H Q E h => len_law_rounds h) (fun cdv A outer s H vs Q E hr h => ⟨t_law_rounds K, ?_, pure_law_rounds h⟩), hm, F.kp, F.binds fun _ _ _ _ _ _ us hl => match us, hl with | [_], _ => rfl⟩
  have nd := sc_law_rounds.nd
  exact pss_one (ps_ret ((pe_tupleOf (by rfl) B.n_tuple ((pe_listRg rfl (by rfl) B.n_list (prg_2 (by rfl) B.n_range (pe_int) ((pe_op op_addU (pv 0) (pe_int)))))))))

theorem sc_law_times : FnScope N_law_times ["first", "second"] (defScope s_law_times) := ⟨rfl, rfl, rfl, by decide +kernel, rfl, by decide +kernel, by decide +kernel⟩
theorem ok_law_times (D : At K mg "_law_times" s_law_times) (B : Bn mg) : Fn P w K mg base CX0 1 "_law_times" ["first", "second"] (sp_law_times K) := by
  obtain ⟨f, fd, F, hm⟩ := D
  refine ⟨f, fd, F.ok sc_law_times (fun vs H Q E h => len_law_times h) (fun cdv A outer s H vs Q E hr h => ⟨t_law_times K, ?_, pure_law_times h⟩), hm, F.kp, F.binds fun _ _ _ _ _ _ us hl => match us, hl with | [_, _], _ => rfl⟩
  have nd := sc_law_times.nd
  exact pss_one (ps_ret ((pe_tupleOf (by rfl) B.n_tuple ((pe_lc (own := [("bell", 2)]) (g := (gName 2)) (tt := tYes) rfl nd ((pi_seqU (pv 1))) (blkOk_by (N := (N_law_times : List Str)) (sc := defScope s_law_times) (by decide +kernel)) (fun _ _ _ _ _ => (pg_name (i := 2) nd rfl (Or.inl rfl))) (fun _ _ _ _ _ => pts_nil) (fun _ _ _ _ _ => (pe_ix ix_seq (pv 0) ((pe_op op_subU (pv 2) (pe_int))) (fun _ _ => rfl))))))))

theorem sc_law_row_draw : FnScope N_law_row_draw ["pool", "stage"] (defScope s_law_row_draw) := ⟨rfl, rfl, rfl, by decide +kernel, rfl, by decide +kernel, by decide +kernel⟩
theorem ok_law_row_draw (D : At K mg "_law_row_draw" s_law_row_draw) (B : Bn mg) (G_law_draw : Fn P w K mg base CX0 1 "_law_draw" ["pool", "many"] (sp_law_draw K)) : Fn P w K mg base CX0 2 "_law_row_draw" ["pool", "stage"] (sp_law_row_draw K) := by
  obtain ⟨f, fd, F, hm⟩ := D
  refine ⟨f, fd, F.ok sc_law_row_draw (fun vs H Q E h => len_law_row_draw h) (fun cdv A outer s H vs Q E hr h => ⟨t_law_row_draw K, ?_, pure_law_row_draw h⟩), hm, F.kp, F.binds fun _ _ _ _ _ _ us hl => match us, hl with | [_, _], _ => rfl⟩
  have nd := sc_law_row_draw.nd
  exact pss_cons (ps_set (i := 2) nd rfl (Or.inl rfl) ((pe_listRg rfl (by rfl) B.n_list (prg_2 (by rfl) B.n_range (pe_int) ((pe_op op_addU (pv 1) (pe_int)))))))
      (pss_cons (ps_set (i := 3) nd rfl (Or.inl rfl) ((pe_lst pa_nil)))
      (pss_cons (ps_for PassesOwn.never rfl (pi_range1 (by rfl) B.n_range (pa_cons (pv 1) pa_nil)) (pg_name (i := 4) nd rfl (Or.inl rfl)) (pss_one (ps_expr ((pe_bm PySem.F.plainAttrs_list PySem.F.slot_list_append PySem.F.type_list_append mt_append (pv 3) (pa_cons ((pe_bm PySem.F.plainAttrs_list PySem.F.slot_list_pop PySem.F.type_list_pop mt_popAt (pv 2) (pa_cons ((pe_callF G_law_draw (hr.mono (by decide)) (by rfl) pass0 (pa_cons (pv 0) (pa_cons ((pe_callB call_lenU (by rfl) B.n_len (by decide +kernel) (pa_cons (pv 2) pa_nil))) pa_nil)))) pa_nil))) pa_nil))))))
      (pss_one (ps_ret ((pe_tupleOf (by rfl) B.n_tuple (pv 3)))))))

theorem sc_law_same : FnScope N_law_same ["got", "due"] (defScope s_law_same) := ⟨rfl, rfl, rfl, by decide +kernel, rfl, by decide +kernel, by decide +kernel⟩
theorem ok_law_same (D : At K mg "_law_same" s_law_same) (B : Bn mg) : Fn P w K mg base CX0 1 "_law_same" ["got", "due"] (sp_law_same K) := by
  obtain ⟨f, fd, F, hm⟩ := D
  refine ⟨f, fd, F.ok sc_law_same (fun vs H Q E h => len_law_same h) (fun cdv A outer s H vs Q E hr h => ⟨t_law_same K, ?_, pure_law_same h⟩), hm, F.kp, F.binds fun _ _ _ _ _ _ us hl => match us, hl with | [_, _], _ => rfl⟩
  have nd := sc_law_same.nd
  exact pss_cons (ps_set (i := 2) nd rfl (Or.inl rfl) ((pe_lst (pa_cons ((pe_lst (pa_cons (pv 0) (pa_cons (pv 1) pa_nil)))) pa_nil))))
      (pss_cons (ps_while PassesOwn.never ((pt_truU (pv 2) (by intro _; rfl))) (pss_cons (ps_set (i := 3) nd rfl (Or.inl rfl) ((pe_bm0 PySem.F.plainAttrs_list PySem.F.slot_list_pop PySem.F.type_list_pop mt_pop (pv 2))))
      (pss_one (ps_if ((pt_truU ((pe_callB call_isi (by rfl) B.n_isinstance (by decide +kernel) (pa_cons ((pe_ix ix_seq (pv 3) (pe_int) (fun _ _ => rfl))) (pa_cons ((pe_bltn (by rfl) B.n_tuple (by decide +kernel) rfl)) pa_nil)))) (by intro _; rfl))) (pss_cons (ps_if ((PW.pt (pw_or ((pt_not ((pt_truU ((pe_callB call_isi (by rfl) B.n_isinstance (by decide +kernel) (pa_cons ((pe_ix ix_seq (pv 3) (pe_int) (fun _ _ => rfl))) (pa_cons ((pe_bltn (by rfl) B.n_tuple (by decide +kernel) rfl)) pa_nil)))) (by intro _; rfl))))) (pw_or1 ((pt_cmpR (op_neU hr.units) ((pe_callB call_lenU (by rfl) B.n_len (by decide +kernel) (pa_cons ((pe_ix ix_seq (pv 3) (pe_int) (fun _ _ => rfl))) pa_nil))) ((pe_callB call_lenU (by rfl) B.n_len (by decide +kernel) (pa_cons ((pe_ix ix_seq (pv 3) (pe_int) (fun _ _ => rfl))) pa_nil))) (nomark _))))))) (pss_one (ps_ret (pe_bl))) (pss_nil))
      (pss_one (ps_for PassesOwn.never rfl (pi_range1 (by rfl) B.n_range (pa_cons ((pe_callB call_lenU (by rfl) B.n_len (by decide +kernel) (pa_cons ((pe_ix ix_seq (pv 3) (pe_int) (fun _ _ => rfl))) pa_nil))) pa_nil)) (pg_name (i := 4) nd rfl (Or.inl rfl)) (pss_one (ps_expr ((pe_bm PySem.F.plainAttrs_list PySem.F.slot_list_append PySem.F.type_list_append mt_append (pv 2) (pa_cons ((pe_lst (pa_cons ((pe_ix ix_seq ((pe_ix ix_seq (pv 3) (pe_int) (fun _ _ => rfl))) (pv 4) (fun _ _ => rfl))) (pa_cons ((pe_ix ix_seq ((pe_ix ix_seq (pv 3) (pe_int) (fun _ _ => rfl))) (pv 4) (fun _ _ => rfl))) pa_nil)))) pa_nil)))))))) (pss_one (ps_if ((pt_truU ((pe_callB call_isi (by rfl) B.n_isinstance (by decide +kernel) (pa_cons ((pe_ix ix_seq (pv 3) (pe_int) (fun _ _ => rfl))) (pa_cons ((pe_bltn (by rfl) B.n_bool (by decide +kernel) rfl)) pa_nil)))) (by intro _; rfl))) (pss_one (ps_if ((PW.pt (pw_or ((pt_not ((pt_truU ((pe_callB call_isi (by rfl) B.n_isinstance (by decide +kernel) (pa_cons ((pe_ix ix_seq (pv 3) (pe_int) (fun _ _ => rfl))) (pa_cons ((pe_bltn (by rfl) B.n_bool (by decide +kernel) rfl)) pa_nil)))) (by intro _; rfl))))) (pw_or1 ((pt_cmpR (op_neU hr.units) ((pe_ix ix_seq (pv 3) (pe_int) (fun _ _ => rfl))) ((pe_ix ix_seq (pv 3) (pe_int) (fun _ _ => rfl))) (nomark _))))))) (pss_one (ps_ret (pe_bl))) (pss_nil))) (pss_one (ps_if ((pt_truU ((pe_callB call_isi (by rfl) B.n_isinstance (by decide +kernel) (pa_cons ((pe_ix ix_seq (pv 3) (pe_int) (fun _ _ => rfl))) (pa_cons ((pe_bltn (by rfl) B.n_int (by decide +kernel) rfl)) pa_nil)))) (by intro _; rfl))) (pss_one (ps_if ((PW.pt (pw_or ((pt_not ((pt_truU ((pe_callB call_isi (by rfl) B.n_isinstance (by decide +kernel) (pa_cons ((pe_ix ix_seq (pv 3) (pe_int) (fun _ _ => rfl))) (pa_cons ((pe_bltn (by rfl) B.n_int (by decide +kernel) rfl)) pa_nil)))) (by intro _; rfl))))) (pw_or ((pt_truU ((pe_callB call_isi (by rfl) B.n_isinstance (by decide +kernel) (pa_cons ((pe_ix ix_seq (pv 3) (pe_int) (fun _ _ => rfl))) (pa_cons ((pe_bltn (by rfl) B.n_bool (by decide +kernel) rfl)) pa_nil)))) (by intro _; rfl))) (pw_or1 ((pt_cmpR (op_neU hr.units) ((pe_ix ix_seq (pv 3) (pe_int) (fun _ _ => rfl))) ((pe_ix ix_seq (pv 3) (pe_int) (fun _ _ => rfl))) (nomark _)))))))) (pss_one (ps_ret (pe_bl))) (pss_nil))) (pss_one (ps_if ((pt_truU ((pe_callB call_isi (by rfl) B.n_isinstance (by decide +kernel) (pa_cons ((pe_ix ix_seq (pv 3) (pe_int) (fun _ _ => rfl))) (pa_cons ((pe_bltn (by rfl) B.n_str (by decide +kernel) rfl)) pa_nil)))) (by intro _; rfl))) (pss_one (ps_if ((PW.pt (pw_or ((pt_not ((pt_truU ((pe_callB call_isi (by rfl) B.n_isinstance (by decide +kernel) (pa_cons ((pe_ix ix_seq (pv 3) (pe_int) (fun _ _ => rfl))) (pa_cons ((pe_bltn (by rfl) B.n_str (by decide +kernel) rfl)) pa_nil)))) (by intro _; rfl))))) (pw_or1 ((pt_cmpR (op_neU hr.units) ((pe_ix ix_seq (pv 3) (pe_int) (fun _ _ => rfl))) ((pe_ix ix_seq (pv 3) (pe_int) (fun _ _ => rfl))) (nomark _))))))) (pss_one (ps_ret (pe_bl))) (pss_nil))) (pss_one (ps_if ((pt_cmpR op_notNU ((pe_ix ix_seq (pv 3) (pe_int) (fun _ _ => rfl))) (pe_non) (nomark _))) (pss_one (ps_ret (pe_bl))) (pss_nil)))))))))))))
      (pss_one (ps_ret (pe_bl))))

theorem sc_law_orbit : FnScope N_law_orbit ["row", "bell"] (defScope s_law_orbit) := ⟨rfl, rfl, rfl, by decide +kernel, rfl, by decide +kernel, by decide +kernel⟩
theorem ok_law_orbit (D : At K mg "_law_orbit" s_law_orbit) (B : Bn mg) : Fn P w K mg base CX0 1 "_law_orbit" ["row", "bell"] (sp_law_orbit K) := by
  obtain ⟨f, fd, F, hm⟩ := D
  refine ⟨f, fd, F.ok sc_law_orbit (fun vs H Q E h => len_law_orbit h) (fun cdv A outer s H vs Q E hr h => ⟨t_law_orbit K, ?_, pure_law_orbit h⟩), hm, F.kp, F.binds fun _ _ _ _ _ _ us hl => match us, hl with | [_, _], _ => rfl⟩
  have nd := sc_law_orbit.nd
  exact pss_cons (ps_set (i := 2) nd rfl (Or.inl rfl) ((pe_lst (pa_cons (pv 1) pa_nil))))
      (pss_cons (ps_for PassesOwn.never rfl (pi_range1 (by rfl) B.n_range (pa_cons ((pe_callB call_lenU (by rfl) B.n_len (by decide +kernel) (pa_cons (pv 0) pa_nil))) pa_nil)) (pg_name (i := 3) nd rfl (Or.inl rfl)) (pss_cons (ps_set (i := 4) nd rfl (Or.inl rfl) ((pe_ix ix_seq (pv 0) ((pe_op op_subU ((pe_ix ix_seq (pv 2) ((pe_un un_neg (pe_int))) (fun _ _ => rfl))) (pe_int))) (fun _ _ => rfl))))
      (pss_cons (ps_if ((pt_cmpR (op_eqU hr.units) (pv 4) (pv 1) (nomark _))) (pss_one ps_break) (pss_nil))
      (pss_one (ps_expr ((pe_bm PySem.F.plainAttrs_list PySem.F.slot_list_append PySem.F.type_list_append mt_append (pv 2) (pa_cons (pv 4) pa_nil))))))))
      (pss_one (ps_ret (pv 2))))

theorem sc_law_cycles : FnScope N_law_cycles ["row"] (defScope s_law_cycles) := ⟨rfl, rfl, rfl, by decide +kernel, rfl, by decide +kernel, by decide +kernel⟩
theorem ok_law_cycles (D : At K mg "_law_cycles" s_law_cycles) (B : Bn mg) (G_law_orbit : Fn P w K mg base CX0 1 "_law_orbit" ["row", "bell"] (sp_law_orbit K)) : Fn P w K mg base CX0 2 "_law_cycles" ["row"] (sp_law_cycles K) := by
  obtain ⟨f, fd, F, hm⟩ := D
  refine ⟨f, fd, F.ok sc_law_cycles (fun vs H Q E h => len_law_cycles h) (fun cdv A outer s H vs Q E hr h => ⟨t_law_cycles K, ?_, pure_law_cycles h⟩), hm, F.kp, F.binds fun _ _ _ _ _ _ us hl => match us, hl with | [_], _ => rfl⟩
  have nd := sc_law_cycles.nd
  exact pss_cons (ps_set (i := 1) nd rfl (Or.inl rfl) ((pe_lst pa_nil)))
      (pss_cons (ps_for PassesOwn.never rfl (pi_range2 (by rfl) B.n_range (pa_cons (pe_int) (pa_cons ((pe_op op_addU ((pe_callB call_lenU (by rfl) B.n_len (by decide +kernel) (pa_cons (pv 0) pa_nil))) (pe_int))) pa_nil))) (pg_name (i := 2) nd rfl (Or.inr rfl)) (pss_cons (ps_set (i := 3) nd rfl (Or.inl rfl) ((pe_callF G_law_orbit (hr.mono (by decide)) (by rfl) pass0 (pa_cons (pv 0) (pa_cons (pv 2) pa_nil)))))
      (pss_one (ps_if ((pt_cmpR (op_eqU hr.units) ((pe_callB call_lenU (by rfl) B.n_len (by decide +kernel) (pa_cons ((pe_lc (own := [("other", 4)]) (g := (gName 4)) (tt := (tTest (tOp (rLtU K) (tVar 4) (tVar 2)))) rfl nd ((pi_seqU (pv 3))) (blkOk_by (N := (N_law_cycles : List Str)) (sc := defScope s_law_cycles) (by decide +kernel)) (fun _ _ _ _ _ => (pg_name (i := 4) nd rfl (Or.inl rfl))) (fun _ _ _ _ _ => (pts_one ((pt_cmpR (op_ltU hr.units) (pv 4) (pv 2) (nomark _))))) (fun _ _ _ _ _ => pv 4))) pa_nil))) (pe_int) (nomark _))) (pss_one (ps_expr ((pe_bm PySem.F.plainAttrs_list PySem.F.slot_list_append PySem.F.type_list_append mt_append (pv 1) (pa_cons ((pe_tupleOf (by rfl) B.n_tuple (pv 3))) pa_nil))))) (pss_nil)))))
      (pss_one (ps_ret ((pe_tupleOf (by rfl) B.n_tuple (pv 1))))))

theorem sc_law_copies : FnScope N_law_copies ["row"] (defScope s_law_copies) := ⟨rfl, rfl, rfl, by decide +kernel, rfl, by decide +kernel, by decide +kernel⟩
theorem ok_law_copies (D : At K mg "_law_copies" s_law_copies) (B : Bn mg) (G_law_rounds : Fn P w K mg base CX0 1 "_law_rounds" ["stage"] (sp_law_rounds K)) (G_law_times : Fn P w K mg base CX0 1 "_law_times" ["first", "second"] (sp_law_times K)) : Fn P w K mg base CX0 2 "_law_copies" ["row"] (sp_law_copies K) := by
  obtain ⟨f, fd, F, hm⟩ := D
  refine ⟨f, fd, F.ok sc_law_copies (fun vs H Q E h => len_law_copies h) (fun cdv A outer s H vs Q E hr h => ⟨t_law_copies K, ?_, pure_law_copies h⟩), hm, F.kp, F.binds fun _ _ _ _ _ _ us hl => match us, hl with | [_], _ => rfl⟩
  have nd := sc_law_copies.nd
  exact pss_cons (ps_set (i := 1) nd rfl (Or.inl rfl) (pe_int))
      (pss_cons (ps_set (i := 2) nd rfl (Or.inl rfl) (pv 0))
      (pss_cons (ps_for PassesOwn.never rfl (pi_range1 (by rfl) B.n_range (pa_cons (pe_int) pa_nil)) (pg_name (i := 3) nd rfl (Or.inl rfl)) (pss_one (ps_if ((pt_cmpR (op_neU hr.units) (pv 2) ((pe_callF G_law_rounds (hr.mono (by decide)) (by rfl) pass0 (pa_cons ((pe_callB call_lenU (by rfl) B.n_len (by decide +kernel) (pa_cons (pv 0) pa_nil))) pa_nil))) (nomark _))) (pss_cons (ps_set (i := 2) nd rfl (Or.inl rfl) ((pe_callF G_law_times (hr.mono (by decide)) (by rfl) pass0 (pa_cons (pv 2) (pa_cons (pv 0) pa_nil)))))
      (pss_one (ps_set (i := 1) nd rfl (Or.inl rfl) ((pe_op op_addU (pv 1) (pe_int)))))) (pss_nil))))
      (pss_one (ps_ret (pv 1)))))

theorem sc_law_crossings : FnScope N_law_crossings ["row"] (defScope s_law_crossings) := ⟨rfl, rfl, rfl, by decide +kernel, rfl, by decide +kernel, by decide +kernel⟩
theorem ok_law_crossings (D : At K mg "_law_crossings" s_law_crossings) (B : Bn mg) : Fn P w K mg base CX0 1 "_law_crossings" ["row"] (sp_law_crossings K) := by
  obtain ⟨f, fd, F, hm⟩ := D
  refine ⟨f, fd, F.ok sc_law_crossings (fun vs H Q E h => len_law_crossings h) (fun cdv A outer s H vs Q E hr h => ⟨t_law_crossings K, ?_, pure_law_crossings h⟩), hm, F.kp, F.binds fun _ _ _ _ _ _ us hl => match us, hl with | [_], _ => rfl⟩
  have nd := sc_law_crossings.nd
  exact pss_cons (ps_set (i := 1) nd rfl (Or.inl rfl) (pe_int))
      (pss_cons (ps_for PassesOwn.never rfl (pi_range1 (by rfl) B.n_range (pa_cons ((pe_callB call_lenU (by rfl) B.n_len (by decide +kernel) (pa_cons (pv 0) pa_nil))) pa_nil)) (pg_name (i := 2) nd rfl (Or.inr rfl)) (pss_one (ps_set (i := 1) nd rfl (Or.inl rfl) ((pe_op op_addU (pv 1) ((pe_callB call_lenU (by rfl) B.n_len (by decide +kernel) (pa_cons ((pe_lc (own := [("bell", 3)]) (g := (gName 3)) (tt := (tTest (tOp (rLtU K) (tVar 3) ((tOp (rIx K) (tVar 0) (tVar 2)))))) rfl nd ((pi_seqU ((pe_slice sl_U (pv 0) (po_some ((pe_op op_addU (pv 2) (pe_int)))) po_none)))) (blkOk_by (N := (N_law_crossings : List Str)) (sc := defScope s_law_crossings) (by decide +kernel)) (fun _ _ _ _ _ => (pg_name (i := 3) nd rfl (Or.inl rfl))) (fun _ _ _ _ _ => (pts_one ((pt_cmpR (op_ltU hr.units) (pv 3) ((pe_ix ix_seq (pv 0) (pv 2) (fun _ _ => rfl))) (nomark _))))) (fun _ _ _ _ _ => pv 3))) pa_nil))))))))
      (pss_one (ps_ret (pv 1))))

theorem sc_law : FnScope N_law ["script"] (defScope s_law) := ⟨rfl, rfl, rfl, by decide +kernel, rfl, by decide +kernel, by decide +kernel⟩
theorem ok_lawF {f : Addr} {fd : FuncData} (F : Fun K "law" "law" s_law f fd) (B : Bn mg) (G_law_pool : Fn P w K mg base CX0 2 "_law_pool" ["script", "k"] (sp_law_pool K)) (G_law_draw : Fn P w K mg base CX0 1 "_law_draw" ["pool", "many"] (sp_law_draw K)) (G_law_row_draw : Fn P w K mg base CX0 2 "_law_row_draw" ["pool", "stage"] (sp_law_row_draw K)) (G_law_times : Fn P w K mg base CX0 1 "_law_times" ["first", "second"] (sp_law_times K)) (G_law_same : Fn P w K mg base CX0 1 "_law_same" ["got", "due"] (sp_law_same K)) (G_cycles_of : Fn P w K mg base CX0 1 "cycles_of" ["row"] (sp_cycles_of K)) (G_law_cycles : Fn P w K mg base CX0 2 "_law_cycles" ["row"] (sp_law_cycles K)) (G_order_of : Fn P w K mg base CX0 2 "order_of" ["row"] (sp_order_of K)) (G_law_copies : Fn P w K mg base CX0 2 "_law_copies" ["row"] (sp_law_copies K)) (G_parity_of : Fn P w K mg base CX0 2 "parity_of" ["row"] (sp_parity_of K)) (G_law_crossings : Fn P w K mg base CX0 1 "_law_crossings" ["row"] (sp_law_crossings K)) : FnOk P w K mg base CX0 3 f fd ["script"] (sp_law K) := by
  refine F.ok sc_law (fun vs H Q E h => len_law h) (fun cdv A outer s H vs Q E hr h => ⟨t_law K, ?_, pure_law h⟩)
  have nd := sc_law.nd
  exact pss_cons (ps_set (i := 1) nd rfl (Or.inl rfl) ((pe_callF G_law_pool (hr.mono (by decide)) (by rfl) pass0 (pa_cons (pv 0) (pa_cons (pe_int) pa_nil)))))
      (pss_cons (ps_set (i := 2) nd rfl (Or.inl rfl) ((pe_op op_addU (pe_int) ((pe_callF G_law_draw (hr.mono (by decide)) (by rfl) pass0 (pa_cons (pv 1) (pa_cons (pe_int) pa_nil)))))))
      (pss_cons (ps_set (i := 3) nd rfl (Or.inl rfl) ((pe_callF G_law_row_draw (hr.mono (by decide)) (by rfl) pass0 (pa_cons (pv 1) (pa_cons (pv 2) pa_nil)))))
      (pss_cons (ps_set (i := 4) nd rfl (Or.inl rfl) ((pe_callF G_law_row_draw (hr.mono (by decide)) (by rfl) pass0 (pa_cons ((pe_callF G_law_pool (hr.mono (by decide)) (by rfl) pass0 (pa_cons (pv 0) (pa_cons (pe_int) pa_nil)))) (pa_cons (pv 2) pa_nil)))))
      (pss_cons (ps_set (i := 5) nd rfl (Or.inl rfl) ((pe_callF G_law_times (hr.mono (by decide)) (by rfl) pass0 (pa_cons (pv 3) (pa_cons (pv 4) pa_nil)))))
      (pss_cons (ps_for PassesOwn.never rfl (pi_seqU ((pe_lst (pa_cons (pv 3) (pa_cons (pv 4) (pa_cons (pv 5) pa_nil)))))) (pg_name (i := 6) nd rfl (Or.inl rfl)) (pss_cons (ps_if ((pt_not ((pt_truU ((pe_callF G_law_same (hr.mono (by decide)) (by rfl) pass0 (pa_cons ((pe_callF G_cycles_of (hr.mono (by decide)) (by rfl) pass0 (pa_cons (pv 6) pa_nil))) (pa_cons ((pe_callF G_law_cycles (hr.mono (by decide)) (by rfl) pass0 (pa_cons (pv 6) pa_nil))) pa_nil)))) (by intro _; rfl))))) (pss_one (ps_ret (pe_bl))) (pss_nil))
      (pss_cons (ps_if ((pt_not ((pt_truU ((pe_callF G_law_same (hr.mono (by decide)) (by rfl) pass0 (pa_cons ((pe_callF G_order_of (hr.mono (by decide)) (by rfl) pass0 (pa_cons (pv 6) pa_nil))) (pa_cons ((pe_callF G_law_copies (hr.mono (by decide)) (by rfl) pass0 (pa_cons (pv 6) pa_nil))) pa_nil)))) (by intro _; rfl))))) (pss_one (ps_ret (pe_bl))) (pss_nil))
      (pss_one (ps_if ((pt_not ((pt_truU ((pe_callF G_law_same (hr.mono (by decide)) (by rfl) pass0 (pa_cons ((pe_callF G_parity_of (hr.mono (by decide)) (by rfl) pass0 (pa_cons (pv 6) pa_nil))) (pa_cons ((pe_op op_modU ((pe_callTy call_intU (by rfl) B.n_int (by decide +kernel) (pa_cons ((pe_callF G_law_crossings (hr.mono (by decide)) (by rfl) pass0 (pa_cons (pv 6) pa_nil))) pa_nil))) (pe_int))) pa_nil)))) (by intro _; rfl))))) (pss_one (ps_ret (pe_bl))) (pss_nil))))))
      (pss_cons (ps_set (i := 7) nd rfl (Or.inl rfl) ((pe_op op_addU ((pe_callF G_law_crossings (hr.mono (by decide)) (by rfl) pass0 (pa_cons (pv 3) pa_nil))) ((pe_callF G_law_crossings (hr.mono (by decide)) (by rfl) pass0 (pa_cons (pv 4) pa_nil))))))
      (pss_one (ps_ret ((pe_callF G_law_same (hr.mono (by decide)) (by rfl) pass0 (pa_cons ((pe_callF G_parity_of (hr.mono (by decide)) (by rfl) pass0 (pa_cons (pv 5) pa_nil))) (pa_cons ((pe_op op_modU ((pe_callTy call_intU (by rfl) B.n_int (by decide +kernel) (pa_cons (pv 7) pa_nil))) (pe_int))) pa_nil))))))))))))

end
theorem all_mk {l : PySem.W.OpenLaw} {w : World} {K : PySem.W.Frag} {h : Heap} {mg : Str → Option Value} {fa : Addr} (X : K.In h) (G : h.Ns mainGlobals mg) (hfa : mg "law" = some (.ref fa))
    {f1 : Addr} {od1 an1 : Option Addr} {sl1 : Array (Option Value)} {oc1 kV1 dc1 pm1 cd1 ct1 : Value}
    {f2 : Addr} {od2 an2 : Option Addr} {sl2 : Array (Option Value)} {oc2 kV2 dc2 pm2 cd2 ct2 : Value}
    {f3 : Addr} {od3 an3 : Option Addr} {sl3 : Array (Option Value)} {oc3 kV3 dc3 pm3 cd3 ct3 : Value}
    {f4 : Addr} {od4 an4 : Option Addr} {sl4 : Array (Option Value)} {oc4 kV4 dc4 pm4 cd4 ct4 : Value}
    {f5 : Addr} {od5 an5 : Option Addr} {sl5 : Array (Option Value)} {oc5 kV5 dc5 pm5 cd5 ct5 : Value}
    {f6 : Addr} {od6 an6 : Option Addr} {sl6 : Array (Option Value)} {oc6 kV6 dc6 pm6 cd6 ct6 : Value}
    {f7 : Addr} {od7 an7 : Option Addr} {sl7 : Array (Option Value)} {oc7 kV7 dc7 pm7 cd7 ct7 : Value}
    {f8 : Addr} {od8 an8 : Option Addr} {sl8 : Array (Option Value)} {oc8 kV8 dc8 pm8 cd8 ct8 : Value}
    {f9 : Addr} {od9 an9 : Option Addr} {sl9 : Array (Option Value)} {oc9 kV9 dc9 pm9 cd9 ct9 : Value}
    {f10 : Addr} {od10 an10 : Option Addr} {sl10 : Array (Option Value)} {oc10 kV10 dc10 pm10 cd10 ct10 : Value}
    {f11 : Addr} {od11 an11 : Option Addr} {sl11 : Array (Option Value)} {oc11 kV11 dc11 pm11 cd11 ct11 : Value}
    {f12 : Addr} {od12 an12 : Option Addr} {sl12 : Array (Option Value)} {oc12 kV12 dc12 pm12 cd12 ct12 : Value}
    {f13 : Addr} {od13 an13 : Option Addr} {sl13 : Array (Option Value)} {oc13 kV13 dc13 pm13 cd13 ct13 : Value}
    {f14 : Addr} {od14 an14 : Option Addr} {sl14 : Array (Option Value)} {oc14 kV14 dc14 pm14 cd14 ct14 : Value}
    {f15 : Addr} {od15 an15 : Option Addr} {sl15 : Array (Option Value)} {oc15 kV15 dc15 pm15 cd15 ct15 : Value}
    (a1 : PySem.W.nsIn K mainGlobals "cycles_of" = some (some (.ref f1))) (l1 : K.lookup f1 = some ⟨oc1, od1, .func (PySem.W.fnOf "cycles_of" "cycles_of" (defArgs s_cycles_of) (defBody s_cycles_of) (defScope s_cycles_of) .none kV1 dc1 pm1 an1 cd1 ct1), sl1⟩) (c1 : PySem.W.codeIn K cd1 "cycles_of" = true) (k1 : PySem.W.keepIn K (.ref f1) = true)
    (a2 : PySem.W.nsIn K mainGlobals "order_of" = some (some (.ref f2))) (l2 : K.lookup f2 = some ⟨oc2, od2, .func (PySem.W.fnOf "order_of" "order_of" (defArgs s_order_of) (defBody s_order_of) (defScope s_order_of) .none kV2 dc2 pm2 an2 cd2 ct2), sl2⟩) (c2 : PySem.W.codeIn K cd2 "order_of" = true) (k2 : PySem.W.keepIn K (.ref f2) = true)
    (a3 : PySem.W.nsIn K mainGlobals "parity_of" = some (some (.ref f3))) (l3 : K.lookup f3 = some ⟨oc3, od3, .func (PySem.W.fnOf "parity_of" "parity_of" (defArgs s_parity_of) (defBody s_parity_of) (defScope s_parity_of) .none kV3 dc3 pm3 an3 cd3 ct3), sl3⟩) (c3 : PySem.W.codeIn K cd3 "parity_of" = true) (k3 : PySem.W.keepIn K (.ref f3) = true)
    (a4 : PySem.W.nsIn K mainGlobals "_law_cell" = some (some (.ref f4))) (l4 : K.lookup f4 = some ⟨oc4, od4, .func (PySem.W.fnOf "_law_cell" "_law_cell" (defArgs s_law_cell) (defBody s_law_cell) (defScope s_law_cell) .none kV4 dc4 pm4 an4 cd4 ct4), sl4⟩) (c4 : PySem.W.codeIn K cd4 "_law_cell" = true) (k4 : PySem.W.keepIn K (.ref f4) = true)
    (a5 : PySem.W.nsIn K mainGlobals "_law_pool" = some (some (.ref f5))) (l5 : K.lookup f5 = some ⟨oc5, od5, .func (PySem.W.fnOf "_law_pool" "_law_pool" (defArgs s_law_pool) (defBody s_law_pool) (defScope s_law_pool) .none kV5 dc5 pm5 an5 cd5 ct5), sl5⟩) (c5 : PySem.W.codeIn K cd5 "_law_pool" = true) (k5 : PySem.W.keepIn K (.ref f5) = true)
    (a6 : PySem.W.nsIn K mainGlobals "_law_draw" = some (some (.ref f6))) (l6 : K.lookup f6 = some ⟨oc6, od6, .func (PySem.W.fnOf "_law_draw" "_law_draw" (defArgs s_law_draw) (defBody s_law_draw) (defScope s_law_draw) .none kV6 dc6 pm6 an6 cd6 ct6), sl6⟩) (c6 : PySem.W.codeIn K cd6 "_law_draw" = true) (k6 : PySem.W.keepIn K (.ref f6) = true)
    (a7 : PySem.W.nsIn K mainGlobals "_law_rounds" = some (some (.ref f7))) (l7 : K.lookup f7 = some ⟨oc7, od7, .func (PySem.W.fnOf "_law_rounds" "_law_rounds" (defArgs s_law_rounds) (defBody s_law_rounds) (defScope s_law_rounds) .none kV7 dc7 pm7 an7 cd7 ct7), sl7⟩) (c7 : PySem.W.codeIn K cd7 "_law_rounds" = true) (k7 : PySem.W.keepIn K (.ref f7) = true)
    (a8 : PySem.W.nsIn K mainGlobals "_law_times" = some (some (.ref f8))) (l8 : K.lookup f8 = some ⟨oc8, od8, .func (PySem.W.fnOf "_law_times" "_law_times" (defArgs s_law_times) (defBody s_law_times) (defScope s_law_times) .none kV8 dc8 pm8 an8 cd8 ct8), sl8⟩) (c8 : PySem.W.codeIn K cd8 "_law_times" = true) (k8 : PySem.W.keepIn K (.ref f8) = true)
    (a9 : PySem.W.nsIn K mainGlobals "_law_row_draw" = some (some (.ref f9))) (l9 : K.lookup f9 = some ⟨oc9, od9, .func (PySem.W.fnOf "_law_row_draw" "_law_row_draw" (defArgs s_law_row_draw) (defBody s_law_row_draw) (defScope s_law_row_draw) .none kV9 dc9 pm9 an9 cd9 ct9), sl9⟩) (c9 : PySem.W.codeIn K cd9 "_law_row_draw" = true) (k9 : PySem.W.keepIn K (.ref f9) = true)
    (a10 : PySem.W.nsIn K mainGlobals "_law_same" = some (some (.ref f10))) (l10 : K.lookup f10 = some ⟨oc10, od10, .func (PySem.W.fnOf "_law_same" "_law_same" (defArgs s_law_same) (defBody s_law_same) (defScope s_law_same) .none kV10 dc10 pm10 an10 cd10 ct10), sl10⟩) (c10 : PySem.W.codeIn K cd10 "_law_same" = true) (k10 : PySem.W.keepIn K (.ref f10) = true)
    (a11 : PySem.W.nsIn K mainGlobals "_law_orbit" = some (some (.ref f11))) (l11 : K.lookup f11 = some ⟨oc11, od11, .func (PySem.W.fnOf "_law_orbit" "_law_orbit" (defArgs s_law_orbit) (defBody s_law_orbit) (defScope s_law_orbit) .none kV11 dc11 pm11 an11 cd11 ct11), sl11⟩) (c11 : PySem.W.codeIn K cd11 "_law_orbit" = true) (k11 : PySem.W.keepIn K (.ref f11) = true)
    (a12 : PySem.W.nsIn K mainGlobals "_law_cycles" = some (some (.ref f12))) (l12 : K.lookup f12 = some ⟨oc12, od12, .func (PySem.W.fnOf "_law_cycles" "_law_cycles" (defArgs s_law_cycles) (defBody s_law_cycles) (defScope s_law_cycles) .none kV12 dc12 pm12 an12 cd12 ct12), sl12⟩) (c12 : PySem.W.codeIn K cd12 "_law_cycles" = true) (k12 : PySem.W.keepIn K (.ref f12) = true)
    (a13 : PySem.W.nsIn K mainGlobals "_law_copies" = some (some (.ref f13))) (l13 : K.lookup f13 = some ⟨oc13, od13, .func (PySem.W.fnOf "_law_copies" "_law_copies" (defArgs s_law_copies) (defBody s_law_copies) (defScope s_law_copies) .none kV13 dc13 pm13 an13 cd13 ct13), sl13⟩) (c13 : PySem.W.codeIn K cd13 "_law_copies" = true) (k13 : PySem.W.keepIn K (.ref f13) = true)
    (a14 : PySem.W.nsIn K mainGlobals "_law_crossings" = some (some (.ref f14))) (l14 : K.lookup f14 = some ⟨oc14, od14, .func (PySem.W.fnOf "_law_crossings" "_law_crossings" (defArgs s_law_crossings) (defBody s_law_crossings) (defScope s_law_crossings) .none kV14 dc14 pm14 an14 cd14 ct14), sl14⟩) (c14 : PySem.W.codeIn K cd14 "_law_crossings" = true) (k14 : PySem.W.keepIn K (.ref f14) = true)
    (a15 : PySem.W.nsIn K mainGlobals "law" = some (some (.ref f15))) (l15 : K.lookup f15 = some ⟨oc15, od15, .func (PySem.W.fnOf "law" "law" (defArgs s_law) (defBody s_law) (defScope s_law) .none kV15 dc15 pm15 an15 cd15 ct15), sl15⟩) (c15 : PySem.W.codeIn K cd15 "law" = true) (k15 : PySem.W.keepIn K (.ref f15) = true)
    (z_abs : PySem.W.nsIn K mainGlobals "abs" = some none)
    (z_bool : PySem.W.nsIn K mainGlobals "bool" = some none)
    (z_int : PySem.W.nsIn K mainGlobals "int" = some none)
    (z_isinstance : PySem.W.nsIn K mainGlobals "isinstance" = some none)
    (z_len : PySem.W.nsIn K mainGlobals "len" = some none)
    (z_list : PySem.W.nsIn K mainGlobals "list" = some none)
    (z_range : PySem.W.nsIn K mainGlobals "range" = some none)
    (z_str : PySem.W.nsIn K mainGlobals "str" = some none)
    (z_tuple : PySem.W.nsIn K mainGlobals "tuple" = some none)
    : ∃ fd : FuncData, (∀ (s : Shared) (v : Value), BindsTo s fd ⟨[v], []⟩ [("script", v)]) ∧ ∀ base : Heap, K.In base → base.Ns mainGlobals mg → FnOk l.prog w K mg base CX0 3 fa fd ["script"] (sp_law K) := by
  have e := hfa.symm.trans (PySem.W.mg_of X G a15)
  cases e
  have B : Bn mg := ⟨PySem.W.mg_none_of X G z_abs, PySem.W.mg_none_of X G z_bool, PySem.W.mg_none_of X G z_int, PySem.W.mg_none_of X G z_isinstance, PySem.W.mg_none_of X G z_len, PySem.W.mg_none_of X G z_list, PySem.W.mg_none_of X G z_range, PySem.W.mg_none_of X G z_str, PySem.W.mg_none_of X G z_tuple⟩
  have D1 : At K mg "cycles_of" s_cycles_of := ⟨_, _, fun_mk (st := s_cycles_of) l1 c1 k1, PySem.W.mg_of X G a1⟩
  have D2 : At K mg "order_of" s_order_of := ⟨_, _, fun_mk (st := s_order_of) l2 c2 k2, PySem.W.mg_of X G a2⟩
  have D3 : At K mg "parity_of" s_parity_of := ⟨_, _, fun_mk (st := s_parity_of) l3 c3 k3, PySem.W.mg_of X G a3⟩
  have D4 : At K mg "_law_cell" s_law_cell := ⟨_, _, fun_mk (st := s_law_cell) l4 c4 k4, PySem.W.mg_of X G a4⟩
  have D5 : At K mg "_law_pool" s_law_pool := ⟨_, _, fun_mk (st := s_law_pool) l5 c5 k5, PySem.W.mg_of X G a5⟩
  have D6 : At K mg "_law_draw" s_law_draw := ⟨_, _, fun_mk (st := s_law_draw) l6 c6 k6, PySem.W.mg_of X G a6⟩
  have D7 : At K mg "_law_rounds" s_law_rounds := ⟨_, _, fun_mk (st := s_law_rounds) l7 c7 k7, PySem.W.mg_of X G a7⟩
  have D8 : At K mg "_law_times" s_law_times := ⟨_, _, fun_mk (st := s_law_times) l8 c8 k8, PySem.W.mg_of X G a8⟩
  have D9 : At K mg "_law_row_draw" s_law_row_draw := ⟨_, _, fun_mk (st := s_law_row_draw) l9 c9 k9, PySem.W.mg_of X G a9⟩
  have D10 : At K mg "_law_same" s_law_same := ⟨_, _, fun_mk (st := s_law_same) l10 c10 k10, PySem.W.mg_of X G a10⟩
  have D11 : At K mg "_law_orbit" s_law_orbit := ⟨_, _, fun_mk (st := s_law_orbit) l11 c11 k11, PySem.W.mg_of X G a11⟩
  have D12 : At K mg "_law_cycles" s_law_cycles := ⟨_, _, fun_mk (st := s_law_cycles) l12 c12 k12, PySem.W.mg_of X G a12⟩
  have D13 : At K mg "_law_copies" s_law_copies := ⟨_, _, fun_mk (st := s_law_copies) l13 c13 k13, PySem.W.mg_of X G a13⟩
  have D14 : At K mg "_law_crossings" s_law_crossings := ⟨_, _, fun_mk (st := s_law_crossings) l14 c14 k14, PySem.W.mg_of X G a14⟩
  have D15 : At K mg "law" s_law := ⟨_, _, fun_mk (st := s_law) l15 c15 k15, PySem.W.mg_of X G a15⟩
  have FL := fun_mk (st := s_law) l15 c15 k15
  refine ⟨PySem.W.fnOf "law" "law" (defArgs s_law) (defBody s_law) (defScope s_law) .none kV15 dc15 pm15 an15 cd15 ct15, fun s v => .of_eq rfl, fun base _ _ => ?_⟩
  have G1 := ok_cycles_of (P := l.prog) (w := w) (base := base) D1 B
  have G2 := ok_order_of (P := l.prog) (w := w) (base := base) D2 B G1
  have G3 := ok_parity_of (P := l.prog) (w := w) (base := base) D3 B G1
  have G4 := ok_law_cell (P := l.prog) (w := w) (base := base) D4 B
  have G5 := ok_law_pool (P := l.prog) (w := w) (base := base) D5 B G4
  have G6 := ok_law_draw (P := l.prog) (w := w) (base := base) D6 B
  have G7 := ok_law_rounds (P := l.prog) (w := w) (base := base) D7 B
  have G8 := ok_law_times (P := l.prog) (w := w) (base := base) D8 B
  have G9 := ok_law_row_draw (P := l.prog) (w := w) (base := base) D9 B G6
  have G10 := ok_law_same (P := l.prog) (w := w) (base := base) D10 B
  have G11 := ok_law_orbit (P := l.prog) (w := w) (base := base) D11 B
  have G12 := ok_law_cycles (P := l.prog) (w := w) (base := base) D12 B G11
  have G13 := ok_law_copies (P := l.prog) (w := w) (base := base) D13 B G7 G8
  have G14 := ok_law_crossings (P := l.prog) (w := w) (base := base) D14 B
  exact ok_lawF FL B G5 G6 G9 G8 G10 G1 G12 G2 G13 G3 G14
end Kb
open PySem PySem.W PyProof.Rows
set_option maxRecDepth 100000 in
set_option maxHeartbeats 0 in
theorem PySem.Challenge.cw_ringingchamber_k03_cycles_order_parity_holds : PySem.Challenge.rw_ringingchamber_k03_cycles_order_parity.Holds := by
  w_on; o_law; k_head; (case hw => w_witness2)
  k_fill
  refine L2.walk_of (l := PySem.Challenge.rw_ringingchamber_k03_cycles_order_parity) (n := 63) (k := 3) (x := "script") (CX := fun _ => L2.CX0) (sp := fun w => Kb.sp_law _) rfl (by decide) rfl ⟨rfl, by decide, by decide⟩ (fun w h Y => PySem.W.kIn_of Y) ?F (fun _ _ a ns hl _ hS => ⟨a, ns, rfl, hS, hl, fun _ => rfl⟩) (fun _ _ _ _ _ h => h)
  case F =>
    intro w mg fa h KX G hmg
    refine' Kb.all_mk KX G hmg ?a1 ?l1 ?c1 ?k1 ?a2 ?l2 ?c2 ?k2 ?a3 ?l3 ?c3 ?k3 ?a4 ?l4 ?c4 ?k4 ?a5 ?l5 ?c5 ?k5 ?a6 ?l6 ?c6 ?k6 ?a7 ?l7 ?c7 ?k7 ?a8 ?l8 ?c8 ?k8 ?a9 ?l9 ?c9 ?k9 ?a10 ?l10 ?c10 ?k10 ?a11 ?l11 ?c11 ?k11 ?a12 ?l12 ?c12 ?k12 ?a13 ?l13 ?c13 ?k13 ?a14 ?l14 ?c14 ?k14 ?a15 ?l15 ?c15 ?k15 ?z_abs ?z_bool ?z_int ?z_isinstance ?z_len ?z_list ?z_range ?z_str ?z_tuple
    (case a1 => k_is); (case l1 => k_is); (case c1 => k_is); (case k1 => k_is); (case a2 => k_is); (case l2 => k_is); (case c2 => k_is); (case k2 => k_is); (case a3 => k_is); (case l3 => k_is); (case c3 => k_is); (case k3 => k_is); (case a4 => k_is); (case l4 => k_is); (case c4 => k_is); (case k4 => k_is); (case a5 => k_is); (case l5 => k_is); (case c5 => k_is); (case k5 => k_is); (case a6 => k_is); (case l6 => k_is); (case c6 => k_is); (case k6 => k_is); (case a7 => k_is); (case l7 => k_is); (case c7 => k_is); (case k7 => k_is); (case a8 => k_is); (case l8 => k_is); (case c8 => k_is); (case k8 => k_is); (case a9 => k_is); (case l9 => k_is); (case c9 => k_is); (case k9 => k_is); (case a10 => k_is); (case l10 => k_is); (case c10 => k_is); (case k10 => k_is); (case a11 => k_is); (case l11 => k_is); (case c11 => k_is); (case k11 => k_is); (case a12 => k_is); (case l12 => k_is); (case c12 => k_is); (case k12 => k_is); (case a13 => k_is); (case l13 => k_is); (case c13 => k_is); (case k13 => k_is); (case a14 => k_is); (case l14 => k_is); (case c14 => k_is); (case k14 => k_is); (case a15 => k_is); (case l15 => k_is); (case c15 => k_is); (case k15 => k_is); (case z_abs => k_is); (case z_bool => k_is); (case z_int => k_is); (case z_isinstance => k_is); (case z_len => k_is); (case z_list => k_is); (case z_range => k_is); (case z_str => k_is); (case z_tuple => k_is)


