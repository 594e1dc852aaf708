import PyProof.Rows.All
import Wide.All
import OpenK.AllK
import Wide.FinOn
import HandS.ForMost
import HandS.Conv
import HandS.IsInst
import HandS.Wide
import HandS.TupAny
import HandS.TupLe
import HandS.TupMul
import KE.KExcSuper
import KE.KExcIs
import HandS.Exc
import HandS.ExcInit
import HandS.ExcField
import HandS.ExcIs
import HandS.WordsExc
import KE.GoesEnumKw
import HandS.Iter
import HandS.Strs
import HandS.SetFor
import HandS.List
import KE.LtData
import HandS.Style
import HandS.Codes
import HandS.More
import KE.SortData
import PyProof.Rows.StrFirst
import PyProof.SliceStr2
import KE.KDictDisplayH
import HandS.Deep
import PyProof.MinMaxWalk
import PyProof.WalkInts
import PyProof.Rows.CallKwBuiltin
import HandS.Dict
import HandS.Walk
import PySem.Challenge.RW_ringingchamber_k07_whole_closure_of_clos
set_option Elab.async false
set_option linter.all false
set_option maxRecDepth 100000
namespace Kb
open PySem PySem.Spec PyProof.Rows L2
section
variable {X : Cx}
def rAddU (K : PySem.W.Frag) : R2 := fun x y H Q => rI0 (fun i j => .int (i + j)) x y H Q ∨
  ((fun x y H Q => ∃ i j, x = V.str i ∧ y = V.str j ∧ i.length + j.length ≤ sizeLine ∧ Q (V.str (i ++ j)) H) x y H Q ∨ (rCat x y H Q ∨ rCatA K x y H Q))
theorem op_addU : OpR X (binaryOp .Add) (rAddU X.K) := OpR.or op_add (OpR.or op_add_str (OpR.or op_cat op_catA))
def rMulU (K : PySem.W.Frag) : R2 := fun x y H Q => rI CMul (fun i j => .int (i * j)) x y H Q ∨ (rI CMulW (fun i j => .int (i * j)) x y H Q ∨ (rRep x y H Q ∨ rRepT K x y H Q))
theorem op_mulU : OpR X (binaryOp .Mult) (rMulU X.K) := OpR.or op_mul (OpR.or op_mulW (OpR.or op_rep op_repT))
def rFdivU : R2 := rI CDivW (fun i j => .int (i / j))
theorem op_fdivU : OpR X (binaryOp .FloorDiv) rFdivU := op_fdivW
def rModU : R2 := rI (fun _ j => 0 < j) (fun i j => .int (i % j))
theorem op_modU : OpR X (binaryOp .Mod) rModU := op_mod
def rSubU : R2 := rI0 (fun i j => .int (i - j))
theorem op_subU : OpR X (binaryOp .Sub) rSubU := op_sub
def rPowU : R2 := rI CPow (fun i j => .int (i ^ j.toNat))
theorem op_powU : OpR X (binaryOp .Pow) rPowU := op_pow
def rEqU (K : PySem.W.Frag) : R2 := fun x y H Q => rEq x y H Q ∨ rEqD K x y H Q
theorem op_eqU (hu : X.A.units + 64 < cLine) : OpR X (compareOp .Eq) (rEqU X.K) := OpR.or op_eq (op_eqD hu)
def rNeU (K : PySem.W.Frag) : R2 := fun x y H Q => rNe x y H Q ∨ rNeD K x y H Q
theorem op_neU (hu : X.A.units + 64 < cLine) : OpR X (compareOp .NotEq) (rNeU X.K) := OpR.or op_ne (op_neD hu)
def rLtU (K : PySem.W.Frag) : R2 := fun x y H Q => rI0 (fun i j => .bl (decide (i < j))) x y H Q ∨
  ((fun x y H Q => ∃ i j, x = V.str i ∧ y = V.str j ∧ Q (V.bl (decide (i.cps.toList < j.cps.toList))) H) x y H Q ∨ rLtT K x y H Q)
theorem op_ltU (hu : X.A.units + 64 < cLine) : OpR X (compareOp .Lt) (rLtU X.K) := OpR.or op_lt (OpR.or op_lt_str (op_ltT (by omega)))
def rLeU (K : PySem.W.Frag) : R2 := fun x y H Q => rI0 (fun i j => .bl (decide (i ≤ j))) x y H Q ∨
  ((fun x y H Q => ∃ i j, x = V.str i ∧ y = V.str j ∧ Q (V.bl (!decide (j.cps.toList < i.cps.toList))) H) x y H Q ∨ rLeT K x y H Q)
theorem op_leU (hu : X.A.units + 64 < cLine) : OpR X (compareOp .LtE) (rLeU X.K) := OpR.or op_le (OpR.or op_le_str (op_leT (by omega)))
def rGtU : R2 := fun x y H Q => rI0 (fun i j => .bl (decide (j < i))) x y H Q ∨
  (fun x y H Q => ∃ i j, x = V.str i ∧ y = V.str j ∧ Q (V.bl (decide (j.cps.toList < i.cps.toList))) H) x y H Q
theorem op_gtU : OpR X (compareOp .Gt) rGtU := OpR.or op_gt op_gt_str
def rGeU : R2 := fun x y H Q => rI0 (fun i j => .bl (decide (j ≤ i))) x y H Q ∨
  (fun x y H Q => ∃ i j, x = V.str i ∧ y = V.str j ∧ Q (V.bl (!decide (i.cps.toList < j.cps.toList))) H) x y H Q
theorem op_geU : OpR X (compareOp .GtE) rGeU := OpR.or op_ge op_ge_str
def rIsNU : R2 := fun x y H Q => y = V.non ∧ Q (V.bl (decide (x = V.non))) H
theorem op_isNU : OpR X (compareOp .Is) rIsNU := op_isN
def rNotNU : R2 := fun x y H Q => y = V.non ∧ Q (V.bl (!decide (x = V.non))) H
theorem op_notNU : OpR X (compareOp .IsNot) rNotNU := op_notN
def rSlU (K : PySem.W.Frag) : V → Option Int → Option Int → Hp → VK → Prop := fun x lo hi H Q => rSlL K x lo hi H Q ∨ (rSlA K x lo hi H Q ∨ rSlS x lo hi H Q)
theorem sl_U : SlR X (rSlU X.K) := SlR.or sl_list (SlR.or sl_tupA sl_str)
def rLenU (K : PySem.W.Frag) : List V → Hp → VK → Prop := fun xs H Q => (fun xs H Q => ∃ p ys, xs = [V.ref p] ∧ (SqL K H p ys ∨ SqT K H p ys) ∧ Q (V.int ys.length) H) xs H Q ∨
  ((fun xs H Q => ∃ z, xs = [V.str z] ∧ z.length ≤ sizeLine ∧ Q (V.int z.length) H) xs H Q ∨ (fun xs H Q => ∃ a kvs, xs = [V.ref a] ∧ H a = some (.dK kvs) ∧ Q (.int kvs.length) H) xs H Q)
theorem call_lenU : CallR X (.builtin "len") (rLenU X.K) := CallR.or call_len_seq (CallR.or call_len_str call_lenD)
def rIntU : List V → Hp → VK → Prop := fun xs H Q => ∃ i, xs = [V.int i] ∧ Q (V.int i) H
theorem call_intU : CallR X (.type "int") rIntU := fun pins s σ H xs us Q I r h => call_int1 pins s σ H xs us Q I r (.inl h)
def rAbsU : List V → Hp → VK → Prop := fun xs H Q => ∃ i, xs = [V.int i] ∧ Q (V.int (if i < 0 then -i else i)) H
theorem call_absU : CallR X (.builtin "abs") rAbsU := call_abs
def rListU (K : PySem.W.Frag) : List V → Hp → VK → Prop := fun xs H Q => ∃ p ys, xs = [V.ref p] ∧ (SqL K H p ys ∨ SqT K H p ys) ∧ ∀ l, H l = none → Q (V.ref l) (upd H l (.lst ys))
theorem call_listU : CallR X (.type "list") (rListU X.K) := call_list_of
theorem PI.or {tg e : Expr} {w1 w2 : TI} (h1 : PI X tg e w1) (h2 : PI X tg e w2) : PI X tg e (fun σ H R => w1 σ H R ∨ w2 σ H R) := by
  refine ⟨fun pins s σ H R I h => ?_⟩
  rcases h with h | h
  · exact h1.run pins s σ H R I h
  · exact h2.run pins s σ H R I h
def iSeqU (K : PySem.W.Frag) (te : TE) : TI := fun σ H R => iList K te σ H R ∨ (iTup K te σ H R ∨ iStr te σ H R)
theorem pi_seqU {tg e : Expr} {te : TE} (he : PE X e te) : PI X tg e (iSeqU X.K te) := PI.or (pi_list he) (PI.or (pi_tup he) (pi_str he))
def tTru (K : PySem.W.Frag) (ta : TE) : TT := fun σ H Q => ta σ H fun x H' => ∃ k, TruV K x H' k ∧ Q k H'
theorem pt_truU {a : Expr} {ta : TE} (h : PE X a ta) (hq : ∀ whole, isTrue a X.env whole = (do let v ← whole; standAt a.pos; holding [v] (truthy v))) : PT X a (tTru X.K ta) := pt_truth h hq
/-- a tuple that tuple(..) has made: the object is told, it has no dict (a method may be asked of it) -/
def kTupD (K : PySem.W.Frag) (x : V) (H : Hp) (Q : VK) : Prop :=
  (∃ p xs, x = .ref p ∧ SqL K H p xs ∧ ∀ (q : Addr) (o : Obj), H q = none → o.dict = none → Q (.ref q) (upd H q (.frz o (.tup xs)))) ∨ (∃ p xs, x = .ref p ∧ SqT K H p xs ∧ Q (.ref p) H)
/-- the object at p is told and has no dict -/
def NoD (H : Hp) (p : Addr) : Prop := ∃ (o : Obj) (u : HO), H p = some (.frz o u) ∧ o.dict = none
def tBMT (K : PySem.W.Frag) (r : V → List V → Hp → VK → Prop) (to : TE) (t : TA) : TE := fun σ H Q => to σ H fun x H1 => (∃ p xs, x = .ref p ∧ SqT K H1 p xs ∧ NoD H1 p) ∧ t σ H1 fun xs H2 => r x xs H2 Q
end
end Kb
set_option Elab.async false
set_option linter.all false
set_option maxRecDepth 100000
namespace Kb
open PySem PySem.Spec PyProof.Rows L2
structure Fn (P : Program) (w : World) (K : PySem.W.Frag) (mg : Str → Option Value) (base : Heap) (CX : CXT) (k : Nat) (x : Str) (ps : List Str) (sp : Sp) : Prop where
  ex : ∃ f fd, FnOk P w K mg base CX k f fd ps sp ∧ mg x = some (.ref f) ∧ PySem.W.keepIn K (.ref f) = true ∧ Binds K fd ps []
def At (K : PySem.W.Frag) (mg : Str → Option Value) (x : Str) (st : Stmt) : Prop := ∃ f fd, Fun K x x st f fd ∧ mg x = some (.ref f)
section
variable {X : Cx} {CX : CXT} {k : Nat} {ps : List Str} {sp : Sp} {E : XK} {x : Str} {p pos : Pos} {e : Expr} {es : List Expr} {t : TA}
theorem pe_callF (G : Fn X.prog X.w X.K X.mg X.base CX k x ps sp) (hr : Room k X.A) (hg : Gl X x) (hx : Passes CX X E) (ha : PA X (e :: es) t) (hdb : (x == ("__debug__" : Str)) = false := by decide)
    (he : starEach (e :: es) X.env = (false, eval e X.env) :: starEach es X.env := by rfl) (hpl : (backTo pos (starEach es X.env)).any (·.1) = false := by rfl) : PE X (.Call (.Name x p) (e :: es) [] pos) (tCall sp [] E t) := by
  obtain ⟨f, fd, F, hm, hk, hb⟩ := G.ex
  exact pe_call F hr hg hm hk hb .nil hx ha hdb he hpl
end
/-- all but l is as it was -/
def But (l : Addr) (H H' : Hp) : Prop := ∀ b o, b ≠ l → H b = some o → H' b = some o
section
variable {K : PySem.W.Frag} {H H1 H2 H' : Hp} {a l p : Addr} {o u : HO} {xs ys : List V} {ns : List Int}
theorem same_new (h : H p = none) : Same H (upd H p o) := fun b x e => by rw [upd_ne (ne_of_none e h)]; exact e
theorem but_upd : But l H (upd H l o) := fun b x n e => by rw [upd_ne n]; exact e
theorem But.trans (a : But l H H1) (b : But l H1 H2) : But l H H2 := fun c o n h => b c o n (a c o n h)
theorem But.refl : But l H H := fun _ _ _ h => h
theorem Same.but (s : Same H H') : But l H H' := fun b o _ h => s b o h
theorem rd_same (s : Same H H') (h : Rd H a u) : Rd H' a u := by
  rcases h with h | ⟨o, h⟩
  · exact .inl (s _ _ h)
  · exact .inr ⟨o, s _ _ h⟩
theorem sqT_same (s : Same H H') (h : SqT K H a xs) : SqT K H' a xs := by
  rcases h with h | h
  · exact .inl (rd_same s h)
  · exact .inr h
theorem sqL_same (s : Same H H') (h : SqL K H a xs) : SqL K H' a xs := s.seq h
theorem sqT_but (b : But l H H') (hl : H l = some (.lst ys)) (h : SqT K H a xs) : SqT K H' a xs := by
  rcases h with (h | ⟨o, h⟩) | h
  · exact .inl (.inl (b _ _ (ne_of h hl (by intro z; cases z)) h))
  · exact .inl (.inr ⟨o, b _ _ (ne_of h hl (by intro z; cases z)) h⟩)
  · exact .inr h
theorem sqL_but (b : But l H H') (hne : a ≠ l) (h : SqL K H a xs) : SqL K H' a xs := by
  rcases h with (h | ⟨o, h⟩) | h
  · exact .inl (.inl (b _ _ hne h))
  · exact .inl (.inr ⟨o, b _ _ hne h⟩)
  · exact .inr h
theorem at_same (s : Same H H') (h : H a = some o) : H' a = some o := s _ _ h
theorem at_but (b : But l H H') (hne : a ≠ l) (h : H a = some o) : H' a = some o := b _ _ hne h
theorem sqL_of (h : H a = some (.lst xs)) : SqL K H a xs := .inl (.inl h)
theorem sqT_of (h : H a = some (.tup xs)) : SqT K H a xs := .inl (.inl h)
/-- a but of an object that the first heap doesn't know is a same -/
theorem But.same (b : But l H H') (h : H l = none) : Same H H' := fun c o e => b c o (ne_of_none e h) e
theorem same_but (s : Same H H1) (b : But l H1 H2) (h : H l = none) : Same H H2 := fun c o e => b c o (ne_of_none e h) (s c o e)
end
def PB (x : V) (H : Hp) (QB : Bool → Hp → Prop) : Prop := ∃ k, x = .bl k ∧ QB k H
def PIf (x : V) (A B : Prop) : Prop := ∃ c, x = .bl c ∧ if c = true then A else B
def PTr (K : PySem.W.Frag) (x : V) (H : Hp) (QB : Bool → Hp → Prop) : Prop := ∃ k, TruV K x H k ∧ QB k H
def PNew (z : Prop) (o : HO) (H : Hp) (Q : VK) : Prop := z ∧ ∀ p, H p = none → Q (.ref p) (upd H p o)
def PI2 (x y : V) (QR : Int → Int → Prop) : Prop := ∃ i j, x = .int i ∧ y = .int j ∧ QR i j
def PI1 (x : V) (QR : Int → Prop) : Prop := ∃ i, x = .int i ∧ QR i
def PNot (x : V) (H : Hp) (Q : VK) : Prop := ∃ c, x = .bl c ∧ Q (.bl (!c)) H
section
variable {K : PySem.W.Frag} {D : Ends} {σ : L2.St} {H : Hp} {t u : TS} {te ta tb : TE} {g : TG} {c d : TT} {Q : VK} {QB : Bool → Hp → Prop} {v x y : V} {i j : Nat} {m n : Int} {b : Bool}
theorem r_seq (h : t { D with nx := u D } σ H) : tSeq t u D σ H := h
theorem r_next (h : D.nx σ H) : tNext D σ H := h
theorem r_asg (h : te σ H fun x H1 => g x σ H1 D.nx) : tAsg te g D σ H := h
theorem r_name {N : L2.St → Hp → Prop} (h : N (σ.set i (some v)) H) : gName i v σ H N := h
theorem r_drop (h : te σ H fun _ H1 => D.nx σ H1) : tDrop te D σ H := h
theorem r_ret (h : te σ H D.rt) : tRet te D σ H := h
theorem r_retN (h : D.rt .non H) : tRetN D σ H := h
theorem r_if (h : c σ H fun b H1 => if b = true then t D σ H1 else u D σ H1) : tIfS c t u D σ H := h
theorem r_brk (h : D.bk σ H) : tBreak D σ H := h
theorem r_cont (h : D.ct σ H) : tCont D σ H := h
theorem r_var (h : σ[i]? = some (some v)) (q : Q v H) : tVar i σ H Q := ⟨v, h, q⟩
theorem r_c (q : Q v H) : tC v σ H Q := q
theorem r_op {r : R2} (h : ta σ H fun x H1 => tb σ H1 fun y H2 => r x y H2 Q) : tOp r ta tb σ H Q := h
theorem r_un {r : V → Hp → VK → Prop} (h : ta σ H fun x H1 => r x H1 Q) : tUn r ta σ H Q := h
theorem r_neg (q : Q (.int (-m)) H) : rU (fun i => .int (-i)) (.int m) H Q := ⟨m, rfl, q⟩
theorem r_addI (q : Q (.int (m + n)) H) : rAddU K (.int m) (.int n) H Q := .inl ⟨m, n, rfl, rfl, q⟩
theorem r_subI (q : Q (.int (m - n)) H) : rSubU (.int m) (.int n) H Q := ⟨m, n, rfl, rfl, q⟩
theorem r_mulI (c : CMul m n) (q : Q (.int (m * n)) H) : rMulU K (.int m) (.int n) H Q := .inl ⟨m, n, rfl, rfl, c, q⟩
theorem r_mulL {p : Addr} {xs : List V} (h : H p = some (.lst xs)) (h0 : -(2 ^ 63) ≤ n) (h1 : n < 2 ^ 63) (hz : xs.length * n.toNat ≤ sizeLine) (k : ∀ q H', H q = none → Same H H' → H' q = some (.lst (List.replicate n.toNat xs).flatten) → Q (.ref q) H') :
    rMulU K (.ref p) (.int n) H Q := .inr (.inr (.inl ⟨p, n, xs, rfl, rfl, h, h0, h1, hz, fun q hq => k q _ hq (same_new hq) upd_same⟩))
theorem r_fdiv (h0 : 0 < n) (h1 : n.natAbs.log2 < 9000) (q : Q (.int (m / n)) H) : rFdivU (.int m) (.int n) H Q := ⟨m, n, rfl, rfl, ⟨h0, h1⟩, q⟩
theorem r_mod (h0 : 0 < n) (q : Q (.int (m % n)) H) : rModU (.int m) (.int n) H Q := ⟨m, n, rfl, rfl, h0, q⟩
theorem r_pow (h0 : CPow m n) (q : Q (.int (m ^ n.toNat)) H) : rPowU (.int m) (.int n) H Q := ⟨m, n, rfl, rfl, h0, q⟩
theorem r_eqI (q : Q (.bl (decide (m = n))) H) : rEqU K (.int m) (.int n) H Q := .inl ⟨rfl, by
  have e : decide (V.int m = V.int n) = decide (m = n) := by by_cases h : m = n <;> simp [h]
  rw [e]; exact q⟩
theorem r_neI (q : Q (.bl (!decide (m = n))) H) : rNeU K (.int m) (.int n) H Q := .inl ⟨rfl, by
  have e : decide (V.int m = V.int n) = decide (m = n) := by by_cases h : m = n <;> simp [h]
  rw [e]; exact q⟩
theorem r_ltI (q : Q (.bl (decide (m < n))) H) : rLtU K (.int m) (.int n) H Q := .inl ⟨m, n, rfl, rfl, q⟩
theorem r_leI (q : Q (.bl (decide (m ≤ n))) H) : rLeU K (.int m) (.int n) H Q := .inl ⟨m, n, rfl, rfl, q⟩
theorem r_gtI (q : Q (.bl (decide (n < m))) H) : rGtU (.int m) (.int n) H Q := .inl ⟨m, n, rfl, rfl, q⟩
theorem r_geI (q : Q (.bl (decide (n ≤ m))) H) : rGeU (.int m) (.int n) H Q := .inl ⟨m, n, rfl, rfl, q⟩
theorem r_isN (q : Q (.bl (decide (x = .non))) H) : rIsNU x .non H Q := ⟨rfl, q⟩
theorem r_notN (q : Q (.bl (!decide (x = .non))) H) : rNotNU x .non H Q := ⟨rfl, q⟩
theorem r_test (h : te σ H fun x H' => PB x H' QB) : tTest te σ H QB := h
theorem r_B (h : te σ H fun x H' => PB x H' QB) : tB te σ H QB := h
theorem r_k (q : QB b H) : PB (.bl b) H QB := ⟨b, rfl, q⟩
theorem r_not (h : c σ H fun b H1 => QB (!b) H1) : tNot c σ H QB := h
theorem r_and (h : c σ H fun b H1 => if b = true then d σ H1 QB else QB false H1) : tAnd c d σ H QB := h
theorem r_or (h : c σ H fun b H1 => if b = true then QB true H1 else d σ H1 QB) : tOr c d σ H QB := h
theorem r_andV (h : ta σ H fun x H1 => PIf x (tb σ H1 Q) (Q (.bl false) H1)) : tAndV ta tb σ H Q := h
theorem r_orV (h : ta σ H fun x H1 => PIf x (Q (.bl true) H1) (tb σ H1 Q)) : tOrV ta tb σ H Q := h
theorem r_pif {A B : Prop} (h : if b = true then A else B) : PIf (.bl b) A B := ⟨b, rfl, h⟩
theorem r_notV (h : ta σ H fun x H1 => PNot x H1 Q) : tNotV ta σ H Q := h
theorem r_pnot (q : Q (.bl (!b)) H) : PNot (.bl b) H Q := ⟨b, rfl, q⟩
theorem r_ifE (h : c σ H fun b H1 => if b = true then ta σ H1 Q else tb σ H1 Q) : tIf c ta tb σ H Q := h
theorem r_chain {r r' : R2} {tc : TE} (h : ta σ H fun x H1 => tb σ H1 fun y H2 => r x y H2 fun z H3 => PIf z (tc σ H3 fun w' H4 => r' y w' H4 Q) (Q (.bl false) H3)) : tChain r r' ta tb tc σ H Q := h
theorem r_tru (h : ta σ H fun x H' => PTr K x H' QB) : tTru K ta σ H QB := h
theorem r_truB (q : QB b H) : PTr K (.bl b) H QB := ⟨b, rfl, q⟩
theorem r_truI (q : QB (m != 0) H) : PTr K (.int m) H QB := ⟨_, rfl, q⟩
theorem r_truL {p : Addr} {xs : List V} (h : SqL K H p xs) (q : QB (!xs.isEmpty) H) : PTr K (.ref p) H QB := ⟨_, .inl ⟨xs, h, rfl⟩, q⟩
theorem r_truT {p : Addr} {xs : List V} (h : SqT K H p xs) (q : QB (!xs.isEmpty) H) : PTr K (.ref p) H QB := ⟨_, .inr (.inl ⟨xs, h, rfl⟩), q⟩
theorem r_nil {QA : List V → Hp → Prop} (q : QA [] H) : tNil σ H QA := q
theorem r_cons {tr : TA} {QA : List V → Hp → Prop} (h : ta σ H fun x H1 => tr σ H1 fun xs H2 => QA (x :: xs) H2) : tCons ta tr σ H QA := h
theorem r_CB {r : List V → Hp → VK → Prop} {ts : TA} (h : ts σ H fun vs H1 => r vs H1 Q) : tCB r ts σ H Q := h
theorem r_lenL {p : Addr} {xs : List V} (h : SqL K H p xs) (q : Q (.int (xs.length : Int)) H) : rLenU K [.ref p] H Q := .inl ⟨p, xs, rfl, .inl h, q⟩
theorem r_lenT {p : Addr} {xs : List V} (h : SqT K H p xs) (q : Q (.int (xs.length : Int)) H) : rLenU K [.ref p] H Q := .inl ⟨p, xs, rfl, .inr h, q⟩
theorem r_lenS {z : Str} (h : z.length ≤ sizeLine) (q : Q (.int (z.length : Int)) H) : rLenU K [.str z] H Q := .inr (.inl ⟨z, rfl, h, q⟩)
theorem r_int (q : Q (.int m) H) : rIntU [.int m] H Q := ⟨m, rfl, q⟩
theorem r_abs (q : Q (.int (if m < 0 then -m else m)) H) : rAbsU [.int m] H Q := ⟨m, rfl, q⟩
theorem r_ixL {p : Addr} {xs : List V} (h : SqL K H p xs) (ha : atI xs m = some v) (q : Q v H) : rIx K (.ref p) (.int m) H Q := .inl ⟨p, xs, m, v, rfl, rfl, h, ha, q⟩
theorem r_ixT {p : Addr} {xs : List V} (h : SqT K H p xs) (ha : atI xs m = some v) (q : Q v H) : rIx K (.ref p) (.int m) H Q := .inr (.inl ⟨p, xs, m, v, rfl, rfl, h, ha, q⟩)
theorem r_tup {ts : TA} (h : ts σ H fun xs H1 => PNew (xs.length ≤ sizeLine) (.tup xs) H1 Q) : tTup ts σ H Q := h
theorem r_lst {ts : TA} (h : ts σ H fun xs H1 => PNew (xs.length ≤ sizeLine) (.lst xs) H1 Q) : tLst ts σ H Q := h
theorem r_new {z : Prop} {o : HO} (hz : z) (k : ∀ p H', H p = none → Same H H' → H' p = some o → Q (.ref p) H') : PNew z o H Q := ⟨hz, fun p hp => k p _ hp (same_new hp) upd_same⟩
theorem r_call {sp : Sp} {E : XK} {ts : TA} (h : ts σ H fun vs H1 => sp (vs ++ []) H1 Q E) : tCall sp [] E ts σ H Q := h
theorem r_BM {T : String} {r : V → List V → Hp → VK → Prop} {ts : TA} (h : ta σ H fun x H1 => tyV K T x H1 ∧ ts σ H1 fun xs H2 => r x xs H2 Q) : tBM K T r ta ts σ H Q := h
theorem r_BM0 {T : String} {r : V → List V → Hp → VK → Prop} (h : ta σ H fun x H1 => tyV K T x H1 ∧ r x [] H1 Q) : tBM0 K T r ta σ H Q := h
theorem r_tyL {p : Addr} {xs : List V} {A : Prop} (h : SqL K H p xs) (a : A) : tyV K "list" (.ref p) H ∧ A := ⟨Or.inl ⟨rfl, _, h⟩, a⟩
theorem r_tyS {z : Str} {A : Prop} (a : A) : tyV K "str" (.str z) H ∧ A := ⟨rfl, a⟩
theorem r_append {p : Addr} {xs : List V} (h : H p = some (.lst xs)) (hz : xs.length < sizeLine) (k : ∀ H', But p H H' → H' p = some (.lst (xs ++ [y])) → Q .non H') : rAppend (.ref p) [y] H Q := ⟨p, xs, y, rfl, rfl, h, hz, k _ but_upd upd_same⟩
theorem r_pop {p : Addr} {xs : List V} (h : H p = some (.lst (xs ++ [y]))) (k : ∀ H', But p H H' → H' p = some (.lst xs) → Q y H') : rPop (.ref p) [] H Q := by
  refine ⟨p, xs ++ [y], y, rfl, rfl, h, ?_, ?_⟩
  · simp
  · rw [List.dropLast_concat]; exact k _ but_upd upd_same
theorem r_popAt {p : Addr} {xs : List V} {k : Nat} (h : H p = some (.lst xs)) (e : m = (k : Int)) (hk : xs[k]? = some y) (hz : xs.length < 2 ^ 62) (q : ∀ H', But p H H' → H' p = some (.lst (xs.eraseIdx k)) → Q y H') : rPopAt (.ref p) [.int m] H Q := by
  have hl : k < xs.length := (List.getElem?_eq_some_iff.mp hk).1
  refine ⟨p, xs, m, k, y, rfl, rfl, h, by omega, by omega, ?_, hk, q _ but_upd upd_same⟩
  subst e
  obtain ⟨j, hj, hx, _⟩ := atI_get (atI_nat hk)
  have e2 : j = k := by
    unfold seqIndex? at hj
    simp at hj
    omega
  rw [hj, e2]
theorem r_then {kk : V → Hp → VK → Prop} (h : ta σ H fun x H1 => kk x H1 Q) : tThen ta kk σ H Q := h
theorem r_kTupL {p : Addr} {xs : List V} (h : SqL K H p xs) (k : ∀ q H', H q = none → Same H H' → (∃ o : Obj, H' q = some (.frz o (.tup xs)) ∧ o.dict = none) → Q (.ref q) H') : kTupD K (.ref p) H Q := .inl ⟨p, xs, rfl, h, fun q o hq ho => k q _ hq (same_new hq) ⟨o, upd_same, ho⟩⟩
theorem r_kTupT {p : Addr} {xs : List V} (h : SqT K H p xs) (q : Q (.ref p) H) : kTupD K (.ref p) H Q := .inr ⟨p, xs, rfl, h, q⟩
theorem sqT_ofD {q : Addr} {xs : List V} (h : ∃ o : Obj, H q = some (.frz o (.tup xs)) ∧ o.dict = none) : SqT K H q xs := by
  obtain ⟨o, e, _⟩ := h
  exact .inl (.inr ⟨o, e⟩)
theorem noD_of {q : Addr} {xs : List V} (h : ∃ o : Obj, H q = some (.frz o (.tup xs)) ∧ o.dict = none) : NoD H q := by
  obtain ⟨o, e, d⟩ := h
  exact ⟨o, _, e, d⟩
theorem noD_same {H H' : Hp} {q : Addr} (s : Same H H') (h : NoD H q) : NoD H' q := by
  obtain ⟨o, u, e, d⟩ := h
  exact ⟨o, u, s _ _ e, d⟩
theorem r_listL {p : Addr} {xs : List V} (h : SqL K H p xs) (k : ∀ q H', H q = none → Same H H' → H' q = some (.lst xs) → Q (.ref q) H') : rListU K [.ref p] H Q := ⟨p, xs, rfl, .inl h, fun q hq => k q _ hq (same_new hq) upd_same⟩
theorem r_listT {p : Addr} {xs : List V} (h : SqT K H p xs) (k : ∀ q H', H q = none → Same H H' → H' q = some (.lst xs) → Q (.ref q) H') : rListU K [.ref p] H Q := ⟨p, xs, rfl, .inr h, fun q hq => k q _ hq (same_new hq) upd_same⟩
theorem r_lstRg {tr : L2.St → Hp → (Int → Int → Hp → Prop) → Prop} (h : tr σ H fun a b H1 => PNew (RgOk a b) (.lst (rgV a b)) H1 Q) : tLstRg tr σ H Q := h
theorem r_tupRg {tr : L2.St → Hp → (Int → Int → Hp → Prop) → Prop} (h : tr σ H fun a b H1 => PNew (RgOk a b) (.tup (rgV a b)) H1 Q) : tTupRg tr σ H Q := h
theorem r_rg2 {QR : Int → Int → Hp → Prop} (h : ta σ H fun x H1 => tb σ H1 fun y H2 => PI2 x y fun i j => QR i j H2) : tRg2 ta tb σ H QR := h
theorem r_rg1 {QR : Int → Int → Hp → Prop} (h : ta σ H fun x H1 => PI1 x fun n => QR 0 n H1) : tRg1 ta σ H QR := h
theorem r_ii {QR : Int → Int → Prop} (q : QR m n) : PI2 (.int m) (.int n) QR := ⟨m, n, rfl, rfl, q⟩
theorem r_i {QR : Int → Prop} (q : QR m) : PI1 (.int m) QR := ⟨m, rfl, q⟩
theorem r_gsub {ti : TE} {to : TE} {ts : TSet} {N : L2.St → Hp → Prop} (h : to σ H fun o H1 => ti σ H1 fun i H2 => ts o i v H2 fun H3 => N σ H3) : gSub to ti ts v σ H N := h
theorem r_setL {N : Hp → Prop} {p : Addr} {xs : List V} {k : Nat} (h : H p = some (.lst xs)) (hk : ixN xs.length m = some k) (q : ∀ H', But p H H' → H' p = some (.lst (xs.set k v)) → N H') : rSetL (.ref p) (.int m) v H N := ⟨p, xs, m, k, rfl, rfl, h, hk, q _ but_upd upd_same⟩
theorem r_aug {ti : TIp} (h : σ[i]? = some (some x)) (q : te σ H fun y H1 => ti x y H1 fun z H2 => D.nx (σ.set i (some z)) H2) : tAug i te ti D σ H := ⟨x, h, q⟩
theorem r_ipI {f : Int → Int → Int} (q : Q (.int (f m n)) H) : ipI f (.int m) (.int n) H Q := ⟨m, n, rfl, rfl, q⟩
theorem r_noPart {QO : Option Int → Hp → Prop} (q : QO none H) : tNoPart σ H QO := q
theorem r_part {QO : Option Int → Hp → Prop} (h : te σ H fun x H1 => PI1 x fun i => QO (some i) H1) : tPart te σ H QO := h
theorem r_sl {r : V → Option Int → Option Int → Hp → VK → Prop} {tl th : TO} (h : te σ H fun x H1 => tl σ H1 fun l H2 => th σ H2 fun u H3 => r x l u H3 Q) : tSl r te tl th σ H Q := h
theorem r_ite {c : Prop} [Decidable c] {A B : Prop} (h1 : c → A) (h2 : ¬ c → B) : if decide c = true then A else B := by
  by_cases h : c
  · rw [if_pos (decide_eq_true h)]; exact h1 h
  · rw [if_neg (by simp [h])]; exact h2 h
theorem r_iteN {c : Prop} [Decidable c] {A B : Prop} (h1 : ¬ c → A) (h2 : c → B) : if (!decide c) = true then A else B := by
  by_cases h : c
  · rw [if_neg (by simp [h])]; exact h2 h
  · rw [if_pos (by simp [h])]; exact h1 h
theorem r_iteP {c : Prop} [Decidable c] {A B : Prop} (h : c) (a : A) : if decide c = true then A else B := by rw [if_pos (decide_eq_true h)]; exact a
theorem r_iteM {c : Prop} [Decidable c] {A B : Prop} (h : ¬ c) (a : B) : if decide c = true then A else B := by rw [if_neg (by simp [h])]; exact a
theorem r_iteNP {c : Prop} [Decidable c] {A B : Prop} (h : c) (a : B) : if (!decide c) = true then A else B := by rw [if_neg (by simp [h])]; exact a
theorem r_iteNM {c : Prop} [Decidable c] {A B : Prop} (h : ¬ c) (a : A) : if (!decide c) = true then A else B := by rw [if_pos (by simp [h])]; exact a
theorem r_T {A B : Prop} (a : A) : if true = true then A else B := by rw [if_pos rfl]; exact a
theorem r_F {A B : Prop} (a : B) : if false = true then A else B := by rw [if_neg (by decide)]; exact a
theorem r_nT {A B : Prop} (a : B) : if (!true) = true then A else B := r_F a
theorem r_nF {A B : Prop} (a : A) : if (!false) = true then A else B := r_T a
end
end Kb
set_option Elab.async false
set_option linter.all false
set_option maxRecDepth 100000
set_option maxHeartbeats 4000000
namespace Kb
open PySem PySem.Spec PyProof.Rows L2
local macro_rules | `(tactic| walk_at "tk") => `(tactic| first
  | assumption
  | ((with_reducible refine' sqT_of ?k); (case k => assumption))
  | ((with_reducible refine' sqT_ofD ?k); (case k => assumption))
  | ((with_reducible refine' noD_of ?k); (case k => assumption))
  | ((with_reducible refine' noD_same ?s ?k); (case s => assumption); (case k => walk_at "tk"))
  | ((with_reducible refine' sqL_of ?k); (case k => assumption))
  | ((with_reducible refine' sqT_same ?s ?k); (case s => assumption); (case k => walk_at "tk"))
  | ((with_reducible refine' sqL_same ?s ?k); (case s => assumption); (case k => walk_at "tk"))
  | ((with_reducible refine' sqT_but ?s ?t ?k); (case s => assumption); (case t => walk_at "tk"); (case k => walk_at "tk"))
  | ((with_reducible refine' sqL_but ?s ?t ?k); (case s => assumption); (case t => walk_at "ne"); (case k => walk_at "tk"))
  | ((with_reducible refine' sqL_of ?k); (case k => walk_at "tk"))
  | ((with_reducible refine' sqT_of ?k); (case k => walk_at "tk"))
  | ((with_reducible refine' at_same ?s ?k); (case s => assumption); (case k => walk_at "tk"))
  | ((with_reducible refine' at_but ?s ?t ?k); (case s => assumption); (case t => walk_at "ne"); (case k => walk_at "tk")))
local macro_rules | `(tactic| walk_at "ne") => `(tactic| first
  | assumption
  | (refine Ne.symm ?_; assumption)
  | exact ne_of_none (by assumption) (by assumption)
  | exact (ne_of_none (by assumption) (by assumption)).symm)
local macro_rules | `(tactic| walk_at "side") => `(tactic| first
  | assumption
  | omega
  | (simp only [sizeLine_eq, List.length_cons, List.length_nil, List.length_map]; omega)
  | (show _ ≤ sizeLine; decide))
local macro_rules | `(tactic| walk_at "kit") => `(tactic| first
  | (show kitB _ _ = some true; decide +kernel)
  | (show kitB _ _ = some false; decide +kernel))
local macro_rules | `(tactic| walk_at "rng") => `(tactic| first
  | (refine ⟨by omega, by omega, by omega, by omega⟩)
  | (refine ⟨by omega, by omega⟩)
  | ((simp only [List.length_map]); (refine ⟨by omega, by omega, by omega, by omega⟩))
  | ((simp only [List.length_map]); (refine ⟨by omega, by omega⟩)))
local macro_rules | `(tactic| walk_at "rd1") => `(tactic| first
  | with_reducible refine r_seq ?_
  | ((with_reducible refine' r_var ?k0 ?_); (case k0 => rfl))
  | with_reducible refine r_op ?_
  | with_reducible refine r_c ?_
  | with_reducible refine r_asg ?_
  | with_reducible refine r_name ?_
  | with_reducible refine r_cons ?_
  | with_reducible refine r_nil ?_
  | with_reducible refine r_CB ?_
  | with_reducible refine r_if ?_
  | with_reducible refine r_test ?_
  | with_reducible refine r_k ?_
  | with_reducible refine r_T ?_
  | with_reducible refine r_F ?_
  | with_reducible refine r_nT ?_
  | with_reducible refine r_nF ?_
  | with_reducible refine r_ret ?_
  | with_reducible refine r_drop ?_
  | with_reducible refine r_next ?_
  | with_reducible refine r_call ?_
  | with_reducible refine r_addI ?_
  | with_reducible refine r_subI ?_
  | with_reducible refine r_ltI ?_
  | with_reducible refine r_gtI ?_
  | with_reducible refine r_leI ?_
  | with_reducible refine r_geI ?_
  | with_reducible refine r_eqI ?_
  | with_reducible refine r_neI ?_
  | with_reducible refine r_int ?_
  | with_reducible refine r_abs ?_
  | with_reducible refine r_not ?_
  | with_reducible refine r_and ?_
  | with_reducible refine r_or ?_
  | with_reducible refine r_tru ?_
  | with_reducible refine r_truB ?_
  | with_reducible refine r_lst ?_
  | with_reducible refine r_tup ?_
  | with_reducible refine r_BM ?_
  | with_reducible refine r_BM0 ?_
  | with_reducible refine r_tyS ?_
  | with_reducible refine r_gsub ?_
  | with_reducible refine r_then ?_
  | with_reducible refine r_lstRg ?_
  | with_reducible refine r_tupRg ?_
  | with_reducible refine r_rg2 ?_
  | with_reducible refine r_rg1 ?_
  | with_reducible refine r_ii ?_
  | with_reducible refine r_i ?_
  | with_reducible refine r_ipI ?_
  | with_reducible refine r_un ?_
  | with_reducible refine r_neg ?_
  | with_reducible refine r_isN ?_
  | with_reducible refine r_notN ?_
  | with_reducible refine r_notV ?_
  | with_reducible refine r_pnot ?_
  | with_reducible refine r_pif ?_
  | with_reducible refine r_andV ?_
  | with_reducible refine r_orV ?_
  | with_reducible refine r_ifE ?_
  | with_reducible refine r_chain ?_
  | with_reducible refine r_sl ?_
  | with_reducible refine r_noPart ?_
  | with_reducible refine r_part ?_
  | with_reducible refine r_brk ?_
  | with_reducible refine r_cont ?_
  | with_reducible refine r_retN ?_
  | with_reducible refine r_truI ?_
  | with_reducible refine r_B ?_
  | ((with_reducible refine' r_mod ?k0 ?_); (case k0 => walk_at "side"))
  | ((with_reducible refine' r_mulI ?k0 ?_); (case k0 => first | exact Or.inl ⟨by omega, by omega⟩ | exact Or.inr ⟨by omega, by omega⟩))
  | ((with_reducible refine' r_lenL ?k0 ?_); (case k0 => walk_at "tk"))
  | ((with_reducible refine' r_lenT ?k0 ?_); (case k0 => walk_at "tk"))
  | ((with_reducible refine' r_truL ?k0 ?_); (case k0 => walk_at "tk"))
  | ((with_reducible refine' r_truT ?k0 ?_); (case k0 => walk_at "tk"))
  | ((with_reducible refine' r_ixL ?k0 ?k1 ?_); (case k0 => walk_at "tk"); (case k1 => first | assumption | rfl))
  | ((with_reducible refine' r_ixT ?k0 ?k1 ?_); (case k0 => walk_at "tk"); (case k1 => first | assumption | rfl))
  | ((with_reducible refine' r_new ?k0 ?_); (case k0 => walk_at "side"))
  | ((with_reducible refine' r_tyL ?k0 ?_); (case k0 => walk_at "tk"))
  | ((with_reducible refine' r_append ?k0 ?k1 ?_); (case k0 => walk_at "tk"); (case k1 => walk_at "side"))
  | ((with_reducible refine' r_setL ?k0 ?k1 ?_); (case k0 => walk_at "tk"); (case k1 => first | assumption | rfl))
  | ((with_reducible refine' r_kTupL ?k0 ?_); (case k0 => walk_at "tk"))
  | ((with_reducible refine' r_kTupT ?k0 ?_); (case k0 => walk_at "tk"))
  | ((with_reducible refine' r_listL ?k0 ?_); (case k0 => walk_at "tk"))
  | ((with_reducible refine' r_listT ?k0 ?_); (case k0 => walk_at "tk"))
  | ((with_reducible refine' r_aug ?k0 ?_); (case k0 => rfl))
  | ((with_reducible refine' r_lenS ?k0 ?_); (case k0 => walk_at "side"))
  | ((with_reducible refine' r_pop ?k0 ?_); (case k0 => walk_at "tk")))
local macro_rules | `(tactic| walk_at "rd") => `(tactic| ((repeat (walk_at "rd1")); (try dsimp only)))
def sp_law_cell (K : PySem.W.Frag) : Sp := fun vs H Q _ => ∃ (a : Addr) (ns : List Int) (k : Int), vs = [.ref a, .int k] ∧ SqL K H a (ns.map V.int) ∧ ns.length ≤ 63 ∧ 0 ≤ k ∧ ∀ n, Q (.int n) H
def Pl (H : Hp) (p : Addr) : Prop := ∃ x y z, H p = some (.lst [.int x, .int y, .int z])
def sp_law_pool (K : PySem.W.Frag) : Sp := fun vs H Q _ => ∃ (a : Addr) (ns : List Int) (k : Int), vs = [.ref a, .int k] ∧ SqL K H a (ns.map V.int) ∧ ns.length ≤ 63 ∧ 0 ≤ k ∧ ∀ p H', H p = none → Same H H' → Pl H' p → Q (.ref p) H'
def sp_law_draw (K : PySem.W.Frag) : Sp := fun vs H Q _ => ∃ (p : Addr) (m : Int), vs = [.ref p, .int m] ∧ Pl H p ∧ 0 < m ∧ m < 2 ^ 200 ∧ ∀ v H', 0 ≤ v → v < m → But p H H' → Pl H' p → Q (.int v) H'
abbrev N_law_cell : List Str := ["script", "k"]
def t_law_cell (K : PySem.W.Frag) : TS :=
  tSeq (tIfS ((tTest (tOp (rLtU K) (tVar 1) ((tCB (rLenU K) (tCons (tVar 0) tNil)))))) ((tRet ((tCB rAbsU (tCons ((tCB rIntU (tCons ((tOp (rIx K) (tVar 0) (tVar 1))) tNil))) tNil))))) (tNext))
  (tSeq (tIfS ((tTest (tOp (rEqU K) ((tCB (rLenU K) (tCons (tVar 0) tNil))) ((tC (.int 0)))))) ((tRet ((tC (.int 0))))) (tNext))
  ((tRet ((tOp rModU ((tCB rAbsU (tCons ((tCB rIntU (tCons ((tOp (rIx K) (tVar 0) ((tOp rModU ((tCB rIntU (tCons (tVar 1) tNil))) ((tCB (rLenU K) (tCons (tVar 0) tNil))))))) tNil))) tNil))) ((tC (.int 999999999999999989))))))))
abbrev N_law_pool : List Str := ["script", "k", "cell"]
def t_law_pool (K : PySem.W.Frag) : TS :=
  tSeq (tAsg ((tCall (sp_law_cell K) [] E0 (tCons (tVar 0) (tCons (tVar 1) tNil)))) (gName 2))
  (tSeq (tIfS ((tTest (tOp rGeU (tVar 2) ((tOp rPowU ((tC (.int 10))) ((tC (.int 18)))))))) ((tRet ((tLst (tCons ((tOp rSubU (tVar 2) ((tOp rPowU ((tC (.int 10))) ((tC (.int 18))))))) (tCons ((tOp rModU ((tCB rIntU (tCons (tVar 2) tNil))) ((tC (.int 1000003))))) (tCons ((tC (.int 0))) tNil))))))) (tNext))
  ((tRet ((tLst (tCons ((tC (.int 0))) (tCons ((tOp (rAddU K) (tVar 2) ((tOp (rMulU K) ((tC (.int 104729))) ((tOp (rAddU K) (tVar 1) ((tC (.int 1))))))))) (tCons ((tC (.int 0))) tNil))))))))
abbrev N_law_draw : List Str := ["pool", "many", "value", "mixed"]
def t_law_draw (K : PySem.W.Frag) : TS :=
  tSeq (tAsg ((tOp (rAddU K) ((tOp (rIx K) (tVar 0) ((tC (.int 2))))) ((tC (.int 1))))) (gSub (tVar 0) ((tC (.int 2))) rSetL))
  (tSeq (tIfS ((tTest (tOp rGtU ((tOp (rIx K) (tVar 0) ((tC (.int 0))))) ((tC (.int 1)))))) (tSeq (tAsg ((tOp rModU ((tCB rIntU (tCons ((tOp (rIx K) (tVar 0) ((tC (.int 0))))) tNil))) (tVar 1))) (gName 2))
  (tSeq (tAsg ((tOp rFdivU ((tOp (rIx K) (tVar 0) ((tC (.int 0))))) (tVar 1))) (gSub (tVar 0) ((tC (.int 0))) rSetL))
  ((tRet (tVar 2))))) (tNext))
  (tSeq (tAsg ((tOp rModU ((tCB rIntU (tCons ((tOp (rAddU K) ((tOp (rIx K) (tVar 0) ((tC (.int 1))))) ((tOp (rMulU K) ((tC (.int 7919))) ((tOp (rIx K) (tVar 0) ((tC (.int 2))))))))) tNil))) ((tC (.int 1000003))))) (gName 3))
  (tSeq (tAsg ((tOp rModU ((tCB rIntU (tCons ((tOp (rAddU K) ((tOp (rAddU K) ((tOp (rMulU K) (tVar 3) (tVar 3))) ((tOp (rMulU K) ((tC (.int 48271))) ((tOp (rIx K) (tVar 0) ((tC (.int 2))))))))) ((tOp (rIx K) (tVar 0) ((tC (.int 1))))))) tNil))) ((tC (.int 998244353))))) (gName 3))
  (tSeq (tAsg ((tOp rModU ((tCB rIntU (tCons ((tOp (rAddU K) ((tOp (rMulU K) (tVar 3) (tVar 3))) ((tC (.int 69621))))) tNil))) ((tC (.int 2147483647))))) (gName 3))
  ((tRet ((tOp rModU ((tCB rIntU (tCons ((tOp rFdivU (tVar 3) ((tC (.int 7))))) tNil))) (tVar 1)))))))))
theorem len_law_cell {K : PySem.W.Frag} {vs : List V} {H : Hp} {Q : VK} {E : XK} (h : sp_law_cell K vs H Q E) : vs.length = 2 := by
  obtain ⟨a, ns, k, rfl, _⟩ := h; rfl
theorem len_law_pool {K : PySem.W.Frag} {vs : List V} {H : Hp} {Q : VK} {E : XK} (h : sp_law_pool K vs H Q E) : vs.length = 2 := by
  obtain ⟨a, ns, k, rfl, _⟩ := h; rfl
theorem len_law_draw {K : PySem.W.Frag} {vs : List V} {H : Hp} {Q : VK} {E : XK} (h : sp_law_draw K vs H Q E) : vs.length = 2 := by
  obtain ⟨a, m, rfl, _⟩ := h; rfl
abbrev En (Q : VK) : Ends := { nx := fun _ H' => Q .non H', rt := Q }
theorem atI_ints {ns : List Int} {k : Int} (h0 : 0 ≤ k) (h1 : k < (ns.length : Int)) : ∃ n, atI (ns.map V.int) k = some (.int n) ∧ ns[k.toNat]? = some n := by
  have h2 : k.toNat < ns.length := by omega
  refine ⟨ns[k.toNat], ?_, List.getElem?_eq_getElem h2⟩
  have e : ((k.toNat : Nat) : Int) = k := by omega
  have h3 : (ns.map V.int)[k.toNat]? = some (.int ns[k.toNat]) := by rw [List.getElem?_map, List.getElem?_eq_getElem h2]; rfl
  have h4 := atI_nat h3
  rw [e] at h4
  exact h4
theorem pure_law_cell {K : PySem.W.Frag} {vs : List V} {H : Hp} {Q : VK} {E : XK} (h : sp_law_cell K vs H Q E) : t_law_cell K (En Q) (start N_law_cell vs) H := by
  obtain ⟨a, ns, k, rfl, hS, hn, hk, q⟩ := h
  unfold t_law_cell
  walk_at "rd"
  rw [List.length_map]
  refine r_ite (fun hlt => ?_) (fun hge => ?_)
  · obtain ⟨n, e1, _⟩ := atI_ints hk hlt
    walk_at "rd"
    exact q _
  · walk_at "rd"
    rw [List.length_map]
    refine r_ite (fun h0 => ?_) (fun h0 => ?_)
    · walk_at "rd"
      exact q _
    · have hp : (0 : Int) < ((ns.map V.int).length : Int) := by rw [List.length_map]; omega
      walk_at "rd"
      obtain ⟨n, e1, _⟩ := atI_ints (ns := ns) (k := k % ((ns.map V.int).length : Int)) (Int.emod_nonneg _ (by omega)) (by rw [List.length_map] at hp ⊢; exact Int.emod_lt_of_pos _ hp)
      walk_at "rd"
      exact q _
theorem c18 : CPow 10 18 := ⟨by decide, by decide, by decide⟩
theorem pure_law_pool {K : PySem.W.Frag} {vs : List V} {H : Hp} {Q : VK} {E : XK} (h : sp_law_pool K vs H Q E) : t_law_pool K (En Q) (start N_law_pool vs) H := by
  obtain ⟨a, ns, k, rfl, hS, hn, hk, q⟩ := h
  unfold t_law_pool
  walk_at "rd"
  refine ⟨a, ns, k, rfl, hS, hn, hk, fun n => ?_⟩
  walk_at "rd"
  refine r_pow c18 ?_
  walk_at "rd"
  refine r_ite (fun h1 => ?_) (fun h1 => ?_)
  · walk_at "rd"
    refine r_pow c18 ?_
    walk_at "rd"
    intro p H' hp s e
    exact q p H' hp s ⟨_, _, _, e⟩
  · walk_at "rd"
    intro p H' hp s e
    exact q p H' hp s ⟨_, _, _, e⟩
theorem log2_small {m : Int} (h0 : 0 < m) (h1 : m < 2 ^ 200) : m.natAbs.log2 < 9000 := (wide_div (i := 0) h0 (b := 200) (by omega) (by decide) (by decide)).2
theorem pure_law_draw {K : PySem.W.Frag} {vs : List V} {H : Hp} {Q : VK} {E : XK} (h : sp_law_draw K vs H Q E) : t_law_draw K (En Q) (start N_law_draw vs) H := by
  obtain ⟨p, m, rfl, ⟨x, y, z, hp⟩, h0, h1, q⟩ := h
  have hl := log2_small h0 h1
  unfold t_law_draw
  walk_at "rd"
  intro H1 b1 e1
  have e1 : H1 p = some (.lst [.int x, .int y, .int (z + 1)]) := e1
  walk_at "rd"
  refine r_ite (fun hx => ?_) (fun hx => ?_)
  · walk_at "rd"
    refine r_fdiv h0 hl ?_
    walk_at "rd"
    intro H2 b2 e2
    walk_at "rd"
    exact q _ _ (Int.emod_nonneg _ (by omega)) (Int.emod_lt_of_pos _ h0) (b1.trans b2) ⟨_, _, _, e2⟩
  · walk_at "rd"
    refine r_fdiv (by decide) (by decide) ?_
    walk_at "rd"
    exact q _ _ (Int.emod_nonneg _ (by omega)) (Int.emod_lt_of_pos _ h0) b1 ⟨_, _, _, e1⟩
end Kb
set_option Elab.async false
set_option linter.all false
set_option maxRecDepth 100000
set_option maxHeartbeats 4000000
namespace Kb
open PySem PySem.Spec PyProof.Rows L2
section
variable {K : PySem.W.Frag} {D : Ends} {σ : L2.St} {H : Hp} {tb : TS} {te ta : TE} {g : TG} {c : TT} {i j : Nat} {m n l : Int} {R : It → Hp → Prop}
/-- the body of a while, from a state that holds with the measure m -/
def PBody (W : Nat → L2.St → Hp → Prop) (m : Nat) (tb : TS) (D : Ends) (σ : L2.St) (H : Hp) : Prop := ∃ N : L2.St → Hp → Prop, (∀ σ' H', N σ' H' → ∃ m', m' < m ∧ W m' σ' H') ∧ tb { D with nx := N, ct := N, bk := D.nx } σ H
theorem r_while (W : Nat → L2.St → Hp → Prop) (m : Nat) (h0 : W m σ H)
    (hs : ∀ m σ H, W m σ H → c σ H fun b H1 => if b = true then PBody W m tb D σ H1 else D.nx σ H1) : tWhile c tb D σ H := ⟨W, ⟨m, h0⟩, hs⟩
theorem r_body {W : Nat → L2.St → Hp → Prop} {m : Nat} (h : tb { D with nx := fun σ' H' => ∃ m', m' < m ∧ W m' σ' H', ct := fun σ' H' => ∃ m', m' < m ∧ W m' σ' H', bk := D.nx } σ H) : PBody W m tb D σ H := ⟨_, fun _ _ h => h, h⟩
def PFor (J : It) (g : TG) (tb : TS) (D : Ends) (σ : L2.St) (H : Hp) : Prop := ∃ W : Nat → Nat → L2.St → Hp → Prop, (∃ m, W 0 m σ H) ∧ ∀ i m σ H, W i m σ H →
  (J.stop i H ∧ D.nx σ H) ∨ (J.go i H ∧ ∃ N : L2.St → Hp → Prop, (∀ σ' H', N σ' H' → ∃ m', m' < m ∧ W (i + 1) m' σ' H') ∧ ∀ x H', J.yld i H x H' → g x σ H' fun σ2 H2 => tb { D with nx := N, ct := N, bk := D.nx } σ2 H2)
theorem r_for {wi : TI} (h : wi σ H fun J H1 => PFor J g tb D σ H1) : tFor wi g tb D σ H := h
def PR1 (vs : List V) (R : It → Prop) : Prop := ∃ j : Int, vs = [.int j] ∧ -(2 ^ 62) ≤ j ∧ j < 2 ^ 62 ∧ R (Itr 0 j.toNat)
def PR2 (vs : List V) (R : It → Prop) : Prop := ∃ i j : Int, vs = [.int i, .int j] ∧ (-(2 ^ 62) ≤ i ∧ i < 2 ^ 62 ∧ -(2 ^ 62) ≤ j ∧ j < 2 ^ 62) ∧ R (Itr i (j - i).toNat)
def PR3 (vs : List V) (R : It → Prop) : Prop := ∃ (i j c : Int) (n : Nat), vs = [.int i, .int j, .int c] ∧ RgC i j c n ∧ R (Itc i c n)
theorem r_rng1 {ts : TA} (h : ts σ H fun vs H1 => PR1 vs fun J => R J H1) : iRng1 ts σ H R := h
theorem r_rng2 {ts : TA} (h : ts σ H fun vs H1 => PR2 vs fun J => R J H1) : iRng2 ts σ H R := h
theorem r_rng3 {ts : TA} (h : ts σ H fun vs H1 => PR3 vs fun J => R J H1) : iRng3 ts σ H R := h
theorem r_pr1 {R : It → Prop} (h : -(2 ^ 62) ≤ m ∧ m < 2 ^ 62) (q : R (Itr 0 m.toNat)) : PR1 [.int m] R := ⟨m, rfl, h.1, h.2, q⟩
theorem r_pr2 {R : It → Prop} (h : -(2 ^ 62) ≤ l ∧ l < 2 ^ 62 ∧ -(2 ^ 62) ≤ m ∧ m < 2 ^ 62) (q : R (Itr l (m - l).toNat)) : PR2 [.int l, .int m] R := ⟨l, m, rfl, h, q⟩
theorem r_pr3d {R : It → Prop} (h : -(2 ^ 62) ≤ l ∧ l < 2 ^ 62 ∧ -(2 ^ 62) ≤ m ∧ m < 2 ^ 62) (q : R (Itc l (-1) (l - m).toNat)) : PR3 [.int l, .int m, .int (-1)] R := ⟨l, m, -1, _, rfl, RgC.neg h.1 h.2.1 h.2.2.1 h.2.2.2, q⟩
theorem r_forRange0 {n : Nat} (Pv : Nat → L2.St → Hp → Prop) (h0 : Pv 0 σ H)
    (hs : ∀ i σ' H', i < n → Pv i σ' H' → tb { D with nx := Pv (i + 1), ct := Pv (i + 1), bk := D.nx } (σ'.set j (some (.int (i : Int)))) H')
    (hd : ∀ σ' H', Pv n σ' H' → D.nx σ' H') : PFor (Itr 0 n) (gName j) tb D σ H := for_range Pv h0 (fun i σ' H' hi p => by
      show tb _ (σ'.set j (some (.int ((0 : Int) + (i : Int))))) H'
      rw [Int.zero_add]
      exact hs i σ' H' hi p) hd
def PSeqT (K : PySem.W.Frag) (x : V) (H : Hp) (R : It → Hp → Prop) : Prop := ∃ a, x = .ref a ∧ (∃ xs, SqT K H a xs) ∧ R (Itt K a) H
def PSeqL (K : PySem.W.Frag) (x : V) (H : Hp) (R : It → Hp → Prop) : Prop := ∃ a, x = .ref a ∧ (∃ xs, SqL K H a xs) ∧ R (Itl K a) H
def PSeqS (x : V) (H : Hp) (R : It → Hp → Prop) : Prop := ∃ z, x = .str z ∧ R (Its z) H
theorem r_seqT (h : te σ H fun x H1 => PSeqT K x H1 R) : iSeqU K te σ H R := .inr (.inl h)
theorem r_seqL (h : te σ H fun x H1 => PSeqL K x H1 R) : iSeqU K te σ H R := .inl h
theorem r_seqS (h : te σ H fun x H1 => PSeqS x H1 R) : iSeqU K te σ H R := .inr (.inr h)
theorem r_pseqT {a : Addr} {xs : List V} (h : SqT K H a xs) (q : R (Itt K a) H) : PSeqT K (.ref a) H R := ⟨a, rfl, ⟨xs, h⟩, q⟩
theorem r_pseqL {a : Addr} {xs : List V} (h : SqL K H a xs) (q : R (Itl K a) H) : PSeqL K (.ref a) H R := ⟨a, rfl, ⟨xs, h⟩, q⟩
theorem r_pseqS {z : Str} (q : R (Its z) H) : PSeqS (.str z) H R := ⟨z, rfl, q⟩
theorem r_forTup {a : Addr} {xs : List V} (Pv : Nat → L2.St → Hp → Prop) (h0 : Pv 0 σ H) (hl : ∀ i σ' H', i ≤ xs.length → Pv i σ' H' → SqT K H' a xs)
    (hs : ∀ i x σ' H', xs[i]? = some x → Pv i σ' H' → g x σ' H' fun σ2 H2 => tb { D with nx := Pv (i + 1), ct := Pv (i + 1), bk := D.nx } σ2 H2)
    (hd : ∀ σ' H', Pv xs.length σ' H' → D.nx σ' H') : PFor (Itt K a) g tb D σ H := for_tup Pv h0 hl hs hd
theorem r_forLst {a : Addr} {xs : List V} (Pv : Nat → L2.St → Hp → Prop) (h0 : Pv 0 σ H) (hl : ∀ i σ' H', i ≤ xs.length → Pv i σ' H' → SqL K H' a xs)
    (hs : ∀ i x σ' H', xs[i]? = some x → Pv i σ' H' → g x σ' H' fun σ2 H2 => tb { D with nx := Pv (i + 1), ct := Pv (i + 1), bk := D.nx } σ2 H2)
    (hd : ∀ σ' H', Pv xs.length σ' H' → D.nx σ' H') : PFor (Itl K a) g tb D σ H := for_list Pv h0 hl hs hd
def PLc (J : It) (g : TG) (tt : TT) (te : TE) (vs : List Nat) (σ : L2.St) (H1 : Hp) (Q : VK) : Prop := ∀ D, H1 D = none → ∃ W : Nat → Nat → Hp → Prop, (∃ m, W 0 m (upd H1 D (.lst []))) ∧ ∀ i m H, W i m H →
  (J.stop i H ∧ Q (.ref D) H) ∨ (J.go i H ∧ ∃ Nx : Hp → Prop, (∀ H', Nx H' → ∃ m', m' < m ∧ W (i + 1) m' H') ∧ ∀ x H', J.yld i H x H' → g x (wipe σ vs) H' fun σ2 H2 => wipe σ2 vs = wipe σ vs ∧ tt σ2 H2 fun b H3 =>
    if b = true then te σ2 H3 fun y H4 => ∃ acc, H4 D = some (.lst acc) ∧ acc.length < sizeLine ∧ Nx (upd H4 D (.lst (acc ++ [y]))) else Nx H3)
theorem r_lc {wi : TI} {tt : TT} {vs : List Nat} {Q : VK} (h : wi σ H fun J H1 => PLc J g tt te vs σ H1 Q) : tLc wi g tt te vs σ H Q := h
theorem r_yes {QB : Bool → Hp → Prop} (q : QB true H) : tYes σ H QB := q
/-- the made item goes into the list at D -/
def PAcc (D : Addr) (Nx : Hp → Prop) (y : V) (H : Hp) : Prop := ∃ acc, H D = some (.lst acc) ∧ acc.length < sizeLine ∧ Nx (upd H D (.lst (acc ++ [y])))
theorem r_acc {D : Addr} {Nx : Hp → Prop} {y : V} {acc : List V} (h : H D = some (.lst acc)) (hz : acc.length ≤ 1000000) (k : ∀ H', But D H H' → H' D = some (.lst (acc ++ [y])) → Nx H') : PAcc D Nx y H :=
  ⟨acc, h, by rw [sizeLine_eq]; omega, k _ but_upd upd_same⟩
/-- over a tuple: Pv tells the new list's place, the turn, the heap -/
theorem r_lcT {a : Addr} {xs : List V} {Q : VK} {tt : TT} {vs : List Nat} (Pv : Addr → Nat → Hp → Prop) (hw : ∀ x, wipe ((wipe σ vs).set j (some x)) vs = wipe σ vs)
    (h0 : ∀ D H', H D = none → Same H H' → H' D = some (.lst []) → Pv D 0 H') (hl : ∀ D i H', Pv D i H' → SqT K H' a xs)
    (hs : ∀ D i x H', xs[i]? = some x → Pv D i H' → tt ((wipe σ vs).set j (some x)) H' fun b H3 => if b = true then te ((wipe σ vs).set j (some x)) H3 (fun y H4 => PAcc D (Pv D (i + 1)) y H4) else Pv D (i + 1) H3)
    (hd : ∀ D H', H D = none → Pv D xs.length H' → Q (.ref D) H') : PLc (Itt K a) (gName j) tt te vs σ H Q := by
  intro D hD
  exact lc_tup (xs := xs) (Pv D) (h0 D _ hD (same_new hD) upd_same) (fun i H' _ p => hl D i H' p) (fun i x H' hi p => ⟨hw x, hs D i x H' hi p⟩) (fun H' p => hd D H' hD p)
theorem r_lcL {a : Addr} {xs : List V} {Q : VK} {tt : TT} {vs : List Nat} (Pv : Addr → Nat → Hp → Prop) (hw : ∀ x, wipe ((wipe σ vs).set j (some x)) vs = wipe σ vs)
    (h0 : ∀ D H', H D = none → Same H H' → H' D = some (.lst []) → Pv D 0 H') (hl : ∀ D i H', Pv D i H' → SqL K H' a xs)
    (hs : ∀ D i x H', xs[i]? = some x → Pv D i H' → tt ((wipe σ vs).set j (some x)) H' fun b H3 => if b = true then te ((wipe σ vs).set j (some x)) H3 (fun y H4 => PAcc D (Pv D (i + 1)) y H4) else Pv D (i + 1) H3)
    (hd : ∀ D H', H D = none → Pv D xs.length H' → Q (.ref D) H') : PLc (Itl K a) (gName j) tt te vs σ H Q := by
  intro D hD
  exact lc_list (xs := xs) (Pv D) (h0 D _ hD (same_new hD) upd_same) (fun i H' _ p => hl D i H' p) (fun i x H' hi p => ⟨hw x, hs D i x H' hi p⟩) (fun H' p => hd D H' hD p)
theorem r_lcR {lo : Int} {n : Nat} {Q : VK} {tt : TT} {vs : List Nat} (Pv : Addr → Nat → Hp → Prop) (hw : ∀ x, wipe ((wipe σ vs).set j (some x)) vs = wipe σ vs)
    (h0 : ∀ D H', H D = none → Same H H' → H' D = some (.lst []) → Pv D 0 H')
    (hs : ∀ D i H', i < n → Pv D i H' → tt ((wipe σ vs).set j (some (.int (lo + (i : Int))))) H' fun b H3 => if b = true then te ((wipe σ vs).set j (some (.int (lo + (i : Int))))) H3 (fun y H4 => PAcc D (Pv D (i + 1)) y H4) else Pv D (i + 1) H3)
    (hd : ∀ D H', H D = none → Pv D n H' → Q (.ref D) H') : PLc (Itr lo n) (gName j) tt te vs σ H Q := by
  intro D hD
  exact lc_range (Pv D) (h0 D _ hD (same_new hD) upd_same) (fun i H' hi p => ⟨hw _, hs D i H' hi p⟩) (fun H' p => hd D H' hD p)
/-- the plain case: a tuple's items, each gives a value that its own place and item tell; nothing else is changed -/
theorem r_lcTm {a : Addr} {xs : List V} {Q : VK} {vs : List Nat} (f : Nat → V → V) (hx : SqT K H a xs) (hz : xs.length ≤ 1000000) (hw : ∀ x, wipe ((wipe σ vs).set j (some x)) vs = wipe σ vs)
    (hs : ∀ i x H1 (Q' : VK), xs[i]? = some x → Same H H1 → (∀ H2, Same H1 H2 → Q' (f i x) H2) → te ((wipe σ vs).set j (some x)) H1 Q')
    (hd : ∀ p H', H p = none → Same H H' → H' p = some (.lst ((List.range xs.length).zipWith f xs)) → Q (.ref p) H') : PLc (Itt K a) (gName j) tYes te vs σ H Q := by
  refine r_lcT (xs := xs) (fun D i H' => H D = none ∧ Same H H' ∧ H' D = some (.lst (((List.range xs.length).zipWith f xs).take i))) hw (fun D H' hD s e => ⟨hD, s, by rw [e]; rfl⟩) (fun D i H' p => sqT_same p.2.1 hx) (fun D i x H' hi p => ?_) (fun D H' hD p => ?_)
  · refine r_yes ?_
    refine r_T ?_
    have hil : i < xs.length := (List.getElem?_eq_some_iff.mp hi).1
    refine hs i x H' _ hi p.2.1 (fun H2 s2 => r_acc (s2 _ _ p.2.2) ?_ fun H5 b5 e5 => ⟨p.1, same_but (p.2.1.trans s2) b5 p.1, ?_⟩)
    · rw [List.length_take, List.length_zipWith, List.length_range]; omega
    · rw [e5, List.take_add_one]
      have e : ((List.range xs.length).zipWith f xs)[i]? = some (f i x) := by
        rw [List.getElem?_zipWith, hi, List.getElem?_range hil]
      rw [e]
      rfl
  · refine hd D H' hD p.2.1 ?_
    have e := p.2.2
    rw [List.take_of_length_le (by rw [List.length_zipWith, List.length_range]; omega)] at e
    exact e
end
end Kb
set_option Elab.async false
set_option linter.all false
set_option maxRecDepth 100000
set_option maxHeartbeats 4000000
namespace Kb
open PySem PySem.Spec PyProof.Rows L2
inductive Dat where | int (i : Int) | bl (b : Bool) | str (s : Str) | non | tup (ds : List Dat)
mutual
def Dat.size : Dat → Nat
  | .tup ds => 1 + Dat.sizes ds
  | _ => 1
def Dat.sizes : List Dat → Nat
  | [] => 0
  | d :: ds => d.size + Dat.sizes ds
end
theorem Dat.size_pos : ∀ d : Dat, 0 < d.size
  | .int _ => by simp [Dat.size]
  | .bl _ => by simp [Dat.size]
  | .str _ => by simp [Dat.size]
  | .non => by simp [Dat.size]
  | .tup _ => by simp [Dat.size]; omega
mutual
inductive Rp (K : PySem.W.Frag) (H : Hp) : V → Dat → Prop
  | int (i : Int) : Rp K H (.int i) (.int i)
  | bl (b : Bool) : Rp K H (.bl b) (.bl b)
  | str (s : Str) : Rp K H (.str s) (.str s)
  | non : Rp K H .non .non
  | tup {a : Addr} {xs : List V} {ds : List Dat} : SqT K H a xs → RpL K H xs ds → Rp K H (.ref a) (.tup ds)
inductive RpL (K : PySem.W.Frag) (H : Hp) : List V → List Dat → Prop
  | nil : RpL K H [] []
  | cons {v : V} {vs : List V} {d : Dat} {ds : List Dat} : Rp K H v d → RpL K H vs ds → RpL K H (v :: vs) (d :: ds)
end
section
variable {K : PySem.W.Frag} {H H' : Hp} {l : Addr} {ys : List V}
/-- tuples stay -/
def TK (K : PySem.W.Frag) (H H' : Hp) : Prop := ∀ a xs, SqT K H a xs → SqT K H' a xs
theorem tk_same (s : Same H H') : TK K H H' := fun _ _ h => sqT_same s h
theorem tk_but (b : But l H H') (hl : H l = some (.lst ys)) : TK K H H' := fun _ _ h => sqT_but b hl h
mutual
theorem rp_keep (k : TK K H H') : ∀ {v : V} {d : Dat}, Rp K H v d → Rp K H' v d
  | _, _, .int i => .int i
  | _, _, .bl b => .bl b
  | _, _, .str s => .str s
  | _, _, .non => .non
  | _, _, .tup h hr => .tup (k _ _ h) (rpL_keep k hr)
theorem rpL_keep (k : TK K H H') : ∀ {vs : List V} {ds : List Dat}, RpL K H vs ds → RpL K H' vs ds
  | _, _, .nil => .nil
  | _, _, .cons h hr => .cons (rp_keep k h) (rpL_keep k hr)
end
theorem rp_same {v : V} {d : Dat} (s : Same H H') (h : Rp K H v d) : Rp K H' v d := rp_keep (tk_same s) h
theorem rp_but {v : V} {d : Dat} (b : But l H H') (hl : H l = some (.lst ys)) (h : Rp K H v d) : Rp K H' v d := rp_keep (tk_but b hl) h
theorem rpL_length : ∀ {vs : List V} {ds : List Dat}, RpL K H vs ds → vs.length = ds.length
  | _, _, .nil => rfl
  | _, _, .cons _ hr => by simp [rpL_length hr]
theorem rpL_get : ∀ {vs : List V} {ds : List Dat} {i : Nat} {d : Dat}, RpL K H vs ds → ds[i]? = some d → ∃ v, vs[i]? = some v ∧ Rp K H v d
  | _, _, _, _, .nil, e => by simp at e
  | _, _, 0, _, .cons h _, e => by simp at e; subst e; exact ⟨_, rfl, h⟩
  | _, _, i + 1, _, .cons _ hr, e => by
    obtain ⟨v, h1, h2⟩ := rpL_get (i := i) hr (by simpa using e)
    exact ⟨v, by simpa using h1, h2⟩
theorem rpL_ints (ns : List Int) : RpL K H (ns.map V.int) (ns.map Dat.int) := by
  induction ns with
  | nil => exact .nil
  | cons n ns ih => exact .cons (.int n) ih
theorem rp_ints {a : Addr} {ns : List Int} (h : SqT K H a (ns.map V.int)) : Rp K H (.ref a) (.tup (ns.map Dat.int)) := .tup h (rpL_ints ns)
end
section
variable {K : PySem.W.Frag} {H : Hp} {Q : VK}
theorem r_isiT {a : Addr} {xs : List V} {b : Bool} {T : String} (h : SqT K H a xs) (hb : kitB "tuple" T = some b) (q : Q (.bl b) H) : rIsi K [.ref a, .ty T] H Q := by
  refine ⟨.ref a, .ty T, .type "tuple", .type T, b, rfl, .ty T, ?_, kit_ty hb, q⟩
  rcases h with (h | ⟨o, h⟩) | h
  · exact .base (.tup h)
  · exact .fTuple h
  · obtain ⟨o, its, n, h1, h2, _⟩ := h
    exact .kTuple h1 h2
theorem r_isiI {i : Int} {b : Bool} {T : String} (hb : kitB "int" T = some b) (q : Q (.bl b) H) : rIsi K [.int i, .ty T] H Q := ⟨_, _, _, _, b, rfl, .ty T, .base (.int i), kit_ty hb, q⟩
theorem r_isiB {i : Bool} {b : Bool} {T : String} (hb : kitB "bool" T = some b) (q : Q (.bl b) H) : rIsi K [.bl i, .ty T] H Q := ⟨_, _, _, _, b, rfl, .ty T, .base (.bl i), kit_ty hb, q⟩
theorem r_isiS {i : Str} {b : Bool} {T : String} (hb : kitB "str" T = some b) (q : Q (.bl b) H) : rIsi K [.str i, .ty T] H Q := ⟨_, _, _, _, b, rfl, .ty T, .base (.str i), kit_ty hb, q⟩
theorem r_isiN {b : Bool} {T : String} (hb : kitB "NoneType" T = some b) (q : Q (.bl b) H) : rIsi K [.non, .ty T] H Q := ⟨_, _, _, _, b, rfl, .ty T, .base .non, kit_ty hb, q⟩
end
local macro_rules | `(tactic| walk_at "tk") => `(tactic| first
  | assumption
  | ((with_reducible refine' sqT_of ?k); (case k => assumption))
  | ((with_reducible refine' sqT_ofD ?k); (case k => assumption))
  | ((with_reducible refine' noD_of ?k); (case k => assumption))
  | ((with_reducible refine' noD_same ?s ?k); (case s => assumption); (case k => walk_at "tk"))
  | ((with_reducible refine' sqL_of ?k); (case k => assumption))
  | ((with_reducible refine' sqT_same ?s ?k); (case s => assumption); (case k => walk_at "tk"))
  | ((with_reducible refine' sqL_same ?s ?k); (case s => assumption); (case k => walk_at "tk"))
  | ((with_reducible refine' sqT_but ?s ?t ?k); (case s => assumption); (case t => walk_at "tk"); (case k => walk_at "tk"))
  | ((with_reducible refine' sqL_but ?s ?t ?k); (case s => assumption); (case t => walk_at "ne"); (case k => walk_at "tk"))
  | ((with_reducible refine' sqL_of ?k); (case k => walk_at "tk"))
  | ((with_reducible refine' sqT_of ?k); (case k => walk_at "tk"))
  | ((with_reducible refine' at_same ?s ?k); (case s => assumption); (case k => walk_at "tk"))
  | ((with_reducible refine' at_but ?s ?t ?k); (case s => assumption); (case t => walk_at "ne"); (case k => walk_at "tk")))
local macro_rules | `(tactic| walk_at "ne") => `(tactic| first
  | assumption
  | (refine Ne.symm ?_; assumption)
  | exact ne_of_none (by assumption) (by assumption)
  | exact (ne_of_none (by assumption) (by assumption)).symm)
local macro_rules | `(tactic| walk_at "side") => `(tactic| first
  | assumption
  | omega
  | (simp only [sizeLine_eq, List.length_cons, List.length_nil, List.length_map]; omega)
  | (show _ ≤ sizeLine; decide))
local macro_rules | `(tactic| walk_at "kit") => `(tactic| first
  | (show kitB _ _ = some true; decide +kernel)
  | (show kitB _ _ = some false; decide +kernel))
local macro_rules | `(tactic| walk_at "rng") => `(tactic| first
  | (refine ⟨by omega, by omega, by omega, by omega⟩)
  | (refine ⟨by omega, by omega⟩)
  | ((simp only [List.length_map]); (refine ⟨by omega, by omega, by omega, by omega⟩))
  | ((simp only [List.length_map]); (refine ⟨by omega, by omega⟩)))
local macro_rules | `(tactic| walk_at "rd1") => `(tactic| first
  | with_reducible refine r_seq ?_
  | ((with_reducible refine' r_var ?k0 ?_); (case k0 => rfl))
  | with_reducible refine r_op ?_
  | with_reducible refine r_c ?_
  | with_reducible refine r_asg ?_
  | with_reducible refine r_name ?_
  | with_reducible refine r_cons ?_
  | with_reducible refine r_nil ?_
  | with_reducible refine r_CB ?_
  | with_reducible refine r_if ?_
  | with_reducible refine r_test ?_
  | with_reducible refine r_k ?_
  | with_reducible refine r_T ?_
  | with_reducible refine r_F ?_
  | with_reducible refine r_nT ?_
  | with_reducible refine r_nF ?_
  | with_reducible refine r_ret ?_
  | with_reducible refine r_drop ?_
  | with_reducible refine r_next ?_
  | with_reducible refine r_call ?_
  | with_reducible refine r_addI ?_
  | with_reducible refine r_subI ?_
  | with_reducible refine r_ltI ?_
  | with_reducible refine r_gtI ?_
  | with_reducible refine r_leI ?_
  | with_reducible refine r_geI ?_
  | with_reducible refine r_eqI ?_
  | with_reducible refine r_neI ?_
  | with_reducible refine r_int ?_
  | with_reducible refine r_abs ?_
  | with_reducible refine r_not ?_
  | with_reducible refine r_and ?_
  | with_reducible refine r_or ?_
  | with_reducible refine r_tru ?_
  | with_reducible refine r_truB ?_
  | with_reducible refine r_lst ?_
  | with_reducible refine r_tup ?_
  | with_reducible refine r_BM ?_
  | with_reducible refine r_BM0 ?_
  | with_reducible refine r_tyS ?_
  | with_reducible refine r_gsub ?_
  | with_reducible refine r_then ?_
  | with_reducible refine r_lstRg ?_
  | with_reducible refine r_tupRg ?_
  | with_reducible refine r_rg2 ?_
  | with_reducible refine r_rg1 ?_
  | with_reducible refine r_ii ?_
  | with_reducible refine r_i ?_
  | with_reducible refine r_ipI ?_
  | with_reducible refine r_un ?_
  | with_reducible refine r_neg ?_
  | with_reducible refine r_isN ?_
  | with_reducible refine r_notN ?_
  | with_reducible refine r_notV ?_
  | with_reducible refine r_pnot ?_
  | with_reducible refine r_pif ?_
  | with_reducible refine r_andV ?_
  | with_reducible refine r_orV ?_
  | with_reducible refine r_ifE ?_
  | with_reducible refine r_chain ?_
  | with_reducible refine r_sl ?_
  | with_reducible refine r_noPart ?_
  | with_reducible refine r_part ?_
  | with_reducible refine r_brk ?_
  | with_reducible refine r_cont ?_
  | with_reducible refine r_retN ?_
  | with_reducible refine r_truI ?_
  | with_reducible refine r_B ?_
  | with_reducible refine r_for ?_
  | with_reducible refine r_rng1 ?_
  | with_reducible refine r_rng2 ?_
  | with_reducible refine r_rng3 ?_
  | with_reducible refine r_body ?_
  | with_reducible refine r_lc ?_
  | with_reducible refine r_yes ?_
  | ((with_reducible refine' r_mod ?k0 ?_); (case k0 => walk_at "side"))
  | ((with_reducible refine' r_mulI ?k0 ?_); (case k0 => first | exact Or.inl ⟨by omega, by omega⟩ | exact Or.inr ⟨by omega, by omega⟩))
  | ((with_reducible refine' r_lenL ?k0 ?_); (case k0 => walk_at "tk"))
  | ((with_reducible refine' r_lenT ?k0 ?_); (case k0 => walk_at "tk"))
  | ((with_reducible refine' r_truL ?k0 ?_); (case k0 => walk_at "tk"))
  | ((with_reducible refine' r_truT ?k0 ?_); (case k0 => walk_at "tk"))
  | ((with_reducible refine' r_ixL ?k0 ?k1 ?_); (case k0 => walk_at "tk"); (case k1 => first | assumption | rfl))
  | ((with_reducible refine' r_ixT ?k0 ?k1 ?_); (case k0 => walk_at "tk"); (case k1 => first | assumption | rfl))
  | ((with_reducible refine' r_new ?k0 ?_); (case k0 => walk_at "side"))
  | ((with_reducible refine' r_tyL ?k0 ?_); (case k0 => walk_at "tk"))
  | ((with_reducible refine' r_append ?k0 ?k1 ?_); (case k0 => walk_at "tk"); (case k1 => walk_at "side"))
  | ((with_reducible refine' r_setL ?k0 ?k1 ?_); (case k0 => walk_at "tk"); (case k1 => first | assumption | rfl))
  | ((with_reducible refine' r_kTupL ?k0 ?_); (case k0 => walk_at "tk"))
  | ((with_reducible refine' r_kTupT ?k0 ?_); (case k0 => walk_at "tk"))
  | ((with_reducible refine' r_listL ?k0 ?_); (case k0 => walk_at "tk"))
  | ((with_reducible refine' r_listT ?k0 ?_); (case k0 => walk_at "tk"))
  | ((with_reducible refine' r_aug ?k0 ?_); (case k0 => rfl))
  | ((with_reducible refine' r_lenS ?k0 ?_); (case k0 => walk_at "side"))
  | ((with_reducible refine' r_pop ?k0 ?_); (case k0 => walk_at "tk"))
  | ((with_reducible refine' r_pr1 ?k0 ?_); (case k0 => walk_at "rng"))
  | ((with_reducible refine' r_pr2 ?k0 ?_); (case k0 => walk_at "rng"))
  | ((with_reducible refine' r_pr3d ?k0 ?_); (case k0 => walk_at "rng"))
  | ((with_reducible refine' r_isiI ?k0 ?_); (case k0 => walk_at "kit"))
  | ((with_reducible refine' r_isiB ?k0 ?_); (case k0 => walk_at "kit"))
  | ((with_reducible refine' r_isiS ?k0 ?_); (case k0 => walk_at "kit"))
  | ((with_reducible refine' r_isiN ?k0 ?_); (case k0 => walk_at "kit"))
  | ((with_reducible refine' r_isiT ?k0 ?k1 ?_); (case k0 => walk_at "tk"); (case k1 => walk_at "kit"))
  | ((with_reducible refine r_seqT ?_); (repeat (walk_at "rd1")); ((with_reducible refine' r_pseqT ?k0 ?_); (case k0 => walk_at "tk")))
  | ((with_reducible refine r_seqL ?_); (repeat (walk_at "rd1")); ((with_reducible refine' r_pseqL ?k0 ?_); (case k0 => walk_at "tk")))
  | ((with_reducible refine r_seqS ?_); (repeat (walk_at "rd1")); (with_reducible refine r_pseqS ?_)))
local macro_rules | `(tactic| walk_at "rd") => `(tactic| ((repeat (walk_at "rd1")); (try dsimp only)))
def sp_law_same (K : PySem.W.Frag) : Sp := fun vs H Q _ => ∃ (x y : V) (d : Dat), vs = [x, y] ∧ Rp K H x d ∧ Rp K H y d ∧ d.size ≤ 1000000 ∧ ∀ H', Same H H' → Q (.bl true) H'
abbrev N_law_same : List Str := ["got", "due", "stack", "pair", "k"]
def t_law_same (K : PySem.W.Frag) : TS :=
  tSeq (tAsg ((tLst (tCons ((tLst (tCons (tVar 0) (tCons (tVar 1) tNil)))) tNil))) (gName 2))
  (tSeq (tWhile ((tTru K (tVar 2))) (tSeq (tAsg ((tBM0 K "list" rPop (tVar 2))) (gName 3))
  ((tIfS ((tTru K ((tCB (rIsi K) (tCons ((tOp (rIx K) (tVar 3) ((tC (.int 1))))) (tCons ((tC (.ty "tuple"))) tNil)))))) (tSeq (tIfS ((tOr ((tNot ((tTru K ((tCB (rIsi K) (tCons ((tOp (rIx K) (tVar 3) ((tC (.int 0))))) (tCons ((tC (.ty "tuple"))) tNil)))))))) ((tTest (tOp (rNeU K) ((tCB (rLenU K) (tCons ((tOp (rIx K) (tVar 3) ((tC (.int 0))))) tNil))) ((tCB (rLenU K) (tCons ((tOp (rIx K) (tVar 3) ((tC (.int 1))))) tNil)))))))) ((tRet ((tC (.bl false))))) (tNext))
  ((tFor (iRng1 (tCons ((tCB (rLenU K) (tCons ((tOp (rIx K) (tVar 3) ((tC (.int 1))))) tNil))) tNil)) (gName 4) ((tDrop ((tBM K "list" rAppend (tVar 2) (tCons ((tLst (tCons ((tOp (rIx K) ((tOp (rIx K) (tVar 3) ((tC (.int 0))))) (tVar 4))) (tCons ((tOp (rIx K) ((tOp (rIx K) (tVar 3) ((tC (.int 1))))) (tVar 4))) tNil)))) tNil)))))))) ((tIfS ((tTru K ((tCB (rIsi K) (tCons ((tOp (rIx K) (tVar 3) ((tC (.int 1))))) (tCons ((tC (.ty "bool"))) tNil)))))) ((tIfS ((tOr ((tNot ((tTru K ((tCB (rIsi K) (tCons ((tOp (rIx K) (tVar 3) ((tC (.int 0))))) (tCons ((tC (.ty "bool"))) tNil)))))))) ((tTest (tOp (rNeU K) ((tOp (rIx K) (tVar 3) ((tC (.int 0))))) ((tOp (rIx K) (tVar 3) ((tC (.int 1)))))))))) ((tRet ((tC (.bl false))))) (tNext))) ((tIfS ((tTru K ((tCB (rIsi K) (tCons ((tOp (rIx K) (tVar 3) ((tC (.int 1))))) (tCons ((tC (.ty "int"))) tNil)))))) ((tIfS ((tOr ((tNot ((tTru K ((tCB (rIsi K) (tCons ((tOp (rIx K) (tVar 3) ((tC (.int 0))))) (tCons ((tC (.ty "int"))) tNil)))))))) ((tOr ((tTru K ((tCB (rIsi K) (tCons ((tOp (rIx K) (tVar 3) ((tC (.int 0))))) (tCons ((tC (.ty "bool"))) tNil)))))) ((tTest (tOp (rNeU K) ((tOp (rIx K) (tVar 3) ((tC (.int 0))))) ((tOp (rIx K) (tVar 3) ((tC (.int 1)))))))))))) ((tRet ((tC (.bl false))))) (tNext))) ((tIfS ((tTru K ((tCB (rIsi K) (tCons ((tOp (rIx K) (tVar 3) ((tC (.int 1))))) (tCons ((tC (.ty "str"))) tNil)))))) ((tIfS ((tOr ((tNot ((tTru K ((tCB (rIsi K) (tCons ((tOp (rIx K) (tVar 3) ((tC (.int 0))))) (tCons ((tC (.ty "str"))) tNil)))))))) ((tTest (tOp (rNeU K) ((tOp (rIx K) (tVar 3) ((tC (.int 0))))) ((tOp (rIx K) (tVar 3) ((tC (.int 1)))))))))) ((tRet ((tC (.bl false))))) (tNext))) ((tIfS ((tTest (tOp rNotNU ((tOp (rIx K) (tVar 3) ((tC (.int 0))))) ((tC .non))))) ((tRet ((tC (.bl false))))) (tNext)))))))))))))
  ((tRet ((tC (.bl true))))))
theorem len_law_same {K : PySem.W.Frag} {vs : List V} {H : Hp} {Q : VK} {E : XK} (h : sp_law_same K vs H Q E) : vs.length = 2 := by
  obtain ⟨x, y, d, rfl, _⟩ := h; rfl
theorem r_neSame {K : PySem.W.Frag} {x : V} {H : Hp} {Q : VK} (h : scal x x = true) (q : Q (.bl false) H) : rNeU K x x H Q := .inl ⟨h, by rw [decide_eq_true rfl]; exact q⟩
structure Item where
  q : Addr
  x : V
  y : V
  d : Dat
def Items (K : PySem.W.Frag) (H : Hp) (s : Addr) (its : List Item) : Prop := ∀ it ∈ its, it.q ≠ s ∧ H it.q = some (.lst [it.x, it.y]) ∧ Rp K H it.x it.d ∧ Rp K H it.y it.d
theorem Items.same {K : PySem.W.Frag} {H H' : Hp} {s : Addr} {its : List Item} (h : Items K H s its) (e : Same H H') : Items K H' s its := fun it hi =>
  let ⟨a, b, c, d⟩ := h it hi
  ⟨a, e _ _ b, rp_same e c, rp_same e d⟩
theorem Items.but {K : PySem.W.Frag} {H H' : Hp} {s : Addr} {its : List Item} {ys : List V} (h : Items K H s its) (e : But s H H') (hs : H s = some (.lst ys)) : Items K H' s its := fun it hi =>
  let ⟨a, b, c, d⟩ := h it hi
  ⟨a, e _ _ a b, rp_but e hs c, rp_but e hs d⟩
def total (its : List Item) : Nat := (its.map fun it => it.d.size).sum
def refs (its : List Item) : List V := its.map fun it => .ref it.q
theorem total_append (a b : List Item) : total (a ++ b) = total a + total b := by simp [total]
theorem refs_append (a b : List Item) : refs (a ++ b) = refs a ++ refs b := by simp [refs]
theorem length_le_total : ∀ its : List Item, its.length ≤ total its
  | [] => Nat.le_refl _
  | it :: r => by
    have h1 := length_le_total r
    have h2 := it.d.size_pos
    show r.length + 1 ≤ total ([it] ++ r)
    rw [total_append]
    simp [total] at *
    omega
theorem sizes_take : ∀ (ds : List Dat) (i : Nat) (d : Dat), ds[i]? = some d → Dat.sizes (ds.take (i + 1)) = Dat.sizes (ds.take i) + d.size
  | [], _, _, h => by simp at h
  | e :: r, 0, d, h => by simp at h; subst h; simp [Dat.sizes]
  | e :: r, i + 1, d, h => by
    have := sizes_take r i d (by simpa using h)
    simp only [List.take_succ_cons, Dat.sizes, this]
    omega
theorem sizes_take_le : ∀ (ds : List Dat) (i : Nat), Dat.sizes (ds.take i) ≤ Dat.sizes ds
  | [], i => by simp [Dat.sizes]
  | e :: r, 0 => by simp [Dat.sizes]
  | e :: r, i + 1 => by
    have := sizes_take_le r i
    simp only [List.take_succ_cons, Dat.sizes]
    omega
theorem len_sizes : ∀ (ds : List Dat), ds.length ≤ Dat.sizes ds
  | [] => by simp [Dat.sizes]
  | e :: r => by
    have := len_sizes r
    have := e.size_pos
    simp only [List.length_cons, Dat.sizes]
    omega
theorem pure_law_same {K : PySem.W.Frag} {vs : List V} {H : Hp} {Q : VK} {E : XK} (h : sp_law_same K vs H Q E) : t_law_same K (En Q) (start N_law_same vs) H := by
  obtain ⟨x0, y0, d0, rfl, hx0, hy0, hd0, q⟩ := h
  unfold t_law_same
  walk_at "rd"
  intro p1 H1 np1 s1 e1
  walk_at "rd"
  intro st H2 nst s2 e2
  walk_at "rd"
  have hne : p1 ≠ st := ne_of_none e1 nst
  refine r_while (fun m σ H' => ∃ (its : List Item) (z3 z4 : Option V), σ = [some x0, some y0, some (.ref st), z3, z4] ∧ Same H H' ∧ H st = none ∧ H' st = some (.lst (refs its)) ∧ Items K H' st its ∧ m = total its ∧ m ≤ 1000000) d0.size
    ⟨[⟨p1, x0, y0, d0⟩], none, none, rfl, s1.trans s2, s1.free nst, e2, ?_, ?_, hd0⟩ (fun m σ H' hW => ?_)
  · intro it hi
    rw [List.mem_singleton] at hi
    subst hi
    exact ⟨hne, s2 _ _ e1, rp_same (s1.trans s2) hx0, rp_same (s1.trans s2) hy0⟩
  · simp [total]
  obtain ⟨its, z3, z4, rfl, s3, nst0, e3, hI, rfl, hm⟩ := hW
  walk_at "rd"
  rcases List.eq_nil_or_concat its with rfl | ⟨rest, it, rfl⟩
  · -- the stack is empty
    refine r_F ?_
    walk_at "rd"
    exact q _ s3
  · rw [List.concat_eq_append] at *
    have hb : (!(refs (rest ++ [it])).isEmpty) = true := by rw [refs_append]; simp [refs]
    rw [if_pos hb]
    have e3' : H' st = some (.lst (refs rest ++ [.ref it.q])) := by rw [e3, refs_append]; rfl
    obtain ⟨hq, eq, hx, hy⟩ := hI it (by simp)
    have hR : Items K H' st rest := fun i hi => hI i (by simp [hi])
    obtain ⟨q0, x, y, d⟩ := it
    dsimp only at hq eq hx hy e3'
    have ht : total (rest ++ [⟨q0, x, y, d⟩]) = total rest + d.size := by rw [total_append]; simp [total]
    rw [ht] at hm ⊢
    walk_at "rd"
    intro H4 b4 e4
    have eq4 : H4 q0 = some (.lst [x, y]) := b4 _ _ hq eq
    have hx4 := rp_but b4 e3' hx
    have hy4 := rp_but b4 e3' hy
    have hR4 := hR.but b4 e3'
    have s4 : Same H H4 := same_but s3 b4 nst0
    have dp := d.size_pos
    have fin : ∃ m', m' < total rest + d.size ∧ ∃ (its : List Item) (y3 y4 : Option V), ([some x0, some y0, some (.ref st), some (.ref q0), z4] : L2.St) = [some x0, some y0, some (.ref st), y3, y4] ∧ Same H H4 ∧ H st = none ∧ H4 st = some (.lst (refs its)) ∧ Items K H4 st its ∧ m' = total its ∧ m' ≤ 1000000 :=
      ⟨total rest, by omega, rest, _, _, rfl, s4, nst0, e4, hR4, rfl, by omega⟩
    walk_at "rd"
    cases hy4 with
    | @tup b ys ds hbt hrb =>
      cases hx4 with
      | @tup a xs _ ha hra =>
        have lx := rpL_length hra
        have ly := rpL_length hrb
        walk_at "rd"
        rw [lx, ly]
        refine r_iteNP rfl ?_
        walk_at "rd"
        have hl := len_sizes ds
        have hs : (Dat.tup ds).size = 1 + Dat.sizes ds := by simp [Dat.size]
        refine r_pr1 ⟨by omega, by omega⟩ ?_
        rw [Int.toNat_natCast, ly]
        refine r_forRange0 (fun i σ' H' => ∃ (its : List Item) (z : Option V), σ' = [some x0, some y0, some (.ref st), some (.ref q0), z] ∧ Same H H' ∧ H' st = some (.lst (refs its)) ∧ Items K H' st its ∧ total its = total rest + Dat.sizes (ds.take i) ∧
          H' q0 = some (.lst [.ref a, .ref b]) ∧ SqT K H' a xs ∧ SqT K H' b ys ∧ RpL K H' xs ds ∧ RpL K H' ys ds)
          ⟨rest, _, rfl, s4, e4, hR4, by simp [Dat.sizes], eq4, ha, hbt, hra, hrb⟩ (fun i σ' H5 hi hP => ?_) (fun σ' H5 hP => ?_)
        · obtain ⟨its, z, rfl, s5, e5, hI5, ht5, eq5, ha5, hb5, hra5, hrb5⟩ := hP
          have hd : ds[i]? = some ds[i] := List.getElem?_eq_getElem hi
          obtain ⟨vx, gx, rx⟩ := rpL_get hra5 hd
          obtain ⟨vy, gy, ry⟩ := rpL_get hrb5 hd
          have gx' := atI_nat gx
          have gy' := atI_nat gy
          walk_at "rd"
          intro p H6 np s6 e6
          have hpq : p ≠ st := (ne_of_none e5 np).symm
          have e56 := s6 _ _ e5
          have hle : Dat.sizes (ds.take (i + 1)) ≤ Dat.sizes ds := sizes_take_le ds _
          have h1 := sizes_take ds i _ hd
          have h2 := (ds[i]).size_pos
          have hz : (refs its).length ≤ total its := by rw [show (refs its).length = its.length by simp [refs]]; exact length_le_total its
          walk_at "rd"
          intro H7 b7 e7
          walk_at "rd"
          refine ⟨its ++ [⟨p, vx, vy, ds[i]⟩], _, rfl, same_but (s5.trans s6) b7 nst0, by rw [e7, refs_append]; rfl, ?_, ?_, b7 _ _ hq (s6 _ _ eq5), sqT_but b7 e56 (sqT_same s6 ha5), sqT_but b7 e56 (sqT_same s6 hb5), rpL_keep (tk_but b7 e56) (rpL_keep (tk_same s6) hra5), rpL_keep (tk_but b7 e56) (rpL_keep (tk_same s6) hrb5)⟩
          · intro it hit
            rcases List.mem_append.mp hit with hit | hit
            · exact ((hI5.same s6).but b7 e56) it hit
            · rw [List.mem_singleton] at hit
              subst hit
              exact ⟨hpq, b7 _ _ hpq e6, rp_but b7 e56 (rp_same s6 rx), rp_but b7 e56 (rp_same s6 ry)⟩
          · rw [total_append, ht5, h1]
            simp [total]
            omega
        · obtain ⟨its, z, rfl, s5, e5, hI5, ht5, eq5, ha5, hb5, hra5, hrb5⟩ := hP
          rw [List.take_length] at ht5
          exact ⟨total its, by omega, its, _, _, rfl, s5, nst0, e5, hI5, rfl, by omega⟩
    | bl c =>
      cases hx4 with
      | bl _ =>
        walk_at "rd"
        refine r_neSame rfl ?_
        walk_at "rd"
        exact fin
    | int c =>
      cases hx4 with
      | int _ =>
        walk_at "rd"
        refine r_iteNP rfl ?_
        walk_at "rd"
        exact fin
    | str c =>
      cases hx4 with
      | str _ =>
        walk_at "rd"
        refine r_neSame rfl ?_
        walk_at "rd"
        exact fin
    | non =>
      cases hx4 with
      | non =>
        walk_at "rd"
        refine r_iteNP rfl ?_
        walk_at "rd"
        exact fin
end Kb
set_option maxRecDepth 100000
set_option linter.all false
namespace Kb
def IsRow (r : List Int) (n : Nat) : Prop := r.length = n ∧ r.Nodup ∧ ∀ x ∈ r, 1 ≤ x ∧ x ≤ (n : Int)
def mulR (x y : List Int) : List Int := y.map fun b => x.getD (b - 1).toNat 0
def roundsR (n : Nat) : List Int := (List.range n).map fun (i : Nat) => 1 + (i : Int)
def nx (r : List Int) (b : Int) : Int := r.getD (b - 1).toNat 0
theorem nodup_inj {α : Type} {l : List α} (nd : l.Nodup) {i j : Nat} {hi : i < l.length} {hj : j < l.length} (e : l[i] = l[j]) : i = j := by
  rw [List.nodup_iff_pairwise_ne, List.pairwise_iff_getElem] at nd
  rcases Nat.lt_trichotomy i j with h | h | h
  · exact absurd e (nd i j hi hj h)
  · exact h
  · exact absurd e.symm (nd j i hj hi h)
theorem nodup_erase_len {α : Type} [DecidableEq α] {l : List α} {x : α} (h : x ∈ l) : (l.erase x).length + 1 = l.length := by
  rw [List.length_erase_of_mem h]
  have := List.length_pos_of_mem h
  omega
theorem nodup_le : ∀ (n : Nat) (l : List Int), l.Nodup → (∀ x ∈ l, 1 ≤ x ∧ x ≤ (n : Int)) → l.length ≤ n
  | 0, l, _, h => by
    cases l with
    | nil => exact Nat.le_refl _
    | cons x r => have := h x List.mem_cons_self; omega
  | n + 1, l, nd, h => by
    by_cases hm : ((n : Int) + 1) ∈ l
    · have h1 := nodup_le n (l.erase ((n : Int) + 1)) (nd.erase _) (fun x hx => by
        have h2 := h x (List.mem_of_mem_erase hx)
        have h3 : x ≠ (n : Int) + 1 := fun e => by
          subst e
          exact (List.Nodup.mem_erase_iff nd).mp hx |>.1 rfl
        omega)
      have := nodup_erase_len hm
      omega
    · have := nodup_le n l nd (fun x hx => by
        have h2 := h x hx
        have h3 : x ≠ (n : Int) + 1 := fun e => hm (e ▸ hx)
        omega)
      omega
/-- a row holds every bell -/
theorem row_mem {r : List Int} {n : Nat} (h : IsRow r n) {b : Int} (h1 : 1 ≤ b) (h2 : b ≤ n) : b ∈ r := by
  refine Decidable.byContradiction fun hm => ?_
  have := nodup_le n (b :: r) (List.nodup_cons.mpr ⟨hm, h.2.1⟩) (fun x hx => by
    rcases List.mem_cons.mp hx with rfl | hx
    · exact ⟨h1, h2⟩
    · exact h.2.2 x hx)
  rw [List.length_cons, h.1] at this
  omega
section
variable {r : List Int} {n : Nat} (h : IsRow r n)
include h
theorem nx_get {b : Int} (h1 : 1 ≤ b) (h2 : b ≤ n) : ∃ hl : (b - 1).toNat < r.length, nx r b = r[(b - 1).toNat] := by
  have hl : (b - 1).toNat < r.length := by rw [h.1]; omega
  exact ⟨hl, by unfold nx; rw [List.getD_eq_getElem?_getD, List.getElem?_eq_getElem hl]; rfl⟩
theorem nx_mem {b : Int} (h1 : 1 ≤ b) (h2 : b ≤ n) : 1 ≤ nx r b ∧ nx r b ≤ n := by
  obtain ⟨hl, e⟩ := nx_get h h1 h2
  rw [e]
  exact h.2.2 _ (List.getElem_mem hl)
theorem nx_inj {a b : Int} (ha1 : 1 ≤ a) (ha2 : a ≤ n) (h1 : 1 ≤ b) (h2 : b ≤ n) (e : nx r a = nx r b) : a = b := by
  obtain ⟨hl, e1⟩ := nx_get h h1 h2
  obtain ⟨ha, e2⟩ := nx_get h ha1 ha2
  rw [e1, e2] at e
  have := nodup_inj h.2.1 e
  omega
end
theorem mem_rounds {n : Nat} {x : Int} : x ∈ roundsR n ↔ 1 ≤ x ∧ x ≤ (n : Int) := by
  unfold roundsR
  rw [List.mem_map]
  constructor
  · rintro ⟨i, hi, rfl⟩
    rw [List.mem_range] at hi
    omega
  · rintro ⟨h1, h2⟩
    exact ⟨(x - 1).toNat, List.mem_range.mpr (by omega), by omega⟩
theorem mulR_len (x y : List Int) : (mulR x y).length = y.length := by unfold mulR; rw [List.length_map]
theorem nx_mul {x y : List Int} {n : Nat} (hy : IsRow y n) {b : Int} (h1 : 1 ≤ b) (h2 : b ≤ n) : nx (mulR x y) b = nx x (nx y b) := by
  obtain ⟨hl, e⟩ := nx_get hy h1 h2
  rw [e]
  unfold nx mulR
  rw [List.getD_eq_getElem?_getD, List.getElem?_map, List.getElem?_eq_getElem hl]
  rfl
theorem mulR_row' {x y : List Int} {n : Nat} (hx : IsRow x n) (hy : IsRow y n) : IsRow (mulR x y) n := by
  refine ⟨by rw [mulR_len]; exact hy.1, ?_, ?_⟩
  · unfold mulR
    rw [List.nodup_iff_pairwise_ne, List.pairwise_map]
    refine (List.nodup_iff_pairwise_ne.mp hy.2.1).imp_of_mem (fun {a b} ha hb hne e => hne ?_)
    have h1 := hy.2.2 a ha
    have h2 := hy.2.2 b hb
    exact nx_inj hx h1.1 h1.2 h2.1 h2.2 e
  · intro b hb
    unfold mulR at hb
    obtain ⟨c, hc, rfl⟩ := List.mem_map.mp hb
    have h1 := hy.2.2 c hc
    exact nx_mem hx h1.1 h1.2
theorem roundsR_row' (n : Nat) : IsRow (roundsR n) n := by
  refine ⟨by simp [roundsR], ?_, fun x hx => mem_rounds.mp hx⟩
  unfold roundsR
  rw [List.nodup_iff_pairwise_ne, List.pairwise_map]
  exact List.nodup_range.imp fun h e => h (by omega)
theorem nx_rounds {n : Nat} {b : Int} (h1 : 1 ≤ b) (h2 : b ≤ n) : nx (roundsR n) b = b := by
  unfold nx roundsR
  rw [List.getD_eq_getElem?_getD, List.getElem?_map, List.getElem?_range (by omega)]
  show 1 + (((b - 1).toNat : Nat) : Int) = b
  omega
/-- rows are told by their bells -/
theorem row_ext {x y : List Int} {n : Nat} (hx : IsRow x n) (hy : IsRow y n) (e : ∀ b : Int, 1 ≤ b → b ≤ n → nx x b = nx y b) : x = y := by
  refine List.ext_getElem (hx.1.trans hy.1.symm) fun i h1 h2 => ?_
  have hi : i < n := by rw [← hx.1]; exact h1
  have := e (1 + (i : Int)) (by omega) (by omega)
  unfold nx at this
  rw [show (1 + (i : Int) - 1).toNat = i by omega] at this
  rw [List.getD_eq_getElem?_getD, List.getD_eq_getElem?_getD, List.getElem?_eq_getElem h1, List.getElem?_eq_getElem h2] at this
  exact this
def cnt (x : Int) (l : List Int) : Nat := (l.filter fun y => decide (y < x)).length
end Kb
set_option Elab.async false
set_option linter.all false
set_option maxRecDepth 100000
set_option maxHeartbeats 4000000
namespace Kb
open PySem PySem.Spec PyProof.Rows L2
local macro_rules | `(tactic| walk_at "tk") => `(tactic| first
  | assumption
  | ((with_reducible refine' sqT_of ?k); (case k => assumption))
  | ((with_reducible refine' sqT_ofD ?k); (case k => assumption))
  | ((with_reducible refine' noD_of ?k); (case k => assumption))
  | ((with_reducible refine' noD_same ?s ?k); (case s => assumption); (case k => walk_at "tk"))
  | ((with_reducible refine' sqL_of ?k); (case k => assumption))
  | ((with_reducible refine' sqT_same ?s ?k); (case s => assumption); (case k => walk_at "tk"))
  | ((with_reducible refine' sqL_same ?s ?k); (case s => assumption); (case k => walk_at "tk"))
  | ((with_reducible refine' sqT_but ?s ?t ?k); (case s => assumption); (case t => walk_at "tk"); (case k => walk_at "tk"))
  | ((with_reducible refine' sqL_but ?s ?t ?k); (case s => assumption); (case t => walk_at "ne"); (case k => walk_at "tk"))
  | ((with_reducible refine' sqL_of ?k); (case k => walk_at "tk"))
  | ((with_reducible refine' sqT_of ?k); (case k => walk_at "tk"))
  | ((with_reducible refine' at_same ?s ?k); (case s => assumption); (case k => walk_at "tk"))
  | ((with_reducible refine' at_but ?s ?t ?k); (case s => assumption); (case t => walk_at "ne"); (case k => walk_at "tk")))
local macro_rules | `(tactic| walk_at "ne") => `(tactic| first
  | assumption
  | (refine Ne.symm ?_; assumption)
  | exact ne_of_none (by assumption) (by assumption)
  | exact (ne_of_none (by assumption) (by assumption)).symm)
local macro_rules | `(tactic| walk_at "side") => `(tactic| first
  | assumption
  | omega
  | (simp only [sizeLine_eq, List.length_cons, List.length_nil, List.length_map]; omega)
  | (show _ ≤ sizeLine; decide))
local macro_rules | `(tactic| walk_at "kit") => `(tactic| first
  | (show kitB _ _ = some true; decide +kernel)
  | (show kitB _ _ = some false; decide +kernel))
local macro_rules | `(tactic| walk_at "rng") => `(tactic| first
  | (refine ⟨by omega, by omega, by omega, by omega⟩)
  | (refine ⟨by omega, by omega⟩)
  | ((simp only [List.length_map]); (refine ⟨by omega, by omega, by omega, by omega⟩))
  | ((simp only [List.length_map]); (refine ⟨by omega, by omega⟩)))
local macro_rules | `(tactic| walk_at "rd1") => `(tactic| first
  | with_reducible refine r_seq ?_
  | ((with_reducible refine' r_var ?k0 ?_); (case k0 => rfl))
  | with_reducible refine r_op ?_
  | with_reducible refine r_c ?_
  | with_reducible refine r_asg ?_
  | with_reducible refine r_name ?_
  | with_reducible refine r_cons ?_
  | with_reducible refine r_nil ?_
  | with_reducible refine r_CB ?_
  | with_reducible refine r_if ?_
  | with_reducible refine r_test ?_
  | with_reducible refine r_k ?_
  | with_reducible refine r_T ?_
  | with_reducible refine r_F ?_
  | with_reducible refine r_nT ?_
  | with_reducible refine r_nF ?_
  | with_reducible refine r_ret ?_
  | with_reducible refine r_drop ?_
  | with_reducible refine r_next ?_
  | with_reducible refine r_call ?_
  | with_reducible refine r_addI ?_
  | with_reducible refine r_subI ?_
  | with_reducible refine r_ltI ?_
  | with_reducible refine r_gtI ?_
  | with_reducible refine r_leI ?_
  | with_reducible refine r_geI ?_
  | with_reducible refine r_eqI ?_
  | with_reducible refine r_neI ?_
  | with_reducible refine r_int ?_
  | with_reducible refine r_abs ?_
  | with_reducible refine r_not ?_
  | with_reducible refine r_and ?_
  | with_reducible refine r_or ?_
  | with_reducible refine r_tru ?_
  | with_reducible refine r_truB ?_
  | with_reducible refine r_lst ?_
  | with_reducible refine r_tup ?_
  | with_reducible refine r_BM ?_
  | with_reducible refine r_BM0 ?_
  | with_reducible refine r_tyS ?_
  | with_reducible refine r_gsub ?_
  | with_reducible refine r_then ?_
  | with_reducible refine r_lstRg ?_
  | with_reducible refine r_tupRg ?_
  | with_reducible refine r_rg2 ?_
  | with_reducible refine r_rg1 ?_
  | with_reducible refine r_ii ?_
  | with_reducible refine r_i ?_
  | with_reducible refine r_ipI ?_
  | with_reducible refine r_un ?_
  | with_reducible refine r_neg ?_
  | with_reducible refine r_isN ?_
  | with_reducible refine r_notN ?_
  | with_reducible refine r_notV ?_
  | with_reducible refine r_pnot ?_
  | with_reducible refine r_pif ?_
  | with_reducible refine r_andV ?_
  | with_reducible refine r_orV ?_
  | with_reducible refine r_ifE ?_
  | with_reducible refine r_chain ?_
  | with_reducible refine r_sl ?_
  | with_reducible refine r_noPart ?_
  | with_reducible refine r_part ?_
  | with_reducible refine r_brk ?_
  | with_reducible refine r_cont ?_
  | with_reducible refine r_retN ?_
  | with_reducible refine r_truI ?_
  | with_reducible refine r_B ?_
  | with_reducible refine r_for ?_
  | with_reducible refine r_rng1 ?_
  | with_reducible refine r_rng2 ?_
  | with_reducible refine r_rng3 ?_
  | with_reducible refine r_body ?_
  | with_reducible refine r_lc ?_
  | with_reducible refine r_yes ?_
  | ((with_reducible refine' r_mod ?k0 ?_); (case k0 => walk_at "side"))
  | ((with_reducible refine' r_mulI ?k0 ?_); (case k0 => first | exact Or.inl ⟨by omega, by omega⟩ | exact Or.inr ⟨by omega, by omega⟩))
  | ((with_reducible refine' r_lenL ?k0 ?_); (case k0 => walk_at "tk"))
  | ((with_reducible refine' r_lenT ?k0 ?_); (case k0 => walk_at "tk"))
  | ((with_reducible refine' r_truL ?k0 ?_); (case k0 => walk_at "tk"))
  | ((with_reducible refine' r_truT ?k0 ?_); (case k0 => walk_at "tk"))
  | ((with_reducible refine' r_ixL ?k0 ?k1 ?_); (case k0 => walk_at "tk"); (case k1 => first | assumption | rfl))
  | ((with_reducible refine' r_ixT ?k0 ?k1 ?_); (case k0 => walk_at "tk"); (case k1 => first | assumption | rfl))
  | ((with_reducible refine' r_new ?k0 ?_); (case k0 => walk_at "side"))
  | ((with_reducible refine' r_tyL ?k0 ?_); (case k0 => walk_at "tk"))
  | ((with_reducible refine' r_append ?k0 ?k1 ?_); (case k0 => walk_at "tk"); (case k1 => walk_at "side"))
  | ((with_reducible refine' r_setL ?k0 ?k1 ?_); (case k0 => walk_at "tk"); (case k1 => first | assumption | rfl))
  | ((with_reducible refine' r_kTupL ?k0 ?_); (case k0 => walk_at "tk"))
  | ((with_reducible refine' r_kTupT ?k0 ?_); (case k0 => walk_at "tk"))
  | ((with_reducible refine' r_listL ?k0 ?_); (case k0 => walk_at "tk"))
  | ((with_reducible refine' r_listT ?k0 ?_); (case k0 => walk_at "tk"))
  | ((with_reducible refine' r_aug ?k0 ?_); (case k0 => rfl))
  | ((with_reducible refine' r_lenS ?k0 ?_); (case k0 => walk_at "side"))
  | ((with_reducible refine' r_pop ?k0 ?_); (case k0 => walk_at "tk"))
  | ((with_reducible refine' r_pr1 ?k0 ?_); (case k0 => walk_at "rng"))
  | ((with_reducible refine' r_pr2 ?k0 ?_); (case k0 => walk_at "rng"))
  | ((with_reducible refine' r_pr3d ?k0 ?_); (case k0 => walk_at "rng"))
  | ((with_reducible refine' r_isiI ?k0 ?_); (case k0 => walk_at "kit"))
  | ((with_reducible refine' r_isiB ?k0 ?_); (case k0 => walk_at "kit"))
  | ((with_reducible refine' r_isiS ?k0 ?_); (case k0 => walk_at "kit"))
  | ((with_reducible refine' r_isiN ?k0 ?_); (case k0 => walk_at "kit"))
  | ((with_reducible refine' r_isiT ?k0 ?k1 ?_); (case k0 => walk_at "tk"); (case k1 => walk_at "kit"))
  | ((with_reducible refine r_seqT ?_); (repeat (walk_at "rd1")); ((with_reducible refine' r_pseqT ?k0 ?_); (case k0 => walk_at "tk")))
  | ((with_reducible refine r_seqL ?_); (repeat (walk_at "rd1")); ((with_reducible refine' r_pseqL ?k0 ?_); (case k0 => walk_at "tk")))
  | ((with_reducible refine r_seqS ?_); (repeat (walk_at "rd1")); (with_reducible refine r_pseqS ?_)))
local macro_rules | `(tactic| walk_at "rd") => `(tactic| ((repeat (walk_at "rd1")); (try dsimp only)))
theorem eqvAll_ints : ∀ ns ms : List Int, PyData.eqvAll (ns.map PyData.int) (ms.map PyData.int) = decide (ns = ms)
  | [], [] => by simp [PyData.eqvAll]
  | [], _ :: _ => by simp [PyData.eqvAll]
  | _ :: _, [] => by simp [PyData.eqvAll]
  | a :: r, b :: t => by
    simp only [List.map_cons, PyData.eqvAll, PyData.eqv, eqvAll_ints r t]
    by_cases h : a = b <;> by_cases h' : r = t <;> simp [h, h']
theorem shaped_ints (ns : List Int) : SeqAt.shaped (.tuple (ns.map PyData.int)) = true := by
  simp [SeqAt.shaped, PyData.canLay0, PyData.depth, PySem.W.ke_canLayAll0, PySem.W.ke_depthAll]
section
variable {K : PySem.W.Frag} {H : Hp} {Q : VK} {a b : Addr} {ns ms : List Int}
theorem dpAll_ints : ∀ ns : List Int, DpAll K H (ns.map V.int) (ns.map PyData.int)
  | [] => .nil
  | n :: r => .cons (.int n) (dpAll_ints r)
end
theorem atI_row {r : List Int} {n : Nat} (h : IsRow r n) {b : Int} (h1 : 1 ≤ b) (h2 : b ≤ n) : atI (r.map V.int) (b - 1) = some (.int (r.getD (b - 1).toNat 0)) := by
  have hl : (b - 1).toNat < r.length := by rw [h.1]; omega
  have e : (((b - 1).toNat : Nat) : Int) = b - 1 := by omega
  have h4 := atI_nat (xs := r.map V.int) (j := (b - 1).toNat) (v := .int (r.getD (b - 1).toNat 0)) (by rw [List.getElem?_map, List.getElem?_eq_getElem hl, List.getD_eq_getElem?_getD, List.getElem?_eq_getElem hl]; rfl)
  rw [e] at h4
  exact h4
/-- a promise that gives a row -/
def sp_law_rounds (K : PySem.W.Frag) : Sp := fun vs H Q _ => ∃ n : Nat, vs = [.int (n : Int)] ∧ n ≤ 1000 ∧ ∀ p H', H p = none → Same H H' → SqT K H' p ((roundsR n).map V.int) → NoD H' p → Q (.ref p) H'
def sp_law_times (K : PySem.W.Frag) : Sp := fun vs H Q _ => ∃ (a b : Addr) (x y : List Int) (n : Nat), vs = [.ref a, .ref b] ∧ SqT K H a (x.map V.int) ∧ SqT K H b (y.map V.int) ∧ IsRow x n ∧ IsRow y n ∧ n ≤ 1000 ∧ ∀ p H', H p = none → Same H H' → SqT K H' p ((mulR x y).map V.int) → NoD H' p → Q (.ref p) H'
def sp_law_row_draw (K : PySem.W.Frag) : Sp := fun vs H Q _ => ∃ (p : Addr) (n : Nat), vs = [.ref p, .int (n : Int)] ∧ Pl H p ∧ n ≤ 1000 ∧ ∀ a H' r, H a = none → But p H H' → Pl H' p → SqT K H' a (r.map V.int) → IsRow r n → NoD H' a → Q (.ref a) H'
abbrev N_law_rounds : List Str := ["stage"]
def t_law_rounds (K : PySem.W.Frag) : TS :=
  (tRet ((tThen ((tLstRg (tRg2 ((tC (.int 1))) ((tOp (rAddU K) (tVar 0) ((tC (.int 1)))))))) (kTupD K))))
abbrev N_law_times : List Str := ["first", "second", "bell"]
def t_law_times (K : PySem.W.Frag) : TS :=
  (tRet ((tThen ((tLc ((iSeqU K (tVar 1))) ((gName 2)) (tYes) ((tOp (rIx K) (tVar 0) ((tOp rSubU (tVar 2) ((tC (.int 1))))))) [2])) (kTupD K))))
abbrev N_law_row_draw : List Str := ["pool", "stage", "left", "out", "k"]
def t_law_row_draw (K : PySem.W.Frag) : TS :=
  tSeq (tAsg ((tLstRg (tRg2 ((tC (.int 1))) ((tOp (rAddU K) (tVar 1) ((tC (.int 1)))))))) (gName 2))
  (tSeq (tAsg ((tLst tNil)) (gName 3))
  (tSeq (tFor (iRng1 (tCons (tVar 1) tNil)) (gName 4) ((tDrop ((tBM K "list" rAppend (tVar 3) (tCons ((tBM K "list" rPopAt (tVar 2) (tCons ((tCall (sp_law_draw K) [] E0 (tCons (tVar 0) (tCons ((tCB (rLenU K) (tCons (tVar 2) tNil))) tNil)))) tNil))) tNil))))))
  ((tRet ((tThen (tVar 3) (kTupD K)))))))
section
variable {K : PySem.W.Frag} {vs : List V} {H : Hp} {Q : VK} {E : XK}
theorem len_law_rounds (h : sp_law_rounds K vs H Q E) : vs.length = 1 := by
  obtain ⟨n, rfl, _⟩ := h; rfl
theorem len_law_times (h : sp_law_times K vs H Q E) : vs.length = 2 := by
  obtain ⟨a, b, x, y, n, rfl, _⟩ := h; rfl
theorem len_law_row_draw (h : sp_law_row_draw K vs H Q E) : vs.length = 2 := by
  obtain ⟨p, n, rfl, _⟩ := h; rfl
theorem rgV_rounds (n : Nat) : rgV 1 ((n : Int) + 1) = (roundsR n).map V.int := by
  unfold rgV roundsR
  rw [List.map_map, show ((n : Int) + 1 - 1).toNat = n by omega]
  rfl
theorem pure_law_rounds (h : sp_law_rounds K vs H Q E) : t_law_rounds K (En Q) (start N_law_rounds vs) H := by
  obtain ⟨n, rfl, hn, q⟩ := h
  unfold t_law_rounds
  walk_at "rd"
  refine r_new (RgOk.of_le (by omega) (by omega) (by omega) (by omega)) ?_
  intro p H1 np s e
  rw [rgV_rounds] at e
  walk_at "rd"
  intro p2 H2 np2 s2 e2
  exact q p2 H2 (s.free np2) (s.trans s2) (sqT_ofD e2) (noD_of e2)
theorem pure_law_times (h : sp_law_times K vs H Q E) : t_law_times K (En Q) (start N_law_times vs) H := by
  obtain ⟨a, b, x, y, n, rfl, hx, hy, rx, ry, hn, q⟩ := h
  unfold t_law_times
  walk_at "rd"
  refine r_lcTm (fun i v => match v with | .int b => .int (x.getD (b - 1).toNat 0) | _ => .non) hy (by rw [List.length_map, ry.1]; omega) (fun _ => rfl) (fun i v H1 Q' hi s k => ?_) (fun p H' np s e => ?_)
  · rw [List.getElem?_map] at hi
    obtain ⟨b', hb, rfl⟩ := Option.map_eq_some_iff.mp hi
    have hm := ry.2.2 b' (List.mem_of_getElem? hb)
    have ha := atI_row rx hm.1 hm.2
    walk_at "rd"
    exact k H1 (Same.refl _)
  · have ee : (List.range (y.map V.int).length).zipWith (fun (i : Nat) v => match v with | .int b => V.int (x.getD (b - 1).toNat 0) | _ => .non) (y.map V.int) = (mulR x y).map V.int := by
      apply List.ext_getElem?
      intro i
      rw [List.getElem?_zipWith, List.getElem?_map, List.length_map]
      unfold mulR
      rw [List.getElem?_map, List.getElem?_map]
      by_cases hi : i < y.length
      · rw [List.getElem?_range hi, List.getElem?_eq_getElem hi]; rfl
      · rw [List.getElem?_eq_none (by omega : y.length ≤ i)]
        simp
    rw [ee] at e
    walk_at "rd"
    intro p2 H2 np2 s2 e2
    exact q p2 H2 (s.free np2) (s.trans s2) (sqT_ofD e2) (noD_of e2)
theorem roundsR_row (n : Nat) : IsRow (roundsR n) n := by
  refine ⟨by simp [roundsR], ?_, ?_⟩
  · unfold roundsR
    rw [List.nodup_iff_pairwise_ne, List.pairwise_map]
    exact List.nodup_range.imp fun h e => h (by omega)
  · intro x hx
    obtain ⟨i, hi, rfl⟩ := List.mem_map.mp hx
    rw [List.mem_range] at hi
    omega
theorem pop_perm {os ls : List Int} {k : Nat} {v : Int} (h : ls[k]? = some v) : ((os ++ [v]) ++ ls.eraseIdx k).Perm (os ++ ls) := by
  rw [List.append_assoc]
  refine List.Perm.append_left os ?_
  have hk : k < ls.length := (List.getElem?_eq_some_iff.mp h).1
  have e : v = ls[k] := by rw [List.getElem?_eq_getElem hk] at h; exact (Option.some.inj h).symm
  subst e
  rw [List.eraseIdx_eq_take_drop_succ]
  have e2 : ls = ls.take k ++ ls[k] :: ls.drop (k + 1) := by
    rw [List.getElem_cons_drop]
    exact (List.take_append_drop k ls).symm
  conv => rhs; rw [e2]
  exact List.Perm.symm (List.perm_middle (a := ls[k]) (l₁ := ls.take k) (l₂ := ls.drop (k + 1)))
theorem IsRow.perm {a b : List Int} {n : Nat} (h : a.Perm b) (r : IsRow b n) : IsRow a n :=
  ⟨h.length_eq.trans r.1, h.nodup_iff.mpr r.2.1, fun x hx => r.2.2 x (h.mem_iff.mp hx)⟩
theorem map_eraseIdx {α β : Type} (f : α → β) : ∀ (l : List α) (k : Nat), (l.map f).eraseIdx k = (l.eraseIdx k).map f
  | [], _ => rfl
  | _ :: _, 0 => rfl
  | x :: r, k + 1 => by simp [List.eraseIdx_cons_succ, map_eraseIdx f r k]
theorem but_via {p l : Addr} {H H1 H2 : Hp} (a : But p H H1) (b : But l H1 H2) (h : H l = none) : But p H H2 := fun c o n e => b c o (ne_of_none e h) (a c o n e)
theorem pure_law_row_draw (h : sp_law_row_draw K vs H Q E) : t_law_row_draw K (En Q) (start N_law_row_draw vs) H := by
  obtain ⟨p, n, rfl, hP, hn, q⟩ := h
  unfold t_law_row_draw
  walk_at "rd"
  refine r_new (RgOk.of_le (by omega) (by omega) (by omega) (by omega)) ?_
  intro l H1 nl s1 e1
  rw [rgV_rounds] at e1
  walk_at "rd"
  intro o H2 no s2 e2
  have hpl : p ≠ l := by obtain ⟨x, y, z, hp⟩ := hP; exact ne_of_none hp nl
  have hpo : p ≠ o := by obtain ⟨x, y, z, hp⟩ := hP; exact ne_of_none (s1 _ _ hp) no
  have hlo : l ≠ o := ne_of_none e1 no
  walk_at "rd"
  rw [Int.toNat_natCast]
  refine r_forRange0 (fun i σ' H' => ∃ (os ls : List Int) (z : Option V), σ' = [some (.ref p), some (.int (n : Int)), some (.ref l), some (.ref o), z] ∧ But p H H' ∧ Pl H' p ∧ H' l = some (.lst (ls.map V.int)) ∧ H' o = some (.lst (os.map V.int)) ∧ IsRow (os ++ ls) n ∧ os.length = i)
    ⟨[], roundsR n, none, rfl, (Same.but s1).trans (Same.but s2), ?_, s2 _ _ e1, e2, roundsR_row n, rfl⟩ (fun i σ' H' hi hW => ?_) (fun σ' H' hW => ?_)
  · obtain ⟨x, y, z, hp⟩ := hP
    exact ⟨x, y, z, s2 _ _ (s1 _ _ hp)⟩
  · obtain ⟨os, ls, z, rfl, b, hP', el, eo, hr, ho⟩ := hW
    have hll : ls.length = n - i := by have := hr.1; rw [List.length_append] at this; omega
    walk_at "rd"
    refine ⟨p, _, rfl, hP', by rw [List.length_map]; omega, by rw [List.length_map]; omega, fun v H5 hv0 hv1 b5 hP5 => ?_⟩
    rw [List.length_map] at hv1
    have hk : v.toNat < ls.length := by omega
    have hl5 : H5 l = some (.lst (ls.map V.int)) := b5 _ _ hpl.symm el
    have ho5 : H5 o = some (.lst (os.map V.int)) := b5 _ _ hpo.symm eo
    walk_at "rd"
    refine r_popAt (k := v.toNat) (y := .int ls[v.toNat]) hl5 (by omega) (by rw [List.getElem?_map, List.getElem?_eq_getElem hk]; rfl) (by rw [List.length_map]; omega) ?_
    intro H6 b6 e6
    have ho6 := b6 _ _ hlo.symm ho5
    walk_at "rd"
    intro H7 b7 e7
    walk_at "rd"
    have hpk : ((os ++ [ls[v.toNat]]) ++ ls.eraseIdx v.toNat).Perm (os ++ ls) := pop_perm (List.getElem?_eq_getElem hk)
    refine ⟨os ++ [ls[v.toNat]], ls.eraseIdx v.toNat, _, rfl, but_via (but_via (b.trans b5) b6 nl) b7 (s1.free no), ?_, ?_, ?_, IsRow.perm hpk hr, by rw [List.length_append, ho]; rfl⟩
    · obtain ⟨x, y, z, hp⟩ := hP5
      exact ⟨x, y, z, b7 _ _ hpo (b6 _ _ hpl hp)⟩
    · rw [b7 _ _ hlo e6, map_eraseIdx]
    · rw [e7, List.map_append]; rfl
  · obtain ⟨os, ls, z, rfl, b, hP', el, eo, hr, ho⟩ := hW
    have hll : ls = [] := List.length_eq_zero_iff.mp (by have := hr.1; rw [List.length_append] at this; omega)
    subst hll
    rw [List.append_nil] at hr
    walk_at "rd"
    intro a H3 na s3 e3
    have hna : H a = none := by
      cases e : H a with
      | none => rfl
      | some u =>
        by_cases hap : a = p
        · subst hap
          obtain ⟨x, y, z, hp⟩ := hP'
          rw [hp] at na
          cases na
        · rw [b _ _ hap e] at na
          cases na
    refine q a H3 os hna (b.trans (Same.but s3)) ?_ (sqT_ofD e3) hr (noD_of e3)
    obtain ⟨x, y, z, hp⟩ := hP'
    exact ⟨x, y, z, s3 _ _ hp⟩
end
end Kb
set_option Elab.async false
set_option linter.all false
set_option maxRecDepth 100000
set_option maxHeartbeats 4000000
namespace Kb
open PySem PySem.Spec PyProof.Rows L2
/-- what the frame of an __init__ that says super() must say; D: the class that its body stands in -/
structure SupK (X : Cx) (D : Addr) : Prop where
  gs : Gl X "super"
  kc : X.env.kindOf "__class__" = some .free
  ks : X.env.kindOf "self" = some .local
  fn : ∃ (f : Addr) (oc : Value) (od : Option Addr) (fd : FuncData) (osl : Array (Option Value)) (ar : Arg), X.env.func = some f ∧ X.K.lookup f = some ⟨oc, od, .func fd, osl⟩ ∧ (fd.params.posonlyargs ++ fd.params.args).head? = some ar ∧ ar.arg = "self"
  cd : ∃ (cda : Addr) (ccl : Value) (cdd : Option Addr) (vs : Array Value) (ccs : Array (Option Value)) (file : Str) (tf : Tok), X.env.code = .ref cda ∧ X.K.lookup cda = some ⟨ccl, cdd, .fields vs, ccs⟩ ∧ vs[2]? = some (.str file tf) ∧ ((X.prog.main.file : Str) == file) = true
  cl : ∃ (cc : Addr) (cl : Value) (cld : Option Addr) (csl : Array (Option Value)), X.env.cells.lookup ("__class__" : Str) = some cc ∧ X.K.lookup cc = some ⟨cl, cld, .cell (some (.ref D)), csl⟩
  su : X.mg "super" = none
  tp : (X.prog.main.scope.names.lookup ("super" : Str)).isSome = false
  dc : ∃ cdD, PySem.W.clsIn X.K D = some cdD
section
variable {X : Cx} {pins : List (Addr × Obj)} {σ : L2.St} {H : Hp} {s : Shared} {a C D : Addr}
theorem exo_ne (T : OexC X.K C) (I : Inv X pins σ H s) (ea : H a = some (exo a C none)) : a ≠ C := by
  rintro rfl
  obtain ⟨nm, q, N, bs, bm, sn, sub, ab, col, dd, k0, k1, k2, k3, k5, hC, hbm⟩ := T.cls
  obtain ⟨t1, ho⟩ := exo_at I.hok ea
  have e := I.kIn _ _ hC
  rw [ho] at e
  cases e
theorem boot_super : bootBuiltins "super" = some (.type "super") := by first | boot_by_name | rfl | kernel_rfl
/-- a new object that is pinned -/
theorem pin_new {h' : Heap} {t' : Nat} {o : Obj} (I : Inv X pins σ H s) (k : ∀ b u, s.heap.get? b = some u → h'.get? b = some u) (e : h'.get? s.heap.objs.size = some o) (hn : ∀ v, o.data ≠ .cell v) :
    Inv X ((s.heap.objs.size, o) :: pins) σ H { s with heap := h', toks := t' } := by
  have J := I.kept (t' := t') k
  refine J.pins_of fun p hp => ?_
  rcases List.mem_cons.mp hp with rfl | hp
  · exact ⟨e, I.hok.fresh (Nat.le_refl _), Nat.ne_of_gt I.lt, I.nofs (Nat.le_refl _), hn⟩
  · exact J.pin p (List.mem_append_right _ hp)
theorem sup_base {body : List Stmt} {p0 p1 : Pos} {attr : Str} {whole : Sem Value} {Q : Value → Shared → Prop} {E : Value → Shared → Prop} (S : SupK X D) (I : Inv X pins σ H s) (hN : X.N[0]? = some ("self" : Str)) (hs : σ[0]? = some (some (V.ref a)))
    (T : OexC X.K C) (ea : H a = some (exo a C none)) (sub : PySem.W.mroIn X.K C (.ref D) = some true) (hat : (attr == ("__class__" : Str)) = false)
    (h : ∀ so s', Inv X ((so, PySem.W.ks_superObj D a C) :: pins) σ H s' → Q (.ref so) s') :
    _root_.PySem.wpAt (model X.prog X.w) X.A (.func body X.env) (attributeBase (.Call (.Name "super" p0) [] [] p1) attr X.env whole) Q E s := by
  obtain ⟨f, oc, od, fd, osl, ar, hfu, hf, hp, har⟩ := S.fn
  obtain ⟨cda, ccl, cdd, vs, ccs, file, tf, hco, hcode, hvs, hfile⟩ := S.cd
  obtain ⟨cc, cl, cld, csl, hcc, hcell⟩ := S.cl
  obtain ⟨cdD, hD⟩ := S.dc
  have KX := I.kIn
  have hg : X.env.globals = mainGlobals := I.ok.glob
  obtain ⟨m, hn, hlk⟩ := id I.loc
  obtain ⟨u, ru, lu⟩ := hlk 0 "self" (.ref a) hN hs (.inl S.ks)
  obtain rfl : u = Value.ref a := ru
  have hv : m "self" = some (.ref a) := by
    rcases lu with ⟨_, e⟩ | ⟨k, _⟩
    · exact e
    · rw [S.ks] at k
      rcases k with k | k <;> cases k
  obtain ⟨t1, ho⟩ := exo_at I.hok ea
  obtain ⟨oD, hD1, hD2⟩ : ∃ oD, s.heap.get? D = some oD ∧ oD.data = .cls cdD := by
    unfold PySem.W.clsIn at hD
    split at hD
    · rename_i c d cd' sl ho
      cases hD
      exact ⟨_, KX _ _ ho, rfl⟩
    · cases hD
  obtain ⟨hh, g, d, t, os⟩ := s
  refine ks_wpAt_super_base (env := X.env) S.gs S.kc hat hfu (KX _ _ hf) rfl hp hco (KX _ _ hcode) rfl hvs hfile S.tp ?_
  obtain ⟨mb, b1, b2⟩ := I.mod.blt
  refine PySem.W.ks_loadName_global I.ok.kind S.gs (Calls.loadGlobal_builtin (by rw [I.ok.glob]; exact I.mod.glob.keeps I.bk) S.su (by rw [I.ok.blt]; exact b1.keeps I.bk) ((b2 _ (by decide)).trans boot_super) ⟨rfl, ?_⟩)
  refine wpAny_loadName_free I.ok.kind S.kc hcc ⟨_, KX _ _ hcell, rfl⟩ ?_
  rw [har]
  refine wpAny_loadName_local I.ok.kind S.ks hn hv ?_
  refine ks_wpAny_isType_cls hD1 hD2 ⟨rfl, ?_⟩
  refine ks_wpAny_call_super hD1 hD2 ho rfl (fun c e => by cases e) (PySem.W.looks_mroIn KX sub) (fun h' e k => ?_)
  exact h _ _ (pin_new (s := ⟨hh, g, d, t, os⟩) (t' := t) I k e (fun v z => by cases z))
/-- super().__init__(e, ..), the next class ValueError: nothing of it is told -/
def tSupV (K : PySem.W.Frag) (D : Addr) (ta : TA) : TS := fun R σ H => ∃ a C : Addr, σ[0]? = some (some (V.ref a)) ∧ H a = some (exo a C none) ∧ OexC K C ∧ PySem.W.mroIn K C (.ref D) = some true ∧
  PySem.W.nsIn K PySem.cStatics "thirdparty.any" = some none ∧ PySem.W.ks_superIn K C D "__init__" = some (some (.builtin "ValueError.__init__")) ∧ PySem.W.subIn K (.ref C) (.type "ValueError") = some true ∧
  ta σ H fun vs H1 => vs.length ≤ 1000 ∧ H1 a = some (exo a C none) ∧ R.nx σ H1
/-- a statement that is run in its own frame -/
def PSat (X : Cx) (body : List Stmt) (st : Stmt) (t : TS) : Prop := ∀ (pins : List (Addr × Obj)) (s : Shared) (σ : L2.St) (H : Hp) (R : Ends), Inv X pins σ H s → t R σ H →
  _root_.PySem.wpAt (model X.prog X.w) X.A (.func body X.env) (exec st X.env) (SP X pins R) X.xe s
theorem sup_method {Q : Value × List Value → Shared → Prop} {E : Value → Shared → Prop} {A : Around} {pl : Sem Bool} {B i : String} {so : Addr} (KF : PySem.W.KxsFacts B i) (I : Inv X ((so, PySem.W.ks_superObj D a C) :: pins) σ H s) (T : OexC X.K C) (ea : H a = some (exo a C none))
    (opq : PySem.W.nsIn X.K PySem.cStatics "thirdparty.any" = some none) (hm : PySem.W.ks_superIn X.K C D "__init__" = some (some (.builtin i))) (hB : PySem.W.subIn X.K (.ref C) (.type B) = some true)
    (h : ∀ u s', Inv X ((u, PySem.W.kxs_mw i a) :: pins) σ H s' → Q (.ref u, []) s') : wpAny (model X.prog X.w) A (getMethod (.ref so) "__init__" pl) Q E s := by
  have KX := I.kIn
  obtain ⟨hso, _⟩ := I.pin _ (List.mem_append_right _ List.mem_cons_self)
  obtain ⟨t1, ho⟩ := exo_at I.hok ea
  have IA : PySem.W.InstAt s.heap a _ C none := ⟨ho, rfl, rfl, trivial⟩
  have hI : PySem.W.Looks (model X.prog X.w) s.heap (isInstance (.ref a) (.type B)) true := IA.type.andThen (PySem.W.looks_subIn KX hB)
  have hne := exo_ne T I ea
  obtain ⟨hh, g, d, t, os⟩ := s
  cases hc : PySem.W.clsIn X.K C with
  | none => unfold PySem.W.ks_superIn at hm; rw [hc] at hm; cases hm
  | some cd =>
    unfold PySem.W.ks_superIn at hm
    rw [hc] at hm
    refine PySem.W.kxs_getMethod KF hso (PySem.W.looks_opaque KX opq) (l₀ := cd.mro) (fun A Q E s k q => wpAny_bind ((PySem.W.looks_clsIn KX hc) A _ E s k (wpAny_pure q))) rfl KX hm hI hne (by decide) ?_
    have J := pin_new (s := ⟨hh, g, d, t, os⟩) (t' := t + 1) (o := PySem.W.kxs_mw i a) I (fun b o e => Heap.get?_push_of_some _ e) (Heap.get?_push_at rfl rfl) (fun v z => by cases z)
    exact h _ _ (J.pins_of fun p hp => J.pin p (List.mem_append_right _ (by
      rcases List.mem_cons.mp hp with rfl | hp
      · exact List.mem_cons_self
      · exact List.mem_cons_of_mem _ (List.mem_cons_of_mem _ hp))))
theorem sup_wrapper {u : Addr} {us : List Value} {Q : Value → Shared → Prop} {E : Value → Shared → Prop} {A : Around} (I : Inv X ((u, PySem.W.kxs_mw "ValueError.__init__" a) :: pins) σ H s) (T : OexC X.K C) (ea : H a = some (exo a C none)) (hl : us.length ≤ sizeLine)
    (h : ∀ s', Inv X pins σ H s' → Q .none s') : wpAny (model X.prog X.w) A (call (.ref u) us) Q E s := by
  obtain ⟨hu, _⟩ := I.pin _ (List.mem_append_right _ List.mem_cons_self)
  obtain ⟨nm, q, N, bs, bm, sn, sub, ab, col, dd, k0, k1, k2, k3, k5, hC, hbm⟩ := T.cls
  obtain ⟨t1, ho⟩ := exo_at I.hok ea
  obtain ⟨hp, g, d, t, os⟩ := s
  refine wpAny_call (codeAny_of_tree ?_)
  show wpAny _ A.in1 (callAny (.ref u) ⟨us, []⟩) _ _ _
  simp only [callAny]
  refine wpAny_bind (wpAny_load hu ?_)
  simp only [PySem.W.kxs_mw, show (Value.type "method-wrapper" == Value.type "method" || Value.type "method-wrapper" == Value.type "builtin_function_or_method" || Value.type "method-wrapper" == Value.type "method-wrapper") = true by decide, if_true]
  refine PySem.W.KFB.if_so (by decide) ?_
  refine wpAny_bind (PySem.W.check_bound_init F.excBase_ValueError.toExcCallFacts (I.kIn _ _ hC) ho rfl ?_)
  refine wpAny_bind (wpAny_pure (wpAny_pure ?_))
  refine ⟨plainId_quiet F.excBase_ValueError.init.plain _, codeAny_builtin F.excBase_ValueError.initEntry ?_⟩
  refine PySem.W.exc_init_tree (cls := .ref C) (t0 := t1) (dv := none) (c2 := .none) (c3 := .none) (b4 := .bool false) ho hl fun h' k hx _ => ?_
  have I0 : Inv X pins σ H ⟨hp, g, d, t, os⟩ := I.pins_of fun p hp => I.pin p (List.mem_append_right _ (List.mem_cons_of_mem _ hp))
  have J := I0.write (t' := t) (x := a) (e := a) (o := exo a C none) (by rw [ea]; exact True.intro) (.inl rfl) k ⟨_, hx⟩ (exo_ok hx)
  have eu : upd H a (exo a C none) = H := by
    funext b
    by_cases hb : b = a
    · rw [hb, upd_same, ea]
    · rw [upd_ne hb]
  rw [eu] at J
  exact h _ J
end
section
variable {M : Model} {A : Around} {E : Value → Shared → Prop} {s : Shared} {u x g : Addr} {i : String} {pos : Pos} {env : Env} {e : Expr} {rest : List Expr} {Q : Value → Shared → Prop} {K : PySem.W.Frag}
theorem cw_wrap (h : wpAny M A (spliced (backTo pos (starEach (e :: rest) env))) (fun vs s₁ => PySem.W.KxsAt i u x s₁.heap ∧ wpAny M A (call (.ref u) vs) Q E s₁) E s)
    (he : starEach (e :: rest) env = (false, eval e env) :: starEach rest env) (hplain : (backTo pos (starEach rest env)).any (·.1) = false) :
    wpAny M A (callWith pos (.ref u) [] (backTo pos (starEach (e :: rest) env)) []) Q E s := by
  rw [he] at h ⊢
  refine PySem.W.kxs_callWith (i := i) (x := x) (by show (false || (backTo pos (starEach rest env)).any (·.1)) = false; rw [hplain]; rfl) ?_
  exact PySem.Calls.evalArgs_plain h
theorem cw_meth {self : Value} (hf : PySem.W.fnIn K g = true) (h : wpAny M A (spliced (backTo pos (starEach (e :: rest) env))) (fun vs s₁ => PySem.W.MethP K u g self s₁.heap ∧ wpAny M A (call (.ref u) vs) Q E s₁) E s)
    (he : starEach (e :: rest) env = (false, eval e env) :: starEach rest env) (hplain : (backTo pos (starEach rest env)).any (·.1) = false) :
    wpAny M A (callWith pos (.ref u) [] (backTo pos (starEach (e :: rest) env)) []) Q E s := by
  rw [he] at h ⊢
  exact PySem.W.callWith_of (by show ((false || (backTo pos (starEach rest env)).any (·.1)) || false) = false; rw [hplain]; rfl) (PySem.W.keeps_M hf) (PySem.Calls.evalArgs_plain h)
end
section
variable {X : Cx} {D : Addr} {body : List Stmt} {e : Expr} {es : List Expr} {ta : TA} {p0 p1 p2 p3 p4 : Pos}
abbrev supStmt (e : Expr) (es : List Expr) (p0 p1 p2 p3 p4 : Pos) : Stmt := .Expr (.Call (.Attribute (.Call (.Name "super" p0) [] [] p1) "__init__" p2) (e :: es) [] p3) p4
theorem pst_supV {pl : Sem Bool} (S : SupK X D) (hN : X.N[0]? = some ("self" : Str)) (ha : PA X (e :: es) ta)
    (hc : eval (.Call (.Attribute (.Call (.Name "super" p0) [] [] p1) "__init__" p2) (e :: es) [] p3) X.env = (do
      let ov ← attributeBase (.Call (.Name "super" p0) [] [] p1) "__init__" X.env (eval (.Call (.Name "super" p0) [] [] p1) X.env)
      standAt p2.atName
      let (f, first) ← holding [ov] (getMethod ov "__init__" pl)
      callWith p3 f first (backTo p3 (starEach (e :: es) X.env)) []) := by rfl) (hsw : swapsWith (.Call (.Attribute (.Call (.Name "super" p0) [] [] p1) "__init__" p2) (e :: es) [] p3) none p4.line X.env = pure false := by rfl)
    (he : starEach (e :: es) X.env = (false, eval e X.env) :: starEach es X.env := by rfl) (hpl : (backTo p3 (starEach es X.env)).any (·.1) = false := by rfl) :
    PSat X body (supStmt e es p0 p1 p2 p3 p4) (tSupV X.K D ta) := by
  intro pins s σ H R I h
  obtain ⟨a, C, hs, ea, T, sub, opq, hm, hB, h⟩ := h
  refine ks_wpAt_Expr_any (ks_wpAt_MethodCall (pl := pl) ?_ hc) I.quiet hsw
  · refine sup_base S I hN hs T ea sub (by decide) fun so s1 I1 => ?_
    refine sup_method PySem.W.kxs_ValueError I1 T ea opq hm hB fun u s2 I2 => ?_
    show wpAny _ _ (callWith p3 (.ref u) [] (backTo p3 (starEach (e :: es) X.env)) []) _ _ _
    refine cw_wrap (i := "ValueError.__init__") (x := a) (thn (ha.run p3 _ s2 σ H _ I2 h) fun us s3 ⟨vs, H1, I3, r1, hl, ea1, q⟩ => ⟨?_, ?_⟩) he hpl
    · exact (I3.pin _ (List.mem_append_right _ List.mem_cons_self)).1
    · refine sup_wrapper I3 T ea1 ?_ fun s4 I4 => ⟨σ, H1, I4, q⟩
      rw [← Paired.length r1, sizeLine_eq]
      omega
/-- super().__init__(e, ..), the next class's own __init__ keeping sp -/
def tSupF (K : PySem.W.Frag) (D f2 : Addr) (sp : Sp) (ta : TA) : TS := fun R σ H => ∃ a C : Addr, σ[0]? = some (some (V.ref a)) ∧ H a = some (exo a C none) ∧ OexC K C ∧ PySem.W.mroIn K C (.ref D) = some true ∧
  PySem.W.nsIn K PySem.cStatics "thirdparty.any" = some none ∧ PySem.W.ks_superIn K C D "__init__" = some (some (.ref f2)) ∧
  ta σ H fun vs H1 => sp (.ref a :: vs) H1 (fun _ H2 => R.nx σ H2) (fun _ _ _ => False)
theorem sup_methodF {pins : List (Addr × Obj)} {σ : L2.St} {H : Hp} {s : Shared} {a C f2 so : Addr} {Q : Value × List Value → Shared → Prop} {E : Value → Shared → Prop} {A : Around} {pl : Sem Bool} (I : Inv X ((so, PySem.W.ks_superObj D a C) :: pins) σ H s) (T : OexC X.K C) (ea : H a = some (exo a C none))
    (opq : PySem.W.nsIn X.K PySem.cStatics "thirdparty.any" = some none) (hm : PySem.W.ks_superIn X.K C D "__init__" = some (some (.ref f2))) (ht : PySem.W.typeIn X.K (.ref f2) = some (.type "function"))
    (h : ∀ u s', Inv X ((u, PySem.W.methodObj (.ref f2) (.ref a)) :: pins) σ H s' → Q (.ref u, []) s') : wpAny (model X.prog X.w) A (getMethod (.ref so) "__init__" pl) Q E s := by
  have KX := I.kIn
  obtain ⟨hso, _⟩ := I.pin _ (List.mem_append_right _ List.mem_cons_self)
  have hne := exo_ne T I ea
  obtain ⟨hh, g, d, t, os⟩ := s
  cases hc : PySem.W.clsIn X.K C with
  | none => unfold PySem.W.ks_superIn at hm; rw [hc] at hm; cases hm
  | some cd =>
    unfold PySem.W.ks_superIn at hm
    rw [hc] at hm
    obtain ⟨of, hof, hofc⟩ : ∃ of, hh.get? f2 = some of ∧ of.cls = .type "function" := by
      have ht' : (X.K.lookup f2).map (·.cls) = some (.type "function") := ht
      cases z : X.K.lookup f2 with
      | none => rw [z] at ht'; cases ht'
      | some of => rw [z] at ht'; exact ⟨of, KX _ _ z, Option.some.inj ht'⟩
    refine ks_wpAny_getMethod_super hso (PySem.W.looks_opaque KX opq) (l₀ := cd.mro) (fun A Q E s k q => wpAny_bind ((PySem.W.looks_clsIn KX hc) A _ E s k (wpAny_pure q))) rfl KX hm hof hofc hne (by decide) ?_
    have J := pin_new (s := ⟨hh, g, d, t, os⟩) (t' := t + 1) (o := PySem.W.methodObj (.ref f2) (.ref a)) I (fun b o e => Heap.get?_push_of_some _ e) (Heap.get?_push_at rfl rfl) (fun v z => by cases z)
    exact h _ _ (J.pins_of fun p hp => J.pin p (List.mem_append_right _ (by
      rcases List.mem_cons.mp hp with rfl | hp
      · exact List.mem_cons_self
      · exact List.mem_cons_of_mem _ (List.mem_cons_of_mem _ hp))))
theorem pst_supF {pl : Sem Bool} {CX : CXT} {k : Nat} {f2 : Addr} {fd : FuncData} {ps : List Str} {sp : Sp} (S : SupK X D) (hN : X.N[0]? = some ("self" : Str)) (F1 : FnOk X.prog X.w X.K X.mg X.base CX k f2 fd ps sp) (hr : Room k X.A) (hb : Binds X.K fd ps [])
    (hx : Passes CX X (fun _ _ _ => False)) (ht : PySem.W.typeIn X.K (.ref f2) = some (.type "function")) (hf : PySem.W.fnIn X.K f2 = true) (ha : PA X (e :: es) ta)
    (hc : eval (.Call (.Attribute (.Call (.Name "super" p0) [] [] p1) "__init__" p2) (e :: es) [] p3) X.env = (do
      let ov ← attributeBase (.Call (.Name "super" p0) [] [] p1) "__init__" X.env (eval (.Call (.Name "super" p0) [] [] p1) X.env)
      standAt p2.atName
      let (f, first) ← holding [ov] (getMethod ov "__init__" pl)
      callWith p3 f first (backTo p3 (starEach (e :: es) X.env)) []) := by rfl) (hsw : swapsWith (.Call (.Attribute (.Call (.Name "super" p0) [] [] p1) "__init__" p2) (e :: es) [] p3) none p4.line X.env = pure false := by rfl)
    (he : starEach (e :: es) X.env = (false, eval e X.env) :: starEach es X.env := by rfl) (hpl : (backTo p3 (starEach es X.env)).any (·.1) = false := by rfl) :
    PSat X body (supStmt e es p0 p1 p2 p3 p4) (tSupF X.K D f2 sp ta) := by
  intro pins s σ H R I h
  obtain ⟨a, C, hs, ea, T, sub, opq, hm, h⟩ := h
  refine ks_wpAt_Expr_any (ks_wpAt_MethodCall (pl := pl) ?_ hc) I.quiet hsw
  · refine sup_base S I hN hs T ea sub (by decide) fun so s1 I1 => ?_
    refine sup_methodF I1 T ea opq hm ht fun u s2 I2 => ?_
    show wpAny _ _ (callWith p3 (.ref u) [] (backTo p3 (starEach (e :: es) X.env)) []) _ _ _
    refine cw_meth (g := f2) (self := .ref a) hf (thn (ha.run p3 _ s2 σ H _ I2 h) fun us s3 ⟨vs, H1, I3, r1, q⟩ => ⟨⟨?_, I3.kIn⟩, ?_⟩) he hpl
    · exact (I3.pin _ (List.mem_append_right _ List.mem_cons_self)).1
    · have hu := (I3.pin _ (List.mem_append_right _ List.mem_cons_self)).1
      have I4 : Inv X pins σ H1 s3 := I3.pins_of fun p hp => I3.pin p (List.mem_append_right _ (List.mem_cons_of_mem _ hp))
      have r2 : Vals (V.ref a :: vs) (Value.ref a :: us) := .cons rfl r1
      have hl : (Value.ref a :: us).length = ps.length := by
        rw [← r2.length]
        exact F1.len _ _ _ _ q
      refine wpAny_call (ks_codeAny_call_bound hu (codeAny_mono (F1.run _ X.stack _ _ ⟨Value.ref a :: us, []⟩ (Value.ref a :: us) _ _ (fun _ _ _ => False) hr I4.env0 (by have z := hb s3 (Value.ref a :: us) I4.kIn (by simpa using hl); rw [List.append_nil] at z; exact z) r2 q) fun r s' hq' => ?_))
      cases r with
      | error er => exact hx pins σ _ _ er s' I4 hq'
      | ok fl =>
        cases fl with
        | ret u2 =>
          obtain ⟨v, H', I5, rv, q5⟩ := I4.after hq'
          exact ⟨σ, H', I5, q5⟩
        | next => exact False.elim hq'
        | brk => exact False.elim hq'
        | cont => exact False.elim hq'
end
end Kb
set_option Elab.async false
set_option linter.all false
set_option maxRecDepth 100000
set_option maxHeartbeats 4000000
namespace Kb
open PySem PySem.Spec PyProof.Rows L2
theorem lookup_nodup {y : Str} {u : Value} : ∀ {l : List (Str × Value)}, (l.map (·.1)).Nodup → (y, u) ∈ l → l.lookup y = some u
  | [], _, h => by cases h
  | (z, w) :: r, nd, h => by
    rw [List.map_cons, List.nodup_cons] at nd
    rcases List.mem_cons.mp h with h | h
    · obtain ⟨rfl, rfl⟩ := Prod.mk.inj h
      simp [List.lookup]
    · have ne : (y == z) = false := by
        refine beq_eq_false_iff_ne.mpr fun e => nd.1 ?_
        rw [← e]
        exact List.mem_map.mpr ⟨(y, u), h, rfl⟩
      rw [List.lookup, ne]
      exact lookup_nodup nd.2 h
/-- the scope of an __init__ that says super() -/
structure SupScope (N P : List Str) (sc : Scope) : Prop where
  kind : sc.kind = .function
  co : sc.isCoroutine = false
  gen : sc.isGenerator = false
  nd : N.Nodup
  pre : N.take P.length = P
  par : ∀ x ∈ P, sc.names.lookup x = some .local
  nocell : ∀ y ∈ sc.names, y.2 ≠ .cell
  free : ∀ y ∈ sc.names, y.2 = .free → y.1 = "__class__"
/-- the context of its body -/
def cxS (P : Program) (w : World) (K : PySem.W.Frag) (mg : Str → Option Value) (base : Heap) (N : List Str) (qual : Str) (scope : Scope) (f : Addr) (cd : Value) (cc : Addr) (A : Around) (outer : List Env) (s : Shared) (H : Hp) : Cx where
  prog := P
  w := w
  K := K
  mg := mg
  base := base
  A := A.deeper (PySem.W.ksEnv qual scope s.heap.objs.size f cd cc)
  N := N
  s_0 := s
  H_0 := H
  env := PySem.W.ksEnv qual scope s.heap.objs.size f cd cc
  outer := outer
  stack := PySem.W.ksEnv qual scope s.heap.objs.size f cd cc :: outer
  ex := []
  calm := true
  fn := fun _ => false
  pn := []
  xe := fun _ _ => False
theorem inv_startS {P : Program} {w : World} {K : PySem.W.Frag} {mg : Str → Option Value} {base : Heap} {N ps : List Str} {qual : Str} {scope : Scope} {f : Addr} {cd : Value} {cc : Addr} {A : Around} {outer : List Env} {s : Shared} {H : Hp} {us : List Value} {vs : List V} {h₁ : Heap} {t' : Nat} {cl : Value} {cld : Option Addr} {v0 : Option Value} {csl : Array (Option Value)}
    (S : SupScope N ps scope) (hd : A.handled = none) (e0 : Env0 P w K mg base A outer s H) (hl : vs.length = ps.length) (r : Vals vs us) (hcell : K.lookup cc = some ⟨cl, cld, .cell v0, csl⟩)
    (hn : h₁.Ns s.heap.objs.size (fun x => (ps.zip us).reverse.lookup x)) (k : ∀ b o, s.heap.get? b = some o → h₁.get? b = some o) :
    Inv (cxS P w K mg base N qual scope f cd cc A outer s H) [] (start N vs) H { s with heap := h₁, toks := t' } := by
  have hpl : ps.length ≤ N.length := by have := congrArg List.length S.pre; rw [List.length_take] at this; omega
  have noA : ∀ b : Addr, b ∉ (cxS P w K mg base N qual scope f cd cc A outer s H).ex := fun b z => absurd (show b ∈ ([] : List Addr) from z) (by simp)
  have hb := e0.bs cc _ (e0.mod.kin _ _ hcell)
  have cell1 : ∀ y c, (cxS P w K mg base N qual scope f cd cc A outer s H).env.cells.lookup y = some c → y = ("__class__" : Str) ∧ c = cc := fun y c h => by
    have h : List.lookup y [(("__class__" : Str), cc)] = some c := h
    rw [List.lookup] at h
    split at h
    · rename_i z
      exact ⟨beq_iff_eq.mp z, (Option.some.inj h).symm⟩
    · cases h
  refine ⟨⟨e0.mod, S.kind, rfl, rfl, Nat.le_refl _, fun y z c h1 h2 => (cell1 y c h1).1.trans (cell1 z c h2).1.symm, fun y hy => ?_, fun y c z h => Bool.noConfusion z, fun _ => hd, Around.frames_deeper e0.frames, .inr ⟨rfl, rfl⟩, fun b z => absurd z (noA b), e0.bs, e0.bsz, fun b _ _ => noA b, fun b z => absurd z (noA b), e0.funs, e0.frf⟩,
    rfl, e0.bare, Un.kept k, ⟨_, hn, fun i y v h1 h2 h3 => ?_⟩, fun y c h => ⟨v0, ⟨cl, cld, .cell v0, csl⟩, k _ _ (by obtain ⟨_, e⟩ := cell1 y c h; subst e; exact hb.1), rfl⟩, e0.hok.fresh (Nat.le_refl _), fun y c h => by obtain ⟨_, e⟩ := cell1 y c h; subst e; exact hb.2, fun p hp => absurd (show p ∈ ([] : List (Addr × Obj)) from hp) (by simp), e0.hok.kept k, ?_⟩
  · have hy : scope.names.lookup y = some .cell ∨ scope.names.lookup y = some .free := hy
    rcases hy with hy | hy
    · exact absurd rfl (S.nocell _ (PySem.mem_of_lookup hy))
    · have e : y = ("__class__" : Str) := S.free _ (PySem.mem_of_lookup hy) rfl
      subst e
      exact ⟨cc, by show List.lookup ("__class__" : Str) [(("__class__" : Str), cc)] = some cc; simp [List.lookup]⟩
  · have hi : i < vs.length := by
      unfold L2.start at h2
      by_cases hi : i < vs.length
      · exact hi
      · rw [List.getElem?_append_right (by simpa using hi)] at h2
        rw [List.getElem?_replicate] at h2
        split at h2 <;> cases h2
    have ha : vs[i]? = some v := by
      unfold L2.start at h2
      rw [List.getElem?_append_left (by simpa using hi), List.getElem?_map] at h2
      cases e : vs[i]? with
      | none => rw [e] at h2; cases h2
      | some a => rw [e] at h2; cases h2; rfl
    obtain ⟨u, hu, rv⟩ := r.get ha
    have hp : ps[i]? = some y := by
      rw [← S.pre, List.getElem?_take_of_lt (by omega)]; exact h1
    have ndP : ps.Nodup := by rw [← S.pre]; exact S.nd.sublist (List.take_sublist _ _)
    refine ⟨u, rv, .inl ⟨S.par y (List.mem_of_getElem? hp), ?_⟩⟩
    have hlen : us.length = ps.length := by rw [← r.length]; exact hl
    refine lookup_nodup ?_ ?_
    · rw [List.map_reverse, List.map_fst_zip (by omega)]
      exact (List.reverse_perm ps).nodup_iff.mpr ndP
    · rw [List.mem_reverse]
      exact List.mem_of_getElem? (i := i) (by rw [List.getElem?_zip_eq_some]; exact ⟨hp, hu⟩)
  · unfold L2.start
    show _ = N.length
    rw [List.length_append, List.length_map, List.length_replicate]
    omega
/-- THE RULE: an __init__ that says super() first, by its body -/
theorem fn_sup {P : Program} {w : World} {K : PySem.W.Frag} {mg : Str → Option Value} {base : Heap} {k : Nat} {f : Addr} {name qual : Str} {params : Arguments} {b0 : Stmt} {body : List Stmt} {scope : Scope} {dV kV doc pm cdv ct oc : Value} {an od : Option Addr} {cc : Addr}
    {osl : Array (Option Value)} {N ps : List Str} {sp : Sp} {cl : Value} {cld : Option Addr} {v0 : Option Value} {csl : Array (Option Value)}
    (lk : K.lookup f = some ⟨oc, od, .func (PySem.W.ksFn name qual params (b0 :: body) scope dV kV doc pm an cdv ct cc), osl⟩) (hcd : PySem.W.codeIn K cdv qual = true) (hcell : K.lookup cc = some ⟨cl, cld, .cell v0, csl⟩) (S : SupScope N ps scope)
    (len : ∀ vs H Q E, sp vs H Q E → vs.length = ps.length)
    (hbody : ∀ (A : Around) (outer : List Env) (s : Shared) (H : Hp) (vs : List V) (Q : VK) (E : XK), Room k (A.deeper (PySem.W.ksEnv qual scope s.heap.objs.size f cdv cc)) → sp vs H Q E →
      ∃ t u, PSat (cxS P w K mg base N qual scope f cdv cc A outer s H) (b0 :: body) b0 t ∧ PSs (cxS P w K mg base N qual scope f cdv cc A outer s H) body u ∧ t { nx := fun σ' H' => u { nx := fun _ H' => Q .non H', rt := Q } σ' H', rt := Q } (start N vs) H) :
    FnOk P w K mg base CX0 (k + 1) f (PySem.W.ksFn name qual params (b0 :: body) scope dV kV doc pm an cdv ct cc) ps sp := by
  refine ⟨len, fun A outer s H args us vs Q E hr e0 hb r hsp => ?_⟩
  have hl := len _ _ _ _ hsp
  have KX : K.In s.heap := e0.mod.kin.keeps fun b o e => (e0.bs b o e).1
  have lim : s.heap.NoLimit := e0.mod.nolimit.keeps fun b o e => (e0.bs b o e).1
  refine ks_codeAny_call_defAt (body := b0 :: body) (binds := ps.zip us) hr.depth (KX _ _ lk) rfl lim (PySem.W.codeRec_of KX hcd) rfl hb S.nocell (fun y hy => S.par y.1 (List.of_mem_zip (show (y.1, y.2) ∈ ps.zip us from hy)).1) (fun h₁ hns hk => ?_) S.co S.gen S.kind
  obtain ⟨t, u, ht, hu, hq⟩ := hbody A outer s H vs Q E (hr.deeper _) hsp
  have I : Inv (cxS P w K mg base N qual scope f cdv cc A outer s H) [] (start N vs) H { s with heap := h₁, toks := s.toks + (ps.zip us).length } := inv_startS S hr.hd e0 hl r hcell hns hk
  have fin : ∀ {s' : Shared} {σ' : L2.St} {H' : Hp} {v : V} {u : Value}, Inv (cxS P w K mg base N qual scope f cdv cc A outer s H) [] σ' H' s' → RelV v u → Q v H' → CE outer P w H s Q u s' :=
    fun {s' σ' H' v u} J rv q => ⟨v, H', J.os, J.bare, J.base, J.hok, rv, q⟩
  have last : ∀ (fl : Flow) (s' : Shared), SP (cxS P w K mg base N qual scope f cdv cc A outer s H) [] { nx := fun _ H' => Q .non H', rt := Q } fl s' → CR CX0 outer P w H s Q E (.ok (.ret (match fl with | .ret v => v | _ => .none))) s' := by
    intro fl s' hs
    cases fl with
    | ret u =>
      obtain ⟨v, σ', H', J, rv, q⟩ := hs
      exact fin J rv q
    | next =>
      obtain ⟨σ', H', J, q⟩ := hs
      exact fin (v := V.non) (u := Value.none) J rfl q
    | brk =>
      obtain ⟨_, _, _, q⟩ := hs
      exact False.elim q
    | cont =>
      obtain ⟨_, _, _, q⟩ := hs
      exact False.elim q
  show _root_.PySem.wpAt (model P w) (A.deeper (PySem.W.ksEnv qual scope s.heap.objs.size f cdv cc)) (.func (b0 :: body) (PySem.W.ksEnv qual scope s.heap.objs.size f cdv cc)) (execs (b0 :: body) (PySem.W.ksEnv qual scope s.heap.objs.size f cdv cc)) _ _ _
  refine ks_wpAt_execs_cons (ks_wpAt_mono (ht [] _ _ _ _ I hq) (fun fl s' hs => ?_) fun e s' hs => False.elim hs)
  cases fl with
  | next =>
    obtain ⟨σ', H', J, q⟩ := hs
    exact wpAt_of_wpAny (wpAny_mono (hu.run [] s' σ' H' _ J q) (fun fl s2 hs => last fl s2 hs) fun e s' hs => False.elim hs)
  | ret u => exact last (.ret u) s' hs
  | brk =>
    obtain ⟨_, _, _, q⟩ := hs
    exact False.elim q
  | cont =>
    obtain ⟨_, _, _, q⟩ := hs
    exact False.elim q
end Kb
set_option Elab.async false
set_option linter.all false
set_option maxRecDepth 100000
set_option maxHeartbeats 4000000
namespace Kb
open PySem PySem.Spec PyProof.Rows L2
def oexB (K : PySem.W.Frag) (C : Addr) : Bool := match K.lookup C with
  | some ⟨.type "type", _, .cls cd, sl⟩ => (match cd.mro, sl.toList with
    | .ref C' :: bm, [_, _, _, _, some (.builtin n), _] => C' == C && n == "ValueError.__new__" && !cd.hasDel && cd.hasDict && PySem.HandSPX.refsVE bm
    | _, _ => false)
  | _ => false
theorem oexB_ok {K : PySem.W.Frag} {C : Addr} (q : oexB K C = true) : ∃ nm q N bs bm sn sub ab col dd k0 k1 k2 k3 k5, K.lookup C = some (excClassObj nm q C N bs bm true sn sub ab col dd k0 k1 k2 k3 k5 "ValueError.__new__") ∧ PySem.HandSPX.refsVE bm = true := by
  unfold oexB at q
  split at q
  · rename_i dd cd sl ho
    split at q
    · rename_i C' bm k0 k1 k2 k3 n k5 hm hs
      simp only [Bool.and_eq_true, beq_iff_eq, Bool.not_eq_true'] at q
      obtain ⟨⟨⟨⟨rfl, rfl⟩, hdel⟩, hdict⟩, ht⟩ := q
      obtain ⟨nm, bs, mro, ns, qn, hd, sn, sub, ab, col, del⟩ := cd
      dsimp only at hm hdel hdict
      subst hm hdel hdict
      have hsl : sl = #[k0, k1, k2, k3, some (.builtin "ValueError.__new__"), k5] := by
        obtain ⟨l⟩ := sl
        simp only at hs
        rw [hs]
      subst hsl
      exact ⟨nm, qn, ns, bs, bm, sn, sub, ab, col, dd, k0, k1, k2, k3, k5, ho, ht⟩
    · cases q
  · cases q
/-- the fields that errors have beside their word -/
abbrev errFlds : List Str := ["column", "first", "letter", "most", "name", "number", "second", "sign"]
/-- C, an error class below D (or D itself) -/
structure Bad (K : PySem.W.Frag) (C D : Addr) : Prop where
  ox : OexC K C
  sub : PySem.W.mroIn K C (.ref D) = some true
  opq : PySem.W.nsIn K PySem.cStatics "thirdparty.any" = some none
  sV : PySem.W.subIn K (.ref C) (.type "ValueError") = some true
  smV : PySem.W.ks_superIn K C D "__init__" = some (some (.builtin "ValueError.__init__"))
  ex : ExcC K C
  nw : PySem.W.findIn K (.ref C) "word" = some none
  nf : ∀ f ∈ errFlds, PySem.W.findIn K (.ref C) f = some none
def badL (K : PySem.W.Frag) (C D : Addr) : List Bool :=
  [oexB K C, decide (PySem.W.findIn K (.ref C) "__setattr__" = some (some (.builtin "object.__setattr__"))), decide (PySem.W.subIn K (.ref C) (.type "BaseException") = some true), decide (PySem.W.typeIn K (.ref C) = some (.type "type")), PySem.W.keepIn K (.ref C),
   decide (PySem.W.mroIn K C (.ref D) = some true), decide (PySem.W.nsIn K PySem.cStatics "thirdparty.any" = some none), decide (PySem.W.subIn K (.ref C) (.type "ValueError") = some true), decide (PySem.W.ks_superIn K C D "__init__" = some (some (.builtin "ValueError.__init__"))),
   decide (PySem.W.findIn K (.ref C) "__getattribute__" = some (some (.builtin "BaseException.__getattribute__"))), decide (PySem.W.findIn K (.ref C) "__getattr__" = some none), PySem.W.hasDictIn K C, decide (PySem.W.findIn K (.ref C) "__class__" = some (some (.builtin "object.__class__"))),
   decide (PySem.W.specialIn K (.builtin "object.__class__") "__get__" = some (some (.builtin "getset_descriptor.__get__"))), decide (PySem.W.takesIn K (.builtin "object.__class__") = some true), decide (PySem.W.mroIn K C (.type "object") = some true), decide (PySem.W.findIn K (.ref C) "word" = some none),
   errFlds.all fun f => decide (PySem.W.findIn K (.ref C) f = some none)]
def badB (K : PySem.W.Frag) (C D : Addr) : Bool := (badL K C D).all id
theorem bad_of {K : PySem.W.Frag} {C D : Addr} (h : badB K C D = true) : Bad K C D := by
  unfold badB badL at h
  rw [List.all_cons, List.all_cons, List.all_cons, List.all_cons, List.all_cons, List.all_cons, List.all_cons, List.all_cons, List.all_cons, List.all_cons, List.all_cons, List.all_cons, List.all_cons, List.all_cons, List.all_cons, List.all_cons, List.all_cons, List.all_cons, List.all_nil] at h
  simp only [id_eq, Bool.and_true, Bool.and_eq_true, decide_eq_true_eq] at h
  obtain ⟨h1, h2, h3, h4, h5, h6, h7, h8, h9, h10, h11, h12, h13, h14, h15, h16, h17, h18⟩ := h
  exact ⟨⟨oexB_ok h1, h2, h3, h4, h5⟩, h6, h7, h8, h9, ⟨h10, h11, h3, h12, h13, h14, h15, h16⟩, h17, fun f hf => of_decide_eq_true (List.all_eq_true.mp h18 f hf)⟩
theorem Bad.xf {K : PySem.W.Frag} {C D : Addr} (B : Bad K C D) : XfC K C := ⟨B.ex.hg, B.ex.hk, B.ex.hs, B.ex.hd⟩
theorem Bad.cls {K : PySem.W.Frag} {C D : Addr} (B : Bad K C D) : ∃ cd, PySem.W.clsIn K C = some cd := by
  obtain ⟨nm, q, N, bs, bm, sn, sub, ab, col, dd, k0, k1, k2, k3, k5, hC, hbm⟩ := B.ox.cls
  exact ⟨_, by unfold PySem.W.clsIn; rw [hC] <;> rfl⟩
def fileB (K : PySem.W.Frag) (cd : Value) (file : Str) : Bool := match cd with
  | .ref c => (match K.lookup c with
    | some ⟨_, _, .fields vs, _⟩ => (match (vs[2]? : Option Value) with
      | some (Value.str f _) => file == f
      | _ => false)
    | _ => false)
  | _ => false
theorem fileB_ok {K : PySem.W.Frag} {cd : Value} {file : Str} (h : fileB K cd file = true) : ∃ (cda : Addr) (ccl : Value) (cdd : Option Addr) (vs : Array Value) (ccs : Array (Option Value)) (f : Str) (tf : Tok), cd = .ref cda ∧ K.lookup cda = some ⟨ccl, cdd, .fields vs, ccs⟩ ∧ vs[2]? = some (.str f tf) ∧ (file == f) = true := by
  unfold fileB at h
  split at h
  · split at h
    · rename_i hl
      split at h
      · rename_i hv
        exact ⟨_, _, _, _, _, _, _, rfl, hl, hv, h⟩
      · cases h
    · cases h
  · cases h
def sp_CE (K : PySem.W.Frag) (D : Addr) : Sp := fun vs H Q E => ∃ (a C : Addr) (v : V), vs = [.ref a, v] ∧ Bad K C D ∧ H a = some (exo a C none) ∧
  ∀ dx, H dx = none → dx ≠ a → Q .non (upd (upd H dx (exd dx [("word", v)])) a (exo a C (some dx)))
def sp_B0 (C : Addr) (nm : Str) : Sp := fun vs H Q E => ∃ (a : Addr), vs = [.ref a] ∧ H a = some (exo a C none) ∧
  ∀ dx, H dx = none → dx ≠ a → Q .non (upd (upd H dx (exd dx [("word", .str nm)])) a (exo a C (some dx)))
def sp_B1 (C : Addr) (nm at1 : Str) : Sp := fun vs H Q E => ∃ (a : Addr) (v : V), vs = [.ref a, v] ∧ H a = some (exo a C none) ∧
  ∀ dx, H dx = none → dx ≠ a → Q .non (upd (upd (upd H dx (exd dx [("word", .str nm)])) a (exo a C (some dx))) dx (exd dx [(at1, v), ("word", .str nm)]))
section
variable {P : Program} {w : World} {K : PySem.W.Frag} {mg : Str → Option Value} {base : Heap}
/-- an __init__ of the text that says super() -/
structure SupI (P : Program) (K : PySem.W.Frag) (mg : Str → Option Value) (qual : Str) (s : Stmt) (D : Addr) (N : List Str) (f : Addr) (fd : FuncData) : Prop where
  ex : ∃ (oc : Value) (od : Option Addr) (dV kV doc pm : Value) (an : Option Addr) (cdv ct : Value) (osl : Array (Option Value)) (cc : Addr) (cl : Value) (cld : Option Addr) (csl : Array (Option Value)),
    fd = PySem.W.ksFn "__init__" qual (defArgs s) (defBody s) (defScope s) dV kV doc pm an cdv ct cc ∧ K.lookup f = some ⟨oc, od, .func fd, osl⟩ ∧ PySem.W.codeIn K cdv qual = true ∧ K.lookup cc = some ⟨cl, cld, .cell (some (.ref D)), csl⟩ ∧ fileB K cdv P.main.file = true
  sc : SupScope N N (defScope s)
  hs : (defScope s).names.lookup ("super" : Str) = some .globalImplicit
  hc : (defScope s).names.lookup ("__class__" : Str) = some .free
  hl : (defScope s).names.lookup ("self" : Str) = some .local
  ar : ∃ ar : Arg, ((defArgs s).posonlyargs ++ (defArgs s).args).head? = some ar ∧ ar.arg = "self"
  su : mg "super" = none
  tp : (P.main.scope.names.lookup ("super" : Str)).isSome = false
  dc : ∃ cd, PySem.W.clsIn K D = some cd
theorem SupI.supK {qual : Str} {s : Stmt} {D f : Addr} {fd : FuncData} {N : List Str} (S : SupI P K mg qual s D N f fd) {oc : Value} {od : Option Addr} {dV kV doc pm : Value} {an : Option Addr} {cdv ct : Value} {osl : Array (Option Value)} {cc : Addr} {cl : Value} {cld : Option Addr} {csl : Array (Option Value)}
    (hfd : fd = PySem.W.ksFn "__init__" qual (defArgs s) (defBody s) (defScope s) dV kV doc pm an cdv ct cc) (lk : K.lookup f = some ⟨oc, od, .func fd, osl⟩) (lc : K.lookup cc = some ⟨cl, cld, .cell (some (.ref D)), csl⟩) (hf : fileB K cdv P.main.file = true)
    (A : Around) (outer : List Env) (sh : Shared) (H : Hp) : SupK (cxS P w K mg base N qual (defScope s) f cdv cc A outer sh H) D := by
  obtain ⟨ar, h1, h2⟩ := S.ar
  obtain ⟨cda, ccl, cdd, vs, ccs, fl, tf, e, l, v, b⟩ := fileB_ok hf
  exact ⟨S.hs, S.hc, S.hl, ⟨f, oc, od, fd, osl, ar, rfl, lk, by subst hfd; exact h1, h2⟩, ⟨cda, ccl, cdd, vs, ccs, fl, tf, e, l, v, b⟩, ⟨cc, cl, cld, csl, by show List.lookup ("__class__" : Str) [(("__class__" : Str), cc)] = some cc; simp [List.lookup], lc⟩, S.su, S.tp, S.dc⟩
/-- super().__init__(e, ..) is a call of a method as it stands on one line -/
def SupEv (e : Expr) (es : List Expr) (p0 p1 p2 p3 p4 : Pos) : Prop := ∃ pl : Sem Bool, ∀ env : Env, eval (.Call (.Attribute (.Call (.Name "super" p0) [] [] p1) "__init__" p2) (e :: es) [] p3) env = (do
      let ov ← attributeBase (.Call (.Name "super" p0) [] [] p1) "__init__" env (eval (.Call (.Name "super" p0) [] [] p1) env)
      standAt p2.atName
      let (f, first) ← holding [ov] (getMethod ov "__init__" pl)
      callWith p3 f first (backTo p3 (starEach (e :: es) env)) [])
theorem ok_CE {s : Stmt} {D f : Addr} {fd : FuncData} {p0 p1 p2 p3 p4 q0 q1 q2 q3 q4 : Pos} (S : SupI P K mg "ChamberError.__init__" s D ["self", "word"] f fd)
    (hb : defBody s = [supStmt (.Name "word" q0) [] p0 p1 p2 p3 p4, .Assign [.Attribute (.Name "self" q1) "word" q2] (.Name "word" q3) q4])
    (ev : SupEv (.Name "word" q0) [] p0 p1 p2 p3 p4) (hw : (defScope s).names.lookup ("word" : Str) = some .local) : FnOk P w K mg base CX0 1 f fd ["self", "word"] (sp_CE K D) := by
  obtain ⟨oc, od, dV, kV, doc, pm, an, cdv, ct, osl, cc, cl, cld, csl, hfd, lk, hcd, lc, hf⟩ := S.ex
  have hfd' := hfd
  rw [hb] at hfd
  have lk' := lk
  subst hfd
  refine fn_sup lk' hcd lc S.sc (fun vs H Q E ⟨a, C, v, e, _⟩ => by rw [e]; rfl) fun A outer sh H vs Q E hr hsp => ?_
  have SK := S.supK (w := w) (base := base) hfd' lk lc hf A outer sh H
  have nd := S.sc.nd
  refine ⟨_, _, pst_supV SK rfl (pa_cons (pe_var (i := 1) rfl (.inl hw)) pa_nil) (hc := ev.choose_spec _), pss_one (ps_ost (pe_var (i := 0) rfl (.inl S.hl)) (pe_var (i := 1) rfl (.inl hw))), ?_⟩
  obtain ⟨a, C, v, rfl, B, ea, hq⟩ := hsp
  refine ⟨a, C, rfl, ea, B.ox, B.sub, B.opq, B.smV, B.sV, ?_⟩
  refine ⟨v, rfl, by simp, ea, ?_⟩
  exact ⟨v, rfl, .ref a, rfl, a, C, rfl, B.ox, B.nw, .inl ⟨ea, fun dx n ne => hq dx n ne⟩⟩
theorem ok_B0 {s : Stmt} {C D f f2 : Addr} {qual nm : Str} {fd fd2 : FuncData} {jc : Nat} {p0 p1 p2 p3 p4 q0 : Pos} (S : SupI P K mg qual s C ["self"] f fd)
    (hb : defBody s = [supStmt (.Constant (.str nm) jc q0) [] p0 p1 p2 p3 p4]) (ev : SupEv (.Constant (.str nm) jc q0) [] p0 p1 p2 p3 p4)
    (F1 : FnOk P w K mg base CX0 1 f2 fd2 ["self", "word"] (sp_CE K D)) (hbs : Binds K fd2 ["self", "word"] []) (B : Bad K C D) (sub : PySem.W.mroIn K C (.ref C) = some true) (sm : PySem.W.ks_superIn K C C "__init__" = some (some (.ref f2)))
    (ht : PySem.W.typeIn K (.ref f2) = some (.type "function")) (hf2 : PySem.W.fnIn K f2 = true) : FnOk P w K mg base CX0 2 f fd ["self"] (sp_B0 C nm) := by
  obtain ⟨oc, od, dV, kV, doc, pm, an, cdv, ct, osl, cc, cl, cld, csl, hfd, lk, hcd, lc, hf⟩ := S.ex
  have hfd' := hfd
  rw [hb] at hfd
  have lk' := lk
  subst hfd
  refine fn_sup lk' hcd lc S.sc (fun vs H Q E ⟨a, e, _⟩ => by rw [e]; rfl) fun A outer sh H vs Q E hr hsp => ?_
  have SK := S.supK (w := w) (base := base) hfd' lk lc hf A outer sh H
  refine ⟨_, _, pst_supF SK rfl F1 hr hbs pass0 ht hf2 (pa_cons pe_str pa_nil) (hc := ev.choose_spec _), pss_nil, ?_⟩
  obtain ⟨a, rfl, ea, hq⟩ := hsp
  refine ⟨a, C, rfl, ea, B.ox, sub, B.opq, sm, ?_⟩
  exact ⟨a, C, .str nm, rfl, B, ea, fun dx n ne => hq dx n ne⟩
theorem ok_B1 {s : Stmt} {C D f f2 : Addr} {qual nm at1 : Str} {fd fd2 : FuncData} {jc : Nat} {p0 p1 p2 p3 p4 q0 q1 q2 q3 q4 : Pos} (S : SupI P K mg qual s C ["self", at1] f fd)
    (hb : defBody s = [supStmt (.Constant (.str nm) jc q0) [] p0 p1 p2 p3 p4, .Assign [.Attribute (.Name "self" q1) at1 q2] (.Name at1 q3) q4]) (ev : SupEv (.Constant (.str nm) jc q0) [] p0 p1 p2 p3 p4)
    (hw : (defScope s).names.lookup at1 = some .local) (hd1 : (at1 == ("__debug__" : Str)) = false) (hd2 : (at1 == ("__classdict__" : Str)) = false) (na : PySem.W.findIn K (.ref C) at1 = some none)
    (F1 : FnOk P w K mg base CX0 1 f2 fd2 ["self", "word"] (sp_CE K D)) (hbs : Binds K fd2 ["self", "word"] []) (B : Bad K C D) (sub : PySem.W.mroIn K C (.ref C) = some true) (sm : PySem.W.ks_superIn K C C "__init__" = some (some (.ref f2)))
    (ht : PySem.W.typeIn K (.ref f2) = some (.type "function")) (hf2 : PySem.W.fnIn K f2 = true) : FnOk P w K mg base CX0 2 f fd ["self", at1] (sp_B1 C nm at1) := by
  obtain ⟨oc, od, dV, kV, doc, pm, an, cdv, ct, osl, cc, cl, cld, csl, hfd, lk, hcd, lc, hf⟩ := S.ex
  have hfd' := hfd
  rw [hb] at hfd
  have lk' := lk
  subst hfd
  refine fn_sup lk' hcd lc S.sc (fun vs H Q E ⟨a, v, e, _⟩ => by rw [e]; rfl) fun A outer sh H vs Q E hr hsp => ?_
  have SK := S.supK (w := w) (base := base) hfd' lk lc hf A outer sh H
  refine ⟨_, _, pst_supF SK rfl F1 hr hbs pass0 ht hf2 (pa_cons pe_str pa_nil) (hc := ev.choose_spec _), pss_one (ps_ost (pe_var (i := 0) rfl (.inl S.hl)) (pe_var (i := 1) rfl (.inl hw) hd1 hd2)), ?_⟩
  obtain ⟨a, v, rfl, ea, hq⟩ := hsp
  refine ⟨a, C, rfl, ea, B.ox, sub, B.opq, sm, ?_⟩
  refine ⟨a, C, .str nm, rfl, B, ea, fun dx n ne => ?_⟩
  refine ⟨v, rfl, .ref a, rfl, a, C, rfl, B.ox, na, .inr ⟨dx, [("word", .str nm)], upd_same, ?_, by simp, hq dx n ne⟩⟩
  rw [upd_ne ne, upd_same]
end
def tBad (C : Addr) (nm : Str) : L2.St → Hp → XK → Prop := fun σ H Q => ∀ d, H d = none → Q (.ref C) (some d) (upd H d (.xd [("word", .str nm)]))
def tBad1 (C : Addr) (nm at1 : Str) (te : TE) : L2.St → Hp → XK → Prop := tMkO C (sp_B1 C nm at1) [] (tCons te tNil)
theorem heap_end {H : Hp} {a dx : Addr} {o1 o2 o3 : HO} {fs : List (Str × V)} (n : H a = none) (ne : dx ≠ a) : upd (del (upd (upd (upd H a o1) dx o2) a o3) a) dx (.xd fs) = upd H dx (.xd fs) := by
  funext b
  by_cases h1 : b = dx
  · rw [h1, upd_same, upd_same]
  · rw [upd_ne h1, upd_ne h1]
    by_cases h2 : b = a
    · rw [h2, del_same, n]
    · rw [del_ne h2, upd_ne h2, upd_ne h1, upd_ne h2]
theorem heap_end1 {H : Hp} {a dx : Addr} {o1 o2 o3 o4 : HO} {fs : List (Str × V)} (n : H a = none) (ne : dx ≠ a) : upd (del (upd (upd (upd (upd H a o1) dx o2) a o3) dx o4) a) dx (.xd fs) = upd H dx (.xd fs) := by
  funext b
  by_cases h1 : b = dx
  · rw [h1, upd_same, upd_same]
  · rw [upd_ne h1, upd_ne h1]
    by_cases h2 : b = a
    · rw [h2, del_same, n]
    · rw [del_ne h2, upd_ne h1, upd_ne h2, upd_ne h1, upd_ne h2]
section
variable {X : Cx} {x : Str} {C fI : Addr} {k : Nat} {fd : FuncData} {p pos : Pos}
theorem run_bad {ps : List Str} {sp : Sp} (T : OexC X.K C) (iC : PySem.W.findIn X.K (.ref C) "__init__" = some (some (.ref fI))) (tI : PySem.W.typeIn X.K (.ref fI) = some (.type "function"))
    (F1 : FnOk X.prog X.w X.K X.mg X.base CX0 k fI fd ps sp) (hr : Room (k + 1) X.A) (hb : Binds X.K fd ps []) {pins : List (Addr × Obj)} {σ : L2.St} {H : Hp} {s : Shared} {Q : XK} (I : Inv X pins σ H s)
    (h : ∀ a, H a = none → sp [.ref a] (upd H a (exo a C none)) (fun v H2 => v = .non ∧ ∃ (d : Addr) (fs : List (Str × V)), H2 a = some (exo a C (some d)) ∧ H2 d = some (exd d fs) ∧ H d = none ∧ Q (.ref C) (some d) (upd (del H2 a) d (.xd fs))) (fun _ _ _ => False)) :
    wpAny (model X.prog X.w) X.A (call (.ref C) []) (MkP X pins σ Q) X.xe s := by
  obtain ⟨nm, q, N, bs, bm, sn, sub, ab, col, dd, k0, k1, k2, k3, k5, hC, hbm⟩ := T.cls
  obtain ⟨hp, g, dr, tk, os⟩ := s
  have hsz : hp.objs.size ≤ hp.objs.size + 1 := Nat.le_succ _
  have hn : H (hp.objs.size + 1) = none := I.hok.fresh hsz
  have hq := h (hp.objs.size + 1) hn
  have kk : ∀ b o, hp.get? b = some o → ((hp.push (PySem.W.kdv_tup [])).push (PySem.HandSPX.excO C hp.objs.size)).get? b = some o := fun b o e => Heap.get?_push_of_some _ (Heap.get?_push_of_some _ e)
  have hget : ((hp.push (PySem.W.kdv_tup [])).push (PySem.HandSPX.excO C hp.objs.size)).get? (hp.objs.size + 1) = some (PySem.HandSPX.excO C hp.objs.size) := by heap_get
  have I2 : Inv X pins σ (upd H (hp.objs.size + 1) (exo (hp.objs.size + 1) C none)) ⟨(hp.push (PySem.W.kdv_tup [])).push (PySem.HandSPX.excO C hp.objs.size), g, dr, tk, os⟩ :=
    I.laid (t' := tk) (a := hp.objs.size + 1) (o := exo (hp.objs.size + 1) C none) (h' := (hp.push (PySem.W.kdv_tup [])).push (PySem.HandSPX.excO C hp.objs.size)) kk hsz (exo_ok hget)
  have r2 : Vals [V.ref (hp.objs.size + 1)] [Value.ref (hp.objs.size + 1)] := .cons rfl .nil
  have hl : ([Value.ref (hp.objs.size + 1)] ++ []).length = ps.length := by
    have e := r2.length
    rw [F1.len _ _ _ _ hq] at e
    exact e.symm
  refine wpAny_call (PySem.HandSPX.call_own (rest := []) F.excBase_ValueError (fun Y => PySem.HandSPX.refsVE_contains Y bm hbm) (I.kIn _ _ hC) (PySem.W.looks_findIn I.kIn iC) (fun self => PySem.W.bind_fn I.kIn self tI) (Nat.zero_le _)
    (codeAny_mono (F1.run _ X.stack _ _ ⟨[Value.ref (hp.objs.size + 1)], []⟩ ([Value.ref (hp.objs.size + 1)] ++ []) _ _ (fun _ _ _ => False) (hr.make C [] []) (I2.env0.make C [] []) (hb _ [Value.ref (hp.objs.size + 1)] I2.kIn hl) r2 hq) fun r s' hq' => ?_))
  cases r with
  | error er => exact False.elim hq'
  | ok fl =>
    cases fl with
    | ret u =>
      obtain ⟨v, H2, os2, bare2, un2, hok2, rv, ev, d, fs, ea, ed, hd1, q2⟩ := hq'
      subst ev
      obtain ⟨h2, g2, d2, t2, os'⟩ := s'
      exact ⟨rv, mk_end (raises_own T.exC T.tyC) I hsz kk un2 hok2 os2 bare2 ea ed hd1 q2⟩
    | next => exact False.elim hq'
    | brk => exact False.elim hq'
    | cont => exact False.elim hq'
theorem pmk_bad0 {nm : Str} (T : OexC X.K C) (iC : PySem.W.findIn X.K (.ref C) "__init__" = some (some (.ref fI))) (tI : PySem.W.typeIn X.K (.ref fI) = some (.type "function"))
    (F1 : FnOk X.prog X.w X.K X.mg X.base CX0 k fI fd ["self"] (sp_B0 C nm)) (hr : Room (k + 1) X.A) (hb : Binds X.K fd ["self"] []) (hg : Gl X x) (hm : X.mg x = some (.ref C)) (hdb : (x == ("__debug__" : Str)) = false := by decide) :
    PMk X (.Call (.Name x p) [] [] pos) (tBad C nm) := by
  intro pins s σ H Q I h
  refine wpAny_Call_Name_kw (ld_glob I hg hm ?_ hdb)
  refine PySem.W.callWith_K0 I.kIn T.kC ?_
  refine run_bad T iC tI F1 hr hb I fun a na => ⟨a, rfl, upd_same, fun dx nx ne => ?_⟩
  have nx0 : H dx = none := by rw [upd_ne ne] at nx; exact nx
  refine ⟨rfl, dx, _, upd_same, by rw [upd_ne ne, upd_same], nx0, ?_⟩
  rw [heap_end na ne]
  exact h dx nx0
theorem pmk_bad1 {nm at1 : Str} {e : Expr} {te : TE} (T : OexC X.K C) (iC : PySem.W.findIn X.K (.ref C) "__init__" = some (some (.ref fI))) (tI : PySem.W.typeIn X.K (.ref fI) = some (.type "function"))
    (F1 : FnOk X.prog X.w X.K X.mg X.base CX0 k fI fd ["self", at1] (sp_B1 C nm at1)) (hr : Room (k + 1) X.A) (hb : Binds X.K fd ["self", at1] []) (hg : Gl X x) (hm : X.mg x = some (.ref C)) (ha : PE X e te) (hdb : (x == ("__debug__" : Str)) = false := by decide)
    (he : starEach [e] X.env = (false, eval e X.env) :: starEach [] X.env := by rfl) (hpl : (backTo pos (starEach [] X.env)).any (·.1) = false := by rfl) :
    PMk X (.Call (.Name x p) [e] [] pos) (tBad1 C nm at1 te) :=
  pmk_oex (CX := CX0) (dvs := []) (ds := []) (ta := tCons te tNil) T iC tI F1 hr hb .nil pass0 hg hm (pa_cons ha pa_nil he) hdb he hpl
end
/-- the question that tBad1 leaves behind its argument -/
theorem mk_bad1 {C : Addr} {nm at1 : Str} {v : V} {H1 : Hp} {Q : XK} (h : ∀ d, H1 d = none → Q (.ref C) (some d) (upd H1 d (.xd [(at1, v), ("word", .str nm)]))) :
    [v].length ≤ 1000 ∧ ∀ a, H1 a = none → sp_B1 C nm at1 (.ref a :: ([v] ++ [])) (upd H1 a (exo a C none)) (fun v H2 => v = .non ∧ ∃ (d : Addr) (fs : List (Str × V)), H2 a = some (exo a C (some d)) ∧ H2 d = some (exd d fs) ∧ H1 d = none ∧ Q (.ref C) (some d) (upd (del H2 a) d (.xd fs))) (fun _ _ _ => False) := by
  refine ⟨by simp, fun a na => ⟨a, v, rfl, upd_same, fun dx nx ne => ?_⟩⟩
  have nx0 : H1 dx = none := by rw [upd_ne ne] at nx; exact nx
  refine ⟨rfl, dx, _, ?_, upd_same, nx0, ?_⟩
  · rw [upd_ne (Ne.symm ne), upd_same]
  · rw [heap_end1 na ne]
    exact h dx nx0
end Kb
set_option Elab.async false
set_option linter.all false
set_option maxRecDepth 100000
set_option maxHeartbeats 4000000
namespace Kb
open PySem PySem.Spec PyProof.Rows L2
structure Cl where
  c : Value
  slot : Option Nat
  ts : Addr → Value → Option Addr → TS
def endsOf (D : Ends) : Option Nat → Ends
  | none => D
  | some i => { nx := fun σ' H' => D.nx (σ'.set i none) H', rt := D.rt, bk := fun σ' H' => D.bk (σ'.set i none) H', ct := fun σ' H' => D.ct (σ'.set i none) H' }
def setOf (σ : L2.St) (a : Addr) : Option Nat → L2.St
  | none => σ
  | some i => σ.set i (some (.ref a))
/-- what the clauses wish of an exception of the body, one after the other -/
def wAll (K : PySem.W.Frag) (Wout : WX) (D : Ends) : List Cl → WX
  | [] => Wout
  | q :: r => fun cls d σ H => ∃ b, PySem.W.exmOne K cls q.c = some b ∧ (b = true → ∀ a, H a = none → q.ts a cls d (endsOf D q.slot) (setOf σ a q.slot) H) ∧ (b = false → wAll K Wout D r cls d σ H)
inductive HdsA (X : Cx) : List ExceptHandler → List Cl → Prop
  | nil : HdsA X [] []
  | no {x : Str} {c : Value} {ts : Addr → Value → Option Addr → TS} {b₀ : Stmt} {suite : List Stmt} {np pos' : Pos} {hds : List ExceptHandler} {l : List Cl} (hc : Names X x c)
      (hsu : ∀ (a : Addr) (oe : Obj) (cls : Value) (d : Option Addr) (pn : List (Addr × Obj)), Zc cls d oe → (∃ vs, oe.data = .fields vs) → PSs (X.suite a ((a, oe) :: pn)) (b₀ :: suite) (ts a cls d)) (r : HdsA X hds l) :
      HdsA X (.ExceptHandler (some (.Name x np)) none (b₀ :: suite) pos' :: hds) (⟨c, none, ts⟩ :: l)
  | as {x n : Str} {i : Nat} {c : Value} {ts : Addr → Value → Option Addr → TS} {b₀ : Stmt} {suite : List Stmt} {np pos' : Pos} {hds : List ExceptHandler} {l : List Cl} (hc : Names X x c) (hi : X.N[i]? = some n) (hln : X.env.kindOf n = some .local)
      (hsu : ∀ (a : Addr) (oe : Obj) (cls : Value) (d : Option Addr) (pn : List (Addr × Obj)), Zc cls d oe → (∃ vs, oe.data = .fields vs) → PSs (X.suite a ((a, oe) :: pn)) (b₀ :: suite) (ts a cls d)) (r : HdsA X hds l) :
      HdsA X (.ExceptHandler (some (.Name x np)) (some n) (b₀ :: suite) pos' :: hds) (⟨c, some i, ts⟩ :: l)
section
variable {X : Cx} {body : List Stmt} {h₀ : ExceptHandler} {hds : List ExceptHandler} {l : List Cl} {pos : Pos} {tb : WX → TS} {Wout : WX}
theorem ps_try_all (hs : X.stack = X.env :: X.outer) (hf : X.env.frame = some X.env.locals) (hN : X.N.Nodup) (tk : Takes X Wout)
    (hb : ∀ (W : WX) (pn : List (Addr × Obj)) (xe : Value → Shared → Prop), Takes (X.tr pn xe) W → PassesOwn (model X.prog X.w) X.A X.env xe → PSs (X.tr pn xe) body (tb W))
    (hh : HdsA X (h₀ :: hds) l) : PS X (.Try body (h₀ :: hds) [] [] pos) (fun D σ H => tb (wAll X.K Wout D l) D σ H) := by
  refine ⟨fun pins s σ H D I h => ?_⟩
  have ok := I.ok
  have hfr : X.A.frames = some (X.env :: X.outer) := by rw [ok.frames, hs]
  refine wpAny_Try_except ?_
  refine wpAny_mono ((hb (wAll X.K Wout D l) (X.pn ++ pins) (fun e s₁ => wpAny (model X.prog X.w) X.A (noteFrame e X.env) (fun _ s₂ => wpAny (model X.prog X.w) X.A (setFlight e none) (fun _ s₃ =>
    wpAny (model X.prog X.w) X.A (handleBy e X.env (h₀ :: hds)) (SP X pins D) X.xe s₃) X.xe s₂) X.xe s₁) (fun u s' xx => ?_) PassesOwn.looking).run [] s σ H D (I.toTry _) h) (fun f s1 hsp => ?_) (fun e s1 he => he)
  · obtain ⟨a, B, sI, pins', σ', H', cls, d, rfl, J', nb, up, sky, na, os, ag, w⟩ := xx
    have J : Inv X pins σ' H' sI := J'.ofTry ok
    have sky' : Sky B (X.env :: X.outer) a (Zc cls d) X.env.locals s'.heap := by rw [← hs]; exact sky
    show wpAny (model X.prog X.w) X.A (noteFrame (.ref a) X.env) _ _ _
    refine Sky.land Zc.steady hfr hf sky' fun h3 fl3 up3 => ?_
    have J3 : Inv X pins σ' H' { s' with heap := h3 } := J.landed nb fl3.1 (up.trans up3) os ag
    obtain ⟨oe3, vs3, he3, hz3, hd3⟩ := fl3.there
    have notFr : ∀ {h : Heap} {o : Obj} {vs : Array Value}, h.FunFrames B (X.env :: X.outer) → h.get? a = some o → o.data = .fields vs → a ∉ frs (X.env :: X.outer) := fun {h o vs} ff e dd hm => by
      obtain ⟨_, o', e', hnf⟩ := ff.mem hm
      rw [e] at e'; cases e'
      exact hnf _ dd
    have nfr := notFr fl3.2.2.1 he3 hd3
    have nL : a ≠ X.env.locals := fun z => nfr (List.mem_filterMap.mpr ⟨X.env, List.mem_cons_self, by rw [hf, z]⟩)
    have nF : a ∉ X.fs := fun hm => by
      obtain ⟨e, he, q⟩ := List.mem_filterMap.mp hm
      exact nfr (List.mem_filterMap.mpr ⟨e, List.mem_cons_of_mem _ he, q⟩)
    have S3 := J3.suite he3 hd3 na nL nF
    have test : ∀ {x : Str} {c : Value} {np : Pos}, Names X x c → ∀ {Q : Value → Shared → Prop} {E : Value → Shared → Prop}, Q c { s' with heap := h3 } → wpAny (model X.prog X.w) (X.A.mark (some (.ref a))) (eval (.Name x np) X.env) Q E { s' with heap := h3 } := fun {x c np} hc {Q E} q => by
      obtain ⟨hg, hdbg, hm | ⟨hm, hv, hnn⟩⟩ := hc
      · exact ld_glob (X := X.suite a ((a, oe3) :: (X.pn ++ pins))) S3 hg hm q hdbg
      · exact ld_blt (X := X.suite a ((a, oe3) :: (X.pn ++ pins))) S3 hg hm hv q hnn hdbg
    have LT : PySem.W.Looks (model X.prog X.w) h3 (typeOf (.ref a)) cls := fun A Q E s k q => wpAny_typeOf_ref (k _ _ he3) (by rw [hz3.1]; exact q)
    have go : ∀ {hds' : List ExceptHandler} {l' : List Cl}, HdsA X hds' l' → wAll X.K Wout D l' cls d σ' H' →
        wpAny (model X.prog X.w) X.A (handleBy (.ref a) X.env hds') (SP X pins D) X.xe { s' with heap := h3 } := by
      intro hds' l' hk
      induction hk with
      | nil =>
        intro w
        refine wpAny_handleBy_nil ?_
        obtain ⟨k1, k2, k3, oe, vs, T, oT, ts', he, hz, hd, h1, hr⟩ := id fl3
        unfold PySem.passOn
        refine wpAny_bind (wpAny_field he hd h1 ?_)
        rw [if_neg (show ¬ ((Value.ref T == Value.none) = true) from by simp)]
        have fin : wpAny (model X.prog X.w) X.A (setFlight (.ref a) X.env.frame) (fun _ s4 => wpAny (model X.prog X.w) X.A (throw (.ref a) : Sem Flow) (SP X pins D) X.xe s4) X.xe { s' with heap := h3 } := by
          rw [hf]
          refine HandSPX.setFlight_upZ fl3 fun h4 hh4 up4 => wpAny_throw (tk _ _ ?_)
          exact ⟨a, B, sI, pins, σ', H', cls, d, rfl, J, nb, (up.trans up3).trans up4, .inr (.inr (by rw [hs]; exact hh4)), na, os, ag, w⟩
        first
          | exact wpAny_bind (wpAny_pure (wpAny_bind fin))
          | exact wpAny_bind fin
      | @no x c ts b₀ suite np pos' hds2 l2 hc hsu r ih =>
        intro w
        obtain ⟨b, hb1, hyes, hno⟩ := w
        refine wpAny_handleBy_cons (codeAny_handlers_test ?_) (by intro q; cases q)
        refine test hc ((PySem.W.exm_one (M := model X.prog X.w) (J3.kIn) LT hb1).here ?_)
        cases b with
        | true =>
          refine codeAny_handlers_suite ?_
          refine HandSPX.lands_againZ fl3 fun h4 fl4 up4 => ?_
          have J4 : Inv X pins σ' H' { s' with heap := h4 } := J.landed nb fl4.1 ((up.trans up3).trans up4) os ag
          obtain ⟨oe4, vs4, he4, hz4, hd4⟩ := fl4.there
          have S4 := J4.suite he4 hd4 na nL nF
          refine wpAny_mono ((hsu a oe4 cls d (X.pn ++ pins) hz4 ⟨_, hd4⟩).run [] _ _ H' _ S4 (hyes rfl a na)) (fun f s6 hsp => ?_) (fun _ _ z => False.elim z)
          cases f with
          | next =>
            obtain ⟨σ6, H6, S6, q6⟩ := hsp
            exact ⟨_, _, S6.unsuite ok, q6⟩
          | brk =>
            obtain ⟨σ6, H6, S6, q6⟩ := hsp
            exact ⟨_, _, S6.unsuite ok, q6⟩
          | cont =>
            obtain ⟨σ6, H6, S6, q6⟩ := hsp
            exact ⟨_, _, S6.unsuite ok, q6⟩
          | ret u =>
            obtain ⟨v6, σ6, H6, S6, r6, q6⟩ := hsp
            exact ⟨_, _, _, S6.unsuite ok, r6, q6⟩
        | false =>
          show wpAny _ X.A (handleBy (.ref a) X.env hds2) _ _ _
          exact ih (hno rfl)
      | @as x n i c ts b₀ suite np pos' hds2 l2 hc hi hln hsu r ih =>
        intro w
        obtain ⟨b, hb1, hyes, hno⟩ := w
        have hloc : Loc X.env.scope n := .inl hln
        refine wpAny_handleBy_cons (codeAny_handlers_test ?_) (by intro q; cases q)
        refine test hc ((PySem.W.exm_one (M := model X.prog X.w) (J3.kIn) LT hb1).here ?_)
        cases b with
        | true =>
          refine codeAny_handlers_suite_as ?_
          refine HandSPX.lands_againZ fl3 fun h4 fl4 up4 => ?_
          have J4 : Inv X pins σ' H' { s' with heap := h4 } := J.landed nb fl4.1 ((up.trans up3).trans up4) os ag
          obtain ⟨oe4, vs4, he4, hz4, hd4⟩ := fl4.there
          have S4 := J4.suite he4 hd4 na nL nF
          refine store_ok (X := X.suite a ((a, oe4) :: (X.pn ++ pins))) (v := .ref a) S4 hN hi hloc rfl (fun s5 S5 => ?_) (.inr hln)
          refine wpAny_mono ((hsu a oe4 cls d (X.pn ++ pins) hz4 ⟨_, hd4⟩).run [] s5 _ H' _ S5 (hyes rfl a na)) (fun f s6 hsp => ?_) (fun _ _ z => False.elim z)
          have end_ : ∀ {σ6 : L2.St} {H6 : Hp} {Q : Shared → Prop}, Inv (X.suite a ((a, oe4) :: (X.pn ++ pins))) [] σ6 H6 s6 → (∀ s7, Inv X pins (σ6.set i none) H6 s7 → Q s7) →
              wpAny (model X.prog X.w) X.A (do bindName X.env n .none; unbindBehindTheSuite X.env n pos') (fun _ s7 => Q s7) X.xe s6 := fun {σ6 H6 Q} S6 hq => gone_ok (S6.unsuite ok) hN hi hln hq
          cases f with
          | next =>
            obtain ⟨σ6, H6, S6, q6⟩ := hsp
            exact end_ S6 fun s7 J7 => ⟨_, _, J7, q6⟩
          | brk =>
            obtain ⟨σ6, H6, S6, q6⟩ := hsp
            exact end_ S6 fun s7 J7 => ⟨_, _, J7, q6⟩
          | cont =>
            obtain ⟨σ6, H6, S6, q6⟩ := hsp
            exact end_ S6 fun s7 J7 => ⟨_, _, J7, q6⟩
          | ret u =>
            obtain ⟨v6, σ6, H6, S6, r6, q6⟩ := hsp
            exact end_ S6 fun s7 J7 => ⟨_, _, _, J7, r6, q6⟩
        | false =>
          show wpAny _ X.A (handleBy (.ref a) X.env hds2) _ _ _
          exact ih (hno rfl)
    exact go hh w
  · cases f with
    | next =>
      obtain ⟨σ', H', J', q⟩ := hsp
      exact wpAny_execs_nil ⟨σ', H', J'.ofTry ok, q⟩
    | brk =>
      obtain ⟨σ', H', J', q⟩ := hsp
      exact ⟨σ', H', J'.ofTry ok, q⟩
    | cont =>
      obtain ⟨σ', H', J', q⟩ := hsp
      exact ⟨σ', H', J'.ofTry ok, q⟩
    | ret u =>
      obtain ⟨v, σ', H', J', r, q⟩ := hsp
      exact ⟨v, σ', H', J'.ofTry ok, r, q⟩
end
def tCallW (sp : Sp) (W : WX) (t : TA) : TE := fun σ H Q => t σ H fun vs H1 => sp vs H1 Q (fun cls d H' => W cls d σ H')
section
variable {X : Cx} {k : Nat} {ps : List Str} {sp : Sp} {x : Str} {p pos : Pos} {e : Expr} {es : List Expr} {t : TA} {W : WX}
theorem pe_callW (tk : Takes X W) (G : Fn X.prog X.w X.K X.mg X.base (L2.CX X.prog X.w) k x ps sp) (hr : Room k X.A) (hg : Gl X x) (ha : PA X (e :: es) t) (hdb : (x == ("__debug__" : Str)) = false := by decide)
    (he : starEach (e :: es) X.env = (false, eval e X.env) :: starEach es X.env := by rfl) (hpl : (backTo pos (starEach es X.env)).any (·.1) = false := by rfl) : PE X (.Call (.Name x p) (e :: es) [] pos) (tCallW sp W t) := by
  obtain ⟨f, fd, F, hm, hk, hb⟩ := G.ex
  refine ⟨fun pins s σ H Q I h => ?_⟩
  refine wpAny_Call_Name_kw (ld_glob I hg hm ?_ hdb)
  refine PySem.W.callWith_K (h₀ := X.base) I.ok.mod.kin hk (thn (ha.run pos pins s σ H _ I h) fun us s1 ⟨vs, H1, I1, r, q⟩ => ⟨I1.kIn, ?_⟩) he hpl
  show wpAny _ _ (call (.ref f) us) _ _ _
  have hl : (us ++ []).length = ps.length := by rw [List.append_nil, ← r.length]; exact F.len _ _ _ _ q
  have hbs := hb s1 us I1.kIn hl
  rw [List.append_nil] at hbs
  refine wpAny_call (codeAny_mono (F.run X.A X.stack s1 H1 ⟨us, []⟩ us vs Q (fun cls d H' => W cls d σ H') hr I1.env0 hbs r q) fun r s' hq => ?_)
  cases r with
  | error e => exact tk e s' (XE.of_call I1 (fun cls d H' h => h) hq)
  | ok fl =>
    cases fl with
    | ret u => exact I1.after hq
    | next => exact False.elim hq
    | brk => exact False.elim hq
    | cont => exact False.elim hq
end
/-- e.f -/
def tXfA (K : PySem.W.Frag) (a : Addr) (cls : Value) (d : Option Addr) (n : Str) (te : TE) : TE := fun σ H Q => ∃ C : Addr, cls = .ref C ∧ XfC K C ∧ PySem.W.findIn K (.ref C) n = some none ∧ tXf a cls d C n te σ H Q
/-- what isinstance's second says -/
def IsOf (K : PySem.W.Frag) (H : Hp) (C : Addr) (c : V) (b : Bool) : Prop :=
  (∃ cv, (∀ u, RelV c u → u = cv) ∧ PySem.W.kitOne K (.ref C) cv = some b) ∨ ∃ (tp : Addr) (cs : List V) (its : List Value), c = .ref tp ∧ SqT K H tp cs ∧ (∀ us, Vals cs us → us = its) ∧ PySem.W.kitAny K (.ref C) its = some b
def rIsX (K : PySem.W.Frag) (a : Addr) (cls : Value) (d : Option Addr) : List V → Hp → VK → Prop := fun xs H Q =>
  ∃ (c : V) (C dd : Addr) (fs : List (Str × V)) (b : Bool), xs = [.ref a, c] ∧ cls = .ref C ∧ d = some dd ∧ H dd = some (.xd fs) ∧ ExcC K C ∧ IsOf K H C c b ∧ Q (.bl b) H
section
variable {X : Cx} {a : Addr} {oe : Obj} {cls : Value} {d : Option Addr} {pn : List (Addr × Obj)} {e : Expr} {te : TE} {pos : Pos} {n : Str}
theorem pe_xfA (hz : Zc cls d oe) (hf : ∃ vs, oe.data = .fields vs) (he : PE (X.suite a ((a, oe) :: pn)) e te) (hb : attributeBase e n X.env (eval e X.env) = eval e X.env := by rfl) :
    PE (X.suite a ((a, oe) :: pn)) (.Attribute e n pos) (tXfA X.K a cls d n te) := by
  refine ⟨fun pins s σ H Q I h => ?_⟩
  obtain ⟨C, ec, T, hno, h⟩ := h
  exact (pe_xf T hno hz hf he hb).run pins s σ H Q I h
theorem call_isX (hz : Zc cls d oe) (hf : ∃ vs, oe.data = .fields vs) : CallR (X.suite a ((a, oe) :: pn)) (.builtin "isinstance") (rIsX X.K a cls d) := by
  intro pins s σ H xs us Q I r h
  obtain ⟨c, C, dd, fs, b, rfl, ec, ed, hdd, E, io, q⟩ := h
  subst ec
  subst ed
  cases r with
  | cons rx rr =>
    cases rr with
    | cons rt rr =>
      cases rr
      cases rx
      obtain ⟨hget, _⟩ := I.pin (a, oe) (List.mem_append.mpr (.inl List.mem_cons_self))
      obtain ⟨vs, hv⟩ := hf
      have hx : ObjOk X.prog X.w H s.heap dd (.xd fs) := I.hok dd _ hdd
      obtain ⟨od, hod⟩ : ∃ od, s.heap.get? dd = some od := by
        obtain ⟨mA, ⟨o, es, ep, e1, _⟩, _⟩ := hx
        exact ⟨o, e1⟩
      have J : PySem.W.InstAt s.heap a oe C (some od) := by
        obtain ⟨oc, od', oda, osl⟩ := oe
        obtain ⟨h1, h2⟩ := hz
        dsimp only at h1 h2 hv
        subst h1 h2 hv
        exact ⟨hget, rfl, rfl, hod⟩
      obtain ⟨cd, hcd, _⟩ := PySem.W.any_some E.hd
      have KT := PySem.W.kitx_exc (x := a) (ox := oe) (od := some od) (by rw [hcd]; rfl) E.hg E.hk E.hs E.ha E.hn E.ht E.hm
      rcases io with ⟨cv, hcv, e⟩ | ⟨tp, cs, its, rfl, htp, hits, e⟩
      · have ec := hcv _ rt
        subst ec
        exact PySem.W.kia_one KT I.kIn J e (fun z => nomatch z) fun tk => ⟨.bl b, H, I.kept (t' := tk) fun _ _ z => z, rfl, q⟩
      · obtain ⟨its', r', ⟨o, eo, oc, nn, dt⟩, _⟩ := I.tuple htp
        have e2 := hits _ r'
        subst e2
        cases rt
        obtain ⟨o1, o2, o3, o4⟩ := o
        dsimp only at oc dt
        subst oc
        subst dt
        exact PySem.W.kia_tup KT I.kIn J (its := its') eo e (fun z => nomatch z) fun tk => ⟨.bl b, H, I.kept (t' := tk) fun _ _ z => z, rfl, q⟩
end
end Kb
set_option Elab.async false
set_option linter.all false
set_option maxRecDepth 100000
set_option maxHeartbeats 4000000
namespace Kb
open PySem PySem.Spec PyProof.Rows L2
def IteT (K : PySem.W.Frag) (a : Addr) (k : Int) : It :=
  ⟨fun i H => ∃ (xs : List V) (x : V), SqT K H a xs ∧ xs[i]? = some x, fun i H v H' => ∃ T x, v = .ref T ∧ H T = none ∧ H' = upd H T (.tup [.int (k + (i : Nat)), x]) ∧ ∀ xs, SqT K H a xs → xs[i]? = some x, fun i H => ∃ xs : List V, SqT K H a xs ∧ xs.length = i⟩
/-- enumerate(t), enumerate(t, start=k): t a tuple -/
def iEnT (K : PySem.W.Frag) (k : Int) (ta : TA) : TI := fun σ H R => ta σ H fun vs H1 => ∃ a xs, vs = [.ref a] ∧ SqT K H1 a xs ∧ R (IteT K a k) H1
end Kb
set_option Elab.async false
set_option linter.all false
set_option maxRecDepth 100000
set_option maxHeartbeats 4000000
set_option Elab.async false
set_option linter.all false
set_option maxRecDepth 100000
set_option maxHeartbeats 4000000
namespace Kb
open PySem PySem.Spec PyProof.Rows L2
structure Exs (K : PySem.W.Frag) (ec : Str → Addr) (ns : List Str) : Prop where
  bad : ∀ x ∈ ns, Bad K (ec x) (ec "ChamberError")
  kitV : ∀ x ∈ ns, PySem.W.kitOne K (.ref (ec x)) (.type "ValueError") = some true
  kit : ∀ x ∈ ns, ∀ y ∈ ns, PySem.W.kitOne K (.ref (ec x)) (.ref (ec y)) = some (x == y || y == "ChamberError")
  exm : ∀ x ∈ ns, ∀ y ∈ ns, PySem.W.exmOne K (.ref (ec x)) (.ref (ec y)) = some (x == y || y == "ChamberError")
def exsB (K : PySem.W.Frag) (D : Addr) (l : List (Str × Addr)) : Bool :=
  l.all fun p => badB K p.2 D && (PySem.W.kitOne K (.ref p.2) (.type "ValueError") == some true && l.all fun q =>
    PySem.W.kitOne K (.ref p.2) (.ref q.2) == some (p.1 == q.1 || q.1 == "ChamberError") && PySem.W.exmOne K (.ref p.2) (.ref q.2) == some (p.1 == q.1 || q.1 == "ChamberError"))
def ecOf (mg : Str → Option Value) : Str → Addr := fun x => match mg x with
  | some (.ref a) => a
  | _ => 0
theorem ecOf_at {mg : Str → Option Value} {x : Str} {a : Addr} (h : mg x = some (.ref a)) : ecOf mg x = a := by unfold ecOf; rw [h]
theorem exs_of {K : PySem.W.Frag} {mg : Str → Option Value} {D : Addr} {l : List (Str × Addr)} (hD : mg "ChamberError" = some (.ref D)) (hl : ∀ p ∈ l, mg p.1 = some (.ref p.2)) (h : exsB K D l = true) : Exs K (ecOf mg) (l.map (·.1)) := by
  have key : ∀ x ∈ l.map (·.1), ∃ a, (x, a) ∈ l ∧ ecOf mg x = a := by
    intro x hx
    obtain ⟨p, hp, rfl⟩ := List.mem_map.mp hx
    exact ⟨p.2, hp, ecOf_at (hl p hp)⟩
  unfold exsB at h
  rw [List.all_eq_true] at h
  refine ⟨fun x hx => ?_, fun x hx => ?_, fun x hx y hy => ?_, fun x hx y hy => ?_⟩
  · obtain ⟨a, ha, e⟩ := key x hx
    have z := h _ ha
    simp only [Bool.and_eq_true] at z
    rw [e, ecOf_at hD]
    exact bad_of z.1
  · obtain ⟨a, ha, e⟩ := key x hx
    have z := h _ ha
    simp only [Bool.and_eq_true, beq_iff_eq] at z
    rw [e]
    exact z.2.1
  · obtain ⟨a, ha, e⟩ := key x hx
    obtain ⟨b, hb, e2⟩ := key y hy
    have z := h _ ha
    simp only [Bool.and_eq_true] at z
    have z2 := List.all_eq_true.mp z.2.2 _ hb
    simp only [Bool.and_eq_true] at z2
    rw [e, e2]
    exact beq_iff_eq.mp z2.1
  · obtain ⟨a, ha, e⟩ := key x hx
    obtain ⟨b, hb, e2⟩ := key y hy
    have z := h _ ha
    simp only [Bool.and_eq_true] at z
    have z2 := List.all_eq_true.mp z.2.2 _ hb
    simp only [Bool.and_eq_true] at z2
    rw [e, e2]
    exact beq_iff_eq.mp z2.2
def ExAt (mg : Str → Option Value) (ec : Str → Addr) (ns : List Str) : Prop := ∀ x ∈ ns, mg x = some (.ref (ec x))
/-- a class that is raised, its __init__ kept -/
structure Rz0 (P : Program) (w : World) (K : PySem.W.Frag) (mg : Str → Option Value) (base : Heap) (x : Str) (C : Addr) : Prop where
  ex : ∃ (fI : Addr) (fd : FuncData), PySem.W.findIn K (.ref C) "__init__" = some (some (.ref fI)) ∧ PySem.W.typeIn K (.ref fI) = some (.type "function") ∧ FnOk P w K mg base CX0 2 fI fd ["self"] (sp_B0 C x) ∧ Binds K fd ["self"] []
  ox : OexC K C
  at_ : mg x = some (.ref C)
structure Rz1 (P : Program) (w : World) (K : PySem.W.Frag) (mg : Str → Option Value) (base : Heap) (x at1 : Str) (C : Addr) : Prop where
  ex : ∃ (fI : Addr) (fd : FuncData), PySem.W.findIn K (.ref C) "__init__" = some (some (.ref fI)) ∧ PySem.W.typeIn K (.ref fI) = some (.type "function") ∧ FnOk P w K mg base CX0 2 fI fd ["self", at1] (sp_B1 C x at1) ∧ Binds K fd ["self", at1] []
  ox : OexC K C
  at_ : mg x = some (.ref C)
/-- raise .. -/
def sRaise (W : WX) (t : L2.St → Hp → XK → Prop) : TS := fun _ σ H => t σ H fun cls d H' => W cls d σ H'
def tTry (K : PySem.W.Frag) (Wout : WX) (l : List Cl) (tb : WX → TS) : TS := fun D σ H => tb (wAll K Wout D l) D σ H
abbrev W0 : WX := fun _ _ _ _ => False
section
variable {X : Cx} {x at1 : Str} {C : Addr} {p pos pos' : Pos} {W : WX} {e : Expr} {te : TE}
theorem ps_rz0 (hc : X.calm = true) (tk : Takes X W) (R : Rz0 X.prog X.w X.K X.mg X.base x C) (hr : Room 3 X.A) (hg : Gl X x) (hdb : (x == ("__debug__" : Str)) = false := by decide) :
    PS X (.Raise (some (.Call (.Name x p) [] [] pos)) none pos') (sRaise W (tBad C x)) := by
  obtain ⟨fI, fd, h1, h2, h3, h4⟩ := R.ex
  exact ps_raise hc tk (pmk_bad0 R.ox h1 h2 h3 hr h4 hg R.at_ hdb)
theorem ps_rz1 (hc : X.calm = true) (tk : Takes X W) (R : Rz1 X.prog X.w X.K X.mg X.base x at1 C) (hr : Room 3 X.A) (hg : Gl X x) (ha : PE X e te) (hdb : (x == ("__debug__" : Str)) = false := by decide)
    (he : starEach [e] X.env = (false, eval e X.env) :: starEach [] X.env := by rfl) (hpl : (backTo pos (starEach [] X.env)).any (·.1) = false := by rfl) :
    PS X (.Raise (some (.Call (.Name x p) [e] [] pos)) none pos') (sRaise W (tBad1 C x at1 te)) := by
  obtain ⟨fI, fd, h1, h2, h3, h4⟩ := R.ex
  exact ps_raise hc tk (pmk_bad1 R.ox h1 h2 h3 hr h4 hg R.at_ ha hdb he hpl)
theorem ps_tryT {body : List Stmt} {h₀ : ExceptHandler} {hds : List ExceptHandler} {l : List Cl} {tb : WX → TS} {Wout : WX} (hs : X.stack = X.env :: X.outer) (hf : X.env.frame = some X.env.locals) (hN : X.N.Nodup) (tk : Takes X Wout)
    (hb : ∀ (W : WX) (pn : List (Addr × Obj)) (xe : Value → Shared → Prop), Takes (X.tr pn xe) W → PassesOwn (model X.prog X.w) X.A X.env xe → PSs (X.tr pn xe) body (tb W))
    (hh : HdsA X (h₀ :: hds) l) : PS X (.Try body (h₀ :: hds) [] [] pos) (tTry X.K Wout l tb) := ps_try_all hs hf hN tk hb hh
end
section
variable {K : PySem.W.Frag} {ec : Str → Addr} {ns : List Str} {W : WX} {D : Ends} {σ : L2.St} {H : Hp} {C : Addr} {x at1 : Str}
theorem r_raise (h : ∀ d H', Same H H' → H d = none → H' d = some (.xd [("word", .str x)]) → W (.ref C) (some d) σ H') : sRaise W (tBad C x) D σ H := fun d nd => h d _ (same_new nd) nd upd_same
/-- behind the argument of C(e) in a raise -/
def PRz1 (W : WX) (σ : L2.St) (C : Addr) (x at1 : Str) (v : V) (H1 : Hp) : Prop := [v].length ≤ 1000 ∧ ∀ a, H1 a = none → sp_B1 C x at1 (.ref a :: ([v] ++ [])) (upd H1 a (exo a C none)) (fun v H2 => v = .non ∧ ∃ (d : Addr) (fs : List (Str × V)), H2 a = some (exo a C (some d)) ∧ H2 d = some (exd d fs) ∧ H1 d = none ∧ W (.ref C) (some d) σ (upd (del H2 a) d (.xd fs))) (fun _ _ _ => False)
theorem r_raise1 {te : TE} (h : te σ H fun v H1 => PRz1 W σ C x at1 v H1) : sRaise W (tBad1 C x at1 te) D σ H := h
theorem r_prz1 {v : V} (h : ∀ d H', Same H H' → H d = none → H' d = some (.xd [(at1, v), ("word", .str x)]) → W (.ref C) (some d) σ H') : PRz1 W σ C x at1 v H := mk_bad1 (Q := fun cls d H' => W cls d σ H') fun d nd => h d _ (same_new nd) nd upd_same
theorem r_try {Wout : WX} {l : List Cl} {tb : WX → TS} (h : tb (wAll K Wout D l) D σ H) : tTry K Wout l tb D σ H := h
/-- the clause is taken -/
theorem w_yes {Wout : WX} {q : Cl} {r : List Cl} {d : Option Addr} {cls : Value} (e : PySem.W.exmOne K cls q.c = some true) (h : ∀ a, H a = none → q.ts a cls d (endsOf D q.slot) (setOf σ a q.slot) H) : wAll K Wout D (q :: r) cls d σ H :=
  ⟨true, e, fun _ => h, fun z => nomatch z⟩
/-- e.f of the caught -/
theorem r_xfV {a : Addr} {d : Addr} {n : Str} {i : Nat} {Q : VK} {fs : List (Str × V)} {v : V} (XF : XfC K C) (hn : PySem.W.findIn K (.ref C) n = some none) (hσ : σ[i]? = some (some (.ref a))) (hd : H d = some (.xd fs)) (hl : fs.lookup n = some v) (q : Q v H) : tXfA K a (.ref C) (some d) n (tVar i) σ H Q :=
  ⟨C, rfl, XF, hn, .ref a, hσ, rfl, rfl, d, fs, v, rfl, hd, hl, q⟩
/-- isinstance(e, c) -/
theorem r_isX {a d : Addr} {c : V} {b : Bool} {fs : List (Str × V)} {Q : VK} (hd : H d = some (.xd fs)) (E : ExcC K C) (io : IsOf K H C c b) (q : Q (.bl b) H) : rIsX K a (.ref C) (some d) [.ref a, c] H Q := ⟨c, C, d, fs, b, rfl, rfl, rfl, hd, E, io, q⟩
theorem is_cls (XS : Exs K ec ns) {y : Str} (hx : x ∈ ns) (hy : y ∈ ns) : IsOf K H (ec x) (.ref (ec y)) (x == y || y == "ChamberError") := .inl ⟨_, fun u r => r, XS.kit x hx y hy⟩
theorem is_VE (XS : Exs K ec ns) (hx : x ∈ ns) : IsOf K H (ec x) (.ty "ValueError") true := .inl ⟨_, fun u r => r, XS.kitV x hx⟩
theorem vals_refs : ∀ {cs : List Addr} {us : List Value}, Vals (cs.map V.ref) us → us = cs.map Value.ref
  | [], _, r => by cases r; rfl
  | c :: cs, _, r => by
    cases r with
    | cons h r =>
      rw [vals_refs r]
      have h : _ = Value.ref c := h
      rw [h]
      rfl
theorem kitAny_names (XS : Exs K ec ns) (hx : x ∈ ns) : ∀ {ys : List Str}, (∀ y ∈ ys, y ∈ ns) → PySem.W.kitAny K (.ref (ec x)) ((ys.map ec).map Value.ref) = some (ys.any fun y => x == y || y == "ChamberError")
  | [], _ => rfl
  | y :: ys, h => by
    have e := XS.kit x hx y (h y List.mem_cons_self)
    have r := kitAny_names XS hx (ys := ys) fun z hz => h z (List.mem_cons_of_mem _ hz)
    rw [List.map_cons, List.map_cons, List.any_cons]
    unfold PySem.W.kitAny
    rw [e]
    cases (x == y || y == "ChamberError") with
    | true => rfl
    | false => rw [Bool.false_or]; exact r
theorem is_tup (XS : Exs K ec ns) (hx : x ∈ ns) {tp : Addr} {ys : List Str} (hy : ∀ y ∈ ys, y ∈ ns) (ht : SqT K H tp ((ys.map ec).map V.ref)) : IsOf K H (ec x) (.ref tp) (ys.any fun y => x == y || y == "ChamberError") :=
  .inr ⟨tp, _, _, rfl, ht, fun us r => vals_refs r, kitAny_names XS hx hy⟩
end
theorem r_callW {sp : Sp} {W : WX} {t : TA} {σ : L2.St} {H : Hp} {Q : VK} (h : t σ H fun vs H1 => sp vs H1 Q (fun cls d H' => W cls d σ H')) : tCallW sp W t σ H Q := h
def PEn (K : PySem.W.Frag) (k : Int) (vs : List V) (H1 : Hp) (R : It → Hp → Prop) : Prop := ∃ a xs, vs = [.ref a] ∧ SqT K H1 a xs ∧ R (IteT K a k) H1
theorem r_enT {K : PySem.W.Frag} {k : Int} {ta : TA} {σ : L2.St} {H : Hp} {R : It → Hp → Prop} (h : ta σ H fun vs H1 => PEn K k vs H1 R) : iEnT K k ta σ H R := h
theorem r_pen {K : PySem.W.Frag} {k : Int} {a : Addr} {xs : List V} {H : Hp} {R : It → Hp → Prop} (h : SqT K H a xs) (q : R (IteT K a k) H) : PEn K k [.ref a] H R := ⟨a, xs, rfl, h, q⟩
theorem r_eqS {K : PySem.W.Frag} {x y : Str} {H : Hp} {Q : VK} (q : Q (.bl (decide (x = y))) H) : rEqU K (.str x) (.str y) H Q := .inl ⟨rfl, by
  have e : decide (V.str x = V.str y) = decide (x = y) := by by_cases h : x = y <;> simp [h]
  rw [e]; exact q⟩
theorem r_neS {K : PySem.W.Frag} {x y : Str} {H : Hp} {Q : VK} (q : Q (.bl (!decide (x = y))) H) : rNeU K (.str x) (.str y) H Q := .inl ⟨rfl, by
  have e : decide (V.str x = V.str y) = decide (x = y) := by by_cases h : x = y <;> simp [h]
  rw [e]; exact q⟩
theorem r_endsAs {D : Ends} {i : Nat} {σ : L2.St} {H : Hp} (h : D.nx (σ.set i none) H) : (endsOf D (some i)).nx σ H := h
def PTp (K : PySem.W.Frag) (x : V) (H1 : Hp) : Prop := ∃ p xs, x = .ref p ∧ SqT K H1 p xs ∧ NoD H1 p
theorem r_BMT {K : PySem.W.Frag} {r : V → List V → Hp → VK → Prop} {to : TE} {t : TA} {σ : L2.St} {H : Hp} {Q : VK} (h : to σ H fun x H1 => PTp K x H1 ∧ t σ H1 fun xs H2 => r x xs H2 Q) : tBMT K r to t σ H Q := h
theorem r_ptp {K : PySem.W.Frag} {p : Addr} {xs : List V} {H : Hp} {A : Prop} (h : SqT K H p xs) (d : NoD H p) (a : A) : PTp K (.ref p) H ∧ A := ⟨⟨p, xs, rfl, h, d⟩, a⟩
theorem ixN_r {n : Nat} {y : Int} (h1 : 1 ≤ y) (h2 : y ≤ n) : ixN n (y - 1) = some (y - 1).toNat := by
  unfold ixN
  rw [if_pos (by omega), if_pos (by omega)]
theorem ixN_n {n k : Nat} (h : k < n) : ixN n (k : Int) = some k := by
  unfold ixN
  rw [if_pos (by omega), if_pos (by omega)]
  rfl
theorem map_set {bs : List Int} {k : Nat} {x : Int} : (bs.map V.int).set k (.int x) = (bs.set k x).map V.int := by rw [List.map_set]
section
local macro_rules | `(tactic| walk_at "tk") => `(tactic| first
  | assumption
  | ((with_reducible refine' sqT_of ?k); (case k => assumption))
  | ((with_reducible refine' sqT_ofD ?k); (case k => assumption))
  | ((with_reducible refine' noD_of ?k); (case k => assumption))
  | ((with_reducible refine' noD_same ?s ?k); (case s => assumption); (case k => walk_at "tk"))
  | ((with_reducible refine' sqL_of ?k); (case k => assumption))
  | ((with_reducible refine' sqT_same ?s ?k); (case s => assumption); (case k => walk_at "tk"))
  | ((with_reducible refine' sqL_same ?s ?k); (case s => assumption); (case k => walk_at "tk"))
  | ((with_reducible refine' sqT_but ?s ?t ?k); (case s => assumption); (case t => walk_at "tk"); (case k => walk_at "tk"))
  | ((with_reducible refine' sqL_but ?s ?t ?k); (case s => assumption); (case t => walk_at "ne"); (case k => walk_at "tk"))
  | ((with_reducible refine' sqL_of ?k); (case k => walk_at "tk"))
  | ((with_reducible refine' sqT_of ?k); (case k => walk_at "tk"))
  | ((with_reducible refine' at_same ?s ?k); (case s => assumption); (case k => walk_at "tk"))
  | ((with_reducible refine' at_but ?s ?t ?k); (case s => assumption); (case t => walk_at "ne"); (case k => walk_at "tk")))
local macro_rules | `(tactic| walk_at "ne") => `(tactic| first
  | assumption
  | (refine Ne.symm ?_; assumption)
  | exact ne_of_none (by assumption) (by assumption)
  | exact (ne_of_none (by assumption) (by assumption)).symm)
local macro_rules | `(tactic| walk_at "side") => `(tactic| first
  | assumption
  | omega
  | (simp only [sizeLine_eq, List.length_cons, List.length_nil, List.length_map]; omega)
  | (show _ ≤ sizeLine; decide))
local macro_rules | `(tactic| walk_at "kit") => `(tactic| first
  | (show kitB _ _ = some true; decide +kernel)
  | (show kitB _ _ = some false; decide +kernel))
local macro_rules | `(tactic| walk_at "rng") => `(tactic| first
  | (refine ⟨by omega, by omega, by omega, by omega⟩)
  | (refine ⟨by omega, by omega⟩)
  | ((simp only [List.length_map]); (refine ⟨by omega, by omega, by omega, by omega⟩))
  | ((simp only [List.length_map]); (refine ⟨by omega, by omega⟩)))
local macro_rules | `(tactic| walk_at "rd1") => `(tactic| first
  | with_reducible refine r_seq ?_
  | ((with_reducible refine' r_var ?k0 ?_); (case k0 => rfl))
  | with_reducible refine r_op ?_
  | with_reducible refine r_c ?_
  | with_reducible refine r_asg ?_
  | with_reducible refine r_name ?_
  | with_reducible refine r_cons ?_
  | with_reducible refine r_nil ?_
  | with_reducible refine r_CB ?_
  | with_reducible refine r_if ?_
  | with_reducible refine r_test ?_
  | with_reducible refine r_k ?_
  | with_reducible refine r_T ?_
  | with_reducible refine r_F ?_
  | with_reducible refine r_nT ?_
  | with_reducible refine r_nF ?_
  | with_reducible refine r_ret ?_
  | with_reducible refine r_drop ?_
  | with_reducible refine r_next ?_
  | with_reducible refine r_call ?_
  | with_reducible refine r_addI ?_
  | with_reducible refine r_subI ?_
  | with_reducible refine r_ltI ?_
  | with_reducible refine r_gtI ?_
  | with_reducible refine r_leI ?_
  | with_reducible refine r_geI ?_
  | with_reducible refine r_eqI ?_
  | with_reducible refine r_neI ?_
  | with_reducible refine r_int ?_
  | with_reducible refine r_abs ?_
  | with_reducible refine r_not ?_
  | with_reducible refine r_and ?_
  | with_reducible refine r_or ?_
  | with_reducible refine r_tru ?_
  | with_reducible refine r_truB ?_
  | with_reducible refine r_lst ?_
  | with_reducible refine r_tup ?_
  | with_reducible refine r_BM ?_
  | with_reducible refine r_BM0 ?_
  | with_reducible refine r_tyS ?_
  | with_reducible refine r_gsub ?_
  | with_reducible refine r_then ?_
  | with_reducible refine r_lstRg ?_
  | with_reducible refine r_tupRg ?_
  | with_reducible refine r_rg2 ?_
  | with_reducible refine r_rg1 ?_
  | with_reducible refine r_ii ?_
  | with_reducible refine r_i ?_
  | with_reducible refine r_ipI ?_
  | with_reducible refine r_un ?_
  | with_reducible refine r_neg ?_
  | with_reducible refine r_isN ?_
  | with_reducible refine r_notN ?_
  | with_reducible refine r_notV ?_
  | with_reducible refine r_pnot ?_
  | with_reducible refine r_pif ?_
  | with_reducible refine r_andV ?_
  | with_reducible refine r_orV ?_
  | with_reducible refine r_ifE ?_
  | with_reducible refine r_chain ?_
  | with_reducible refine r_sl ?_
  | with_reducible refine r_noPart ?_
  | with_reducible refine r_part ?_
  | with_reducible refine r_brk ?_
  | with_reducible refine r_cont ?_
  | with_reducible refine r_retN ?_
  | with_reducible refine r_truI ?_
  | with_reducible refine r_B ?_
  | with_reducible refine r_for ?_
  | with_reducible refine r_rng1 ?_
  | with_reducible refine r_rng2 ?_
  | with_reducible refine r_rng3 ?_
  | with_reducible refine r_body ?_
  | with_reducible refine r_lc ?_
  | with_reducible refine r_yes ?_
  | ((with_reducible refine' r_mod ?k0 ?_); (case k0 => walk_at "side"))
  | ((with_reducible refine' r_mulI ?k0 ?_); (case k0 => first | exact Or.inl ⟨by omega, by omega⟩ | exact Or.inr ⟨by omega, by omega⟩))
  | ((with_reducible refine' r_lenL ?k0 ?_); (case k0 => walk_at "tk"))
  | ((with_reducible refine' r_lenT ?k0 ?_); (case k0 => walk_at "tk"))
  | ((with_reducible refine' r_truL ?k0 ?_); (case k0 => walk_at "tk"))
  | ((with_reducible refine' r_truT ?k0 ?_); (case k0 => walk_at "tk"))
  | ((with_reducible refine' r_ixL ?k0 ?k1 ?_); (case k0 => walk_at "tk"); (case k1 => first | assumption | rfl))
  | ((with_reducible refine' r_ixT ?k0 ?k1 ?_); (case k0 => walk_at "tk"); (case k1 => first | assumption | rfl))
  | ((with_reducible refine' r_new ?k0 ?_); (case k0 => walk_at "side"))
  | ((with_reducible refine' r_tyL ?k0 ?_); (case k0 => walk_at "tk"))
  | ((with_reducible refine' r_append ?k0 ?k1 ?_); (case k0 => walk_at "tk"); (case k1 => walk_at "side"))
  | ((with_reducible refine' r_setL ?k0 ?k1 ?_); (case k0 => walk_at "tk"); (case k1 => first | assumption | rfl))
  | ((with_reducible refine' r_kTupL ?k0 ?_); (case k0 => walk_at "tk"))
  | ((with_reducible refine' r_kTupT ?k0 ?_); (case k0 => walk_at "tk"))
  | ((with_reducible refine' r_listL ?k0 ?_); (case k0 => walk_at "tk"))
  | ((with_reducible refine' r_listT ?k0 ?_); (case k0 => walk_at "tk"))
  | ((with_reducible refine' r_aug ?k0 ?_); (case k0 => rfl))
  | ((with_reducible refine' r_lenS ?k0 ?_); (case k0 => walk_at "side"))
  | ((with_reducible refine' r_pop ?k0 ?_); (case k0 => walk_at "tk"))
  | ((with_reducible refine' r_pr1 ?k0 ?_); (case k0 => walk_at "rng"))
  | ((with_reducible refine' r_pr2 ?k0 ?_); (case k0 => walk_at "rng"))
  | ((with_reducible refine' r_pr3d ?k0 ?_); (case k0 => walk_at "rng"))
  | ((with_reducible refine' r_isiI ?k0 ?_); (case k0 => walk_at "kit"))
  | ((with_reducible refine' r_isiB ?k0 ?_); (case k0 => walk_at "kit"))
  | ((with_reducible refine' r_isiS ?k0 ?_); (case k0 => walk_at "kit"))
  | ((with_reducible refine' r_isiN ?k0 ?_); (case k0 => walk_at "kit"))
  | ((with_reducible refine' r_isiT ?k0 ?k1 ?_); (case k0 => walk_at "tk"); (case k1 => walk_at "kit"))
  | ((with_reducible refine r_seqT ?_); (repeat (walk_at "rd1")); ((with_reducible refine' r_pseqT ?k0 ?_); (case k0 => walk_at "tk")))
  | ((with_reducible refine r_seqL ?_); (repeat (walk_at "rd1")); ((with_reducible refine' r_pseqL ?k0 ?_); (case k0 => walk_at "tk")))
  | ((with_reducible refine r_seqS ?_); (repeat (walk_at "rd1")); (with_reducible refine r_pseqS ?_)))
local macro_rules | `(tactic| walk_at "rd") => `(tactic| ((repeat (walk_at "rd1")); (try dsimp only)))
/-- alone = isinstance(e, ChamberError) and isinstance(e, ValueError) and not isinstance(e, (A, B)) -/
theorem r_alone {K : PySem.W.Frag} {ec : Str → Addr} {ns : List Str} {σ : L2.St} {H : Hp} {Q : VK} {i : Nat} {a d : Addr} {x A B : Str} {fs : List (Str × V)} (XS : Exs K ec ns) (hx : x ∈ ns) (hC : ("ChamberError" : Str) ∈ ns) (hA : A ∈ ns) (hB : B ∈ ns)
    (nA : (x == A || A == "ChamberError") = false) (nB : (x == B || B == "ChamberError") = false) (hσ : σ[i]? = some (some (V.ref a))) (e : H d = some (.xd fs)) (q : ∀ H', Same H H' → Q (.bl true) H') :
    tAndV (tCB (rIsX K a (.ref (ec x)) (some d)) (tCons (tVar i) (tCons (tC (.ref (ec "ChamberError"))) tNil))) (tAndV (tCB (rIsX K a (.ref (ec x)) (some d)) (tCons (tVar i) (tCons (tC (.ty "ValueError")) tNil)))
      (tNotV (tCB (rIsX K a (.ref (ec x)) (some d)) (tCons (tVar i) (tCons (tTup (tCons (tC (.ref (ec A))) (tCons (tC (.ref (ec B))) tNil))) tNil))))) σ H Q := by
  have BX := XS.bad x hx
  refine r_andV (r_CB (r_cons (r_var hσ (r_cons (r_c (r_nil ?_)))))) 
  refine r_isX (b := true) e BX.ex ?_ ?_
  · have z := is_cls (H := H) XS hx hC
    rw [show (x == "ChamberError" || ("ChamberError" : Str) == "ChamberError") = true by rw [show (("ChamberError" : Str) == "ChamberError") = true by decide, Bool.or_true]] at z
    exact z
  refine r_pif (r_T ?_)
  refine r_andV (r_CB (r_cons (r_var hσ (r_cons (r_c (r_nil ?_))))))
  refine r_isX (b := true) e BX.ex (is_VE XS hx) ?_
  refine r_pif (r_T ?_)
  refine r_notV (r_CB (r_cons (r_var hσ (r_cons ?_))))
  walk_at "rd"
  intro tp H1 ntp s1 e1
  walk_at "rd"
  refine r_isX (b := false) (s1 _ _ e) BX.ex ?_ ?_
  · have z := is_tup (H := H1) XS hx (tp := tp) (ys := [A, B]) (by intro y hy; rcases List.mem_cons.mp hy with rfl | hy; exact hA; rcases List.mem_cons.mp hy with rfl | hy; exact hB; cases hy) (sqT_of e1)
    rw [show ([A, B].any fun y => x == y || y == "ChamberError") = false by simp only [List.any_cons, List.any_nil, nA, nB, Bool.or_false]] at z
    exact z
  exact r_pnot (q H1 s1)
end
end Kb
set_option Elab.async false
set_option linter.all false
set_option maxRecDepth 100000
set_option maxHeartbeats 4000000
namespace Kb
open PySem PySem.Spec PyProof.Rows L2
section
variable {K : PySem.W.Frag} {H : Hp} {Q : VK} {E : XK}
theorem pl_same {H H' : Hp} {p : Addr} (s : Same H H') (h : Pl H p) : Pl H' p := by
  obtain ⟨x, y, z, e⟩ := h
  exact ⟨x, y, z, s _ _ e⟩
theorem size_ints : ∀ r : List Int, Dat.sizes (r.map Dat.int) = r.length
  | [] => rfl
  | x :: r => by
    rw [List.map_cons]
    show Dat.size (.int x) + Dat.sizes (r.map Dat.int) = _
    rw [size_ints r, List.length_cons, show Dat.size (.int x) = 1 from rfl, Nat.add_comm]
theorem sm {a b : Addr} {r : List Int} {n : Nat} (h1 : SqT K H a (r.map V.int)) (h2 : SqT K H b (r.map V.int)) (hR : IsRow r n) (hn : n ≤ 12) (q : ∀ H', Same H H' → Q (.bl true) H') : sp_law_same K [.ref a, .ref b] H Q E :=
  ⟨_, _, .tup (r.map .int), rfl, rp_ints h1, rp_ints h2, by show 1 + Dat.sizes (r.map Dat.int) ≤ _; rw [size_ints, hR.1]; omega, q⟩
end
end Kb
set_option Elab.async false
set_option linter.all false
set_option maxRecDepth 100000
set_option maxHeartbeats 4000000
namespace Kb
open PySem PySem.Spec PyProof.Rows L2
/-- t[::k], k being -1 -/
def PRev (K : PySem.W.Frag) (x : V) (k : Option Int) (H : Hp) (Q : VK) : Prop := k = some (-1) ∧ ∃ a xs, x = .ref a ∧ SqT K H a xs ∧ ∀ p, H p = none → Q (.ref p) (upd H p (.tup xs.reverse))
def tRevU (K : PySem.W.Frag) (te : TE) (tk : TO) : TE := fun σ H Q => te σ H fun x H1 => tk σ H1 fun k H2 => PRev K x k H2 Q
/-- x, y = a, b -/
def PPar (vs : List V) (R : V → V → Prop) : Prop := ∃ v w, vs = [v, w] ∧ R v w
theorem r_par {D : Ends} {σ : L2.St} {H : Hp} {i j : Nat} {ta : TA} (h : ta σ H fun vs H1 => PPar vs fun v w => D.nx ((σ.set i (some v)).set j (some w)) H1) : tPar i j ta D σ H := h
theorem r_parV {v w : V} {R : V → V → Prop} (q : R v w) : PPar [v, w] R := ⟨v, w, rfl, q⟩
theorem r_revU {K : PySem.W.Frag} {te : TE} {tk : TO} {σ : L2.St} {H : Hp} {Q : VK} (h : te σ H fun x H1 => tk σ H1 fun k H2 => PRev K x k H2 Q) : tRevU K te tk σ H Q := h
theorem r_prev {K : PySem.W.Frag} {a : Addr} {xs : List V} {H : Hp} {Q : VK} (h : SqT K H a xs) (q : ∀ p H', H p = none → Same H H' → H' p = some (.tup xs.reverse) → Q (.ref p) H') : PRev K (.ref a) (some (-1)) H Q :=
  ⟨rfl, a, xs, rfl, h, fun p np => q p _ np (same_new np) upd_same⟩
end Kb
set_option Elab.async false
set_option linter.all false
set_option maxRecDepth 100000
set_option Elab.async false
set_option linter.all false
set_option maxRecDepth 100000
set_option maxHeartbeats 4000000
namespace Kb
open PySem PySem.Spec PyProof.Rows L2
local macro_rules | `(tactic| walk_at "tk") => `(tactic| first
  | assumption
  | ((with_reducible refine' sqT_of ?k); (case k => assumption))
  | ((with_reducible refine' sqT_ofD ?k); (case k => assumption))
  | ((with_reducible refine' noD_of ?k); (case k => assumption))
  | ((with_reducible refine' noD_same ?s ?k); (case s => assumption); (case k => walk_at "tk"))
  | ((with_reducible refine' sqL_of ?k); (case k => assumption))
  | ((with_reducible refine' sqT_same ?s ?k); (case s => assumption); (case k => walk_at "tk"))
  | ((with_reducible refine' sqL_same ?s ?k); (case s => assumption); (case k => walk_at "tk"))
  | ((with_reducible refine' sqT_but ?s ?t ?k); (case s => assumption); (case t => walk_at "tk"); (case k => walk_at "tk"))
  | ((with_reducible refine' sqL_but ?s ?t ?k); (case s => assumption); (case t => walk_at "ne"); (case k => walk_at "tk"))
  | ((with_reducible refine' sqL_of ?k); (case k => walk_at "tk"))
  | ((with_reducible refine' sqT_of ?k); (case k => walk_at "tk"))
  | ((with_reducible refine' at_same ?s ?k); (case s => assumption); (case k => walk_at "tk"))
  | ((with_reducible refine' at_but ?s ?t ?k); (case s => assumption); (case t => walk_at "ne"); (case k => walk_at "tk")))
local macro_rules | `(tactic| walk_at "ne") => `(tactic| first
  | assumption
  | (refine Ne.symm ?_; assumption)
  | exact ne_of_none (by assumption) (by assumption)
  | exact (ne_of_none (by assumption) (by assumption)).symm)
local macro_rules | `(tactic| walk_at "side") => `(tactic| first
  | assumption
  | omega
  | (simp only [sizeLine_eq, List.length_cons, List.length_nil, List.length_map]; omega)
  | (show _ ≤ sizeLine; decide))
local macro_rules | `(tactic| walk_at "kit") => `(tactic| first
  | (show kitB _ _ = some true; decide +kernel)
  | (show kitB _ _ = some false; decide +kernel))
local macro_rules | `(tactic| walk_at "rng") => `(tactic| first
  | (refine ⟨by omega, by omega, by omega, by omega⟩)
  | (refine ⟨by omega, by omega⟩)
  | ((simp only [List.length_map]); (refine ⟨by omega, by omega, by omega, by omega⟩))
  | ((simp only [List.length_map]); (refine ⟨by omega, by omega⟩)))
local macro_rules | `(tactic| walk_at "rd1") => `(tactic| first
  | with_reducible refine r_seq ?_
  | ((with_reducible refine' r_var ?k0 ?_); (case k0 => rfl))
  | with_reducible refine r_op ?_
  | with_reducible refine r_c ?_
  | with_reducible refine r_asg ?_
  | with_reducible refine r_name ?_
  | with_reducible refine r_cons ?_
  | with_reducible refine r_nil ?_
  | with_reducible refine r_CB ?_
  | with_reducible refine r_if ?_
  | with_reducible refine r_test ?_
  | with_reducible refine r_k ?_
  | with_reducible refine r_T ?_
  | with_reducible refine r_F ?_
  | with_reducible refine r_nT ?_
  | with_reducible refine r_nF ?_
  | with_reducible refine r_ret ?_
  | with_reducible refine r_drop ?_
  | with_reducible refine r_next ?_
  | with_reducible refine r_call ?_
  | with_reducible refine r_addI ?_
  | with_reducible refine r_subI ?_
  | with_reducible refine r_ltI ?_
  | with_reducible refine r_gtI ?_
  | with_reducible refine r_leI ?_
  | with_reducible refine r_geI ?_
  | with_reducible refine r_eqI ?_
  | with_reducible refine r_neI ?_
  | with_reducible refine r_int ?_
  | with_reducible refine r_abs ?_
  | with_reducible refine r_not ?_
  | with_reducible refine r_and ?_
  | with_reducible refine r_or ?_
  | with_reducible refine r_tru ?_
  | with_reducible refine r_truB ?_
  | with_reducible refine r_lst ?_
  | with_reducible refine r_tup ?_
  | with_reducible refine r_BM ?_
  | with_reducible refine r_BM0 ?_
  | with_reducible refine r_tyS ?_
  | with_reducible refine r_gsub ?_
  | with_reducible refine r_then ?_
  | with_reducible refine r_lstRg ?_
  | with_reducible refine r_tupRg ?_
  | with_reducible refine r_rg2 ?_
  | with_reducible refine r_rg1 ?_
  | with_reducible refine r_ii ?_
  | with_reducible refine r_i ?_
  | with_reducible refine r_ipI ?_
  | with_reducible refine r_un ?_
  | with_reducible refine r_neg ?_
  | with_reducible refine r_isN ?_
  | with_reducible refine r_notN ?_
  | with_reducible refine r_notV ?_
  | with_reducible refine r_pnot ?_
  | with_reducible refine r_pif ?_
  | with_reducible refine r_andV ?_
  | with_reducible refine r_orV ?_
  | with_reducible refine r_ifE ?_
  | with_reducible refine r_chain ?_
  | with_reducible refine r_sl ?_
  | with_reducible refine r_noPart ?_
  | with_reducible refine r_part ?_
  | with_reducible refine r_brk ?_
  | with_reducible refine r_cont ?_
  | with_reducible refine r_retN ?_
  | with_reducible refine r_truI ?_
  | with_reducible refine r_B ?_
  | with_reducible refine r_for ?_
  | with_reducible refine r_rng1 ?_
  | with_reducible refine r_rng2 ?_
  | with_reducible refine r_rng3 ?_
  | with_reducible refine r_body ?_
  | with_reducible refine r_lc ?_
  | with_reducible refine r_yes ?_
  | ((with_reducible refine' r_mod ?k0 ?_); (case k0 => walk_at "side"))
  | ((with_reducible refine' r_mulI ?k0 ?_); (case k0 => first | exact Or.inl ⟨by omega, by omega⟩ | exact Or.inr ⟨by omega, by omega⟩))
  | ((with_reducible refine' r_lenL ?k0 ?_); (case k0 => walk_at "tk"))
  | ((with_reducible refine' r_lenT ?k0 ?_); (case k0 => walk_at "tk"))
  | ((with_reducible refine' r_truL ?k0 ?_); (case k0 => walk_at "tk"))
  | ((with_reducible refine' r_truT ?k0 ?_); (case k0 => walk_at "tk"))
  | ((with_reducible refine' r_ixL ?k0 ?k1 ?_); (case k0 => walk_at "tk"); (case k1 => first | assumption | rfl))
  | ((with_reducible refine' r_ixT ?k0 ?k1 ?_); (case k0 => walk_at "tk"); (case k1 => first | assumption | rfl))
  | ((with_reducible refine' r_new ?k0 ?_); (case k0 => walk_at "side"))
  | ((with_reducible refine' r_tyL ?k0 ?_); (case k0 => walk_at "tk"))
  | ((with_reducible refine' r_append ?k0 ?k1 ?_); (case k0 => walk_at "tk"); (case k1 => walk_at "side"))
  | ((with_reducible refine' r_setL ?k0 ?k1 ?_); (case k0 => walk_at "tk"); (case k1 => first | assumption | rfl))
  | ((with_reducible refine' r_kTupL ?k0 ?_); (case k0 => walk_at "tk"))
  | ((with_reducible refine' r_kTupT ?k0 ?_); (case k0 => walk_at "tk"))
  | ((with_reducible refine' r_listL ?k0 ?_); (case k0 => walk_at "tk"))
  | ((with_reducible refine' r_listT ?k0 ?_); (case k0 => walk_at "tk"))
  | ((with_reducible refine' r_aug ?k0 ?_); (case k0 => rfl))
  | ((with_reducible refine' r_lenS ?k0 ?_); (case k0 => walk_at "side"))
  | ((with_reducible refine' r_pop ?k0 ?_); (case k0 => walk_at "tk"))
  | ((with_reducible refine' r_pr1 ?k0 ?_); (case k0 => walk_at "rng"))
  | ((with_reducible refine' r_pr2 ?k0 ?_); (case k0 => walk_at "rng"))
  | ((with_reducible refine' r_pr3d ?k0 ?_); (case k0 => walk_at "rng"))
  | ((with_reducible refine' r_isiI ?k0 ?_); (case k0 => walk_at "kit"))
  | ((with_reducible refine' r_isiB ?k0 ?_); (case k0 => walk_at "kit"))
  | ((with_reducible refine' r_isiS ?k0 ?_); (case k0 => walk_at "kit"))
  | ((with_reducible refine' r_isiN ?k0 ?_); (case k0 => walk_at "kit"))
  | ((with_reducible refine' r_isiT ?k0 ?k1 ?_); (case k0 => walk_at "tk"); (case k1 => walk_at "kit"))
  | ((with_reducible refine r_seqT ?_); (repeat (walk_at "rd1")); ((with_reducible refine' r_pseqT ?k0 ?_); (case k0 => walk_at "tk")))
  | ((with_reducible refine r_seqL ?_); (repeat (walk_at "rd1")); ((with_reducible refine' r_pseqL ?k0 ?_); (case k0 => walk_at "tk")))
  | ((with_reducible refine r_seqS ?_); (repeat (walk_at "rd1")); (with_reducible refine r_pseqS ?_)))
local macro_rules | `(tactic| walk_at "rd") => `(tactic| ((repeat (walk_at "rd1")); (try dsimp only)))
local macro_rules | `(tactic| walk_at "rd1") => `(tactic| first
  | with_reducible refine r_BMT ?_
  | with_reducible refine r_par ?_
  | with_reducible refine r_parV ?_
  | ((with_reducible refine' r_ptp ?k0 ?k1 ?_); (case k0 => walk_at "tk"); (case k1 => walk_at "tk"))
  | with_reducible refine r_eqS ?_
  | with_reducible refine r_neS ?_
  | with_reducible refine r_callW ?_
  | with_reducible refine r_try ?_
  | with_reducible refine r_enT ?_
  | ((with_reducible refine' r_pen ?k0 ?_); (case k0 => walk_at "tk")))
def sp_check_stage (K : PySem.W.Frag) (ec : Str → Addr) : Sp := fun vs H Q E => ∃ (s : Int), vs = [.int s] ∧ (1 ≤ s ∧ s ≤ 12 → Q .non H) ∧
  (¬ (1 ≤ s ∧ s ≤ 12) → ∀ d H', Same H H' → H d = none → H' d = some (.xd [("word", .str "BadStage")]) → E (.ref (ec "BadStage")) (some d) H')
abbrev N_check_stage : List Str := ["stage"]
def t_check_stage (K : PySem.W.Frag) (ec : Str → Addr) (E : XK) : TS :=
  (tIfS ((tNot ((tTest (tChain (rLeU K) (rLeU K) ((tC (.int 1))) (tVar 0) ((tCB (rLenU K) (tCons ((tC (.str "1234567890ET"))) tNil)))))))) ((sRaise (fun cls d _ H => E cls d H) (tBad (ec "BadStage") "BadStage"))) (tNext))
section
variable {K : PySem.W.Frag} {ec : Str → Addr} {ns : List Str} {vs : List V} {H : Hp} {Q : VK} {E : XK}
theorem len_check_stage (h : sp_check_stage K ec vs H Q E) : vs.length = 1 := by obtain ⟨s, rfl, _⟩ := h; rfl
theorem signs_len : (("1234567890ET" : Str).length : Int) = 12 := by decide
theorem pure_check_stage (XS : Exs K ec ns) (h : sp_check_stage K ec vs H Q E) : t_check_stage K ec E (En Q) (start N_check_stage vs) H := by
  obtain ⟨s, rfl, q, qE⟩ := h
  unfold t_check_stage
  walk_at "rd"
  refine r_ite (fun h1 => ?_) (fun h1 => ?_)
  · walk_at "rd"
    rw [signs_len]
    refine r_iteN (fun h2 => ?_) (fun h2 => ?_)
    · exact r_raise fun d H' s nd e => qE (fun z => h2 z.2) d H' s nd e
    · walk_at "rd"
      exact q ⟨h1, h2⟩
  · walk_at "rd"
    exact r_raise fun d H' s nd e => qE (fun z => h1 z.1) d H' s nd e
end
end Kb
set_option Elab.async false
set_option linter.all false
set_option maxRecDepth 100000
set_option maxHeartbeats 4000000
namespace Kb
open PySem PySem.Spec PyProof.Rows L2
def PDIn (x y : V) (H : Hp) (Q : VK) : Prop := ∃ a o, x = .ref a ∧ DGet H a y o ∧ Q (.bl o.isSome) H
def PDNo (x y : V) (H : Hp) (Q : VK) : Prop := ∃ a o, x = .ref a ∧ DGet H a y o ∧ Q (.bl (!o.isSome)) H
def PDPut (x y v : V) (H : Hp) (N : Hp → Prop) : Prop := ∃ a H4, x = .ref a ∧ DPut H a y v H4 ∧ N H4
def PDGet (x y : V) (H : Hp) (Q : VK) : Prop := ∃ a v, x = .ref a ∧ DGet H a y (some v) ∧ Q v H
section
variable {K : PySem.W.Frag} {D : Ends} {σ : L2.St} {H : Hp} {td ty tv : TE} {Q : VK} {N : Hp → Prop} {v x y : V} {p : Addr} {m n a : Nat}
theorem r_dIn (h : ty σ H fun y H1 => td σ H1 fun x H2 => PDIn x y H2 Q) : tDIn ty td σ H Q := h
theorem r_dNo (h : ty σ H fun y H1 => td σ H1 fun x H2 => PDNo x y H2 Q) : tDNotIn ty td σ H Q := h
theorem r_dPut (h : tv σ H fun v H1 => td σ H1 fun x H2 => ty σ H2 fun y H3 => PDPut x y v H3 fun H4 => D.nx σ H4) : sDPut td ty tv D σ H := h
theorem r_dGet (h : td σ H fun x H1 => ty σ H1 fun y H2 => PDGet x y H2 Q) : tDGet td ty σ H Q := h
end
end Kb
set_option Elab.async false
set_option linter.all false
set_option maxRecDepth 100000
set_option maxHeartbeats 4000000
namespace Kb
open PySem PySem.Spec PyProof.Rows L2 PySem.SeqAt
section
variable {K : PySem.W.Frag} {σ : L2.St} {H : Hp} {te : TE} {Q : VK} {a b : Addr}
def PRevL (K : PySem.W.Frag) (x : V) (H : Hp) (Q : VK) : Prop := ∃ a xs, x = .ref a ∧ SqL K H a xs ∧ ∀ p, H p = none → Q (.ref p) (upd H p (.lst xs.reverse))
theorem r_revL (h : te σ H fun x H1 => PRevL K x H1 Q) : tRevL K te σ H Q := h
theorem r_prevL {xs : List V} (h : SqL K H a xs) (k : ∀ p H', H p = none → Same H H' → H' p = some (.lst xs.reverse) → Q (.ref p) H') : PRevL K (.ref a) H Q := ⟨a, xs, rfl, h, fun p hp => k p _ hp (same_new hp) upd_same⟩
theorem r_slLL {xs : List V} {lo hi : Option Int} (h : SqL K H a xs) (k : ∀ p H', H p = none → Same H H' → H' p = some (.lst (cutV xs lo hi)) → Q (.ref p) H') : rSlU K (.ref a) lo hi H Q := .inl ⟨a, xs, rfl, h, fun p hp => k p _ hp (same_new hp) upd_same⟩
theorem r_catL {xs ys : List V} (h1 : H a = some (.lst xs)) (h2 : H b = some (.lst ys)) (hz : xs.length + ys.length ≤ sizeLine) (k : ∀ p H', H p = none → Same H H' → H' p = some (.lst (xs ++ ys)) → Q (.ref p) H') : rAddU K (.ref a) (.ref b) H Q :=
  .inr (.inr (.inl ⟨a, b, xs, ys, rfl, rfl, h1, h2, hz, fun p hp => k p _ hp (same_new hp) upd_same⟩))
end
end Kb
set_option Elab.async false
set_option linter.all false
set_option maxRecDepth 100000
set_option maxHeartbeats 4000000
set_option Elab.async false
set_option linter.all false
set_option maxRecDepth 100000
set_option maxHeartbeats 4000000
namespace Kb
open PySem PySem.Spec PyProof.Rows L2 SX
def cutA {α : Type} (xs : List α) (lo hi : Option Int) : List α := (xs.drop (HT.sIx xs.length 0 lo)).take (HT.sIx xs.length xs.length hi - HT.sIx xs.length 0 lo)
section
variable {K : PySem.W.Frag} {H H' : Hp} {Q : VK} {E : XK} {p a b l : Addr} {m : Int} {ns ms : List Int} {xs ys : List V} {lo hi : Option Int}
theorem cut_map {α : Type} (f : α → V) (ns : List α) : cutV (ns.map f) lo hi = (cutA ns lo hi).map f := by
  unfold cutV cutA
  rw [List.length_map, List.map_take, List.map_drop]
theorem cutA_len {α : Type} (ns : List α) : (cutA ns lo hi).length ≤ ns.length := by
  unfold cutA
  rw [List.length_take, List.length_drop]; omega
theorem cutA_whole {α : Type} {ns : List α} (h : HT.sIx ns.length 0 lo = 0 ∧ HT.sIx ns.length ns.length hi = ns.length) : cutA ns lo hi = ns := by
  unfold cutA
  rw [h.1, h.2, List.drop_zero, Nat.sub_zero, List.take_length]
/-- a slice of a tuple: the tuple itself or a new one -/
theorem r_slT (h : SqT K H a xs) (q : ∀ p H', Same H H' → SqT K H' p (cutA xs lo hi) → Q (.ref p) H') : rSlU K (.ref a) lo hi H Q := by
  refine .inr (.inl ⟨a, xs, rfl, h, fun z => q a H (Same.refl _) (by rw [cutA_whole z]; exact h), fun _ p hp => q p _ (same_new hp) (sqT_of ?_)⟩)
  rw [upd_same]
  have := cut_map (lo := lo) (hi := hi) id xs
  rw [List.map_id, List.map_id] at this
  rw [this]
theorem r_slI (h : SqT K H a (ns.map V.int)) (q : ∀ p H', Same H H' → SqT K H' p ((cutA ns lo hi).map V.int) → Q (.ref p) H') : rSlU K (.ref a) lo hi H Q :=
  r_slT h fun p H' s e => q p H' s (by rw [← cut_map]; have := cut_map (lo := lo) (hi := hi) id (ns.map V.int); rw [List.map_id, List.map_id] at this; rw [this]; exact e)
theorem r_catTT (h1 : SqT K H a xs) (h2 : SqT K H b ys) (hz : xs.length + ys.length ≤ sizeLine) (q : ∀ p H', Same H H' → SqT K H' p (xs ++ ys) → Q (.ref p) H') : rAddU K (.ref a) (.ref b) H Q := by
  refine .inr (.inr (.inr ⟨a, b, xs, ys, rfl, rfl, h1, h2, hz, fun e => ?_, fun _ e => ?_, fun _ _ p hp => ?_⟩))
  · exact q b H (Same.refl _) (by rw [e]; exact h2)
  · exact q a H (Same.refl _) (by rw [e, List.append_nil]; exact h1)
  · exact q p _ (same_new hp) (sqT_of upd_same)
theorem r_catII (h1 : SqT K H a (ns.map V.int)) (h2 : SqT K H b (ms.map V.int)) (hz : ns.length + ms.length ≤ 16000000) (q : ∀ p H', Same H H' → SqT K H' p ((ns ++ ms).map V.int) → Q (.ref p) H') : rAddU K (.ref a) (.ref b) H Q :=
  r_catTT h1 h2 (by rw [List.length_map, List.length_map, sizeLine_eq]; omega) fun p H' s e => q p H' s (by rw [List.map_append]; exact e)
theorem r_draw (hp : Pl H p) (h0 : 0 < m) (h1 : m < 2 ^ 200) (q : ∀ v H', 0 ≤ v → v < m → But p H H' → Pl H' p → Q (.int v) H') : sp_law_draw K ([.ref p, .int m] ++ []) H Q E := ⟨p, m, rfl, hp, h0, h1, q⟩
theorem sqT_pl (b : But p H H') (hp : Pl H p) (h : SqT K H a xs) : SqT K H' a xs := by
  obtain ⟨x, y, z, e⟩ := hp
  exact sqT_but b e h
theorem ne_pl (hn : H l = none) (hp : Pl H p) : l ≠ p := by
  obtain ⟨x, y, z, e⟩ := hp
  exact (ne_of_none e hn).symm
theorem pl_butL (b : But l H H') (n : p ≠ l) (h : Pl H p) : Pl H' p := by
  obtain ⟨x, y, z, e⟩ := h
  exact ⟨x, y, z, b _ _ n e⟩
theorem free_but (b : But p H H') (n : a ≠ p) (h : H' a = none) : H a = none := by
  cases e : H a with
  | none => rfl
  | some u => rw [b _ _ n e] at h; cases h
theorem rp_pl {v : V} {d : Dat} (b : But p H H') (hp : Pl H p) (h : Rp K H v d) : Rp K H' v d := by
  obtain ⟨x, y, z, e⟩ := hp
  exact rp_but b e h
theorem sqI_of (h : H a = some (.tup (ns.map V.int))) : SqT K H a (ns.map V.int) := sqT_of h
theorem sqI_0 (h : H a = some (.tup [])) : SqT K H a (([] : List Int).map V.int) := sqT_of h
theorem sqI_1 {i : Int} (h : H a = some (.tup [.int i])) : SqT K H a ([i].map V.int) := sqT_of h
theorem sqI_D (h : ∃ o : Obj, H a = some (.frz o (.tup (ns.map V.int))) ∧ o.dict = none) : SqT K H a (ns.map V.int) := sqT_ofD h
theorem cutA_take {α : Type} {ns : List α} {k : Nat} : cutA ns none (some (k : Int)) = ns.take k := by
  unfold cutA
  rw [HT.sIx_nat, HT.sIx_none, List.drop_zero, Nat.sub_zero]
  by_cases h : k ≤ ns.length
  · rw [Nat.min_eq_left h]
  · rw [Nat.min_eq_right (by omega), List.take_of_length_le (Nat.le_refl _), List.take_of_length_le (by omega)]
theorem cutA_drop {α : Type} {ns : List α} {k : Nat} : cutA ns (some (k : Int)) none = ns.drop k := by
  unfold cutA
  rw [HT.sIx_nat, HT.sIx_none]
  by_cases h : k ≤ ns.length
  · rw [Nat.min_eq_left h, List.take_of_length_le (by rw [List.length_drop]; omega)]
  · rw [Nat.min_eq_right (by omega), List.drop_eq_nil_of_le (by omega : ns.length ≤ k), List.drop_length]; simp
end
end Kb
set_option Elab.async false
set_option linter.all false
set_option maxRecDepth 100000
set_option maxHeartbeats 4000000
namespace Kb
open PySem PySem.Spec PyProof.Rows L2 SX
section
variable {K : PySem.W.Frag} {H H' : Hp} {Q : VK} {E : XK} {p a b l : Addr} {m : Int} {xs ys : List V} {lo hi : Option Int}
variable {ns ms : List Int} {j k : Nat}
theorem r_slN (h : SqT K H a (ns.map V.int)) (q : ∀ p H' (ms : List Int), Same H H' → SqT K H' p (ms.map V.int) → ms.length ≤ ns.length → Q (.ref p) H') : rSlU K (.ref a) lo hi H Q :=
  r_slI h fun p H' s e => q p H' _ s e (cutA_len ns)
theorem r_catN (h1 : SqT K H a (ns.map V.int)) (h2 : SqT K H b (ms.map V.int)) (hz : ns.length + ms.length ≤ 16000000) (q : ∀ p H' (us : List Int), Same H H' → SqT K H' p (us.map V.int) → us.length = ns.length + ms.length → Q (.ref p) H') : rAddU K (.ref a) (.ref b) H Q :=
  r_catII h1 h2 hz fun p H' s e => q p H' _ s e (List.length_append ..)
theorem r_prevN (h : SqT K H a (ns.map V.int)) (q : ∀ p H' (ms : List Int), Same H H' → SqT K H' p (ms.map V.int) → ms.length = ns.length → Q (.ref p) H') : PRev K (.ref a) (some (-1)) H Q :=
  r_prev h fun p H' np s e => q p H' ns.reverse s (by rw [List.map_reverse]; exact sqT_of e) (List.length_reverse ..)
/-- t[m] of a tuple of ints, somewhere in it -/
theorem r_ixI (h : SqT K H a (ns.map V.int)) (h0 : 0 ≤ m) (h1 : m < (ns.length : Int)) (q : ∀ i, ns[m.toNat]? = some i → Q (.int i) H) : rIx K (.ref a) (.int m) H Q := by
  obtain ⟨n, e1, e2⟩ := atI_ints h0 h1
  exact r_ixT h e1 (q n e2)
theorem r_setI {N : Hp → Prop} {i : Int} (h : H p = some (.lst (ns.map V.int))) (h0 : 0 ≤ m) (h1 : m < (ns.length : Int)) (q : ∀ H' ns', But p H H' → H' p = some (.lst ((ns' : List Int).map V.int)) → ns'.length = ns.length → N H') : rSetL (.ref p) (.int m) (.int i) H N := by
  refine r_setL (k := m.toNat) h ?_ fun H' b e => q H' (ns.set m.toNat i) b (by rw [e, List.map_set]) (List.length_set ..)
  rw [List.length_map]
  have := ixN_n (n := ns.length) (k := m.toNat) (by omega)
  rw [show ((m.toNat : Nat) : Int) = m by omega] at this
  exact this
theorem r_kTupI (h : H p = some (.lst (ns.map V.int))) (q : ∀ a H', H a = none → Same H H' → SqT K H' a (ns.map V.int) → Q (.ref a) H') : kTupD K (.ref p) H Q := r_kTupL (sqL_of h) fun a H' na s e => q a H' na s (sqT_ofD e)
theorem r_listI (h : SqT K H p (ns.map V.int)) (q : ∀ a H', H a = none → Same H H' → H' a = some (.lst (ns.map V.int)) → Q (.ref a) H') : rListU K [.ref p] H Q := r_listT h q
/-- a list that stood before p was made -/
theorem sqL_via (np : H p = none) (b : But p H H') (h : SqL K H a xs) : SqL K H' a xs := by
  rcases h with (h | ⟨o, h⟩) | h
  · exact .inl (.inl (b _ _ (ne_of_none h np) h))
  · exact .inl (.inr ⟨o, b _ _ (ne_of_none h np) h⟩)
  · exact .inr h
end
end Kb
set_option Elab.async false
set_option linter.all false
set_option maxRecDepth 100000
set_option maxHeartbeats 4000000
set_option Elab.async false
set_option linter.all false
set_option maxRecDepth 100000
set_option maxHeartbeats 4000000
namespace Kb
open PySem PySem.Spec PyProof.Rows L2 PySem.W
abbrev VR := V × List Int
def encR (b : VR) : PyData := .tuple (b.2.map .int)
def rowLe (b c : VR) : Bool := decide (b.2 ≤ c.2)
theorem rowLe_data : dataLe false encR = rowLe := by
  funext p q
  show (!dataLt (.tuple (q.2.map .int)) (.tuple (p.2.map .int))) = _
  rw [dataLt_tuple]
  show (!rowLt (q.2.map .int) (p.2.map .int)) = _
  rw [dataLt_ints]
  unfold rowLe
  by_cases h : q.2 < p.2
  · have h' : ¬ p.2 ≤ q.2 := fun r => List.not_lt.mpr r h
    simp [h, h']
  · have h' : p.2 ≤ q.2 := List.not_lt.mp h
    simp [h, h']
def rSortRows (K : PySem.W.Frag) : List V → Hp → VK → Prop := fun vs H Q => ∃ (a : Addr) (bs : List VR), vs = [V.ref a] ∧ SqL K H a (bs.map (·.1)) ∧ (∀ b ∈ bs, ∃ t : Addr, b.1 = .ref t ∧ SqT K H t (b.2.map V.int) ∧ b.2 ≠ []) ∧
  ∀ p, H p = none → Q (.ref p) (upd H p (.lst ((bs.mergeSort rowLe).map (·.1))))
section
variable {X : Cx}
theorem vals_each {us : List Value} : ∀ {bs : List VR} {us : List Value}, Vals (bs.map (·.1)) us → EachIs (fun v b => RelV b.1 v) us bs
  | [], _, h => by
    rw [List.map_nil] at h
    cases h; exact .nil
  | b :: bs, _, h => by
    rw [List.map_cons] at h
    cases h with
    | cons r t => exact .cons r (vals_each (us := []) t)
theorem each_vals : ∀ {bs : List VR} {us : List Value}, EachIs (fun v b => RelV b.1 v) us bs → Vals (bs.map (·.1)) us
  | _, _, .nil => .nil
  | _, _, .cons r t => .cons r (each_vals t)
theorem each_imp {α β : Type} {R S : α → β → Prop} : ∀ {as : List α} {bs : List β}, EachIs R as bs → (∀ a b, b ∈ bs → R a b → S a b) → EachIs S as bs
  | _, _, .nil, _ => .nil
  | _, _, .cons r t, h => .cons (h _ _ (by simp) r) (each_imp t fun a b hb => h a b (by simp [hb]))
theorem reads_ints {h : Heap} : ∀ {ns : List Int} {us : List Value}, Vals (ns.map V.int) us → ReadsAll h us (ns.map .int) []
  | [], _, r => by
    rw [List.map_nil] at r
    cases r; exact .nil
  | n :: ns, _, r => by
    rw [List.map_cons] at r
    cases r with
    | cons r t =>
      obtain ⟨k, rfl⟩ := r
      exact .cons (as := []) (bs := []) (.int n k) (reads_ints t)
theorem cr_sortRows (hu : X.A.units + 64 < cLine) : CallR X (.builtin "sorted") (rSortRows X.K) := by
  intro pins s σ H vs us Q I r h
  obtain ⟨a, bs, rfl, hs, hx, q⟩ := h
  obtain ⟨its, rv, hl, hz⟩ := I.list hs
  rw [Vals.ref1 r]
  have e := vals_each (us := []) rv
  have hz' : bs.length ≤ sizeLine := by rw [List.length_map] at hz; exact hz
  have er : EachIs (fun v b => ∃ as, Reads s.heap v (encR b) as) its bs := each_imp e fun v b hb rb => by
    obtain ⟨t, e1, ht, _⟩ := hx b hb
    rw [e1] at rb
    cases rb
    obtain ⟨ts, r2, ⟨⟨cls, dd, dt, sl⟩, ho, hc, n, hd⟩, _⟩ := I.tuple ht
    simp only at hc hd
    subst hc hd
    exact ⟨_, .tuple ho rfl rfl (reads_ints r2)⟩
  have dep : ∀ b : VR, (encR b).depth ≤ 1 := fun b => by
    show (PyData.tuple (b.2.map .int)).depth ≤ 1
    rw [PyData.depth, depth_ints]; exact Nat.le_refl _
  refine sorted_data (enc := encR) (R := fun v b => RelV b.1 v) hl.isList e er ?_ ?_ hz' (fun b _ => by have := dep b; omega) fun out h1 h2 => ?_
  · refine AllAlike.of fun b b' => ?_
    show alike (.tuple (b.2.map .int)) (.tuple (b'.2.map .int)) = true
    rw [alike]; exact alike_ints _ _
  · refine .inl fun d hd => ?_
    obtain ⟨b, hb, rfl⟩ := List.mem_map.mp hd
    obtain ⟨t, _, _, hne⟩ := hx b hb
    obtain ⟨x, r, e2⟩ : ∃ x r, b.2 = x :: r := by
      cases hb2 : b.2 with
      | nil => exact absurd hb2 hne
      | cons x r => exact ⟨x, r, rfl⟩
    exact ⟨.int x, r.map .int, by show PyData.tuple (b.2.map .int) = _; rw [e2]; rfl⟩
  · rw [rowLe_data] at h2
    obtain ⟨ep, he'⟩ := PyProof.Rows.sortedAll_at s.heap its out.toArray
    have hlen : ((bs.mergeSort rowLe).map (·.1)).length ≤ sizeLine := by rw [List.length_map, List.length_mergeSort]; exact hz'
    exact ⟨.ref _, upd H (s.heap.objs.size + 1) (.lst ((bs.mergeSort rowLe).map (·.1))), I.laid (t' := s.toks) (fun _ _ => PyProof.Rows.sortedAll_old) (Nat.le_succ _) ⟨hlen, out, ep, each_vals h2, he'⟩, rfl, q _ (I.hok.fresh (Nat.le_succ _))⟩
end
end Kb
set_option Elab.async false
set_option linter.all false
set_option maxRecDepth 100000
set_option maxHeartbeats 4000000
namespace Kb
open PySem PySem.Spec PyProof.Rows L2
/-- tuple(x): a new plain tuple -/
def kTupP (K : PySem.W.Frag) (x : V) (H : Hp) (Q : VK) : Prop :=
  (∃ p xs, x = .ref p ∧ SqL K H p xs ∧ ∀ q : Addr, H q = none → Q (.ref q) (upd H q (.tup xs))) ∨ (∃ p xs, x = .ref p ∧ H p = some (.tup xs) ∧ Q (.ref p) H)
section
variable {X : Cx}
theorem rl_tupP (pins : List (Addr × Obj)) (s : Shared) (σ : L2.St) (H : Hp) (x : V) (v : Value) (Q : VK) (I : Inv X pins σ H s) (r : RelV x v) (h : kTupP X.K x H Q) :
    wpAny (model X.prog X.w) X.A (call (.type "tuple") [v]) (EP X pins σ Q) X.xe s := by
  rcases h with ⟨p, xs, rfl, hs, q⟩ | ⟨p, xs, rfl, hs, q⟩
  · obtain rfl : v = .ref p := r
    obtain ⟨its, rv, pl, hz⟩ := I.list hs
    refine call_tuple_list pl.isList (fun h' hk => ?_) (by rw [List.size_toArray, ← rv.length]; exact hz)
    have I1 : Inv X pins σ H { s with heap := h' } := I.kept (t' := s.toks) hk
    exact ⟨.ref h'.objs.size, _, I1.laid (t' := s.toks) (o := .tup xs) (fun b o e => Heap.get?_push_of_some _ e) (Nat.le_refl _) ⟨hz, its, rv, IsTup.new _ _⟩, rfl, q _ (I1.hok.fresh (Nat.le_refl _))⟩
  · obtain rfl : v = .ref p := r
    obtain ⟨its, rv, pl, hz⟩ := I.tuple (.inl (.inl hs))
    exact call_tuple_tup pl ⟨.ref p, H, I, rfl, q⟩
theorem pe_tupP {a : Expr} {ta : TE} {p pos : Pos} (hg : Gl X "tuple") (hm : X.mg "tuple" = none) (ha : PE X a ta) (na : starEach [a] X.env = (false, eval a X.env) :: starEach [] X.env := by rfl) :
    PE X (.Call (.Name "tuple" p) [a] [] pos) (tThen ta (kTupP X.K)) := by
  refine ⟨fun pins s σ H Q I h => ?_⟩
  exact Call_ (ld_blt I hg hm boot_tuple (PyProof.Rows.callWith_type1 (one_arg ha I h (fun v s2 x H2 I2 r q => rl_tupP pins s2 σ H2 x v Q I2 r q) na) na))
/-- {e: v}, e a row -/
def PDt (p : Addr) (x y : V) (H2 : Hp) (Q : VK) : Prop := H2 p = some (.dT []) ∧ ∃ (b : Addr) (k : List Key), x = .ref b ∧ H2 b = some (.tup (k.map kV)) ∧ Q (.ref p) (upd H2 p (.dT [(k, y)]))
def tDispT (tk tv : TE) : TE := fun σ H Q => ∀ p, H p = none → tk σ (upd H p (.dT [])) fun x H1 => tv σ H1 fun y H2 => PDt p x y H2 Q
theorem pe_dispT {k v : Expr} {tk tv : TE} {pos : Pos} (hu : X.A.units + 1 < cLine) (hk : PE X k tk) (hv : PE X v tv) : PE X (.Dict [some k] [v] pos) (tDispT tk tv) := by
  refine ⟨fun pins s σ H Q I q => ?_⟩
  have hn := I.hok.fresh (Nat.le_refl s.heap.objs.size)
  have I1 := I.laid (a := s.heap.objs.size) (o := .dT []) (h' := s.heap.push { cls := .type "dict", data := .dict #[] }) (t' := s.toks) (fun _ _ q => Heap.get?_push_of_some _ q) (Nat.le_refl _) (dt_empty s.heap I.big)
  have hl := pairTrees_length [some k] [v] X.env pos rfl rfl
  rw [arm_eval_Dict, zip_pairTrees [some k] [v] X.env pos rfl rfl, dictDisplay_pairs _ (fun z => by rw [z] at hl; cases hl) (by rw [hl]; show 1 < 17; decide)]
  refine wpAny_bind (wpAny_standAt (wpAny_bind (wpAny_subDictH (knd := tupleKind (mixKind X.prog X.w)) (Q := fun d s' => wpAny (model X.prog X.w) X.A (pure (Value.ref d)) (EP X pins σ Q) X.xe s') (by show X.A.units < cLine; omega) (by rw [hl]; show 1 ≤ 15; decide) ?_)))
  refine pairTrees_cons_walk (thn (hk.run pins _ σ _ _ I1 (q _ hn)) fun u s1 ⟨x, H1, I2, rx, q1⟩ => thn (hv.run pins s1 σ H1 _ I2 q1) fun w2 s2 ⟨y, H2, I3, ry, e, b, kk, ex, eb, q2⟩ => pairTrees_nil_walk ?_)
  subst ex
  cases (show u = Value.ref b from rx)
  obtain ⟨z, hd, xs, rel, dd⟩ := dt_of I3.hok e
  cases rel
  refine ⟨[(kk, b, w2)], ⟨rfl, rfl, key_of I3.hok eb, trivial⟩, dd, fun h' tk dd' hs => wpAny_pure ?_⟩
  obtain ⟨o, es, ep, hq, h2, h3, h4, _, h5⟩ := dd'
  have hne : b ≠ s.heap.objs.size := ne_of eb e (fun z => nomatch z)
  have kt : KT (upd H2 s.heap.objs.size (.dT [(kk, y)])) [(kk, y)] [(kk, b, w2)] := .cons ⟨rfl, by rw [upd_ne hne]; exact eb, ry⟩ .nil
  have new : ObjOk X.prog X.w (upd H2 s.heap.objs.size (.dT [(kk, y)])) h' s.heap.objs.size (.dT [(kk, y)]) := ⟨by show 1 ≤ sizeLine; decide, hd, _, kt, o, es, ep, hq, h2, h3, h4, h5⟩
  exact ⟨.ref s.heap.objs.size, _, d_write I3 (by rw [e]; exact True.intro) hs ⟨o, hq⟩ new, rfl, q2⟩
end
def keyR (r : List Int) : List Key := r.map Sum.inl
theorem keyR_kV (r : List Int) : (keyR r).map kV = r.map V.int := by unfold keyR; rw [List.map_map]; rfl
theorem keyR_inj {a b : List Int} (h : keyR a = keyR b) : a = b := by
  have g : ∀ r : List Int, (keyR r).map (fun k => match k with | .inl i => i | .inr _ => 0) = r := fun r => by
    unfold keyR
    rw [List.map_map]
    exact List.map_id r
  rw [← g a, ← g b, h]
/-- the keys of the dict at p are the rows S -/
def DR (H : Hp) (p : Addr) (S : List (List Int)) : Prop := ∃ kvs : List (List Key × V), H p = some (.dT kvs) ∧ kvs.length ≤ S.length ∧ ∀ r, (valV kvs (keyR r)).isSome = decide (r ∈ S)
section
variable {K : PySem.W.Frag} {D : Ends} {σ : L2.St} {H : Hp} {tk tv : TE} {Q : VK} {N : Hp → Prop} {v y : V} {p b : Addr} {S : List (List Int)} {r : List Int}
theorem r_kTupP {xs : List V} (h : SqL K H p xs) (k : ∀ q H', H q = none → Same H H' → H' q = some (.tup xs) → Q (.ref q) H') : kTupP K (.ref p) H Q := .inl ⟨p, xs, rfl, h, fun q hq => k q _ hq (same_new hq) upd_same⟩
theorem r_dispT (h : ∀ p H', H p = none → Same H H' → H' p = some (.dT []) → tk σ H' fun x H1 => tv σ H1 fun y H2 => PDt p x y H2 Q) : tDispT tk tv σ H Q := fun p hp => h p _ hp (same_new hp) upd_same
theorem r_pdt (e : H p = some (.dT [])) (eb : H b = some (.tup (r.map V.int))) (k : ∀ H', But p H H' → DR H' p [r] → Q (.ref p) H') : PDt p (.ref b) v H Q := by
  refine ⟨e, b, keyR r, rfl, by rw [keyR_kV]; exact eb, k _ but_upd ⟨_, upd_same, Nat.le_refl _, fun s => ?_⟩⟩
  by_cases h : s = r
  · subst h; rw [valV_pos rfl]; simp
  · rw [valV_neg (fun z => h (keyR_inj z).symm), valV_nil]; simp [h]
theorem r_drNo (h : DR H p S) (eb : H b = some (.tup (r.map V.int))) (q : Q (.bl (!decide (r ∈ S))) H) : PDNo (.ref p) (.ref b) H Q := by
  obtain ⟨kvs, e, _, hv⟩ := h
  refine ⟨p, valV kvs (keyR r), rfl, .inr ⟨kvs, keyR r, b, .inl e, rfl, by rw [keyR_kV]; exact eb, rfl⟩, ?_⟩
  rw [hv]; exact q
theorem r_drPut (h : DR H p S) (eb : H b = some (.tup (r.map V.int))) (hn : S.length < sizeLine) (k : ∀ H', But p H H' → DR H' p (S ++ [r]) → N H') : PDPut (.ref p) (.ref b) v H N := by
  obtain ⟨kvs, e, hl, hv⟩ := h
  refine ⟨p, _, rfl, .inr ⟨kvs, keyR r, b, e, rfl, by rw [keyR_kV]; exact eb, by omega, rfl⟩, k _ but_upd ⟨_, upd_same, ?_, fun s => ?_⟩⟩
  · have := length_putK kvs (keyR r) v
    rw [List.length_append]; simp; omega
  · rw [valV_put]
    by_cases h : keyR s = keyR r
    · rw [if_pos h, keyR_inj h]; simp
    · have hs : s ≠ r := fun z => h (by rw [z])
      rw [if_neg h, hv]; simp [hs]
end
end Kb
set_option Elab.async false
set_option linter.all false
namespace Kb
section
variable {r : List Int} {n : Nat} (h : IsRow r n)
include h
theorem mul_rounds : mulR r (roundsR n) = r :=
  row_ext (mulR_row' h (roundsR_row' n)) h fun b h1 h2 => by rw [nx_mul (roundsR_row' n) h1 h2, nx_rounds h1 h2]
theorem rounds_mul : mulR (roundsR n) r = r :=
  row_ext (mulR_row' (roundsR_row' n) h) h fun b h1 h2 => by
    have m := nx_mem h h1 h2
    rw [nx_mul h h1 h2, nx_rounds m.1 m.2]
end
theorem mulR_assoc {x y z : List Int} {n : Nat} (hx : IsRow x n) (hy : IsRow y n) (hz : IsRow z n) : mulR (mulR x y) z = mulR x (mulR y z) :=
  row_ext (mulR_row' (mulR_row' hx hy) hz) (mulR_row' hx (mulR_row' hy hz)) fun b h1 h2 => by
    have m := nx_mem hz h1 h2
    rw [nx_mul hz h1 h2, nx_mul hy m.1 m.2, nx_mul (mulR_row' hy hz) h1 h2, nx_mul hz h1 h2]
end Kb
set_option Elab.async false
set_option linter.all false
namespace Kb
/-- products from the right -/
inductive Gn (n : Nat) (M : List (List Int)) : List Int → Prop
  | one : Gn n M (roundsR n)
  | step {x m : List Int} : Gn n M x → m ∈ M → Gn n M (mulR x m)
/-- products from the left -/
inductive Gl (n : Nat) (M : List (List Int)) : List Int → Prop
  | one : Gl n M (roundsR n)
  | step {x m : List Int} : Gl n M x → m ∈ M → Gl n M (mulR m x)
section
variable {n : Nat} {M : List (List Int)} (hM : ∀ m ∈ M, IsRow m n)
include hM
theorem Gn.row {x : List Int} (h : Gn n M x) : IsRow x n := by
  induction h with
  | one => exact roundsR_row' n
  | step _ hm ih => exact mulR_row' ih (hM _ hm)
theorem Gl.row {x : List Int} (h : Gl n M x) : IsRow x n := by
  induction h with
  | one => exact roundsR_row' n
  | step _ hm ih => exact mulR_row' (hM _ hm) ih
theorem Gn.mul {x y : List Int} (hx : Gn n M x) (hy : Gn n M y) : Gn n M (mulR x y) := by
  induction hy with
  | one => rw [mul_rounds (hx.row hM)]; exact hx
  | @step y m hy hm ih =>
    rw [← mulR_assoc (hx.row hM) (hy.row hM) (hM m hm)]
    exact .step ih hm
theorem Gn.gen {m : List Int} (h : m ∈ M) : Gn n M m := by
  have := Gn.step (n := n) (M := M) .one h
  rw [rounds_mul (hM m h)] at this
  exact this
theorem Gl.mul {x y : List Int} (hx : Gl n M x) (hy : Gl n M y) : Gl n M (mulR x y) := by
  induction hx with
  | one => rw [rounds_mul (hy.row hM)]; exact hy
  | @step x m hx hm ih =>
    rw [mulR_assoc (hM m hm) (hx.row hM) (hy.row hM)]
    exact .step ih hm
theorem Gl.gen {m : List Int} (h : m ∈ M) : Gl n M m := by
  have := Gl.step (n := n) (M := M) .one h
  rw [mul_rounds (hM m h)] at this
  exact this
theorem gl_iff {x : List Int} : Gl n M x ↔ Gn n M x := by
  constructor
  · intro h
    induction h with
    | one => exact .one
    | step _ hm ih => exact Gn.mul hM (Gn.gen hM hm) ih
  · intro h
    induction h with
    | one => exact .one
    | step _ hm ih => exact Gl.mul hM ih (Gl.gen hM hm)
/-- all that is a product of more movers, where the new ones are products already -/
theorem Gn.of_sub {M' : List (List Int)} (h : ∀ m ∈ M', Gn n M m) {x : List Int} (hx : Gn n M' x) : Gn n M x := by
  induction hx with
  | one => exact .one
  | step _ hm ih => exact Gn.mul hM ih (h _ hm)
end
theorem Gn.mono {n : Nat} {M M' : List (List Int)} (h : ∀ m ∈ M, m ∈ M') {x : List Int} (hx : Gn n M x) : Gn n M' x := by
  induction hx with
  | one => exact .one
  | step _ hm ih => exact .step ih (h _ hm)
/-- L is the whole closure of M, each row once -/
def Whole (n : Nat) (M L : List (List Int)) : Prop := L.Nodup ∧ ∀ x, x ∈ L ↔ Gn n M x
/-- there are more than k -/
def More (n : Nat) (M : List (List Int)) (k : Nat) : Prop := ∃ L : List (List Int), L.Nodup ∧ (∀ x ∈ L, Gn n M x) ∧ k < L.length
theorem nodup_sub_len {α : Type} [DecidableEq α] : ∀ {a b : List α}, a.Nodup → (∀ x ∈ a, x ∈ b) → a.length ≤ b.length
  | [], _, _, _ => Nat.zero_le _
  | x :: a, b, nd, h => by
    have hx := h x (by simp)
    have nd' := List.nodup_cons.mp nd
    have := nodup_sub_len (b := b.erase x) nd'.2 fun y hy => by
      have ne : y ≠ x := fun z => nd'.1 (by rw [← z]; exact hy)
      exact (List.mem_erase_of_ne ne).mpr (h y (by simp [hy]))
    have e := nodup_erase_len hx
    simp only [List.length_cons]
    omega
theorem Whole.more {n : Nat} {M L : List (List Int)} (h : Whole n M L) {k : Nat} : More n M k ↔ k < L.length := by
  constructor
  · rintro ⟨L', nd, hg, hk⟩
    have := nodup_sub_len nd fun x hx => (h.2 x).mpr (hg x hx)
    omega
  · intro hk
    exact ⟨L, h.1, fun x hx => (h.2 x).mp hx, hk⟩
theorem More.mono {n : Nat} {M M' : List (List Int)} {k : Nat} (h : ∀ m ∈ M, m ∈ M') (hm : More n M k) : More n M' k := by
  obtain ⟨L, a, b, c⟩ := hm
  exact ⟨L, a, fun x hx => (b x hx).mono h, c⟩
theorem Whole.perm {n : Nat} {M L L' : List (List Int)} (h : Whole n M L) (h' : Whole n M L') : L.Perm L' :=
  (List.perm_ext_iff_of_nodup h.1 h'.1).mpr fun x => by rw [h.2, h'.2]
/-- a list that has rounds, is closed under the movers from the right, and consists of products -/
theorem whole_right {n : Nat} {M L : List (List Int)} (nd : L.Nodup) (h1 : roundsR n ∈ L) (hg : ∀ x ∈ L, Gn n M x) (hc : ∀ x ∈ L, ∀ m ∈ M, mulR x m ∈ L) : Whole n M L := by
  refine ⟨nd, fun x => ⟨hg x, fun h => ?_⟩⟩
  induction h with
  | one => exact h1
  | step _ hm ih => exact hc _ ih _ hm
theorem whole_left {n : Nat} {M L : List (List Int)} (hM : ∀ m ∈ M, IsRow m n) (nd : L.Nodup) (h1 : roundsR n ∈ L) (hg : ∀ x ∈ L, Gn n M x) (hc : ∀ x ∈ L, ∀ m ∈ M, mulR m x ∈ L) : Whole n M L := by
  refine ⟨nd, fun x => ⟨hg x, fun h => ?_⟩⟩
  replace h := (gl_iff hM).mpr h
  induction h with
  | one => exact h1
  | step _ hm ih => exact hc _ ih _ hm
theorem whole_nil (n : Nat) : Whole n [] [roundsR n] := whole_right (by simp) (by simp) (fun x hx => by rw [List.mem_singleton] at hx; subst hx; exact .one) fun x _ m hm => nomatch hm
/-- movers that give all rows, out of the rows -/
theorem Whole.rows {n : Nat} {R M L : List (List Int)} (hR : ∀ r ∈ R, IsRow r n) (h : Whole n M L) (hs : ∀ m ∈ M, m ∈ R) (ha : ∀ r ∈ R, r ∈ L) : Whole n R L := by
  have hM : ∀ m ∈ M, IsRow m n := fun m hm => hR m (hs m hm)
  refine ⟨h.1, fun x => ?_⟩
  rw [h.2]
  exact ⟨fun g => g.mono hs, fun g => Gn.of_sub hM (fun r hr => (h.2 r).mp (ha r hr)) g⟩
theorem gl_step {n : Nat} {M : List (List Int)} (hM : ∀ m ∈ M, IsRow m n) {x m : List Int} (hx : Gn n M x) (hm : m ∈ M) : Gn n M (mulR m x) := Gn.mul hM (Gn.gen hM hm) hx
end Kb
set_option Elab.async false
set_option linter.all false
set_option maxRecDepth 100000
set_option maxHeartbeats 4000000
namespace Kb
namespace K5
open PySem PySem.Spec PyProof.Rows L2
local macro_rules | `(tactic| walk_at "tk") => `(tactic| first
  | assumption
  | ((with_reducible refine' sqT_of ?k); (case k => assumption))
  | ((with_reducible refine' sqT_ofD ?k); (case k => assumption))
  | ((with_reducible refine' noD_of ?k); (case k => assumption))
  | ((with_reducible refine' noD_same ?s ?k); (case s => assumption); (case k => walk_at "tk"))
  | ((with_reducible refine' sqL_of ?k); (case k => assumption))
  | ((with_reducible refine' sqT_same ?s ?k); (case s => assumption); (case k => walk_at "tk"))
  | ((with_reducible refine' sqL_same ?s ?k); (case s => assumption); (case k => walk_at "tk"))
  | ((with_reducible refine' sqT_but ?s ?t ?k); (case s => assumption); (case t => walk_at "tk"); (case k => walk_at "tk"))
  | ((with_reducible refine' sqL_but ?s ?t ?k); (case s => assumption); (case t => walk_at "ne"); (case k => walk_at "tk"))
  | ((with_reducible refine' sqL_of ?k); (case k => walk_at "tk"))
  | ((with_reducible refine' sqT_of ?k); (case k => walk_at "tk"))
  | ((with_reducible refine' at_same ?s ?k); (case s => assumption); (case k => walk_at "tk"))
  | ((with_reducible refine' at_but ?s ?t ?k); (case s => assumption); (case t => walk_at "ne"); (case k => walk_at "tk")))
local macro_rules | `(tactic| walk_at "ne") => `(tactic| first
  | assumption
  | (refine Ne.symm ?_; assumption)
  | exact ne_of_none (by assumption) (by assumption)
  | exact (ne_of_none (by assumption) (by assumption)).symm)
local macro_rules | `(tactic| walk_at "side") => `(tactic| first
  | assumption
  | omega
  | (simp only [sizeLine_eq, List.length_cons, List.length_nil, List.length_map]; omega)
  | (show _ ≤ sizeLine; decide))
local macro_rules | `(tactic| walk_at "kit") => `(tactic| first
  | (show kitB _ _ = some true; decide +kernel)
  | (show kitB _ _ = some false; decide +kernel))
local macro_rules | `(tactic| walk_at "rng") => `(tactic| first
  | (refine ⟨by omega, by omega, by omega, by omega⟩)
  | (refine ⟨by omega, by omega⟩)
  | ((simp only [List.length_map]); (refine ⟨by omega, by omega, by omega, by omega⟩))
  | ((simp only [List.length_map]); (refine ⟨by omega, by omega⟩)))
local macro_rules | `(tactic| walk_at "rd1") => `(tactic| first
  | with_reducible refine r_seq ?_
  | ((with_reducible refine' r_var ?k0 ?_); (case k0 => rfl))
  | with_reducible refine r_op ?_
  | with_reducible refine r_c ?_
  | with_reducible refine r_asg ?_
  | with_reducible refine r_name ?_
  | with_reducible refine r_cons ?_
  | with_reducible refine r_nil ?_
  | with_reducible refine r_CB ?_
  | with_reducible refine r_if ?_
  | with_reducible refine r_test ?_
  | with_reducible refine r_k ?_
  | with_reducible refine r_T ?_
  | with_reducible refine r_F ?_
  | with_reducible refine r_nT ?_
  | with_reducible refine r_nF ?_
  | with_reducible refine r_ret ?_
  | with_reducible refine r_drop ?_
  | with_reducible refine r_next ?_
  | with_reducible refine r_call ?_
  | with_reducible refine r_addI ?_
  | with_reducible refine r_subI ?_
  | with_reducible refine r_ltI ?_
  | with_reducible refine r_gtI ?_
  | with_reducible refine r_leI ?_
  | with_reducible refine r_geI ?_
  | with_reducible refine r_eqI ?_
  | with_reducible refine r_neI ?_
  | with_reducible refine r_int ?_
  | with_reducible refine r_abs ?_
  | with_reducible refine r_not ?_
  | with_reducible refine r_and ?_
  | with_reducible refine r_or ?_
  | with_reducible refine r_tru ?_
  | with_reducible refine r_truB ?_
  | with_reducible refine r_lst ?_
  | with_reducible refine r_tup ?_
  | with_reducible refine r_BM ?_
  | with_reducible refine r_BM0 ?_
  | with_reducible refine r_tyS ?_
  | with_reducible refine r_gsub ?_
  | with_reducible refine r_then ?_
  | with_reducible refine r_lstRg ?_
  | with_reducible refine r_tupRg ?_
  | with_reducible refine r_rg2 ?_
  | with_reducible refine r_rg1 ?_
  | with_reducible refine r_ii ?_
  | with_reducible refine r_i ?_
  | with_reducible refine r_ipI ?_
  | with_reducible refine r_un ?_
  | with_reducible refine r_neg ?_
  | with_reducible refine r_isN ?_
  | with_reducible refine r_notN ?_
  | with_reducible refine r_notV ?_
  | with_reducible refine r_pnot ?_
  | with_reducible refine r_pif ?_
  | with_reducible refine r_andV ?_
  | with_reducible refine r_orV ?_
  | with_reducible refine r_ifE ?_
  | with_reducible refine r_chain ?_
  | with_reducible refine r_sl ?_
  | with_reducible refine r_noPart ?_
  | with_reducible refine r_part ?_
  | with_reducible refine r_brk ?_
  | with_reducible refine r_cont ?_
  | with_reducible refine r_retN ?_
  | with_reducible refine r_truI ?_
  | with_reducible refine r_B ?_
  | with_reducible refine r_for ?_
  | with_reducible refine r_rng1 ?_
  | with_reducible refine r_rng2 ?_
  | with_reducible refine r_rng3 ?_
  | with_reducible refine r_body ?_
  | with_reducible refine r_lc ?_
  | with_reducible refine r_yes ?_
  | ((with_reducible refine' r_mod ?k0 ?_); (case k0 => walk_at "side"))
  | ((with_reducible refine' r_mulI ?k0 ?_); (case k0 => first | exact Or.inl ⟨by omega, by omega⟩ | exact Or.inr ⟨by omega, by omega⟩))
  | ((with_reducible refine' r_lenL ?k0 ?_); (case k0 => walk_at "tk"))
  | ((with_reducible refine' r_lenT ?k0 ?_); (case k0 => walk_at "tk"))
  | ((with_reducible refine' r_truL ?k0 ?_); (case k0 => walk_at "tk"))
  | ((with_reducible refine' r_truT ?k0 ?_); (case k0 => walk_at "tk"))
  | ((with_reducible refine' r_ixL ?k0 ?k1 ?_); (case k0 => walk_at "tk"); (case k1 => first | assumption | rfl))
  | ((with_reducible refine' r_ixT ?k0 ?k1 ?_); (case k0 => walk_at "tk"); (case k1 => first | assumption | rfl))
  | ((with_reducible refine' r_new ?k0 ?_); (case k0 => walk_at "side"))
  | ((with_reducible refine' r_tyL ?k0 ?_); (case k0 => walk_at "tk"))
  | ((with_reducible refine' r_append ?k0 ?k1 ?_); (case k0 => walk_at "tk"); (case k1 => walk_at "side"))
  | ((with_reducible refine' r_setL ?k0 ?k1 ?_); (case k0 => walk_at "tk"); (case k1 => first | assumption | rfl))
  | ((with_reducible refine' r_kTupL ?k0 ?_); (case k0 => walk_at "tk"))
  | ((with_reducible refine' r_kTupT ?k0 ?_); (case k0 => walk_at "tk"))
  | ((with_reducible refine' r_listL ?k0 ?_); (case k0 => walk_at "tk"))
  | ((with_reducible refine' r_listT ?k0 ?_); (case k0 => walk_at "tk"))
  | ((with_reducible refine' r_aug ?k0 ?_); (case k0 => rfl))
  | ((with_reducible refine' r_lenS ?k0 ?_); (case k0 => walk_at "side"))
  | ((with_reducible refine' r_pop ?k0 ?_); (case k0 => walk_at "tk"))
  | ((with_reducible refine' r_pr1 ?k0 ?_); (case k0 => walk_at "rng"))
  | ((with_reducible refine' r_pr2 ?k0 ?_); (case k0 => walk_at "rng"))
  | ((with_reducible refine' r_pr3d ?k0 ?_); (case k0 => walk_at "rng"))
  | ((with_reducible refine' r_isiI ?k0 ?_); (case k0 => walk_at "kit"))
  | ((with_reducible refine' r_isiB ?k0 ?_); (case k0 => walk_at "kit"))
  | ((with_reducible refine' r_isiS ?k0 ?_); (case k0 => walk_at "kit"))
  | ((with_reducible refine' r_isiN ?k0 ?_); (case k0 => walk_at "kit"))
  | ((with_reducible refine' r_isiT ?k0 ?k1 ?_); (case k0 => walk_at "tk"); (case k1 => walk_at "kit"))
  | ((with_reducible refine r_seqT ?_); (repeat (walk_at "rd1")); ((with_reducible refine' r_pseqT ?k0 ?_); (case k0 => walk_at "tk")))
  | ((with_reducible refine r_seqL ?_); (repeat (walk_at "rd1")); ((with_reducible refine' r_pseqL ?k0 ?_); (case k0 => walk_at "tk")))
  | ((with_reducible refine r_seqS ?_); (repeat (walk_at "rd1")); (with_reducible refine r_pseqS ?_)))
local macro_rules | `(tactic| walk_at "rd") => `(tactic| ((repeat (walk_at "rd1")); (try dsimp only)))
local macro_rules | `(tactic| walk_at "rd1") => `(tactic| first
  | with_reducible refine r_BMT ?_
  | with_reducible refine r_par ?_
  | with_reducible refine r_parV ?_
  | ((with_reducible refine' r_ptp ?k0 ?k1 ?_); (case k0 => walk_at "tk"); (case k1 => walk_at "tk"))
  | with_reducible refine r_eqS ?_
  | with_reducible refine r_neS ?_
  | with_reducible refine r_callW ?_
  | with_reducible refine r_try ?_
  | with_reducible refine r_enT ?_
  | ((with_reducible refine' r_pen ?k0 ?_); (case k0 => walk_at "tk")))
local macro_rules | `(tactic| walk_at "rd1") => `(tactic| first
  | with_reducible refine r_dIn ?_
  | with_reducible refine r_dNo ?_
  | with_reducible refine r_dPut ?_
  | with_reducible refine r_dGet ?_)
local macro_rules | `(tactic| walk_at "pl0") => `(tactic| first
  | assumption
  | exact pl_same (by assumption) (by assumption)
  | exact pl_same (by assumption) (pl_same (by assumption) (by assumption))
  | exact pl_same (by assumption) (pl_same (by assumption) (pl_same (by assumption) (by assumption))))
local macro_rules | `(tactic| walk_at "pl") => `(tactic| first
  | walk_at "pl0"
  | ((with_reducible refine' pl_butL ?s ?n ?k); (case s => assumption); (case n => walk_at "ne"); (case k => walk_at "pl"))
  | ((with_reducible refine' pl_same ?s ?k); (case s => assumption); (case k => walk_at "pl")))
local macro_rules | `(tactic| walk_at "ne") => `(tactic| first
  | exact ne_pl (by assumption) (by walk_at "pl0")
  | exact (ne_pl (by assumption) (by walk_at "pl0")).symm)
local macro_rules | `(tactic| walk_at "fr") => `(tactic| first
  | assumption
  | ((with_reducible refine' free_but ?b ?n ?h); (case h => assumption); (case n => walk_at "ne"); (case b => walk_at "but"))
  | ((with_reducible refine' Same.free ?b ?h); (case h => assumption); (case b => walk_at "same")))
local macro_rules | `(tactic| walk_at "but") => `(tactic| first
  | assumption
  | exact But.refl
  | ((with_reducible refine' But.trans ?a ?b); (case b => assumption); (case a => walk_at "but"))
  | ((with_reducible refine' But.trans ?a (Same.but ?b)); (case b => assumption); (case a => walk_at "but"))
  | ((with_reducible refine' but_via ?a ?b ?c); (case b => assumption); (case c => walk_at "fr"); (case a => walk_at "but")))
local macro_rules | `(tactic| walk_at "same") => `(tactic| first
  | assumption
  | exact Same.refl _
  | ((with_reducible refine' Same.trans ?a ?b); (case b => assumption); (case a => walk_at "same"))
  | ((with_reducible refine' same_but ?a ?b ?c); (case b => assumption); (case c => walk_at "fr"); (case a => walk_at "same")))
local macro_rules | `(tactic| walk_at "tk") => `(tactic| first
  | ((with_reducible refine' sqT_pl ?s ?t ?k); (case s => assumption); (case t => walk_at "pl0"); (case k => walk_at "tk"))
  | ((with_reducible refine' rp_same ?s ?k); (case s => assumption); (case k => walk_at "tk"))
  | ((with_reducible refine' rp_pl ?s ?t ?k); (case s => assumption); (case t => walk_at "pl0"); (case k => walk_at "tk")))
local macro_rules | `(tactic| walk_at "it") => `(tactic| first
  | assumption
  | ((with_reducible refine' sqI_1 ?k); (case k => assumption))
  | ((with_reducible refine' sqI_0 ?k); (case k => assumption))
  | ((with_reducible refine' sqI_of ?k); (case k => assumption))
  | ((with_reducible refine' sqI_D ?k); (case k => assumption))
  | ((with_reducible refine' sqT_same ?s ?k); (case s => assumption); (case k => walk_at "it"))
  | ((with_reducible refine' sqT_but ?s ?t ?k); (case s => assumption); (case t => assumption); (case k => walk_at "it"))
  | ((with_reducible refine' sqT_pl ?s ?t ?k); (case s => assumption); (case t => walk_at "pl0"); (case k => walk_at "it")))
local macro_rules | `(tactic| walk_at "sz") => `(tactic| first | omega | ((try simp only [List.length_cons, List.length_nil] at *); omega))
local macro_rules | `(tactic| walk_at "au1") => `(tactic| first
  | walk_at "rd1"
  | ((with_reducible refine' r_draw ?k0 ?k1 ?k2 ?_); (case k0 => walk_at "pl"); (case k1 => omega); (case k2 => omega); (intro _ _ _ _ _ _))
  | ((with_reducible refine' r_slN ?k0 ?_); (case k0 => walk_at "it"); (intro _ _ _ _ _ _))
  | ((with_reducible refine' r_catN ?k0 ?k1 ?k2 ?_); (case k0 => walk_at "it"); (case k1 => walk_at "it"); (case k2 => walk_at "sz"); (intro _ _ _ _ _ _))
  | ((with_reducible refine' r_pow ?k0 ?_); (case k0 => exact ⟨by decide, by decide, by decide⟩))
  | ((with_reducible refine' r_ixI ?k0 ?k1 ?k2 ?_); (case k0 => walk_at "it"); (case k1 => omega); (case k2 => omega); (intro _ _))
  | ((with_reducible refine' r_setI ?k0 ?k1 ?k2 ?_); (case k0 => walk_at "tk"); (case k1 => omega); (case k2 => omega); (intro _ _ _ _ _))
  | ((with_reducible refine' r_kTupI ?k0 ?_); (case k0 => walk_at "tk"); (intro _ _ _ _ _))
  | ((with_reducible refine' r_listI ?k0 ?_); (case k0 => walk_at "it"); (intro _ _ _ _ _))
  | (with_reducible refine r_revU ?_)
  | ((with_reducible refine' r_prevN ?k0 ?_); (case k0 => walk_at "it"); (intro _ _ _ _ _ _))
  | (intro _ _ _ _ _))
local macro_rules | `(tactic| walk_at "go") => `(tactic| ((repeat (walk_at "au1")); (first
  | ((with_reducible refine r_ite (fun _ => ?_) (fun _ => ?_)) <;> (walk_at "go"))
  | ((with_reducible refine r_iteN (fun _ => ?_) (fun _ => ?_)) <;> (walk_at "go"))
  | dsimp only
  | skip)))
/-- a list at l of rows, each a plain tuple -/
def LRt (H : Hp) (l : Addr) (ps : List (Addr × List Int)) : Prop := H l = some (.lst (ps.map fun q => V.ref q.1)) ∧ ∀ q ∈ ps, H q.1 = some (.tup (q.2.map V.int))
abbrev rws (ps : List (Addr × List Int)) : List (List Int) := ps.map Prod.snd
theorem LRt.same {H H' : Hp} {l : Addr} {ps : List (Addr × List Int)} (s : Same H H') (h : LRt H l ps) : LRt H' l ps := ⟨s _ _ h.1, fun q hq => s _ _ (h.2 q hq)⟩
theorem LRt.butT {H H' : Hp} {l d : Addr} {ps : List (Addr × List Int)} {kvs : List (List Key × V)} (b : But d H H') (hd : H d = some (.dT kvs)) (h : LRt H l ps) : LRt H' l ps :=
  ⟨b _ _ (ne_of h.1 hd (by intro z; cases z)) h.1, fun q hq => b _ _ (ne_of (h.2 q hq) hd (by intro z; cases z)) (h.2 q hq)⟩
theorem LRt.butL {H H' : Hp} {l d : Addr} {ps : List (Addr × List Int)} {ys : List V} (b : But d H H') (hd : H d = some (.lst ys)) (hne : l ≠ d) (h : LRt H l ps) : LRt H' l ps :=
  ⟨b _ _ hne h.1, fun q hq => b _ _ (ne_of (h.2 q hq) hd (by intro z; cases z)) (h.2 q hq)⟩
theorem LRt.push {H H' : Hp} {l a : Addr} {r : List Int} {ps : List (Addr × List Int)} (b : But l H H') (h : LRt H l ps) (ea : H a = some (.tup (r.map V.int))) (e : H' l = some (.lst ((ps.map fun q => V.ref q.1) ++ [.ref a]))) : LRt H' l (ps ++ [(a, r)]) := by
  refine ⟨by rw [e, List.map_append]; rfl, fun q hq => ?_⟩
  rcases List.mem_append.mp hq with hq | hq
  · exact b _ _ (ne_of (h.2 q hq) h.1 (by intro z; cases z)) (h.2 q hq)
  · rw [List.mem_singleton] at hq
    subst hq
    exact b _ _ (ne_of ea h.1 (by intro z; cases z)) ea
theorem DR.same {H H' : Hp} {p : Addr} {S : List (List Int)} (s : Same H H') (h : DR H p S) : DR H' p S := let ⟨k, e, r⟩ := h; ⟨k, s _ _ e, r⟩
theorem DR.butL {H H' : Hp} {p l : Addr} {S : List (List Int)} {ys : List V} (b : But l H H') (hl : H l = some (.lst ys)) (h : DR H p S) : DR H' p S := let ⟨k, e, r⟩ := h; ⟨k, b _ _ (ne_of e hl (by intro z; cases z)) e, r⟩
def noUnlike (ec : Str → Addr) (H : Hp) (E : XK) : Prop := ∀ d H', Same H H' → H d = none → H' d = some (.xd [("word", .str "Unlike")]) → E (.ref (ec "Unlike")) (some d) H'
def noHeads (ec : Str → Addr) (k : Int) (H : Hp) (E : XK) : Prop := ∀ d H', Same H H' → H d = none → H' d = some (.xd [("most", .int k), ("word", .str "TooManyHeads")]) → E (.ref (ec "TooManyHeads")) (some d) H'
def noStage (ec : Str → Addr) (H : Hp) (E : XK) : Prop := ∀ d H', Same H H' → H d = none → H' d = some (.xd [("word", .str "BadStage")]) → E (.ref (ec "BadStage")) (some d) H'
theorem noUnlike.same {ec : Str → Addr} {E : XK} {H H' : Hp} (h : noUnlike ec H E) (s : Same H H') : noUnlike ec H' E := fun d H2 s2 nd e => h d H2 (s.trans s2) (s.free nd) e
theorem noHeads.same {ec : Str → Addr} {E : XK} {H H' : Hp} {k : Int} (h : noHeads ec k H E) (s : Same H H') : noHeads ec k H' E := fun d H2 s2 nd e => h d H2 (s.trans s2) (s.free nd) e
def sp_rounds (K : PySem.W.Frag) (ec : Str → Addr) : Sp := fun vs H Q E => ∃ s : Int, vs = [.int s] ∧ (1 ≤ s ∧ s ≤ 12 → ∀ p H', H p = none → Same H H' → H' p = some (.tup ((roundsR s.toNat).map V.int)) → Q (.ref p) H') ∧ (¬ (1 ≤ s ∧ s ≤ 12) → noStage ec H E)
def sp_times (K : PySem.W.Frag) (ec : Str → Addr) : Sp := fun vs H Q E => ∃ (a b : Addr) (x y : List Int) (n : Nat), vs = [.ref a, .ref b] ∧ SqT K H a (x.map V.int) ∧ SqT K H b (y.map V.int) ∧ IsRow y n ∧ n ≤ 12 ∧
  (IsRow x n → ∀ p H', H p = none → Same H H' → H' p = some (.tup ((mulR x y).map V.int)) → Q (.ref p) H') ∧ (x.length ≠ n → noUnlike ec H E) ∧ (IsRow x n ∨ x.length ≠ n)
def sp_check_stages (K : PySem.W.Frag) (ec : Str → Addr) : Sp := fun vs H Q E => ∃ (s : Int) (b : Addr) (ps : List (Addr × List Int)), vs = [.int s, .ref b] ∧ SqT K H b (ps.map fun q => V.ref q.1) ∧ (∀ q ∈ ps, SqT K H q.1 (q.2.map V.int)) ∧
  ((∀ q ∈ ps, (q.2.length : Int) = s) → Q .non H) ∧ (¬ (∀ q ∈ ps, (q.2.length : Int) = s) → noUnlike ec H E)
def sp_products_of (K : PySem.W.Frag) (ec : Str → Addr) : Sp := fun vs H Q E => ∃ (n : Nat) (l : Addr) (ms : List (Addr × List Int)) (k : Nat), vs = [.int (n : Int), .ref l, .int (k : Int)] ∧ 1 ≤ n ∧ n ≤ 12 ∧ LRt H l ms ∧ (∀ m ∈ rws ms, IsRow m n) ∧ 1 ≤ k ∧ k ≤ 100000 ∧
  (∀ p H' qs, H p = none → Same H H' → LRt H' p qs → Whole n (rws ms) (rws qs) → qs.length ≤ k → Q (.ref p) H') ∧ (More n (rws ms) k → noHeads ec k H E)
abbrev N_rounds : List Str := ["stage"]
def t_rounds (K : PySem.W.Frag) (ec : Str → Addr) (E : XK) : TS :=
  tSeq (tDrop ((tCallW (sp_check_stage K ec) (fun cls d _ H => E cls d H) (tCons (tVar 0) tNil))))
  ((tRet ((tTupRg (tRg2 ((tC (.int 1))) ((tOp (rAddU K) (tVar 0) ((tC (.int 1))))))))))
abbrev N_times : List Str := ["first", "second", "place"]
def t_times (K : PySem.W.Frag) (ec : Str → Addr) (E : XK) : TS :=
  tSeq (tIfS ((tTest (tOp (rNeU K) ((tCB (rLenU K) (tCons (tVar 0) tNil))) ((tCB (rLenU K) (tCons (tVar 1) tNil)))))) ((sRaise (fun cls d _ H => E cls d H) (tBad (ec "Unlike") "Unlike"))) (tNext))
  ((tRet ((tThen ((tLc ((iSeqU K (tVar 1))) ((gName 2)) (tYes) ((tOp (rIx K) (tVar 0) ((tOp rSubU (tVar 2) ((tC (.int 1))))))) [2])) (kTupP K)))))
abbrev N_check_stages : List Str := ["stage", "rows", "row"]
def t_check_stages (K : PySem.W.Frag) (ec : Str → Addr) (E : XK) : TS :=
  (tFor (iSeqU K (tVar 1)) (gName 2) ((tIfS ((tTest (tOp (rNeU K) ((tCB (rLenU K) (tCons (tVar 2) tNil))) (tVar 0)))) ((sRaise (fun cls d _ H => E cls d H) (tBad (ec "Unlike") "Unlike"))) (tNext))))
abbrev N_products_of : List Str := ["stage", "movers", "most", "found", "known", "at", "mover", "row"]
def t_products_of (K : PySem.W.Frag) (ec : Str → Addr) (E : XK) : TS :=
  tSeq (tAsg ((tLst (tCons ((tCallW (sp_rounds K ec) (fun cls d _ H => E cls d H) (tCons (tVar 0) tNil))) tNil))) (gName 3))
  (tSeq (tAsg ((tDispT ((tOp (rIx K) (tVar 3) ((tC (.int 0))))) ((tC (.bl true))))) (gName 4))
  (tSeq (tAsg ((tC (.int 0))) (gName 5))
  (tSeq (tWhile ((tTest (tOp (rLtU K) (tVar 5) ((tCB (rLenU K) (tCons (tVar 3) tNil)))))) (tSeq (tFor (iSeqU K (tVar 1)) (gName 6) (tSeq (tAsg ((tCallW (sp_times K ec) (fun cls d _ H => E cls d H) (tCons ((tOp (rIx K) (tVar 3) (tVar 5))) (tCons (tVar 6) tNil)))) (gName 7))
  ((tIfS ((tB (tDNotIn (tVar 7) (tVar 4)))) (tSeq (tIfS ((tTest (tOp (rEqU K) ((tCB (rLenU K) (tCons (tVar 3) tNil))) (tVar 2)))) ((sRaise (fun cls d _ H => E cls d H) (tBad1 (ec "TooManyHeads") "TooManyHeads" "most" (tVar 2)))) (tNext))
  (tSeq (sDPut (tVar 4) (tVar 7) ((tC (.bl true))))
  ((tDrop ((tBM K "list" rAppend (tVar 3) (tCons (tVar 7) tNil))))))) (tNext)))))
  ((tAug 5 ((tC (.int 1))) (ipI fun i j => i + j)))))
  ((tRet (tVar 3))))))
section
variable {K : PySem.W.Frag} {ec : Str → Addr} {ns : List Str} {vs : List V} {H : Hp} {Q : VK} {E : XK}
theorem len_rounds (h : sp_rounds K ec vs H Q E) : vs.length = 1 := by obtain ⟨s, rfl, _⟩ := h; rfl
theorem len_times (h : sp_times K ec vs H Q E) : vs.length = 2 := by obtain ⟨a, b, x, y, n, rfl, _⟩ := h; rfl
theorem len_check_stages (h : sp_check_stages K ec vs H Q E) : vs.length = 2 := by obtain ⟨s, b, ps, rfl, _⟩ := h; rfl
theorem len_products_of (h : sp_products_of K ec vs H Q E) : vs.length = 3 := by obtain ⟨n, l, ms, k, rfl, _⟩ := h; rfl
theorem pure_rounds (XS : Exs K ec ns) (h : sp_rounds K ec vs H Q E) : t_rounds K ec E (En Q) (start N_rounds vs) H := by
  obtain ⟨s, rfl, q, qE⟩ := h
  unfold t_rounds
  walk_at "rd"
  refine ⟨s, rfl, fun hs => ?_, fun hs => qE hs⟩
  obtain ⟨n, rfl⟩ : ∃ n : Nat, s = (n : Int) := ⟨s.toNat, by omega⟩
  walk_at "rd"
  refine r_new (RgOk.of_le (by omega) (by omega) (by omega) (by omega)) ?_
  intro p H1 np s1 e1
  rw [rgV_rounds] at e1
  have := q hs p H1 np s1
  rw [Int.toNat_natCast] at this
  exact this e1
theorem pure_times (XS : Exs K ec ns) (h : sp_times K ec vs H Q E) : t_times K ec E (En Q) (start N_times vs) H := by
  obtain ⟨a, b, x, y, n, rfl, hx, hy, ry, hn, q, qE, alt⟩ := h
  unfold t_times
  walk_at "rd"
  rw [List.length_map, List.length_map, ry.1]
  refine r_iteN (fun h0 => ?_) (fun h0 => ?_)
  · exact r_raise fun d H' s nd e => qE (fun z => h0 (by omega)) d H' s nd e
  have rx : IsRow x n := alt.resolve_right (fun z => z (by omega))
  walk_at "rd"
  refine r_lcTm (fun i v => match v with | .int b => .int (x.getD (b - 1).toNat 0) | _ => .non) hy (by rw [List.length_map, ry.1]; omega) (fun _ => rfl) (fun i v H1 Q' hi s k => ?_) (fun p H' np s e => ?_)
  · rw [List.getElem?_map] at hi
    obtain ⟨b', hb, rfl⟩ := Option.map_eq_some_iff.mp hi
    have hm := ry.2.2 b' (List.mem_of_getElem? hb)
    have ha := atI_row rx hm.1 hm.2
    walk_at "rd"
    exact k H1 (Same.refl _)
  · have ee : (List.range (y.map V.int).length).zipWith (fun (i : Nat) v => match v with | .int b => V.int (x.getD (b - 1).toNat 0) | _ => .non) (y.map V.int) = (mulR x y).map V.int := by
      apply List.ext_getElem?
      intro i
      rw [List.getElem?_zipWith, List.getElem?_map, List.length_map]
      unfold mulR
      rw [List.getElem?_map, List.getElem?_map]
      by_cases hi : i < y.length
      · rw [List.getElem?_range hi, List.getElem?_eq_getElem hi]; rfl
      · rw [List.getElem?_eq_none (by omega : y.length ≤ i)]
        simp
    rw [ee] at e
    walk_at "rd"
    refine r_kTupP (sqL_of e) fun p2 H2 np2 s2 e2 => ?_
    exact q rx p2 H2 (s.free np2) (s.trans s2) e2
theorem pure_check_stages (XS : Exs K ec ns) (h : sp_check_stages K ec vs H Q E) : t_check_stages K ec E (En Q) (start N_check_stages vs) H := by
  obtain ⟨s, b, ps, rfl, hb, hp, q, qE⟩ := h
  unfold t_check_stages
  walk_at "rd"
  refine r_forTup (xs := ps.map fun q => V.ref q.1) (fun i σ' H' => ∃ z2 : Option V, σ' = [some (.int s), some (.ref b), z2] ∧ H' = H ∧ ∀ q ∈ ps.take i, (q.2.length : Int) = s)
    ⟨none, rfl, rfl, fun q hq => by simp at hq⟩ (fun i σ' H' _ hW => ?_) (fun i x σ' H' hi hW => ?_) (fun σ' H' hW => ?_)
  · obtain ⟨z2, rfl, rfl, _⟩ := hW
    exact hb
  · obtain ⟨z2, rfl, rfl, hg⟩ := hW
    rw [List.getElem?_map] at hi
    obtain ⟨p, hpi, rfl⟩ := Option.map_eq_some_iff.mp hi
    have hmem := List.mem_of_getElem? hpi
    have ep := hp p hmem
    walk_at "rd"
    rw [List.length_map]
    refine r_iteN (fun h0 => ?_) (fun h0 => ?_)
    · exact r_raise fun d H' s' nd e => qE (fun z => h0 (z p hmem)) d H' s' nd e
    · refine r_next ⟨_, rfl, rfl, fun w hw => ?_⟩
      rw [List.take_add_one, hpi, List.mem_append] at hw
      rcases hw with hw | hw
      · exact hg w hw
      · have : w = p := by simpa using hw
        subst this; exact h0
  · obtain ⟨z2, rfl, rfl, hg⟩ := hW
    rw [List.length_map, List.take_length] at hg
    exact q hg
end
end K5
end Kb
set_option Elab.async false
set_option linter.all false
namespace Kb
/-- the bell at place b after k of the window's steps -/
def wf (ws os : List Int) : Nat → Int → Int
  | 0, b => b
  | k + 1, b => if b = ws.getD k 0 then ws.getD (os.getD k 0 - 1).toNat 0 else wf ws os k b
def wrow (ws os : List Int) (n k : Nat) : List Int := (List.range n).map fun (i : Nat) => wf ws os k (1 + (i : Int))
theorem wrow_zero (ws os : List Int) (n : Nat) : wrow ws os n 0 = roundsR n := rfl
theorem wrow_len (ws os : List Int) (n k : Nat) : (wrow ws os n k).length = n := by simp [wrow]
theorem wrow_succ {ws os : List Int} {n k : Nat} (h1 : 1 ≤ ws.getD k 0) : wrow ws os n (k + 1) = (wrow ws os n k).set (ws.getD k 0 - 1).toNat (ws.getD (os.getD k 0 - 1).toNat 0) := by
  apply List.ext_getElem?
  intro i
  rw [List.getElem?_set]
  unfold wrow
  rw [List.getElem?_map, List.getElem?_map, List.length_map, List.length_range]
  by_cases hi : i < n
  · rw [List.getElem?_range hi]
    simp only [Option.map_some]
    by_cases e : (ws.getD k 0 - 1).toNat = i
    · rw [if_pos e, if_pos (by omega)]
      rw [wf, if_pos (by omega)]
    · rw [if_neg e, wf, if_neg (by omega)]
  · rw [List.getElem?_eq_none (by simp; omega)]
    by_cases e : (ws.getD k 0 - 1).toNat = i
    · rw [if_pos e, if_neg (by omega)]; rfl
    · rw [if_neg e]; rfl
theorem wf_out {ws os : List Int} {b : Int} (h : b ∉ ws) : ∀ k, k ≤ ws.length → wf ws os k b = b
  | 0, _ => rfl
  | k + 1, hk => by
    rw [wf, if_neg, wf_out h k (by omega)]
    intro z
    rw [List.getD_eq_getElem?_getD, List.getElem?_eq_getElem (by omega : k < ws.length)] at z
    exact h (by rw [z]; exact List.getElem_mem _)
theorem getD_in {ws : List Int} {j : Nat} (h : j < ws.length) : ws.getD j 0 = ws[j] := by rw [List.getD_eq_getElem?_getD, List.getElem?_eq_getElem h]; rfl
theorem wf_in {ws os : List Int} (nd : ws.Nodup) {j : Nat} (hj : j < ws.length) : ∀ k, k ≤ ws.length → j < k → wf ws os k (ws.getD j 0) = ws.getD (os.getD j 0 - 1).toNat 0
  | 0, _, h => absurd h (Nat.not_lt_zero _)
  | k + 1, hk, h => by
    by_cases e : j = k
    · subst e; rw [wf, if_pos rfl]
    · rw [wf, if_neg, wf_in nd hj k (by omega) (by omega)]
      intro z
      rw [getD_in hj, getD_in (by omega : k < ws.length)] at z
      exact e ((List.getElem_inj nd).mp z)
theorem wrow_row {ws os : List Int} {n : Nat} (nd : ws.Nodup) (hw : ∀ x ∈ ws, 1 ≤ x ∧ x ≤ (n : Int)) (ho : IsRow os ws.length) : IsRow (wrow ws os n ws.length) n := by
  have val : ∀ b : Int, b ∈ ws → ∃ j, j < ws.length ∧ b = ws.getD j 0 ∧ wf ws os ws.length b = ws.getD (os.getD j 0 - 1).toNat 0 ∧ (os.getD j 0 - 1).toNat < ws.length ∧ 1 ≤ os.getD j 0 := fun b hb => by
    obtain ⟨j, hj, e⟩ := List.getElem_of_mem hb
    have e' : b = ws.getD j 0 := by rw [getD_in hj, e]
    have hjo : j < os.length := by rw [ho.1]; exact hj
    have := ho.2.2 (os.getD j 0) (by rw [getD_in hjo]; exact List.getElem_mem _)
    refine ⟨j, hj, e', ?_, by omega, this.1⟩
    rw [e']; exact wf_in nd hj _ (Nat.le_refl _) hj
  have inw : ∀ b : Int, b ∈ ws → wf ws os ws.length b ∈ ws := fun b hb => by
    obtain ⟨j, _, _, e, h, _⟩ := val b hb
    rw [e, getD_in h]; exact List.getElem_mem _
  have inj : ∀ a b : Int, wf ws os ws.length a = wf ws os ws.length b → a = b := fun a b e => by
    by_cases ha : a ∈ ws
    · by_cases hb : b ∈ ws
      · obtain ⟨i, hi, ea, fa, ia, pa⟩ := val a ha
        obtain ⟨j, hj, eb, fb, ib, pb⟩ := val b hb
        rw [fa, fb, getD_in ia, getD_in ib] at e
        have e2 := (List.getElem_inj nd).mp e
        have e3 : os.getD i 0 = os.getD j 0 := by omega
        rw [getD_in (by rw [ho.1]; exact hi), getD_in (by rw [ho.1]; exact hj)] at e3
        have e4 := (List.getElem_inj ho.2.1).mp e3
        rw [ea, eb, e4]
      · rw [wf_out hb _ (Nat.le_refl _)] at e
        exact absurd (e ▸ inw a ha) hb
    · rw [wf_out ha _ (Nat.le_refl _)] at e
      by_cases hb : b ∈ ws
      · exact absurd (e ▸ inw b hb) ha
      · rw [wf_out hb _ (Nat.le_refl _)] at e
        exact e
  refine ⟨wrow_len .., ?_, fun x hx => ?_⟩
  · unfold wrow
    rw [List.nodup_iff_pairwise_ne, List.pairwise_map]
    exact List.nodup_range.imp fun h e => h (by have := inj _ _ e; omega)
  · obtain ⟨i, hi, rfl⟩ := List.mem_map.mp hx
    rw [List.mem_range] at hi
    by_cases hb : (1 + (i : Int)) ∈ ws
    · exact hw _ (inw _ hb)
    · rw [wf_out hb _ (Nat.le_refl _)]
      omega
end Kb
set_option Elab.async false
set_option linter.all false
set_option maxRecDepth 100000
set_option maxHeartbeats 4000000
namespace Kb
open PySem PySem.Spec PyProof.Rows L2
def rMin2 : List V → Hp → VK → Prop := fun xs H Q => ∃ i j, xs = [.int i, .int j] ∧ Q (.int (if j < i then j else i)) H
section
variable {K : PySem.W.Frag} {D : Ends} {σ : L2.St} {H : Hp} {te : TE} {g : TG} {tb : TS} {Q : VK} {a d : Addr} {i : Nat}
theorem r_min2 {m n : Int} (q : Q (.int (min m n)) H) : rMin2 [.int m, .int n] H Q := ⟨m, n, rfl, by
  rw [show (if n < m then n else m) = min m n by split <;> omega]; exact q⟩
end
end Kb
set_option Elab.async false
set_option linter.all false
set_option maxRecDepth 100000
set_option maxHeartbeats 4000000
namespace Kb
namespace K5
open PySem PySem.Spec PyProof.Rows L2
local macro_rules | `(tactic| walk_at "tk") => `(tactic| first
  | assumption
  | ((with_reducible refine' sqT_of ?k); (case k => assumption))
  | ((with_reducible refine' sqT_ofD ?k); (case k => assumption))
  | ((with_reducible refine' noD_of ?k); (case k => assumption))
  | ((with_reducible refine' noD_same ?s ?k); (case s => assumption); (case k => walk_at "tk"))
  | ((with_reducible refine' sqL_of ?k); (case k => assumption))
  | ((with_reducible refine' sqT_same ?s ?k); (case s => assumption); (case k => walk_at "tk"))
  | ((with_reducible refine' sqL_same ?s ?k); (case s => assumption); (case k => walk_at "tk"))
  | ((with_reducible refine' sqT_but ?s ?t ?k); (case s => assumption); (case t => walk_at "tk"); (case k => walk_at "tk"))
  | ((with_reducible refine' sqL_but ?s ?t ?k); (case s => assumption); (case t => walk_at "ne"); (case k => walk_at "tk"))
  | ((with_reducible refine' sqL_of ?k); (case k => walk_at "tk"))
  | ((with_reducible refine' sqT_of ?k); (case k => walk_at "tk"))
  | ((with_reducible refine' at_same ?s ?k); (case s => assumption); (case k => walk_at "tk"))
  | ((with_reducible refine' at_but ?s ?t ?k); (case s => assumption); (case t => walk_at "ne"); (case k => walk_at "tk")))
local macro_rules | `(tactic| walk_at "ne") => `(tactic| first
  | assumption
  | (refine Ne.symm ?_; assumption)
  | exact ne_of_none (by assumption) (by assumption)
  | exact (ne_of_none (by assumption) (by assumption)).symm)
local macro_rules | `(tactic| walk_at "side") => `(tactic| first
  | assumption
  | omega
  | (simp only [sizeLine_eq, List.length_cons, List.length_nil, List.length_map]; omega)
  | (show _ ≤ sizeLine; decide))
local macro_rules | `(tactic| walk_at "kit") => `(tactic| first
  | (show kitB _ _ = some true; decide +kernel)
  | (show kitB _ _ = some false; decide +kernel))
local macro_rules | `(tactic| walk_at "rng") => `(tactic| first
  | (refine ⟨by omega, by omega, by omega, by omega⟩)
  | (refine ⟨by omega, by omega⟩)
  | ((simp only [List.length_map]); (refine ⟨by omega, by omega, by omega, by omega⟩))
  | ((simp only [List.length_map]); (refine ⟨by omega, by omega⟩)))
local macro_rules | `(tactic| walk_at "rd1") => `(tactic| first
  | with_reducible refine r_seq ?_
  | ((with_reducible refine' r_var ?k0 ?_); (case k0 => rfl))
  | with_reducible refine r_op ?_
  | with_reducible refine r_c ?_
  | with_reducible refine r_asg ?_
  | with_reducible refine r_name ?_
  | with_reducible refine r_cons ?_
  | with_reducible refine r_nil ?_
  | with_reducible refine r_CB ?_
  | with_reducible refine r_if ?_
  | with_reducible refine r_test ?_
  | with_reducible refine r_k ?_
  | with_reducible refine r_T ?_
  | with_reducible refine r_F ?_
  | with_reducible refine r_nT ?_
  | with_reducible refine r_nF ?_
  | with_reducible refine r_ret ?_
  | with_reducible refine r_drop ?_
  | with_reducible refine r_next ?_
  | with_reducible refine r_call ?_
  | with_reducible refine r_addI ?_
  | with_reducible refine r_subI ?_
  | with_reducible refine r_ltI ?_
  | with_reducible refine r_gtI ?_
  | with_reducible refine r_leI ?_
  | with_reducible refine r_geI ?_
  | with_reducible refine r_eqI ?_
  | with_reducible refine r_neI ?_
  | with_reducible refine r_int ?_
  | with_reducible refine r_abs ?_
  | with_reducible refine r_not ?_
  | with_reducible refine r_and ?_
  | with_reducible refine r_or ?_
  | with_reducible refine r_tru ?_
  | with_reducible refine r_truB ?_
  | with_reducible refine r_lst ?_
  | with_reducible refine r_tup ?_
  | with_reducible refine r_BM ?_
  | with_reducible refine r_BM0 ?_
  | with_reducible refine r_tyS ?_
  | with_reducible refine r_gsub ?_
  | with_reducible refine r_then ?_
  | with_reducible refine r_lstRg ?_
  | with_reducible refine r_tupRg ?_
  | with_reducible refine r_rg2 ?_
  | with_reducible refine r_rg1 ?_
  | with_reducible refine r_ii ?_
  | with_reducible refine r_i ?_
  | with_reducible refine r_ipI ?_
  | with_reducible refine r_un ?_
  | with_reducible refine r_neg ?_
  | with_reducible refine r_isN ?_
  | with_reducible refine r_notN ?_
  | with_reducible refine r_notV ?_
  | with_reducible refine r_pnot ?_
  | with_reducible refine r_pif ?_
  | with_reducible refine r_andV ?_
  | with_reducible refine r_orV ?_
  | with_reducible refine r_ifE ?_
  | with_reducible refine r_chain ?_
  | with_reducible refine r_sl ?_
  | with_reducible refine r_noPart ?_
  | with_reducible refine r_part ?_
  | with_reducible refine r_brk ?_
  | with_reducible refine r_cont ?_
  | with_reducible refine r_retN ?_
  | with_reducible refine r_truI ?_
  | with_reducible refine r_B ?_
  | with_reducible refine r_for ?_
  | with_reducible refine r_rng1 ?_
  | with_reducible refine r_rng2 ?_
  | with_reducible refine r_rng3 ?_
  | with_reducible refine r_body ?_
  | with_reducible refine r_lc ?_
  | with_reducible refine r_yes ?_
  | ((with_reducible refine' r_mod ?k0 ?_); (case k0 => walk_at "side"))
  | ((with_reducible refine' r_mulI ?k0 ?_); (case k0 => first | exact Or.inl ⟨by omega, by omega⟩ | exact Or.inr ⟨by omega, by omega⟩))
  | ((with_reducible refine' r_lenL ?k0 ?_); (case k0 => walk_at "tk"))
  | ((with_reducible refine' r_lenT ?k0 ?_); (case k0 => walk_at "tk"))
  | ((with_reducible refine' r_truL ?k0 ?_); (case k0 => walk_at "tk"))
  | ((with_reducible refine' r_truT ?k0 ?_); (case k0 => walk_at "tk"))
  | ((with_reducible refine' r_ixL ?k0 ?k1 ?_); (case k0 => walk_at "tk"); (case k1 => first | assumption | rfl))
  | ((with_reducible refine' r_ixT ?k0 ?k1 ?_); (case k0 => walk_at "tk"); (case k1 => first | assumption | rfl))
  | ((with_reducible refine' r_new ?k0 ?_); (case k0 => walk_at "side"))
  | ((with_reducible refine' r_tyL ?k0 ?_); (case k0 => walk_at "tk"))
  | ((with_reducible refine' r_append ?k0 ?k1 ?_); (case k0 => walk_at "tk"); (case k1 => walk_at "side"))
  | ((with_reducible refine' r_setL ?k0 ?k1 ?_); (case k0 => walk_at "tk"); (case k1 => first | assumption | rfl))
  | ((with_reducible refine' r_kTupL ?k0 ?_); (case k0 => walk_at "tk"))
  | ((with_reducible refine' r_kTupT ?k0 ?_); (case k0 => walk_at "tk"))
  | ((with_reducible refine' r_listL ?k0 ?_); (case k0 => walk_at "tk"))
  | ((with_reducible refine' r_listT ?k0 ?_); (case k0 => walk_at "tk"))
  | ((with_reducible refine' r_aug ?k0 ?_); (case k0 => rfl))
  | ((with_reducible refine' r_lenS ?k0 ?_); (case k0 => walk_at "side"))
  | ((with_reducible refine' r_pop ?k0 ?_); (case k0 => walk_at "tk"))
  | ((with_reducible refine' r_pr1 ?k0 ?_); (case k0 => walk_at "rng"))
  | ((with_reducible refine' r_pr2 ?k0 ?_); (case k0 => walk_at "rng"))
  | ((with_reducible refine' r_pr3d ?k0 ?_); (case k0 => walk_at "rng"))
  | ((with_reducible refine' r_isiI ?k0 ?_); (case k0 => walk_at "kit"))
  | ((with_reducible refine' r_isiB ?k0 ?_); (case k0 => walk_at "kit"))
  | ((with_reducible refine' r_isiS ?k0 ?_); (case k0 => walk_at "kit"))
  | ((with_reducible refine' r_isiN ?k0 ?_); (case k0 => walk_at "kit"))
  | ((with_reducible refine' r_isiT ?k0 ?k1 ?_); (case k0 => walk_at "tk"); (case k1 => walk_at "kit"))
  | ((with_reducible refine r_seqT ?_); (repeat (walk_at "rd1")); ((with_reducible refine' r_pseqT ?k0 ?_); (case k0 => walk_at "tk")))
  | ((with_reducible refine r_seqL ?_); (repeat (walk_at "rd1")); ((with_reducible refine' r_pseqL ?k0 ?_); (case k0 => walk_at "tk")))
  | ((with_reducible refine r_seqS ?_); (repeat (walk_at "rd1")); (with_reducible refine r_pseqS ?_)))
local macro_rules | `(tactic| walk_at "rd") => `(tactic| ((repeat (walk_at "rd1")); (try dsimp only)))
local macro_rules | `(tactic| walk_at "rd1") => `(tactic| first
  | with_reducible refine r_BMT ?_
  | with_reducible refine r_par ?_
  | with_reducible refine r_parV ?_
  | ((with_reducible refine' r_ptp ?k0 ?k1 ?_); (case k0 => walk_at "tk"); (case k1 => walk_at "tk"))
  | with_reducible refine r_eqS ?_
  | with_reducible refine r_neS ?_
  | with_reducible refine r_callW ?_
  | with_reducible refine r_try ?_
  | with_reducible refine r_enT ?_
  | ((with_reducible refine' r_pen ?k0 ?_); (case k0 => walk_at "tk")))
local macro_rules | `(tactic| walk_at "rd1") => `(tactic| first
  | with_reducible refine r_dIn ?_
  | with_reducible refine r_dNo ?_
  | with_reducible refine r_dPut ?_
  | with_reducible refine r_dGet ?_)
local macro_rules | `(tactic| walk_at "pl0") => `(tactic| first
  | assumption
  | exact pl_same (by assumption) (by assumption)
  | exact pl_same (by assumption) (pl_same (by assumption) (by assumption))
  | exact pl_same (by assumption) (pl_same (by assumption) (pl_same (by assumption) (by assumption))))
local macro_rules | `(tactic| walk_at "pl") => `(tactic| first
  | walk_at "pl0"
  | ((with_reducible refine' pl_butL ?s ?n ?k); (case s => assumption); (case n => walk_at "ne"); (case k => walk_at "pl"))
  | ((with_reducible refine' pl_same ?s ?k); (case s => assumption); (case k => walk_at "pl")))
local macro_rules | `(tactic| walk_at "ne") => `(tactic| first
  | exact ne_pl (by assumption) (by walk_at "pl0")
  | exact (ne_pl (by assumption) (by walk_at "pl0")).symm)
local macro_rules | `(tactic| walk_at "fr") => `(tactic| first
  | assumption
  | ((with_reducible refine' free_but ?b ?n ?h); (case h => assumption); (case n => walk_at "ne"); (case b => walk_at "but"))
  | ((with_reducible refine' Same.free ?b ?h); (case h => assumption); (case b => walk_at "same")))
local macro_rules | `(tactic| walk_at "but") => `(tactic| first
  | assumption
  | exact But.refl
  | ((with_reducible refine' But.trans ?a ?b); (case b => assumption); (case a => walk_at "but"))
  | ((with_reducible refine' But.trans ?a (Same.but ?b)); (case b => assumption); (case a => walk_at "but"))
  | ((with_reducible refine' but_via ?a ?b ?c); (case b => assumption); (case c => walk_at "fr"); (case a => walk_at "but")))
local macro_rules | `(tactic| walk_at "same") => `(tactic| first
  | assumption
  | exact Same.refl _
  | ((with_reducible refine' Same.trans ?a ?b); (case b => assumption); (case a => walk_at "same"))
  | ((with_reducible refine' same_but ?a ?b ?c); (case b => assumption); (case c => walk_at "fr"); (case a => walk_at "same")))
local macro_rules | `(tactic| walk_at "tk") => `(tactic| first
  | ((with_reducible refine' sqT_pl ?s ?t ?k); (case s => assumption); (case t => walk_at "pl0"); (case k => walk_at "tk"))
  | ((with_reducible refine' rp_same ?s ?k); (case s => assumption); (case k => walk_at "tk"))
  | ((with_reducible refine' rp_pl ?s ?t ?k); (case s => assumption); (case t => walk_at "pl0"); (case k => walk_at "tk")))
local macro_rules | `(tactic| walk_at "it") => `(tactic| first
  | assumption
  | ((with_reducible refine' sqI_1 ?k); (case k => assumption))
  | ((with_reducible refine' sqI_0 ?k); (case k => assumption))
  | ((with_reducible refine' sqI_of ?k); (case k => assumption))
  | ((with_reducible refine' sqI_D ?k); (case k => assumption))
  | ((with_reducible refine' sqT_same ?s ?k); (case s => assumption); (case k => walk_at "it"))
  | ((with_reducible refine' sqT_but ?s ?t ?k); (case s => assumption); (case t => assumption); (case k => walk_at "it"))
  | ((with_reducible refine' sqT_pl ?s ?t ?k); (case s => assumption); (case t => walk_at "pl0"); (case k => walk_at "it")))
local macro_rules | `(tactic| walk_at "sz") => `(tactic| first | omega | ((try simp only [List.length_cons, List.length_nil] at *); omega))
local macro_rules | `(tactic| walk_at "au1") => `(tactic| first
  | walk_at "rd1"
  | ((with_reducible refine' r_draw ?k0 ?k1 ?k2 ?_); (case k0 => walk_at "pl"); (case k1 => omega); (case k2 => omega); (intro _ _ _ _ _ _))
  | ((with_reducible refine' r_slN ?k0 ?_); (case k0 => walk_at "it"); (intro _ _ _ _ _ _))
  | ((with_reducible refine' r_catN ?k0 ?k1 ?k2 ?_); (case k0 => walk_at "it"); (case k1 => walk_at "it"); (case k2 => walk_at "sz"); (intro _ _ _ _ _ _))
  | ((with_reducible refine' r_pow ?k0 ?_); (case k0 => exact ⟨by decide, by decide, by decide⟩))
  | ((with_reducible refine' r_ixI ?k0 ?k1 ?k2 ?_); (case k0 => walk_at "it"); (case k1 => omega); (case k2 => omega); (intro _ _))
  | ((with_reducible refine' r_setI ?k0 ?k1 ?k2 ?_); (case k0 => walk_at "tk"); (case k1 => omega); (case k2 => omega); (intro _ _ _ _ _))
  | ((with_reducible refine' r_kTupI ?k0 ?_); (case k0 => walk_at "tk"); (intro _ _ _ _ _))
  | ((with_reducible refine' r_listI ?k0 ?_); (case k0 => walk_at "it"); (intro _ _ _ _ _))
  | (with_reducible refine r_revU ?_)
  | ((with_reducible refine' r_prevN ?k0 ?_); (case k0 => walk_at "it"); (intro _ _ _ _ _ _))
  | (intro _ _ _ _ _))
local macro_rules | `(tactic| walk_at "go") => `(tactic| ((repeat (walk_at "au1")); (first
  | ((with_reducible refine r_ite (fun _ => ?_) (fun _ => ?_)) <;> (walk_at "go"))
  | ((with_reducible refine r_iteN (fun _ => ?_) (fun _ => ?_)) <;> (walk_at "go"))
  | dsimp only
  | skip)))
def sp_law_rounds (K : PySem.W.Frag) : Sp := fun vs H Q _ => ∃ n : Nat, vs = [.int (n : Int)] ∧ n ≤ 1000 ∧ ∀ p H', H p = none → Same H H' → H' p = some (.tup ((roundsR n).map V.int)) → Q (.ref p) H'
def sp_law_times (K : PySem.W.Frag) : Sp := fun vs H Q _ => ∃ (a b : Addr) (x y : List Int) (n : Nat), vs = [.ref a, .ref b] ∧ SqT K H a (x.map V.int) ∧ SqT K H b (y.map V.int) ∧ IsRow x n ∧ IsRow y n ∧ n ≤ 1000 ∧ ∀ p H', H p = none → Same H H' → H' p = some (.tup ((mulR x y).map V.int)) → Q (.ref p) H'
def RowP (p : Addr) (n : Nat) (H : Hp) (Q : VK) : Prop := ∀ a H' r, H a = none → But p H H' → Pl H' p → H' a = some (.tup (r.map V.int)) → IsRow r n → Q (.ref a) H'
def sp_law_row_draw (K : PySem.W.Frag) : Sp := fun vs H Q _ => ∃ (p : Addr) (n : Nat), vs = [.ref p, .int (n : Int)] ∧ Pl H p ∧ n ≤ 1000 ∧ RowP p n H Q
def sp_law_window_row (K : PySem.W.Frag) : Sp := fun vs H Q _ => ∃ (p w : Addr) (n : Nat) (ws : List Int), vs = [.ref p, .int (n : Int), .ref w] ∧ Pl H p ∧ n ≤ 12 ∧ SqT K H w (ws.map V.int) ∧ ws.Nodup ∧ (∀ x ∈ ws, 1 ≤ x ∧ x ≤ (n : Int)) ∧ ws.length ≤ n ∧ RowP p n H Q
abbrev N_law_rounds : List Str := ["stage"]
def t_law_rounds (K : PySem.W.Frag) : TS :=
  (tRet ((tThen ((tLstRg (tRg2 ((tC (.int 1))) ((tOp (rAddU K) (tVar 0) ((tC (.int 1)))))))) (kTupP K))))
abbrev N_law_times : List Str := ["first", "second", "bell"]
def t_law_times (K : PySem.W.Frag) : TS :=
  (tRet ((tThen ((tLc ((iSeqU K (tVar 1))) ((gName 2)) (tYes) ((tOp (rIx K) (tVar 0) ((tOp rSubU (tVar 2) ((tC (.int 1))))))) [2])) (kTupP K))))
abbrev N_law_row_draw : List Str := ["pool", "stage", "left", "out", "k"]
def t_law_row_draw (K : PySem.W.Frag) : TS :=
  tSeq (tAsg ((tLstRg (tRg2 ((tC (.int 1))) ((tOp (rAddU K) (tVar 1) ((tC (.int 1)))))))) (gName 2))
  (tSeq (tAsg ((tLst tNil)) (gName 3))
  (tSeq (tFor (iRng1 (tCons (tVar 1) tNil)) (gName 4) ((tDrop ((tBM K "list" rAppend (tVar 3) (tCons ((tBM K "list" rPopAt (tVar 2) (tCons ((tCall (sp_law_draw K) [] E0 (tCons (tVar 0) (tCons ((tCB (rLenU K) (tCons (tVar 2) tNil))) tNil)))) tNil))) tNil))))))
  ((tRet ((tThen (tVar 3) (kTupP K)))))))
abbrev N_law_window_row : List Str := ["pool", "stage", "window", "order", "row", "k"]
def t_law_window_row (K : PySem.W.Frag) : TS :=
  tSeq (tAsg ((tCall (sp_law_row_draw K) [] E0 (tCons (tVar 0) (tCons ((tCB (rLenU K) (tCons (tVar 2) tNil))) tNil)))) (gName 3))
  (tSeq (tAsg ((tLstRg (tRg2 ((tC (.int 1))) ((tOp (rAddU K) (tVar 1) ((tC (.int 1)))))))) (gName 4))
  (tSeq (tFor (iRng1 (tCons ((tCB (rLenU K) (tCons (tVar 2) tNil))) tNil)) (gName 5) ((tAsg ((tOp (rIx K) (tVar 2) ((tOp rSubU ((tOp (rIx K) (tVar 3) (tVar 5))) ((tC (.int 1))))))) (gSub (tVar 4) ((tOp rSubU ((tOp (rIx K) (tVar 2) (tVar 5))) ((tC (.int 1))))) rSetL))))
  ((tRet ((tThen (tVar 4) (kTupP K)))))))
section
variable {K : PySem.W.Frag} {vs : List V} {H : Hp} {Q : VK} {E : XK}
theorem len_law_rounds (h : sp_law_rounds K vs H Q E) : vs.length = 1 := by obtain ⟨n, rfl, _⟩ := h; rfl
theorem len_law_times (h : sp_law_times K vs H Q E) : vs.length = 2 := by obtain ⟨a, b, x, y, n, rfl, _⟩ := h; rfl
theorem len_law_row_draw (h : sp_law_row_draw K vs H Q E) : vs.length = 2 := by obtain ⟨p, n, rfl, _⟩ := h; rfl
theorem len_law_window_row (h : sp_law_window_row K vs H Q E) : vs.length = 3 := by obtain ⟨p, w, n, ws, rfl, _⟩ := h; rfl
theorem pure_law_rounds (h : sp_law_rounds K vs H Q E) : t_law_rounds K (En Q) (start N_law_rounds vs) H := by
  obtain ⟨n, rfl, hn, q⟩ := h
  unfold t_law_rounds
  walk_at "rd"
  refine r_new (RgOk.of_le (by omega) (by omega) (by omega) (by omega)) ?_
  intro p H1 np s e
  rw [rgV_rounds] at e
  walk_at "rd"
  refine r_kTupP (sqL_of e) fun p2 H2 np2 s2 e2 => ?_
  exact q p2 H2 (s.free np2) (s.trans s2) e2
theorem pure_law_times (h : sp_law_times K vs H Q E) : t_law_times K (En Q) (start N_law_times vs) H := by
  obtain ⟨a, b, x, y, n, rfl, hx, hy, rx, ry, hn, q⟩ := h
  unfold t_law_times
  walk_at "rd"
  refine r_lcTm (fun i v => match v with | .int b => .int (x.getD (b - 1).toNat 0) | _ => .non) hy (by rw [List.length_map, ry.1]; omega) (fun _ => rfl) (fun i v H1 Q' hi s k => ?_) (fun p H' np s e => ?_)
  · rw [List.getElem?_map] at hi
    obtain ⟨b', hb, rfl⟩ := Option.map_eq_some_iff.mp hi
    have hm := ry.2.2 b' (List.mem_of_getElem? hb)
    have ha := atI_row rx hm.1 hm.2
    walk_at "rd"
    exact k H1 (Same.refl _)
  · have ee : (List.range (y.map V.int).length).zipWith (fun (i : Nat) v => match v with | .int b => V.int (x.getD (b - 1).toNat 0) | _ => .non) (y.map V.int) = (mulR x y).map V.int := by
      apply List.ext_getElem?
      intro i
      rw [List.getElem?_zipWith, List.getElem?_map, List.length_map]
      unfold mulR
      rw [List.getElem?_map, List.getElem?_map]
      by_cases hi : i < y.length
      · rw [List.getElem?_range hi, List.getElem?_eq_getElem hi]; rfl
      · rw [List.getElem?_eq_none (by omega : y.length ≤ i)]
        simp
    rw [ee] at e
    walk_at "rd"
    refine r_kTupP (sqL_of e) fun p2 H2 np2 s2 e2 => ?_
    exact q p2 H2 (s.free np2) (s.trans s2) e2
theorem pure_law_row_draw (h : sp_law_row_draw K vs H Q E) : t_law_row_draw K (En Q) (start N_law_row_draw vs) H := by
  obtain ⟨p, n, rfl, hP, hn, q⟩ := h
  unfold t_law_row_draw
  walk_at "rd"
  refine r_new (RgOk.of_le (by omega) (by omega) (by omega) (by omega)) ?_
  intro l H1 nl s1 e1
  rw [rgV_rounds] at e1
  walk_at "rd"
  intro o H2 no s2 e2
  have hpl : p ≠ l := by obtain ⟨x, y, z, hp⟩ := hP; exact ne_of_none hp nl
  have hpo : p ≠ o := by obtain ⟨x, y, z, hp⟩ := hP; exact ne_of_none (s1 _ _ hp) no
  have hlo : l ≠ o := ne_of_none e1 no
  walk_at "rd"
  rw [Int.toNat_natCast]
  refine r_forRange0 (fun i σ' H' => ∃ (os ls : List Int) (z : Option V), σ' = [some (.ref p), some (.int (n : Int)), some (.ref l), some (.ref o), z] ∧ But p H H' ∧ Pl H' p ∧ H' l = some (.lst (ls.map V.int)) ∧ H' o = some (.lst (os.map V.int)) ∧ IsRow (os ++ ls) n ∧ os.length = i)
    ⟨[], roundsR n, none, rfl, (Same.but s1).trans (Same.but s2), ?_, s2 _ _ e1, e2, roundsR_row n, rfl⟩ (fun i σ' H' hi hW => ?_) (fun σ' H' hW => ?_)
  · obtain ⟨x, y, z, hp⟩ := hP
    exact ⟨x, y, z, s2 _ _ (s1 _ _ hp)⟩
  · obtain ⟨os, ls, z, rfl, b, hP', el, eo, hr, ho⟩ := hW
    have hll : ls.length = n - i := by have := hr.1; rw [List.length_append] at this; omega
    walk_at "rd"
    refine ⟨p, _, rfl, hP', by rw [List.length_map]; omega, by rw [List.length_map]; omega, fun v H5 hv0 hv1 b5 hP5 => ?_⟩
    rw [List.length_map] at hv1
    have hk : v.toNat < ls.length := by omega
    have hl5 : H5 l = some (.lst (ls.map V.int)) := b5 _ _ hpl.symm el
    have ho5 : H5 o = some (.lst (os.map V.int)) := b5 _ _ hpo.symm eo
    walk_at "rd"
    refine r_popAt (k := v.toNat) (y := .int ls[v.toNat]) hl5 (by omega) (by rw [List.getElem?_map, List.getElem?_eq_getElem hk]; rfl) (by rw [List.length_map]; omega) ?_
    intro H6 b6 e6
    have ho6 := b6 _ _ hlo.symm ho5
    walk_at "rd"
    intro H7 b7 e7
    walk_at "rd"
    have hpk : ((os ++ [ls[v.toNat]]) ++ ls.eraseIdx v.toNat).Perm (os ++ ls) := pop_perm (List.getElem?_eq_getElem hk)
    refine ⟨os ++ [ls[v.toNat]], ls.eraseIdx v.toNat, _, rfl, but_via (but_via (b.trans b5) b6 nl) b7 (s1.free no), ?_, ?_, ?_, IsRow.perm hpk hr, by rw [List.length_append, ho]; rfl⟩
    · obtain ⟨x, y, z, hp⟩ := hP5
      exact ⟨x, y, z, b7 _ _ hpo (b6 _ _ hpl hp)⟩
    · rw [b7 _ _ hlo e6, map_eraseIdx]
    · rw [e7, List.map_append]; rfl
  · obtain ⟨os, ls, z, rfl, b, hP', el, eo, hr, ho⟩ := hW
    have hll : ls = [] := List.length_eq_zero_iff.mp (by have := hr.1; rw [List.length_append] at this; omega)
    subst hll
    rw [List.append_nil] at hr
    walk_at "rd"
    refine r_kTupP (sqL_of eo) fun a H3 na s3 e3 => ?_
    refine q a H3 os (free_but b (ne_pl na hP') na) (b.trans (Same.but s3)) (pl_same s3 hP') e3 hr
theorem r_ixIL {a : Addr} {ns : List Int} {m : Int} (h : H a = some (.lst (ns.map V.int))) (h0 : 0 ≤ m) (h1 : m < (ns.length : Int)) (q : ∀ i, i ∈ ns → Q (.int i) H) : rIx K (.ref a) (.int m) H Q := by
  obtain ⟨v, e, hv⟩ := atI_ints h0 h1
  exact r_ixL (sqL_of h) e (q v (List.mem_of_getElem? hv))
theorem pure_law_window_row (h : sp_law_window_row K vs H Q E) : t_law_window_row K (En Q) (start N_law_window_row vs) H := by
  obtain ⟨p, w, n, ws, rfl, hP, hn, hw, nd, hwb, hwl, q⟩ := h
  unfold t_law_window_row
  walk_at "rd"
  rw [List.length_map]
  refine ⟨p, ws.length, rfl, hP, by omega, fun o H1 os no b1 hp1 eo ho => ?_⟩
  have hw1 := sqT_pl b1 hP hw
  walk_at "rd"
  refine r_new (RgOk.of_le (by omega) (by omega) (by omega) (by omega)) ?_
  intro l H2 nl s2 e2
  rw [rgV_rounds, ← wrow_zero ws os] at e2
  have hw2 := sqT_same s2 hw1
  walk_at "rd"
  rw [List.length_map, Int.toNat_natCast]
  refine r_forRange0 (fun i σ' H' => ∃ (z : Option V), σ' = [some (.ref p), some (.int (n : Int)), some (.ref w), some (.ref o), some (.ref l), z] ∧ Same H1 H' ∧ H' l = some (.lst ((wrow ws os n i).map V.int)))
    ⟨none, rfl, s2, e2⟩ (fun i σ' H' hi hW => ?_) (fun σ' H' hW => ?_)
  · obtain ⟨z, rfl, s3, e3⟩ := hW
    have hw3 := sqT_same s3 hw1
    have eo3 := sqT_of (K := K) (s3 _ _ eo)
    have hio : i < os.length := by rw [ho.1]; exact hi
    walk_at "rd"
    refine r_ixI eo3 (by omega) (by omega) fun ob hob => ?_
    rw [Int.toNat_natCast] at hob
    have obm := ho.2.2 ob (List.mem_of_getElem? hob)
    walk_at "rd"
    refine r_ixI hw3 (by omega) (by omega) fun nb hnb => ?_
    walk_at "rd"
    refine r_ixI hw3 (by omega) (by omega) fun ib hib => ?_
    rw [Int.toNat_natCast] at hib
    have ibm := hwb ib (List.mem_of_getElem? hib)
    walk_at "rd"
    refine r_setL e3 (ixN_r (y := ib) ibm.1 (by rw [List.length_map, wrow_len]; exact ibm.2)) fun H4 b4 e4 => ?_
    refine ⟨_, rfl, same_but s3 b4 nl, ?_⟩
    have e1 : ws.getD i 0 = ib := by rw [List.getD_eq_getElem?_getD, hib]; rfl
    have e5 : os.getD i 0 = ob := by rw [List.getD_eq_getElem?_getD, hob]; rfl
    have e6 : ws.getD (ob - 1).toNat 0 = nb := by rw [List.getD_eq_getElem?_getD, hnb]; rfl
    rw [wrow_succ (by rw [e1]; exact ibm.1), e1, e5, e6, List.map_set]
    exact e4
  · obtain ⟨z, rfl, s3, e3⟩ := hW
    walk_at "rd"
    refine r_kTupP (sqL_of e3) fun a H4 na s4 e4 => ?_
    have na1 := s3.free na
    exact q a H4 _ (free_but b1 (ne_pl na1 hp1) na1) ((b1.trans (Same.but s3)).trans (Same.but s4)) (pl_same s4 (pl_same s3 hp1)) e4 (wrow_row nd hwb ho)
end
end K5
end Kb
set_option Elab.async false
set_option linter.all false
namespace Kb
/-- y·m = z·m for rows: y = z -/
theorem mul_cancel {n : Nat} {y z m : List Int} (hy : IsRow y n) (hz : IsRow z n) (hm : IsRow m n) (e : mulR y m = mulR z m) : y = z := by
  refine row_ext hy hz fun b h1 h2 => ?_
  obtain ⟨i, hi, ei⟩ := List.getElem_of_mem (row_mem hm h1 h2)
  have hb : nx m (1 + (i : Int)) = b := by
    unfold nx
    rw [show (1 + (i : Int) - 1).toNat = i by omega, List.getD_eq_getElem?_getD, List.getElem?_eq_getElem hi]
    exact ei
  have hl := hm.1
  have e2 : nx (mulR y m) (1 + (i : Int)) = nx (mulR z m) (1 + (i : Int)) := by rw [e]
  rw [nx_mul hm (by omega) (by omega), nx_mul hm (by omega) (by omega), hb] at e2
  exact e2
/-- the coset of x by P -/
def cosetL (x : List Int) (P : List (List Int)) : List (List Int) := P.map fun m => mulR x m
theorem right_onto {n : Nat} {M P : List (List Int)} (hM : ∀ m ∈ M, IsRow m n) (h : Whole n M P) {m m' : List Int} (hm : m ∈ P) (hm' : m' ∈ P) : ∃ p ∈ P, mulR p m = m' := by
  have row : ∀ x ∈ P, IsRow x n := fun x hx => ((h.2 x).mp hx).row hM
  have nd : (P.map fun p => mulR p m).Nodup := by
    rw [List.nodup_iff_pairwise_ne, List.pairwise_map]
    refine List.Pairwise.imp_of_mem (R := (· ≠ ·)) (fun {a b} ha hb ne e => ne (mul_cancel (row a ha) (row b hb) (row m hm) e)) (List.nodup_iff_pairwise_ne.mp h.1)
  have sub : ∀ x ∈ P.map fun p => mulR p m, x ∈ P := fun x hx => by
    obtain ⟨p, hp, rfl⟩ := List.mem_map.mp hx
    exact (h.2 _).mpr (Gn.mul hM ((h.2 p).mp hp) ((h.2 m).mp hm))
  by_cases z : m' ∈ P.map fun p => mulR p m
  · obtain ⟨p, hp, e⟩ := List.mem_map.mp z
    exact ⟨p, hp, e⟩
  · have := nodup_sub_len (b := P) (List.nodup_cons.mpr ⟨z, nd⟩) fun x hx => by
      rcases List.mem_cons.mp hx with rfl | hx
      · exact hm'
      · exact sub x hx
    rw [List.length_cons, List.length_map] at this
    omega
/-- two cosets that meet: the one's root is in the other -/
theorem coset_meet {n : Nat} {M P : List (List Int)} (hM : ∀ m ∈ M, IsRow m n) (h : Whole n M P) {x y z : List Int} (hx : IsRow x n) (hy : IsRow y n) (h1 : z ∈ cosetL x P) (h2 : z ∈ cosetL y P) : x ∈ cosetL y P := by
  obtain ⟨m, hm, e1⟩ := List.mem_map.mp h1
  obtain ⟨m', hm', e2⟩ := List.mem_map.mp h2
  have row : ∀ x ∈ P, IsRow x n := fun x hx => ((h.2 x).mp hx).row hM
  obtain ⟨p, hp, e⟩ := right_onto hM h hm hm'
  refine List.mem_map.mpr ⟨p, hp, ?_⟩
  refine mul_cancel (mulR_row' hy (row p hp)) hx (row m hm) ?_
  rw [mulR_assoc hy (row p hp) (row m hm), e, e1, e2]
theorem coset_self {n : Nat} {M P : List (List Int)} (h : Whole n M P) {x : List Int} (hx : IsRow x n) : x ∈ cosetL x P :=
  List.mem_map.mpr ⟨roundsR n, (h.2 _).mpr .one, mul_rounds hx⟩
theorem coset_len (x : List Int) (P : List (List Int)) : (cosetL x P).length = P.length := List.length_map _
theorem left_cancel {n : Nat} {x y z : List Int} (hx : IsRow x n) (hy : IsRow y n) (hz : IsRow z n) (e : mulR x y = mulR x z) : y = z := by
  refine row_ext hy hz fun b h1 h2 => ?_
  have e2 : nx (mulR x y) b = nx (mulR x z) b := by rw [e]
  rw [nx_mul hy h1 h2, nx_mul hz h1 h2] at e2
  have hl := hx.1
  have in' : ∀ r : List Int, IsRow r n → 1 ≤ nx r b ∧ nx r b ≤ (n : Int) := fun r hr => by
    unfold nx
    rw [List.getD_eq_getElem?_getD, List.getElem?_eq_getElem (by rw [hr.1]; omega)]
    exact hr.2.2 _ (List.getElem_mem _)
  have a := in' y hy
  have c := in' z hz
  have e3 : x.getD (nx y b - 1).toNat 0 = x.getD (nx z b - 1).toNat 0 := e2
  rw [getD_in (by omega), getD_in (by omega)] at e3
  have := (List.getElem_inj hx.2.1).mp e3
  omega
theorem coset_nodup {n : Nat} {M P : List (List Int)} (hM : ∀ m ∈ M, IsRow m n) (h : Whole n M P) {x : List Int} (hx : IsRow x n) : (cosetL x P).Nodup := by
  have row : ∀ x ∈ P, IsRow x n := fun x hx => ((h.2 x).mp hx).row hM
  unfold cosetL
  rw [List.nodup_iff_pairwise_ne, List.pairwise_map]
  exact List.Pairwise.imp_of_mem (R := (· ≠ ·)) (fun {a b} ha hb ne e => ne (left_cancel hx (row a ha) (row b hb) e)) (List.nodup_iff_pairwise_ne.mp h.1)
/-- the coset of a member of the larger closure lies in it -/
theorem coset_sub {n : Nat} {R I W P : List (List Int)} (hR : ∀ r ∈ R, IsRow r n) (hI : ∀ r ∈ I, r ∈ R) (hW : Whole n R W) (hP : Whole n I P) {x z : List Int} (hx : x ∈ W) (hz : z ∈ cosetL x P) : z ∈ W := by
  obtain ⟨p, hp, rfl⟩ := List.mem_map.mp hz
  exact (hW.2 _).mpr (Gn.mul hR ((hW.2 x).mp hx) (((hP.2 p).mp hp).mono hI))
end Kb
set_option Elab.async false
set_option linter.all false
set_option maxRecDepth 100000
set_option maxHeartbeats 4000000
namespace Kb
namespace K5
open PySem PySem.Spec PyProof.Rows L2
local macro_rules | `(tactic| walk_at "tk") => `(tactic| first
  | assumption
  | ((with_reducible refine' sqT_of ?k); (case k => assumption))
  | ((with_reducible refine' sqT_ofD ?k); (case k => assumption))
  | ((with_reducible refine' noD_of ?k); (case k => assumption))
  | ((with_reducible refine' noD_same ?s ?k); (case s => assumption); (case k => walk_at "tk"))
  | ((with_reducible refine' sqL_of ?k); (case k => assumption))
  | ((with_reducible refine' sqT_same ?s ?k); (case s => assumption); (case k => walk_at "tk"))
  | ((with_reducible refine' sqL_same ?s ?k); (case s => assumption); (case k => walk_at "tk"))
  | ((with_reducible refine' sqT_but ?s ?t ?k); (case s => assumption); (case t => walk_at "tk"); (case k => walk_at "tk"))
  | ((with_reducible refine' sqL_but ?s ?t ?k); (case s => assumption); (case t => walk_at "ne"); (case k => walk_at "tk"))
  | ((with_reducible refine' sqL_of ?k); (case k => walk_at "tk"))
  | ((with_reducible refine' sqT_of ?k); (case k => walk_at "tk"))
  | ((with_reducible refine' at_same ?s ?k); (case s => assumption); (case k => walk_at "tk"))
  | ((with_reducible refine' at_but ?s ?t ?k); (case s => assumption); (case t => walk_at "ne"); (case k => walk_at "tk")))
local macro_rules | `(tactic| walk_at "ne") => `(tactic| first
  | assumption
  | (refine Ne.symm ?_; assumption)
  | exact ne_of_none (by assumption) (by assumption)
  | exact (ne_of_none (by assumption) (by assumption)).symm)
local macro_rules | `(tactic| walk_at "side") => `(tactic| first
  | assumption
  | omega
  | (simp only [sizeLine_eq, List.length_cons, List.length_nil, List.length_map]; omega)
  | (show _ ≤ sizeLine; decide))
local macro_rules | `(tactic| walk_at "kit") => `(tactic| first
  | (show kitB _ _ = some true; decide +kernel)
  | (show kitB _ _ = some false; decide +kernel))
local macro_rules | `(tactic| walk_at "rng") => `(tactic| first
  | (refine ⟨by omega, by omega, by omega, by omega⟩)
  | (refine ⟨by omega, by omega⟩)
  | ((simp only [List.length_map]); (refine ⟨by omega, by omega, by omega, by omega⟩))
  | ((simp only [List.length_map]); (refine ⟨by omega, by omega⟩)))
local macro_rules | `(tactic| walk_at "rd1") => `(tactic| first
  | with_reducible refine r_seq ?_
  | ((with_reducible refine' r_var ?k0 ?_); (case k0 => rfl))
  | with_reducible refine r_op ?_
  | with_reducible refine r_c ?_
  | with_reducible refine r_asg ?_
  | with_reducible refine r_name ?_
  | with_reducible refine r_cons ?_
  | with_reducible refine r_nil ?_
  | with_reducible refine r_CB ?_
  | with_reducible refine r_if ?_
  | with_reducible refine r_test ?_
  | with_reducible refine r_k ?_
  | with_reducible refine r_T ?_
  | with_reducible refine r_F ?_
  | with_reducible refine r_nT ?_
  | with_reducible refine r_nF ?_
  | with_reducible refine r_ret ?_
  | with_reducible refine r_drop ?_
  | with_reducible refine r_next ?_
  | with_reducible refine r_call ?_
  | with_reducible refine r_addI ?_
  | with_reducible refine r_subI ?_
  | with_reducible refine r_ltI ?_
  | with_reducible refine r_gtI ?_
  | with_reducible refine r_leI ?_
  | with_reducible refine r_geI ?_
  | with_reducible refine r_eqI ?_
  | with_reducible refine r_neI ?_
  | with_reducible refine r_int ?_
  | with_reducible refine r_abs ?_
  | with_reducible refine r_not ?_
  | with_reducible refine r_and ?_
  | with_reducible refine r_or ?_
  | with_reducible refine r_tru ?_
  | with_reducible refine r_truB ?_
  | with_reducible refine r_lst ?_
  | with_reducible refine r_tup ?_
  | with_reducible refine r_BM ?_
  | with_reducible refine r_BM0 ?_
  | with_reducible refine r_tyS ?_
  | with_reducible refine r_gsub ?_
  | with_reducible refine r_then ?_
  | with_reducible refine r_lstRg ?_
  | with_reducible refine r_tupRg ?_
  | with_reducible refine r_rg2 ?_
  | with_reducible refine r_rg1 ?_
  | with_reducible refine r_ii ?_
  | with_reducible refine r_i ?_
  | with_reducible refine r_ipI ?_
  | with_reducible refine r_un ?_
  | with_reducible refine r_neg ?_
  | with_reducible refine r_isN ?_
  | with_reducible refine r_notN ?_
  | with_reducible refine r_notV ?_
  | with_reducible refine r_pnot ?_
  | with_reducible refine r_pif ?_
  | with_reducible refine r_andV ?_
  | with_reducible refine r_orV ?_
  | with_reducible refine r_ifE ?_
  | with_reducible refine r_chain ?_
  | with_reducible refine r_sl ?_
  | with_reducible refine r_noPart ?_
  | with_reducible refine r_part ?_
  | with_reducible refine r_brk ?_
  | with_reducible refine r_cont ?_
  | with_reducible refine r_retN ?_
  | with_reducible refine r_truI ?_
  | with_reducible refine r_B ?_
  | with_reducible refine r_for ?_
  | with_reducible refine r_rng1 ?_
  | with_reducible refine r_rng2 ?_
  | with_reducible refine r_rng3 ?_
  | with_reducible refine r_body ?_
  | with_reducible refine r_lc ?_
  | with_reducible refine r_yes ?_
  | ((with_reducible refine' r_mod ?k0 ?_); (case k0 => walk_at "side"))
  | ((with_reducible refine' r_mulI ?k0 ?_); (case k0 => first | exact Or.inl ⟨by omega, by omega⟩ | exact Or.inr ⟨by omega, by omega⟩))
  | ((with_reducible refine' r_lenL ?k0 ?_); (case k0 => walk_at "tk"))
  | ((with_reducible refine' r_lenT ?k0 ?_); (case k0 => walk_at "tk"))
  | ((with_reducible refine' r_truL ?k0 ?_); (case k0 => walk_at "tk"))
  | ((with_reducible refine' r_truT ?k0 ?_); (case k0 => walk_at "tk"))
  | ((with_reducible refine' r_ixL ?k0 ?k1 ?_); (case k0 => walk_at "tk"); (case k1 => first | assumption | rfl))
  | ((with_reducible refine' r_ixT ?k0 ?k1 ?_); (case k0 => walk_at "tk"); (case k1 => first | assumption | rfl))
  | ((with_reducible refine' r_new ?k0 ?_); (case k0 => walk_at "side"))
  | ((with_reducible refine' r_tyL ?k0 ?_); (case k0 => walk_at "tk"))
  | ((with_reducible refine' r_append ?k0 ?k1 ?_); (case k0 => walk_at "tk"); (case k1 => walk_at "side"))
  | ((with_reducible refine' r_setL ?k0 ?k1 ?_); (case k0 => walk_at "tk"); (case k1 => first | assumption | rfl))
  | ((with_reducible refine' r_kTupL ?k0 ?_); (case k0 => walk_at "tk"))
  | ((with_reducible refine' r_kTupT ?k0 ?_); (case k0 => walk_at "tk"))
  | ((with_reducible refine' r_listL ?k0 ?_); (case k0 => walk_at "tk"))
  | ((with_reducible refine' r_listT ?k0 ?_); (case k0 => walk_at "tk"))
  | ((with_reducible refine' r_aug ?k0 ?_); (case k0 => rfl))
  | ((with_reducible refine' r_lenS ?k0 ?_); (case k0 => walk_at "side"))
  | ((with_reducible refine' r_pop ?k0 ?_); (case k0 => walk_at "tk"))
  | ((with_reducible refine' r_pr1 ?k0 ?_); (case k0 => walk_at "rng"))
  | ((with_reducible refine' r_pr2 ?k0 ?_); (case k0 => walk_at "rng"))
  | ((with_reducible refine' r_pr3d ?k0 ?_); (case k0 => walk_at "rng"))
  | ((with_reducible refine' r_isiI ?k0 ?_); (case k0 => walk_at "kit"))
  | ((with_reducible refine' r_isiB ?k0 ?_); (case k0 => walk_at "kit"))
  | ((with_reducible refine' r_isiS ?k0 ?_); (case k0 => walk_at "kit"))
  | ((with_reducible refine' r_isiN ?k0 ?_); (case k0 => walk_at "kit"))
  | ((with_reducible refine' r_isiT ?k0 ?k1 ?_); (case k0 => walk_at "tk"); (case k1 => walk_at "kit"))
  | ((with_reducible refine r_seqT ?_); (repeat (walk_at "rd1")); ((with_reducible refine' r_pseqT ?k0 ?_); (case k0 => walk_at "tk")))
  | ((with_reducible refine r_seqL ?_); (repeat (walk_at "rd1")); ((with_reducible refine' r_pseqL ?k0 ?_); (case k0 => walk_at "tk")))
  | ((with_reducible refine r_seqS ?_); (repeat (walk_at "rd1")); (with_reducible refine r_pseqS ?_)))
local macro_rules | `(tactic| walk_at "rd") => `(tactic| ((repeat (walk_at "rd1")); (try dsimp only)))
local macro_rules | `(tactic| walk_at "rd1") => `(tactic| first
  | with_reducible refine r_BMT ?_
  | with_reducible refine r_par ?_
  | with_reducible refine r_parV ?_
  | ((with_reducible refine' r_ptp ?k0 ?k1 ?_); (case k0 => walk_at "tk"); (case k1 => walk_at "tk"))
  | with_reducible refine r_eqS ?_
  | with_reducible refine r_neS ?_
  | with_reducible refine r_callW ?_
  | with_reducible refine r_try ?_
  | with_reducible refine r_enT ?_
  | ((with_reducible refine' r_pen ?k0 ?_); (case k0 => walk_at "tk")))
local macro_rules | `(tactic| walk_at "rd1") => `(tactic| first
  | with_reducible refine r_dIn ?_
  | with_reducible refine r_dNo ?_
  | with_reducible refine r_dPut ?_
  | with_reducible refine r_dGet ?_)
local macro_rules | `(tactic| walk_at "pl0") => `(tactic| first
  | assumption
  | exact pl_same (by assumption) (by assumption)
  | exact pl_same (by assumption) (pl_same (by assumption) (by assumption))
  | exact pl_same (by assumption) (pl_same (by assumption) (pl_same (by assumption) (by assumption))))
local macro_rules | `(tactic| walk_at "pl") => `(tactic| first
  | walk_at "pl0"
  | ((with_reducible refine' pl_butL ?s ?n ?k); (case s => assumption); (case n => walk_at "ne"); (case k => walk_at "pl"))
  | ((with_reducible refine' pl_same ?s ?k); (case s => assumption); (case k => walk_at "pl")))
local macro_rules | `(tactic| walk_at "ne") => `(tactic| first
  | exact ne_pl (by assumption) (by walk_at "pl0")
  | exact (ne_pl (by assumption) (by walk_at "pl0")).symm)
local macro_rules | `(tactic| walk_at "fr") => `(tactic| first
  | assumption
  | ((with_reducible refine' free_but ?b ?n ?h); (case h => assumption); (case n => walk_at "ne"); (case b => walk_at "but"))
  | ((with_reducible refine' Same.free ?b ?h); (case h => assumption); (case b => walk_at "same")))
local macro_rules | `(tactic| walk_at "but") => `(tactic| first
  | assumption
  | exact But.refl
  | ((with_reducible refine' But.trans ?a ?b); (case b => assumption); (case a => walk_at "but"))
  | ((with_reducible refine' But.trans ?a (Same.but ?b)); (case b => assumption); (case a => walk_at "but"))
  | ((with_reducible refine' but_via ?a ?b ?c); (case b => assumption); (case c => walk_at "fr"); (case a => walk_at "but")))
local macro_rules | `(tactic| walk_at "same") => `(tactic| first
  | assumption
  | exact Same.refl _
  | ((with_reducible refine' Same.trans ?a ?b); (case b => assumption); (case a => walk_at "same"))
  | ((with_reducible refine' same_but ?a ?b ?c); (case b => assumption); (case c => walk_at "fr"); (case a => walk_at "same")))
local macro_rules | `(tactic| walk_at "tk") => `(tactic| first
  | ((with_reducible refine' sqT_pl ?s ?t ?k); (case s => assumption); (case t => walk_at "pl0"); (case k => walk_at "tk"))
  | ((with_reducible refine' rp_same ?s ?k); (case s => assumption); (case k => walk_at "tk"))
  | ((with_reducible refine' rp_pl ?s ?t ?k); (case s => assumption); (case t => walk_at "pl0"); (case k => walk_at "tk")))
local macro_rules | `(tactic| walk_at "it") => `(tactic| first
  | assumption
  | ((with_reducible refine' sqI_1 ?k); (case k => assumption))
  | ((with_reducible refine' sqI_0 ?k); (case k => assumption))
  | ((with_reducible refine' sqI_of ?k); (case k => assumption))
  | ((with_reducible refine' sqI_D ?k); (case k => assumption))
  | ((with_reducible refine' sqT_same ?s ?k); (case s => assumption); (case k => walk_at "it"))
  | ((with_reducible refine' sqT_but ?s ?t ?k); (case s => assumption); (case t => assumption); (case k => walk_at "it"))
  | ((with_reducible refine' sqT_pl ?s ?t ?k); (case s => assumption); (case t => walk_at "pl0"); (case k => walk_at "it")))
local macro_rules | `(tactic| walk_at "sz") => `(tactic| first | omega | ((try simp only [List.length_cons, List.length_nil] at *); omega))
local macro_rules | `(tactic| walk_at "au1") => `(tactic| first
  | walk_at "rd1"
  | ((with_reducible refine' r_draw ?k0 ?k1 ?k2 ?_); (case k0 => walk_at "pl"); (case k1 => omega); (case k2 => omega); (intro _ _ _ _ _ _))
  | ((with_reducible refine' r_slN ?k0 ?_); (case k0 => walk_at "it"); (intro _ _ _ _ _ _))
  | ((with_reducible refine' r_catN ?k0 ?k1 ?k2 ?_); (case k0 => walk_at "it"); (case k1 => walk_at "it"); (case k2 => walk_at "sz"); (intro _ _ _ _ _ _))
  | ((with_reducible refine' r_pow ?k0 ?_); (case k0 => exact ⟨by decide, by decide, by decide⟩))
  | ((with_reducible refine' r_ixI ?k0 ?k1 ?k2 ?_); (case k0 => walk_at "it"); (case k1 => omega); (case k2 => omega); (intro _ _))
  | ((with_reducible refine' r_setI ?k0 ?k1 ?k2 ?_); (case k0 => walk_at "tk"); (case k1 => omega); (case k2 => omega); (intro _ _ _ _ _))
  | ((with_reducible refine' r_kTupI ?k0 ?_); (case k0 => walk_at "tk"); (intro _ _ _ _ _))
  | ((with_reducible refine' r_listI ?k0 ?_); (case k0 => walk_at "it"); (intro _ _ _ _ _))
  | (with_reducible refine r_revU ?_)
  | ((with_reducible refine' r_prevN ?k0 ?_); (case k0 => walk_at "it"); (intro _ _ _ _ _ _))
  | (intro _ _ _ _ _))
local macro_rules | `(tactic| walk_at "go") => `(tactic| ((repeat (walk_at "au1")); (first
  | ((with_reducible refine r_ite (fun _ => ?_) (fun _ => ?_)) <;> (walk_at "go"))
  | ((with_reducible refine r_iteN (fun _ => ?_) (fun _ => ?_)) <;> (walk_at "go"))
  | dsimp only
  | skip)))
theorem LRt.at {H : Hp} {l : Addr} {ps : List (Addr × List Int)} {i : Nat} {q : Addr × List Int} (h : ps[i]? = some q) : (ps.map fun q => V.ref q.1)[i]? = some (.ref q.1) := by
  rw [List.getElem?_map, h]; rfl
theorem rws_at {ps : List (Addr × List Int)} {i : Nat} {q : Addr × List Int} (h : ps[i]? = some q) : (rws ps)[i]? = some q.2 := by
  show (ps.map _)[i]? = _
  rw [List.getElem?_map, h]; rfl
theorem at_of {α : Type} {xs : List α} {i : Nat} (h : i < xs.length) : ∃ x, xs[i]? = some x := ⟨xs[i], List.getElem?_eq_getElem h⟩
theorem at_app {α : Type} {xs ys : List α} {i : Nat} {x : α} (h : xs[i]? = some x) : (xs ++ ys)[i]? = some x := by
  have := (List.getElem?_eq_some_iff.mp h).1
  rw [List.getElem?_append_left this]; exact h
section
variable {K : PySem.W.Frag} {ec : Str → Addr} {ns : List Str} {vs : List V} {H : Hp} {Q : VK} {E : XK}
theorem pure_products_of (XS : Exs K ec ns) (h : sp_products_of K ec vs H Q E) : t_products_of K ec E (En Q) (start N_products_of vs) H := by
  obtain ⟨n, l, ms, k, rfl, n1, n2, hl, hr, k1, k2, q, qE⟩ := h
  unfold t_products_of
  walk_at "rd"
  refine ⟨n, rfl, fun _ p1 H1 np1 s1 e1 => ?_, fun z => (z ⟨by omega, by omega⟩).elim⟩
  rw [Int.toNat_natCast] at e1
  walk_at "rd"
  intro f H2 nf s2 e2
  walk_at "rd"
  refine r_dispT fun d H3 nd s3 e3 => ?_
  walk_at "rd"
  have e1' := s3 _ _ (s2 _ _ e1)
  have e2' := s3 _ _ e2
  refine r_pdt e3 e1' fun H4 b4 d4 => ?_
  walk_at "rd"
  have s12 : Same H H2 := s1.trans s2
  have nf0 : H f = none := s1.free nf
  have nd0 : H d = none := s12.free nd
  have s4 : Same H H4 := same_but (s12.trans s3) b4 nd0
  have e14 := b4 _ _ (ne_of e1' e3 (by intro z; cases z)) e1'
  have e24 := b4 _ _ (ne_of e2' e3 (by intro z; cases z)) e2'
  have hlf : l ≠ f := ne_of_none hl.1 nf0
  refine r_while (fun m σ' H' => ∃ (qs : List (Addr × List Int)) (i : Nat) (z6 z7 : Option V), σ' = [some (.int (n : Int)), some (.ref l), some (.int (k : Int)), some (.ref f), some (.ref d), some (.int (i : Int)), z6, z7] ∧ Same H H' ∧ LRt H' f qs ∧ DR H' d (rws qs) ∧ (rws qs).Nodup ∧ roundsR n ∈ rws qs ∧ (∀ x ∈ rws qs, Gn n (rws ms) x) ∧ (∀ j x, j < i → (rws qs)[j]? = some x → ∀ m ∈ rws ms, mulR x m ∈ rws qs) ∧ i ≤ qs.length ∧ qs.length ≤ k ∧ m = k - i) k
    ⟨[(p1, roundsR n)], 0, none, none, rfl, s4, ⟨e24, fun w hw => by rw [List.mem_singleton] at hw; subst hw; exact e14⟩, d4, by simp, by simp, fun x hx => by (have : x = roundsR n := by simpa using hx); subst this; exact .one, fun j x hj => absurd hj (Nat.not_lt_zero j), by simp, by simpa using k1, by simp⟩ (fun m σ' H' hW => ?_)
  obtain ⟨qs, i, z6, z7, rfl, s5, f5, d5, nd5, r5, g5, c5, i5, k5, rfl⟩ := hW
  have ef5 := f5.1
  walk_at "rd"
  rw [List.length_map]
  refine r_ite (fun hlt => ?_) (fun hge => ?_)
  · have hi : i < qs.length := by omega
    obtain ⟨q0, hq0⟩ := at_of hi
    have gq0 : Gn n (rws ms) q0.2 := g5 _ (List.mem_map.mpr ⟨q0, List.mem_of_getElem? hq0, rfl⟩)
    have rq0 : IsRow q0.2 n := gq0.row hr
    have el5 := s5 _ _ hl.1
    walk_at "rd"
    refine r_forLst (xs := ms.map fun q => V.ref q.1) (fun j σ' H' => ∃ (rs : List (Addr × List Int)) (z6 z7 : Option V), σ' = [some (.int (n : Int)), some (.ref l), some (.int (k : Int)), some (.ref f), some (.ref d), some (.int (i : Int)), z6, z7] ∧ Same H H' ∧ LRt H' f (qs ++ rs) ∧ DR H' d (rws (qs ++ rs)) ∧ (rws (qs ++ rs)).Nodup ∧ (∀ x ∈ rws (qs ++ rs), Gn n (rws ms) x) ∧ (qs ++ rs).length ≤ k ∧ ∀ m ∈ (rws ms).take j, mulR q0.2 m ∈ rws (qs ++ rs))
      ⟨[], z6, z7, rfl, s5, by rw [List.append_nil]; exact f5, by rw [List.append_nil]; exact d5, by rw [List.append_nil]; exact nd5, by rw [List.append_nil]; exact g5, by rw [List.append_nil]; exact k5, fun m hm => by simp at hm⟩ (fun j σ' H' _ hW => ?_) (fun j x σ' H' hj hW => ?_) (fun σ' H' hW => ?_)
    · obtain ⟨rs, z6, z7, rfl, s6, _⟩ := hW
      exact sqL_of (s6 _ _ hl.1)
    · obtain ⟨rs, z6, z7, rfl, s6, f6, d6, nd6, g6, k6, c6⟩ := hW
      rw [List.getElem?_map] at hj
      obtain ⟨mv, hmv, rfl⟩ := Option.map_eq_some_iff.mp hj
      have mmem : mv.2 ∈ rws ms := List.mem_map.mpr ⟨mv, List.mem_of_getElem? hmv, rfl⟩
      have emv := s6 _ _ (hl.2 mv (List.mem_of_getElem? hmv))
      have hq6 := at_app (ys := rs) hq0
      have eq0 := f6.2 q0 (List.mem_of_getElem? hq6)
      have ef6 := f6.1
      have hat := atI_nat (LRt.at (H := H) (l := f) hq6)
      walk_at "rd"
      refine ⟨q0.1, mv.1, q0.2, mv.2, n, rfl, sqT_of eq0, sqT_of emv, hr _ mmem, n2, fun _ p H7 np s7 e7 => ?_, fun z => absurd rq0.1 z, .inl rq0⟩
      have f7 := f6.same s7
      have d7 := DR.same s7 d6
      have ef7 := f7.1
      have gnew : Gn n (rws ms) (mulR q0.2 mv.2) := .step gq0 mmem
      walk_at "rd"
      refine r_drNo d7 e7 ?_
      walk_at "rd"
      by_cases hin : mulR q0.2 mv.2 ∈ rws (qs ++ rs)
      · refine r_iteNP hin ?_
        walk_at "rd"
        refine ⟨rs, _, _, rfl, s6.trans s7, f7, d7, nd6, g6, k6, fun w hw => ?_⟩
        rw [List.take_add_one, rws_at hmv, List.mem_append] at hw
        rcases hw with hw | hw
        · exact c6 w hw
        · have : w = mv.2 := by simpa using hw
          subst this; exact hin
      · refine r_iteNM hin ?_
        have nd8 : (rws (qs ++ rs) ++ [mulR q0.2 mv.2]).Nodup := by
          rw [List.nodup_append]
          refine ⟨nd6, by simp, fun a ha b hb z => hin ?_⟩
          rw [List.mem_singleton] at hb
          rw [← hb, ← z]; exact ha
        have g8 : ∀ x ∈ rws (qs ++ rs) ++ [mulR q0.2 mv.2], Gn n (rws ms) x := fun x hx => by
          rcases List.mem_append.mp hx with hx | hx
          · exact g6 x hx
          · rw [List.mem_singleton] at hx; subst hx; exact gnew
        walk_at "rd"
        rw [List.length_map]
        refine r_ite (fun heq => ?_) (fun hne => ?_)
        · refine r_raise1 ?_
          walk_at "rd"
          refine r_prz1 fun d' H8 s8 nd' e8 => ?_
          refine (qE ⟨_, nd8, g8, ?_⟩).same (s6.trans s7) d' H8 s8 nd' e8
          have : (rws (qs ++ rs)).length = (qs ++ rs).length := List.length_map _
          rw [List.length_append, this]
          simp only [List.length_cons, List.length_nil]
          omega
        · have hlk : (qs ++ rs).length < k := by omega
          walk_at "rd"
          have hlen : (rws (qs ++ rs)).length = (qs ++ rs).length := List.length_map _
          refine r_drPut d7 e7 (by rw [hlen, sizeLine_eq]; omega) fun H8 b8 d8 => ?_
          obtain ⟨kvs, ed7, _⟩ := d7
          have f8 := f7.butT b8 ed7
          have e8 := b8 _ _ (ne_of e7 ed7 (by intro z; cases z)) e7
          have ef8 := f8.1
          walk_at "rd"
          intro H9 b9 e9
          have d9 := DR.butL b9 ef8 d8
          have f9 := f8.push b9 e8 e9
          walk_at "rd"
          refine ⟨rs ++ [(p, mulR q0.2 mv.2)], _, _, rfl, same_but (same_but (s6.trans s7) b8 nd0) b9 nf0, ?_, ?_, ?_, ?_, ?_, fun w hw => ?_⟩
          · rw [← List.append_assoc]; exact f9
          · rw [← List.append_assoc]; unfold rws; rw [List.map_append]; exact d9
          · rw [← List.append_assoc]; unfold rws; rw [List.map_append]; exact nd8
          · rw [← List.append_assoc]; unfold rws; rw [List.map_append]; exact g8
          · rw [← List.append_assoc, List.length_append]; simp only [List.length_cons, List.length_nil]; omega
          · rw [← List.append_assoc]; unfold rws; rw [List.map_append, List.mem_append]
            rw [List.take_add_one, rws_at hmv, List.mem_append] at hw
            rcases hw with hw | hw
            · exact .inl (c6 w hw)
            · have : w = mv.2 := by simpa using hw
              subst this; exact .inr (by simp)
    · obtain ⟨rs, z6, z7, rfl, s6, f6, d6, nd6, g6, k6, c6⟩ := hW
      walk_at "rd"
      have e : (i : Int) + 1 = ((i + 1 : Nat) : Int) := by omega
      rw [e]
      have sub : ∀ x, x ∈ rws qs → x ∈ rws (qs ++ rs) := fun x hx => by unfold rws; rw [List.map_append]; exact List.mem_append_left _ hx
      have hlen : (ms.map fun q => V.ref q.1).length = (rws ms).length := by rw [List.length_map]; exact (List.length_map _).symm
      rw [hlen, List.take_length] at c6
      have hik : qs.length ≤ (qs ++ rs).length := by rw [List.length_append]; omega
      refine ⟨k - (i + 1), by omega, qs ++ rs, i + 1, _, _, rfl, s6, f6, d6, nd6, sub _ r5, g6, fun j x hj hx m hm => ?_, by omega, k6, rfl⟩
      by_cases hji : j = i
      · subst hji
        have := rws_at (at_app (ys := rs) hq0)
        rw [this] at hx
        cases hx
        exact c6 m hm
      · have hjq : j < qs.length := by omega
        obtain ⟨w, hw⟩ := at_of hjq
        rw [rws_at (at_app (ys := rs) hw)] at hx
        cases hx
        exact sub _ (c5 j w.2 (by omega) (rws_at hw) m hm)
  · walk_at "rd"
    refine q f H' qs nf0 s5 f5 (whole_right nd5 r5 g5 fun x hx m hm => ?_) k5
    obtain ⟨j, hj, e⟩ := List.getElem_of_mem hx
    have hjq : j < qs.length := by
      have : (rws qs).length = qs.length := List.length_map _
      omega
    exact c5 j x (by omega) (by rw [List.getElem?_eq_getElem hj, e]) m hm
end
end K5
end Kb
set_option Elab.async false
set_option linter.all false
set_option maxRecDepth 100000
set_option maxHeartbeats 4000000
namespace Kb
namespace K5
open PySem PySem.Spec PyProof.Rows L2
local macro_rules | `(tactic| walk_at "tk") => `(tactic| first
  | assumption
  | ((with_reducible refine' sqT_of ?k); (case k => assumption))
  | ((with_reducible refine' sqT_ofD ?k); (case k => assumption))
  | ((with_reducible refine' noD_of ?k); (case k => assumption))
  | ((with_reducible refine' noD_same ?s ?k); (case s => assumption); (case k => walk_at "tk"))
  | ((with_reducible refine' sqL_of ?k); (case k => assumption))
  | ((with_reducible refine' sqT_same ?s ?k); (case s => assumption); (case k => walk_at "tk"))
  | ((with_reducible refine' sqL_same ?s ?k); (case s => assumption); (case k => walk_at "tk"))
  | ((with_reducible refine' sqT_but ?s ?t ?k); (case s => assumption); (case t => walk_at "tk"); (case k => walk_at "tk"))
  | ((with_reducible refine' sqL_but ?s ?t ?k); (case s => assumption); (case t => walk_at "ne"); (case k => walk_at "tk"))
  | ((with_reducible refine' sqL_of ?k); (case k => walk_at "tk"))
  | ((with_reducible refine' sqT_of ?k); (case k => walk_at "tk"))
  | ((with_reducible refine' at_same ?s ?k); (case s => assumption); (case k => walk_at "tk"))
  | ((with_reducible refine' at_but ?s ?t ?k); (case s => assumption); (case t => walk_at "ne"); (case k => walk_at "tk")))
local macro_rules | `(tactic| walk_at "ne") => `(tactic| first
  | assumption
  | (refine Ne.symm ?_; assumption)
  | exact ne_of_none (by assumption) (by assumption)
  | exact (ne_of_none (by assumption) (by assumption)).symm)
local macro_rules | `(tactic| walk_at "side") => `(tactic| first
  | assumption
  | omega
  | (simp only [sizeLine_eq, List.length_cons, List.length_nil, List.length_map]; omega)
  | (show _ ≤ sizeLine; decide))
local macro_rules | `(tactic| walk_at "kit") => `(tactic| first
  | (show kitB _ _ = some true; decide +kernel)
  | (show kitB _ _ = some false; decide +kernel))
local macro_rules | `(tactic| walk_at "rng") => `(tactic| first
  | (refine ⟨by omega, by omega, by omega, by omega⟩)
  | (refine ⟨by omega, by omega⟩)
  | ((simp only [List.length_map]); (refine ⟨by omega, by omega, by omega, by omega⟩))
  | ((simp only [List.length_map]); (refine ⟨by omega, by omega⟩)))
local macro_rules | `(tactic| walk_at "rd1") => `(tactic| first
  | with_reducible refine r_seq ?_
  | ((with_reducible refine' r_var ?k0 ?_); (case k0 => rfl))
  | with_reducible refine r_op ?_
  | with_reducible refine r_c ?_
  | with_reducible refine r_asg ?_
  | with_reducible refine r_name ?_
  | with_reducible refine r_cons ?_
  | with_reducible refine r_nil ?_
  | with_reducible refine r_CB ?_
  | with_reducible refine r_if ?_
  | with_reducible refine r_test ?_
  | with_reducible refine r_k ?_
  | with_reducible refine r_T ?_
  | with_reducible refine r_F ?_
  | with_reducible refine r_nT ?_
  | with_reducible refine r_nF ?_
  | with_reducible refine r_ret ?_
  | with_reducible refine r_drop ?_
  | with_reducible refine r_next ?_
  | with_reducible refine r_call ?_
  | with_reducible refine r_addI ?_
  | with_reducible refine r_subI ?_
  | with_reducible refine r_ltI ?_
  | with_reducible refine r_gtI ?_
  | with_reducible refine r_leI ?_
  | with_reducible refine r_geI ?_
  | with_reducible refine r_eqI ?_
  | with_reducible refine r_neI ?_
  | with_reducible refine r_int ?_
  | with_reducible refine r_abs ?_
  | with_reducible refine r_not ?_
  | with_reducible refine r_and ?_
  | with_reducible refine r_or ?_
  | with_reducible refine r_tru ?_
  | with_reducible refine r_truB ?_
  | with_reducible refine r_lst ?_
  | with_reducible refine r_tup ?_
  | with_reducible refine r_BM ?_
  | with_reducible refine r_BM0 ?_
  | with_reducible refine r_tyS ?_
  | with_reducible refine r_gsub ?_
  | with_reducible refine r_then ?_
  | with_reducible refine r_lstRg ?_
  | with_reducible refine r_tupRg ?_
  | with_reducible refine r_rg2 ?_
  | with_reducible refine r_rg1 ?_
  | with_reducible refine r_ii ?_
  | with_reducible refine r_i ?_
  | with_reducible refine r_ipI ?_
  | with_reducible refine r_un ?_
  | with_reducible refine r_neg ?_
  | with_reducible refine r_isN ?_
  | with_reducible refine r_notN ?_
  | with_reducible refine r_notV ?_
  | with_reducible refine r_pnot ?_
  | with_reducible refine r_pif ?_
  | with_reducible refine r_andV ?_
  | with_reducible refine r_orV ?_
  | with_reducible refine r_ifE ?_
  | with_reducible refine r_chain ?_
  | with_reducible refine r_sl ?_
  | with_reducible refine r_noPart ?_
  | with_reducible refine r_part ?_
  | with_reducible refine r_brk ?_
  | with_reducible refine r_cont ?_
  | with_reducible refine r_retN ?_
  | with_reducible refine r_truI ?_
  | with_reducible refine r_B ?_
  | with_reducible refine r_for ?_
  | with_reducible refine r_rng1 ?_
  | with_reducible refine r_rng2 ?_
  | with_reducible refine r_rng3 ?_
  | with_reducible refine r_body ?_
  | with_reducible refine r_lc ?_
  | with_reducible refine r_yes ?_
  | ((with_reducible refine' r_mod ?k0 ?_); (case k0 => walk_at "side"))
  | ((with_reducible refine' r_mulI ?k0 ?_); (case k0 => first | exact Or.inl ⟨by omega, by omega⟩ | exact Or.inr ⟨by omega, by omega⟩))
  | ((with_reducible refine' r_lenL ?k0 ?_); (case k0 => walk_at "tk"))
  | ((with_reducible refine' r_lenT ?k0 ?_); (case k0 => walk_at "tk"))
  | ((with_reducible refine' r_truL ?k0 ?_); (case k0 => walk_at "tk"))
  | ((with_reducible refine' r_truT ?k0 ?_); (case k0 => walk_at "tk"))
  | ((with_reducible refine' r_ixL ?k0 ?k1 ?_); (case k0 => walk_at "tk"); (case k1 => first | assumption | rfl))
  | ((with_reducible refine' r_ixT ?k0 ?k1 ?_); (case k0 => walk_at "tk"); (case k1 => first | assumption | rfl))
  | ((with_reducible refine' r_new ?k0 ?_); (case k0 => walk_at "side"))
  | ((with_reducible refine' r_tyL ?k0 ?_); (case k0 => walk_at "tk"))
  | ((with_reducible refine' r_append ?k0 ?k1 ?_); (case k0 => walk_at "tk"); (case k1 => walk_at "side"))
  | ((with_reducible refine' r_setL ?k0 ?k1 ?_); (case k0 => walk_at "tk"); (case k1 => first | assumption | rfl))
  | ((with_reducible refine' r_kTupL ?k0 ?_); (case k0 => walk_at "tk"))
  | ((with_reducible refine' r_kTupT ?k0 ?_); (case k0 => walk_at "tk"))
  | ((with_reducible refine' r_listL ?k0 ?_); (case k0 => walk_at "tk"))
  | ((with_reducible refine' r_listT ?k0 ?_); (case k0 => walk_at "tk"))
  | ((with_reducible refine' r_aug ?k0 ?_); (case k0 => rfl))
  | ((with_reducible refine' r_lenS ?k0 ?_); (case k0 => walk_at "side"))
  | ((with_reducible refine' r_pop ?k0 ?_); (case k0 => walk_at "tk"))
  | ((with_reducible refine' r_pr1 ?k0 ?_); (case k0 => walk_at "rng"))
  | ((with_reducible refine' r_pr2 ?k0 ?_); (case k0 => walk_at "rng"))
  | ((with_reducible refine' r_pr3d ?k0 ?_); (case k0 => walk_at "rng"))
  | ((with_reducible refine' r_isiI ?k0 ?_); (case k0 => walk_at "kit"))
  | ((with_reducible refine' r_isiB ?k0 ?_); (case k0 => walk_at "kit"))
  | ((with_reducible refine' r_isiS ?k0 ?_); (case k0 => walk_at "kit"))
  | ((with_reducible refine' r_isiN ?k0 ?_); (case k0 => walk_at "kit"))
  | ((with_reducible refine' r_isiT ?k0 ?k1 ?_); (case k0 => walk_at "tk"); (case k1 => walk_at "kit"))
  | ((with_reducible refine r_seqT ?_); (repeat (walk_at "rd1")); ((with_reducible refine' r_pseqT ?k0 ?_); (case k0 => walk_at "tk")))
  | ((with_reducible refine r_seqL ?_); (repeat (walk_at "rd1")); ((with_reducible refine' r_pseqL ?k0 ?_); (case k0 => walk_at "tk")))
  | ((with_reducible refine r_seqS ?_); (repeat (walk_at "rd1")); (with_reducible refine r_pseqS ?_)))
local macro_rules | `(tactic| walk_at "rd") => `(tactic| ((repeat (walk_at "rd1")); (try dsimp only)))
local macro_rules | `(tactic| walk_at "rd1") => `(tactic| first
  | with_reducible refine r_BMT ?_
  | with_reducible refine r_par ?_
  | with_reducible refine r_parV ?_
  | ((with_reducible refine' r_ptp ?k0 ?k1 ?_); (case k0 => walk_at "tk"); (case k1 => walk_at "tk"))
  | with_reducible refine r_eqS ?_
  | with_reducible refine r_neS ?_
  | with_reducible refine r_callW ?_
  | with_reducible refine r_try ?_
  | with_reducible refine r_enT ?_
  | ((with_reducible refine' r_pen ?k0 ?_); (case k0 => walk_at "tk")))
local macro_rules | `(tactic| walk_at "rd1") => `(tactic| first
  | with_reducible refine r_dIn ?_
  | with_reducible refine r_dNo ?_
  | with_reducible refine r_dPut ?_
  | with_reducible refine r_dGet ?_)
local macro_rules | `(tactic| walk_at "pl0") => `(tactic| first
  | assumption
  | exact pl_same (by assumption) (by assumption)
  | exact pl_same (by assumption) (pl_same (by assumption) (by assumption))
  | exact pl_same (by assumption) (pl_same (by assumption) (pl_same (by assumption) (by assumption))))
local macro_rules | `(tactic| walk_at "pl") => `(tactic| first
  | walk_at "pl0"
  | ((with_reducible refine' pl_butL ?s ?n ?k); (case s => assumption); (case n => walk_at "ne"); (case k => walk_at "pl"))
  | ((with_reducible refine' pl_same ?s ?k); (case s => assumption); (case k => walk_at "pl")))
local macro_rules | `(tactic| walk_at "ne") => `(tactic| first
  | exact ne_pl (by assumption) (by walk_at "pl0")
  | exact (ne_pl (by assumption) (by walk_at "pl0")).symm)
local macro_rules | `(tactic| walk_at "fr") => `(tactic| first
  | assumption
  | ((with_reducible refine' free_but ?b ?n ?h); (case h => assumption); (case n => walk_at "ne"); (case b => walk_at "but"))
  | ((with_reducible refine' Same.free ?b ?h); (case h => assumption); (case b => walk_at "same")))
local macro_rules | `(tactic| walk_at "but") => `(tactic| first
  | assumption
  | exact But.refl
  | ((with_reducible refine' But.trans ?a ?b); (case b => assumption); (case a => walk_at "but"))
  | ((with_reducible refine' But.trans ?a (Same.but ?b)); (case b => assumption); (case a => walk_at "but"))
  | ((with_reducible refine' but_via ?a ?b ?c); (case b => assumption); (case c => walk_at "fr"); (case a => walk_at "but")))
local macro_rules | `(tactic| walk_at "same") => `(tactic| first
  | assumption
  | exact Same.refl _
  | ((with_reducible refine' Same.trans ?a ?b); (case b => assumption); (case a => walk_at "same"))
  | ((with_reducible refine' same_but ?a ?b ?c); (case b => assumption); (case c => walk_at "fr"); (case a => walk_at "same")))
local macro_rules | `(tactic| walk_at "tk") => `(tactic| first
  | ((with_reducible refine' sqT_pl ?s ?t ?k); (case s => assumption); (case t => walk_at "pl0"); (case k => walk_at "tk"))
  | ((with_reducible refine' rp_same ?s ?k); (case s => assumption); (case k => walk_at "tk"))
  | ((with_reducible refine' rp_pl ?s ?t ?k); (case s => assumption); (case t => walk_at "pl0"); (case k => walk_at "tk")))
local macro_rules | `(tactic| walk_at "it") => `(tactic| first
  | assumption
  | ((with_reducible refine' sqI_1 ?k); (case k => assumption))
  | ((with_reducible refine' sqI_0 ?k); (case k => assumption))
  | ((with_reducible refine' sqI_of ?k); (case k => assumption))
  | ((with_reducible refine' sqI_D ?k); (case k => assumption))
  | ((with_reducible refine' sqT_same ?s ?k); (case s => assumption); (case k => walk_at "it"))
  | ((with_reducible refine' sqT_but ?s ?t ?k); (case s => assumption); (case t => assumption); (case k => walk_at "it"))
  | ((with_reducible refine' sqT_pl ?s ?t ?k); (case s => assumption); (case t => walk_at "pl0"); (case k => walk_at "it")))
local macro_rules | `(tactic| walk_at "sz") => `(tactic| first | omega | ((try simp only [List.length_cons, List.length_nil] at *); omega))
local macro_rules | `(tactic| walk_at "au1") => `(tactic| first
  | walk_at "rd1"
  | ((with_reducible refine' r_draw ?k0 ?k1 ?k2 ?_); (case k0 => walk_at "pl"); (case k1 => omega); (case k2 => omega); (intro _ _ _ _ _ _))
  | ((with_reducible refine' r_slN ?k0 ?_); (case k0 => walk_at "it"); (intro _ _ _ _ _ _))
  | ((with_reducible refine' r_catN ?k0 ?k1 ?k2 ?_); (case k0 => walk_at "it"); (case k1 => walk_at "it"); (case k2 => walk_at "sz"); (intro _ _ _ _ _ _))
  | ((with_reducible refine' r_pow ?k0 ?_); (case k0 => exact ⟨by decide, by decide, by decide⟩))
  | ((with_reducible refine' r_ixI ?k0 ?k1 ?k2 ?_); (case k0 => walk_at "it"); (case k1 => omega); (case k2 => omega); (intro _ _))
  | ((with_reducible refine' r_setI ?k0 ?k1 ?k2 ?_); (case k0 => walk_at "tk"); (case k1 => omega); (case k2 => omega); (intro _ _ _ _ _))
  | ((with_reducible refine' r_kTupI ?k0 ?_); (case k0 => walk_at "tk"); (intro _ _ _ _ _))
  | ((with_reducible refine' r_listI ?k0 ?_); (case k0 => walk_at "it"); (intro _ _ _ _ _))
  | (with_reducible refine r_revU ?_)
  | ((with_reducible refine' r_prevN ?k0 ?_); (case k0 => walk_at "it"); (intro _ _ _ _ _ _))
  | (intro _ _ _ _ _))
local macro_rules | `(tactic| walk_at "go") => `(tactic| ((repeat (walk_at "au1")); (first
  | ((with_reducible refine r_ite (fun _ => ?_) (fun _ => ?_)) <;> (walk_at "go"))
  | ((with_reducible refine r_iteN (fun _ => ?_) (fun _ => ?_)) <;> (walk_at "go"))
  | dsimp only
  | skip)))
section
variable {K : PySem.W.Frag} {H : Hp} {Q : VK} {a b l : Addr}
def dR (r : List Int) : PyData := .tuple (r.map .int)
theorem dp_rows : ∀ {qs : List (Addr × List Int)}, (∀ q ∈ qs, SqT K H q.1 (q.2.map V.int)) → DpAll K H (qs.map fun q => V.ref q.1) (qs.map fun q => dR q.2)
  | [], _ => .nil
  | q :: qs, h => .cons (.tup (h q (by simp)) (dpAll_ints q.2)) (dp_rows fun w hw => h w (by simp [hw]))
theorem eqv_rows (r : List Int) : ∀ qs : List (Addr × List Int), (qs.map fun q => dR q.2).any (fun z => PyData.eqv z (dR r)) = decide (r ∈ rws qs)
  | [] => by simp
  | q :: qs => by
    have e : PyData.eqv (dR q.2) (dR r) = decide (q.2 = r) := by
      show PyData.eqvAll _ _ = _
      exact eqvAll_ints _ _
    rw [List.map_cons, List.any_cons, eqv_rows r qs, e]
    by_cases h : q.2 = r
    · subst h; simp
    · have h' : r ≠ q.2 := fun z => h z.symm
      simp [h, h']
theorem lay_rows : ∀ qs : List (Addr × List Int), PyData.canLayAll0 (qs.map fun q => dR q.2) = true
  | [] => rfl
  | q :: qs => by
    rw [List.map_cons, PyData.canLayAll0, lay_rows qs]
    simp [dR, PyData.canLay0, PySem.W.ke_canLayAll0]
theorem dep_rows : ∀ qs : List (Addr × List Int), PyData.depthAll (qs.map fun q => dR q.2) ≤ 1
  | [] => Nat.zero_le _
  | q :: qs => by
    rw [List.map_cons, PyData.depthAll]
    have := dep_rows qs
    have e : (dR q.2).depth = 1 := by simp [dR, PyData.depth, PySem.W.ke_depthAll]
    omega
theorem shaped_rows (qs : List (Addr × List Int)) : SeqAt.shaped (.list (qs.map fun q => dR q.2)) = true := by
  have := dep_rows qs
  exact Bool.and_eq_true_iff.mpr ⟨by rw [PyData.canLay0]; exact lay_rows qs, decide_eq_true (by rw [PyData.depth]; omega)⟩
theorem r_notInR {x : Addr} {r : List Int} {qs : List (Addr × List Int)} (h : LRt H l qs) (hx : SqT K H x (r.map V.int)) (q : Q (.bl (!decide (r ∈ rws qs))) H) : rNotInD K (.ref x) (.ref l) H Q :=
  ⟨dR r, qs.map fun q => dR q.2, .tup hx (dpAll_ints r), .lst (sqL_of h.1) (dp_rows fun w hw => sqT_of (h.2 w hw)), shaped_ints r, shaped_rows qs, by rw [eqv_rows]; exact q⟩
theorem r_sortRows {qs : List (Addr × List Int)} (h : LRt H l qs) (hne : ∀ q ∈ qs, q.2 ≠ [])
    (k : ∀ p H' qs', H p = none → Same H H' → LRt H' p qs' → qs'.Perm qs → (rws qs').Pairwise (· ≤ ·) → Q (.ref p) H') : rSortRows K [.ref l] H Q := by
  refine ⟨l, qs.map fun q => ((V.ref q.1, q.2) : VR), rfl, ?_, fun w hw => ?_, fun p hp => ?_⟩
  · rw [List.map_map]; exact sqL_of h.1
  · obtain ⟨q, hq, rfl⟩ := List.mem_map.mp hw
    exact ⟨q.1, rfl, sqT_of (h.2 q hq), hne q hq⟩
  · have e : (qs.map fun q => ((V.ref q.1, q.2) : VR)).mergeSort rowLe = (qs.mergeSort fun a b => decide (a.2 ≤ b.2)).map fun q => ((V.ref q.1, q.2) : VR) := (List.map_mergeSort (f := fun q : Addr × List Int => ((V.ref q.1, q.2) : VR)) (r := fun a b => decide (a.2 ≤ b.2)) (s := rowLe) (l := qs) fun a _ b _ => rfl).symm
    rw [e, List.map_map]
    have pm : (qs.mergeSort fun a b => decide (a.2 ≤ b.2)).Perm qs := List.mergeSort_perm _ _
    refine k p _ (qs.mergeSort fun a b => decide (a.2 ≤ b.2)) hp (same_new hp) ⟨upd_same, fun w hw => ?_⟩ pm ?_
    · exact same_new hp _ _ (h.2 w (pm.mem_iff.mp hw))
    · have := List.pairwise_mergeSort (le := fun (a b : Addr × List Int) => decide (a.2 ≤ b.2)) (fun a b c h1 h2 => decide_eq_true (List.le_trans (of_decide_eq_true h1) (of_decide_eq_true h2))) (fun a b => by
        rcases List.le_total a.2 b.2 with h | h
        · simp [h]
        · simp [h]) qs
      show List.Pairwise _ (List.map _ _)
      rw [List.pairwise_map]
      exact this.imp fun h => of_decide_eq_true h
end
theorem sort_eq {a b : List (List Int)} (p : a.Perm b) (ha : a.Pairwise (· ≤ ·)) (hb : b.Pairwise (· ≤ ·)) : a = b :=
  List.Perm.eq_of_pairwise (le := (· ≤ ·)) (fun x y _ _ h1 h2 => List.le_antisymm h1 h2) ha hb p
/-- the whole closure in order -/
def Clo (n : Nat) (M L : List (List Int)) : Prop := Whole n M L ∧ L.Pairwise (· ≤ ·)
theorem Clo.eq {n : Nat} {M L L' : List (List Int)} (h : Clo n M L) (h' : Clo n M L') : L = L' := sort_eq (h.1.perm h'.1) h.2 h'.2
theorem Whole.permL {n : Nat} {M L L' : List (List Int)} (h : Whole n M L) (p : L'.Perm L) : Whole n M L' := ⟨p.nodup_iff.mpr h.1, fun x => by rw [p.mem_iff]; exact h.2 x⟩
theorem rows_ne {n : Nat} {M L : List (List Int)} (n1 : 1 ≤ n) (hM : ∀ m ∈ M, IsRow m n) (h : Whole n M L) {x : List Int} (hx : x ∈ L) : x ≠ [] := fun z => by
  have := ((h.2 x).mp hx).row hM
  rw [z] at this
  have := this.1
  simp at this
  omega
def sp_closure (K : PySem.W.Frag) (ec : Str → Addr) : Sp := fun vs H Q E => ∃ (s : Int) (b : Addr) (ps : List (Addr × List Int)) (k : Nat), vs = [.int s, .ref b, .int (k : Int)] ∧ SqT K H b (ps.map fun q => V.ref q.1) ∧ (∀ q ∈ ps, H q.1 = some (.tup (q.2.map V.int))) ∧ 1 ≤ k ∧ k ≤ 100000 ∧ ps.length ≤ 1000000 ∧
  (¬ (1 ≤ s ∧ s ≤ 12) → noStage ec H E) ∧ ((1 ≤ s ∧ s ≤ 12) → ¬ (∀ q ∈ ps, (q.2.length : Int) = s) → noUnlike ec H E) ∧
  (∀ n : Nat, s = (n : Int) → 1 ≤ n → n ≤ 12 → (∀ q ∈ ps, q.2.length = n) → (∀ r ∈ rws ps, IsRow r n) ∧
    (∀ p H' qs, H p = none → Same H H' → H' p = some (.tup (qs.map fun q => V.ref q.1)) → (∀ q ∈ qs, H' q.1 = some (.tup (q.2.map V.int))) → Clo n (rws ps) (rws qs) → qs.length ≤ k → Q (.ref p) H') ∧
    (More n (rws ps) k → noHeads ec k H E))
abbrev N_closure : List Str := ["stage", "rows", "most", "movers", "found", "row"]
def t_closure (K : PySem.W.Frag) (ec : Str → Addr) (E : XK) : TS :=
  tSeq (tDrop ((tCallW (sp_check_stage K ec) (fun cls d _ H => E cls d H) (tCons (tVar 0) tNil))))
  (tSeq (tDrop ((tCallW (sp_check_stages K ec) (fun cls d _ H => E cls d H) (tCons (tVar 0) (tCons (tVar 1) tNil)))))
  (tSeq (tAsg ((tLst tNil)) (gName 3))
  (tSeq (tAsg ((tCallW (sp_products_of K ec) (fun cls d _ H => E cls d H) (tCons (tVar 0) (tCons (tVar 3) (tCons (tVar 2) tNil))))) (gName 4))
  (tSeq (tFor (iSeqU K (tVar 1)) (gName 5) ((tIfS ((tTest (tOp (rNotInD K) (tVar 5) (tVar 4)))) (tSeq (tDrop ((tBM K "list" rAppend (tVar 3) (tCons (tVar 5) tNil))))
  ((tAsg ((tCallW (sp_products_of K ec) (fun cls d _ H => E cls d H) (tCons (tVar 0) (tCons (tVar 3) (tCons (tVar 2) tNil))))) (gName 4)))) (tNext))))
  ((tRet ((tThen ((tCB (rSortRows K) (tCons (tVar 4) tNil))) (kTupP K)))))))))
section
variable {K : PySem.W.Frag} {ec : Str → Addr} {ns : List Str} {vs : List V} {H : Hp} {Q : VK} {E : XK}
theorem len_closure (h : sp_closure K ec vs H Q E) : vs.length = 3 := by obtain ⟨s, b, ps, k, rfl, _⟩ := h; rfl
theorem pure_closure (XS : Exs K ec ns) (h : sp_closure K ec vs H Q E) : t_closure K ec E (En Q) (start N_closure vs) H := by
  obtain ⟨s, b, ps, k, rfl, hb, hp, k1, k2, psz, qS, qU, qn⟩ := h
  unfold t_closure
  walk_at "rd"
  refine ⟨s, rfl, fun hs => ?_, fun hs => qS hs⟩
  walk_at "rd"
  refine ⟨s, b, ps, rfl, hb, fun q hq => sqT_of (hp q hq), fun hu => ?_, fun hu => qU hs hu⟩
  obtain ⟨n, rfl⟩ : ∃ n : Nat, s = (n : Int) := ⟨s.toNat, by omega⟩
  obtain ⟨hR, q, qE⟩ := qn n rfl (by omega) (by omega) fun w hw => by have := hu w hw; omega
  walk_at "rd"
  intro m H1 nm s1 e1
  walk_at "rd"
  have nm0 := nm
  refine ⟨n, m, [], k, rfl, by omega, by omega, ⟨e1, fun w hw => nomatch hw⟩, fun w hw => by simp at hw, k1, k2, fun f H2 qs nf s2 f2 w2 k3 => ?_, fun hm => (qE (hm.mono fun w hw => by simp at hw)).same s1⟩
  have s12 := s1.trans s2
  walk_at "rd"
  refine r_forTup (xs := ps.map fun q => V.ref q.1) (fun j σ' H' => ∃ (f : Addr) (ms qs : List (Addr × List Int)) (z5 : Option V), σ' = [some (.int (n : Int)), some (.ref b), some (.int (k : Int)), some (.ref m), some (.ref f), z5] ∧ Same H H' ∧ LRt H' m ms ∧ LRt H' f qs ∧ f ≠ m ∧ Whole n (rws ms) (rws qs) ∧ qs.length ≤ k ∧ (∀ r ∈ rws ms, r ∈ rws ps) ∧ ms.length ≤ j ∧ ∀ r ∈ (rws ps).take j, r ∈ rws qs)
    ⟨f, [], qs, none, rfl, s12, ⟨s2 _ _ e1, fun w hw => nomatch hw⟩, f2, (fun z => by rw [z] at nf; rw [nf] at e1; cases e1), w2, k3, fun w hw => by simp at hw, Nat.le_refl _, fun w hw => by simp at hw⟩ (fun j σ' H' _ hW => ?_) (fun j x σ' H' hj hW => ?_) (fun σ' H' hW => ?_)
  · obtain ⟨f, ms, qs, z5, rfl, s3, _⟩ := hW
    exact sqT_same s3 hb
  · obtain ⟨f, ms, qs, z5, rfl, s3, m3, f3, ne, w3, k3, sub, mj, al⟩ := hW
    rw [List.getElem?_map] at hj
    obtain ⟨w, hw, rfl⟩ := Option.map_eq_some_iff.mp hj
    have wmem : w.2 ∈ rws ps := List.mem_map.mpr ⟨w, List.mem_of_getElem? hw, rfl⟩
    have ew := s3 _ _ (hp w (List.mem_of_getElem? hw))
    have hjl : j < ps.length := (List.getElem?_eq_some_iff.mp hw).1
    walk_at "rd"
    refine r_notInR f3 (sqT_of ew) ?_
    walk_at "rd"
    by_cases hin : w.2 ∈ rws qs
    · refine r_iteNP hin ?_
      walk_at "rd"
      refine ⟨f, ms, qs, _, rfl, s3, m3, f3, ne, w3, k3, sub, by omega, fun r hr => ?_⟩
      rw [List.take_add_one, rws_at hw, List.mem_append] at hr
      rcases hr with hr | hr
      · exact al r hr
      · have : r = w.2 := by simpa using hr
        subst this; exact hin
    · refine r_iteNM hin ?_
      have em3 := m3.1
      walk_at "rd"
      intro H4 b4 e4
      have m4 := m3.push b4 ew e4
      have sub' : ∀ r ∈ rws (ms ++ [w]), r ∈ rws ps := fun r hr => by
        unfold rws at hr
        rw [List.map_append, List.mem_append] at hr
        rcases hr with hr | hr
        · exact sub r hr
        · have : r = w.2 := by simpa using hr
          subst this; exact wmem
      have s4 := same_but s3 b4 nm0
      walk_at "rd"
      refine ⟨n, m, ms ++ [w], k, rfl, by omega, by omega, m4, fun r hr => hR r (sub' r hr), k1, k2, fun f' H5 qs' nf5 s5 f5 w5 k5 => ?_, fun hm => (qE (hm.mono sub')).same s4⟩
      walk_at "rd"
      refine ⟨f', ms ++ [w], qs', _, rfl, s4.trans s5, m4.same s5, f5, fun z => ?_, w5, k5, sub', by simp; omega, fun r hr => ?_⟩
      · rw [z, e4] at nf5; cases nf5
      · rw [List.take_add_one, rws_at hw, List.mem_append] at hr
        rw [w5.2]
        rcases hr with hr | hr
        · refine ((w3.2 r).mp (al r hr)).mono fun x hx => ?_
          unfold rws; rw [List.map_append]; exact List.mem_append_left _ hx
        · have : r = w.2 := by simpa using hr
          subst this
          refine Gn.gen (fun r hr => hR r (sub' r hr)) ?_
          unfold rws; rw [List.map_append]; exact List.mem_append_right _ (by simp)
  · obtain ⟨f, ms, qs, z5, rfl, s3, m3, f3, ne, w3, k3, sub, mj, al⟩ := hW
    have hlen : (ps.map fun q => V.ref q.1).length = (rws ps).length := by rw [List.length_map]; exact (List.length_map _).symm
    rw [hlen, List.take_length] at al
    have w4 : Whole n (rws ps) (rws qs) := w3.rows hR sub al
    walk_at "rd"
    refine r_sortRows f3 (fun w hw => rows_ne (by omega) hR w4 (List.mem_map.mpr ⟨w, hw, rfl⟩)) fun p H4 qs' np s4 f4 pm so => ?_
    walk_at "rd"
    refine r_kTupP (sqL_of f4.1) fun t H5 nt s5 e5 => ?_
    refine q t H5 qs' (s3.free (s4.free nt)) ((s3.trans s4).trans s5) e5 (fun w hw => s5 _ _ (f4.2 w hw)) ⟨Whole.permL w4 (pm.map _), so⟩ ?_
    rw [pm.length_eq]; exact k3
end
end K5
end Kb
set_option Elab.async false
set_option linter.all false
namespace Kb
namespace K5
theorem asc_lt {L : List (List Int)} (h : L.Pairwise (· ≤ ·)) (nd : L.Nodup) : L.Pairwise (· < ·) := by
  refine (h.and (List.nodup_iff_pairwise_ne.mp nd)).imp fun {a b} z => ?_
  by_cases y : a < b
  · exact y
  · exact absurd (List.le_antisymm z.1 (List.not_lt.mp y)) z.2
/-- the cosets of P, as many as the rows of W up to i want -/
structure CosP (n : Nat) (W P : List (List Int)) (C : List (List (List Int))) (i : Nat) : Prop where
  size : ∀ c ∈ C, c.length = P.length
  asc : ∀ c ∈ C, c.Pairwise (· < ·)
  root : ∀ c ∈ C, ∃ x, IsRow x n ∧ c.Perm (cosetL x P)
  flat : C.flatten.Nodup
  sub : ∀ x ∈ C.flatten, x ∈ W
  cov : ∀ x ∈ W.take i, x ∈ C.flatten
  hd : ∀ c ∈ C, c.headD [] ∈ W.take i
  heads : (C.map fun c => c.headD []).Pairwise (· < ·)
theorem CosP.nil (n : Nat) (W P : List (List Int)) : CosP n W P [] 0 := ⟨fun _ h => (nomatch h), fun _ h => (nomatch h), fun _ h => (nomatch h), List.nodup_nil, fun _ h => (nomatch h), fun x h => by simp at h, fun _ h => (nomatch h), List.Pairwise.nil⟩
theorem take_le {α : Type} {W : List α} {i : Nat} {x : α} (h : x ∈ W.take i) : x ∈ W.take (i + 1) := by
  rw [List.take_add_one]; exact List.mem_append_left _ h
theorem CosP.skip {n : Nat} {W P : List (List Int)} {C : List (List (List Int))} {i : Nat} {x : List Int} (h : CosP n W P C i) (hx : W[i]? = some x) (hin : x ∈ C.flatten) : CosP n W P C (i + 1) :=
  ⟨h.size, h.asc, h.root, h.flat, h.sub, fun y hy => by
    rw [List.take_add_one, hx, List.mem_append] at hy
    rcases hy with hy | hy
    · exact h.cov y hy
    · have : y = x := by simpa using hy
      subst this; exact hin, fun c hc => take_le (h.hd c hc), h.heads⟩
section
variable {n : Nat} {R I W P : List (List Int)} (hR : ∀ r ∈ R, IsRow r n) (hI : ∀ r ∈ I, r ∈ R) (hW : Clo n R W) (hP : Whole n I P) {C : List (List (List Int))} {i : Nat} {x : List Int} {c : List (List Int)}
include hR hI hW hP
theorem CosP.meet (h : CosP n W P C i) (hx : W[i]? = some x) (hin : x ∉ C.flatten) {z : List Int} (h1 : z ∈ C.flatten) (h2 : z ∈ cosetL x P) : False := by
  have hI' : ∀ r ∈ I, IsRow r n := fun r hr => hR r (hI r hr)
  have rx : IsRow x n := ((hW.1.2 x).mp (List.mem_of_getElem? hx)).row hR
  obtain ⟨c', hc', hz⟩ := List.mem_flatten.mp h1
  obtain ⟨x', rx', pm⟩ := h.root c' hc'
  have := coset_meet hI' hP rx rx' h2 (pm.mem_iff.mp hz)
  exact hin (List.mem_flatten.mpr ⟨c', hc', pm.mem_iff.mpr this⟩)
theorem CosP.step (h : CosP n W P C i) (hx : W[i]? = some x) (hin : x ∉ C.flatten) (hc : c.Perm (cosetL x P)) (hs : c.Pairwise (· ≤ ·)) : CosP n W P (C ++ [c]) (i + 1) := by
  have hI' : ∀ r ∈ I, IsRow r n := fun r hr => hR r (hI r hr)
  have rx : IsRow x n := ((hW.1.2 x).mp (List.mem_of_getElem? hx)).row hR
  have xW : x ∈ W := List.mem_of_getElem? hx
  have ndc : c.Nodup := hc.nodup_iff.mpr (coset_nodup hI' hP rx)
  have asc := asc_lt hs ndc
  have xc : x ∈ c := hc.mem_iff.mpr (coset_self hP rx)
  have wlt := asc_lt hW.2 hW.1.1
  have hil : i < W.length := (List.getElem?_eq_some_iff.mp hx).1
  have ex : W[i] = x := (List.getElem?_eq_some_iff.mp hx).2
  have subc : ∀ z ∈ c, z ∈ W := fun z hz => coset_sub hR hI hW.1 hP xW (hc.mem_iff.mp hz)
  have head : c.headD [] = x := by
    cases hcc : c with
    | nil => rw [hcc] at xc; simp at xc
    | cons y r =>
      show y = x
      rw [hcc] at xc asc
      rcases List.mem_cons.mp xc with e | hr
      · exact e.symm
      have yx : y < x := (List.pairwise_cons.mp asc).1 x hr
      have yc : y ∈ c := by rw [hcc]; simp
      obtain ⟨j, hj, ej⟩ := List.getElem_of_mem (subc y yc)
      have hji : j < i := by
        rcases Nat.lt_trichotomy j i with z | z | z
        · exact z
        · subst z; rw [ej] at ex; rw [ex] at yx; exact absurd yx (List.lt_irrefl x)
        · have := List.pairwise_iff_getElem.mp wlt i j hil hj z
          rw [ex, ej] at this
          exact absurd (List.lt_trans this yx) (List.lt_irrefl x)
      have yt : y ∈ W.take i := by
        rw [← ej]
        exact List.mem_iff_getElem.mpr ⟨j, by rw [List.length_take]; omega, by rw [List.getElem_take]⟩
      exact (h.meet hR hI hW hP hx hin (h.cov y yt) (hc.mem_iff.mp yc)).elim
  refine ⟨fun d hd => ?_, fun d hd => ?_, fun d hd => ?_, ?_, fun z hz => ?_, fun z hz => ?_, fun d hd => ?_, ?_⟩
  · rcases List.mem_append.mp hd with hd | hd
    · exact h.size d hd
    · have : d = c := by simpa using hd
      subst this
      rw [hc.length_eq, coset_len]
  · rcases List.mem_append.mp hd with hd | hd
    · exact h.asc d hd
    · have : d = c := by simpa using hd
      subst this; exact asc
  · rcases List.mem_append.mp hd with hd | hd
    · exact h.root d hd
    · have : d = c := by simpa using hd
      subst this; exact ⟨x, rx, hc⟩
  · rw [List.flatten_append, List.flatten_singleton, List.nodup_append]
    refine ⟨h.flat, ndc, fun a ha b hb e => ?_⟩
    subst e
    exact h.meet hR hI hW hP hx hin ha (hc.mem_iff.mp hb)
  · rw [List.flatten_append, List.flatten_singleton, List.mem_append] at hz
    rcases hz with hz | hz
    · exact h.sub z hz
    · exact subc z hz
  · rw [List.flatten_append, List.flatten_singleton, List.mem_append]
    rw [List.take_add_one, hx, List.mem_append] at hz
    rcases hz with hz | hz
    · exact .inl (h.cov z hz)
    · have : z = x := by simpa using hz
      subst this; exact .inr xc
  · rcases List.mem_append.mp hd with hd | hd
    · exact take_le (h.hd d hd)
    · have : d = c := by simpa using hd
      subst this
      rw [head, List.take_add_one, hx]
      simp
  · rw [List.map_append, List.pairwise_append]
    refine ⟨h.heads, by simp, fun a ha b hb => ?_⟩
    have : b = x := by
      rw [List.map_singleton, head, List.mem_singleton] at hb
      exact hb
    subst this
    obtain ⟨d, hd, rfl⟩ := List.mem_map.mp ha
    obtain ⟨j, hj, ej⟩ := List.mem_iff_getElem.mp (h.hd d hd)
    rw [List.length_take] at hj
    rw [List.getElem_take] at ej
    have := List.pairwise_iff_getElem.mp wlt j i (by omega) hil (by omega)
    rw [ex, ej] at this
    exact this
end
/-- the cosets of P in W -/
structure Cos (n : Nat) (W P : List (List Int)) (C : List (List (List Int))) : Prop where
  size : ∀ c ∈ C, c.length = P.length
  asc : ∀ c ∈ C, c.Pairwise (· < ·)
  root : ∀ c ∈ C, ∃ x, IsRow x n ∧ c.Perm (cosetL x P)
  flat : C.flatten.Nodup
  all : ∀ x, x ∈ C.flatten ↔ x ∈ W
  heads : (C.map fun c => c.headD []).Pairwise (· < ·)
theorem CosP.done {n : Nat} {W P : List (List Int)} {C : List (List (List Int))} (h : CosP n W P C W.length) : Cos n W P C :=
  ⟨h.size, h.asc, h.root, h.flat, fun x => ⟨h.sub x, fun hx => h.cov x (by rw [List.take_length]; exact hx)⟩, h.heads⟩
theorem flat_len {m : Nat} : ∀ {C : List (List (List Int))}, (∀ c ∈ C, c.length = m) → C.flatten.length = C.length * m
  | [], _ => by simp
  | c :: C, h => by
    rw [List.flatten_cons, List.length_append, flat_len fun d hd => h d (by simp [hd]), h c (by simp), List.length_cons, Nat.succ_mul]
    omega
section
variable {n : Nat} {W P : List (List Int)} {C : List (List (List Int))}
theorem Cos.count (h : Cos n W P C) (nd : W.Nodup) : C.length * P.length = W.length := by
  rw [← flat_len h.size]
  exact ((List.perm_ext_iff_of_nodup h.flat nd).mpr h.all).length_eq
end
end K5
end Kb
set_option Elab.async false
set_option linter.all false
set_option maxRecDepth 100000
set_option maxHeartbeats 4000000
namespace Kb
namespace K5
open PySem PySem.Spec PyProof.Rows L2
local macro_rules | `(tactic| walk_at "tk") => `(tactic| first
  | assumption
  | ((with_reducible refine' sqT_of ?k); (case k => assumption))
  | ((with_reducible refine' sqT_ofD ?k); (case k => assumption))
  | ((with_reducible refine' noD_of ?k); (case k => assumption))
  | ((with_reducible refine' noD_same ?s ?k); (case s => assumption); (case k => walk_at "tk"))
  | ((with_reducible refine' sqL_of ?k); (case k => assumption))
  | ((with_reducible refine' sqT_same ?s ?k); (case s => assumption); (case k => walk_at "tk"))
  | ((with_reducible refine' sqL_same ?s ?k); (case s => assumption); (case k => walk_at "tk"))
  | ((with_reducible refine' sqT_but ?s ?t ?k); (case s => assumption); (case t => walk_at "tk"); (case k => walk_at "tk"))
  | ((with_reducible refine' sqL_but ?s ?t ?k); (case s => assumption); (case t => walk_at "ne"); (case k => walk_at "tk"))
  | ((with_reducible refine' sqL_of ?k); (case k => walk_at "tk"))
  | ((with_reducible refine' sqT_of ?k); (case k => walk_at "tk"))
  | ((with_reducible refine' at_same ?s ?k); (case s => assumption); (case k => walk_at "tk"))
  | ((with_reducible refine' at_but ?s ?t ?k); (case s => assumption); (case t => walk_at "ne"); (case k => walk_at "tk")))
local macro_rules | `(tactic| walk_at "ne") => `(tactic| first
  | assumption
  | (refine Ne.symm ?_; assumption)
  | exact ne_of_none (by assumption) (by assumption)
  | exact (ne_of_none (by assumption) (by assumption)).symm)
local macro_rules | `(tactic| walk_at "side") => `(tactic| first
  | assumption
  | omega
  | (simp only [sizeLine_eq, List.length_cons, List.length_nil, List.length_map]; omega)
  | (show _ ≤ sizeLine; decide))
local macro_rules | `(tactic| walk_at "kit") => `(tactic| first
  | (show kitB _ _ = some true; decide +kernel)
  | (show kitB _ _ = some false; decide +kernel))
local macro_rules | `(tactic| walk_at "rng") => `(tactic| first
  | (refine ⟨by omega, by omega, by omega, by omega⟩)
  | (refine ⟨by omega, by omega⟩)
  | ((simp only [List.length_map]); (refine ⟨by omega, by omega, by omega, by omega⟩))
  | ((simp only [List.length_map]); (refine ⟨by omega, by omega⟩)))
local macro_rules | `(tactic| walk_at "rd1") => `(tactic| first
  | with_reducible refine r_seq ?_
  | ((with_reducible refine' r_var ?k0 ?_); (case k0 => rfl))
  | with_reducible refine r_op ?_
  | with_reducible refine r_c ?_
  | with_reducible refine r_asg ?_
  | with_reducible refine r_name ?_
  | with_reducible refine r_cons ?_
  | with_reducible refine r_nil ?_
  | with_reducible refine r_CB ?_
  | with_reducible refine r_if ?_
  | with_reducible refine r_test ?_
  | with_reducible refine r_k ?_
  | with_reducible refine r_T ?_
  | with_reducible refine r_F ?_
  | with_reducible refine r_nT ?_
  | with_reducible refine r_nF ?_
  | with_reducible refine r_ret ?_
  | with_reducible refine r_drop ?_
  | with_reducible refine r_next ?_
  | with_reducible refine r_call ?_
  | with_reducible refine r_addI ?_
  | with_reducible refine r_subI ?_
  | with_reducible refine r_ltI ?_
  | with_reducible refine r_gtI ?_
  | with_reducible refine r_leI ?_
  | with_reducible refine r_geI ?_
  | with_reducible refine r_eqI ?_
  | with_reducible refine r_neI ?_
  | with_reducible refine r_int ?_
  | with_reducible refine r_abs ?_
  | with_reducible refine r_not ?_
  | with_reducible refine r_and ?_
  | with_reducible refine r_or ?_
  | with_reducible refine r_tru ?_
  | with_reducible refine r_truB ?_
  | with_reducible refine r_lst ?_
  | with_reducible refine r_tup ?_
  | with_reducible refine r_BM ?_
  | with_reducible refine r_BM0 ?_
  | with_reducible refine r_tyS ?_
  | with_reducible refine r_gsub ?_
  | with_reducible refine r_then ?_
  | with_reducible refine r_lstRg ?_
  | with_reducible refine r_tupRg ?_
  | with_reducible refine r_rg2 ?_
  | with_reducible refine r_rg1 ?_
  | with_reducible refine r_ii ?_
  | with_reducible refine r_i ?_
  | with_reducible refine r_ipI ?_
  | with_reducible refine r_un ?_
  | with_reducible refine r_neg ?_
  | with_reducible refine r_isN ?_
  | with_reducible refine r_notN ?_
  | with_reducible refine r_notV ?_
  | with_reducible refine r_pnot ?_
  | with_reducible refine r_pif ?_
  | with_reducible refine r_andV ?_
  | with_reducible refine r_orV ?_
  | with_reducible refine r_ifE ?_
  | with_reducible refine r_chain ?_
  | with_reducible refine r_sl ?_
  | with_reducible refine r_noPart ?_
  | with_reducible refine r_part ?_
  | with_reducible refine r_brk ?_
  | with_reducible refine r_cont ?_
  | with_reducible refine r_retN ?_
  | with_reducible refine r_truI ?_
  | with_reducible refine r_B ?_
  | with_reducible refine r_for ?_
  | with_reducible refine r_rng1 ?_
  | with_reducible refine r_rng2 ?_
  | with_reducible refine r_rng3 ?_
  | with_reducible refine r_body ?_
  | with_reducible refine r_lc ?_
  | with_reducible refine r_yes ?_
  | ((with_reducible refine' r_mod ?k0 ?_); (case k0 => walk_at "side"))
  | ((with_reducible refine' r_mulI ?k0 ?_); (case k0 => first | exact Or.inl ⟨by omega, by omega⟩ | exact Or.inr ⟨by omega, by omega⟩))
  | ((with_reducible refine' r_lenL ?k0 ?_); (case k0 => walk_at "tk"))
  | ((with_reducible refine' r_lenT ?k0 ?_); (case k0 => walk_at "tk"))
  | ((with_reducible refine' r_truL ?k0 ?_); (case k0 => walk_at "tk"))
  | ((with_reducible refine' r_truT ?k0 ?_); (case k0 => walk_at "tk"))
  | ((with_reducible refine' r_ixL ?k0 ?k1 ?_); (case k0 => walk_at "tk"); (case k1 => first | assumption | rfl))
  | ((with_reducible refine' r_ixT ?k0 ?k1 ?_); (case k0 => walk_at "tk"); (case k1 => first | assumption | rfl))
  | ((with_reducible refine' r_new ?k0 ?_); (case k0 => walk_at "side"))
  | ((with_reducible refine' r_tyL ?k0 ?_); (case k0 => walk_at "tk"))
  | ((with_reducible refine' r_append ?k0 ?k1 ?_); (case k0 => walk_at "tk"); (case k1 => walk_at "side"))
  | ((with_reducible refine' r_setL ?k0 ?k1 ?_); (case k0 => walk_at "tk"); (case k1 => first | assumption | rfl))
  | ((with_reducible refine' r_kTupL ?k0 ?_); (case k0 => walk_at "tk"))
  | ((with_reducible refine' r_kTupT ?k0 ?_); (case k0 => walk_at "tk"))
  | ((with_reducible refine' r_listL ?k0 ?_); (case k0 => walk_at "tk"))
  | ((with_reducible refine' r_listT ?k0 ?_); (case k0 => walk_at "tk"))
  | ((with_reducible refine' r_aug ?k0 ?_); (case k0 => rfl))
  | ((with_reducible refine' r_lenS ?k0 ?_); (case k0 => walk_at "side"))
  | ((with_reducible refine' r_pop ?k0 ?_); (case k0 => walk_at "tk"))
  | ((with_reducible refine' r_pr1 ?k0 ?_); (case k0 => walk_at "rng"))
  | ((with_reducible refine' r_pr2 ?k0 ?_); (case k0 => walk_at "rng"))
  | ((with_reducible refine' r_pr3d ?k0 ?_); (case k0 => walk_at "rng"))
  | ((with_reducible refine' r_isiI ?k0 ?_); (case k0 => walk_at "kit"))
  | ((with_reducible refine' r_isiB ?k0 ?_); (case k0 => walk_at "kit"))
  | ((with_reducible refine' r_isiS ?k0 ?_); (case k0 => walk_at "kit"))
  | ((with_reducible refine' r_isiN ?k0 ?_); (case k0 => walk_at "kit"))
  | ((with_reducible refine' r_isiT ?k0 ?k1 ?_); (case k0 => walk_at "tk"); (case k1 => walk_at "kit"))
  | ((with_reducible refine r_seqT ?_); (repeat (walk_at "rd1")); ((with_reducible refine' r_pseqT ?k0 ?_); (case k0 => walk_at "tk")))
  | ((with_reducible refine r_seqL ?_); (repeat (walk_at "rd1")); ((with_reducible refine' r_pseqL ?k0 ?_); (case k0 => walk_at "tk")))
  | ((with_reducible refine r_seqS ?_); (repeat (walk_at "rd1")); (with_reducible refine r_pseqS ?_)))
local macro_rules | `(tactic| walk_at "rd") => `(tactic| ((repeat (walk_at "rd1")); (try dsimp only)))
local macro_rules | `(tactic| walk_at "rd1") => `(tactic| first
  | with_reducible refine r_BMT ?_
  | with_reducible refine r_par ?_
  | with_reducible refine r_parV ?_
  | ((with_reducible refine' r_ptp ?k0 ?k1 ?_); (case k0 => walk_at "tk"); (case k1 => walk_at "tk"))
  | with_reducible refine r_eqS ?_
  | with_reducible refine r_neS ?_
  | with_reducible refine r_callW ?_
  | with_reducible refine r_try ?_
  | with_reducible refine r_enT ?_
  | ((with_reducible refine' r_pen ?k0 ?_); (case k0 => walk_at "tk")))
local macro_rules | `(tactic| walk_at "rd1") => `(tactic| first
  | with_reducible refine r_dIn ?_
  | with_reducible refine r_dNo ?_
  | with_reducible refine r_dPut ?_
  | with_reducible refine r_dGet ?_)
local macro_rules | `(tactic| walk_at "pl0") => `(tactic| first
  | assumption
  | exact pl_same (by assumption) (by assumption)
  | exact pl_same (by assumption) (pl_same (by assumption) (by assumption))
  | exact pl_same (by assumption) (pl_same (by assumption) (pl_same (by assumption) (by assumption))))
local macro_rules | `(tactic| walk_at "pl") => `(tactic| first
  | walk_at "pl0"
  | ((with_reducible refine' pl_butL ?s ?n ?k); (case s => assumption); (case n => walk_at "ne"); (case k => walk_at "pl"))
  | ((with_reducible refine' pl_same ?s ?k); (case s => assumption); (case k => walk_at "pl")))
local macro_rules | `(tactic| walk_at "ne") => `(tactic| first
  | exact ne_pl (by assumption) (by walk_at "pl0")
  | exact (ne_pl (by assumption) (by walk_at "pl0")).symm)
local macro_rules | `(tactic| walk_at "fr") => `(tactic| first
  | assumption
  | ((with_reducible refine' free_but ?b ?n ?h); (case h => assumption); (case n => walk_at "ne"); (case b => walk_at "but"))
  | ((with_reducible refine' Same.free ?b ?h); (case h => assumption); (case b => walk_at "same")))
local macro_rules | `(tactic| walk_at "but") => `(tactic| first
  | assumption
  | exact But.refl
  | ((with_reducible refine' But.trans ?a ?b); (case b => assumption); (case a => walk_at "but"))
  | ((with_reducible refine' But.trans ?a (Same.but ?b)); (case b => assumption); (case a => walk_at "but"))
  | ((with_reducible refine' but_via ?a ?b ?c); (case b => assumption); (case c => walk_at "fr"); (case a => walk_at "but")))
local macro_rules | `(tactic| walk_at "same") => `(tactic| first
  | assumption
  | exact Same.refl _
  | ((with_reducible refine' Same.trans ?a ?b); (case b => assumption); (case a => walk_at "same"))
  | ((with_reducible refine' same_but ?a ?b ?c); (case b => assumption); (case c => walk_at "fr"); (case a => walk_at "same")))
local macro_rules | `(tactic| walk_at "tk") => `(tactic| first
  | ((with_reducible refine' sqT_pl ?s ?t ?k); (case s => assumption); (case t => walk_at "pl0"); (case k => walk_at "tk"))
  | ((with_reducible refine' rp_same ?s ?k); (case s => assumption); (case k => walk_at "tk"))
  | ((with_reducible refine' rp_pl ?s ?t ?k); (case s => assumption); (case t => walk_at "pl0"); (case k => walk_at "tk")))
local macro_rules | `(tactic| walk_at "it") => `(tactic| first
  | assumption
  | ((with_reducible refine' sqI_1 ?k); (case k => assumption))
  | ((with_reducible refine' sqI_0 ?k); (case k => assumption))
  | ((with_reducible refine' sqI_of ?k); (case k => assumption))
  | ((with_reducible refine' sqI_D ?k); (case k => assumption))
  | ((with_reducible refine' sqT_same ?s ?k); (case s => assumption); (case k => walk_at "it"))
  | ((with_reducible refine' sqT_but ?s ?t ?k); (case s => assumption); (case t => assumption); (case k => walk_at "it"))
  | ((with_reducible refine' sqT_pl ?s ?t ?k); (case s => assumption); (case t => walk_at "pl0"); (case k => walk_at "it")))
local macro_rules | `(tactic| walk_at "sz") => `(tactic| first | omega | ((try simp only [List.length_cons, List.length_nil] at *); omega))
local macro_rules | `(tactic| walk_at "au1") => `(tactic| first
  | walk_at "rd1"
  | ((with_reducible refine' r_draw ?k0 ?k1 ?k2 ?_); (case k0 => walk_at "pl"); (case k1 => omega); (case k2 => omega); (intro _ _ _ _ _ _))
  | ((with_reducible refine' r_slN ?k0 ?_); (case k0 => walk_at "it"); (intro _ _ _ _ _ _))
  | ((with_reducible refine' r_catN ?k0 ?k1 ?k2 ?_); (case k0 => walk_at "it"); (case k1 => walk_at "it"); (case k2 => walk_at "sz"); (intro _ _ _ _ _ _))
  | ((with_reducible refine' r_pow ?k0 ?_); (case k0 => exact ⟨by decide, by decide, by decide⟩))
  | ((with_reducible refine' r_ixI ?k0 ?k1 ?k2 ?_); (case k0 => walk_at "it"); (case k1 => omega); (case k2 => omega); (intro _ _))
  | ((with_reducible refine' r_setI ?k0 ?k1 ?k2 ?_); (case k0 => walk_at "tk"); (case k1 => omega); (case k2 => omega); (intro _ _ _ _ _))
  | ((with_reducible refine' r_kTupI ?k0 ?_); (case k0 => walk_at "tk"); (intro _ _ _ _ _))
  | ((with_reducible refine' r_listI ?k0 ?_); (case k0 => walk_at "it"); (intro _ _ _ _ _))
  | (with_reducible refine r_revU ?_)
  | ((with_reducible refine' r_prevN ?k0 ?_); (case k0 => walk_at "it"); (intro _ _ _ _ _ _))
  | (intro _ _ _ _ _))
local macro_rules | `(tactic| walk_at "go") => `(tactic| ((repeat (walk_at "au1")); (first
  | ((with_reducible refine r_ite (fun _ => ?_) (fun _ => ?_)) <;> (walk_at "go"))
  | ((with_reducible refine r_iteN (fun _ => ?_) (fun _ => ?_)) <;> (walk_at "go"))
  | dsimp only
  | skip)))
abbrev CSet := Addr × List (Addr × List Int)
abbrev CL (C : List CSet) : List (List (List Int)) := C.map fun c => rws c.2
def CB (H : Hp) (C : List CSet) : Prop := ∀ c ∈ C, H c.1 = some (.tup (c.2.map fun q => V.ref q.1)) ∧ ∀ q ∈ c.2, H q.1 = some (.tup (q.2.map V.int))
def CT (H : Hp) (p : Addr) (C : List CSet) : Prop := H p = some (.tup (C.map fun c => V.ref c.1)) ∧ CB H C
section
variable {H H' : Hp} {C : List CSet} {l : Addr}
theorem CB.same (s : Same H H') (h : CB H C) : CB H' C := fun c hc => ⟨s _ _ (h c hc).1, fun q hq => s _ _ ((h c hc).2 q hq)⟩
theorem CT.same {p : Addr} (s : Same H H') (h : CT H p C) : CT H' p C := ⟨s _ _ h.1, h.2.same s⟩
theorem CB.butL {ys : List V} (b : But l H H') (hl : H l = some (.lst ys)) (h : CB H C) : CB H' C :=
  fun c hc => ⟨b _ _ (ne_of (h c hc).1 hl (by intro z; cases z)) (h c hc).1, fun q hq => b _ _ (ne_of ((h c hc).2 q hq) hl (by intro z; cases z)) ((h c hc).2 q hq)⟩
theorem CB.butD {ys : List (List Key × V)} (b : But l H H') (hl : H l = some (.dT ys)) (h : CB H C) : CB H' C :=
  fun c hc => ⟨b _ _ (ne_of (h c hc).1 hl (by intro z; cases z)) (h c hc).1, fun q hq => b _ _ (ne_of ((h c hc).2 q hq) hl (by intro z; cases z)) ((h c hc).2 q hq)⟩
end
def sp_cosets (K : PySem.W.Frag) (ec : Str → Addr) : Sp := fun vs H Q E => ∃ (s : Int) (b1 b2 : Addr) (ps qs : List (Addr × List Int)) (k : Nat), vs = [.int s, .ref b1, .ref b2, .int (k : Int)] ∧ SqT K H b1 (ps.map fun q => V.ref q.1) ∧ SqT K H b2 (qs.map fun q => V.ref q.1) ∧
  (∀ q ∈ ps ++ qs, H q.1 = some (.tup (q.2.map V.int))) ∧ 1 ≤ k ∧ k ≤ 100000 ∧ ps.length + qs.length ≤ 100000 ∧
  (¬ (1 ≤ s ∧ s ≤ 12) → noStage ec H E) ∧ ((1 ≤ s ∧ s ≤ 12) → ¬ (∀ q ∈ ps ++ qs, (q.2.length : Int) = s) → noUnlike ec H E) ∧
  (∀ n : Nat, s = (n : Int) → 1 ≤ n → n ≤ 12 → (∀ q ∈ ps ++ qs, q.2.length = n) → (∀ r ∈ rws (ps ++ qs), IsRow r n) ∧
    (∀ p H' W P C, H p = none → Same H H' → CT H' p C → Clo n (rws (ps ++ qs)) W → Clo n (rws qs) P → Cos n W P (CL C) → W.length ≤ k → Q (.ref p) H') ∧
    (More n (rws (ps ++ qs)) k → noHeads ec k H E))
abbrev N_cosets : List Str := ["stage", "rows", "inner", "most", "whole", "part", "placed", "found", "row", "coset", "member"]
def t_cosets (K : PySem.W.Frag) (ec : Str → Addr) (E : XK) : TS :=
  tSeq (tAsg ((tCallW (sp_closure K ec) (fun cls d _ H => E cls d H) (tCons (tVar 0) (tCons ((tOp (rAddU K) (tVar 1) (tVar 2))) (tCons (tVar 3) tNil))))) (gName 4))
  (tSeq (tAsg ((tCallW (sp_closure K ec) (fun cls d _ H => E cls d H) (tCons (tVar 0) (tCons (tVar 2) (tCons (tVar 3) tNil))))) (gName 5))
  (tSeq (tAsg tDNewT (gName 6))
  (tSeq (tAsg ((tLst tNil)) (gName 7))
  (tSeq (tFor (iSeqU K (tVar 4)) (gName 8) ((tIfS ((tB (tDNotIn (tVar 8) (tVar 6)))) (tSeq (tAsg ((tThen ((tCB (rSortRows K) (tCons ((tLc ((iSeqU K (tVar 5))) ((gName 10)) (tYes) ((tCall (sp_times K ec) [] E0 (tCons (tVar 8) (tCons (tVar 10) tNil)))) [10])) tNil))) (kTupP K))) (gName 9))
  (tSeq (tFor (iSeqU K (tVar 9)) (gName 10) ((sDPut (tVar 6) (tVar 10) ((tC (.bl true))))))
  ((tDrop ((tBM K "list" rAppend (tVar 7) (tCons (tVar 9) tNil))))))) (tNext))))
  ((tRet ((tThen (tVar 7) (kTupP K)))))))))
section
variable {K : PySem.W.Frag} {ec : Str → Addr} {ns : List Str} {vs : List V} {H : Hp} {Q : VK} {E : XK}
theorem rws_app' (a b : List (Addr × List Int)) : rws (a ++ b) = rws a ++ rws b := List.map_append
theorem rws_len' (a : List (Addr × List Int)) : (rws a).length = a.length := List.length_map _
theorem r_dnewT {σ : L2.St} (h : ∀ p H', H p = none → Same H H' → H' p = some (.dT []) → Q (.ref p) H') : tDNewT σ H Q := fun p hp => h p _ hp (same_new hp) upd_same
theorem len_cosets (h : sp_cosets K ec vs H Q E) : vs.length = 4 := by obtain ⟨s, b1, b2, ps, qs, k, rfl, _⟩ := h; rfl
theorem r_catP {a b : Addr} {xs ys : List V} (h1 : SqT K H a xs) (h2 : SqT K H b ys) (hz : xs.length + ys.length ≤ 1000000) (k : ∀ p H', Same H H' → SqT K H' p (xs ++ ys) → Q (.ref p) H') : rAddU K (.ref a) (.ref b) H Q :=
  .inr (.inr (.inr ⟨a, b, xs, ys, rfl, rfl, h1, h2, by rw [sizeLine_eq]; omega, fun e => by subst e; exact k b H (Same.refl _) h2, fun _ e => by subst e; exact k a H (Same.refl _) (by rw [List.append_nil]; exact h1), fun _ _ p np => k p _ (same_new np) (sqT_of upd_same)⟩))
theorem pure_cosets (XS : Exs K ec ns) (h : sp_cosets K ec vs H Q E) : t_cosets K ec E (En Q) (start N_cosets vs) H := by
  obtain ⟨s, b1, b2, ps, qs, k, rfl, hb1, hb2, hp, k1, k2, kz, qS, qU, qn⟩ := h
  unfold t_cosets
  walk_at "rd"
  refine r_catP hb1 hb2 (by rw [List.length_map, List.length_map]; omega) fun b3 H1 s1 hb3 => ?_
  rw [← List.map_append] at hb3
  walk_at "rd"
  refine ⟨s, b3, ps ++ qs, k, rfl, hb3, fun q hq => s1 _ _ (hp q hq), k1, k2, by rw [List.length_append]; omega, fun hs d H' s' nd e => qS hs d H' (s1.trans s') (s1.free nd) e, fun hs hu => (qU hs hu).same s1, fun n en n1 n2 hu => ?_⟩
  obtain ⟨hR, q, qE⟩ := qn n en n1 n2 hu
  refine ⟨hR, fun t1 H2 ws nt1 s2 e2 hw2 cw kw => ?_, fun hm => (qE hm).same s1⟩
  subst en
  have s12 := s1.trans s2
  have hI : ∀ r ∈ rws qs, r ∈ rws (ps ++ qs) := fun r hr => by rw [rws_app']; exact List.mem_append_right _ hr
  walk_at "rd"
  refine ⟨n, b2, qs, k, rfl, sqT_same s12 hb2, fun q hq => s12 _ _ (hp q (List.mem_append_right _ hq)), k1, k2, by omega, fun hs => absurd ⟨by omega, by omega⟩ hs, fun hs hn => (hn fun q hq => by rw [hu q (List.mem_append_right _ hq)]).elim, fun n' en _ _ hu' => ?_⟩
  obtain rfl : n = n' := by omega
  refine ⟨fun r hr => hR r (hI r hr), fun t2 H3 us nt2 s3 e3 hu3 cu ku => ?_, fun hm => (qE (hm.mono hI)).same s12⟩
  walk_at "rd"
  refine r_dnewT fun pl H4 npl s4 e4 => ?_
  walk_at "rd"
  intro fo H5 nfo s5 e5
  have s13 := s12.trans s3
  have s14 := s13.trans s4
  have s15 := s14.trans s5
  have npl0 : H pl = none := s13.free npl
  have nfo0 : H fo = none := s14.free nfo
  have e45 := s5 _ _ e4
  have es2 : Same H2 H5 := (s3.trans s4).trans s5
  have es3 : Same H3 H5 := s4.trans s5
  have npl2 : H2 pl = none := s3.free npl
  have nfo2 : H2 fo = none := s3.free (s4.free nfo)
  have nfo3 : H3 fo = none := s4.free nfo
  have hPI : ∀ r ∈ rws qs, IsRow r n := fun r hr => hR r (hI r hr)
  have et1 := es2 _ _ e2
  walk_at "rd"
  refine r_forTup (xs := ws.map fun q => V.ref q.1) (fun i σ' H' => ∃ (C : List CSet) (z8 z9 z10 : Option V), σ' = [some (.int (n : Int)), some (.ref b1), some (.ref b2), some (.int (k : Int)), some (.ref t1), some (.ref t2), some (.ref pl), some (.ref fo), z8, z9, z10] ∧ Same H3 H' ∧ H' fo = some (.lst (C.map fun c => V.ref c.1)) ∧ CB H' C ∧ DR H' pl (CL C).flatten ∧ CosP n (rws ws) (rws us) (CL C) i)
    ⟨[], none, none, none, rfl, es3, e5, fun c hc => (nomatch hc), ⟨[], e45, Nat.le_refl _, fun r => by rw [valV_nil]; rfl⟩, CosP.nil _ _ _⟩ (fun i σ' H' _ hW => ?_) (fun i x σ' H' hi hW => ?_) (fun σ' H' hW => ?_)
  · obtain ⟨C, z8, z9, z10, rfl, s6, _⟩ := hW
    exact sqT_of (s6 _ _ (s3 _ _ e2))
  · obtain ⟨C, z8, z9, z10, rfl, s6, f6, cb6, d6, co⟩ := hW
    rw [List.getElem?_map] at hi
    obtain ⟨w, hw, rfl⟩ := Option.map_eq_some_iff.mp hi
    have hxW : (rws ws)[i]? = some w.2 := rws_at hw
    have ew := s6 _ _ (s3 _ _ (hw2 w (List.mem_of_getElem? hw)))
    have rx : IsRow w.2 n := ((cw.1.2 _).mp (List.mem_of_getElem? hxW)).row hR
    walk_at "rd"
    refine r_drNo d6 ew ?_
    walk_at "rd"
    by_cases hin : w.2 ∈ (CL C).flatten
    · refine r_iteNP hin ?_
      walk_at "rd"
      exact ⟨C, _, _, _, rfl, s6, f6, cb6, d6, co.skip hxW hin⟩
    · refine r_iteNM hin ?_
      have et2 := s6 _ _ e3
      walk_at "rd"
      refine r_lcT (xs := us.map fun q => V.ref q.1) (fun D j H7 => H' D = none ∧ Same H' H7 ∧ ∃ rs : List (Addr × List Int), LRt H7 D rs ∧ rws rs = ((rws us).take j).map (mulR w.2)) (fun _ => rfl)
        (fun D H7 nD s e => ⟨nD, s, [], ⟨e, fun _ h => (nomatch h)⟩, rfl⟩) (fun D j H7 P => sqT_of (P.2.1 _ _ et2)) (fun D j x H7 hj P => ?_) (fun D H7 nD P => ?_)
      · obtain ⟨nD, s7, rs, l7, er⟩ := P
        rw [List.getElem?_map] at hj
        obtain ⟨u, hu', rfl⟩ := Option.map_eq_some_iff.mp hj
        have huP : u.2 ∈ rws us := List.mem_of_getElem? (rws_at hu')
        have ru : IsRow u.2 n := ((cu.1.2 _).mp huP).row hPI
        have eu := s7 _ _ (s6 _ _ (hu3 u (List.mem_of_getElem? hu')))
        have ew7 := s7 _ _ ew
        refine r_yes (r_T ?_)
        walk_at "rd"
        refine ⟨w.1, u.1, w.2, u.2, n, rfl, sqT_of ew7, sqT_of eu, ru, by omega, fun _ p H8 np s8 e8 => ?_, fun z => absurd rx.1 z, .inl rx⟩
        have l8 := l7.same s8
        have hjl : j < us.length := (List.getElem?_eq_some_iff.mp hu').1
        refine r_acc l8.1 (by
          have : (rws rs).length = ((rws us).take j).length := by rw [er, List.length_map]
          rw [rws_len', List.length_take] at this
          rw [List.length_map]; omega) fun H9 b9 e9 => ⟨nD, same_but (s7.trans s8) b9 nD, rs ++ [(p, mulR w.2 u.2)], l8.push b9 e8 e9, ?_⟩
        rw [rws_app', er, List.take_add_one, rws_at hu', List.map_append]
        rfl
      · obtain ⟨nD, s7, rs, l7, er⟩ := P
        have hlen : (us.map fun q => V.ref q.1).length = (rws us).length := by rw [List.length_map, rws_len']
        rw [hlen, List.take_length] at er
        have hco : rws rs = cosetL w.2 (rws us) := er
        walk_at "rd"
        refine r_sortRows l7 (fun q hq => ?_) fun l2 H8 cs nl2 s8 l8 pm so => ?_
        · have : q.2 ∈ cosetL w.2 (rws us) := by rw [← hco]; exact List.mem_map.mpr ⟨q, hq, rfl⟩
          exact rows_ne (by omega) hR cw.1 (coset_sub hR hI cw.1 cu.1 (List.mem_of_getElem? hxW) this)
        walk_at "rd"
        refine r_kTupP (sqL_of l8.1) fun c H9 nc s9 e9 => ?_
        have pmr : (rws cs).Perm (cosetL w.2 (rws us)) := by rw [← hco]; exact pm.map _
        have st := co.step hR hI cw cu.1 hxW hin pmr so
        have eCL : CL C ++ [rws cs] = CL (C ++ [(c, cs)]) := by
          show _ = List.map _ (C ++ [(c, cs)])
          rw [List.map_append]; rfl
        rw [eCL] at st
        have s69 : Same H' H9 := (s7.trans s8).trans s9
        have s39 : Same H3 H9 := s6.trans s69
        have hcs : ∀ q ∈ cs, H9 q.1 = some (.tup (q.2.map V.int)) := fun q hq => s9 _ _ (l8.2 q hq)
        have hflat : ∀ m, ((CL C).flatten ++ (rws cs).take m).length ≤ 100000 := fun m => by
          have h1 := nodup_sub_len st.flat st.sub
          rw [rws_len'] at h1
          have h2 : (CL (C ++ [(c, cs)])).flatten = (CL C).flatten ++ rws cs := by rw [← eCL, List.flatten_append, List.flatten_singleton]
          rw [h2, List.length_append] at h1
          rw [List.length_append, List.length_take]
          omega
        walk_at "rd"
        refine r_forTup (xs := cs.map fun q => V.ref q.1) (fun m σ' H' => ∃ (z10 : Option V), σ' = [some (.int (n : Int)), some (.ref b1), some (.ref b2), some (.int (k : Int)), some (.ref t1), some (.ref t2), some (.ref pl), some (.ref fo), some (.ref w.1), some (.ref c), z10] ∧ Same H3 H' ∧ H' fo = some (.lst (C.map fun c => V.ref c.1)) ∧ CB H' C ∧ H' c = some (.tup (cs.map fun q => V.ref q.1)) ∧ (∀ q ∈ cs, H' q.1 = some (.tup (q.2.map V.int))) ∧ DR H' pl ((CL C).flatten ++ (rws cs).take m))
          ⟨_, rfl, s39, s69 _ _ f6, cb6.same s69, e9, hcs, by rw [List.take_zero, List.append_nil]; exact DR.same s69 d6⟩ (fun m σ' H' _ hW => ?_) (fun m x σ' H' hm hW => ?_) (fun σ' H' hW => ?_)
        · obtain ⟨z10, rfl, _, _, _, ec', _⟩ := hW
          exact sqT_of ec'
        · obtain ⟨z10, rfl, s10, f10, cb10, ec10, hc10, d10⟩ := hW
          rw [List.getElem?_map] at hm
          obtain ⟨v, hv, rfl⟩ := Option.map_eq_some_iff.mp hm
          have ev := hc10 v (List.mem_of_getElem? hv)
          walk_at "rd"
          refine r_drPut d10 ev (by have := hflat m; rw [sizeLine_eq]; omega) fun H11 b11 d11 => ?_
          obtain ⟨kvs, ed, _⟩ := d10
          refine ⟨_, rfl, same_but s10 b11 npl, b11 _ _ (ne_of f10 ed (by intro z; cases z)) f10, cb10.butD b11 ed, b11 _ _ (ne_of ec10 ed (by intro z; cases z)) ec10, fun q hq => b11 _ _ (ne_of (hc10 q hq) ed (by intro z; cases z)) (hc10 q hq), ?_⟩
          rw [List.take_add_one, rws_at hv, ← List.append_assoc]
          exact d11
        · obtain ⟨z10, rfl, s10, f10, cb10, ec10, hc10, d10⟩ := hW
          have hlen2 : (cs.map fun q => V.ref q.1).length = (rws cs).length := by rw [List.length_map, rws_len']
          rw [hlen2, List.take_length] at d10
          have hCn : C.length < 1000000 := by
            have h1 := nodup_sub_len co.flat co.sub
            have h2 := flat_len co.size
            have h3 : 1 ≤ (rws us).length := List.length_pos_of_mem ((cu.1.2 _).mpr Gn.one)
            have h4 : C.length ≤ C.length * (rws us).length := Nat.le_mul_of_pos_right _ h3
            rw [List.length_map] at h2
            rw [h2, rws_len' ws] at h1
            omega
          walk_at "rd"
          intro H11 b11 e11
          refine ⟨C ++ [(c, cs)], _, _, _, rfl, same_but s10 b11 nfo3, by rw [e11, List.map_append]; rfl, fun d hd => ?_, ?_, st⟩
          · rcases List.mem_append.mp hd with hd | hd
            · exact cb10.butL b11 f10 d hd
            · have : d = (c, cs) := by simpa using hd
              subst this
              exact ⟨b11 _ _ (ne_of ec10 f10 (by intro z; cases z)) ec10, fun q hq => b11 _ _ (ne_of (hc10 q hq) f10 (by intro z; cases z)) (hc10 q hq)⟩
          · have h2 : (CL (C ++ [(c, cs)])).flatten = (CL C).flatten ++ rws cs := by rw [← eCL, List.flatten_append, List.flatten_singleton]
            rw [h2]
            exact DR.butL b11 f10 d10
  · obtain ⟨C, z8, z9, z10, rfl, s6, f6, cb6, d6, co⟩ := hW
    have hlen : (ws.map fun q => V.ref q.1).length = (rws ws).length := by rw [List.length_map, rws_len']
    rw [hlen] at co
    walk_at "rd"
    refine r_kTupP (sqL_of f6) fun p H7 np s7 e7 => ?_
    exact q p H7 (rws ws) (rws us) C (s13.free (s6.free np)) ((s13.trans s6).trans s7) ⟨e7, cb6.same s7⟩ cw cu co.done (by rw [rws_len']; exact kw)
end
end K5
end Kb
set_option Elab.async false
set_option linter.all false
set_option maxRecDepth 100000
set_option maxHeartbeats 4000000
namespace Kb
namespace K5
open PySem PySem.Spec PyProof.Rows L2
local macro_rules | `(tactic| walk_at "tk") => `(tactic| first
  | assumption
  | ((with_reducible refine' sqT_of ?k); (case k => assumption))
  | ((with_reducible refine' sqT_ofD ?k); (case k => assumption))
  | ((with_reducible refine' noD_of ?k); (case k => assumption))
  | ((with_reducible refine' noD_same ?s ?k); (case s => assumption); (case k => walk_at "tk"))
  | ((with_reducible refine' sqL_of ?k); (case k => assumption))
  | ((with_reducible refine' sqT_same ?s ?k); (case s => assumption); (case k => walk_at "tk"))
  | ((with_reducible refine' sqL_same ?s ?k); (case s => assumption); (case k => walk_at "tk"))
  | ((with_reducible refine' sqT_but ?s ?t ?k); (case s => assumption); (case t => walk_at "tk"); (case k => walk_at "tk"))
  | ((with_reducible refine' sqL_but ?s ?t ?k); (case s => assumption); (case t => walk_at "ne"); (case k => walk_at "tk"))
  | ((with_reducible refine' sqL_of ?k); (case k => walk_at "tk"))
  | ((with_reducible refine' sqT_of ?k); (case k => walk_at "tk"))
  | ((with_reducible refine' at_same ?s ?k); (case s => assumption); (case k => walk_at "tk"))
  | ((with_reducible refine' at_but ?s ?t ?k); (case s => assumption); (case t => walk_at "ne"); (case k => walk_at "tk")))
local macro_rules | `(tactic| walk_at "ne") => `(tactic| first
  | assumption
  | (refine Ne.symm ?_; assumption)
  | exact ne_of_none (by assumption) (by assumption)
  | exact (ne_of_none (by assumption) (by assumption)).symm)
local macro_rules | `(tactic| walk_at "side") => `(tactic| first
  | assumption
  | omega
  | (simp only [sizeLine_eq, List.length_cons, List.length_nil, List.length_map]; omega)
  | (show _ ≤ sizeLine; decide))
local macro_rules | `(tactic| walk_at "kit") => `(tactic| first
  | (show kitB _ _ = some true; decide +kernel)
  | (show kitB _ _ = some false; decide +kernel))
local macro_rules | `(tactic| walk_at "rng") => `(tactic| first
  | (refine ⟨by omega, by omega, by omega, by omega⟩)
  | (refine ⟨by omega, by omega⟩)
  | ((simp only [List.length_map]); (refine ⟨by omega, by omega, by omega, by omega⟩))
  | ((simp only [List.length_map]); (refine ⟨by omega, by omega⟩)))
local macro_rules | `(tactic| walk_at "rd1") => `(tactic| first
  | with_reducible refine r_seq ?_
  | ((with_reducible refine' r_var ?k0 ?_); (case k0 => rfl))
  | with_reducible refine r_op ?_
  | with_reducible refine r_c ?_
  | with_reducible refine r_asg ?_
  | with_reducible refine r_name ?_
  | with_reducible refine r_cons ?_
  | with_reducible refine r_nil ?_
  | with_reducible refine r_CB ?_
  | with_reducible refine r_if ?_
  | with_reducible refine r_test ?_
  | with_reducible refine r_k ?_
  | with_reducible refine r_T ?_
  | with_reducible refine r_F ?_
  | with_reducible refine r_nT ?_
  | with_reducible refine r_nF ?_
  | with_reducible refine r_ret ?_
  | with_reducible refine r_drop ?_
  | with_reducible refine r_next ?_
  | with_reducible refine r_call ?_
  | with_reducible refine r_addI ?_
  | with_reducible refine r_subI ?_
  | with_reducible refine r_ltI ?_
  | with_reducible refine r_gtI ?_
  | with_reducible refine r_leI ?_
  | with_reducible refine r_geI ?_
  | with_reducible refine r_eqI ?_
  | with_reducible refine r_neI ?_
  | with_reducible refine r_int ?_
  | with_reducible refine r_abs ?_
  | with_reducible refine r_not ?_
  | with_reducible refine r_and ?_
  | with_reducible refine r_or ?_
  | with_reducible refine r_tru ?_
  | with_reducible refine r_truB ?_
  | with_reducible refine r_lst ?_
  | with_reducible refine r_tup ?_
  | with_reducible refine r_BM ?_
  | with_reducible refine r_BM0 ?_
  | with_reducible refine r_tyS ?_
  | with_reducible refine r_gsub ?_
  | with_reducible refine r_then ?_
  | with_reducible refine r_lstRg ?_
  | with_reducible refine r_tupRg ?_
  | with_reducible refine r_rg2 ?_
  | with_reducible refine r_rg1 ?_
  | with_reducible refine r_ii ?_
  | with_reducible refine r_i ?_
  | with_reducible refine r_ipI ?_
  | with_reducible refine r_un ?_
  | with_reducible refine r_neg ?_
  | with_reducible refine r_isN ?_
  | with_reducible refine r_notN ?_
  | with_reducible refine r_notV ?_
  | with_reducible refine r_pnot ?_
  | with_reducible refine r_pif ?_
  | with_reducible refine r_andV ?_
  | with_reducible refine r_orV ?_
  | with_reducible refine r_ifE ?_
  | with_reducible refine r_chain ?_
  | with_reducible refine r_sl ?_
  | with_reducible refine r_noPart ?_
  | with_reducible refine r_part ?_
  | with_reducible refine r_brk ?_
  | with_reducible refine r_cont ?_
  | with_reducible refine r_retN ?_
  | with_reducible refine r_truI ?_
  | with_reducible refine r_B ?_
  | with_reducible refine r_for ?_
  | with_reducible refine r_rng1 ?_
  | with_reducible refine r_rng2 ?_
  | with_reducible refine r_rng3 ?_
  | with_reducible refine r_body ?_
  | with_reducible refine r_lc ?_
  | with_reducible refine r_yes ?_
  | ((with_reducible refine' r_mod ?k0 ?_); (case k0 => walk_at "side"))
  | ((with_reducible refine' r_mulI ?k0 ?_); (case k0 => first | exact Or.inl ⟨by omega, by omega⟩ | exact Or.inr ⟨by omega, by omega⟩))
  | ((with_reducible refine' r_lenL ?k0 ?_); (case k0 => walk_at "tk"))
  | ((with_reducible refine' r_lenT ?k0 ?_); (case k0 => walk_at "tk"))
  | ((with_reducible refine' r_truL ?k0 ?_); (case k0 => walk_at "tk"))
  | ((with_reducible refine' r_truT ?k0 ?_); (case k0 => walk_at "tk"))
  | ((with_reducible refine' r_ixL ?k0 ?k1 ?_); (case k0 => walk_at "tk"); (case k1 => first | assumption | rfl))
  | ((with_reducible refine' r_ixT ?k0 ?k1 ?_); (case k0 => walk_at "tk"); (case k1 => first | assumption | rfl))
  | ((with_reducible refine' r_new ?k0 ?_); (case k0 => walk_at "side"))
  | ((with_reducible refine' r_tyL ?k0 ?_); (case k0 => walk_at "tk"))
  | ((with_reducible refine' r_append ?k0 ?k1 ?_); (case k0 => walk_at "tk"); (case k1 => walk_at "side"))
  | ((with_reducible refine' r_setL ?k0 ?k1 ?_); (case k0 => walk_at "tk"); (case k1 => first | assumption | rfl))
  | ((with_reducible refine' r_kTupL ?k0 ?_); (case k0 => walk_at "tk"))
  | ((with_reducible refine' r_kTupT ?k0 ?_); (case k0 => walk_at "tk"))
  | ((with_reducible refine' r_listL ?k0 ?_); (case k0 => walk_at "tk"))
  | ((with_reducible refine' r_listT ?k0 ?_); (case k0 => walk_at "tk"))
  | ((with_reducible refine' r_aug ?k0 ?_); (case k0 => rfl))
  | ((with_reducible refine' r_lenS ?k0 ?_); (case k0 => walk_at "side"))
  | ((with_reducible refine' r_pop ?k0 ?_); (case k0 => walk_at "tk"))
  | ((with_reducible refine' r_pr1 ?k0 ?_); (case k0 => walk_at "rng"))
  | ((with_reducible refine' r_pr2 ?k0 ?_); (case k0 => walk_at "rng"))
  | ((with_reducible refine' r_pr3d ?k0 ?_); (case k0 => walk_at "rng"))
  | ((with_reducible refine' r_isiI ?k0 ?_); (case k0 => walk_at "kit"))
  | ((with_reducible refine' r_isiB ?k0 ?_); (case k0 => walk_at "kit"))
  | ((with_reducible refine' r_isiS ?k0 ?_); (case k0 => walk_at "kit"))
  | ((with_reducible refine' r_isiN ?k0 ?_); (case k0 => walk_at "kit"))
  | ((with_reducible refine' r_isiT ?k0 ?k1 ?_); (case k0 => walk_at "tk"); (case k1 => walk_at "kit"))
  | ((with_reducible refine r_seqT ?_); (repeat (walk_at "rd1")); ((with_reducible refine' r_pseqT ?k0 ?_); (case k0 => walk_at "tk")))
  | ((with_reducible refine r_seqL ?_); (repeat (walk_at "rd1")); ((with_reducible refine' r_pseqL ?k0 ?_); (case k0 => walk_at "tk")))
  | ((with_reducible refine r_seqS ?_); (repeat (walk_at "rd1")); (with_reducible refine r_pseqS ?_)))
local macro_rules | `(tactic| walk_at "rd") => `(tactic| ((repeat (walk_at "rd1")); (try dsimp only)))
local macro_rules | `(tactic| walk_at "rd1") => `(tactic| first
  | with_reducible refine r_BMT ?_
  | with_reducible refine r_par ?_
  | with_reducible refine r_parV ?_
  | ((with_reducible refine' r_ptp ?k0 ?k1 ?_); (case k0 => walk_at "tk"); (case k1 => walk_at "tk"))
  | with_reducible refine r_eqS ?_
  | with_reducible refine r_neS ?_
  | with_reducible refine r_callW ?_
  | with_reducible refine r_try ?_
  | with_reducible refine r_enT ?_
  | ((with_reducible refine' r_pen ?k0 ?_); (case k0 => walk_at "tk")))
local macro_rules | `(tactic| walk_at "rd1") => `(tactic| first
  | with_reducible refine r_dIn ?_
  | with_reducible refine r_dNo ?_
  | with_reducible refine r_dPut ?_
  | with_reducible refine r_dGet ?_)
local macro_rules | `(tactic| walk_at "pl0") => `(tactic| first
  | assumption
  | exact pl_same (by assumption) (by assumption)
  | exact pl_same (by assumption) (pl_same (by assumption) (by assumption))
  | exact pl_same (by assumption) (pl_same (by assumption) (pl_same (by assumption) (by assumption))))
local macro_rules | `(tactic| walk_at "pl") => `(tactic| first
  | walk_at "pl0"
  | ((with_reducible refine' pl_butL ?s ?n ?k); (case s => assumption); (case n => walk_at "ne"); (case k => walk_at "pl"))
  | ((with_reducible refine' pl_same ?s ?k); (case s => assumption); (case k => walk_at "pl")))
local macro_rules | `(tactic| walk_at "ne") => `(tactic| first
  | exact ne_pl (by assumption) (by walk_at "pl0")
  | exact (ne_pl (by assumption) (by walk_at "pl0")).symm)
local macro_rules | `(tactic| walk_at "fr") => `(tactic| first
  | assumption
  | ((with_reducible refine' free_but ?b ?n ?h); (case h => assumption); (case n => walk_at "ne"); (case b => walk_at "but"))
  | ((with_reducible refine' Same.free ?b ?h); (case h => assumption); (case b => walk_at "same")))
local macro_rules | `(tactic| walk_at "but") => `(tactic| first
  | assumption
  | exact But.refl
  | ((with_reducible refine' But.trans ?a ?b); (case b => assumption); (case a => walk_at "but"))
  | ((with_reducible refine' But.trans ?a (Same.but ?b)); (case b => assumption); (case a => walk_at "but"))
  | ((with_reducible refine' but_via ?a ?b ?c); (case b => assumption); (case c => walk_at "fr"); (case a => walk_at "but")))
local macro_rules | `(tactic| walk_at "same") => `(tactic| first
  | assumption
  | exact Same.refl _
  | ((with_reducible refine' Same.trans ?a ?b); (case b => assumption); (case a => walk_at "same"))
  | ((with_reducible refine' same_but ?a ?b ?c); (case b => assumption); (case c => walk_at "fr"); (case a => walk_at "same")))
local macro_rules | `(tactic| walk_at "tk") => `(tactic| first
  | ((with_reducible refine' sqT_pl ?s ?t ?k); (case s => assumption); (case t => walk_at "pl0"); (case k => walk_at "tk"))
  | ((with_reducible refine' rp_same ?s ?k); (case s => assumption); (case k => walk_at "tk"))
  | ((with_reducible refine' rp_pl ?s ?t ?k); (case s => assumption); (case t => walk_at "pl0"); (case k => walk_at "tk")))
local macro_rules | `(tactic| walk_at "it") => `(tactic| first
  | assumption
  | ((with_reducible refine' sqI_1 ?k); (case k => assumption))
  | ((with_reducible refine' sqI_0 ?k); (case k => assumption))
  | ((with_reducible refine' sqI_of ?k); (case k => assumption))
  | ((with_reducible refine' sqI_D ?k); (case k => assumption))
  | ((with_reducible refine' sqT_same ?s ?k); (case s => assumption); (case k => walk_at "it"))
  | ((with_reducible refine' sqT_but ?s ?t ?k); (case s => assumption); (case t => assumption); (case k => walk_at "it"))
  | ((with_reducible refine' sqT_pl ?s ?t ?k); (case s => assumption); (case t => walk_at "pl0"); (case k => walk_at "it")))
local macro_rules | `(tactic| walk_at "sz") => `(tactic| first | omega | ((try simp only [List.length_cons, List.length_nil] at *); omega))
local macro_rules | `(tactic| walk_at "au1") => `(tactic| first
  | walk_at "rd1"
  | ((with_reducible refine' r_draw ?k0 ?k1 ?k2 ?_); (case k0 => walk_at "pl"); (case k1 => omega); (case k2 => omega); (intro _ _ _ _ _ _))
  | ((with_reducible refine' r_slN ?k0 ?_); (case k0 => walk_at "it"); (intro _ _ _ _ _ _))
  | ((with_reducible refine' r_catN ?k0 ?k1 ?k2 ?_); (case k0 => walk_at "it"); (case k1 => walk_at "it"); (case k2 => walk_at "sz"); (intro _ _ _ _ _ _))
  | ((with_reducible refine' r_pow ?k0 ?_); (case k0 => exact ⟨by decide, by decide, by decide⟩))
  | ((with_reducible refine' r_ixI ?k0 ?k1 ?k2 ?_); (case k0 => walk_at "it"); (case k1 => omega); (case k2 => omega); (intro _ _))
  | ((with_reducible refine' r_setI ?k0 ?k1 ?k2 ?_); (case k0 => walk_at "tk"); (case k1 => omega); (case k2 => omega); (intro _ _ _ _ _))
  | ((with_reducible refine' r_kTupI ?k0 ?_); (case k0 => walk_at "tk"); (intro _ _ _ _ _))
  | ((with_reducible refine' r_listI ?k0 ?_); (case k0 => walk_at "it"); (intro _ _ _ _ _))
  | (with_reducible refine r_revU ?_)
  | ((with_reducible refine' r_prevN ?k0 ?_); (case k0 => walk_at "it"); (intro _ _ _ _ _ _))
  | (intro _ _ _ _ _))
local macro_rules | `(tactic| walk_at "go") => `(tactic| ((repeat (walk_at "au1")); (first
  | ((with_reducible refine r_ite (fun _ => ?_) (fun _ => ?_)) <;> (walk_at "go"))
  | ((with_reducible refine r_iteN (fun _ => ?_) (fun _ => ?_)) <;> (walk_at "go"))
  | dsimp only
  | skip)))
def sp_law_closure (K : PySem.W.Frag) : Sp := fun vs H Q _ => ∃ (n : Nat) (l : Addr) (ps : List (Addr × List Int)), vs = [.int (n : Int), .ref l, .int 720] ∧ 1 ≤ n ∧ n ≤ 12 ∧ LRt H l ps ∧ ps.length ≤ 720 ∧ (∀ r ∈ rws ps, IsRow r n) ∧
  (∀ H', Same H H' → More n (rws ps) 720 → Q .non H') ∧ (∀ p H' qs, H p = none → Same H H' → LRt H' p qs → Clo n (rws ps) (rws qs) → qs.length ≤ 720 → Q (.ref p) H')
abbrev N_law_closure : List Str := ["stage", "rows", "most", "home", "makers", "members", "found", "row", "k", "maker", "new"]
def t_law_closure (K : PySem.W.Frag) : TS :=
  tSeq (tAsg ((tCall (sp_law_rounds K) [] E0 (tCons (tVar 0) tNil))) (gName 3))
  (tSeq (tAsg ((tLst tNil)) (gName 4))
  (tSeq (tAsg ((tLst (tCons (tVar 3) tNil))) (gName 5))
  (tSeq (tAsg ((tDispT (tVar 3) ((tC (.bl true))))) (gName 6))
  (tSeq (tFor (iSeqU K (tVar 1)) (gName 7) ((tIfS ((tB (tDNotIn (tVar 7) (tVar 6)))) (tSeq (tDrop ((tBM K "list" rAppend (tVar 4) (tCons (tVar 7) tNil))))
  (tSeq (tAsg ((tLst (tCons (tVar 3) tNil))) (gName 5))
  (tSeq (tAsg ((tDispT (tVar 3) ((tC (.bl true))))) (gName 6))
  (tSeq (tFor (iRng1 (tCons ((tOp (rAddU K) (tVar 2) ((tC (.int 1))))) tNil)) (gName 8) ((tIfS ((tTest (tChain (rLtU K) (rLeU K) (tVar 8) ((tCB (rLenU K) (tCons (tVar 5) tNil))) (tVar 2)))) ((tFor (iSeqU K (tVar 4)) (gName 9) (tSeq (tAsg ((tCall (sp_law_times K) [] E0 (tCons (tVar 9) (tCons ((tOp (rIx K) (tVar 5) (tVar 8))) tNil)))) (gName 10))
  ((tIfS ((tB (tDNotIn (tVar 10) (tVar 6)))) (tSeq (sDPut (tVar 6) (tVar 10) ((tC (.bl true))))
  ((tDrop ((tBM K "list" rAppend (tVar 5) (tCons (tVar 10) tNil)))))) (tNext)))))) (tNext))))
  ((tIfS ((tTest (tOp rGtU ((tCB (rLenU K) (tCons (tVar 5) tNil))) (tVar 2)))) ((tRet ((tC .non)))) (tNext))))))) (tNext))))
  ((tRet ((tCB (rSortRows K) (tCons (tVar 5) tNil)))))))))
/-- what stands in members while k of them have been done -/
def Inn (n : Nat) (ms qs : List (List Int)) (k : Nat) : Prop := qs.Nodup ∧ roundsR n ∈ qs ∧ (∀ x ∈ qs, Gn n ms x) ∧ (qs.length ≤ 720 → ∀ j x, j < k → qs[j]? = some x → ∀ m ∈ ms, mulR m x ∈ qs)
section
variable {K : PySem.W.Frag} {vs : List V} {H : Hp} {Q : VK} {E : XK}
theorem len_law_closure (h : sp_law_closure K vs H Q E) : vs.length = 3 := by obtain ⟨n, l, ps, rfl, _⟩ := h; rfl
theorem rws_app (a b : List (Addr × List Int)) : rws (a ++ b) = rws a ++ rws b := List.map_append
theorem rws_len (a : List (Addr × List Int)) : (rws a).length = a.length := List.length_map _
theorem pure_law_closure (h : sp_law_closure K vs H Q E) : t_law_closure K (En Q) (start N_law_closure vs) H := by
  obtain ⟨n, l, ps, rfl, n1, n2, hl, hpl, hR, qN, q⟩ := h
  unfold t_law_closure
  walk_at "rd"
  refine ⟨n, rfl, by omega, fun ho H1 nho s1 e1 => ?_⟩
  walk_at "rd"
  intro mk H2 nmk s2 e2
  have e12 := s2 _ _ e1
  walk_at "rd"
  intro me H3 nme s3 e3
  have e13 := s3 _ _ e12
  have e23 := s3 _ _ e2
  walk_at "rd"
  refine r_dispT fun fo H4 nfo s4 e4 => ?_
  have e14 := s4 _ _ e13
  have e24 := s4 _ _ e23
  have e34 := s4 _ _ e3
  walk_at "rd"
  refine r_pdt e4 e14 fun H5 b5 d5 => ?_
  have nfo0 : H fo = none := (((s1.trans s2).trans s3)).free nfo
  have nmk0 : H mk = none := s1.free nmk
  have s05 : Same H H5 := same_but (((s1.trans s2).trans s3).trans s4) b5 nfo0
  have s15 : Same H1 H5 := same_but ((s2.trans s3).trans s4) b5 ((s2.trans s3).free nfo)
  have el5 := s05 _ _ hl.1
  walk_at "rd"
  refine r_forLst (xs := ps.map fun q => V.ref q.1) (fun j σ' H' => ∃ (me fo : Addr) (ms qs : List (Addr × List Int)) (z7 z8 z9 z10 : Option V), σ' = [some (.int (n : Int)), some (.ref l), some (.int 720), some (.ref ho), some (.ref mk), some (.ref me), some (.ref fo), z7, z8, z9, z10] ∧ Same H H' ∧ H' ho = some (.tup ((roundsR n).map V.int)) ∧ LRt H' mk ms ∧ LRt H' me qs ∧ DR H' fo (rws qs) ∧ me ≠ mk ∧ H me = none ∧ H fo = none ∧ Whole n (rws ms) (rws qs) ∧ qs.length ≤ 720 ∧ (∀ r ∈ rws ms, r ∈ rws ps) ∧ ms.length ≤ j ∧ ∀ r ∈ (rws ps).take j, r ∈ rws qs)
    ⟨me, fo, [], [(ho, roundsR n)], none, none, none, none, rfl, s05, b5 _ _ (ne_of e14 e4 (by intro z; cases z)) e14, ⟨b5 _ _ (ne_of e24 e4 (by intro z; cases z)) e24, fun w hw => nomatch hw⟩, ⟨b5 _ _ (ne_of e34 e4 (by intro z; cases z)) e34, fun w hw => by (rw [List.mem_singleton] at hw); subst hw; exact b5 _ _ (ne_of e14 e4 (by intro z; cases z)) e14⟩, d5, (ne_of_none e2 nme).symm, (s1.trans s2).free nme, nfo0, whole_nil n, by simp, (fun r hr => nomatch hr), Nat.le_refl _, fun r hr => nomatch hr⟩ (fun j σ' H' _ hW => ?_) (fun j x σ' H' hj hW => ?_) (fun σ' H' hW => ?_)
  · obtain ⟨me, fo, ms, qs, z7, z8, z9, z10, rfl, st, _⟩ := hW
    exact sqL_of (st _ _ hl.1)
  · obtain ⟨me, fo, ms, qs, z7, z8, z9, z10, rfl, st, eh, lm, lq, df, ne, nme, nfo, wh, q7, sub, mj, al⟩ := hW
    rw [List.getElem?_map] at hj
    obtain ⟨w, hw, rfl⟩ := Option.map_eq_some_iff.mp hj
    have hjl : j < ps.length := (List.getElem?_eq_some_iff.mp hw).1
    have wmem : w.2 ∈ rws ps := List.mem_map.mpr ⟨w, List.mem_of_getElem? hw, rfl⟩
    have ew := st _ _ (hl.2 w (List.mem_of_getElem? hw))
    walk_at "rd"
    refine r_drNo df ew ?_
    walk_at "rd"
    by_cases hin : w.2 ∈ rws qs
    · refine r_iteNP hin ?_
      walk_at "rd"
      refine ⟨me, fo, ms, qs, _, _, _, _, rfl, st, eh, lm, lq, df, ne, nme, nfo, wh, q7, sub, by omega, fun r hr => ?_⟩
      rw [List.take_add_one, rws_at hw, List.mem_append] at hr
      rcases hr with hr | hr
      · exact al r hr
      · have : r = w.2 := by simpa using hr
        subst this; exact hin
    · refine r_iteNM hin ?_
      have emk := lm.1
      walk_at "rd"
      intro H6 b6 e6
      have lm6 := lm.push b6 ew e6
      have s6 := same_but st b6 nmk0
      have eh6 := b6 _ _ (ne_of eh emk (by intro z; cases z)) eh
      have sub' : ∀ r ∈ rws (ms ++ [w]), r ∈ rws ps := fun r hr => by
        rw [rws_app, List.mem_append] at hr
        rcases hr with hr | hr
        · exact sub r hr
        · have : r = w.2 := by simpa using hr
          subst this; exact wmem
      have hM : ∀ r ∈ rws (ms ++ [w]), IsRow r n := fun r hr => hR r (sub' r hr)
      have hml : (ms ++ [w]).length ≤ 720 := by simp; omega
      have mj' : (ms ++ [w]).length ≤ j + 1 := by simp; omega
      have ogn : ∀ r ∈ (rws ps).take (j + 1), Gn n (rws (ms ++ [w])) r := fun r hr => by
        rw [List.take_add_one, rws_at hw, List.mem_append] at hr
        rcases hr with hr | hr
        · refine ((wh.2 r).mp (al r hr)).mono fun x hx => ?_
          rw [rws_app]; exact List.mem_append_left _ hx
        · have : r = w.2 := by simpa using hr
          subst this
          exact Gn.gen hM (by rw [rws_app]; exact List.mem_append_right _ (by simp))
      generalize ms ++ [w] = ms' at lm6 sub' hM hml mj' ogn
      walk_at "rd"
      intro me' H7 nme' s7 e7
      have lm7 := lm6.same s7
      have eh7 := s7 _ _ eh6
      walk_at "rd"
      refine r_dispT fun fo' H8 nfo' s8 e8 => ?_
      have lm8 := lm7.same s8
      have eh8 := s8 _ _ eh7
      have e78 := s8 _ _ e7
      walk_at "rd"
      refine r_pdt e8 eh8 fun H9 b9 d9 => ?_
      have lm9 := lm8.butT b9 e8
      have eh9 := b9 _ _ (ne_of eh8 e8 (by intro z; cases z)) eh8
      have e79 := b9 _ _ (ne_of e78 e8 (by intro z; cases z)) e78
      have nfo0' : H fo' = none := (s6.trans s7).free nfo'
      have nme0' : H me' = none := s6.free nme'
      have s9 : Same H H9 := same_but ((s6.trans s7).trans s8) b9 nfo0'
      have nemk : me' ≠ mk := (ne_of_none lm6.1 nme').symm
      walk_at "rd"
      refine r_forRange0 (fun k σ' H' => ∃ (qs : List (Addr × List Int)) (z8 z9 z10 : Option V), σ' = [some (.int (n : Int)), some (.ref l), some (.int 720), some (.ref ho), some (.ref mk), some (.ref me'), some (.ref fo'), some (.ref w.1), z8, z9, z10] ∧ Same H H' ∧ H' ho = some (.tup ((roundsR n).map V.int)) ∧ LRt H' mk ms' ∧ LRt H' me' qs ∧ DR H' fo' (rws qs) ∧ Inn n (rws ms') (rws qs) k ∧ qs.length ≤ 2000)
        ⟨[(ho, roundsR n)], z8, z9, z10, rfl, s9, eh9, lm9, ⟨e79, fun w hw => by (rw [List.mem_singleton] at hw); subst hw; exact eh9⟩, d9, ⟨by simp, by simp, fun x hx => by (have : x = roundsR n := by simpa using hx); subst this; exact .one, fun _ j x hj => absurd hj (Nat.not_lt_zero j)⟩, by simp⟩ (fun k σ' H' hk hW => ?_) (fun σ' H' hW => ?_)
      · obtain ⟨qs, z8, z9, z10, rfl, s10, eh10, lm10, lq10, d10, in10, q10⟩ := hW
        have eq10 := lq10.1
        have em10 := lm10.1
        have hqq : (rws qs).length = qs.length := rws_len qs
        have skip : ¬ ((k : Int) < (qs.length : Int) ∧ (qs.length : Int) ≤ 720) → Inn n (rws ms') (rws qs) (k + 1) := fun z =>
          ⟨in10.1, in10.2.1, in10.2.2.1, fun h7 i x hi hx => in10.2.2.2 h7 i x (by
            have := (List.getElem?_eq_some_iff.mp hx).1
            omega) hx⟩
        walk_at "rd"
        rw [List.length_map]
        refine r_ite (fun c1 => ?_) (fun c1 => by
          walk_at "rd"
          exact ⟨qs, _, _, _, rfl, s10, eh10, lm10, lq10, d10, skip fun z => c1 z.1, q10⟩)
        walk_at "rd"
        refine r_ite (fun c2 => ?_) (fun c2 => by
          walk_at "rd"
          exact ⟨qs, _, _, _, rfl, s10, eh10, lm10, lq10, d10, skip fun z => c2 z.2, q10⟩)
        obtain ⟨q0, hq0⟩ := at_of (xs := qs) (i := k) (by omega)
        have gq0 : Gn n (rws ms') q0.2 := in10.2.2.1 _ (List.mem_map.mpr ⟨q0, List.mem_of_getElem? hq0, rfl⟩)
        walk_at "rd"
        refine r_forLst (xs := ms'.map fun q => V.ref q.1) (fun i σ' H' => ∃ (rs : List (Addr × List Int)) (z9 z10 : Option V), σ' = [some (.int (n : Int)), some (.ref l), some (.int 720), some (.ref ho), some (.ref mk), some (.ref me'), some (.ref fo'), some (.ref w.1), some (.int (k : Int)), z9, z10] ∧ Same H H' ∧ H' ho = some (.tup ((roundsR n).map V.int)) ∧ LRt H' mk ms' ∧ LRt H' me' (qs ++ rs) ∧ DR H' fo' (rws (qs ++ rs)) ∧ (rws (qs ++ rs)).Nodup ∧ (∀ x ∈ rws (qs ++ rs), Gn n (rws ms') x) ∧ rs.length ≤ i ∧ ∀ m ∈ (rws ms').take i, mulR m q0.2 ∈ rws (qs ++ rs))
          ⟨[], z9, z10, rfl, s10, eh10, lm10, by rw [List.append_nil]; exact lq10, by rw [List.append_nil]; exact d10, by rw [List.append_nil]; exact in10.1, by rw [List.append_nil]; exact in10.2.2.1, Nat.le_refl _, fun m hm => by simp at hm⟩ (fun i σ' H' _ hW => ?_) (fun i x σ' H' hi hW => ?_) (fun σ' H' hW => ?_)
        · obtain ⟨rs, z9, z10, rfl, s11, eh11, lm11, _⟩ := hW
          exact sqL_of lm11.1
        · obtain ⟨rs, z9, z10, rfl, s11, eh11, lm11, lq11, d11, nd11, g11, l11, c11⟩ := hW
          rw [List.getElem?_map] at hi
          obtain ⟨mv, hmv, rfl⟩ := Option.map_eq_some_iff.mp hi
          have mmem : mv.2 ∈ rws ms' := List.mem_map.mpr ⟨mv, List.mem_of_getElem? hmv, rfl⟩
          have him : i < ms'.length := (List.getElem?_eq_some_iff.mp hmv).1
          have emv := lm11.2 mv (List.mem_of_getElem? hmv)
          have hq11 := at_app (ys := rs) hq0
          have eq0 := lq11.2 q0 (List.mem_of_getElem? hq11)
          have ef11 := lq11.1
          have hat := atI_nat (LRt.at (H := H) (l := me') hq11)
          walk_at "rd"
          refine ⟨mv.1, q0.1, mv.2, q0.2, n, rfl, sqT_of emv, sqT_of eq0, hM _ mmem, gq0.row hM, by omega, fun p H12 np s12 e12 => ?_⟩
          have lq12 := lq11.same s12
          have lm12 := lm11.same s12
          have d12 := DR.same s12 d11
          have eh12 := s12 _ _ eh11
          have gnew : Gn n (rws ms') (mulR mv.2 q0.2) := gl_step hM gq0 mmem
          walk_at "rd"
          refine r_drNo d12 e12 ?_
          walk_at "rd"
          by_cases hin : mulR mv.2 q0.2 ∈ rws (qs ++ rs)
          · refine r_iteNP hin ?_
            walk_at "rd"
            refine ⟨rs, _, _, rfl, s11.trans s12, eh12, lm12, lq12, d12, nd11, g11, by omega, fun m hm => ?_⟩
            rw [List.take_add_one, rws_at hmv, List.mem_append] at hm
            rcases hm with hm | hm
            · exact c11 m hm
            · have : m = mv.2 := by simpa using hm
              subst this; exact hin
          · refine r_iteNM hin ?_
            have nd13 : (rws (qs ++ rs) ++ [mulR mv.2 q0.2]).Nodup := by
              rw [List.nodup_append]
              refine ⟨nd11, by simp, fun a ha b hb z => hin ?_⟩
              rw [List.mem_singleton] at hb
              rw [← hb, ← z]; exact ha
            have g13 : ∀ x ∈ rws (qs ++ rs) ++ [mulR mv.2 q0.2], Gn n (rws ms') x := fun x hx => by
              rcases List.mem_append.mp hx with hx | hx
              · exact g11 x hx
              · rw [List.mem_singleton] at hx; subst hx; exact gnew
            walk_at "rd"
            refine r_drPut d12 e12 (by rw [rws_len, List.length_append, sizeLine_eq]; omega) fun H13 b13 d13 => ?_
            obtain ⟨kvs, ed12, _⟩ := d12
            have lq13 := lq12.butT b13 ed12
            have lm13 := lm12.butT b13 ed12
            have eh13 := b13 _ _ (ne_of eh12 ed12 (by intro z; cases z)) eh12
            have e13' := b13 _ _ (ne_of e12 ed12 (by intro z; cases z)) e12
            have ef13 := lq13.1
            walk_at "rd"
            refine r_append ef13 (by rw [List.length_map, List.length_append, sizeLine_eq]; omega) fun H14 b14 e14' => ?_
            have d14 := DR.butL b14 ef13 d13
            have lq14 := lq13.push b14 e13' e14'
            have lm14 := lm13.butL b14 ef13 nemk.symm
            have eh14 := b14 _ _ (ne_of eh13 ef13 (by intro z; cases z)) eh13
            refine ⟨rs ++ [(p, mulR mv.2 q0.2)], _, _, rfl, same_but (same_but (s11.trans s12) b13 nfo0') b14 nme0', eh14, lm14, ?_, ?_, ?_, ?_, by rw [List.length_append]; simp only [List.length_cons, List.length_nil]; omega, fun m hm => ?_⟩
            · rw [← List.append_assoc]; exact lq14
            · rw [← List.append_assoc, rws_app]; exact d14
            · rw [← List.append_assoc, rws_app]; exact nd13
            · rw [← List.append_assoc, rws_app]; exact g13
            · rw [← List.append_assoc, rws_app, List.mem_append]
              rw [List.take_add_one, rws_at hmv, List.mem_append] at hm
              rcases hm with hm | hm
              · exact .inl (c11 m hm)
              · have : m = mv.2 := by simpa using hm
                subst this; exact .inr (by simp)
        · obtain ⟨rs, z9, z10, rfl, s11, eh11, lm11, lq11, d11, nd11, g11, l11, c11⟩ := hW
          have hlen : (ms'.map fun q => V.ref q.1).length = (rws ms').length := by rw [List.length_map, rws_len]
          rw [hlen, List.take_length] at c11
          rw [List.length_map] at l11
          have sub2 : ∀ x, x ∈ rws qs → x ∈ rws (qs ++ rs) := fun x hx => by rw [rws_app]; exact List.mem_append_left _ hx
          refine ⟨qs ++ rs, _, _, _, rfl, s11, eh11, lm11, lq11, d11, ⟨nd11, sub2 _ in10.2.1, g11, fun h7 i x hi hx m hm => ?_⟩, by rw [List.length_append]; omega⟩
          by_cases hik : i = k
          · subst hik
            rw [rws_at (at_app (ys := rs) hq0)] at hx
            cases hx
            exact c11 m hm
          · obtain ⟨v, hv⟩ := at_of (xs := qs) (i := i) (by omega)
            rw [rws_at (at_app (ys := rs) hv)] at hx
            cases hx
            exact sub2 _ (in10.2.2.2 (by omega) i v.2 (by omega) (rws_at hv) m hm)
      · obtain ⟨qs, z8, z9, z10, rfl, s10, eh10, lm10, lq10, d10, in10, q10⟩ := hW
        have eq10 := lq10.1
        walk_at "rd"
        rw [List.length_map]
        refine r_ite (fun hgt => ?_) (fun hle => ?_)
        · walk_at "rd"
          refine qN H' s10 (More.mono sub' ⟨rws qs, in10.1, in10.2.2.1, by rw [rws_len]; omega⟩)
        · have w10 : Whole n (rws ms') (rws qs) := whole_left hM in10.1 in10.2.1 in10.2.2.1 fun x hx m hm => by
            obtain ⟨i, hi, e⟩ := List.getElem_of_mem hx
            have hq : (rws qs).length = qs.length := rws_len qs
            exact in10.2.2.2 (by omega) i x (by omega) (by rw [List.getElem?_eq_getElem hi, e]) m hm
          walk_at "rd"
          refine ⟨me', fo', ms', qs, _, _, _, _, rfl, s10, eh10, lm10, lq10, d10, nemk, nme0', nfo0', w10, by omega, sub', mj', fun r hr => (w10.2 r).mpr (ogn r hr)⟩
  · obtain ⟨me, fo, ms, qs, z7, z8, z9, z10, rfl, st, eh, lm, lq, df, ne, nme, nfo, wh, q7, sub, mj, al⟩ := hW
    have hlen : (ps.map fun q => V.ref q.1).length = (rws ps).length := by rw [List.length_map, rws_len]
    rw [hlen, List.take_length] at al
    have w4 : Whole n (rws ps) (rws qs) := wh.rows hR sub al
    walk_at "rd"
    refine r_sortRows lq (fun w hw => rows_ne (by omega) hR w4 (List.mem_map.mpr ⟨w, hw, rfl⟩)) fun p H4 qs' np s4 f4 pm so => ?_
    walk_at "rd"
    refine q p H4 qs' (st.free np) (st.trans s4) f4 ⟨Whole.permL w4 (pm.map _), so⟩ ?_
    rw [pm.length_eq]; exact q7
end
end K5
end Kb
set_option Elab.async false
set_option linter.all false
set_option maxRecDepth 100000
set_option maxHeartbeats 4000000
namespace Kb
namespace K5
open PySem PySem.Spec PyProof.Rows L2
local macro_rules | `(tactic| walk_at "tk") => `(tactic| first
  | assumption
  | ((with_reducible refine' sqT_of ?k); (case k => assumption))
  | ((with_reducible refine' sqT_ofD ?k); (case k => assumption))
  | ((with_reducible refine' noD_of ?k); (case k => assumption))
  | ((with_reducible refine' noD_same ?s ?k); (case s => assumption); (case k => walk_at "tk"))
  | ((with_reducible refine' sqL_of ?k); (case k => assumption))
  | ((with_reducible refine' sqT_same ?s ?k); (case s => assumption); (case k => walk_at "tk"))
  | ((with_reducible refine' sqL_same ?s ?k); (case s => assumption); (case k => walk_at "tk"))
  | ((with_reducible refine' sqT_but ?s ?t ?k); (case s => assumption); (case t => walk_at "tk"); (case k => walk_at "tk"))
  | ((with_reducible refine' sqL_but ?s ?t ?k); (case s => assumption); (case t => walk_at "ne"); (case k => walk_at "tk"))
  | ((with_reducible refine' sqL_of ?k); (case k => walk_at "tk"))
  | ((with_reducible refine' sqT_of ?k); (case k => walk_at "tk"))
  | ((with_reducible refine' at_same ?s ?k); (case s => assumption); (case k => walk_at "tk"))
  | ((with_reducible refine' at_but ?s ?t ?k); (case s => assumption); (case t => walk_at "ne"); (case k => walk_at "tk")))
local macro_rules | `(tactic| walk_at "ne") => `(tactic| first
  | assumption
  | (refine Ne.symm ?_; assumption)
  | exact ne_of_none (by assumption) (by assumption)
  | exact (ne_of_none (by assumption) (by assumption)).symm)
local macro_rules | `(tactic| walk_at "side") => `(tactic| first
  | assumption
  | omega
  | (simp only [sizeLine_eq, List.length_cons, List.length_nil, List.length_map]; omega)
  | (show _ ≤ sizeLine; decide))
local macro_rules | `(tactic| walk_at "kit") => `(tactic| first
  | (show kitB _ _ = some true; decide +kernel)
  | (show kitB _ _ = some false; decide +kernel))
local macro_rules | `(tactic| walk_at "rng") => `(tactic| first
  | (refine ⟨by omega, by omega, by omega, by omega⟩)
  | (refine ⟨by omega, by omega⟩)
  | ((simp only [List.length_map]); (refine ⟨by omega, by omega, by omega, by omega⟩))
  | ((simp only [List.length_map]); (refine ⟨by omega, by omega⟩)))
local macro_rules | `(tactic| walk_at "rd1") => `(tactic| first
  | with_reducible refine r_seq ?_
  | ((with_reducible refine' r_var ?k0 ?_); (case k0 => rfl))
  | with_reducible refine r_op ?_
  | with_reducible refine r_c ?_
  | with_reducible refine r_asg ?_
  | with_reducible refine r_name ?_
  | with_reducible refine r_cons ?_
  | with_reducible refine r_nil ?_
  | with_reducible refine r_CB ?_
  | with_reducible refine r_if ?_
  | with_reducible refine r_test ?_
  | with_reducible refine r_k ?_
  | with_reducible refine r_T ?_
  | with_reducible refine r_F ?_
  | with_reducible refine r_nT ?_
  | with_reducible refine r_nF ?_
  | with_reducible refine r_ret ?_
  | with_reducible refine r_drop ?_
  | with_reducible refine r_next ?_
  | with_reducible refine r_call ?_
  | with_reducible refine r_addI ?_
  | with_reducible refine r_subI ?_
  | with_reducible refine r_ltI ?_
  | with_reducible refine r_gtI ?_
  | with_reducible refine r_leI ?_
  | with_reducible refine r_geI ?_
  | with_reducible refine r_eqI ?_
  | with_reducible refine r_neI ?_
  | with_reducible refine r_int ?_
  | with_reducible refine r_abs ?_
  | with_reducible refine r_not ?_
  | with_reducible refine r_and ?_
  | with_reducible refine r_or ?_
  | with_reducible refine r_tru ?_
  | with_reducible refine r_truB ?_
  | with_reducible refine r_lst ?_
  | with_reducible refine r_tup ?_
  | with_reducible refine r_BM ?_
  | with_reducible refine r_BM0 ?_
  | with_reducible refine r_tyS ?_
  | with_reducible refine r_gsub ?_
  | with_reducible refine r_then ?_
  | with_reducible refine r_lstRg ?_
  | with_reducible refine r_tupRg ?_
  | with_reducible refine r_rg2 ?_
  | with_reducible refine r_rg1 ?_
  | with_reducible refine r_ii ?_
  | with_reducible refine r_i ?_
  | with_reducible refine r_ipI ?_
  | with_reducible refine r_un ?_
  | with_reducible refine r_neg ?_
  | with_reducible refine r_isN ?_
  | with_reducible refine r_notN ?_
  | with_reducible refine r_notV ?_
  | with_reducible refine r_pnot ?_
  | with_reducible refine r_pif ?_
  | with_reducible refine r_andV ?_
  | with_reducible refine r_orV ?_
  | with_reducible refine r_ifE ?_
  | with_reducible refine r_chain ?_
  | with_reducible refine r_sl ?_
  | with_reducible refine r_noPart ?_
  | with_reducible refine r_part ?_
  | with_reducible refine r_brk ?_
  | with_reducible refine r_cont ?_
  | with_reducible refine r_retN ?_
  | with_reducible refine r_truI ?_
  | with_reducible refine r_B ?_
  | with_reducible refine r_for ?_
  | with_reducible refine r_rng1 ?_
  | with_reducible refine r_rng2 ?_
  | with_reducible refine r_rng3 ?_
  | with_reducible refine r_body ?_
  | with_reducible refine r_lc ?_
  | with_reducible refine r_yes ?_
  | ((with_reducible refine' r_mod ?k0 ?_); (case k0 => walk_at "side"))
  | ((with_reducible refine' r_mulI ?k0 ?_); (case k0 => first | exact Or.inl ⟨by omega, by omega⟩ | exact Or.inr ⟨by omega, by omega⟩))
  | ((with_reducible refine' r_lenL ?k0 ?_); (case k0 => walk_at "tk"))
  | ((with_reducible refine' r_lenT ?k0 ?_); (case k0 => walk_at "tk"))
  | ((with_reducible refine' r_truL ?k0 ?_); (case k0 => walk_at "tk"))
  | ((with_reducible refine' r_truT ?k0 ?_); (case k0 => walk_at "tk"))
  | ((with_reducible refine' r_ixL ?k0 ?k1 ?_); (case k0 => walk_at "tk"); (case k1 => first | assumption | rfl))
  | ((with_reducible refine' r_ixT ?k0 ?k1 ?_); (case k0 => walk_at "tk"); (case k1 => first | assumption | rfl))
  | ((with_reducible refine' r_new ?k0 ?_); (case k0 => walk_at "side"))
  | ((with_reducible refine' r_tyL ?k0 ?_); (case k0 => walk_at "tk"))
  | ((with_reducible refine' r_append ?k0 ?k1 ?_); (case k0 => walk_at "tk"); (case k1 => walk_at "side"))
  | ((with_reducible refine' r_setL ?k0 ?k1 ?_); (case k0 => walk_at "tk"); (case k1 => first | assumption | rfl))
  | ((with_reducible refine' r_kTupL ?k0 ?_); (case k0 => walk_at "tk"))
  | ((with_reducible refine' r_kTupT ?k0 ?_); (case k0 => walk_at "tk"))
  | ((with_reducible refine' r_listL ?k0 ?_); (case k0 => walk_at "tk"))
  | ((with_reducible refine' r_listT ?k0 ?_); (case k0 => walk_at "tk"))
  | ((with_reducible refine' r_aug ?k0 ?_); (case k0 => rfl))
  | ((with_reducible refine' r_lenS ?k0 ?_); (case k0 => walk_at "side"))
  | ((with_reducible refine' r_pop ?k0 ?_); (case k0 => walk_at "tk"))
  | ((with_reducible refine' r_pr1 ?k0 ?_); (case k0 => walk_at "rng"))
  | ((with_reducible refine' r_pr2 ?k0 ?_); (case k0 => walk_at "rng"))
  | ((with_reducible refine' r_pr3d ?k0 ?_); (case k0 => walk_at "rng"))
  | ((with_reducible refine' r_isiI ?k0 ?_); (case k0 => walk_at "kit"))
  | ((with_reducible refine' r_isiB ?k0 ?_); (case k0 => walk_at "kit"))
  | ((with_reducible refine' r_isiS ?k0 ?_); (case k0 => walk_at "kit"))
  | ((with_reducible refine' r_isiN ?k0 ?_); (case k0 => walk_at "kit"))
  | ((with_reducible refine' r_isiT ?k0 ?k1 ?_); (case k0 => walk_at "tk"); (case k1 => walk_at "kit"))
  | ((with_reducible refine r_seqT ?_); (repeat (walk_at "rd1")); ((with_reducible refine' r_pseqT ?k0 ?_); (case k0 => walk_at "tk")))
  | ((with_reducible refine r_seqL ?_); (repeat (walk_at "rd1")); ((with_reducible refine' r_pseqL ?k0 ?_); (case k0 => walk_at "tk")))
  | ((with_reducible refine r_seqS ?_); (repeat (walk_at "rd1")); (with_reducible refine r_pseqS ?_)))
local macro_rules | `(tactic| walk_at "rd") => `(tactic| ((repeat (walk_at "rd1")); (try dsimp only)))
local macro_rules | `(tactic| walk_at "rd1") => `(tactic| first
  | with_reducible refine r_BMT ?_
  | with_reducible refine r_par ?_
  | with_reducible refine r_parV ?_
  | ((with_reducible refine' r_ptp ?k0 ?k1 ?_); (case k0 => walk_at "tk"); (case k1 => walk_at "tk"))
  | with_reducible refine r_eqS ?_
  | with_reducible refine r_neS ?_
  | with_reducible refine r_callW ?_
  | with_reducible refine r_try ?_
  | with_reducible refine r_enT ?_
  | ((with_reducible refine' r_pen ?k0 ?_); (case k0 => walk_at "tk")))
local macro_rules | `(tactic| walk_at "rd1") => `(tactic| first
  | with_reducible refine r_dIn ?_
  | with_reducible refine r_dNo ?_
  | with_reducible refine r_dPut ?_
  | with_reducible refine r_dGet ?_)
local macro_rules | `(tactic| walk_at "pl0") => `(tactic| first
  | assumption
  | exact pl_same (by assumption) (by assumption)
  | exact pl_same (by assumption) (pl_same (by assumption) (by assumption))
  | exact pl_same (by assumption) (pl_same (by assumption) (pl_same (by assumption) (by assumption))))
local macro_rules | `(tactic| walk_at "pl") => `(tactic| first
  | walk_at "pl0"
  | ((with_reducible refine' pl_butL ?s ?n ?k); (case s => assumption); (case n => walk_at "ne"); (case k => walk_at "pl"))
  | ((with_reducible refine' pl_same ?s ?k); (case s => assumption); (case k => walk_at "pl")))
local macro_rules | `(tactic| walk_at "ne") => `(tactic| first
  | exact ne_pl (by assumption) (by walk_at "pl0")
  | exact (ne_pl (by assumption) (by walk_at "pl0")).symm)
local macro_rules | `(tactic| walk_at "fr") => `(tactic| first
  | assumption
  | ((with_reducible refine' free_but ?b ?n ?h); (case h => assumption); (case n => walk_at "ne"); (case b => walk_at "but"))
  | ((with_reducible refine' Same.free ?b ?h); (case h => assumption); (case b => walk_at "same")))
local macro_rules | `(tactic| walk_at "but") => `(tactic| first
  | assumption
  | exact But.refl
  | ((with_reducible refine' But.trans ?a ?b); (case b => assumption); (case a => walk_at "but"))
  | ((with_reducible refine' But.trans ?a (Same.but ?b)); (case b => assumption); (case a => walk_at "but"))
  | ((with_reducible refine' but_via ?a ?b ?c); (case b => assumption); (case c => walk_at "fr"); (case a => walk_at "but")))
local macro_rules | `(tactic| walk_at "same") => `(tactic| first
  | assumption
  | exact Same.refl _
  | ((with_reducible refine' Same.trans ?a ?b); (case b => assumption); (case a => walk_at "same"))
  | ((with_reducible refine' same_but ?a ?b ?c); (case b => assumption); (case c => walk_at "fr"); (case a => walk_at "same")))
local macro_rules | `(tactic| walk_at "tk") => `(tactic| first
  | ((with_reducible refine' sqT_pl ?s ?t ?k); (case s => assumption); (case t => walk_at "pl0"); (case k => walk_at "tk"))
  | ((with_reducible refine' rp_same ?s ?k); (case s => assumption); (case k => walk_at "tk"))
  | ((with_reducible refine' rp_pl ?s ?t ?k); (case s => assumption); (case t => walk_at "pl0"); (case k => walk_at "tk")))
local macro_rules | `(tactic| walk_at "it") => `(tactic| first
  | assumption
  | ((with_reducible refine' sqI_1 ?k); (case k => assumption))
  | ((with_reducible refine' sqI_0 ?k); (case k => assumption))
  | ((with_reducible refine' sqI_of ?k); (case k => assumption))
  | ((with_reducible refine' sqI_D ?k); (case k => assumption))
  | ((with_reducible refine' sqT_same ?s ?k); (case s => assumption); (case k => walk_at "it"))
  | ((with_reducible refine' sqT_but ?s ?t ?k); (case s => assumption); (case t => assumption); (case k => walk_at "it"))
  | ((with_reducible refine' sqT_pl ?s ?t ?k); (case s => assumption); (case t => walk_at "pl0"); (case k => walk_at "it")))
local macro_rules | `(tactic| walk_at "sz") => `(tactic| first | omega | ((try simp only [List.length_cons, List.length_nil] at *); omega))
local macro_rules | `(tactic| walk_at "au1") => `(tactic| first
  | walk_at "rd1"
  | ((with_reducible refine' r_draw ?k0 ?k1 ?k2 ?_); (case k0 => walk_at "pl"); (case k1 => omega); (case k2 => omega); (intro _ _ _ _ _ _))
  | ((with_reducible refine' r_slN ?k0 ?_); (case k0 => walk_at "it"); (intro _ _ _ _ _ _))
  | ((with_reducible refine' r_catN ?k0 ?k1 ?k2 ?_); (case k0 => walk_at "it"); (case k1 => walk_at "it"); (case k2 => walk_at "sz"); (intro _ _ _ _ _ _))
  | ((with_reducible refine' r_pow ?k0 ?_); (case k0 => exact ⟨by decide, by decide, by decide⟩))
  | ((with_reducible refine' r_ixI ?k0 ?k1 ?k2 ?_); (case k0 => walk_at "it"); (case k1 => omega); (case k2 => omega); (intro _ _))
  | ((with_reducible refine' r_setI ?k0 ?k1 ?k2 ?_); (case k0 => walk_at "tk"); (case k1 => omega); (case k2 => omega); (intro _ _ _ _ _))
  | ((with_reducible refine' r_kTupI ?k0 ?_); (case k0 => walk_at "tk"); (intro _ _ _ _ _))
  | ((with_reducible refine' r_listI ?k0 ?_); (case k0 => walk_at "it"); (intro _ _ _ _ _))
  | (with_reducible refine r_revU ?_)
  | ((with_reducible refine' r_prevN ?k0 ?_); (case k0 => walk_at "it"); (intro _ _ _ _ _ _))
  | (intro _ _ _ _ _))
local macro_rules | `(tactic| walk_at "go") => `(tactic| ((repeat (walk_at "au1")); (first
  | ((with_reducible refine r_ite (fun _ => ?_) (fun _ => ?_)) <;> (walk_at "go"))
  | ((with_reducible refine r_iteN (fun _ => ?_) (fun _ => ?_)) <;> (walk_at "go"))
  | dsimp only
  | skip)))
abbrev XN : List Str := ["ChamberError", "BadStage", "Unlike", "TooManyHeads", "TooManyPlaces"]
section
variable {K : PySem.W.Frag} {ec : Str → Addr} {vs : List V} {H : Hp} {Q : VK} {E : XK}
def dD (r : List Int) : Dat := .tup (r.map Dat.int)
theorem rpL_rows : ∀ {qs : List (Addr × List Int)}, (∀ q ∈ qs, H q.1 = some (.tup (q.2.map V.int))) → RpL K H (qs.map fun q => V.ref q.1) ((rws qs).map dD)
  | [], _ => .nil
  | q :: qs, h => .cons (rp_ints (sqT_of (h q (by simp)))) (rpL_rows fun w hw => h w (by simp [hw]))
theorem size_dD (r : List Int) : (dD r).size = r.length + 1 := by
  have : ∀ r : List Int, Dat.sizes (r.map Dat.int) = r.length := fun r => by
    induction r with
    | nil => rfl
    | cons a r ih =>
      have e : (Dat.int a).size = 1 := by simp [Dat.size]
      rw [List.map_cons, Dat.sizes, ih, e, List.length_cons]; omega
  rw [dD, Dat.size, this]; omega
theorem size_rows {n : Nat} : ∀ {L : List (List Int)}, (∀ r ∈ L, r.length ≤ n) → Dat.sizes (L.map dD) ≤ L.length * (n + 1)
  | [], _ => Nat.zero_le _
  | r :: L, h => by
    have := size_rows (L := L) fun w hw => h w (by simp [hw])
    have h1 := h r (by simp)
    rw [List.map_cons, Dat.sizes, size_dD, List.length_cons, Nat.succ_mul]
    omega
end
end K5
end Kb
set_option Elab.async false
set_option linter.all false
namespace Kb
namespace K5
theorem whole_self {n : Nat} {R W : List (List Int)} (hR : ∀ r ∈ R, IsRow r n) (h : Whole n R W) : Whole n W W :=
  Whole.rows (fun r hr => ((h.2 r).mp hr).row hR) h (fun m hm => (h.2 m).mpr (Gn.gen hR hm)) fun r hr => hr
/-- rows of the closure that have all makers among them give the same closure -/
theorem whole_mid {n : Nat} {R M W X : List (List Int)} (hR : ∀ r ∈ R, IsRow r n) (h : Whole n R W) (hM : Whole n M W) (h1 : ∀ m ∈ M, m ∈ X) (h2 : ∀ x ∈ X, x ∈ W) : Whole n X W :=
  Whole.rows (fun r hr => ((h.2 r).mp (h2 r hr)).row hR) hM h1 h2
theorem sort_rows (L : List (List Int)) : ∃ L' : List (List Int), L'.Perm L ∧ L'.Pairwise (· ≤ ·) := by
  refine ⟨L.mergeSort fun a b => decide (a ≤ b), List.mergeSort_perm _ _, ?_⟩
  have := List.pairwise_mergeSort (le := fun (a b : List Int) => decide (a ≤ b)) (fun a b c h1 h2 => decide_eq_true (List.le_trans (of_decide_eq_true h1) (of_decide_eq_true h2))) (fun a b => by
    rcases List.le_total a b with h | h
    · simp [h]
    · simp [h]) L
  exact this.imp fun h => of_decide_eq_true h
theorem exists_cos {n : Nat} {R I W P : List (List Int)} (hR : ∀ r ∈ R, IsRow r n) (hI : ∀ r ∈ I, r ∈ R) (hW : Clo n R W) (hP : Whole n I P) : ∃ C, Cos n W P C := by
  have : ∀ i, i ≤ W.length → ∃ C, CosP n W P C i := fun i => by
    induction i with
    | zero => exact fun _ => ⟨[], CosP.nil n W P⟩
    | succ i ih =>
      intro hi
      obtain ⟨C, h⟩ := ih (by omega)
      have hx : W[i]? = some W[i] := List.getElem?_eq_getElem (by omega)
      by_cases hin : W[i] ∈ C.flatten
      · exact ⟨C, h.skip hx hin⟩
      · obtain ⟨c, pc, sc⟩ := sort_rows (cosetL W[i] P)
        exact ⟨C ++ [c], h.step hR hI hW hP hx hin pc sc⟩
  obtain ⟨C, h⟩ := this W.length (Nat.le_refl _)
  exact ⟨C, h.done⟩
theorem lagrange {n : Nat} {R I W P : List (List Int)} (hR : ∀ r ∈ R, IsRow r n) (hI : ∀ r ∈ I, r ∈ R) (hW : Clo n R W) (hP : Whole n I P) : ∃ c, W.length = c * P.length := by
  obtain ⟨C, h⟩ := exists_cos hR hI hW hP
  exact ⟨C.length, (h.count hW.1.1).symm⟩
theorem inv_eq {n : Nat} {bs p r : List Int} (hb : bs.length = n) (hp : IsRow p n) (hr : IsRow r n) (e : mulR bs r = mulR p r) : bs = p := by
  apply List.ext_getElem
  · rw [hb, hp.1]
  · intro k h1 h2
    obtain ⟨j, hj, ej⟩ := List.getElem_of_mem (row_mem hr (b := (k : Int) + 1) (by omega) (by omega))
    have e2 : (mulR bs r)[j]? = (mulR p r)[j]? := by rw [e]
    unfold mulR at e2
    rw [List.getElem?_map, List.getElem?_map, List.getElem?_eq_getElem hj, ej] at e2
    simp only [Option.map_some, Option.some.injEq] at e2
    rw [show ((k : Int) + 1 - 1).toNat = k by omega, getD_in h1, getD_in h2] at e2
    exact e2
theorem inv_in {n : Nat} {R W : List (List Int)} (hR : ∀ r ∈ R, IsRow r n) (h : Whole n R W) {r bs : List Int} (hr : r ∈ W) (hb : bs.length = n) (e : mulR bs r = roundsR n) : bs ∈ W := by
  obtain ⟨p, hp, ep⟩ := right_onto hR h hr ((h.2 (roundsR n)).mpr .one)
  have := inv_eq hb (((h.2 p).mp hp).row hR) (((h.2 r).mp hr).row hR) (e.trans ep.symm)
  rw [this]; exact hp
/-- rounds with two neighbours exchanged -/
def swapR (n p : Nat) : List Int := ((roundsR n).set p ((p : Int) + 2)).set (p + 1) ((p : Int) + 1)
theorem swapR_row {n p : Nat} (hn : n ≤ 12) (hp : p + 1 < n) : IsRow (swapR n p) n := by
  have h : ((List.range 13).all fun n => (List.range 12).all fun p => !decide (p + 1 < n) || (decide ((swapR n p).length = n) && decide (swapR n p).Nodup && (swapR n p).all fun x => decide (1 ≤ x) && decide (x ≤ (n : Int)))) = true := by decide +kernel
  have h1 := List.all_eq_true.mp h n (List.mem_range.mpr (by omega))
  have h2 := List.all_eq_true.mp h1 p (List.mem_range.mpr (by omega))
  have e : decide (p + 1 < n) = true := decide_eq_true hp
  rw [e] at h2
  simp only [Bool.not_true, Bool.false_or, Bool.and_eq_true, decide_eq_true_eq, List.all_eq_true] at h2
  exact ⟨h2.1.1, h2.1.2, h2.2⟩
end K5
end Kb
set_option Elab.async false
set_option linter.all false
set_option maxRecDepth 100000
set_option maxHeartbeats 4000000
namespace Kb
namespace K5
namespace K7
open PySem PySem.Spec PyProof.Rows L2
local macro_rules | `(tactic| walk_at "tk") => `(tactic| first
  | assumption
  | ((with_reducible refine' sqT_of ?k); (case k => assumption))
  | ((with_reducible refine' sqT_ofD ?k); (case k => assumption))
  | ((with_reducible refine' noD_of ?k); (case k => assumption))
  | ((with_reducible refine' noD_same ?s ?k); (case s => assumption); (case k => walk_at "tk"))
  | ((with_reducible refine' sqL_of ?k); (case k => assumption))
  | ((with_reducible refine' sqT_same ?s ?k); (case s => assumption); (case k => walk_at "tk"))
  | ((with_reducible refine' sqL_same ?s ?k); (case s => assumption); (case k => walk_at "tk"))
  | ((with_reducible refine' sqT_but ?s ?t ?k); (case s => assumption); (case t => walk_at "tk"); (case k => walk_at "tk"))
  | ((with_reducible refine' sqL_but ?s ?t ?k); (case s => assumption); (case t => walk_at "ne"); (case k => walk_at "tk"))
  | ((with_reducible refine' sqL_of ?k); (case k => walk_at "tk"))
  | ((with_reducible refine' sqT_of ?k); (case k => walk_at "tk"))
  | ((with_reducible refine' at_same ?s ?k); (case s => assumption); (case k => walk_at "tk"))
  | ((with_reducible refine' at_but ?s ?t ?k); (case s => assumption); (case t => walk_at "ne"); (case k => walk_at "tk")))
local macro_rules | `(tactic| walk_at "ne") => `(tactic| first
  | assumption
  | (refine Ne.symm ?_; assumption)
  | exact ne_of_none (by assumption) (by assumption)
  | exact (ne_of_none (by assumption) (by assumption)).symm)
local macro_rules | `(tactic| walk_at "side") => `(tactic| first
  | assumption
  | omega
  | (simp only [sizeLine_eq, List.length_cons, List.length_nil, List.length_map]; omega)
  | (show _ ≤ sizeLine; decide))
local macro_rules | `(tactic| walk_at "kit") => `(tactic| first
  | (show kitB _ _ = some true; decide +kernel)
  | (show kitB _ _ = some false; decide +kernel))
local macro_rules | `(tactic| walk_at "rng") => `(tactic| first
  | (refine ⟨by omega, by omega, by omega, by omega⟩)
  | (refine ⟨by omega, by omega⟩)
  | ((simp only [List.length_map]); (refine ⟨by omega, by omega, by omega, by omega⟩))
  | ((simp only [List.length_map]); (refine ⟨by omega, by omega⟩)))
local macro_rules | `(tactic| walk_at "rd1") => `(tactic| first
  | with_reducible refine r_seq ?_
  | ((with_reducible refine' r_var ?k0 ?_); (case k0 => rfl))
  | with_reducible refine r_op ?_
  | with_reducible refine r_c ?_
  | with_reducible refine r_asg ?_
  | with_reducible refine r_name ?_
  | with_reducible refine r_cons ?_
  | with_reducible refine r_nil ?_
  | with_reducible refine r_CB ?_
  | with_reducible refine r_if ?_
  | with_reducible refine r_test ?_
  | with_reducible refine r_k ?_
  | with_reducible refine r_T ?_
  | with_reducible refine r_F ?_
  | with_reducible refine r_nT ?_
  | with_reducible refine r_nF ?_
  | with_reducible refine r_ret ?_
  | with_reducible refine r_drop ?_
  | with_reducible refine r_next ?_
  | with_reducible refine r_call ?_
  | with_reducible refine r_addI ?_
  | with_reducible refine r_subI ?_
  | with_reducible refine r_ltI ?_
  | with_reducible refine r_gtI ?_
  | with_reducible refine r_leI ?_
  | with_reducible refine r_geI ?_
  | with_reducible refine r_eqI ?_
  | with_reducible refine r_neI ?_
  | with_reducible refine r_int ?_
  | with_reducible refine r_abs ?_
  | with_reducible refine r_not ?_
  | with_reducible refine r_and ?_
  | with_reducible refine r_or ?_
  | with_reducible refine r_tru ?_
  | with_reducible refine r_truB ?_
  | with_reducible refine r_lst ?_
  | with_reducible refine r_tup ?_
  | with_reducible refine r_BM ?_
  | with_reducible refine r_BM0 ?_
  | with_reducible refine r_tyS ?_
  | with_reducible refine r_gsub ?_
  | with_reducible refine r_then ?_
  | with_reducible refine r_lstRg ?_
  | with_reducible refine r_tupRg ?_
  | with_reducible refine r_rg2 ?_
  | with_reducible refine r_rg1 ?_
  | with_reducible refine r_ii ?_
  | with_reducible refine r_i ?_
  | with_reducible refine r_ipI ?_
  | with_reducible refine r_un ?_
  | with_reducible refine r_neg ?_
  | with_reducible refine r_isN ?_
  | with_reducible refine r_notN ?_
  | with_reducible refine r_notV ?_
  | with_reducible refine r_pnot ?_
  | with_reducible refine r_pif ?_
  | with_reducible refine r_andV ?_
  | with_reducible refine r_orV ?_
  | with_reducible refine r_ifE ?_
  | with_reducible refine r_chain ?_
  | with_reducible refine r_sl ?_
  | with_reducible refine r_noPart ?_
  | with_reducible refine r_part ?_
  | with_reducible refine r_brk ?_
  | with_reducible refine r_cont ?_
  | with_reducible refine r_retN ?_
  | with_reducible refine r_truI ?_
  | with_reducible refine r_B ?_
  | with_reducible refine r_for ?_
  | with_reducible refine r_rng1 ?_
  | with_reducible refine r_rng2 ?_
  | with_reducible refine r_rng3 ?_
  | with_reducible refine r_body ?_
  | with_reducible refine r_lc ?_
  | with_reducible refine r_yes ?_
  | ((with_reducible refine' r_mod ?k0 ?_); (case k0 => walk_at "side"))
  | ((with_reducible refine' r_mulI ?k0 ?_); (case k0 => first | exact Or.inl ⟨by omega, by omega⟩ | exact Or.inr ⟨by omega, by omega⟩))
  | ((with_reducible refine' r_lenL ?k0 ?_); (case k0 => walk_at "tk"))
  | ((with_reducible refine' r_lenT ?k0 ?_); (case k0 => walk_at "tk"))
  | ((with_reducible refine' r_truL ?k0 ?_); (case k0 => walk_at "tk"))
  | ((with_reducible refine' r_truT ?k0 ?_); (case k0 => walk_at "tk"))
  | ((with_reducible refine' r_ixL ?k0 ?k1 ?_); (case k0 => walk_at "tk"); (case k1 => first | assumption | rfl))
  | ((with_reducible refine' r_ixT ?k0 ?k1 ?_); (case k0 => walk_at "tk"); (case k1 => first | assumption | rfl))
  | ((with_reducible refine' r_new ?k0 ?_); (case k0 => walk_at "side"))
  | ((with_reducible refine' r_tyL ?k0 ?_); (case k0 => walk_at "tk"))
  | ((with_reducible refine' r_append ?k0 ?k1 ?_); (case k0 => walk_at "tk"); (case k1 => walk_at "side"))
  | ((with_reducible refine' r_setL ?k0 ?k1 ?_); (case k0 => walk_at "tk"); (case k1 => first | assumption | rfl))
  | ((with_reducible refine' r_kTupL ?k0 ?_); (case k0 => walk_at "tk"))
  | ((with_reducible refine' r_kTupT ?k0 ?_); (case k0 => walk_at "tk"))
  | ((with_reducible refine' r_listL ?k0 ?_); (case k0 => walk_at "tk"))
  | ((with_reducible refine' r_listT ?k0 ?_); (case k0 => walk_at "tk"))
  | ((with_reducible refine' r_aug ?k0 ?_); (case k0 => rfl))
  | ((with_reducible refine' r_lenS ?k0 ?_); (case k0 => walk_at "side"))
  | ((with_reducible refine' r_pop ?k0 ?_); (case k0 => walk_at "tk"))
  | ((with_reducible refine' r_pr1 ?k0 ?_); (case k0 => walk_at "rng"))
  | ((with_reducible refine' r_pr2 ?k0 ?_); (case k0 => walk_at "rng"))
  | ((with_reducible refine' r_pr3d ?k0 ?_); (case k0 => walk_at "rng"))
  | ((with_reducible refine' r_isiI ?k0 ?_); (case k0 => walk_at "kit"))
  | ((with_reducible refine' r_isiB ?k0 ?_); (case k0 => walk_at "kit"))
  | ((with_reducible refine' r_isiS ?k0 ?_); (case k0 => walk_at "kit"))
  | ((with_reducible refine' r_isiN ?k0 ?_); (case k0 => walk_at "kit"))
  | ((with_reducible refine' r_isiT ?k0 ?k1 ?_); (case k0 => walk_at "tk"); (case k1 => walk_at "kit"))
  | ((with_reducible refine r_seqT ?_); (repeat (walk_at "rd1")); ((with_reducible refine' r_pseqT ?k0 ?_); (case k0 => walk_at "tk")))
  | ((with_reducible refine r_seqL ?_); (repeat (walk_at "rd1")); ((with_reducible refine' r_pseqL ?k0 ?_); (case k0 => walk_at "tk")))
  | ((with_reducible refine r_seqS ?_); (repeat (walk_at "rd1")); (with_reducible refine r_pseqS ?_)))
local macro_rules | `(tactic| walk_at "rd") => `(tactic| ((repeat (walk_at "rd1")); (try dsimp only)))
local macro_rules | `(tactic| walk_at "rd1") => `(tactic| first
  | with_reducible refine r_BMT ?_
  | with_reducible refine r_par ?_
  | with_reducible refine r_parV ?_
  | ((with_reducible refine' r_ptp ?k0 ?k1 ?_); (case k0 => walk_at "tk"); (case k1 => walk_at "tk"))
  | with_reducible refine r_eqS ?_
  | with_reducible refine r_neS ?_
  | with_reducible refine r_callW ?_
  | with_reducible refine r_try ?_
  | with_reducible refine r_enT ?_
  | ((with_reducible refine' r_pen ?k0 ?_); (case k0 => walk_at "tk")))
local macro_rules | `(tactic| walk_at "rd1") => `(tactic| first
  | with_reducible refine r_dIn ?_
  | with_reducible refine r_dNo ?_
  | with_reducible refine r_dPut ?_
  | with_reducible refine r_dGet ?_)
local macro_rules | `(tactic| walk_at "pl0") => `(tactic| first
  | assumption
  | exact pl_same (by assumption) (by assumption)
  | exact pl_same (by assumption) (pl_same (by assumption) (by assumption))
  | exact pl_same (by assumption) (pl_same (by assumption) (pl_same (by assumption) (by assumption))))
local macro_rules | `(tactic| walk_at "pl") => `(tactic| first
  | walk_at "pl0"
  | ((with_reducible refine' pl_butL ?s ?n ?k); (case s => assumption); (case n => walk_at "ne"); (case k => walk_at "pl"))
  | ((with_reducible refine' pl_same ?s ?k); (case s => assumption); (case k => walk_at "pl")))
local macro_rules | `(tactic| walk_at "ne") => `(tactic| first
  | exact ne_pl (by assumption) (by walk_at "pl0")
  | exact (ne_pl (by assumption) (by walk_at "pl0")).symm)
local macro_rules | `(tactic| walk_at "fr") => `(tactic| first
  | assumption
  | ((with_reducible refine' free_but ?b ?n ?h); (case h => assumption); (case n => walk_at "ne"); (case b => walk_at "but"))
  | ((with_reducible refine' Same.free ?b ?h); (case h => assumption); (case b => walk_at "same")))
local macro_rules | `(tactic| walk_at "but") => `(tactic| first
  | assumption
  | exact But.refl
  | ((with_reducible refine' But.trans ?a ?b); (case b => assumption); (case a => walk_at "but"))
  | ((with_reducible refine' But.trans ?a (Same.but ?b)); (case b => assumption); (case a => walk_at "but"))
  | ((with_reducible refine' but_via ?a ?b ?c); (case b => assumption); (case c => walk_at "fr"); (case a => walk_at "but")))
local macro_rules | `(tactic| walk_at "same") => `(tactic| first
  | assumption
  | exact Same.refl _
  | ((with_reducible refine' Same.trans ?a ?b); (case b => assumption); (case a => walk_at "same"))
  | ((with_reducible refine' same_but ?a ?b ?c); (case b => assumption); (case c => walk_at "fr"); (case a => walk_at "same")))
local macro_rules | `(tactic| walk_at "tk") => `(tactic| first
  | ((with_reducible refine' sqT_pl ?s ?t ?k); (case s => assumption); (case t => walk_at "pl0"); (case k => walk_at "tk"))
  | ((with_reducible refine' rp_same ?s ?k); (case s => assumption); (case k => walk_at "tk"))
  | ((with_reducible refine' rp_pl ?s ?t ?k); (case s => assumption); (case t => walk_at "pl0"); (case k => walk_at "tk")))
local macro_rules | `(tactic| walk_at "it") => `(tactic| first
  | assumption
  | ((with_reducible refine' sqI_1 ?k); (case k => assumption))
  | ((with_reducible refine' sqI_0 ?k); (case k => assumption))
  | ((with_reducible refine' sqI_of ?k); (case k => assumption))
  | ((with_reducible refine' sqI_D ?k); (case k => assumption))
  | ((with_reducible refine' sqT_same ?s ?k); (case s => assumption); (case k => walk_at "it"))
  | ((with_reducible refine' sqT_but ?s ?t ?k); (case s => assumption); (case t => assumption); (case k => walk_at "it"))
  | ((with_reducible refine' sqT_pl ?s ?t ?k); (case s => assumption); (case t => walk_at "pl0"); (case k => walk_at "it")))
local macro_rules | `(tactic| walk_at "sz") => `(tactic| first | omega | ((try simp only [List.length_cons, List.length_nil] at *); omega))
local macro_rules | `(tactic| walk_at "au1") => `(tactic| first
  | walk_at "rd1"
  | ((with_reducible refine' r_draw ?k0 ?k1 ?k2 ?_); (case k0 => walk_at "pl"); (case k1 => omega); (case k2 => omega); (intro _ _ _ _ _ _))
  | ((with_reducible refine' r_slN ?k0 ?_); (case k0 => walk_at "it"); (intro _ _ _ _ _ _))
  | ((with_reducible refine' r_catN ?k0 ?k1 ?k2 ?_); (case k0 => walk_at "it"); (case k1 => walk_at "it"); (case k2 => walk_at "sz"); (intro _ _ _ _ _ _))
  | ((with_reducible refine' r_pow ?k0 ?_); (case k0 => exact ⟨by decide, by decide, by decide⟩))
  | ((with_reducible refine' r_ixI ?k0 ?k1 ?k2 ?_); (case k0 => walk_at "it"); (case k1 => omega); (case k2 => omega); (intro _ _))
  | ((with_reducible refine' r_setI ?k0 ?k1 ?k2 ?_); (case k0 => walk_at "tk"); (case k1 => omega); (case k2 => omega); (intro _ _ _ _ _))
  | ((with_reducible refine' r_kTupI ?k0 ?_); (case k0 => walk_at "tk"); (intro _ _ _ _ _))
  | ((with_reducible refine' r_listI ?k0 ?_); (case k0 => walk_at "it"); (intro _ _ _ _ _))
  | (with_reducible refine r_revU ?_)
  | ((with_reducible refine' r_prevN ?k0 ?_); (case k0 => walk_at "it"); (intro _ _ _ _ _ _))
  | (intro _ _ _ _ _))
local macro_rules | `(tactic| walk_at "go") => `(tactic| ((repeat (walk_at "au1")); (first
  | ((with_reducible refine r_ite (fun _ => ?_) (fun _ => ?_)) <;> (walk_at "go"))
  | ((with_reducible refine r_iteN (fun _ => ?_) (fun _ => ?_)) <;> (walk_at "go"))
  | dsimp only
  | skip)))
def sp_law_closure (K : PySem.W.Frag) : Sp := fun vs H Q _ => ∃ (n : Nat) (l : Addr) (ps : List (Addr × List Int)), vs = [.int (n : Int), .ref l, .int 720] ∧ 1 ≤ n ∧ n ≤ 12 ∧ LRt H l ps ∧ ps.length ≤ 1440 ∧ (∀ r ∈ rws ps, IsRow r n) ∧
  (∀ H', Same H H' → More n (rws ps) 720 → Q .non H') ∧ (∀ p a b H' qs ms, H p = none → Same H H' → H' p = some (.lst [.ref a, .ref b]) → LRt H' a qs → LRt H' b ms → Clo n (rws ps) (rws qs) → Whole n (rws ms) (rws qs) → (∀ r ∈ rws ms, r ∈ rws ps) → qs.length ≤ 720 → ms.length ≤ ps.length → Q (.ref p) H')
abbrev N_law_closure : List Str := ["stage", "rows", "most", "home", "makers", "members", "found", "row", "k", "maker", "new"]
def t_law_closure (K : PySem.W.Frag) : TS :=
  tSeq (tAsg ((tCall (sp_law_rounds K) [] E0 (tCons (tVar 0) tNil))) (gName 3))
  (tSeq (tAsg ((tLst tNil)) (gName 4))
  (tSeq (tAsg ((tLst (tCons (tVar 3) tNil))) (gName 5))
  (tSeq (tAsg ((tDispT (tVar 3) ((tC (.bl true))))) (gName 6))
  (tSeq (tFor (iSeqU K (tVar 1)) (gName 7) ((tIfS ((tB (tDNotIn (tVar 7) (tVar 6)))) (tSeq (tDrop ((tBM K "list" rAppend (tVar 4) (tCons (tVar 7) tNil))))
  (tSeq (tAsg ((tLst (tCons (tVar 3) tNil))) (gName 5))
  (tSeq (tAsg ((tDispT (tVar 3) ((tC (.bl true))))) (gName 6))
  (tSeq (tFor (iRng1 (tCons ((tOp (rAddU K) (tVar 2) ((tC (.int 1))))) tNil)) (gName 8) ((tIfS ((tTest (tChain (rLtU K) (rLeU K) (tVar 8) ((tCB (rLenU K) (tCons (tVar 5) tNil))) (tVar 2)))) ((tFor (iSeqU K (tVar 4)) (gName 9) (tSeq (tAsg ((tCall (sp_law_times K) [] E0 (tCons (tVar 9) (tCons ((tOp (rIx K) (tVar 5) (tVar 8))) tNil)))) (gName 10))
  ((tIfS ((tB (tDNotIn (tVar 10) (tVar 6)))) (tSeq (sDPut (tVar 6) (tVar 10) ((tC (.bl true))))
  ((tDrop ((tBM K "list" rAppend (tVar 5) (tCons (tVar 10) tNil)))))) (tNext)))))) (tNext))))
  ((tIfS ((tTest (tOp rGtU ((tCB (rLenU K) (tCons (tVar 5) tNil))) (tVar 2)))) ((tRet ((tC .non)))) (tNext))))))) (tNext))))
  ((tRet ((tLst (tCons ((tCB (rSortRows K) (tCons (tVar 5) tNil))) (tCons (tVar 4) tNil))))))))))
/-- what stands in members while k of them have been done -/
def Inn (n : Nat) (ms qs : List (List Int)) (k : Nat) : Prop := qs.Nodup ∧ roundsR n ∈ qs ∧ (∀ x ∈ qs, Gn n ms x) ∧ (qs.length ≤ 720 → ∀ j x, j < k → qs[j]? = some x → ∀ m ∈ ms, mulR m x ∈ qs)
section
variable {K : PySem.W.Frag} {vs : List V} {H : Hp} {Q : VK} {E : XK}
theorem len_law_closure (h : sp_law_closure K vs H Q E) : vs.length = 3 := by obtain ⟨n, l, ps, rfl, _⟩ := h; rfl
theorem rws_app (a b : List (Addr × List Int)) : rws (a ++ b) = rws a ++ rws b := List.map_append
theorem rws_len (a : List (Addr × List Int)) : (rws a).length = a.length := List.length_map _
theorem pure_law_closure (h : sp_law_closure K vs H Q E) : t_law_closure K (En Q) (start N_law_closure vs) H := by
  obtain ⟨n, l, ps, rfl, n1, n2, hl, hpl, hR, qN, q⟩ := h
  unfold t_law_closure
  walk_at "rd"
  refine ⟨n, rfl, by omega, fun ho H1 nho s1 e1 => ?_⟩
  walk_at "rd"
  intro mk H2 nmk s2 e2
  have e12 := s2 _ _ e1
  walk_at "rd"
  intro me H3 nme s3 e3
  have e13 := s3 _ _ e12
  have e23 := s3 _ _ e2
  walk_at "rd"
  refine r_dispT fun fo H4 nfo s4 e4 => ?_
  have e14 := s4 _ _ e13
  have e24 := s4 _ _ e23
  have e34 := s4 _ _ e3
  walk_at "rd"
  refine r_pdt e4 e14 fun H5 b5 d5 => ?_
  have nfo0 : H fo = none := (((s1.trans s2).trans s3)).free nfo
  have nmk0 : H mk = none := s1.free nmk
  have s05 : Same H H5 := same_but (((s1.trans s2).trans s3).trans s4) b5 nfo0
  have s15 : Same H1 H5 := same_but ((s2.trans s3).trans s4) b5 ((s2.trans s3).free nfo)
  have el5 := s05 _ _ hl.1
  walk_at "rd"
  refine r_forLst (xs := ps.map fun q => V.ref q.1) (fun j σ' H' => ∃ (me fo : Addr) (ms qs : List (Addr × List Int)) (z7 z8 z9 z10 : Option V), σ' = [some (.int (n : Int)), some (.ref l), some (.int 720), some (.ref ho), some (.ref mk), some (.ref me), some (.ref fo), z7, z8, z9, z10] ∧ Same H H' ∧ H' ho = some (.tup ((roundsR n).map V.int)) ∧ LRt H' mk ms ∧ LRt H' me qs ∧ DR H' fo (rws qs) ∧ me ≠ mk ∧ H me = none ∧ H fo = none ∧ Whole n (rws ms) (rws qs) ∧ qs.length ≤ 720 ∧ (∀ r ∈ rws ms, r ∈ rws ps) ∧ ms.length ≤ j ∧ ∀ r ∈ (rws ps).take j, r ∈ rws qs)
    ⟨me, fo, [], [(ho, roundsR n)], none, none, none, none, rfl, s05, b5 _ _ (ne_of e14 e4 (by intro z; cases z)) e14, ⟨b5 _ _ (ne_of e24 e4 (by intro z; cases z)) e24, fun w hw => nomatch hw⟩, ⟨b5 _ _ (ne_of e34 e4 (by intro z; cases z)) e34, fun w hw => by (rw [List.mem_singleton] at hw); subst hw; exact b5 _ _ (ne_of e14 e4 (by intro z; cases z)) e14⟩, d5, (ne_of_none e2 nme).symm, (s1.trans s2).free nme, nfo0, whole_nil n, by simp, (fun r hr => nomatch hr), Nat.le_refl _, fun r hr => nomatch hr⟩ (fun j σ' H' _ hW => ?_) (fun j x σ' H' hj hW => ?_) (fun σ' H' hW => ?_)
  · obtain ⟨me, fo, ms, qs, z7, z8, z9, z10, rfl, st, _⟩ := hW
    exact sqL_of (st _ _ hl.1)
  · obtain ⟨me, fo, ms, qs, z7, z8, z9, z10, rfl, st, eh, lm, lq, df, ne, nme, nfo, wh, q7, sub, mj, al⟩ := hW
    rw [List.getElem?_map] at hj
    obtain ⟨w, hw, rfl⟩ := Option.map_eq_some_iff.mp hj
    have hjl : j < ps.length := (List.getElem?_eq_some_iff.mp hw).1
    have wmem : w.2 ∈ rws ps := List.mem_map.mpr ⟨w, List.mem_of_getElem? hw, rfl⟩
    have ew := st _ _ (hl.2 w (List.mem_of_getElem? hw))
    walk_at "rd"
    refine r_drNo df ew ?_
    walk_at "rd"
    by_cases hin : w.2 ∈ rws qs
    · refine r_iteNP hin ?_
      walk_at "rd"
      refine ⟨me, fo, ms, qs, _, _, _, _, rfl, st, eh, lm, lq, df, ne, nme, nfo, wh, q7, sub, by omega, fun r hr => ?_⟩
      rw [List.take_add_one, rws_at hw, List.mem_append] at hr
      rcases hr with hr | hr
      · exact al r hr
      · have : r = w.2 := by simpa using hr
        subst this; exact hin
    · refine r_iteNM hin ?_
      have emk := lm.1
      walk_at "rd"
      intro H6 b6 e6
      have lm6 := lm.push b6 ew e6
      have s6 := same_but st b6 nmk0
      have eh6 := b6 _ _ (ne_of eh emk (by intro z; cases z)) eh
      have sub' : ∀ r ∈ rws (ms ++ [w]), r ∈ rws ps := fun r hr => by
        rw [rws_app, List.mem_append] at hr
        rcases hr with hr | hr
        · exact sub r hr
        · have : r = w.2 := by simpa using hr
          subst this; exact wmem
      have hM : ∀ r ∈ rws (ms ++ [w]), IsRow r n := fun r hr => hR r (sub' r hr)
      have hml : (ms ++ [w]).length ≤ 1440 := by simp; omega
      have mj' : (ms ++ [w]).length ≤ j + 1 := by simp; omega
      have ogn : ∀ r ∈ (rws ps).take (j + 1), Gn n (rws (ms ++ [w])) r := fun r hr => by
        rw [List.take_add_one, rws_at hw, List.mem_append] at hr
        rcases hr with hr | hr
        · refine ((wh.2 r).mp (al r hr)).mono fun x hx => ?_
          rw [rws_app]; exact List.mem_append_left _ hx
        · have : r = w.2 := by simpa using hr
          subst this
          exact Gn.gen hM (by rw [rws_app]; exact List.mem_append_right _ (by simp))
      generalize ms ++ [w] = ms' at lm6 sub' hM hml mj' ogn
      walk_at "rd"
      intro me' H7 nme' s7 e7
      have lm7 := lm6.same s7
      have eh7 := s7 _ _ eh6
      walk_at "rd"
      refine r_dispT fun fo' H8 nfo' s8 e8 => ?_
      have lm8 := lm7.same s8
      have eh8 := s8 _ _ eh7
      have e78 := s8 _ _ e7
      walk_at "rd"
      refine r_pdt e8 eh8 fun H9 b9 d9 => ?_
      have lm9 := lm8.butT b9 e8
      have eh9 := b9 _ _ (ne_of eh8 e8 (by intro z; cases z)) eh8
      have e79 := b9 _ _ (ne_of e78 e8 (by intro z; cases z)) e78
      have nfo0' : H fo' = none := (s6.trans s7).free nfo'
      have nme0' : H me' = none := s6.free nme'
      have s9 : Same H H9 := same_but ((s6.trans s7).trans s8) b9 nfo0'
      have nemk : me' ≠ mk := (ne_of_none lm6.1 nme').symm
      walk_at "rd"
      refine r_forRange0 (fun k σ' H' => ∃ (qs : List (Addr × List Int)) (z8 z9 z10 : Option V), σ' = [some (.int (n : Int)), some (.ref l), some (.int 720), some (.ref ho), some (.ref mk), some (.ref me'), some (.ref fo'), some (.ref w.1), z8, z9, z10] ∧ Same H H' ∧ H' ho = some (.tup ((roundsR n).map V.int)) ∧ LRt H' mk ms' ∧ LRt H' me' qs ∧ DR H' fo' (rws qs) ∧ Inn n (rws ms') (rws qs) k ∧ qs.length ≤ 4000)
        ⟨[(ho, roundsR n)], z8, z9, z10, rfl, s9, eh9, lm9, ⟨e79, fun w hw => by (rw [List.mem_singleton] at hw); subst hw; exact eh9⟩, d9, ⟨by simp, by simp, fun x hx => by (have : x = roundsR n := by simpa using hx); subst this; exact .one, fun _ j x hj => absurd hj (Nat.not_lt_zero j)⟩, by simp⟩ (fun k σ' H' hk hW => ?_) (fun σ' H' hW => ?_)
      · obtain ⟨qs, z8, z9, z10, rfl, s10, eh10, lm10, lq10, d10, in10, q10⟩ := hW
        have eq10 := lq10.1
        have em10 := lm10.1
        have hqq : (rws qs).length = qs.length := rws_len qs
        have skip : ¬ ((k : Int) < (qs.length : Int) ∧ (qs.length : Int) ≤ 720) → Inn n (rws ms') (rws qs) (k + 1) := fun z =>
          ⟨in10.1, in10.2.1, in10.2.2.1, fun h7 i x hi hx => in10.2.2.2 h7 i x (by
            have := (List.getElem?_eq_some_iff.mp hx).1
            omega) hx⟩
        walk_at "rd"
        rw [List.length_map]
        refine r_ite (fun c1 => ?_) (fun c1 => by
          walk_at "rd"
          exact ⟨qs, _, _, _, rfl, s10, eh10, lm10, lq10, d10, skip fun z => c1 z.1, q10⟩)
        walk_at "rd"
        refine r_ite (fun c2 => ?_) (fun c2 => by
          walk_at "rd"
          exact ⟨qs, _, _, _, rfl, s10, eh10, lm10, lq10, d10, skip fun z => c2 z.2, q10⟩)
        obtain ⟨q0, hq0⟩ := at_of (xs := qs) (i := k) (by omega)
        have gq0 : Gn n (rws ms') q0.2 := in10.2.2.1 _ (List.mem_map.mpr ⟨q0, List.mem_of_getElem? hq0, rfl⟩)
        walk_at "rd"
        refine r_forLst (xs := ms'.map fun q => V.ref q.1) (fun i σ' H' => ∃ (rs : List (Addr × List Int)) (z9 z10 : Option V), σ' = [some (.int (n : Int)), some (.ref l), some (.int 720), some (.ref ho), some (.ref mk), some (.ref me'), some (.ref fo'), some (.ref w.1), some (.int (k : Int)), z9, z10] ∧ Same H H' ∧ H' ho = some (.tup ((roundsR n).map V.int)) ∧ LRt H' mk ms' ∧ LRt H' me' (qs ++ rs) ∧ DR H' fo' (rws (qs ++ rs)) ∧ (rws (qs ++ rs)).Nodup ∧ (∀ x ∈ rws (qs ++ rs), Gn n (rws ms') x) ∧ rs.length ≤ i ∧ ∀ m ∈ (rws ms').take i, mulR m q0.2 ∈ rws (qs ++ rs))
          ⟨[], z9, z10, rfl, s10, eh10, lm10, by rw [List.append_nil]; exact lq10, by rw [List.append_nil]; exact d10, by rw [List.append_nil]; exact in10.1, by rw [List.append_nil]; exact in10.2.2.1, Nat.le_refl _, fun m hm => by simp at hm⟩ (fun i σ' H' _ hW => ?_) (fun i x σ' H' hi hW => ?_) (fun σ' H' hW => ?_)
        · obtain ⟨rs, z9, z10, rfl, s11, eh11, lm11, _⟩ := hW
          exact sqL_of lm11.1
        · obtain ⟨rs, z9, z10, rfl, s11, eh11, lm11, lq11, d11, nd11, g11, l11, c11⟩ := hW
          rw [List.getElem?_map] at hi
          obtain ⟨mv, hmv, rfl⟩ := Option.map_eq_some_iff.mp hi
          have mmem : mv.2 ∈ rws ms' := List.mem_map.mpr ⟨mv, List.mem_of_getElem? hmv, rfl⟩
          have him : i < ms'.length := (List.getElem?_eq_some_iff.mp hmv).1
          have emv := lm11.2 mv (List.mem_of_getElem? hmv)
          have hq11 := at_app (ys := rs) hq0
          have eq0 := lq11.2 q0 (List.mem_of_getElem? hq11)
          have ef11 := lq11.1
          have hat := atI_nat (LRt.at (H := H) (l := me') hq11)
          walk_at "rd"
          refine ⟨mv.1, q0.1, mv.2, q0.2, n, rfl, sqT_of emv, sqT_of eq0, hM _ mmem, gq0.row hM, by omega, fun p H12 np s12 e12 => ?_⟩
          have lq12 := lq11.same s12
          have lm12 := lm11.same s12
          have d12 := DR.same s12 d11
          have eh12 := s12 _ _ eh11
          have gnew : Gn n (rws ms') (mulR mv.2 q0.2) := gl_step hM gq0 mmem
          walk_at "rd"
          refine r_drNo d12 e12 ?_
          walk_at "rd"
          by_cases hin : mulR mv.2 q0.2 ∈ rws (qs ++ rs)
          · refine r_iteNP hin ?_
            walk_at "rd"
            refine ⟨rs, _, _, rfl, s11.trans s12, eh12, lm12, lq12, d12, nd11, g11, by omega, fun m hm => ?_⟩
            rw [List.take_add_one, rws_at hmv, List.mem_append] at hm
            rcases hm with hm | hm
            · exact c11 m hm
            · have : m = mv.2 := by simpa using hm
              subst this; exact hin
          · refine r_iteNM hin ?_
            have nd13 : (rws (qs ++ rs) ++ [mulR mv.2 q0.2]).Nodup := by
              rw [List.nodup_append]
              refine ⟨nd11, by simp, fun a ha b hb z => hin ?_⟩
              rw [List.mem_singleton] at hb
              rw [← hb, ← z]; exact ha
            have g13 : ∀ x ∈ rws (qs ++ rs) ++ [mulR mv.2 q0.2], Gn n (rws ms') x := fun x hx => by
              rcases List.mem_append.mp hx with hx | hx
              · exact g11 x hx
              · rw [List.mem_singleton] at hx; subst hx; exact gnew
            walk_at "rd"
            refine r_drPut d12 e12 (by rw [rws_len, List.length_append, sizeLine_eq]; omega) fun H13 b13 d13 => ?_
            obtain ⟨kvs, ed12, _⟩ := d12
            have lq13 := lq12.butT b13 ed12
            have lm13 := lm12.butT b13 ed12
            have eh13 := b13 _ _ (ne_of eh12 ed12 (by intro z; cases z)) eh12
            have e13' := b13 _ _ (ne_of e12 ed12 (by intro z; cases z)) e12
            have ef13 := lq13.1
            walk_at "rd"
            refine r_append ef13 (by rw [List.length_map, List.length_append, sizeLine_eq]; omega) fun H14 b14 e14' => ?_
            have d14 := DR.butL b14 ef13 d13
            have lq14 := lq13.push b14 e13' e14'
            have lm14 := lm13.butL b14 ef13 nemk.symm
            have eh14 := b14 _ _ (ne_of eh13 ef13 (by intro z; cases z)) eh13
            refine ⟨rs ++ [(p, mulR mv.2 q0.2)], _, _, rfl, same_but (same_but (s11.trans s12) b13 nfo0') b14 nme0', eh14, lm14, ?_, ?_, ?_, ?_, by rw [List.length_append]; simp only [List.length_cons, List.length_nil]; omega, fun m hm => ?_⟩
            · rw [← List.append_assoc]; exact lq14
            · rw [← List.append_assoc, rws_app]; exact d14
            · rw [← List.append_assoc, rws_app]; exact nd13
            · rw [← List.append_assoc, rws_app]; exact g13
            · rw [← List.append_assoc, rws_app, List.mem_append]
              rw [List.take_add_one, rws_at hmv, List.mem_append] at hm
              rcases hm with hm | hm
              · exact .inl (c11 m hm)
              · have : m = mv.2 := by simpa using hm
                subst this; exact .inr (by simp)
        · obtain ⟨rs, z9, z10, rfl, s11, eh11, lm11, lq11, d11, nd11, g11, l11, c11⟩ := hW
          have hlen : (ms'.map fun q => V.ref q.1).length = (rws ms').length := by rw [List.length_map, rws_len]
          rw [hlen, List.take_length] at c11
          rw [List.length_map] at l11
          have sub2 : ∀ x, x ∈ rws qs → x ∈ rws (qs ++ rs) := fun x hx => by rw [rws_app]; exact List.mem_append_left _ hx
          refine ⟨qs ++ rs, _, _, _, rfl, s11, eh11, lm11, lq11, d11, ⟨nd11, sub2 _ in10.2.1, g11, fun h7 i x hi hx m hm => ?_⟩, by rw [List.length_append]; omega⟩
          by_cases hik : i = k
          · subst hik
            rw [rws_at (at_app (ys := rs) hq0)] at hx
            cases hx
            exact c11 m hm
          · obtain ⟨v, hv⟩ := at_of (xs := qs) (i := i) (by omega)
            rw [rws_at (at_app (ys := rs) hv)] at hx
            cases hx
            exact sub2 _ (in10.2.2.2 (by omega) i v.2 (by omega) (rws_at hv) m hm)
      · obtain ⟨qs, z8, z9, z10, rfl, s10, eh10, lm10, lq10, d10, in10, q10⟩ := hW
        have eq10 := lq10.1
        walk_at "rd"
        rw [List.length_map]
        refine r_ite (fun hgt => ?_) (fun hle => ?_)
        · walk_at "rd"
          refine qN H' s10 (More.mono sub' ⟨rws qs, in10.1, in10.2.2.1, by rw [rws_len]; omega⟩)
        · have w10 : Whole n (rws ms') (rws qs) := whole_left hM in10.1 in10.2.1 in10.2.2.1 fun x hx m hm => by
            obtain ⟨i, hi, e⟩ := List.getElem_of_mem hx
            have hq : (rws qs).length = qs.length := rws_len qs
            exact in10.2.2.2 (by omega) i x (by omega) (by rw [List.getElem?_eq_getElem hi, e]) m hm
          walk_at "rd"
          refine ⟨me', fo', ms', qs, _, _, _, _, rfl, s10, eh10, lm10, lq10, d10, nemk, nme0', nfo0', w10, by omega, sub', mj', fun r hr => (w10.2 r).mpr (ogn r hr)⟩
  · obtain ⟨me, fo, ms, qs, z7, z8, z9, z10, rfl, st, eh, lm, lq, df, ne, nme, nfo, wh, q7, sub, mj, al⟩ := hW
    have hlen : (ps.map fun q => V.ref q.1).length = (rws ps).length := by rw [List.length_map, rws_len]
    rw [hlen, List.take_length] at al
    have w4 : Whole n (rws ps) (rws qs) := wh.rows hR sub al
    walk_at "rd"
    refine r_sortRows lq (fun w hw => rows_ne (by omega) hR w4 (List.mem_map.mpr ⟨w, hw, rfl⟩)) fun p H4 qs' np s4 f4 pm so => ?_
    walk_at "rd"
    intro p2 H5 np2 s5 e5
    refine q p2 p mk H5 qs' ms (st.free (s4.free np2)) ((st.trans s4).trans s5) e5 (f4.same s5) ((lm.same s4).same s5) ⟨Whole.permL w4 (pm.map _), so⟩ (Whole.permL wh (pm.map _)) sub (by rw [pm.length_eq]; exact q7) (by rw [List.length_map] at mj; omega)
end
end K7
end K5
end Kb
set_option Elab.async false
set_option linter.all false
namespace Kb
open PySem PySem.Spec PyProof.Rows L2
section
variable {D : Ends} {σ : L2.St} {H : Hp}
theorem r_key {ta tb : TS} (R : L2.St → Hp → Prop) (k : ∀ tb' : TS, (∀ σ' H', R σ' H' → tb' D σ' H') → tSeq ta tb' D σ H) (key : ∀ σ' H', R σ' H' → tb D σ' H') : tSeq ta tb D σ H := k tb key
end
end Kb
set_option Elab.async false
set_option linter.all false
set_option maxRecDepth 100000
set_option maxHeartbeats 4000000
namespace Kb
open PySem PySem.Spec PyProof.Rows L2
def DV (H : Hp) (p : Addr) (f : List Int → Option Int) (n : Nat) : Prop := ∃ kvs : List (List Key × V), H p = some (.dT kvs) ∧ kvs.length ≤ n ∧ ∀ r, valV kvs (keyR r) = (f r).map V.int
section
variable {σ : L2.St} {H H' : Hp} {td ty tx : TE} {Q : VK} {N : Hp → Prop} {z : V} {p b l : Addr} {f : List Int → Option Int} {r : List Int} {n : Nat} {v : Int} {R : Addr → Prop}
theorem DV.same (s : Same H H') (h : DV H p f n) : DV H' p f n := let ⟨k, e, r⟩ := h; ⟨k, s _ _ e, r⟩
end
section
variable {X : Cx}
def rNotInDT (K : PySem.W.Frag) : R2 := fun x y H Q => ∃ d ds, Dp K H x d ∧ Dp K H y (.tuple ds) ∧ SeqAt.shaped d = true ∧ SeqAt.shaped (.tuple ds) = true ∧ Q (.bl (!ds.any fun z => PyData.eqv z d)) H
theorem op_notInDT (hu : X.A.units + 65 < cLine) : OpR X (compareOp .NotIn) (rNotInDT X.K) := by
  intro pins s σ H x y v u Q I rx ry h
  obtain ⟨d, ds, hd, he, sd, se, q⟩ := h
  obtain ⟨as, r1⟩ := Dp.reads I d x v hd rx
  obtain ⟨bs, r2⟩ := Dp.reads I (.tuple ds) y u he ry
  exact SeqAt.notIn_tuple_reads r2 r1 (SeqAt.canLay_of_shaped se) (SeqAt.canLay_of_shaped sd) (room_in_shaped sd hu) ⟨.bl _, H, I, rfl, q⟩
end
end Kb
set_option Elab.async false
set_option linter.all false
set_option maxRecDepth 100000
set_option maxHeartbeats 4000000
namespace Kb
namespace K5
namespace K7
open PySem PySem.Spec PyProof.Rows L2
local macro_rules | `(tactic| walk_at "tk") => `(tactic| first
  | assumption
  | ((with_reducible refine' sqT_of ?k); (case k => assumption))
  | ((with_reducible refine' sqT_ofD ?k); (case k => assumption))
  | ((with_reducible refine' noD_of ?k); (case k => assumption))
  | ((with_reducible refine' noD_same ?s ?k); (case s => assumption); (case k => walk_at "tk"))
  | ((with_reducible refine' sqL_of ?k); (case k => assumption))
  | ((with_reducible refine' sqT_same ?s ?k); (case s => assumption); (case k => walk_at "tk"))
  | ((with_reducible refine' sqL_same ?s ?k); (case s => assumption); (case k => walk_at "tk"))
  | ((with_reducible refine' sqT_but ?s ?t ?k); (case s => assumption); (case t => walk_at "tk"); (case k => walk_at "tk"))
  | ((with_reducible refine' sqL_but ?s ?t ?k); (case s => assumption); (case t => walk_at "ne"); (case k => walk_at "tk"))
  | ((with_reducible refine' sqL_of ?k); (case k => walk_at "tk"))
  | ((with_reducible refine' sqT_of ?k); (case k => walk_at "tk"))
  | ((with_reducible refine' at_same ?s ?k); (case s => assumption); (case k => walk_at "tk"))
  | ((with_reducible refine' at_but ?s ?t ?k); (case s => assumption); (case t => walk_at "ne"); (case k => walk_at "tk")))
local macro_rules | `(tactic| walk_at "ne") => `(tactic| first
  | assumption
  | (refine Ne.symm ?_; assumption)
  | exact ne_of_none (by assumption) (by assumption)
  | exact (ne_of_none (by assumption) (by assumption)).symm)
local macro_rules | `(tactic| walk_at "side") => `(tactic| first
  | assumption
  | omega
  | (simp only [sizeLine_eq, List.length_cons, List.length_nil, List.length_map]; omega)
  | (show _ ≤ sizeLine; decide))
local macro_rules | `(tactic| walk_at "kit") => `(tactic| first
  | (show kitB _ _ = some true; decide +kernel)
  | (show kitB _ _ = some false; decide +kernel))
local macro_rules | `(tactic| walk_at "rng") => `(tactic| first
  | (refine ⟨by omega, by omega, by omega, by omega⟩)
  | (refine ⟨by omega, by omega⟩)
  | ((simp only [List.length_map]); (refine ⟨by omega, by omega, by omega, by omega⟩))
  | ((simp only [List.length_map]); (refine ⟨by omega, by omega⟩)))
local macro_rules | `(tactic| walk_at "rd1") => `(tactic| first
  | with_reducible refine r_seq ?_
  | ((with_reducible refine' r_var ?k0 ?_); (case k0 => rfl))
  | with_reducible refine r_op ?_
  | with_reducible refine r_c ?_
  | with_reducible refine r_asg ?_
  | with_reducible refine r_name ?_
  | with_reducible refine r_cons ?_
  | with_reducible refine r_nil ?_
  | with_reducible refine r_CB ?_
  | with_reducible refine r_if ?_
  | with_reducible refine r_test ?_
  | with_reducible refine r_k ?_
  | with_reducible refine r_T ?_
  | with_reducible refine r_F ?_
  | with_reducible refine r_nT ?_
  | with_reducible refine r_nF ?_
  | with_reducible refine r_ret ?_
  | with_reducible refine r_drop ?_
  | with_reducible refine r_next ?_
  | with_reducible refine r_call ?_
  | with_reducible refine r_addI ?_
  | with_reducible refine r_subI ?_
  | with_reducible refine r_ltI ?_
  | with_reducible refine r_gtI ?_
  | with_reducible refine r_leI ?_
  | with_reducible refine r_geI ?_
  | with_reducible refine r_eqI ?_
  | with_reducible refine r_neI ?_
  | with_reducible refine r_int ?_
  | with_reducible refine r_abs ?_
  | with_reducible refine r_not ?_
  | with_reducible refine r_and ?_
  | with_reducible refine r_or ?_
  | with_reducible refine r_tru ?_
  | with_reducible refine r_truB ?_
  | with_reducible refine r_lst ?_
  | with_reducible refine r_tup ?_
  | with_reducible refine r_BM ?_
  | with_reducible refine r_BM0 ?_
  | with_reducible refine r_tyS ?_
  | with_reducible refine r_gsub ?_
  | with_reducible refine r_then ?_
  | with_reducible refine r_lstRg ?_
  | with_reducible refine r_tupRg ?_
  | with_reducible refine r_rg2 ?_
  | with_reducible refine r_rg1 ?_
  | with_reducible refine r_ii ?_
  | with_reducible refine r_i ?_
  | with_reducible refine r_ipI ?_
  | with_reducible refine r_un ?_
  | with_reducible refine r_neg ?_
  | with_reducible refine r_isN ?_
  | with_reducible refine r_notN ?_
  | with_reducible refine r_notV ?_
  | with_reducible refine r_pnot ?_
  | with_reducible refine r_pif ?_
  | with_reducible refine r_andV ?_
  | with_reducible refine r_orV ?_
  | with_reducible refine r_ifE ?_
  | with_reducible refine r_chain ?_
  | with_reducible refine r_sl ?_
  | with_reducible refine r_noPart ?_
  | with_reducible refine r_part ?_
  | with_reducible refine r_brk ?_
  | with_reducible refine r_cont ?_
  | with_reducible refine r_retN ?_
  | with_reducible refine r_truI ?_
  | with_reducible refine r_B ?_
  | with_reducible refine r_for ?_
  | with_reducible refine r_rng1 ?_
  | with_reducible refine r_rng2 ?_
  | with_reducible refine r_rng3 ?_
  | with_reducible refine r_body ?_
  | with_reducible refine r_lc ?_
  | with_reducible refine r_yes ?_
  | ((with_reducible refine' r_mod ?k0 ?_); (case k0 => walk_at "side"))
  | ((with_reducible refine' r_mulI ?k0 ?_); (case k0 => first | exact Or.inl ⟨by omega, by omega⟩ | exact Or.inr ⟨by omega, by omega⟩))
  | ((with_reducible refine' r_lenL ?k0 ?_); (case k0 => walk_at "tk"))
  | ((with_reducible refine' r_lenT ?k0 ?_); (case k0 => walk_at "tk"))
  | ((with_reducible refine' r_truL ?k0 ?_); (case k0 => walk_at "tk"))
  | ((with_reducible refine' r_truT ?k0 ?_); (case k0 => walk_at "tk"))
  | ((with_reducible refine' r_ixL ?k0 ?k1 ?_); (case k0 => walk_at "tk"); (case k1 => first | assumption | rfl))
  | ((with_reducible refine' r_ixT ?k0 ?k1 ?_); (case k0 => walk_at "tk"); (case k1 => first | assumption | rfl))
  | ((with_reducible refine' r_new ?k0 ?_); (case k0 => walk_at "side"))
  | ((with_reducible refine' r_tyL ?k0 ?_); (case k0 => walk_at "tk"))
  | ((with_reducible refine' r_append ?k0 ?k1 ?_); (case k0 => walk_at "tk"); (case k1 => walk_at "side"))
  | ((with_reducible refine' r_setL ?k0 ?k1 ?_); (case k0 => walk_at "tk"); (case k1 => first | assumption | rfl))
  | ((with_reducible refine' r_kTupL ?k0 ?_); (case k0 => walk_at "tk"))
  | ((with_reducible refine' r_kTupT ?k0 ?_); (case k0 => walk_at "tk"))
  | ((with_reducible refine' r_listL ?k0 ?_); (case k0 => walk_at "tk"))
  | ((with_reducible refine' r_listT ?k0 ?_); (case k0 => walk_at "tk"))
  | ((with_reducible refine' r_aug ?k0 ?_); (case k0 => rfl))
  | ((with_reducible refine' r_lenS ?k0 ?_); (case k0 => walk_at "side"))
  | ((with_reducible refine' r_pop ?k0 ?_); (case k0 => walk_at "tk"))
  | ((with_reducible refine' r_pr1 ?k0 ?_); (case k0 => walk_at "rng"))
  | ((with_reducible refine' r_pr2 ?k0 ?_); (case k0 => walk_at "rng"))
  | ((with_reducible refine' r_pr3d ?k0 ?_); (case k0 => walk_at "rng"))
  | ((with_reducible refine' r_isiI ?k0 ?_); (case k0 => walk_at "kit"))
  | ((with_reducible refine' r_isiB ?k0 ?_); (case k0 => walk_at "kit"))
  | ((with_reducible refine' r_isiS ?k0 ?_); (case k0 => walk_at "kit"))
  | ((with_reducible refine' r_isiN ?k0 ?_); (case k0 => walk_at "kit"))
  | ((with_reducible refine' r_isiT ?k0 ?k1 ?_); (case k0 => walk_at "tk"); (case k1 => walk_at "kit"))
  | ((with_reducible refine r_seqT ?_); (repeat (walk_at "rd1")); ((with_reducible refine' r_pseqT ?k0 ?_); (case k0 => walk_at "tk")))
  | ((with_reducible refine r_seqL ?_); (repeat (walk_at "rd1")); ((with_reducible refine' r_pseqL ?k0 ?_); (case k0 => walk_at "tk")))
  | ((with_reducible refine r_seqS ?_); (repeat (walk_at "rd1")); (with_reducible refine r_pseqS ?_)))
local macro_rules | `(tactic| walk_at "rd") => `(tactic| ((repeat (walk_at "rd1")); (try dsimp only)))
local macro_rules | `(tactic| walk_at "rd1") => `(tactic| first
  | with_reducible refine r_BMT ?_
  | with_reducible refine r_par ?_
  | with_reducible refine r_parV ?_
  | ((with_reducible refine' r_ptp ?k0 ?k1 ?_); (case k0 => walk_at "tk"); (case k1 => walk_at "tk"))
  | with_reducible refine r_eqS ?_
  | with_reducible refine r_neS ?_
  | with_reducible refine r_callW ?_
  | with_reducible refine r_try ?_
  | with_reducible refine r_enT ?_
  | ((with_reducible refine' r_pen ?k0 ?_); (case k0 => walk_at "tk")))
local macro_rules | `(tactic| walk_at "rd1") => `(tactic| first
  | with_reducible refine r_dIn ?_
  | with_reducible refine r_dNo ?_
  | with_reducible refine r_dPut ?_
  | with_reducible refine r_dGet ?_)
local macro_rules | `(tactic| walk_at "pl0") => `(tactic| first
  | assumption
  | exact pl_same (by assumption) (by assumption)
  | exact pl_same (by assumption) (pl_same (by assumption) (by assumption))
  | exact pl_same (by assumption) (pl_same (by assumption) (pl_same (by assumption) (by assumption))))
local macro_rules | `(tactic| walk_at "pl") => `(tactic| first
  | walk_at "pl0"
  | ((with_reducible refine' pl_butL ?s ?n ?k); (case s => assumption); (case n => walk_at "ne"); (case k => walk_at "pl"))
  | ((with_reducible refine' pl_same ?s ?k); (case s => assumption); (case k => walk_at "pl")))
local macro_rules | `(tactic| walk_at "ne") => `(tactic| first
  | exact ne_pl (by assumption) (by walk_at "pl0")
  | exact (ne_pl (by assumption) (by walk_at "pl0")).symm)
local macro_rules | `(tactic| walk_at "fr") => `(tactic| first
  | assumption
  | ((with_reducible refine' free_but ?b ?n ?h); (case h => assumption); (case n => walk_at "ne"); (case b => walk_at "but"))
  | ((with_reducible refine' Same.free ?b ?h); (case h => assumption); (case b => walk_at "same")))
local macro_rules | `(tactic| walk_at "but") => `(tactic| first
  | assumption
  | exact But.refl
  | ((with_reducible refine' But.trans ?a ?b); (case b => assumption); (case a => walk_at "but"))
  | ((with_reducible refine' But.trans ?a (Same.but ?b)); (case b => assumption); (case a => walk_at "but"))
  | ((with_reducible refine' but_via ?a ?b ?c); (case b => assumption); (case c => walk_at "fr"); (case a => walk_at "but")))
local macro_rules | `(tactic| walk_at "same") => `(tactic| first
  | assumption
  | exact Same.refl _
  | ((with_reducible refine' Same.trans ?a ?b); (case b => assumption); (case a => walk_at "same"))
  | ((with_reducible refine' same_but ?a ?b ?c); (case b => assumption); (case c => walk_at "fr"); (case a => walk_at "same")))
local macro_rules | `(tactic| walk_at "tk") => `(tactic| first
  | ((with_reducible refine' sqT_pl ?s ?t ?k); (case s => assumption); (case t => walk_at "pl0"); (case k => walk_at "tk"))
  | ((with_reducible refine' rp_same ?s ?k); (case s => assumption); (case k => walk_at "tk"))
  | ((with_reducible refine' rp_pl ?s ?t ?k); (case s => assumption); (case t => walk_at "pl0"); (case k => walk_at "tk")))
local macro_rules | `(tactic| walk_at "it") => `(tactic| first
  | assumption
  | ((with_reducible refine' sqI_1 ?k); (case k => assumption))
  | ((with_reducible refine' sqI_0 ?k); (case k => assumption))
  | ((with_reducible refine' sqI_of ?k); (case k => assumption))
  | ((with_reducible refine' sqI_D ?k); (case k => assumption))
  | ((with_reducible refine' sqT_same ?s ?k); (case s => assumption); (case k => walk_at "it"))
  | ((with_reducible refine' sqT_but ?s ?t ?k); (case s => assumption); (case t => assumption); (case k => walk_at "it"))
  | ((with_reducible refine' sqT_pl ?s ?t ?k); (case s => assumption); (case t => walk_at "pl0"); (case k => walk_at "it")))
local macro_rules | `(tactic| walk_at "sz") => `(tactic| first | omega | ((try simp only [List.length_cons, List.length_nil] at *); omega))
local macro_rules | `(tactic| walk_at "au1") => `(tactic| first
  | walk_at "rd1"
  | ((with_reducible refine' r_draw ?k0 ?k1 ?k2 ?_); (case k0 => walk_at "pl"); (case k1 => omega); (case k2 => omega); (intro _ _ _ _ _ _))
  | ((with_reducible refine' r_slN ?k0 ?_); (case k0 => walk_at "it"); (intro _ _ _ _ _ _))
  | ((with_reducible refine' r_catN ?k0 ?k1 ?k2 ?_); (case k0 => walk_at "it"); (case k1 => walk_at "it"); (case k2 => walk_at "sz"); (intro _ _ _ _ _ _))
  | ((with_reducible refine' r_pow ?k0 ?_); (case k0 => exact ⟨by decide, by decide, by decide⟩))
  | ((with_reducible refine' r_ixI ?k0 ?k1 ?k2 ?_); (case k0 => walk_at "it"); (case k1 => omega); (case k2 => omega); (intro _ _))
  | ((with_reducible refine' r_setI ?k0 ?k1 ?k2 ?_); (case k0 => walk_at "tk"); (case k1 => omega); (case k2 => omega); (intro _ _ _ _ _))
  | ((with_reducible refine' r_kTupI ?k0 ?_); (case k0 => walk_at "tk"); (intro _ _ _ _ _))
  | ((with_reducible refine' r_listI ?k0 ?_); (case k0 => walk_at "it"); (intro _ _ _ _ _))
  | (with_reducible refine r_revU ?_)
  | ((with_reducible refine' r_prevN ?k0 ?_); (case k0 => walk_at "it"); (intro _ _ _ _ _ _))
  | (intro _ _ _ _ _))
local macro_rules | `(tactic| walk_at "go") => `(tactic| ((repeat (walk_at "au1")); (first
  | ((with_reducible refine r_ite (fun _ => ?_) (fun _ => ?_)) <;> (walk_at "go"))
  | ((with_reducible refine r_iteN (fun _ => ?_) (fun _ => ?_)) <;> (walk_at "go"))
  | dsimp only
  | skip)))
abbrev XN : List Str := ["ChamberError", "BadStage", "Unlike", "TooManyHeads", "TooManyPlaces"]
def sp_law_refused (K : PySem.W.Frag) : Sp := fun vs H Q _ => ∃ (n : Nat) (l : Addr) (ps : List (Addr × List Int)) (k : Nat), vs = [.int (n : Int), .ref l, .int (k : Int)] ∧ 1 ≤ n ∧ n ≤ 12 ∧ LRt H l ps ∧ ps.length ≤ 5000 ∧ (∀ r ∈ rws ps, IsRow r n) ∧ 1 ≤ k ∧ k ≤ 100000 ∧ More n (rws ps) k ∧ ∀ H', Same H H' → Q (.bl true) H'
def sp_law_inverse (K : PySem.W.Frag) : Sp := fun vs H Q _ => ∃ (n : Nat) (a : Addr) (r : List Int), vs = [.ref a] ∧ SqT K H a (r.map V.int) ∧ IsRow r n ∧ n ≤ 12 ∧ ∀ p H' bs, H p = none → Same H H' → H' p = some (.tup (bs.map V.int)) → bs.length = n → mulR bs r = roundsR n → Q (.ref p) H'
def sp_law_turned (K : PySem.W.Frag) : Sp := fun vs H Q _ => ∃ (p l : Addr) (ps : List (Addr × List Int)), vs = [.ref p, .ref l] ∧ Pl H p ∧ LRt H l ps ∧ ps.length ≤ 5000 ∧ ∀ o H' qs, H o = none → But p H H' → Pl H' p → LRt H' o qs → qs.Perm ps → Q (.ref o) H'
def sp_law_outside (K : PySem.W.Frag) : Sp := fun vs H Q _ => ∃ (p l : Addr) (n : Nat) (ws : List (Addr × List Int)), vs = [.ref p, .int (n : Int), .ref l] ∧ Pl H p ∧ 1 ≤ n ∧ n ≤ 12 ∧ LRt H l ws ∧
  ∀ v H', But p H H' → Pl H' p → (v = .non ∨ ∃ a r, v = .ref a ∧ H' a = some (.tup (r.map V.int)) ∧ IsRow r n ∧ r ∉ rws ws) → Q v H'
abbrev N_law_inverse : List Str := ["row", "out", "k"]
def t_law_inverse (K : PySem.W.Frag) : TS :=
  tSeq (tAsg ((tOp (rMulU K) ((tLst (tCons ((tC (.int 0))) tNil))) ((tCB (rLenU K) (tCons (tVar 0) tNil))))) (gName 1))
  (tSeq (tFor (iRng1 (tCons ((tCB (rLenU K) (tCons (tVar 0) tNil))) tNil)) (gName 2) ((tAsg ((tOp (rAddU K) (tVar 2) ((tC (.int 1))))) (gSub (tVar 1) ((tOp rSubU ((tOp (rIx K) (tVar 0) (tVar 2))) ((tC (.int 1))))) rSetL))))
  ((tRet ((tThen (tVar 1) (kTupP K))))))
abbrev N_law_turned : List Str := ["pool", "members", "left", "out", "k"]
def t_law_turned (K : PySem.W.Frag) : TS :=
  tSeq (tAsg ((tCB (rListU K) (tCons (tVar 1) tNil))) (gName 2))
  (tSeq (tAsg ((tLst tNil)) (gName 3))
  (tSeq (tFor (iRng1 (tCons ((tCB (rLenU K) (tCons (tVar 1) tNil))) tNil)) (gName 4) ((tDrop ((tBM K "list" rAppend (tVar 3) (tCons ((tBM K "list" rPopAt (tVar 2) (tCons ((tCall (sp_law_draw K) [] E0 (tCons (tVar 0) (tCons ((tCB (rLenU K) (tCons (tVar 2) tNil))) tNil)))) tNil))) tNil))))))
  ((tRet (tVar 3)))))
abbrev N_law_outside : List Str := ["pool", "stage", "members", "row", "at", "k", "place", "bells"]
def t_law_outside (K : PySem.W.Frag) : TS :=
  tSeq (tAsg ((tCall (sp_law_row_draw K) [] E0 (tCons (tVar 0) (tCons (tVar 1) tNil)))) (gName 3))
  (tSeq (tIfS ((tTest (tOp (rNotInD K) (tVar 3) (tVar 2)))) ((tRet (tVar 3))) (tNext))
  (tSeq (tAsg ((tCall (sp_law_draw K) [] E0 (tCons (tVar 0) (tCons (tVar 1) tNil)))) (gName 4))
  (tSeq (tFor (iRng1 (tCons (tVar 1) tNil)) (gName 5) (tSeq (tAsg ((tOp rModU ((tCB rIntU (tCons ((tOp (rAddU K) (tVar 4) (tVar 5))) tNil))) (tVar 1))) (gName 6))
  ((tIfS ((tTest (tOp (rLtU K) ((tOp (rAddU K) (tVar 6) ((tC (.int 1))))) (tVar 1)))) (tSeq (tAsg ((tLstRg (tRg2 ((tC (.int 1))) ((tOp (rAddU K) (tVar 1) ((tC (.int 1)))))))) (gName 7))
  (tSeq (tAsg ((tOp (rAddU K) (tVar 6) ((tC (.int 2))))) (gSub (tVar 7) (tVar 6) rSetL))
  (tSeq (tAsg ((tOp (rAddU K) (tVar 6) ((tC (.int 1))))) (gSub (tVar 7) ((tOp (rAddU K) (tVar 6) ((tC (.int 1))))) rSetL))
  ((tIfS ((tTest (tOp (rNotInD K) ((tThen (tVar 7) (kTupP K))) (tVar 2)))) ((tRet ((tThen (tVar 7) (kTupP K))))) (tNext)))))) (tNext)))))
  ((tRet ((tC .non)))))))
abbrev N_law_refused : List Str := ["stage", "rows", "most", "word", "bound", "alone", "e"]
def t_law_refused (K : PySem.W.Frag) (ec : Str → Addr) : TS :=
  tSeq (tAsg ((tC (.str ""))) (gName 3))
  (tSeq (tAsg ((tC (.int 0))) (gName 4))
  (tSeq (tAsg ((tC (.bl false))) (gName 5))
  (tSeq (tTry K W0 [⟨.ref (ec "TooManyHeads"), some 6, fun a cls d => tSeq (tAsg ((tXfA K a cls d "word" (tVar 6))) (gName 3))
  (tSeq (tAsg ((tXfA K a cls d "most" (tVar 6))) (gName 4))
  ((tAsg ((tAndV ((tCB (rIsX K a cls d) (tCons (tVar 6) (tCons ((tC (.ref (ec "ChamberError")))) tNil)))) ((tAndV ((tCB (rIsX K a cls d) (tCons (tVar 6) (tCons ((tC (.ty "ValueError"))) tNil)))) ((tNotV ((tCB (rIsX K a cls d) (tCons (tVar 6) (tCons ((tTup (tCons ((tC (.ref (ec "TooManyPlaces")))) (tCons ((tC (.ref (ec "Unlike")))) tNil)))) tNil)))))))))) (gName 5))))⟩, ⟨.ref (ec "ChamberError"), none, fun a cls d => (tAsg ((tC (.str "another"))) (gName 3))⟩] (fun W => (tDrop ((tCallW (sp_closure K ec) W (tCons (tVar 0) (tCons ((tThen (tVar 1) (kTupP K))) (tCons (tVar 2) tNil))))))))
  ((tRet ((tAndV (tVar 5) ((tAndV ((tCall (sp_law_same K) [] E0 (tCons (tVar 3) (tCons ((tC (.str "TooManyHeads"))) tNil)))) ((tCall (sp_law_same K) [] E0 (tCons (tVar 4) (tCons (tVar 2) tNil)))))))))))))
section
variable {K : PySem.W.Frag} {ec : Str → Addr} {vs : List V} {H : Hp} {Q : VK} {E : XK}
theorem len_law_refused (h : sp_law_refused K vs H Q E) : vs.length = 3 := by obtain ⟨n, l, ps, k, rfl, _⟩ := h; rfl
theorem len_law_inverse (h : sp_law_inverse K vs H Q E) : vs.length = 1 := by obtain ⟨n, a, r, rfl, _⟩ := h; rfl
theorem len_law_turned (h : sp_law_turned K vs H Q E) : vs.length = 2 := by obtain ⟨p, l, ps, rfl, _⟩ := h; rfl
theorem len_law_outside (h : sp_law_outside K vs H Q E) : vs.length = 3 := by obtain ⟨p, l, n, ws, rfl, _⟩ := h; rfl
theorem pure_law_refused (XS : Exs K ec XN) (h : sp_law_refused K vs H Q E) : t_law_refused K ec (En Q) (start N_law_refused vs) H := by
  obtain ⟨n, l, ps, k, rfl, n1, n2, hl, hz, hR, k1, k2, hm, q⟩ := h
  unfold t_law_refused
  walk_at "rd"
  refine r_kTupP (sqL_of hl.1) fun b H1 nb s1 e1 => ?_
  walk_at "rd"
  have hlen : ∀ w ∈ ps, w.2.length = n := fun w hw => (hR _ (List.mem_map.mpr ⟨w, hw, rfl⟩)).1
  refine ⟨n, b, ps, k, rfl, sqT_of e1, fun q hq => s1 _ _ (hl.2 q hq), k1, k2, by omega, fun hs => (hs ⟨by omega, by omega⟩).elim, fun _ hu => (hu fun w hw => by rw [hlen w hw]).elim, fun n' en _ _ hu => ?_⟩
  obtain rfl : n = n' := by omega
  refine ⟨hR, fun t H2 qs nt s2 e2 hq hc hk => ?_, fun _ d H' s' nd e => ?_⟩
  · have := hc.1.more.mp hm
    rw [rws_len'] at this
    omega
  · have BU := XS.bad "TooManyHeads" (by decide)
    refine w_yes (by rw [XS.exm "TooManyHeads" (by decide) "TooManyHeads" (by decide)]; rfl) fun ea na => ?_
    dsimp only
    refine r_seq (r_asg ?_)
    refine r_xfV (v := .str "TooManyHeads") BU.xf BU.nw rfl e rfl ?_
    refine r_name ?_
    dsimp only
    refine r_seq (r_asg ?_)
    refine r_xfV (v := .int (k : Int)) BU.xf (BU.nf "most" (by decide)) rfl e rfl ?_
    refine r_name ?_
    dsimp only
    refine r_asg ?_
    refine r_alone XS (x := "TooManyHeads") (by decide) (by decide) (by decide) (by decide) (by decide) (by decide) rfl e fun H2 s2 => ?_
    refine r_name (r_endsAs ?_)
    dsimp only
    walk_at "rd"
    refine ⟨.str "TooManyHeads", .str "TooManyHeads", .str "TooManyHeads", rfl, .str _, .str _, by decide, fun H3 s3 => ?_⟩
    walk_at "rd"
    refine ⟨.int k, .int k, .int k, rfl, .int _, .int _, by show 1 ≤ 1000000; decide, fun H4 s4 => ?_⟩
    exact q H4 ((((s1.trans s').trans s2).trans s3).trans s4)
theorem pure_law_inverse (h : sp_law_inverse K vs H Q E) : t_law_inverse K (En Q) (start N_law_inverse vs) H := by
  obtain ⟨n, a, r, rfl, hr, hR, hn, q⟩ := h
  unfold t_law_inverse
  walk_at "rd"
  intro l0 H0 nl0 s0 e0
  walk_at "rd"
  rw [List.length_map, hR.1]
  refine r_mulL e0 (by omega) (by omega) (by rw [sizeLine_eq]; simp; omega) ?_
  intro o H1 no s1 e1
  have e1 : H1 o = some (.lst ((List.replicate n (0 : Int)).map V.int)) := by rw [e1]; simp
  have noH : H o = none := s0.free no
  walk_at "rd"
  rw [List.length_map, hR.1]
  walk_at "rd"
  rw [Int.toNat_natCast]
  refine r_forRange0 (fun i σ' H' => ∃ (bs : List Int) (z2 : Option V), σ' = [some (.ref a), some (.ref o), z2] ∧ Same H H' ∧ H' o = some (.lst (bs.map V.int)) ∧ bs.length = n ∧ ∀ j, j < i → bs.getD (r.getD j 0 - 1).toNat 0 = (j : Int) + 1)
    ⟨List.replicate n 0, none, rfl, s0.trans s1, e1, by simp, fun j hj => absurd hj (Nat.not_lt_zero j)⟩ (fun i σ' H' hi hW => ?_) (fun σ' H' hW => ?_)
  · obtain ⟨bs, z2, rfl, s, eo, hb, hD⟩ := hW
    have hil : i < r.length := by rw [hR.1]; exact hi
    have my := hR.2.2 _ (List.getElem_mem hil)
    have ha : atI (r.map V.int) (i : Int) = some (.int r[i]) := atI_nat (by rw [List.getElem?_map, List.getElem?_eq_getElem hil]; rfl)
    have hr' := sqT_same s hr
    walk_at "rd"
    refine r_setL eo (by rw [List.length_map, hb]; exact ixN_r my.1 my.2) ?_
    intro H5 b5 e5
    rw [← List.map_set (f := V.int)] at e5
    walk_at "rd"
    refine ⟨_, _, rfl, same_but s b5 noH, e5, by rw [List.length_set]; exact hb, fun j hj => ?_⟩
    have egi : r.getD i 0 = r[i] := getD_in hil
    by_cases hji : j = i
    · subst hji
      rw [egi, getD_in (by rw [List.length_set, hb]; omega), List.getElem_set_self]
    · have hjl : j < r.length := by omega
      have egj : r.getD j 0 = r[j] := getD_in hjl
      have mj := hR.2.2 _ (List.getElem_mem hjl)
      have hne : (r[i] - 1).toNat ≠ (r[j] - 1).toNat := fun z => hji ((List.getElem_inj hR.2.1).mp (by omega : r[j] = r[i]))
      have := hD j (by omega)
      rw [egj] at this ⊢
      rw [getD_in (by rw [hb]; omega)] at this
      rw [getD_in (by rw [List.length_set, hb]; omega), List.getElem_set_ne hne]
      exact this
  · obtain ⟨bs, z2, rfl, s, eo, hb, hD⟩ := hW
    walk_at "rd"
    refine r_kTupP (sqL_of eo) fun p H6 np s6 e6 => ?_
    refine q p H6 bs (s.free np) (s.trans s6) e6 hb ?_
    apply List.ext_getElem?
    intro j
    unfold mulR roundsR
    rw [List.getElem?_map, List.getElem?_map]
    by_cases hj : j < n
    · rw [List.getElem?_eq_getElem (by rw [hR.1]; exact hj), List.getElem?_range hj]
      have := hD j hj
      have egj : r.getD j 0 = r[j]'(by rw [hR.1]; exact hj) := getD_in _
      rw [egj] at this
      simp only [Option.map_some]
      rw [this]
      congr 1
      omega
    · rw [List.getElem?_eq_none (by rw [hR.1]; omega), List.getElem?_eq_none (by simp; omega)]
      rfl
theorem popP {ps : List (Addr × List Int)} {i : Nat} {q : Addr × List Int} (h : ps[i]? = some q) (os : List (Addr × List Int)) : ((os ++ [q]) ++ ps.eraseIdx i).Perm (os ++ ps) := by
  rw [List.append_assoc]
  refine List.Perm.append_left os ?_
  obtain ⟨hl, e⟩ := List.getElem?_eq_some_iff.mp h
  subst e
  have e2 : ps = ps.take i ++ ps[i] :: ps.drop (i + 1) := by rw [← List.drop_eq_getElem_cons hl, List.take_append_drop]
  rw [List.eraseIdx_eq_take_drop_succ]
  conv => rhs; rw [e2]
  exact List.Perm.symm (List.perm_middle (a := ps[i]) (l₁ := ps.take i) (l₂ := ps.drop (i + 1)))
theorem pure_law_turned (h : sp_law_turned K vs H Q E) : t_law_turned K (En Q) (start N_law_turned vs) H := by
  obtain ⟨p, m, ps, rfl, hP, hl, hz, q⟩ := h
  unfold t_law_turned
  have em := hl.1
  walk_at "rd"
  intro l H1 nl s1 e1
  walk_at "rd"
  intro o H2 no s2 e2
  have hpl : p ≠ l := by obtain ⟨x, y, z, hp⟩ := hP; exact ne_of_none hp nl
  have hpo : p ≠ o := by obtain ⟨x, y, z, hp⟩ := hP; exact ne_of_none (s1 _ _ hp) no
  have hlo : l ≠ o := ne_of_none e1 no
  have em2 := s2 _ _ (s1 _ _ em)
  walk_at "rd"
  rw [List.length_map, Int.toNat_natCast]
  refine r_forRange0 (fun i σ' H' => ∃ (os ls : List (Addr × List Int)) (z : Option V), σ' = [some (.ref p), some (.ref m), some (.ref l), some (.ref o), z] ∧ But p H H' ∧ Pl H' p ∧ LRt H' l ls ∧ LRt H' o os ∧ (os ++ ls).Perm ps ∧ os.length = i)
    ⟨[], ps, none, rfl, (Same.but s1).trans (Same.but s2), pl_same s2 (pl_same s1 hP), ⟨s2 _ _ e1, fun q hq => s2 _ _ (s1 _ _ (hl.2 q hq))⟩, ⟨e2, fun _ h => (nomatch h)⟩, List.Perm.refl _, rfl⟩ (fun i σ' H' hi hW => ?_) (fun σ' H' hW => ?_)
  · obtain ⟨os, ls, z, rfl, b, hP', el, eo, hr, ho⟩ := hW
    have hll : ls.length = ps.length - i := by have := hr.length_eq; rw [List.length_append] at this; omega
    have ell := el.1
    have eol := eo.1
    walk_at "rd"
    refine ⟨p, _, rfl, hP', by rw [List.length_map]; omega, by rw [List.length_map]; omega, fun v H5 hv0 hv1 b5 hP5 => ?_⟩
    rw [List.length_map] at hv1
    have hk : v.toNat < ls.length := by omega
    have lt5 : ∀ {l : Addr} {qs : List (Addr × List Int)}, l ≠ p → LRt H' l qs → LRt H5 l qs := fun hne h => by
      obtain ⟨x, y, z, e⟩ := hP'
      exact h.butL b5 e hne
    have hl5 := lt5 hpl.symm el
    have ho5 := lt5 hpo.symm eo
    have hl5' := hl5.1
    walk_at "rd"
    refine r_popAt (k := v.toNat) (y := .ref ls[v.toNat].1) hl5' (by omega) (by rw [List.getElem?_map, List.getElem?_eq_getElem hk]; rfl) (by rw [List.length_map]; omega) ?_
    intro H6 b6 e6
    have ho6 := ho5.butL b6 hl5' hlo.symm
    have ho6' := ho6.1
    walk_at "rd"
    intro H7 b7 e7
    walk_at "rd"
    have hl6 : LRt H6 l (ls.eraseIdx v.toNat) := ⟨by rw [e6, map_eraseIdx], fun q hq => b6 _ _ (ne_of (hl5.2 q (List.mem_of_mem_eraseIdx hq)) hl5' (by intro z; cases z)) (hl5.2 q (List.mem_of_mem_eraseIdx hq))⟩
    have eat : H6 ls[v.toNat].1 = some (.tup (ls[v.toNat].2.map V.int)) := b6 _ _ (ne_of (hl5.2 _ (List.getElem_mem hk)) hl5' (by intro z; cases z)) (hl5.2 _ (List.getElem_mem hk))
    refine ⟨os ++ [ls[v.toNat]], ls.eraseIdx v.toNat, _, rfl, but_via (but_via (b.trans b5) b6 nl) b7 (s1.free no), ?_, hl6.butL b7 ho6' hlo, ho6.push b7 eat e7, (popP (List.getElem?_eq_getElem hk) os).trans hr, by rw [List.length_append, ho]; rfl⟩
    obtain ⟨x, y, z, hp⟩ := hP5
    exact ⟨x, y, z, b7 _ _ hpo (b6 _ _ hpl hp)⟩
  · obtain ⟨os, ls, z, rfl, b, hP', el, eo, hr, ho⟩ := hW
    have hll : ls = [] := List.length_eq_zero_iff.mp (by have := hr.length_eq; rw [List.length_append] at this; omega)
    subst hll
    rw [List.append_nil] at hr
    walk_at "rd"
    exact q o H' os (s1.free no) b hP' eo hr
theorem ne_plL {l p : Addr} {ps : List (Addr × List Int)} (hl : LRt H l ps) (hp : Pl H p) : l ≠ p := fun z => by
  subst z
  obtain ⟨x, y, z, e⟩ := hp
  have h1 := hl.1
  rw [e] at h1
  cases ps with
  | nil => cases h1
  | cons q r => cases h1
theorem LRt.plN {H' : Hp} {l p : Addr} {ps : List (Addr × List Int)} (b : But p H H') (hp : Pl H p) (h : LRt H l ps) : LRt H' l ps := by
  have ne := ne_plL h hp
  obtain ⟨x, y, z, e⟩ := hp
  exact h.butL b e ne
theorem pure_law_outside (h : sp_law_outside K vs H Q E) : t_law_outside K (En Q) (start N_law_outside vs) H := by
  obtain ⟨p, l, n, ws, rfl, hP, n1, n2, hl, q⟩ := h
  unfold t_law_outside
  walk_at "rd"
  refine ⟨p, n, rfl, hP, by omega, fun a H1 r na b1 hp1 ea hr => ?_⟩
  have hl1 : LRt H1 l ws := LRt.plN b1 hP hl
  walk_at "rd"
  refine r_notInR hl1 (sqT_of ea) ?_
  walk_at "rd"
  by_cases hin : r ∈ rws ws
  · refine r_iteNP hin ?_
    walk_at "rd"
    refine r_draw hp1 (by omega) (by omega) fun at' H2 a0 a1 b2 hp2 => ?_
    have hl2 : LRt H2 l ws := LRt.plN b2 hp1 hl1
    walk_at "rd"
    rw [Int.toNat_natCast]
    refine r_forRange0 (fun i σ' H' => ∃ (z5 z6 z7 : Option V), σ' = [some (.ref p), some (.int (n : Int)), some (.ref l), some (.ref a), some (.int at'), z5, z6, z7] ∧ Same H2 H')
      ⟨none, none, none, rfl, Same.refl _⟩ (fun i σ' H' hi hW => ?_) (fun σ' H' hW => ?_)
    · obtain ⟨z5, z6, z7, rfl, s3⟩ := hW
      have hl3 := hl2.same s3
      walk_at "rd"
      obtain ⟨pl, epl⟩ : ∃ pl : Nat, (at' + (i : Int)) % (n : Int) = (pl : Int) := ⟨((at' + (i : Int)) % (n : Int)).toNat, by have := Int.emod_nonneg (at' + (i : Int)) (b := (n : Int)) (by omega); omega⟩
      rw [epl]
      walk_at "rd"
      refine r_ite (fun hlt => ?_) (fun hge => ?_)
      · walk_at "rd"
        refine r_new (RgOk.of_le (by omega) (by omega) (by omega) (by omega)) ?_
        intro bl H4 nbl s4 e4
        rw [rgV_rounds] at e4
        walk_at "rd"
        refine r_setL (k := pl) e4 (by rw [List.length_map, (roundsR_row n).1]; exact ixN_n (by omega)) ?_
        intro H5 b5 e5
        rw [← List.map_set (f := V.int)] at e5
        walk_at "rd"
        refine r_setL (k := pl + 1) e5 (by
          rw [List.length_map, List.length_set, (roundsR_row n).1, show ((pl : Int) + 1) = ((pl + 1 : Nat) : Int) by omega]
          exact ixN_n (by omega)) ?_
        intro H6 b6 e6
        rw [← List.map_set (f := V.int)] at e6
        have e6' : H6 bl = some (.lst ((swapR n pl).map V.int)) := e6
        have nbl2 : H2 bl = none := s3.free nbl
        have s26 : Same H2 H6 := same_but (same_but (s3.trans s4) b5 nbl2) b6 nbl2
        walk_at "rd"
        refine r_kTupP (sqL_of e6') fun t H7 nt s7 e7 => ?_
        have hl7 := (hl2.same s26).same s7
        walk_at "rd"
        refine r_notInR hl7 (sqT_of e7) ?_
        walk_at "rd"
        refine r_iteN (fun hno => ?_) (fun hyes => ?_)
        · have e67 := s7 _ _ e6'
          walk_at "rd"
          refine r_kTupP (sqL_of e67) fun t2 H8 nt2 s8 e8 => ?_
          have s28 := (s26.trans s7).trans s8
          exact q _ H8 ((b1.trans b2).trans (Same.but s28)) (pl_same s28 hp2) (.inr ⟨t2, swapR n pl, rfl, e8, swapR_row n2 (by omega), hno⟩)
        · walk_at "rd"
          exact ⟨_, _, _, rfl, s26.trans s7⟩
      · walk_at "rd"
        exact ⟨_, _, _, rfl, s3⟩
    · obtain ⟨z5, z6, z7, rfl, s3⟩ := hW
      walk_at "rd"
      exact q _ H' ((b1.trans b2).trans (Same.but s3)) (pl_same s3 hp2) (.inl rfl)
  · refine r_iteNM hin ?_
    walk_at "rd"
    exact q _ H1 b1 hp1 (.inr ⟨a, r, rfl, ea, hr, hin⟩)
end
end K7
end K5
end Kb
set_option Elab.async false
set_option linter.all false
set_option maxRecDepth 100000
set_option maxHeartbeats 4000000
namespace Kb
namespace K5
namespace K7
open PySem PySem.Spec PyProof.Rows L2
local macro_rules | `(tactic| walk_at "tk") => `(tactic| first
  | assumption
  | ((with_reducible refine' sqT_of ?k); (case k => assumption))
  | ((with_reducible refine' sqT_ofD ?k); (case k => assumption))
  | ((with_reducible refine' noD_of ?k); (case k => assumption))
  | ((with_reducible refine' noD_same ?s ?k); (case s => assumption); (case k => walk_at "tk"))
  | ((with_reducible refine' sqL_of ?k); (case k => assumption))
  | ((with_reducible refine' sqT_same ?s ?k); (case s => assumption); (case k => walk_at "tk"))
  | ((with_reducible refine' sqL_same ?s ?k); (case s => assumption); (case k => walk_at "tk"))
  | ((with_reducible refine' sqT_but ?s ?t ?k); (case s => assumption); (case t => walk_at "tk"); (case k => walk_at "tk"))
  | ((with_reducible refine' sqL_but ?s ?t ?k); (case s => assumption); (case t => walk_at "ne"); (case k => walk_at "tk"))
  | ((with_reducible refine' sqL_of ?k); (case k => walk_at "tk"))
  | ((with_reducible refine' sqT_of ?k); (case k => walk_at "tk"))
  | ((with_reducible refine' at_same ?s ?k); (case s => assumption); (case k => walk_at "tk"))
  | ((with_reducible refine' at_but ?s ?t ?k); (case s => assumption); (case t => walk_at "ne"); (case k => walk_at "tk")))
local macro_rules | `(tactic| walk_at "ne") => `(tactic| first
  | assumption
  | (refine Ne.symm ?_; assumption)
  | exact ne_of_none (by assumption) (by assumption)
  | exact (ne_of_none (by assumption) (by assumption)).symm)
local macro_rules | `(tactic| walk_at "side") => `(tactic| first
  | assumption
  | omega
  | (simp only [sizeLine_eq, List.length_cons, List.length_nil, List.length_map]; omega)
  | (show _ ≤ sizeLine; decide))
local macro_rules | `(tactic| walk_at "kit") => `(tactic| first
  | (show kitB _ _ = some true; decide +kernel)
  | (show kitB _ _ = some false; decide +kernel))
local macro_rules | `(tactic| walk_at "rng") => `(tactic| first
  | (refine ⟨by omega, by omega, by omega, by omega⟩)
  | (refine ⟨by omega, by omega⟩)
  | ((simp only [List.length_map]); (refine ⟨by omega, by omega, by omega, by omega⟩))
  | ((simp only [List.length_map]); (refine ⟨by omega, by omega⟩)))
local macro_rules | `(tactic| walk_at "rd1") => `(tactic| first
  | with_reducible refine r_seq ?_
  | ((with_reducible refine' r_var ?k0 ?_); (case k0 => rfl))
  | with_reducible refine r_op ?_
  | with_reducible refine r_c ?_
  | with_reducible refine r_asg ?_
  | with_reducible refine r_name ?_
  | with_reducible refine r_cons ?_
  | with_reducible refine r_nil ?_
  | with_reducible refine r_CB ?_
  | with_reducible refine r_if ?_
  | with_reducible refine r_test ?_
  | with_reducible refine r_k ?_
  | with_reducible refine r_T ?_
  | with_reducible refine r_F ?_
  | with_reducible refine r_nT ?_
  | with_reducible refine r_nF ?_
  | with_reducible refine r_ret ?_
  | with_reducible refine r_drop ?_
  | with_reducible refine r_next ?_
  | with_reducible refine r_call ?_
  | with_reducible refine r_addI ?_
  | with_reducible refine r_subI ?_
  | with_reducible refine r_ltI ?_
  | with_reducible refine r_gtI ?_
  | with_reducible refine r_leI ?_
  | with_reducible refine r_geI ?_
  | with_reducible refine r_eqI ?_
  | with_reducible refine r_neI ?_
  | with_reducible refine r_int ?_
  | with_reducible refine r_abs ?_
  | with_reducible refine r_not ?_
  | with_reducible refine r_and ?_
  | with_reducible refine r_or ?_
  | with_reducible refine r_tru ?_
  | with_reducible refine r_truB ?_
  | with_reducible refine r_lst ?_
  | with_reducible refine r_tup ?_
  | with_reducible refine r_BM ?_
  | with_reducible refine r_BM0 ?_
  | with_reducible refine r_tyS ?_
  | with_reducible refine r_gsub ?_
  | with_reducible refine r_then ?_
  | with_reducible refine r_lstRg ?_
  | with_reducible refine r_tupRg ?_
  | with_reducible refine r_rg2 ?_
  | with_reducible refine r_rg1 ?_
  | with_reducible refine r_ii ?_
  | with_reducible refine r_i ?_
  | with_reducible refine r_ipI ?_
  | with_reducible refine r_un ?_
  | with_reducible refine r_neg ?_
  | with_reducible refine r_isN ?_
  | with_reducible refine r_notN ?_
  | with_reducible refine r_notV ?_
  | with_reducible refine r_pnot ?_
  | with_reducible refine r_pif ?_
  | with_reducible refine r_andV ?_
  | with_reducible refine r_orV ?_
  | with_reducible refine r_ifE ?_
  | with_reducible refine r_chain ?_
  | with_reducible refine r_sl ?_
  | with_reducible refine r_noPart ?_
  | with_reducible refine r_part ?_
  | with_reducible refine r_brk ?_
  | with_reducible refine r_cont ?_
  | with_reducible refine r_retN ?_
  | with_reducible refine r_truI ?_
  | with_reducible refine r_B ?_
  | with_reducible refine r_for ?_
  | with_reducible refine r_rng1 ?_
  | with_reducible refine r_rng2 ?_
  | with_reducible refine r_rng3 ?_
  | with_reducible refine r_body ?_
  | with_reducible refine r_lc ?_
  | with_reducible refine r_yes ?_
  | ((with_reducible refine' r_mod ?k0 ?_); (case k0 => walk_at "side"))
  | ((with_reducible refine' r_mulI ?k0 ?_); (case k0 => first | exact Or.inl ⟨by omega, by omega⟩ | exact Or.inr ⟨by omega, by omega⟩))
  | ((with_reducible refine' r_lenL ?k0 ?_); (case k0 => walk_at "tk"))
  | ((with_reducible refine' r_lenT ?k0 ?_); (case k0 => walk_at "tk"))
  | ((with_reducible refine' r_truL ?k0 ?_); (case k0 => walk_at "tk"))
  | ((with_reducible refine' r_truT ?k0 ?_); (case k0 => walk_at "tk"))
  | ((with_reducible refine' r_ixL ?k0 ?k1 ?_); (case k0 => walk_at "tk"); (case k1 => first | assumption | rfl))
  | ((with_reducible refine' r_ixT ?k0 ?k1 ?_); (case k0 => walk_at "tk"); (case k1 => first | assumption | rfl))
  | ((with_reducible refine' r_new ?k0 ?_); (case k0 => walk_at "side"))
  | ((with_reducible refine' r_tyL ?k0 ?_); (case k0 => walk_at "tk"))
  | ((with_reducible refine' r_append ?k0 ?k1 ?_); (case k0 => walk_at "tk"); (case k1 => walk_at "side"))
  | ((with_reducible refine' r_setL ?k0 ?k1 ?_); (case k0 => walk_at "tk"); (case k1 => first | assumption | rfl))
  | ((with_reducible refine' r_kTupL ?k0 ?_); (case k0 => walk_at "tk"))
  | ((with_reducible refine' r_kTupT ?k0 ?_); (case k0 => walk_at "tk"))
  | ((with_reducible refine' r_listL ?k0 ?_); (case k0 => walk_at "tk"))
  | ((with_reducible refine' r_listT ?k0 ?_); (case k0 => walk_at "tk"))
  | ((with_reducible refine' r_aug ?k0 ?_); (case k0 => rfl))
  | ((with_reducible refine' r_lenS ?k0 ?_); (case k0 => walk_at "side"))
  | ((with_reducible refine' r_pop ?k0 ?_); (case k0 => walk_at "tk"))
  | ((with_reducible refine' r_pr1 ?k0 ?_); (case k0 => walk_at "rng"))
  | ((with_reducible refine' r_pr2 ?k0 ?_); (case k0 => walk_at "rng"))
  | ((with_reducible refine' r_pr3d ?k0 ?_); (case k0 => walk_at "rng"))
  | ((with_reducible refine' r_isiI ?k0 ?_); (case k0 => walk_at "kit"))
  | ((with_reducible refine' r_isiB ?k0 ?_); (case k0 => walk_at "kit"))
  | ((with_reducible refine' r_isiS ?k0 ?_); (case k0 => walk_at "kit"))
  | ((with_reducible refine' r_isiN ?k0 ?_); (case k0 => walk_at "kit"))
  | ((with_reducible refine' r_isiT ?k0 ?k1 ?_); (case k0 => walk_at "tk"); (case k1 => walk_at "kit"))
  | ((with_reducible refine r_seqT ?_); (repeat (walk_at "rd1")); ((with_reducible refine' r_pseqT ?k0 ?_); (case k0 => walk_at "tk")))
  | ((with_reducible refine r_seqL ?_); (repeat (walk_at "rd1")); ((with_reducible refine' r_pseqL ?k0 ?_); (case k0 => walk_at "tk")))
  | ((with_reducible refine r_seqS ?_); (repeat (walk_at "rd1")); (with_reducible refine r_pseqS ?_)))
local macro_rules | `(tactic| walk_at "rd") => `(tactic| ((repeat (walk_at "rd1")); (try dsimp only)))
local macro_rules | `(tactic| walk_at "rd1") => `(tactic| first
  | with_reducible refine r_BMT ?_
  | with_reducible refine r_par ?_
  | with_reducible refine r_parV ?_
  | ((with_reducible refine' r_ptp ?k0 ?k1 ?_); (case k0 => walk_at "tk"); (case k1 => walk_at "tk"))
  | with_reducible refine r_eqS ?_
  | with_reducible refine r_neS ?_
  | with_reducible refine r_callW ?_
  | with_reducible refine r_try ?_
  | with_reducible refine r_enT ?_
  | ((with_reducible refine' r_pen ?k0 ?_); (case k0 => walk_at "tk")))
local macro_rules | `(tactic| walk_at "rd1") => `(tactic| first
  | with_reducible refine r_dIn ?_
  | with_reducible refine r_dNo ?_
  | with_reducible refine r_dPut ?_
  | with_reducible refine r_dGet ?_)
local macro_rules | `(tactic| walk_at "pl0") => `(tactic| first
  | assumption
  | exact pl_same (by assumption) (by assumption)
  | exact pl_same (by assumption) (pl_same (by assumption) (by assumption))
  | exact pl_same (by assumption) (pl_same (by assumption) (pl_same (by assumption) (by assumption))))
local macro_rules | `(tactic| walk_at "pl") => `(tactic| first
  | walk_at "pl0"
  | ((with_reducible refine' pl_butL ?s ?n ?k); (case s => assumption); (case n => walk_at "ne"); (case k => walk_at "pl"))
  | ((with_reducible refine' pl_same ?s ?k); (case s => assumption); (case k => walk_at "pl")))
local macro_rules | `(tactic| walk_at "ne") => `(tactic| first
  | exact ne_pl (by assumption) (by walk_at "pl0")
  | exact (ne_pl (by assumption) (by walk_at "pl0")).symm)
local macro_rules | `(tactic| walk_at "fr") => `(tactic| first
  | assumption
  | ((with_reducible refine' free_but ?b ?n ?h); (case h => assumption); (case n => walk_at "ne"); (case b => walk_at "but"))
  | ((with_reducible refine' Same.free ?b ?h); (case h => assumption); (case b => walk_at "same")))
local macro_rules | `(tactic| walk_at "but") => `(tactic| first
  | assumption
  | exact But.refl
  | ((with_reducible refine' But.trans ?a ?b); (case b => assumption); (case a => walk_at "but"))
  | ((with_reducible refine' But.trans ?a (Same.but ?b)); (case b => assumption); (case a => walk_at "but"))
  | ((with_reducible refine' but_via ?a ?b ?c); (case b => assumption); (case c => walk_at "fr"); (case a => walk_at "but")))
local macro_rules | `(tactic| walk_at "same") => `(tactic| first
  | assumption
  | exact Same.refl _
  | ((with_reducible refine' Same.trans ?a ?b); (case b => assumption); (case a => walk_at "same"))
  | ((with_reducible refine' same_but ?a ?b ?c); (case b => assumption); (case c => walk_at "fr"); (case a => walk_at "same")))
local macro_rules | `(tactic| walk_at "tk") => `(tactic| first
  | ((with_reducible refine' sqT_pl ?s ?t ?k); (case s => assumption); (case t => walk_at "pl0"); (case k => walk_at "tk"))
  | ((with_reducible refine' rp_same ?s ?k); (case s => assumption); (case k => walk_at "tk"))
  | ((with_reducible refine' rp_pl ?s ?t ?k); (case s => assumption); (case t => walk_at "pl0"); (case k => walk_at "tk")))
local macro_rules | `(tactic| walk_at "it") => `(tactic| first
  | assumption
  | ((with_reducible refine' sqI_1 ?k); (case k => assumption))
  | ((with_reducible refine' sqI_0 ?k); (case k => assumption))
  | ((with_reducible refine' sqI_of ?k); (case k => assumption))
  | ((with_reducible refine' sqI_D ?k); (case k => assumption))
  | ((with_reducible refine' sqT_same ?s ?k); (case s => assumption); (case k => walk_at "it"))
  | ((with_reducible refine' sqT_but ?s ?t ?k); (case s => assumption); (case t => assumption); (case k => walk_at "it"))
  | ((with_reducible refine' sqT_pl ?s ?t ?k); (case s => assumption); (case t => walk_at "pl0"); (case k => walk_at "it")))
local macro_rules | `(tactic| walk_at "sz") => `(tactic| first | omega | ((try simp only [List.length_cons, List.length_nil] at *); omega))
local macro_rules | `(tactic| walk_at "au1") => `(tactic| first
  | walk_at "rd1"
  | ((with_reducible refine' r_draw ?k0 ?k1 ?k2 ?_); (case k0 => walk_at "pl"); (case k1 => omega); (case k2 => omega); (intro _ _ _ _ _ _))
  | ((with_reducible refine' r_slN ?k0 ?_); (case k0 => walk_at "it"); (intro _ _ _ _ _ _))
  | ((with_reducible refine' r_catN ?k0 ?k1 ?k2 ?_); (case k0 => walk_at "it"); (case k1 => walk_at "it"); (case k2 => walk_at "sz"); (intro _ _ _ _ _ _))
  | ((with_reducible refine' r_pow ?k0 ?_); (case k0 => exact ⟨by decide, by decide, by decide⟩))
  | ((with_reducible refine' r_ixI ?k0 ?k1 ?k2 ?_); (case k0 => walk_at "it"); (case k1 => omega); (case k2 => omega); (intro _ _))
  | ((with_reducible refine' r_setI ?k0 ?k1 ?k2 ?_); (case k0 => walk_at "tk"); (case k1 => omega); (case k2 => omega); (intro _ _ _ _ _))
  | ((with_reducible refine' r_kTupI ?k0 ?_); (case k0 => walk_at "tk"); (intro _ _ _ _ _))
  | ((with_reducible refine' r_listI ?k0 ?_); (case k0 => walk_at "it"); (intro _ _ _ _ _))
  | (with_reducible refine r_revU ?_)
  | ((with_reducible refine' r_prevN ?k0 ?_); (case k0 => walk_at "it"); (intro _ _ _ _ _ _))
  | (intro _ _ _ _ _))
local macro_rules | `(tactic| walk_at "go") => `(tactic| ((repeat (walk_at "au1")); (first
  | ((with_reducible refine r_ite (fun _ => ?_) (fun _ => ?_)) <;> (walk_at "go"))
  | ((with_reducible refine r_iteN (fun _ => ?_) (fun _ => ?_)) <;> (walk_at "go"))
  | dsimp only
  | skip)))
def sp_law_larger (K : PySem.W.Frag) : Sp := fun vs H Q _ => ∃ (n : Nat) (l m o : Addr) (xs ws : List (Addr × List Int)) (M : List (List Int)) (r : List Int), vs = [.int (n : Int), .ref l, .ref m, .ref o] ∧ 1 ≤ n ∧ n ≤ 12 ∧ LRt H l xs ∧ xs.length ≤ 1000 ∧ LRt H m ws ∧ H o = some (.tup (r.map V.int)) ∧ (∀ x ∈ rws xs, IsRow x n) ∧
  Clo n M (rws ws) ∧ (∀ x ∈ M, x ∈ rws xs) ∧ r ∈ rws xs ∧ r ∉ rws ws ∧ ws.length ≤ 720 ∧ ∀ H', Same H H' → Q (.bl true) H'
def sp_law_within (K : PySem.W.Frag) : Sp := fun vs H Q _ => ∃ (n : Nat) (l m d : Addr) (ps ws ds : List (Addr × List Int)), vs = [.int (n : Int), .ref l, .ref m, .ref d] ∧ 1 ≤ n ∧ n ≤ 12 ∧ LRt H l ps ∧ ps.length ≤ 720 ∧ LRt H m ws ∧ LRt H d ds ∧ ds.length ≤ 100 ∧ (∀ x ∈ rws ps, IsRow x n) ∧
  Clo n (rws ps) (rws ws) ∧ (∀ x ∈ rws ds, x ∈ rws ws) ∧ ws.length ≤ 720 ∧ ∀ H', Same H H' → Q (.bl true) H'
abbrev N_law_larger : List Str := ["stage", "makers", "members", "outside", "large", "found", "row"]
def t_law_larger (K : PySem.W.Frag) (ec : Str → Addr) : TS :=
  tSeq (tIfS ((tNot ((tTru K ((tCall (sp_law_refused K) [] E0 (tCons (tVar 0) (tCons (tVar 1) (tCons ((tCB (rLenU K) (tCons (tVar 2) tNil))) tNil))))))))) ((tRet ((tC (.bl false))))) (tNext))
  (tSeq (tAsg ((tCall (sp_law_closure K) [] E0 (tCons (tVar 0) (tCons (tVar 1) (tCons ((tC (.int 720))) tNil))))) (gName 4))
  (tSeq (tIfS ((tTest (tOp rIsNU (tVar 4) ((tC .non))))) ((tRet ((tCall (sp_law_refused K) [] E0 (tCons (tVar 0) (tCons (tVar 1) (tCons ((tC (.int 720))) tNil))))))) (tNext))
  (tSeq (tIfS ((tOr ((tNot ((tTru K ((tCall (sp_law_same K) [] E0 (tCons ((tCall (sp_closure K ec) [] E0 (tCons (tVar 0) (tCons ((tThen (tVar 1) (kTupP K))) (tCons ((tC (.int 720))) tNil))))) (tCons ((tThen ((tOp (rIx K) (tVar 4) ((tC (.int 0))))) (kTupP K))) tNil)))))))) ((tTest (tOp (rNeU K) ((tOp rModU ((tCB rIntU (tCons ((tCB (rLenU K) (tCons ((tOp (rIx K) (tVar 4) ((tC (.int 0))))) tNil))) tNil))) ((tCB (rLenU K) (tCons (tVar 2) tNil))))) ((tC (.int 0)))))))) ((tRet ((tC (.bl false))))) (tNext))
  (tSeq (tAsg tDNewT (gName 5))
  (tSeq (tFor (iSeqU K ((tOp (rIx K) (tVar 4) ((tC (.int 0)))))) (gName 6) ((sDPut (tVar 5) (tVar 6) ((tC (.bl true))))))
  ((tRet ((tAndV ((tDIn (tVar 3) (tVar 5))) ((tOp (rEqU K) ((tCB (rLenU K) (tCons ((tLc ((iSeqU K (tVar 2))) ((gName 6)) ((tB (tDIn (tVar 6) (tVar 5)))) (tVar 6) [6])) tNil))) ((tCB (rLenU K) (tCons (tVar 2) tNil))))))))))))))
abbrev N_law_within : List Str := ["stage", "rows", "members", "drawn", "part", "size", "found", "row", "told", "coset"]
def t_law_within (K : PySem.W.Frag) (ec : Str → Addr) : TS :=
  tSeq (tAsg ((tCall (sp_law_closure K) [] E0 (tCons (tVar 0) (tCons (tVar 3) (tCons ((tC (.int 720))) tNil))))) (gName 4))
  (tSeq (tIfS ((tOr ((tTest (tOp rIsNU (tVar 4) ((tC .non))))) ((tNot ((tTru K ((tCall (sp_law_same K) [] E0 (tCons ((tCall (sp_closure K ec) [] E0 (tCons (tVar 0) (tCons ((tThen (tVar 3) (kTupP K))) (tCons ((tCB (rLenU K) (tCons (tVar 2) tNil))) tNil))))) (tCons ((tThen ((tOp (rIx K) (tVar 4) ((tC (.int 0))))) (kTupP K))) tNil)))))))))) ((tRet ((tC (.bl false))))) (tNext))
  (tSeq (tAsg ((tCB (rLenU K) (tCons ((tOp (rIx K) (tVar 4) ((tC (.int 0))))) tNil))) (gName 5))
  (tSeq (tAsg tDNewT (gName 6))
  (tSeq (tFor (iSeqU K (tVar 2)) (gName 7) ((sDPut (tVar 6) (tVar 7) ((tC (.bl true))))))
  (tSeq (tIfS ((tOr ((tTest (tOp (rNeU K) ((tOp rModU ((tCB rIntU (tCons ((tCB (rLenU K) (tCons (tVar 2) tNil))) tNil))) (tVar 5))) ((tC (.int 0)))))) ((tTest (tOp (rNeU K) ((tCB (rLenU K) (tCons ((tLc ((iSeqU K ((tOp (rIx K) (tVar 4) ((tC (.int 0))))))) ((gName 7)) ((tB (tDIn (tVar 7) (tVar 6)))) (tVar 7) [7])) tNil))) (tVar 5)))))) ((tRet ((tC (.bl false))))) (tNext))
  (tSeq (tAsg ((tCall (sp_cosets K ec) [] E0 (tCons (tVar 0) (tCons ((tThen (tVar 1) (kTupP K))) (tCons ((tThen (tVar 3) (kTupP K))) (tCons ((tCB (rLenU K) (tCons (tVar 2) tNil))) tNil)))))) (gName 8))
  (tSeq (tIfS ((tOr ((tNot ((tTru K ((tCB (rIsi K) (tCons (tVar 8) (tCons ((tC (.ty "tuple"))) tNil)))))))) ((tTest (tOp (rNeU K) ((tOp (rMulU K) ((tCB (rLenU K) (tCons (tVar 8) tNil))) (tVar 5))) ((tCB (rLenU K) (tCons (tVar 2) tNil)))))))) ((tRet ((tC (.bl false))))) (tNext))
  ((tRet ((tOp (rEqU K) ((tCB (rLenU K) (tCons ((tLc ((iSeqU K (tVar 8))) ((gName 9)) ((tAnd ((tTru K ((tCB (rIsi K) (tCons (tVar 9) (tCons ((tC (.ty "tuple"))) tNil)))))) ((tTest (tOp (rEqU K) ((tCB (rLenU K) (tCons (tVar 9) tNil))) (tVar 5)))))) (tVar 9) [9])) tNil))) ((tCB (rLenU K) (tCons (tVar 8) tNil))))))))))))))
theorem more_lt {n : Nat} {R W X : List (List Int)} {k : Nat} (hR : ∀ r ∈ R, IsRow r n) (h : Whole n R W) (hX : ∀ x ∈ X, x ∈ W) (hm : More n X k) : k < W.length := by
  obtain ⟨L, nd, hg, hk⟩ := hm
  have := nodup_sub_len nd fun x hx => (h.2 x).mpr (Gn.of_sub hR (fun m hm => (h.2 m).mp (hX m hm)) (hg x hx))
  omega
section
variable {K : PySem.W.Frag} {ec : Str → Addr} {vs : List V} {H : Hp} {Q : VK} {E : XK} {σ : L2.St} {l : Addr} {ps : List (Addr × List Int)} {n : Nat}
theorem len_law_larger (h : sp_law_larger K vs H Q E) : vs.length = 4 := by obtain ⟨n, l, m, o, xs, ws, M, r, rfl, _⟩ := h; rfl
theorem len_law_within (h : sp_law_within K vs H Q E) : vs.length = 4 := by obtain ⟨n, l, m, d, ps, ws, ds, rfl, _⟩ := h; rfl
/-- the program's closure, where it can't be too large: the rows qs in order -/
theorem r_closed {k : Int} {t : Addr} {W : List (List Int)} (n1 : 1 ≤ n) (n2 : n ≤ 12) (ht : SqT K H t (ps.map fun q => V.ref q.1)) (hp : ∀ q ∈ ps, H q.1 = some (.tup (q.2.map V.int))) (hz : ps.length ≤ 100000) (hR : ∀ r ∈ rws ps, IsRow r n) (hW : Clo n (rws ps) W) (hk : (W.length : Int) ≤ k) (h2 : k ≤ 720)
    (q : ∀ p H' qs, H p = none → Same H H' → H' p = some (.tup (qs.map fun q => V.ref q.1)) → (∀ q ∈ qs, H' q.1 = some (.tup (q.2.map V.int))) → rws qs = W → Q (.ref p) H') : sp_closure K ec ([.int (n : Int), .ref t, .int k] ++ []) H Q E := by
  have hlen : ∀ w ∈ ps, w.2.length = n := fun w hw => (hR _ (List.mem_map.mpr ⟨w, hw, rfl⟩)).1
  have h1 : 1 ≤ W.length := List.length_pos_of_mem ((hW.1.2 _).mpr Gn.one)
  obtain ⟨m, rfl⟩ : ∃ m : Nat, k = (m : Int) := ⟨k.toNat, by omega⟩
  refine ⟨n, t, ps, m, rfl, ht, hp, by omega, by omega, by omega, fun hs => (hs ⟨by omega, by omega⟩).elim, fun _ hu => (hu fun w hw => by rw [hlen w hw]).elim, fun n' en _ _ _ => ?_⟩
  obtain rfl : n = n' := by omega
  refine ⟨hR, fun p H' qs np s e hq hc _ => q p H' qs np s e hq (Clo.eq hc hW), fun hm => ?_⟩
  have := hW.1.more.mp hm
  omega
theorem r_drIn' {p b : Addr} {S : List (List Int)} {r : List Int} (h : DR H p S) (eb : H b = some (.tup (r.map V.int))) (q : Q (.bl (decide (r ∈ S))) H) : PDIn (.ref p) (.ref b) H Q := by
  obtain ⟨kvs, e, _, hv⟩ := h
  refine ⟨p, valV kvs (keyR r), rfl, .inr ⟨kvs, keyR r, b, .inl e, rfl, by rw [keyR_kV]; exact eb, rfl⟩, ?_⟩
  rw [hv]; exact q
/-- a list of rows told again by a comprehension whose test holds of all -/
theorem r_lcAll {a : Addr} {ws : List (Addr × List Int)} {te : TE} {tt : TT} {j : Nat} {vs : List Nat} (hl : LRt H a ws) (hz : ws.length ≤ 100000) (hw : ∀ x, wipe ((wipe σ vs).set j (some x)) vs = wipe σ vs)
    (ht : ∀ q H1 (QB : Bool → Hp → Prop), q ∈ ws → Same H H1 → QB true H1 → tt ((wipe σ vs).set j (some (.ref q.1))) H1 QB)
    (he : ∀ q H1 (Q' : VK), q ∈ ws → Same H H1 → Q' (.ref q.1) H1 → te ((wipe σ vs).set j (some (.ref q.1))) H1 Q')
    (k : ∀ p H', H p = none → Same H H' → H' p = some (.lst (ws.map fun q => V.ref q.1)) → Q (.ref p) H') : PLc (Itl K a) (gName j) tt te vs σ H Q := by
  refine r_lcL (xs := ws.map fun q => V.ref q.1) (fun D i H' => H D = none ∧ Same H H' ∧ H' D = some (.lst ((ws.map fun q => V.ref q.1).take i))) hw (fun D H' hD s e => ⟨hD, s, e⟩) (fun D i H' P => sqL_of (P.2.1 _ _ hl.1)) (fun D i x H' hi P => ?_) (fun D H' hD P => ?_)
  · obtain ⟨hD, s, e⟩ := P
    have hi' := hi
    rw [List.getElem?_map] at hi
    obtain ⟨w, hw, rfl⟩ := Option.map_eq_some_iff.mp hi
    have hm := List.mem_of_getElem? hw
    have hil := (List.getElem?_eq_some_iff.mp hw).1
    refine ht w H' _ hm s (r_T ?_)
    refine he w H' _ hm s ?_
    refine r_acc e (by rw [List.length_take, List.length_map]; omega) fun H5 b5 e5 => ⟨hD, same_but s b5 hD, ?_⟩
    rw [e5, List.take_add_one, hi']; rfl
  · obtain ⟨_, s, e⟩ := P
    rw [List.take_length] at e
    exact k D H' hD s e
theorem rp_rows {t : Addr} {qs : List (Addr × List Int)} (e : H t = some (.tup (qs.map fun q => V.ref q.1))) (hq : ∀ q ∈ qs, H q.1 = some (.tup (q.2.map V.int))) : Rp K H (.ref t) (.tup ((rws qs).map dD)) := .tup (sqT_of e) (rpL_rows hq)
theorem size_ok {W : List (List Int)} (hW : ∀ r ∈ W, r.length ≤ 12) (hz : W.length ≤ 5000) : (Dat.tup (W.map dD)).size ≤ 1000000 := by
  have := size_rows (n := 12) (L := W) hW
  rw [Dat.size]
  omega
theorem pure_law_larger (XS : Exs K ec XN) (h : sp_law_larger K vs H Q E) : t_law_larger K ec (En Q) (start N_law_larger vs) H := by
  obtain ⟨n, l, m, o, xs, ws, M, r, rfl, n1, n2, hl, hz, hm, eo, hX, cM, hMX, hr, hrW, w7, q⟩ := h
  have hM : ∀ x ∈ M, IsRow x n := fun x hx => hX x (hMX x hx)
  have wpos : 0 < ws.length := by
    have := List.length_pos_of_mem ((cM.1.2 _).mpr Gn.one)
    rw [rws_len'] at this; exact this
  have more : More n (rws xs) ws.length := by
    refine ⟨r :: rws ws, List.nodup_cons.mpr ⟨hrW, cM.1.1⟩, fun x hx => ?_, by rw [List.length_cons, rws_len']; omega⟩
    rcases List.mem_cons.mp hx with rfl | hx
    · exact Gn.gen hX hr
    · exact ((cM.1.2 x).mp hx).mono hMX
  unfold t_law_larger
  have em := hm.1
  walk_at "rd"
  rw [List.length_map]
  refine ⟨n, l, xs, ws.length, rfl, n1, n2, hl, by omega, hX, by omega, by omega, more, fun H1 s1 => ?_⟩
  have hl1 := hl.same s1
  walk_at "rd"
  refine ⟨n, l, xs, rfl, n1, n2, hl1, by omega, hX, fun H2 s2 hm2 => ?_, fun p a b H2 qs ms np s2 e2 la lb c2 wm sub q7 mz => ?_⟩
  · have hl2 := hl1.same s2
    walk_at "rd"
    refine r_iteP rfl ?_
    walk_at "rd"
    exact ⟨n, l, xs, 720, rfl, n1, n2, hl2, by omega, hX, by omega, by omega, hm2, fun H3 s3 => q H3 ((s1.trans s2).trans s3)⟩
  · have s12 := s1.trans s2
    have el2 := (hl.same s12).1
    have ela := la.1
    have ha0 : atI [V.ref a, V.ref b] 0 = some (.ref a) := rfl
    walk_at "rd"
    refine r_iteM (by intro z; cases z) ?_
    walk_at "rd"
    refine r_kTupP (sqL_of el2) fun t H3 nt s3 e3 => ?_
    walk_at "rd"
    refine r_closed n1 n2 (sqT_of e3) (fun w hw => s3 _ _ ((hl.same s12).2 w hw)) (by omega) hX c2 (by rw [rws_len']; omega) (by omega) fun t2 H4 us nt2 s4 e4 hu eu => ?_
    have la4 := (la.same s3).same s4
    have ela4 := la4.1
    have e24 := s4 _ _ (s3 _ _ e2)
    walk_at "rd"
    refine r_kTupP (sqL_of ela4) fun t3 H5 nt3 s5 e5 => ?_
    walk_at "rd"
    refine ⟨.ref t2, .ref t3, .tup ((rws qs).map dD), rfl, ?_, rp_rows e5 (fun w hw => s5 _ _ (la4.2 w hw)), size_ok (fun x hx => by have := (((c2.1.2 x).mp hx).row hX).1; omega) (by rw [rws_len']; omega), fun H6 s6 => ?_⟩
    · rw [← eu]
      exact rp_rows (s5 _ _ e4) fun w hw => s5 _ _ (hu w hw)
    have s26 : Same H2 H6 := ((s3.trans s4).trans s5).trans s6
    have la6 := la.same s26
    have ela6 := la6.1
    have e26 := s26 _ _ e2
    have hm6 := (hm.same s12).same s26
    have em6 := hm6.1
    have wpos' : (0 : Int) < ((ws.map fun q => V.ref q.1).length : Int) := by rw [List.length_map]; omega
    walk_at "rd"
    obtain ⟨cc, hcc⟩ := lagrange hX hMX c2 cM.1
    rw [rws_len', rws_len'] at hcc
    refine r_iteNP (by
      rw [List.length_map, List.length_map, hcc]
      exact Int.emod_eq_zero_of_dvd ⟨(cc : Int), by rw [Int.natCast_mul, Int.mul_comm]⟩) ?_
    walk_at "rd"
    refine r_dnewT fun fo H7 nfo s7 e7 => ?_
    have s27 := s26.trans s7
    have la7 := la.same s27
    have ela7 := la7.1
    have e27 := s27 _ _ e2
    walk_at "rd"
    refine r_forLst (xs := qs.map fun q => V.ref q.1) (fun i σ' H' => ∃ (z6 : Option V), σ' = [some (.int (n : Int)), some (.ref l), some (.ref m), some (.ref o), some (.ref p), some (.ref fo), z6] ∧ Same H6 H' ∧ DR H' fo ((rws qs).take i))
      ⟨none, rfl, s7, ⟨[], e7, Nat.le_refl _, fun r => by rw [valV_nil]; simp⟩⟩ (fun i σ' H' _ hW' => ?_) (fun i x σ' H' hi hW' => ?_) (fun σ' H' hW' => ?_)
    · obtain ⟨z6, rfl, s8, _⟩ := hW'
      exact sqL_of (s8 _ _ ela6)
    · obtain ⟨z6, rfl, s8, d8⟩ := hW'
      rw [List.getElem?_map] at hi
      obtain ⟨w, hw, rfl⟩ := Option.map_eq_some_iff.mp hi
      have ew := s8 _ _ (la6.2 w (List.mem_of_getElem? hw))
      walk_at "rd"
      refine r_drPut d8 ew (by rw [List.length_take, rws_len', sizeLine_eq]; omega) fun H9 b9 d9 => ?_
      refine ⟨_, rfl, same_but s8 b9 nfo, ?_⟩
      rw [List.take_add_one, rws_at hw]
      exact d9
    · obtain ⟨z6, rfl, s8, d8⟩ := hW'
      have hlen : (qs.map fun q => V.ref q.1).length = (rws qs).length := by rw [List.length_map, rws_len']
      rw [hlen, List.take_length] at d8
      have s28 := s26.trans s8
      have eo8 := s28 _ _ (s12 _ _ eo)
      have hm8 := hm6.same s8
      have em8 := hm8.1
      walk_at "rd"
      refine r_drIn' d8 eo8 ?_
      rw [decide_eq_true ((c2.1.2 r).mpr (Gn.gen hX hr))]
      walk_at "rd"
      refine r_lcAll hm8 (by omega) (fun _ => rfl) (fun w H9 QB hw s9 k => ?_) (fun w H9 Q' hw s9 k => ?_) fun D H9 nD s9 e9 => ?_
      · walk_at "rd"
        refine r_drIn' (DR.same s9 d8) (s9 _ _ (hm8.2 w hw)) ?_
        have hwin : w.2 ∈ rws qs := (c2.1.2 _).mpr (((cM.1.2 _).mp (List.mem_map.mpr ⟨w, hw, rfl⟩)).mono hMX)
        rw [decide_eq_true hwin]
        walk_at "rd"
        exact k
      · walk_at "rd"
        exact k
      · have em9 := s9 _ _ em8
        walk_at "rd"
        rw [decide_eq_true rfl]
        exact q H9 ((s12.trans s28).trans s9)
theorem pure_law_within (XS : Exs K ec XN) (h : sp_law_within K vs H Q E) : t_law_within K ec (En Q) (start N_law_within vs) H := by
  obtain ⟨n, l, m, d, ps, ws, ds, rfl, n1, n2, hl, hz, hm, hd, dz, hR, cW, hds, w7, q⟩ := h
  have hW : ∀ x ∈ rws ws, IsRow x n := fun x hx => ((cW.1.2 x).mp hx).row hR
  have hD : ∀ x ∈ rws ds, IsRow x n := fun x hx => hW x (hds x hx)
  have wpos : 0 < ws.length := by
    have := List.length_pos_of_mem ((cW.1.2 _).mpr Gn.one)
    rw [rws_len'] at this; exact this
  have em := hm.1
  unfold t_law_within
  walk_at "rd"
  refine ⟨n, d, ds, rfl, n1, n2, hd, by omega, hD, fun H2 s2 hm2 => ?_, fun p a b H2 us ms np s2 e2 la lb c2 wm sub q7 mz => ?_⟩
  · have := more_lt hR cW.1 hds hm2
    rw [rws_len'] at this
    omega
  have hd2 := (hd.same s2)
  have ed2 := hd2.1
  have em2 := s2 _ _ em
  have hmle : (rws us).length ≤ ws.length := by
    have := nodup_sub_len c2.1.1 fun x hx => (cW.1.2 x).mpr (Gn.of_sub hR (fun m hm => (cW.1.2 m).mp (hds m hm)) ((c2.1.2 x).mp hx))
    rw [rws_len' ws] at this; exact this
  have upos : 0 < us.length := by
    have := List.length_pos_of_mem ((c2.1.2 _).mpr Gn.one)
    rw [rws_len'] at this; exact this
  have ha0 : atI [V.ref a, V.ref b] 0 = some (.ref a) := rfl
  walk_at "rd"
  refine r_iteM (by intro z; cases z) ?_
  walk_at "rd"
  refine r_kTupP (sqL_of ed2) fun t H3 nt s3 e3 => ?_
  have em3 := s3 _ _ em2
  walk_at "rd"
  rw [List.length_map]
  refine r_closed n1 n2 (sqT_of e3) (fun w hw => s3 _ _ (hd2.2 w hw)) (by omega) hD c2 (by omega) (by omega) fun t2 H4 us' nt2 s4 e4 hu eu => ?_
  have la4 := (la.same s3).same s4
  have ela4 := la4.1
  have e24 := s4 _ _ (s3 _ _ e2)
  walk_at "rd"
  refine r_kTupP (sqL_of ela4) fun t3 H5 nt3 s5 e5 => ?_
  walk_at "rd"
  refine ⟨.ref t2, .ref t3, .tup ((rws us).map dD), rfl, ?_, rp_rows e5 (fun w hw => s5 _ _ (la4.2 w hw)), size_ok (fun x hx => by have := (((c2.1.2 x).mp hx).row hD).1; omega) (by omega), fun H6 s6 => ?_⟩
  · rw [← eu]
    exact rp_rows (s5 _ _ e4) fun w hw => s5 _ _ (hu w hw)
  have s26 : Same H2 H6 := ((s3.trans s4).trans s5).trans s6
  have la6 := la.same s26
  have ela6 := la6.1
  have e26 := s26 _ _ e2
  have hm6 := (hm.same s2).same s26
  have em6 := hm6.1
  walk_at "rd"
  rw [List.length_map]
  refine r_dnewT fun fo H7 nfo s7 e7 => ?_
  have em7 := s7 _ _ em6
  walk_at "rd"
  refine r_forLst (xs := ws.map fun q => V.ref q.1) (fun i σ' H' => ∃ (z7 : Option V), σ' = [some (.int (n : Int)), some (.ref l), some (.ref m), some (.ref d), some (.ref p), some (.int (us.length : Int)), some (.ref fo), z7, none, none] ∧ Same H6 H' ∧ DR H' fo ((rws ws).take i))
    ⟨none, rfl, s7, ⟨[], e7, Nat.le_refl _, fun r => by rw [valV_nil]; simp⟩⟩ (fun i σ' H' _ hW' => ?_) (fun i x σ' H' hi hW' => ?_) (fun σ' H8 hW' => ?_)
  · obtain ⟨z7, rfl, s8, _⟩ := hW'
    exact sqL_of (s8 _ _ em6)
  · obtain ⟨z7, rfl, s8, d8⟩ := hW'
    rw [List.getElem?_map] at hi
    obtain ⟨w, hw, rfl⟩ := Option.map_eq_some_iff.mp hi
    have ew := s8 _ _ (hm6.2 w (List.mem_of_getElem? hw))
    walk_at "rd"
    refine r_drPut d8 ew (by rw [List.length_take, rws_len', sizeLine_eq]; omega) fun H9 b9 d9 => ?_
    refine ⟨_, rfl, same_but s8 b9 nfo, ?_⟩
    rw [List.take_add_one, rws_at hw]
    exact d9
  obtain ⟨z7, rfl, s8, d8⟩ := hW'
  have hlen : (ws.map fun q => V.ref q.1).length = (rws ws).length := by rw [List.length_map, rws_len']
  rw [hlen, List.take_length] at d8
  have s28 := s26.trans s8
  have hm8 := hm6.same s8
  have em8 := hm8.1
  have la8 := la6.same s8
  have ela8 := la8.1
  have e28 := s28 _ _ e2
  obtain ⟨cc, hcc⟩ := lagrange hW hds ⟨whole_self hR cW.1, cW.2⟩ c2.1
  rw [rws_len', rws_len'] at hcc
  have upos' : (0 : Int) < (us.length : Int) := by omega
  walk_at "rd"
  rw [List.length_map]
  refine r_iteNP (by
    rw [hcc]
    exact Int.emod_eq_zero_of_dvd ⟨(cc : Int), by rw [Int.natCast_mul, Int.mul_comm]⟩) ?_
  walk_at "rd"
  refine r_lcAll la8 (by omega) (fun _ => rfl) (fun w H9 QB hw s9 k => ?_) (fun w H9 Q' hw s9 k => ?_) fun D H9 nD s9 e9 => ?_
  · walk_at "rd"
    refine r_drIn' (DR.same s9 d8) (s9 _ _ (la8.2 w hw)) ?_
    have hwin : w.2 ∈ rws ws := (cW.1.2 _).mpr (Gn.of_sub hR (fun m hm => (cW.1.2 m).mp (hds m hm)) ((c2.1.2 _).mp (List.mem_map.mpr ⟨w, hw, rfl⟩)))
    rw [decide_eq_true hwin]
    walk_at "rd"
    exact k
  · walk_at "rd"
    exact k
  walk_at "rd"
  rw [List.length_map]
  refine r_iteNP rfl ?_
  have s29 := s28.trans s9
  have hl9 := (hl.same s2).same s29
  have el9 := hl9.1
  have hd9 := hd2.same s29
  have ed9 := hd9.1
  have hm9 := hm8.same s9
  have em9 := hm9.1
  walk_at "rd"
  refine r_kTupP (sqL_of el9) fun t4 H10 nt4 s10 e10 => ?_
  have ed10 := s10 _ _ ed9
  walk_at "rd"
  refine r_kTupP (sqL_of ed10) fun t5 H11 nt5 s11 e11 => ?_
  have em11 := s11 _ _ (s10 _ _ em9)
  have hRD : ∀ r ∈ rws (ps ++ ds), IsRow r n := fun r hr => by
    rw [rws_app', List.mem_append] at hr
    rcases hr with hr | hr
    · exact hR r hr
    · exact hD r hr
  have hlenD : ∀ w ∈ ps ++ ds, w.2.length = n := fun w hw => (hRD _ (List.mem_map.mpr ⟨w, hw, rfl⟩)).1
  have wRD : Whole n (rws (ps ++ ds)) (rws ws) := whole_mid hR cW.1 cW.1 (fun m hm => by rw [rws_app']; exact List.mem_append_left _ hm) fun x hx => by
    rw [rws_app', List.mem_append] at hx
    rcases hx with hx | hx
    · exact (cW.1.2 x).mpr (Gn.gen hR hx)
    · exact hds x hx
  walk_at "rd"
  rw [List.length_map]
  refine ⟨n, t4, t5, ps, ds, ws.length, rfl, sqT_of (s11 _ _ e10), sqT_of e11, fun w hw => ?_, by omega, by omega, by omega, fun hs => (hs ⟨by omega, by omega⟩).elim, fun _ hu => (hu fun w hw => by rw [hlenD w hw]).elim, fun n' en _ _ _ => ?_⟩
  · rcases List.mem_append.mp hw with hw | hw
    · exact s11 _ _ (s10 _ _ (hl9.2 w hw))
    · exact s11 _ _ (s10 _ _ (hd9.2 w hw))
  obtain rfl : n = n' := by omega
  refine ⟨hRD, fun tt H12 W P C nt12 s12 ct cW2 cP co _ => ?_, fun hm => ?_⟩
  · have eW := Clo.eq cW2 ⟨wRD, cW.2⟩
    have eP := (cP.1.perm c2.1).length_eq
    rw [rws_len'] at eP
    have cnt := co.count cW2.1.1
    have hCl : (CL C).length = C.length := List.length_map _
    rw [hCl, eP, eW, rws_len'] at cnt
    have etc := ct.1
    have em12 := s12 _ _ em11
    have hC : (C.map fun c => V.ref c.1).length ≤ 720 := by
      rw [List.length_map]
      exact Nat.le_trans (Nat.le_mul_of_pos_right _ upos) (by omega)
    walk_at "rd"
    refine r_iteNP (by rw [List.length_map, List.length_map, ← Int.natCast_mul, cnt]) ?_
    walk_at "rd"
    refine r_lcT (xs := C.map fun c => V.ref c.1) (fun D i H' => H12 D = none ∧ Same H12 H' ∧ H' D = some (.lst ((C.map fun c => V.ref c.1).take i))) (fun _ => rfl) (fun D H' hD s e => ⟨hD, s, e⟩) (fun D i H' P => sqT_of (P.2.1 _ _ etc)) (fun D i x H' hi P => ?_) (fun D H' hD P => ?_)
    · obtain ⟨hD', s, e⟩ := P
      have hi' := hi
      rw [List.getElem?_map] at hi
      obtain ⟨c, hc, rfl⟩ := Option.map_eq_some_iff.mp hi
      have hcm := List.mem_of_getElem? hc
      have ec := s _ _ (ct.2 c hcm).1
      have hil := (List.getElem?_eq_some_iff.mp hc).1
      have hsz : c.2.length = us.length := by
        have := co.size (rws c.2) (List.mem_map.mpr ⟨c, hcm, rfl⟩)
        rw [rws_len', eP] at this; exact this
      walk_at "rd"
      rw [List.length_map, hsz, decide_eq_true rfl]
      refine r_T ?_
      walk_at "rd"
      refine r_acc e (by rw [List.length_take]; omega) fun H5 b5 e5 => ⟨hD', same_but s b5 hD', ?_⟩
      rw [e5, List.take_add_one, hi']; rfl
    · obtain ⟨_, s, e⟩ := P
      rw [List.take_length] at e
      have et' := s _ _ etc
      walk_at "rd"
      rw [decide_eq_true rfl]
      exact q H' (((((s2.trans s29).trans s10).trans s11).trans s12).trans s)
  · have := (wRD.more).mp hm
    rw [rws_len'] at this
    omega
end
end K7
end K5
end Kb
set_option Elab.async false
set_option linter.all false
set_option maxRecDepth 100000
set_option maxHeartbeats 4000000
namespace Kb
namespace K5
namespace K7
open PySem PySem.Spec PyProof.Rows L2
local macro_rules | `(tactic| walk_at "tk") => `(tactic| first
  | assumption
  | ((with_reducible refine' sqT_of ?k); (case k => assumption))
  | ((with_reducible refine' sqT_ofD ?k); (case k => assumption))
  | ((with_reducible refine' noD_of ?k); (case k => assumption))
  | ((with_reducible refine' noD_same ?s ?k); (case s => assumption); (case k => walk_at "tk"))
  | ((with_reducible refine' sqL_of ?k); (case k => assumption))
  | ((with_reducible refine' sqT_same ?s ?k); (case s => assumption); (case k => walk_at "tk"))
  | ((with_reducible refine' sqL_same ?s ?k); (case s => assumption); (case k => walk_at "tk"))
  | ((with_reducible refine' sqT_but ?s ?t ?k); (case s => assumption); (case t => walk_at "tk"); (case k => walk_at "tk"))
  | ((with_reducible refine' sqL_but ?s ?t ?k); (case s => assumption); (case t => walk_at "ne"); (case k => walk_at "tk"))
  | ((with_reducible refine' sqL_of ?k); (case k => walk_at "tk"))
  | ((with_reducible refine' sqT_of ?k); (case k => walk_at "tk"))
  | ((with_reducible refine' at_same ?s ?k); (case s => assumption); (case k => walk_at "tk"))
  | ((with_reducible refine' at_but ?s ?t ?k); (case s => assumption); (case t => walk_at "ne"); (case k => walk_at "tk")))
local macro_rules | `(tactic| walk_at "ne") => `(tactic| first
  | assumption
  | (refine Ne.symm ?_; assumption)
  | exact ne_of_none (by assumption) (by assumption)
  | exact (ne_of_none (by assumption) (by assumption)).symm)
local macro_rules | `(tactic| walk_at "side") => `(tactic| first
  | assumption
  | omega
  | (simp only [sizeLine_eq, List.length_cons, List.length_nil, List.length_map]; omega)
  | (show _ ≤ sizeLine; decide))
local macro_rules | `(tactic| walk_at "kit") => `(tactic| first
  | (show kitB _ _ = some true; decide +kernel)
  | (show kitB _ _ = some false; decide +kernel))
local macro_rules | `(tactic| walk_at "rng") => `(tactic| first
  | (refine ⟨by omega, by omega, by omega, by omega⟩)
  | (refine ⟨by omega, by omega⟩)
  | ((simp only [List.length_map]); (refine ⟨by omega, by omega, by omega, by omega⟩))
  | ((simp only [List.length_map]); (refine ⟨by omega, by omega⟩)))
local macro_rules | `(tactic| walk_at "rd1") => `(tactic| first
  | with_reducible refine r_seq ?_
  | ((with_reducible refine' r_var ?k0 ?_); (case k0 => rfl))
  | with_reducible refine r_op ?_
  | with_reducible refine r_c ?_
  | with_reducible refine r_asg ?_
  | with_reducible refine r_name ?_
  | with_reducible refine r_cons ?_
  | with_reducible refine r_nil ?_
  | with_reducible refine r_CB ?_
  | with_reducible refine r_if ?_
  | with_reducible refine r_test ?_
  | with_reducible refine r_k ?_
  | with_reducible refine r_T ?_
  | with_reducible refine r_F ?_
  | with_reducible refine r_nT ?_
  | with_reducible refine r_nF ?_
  | with_reducible refine r_ret ?_
  | with_reducible refine r_drop ?_
  | with_reducible refine r_next ?_
  | with_reducible refine r_call ?_
  | with_reducible refine r_addI ?_
  | with_reducible refine r_subI ?_
  | with_reducible refine r_ltI ?_
  | with_reducible refine r_gtI ?_
  | with_reducible refine r_leI ?_
  | with_reducible refine r_geI ?_
  | with_reducible refine r_eqI ?_
  | with_reducible refine r_neI ?_
  | with_reducible refine r_int ?_
  | with_reducible refine r_abs ?_
  | with_reducible refine r_not ?_
  | with_reducible refine r_and ?_
  | with_reducible refine r_or ?_
  | with_reducible refine r_tru ?_
  | with_reducible refine r_truB ?_
  | with_reducible refine r_lst ?_
  | with_reducible refine r_tup ?_
  | with_reducible refine r_BM ?_
  | with_reducible refine r_BM0 ?_
  | with_reducible refine r_tyS ?_
  | with_reducible refine r_gsub ?_
  | with_reducible refine r_then ?_
  | with_reducible refine r_lstRg ?_
  | with_reducible refine r_tupRg ?_
  | with_reducible refine r_rg2 ?_
  | with_reducible refine r_rg1 ?_
  | with_reducible refine r_ii ?_
  | with_reducible refine r_i ?_
  | with_reducible refine r_ipI ?_
  | with_reducible refine r_un ?_
  | with_reducible refine r_neg ?_
  | with_reducible refine r_isN ?_
  | with_reducible refine r_notN ?_
  | with_reducible refine r_notV ?_
  | with_reducible refine r_pnot ?_
  | with_reducible refine r_pif ?_
  | with_reducible refine r_andV ?_
  | with_reducible refine r_orV ?_
  | with_reducible refine r_ifE ?_
  | with_reducible refine r_chain ?_
  | with_reducible refine r_sl ?_
  | with_reducible refine r_noPart ?_
  | with_reducible refine r_part ?_
  | with_reducible refine r_brk ?_
  | with_reducible refine r_cont ?_
  | with_reducible refine r_retN ?_
  | with_reducible refine r_truI ?_
  | with_reducible refine r_B ?_
  | with_reducible refine r_for ?_
  | with_reducible refine r_rng1 ?_
  | with_reducible refine r_rng2 ?_
  | with_reducible refine r_rng3 ?_
  | with_reducible refine r_body ?_
  | with_reducible refine r_lc ?_
  | with_reducible refine r_yes ?_
  | ((with_reducible refine' r_mod ?k0 ?_); (case k0 => walk_at "side"))
  | ((with_reducible refine' r_mulI ?k0 ?_); (case k0 => first | exact Or.inl ⟨by omega, by omega⟩ | exact Or.inr ⟨by omega, by omega⟩))
  | ((with_reducible refine' r_lenL ?k0 ?_); (case k0 => walk_at "tk"))
  | ((with_reducible refine' r_lenT ?k0 ?_); (case k0 => walk_at "tk"))
  | ((with_reducible refine' r_truL ?k0 ?_); (case k0 => walk_at "tk"))
  | ((with_reducible refine' r_truT ?k0 ?_); (case k0 => walk_at "tk"))
  | ((with_reducible refine' r_ixL ?k0 ?k1 ?_); (case k0 => walk_at "tk"); (case k1 => first | assumption | rfl))
  | ((with_reducible refine' r_ixT ?k0 ?k1 ?_); (case k0 => walk_at "tk"); (case k1 => first | assumption | rfl))
  | ((with_reducible refine' r_new ?k0 ?_); (case k0 => walk_at "side"))
  | ((with_reducible refine' r_tyL ?k0 ?_); (case k0 => walk_at "tk"))
  | ((with_reducible refine' r_append ?k0 ?k1 ?_); (case k0 => walk_at "tk"); (case k1 => walk_at "side"))
  | ((with_reducible refine' r_setL ?k0 ?k1 ?_); (case k0 => walk_at "tk"); (case k1 => first | assumption | rfl))
  | ((with_reducible refine' r_kTupL ?k0 ?_); (case k0 => walk_at "tk"))
  | ((with_reducible refine' r_kTupT ?k0 ?_); (case k0 => walk_at "tk"))
  | ((with_reducible refine' r_listL ?k0 ?_); (case k0 => walk_at "tk"))
  | ((with_reducible refine' r_listT ?k0 ?_); (case k0 => walk_at "tk"))
  | ((with_reducible refine' r_aug ?k0 ?_); (case k0 => rfl))
  | ((with_reducible refine' r_lenS ?k0 ?_); (case k0 => walk_at "side"))
  | ((with_reducible refine' r_pop ?k0 ?_); (case k0 => walk_at "tk"))
  | ((with_reducible refine' r_pr1 ?k0 ?_); (case k0 => walk_at "rng"))
  | ((with_reducible refine' r_pr2 ?k0 ?_); (case k0 => walk_at "rng"))
  | ((with_reducible refine' r_pr3d ?k0 ?_); (case k0 => walk_at "rng"))
  | ((with_reducible refine' r_isiI ?k0 ?_); (case k0 => walk_at "kit"))
  | ((with_reducible refine' r_isiB ?k0 ?_); (case k0 => walk_at "kit"))
  | ((with_reducible refine' r_isiS ?k0 ?_); (case k0 => walk_at "kit"))
  | ((with_reducible refine' r_isiN ?k0 ?_); (case k0 => walk_at "kit"))
  | ((with_reducible refine' r_isiT ?k0 ?k1 ?_); (case k0 => walk_at "tk"); (case k1 => walk_at "kit"))
  | ((with_reducible refine r_seqT ?_); (repeat (walk_at "rd1")); ((with_reducible refine' r_pseqT ?k0 ?_); (case k0 => walk_at "tk")))
  | ((with_reducible refine r_seqL ?_); (repeat (walk_at "rd1")); ((with_reducible refine' r_pseqL ?k0 ?_); (case k0 => walk_at "tk")))
  | ((with_reducible refine r_seqS ?_); (repeat (walk_at "rd1")); (with_reducible refine r_pseqS ?_)))
local macro_rules | `(tactic| walk_at "rd") => `(tactic| ((repeat (walk_at "rd1")); (try dsimp only)))
local macro_rules | `(tactic| walk_at "rd1") => `(tactic| first
  | with_reducible refine r_BMT ?_
  | with_reducible refine r_par ?_
  | with_reducible refine r_parV ?_
  | ((with_reducible refine' r_ptp ?k0 ?k1 ?_); (case k0 => walk_at "tk"); (case k1 => walk_at "tk"))
  | with_reducible refine r_eqS ?_
  | with_reducible refine r_neS ?_
  | with_reducible refine r_callW ?_
  | with_reducible refine r_try ?_
  | with_reducible refine r_enT ?_
  | ((with_reducible refine' r_pen ?k0 ?_); (case k0 => walk_at "tk")))
local macro_rules | `(tactic| walk_at "rd1") => `(tactic| first
  | with_reducible refine r_dIn ?_
  | with_reducible refine r_dNo ?_
  | with_reducible refine r_dPut ?_
  | with_reducible refine r_dGet ?_)
local macro_rules | `(tactic| walk_at "pl0") => `(tactic| first
  | assumption
  | exact pl_same (by assumption) (by assumption)
  | exact pl_same (by assumption) (pl_same (by assumption) (by assumption))
  | exact pl_same (by assumption) (pl_same (by assumption) (pl_same (by assumption) (by assumption))))
local macro_rules | `(tactic| walk_at "pl") => `(tactic| first
  | walk_at "pl0"
  | ((with_reducible refine' pl_butL ?s ?n ?k); (case s => assumption); (case n => walk_at "ne"); (case k => walk_at "pl"))
  | ((with_reducible refine' pl_same ?s ?k); (case s => assumption); (case k => walk_at "pl")))
local macro_rules | `(tactic| walk_at "ne") => `(tactic| first
  | exact ne_pl (by assumption) (by walk_at "pl0")
  | exact (ne_pl (by assumption) (by walk_at "pl0")).symm)
local macro_rules | `(tactic| walk_at "fr") => `(tactic| first
  | assumption
  | ((with_reducible refine' free_but ?b ?n ?h); (case h => assumption); (case n => walk_at "ne"); (case b => walk_at "but"))
  | ((with_reducible refine' Same.free ?b ?h); (case h => assumption); (case b => walk_at "same")))
local macro_rules | `(tactic| walk_at "but") => `(tactic| first
  | assumption
  | exact But.refl
  | ((with_reducible refine' But.trans ?a ?b); (case b => assumption); (case a => walk_at "but"))
  | ((with_reducible refine' But.trans ?a (Same.but ?b)); (case b => assumption); (case a => walk_at "but"))
  | ((with_reducible refine' but_via ?a ?b ?c); (case b => assumption); (case c => walk_at "fr"); (case a => walk_at "but")))
local macro_rules | `(tactic| walk_at "same") => `(tactic| first
  | assumption
  | exact Same.refl _
  | ((with_reducible refine' Same.trans ?a ?b); (case b => assumption); (case a => walk_at "same"))
  | ((with_reducible refine' same_but ?a ?b ?c); (case b => assumption); (case c => walk_at "fr"); (case a => walk_at "same")))
local macro_rules | `(tactic| walk_at "tk") => `(tactic| first
  | ((with_reducible refine' sqT_pl ?s ?t ?k); (case s => assumption); (case t => walk_at "pl0"); (case k => walk_at "tk"))
  | ((with_reducible refine' rp_same ?s ?k); (case s => assumption); (case k => walk_at "tk"))
  | ((with_reducible refine' rp_pl ?s ?t ?k); (case s => assumption); (case t => walk_at "pl0"); (case k => walk_at "tk")))
local macro_rules | `(tactic| walk_at "it") => `(tactic| first
  | assumption
  | ((with_reducible refine' sqI_1 ?k); (case k => assumption))
  | ((with_reducible refine' sqI_0 ?k); (case k => assumption))
  | ((with_reducible refine' sqI_of ?k); (case k => assumption))
  | ((with_reducible refine' sqI_D ?k); (case k => assumption))
  | ((with_reducible refine' sqT_same ?s ?k); (case s => assumption); (case k => walk_at "it"))
  | ((with_reducible refine' sqT_but ?s ?t ?k); (case s => assumption); (case t => assumption); (case k => walk_at "it"))
  | ((with_reducible refine' sqT_pl ?s ?t ?k); (case s => assumption); (case t => walk_at "pl0"); (case k => walk_at "it")))
local macro_rules | `(tactic| walk_at "sz") => `(tactic| first | omega | ((try simp only [List.length_cons, List.length_nil] at *); omega))
local macro_rules | `(tactic| walk_at "au1") => `(tactic| first
  | walk_at "rd1"
  | ((with_reducible refine' r_draw ?k0 ?k1 ?k2 ?_); (case k0 => walk_at "pl"); (case k1 => omega); (case k2 => omega); (intro _ _ _ _ _ _))
  | ((with_reducible refine' r_slN ?k0 ?_); (case k0 => walk_at "it"); (intro _ _ _ _ _ _))
  | ((with_reducible refine' r_catN ?k0 ?k1 ?k2 ?_); (case k0 => walk_at "it"); (case k1 => walk_at "it"); (case k2 => walk_at "sz"); (intro _ _ _ _ _ _))
  | ((with_reducible refine' r_pow ?k0 ?_); (case k0 => exact ⟨by decide, by decide, by decide⟩))
  | ((with_reducible refine' r_ixI ?k0 ?k1 ?k2 ?_); (case k0 => walk_at "it"); (case k1 => omega); (case k2 => omega); (intro _ _))
  | ((with_reducible refine' r_setI ?k0 ?k1 ?k2 ?_); (case k0 => walk_at "tk"); (case k1 => omega); (case k2 => omega); (intro _ _ _ _ _))
  | ((with_reducible refine' r_kTupI ?k0 ?_); (case k0 => walk_at "tk"); (intro _ _ _ _ _))
  | ((with_reducible refine' r_listI ?k0 ?_); (case k0 => walk_at "it"); (intro _ _ _ _ _))
  | (with_reducible refine r_revU ?_)
  | ((with_reducible refine' r_prevN ?k0 ?_); (case k0 => walk_at "it"); (intro _ _ _ _ _ _))
  | (intro _ _ _ _ _))
local macro_rules | `(tactic| walk_at "go") => `(tactic| ((repeat (walk_at "au1")); (first
  | ((with_reducible refine r_ite (fun _ => ?_) (fun _ => ?_)) <;> (walk_at "go"))
  | ((with_reducible refine r_iteN (fun _ => ?_) (fun _ => ?_)) <;> (walk_at "go"))
  | dsimp only
  | skip)))
def sp_law (K : PySem.W.Frag) : Sp := fun vs H Q _ => ∃ (a : Addr) (ns : List Int), vs = [.ref a] ∧ SqL K H a (ns.map V.int) ∧ ns.length ≤ 63 ∧ ∀ H', Q (.bl true) H'
abbrev N_law : List Str := ["script", "pool", "stage", "size", "window", "many", "rows", "made", "members", "makers", "due", "told", "turn", "order", "chosen", "more", "one", "two", "at", "outside", "k", "row"]
def t_law (K : PySem.W.Frag) (ec : Str → Addr) : TS :=
  tSeq (tAsg ((tCall (sp_law_pool K) [] E0 (tCons (tVar 0) (tCons ((tC (.int 0))) tNil)))) (gName 1))
  (tSeq (tAsg ((tOp (rIx K) ((tLst (tCons ((tC (.int 1))) (tCons ((tC (.int 2))) (tCons ((tC (.int 3))) (tCons ((tC (.int 3))) (tCons ((tC (.int 4))) (tCons ((tC (.int 4))) (tCons ((tC (.int 5))) (tCons ((tC (.int 5))) (tCons ((tC (.int 6))) (tCons ((tC (.int 6))) (tCons ((tC (.int 7))) (tCons ((tC (.int 8))) (tCons ((tC (.int 9))) (tCons ((tC (.int 10))) (tCons ((tC (.int 11))) (tCons ((tC (.int 12))) tNil)))))))))))))))))) ((tCall (sp_law_draw K) [] E0 (tCons (tVar 1) (tCons ((tC (.int 16))) tNil)))))) (gName 2))
  (tSeq (tAsg ((tOp (rIx K) ((tLst (tCons ((tC (.int 3))) (tCons ((tC (.int 3))) (tCons ((tC (.int 4))) (tCons ((tC (.int 4))) (tCons ((tC (.int 4))) (tCons ((tC (.int 5))) (tCons ((tC (.int 5))) (tCons ((tC (.int 12))) tNil)))))))))) ((tCall (sp_law_draw K) [] E0 (tCons (tVar 1) (tCons ((tC (.int 8))) tNil)))))) (gName 3))
  (tSeq (tIfS ((tTest (tOp (rEqU K) ((tCall (sp_law_draw K) [] E0 (tCons (tVar 1) (tCons ((tC (.int 24))) tNil)))) ((tC (.int 0)))))) ((tAsg ((tC (.int 6))) (gName 3))) (tNext))
  (tSeq (tAsg ((tSl (rSlU K) ((tCall (sp_law_row_draw K) [] E0 (tCons (tVar 1) (tCons (tVar 2) tNil)))) tNoPart (tPart ((tCB rMin2 (tCons (tVar 2) (tCons (tVar 3) tNil))))))) (gName 4))
  (tSeq (tAsg ((tOp (rIx K) ((tLst (tCons ((tC (.int 0))) (tCons ((tC (.int 1))) (tCons ((tC (.int 1))) (tCons ((tC (.int 2))) (tCons ((tC (.int 2))) (tCons ((tC (.int 2))) (tCons ((tC (.int 3))) (tCons ((tC (.int 3))) tNil)))))))))) ((tCall (sp_law_draw K) [] E0 (tCons (tVar 1) (tCons ((tC (.int 8))) tNil)))))) (gName 5))
  (tSeq (tIfS ((tTest (tOp (rEqU K) ((tCall (sp_law_draw K) [] E0 (tCons (tVar 1) (tCons ((tC (.int 40))) tNil)))) ((tC (.int 0)))))) ((tAsg ((tCall (sp_law_draw K) [] E0 (tCons (tVar 1) (tCons ((tC (.int 721))) tNil)))) (gName 5))) (tNext))
  (tSeq (tAsg (tLc ((iRng1 (tCons (tVar 5) tNil))) ((gName 20)) (tYes) ((tCall (sp_law_window_row K) [] E0 (tCons (tVar 1) (tCons (tVar 2) (tCons (tVar 4) tNil))))) [20]) (gName 6))
  (tSeq (tAsg ((tCall (sp_law_closure K) [] E0 (tCons (tVar 2) (tCons (tVar 6) (tCons ((tC (.int 720))) tNil))))) (gName 7))
  (tSeq (tIfS ((tTest (tOp rIsNU (tVar 7) ((tC .non))))) ((tRet ((tAndV ((tCall (sp_law_refused K) [] E0 (tCons (tVar 2) (tCons (tVar 6) (tCons ((tC (.int 720))) tNil))))) ((tCall (sp_law_refused K) [] E0 (tCons (tVar 2) (tCons ((tRevL K (tVar 6))) (tCons ((tC (.int 720))) tNil))))))))) (tNext))
  (tSeq (tAsg ((tOp (rIx K) (tVar 7) ((tC (.int 0))))) (gName 8))
  (tSeq (tAsg ((tOp (rIx K) (tVar 7) ((tC (.int 1))))) (gName 9))
  (tSeq (tAsg ((tThen (tVar 8) (kTupP K))) (gName 10))
  (tSeq (tAsg ((tCall (sp_closure K ec) [] E0 (tCons (tVar 2) (tCons ((tThen (tVar 6) (kTupP K))) (tCons ((tCB (rLenU K) (tCons (tVar 10) tNil))) tNil))))) (gName 11))
  (tSeq (tIfS ((tNot ((tTru K ((tCall (sp_law_same K) [] E0 (tCons (tVar 11) (tCons (tVar 10) tNil)))))))) ((tRet ((tC (.bl false))))) (tNext))
  (tSeq (tAsg ((tCall (sp_law_pool K) [] E0 (tCons (tVar 0) (tCons ((tC (.int 1))) tNil)))) (gName 12))
  (tSeq (tAsg ((tCall (sp_law_turned K) [] E0 (tCons (tVar 12) (tCons (tVar 8) tNil)))) (gName 13))
  (tSeq (tAsg (tLc ((iSeqU K (tVar 13))) ((gName 21)) ((tOr ((tTest (tOp (rInD K) (tVar 21) (tVar 9)))) ((tTest (tOp (rEqU K) ((tCall (sp_law_draw K) [] E0 (tCons (tVar 12) (tCons ((tC (.int 2))) tNil)))) ((tC (.int 0)))))))) (tVar 21) [21]) (gName 14))
  (tSeq (tIfS ((tNot ((tTru K ((tCall (sp_law_same K) [] E0 (tCons ((tCall (sp_closure K ec) [] E0 (tCons (tVar 2) (tCons ((tThen (tVar 13) (kTupP K))) (tCons ((tCB (rLenU K) (tCons (tVar 10) tNil))) tNil))))) (tCons (tVar 10) tNil)))))))) ((tRet ((tC (.bl false))))) (tNext))
  (tSeq (tIfS ((tNot ((tTru K ((tCall (sp_law_same K) [] E0 (tCons ((tCall (sp_closure K ec) [] E0 (tCons (tVar 2) (tCons ((tThen (tVar 14) (kTupP K))) (tCons ((tCB (rLenU K) (tCons (tVar 10) tNil))) tNil))))) (tCons (tVar 10) tNil)))))))) ((tRet ((tC (.bl false))))) (tNext))
  (tSeq (tAsg ((tCall (sp_law_pool K) [] E0 (tCons (tVar 0) (tCons ((tC (.int 2))) tNil)))) (gName 15))
  (tSeq (tAsg ((tOp (rIx K) (tVar 10) ((tCall (sp_law_draw K) [] E0 (tCons (tVar 15) (tCons ((tCB (rLenU K) (tCons (tVar 10) tNil))) tNil)))))) (gName 16))
  (tSeq (tAsg ((tOp (rIx K) (tVar 10) ((tCall (sp_law_draw K) [] E0 (tCons (tVar 15) (tCons ((tCB (rLenU K) (tCons (tVar 10) tNil))) tNil)))))) (gName 17))
  (tSeq (tAsg ((tCall (sp_law_draw K) [] E0 (tCons (tVar 15) (tCons ((tOp (rAddU K) ((tCB (rLenU K) (tCons (tVar 9) tNil))) ((tC (.int 1))))) tNil)))) (gName 18))
  (tSeq (tIfS ((tNot ((tTru K ((tCall (sp_law_same K) [] E0 (tCons ((tCall (sp_closure K ec) [] E0 (tCons (tVar 2) (tCons ((tThen ((tOp (rAddU K) ((tOp (rAddU K) ((tSl (rSlU K) (tVar 9) tNoPart (tPart (tVar 18)))) ((tLst (tCons (tVar 16) tNil))))) ((tSl (rSlU K) (tVar 9) (tPart (tVar 18)) tNoPart)))) (kTupP K))) (tCons ((tCB (rLenU K) (tCons (tVar 10) tNil))) tNil))))) (tCons (tVar 10) tNil)))))))) ((tRet ((tC (.bl false))))) (tNext))
  (tSeq (tIfS ((tOr ((tTest (tOp (rNotInDT K) ((tCall (sp_law_times K) [] E0 (tCons (tVar 16) (tCons (tVar 17) tNil)))) (tVar 11)))) ((tTest (tOp (rNotInDT K) ((tCall (sp_law_inverse K) [] E0 (tCons (tVar 16) tNil))) (tVar 11)))))) ((tRet ((tC (.bl false))))) (tNext))
  (tSeq (tAsg ((tCall (sp_law_outside K) [] E0 (tCons (tVar 15) (tCons (tVar 2) (tCons (tVar 8) tNil))))) (gName 19))
  (tSeq (tIfS ((tAnd ((tTest (tOp rNotNU (tVar 19) ((tC .non))))) ((tNot ((tTru K ((tCall (sp_law_larger K) [] E0 (tCons (tVar 2) (tCons ((tOp (rAddU K) ((tOp (rAddU K) ((tSl (rSlU K) (tVar 9) tNoPart (tPart (tVar 18)))) ((tLst (tCons (tVar 19) tNil))))) ((tSl (rSlU K) (tVar 9) (tPart (tVar 18)) tNoPart)))) (tCons (tVar 8) (tCons (tVar 19) tNil)))))))))))) ((tRet ((tC (.bl false))))) (tNext))
  (tSeq (tIfS ((tNot ((tTru K ((tCall (sp_law_within K) [] E0 (tCons (tVar 2) (tCons (tVar 6) (tCons (tVar 8) (tCons ((tSl (rSlU K) ((tLst (tCons (tVar 16) (tCons (tVar 17) tNil)))) tNoPart (tPart ((tOp (rAddU K) ((tC (.int 1))) ((tCall (sp_law_draw K) [] E0 (tCons (tVar 15) (tCons ((tC (.int 2))) tNil))))))))) tNil)))))))))) ((tRet ((tC (.bl false))))) (tNext))
  ((tRet ((tCall (sp_law_same K) [] E0 (tCons ((tCall (sp_closure K ec) [] E0 (tCons (tVar 2) (tCons ((tThen (tVar 6) (kTupP K))) (tCons ((tCB (rLenU K) (tCons (tVar 10) tNil))) tNil))))) (tCons (tVar 10) tNil))))))))))))))))))))))))))))))))))
section
variable {K : PySem.W.Frag} {ec : Str → Addr} {vs : List V} {H H' : Hp} {Q : VK} {E : XK} {D : Ends} {σ : L2.St} {l l2 p : Addr} {ps qs : List (Addr × List Int)} {n k : Nat}
theorem len_law (h : sp_law K vs H Q E) : vs.length = 1 := by obtain ⟨a, ns, rfl, _⟩ := h; rfl
theorem LRt.via {H0 : Hp} (np : H0 p = none) (b : But p H0 H') (h0 : LRt H0 l ps) : LRt H' l ps :=
  ⟨b _ _ (ne_of_none h0.1 np) h0.1, fun q hq => b _ _ (ne_of_none (h0.2 q hq) np) (h0.2 q hq)⟩
theorem cutA_sub {α : Type} {xs : List α} {lo hi : Option Int} {x : α} (h : x ∈ cutA xs lo hi) : x ∈ xs := List.mem_of_mem_drop (List.mem_of_mem_take h)
theorem r_slR {lo hi : Option Int} (h : LRt H l ps) (k : ∀ p H', H p = none → Same H H' → LRt H' p (cutA ps lo hi) → Q (.ref p) H') : rSlU K (.ref l) lo hi H Q :=
  r_slLL (sqL_of h.1) fun p H' np s e => k p H' np s ⟨by rw [e, cut_map], fun q hq => s _ _ (h.2 q (cutA_sub hq))⟩
theorem r_catR {a b : Addr} {ps qs : List (Addr × List Int)} (h1 : LRt H a ps) (h2 : LRt H b qs) (hz : ps.length + qs.length ≤ 100000) (k : ∀ p H', H p = none → Same H H' → LRt H' p (ps ++ qs) → Q (.ref p) H') : rAddU K (.ref a) (.ref b) H Q :=
  r_catL h1.1 h2.1 (by rw [List.length_map, List.length_map, sizeLine_eq]; omega) fun p H' np s e => k p H' np s ⟨by rw [e, List.map_append], fun q hq => by
    rcases List.mem_append.mp hq with z | z
    · exact s _ _ (h1.2 q z)
    · exact s _ _ (h2.2 q z)⟩
theorem cutA_drop {α : Type} {ns : List α} {k : Nat} (h : k ≤ ns.length) : cutA ns (some (k : Int)) none = ns.drop k := by
  have e : HT.sIx ns.length 0 (some (k : Int)) = k := by rw [HT.sIx_nat]; omega
  have e2 : HT.sIx ns.length ns.length none = ns.length := rfl
  unfold cutA
  rw [e, e2, List.take_of_length_le (by rw [List.length_drop]; omega)]
theorem shaped_rowsT (qs : List (Addr × List Int)) : SeqAt.shaped (.tuple (qs.map fun q => dR q.2)) = true := by
  have := dep_rows qs
  exact Bool.and_eq_true_iff.mpr ⟨by rw [PyData.canLay0]; exact lay_rows qs, decide_eq_true (by rw [PyData.depth]; omega)⟩
theorem r_notInT {t x : Addr} {r : List Int} {qs : List (Addr × List Int)} (h : H t = some (.tup (qs.map fun q => V.ref q.1))) (hq : ∀ q ∈ qs, H q.1 = some (.tup (q.2.map V.int))) (hx : SqT K H x (r.map V.int)) (q : Q (.bl (!decide (r ∈ rws qs))) H) : rNotInDT K (.ref x) (.ref t) H Q :=
  ⟨dR r, qs.map fun q => dR q.2, .tup hx (dpAll_ints r), .tup (sqT_of h) (dp_rows fun w hw => sqT_of (hq w hw)), shaped_ints r, shaped_rowsT qs, by rw [eqv_rows]; exact q⟩
theorem r_inR {l x : Addr} {r : List Int} {qs : List (Addr × List Int)} (h : LRt H l qs) (hx : SqT K H x (r.map V.int)) (q : Q (.bl (decide (r ∈ rws qs))) H) : rInD K (.ref x) (.ref l) H Q :=
  ⟨dR r, qs.map fun q => dR q.2, .tup hx (dpAll_ints r), .lst (sqL_of h.1) (dp_rows fun w hw => sqT_of (h.2 w hw)), shaped_ints r, shaped_rows qs, by rw [eqv_rows]; exact q⟩
structure Sit (K : PySem.W.Frag) (a : Addr) (ns : List Int) (l : Addr) (ps : List (Addr × List Int)) (m : Addr) (ws : List (Addr × List Int)) (b : Addr) (ms : List (Addr × List Int)) (d t : Addr) (us : List (Addr × List Int)) (H : Hp) : Prop where
  hA : SqL K H a (ns.map V.int)
  hl : LRt H l ps
  hm : LRt H m ws
  hb : LRt H b ms
  hd : H d = some (.tup (ws.map fun q => V.ref q.1))
  ht : H t = some (.tup (us.map fun q => V.ref q.1))
  hu : ∀ q ∈ us, H q.1 = some (.tup (q.2.map V.int))
section
variable {a : Addr} {ns : List Int} {m b d t : Addr} {ws ms us : List (Addr × List Int)}
theorem Sit.same (s : Same H H') (h : Sit K a ns l ps m ws b ms d t us H) : Sit K a ns l ps m ws b ms d t us H' := ⟨sqL_same s h.hA, h.hl.same s, h.hm.same s, h.hb.same s, s _ _ h.hd, s _ _ h.ht, fun q hq => s _ _ (h.hu q hq)⟩
theorem Sit.via (np : H p = none) (b' : But p H H') (h : Sit K a ns l ps m ws b ms d t us H) : Sit K a ns l ps m ws b ms d t us H' := ⟨sqL_via np b' h.hA, LRt.via np b' h.hl, LRt.via np b' h.hm, LRt.via np b' h.hb, b' _ _ (ne_of_none h.hd np) h.hd, b' _ _ (ne_of_none h.ht np) h.ht, fun q hq => b' _ _ (ne_of_none (h.hu q hq) np) (h.hu q hq)⟩
end
theorem pure_law (XS : Exs K ec XN) (h : sp_law K vs H Q E) : t_law K ec (En Q) (start N_law vs) H := by
  obtain ⟨a, ns, rfl, hA, hn, q⟩ := h
  unfold t_law
  walk_at "rd"
  refine ⟨a, ns, 0, rfl, hA, hn, by omega, fun p0 H1 np0 s1 hp1 => ?_⟩
  walk_at "rd"
  intro l16 H2 nl16 s2 e2
  have hp2 := pl_same s2 hp1
  walk_at "rd"
  refine r_draw hp2 (by omega) (by omega) fun v H3 v0 v1 b3 hp3 => ?_
  have e3 := b3 _ _ (ne_pl nl16 hp1) e2
  refine r_ixIL (ns := [1, 2, 3, 3, 4, 4, 5, 5, 6, 6, 7, 8, 9, 10, 11, 12]) e3 v0 v1 fun st hst => ?_
  have hst : 1 ≤ st ∧ st ≤ 12 := by revert st; decide
  obtain ⟨n, rfl⟩ : ∃ n : Nat, st = (n : Int) := ⟨st.toNat, by omega⟩
  have n1 : 1 ≤ n := by omega
  have n2 : n ≤ 12 := by omega
  walk_at "rd"
  intro l12 H4 nl12 s4 e4
  have hp4 := pl_same s4 hp3
  walk_at "rd"
  refine r_draw hp4 (by omega) (by omega) fun v2 H5 v20 v21 b5 hp5 => ?_
  have e5 := b5 _ _ (ne_pl nl12 hp3) e4
  refine r_ixIL (ns := [3, 3, 4, 4, 4, 5, 5, 12]) e5 v20 v21 fun size hsz => ?_
  have hsz : 1 ≤ size := by revert size; decide
  have b15 : But p0 H H5 := ((((Same.but s1).trans (Same.but s2)).trans b3).trans (Same.but s4)).trans b5
  refine r_name ?_
  refine r_key (R := fun σ' H' => ∃ size : Int, 1 ≤ size ∧ σ' = [some (.ref a), some (.ref p0), some (.int (n : Int)), some (.int size), none, none, none, none, none, none, none, none, none, none, none, none, none, none, none, none, none, none] ∧ But p0 H H' ∧ Pl H' p0) (fun tb key => ?_) (fun σ' H6 hW => ?_)
  · walk_at "rd"
    refine r_draw hp5 (by omega) (by omega) fun v3 H6 v30 v31 b6 hp6 => ?_
    walk_at "rd"
    refine r_ite (fun h0 => ?_) (fun h0 => ?_)
    · walk_at "rd"
      exact key _ _ ⟨6, by omega, rfl, b15.trans b6, hp6⟩
    · walk_at "rd"
      exact key _ _ ⟨size, hsz, rfl, b15.trans b6, hp6⟩
  clear hsz e5 hp5 b15
  obtain ⟨size, hsz, rfl, b16, hp6⟩ := hW
  walk_at "rd"
  refine ⟨p0, n, rfl, hp6, by omega, fun o H7 os no b7 hp7 eo ho => ?_⟩
  walk_at "rd"
  refine r_min2 ?_
  obtain ⟨m, em⟩ : ∃ m : Nat, min (n : Int) size = (m : Int) := ⟨(min (n : Int) size).toNat, by omega⟩
  have hm : m ≤ n := by omega
  rw [em]
  walk_at "rd"
  refine r_slI (sqT_of eo) fun w H8 s8 hw => ?_
  rw [cutA_take] at hw
  have hol := ho.1
  have wl : (os.take m).length ≤ n := by rw [List.length_take]; omega
  have wnd : (os.take m).Nodup := ho.2.1.sublist (List.take_sublist _ _)
  have wb : ∀ x ∈ os.take m, 1 ≤ x ∧ x ≤ (n : Int) := fun x hx => ho.2.2 x (List.mem_of_mem_take hx)
  generalize os.take m = wins at hw wl wnd wb
  have hp8 := pl_same s8 hp7
  walk_at "rd"
  intro l8 H9 nl8 s9 e9
  have hp9 := pl_same s9 hp8
  walk_at "rd"
  refine r_draw hp9 (by omega) (by omega) fun v4 H10 v40 v41 b10 hp10 => ?_
  have e10 := b10 _ _ (ne_pl nl8 hp8) e9
  refine r_ixIL (ns := [0, 1, 1, 2, 2, 2, 3, 3]) e10 v40 v41 fun many hmany => ?_
  have hmany : 0 ≤ many ∧ many ≤ 3 := by revert many; decide
  have hw10 := sqT_pl b10 hp9 (sqT_same s9 hw)
  have b110 : But p0 H H10 := (((b16.trans b7).trans (Same.but s8)).trans (Same.but s9)).trans b10
  refine r_name ?_
  refine r_key (R := fun σ' H' => ∃ many : Int, 0 ≤ many ∧ many ≤ 720 ∧ σ' = [some (.ref a), some (.ref p0), some (.int (n : Int)), some (.int size), some (.ref w), some (.int many), none, none, none, none, none, none, none, none, none, none, none, none, none, none, none, none] ∧ But p0 H H' ∧ Pl H' p0 ∧ SqT K H' w (wins.map V.int)) (fun tb key => ?_) (fun σ' H11 hW => ?_)
  · walk_at "rd"
    refine r_draw hp10 (by omega) (by omega) fun v5 H11 v50 v51 b11 hp11 => ?_
    have hw11 := sqT_pl b11 hp10 hw10
    walk_at "rd"
    refine r_ite (fun h0 => ?_) (fun h0 => ?_)
    · walk_at "rd"
      refine r_draw hp11 (by omega) (by omega) fun v6 H12 v60 v61 b12 hp12 => ?_
      refine r_name ?_
      exact key _ _ ⟨v6, v60, by omega, rfl, (b110.trans b11).trans b12, hp12, sqT_pl b12 hp11 hw11⟩
    · walk_at "rd"
      exact key _ _ ⟨many, by omega, by omega, rfl, b110.trans b11, hp11, hw11⟩
  clear hmany e10 hp10 hw10 b110
  obtain ⟨many, many0, many1, rfl, b11, hp11, hw11⟩ := hW
  walk_at "rd"
  refine r_lcR (fun D i H' => D ≠ p0 ∧ H11 D = none ∧ But p0 H11 H' ∧ Pl H' p0 ∧ ∃ ps : List (Addr × List Int), LRt H' D ps ∧ ps.length = i ∧ ∀ r ∈ rws ps, IsRow r n)
    (fun _ => rfl) (fun D H' hD s e => ⟨ne_pl hD hp11, hD, Same.but s, pl_same s hp11, [], ⟨e, fun w hw => nomatch hw⟩, rfl, fun x hx => nomatch hx⟩) (fun D i H' hi P => ?_) (fun l H12 hD P => ?_)
  · obtain ⟨dp, nD, b, hp', ps, e, hl, hr⟩ := P
    refine r_yes (r_T ?_)
    walk_at "rd"
    refine ⟨p0, w, n, wins, rfl, hp', n2, sqT_pl b hp11 hw11, wnd, wb, wl, fun a H9 r na b9 hp9 ea hra => ?_⟩
    have e9 := b9 _ _ dp e.1
    refine r_acc e9 (by rw [List.length_map]; omega) fun H10 b10 e10 => ⟨dp, nD, but_via (b.trans b9) b10 nD, pl_butL b10 dp.symm hp9, ps ++ [(a, r)], ?_, by rw [List.length_append, hl]; rfl, fun x hx' => ?_⟩
    · exact LRt.push b10 ⟨e9, fun w hw => (LRt.plN b9 hp' e).2 w hw⟩ ea e10
    · rw [rws_app', List.mem_append] at hx'
      rcases hx' with z | z
      · exact hr x z
      · have : x = r := by simpa using z
        subst this; exact hra
  obtain ⟨dp, nD, b12, hp12, ps, hl, psl, hR⟩ := P
  have psz : ps.length ≤ 720 := by omega
  have hA12 := sqL_via np0 (b11.trans b12) hA
  walk_at "rd"
  refine ⟨n, l, ps, rfl, n1, n2, hl, by omega, hR, fun H13 s13 hm13 => ?_, fun p ma mb H13 ws ms np s13 e13 hma hmb cW wM sub w7 mz => ?_⟩
  · have hl13 := hl.same s13
    walk_at "rd"
    refine r_iteP rfl ?_
    walk_at "rd"
    refine ⟨n, l, ps, 720, rfl, n1, n2, hl13, by omega, hR, by omega, by omega, hm13, fun H14 s14 => ?_⟩
    have hl14 := hl13.same s14
    walk_at "rd"
    refine r_revL ?_
    walk_at "rd"
    refine r_prevL (sqL_of hl14.1) fun rl H15 nrl s15 e15 => ?_
    walk_at "rd"
    refine ⟨n, rl, ps.reverse, 720, rfl, n1, n2, ⟨by rw [e15, List.map_reverse], fun w hw => s15 _ _ (hl14.2 w (List.mem_reverse.mp hw))⟩, by rw [List.length_reverse]; omega, fun r hr => hR r (by
      obtain ⟨w, hw, rfl⟩ := List.mem_map.mp hr
      exact List.mem_map.mpr ⟨w, List.mem_reverse.mp hw, rfl⟩), by omega, by omega, hm13.mono fun r hr => (by
      obtain ⟨w, hw, rfl⟩ := List.mem_map.mp hr
      exact List.mem_map.mpr ⟨w, List.mem_reverse.mpr hw, rfl⟩), fun H16 s16 => q H16⟩
  have hl13 := hl.same s13
  have ema := hma.1
  have hW : ∀ x ∈ rws ws, IsRow x n := fun x hx => ((cW.1.2 x).mp hx).row hR
  have hms : ∀ x ∈ rws ms, x ∈ rws ws := fun x hx => (cW.1.2 x).mpr (Gn.gen hR (sub x hx))
  have hMr : ∀ x ∈ rws ms, IsRow x n := fun x hx => hR x (sub x hx)
  have wpos : 0 < ws.length := by
    have := List.length_pos_of_mem ((cW.1.2 _).mpr Gn.one)
    rw [rws_len'] at this; exact this
  have ha0 : atI [V.ref ma, V.ref mb] 0 = some (.ref ma) := rfl
  have ha1 : atI [V.ref ma, V.ref mb] 1 = some (.ref mb) := rfl
  have sz : (Dat.tup ((rws ws).map dD)).size ≤ 1000000 := size_ok (fun x hx => by have := (hW x hx).1; omega) (by rw [rws_len']; omega)
  walk_at "rd"
  refine r_iteM (by intro z; cases z) ?_
  walk_at "rd"
  refine r_kTupP (sqL_of ema) fun d H14 nd s14 ed => ?_
  have hl14 := hl13.same s14
  have el14 := hl14.1
  walk_at "rd"
  refine r_kTupP (sqL_of el14) fun t0 H15 nt0 s15 et0 => ?_
  have ed15 := s15 _ _ ed
  walk_at "rd"
  rw [List.length_map]
  refine r_closed n1 n2 (sqT_of et0) (fun w hw => s15 _ _ (hl14.2 w hw)) (by omega) hR cW (by rw [rws_len']; omega) (by omega) fun t H16 us nt s16 et hu eu => ?_
  have s1316 := (s14.trans s15).trans s16
  have S16 : Sit K a ns l ps ma ws mb ms d t us H16 := ⟨sqL_same s1316 (sqL_same s13 hA12), hl13.same s1316, hma.same s1316, hmb.same s1316, s16 _ _ ed15, et, hu⟩
  have rpd : ∀ {H'}, Sit K a ns l ps ma ws mb ms d t us H' → Rp K H' (.ref d) (.tup ((rws ws).map dD)) := fun S => rp_rows S.hd S.hm.2
  walk_at "rd"
  refine ⟨.ref t, .ref d, .tup ((rws ws).map dD), rfl, by rw [← eu]; exact rp_rows S16.ht S16.hu, rpd S16, sz, fun H17 s17 => ?_⟩
  have S17 := S16.same s17
  have hA17 := S17.hA
  walk_at "rd"
  refine ⟨a, ns, 1, rfl, hA17, hn, by omega, fun p1 H18 np1 s18 hp18 => ?_⟩
  have S18 := S17.same s18
  have emS := S18.hm.1
  walk_at "rd"
  refine ⟨p1, ma, ws, rfl, hp18, S18.hm, by omega, fun o1 H19 os1 no1 b19 hp19 ho1 pm1 => ?_⟩
  have S19 := S17.via np1 ((Same.but s18).trans b19)
  have eo1 := ho1.1
  have os1W : ∀ q ∈ os1, q.2 ∈ rws ws := fun q hq => List.mem_map.mpr ⟨q, pm1.mem_iff.mp hq, rfl⟩
  walk_at "rd"
  refine r_lcL (xs := os1.map fun q => V.ref q.1) (fun D i H' => D ≠ p1 ∧ H19 D = none ∧ But p1 H19 H' ∧ Pl H' p1 ∧ ∃ cs : List (Addr × List Int), LRt H' D cs ∧ cs.length ≤ i ∧ (∀ q ∈ cs, q.2 ∈ rws ws) ∧ (∀ q ∈ os1.take i, q.2 ∈ rws ms → q.2 ∈ rws cs))
    (fun _ => rfl) (fun D H' hD s e => ⟨ne_pl hD hp19, hD, Same.but s, pl_same s hp19, [], ⟨e, fun w hw => nomatch hw⟩, Nat.le_refl _, (fun q hq => nomatch hq), fun q hq => by simp at hq⟩) (fun D i H' P => sqL_of (LRt.plN P.2.2.1 hp19 ho1).1) (fun D i x H' hi P => ?_) (fun ch H20 hD P => ?_)
  · obtain ⟨dp, nD, b, hp', cs, e, cl, hc, hmk⟩ := P
    rw [List.getElem?_map] at hi
    obtain ⟨ow, how, rfl⟩ := Option.map_eq_some_iff.mp hi
    have hil := (List.getElem?_eq_some_iff.mp how).1
    have oz : os1.length ≤ 720 := by rw [pm1.length_eq]; exact w7
    have ho' := LRt.plN b hp19 ho1
    have eow := ho'.2 ow (List.mem_of_getElem? how)
    have hb' := LRt.plN b hp19 S19.hb
    have app : ∀ H2, Same H' H2 ∨ But p1 H' H2 → Pl H2 p1 → tVar 21 ((wipe [some (.ref a), some (.ref p0), some (.int (n : Int)), some (.int size), some (.ref w), some (.int many), some (.ref l), some (.ref p), some (.ref ma), some (.ref mb), some (.ref d), some (.ref t), some (.ref p1), some (.ref o1), none, none, none, none, none, none, none, none] [21]).set 21 (some (.ref ow.1))) H2 (fun y H4 => PAcc D (fun H' => D ≠ p1 ∧ H19 D = none ∧ But p1 H19 H' ∧ Pl H' p1 ∧ ∃ cs : List (Addr × List Int), LRt H' D cs ∧ cs.length ≤ i + 1 ∧ (∀ q ∈ cs, q.2 ∈ rws ws) ∧ (∀ q ∈ os1.take (i + 1), q.2 ∈ rws ms → q.2 ∈ rws cs)) y H4) := fun H2 sb hp2 => by
      have b2 : But p1 H' H2 := sb.elim Same.but id
      have e2 : LRt H2 D cs := LRt.plN b2 hp' e
      have eow2 := (LRt.plN b2 hp' ho').2 ow (List.mem_of_getElem? how)
      walk_at "rd"
      refine r_acc e2.1 (by rw [List.length_map]; omega) fun H5 b5 e5 => ⟨dp, nD, but_via (b.trans b2) b5 nD, pl_butL b5 dp.symm hp2, cs ++ [ow], e2.push b5 eow2 e5, by rw [List.length_append]; simp; omega, fun q hq => ?_, fun q hq hm => ?_⟩
      · rcases List.mem_append.mp hq with hq | hq
        · exact hc q hq
        · rw [List.mem_singleton] at hq; subst hq
          exact os1W _ (List.mem_of_getElem? how)
      · rw [List.take_add_one, how, List.mem_append] at hq
        rw [rws_app', List.mem_append]
        rcases hq with hq | hq
        · exact .inl (hmk q hq hm)
        · have : q = ow := by simpa using hq
          subst this; exact .inr (by simp)
    have skip : ow.2 ∉ rws ms → ∀ H2, But p1 H' H2 → Pl H2 p1 → (D ≠ p1 ∧ H19 D = none ∧ But p1 H19 H2 ∧ Pl H2 p1 ∧ ∃ cs : List (Addr × List Int), LRt H2 D cs ∧ cs.length ≤ i + 1 ∧ (∀ q ∈ cs, q.2 ∈ rws ws) ∧ (∀ q ∈ os1.take (i + 1), q.2 ∈ rws ms → q.2 ∈ rws cs)) := fun hno H2 b2 hp2 =>
      ⟨dp, nD, b.trans b2, hp2, cs, LRt.plN b2 hp' e, by omega, hc, fun q hq hm => by
        rw [List.take_add_one, how, List.mem_append] at hq
        rcases hq with hq | hq
        · exact hmk q hq hm
        · have : q = ow := by simpa using hq
          subst this; exact absurd hm hno⟩
    walk_at "rd"
    refine r_inR hb' (sqT_of eow) ?_
    walk_at "rd"
    refine r_ite (fun hin => ?_) (fun hno => ?_)
    · refine r_T ?_
      exact app H' (.inl (Same.refl _)) hp'
    · walk_at "rd"
      refine r_draw hp' (by omega) (by omega) fun v7 H2 v70 v71 b2 hp2 => ?_
      walk_at "rd"
      refine r_ite (fun h0 => ?_) (fun h0 => ?_)
      · exact app H2 (.inr b2) hp2
      · exact skip hno H2 b2 hp2
  obtain ⟨dpc, nDc, b20, hp20, cs, hch, csl, csW, csM⟩ := P
  have hol1 : (os1.map fun q => V.ref q.1).length = os1.length := List.length_map _
  rw [hol1] at csl csM
  rw [List.take_length] at csM
  have oz : os1.length = ws.length := pm1.length_eq
  have S20 := S17.via np1 (((Same.but s18).trans b19).trans b20)
  have ho20 : LRt H20 o1 os1 := LRt.plN b20 hp19 ho1
  have eo20 := ho20.1
  have ed20 := S20.hd
  -- all of the members, turned
  walk_at "rd"
  refine r_kTupP (sqL_of eo20) fun t1 H21 nt1 s21 et1 => ?_
  have ed21 := s21 _ _ ed20
  have hO : ∀ x ∈ rws os1, x ∈ rws ws := fun x hx => by
    obtain ⟨q, hq, rfl⟩ := List.mem_map.mp hx
    exact os1W q hq
  have wO : Clo n (rws os1) (rws ws) := ⟨whole_mid hR cW.1 wM (fun m hm => by
    obtain ⟨q, hq, e⟩ := List.mem_map.mp (hms m hm)
    exact List.mem_map.mpr ⟨q, pm1.mem_iff.mpr hq, e⟩) hO, cW.2⟩
  walk_at "rd"
  rw [List.length_map]
  refine r_closed n1 n2 (sqT_of et1) (fun w hw => s21 _ _ (ho20.2 w hw)) (by omega) (fun r hr => hW r (hO r hr)) wO (by rw [rws_len']; omega) (by omega) fun t2 H22 us2 nt2 s22 et2 hu2 eu2 => ?_
  have S22 := (S20.same s21).same s22
  walk_at "rd"
  refine ⟨.ref t2, .ref d, .tup ((rws ws).map dD), rfl, by rw [← eu2]; exact rp_rows et2 hu2, rpd S22, sz, fun H23 s23 => ?_⟩
  have S23 := S22.same s23
  have s2023 := (s21.trans s22).trans s23
  have hch23 := hch.same s2023
  have ech23 := hch23.1
  have ed23 := S23.hd
  walk_at "rd"
  refine r_kTupP (sqL_of ech23) fun t3 H24 nt3 s24 et3 => ?_
  have ed24 := s24 _ _ ed23
  have hC : ∀ x ∈ rws cs, x ∈ rws ws := fun x hx => by
    obtain ⟨q, hq, rfl⟩ := List.mem_map.mp hx
    exact csW q hq
  have wC : Clo n (rws cs) (rws ws) := ⟨whole_mid hR cW.1 wM (fun m hm => by
    obtain ⟨q, hq, rfl⟩ := List.mem_map.mp (hms m hm)
    exact csM q (pm1.mem_iff.mpr hq) hm) hC, cW.2⟩
  walk_at "rd"
  rw [List.length_map]
  refine r_closed n1 n2 (sqT_of et3) (fun w hw => s24 _ _ (hch23.2 w hw)) (by omega) (fun r hr => hW r (hC r hr)) wC (by rw [rws_len']; omega) (by omega) fun t4 H25 us4 nt4 s25 et4 hu4 eu4 => ?_
  have S25 := (S23.same s24).same s25
  walk_at "rd"
  refine ⟨.ref t4, .ref d, .tup ((rws ws).map dD), rfl, by rw [← eu4]; exact rp_rows et4 hu4, rpd S25, sz, fun H26 s26 => ?_⟩
  have S26 := S25.same s26
  have hA26 := S26.hA
  walk_at "rd"
  refine ⟨a, ns, 2, rfl, hA26, hn, by omega, fun p2 H27 np2 s27 hp27 => ?_⟩
  have S27 := S26.same s27
  have ed27 := S27.hd
  have ixD : ∀ {H' : Hp} {v : Int} {Q : VK}, H' d = some (.tup (ws.map fun q => V.ref q.1)) → 0 ≤ v → v < (ws.length : Int) → (∀ w, w ∈ ws → Q (.ref w.1) H') → rIx K (.ref d) (.int v) H' Q := fun {H'} {v} {Q} e h0 h1 k => by
    clear sz
    obtain ⟨w, hw⟩ := at_of (xs := ws) (i := v.toNat) (by omega)
    refine r_ixT (sqT_of e) (v := .ref w.1) ?_ (k w (List.mem_of_getElem? hw))
    have := atI_nat (xs := ws.map fun q => V.ref q.1) (j := v.toNat) (v := .ref w.1) (by rw [List.getElem?_map, hw]; rfl)
    rw [Int.toNat_of_nonneg h0] at this
    exact this
  walk_at "rd"
  rw [List.length_map]
  refine r_draw hp27 (by omega) (by omega) fun v8 H28 v80 v81 b28 hp28 => ?_
  have bb1 := (Same.but s27).trans b28
  have ed28 := (S26.via np2 bb1).hd
  refine ixD ed28 v80 v81 fun one hone => ?_
  walk_at "rd"
  rw [List.length_map]
  refine r_draw hp28 (by omega) (by omega) fun v9 H29 v90 v91 b29 hp29 => ?_
  have bb2 := bb1.trans b29
  have ed29 := (S26.via np2 bb2).hd
  refine ixD ed29 v90 v91 fun two htwo => ?_
  have emb29 := (S26.via np2 bb2).hb.1
  walk_at "rd"
  rw [List.length_map]
  refine r_draw hp29 (by omega) (by omega) fun av H30 av0 av1 b30 hp30 => ?_
  have bb3 := bb2.trans b30
  have S30 := S26.via np2 bb3
  obtain ⟨ai, eai⟩ : ∃ ai : Nat, av = (ai : Int) := ⟨av.toNat, by omega⟩
  subst eai
  have hone' : one.2 ∈ rws ws := List.mem_map.mpr ⟨one, hone, rfl⟩
  have htwo' : two.2 ∈ rws ws := List.mem_map.mpr ⟨two, htwo, rfl⟩
  have cutT : cutA ms none (some (ai : Int)) = ms.take ai := cutA_take
  have cutD : cutA ms (some (ai : Int)) none = ms.drop ai := cutA_drop (by omega)
  -- the makers with one more
  walk_at "rd"
  refine r_slR S30.hb fun q1 H31 nq1 s31 hq1 => ?_
  rw [cutT] at hq1
  walk_at "rd"
  intro q2 H32 nq2 s32 eq2
  have hq2 : LRt H32 q2 [one] := ⟨eq2, fun w hw => by
    rw [List.mem_singleton] at hw
    subst hw
    exact s32 _ _ (s31 _ _ (S30.hm.2 _ hone))⟩
  walk_at "rd"
  refine r_catR (hq1.same s32) hq2 (by simp; omega) fun q3 H33 nq3 s33 hq3 => ?_
  have S33 := ((S30.same s31).same s32).same s33
  walk_at "rd"
  refine r_slR S33.hb fun q4 H34 nq4 s34 hq4 => ?_
  rw [cutD] at hq4
  walk_at "rd"
  refine r_catR (hq3.same s34) hq4 (by simp; omega) fun q5 H35 nq5 s35 hq5 => ?_
  have S35 := (S33.same s34).same s35
  have eq5 := hq5.1
  have ed35 := S35.hd
  have memX : ∀ (x : Addr × List Int) (r : List Int), r ∈ rws (ms.take ai ++ [x] ++ ms.drop ai) ↔ (r ∈ rws ms ∨ r = x.2) := fun x r => by
    rw [rws_app', rws_app', List.mem_append, List.mem_append]
    have : rws ms = rws (ms.take ai) ++ rws (ms.drop ai) := by rw [← rws_app', List.take_append_drop]
    rw [this, List.mem_append]
    constructor
    · rintro ((h | h) | h)
      · exact .inl (.inl h)
      · exact .inr (by simpa using h)
      · exact .inl (.inr h)
    · rintro ((h | h) | h)
      · exact .inl (.inl h)
      · exact .inr h
      · exact .inl (.inr (by simpa using h))
  have lenX : ∀ x : Addr × List Int, (ms.take ai ++ [x] ++ ms.drop ai).length = ms.length + 1 := fun x => by
    rw [List.length_append, List.length_append, List.length_take, List.length_drop]; simp; omega
  have l1 := lenX one
  have hX : ∀ x ∈ rws (ms.take ai ++ [one] ++ ms.drop ai), x ∈ rws ws := fun x hx => by
    rcases (memX one x).mp hx with h | h
    · exact hms x h
    · rw [h]; exact hone'
  have wX : Clo n (rws (ms.take ai ++ [one] ++ ms.drop ai)) (rws ws) := ⟨whole_mid hR cW.1 wM (fun m hm => (memX one m).mpr (.inl hm)) hX, cW.2⟩
  generalize ms.take ai ++ [one] ++ ms.drop ai = mx at hq5 eq5 l1 hX wX
  walk_at "rd"
  refine r_kTupP (sqL_of eq5) fun t5 H36 nt5 s36 et5 => ?_
  have ed36 := s36 _ _ ed35
  walk_at "rd"
  rw [List.length_map]
  refine r_closed n1 n2 (sqT_of et5) (fun w hw => s36 _ _ (hq5.2 w hw)) (by omega) (fun r hr => hW r (hX r hr)) wX (by rw [rws_len']; omega) (by omega) fun t6 H37 us6 nt6 s37 et6 hu6 eu6 => ?_
  have S37 := (S35.same s36).same s37
  walk_at "rd"
  refine ⟨.ref t6, .ref d, .tup ((rws ws).map dD), rfl, by rw [← eu6]; exact rp_rows et6 hu6, rpd S37, sz, fun H38 s38 => ?_⟩
  have S38 := S37.same s38
  -- products and inverses
  walk_at "rd"
  refine ⟨one.1, two.1, one.2, two.2, n, rfl, sqT_of (S38.hm.2 _ hone), sqT_of (S38.hm.2 _ htwo), hW _ hone', hW _ htwo', by omega, fun pr H39 npr s39 epr => ?_⟩
  have S39 := S38.same s39
  walk_at "rd"
  have pin : mulR one.2 two.2 ∈ rws us := by
    rw [eu]
    exact (cW.1.2 _).mpr (Gn.mul hR ((cW.1.2 _).mp hone') ((cW.1.2 _).mp htwo'))
  refine r_notInT S39.ht S39.hu (sqT_of epr) ?_
  walk_at "rd"
  refine r_iteNP pin ?_
  walk_at "rd"
  refine ⟨n, one.1, one.2, rfl, sqT_of (S39.hm.2 _ hone), hW _ hone', n2, fun iv H40 bs niv s40 eiv hbs einv => ?_⟩
  have S40 := S39.same s40
  walk_at "rd"
  have iin : bs ∈ rws us := by
    rw [eu]
    exact inv_in hR cW.1 hone' hbs einv
  refine r_notInT S40.ht S40.hu (sqT_of eiv) ?_
  walk_at "rd"
  refine r_iteNP iin ?_
  have s3040 : Same H30 H40 := ((((((((s31.trans s32).trans s33).trans s34).trans s35).trans s36).trans s37).trans s38).trans s39).trans s40
  have hp40 := pl_same s3040 hp30
  have bb4 := bb3.trans (Same.but s3040)
  walk_at "rd"
  refine ⟨p2, ma, n, ws, rfl, hp40, n1, n2, S40.hm, fun ov H41 b41 hp41 hov => ?_⟩
  have bb5 := bb4.trans b41
  have S41 := S26.via np2 bb5
  refine r_name ?_
  refine r_key (R := fun σ' H' => σ' = [some (.ref a), some (.ref p0), some (.int (n : Int)), some (.int size), some (.ref w), some (.int many), some (.ref l), some (.ref p), some (.ref ma), some (.ref mb), some (.ref d), some (.ref t), some (.ref p1), some (.ref o1), some (.ref ch), some (.ref p2), some (.ref one.1), some (.ref two.1), some (.int (ai : Int)), some ov, none, none] ∧ Same H41 H') (fun tb key => ?_) (fun σ' H50 hW' => ?_)
  · rcases hov with rfl | ⟨oa, r, rfl, eoa, hor, hno⟩
    · walk_at "rd"
      refine r_iteNP rfl ?_
      walk_at "rd"
      exact key _ _ ⟨rfl, Same.refl _⟩
    · walk_at "rd"
      refine r_iteNM (by intro z; cases z) ?_
      walk_at "rd"
      refine r_slR S41.hb fun q1 H42 nq1 s42 hq1 => ?_
      rw [cutT] at hq1
      walk_at "rd"
      intro q2 H43 nq2 s43 eq2
      have hq2 : LRt H43 q2 [(oa, r)] := ⟨eq2, fun w hw => by
        rw [List.mem_singleton] at hw
        subst hw
        exact s43 _ _ (s42 _ _ eoa)⟩
      walk_at "rd"
      refine r_catR (hq1.same s43) hq2 (by simp; omega) fun q3 H44 nq3 s44 hq3 => ?_
      have S44 := ((S41.same s42).same s43).same s44
      walk_at "rd"
      refine r_slR S44.hb fun q4 H45 nq4 s45 hq4 => ?_
      rw [cutD] at hq4
      walk_at "rd"
      refine r_catR (hq3.same s45) hq4 (by simp; omega) fun q5 H46 nq5 s46 hq5 => ?_
      have S46 := (S44.same s45).same s46
      have s4146 : Same H41 H46 := (((s42.trans s43).trans s44).trans s45).trans s46
      walk_at "rd"
      refine ⟨n, q5, ma, oa, ms.take ai ++ [(oa, r)] ++ ms.drop ai, ws, rws ms, r, rfl, n1, n2, hq5, by rw [lenX]; omega, S46.hm, s4146 _ _ eoa, fun x hx => ?_, ⟨wM, cW.2⟩, fun x hx => (memX _ x).mpr (.inl hx), (memX _ r).mpr (.inr rfl), hno, w7, fun H47 s47 => ?_⟩
      · rcases (memX _ x).mp hx with h | h
        · exact hMr x h
        · rw [h]; exact hor
      · walk_at "rd"
        exact key _ _ ⟨rfl, s4146.trans s47⟩
  obtain ⟨rfl, s50⟩ := hW'
  have S50 := S41.same s50
  have hp50 := pl_same s50 hp41
  walk_at "rd"
  intro lo H51 nlo s51 elo
  have hp51 := pl_same s51 hp50
  have hlo : LRt H51 lo [one, two] := ⟨elo, fun w hw => by
    rcases List.mem_cons.mp hw with rfl | hw
    · exact s51 _ _ (S50.hm.2 _ hone)
    · rw [List.mem_singleton] at hw
      subst hw
      exact s51 _ _ (S50.hm.2 _ htwo)⟩
  walk_at "rd"
  refine r_draw hp51 (by omega) (by omega) fun v9' H52 v92 v93 b52 hp52 => ?_
  have hlo52 := LRt.plN b52 hp51 hlo
  walk_at "rd"
  refine r_slR hlo52 fun dl H53 ndl s53 hdl => ?_
  have bb6 := (((bb5.trans (Same.but s50)).trans (Same.but s51)).trans b52).trans (Same.but s53)
  have S53 := S26.via np2 bb6
  have dlz := cutA_len (lo := none) (hi := some (1 + v9')) [one, two]
  walk_at "rd"
  refine ⟨n, l, ma, dl, ps, ws, cutA [one, two] none (some (1 + v9')), rfl, n1, n2, S53.hl, psz, S53.hm, hdl, by simp at dlz; omega, hR, cW, fun x hx => ?_, w7, fun H54 s54 => ?_⟩
  · obtain ⟨w, hw, rfl⟩ := List.mem_map.mp hx
    rcases List.mem_cons.mp (cutA_sub hw) with rfl | hw
    · exact hone'
    · rw [List.mem_singleton] at hw
      subst hw; exact htwo'
  have S54 := S53.same s54
  have el54 := S54.hl.1
  have ed54 := S54.hd
  walk_at "rd"
  refine r_kTupP (sqL_of el54) fun t7 H55 nt7 s55 et7 => ?_
  have ed55 := s55 _ _ ed54
  walk_at "rd"
  rw [List.length_map]
  refine r_closed n1 n2 (sqT_of et7) (fun w hw => s55 _ _ (S54.hl.2 w hw)) (by omega) hR cW (by rw [rws_len']; omega) (by omega) fun t8 H56 us8 nt8 s56 et8 hu8 eu8 => ?_
  have S56 := (S54.same s55).same s56
  walk_at "rd"
  exact ⟨.ref t8, .ref d, .tup ((rws ws).map dD), rfl, by rw [← eu8]; exact rp_rows et8 hu8, rpd S56, sz, fun H57 s57 => q H57⟩
end
end K7
end K5
end Kb
set_option Elab.async false
set_option linter.all false
set_option maxRecDepth 100000
set_option maxHeartbeats 4000000
namespace Kb
namespace K5.K7
open PySem PySem.Spec PyProof.Rows L2
theorem hu65 {A : Around} {k : Nat} (hr : Room k A) : A.units + 65 < cLine := by
  have := hr.un
  omega
def top (i : Nat) : Stmt := PySem.Challenge.pw_ringingchamber_k07_whole_closure_of_clos.main.body.getD i (.Pass ⟨0, 0, 0, 0⟩)
abbrev s_check_stage : Stmt := top 8
abbrev s_rounds : Stmt := top 9
abbrev s_times : Stmt := top 10
abbrev s_check_stages : Stmt := top 12
abbrev s_products_of : Stmt := top 13
abbrev s_closure : Stmt := top 14
abbrev s_cosets : Stmt := top 15
abbrev s_law_cell : Stmt := top 17
abbrev s_law_pool : Stmt := top 18
abbrev s_law_draw : Stmt := top 19
abbrev s_law_rounds : Stmt := top 20
abbrev s_law_times : Stmt := top 21
abbrev s_law_inverse : Stmt := top 22
abbrev s_law_row_draw : Stmt := top 23
abbrev s_law_same : Stmt := top 24
abbrev s_law_window_row : Stmt := top 25
abbrev s_law_closure : Stmt := top 26
abbrev s_law_turned : Stmt := top 27
abbrev s_law_outside : Stmt := top 28
abbrev s_law_refused : Stmt := top 29
abbrev s_law_larger : Stmt := top 30
abbrev s_law_within : Stmt := top 31
abbrev s_law : Stmt := top 32
structure Bn (mg : Str → Option Value) : Prop where
  n_ValueError : mg "ValueError" = none
  n_abs : mg "abs" = none
  n_bool : mg "bool" = none
  n_int : mg "int" = none
  n_isinstance : mg "isinstance" = none
  n_len : mg "len" = none
  n_list : mg "list" = none
  n_min : mg "min" = none
  n_range : mg "range" = none
  n_sorted : mg "sorted" = none
  n_str : mg "str" = none
  n_tuple : mg "tuple" = none
  c_SIGNS : ∃ t, mg "SIGNS" = some (.str "1234567890ET" t)
abbrev i_ChamberError : Stmt := inClass (top 1) 0
abbrev i_BadStage : Stmt := inClass (top 2) 0
abbrev i_Unlike : Stmt := inClass (top 3) 0
abbrev i_TooManyHeads : Stmt := inClass (top 4) 0
section
variable {P : Program} {w : World} {K : PySem.W.Frag} {mg : Str → Option Value} {base : Heap}
theorem sc_check_stage : FnScope N_check_stage ["stage"] (defScope s_check_stage) := ⟨rfl, rfl, rfl, by decide +kernel, rfl, by decide +kernel, by decide +kernel⟩
theorem ok_check_stage (D : At K mg "check_stage" s_check_stage) (B : Bn mg) {ec : Str → Addr} (XS : Exs K ec XN) (EX : ExAt mg ec XN) (Z_BadStage : Rz0 P w K mg base "BadStage" (ec "BadStage")) : Fn P w K mg base (L2.CX P w) 4 "check_stage" ["stage"] (sp_check_stage K ec) := by
  obtain ⟨f, fd, F, hm⟩ := D
  refine ⟨f, fd, F.okX sc_check_stage (fun vs H Q E h => len_check_stage h) (fun cdv A outer s H vs Q E hr h => ⟨t_check_stage K ec E, ?_, pure_check_stage XS h⟩), hm, F.kp, F.binds fun _ _ _ _ _ _ us hl => match us, hl with | [_], _ => rfl⟩
  have nd := sc_check_stage.nd
  exact pss_one (ps_if ((pt_not ((pt_chain (op_leU hr.units) (op_leU hr.units) (pe_int) (pv 0) ((pe_callB call_lenU (by rfl) B.n_len (by decide +kernel) (pa_cons ((pe_glob rfl B.c_SIGNS.choose_spec ⟨_, rfl⟩)) pa_nil))))))) (pss_one (ps_rz0 rfl (takes_of rfl rfl rfl rfl) Z_BadStage (hr.mono (by decide)) (by rfl))) (pss_nil))
theorem sc_rounds : FnScope N_rounds ["stage"] (defScope s_rounds) := ⟨rfl, rfl, rfl, by decide +kernel, rfl, by decide +kernel, by decide +kernel⟩
theorem ok_rounds (D : At K mg "rounds" s_rounds) (B : Bn mg) {ec : Str → Addr} (XS : Exs K ec XN) (EX : ExAt mg ec XN) (G_check_stage : Fn P w K mg base (L2.CX P w) 4 "check_stage" ["stage"] (sp_check_stage K ec)) : Fn P w K mg base (L2.CX P w) 5 "rounds" ["stage"] (sp_rounds K ec) := by
  obtain ⟨f, fd, F, hm⟩ := D
  refine ⟨f, fd, F.okX sc_rounds (fun vs H Q E h => len_rounds h) (fun cdv A outer s H vs Q E hr h => ⟨t_rounds K ec E, ?_, pure_rounds XS h⟩), hm, F.kp, F.binds fun _ _ _ _ _ _ us hl => match us, hl with | [_], _ => rfl⟩
  have nd := sc_rounds.nd
  exact pss_cons (ps_expr ((pe_callW (takes_of rfl rfl rfl rfl) G_check_stage (hr.mono (by decide)) (by rfl) (pa_cons (pv 0) pa_nil))))
      (pss_one (ps_ret ((pe_tupRg rfl (by rfl) B.n_tuple (prg_2 (by rfl) B.n_range (pe_int) ((pe_op op_addU (pv 0) (pe_int))))))))
theorem sc_times : FnScope N_times ["first", "second"] (defScope s_times) := ⟨rfl, rfl, rfl, by decide +kernel, rfl, by decide +kernel, by decide +kernel⟩
theorem ok_times (D : At K mg "times" s_times) (B : Bn mg) {ec : Str → Addr} (XS : Exs K ec XN) (EX : ExAt mg ec XN) (Z_Unlike : Rz0 P w K mg base "Unlike" (ec "Unlike")) : Fn P w K mg base (L2.CX P w) 4 "times" ["first", "second"] (sp_times K ec) := by
  obtain ⟨f, fd, F, hm⟩ := D
  refine ⟨f, fd, F.okX sc_times (fun vs H Q E h => len_times h) (fun cdv A outer s H vs Q E hr h => ⟨t_times K ec E, ?_, pure_times XS h⟩), hm, F.kp, F.binds fun _ _ _ _ _ _ us hl => match us, hl with | [_, _], _ => rfl⟩
  have nd := sc_times.nd
  exact pss_cons (ps_if ((pt_cmpR (op_neU hr.units) ((pe_callB call_lenU (by rfl) B.n_len (by decide +kernel) (pa_cons (pv 0) pa_nil))) ((pe_callB call_lenU (by rfl) B.n_len (by decide +kernel) (pa_cons (pv 1) pa_nil))) (nomark _))) (pss_one (ps_rz0 rfl (takes_of rfl rfl rfl rfl) Z_Unlike (hr.mono (by decide)) (by rfl))) (pss_nil))
      (pss_one (ps_ret ((pe_tupP (by rfl) B.n_tuple ((pe_lc (own := [("place", 2)]) (g := (gName 2)) (tt := tYes) rfl nd ((pi_seqU (pv 1))) (blkOk_by (N := (N_times : List Str)) (sc := defScope s_times) (by decide +kernel)) (fun _ _ _ _ _ => (pg_name (i := 2) nd rfl (Or.inl rfl))) (fun _ _ _ _ _ => pts_nil) (fun _ _ _ _ _ => (pe_ix ix_seq (pv 0) ((pe_op op_subU (pv 2) (pe_int))) (fun _ _ => rfl)))))))))
theorem sc_check_stages : FnScope N_check_stages ["stage", "rows"] (defScope s_check_stages) := ⟨rfl, rfl, rfl, by decide +kernel, rfl, by decide +kernel, by decide +kernel⟩
theorem ok_check_stages (D : At K mg "check_stages" s_check_stages) (B : Bn mg) {ec : Str → Addr} (XS : Exs K ec XN) (EX : ExAt mg ec XN) (Z_Unlike : Rz0 P w K mg base "Unlike" (ec "Unlike")) : Fn P w K mg base (L2.CX P w) 4 "check_stages" ["stage", "rows"] (sp_check_stages K ec) := by
  obtain ⟨f, fd, F, hm⟩ := D
  refine ⟨f, fd, F.okX sc_check_stages (fun vs H Q E h => len_check_stages h) (fun cdv A outer s H vs Q E hr h => ⟨t_check_stages K ec E, ?_, pure_check_stages XS h⟩), hm, F.kp, F.binds fun _ _ _ _ _ _ us hl => match us, hl with | [_, _], _ => rfl⟩
  have nd := sc_check_stages.nd
  exact pss_one (ps_for (passes_of rfl) rfl (pi_seqU (pv 1)) (pg_name (i := 2) nd rfl (Or.inl rfl)) (pss_one (ps_if ((pt_cmpR (op_neU hr.units) ((pe_callB call_lenU (by rfl) B.n_len (by decide +kernel) (pa_cons (pv 2) pa_nil))) (pv 0) (nomark _))) (pss_one (ps_rz0 rfl (takes_of rfl rfl rfl rfl) Z_Unlike (hr.mono (by decide)) (by rfl))) (pss_nil))))
theorem sc_products_of : FnScope N_products_of ["stage", "movers", "most"] (defScope s_products_of) := ⟨rfl, rfl, rfl, by decide +kernel, rfl, by decide +kernel, by decide +kernel⟩
theorem ok_products_of (D : At K mg "products_of" s_products_of) (B : Bn mg) {ec : Str → Addr} (XS : Exs K ec XN) (EX : ExAt mg ec XN) (G_rounds : Fn P w K mg base (L2.CX P w) 5 "rounds" ["stage"] (sp_rounds K ec)) (G_times : Fn P w K mg base (L2.CX P w) 4 "times" ["first", "second"] (sp_times K ec)) (Z_TooManyHeads : Rz1 P w K mg base "TooManyHeads" "most" (ec "TooManyHeads")) : Fn P w K mg base (L2.CX P w) 6 "products_of" ["stage", "movers", "most"] (sp_products_of K ec) := by
  obtain ⟨f, fd, F, hm⟩ := D
  refine ⟨f, fd, F.okX sc_products_of (fun vs H Q E h => len_products_of h) (fun cdv A outer s H vs Q E hr h => ⟨t_products_of K ec E, ?_, pure_products_of XS h⟩), hm, F.kp, F.binds fun _ _ _ _ _ _ us hl => match us, hl with | [_, _, _], _ => rfl⟩
  have nd := sc_products_of.nd
  exact pss_cons (ps_set (i := 3) nd rfl (Or.inl rfl) ((pe_lst (pa_cons ((pe_callW (takes_of rfl rfl rfl rfl) G_rounds (hr.mono (by decide)) (by rfl) (pa_cons (pv 0) pa_nil))) pa_nil))))
      (pss_cons (ps_set (i := 4) nd rfl (Or.inl rfl) ((pe_dispT (hu_of hr) ((pe_ix ix_seq (pv 3) (pe_int) (fun _ _ => rfl))) (pe_bl))))
      (pss_cons (ps_set (i := 5) nd rfl (Or.inl rfl) (pe_int))
      (pss_cons (ps_while (passes_of rfl) ((pt_cmpR (op_ltU hr.units) (pv 5) ((pe_callB call_lenU (by rfl) B.n_len (by decide +kernel) (pa_cons (pv 3) pa_nil))) (nomark _))) (pss_cons (ps_for (passes_of rfl) rfl (pi_seqU (pv 1)) (pg_name (i := 6) nd rfl (Or.inl rfl)) (pss_cons (ps_set (i := 7) nd rfl (Or.inl rfl) ((pe_callW (takes_of rfl rfl rfl rfl) G_times (hr.mono (by decide)) (by rfl) (pa_cons ((pe_ix ix_seq (pv 3) (pv 5) (fun _ _ => rfl))) (pa_cons (pv 6) pa_nil)))))
      (pss_one (ps_if ((pt_cmp (pc_dnotin (hu_of hr) (pv 7) (pv 4)))) (pss_cons (ps_if ((pt_cmpR (op_eqU hr.units) ((pe_callB call_lenU (by rfl) B.n_len (by decide +kernel) (pa_cons (pv 3) pa_nil))) (pv 2) (nomark _))) (pss_one (ps_rz1 rfl (takes_of rfl rfl rfl rfl) Z_TooManyHeads (hr.mono (by decide)) (by rfl) (pv 2))) (pss_nil))
      (pss_cons (ps_dput (hu_of hr) (pv 4) (pv 7) (pe_bl) rfl)
      (pss_one (ps_expr ((pe_bm PySem.F.plainAttrs_list PySem.F.slot_list_append PySem.F.type_list_append mt_append (pv 3) (pa_cons (pv 7) pa_nil))))))) (pss_nil)))))
      (pss_one (ps_aug (i := 5) nd rfl (Or.inl rfl) (pe_int) ip_add))))
      (pss_one (ps_ret (pv 3))))))
theorem sc_closure : FnScope N_closure ["stage", "rows", "most"] (defScope s_closure) := ⟨rfl, rfl, rfl, by decide +kernel, rfl, by decide +kernel, by decide +kernel⟩
theorem ok_closure (D : At K mg "closure" s_closure) (B : Bn mg) {ec : Str → Addr} (XS : Exs K ec XN) (EX : ExAt mg ec XN) (G_check_stage : Fn P w K mg base (L2.CX P w) 4 "check_stage" ["stage"] (sp_check_stage K ec)) (G_check_stages : Fn P w K mg base (L2.CX P w) 4 "check_stages" ["stage", "rows"] (sp_check_stages K ec)) (G_products_of : Fn P w K mg base (L2.CX P w) 6 "products_of" ["stage", "movers", "most"] (sp_products_of K ec)) : Fn P w K mg base (L2.CX P w) 7 "closure" ["stage", "rows", "most"] (sp_closure K ec) := by
  obtain ⟨f, fd, F, hm⟩ := D
  refine ⟨f, fd, F.okX sc_closure (fun vs H Q E h => len_closure h) (fun cdv A outer s H vs Q E hr h => ⟨t_closure K ec E, ?_, pure_closure XS h⟩), hm, F.kp, F.binds fun _ _ _ _ _ _ us hl => match us, hl with | [_, _, _], _ => rfl⟩
  have nd := sc_closure.nd
  exact pss_cons (ps_expr ((pe_callW (takes_of rfl rfl rfl rfl) G_check_stage (hr.mono (by decide)) (by rfl) (pa_cons (pv 0) pa_nil))))
      (pss_cons (ps_expr ((pe_callW (takes_of rfl rfl rfl rfl) G_check_stages (hr.mono (by decide)) (by rfl) (pa_cons (pv 0) (pa_cons (pv 1) pa_nil)))))
      (pss_cons (ps_set (i := 3) nd rfl (Or.inl rfl) ((pe_lst pa_nil)))
      (pss_cons (ps_set (i := 4) nd rfl (Or.inl rfl) ((pe_callW (takes_of rfl rfl rfl rfl) G_products_of (hr.mono (by decide)) (by rfl) (pa_cons (pv 0) (pa_cons (pv 3) (pa_cons (pv 2) pa_nil))))))
      (pss_cons (ps_for (passes_of rfl) rfl (pi_seqU (pv 1)) (pg_name (i := 5) nd rfl (Or.inl rfl)) (pss_one (ps_if ((pt_cmpR (op_notInD (hu65 hr)) (pv 5) (pv 4) (by with_unfolding_all rfl))) (pss_cons (ps_expr ((pe_bm PySem.F.plainAttrs_list PySem.F.slot_list_append PySem.F.type_list_append mt_append (pv 3) (pa_cons (pv 5) pa_nil))))
      (pss_one (ps_set (i := 4) nd rfl (Or.inl rfl) ((pe_callW (takes_of rfl rfl rfl rfl) G_products_of (hr.mono (by decide)) (by rfl) (pa_cons (pv 0) (pa_cons (pv 3) (pa_cons (pv 2) pa_nil)))))))) (pss_nil))))
      (pss_one (ps_ret ((pe_tupP (by rfl) B.n_tuple ((pe_callB (cr_sortRows hr.units) (by rfl) B.n_sorted (by decide +kernel) (pa_cons (pv 4) pa_nil)))))))))))
theorem sc_cosets : FnScope N_cosets ["stage", "rows", "inner", "most"] (defScope s_cosets) := ⟨rfl, rfl, rfl, by decide +kernel, rfl, by decide +kernel, by decide +kernel⟩
theorem ok_cosets (D : At K mg "cosets" s_cosets) (B : Bn mg) {ec : Str → Addr} (XS : Exs K ec XN) (EX : ExAt mg ec XN) (G_closure : Fn P w K mg base (L2.CX P w) 7 "closure" ["stage", "rows", "most"] (sp_closure K ec)) (G_times : Fn P w K mg base (L2.CX P w) 4 "times" ["first", "second"] (sp_times K ec)) : Fn P w K mg base (L2.CX P w) 8 "cosets" ["stage", "rows", "inner", "most"] (sp_cosets K ec) := by
  obtain ⟨f, fd, F, hm⟩ := D
  refine ⟨f, fd, F.okX sc_cosets (fun vs H Q E h => len_cosets h) (fun cdv A outer s H vs Q E hr h => ⟨t_cosets K ec E, ?_, pure_cosets XS h⟩), hm, F.kp, F.binds fun _ _ _ _ _ _ us hl => match us, hl with | [_, _, _, _], _ => rfl⟩
  have nd := sc_cosets.nd
  exact pss_cons (ps_set (i := 4) nd rfl (Or.inl rfl) ((pe_callW (takes_of rfl rfl rfl rfl) G_closure (hr.mono (by decide)) (by rfl) (pa_cons (pv 0) (pa_cons ((pe_op op_addU (pv 1) (pv 2))) (pa_cons (pv 3) pa_nil))))))
      (pss_cons (ps_set (i := 5) nd rfl (Or.inl rfl) ((pe_callW (takes_of rfl rfl rfl rfl) G_closure (hr.mono (by decide)) (by rfl) (pa_cons (pv 0) (pa_cons (pv 2) (pa_cons (pv 3) pa_nil))))))
      (pss_cons (ps_set (i := 6) nd rfl (Or.inl rfl) pe_dnewT)
      (pss_cons (ps_set (i := 7) nd rfl (Or.inl rfl) ((pe_lst pa_nil)))
      (pss_cons (ps_for (passes_of rfl) rfl (pi_seqU (pv 4)) (pg_name (i := 8) nd rfl (Or.inr rfl)) (pss_one (ps_if ((pt_cmp (pc_dnotin (hu_of hr) (pv 8) (pv 6)))) (pss_cons (ps_set (i := 9) nd rfl (Or.inl rfl) ((pe_tupP (by rfl) B.n_tuple ((pe_callB (cr_sortRows hr.units) (by rfl) B.n_sorted (by decide +kernel) (pa_cons ((pe_lc (own := [("member", 10)]) (g := (gName 10)) (tt := tYes) rfl nd ((pi_seqU (pv 5))) (blkOk_by (N := (N_cosets : List Str)) (sc := defScope s_cosets) (by decide +kernel)) (fun _ _ _ _ _ => (pg_name (i := 10) nd rfl (Or.inl rfl))) (fun _ _ _ _ _ => pts_nil) (fun _ _ _ _ _ => (pe_callF G_times (hr.mono (by decide)) (by rfl) passL (pa_cons (pv 8) (pa_cons (pv 10) pa_nil)))))) pa_nil))))))
      (pss_cons (ps_for (passes_of rfl) rfl (pi_seqU (pv 9)) (pg_name (i := 10) nd rfl (Or.inl rfl)) (pss_one (ps_dput (hu_of hr) (pv 6) (pv 10) (pe_bl) rfl)))
      (pss_one (ps_expr ((pe_bm PySem.F.plainAttrs_list PySem.F.slot_list_append PySem.F.type_list_append mt_append (pv 7) (pa_cons (pv 9) pa_nil))))))) (pss_nil))))
      (pss_one (ps_ret ((pe_tupP (by rfl) B.n_tuple (pv 7)))))))))
theorem sc_law_cell : FnScope N_law_cell ["script", "k"] (defScope s_law_cell) := ⟨rfl, rfl, rfl, by decide +kernel, rfl, by decide +kernel, by decide +kernel⟩
theorem ok_law_cell (D : At K mg "_law_cell" s_law_cell) (B : Bn mg) : Fn P w K mg base CX0 1 "_law_cell" ["script", "k"] (sp_law_cell K) := by
  obtain ⟨f, fd, F, hm⟩ := D
  refine ⟨f, fd, F.ok sc_law_cell (fun vs H Q E h => len_law_cell h) (fun cdv A outer s H vs Q E hr h => ⟨t_law_cell K, ?_, pure_law_cell h⟩), hm, F.kp, F.binds fun _ _ _ _ _ _ us hl => match us, hl with | [_, _], _ => rfl⟩
  have nd := sc_law_cell.nd
  exact pss_cons (ps_if ((pt_cmpR (op_ltU hr.units) (pv 1) ((pe_callB call_lenU (by rfl) B.n_len (by decide +kernel) (pa_cons (pv 0) pa_nil))) (nomark _))) (pss_one (ps_ret ((pe_callB call_absU (by rfl) B.n_abs (by decide +kernel) (pa_cons ((pe_callTy call_intU (by rfl) B.n_int (by decide +kernel) (pa_cons ((pe_ix ix_seq (pv 0) (pv 1) (fun _ _ => rfl))) pa_nil))) pa_nil))))) (pss_nil))
      (pss_cons (ps_if ((pt_cmpR (op_eqU hr.units) ((pe_callB call_lenU (by rfl) B.n_len (by decide +kernel) (pa_cons (pv 0) pa_nil))) (pe_int) (nomark _))) (pss_one (ps_ret (pe_int))) (pss_nil))
      (pss_one (ps_ret ((pe_op op_modU ((pe_callB call_absU (by rfl) B.n_abs (by decide +kernel) (pa_cons ((pe_callTy call_intU (by rfl) B.n_int (by decide +kernel) (pa_cons ((pe_ix ix_seq (pv 0) ((pe_op op_modU ((pe_callTy call_intU (by rfl) B.n_int (by decide +kernel) (pa_cons (pv 1) pa_nil))) ((pe_callB call_lenU (by rfl) B.n_len (by decide +kernel) (pa_cons (pv 0) pa_nil))))) (fun _ _ => rfl))) pa_nil))) pa_nil))) (pe_int))))))
theorem sc_law_pool : FnScope N_law_pool ["script", "k"] (defScope s_law_pool) := ⟨rfl, rfl, rfl, by decide +kernel, rfl, by decide +kernel, by decide +kernel⟩
theorem ok_law_pool (D : At K mg "_law_pool" s_law_pool) (B : Bn mg) (G_law_cell : Fn P w K mg base CX0 1 "_law_cell" ["script", "k"] (sp_law_cell K)) : Fn P w K mg base CX0 2 "_law_pool" ["script", "k"] (sp_law_pool K) := by
  obtain ⟨f, fd, F, hm⟩ := D
  refine ⟨f, fd, F.ok sc_law_pool (fun vs H Q E h => len_law_pool h) (fun cdv A outer s H vs Q E hr h => ⟨t_law_pool K, ?_, pure_law_pool h⟩), hm, F.kp, F.binds fun _ _ _ _ _ _ us hl => match us, hl with | [_, _], _ => rfl⟩
  have nd := sc_law_pool.nd
  exact pss_cons (ps_set (i := 2) nd rfl (Or.inl rfl) ((pe_callF G_law_cell (hr.mono (by decide)) (by rfl) pass0 (pa_cons (pv 0) (pa_cons (pv 1) pa_nil)))))
      (pss_cons (ps_if ((pt_cmpR op_geU (pv 2) ((pe_op op_powU (pe_int) (pe_int))) (nomark _))) (pss_one (ps_ret ((pe_lst (pa_cons ((pe_op op_subU (pv 2) ((pe_op op_powU (pe_int) (pe_int))))) (pa_cons ((pe_op op_modU ((pe_callTy call_intU (by rfl) B.n_int (by decide +kernel) (pa_cons (pv 2) pa_nil))) (pe_int))) (pa_cons (pe_int) pa_nil))))))) (pss_nil))
      (pss_one (ps_ret ((pe_lst (pa_cons (pe_int) (pa_cons ((pe_op op_addU (pv 2) ((pe_op op_mulU (pe_int) ((pe_op op_addU (pv 1) (pe_int))))))) (pa_cons (pe_int) pa_nil))))))))
theorem sc_law_draw : FnScope N_law_draw ["pool", "many"] (defScope s_law_draw) := ⟨rfl, rfl, rfl, by decide +kernel, rfl, by decide +kernel, by decide +kernel⟩
theorem ok_law_draw (D : At K mg "_law_draw" s_law_draw) (B : Bn mg) : Fn P w K mg base CX0 1 "_law_draw" ["pool", "many"] (sp_law_draw K) := by
  obtain ⟨f, fd, F, hm⟩ := D
  refine ⟨f, fd, F.ok sc_law_draw (fun vs H Q E h => len_law_draw h) (fun cdv A outer s H vs Q E hr h => ⟨t_law_draw K, ?_, pure_law_draw h⟩), hm, F.kp, F.binds fun _ _ _ _ _ _ us hl => match us, hl with | [_, _], _ => rfl⟩
  have nd := sc_law_draw.nd
  exact pss_cons (ps_asg ((pe_op op_addU ((pe_ix ix_seq (pv 0) (pe_int) (fun _ _ => rfl))) (pe_int))) (pg_sub (pv 0) (pe_int) set_list))
      (pss_cons (ps_if ((pt_cmpR op_gtU ((pe_ix ix_seq (pv 0) (pe_int) (fun _ _ => rfl))) (pe_int) (nomark _))) (pss_cons (ps_set (i := 2) nd rfl (Or.inl rfl) ((pe_op op_modU ((pe_callTy call_intU (by rfl) B.n_int (by decide +kernel) (pa_cons ((pe_ix ix_seq (pv 0) (pe_int) (fun _ _ => rfl))) pa_nil))) (pv 1))))
      (pss_cons (ps_asg ((pe_op op_fdivU ((pe_ix ix_seq (pv 0) (pe_int) (fun _ _ => rfl))) (pv 1))) (pg_sub (pv 0) (pe_int) set_list))
      (pss_one (ps_ret (pv 2))))) (pss_nil))
      (pss_cons (ps_set (i := 3) nd rfl (Or.inl rfl) ((pe_op op_modU ((pe_callTy call_intU (by rfl) B.n_int (by decide +kernel) (pa_cons ((pe_op op_addU ((pe_ix ix_seq (pv 0) (pe_int) (fun _ _ => rfl))) ((pe_op op_mulU (pe_int) ((pe_ix ix_seq (pv 0) (pe_int) (fun _ _ => rfl))))))) pa_nil))) (pe_int))))
      (pss_cons (ps_set (i := 3) nd rfl (Or.inl rfl) ((pe_op op_modU ((pe_callTy call_intU (by rfl) B.n_int (by decide +kernel) (pa_cons ((pe_op op_addU ((pe_op op_addU ((pe_op op_mulU (pv 3) (pv 3))) ((pe_op op_mulU (pe_int) ((pe_ix ix_seq (pv 0) (pe_int) (fun _ _ => rfl))))))) ((pe_ix ix_seq (pv 0) (pe_int) (fun _ _ => rfl))))) pa_nil))) (pe_int))))
      (pss_cons (ps_set (i := 3) nd rfl (Or.inl rfl) ((pe_op op_modU ((pe_callTy call_intU (by rfl) B.n_int (by decide +kernel) (pa_cons ((pe_op op_addU ((pe_op op_mulU (pv 3) (pv 3))) (pe_int))) pa_nil))) (pe_int))))
      (pss_one (ps_ret ((pe_op op_modU ((pe_callTy call_intU (by rfl) B.n_int (by decide +kernel) (pa_cons ((pe_op op_fdivU (pv 3) (pe_int))) pa_nil))) (pv 1)))))))))
theorem sc_law_rounds : FnScope N_law_rounds ["stage"] (defScope s_law_rounds) := ⟨rfl, rfl, rfl, by decide +kernel, rfl, by decide +kernel, by decide +kernel⟩
theorem ok_law_rounds (D : At K mg "_law_rounds" s_law_rounds) (B : Bn mg) : Fn P w K mg base CX0 1 "_law_rounds" ["stage"] (sp_law_rounds K) := by
  obtain ⟨f, fd, F, hm⟩ := D
  refine ⟨f, fd, F.ok sc_law_rounds (fun vs H Q E h => len_law_rounds h) (fun cdv A outer s H vs Q E hr h => ⟨t_law_rounds K, ?_, pure_law_rounds h⟩), hm, F.kp, F.binds fun _ _ _ _ _ _ us hl => match us, hl with | [_], _ => rfl⟩
  have nd := sc_law_rounds.nd
  exact pss_one (ps_ret ((pe_tupP (by rfl) B.n_tuple ((pe_listRg rfl (by rfl) B.n_list (prg_2 (by rfl) B.n_range (pe_int) ((pe_op op_addU (pv 0) (pe_int)))))))))
theorem sc_law_times : FnScope N_law_times ["first", "second"] (defScope s_law_times) := ⟨rfl, rfl, rfl, by decide +kernel, rfl, by decide +kernel, by decide +kernel⟩
theorem ok_law_times (D : At K mg "_law_times" s_law_times) (B : Bn mg) : Fn P w K mg base CX0 1 "_law_times" ["first", "second"] (sp_law_times K) := by
  obtain ⟨f, fd, F, hm⟩ := D
  refine ⟨f, fd, F.ok sc_law_times (fun vs H Q E h => len_law_times h) (fun cdv A outer s H vs Q E hr h => ⟨t_law_times K, ?_, pure_law_times h⟩), hm, F.kp, F.binds fun _ _ _ _ _ _ us hl => match us, hl with | [_, _], _ => rfl⟩
  have nd := sc_law_times.nd
  exact pss_one (ps_ret ((pe_tupP (by rfl) B.n_tuple ((pe_lc (own := [("bell", 2)]) (g := (gName 2)) (tt := tYes) rfl nd ((pi_seqU (pv 1))) (blkOk_by (N := (N_law_times : List Str)) (sc := defScope s_law_times) (by decide +kernel)) (fun _ _ _ _ _ => (pg_name (i := 2) nd rfl (Or.inl rfl))) (fun _ _ _ _ _ => pts_nil) (fun _ _ _ _ _ => (pe_ix ix_seq (pv 0) ((pe_op op_subU (pv 2) (pe_int))) (fun _ _ => rfl))))))))
theorem sc_law_inverse : FnScope N_law_inverse ["row"] (defScope s_law_inverse) := ⟨rfl, rfl, rfl, by decide +kernel, rfl, by decide +kernel, by decide +kernel⟩
theorem ok_law_inverse (D : At K mg "_law_inverse" s_law_inverse) (B : Bn mg) : Fn P w K mg base CX0 1 "_law_inverse" ["row"] (sp_law_inverse K) := by
  obtain ⟨f, fd, F, hm⟩ := D
  refine ⟨f, fd, F.ok sc_law_inverse (fun vs H Q E h => len_law_inverse h) (fun cdv A outer s H vs Q E hr h => ⟨t_law_inverse K, ?_, pure_law_inverse h⟩), hm, F.kp, F.binds fun _ _ _ _ _ _ us hl => match us, hl with | [_], _ => rfl⟩
  have nd := sc_law_inverse.nd
  exact pss_cons (ps_set (i := 1) nd rfl (Or.inl rfl) ((pe_op op_mulU ((pe_lst (pa_cons (pe_int) pa_nil))) ((pe_callB call_lenU (by rfl) B.n_len (by decide +kernel) (pa_cons (pv 0) pa_nil))))))
      (pss_cons (ps_for PassesOwn.never rfl (pi_range1 (by rfl) B.n_range (pa_cons ((pe_callB call_lenU (by rfl) B.n_len (by decide +kernel) (pa_cons (pv 0) pa_nil))) pa_nil)) (pg_name (i := 2) nd rfl (Or.inl rfl)) (pss_one (ps_asg ((pe_op op_addU (pv 2) (pe_int))) (pg_sub (pv 1) ((pe_op op_subU ((pe_ix ix_seq (pv 0) (pv 2) (fun _ _ => rfl))) (pe_int))) set_list))))
      (pss_one (ps_ret ((pe_tupP (by rfl) B.n_tuple (pv 1))))))
theorem sc_law_row_draw : FnScope N_law_row_draw ["pool", "stage"] (defScope s_law_row_draw) := ⟨rfl, rfl, rfl, by decide +kernel, rfl, by decide +kernel, by decide +kernel⟩
theorem ok_law_row_draw (D : At K mg "_law_row_draw" s_law_row_draw) (B : Bn mg) (G_law_draw : Fn P w K mg base CX0 1 "_law_draw" ["pool", "many"] (sp_law_draw K)) : Fn P w K mg base CX0 2 "_law_row_draw" ["pool", "stage"] (sp_law_row_draw K) := by
  obtain ⟨f, fd, F, hm⟩ := D
  refine ⟨f, fd, F.ok sc_law_row_draw (fun vs H Q E h => len_law_row_draw h) (fun cdv A outer s H vs Q E hr h => ⟨t_law_row_draw K, ?_, pure_law_row_draw h⟩), hm, F.kp, F.binds fun _ _ _ _ _ _ us hl => match us, hl with | [_, _], _ => rfl⟩
  have nd := sc_law_row_draw.nd
  exact pss_cons (ps_set (i := 2) nd rfl (Or.inl rfl) ((pe_listRg rfl (by rfl) B.n_list (prg_2 (by rfl) B.n_range (pe_int) ((pe_op op_addU (pv 1) (pe_int)))))))
      (pss_cons (ps_set (i := 3) nd rfl (Or.inl rfl) ((pe_lst pa_nil)))
      (pss_cons (ps_for PassesOwn.never rfl (pi_range1 (by rfl) B.n_range (pa_cons (pv 1) pa_nil)) (pg_name (i := 4) nd rfl (Or.inl rfl)) (pss_one (ps_expr ((pe_bm PySem.F.plainAttrs_list PySem.F.slot_list_append PySem.F.type_list_append mt_append (pv 3) (pa_cons ((pe_bm PySem.F.plainAttrs_list PySem.F.slot_list_pop PySem.F.type_list_pop mt_popAt (pv 2) (pa_cons ((pe_callF G_law_draw (hr.mono (by decide)) (by rfl) pass0 (pa_cons (pv 0) (pa_cons ((pe_callB call_lenU (by rfl) B.n_len (by decide +kernel) (pa_cons (pv 2) pa_nil))) pa_nil)))) pa_nil))) pa_nil))))))
      (pss_one (ps_ret ((pe_tupP (by rfl) B.n_tuple (pv 3)))))))
theorem sc_law_same : FnScope N_law_same ["got", "due"] (defScope s_law_same) := ⟨rfl, rfl, rfl, by decide +kernel, rfl, by decide +kernel, by decide +kernel⟩
theorem ok_law_same (D : At K mg "_law_same" s_law_same) (B : Bn mg) : Fn P w K mg base CX0 1 "_law_same" ["got", "due"] (sp_law_same K) := by
  obtain ⟨f, fd, F, hm⟩ := D
  refine ⟨f, fd, F.ok sc_law_same (fun vs H Q E h => len_law_same h) (fun cdv A outer s H vs Q E hr h => ⟨t_law_same K, ?_, pure_law_same h⟩), hm, F.kp, F.binds fun _ _ _ _ _ _ us hl => match us, hl with | [_, _], _ => rfl⟩
  have nd := sc_law_same.nd
  exact pss_cons (ps_set (i := 2) nd rfl (Or.inl rfl) ((pe_lst (pa_cons ((pe_lst (pa_cons (pv 0) (pa_cons (pv 1) pa_nil)))) pa_nil))))
      (pss_cons (ps_while PassesOwn.never ((pt_truU (pv 2) (by intro _; rfl))) (pss_cons (ps_set (i := 3) nd rfl (Or.inl rfl) ((pe_bm0 PySem.F.plainAttrs_list PySem.F.slot_list_pop PySem.F.type_list_pop mt_pop (pv 2))))
      (pss_one (ps_if ((pt_truU ((pe_callB call_isi (by rfl) B.n_isinstance (by decide +kernel) (pa_cons ((pe_ix ix_seq (pv 3) (pe_int) (fun _ _ => rfl))) (pa_cons ((pe_bltn (by rfl) B.n_tuple (by decide +kernel) rfl)) pa_nil)))) (by intro _; rfl))) (pss_cons (ps_if ((PW.pt (pw_or ((pt_not ((pt_truU ((pe_callB call_isi (by rfl) B.n_isinstance (by decide +kernel) (pa_cons ((pe_ix ix_seq (pv 3) (pe_int) (fun _ _ => rfl))) (pa_cons ((pe_bltn (by rfl) B.n_tuple (by decide +kernel) rfl)) pa_nil)))) (by intro _; rfl))))) (pw_or1 ((pt_cmpR (op_neU hr.units) ((pe_callB call_lenU (by rfl) B.n_len (by decide +kernel) (pa_cons ((pe_ix ix_seq (pv 3) (pe_int) (fun _ _ => rfl))) pa_nil))) ((pe_callB call_lenU (by rfl) B.n_len (by decide +kernel) (pa_cons ((pe_ix ix_seq (pv 3) (pe_int) (fun _ _ => rfl))) pa_nil))) (nomark _))))))) (pss_one (ps_ret (pe_bl))) (pss_nil))
      (pss_one (ps_for PassesOwn.never rfl (pi_range1 (by rfl) B.n_range (pa_cons ((pe_callB call_lenU (by rfl) B.n_len (by decide +kernel) (pa_cons ((pe_ix ix_seq (pv 3) (pe_int) (fun _ _ => rfl))) pa_nil))) pa_nil)) (pg_name (i := 4) nd rfl (Or.inl rfl)) (pss_one (ps_expr ((pe_bm PySem.F.plainAttrs_list PySem.F.slot_list_append PySem.F.type_list_append mt_append (pv 2) (pa_cons ((pe_lst (pa_cons ((pe_ix ix_seq ((pe_ix ix_seq (pv 3) (pe_int) (fun _ _ => rfl))) (pv 4) (fun _ _ => rfl))) (pa_cons ((pe_ix ix_seq ((pe_ix ix_seq (pv 3) (pe_int) (fun _ _ => rfl))) (pv 4) (fun _ _ => rfl))) pa_nil)))) pa_nil)))))))) (pss_one (ps_if ((pt_truU ((pe_callB call_isi (by rfl) B.n_isinstance (by decide +kernel) (pa_cons ((pe_ix ix_seq (pv 3) (pe_int) (fun _ _ => rfl))) (pa_cons ((pe_bltn (by rfl) B.n_bool (by decide +kernel) rfl)) pa_nil)))) (by intro _; rfl))) (pss_one (ps_if ((PW.pt (pw_or ((pt_not ((pt_truU ((pe_callB call_isi (by rfl) B.n_isinstance (by decide +kernel) (pa_cons ((pe_ix ix_seq (pv 3) (pe_int) (fun _ _ => rfl))) (pa_cons ((pe_bltn (by rfl) B.n_bool (by decide +kernel) rfl)) pa_nil)))) (by intro _; rfl))))) (pw_or1 ((pt_cmpR (op_neU hr.units) ((pe_ix ix_seq (pv 3) (pe_int) (fun _ _ => rfl))) ((pe_ix ix_seq (pv 3) (pe_int) (fun _ _ => rfl))) (nomark _))))))) (pss_one (ps_ret (pe_bl))) (pss_nil))) (pss_one (ps_if ((pt_truU ((pe_callB call_isi (by rfl) B.n_isinstance (by decide +kernel) (pa_cons ((pe_ix ix_seq (pv 3) (pe_int) (fun _ _ => rfl))) (pa_cons ((pe_bltn (by rfl) B.n_int (by decide +kernel) rfl)) pa_nil)))) (by intro _; rfl))) (pss_one (ps_if ((PW.pt (pw_or ((pt_not ((pt_truU ((pe_callB call_isi (by rfl) B.n_isinstance (by decide +kernel) (pa_cons ((pe_ix ix_seq (pv 3) (pe_int) (fun _ _ => rfl))) (pa_cons ((pe_bltn (by rfl) B.n_int (by decide +kernel) rfl)) pa_nil)))) (by intro _; rfl))))) (pw_or ((pt_truU ((pe_callB call_isi (by rfl) B.n_isinstance (by decide +kernel) (pa_cons ((pe_ix ix_seq (pv 3) (pe_int) (fun _ _ => rfl))) (pa_cons ((pe_bltn (by rfl) B.n_bool (by decide +kernel) rfl)) pa_nil)))) (by intro _; rfl))) (pw_or1 ((pt_cmpR (op_neU hr.units) ((pe_ix ix_seq (pv 3) (pe_int) (fun _ _ => rfl))) ((pe_ix ix_seq (pv 3) (pe_int) (fun _ _ => rfl))) (nomark _)))))))) (pss_one (ps_ret (pe_bl))) (pss_nil))) (pss_one (ps_if ((pt_truU ((pe_callB call_isi (by rfl) B.n_isinstance (by decide +kernel) (pa_cons ((pe_ix ix_seq (pv 3) (pe_int) (fun _ _ => rfl))) (pa_cons ((pe_bltn (by rfl) B.n_str (by decide +kernel) rfl)) pa_nil)))) (by intro _; rfl))) (pss_one (ps_if ((PW.pt (pw_or ((pt_not ((pt_truU ((pe_callB call_isi (by rfl) B.n_isinstance (by decide +kernel) (pa_cons ((pe_ix ix_seq (pv 3) (pe_int) (fun _ _ => rfl))) (pa_cons ((pe_bltn (by rfl) B.n_str (by decide +kernel) rfl)) pa_nil)))) (by intro _; rfl))))) (pw_or1 ((pt_cmpR (op_neU hr.units) ((pe_ix ix_seq (pv 3) (pe_int) (fun _ _ => rfl))) ((pe_ix ix_seq (pv 3) (pe_int) (fun _ _ => rfl))) (nomark _))))))) (pss_one (ps_ret (pe_bl))) (pss_nil))) (pss_one (ps_if ((pt_cmpR op_notNU ((pe_ix ix_seq (pv 3) (pe_int) (fun _ _ => rfl))) (pe_non) (nomark _))) (pss_one (ps_ret (pe_bl))) (pss_nil)))))))))))))
      (pss_one (ps_ret (pe_bl))))
theorem sc_law_window_row : FnScope N_law_window_row ["pool", "stage", "window"] (defScope s_law_window_row) := ⟨rfl, rfl, rfl, by decide +kernel, rfl, by decide +kernel, by decide +kernel⟩
theorem ok_law_window_row (D : At K mg "_law_window_row" s_law_window_row) (B : Bn mg) (G_law_row_draw : Fn P w K mg base CX0 2 "_law_row_draw" ["pool", "stage"] (sp_law_row_draw K)) : Fn P w K mg base CX0 3 "_law_window_row" ["pool", "stage", "window"] (sp_law_window_row K) := by
  obtain ⟨f, fd, F, hm⟩ := D
  refine ⟨f, fd, F.ok sc_law_window_row (fun vs H Q E h => len_law_window_row h) (fun cdv A outer s H vs Q E hr h => ⟨t_law_window_row K, ?_, pure_law_window_row h⟩), hm, F.kp, F.binds fun _ _ _ _ _ _ us hl => match us, hl with | [_, _, _], _ => rfl⟩
  have nd := sc_law_window_row.nd
  exact pss_cons (ps_set (i := 3) nd rfl (Or.inl rfl) ((pe_callF G_law_row_draw (hr.mono (by decide)) (by rfl) pass0 (pa_cons (pv 0) (pa_cons ((pe_callB call_lenU (by rfl) B.n_len (by decide +kernel) (pa_cons (pv 2) pa_nil))) pa_nil)))))
      (pss_cons (ps_set (i := 4) nd rfl (Or.inl rfl) ((pe_listRg rfl (by rfl) B.n_list (prg_2 (by rfl) B.n_range (pe_int) ((pe_op op_addU (pv 1) (pe_int)))))))
      (pss_cons (ps_for PassesOwn.never rfl (pi_range1 (by rfl) B.n_range (pa_cons ((pe_callB call_lenU (by rfl) B.n_len (by decide +kernel) (pa_cons (pv 2) pa_nil))) pa_nil)) (pg_name (i := 5) nd rfl (Or.inl rfl)) (pss_one (ps_asg ((pe_ix ix_seq (pv 2) ((pe_op op_subU ((pe_ix ix_seq (pv 3) (pv 5) (fun _ _ => rfl))) (pe_int))) (fun _ _ => rfl))) (pg_sub (pv 4) ((pe_op op_subU ((pe_ix ix_seq (pv 2) (pv 5) (fun _ _ => rfl))) (pe_int))) set_list))))
      (pss_one (ps_ret ((pe_tupP (by rfl) B.n_tuple (pv 4)))))))
theorem sc_law_closure : FnScope N_law_closure ["stage", "rows", "most"] (defScope s_law_closure) := ⟨rfl, rfl, rfl, by decide +kernel, rfl, by decide +kernel, by decide +kernel⟩
theorem ok_law_closure (D : At K mg "_law_closure" s_law_closure) (B : Bn mg) (G_law_rounds : Fn P w K mg base CX0 1 "_law_rounds" ["stage"] (sp_law_rounds K)) (G_law_times : Fn P w K mg base CX0 1 "_law_times" ["first", "second"] (sp_law_times K)) : Fn P w K mg base CX0 2 "_law_closure" ["stage", "rows", "most"] (sp_law_closure K) := by
  obtain ⟨f, fd, F, hm⟩ := D
  refine ⟨f, fd, F.ok sc_law_closure (fun vs H Q E h => len_law_closure h) (fun cdv A outer s H vs Q E hr h => ⟨t_law_closure K, ?_, pure_law_closure h⟩), hm, F.kp, F.binds fun _ _ _ _ _ _ us hl => match us, hl with | [_, _, _], _ => rfl⟩
  have nd := sc_law_closure.nd
  exact pss_cons (ps_set (i := 3) nd rfl (Or.inl rfl) ((pe_callF G_law_rounds (hr.mono (by decide)) (by rfl) pass0 (pa_cons (pv 0) pa_nil))))
      (pss_cons (ps_set (i := 4) nd rfl (Or.inl rfl) ((pe_lst pa_nil)))
      (pss_cons (ps_set (i := 5) nd rfl (Or.inl rfl) ((pe_lst (pa_cons (pv 3) pa_nil))))
      (pss_cons (ps_set (i := 6) nd rfl (Or.inl rfl) ((pe_dispT (hu_of hr) (pv 3) (pe_bl))))
      (pss_cons (ps_for PassesOwn.never rfl (pi_seqU (pv 1)) (pg_name (i := 7) nd rfl (Or.inl rfl)) (pss_one (ps_if ((pt_cmp (pc_dnotin (hu_of hr) (pv 7) (pv 6)))) (pss_cons (ps_expr ((pe_bm PySem.F.plainAttrs_list PySem.F.slot_list_append PySem.F.type_list_append mt_append (pv 4) (pa_cons (pv 7) pa_nil))))
      (pss_cons (ps_set (i := 5) nd rfl (Or.inl rfl) ((pe_lst (pa_cons (pv 3) pa_nil))))
      (pss_cons (ps_set (i := 6) nd rfl (Or.inl rfl) ((pe_dispT (hu_of hr) (pv 3) (pe_bl))))
      (pss_cons (ps_for PassesOwn.never rfl (pi_range1 (by rfl) B.n_range (pa_cons ((pe_op op_addU (pv 2) (pe_int))) pa_nil)) (pg_name (i := 8) nd rfl (Or.inl rfl)) (pss_one (ps_if ((pt_chain (op_ltU hr.units) (op_leU hr.units) (pv 8) ((pe_callB call_lenU (by rfl) B.n_len (by decide +kernel) (pa_cons (pv 5) pa_nil))) (pv 2))) (pss_one (ps_for PassesOwn.never rfl (pi_seqU (pv 4)) (pg_name (i := 9) nd rfl (Or.inl rfl)) (pss_cons (ps_set (i := 10) nd rfl (Or.inl rfl) ((pe_callF G_law_times (hr.mono (by decide)) (by rfl) pass0 (pa_cons (pv 9) (pa_cons ((pe_ix ix_seq (pv 5) (pv 8) (fun _ _ => rfl))) pa_nil)))))
      (pss_one (ps_if ((pt_cmp (pc_dnotin (hu_of hr) (pv 10) (pv 6)))) (pss_cons (ps_dput (hu_of hr) (pv 6) (pv 10) (pe_bl) rfl)
      (pss_one (ps_expr ((pe_bm PySem.F.plainAttrs_list PySem.F.slot_list_append PySem.F.type_list_append mt_append (pv 5) (pa_cons (pv 10) pa_nil)))))) (pss_nil)))))) (pss_nil))))
      (pss_one (ps_if ((pt_cmpR op_gtU ((pe_callB call_lenU (by rfl) B.n_len (by decide +kernel) (pa_cons (pv 5) pa_nil))) (pv 2) (nomark _))) (pss_one (ps_ret (pe_non))) (pss_nil))))))) (pss_nil))))
      (pss_one (ps_ret ((pe_lst (pa_cons ((pe_callB (cr_sortRows hr.units) (by rfl) B.n_sorted (by decide +kernel) (pa_cons (pv 5) pa_nil))) (pa_cons (pv 4) pa_nil))))))))))
theorem sc_law_turned : FnScope N_law_turned ["pool", "members"] (defScope s_law_turned) := ⟨rfl, rfl, rfl, by decide +kernel, rfl, by decide +kernel, by decide +kernel⟩
theorem ok_law_turned (D : At K mg "_law_turned" s_law_turned) (B : Bn mg) (G_law_draw : Fn P w K mg base CX0 1 "_law_draw" ["pool", "many"] (sp_law_draw K)) : Fn P w K mg base CX0 2 "_law_turned" ["pool", "members"] (sp_law_turned K) := by
  obtain ⟨f, fd, F, hm⟩ := D
  refine ⟨f, fd, F.ok sc_law_turned (fun vs H Q E h => len_law_turned h) (fun cdv A outer s H vs Q E hr h => ⟨t_law_turned K, ?_, pure_law_turned h⟩), hm, F.kp, F.binds fun _ _ _ _ _ _ us hl => match us, hl with | [_, _], _ => rfl⟩
  have nd := sc_law_turned.nd
  exact pss_cons (ps_set (i := 2) nd rfl (Or.inl rfl) ((pe_callTy call_listU (by rfl) B.n_list (by decide +kernel) (pa_cons (pv 1) pa_nil))))
      (pss_cons (ps_set (i := 3) nd rfl (Or.inl rfl) ((pe_lst pa_nil)))
      (pss_cons (ps_for PassesOwn.never rfl (pi_range1 (by rfl) B.n_range (pa_cons ((pe_callB call_lenU (by rfl) B.n_len (by decide +kernel) (pa_cons (pv 1) pa_nil))) pa_nil)) (pg_name (i := 4) nd rfl (Or.inl rfl)) (pss_one (ps_expr ((pe_bm PySem.F.plainAttrs_list PySem.F.slot_list_append PySem.F.type_list_append mt_append (pv 3) (pa_cons ((pe_bm PySem.F.plainAttrs_list PySem.F.slot_list_pop PySem.F.type_list_pop mt_popAt (pv 2) (pa_cons ((pe_callF G_law_draw (hr.mono (by decide)) (by rfl) pass0 (pa_cons (pv 0) (pa_cons ((pe_callB call_lenU (by rfl) B.n_len (by decide +kernel) (pa_cons (pv 2) pa_nil))) pa_nil)))) pa_nil))) pa_nil))))))
      (pss_one (ps_ret (pv 3)))))
theorem sc_law_outside : FnScope N_law_outside ["pool", "stage", "members"] (defScope s_law_outside) := ⟨rfl, rfl, rfl, by decide +kernel, rfl, by decide +kernel, by decide +kernel⟩
theorem ok_law_outside (D : At K mg "_law_outside" s_law_outside) (B : Bn mg) (G_law_row_draw : Fn P w K mg base CX0 2 "_law_row_draw" ["pool", "stage"] (sp_law_row_draw K)) (G_law_draw : Fn P w K mg base CX0 1 "_law_draw" ["pool", "many"] (sp_law_draw K)) : Fn P w K mg base CX0 3 "_law_outside" ["pool", "stage", "members"] (sp_law_outside K) := by
  obtain ⟨f, fd, F, hm⟩ := D
  refine ⟨f, fd, F.ok sc_law_outside (fun vs H Q E h => len_law_outside h) (fun cdv A outer s H vs Q E hr h => ⟨t_law_outside K, ?_, pure_law_outside h⟩), hm, F.kp, F.binds fun _ _ _ _ _ _ us hl => match us, hl with | [_, _, _], _ => rfl⟩
  have nd := sc_law_outside.nd
  exact pss_cons (ps_set (i := 3) nd rfl (Or.inl rfl) ((pe_callF G_law_row_draw (hr.mono (by decide)) (by rfl) pass0 (pa_cons (pv 0) (pa_cons (pv 1) pa_nil)))))
      (pss_cons (ps_if ((pt_cmpR (op_notInD (hu65 hr)) (pv 3) (pv 2) (by with_unfolding_all rfl))) (pss_one (ps_ret (pv 3))) (pss_nil))
      (pss_cons (ps_set (i := 4) nd rfl (Or.inl rfl) ((pe_callF G_law_draw (hr.mono (by decide)) (by rfl) pass0 (pa_cons (pv 0) (pa_cons (pv 1) pa_nil)))))
      (pss_cons (ps_for PassesOwn.never rfl (pi_range1 (by rfl) B.n_range (pa_cons (pv 1) pa_nil)) (pg_name (i := 5) nd rfl (Or.inl rfl)) (pss_cons (ps_set (i := 6) nd rfl (Or.inl rfl) ((pe_op op_modU ((pe_callTy call_intU (by rfl) B.n_int (by decide +kernel) (pa_cons ((pe_op op_addU (pv 4) (pv 5))) pa_nil))) (pv 1))))
      (pss_one (ps_if ((pt_cmpR (op_ltU hr.units) ((pe_op op_addU (pv 6) (pe_int))) (pv 1) (nomark _))) (pss_cons (ps_set (i := 7) nd rfl (Or.inl rfl) ((pe_listRg rfl (by rfl) B.n_list (prg_2 (by rfl) B.n_range (pe_int) ((pe_op op_addU (pv 1) (pe_int)))))))
      (pss_cons (ps_asg ((pe_op op_addU (pv 6) (pe_int))) (pg_sub (pv 7) (pv 6) set_list))
      (pss_cons (ps_asg ((pe_op op_addU (pv 6) (pe_int))) (pg_sub (pv 7) ((pe_op op_addU (pv 6) (pe_int))) set_list))
      (pss_one (ps_if ((pt_cmpR (op_notInD (hu65 hr)) ((pe_tupP (by rfl) B.n_tuple (pv 7))) (pv 2) (by with_unfolding_all rfl))) (pss_one (ps_ret ((pe_tupP (by rfl) B.n_tuple (pv 7))))) (pss_nil)))))) (pss_nil)))))
      (pss_one (ps_ret (pe_non))))))
theorem sc_law_refused : FnScope N_law_refused ["stage", "rows", "most"] (defScope s_law_refused) := ⟨rfl, rfl, rfl, by decide +kernel, rfl, by decide +kernel, by decide +kernel⟩
theorem ok_law_refused (D : At K mg "_law_refused" s_law_refused) (B : Bn mg) {ec : Str → Addr} (XS : Exs K ec XN) (EX : ExAt mg ec XN) (G_closure : Fn P w K mg base (L2.CX P w) 7 "closure" ["stage", "rows", "most"] (sp_closure K ec)) (G_law_same : Fn P w K mg base CX0 1 "_law_same" ["got", "due"] (sp_law_same K)) : Fn P w K mg base CX0 8 "_law_refused" ["stage", "rows", "most"] (sp_law_refused K) := by
  obtain ⟨f, fd, F, hm⟩ := D
  refine ⟨f, fd, F.ok sc_law_refused (fun vs H Q E h => len_law_refused h) (fun cdv A outer s H vs Q E hr h => ⟨t_law_refused K ec, ?_, pure_law_refused XS h⟩), hm, F.kp, F.binds fun _ _ _ _ _ _ us hl => match us, hl with | [_, _, _], _ => rfl⟩
  have nd := sc_law_refused.nd
  exact pss_cons (ps_set (i := 3) nd rfl (Or.inl rfl) (pe_str))
      (pss_cons (ps_set (i := 4) nd rfl (Or.inl rfl) (pe_int))
      (pss_cons (ps_set (i := 5) nd rfl (Or.inl rfl) (pe_bl))
      (pss_cons (ps_tryT rfl rfl nd takes0 (fun W pn xe htk hpo => pss_one (ps_expr ((pe_callW htk G_closure (hr.mono (by decide)) (by rfl) (pa_cons (pv 0) (pa_cons ((pe_tupP (by rfl) B.n_tuple (pv 1))) (pa_cons (pv 2) pa_nil))))))) (HdsA.as ⟨rfl, by decide, .inl (EX "TooManyHeads" (by decide))⟩ rfl rfl (fun a oe cls d pn hz hf => pss_cons (ps_set (i := 3) nd rfl (Or.inl rfl) ((pe_xfA hz hf (pv 6))))
      (pss_cons (ps_set (i := 4) nd rfl (Or.inl rfl) ((pe_xfA hz hf (pv 6))))
      (pss_one (ps_set (i := 5) nd rfl (Or.inl rfl) ((pe_and ((pe_callB (call_isX hz hf) (by rfl) B.n_isinstance (by decide +kernel) (pa_cons (pv 6) (pa_cons ((pe_glob rfl (EX "ChamberError" (by decide)) rfl)) pa_nil)))) (pe_and ((pe_callB (call_isX hz hf) (by rfl) B.n_isinstance (by decide +kernel) (pa_cons (pv 6) (pa_cons ((pe_bltn (by rfl) B.n_ValueError (by decide +kernel) rfl)) pa_nil)))) (pe_one ((pe_not ((pe_callB (call_isX hz hf) (by rfl) B.n_isinstance (by decide +kernel) (pa_cons (pv 6) (pa_cons ((pe_tup (pa_cons ((pe_glob rfl (EX "TooManyPlaces" (by decide)) rfl)) (pa_cons ((pe_glob rfl (EX "Unlike" (by decide)) rfl)) pa_nil)))) pa_nil)))))))))))))) (HdsA.no ⟨rfl, by decide, .inl (EX "ChamberError" (by decide))⟩ (fun a oe cls d pn hz hf => pss_one (ps_set (i := 3) nd rfl (Or.inl rfl) (pe_str))) HdsA.nil)))
      (pss_one (ps_ret ((pe_and (pv 5) (pe_and ((pe_callF G_law_same (hr.mono (by decide)) (by rfl) pass0 (pa_cons (pv 3) (pa_cons (pe_str) pa_nil)))) (pe_one ((pe_callF G_law_same (hr.mono (by decide)) (by rfl) pass0 (pa_cons (pv 4) (pa_cons (pv 2) pa_nil)))))))))))))
theorem sc_law_larger : FnScope N_law_larger ["stage", "makers", "members", "outside"] (defScope s_law_larger) := ⟨rfl, rfl, rfl, by decide +kernel, rfl, by decide +kernel, by decide +kernel⟩
theorem ok_law_larger (D : At K mg "_law_larger" s_law_larger) (B : Bn mg) {ec : Str → Addr} (XS : Exs K ec XN) (EX : ExAt mg ec XN) (G_law_refused : Fn P w K mg base CX0 8 "_law_refused" ["stage", "rows", "most"] (sp_law_refused K)) (G_law_closure : Fn P w K mg base CX0 2 "_law_closure" ["stage", "rows", "most"] (sp_law_closure K)) (G_law_same : Fn P w K mg base CX0 1 "_law_same" ["got", "due"] (sp_law_same K)) (G_closure : Fn P w K mg base (L2.CX P w) 7 "closure" ["stage", "rows", "most"] (sp_closure K ec)) : Fn P w K mg base CX0 9 "_law_larger" ["stage", "makers", "members", "outside"] (sp_law_larger K) := by
  obtain ⟨f, fd, F, hm⟩ := D
  refine ⟨f, fd, F.ok sc_law_larger (fun vs H Q E h => len_law_larger h) (fun cdv A outer s H vs Q E hr h => ⟨t_law_larger K ec, ?_, pure_law_larger XS h⟩), hm, F.kp, F.binds fun _ _ _ _ _ _ us hl => match us, hl with | [_, _, _, _], _ => rfl⟩
  have nd := sc_law_larger.nd
  exact pss_cons (ps_if ((pt_not ((pt_truU ((pe_callF G_law_refused (hr.mono (by decide)) (by rfl) pass0 (pa_cons (pv 0) (pa_cons (pv 1) (pa_cons ((pe_callB call_lenU (by rfl) B.n_len (by decide +kernel) (pa_cons (pv 2) pa_nil))) pa_nil))))) (by intro _; rfl))))) (pss_one (ps_ret (pe_bl))) (pss_nil))
      (pss_cons (ps_set (i := 4) nd rfl (Or.inl rfl) ((pe_callF G_law_closure (hr.mono (by decide)) (by rfl) pass0 (pa_cons (pv 0) (pa_cons (pv 1) (pa_cons (pe_int) pa_nil))))))
      (pss_cons (ps_if ((pt_cmpR op_isNU (pv 4) (pe_non) (nomark _))) (pss_one (ps_ret ((pe_callF G_law_refused (hr.mono (by decide)) (by rfl) pass0 (pa_cons (pv 0) (pa_cons (pv 1) (pa_cons (pe_int) pa_nil))))))) (pss_nil))
      (pss_cons (ps_if ((PW.pt (pw_or ((pt_not ((pt_truU ((pe_callF G_law_same (hr.mono (by decide)) (by rfl) pass0 (pa_cons ((pe_callF G_closure (hr.mono (by decide)) (by rfl) passL (pa_cons (pv 0) (pa_cons ((pe_tupP (by rfl) B.n_tuple (pv 1))) (pa_cons (pe_int) pa_nil))))) (pa_cons ((pe_tupP (by rfl) B.n_tuple ((pe_ix ix_seq (pv 4) (pe_int) (fun _ _ => rfl))))) pa_nil)))) (by intro _; rfl))))) (pw_or1 ((pt_cmpR (op_neU hr.units) ((pe_op op_modU ((pe_callTy call_intU (by rfl) B.n_int (by decide +kernel) (pa_cons ((pe_callB call_lenU (by rfl) B.n_len (by decide +kernel) (pa_cons ((pe_ix ix_seq (pv 4) (pe_int) (fun _ _ => rfl))) pa_nil))) pa_nil))) ((pe_callB call_lenU (by rfl) B.n_len (by decide +kernel) (pa_cons (pv 2) pa_nil))))) (pe_int) (nomark _))))))) (pss_one (ps_ret (pe_bl))) (pss_nil))
      (pss_cons (ps_set (i := 5) nd rfl (Or.inr rfl) pe_dnewT)
      (pss_cons (ps_for PassesOwn.never rfl (pi_seqU ((pe_ix ix_seq (pv 4) (pe_int) (fun _ _ => rfl)))) (pg_name (i := 6) nd rfl (Or.inl rfl)) (pss_one (ps_dput (hu_of hr) (pv 5) (pv 6) (pe_bl) rfl)))
      (pss_one (ps_ret ((pe_and ((pe_cmp (pc_din (hu_of hr) (pv 3) (pv 5)))) (pe_one ((pe_cmpR (op_eqU hr.units) ((pe_callB call_lenU (by rfl) B.n_len (by decide +kernel) (pa_cons ((pe_lc (own := [("row", 6)]) (g := (gName 6)) (tt := (tB (tDIn (tVar 6) (tVar 5)))) rfl nd ((pi_seqU (pv 2))) (blkOk_by (N := (N_law_larger : List Str)) (sc := defScope s_law_larger) (by decide +kernel)) (fun _ _ _ _ _ => (pg_name (i := 6) nd rfl (Or.inl rfl))) (fun _ _ _ _ _ => (pts_one ((pt_cmp (pc_din (hu_of hr) (pv 6) (pv 5)))))) (fun _ _ _ _ _ => pv 6))) pa_nil))) ((pe_callB call_lenU (by rfl) B.n_len (by decide +kernel) (pa_cons (pv 2) pa_nil))) (nomark _)))))))))))))
theorem sc_law_within : FnScope N_law_within ["stage", "rows", "members", "drawn"] (defScope s_law_within) := ⟨rfl, rfl, rfl, by decide +kernel, rfl, by decide +kernel, by decide +kernel⟩
theorem ok_law_within (D : At K mg "_law_within" s_law_within) (B : Bn mg) {ec : Str → Addr} (XS : Exs K ec XN) (EX : ExAt mg ec XN) (G_law_closure : Fn P w K mg base CX0 2 "_law_closure" ["stage", "rows", "most"] (sp_law_closure K)) (G_law_same : Fn P w K mg base CX0 1 "_law_same" ["got", "due"] (sp_law_same K)) (G_closure : Fn P w K mg base (L2.CX P w) 7 "closure" ["stage", "rows", "most"] (sp_closure K ec)) (G_cosets : Fn P w K mg base (L2.CX P w) 8 "cosets" ["stage", "rows", "inner", "most"] (sp_cosets K ec)) : Fn P w K mg base CX0 9 "_law_within" ["stage", "rows", "members", "drawn"] (sp_law_within K) := by
  obtain ⟨f, fd, F, hm⟩ := D
  refine ⟨f, fd, F.ok sc_law_within (fun vs H Q E h => len_law_within h) (fun cdv A outer s H vs Q E hr h => ⟨t_law_within K ec, ?_, pure_law_within XS h⟩), hm, F.kp, F.binds fun _ _ _ _ _ _ us hl => match us, hl with | [_, _, _, _], _ => rfl⟩
  have nd := sc_law_within.nd
  exact pss_cons (ps_set (i := 4) nd rfl (Or.inl rfl) ((pe_callF G_law_closure (hr.mono (by decide)) (by rfl) pass0 (pa_cons (pv 0) (pa_cons (pv 3) (pa_cons (pe_int) pa_nil))))))
      (pss_cons (ps_if ((PW.pt (pw_or ((pt_cmpR op_isNU (pv 4) (pe_non) (nomark _))) (pw_or1 ((pt_not ((pt_truU ((pe_callF G_law_same (hr.mono (by decide)) (by rfl) pass0 (pa_cons ((pe_callF G_closure (hr.mono (by decide)) (by rfl) passL (pa_cons (pv 0) (pa_cons ((pe_tupP (by rfl) B.n_tuple (pv 3))) (pa_cons ((pe_callB call_lenU (by rfl) B.n_len (by decide +kernel) (pa_cons (pv 2) pa_nil))) pa_nil))))) (pa_cons ((pe_tupP (by rfl) B.n_tuple ((pe_ix ix_seq (pv 4) (pe_int) (fun _ _ => rfl))))) pa_nil)))) (by intro _; rfl))))))))) (pss_one (ps_ret (pe_bl))) (pss_nil))
      (pss_cons (ps_set (i := 5) nd rfl (Or.inr rfl) ((pe_callB call_lenU (by rfl) B.n_len (by decide +kernel) (pa_cons ((pe_ix ix_seq (pv 4) (pe_int) (fun _ _ => rfl))) pa_nil))))
      (pss_cons (ps_set (i := 6) nd rfl (Or.inr rfl) pe_dnewT)
      (pss_cons (ps_for PassesOwn.never rfl (pi_seqU (pv 2)) (pg_name (i := 7) nd rfl (Or.inl rfl)) (pss_one (ps_dput (hu_of hr) (pv 6) (pv 7) (pe_bl) rfl)))
      (pss_cons (ps_if ((PW.pt (pw_or ((pt_cmpR (op_neU hr.units) ((pe_op op_modU ((pe_callTy call_intU (by rfl) B.n_int (by decide +kernel) (pa_cons ((pe_callB call_lenU (by rfl) B.n_len (by decide +kernel) (pa_cons (pv 2) pa_nil))) pa_nil))) (pv 5))) (pe_int) (nomark _))) (pw_or1 ((pt_cmpR (op_neU hr.units) ((pe_callB call_lenU (by rfl) B.n_len (by decide +kernel) (pa_cons ((pe_lc (own := [("row", 7)]) (g := (gName 7)) (tt := (tB (tDIn (tVar 7) (tVar 6)))) rfl nd ((pi_seqU ((pe_ix ix_seq (pv 4) (pe_int) (fun _ _ => rfl))))) (blkOk_by (N := (N_law_within : List Str)) (sc := defScope s_law_within) (by decide +kernel)) (fun _ _ _ _ _ => (pg_name (i := 7) nd rfl (Or.inl rfl))) (fun _ _ _ _ _ => (pts_one ((pt_cmp (pc_din (hu_of hr) (pv 7) (pv 6)))))) (fun _ _ _ _ _ => pv 7))) pa_nil))) (pv 5) (nomark _))))))) (pss_one (ps_ret (pe_bl))) (pss_nil))
      (pss_cons (ps_set (i := 8) nd rfl (Or.inl rfl) ((pe_callF G_cosets (hr.mono (by decide)) (by rfl) passL (pa_cons (pv 0) (pa_cons ((pe_tupP (by rfl) B.n_tuple (pv 1))) (pa_cons ((pe_tupP (by rfl) B.n_tuple (pv 3))) (pa_cons ((pe_callB call_lenU (by rfl) B.n_len (by decide +kernel) (pa_cons (pv 2) pa_nil))) pa_nil)))))))
      (pss_cons (ps_if ((PW.pt (pw_or ((pt_not ((pt_truU ((pe_callB call_isi (by rfl) B.n_isinstance (by decide +kernel) (pa_cons (pv 8) (pa_cons ((pe_bltn (by rfl) B.n_tuple (by decide +kernel) rfl)) pa_nil)))) (by intro _; rfl))))) (pw_or1 ((pt_cmpR (op_neU hr.units) ((pe_op op_mulU ((pe_callB call_lenU (by rfl) B.n_len (by decide +kernel) (pa_cons (pv 8) pa_nil))) (pv 5))) ((pe_callB call_lenU (by rfl) B.n_len (by decide +kernel) (pa_cons (pv 2) pa_nil))) (nomark _))))))) (pss_one (ps_ret (pe_bl))) (pss_nil))
      (pss_one (ps_ret ((pe_cmpR (op_eqU hr.units) ((pe_callB call_lenU (by rfl) B.n_len (by decide +kernel) (pa_cons ((pe_lc (own := [("coset", 9)]) (g := (gName 9)) (tt := (tAnd ((tTru K ((tCB (rIsi K) (tCons (tVar 9) (tCons ((tC (.ty "tuple"))) tNil)))))) ((tTest (tOp (rEqU K) ((tCB (rLenU K) (tCons (tVar 9) tNil))) (tVar 5)))))) rfl nd ((pi_seqU (pv 8))) (blkOk_by (N := (N_law_within : List Str)) (sc := defScope s_law_within) (by decide +kernel)) (fun _ _ _ _ _ => (pg_name (i := 9) nd rfl (Or.inl rfl))) (fun _ _ _ _ _ => (pts_one ((PW.pt (pw_and ((pt_truU ((pe_callB call_isi (by rfl) B.n_isinstance (by decide +kernel) (pa_cons (pv 9) (pa_cons ((pe_bltn (by rfl) B.n_tuple (by decide +kernel) rfl)) pa_nil)))) (by intro _; rfl))) (pw_and1 ((pt_cmpR (op_eqU hr.units) ((pe_callB call_lenU (by rfl) B.n_len (by decide +kernel) (pa_cons (pv 9) pa_nil))) (pv 5) (nomark _))))))))) (fun _ _ _ _ _ => pv 9))) pa_nil))) ((pe_callB call_lenU (by rfl) B.n_len (by decide +kernel) (pa_cons (pv 8) pa_nil))) (nomark _))))))))))))
theorem sc_law : FnScope N_law ["script"] (defScope s_law) := ⟨rfl, rfl, rfl, by decide +kernel, rfl, by decide +kernel, by decide +kernel⟩
theorem ok_lawF {f : Addr} {fd : FuncData} (F : Fun K "law" "law" s_law f fd) (B : Bn mg) {ec : Str → Addr} (XS : Exs K ec XN) (EX : ExAt mg ec XN) (G_law_pool : Fn P w K mg base CX0 2 "_law_pool" ["script", "k"] (sp_law_pool K)) (G_law_draw : Fn P w K mg base CX0 1 "_law_draw" ["pool", "many"] (sp_law_draw K)) (G_law_row_draw : Fn P w K mg base CX0 2 "_law_row_draw" ["pool", "stage"] (sp_law_row_draw K)) (G_law_window_row : Fn P w K mg base CX0 3 "_law_window_row" ["pool", "stage", "window"] (sp_law_window_row K)) (G_law_closure : Fn P w K mg base CX0 2 "_law_closure" ["stage", "rows", "most"] (sp_law_closure K)) (G_law_refused : Fn P w K mg base CX0 8 "_law_refused" ["stage", "rows", "most"] (sp_law_refused K)) (G_closure : Fn P w K mg base (L2.CX P w) 7 "closure" ["stage", "rows", "most"] (sp_closure K ec)) (G_law_same : Fn P w K mg base CX0 1 "_law_same" ["got", "due"] (sp_law_same K)) (G_law_turned : Fn P w K mg base CX0 2 "_law_turned" ["pool", "members"] (sp_law_turned K)) (G_law_times : Fn P w K mg base CX0 1 "_law_times" ["first", "second"] (sp_law_times K)) (G_law_inverse : Fn P w K mg base CX0 1 "_law_inverse" ["row"] (sp_law_inverse K)) (G_law_outside : Fn P w K mg base CX0 3 "_law_outside" ["pool", "stage", "members"] (sp_law_outside K)) (G_law_larger : Fn P w K mg base CX0 9 "_law_larger" ["stage", "makers", "members", "outside"] (sp_law_larger K)) (G_law_within : Fn P w K mg base CX0 9 "_law_within" ["stage", "rows", "members", "drawn"] (sp_law_within K)) : FnOk P w K mg base CX0 10 f fd ["script"] (sp_law K) := by
  refine F.ok sc_law (fun vs H Q E h => len_law h) (fun cdv A outer s H vs Q E hr h => ⟨t_law K ec, ?_, pure_law XS h⟩)
  have nd := sc_law.nd
  exact pss_cons (ps_set (i := 1) nd rfl (Or.inr rfl) ((pe_callF G_law_pool (hr.mono (by decide)) (by rfl) pass0 (pa_cons (pv 0) (pa_cons (pe_int) pa_nil)))))
      (pss_cons (ps_set (i := 2) nd rfl (Or.inr rfl) ((pe_ix ix_seq ((pe_lst (pa_cons (pe_int) (pa_cons (pe_int) (pa_cons (pe_int) (pa_cons (pe_int) (pa_cons (pe_int) (pa_cons (pe_int) (pa_cons (pe_int) (pa_cons (pe_int) (pa_cons (pe_int) (pa_cons (pe_int) (pa_cons (pe_int) (pa_cons (pe_int) (pa_cons (pe_int) (pa_cons (pe_int) (pa_cons (pe_int) (pa_cons (pe_int) pa_nil)))))))))))))))))) ((pe_callF G_law_draw (hr.mono (by decide)) (by rfl) pass0 (pa_cons (pv 1) (pa_cons (pe_int) pa_nil)))) (fun _ _ => rfl))))
      (pss_cons (ps_set (i := 3) nd rfl (Or.inl rfl) ((pe_ix ix_seq ((pe_lst (pa_cons (pe_int) (pa_cons (pe_int) (pa_cons (pe_int) (pa_cons (pe_int) (pa_cons (pe_int) (pa_cons (pe_int) (pa_cons (pe_int) (pa_cons (pe_int) pa_nil)))))))))) ((pe_callF G_law_draw (hr.mono (by decide)) (by rfl) pass0 (pa_cons (pv 1) (pa_cons (pe_int) pa_nil)))) (fun _ _ => rfl))))
      (pss_cons (ps_if ((pt_cmpR (op_eqU hr.units) ((pe_callF G_law_draw (hr.mono (by decide)) (by rfl) pass0 (pa_cons (pv 1) (pa_cons (pe_int) pa_nil)))) (pe_int) (nomark _))) (pss_one (ps_set (i := 3) nd rfl (Or.inl rfl) (pe_int))) (pss_nil))
      (pss_cons (ps_set (i := 4) nd rfl (Or.inr rfl) ((pe_slice sl_U ((pe_callF G_law_row_draw (hr.mono (by decide)) (by rfl) pass0 (pa_cons (pv 1) (pa_cons (pv 2) pa_nil)))) po_none (po_some ((pe_callB (call_min2 rfl) (by rfl) B.n_min (by decide +kernel) (pa_cons (pv 2) (pa_cons (pv 3) pa_nil))))))))
      (pss_cons (ps_set (i := 5) nd rfl (Or.inl rfl) ((pe_ix ix_seq ((pe_lst (pa_cons (pe_int) (pa_cons (pe_int) (pa_cons (pe_int) (pa_cons (pe_int) (pa_cons (pe_int) (pa_cons (pe_int) (pa_cons (pe_int) (pa_cons (pe_int) pa_nil)))))))))) ((pe_callF G_law_draw (hr.mono (by decide)) (by rfl) pass0 (pa_cons (pv 1) (pa_cons (pe_int) pa_nil)))) (fun _ _ => rfl))))
      (pss_cons (ps_if ((pt_cmpR (op_eqU hr.units) ((pe_callF G_law_draw (hr.mono (by decide)) (by rfl) pass0 (pa_cons (pv 1) (pa_cons (pe_int) pa_nil)))) (pe_int) (nomark _))) (pss_one (ps_set (i := 5) nd rfl (Or.inl rfl) ((pe_callF G_law_draw (hr.mono (by decide)) (by rfl) pass0 (pa_cons (pv 1) (pa_cons (pe_int) pa_nil)))))) (pss_nil))
      (pss_cons (ps_setLc (i := 6) (own := [("k", 20)]) (g := (gName 20)) (tt := tYes) rfl nd rfl rfl (sw_true rfl rfl rfl (by decide +kernel)) ((pi_range1 (by rfl) B.n_range (pa_cons (pv 5) pa_nil))) (blkOk_by (N := (N_law : List Str)) (sc := defScope s_law) (by decide +kernel)) (fun _ _ _ _ _ => (pg_name (i := 20) nd rfl (Or.inl rfl))) (fun _ _ _ _ _ => pts_nil) (fun _ _ _ _ _ => (pe_callF G_law_window_row (hr.mono (by decide)) (by rfl) pass0 (pa_cons (pv 1) (pa_cons (pv 2) (pa_cons (pv 4) pa_nil))))))
      (pss_cons (ps_set (i := 7) nd rfl (Or.inl rfl) ((pe_callF G_law_closure (hr.mono (by decide)) (by rfl) pass0 (pa_cons (pv 2) (pa_cons (pv 6) (pa_cons (pe_int) pa_nil))))))
      (pss_cons (ps_if ((pt_cmpR op_isNU (pv 7) (pe_non) (nomark _))) (pss_one (ps_ret ((pe_and ((pe_callF G_law_refused (hr.mono (by decide)) (by rfl) pass0 (pa_cons (pv 2) (pa_cons (pv 6) (pa_cons (pe_int) pa_nil))))) (pe_one ((pe_callF G_law_refused (hr.mono (by decide)) (by rfl) pass0 (pa_cons (pv 2) (pa_cons ((pe_revL (pv 6))) (pa_cons (pe_int) pa_nil)))))))))) (pss_nil))
      (pss_cons (ps_set (i := 8) nd rfl (Or.inl rfl) ((pe_ix ix_seq (pv 7) (pe_int) (fun _ _ => rfl))))
      (pss_cons (ps_set (i := 9) nd rfl (Or.inr rfl) ((pe_ix ix_seq (pv 7) (pe_int) (fun _ _ => rfl))))
      (pss_cons (ps_set (i := 10) nd rfl (Or.inl rfl) ((pe_tupP (by rfl) B.n_tuple (pv 8))))
      (pss_cons (ps_set (i := 11) nd rfl (Or.inl rfl) ((pe_callF G_closure (hr.mono (by decide)) (by rfl) passL (pa_cons (pv 2) (pa_cons ((pe_tupP (by rfl) B.n_tuple (pv 6))) (pa_cons ((pe_callB call_lenU (by rfl) B.n_len (by decide +kernel) (pa_cons (pv 10) pa_nil))) pa_nil))))))
      (pss_cons (ps_if ((pt_not ((pt_truU ((pe_callF G_law_same (hr.mono (by decide)) (by rfl) pass0 (pa_cons (pv 11) (pa_cons (pv 10) pa_nil)))) (by intro _; rfl))))) (pss_one (ps_ret (pe_bl))) (pss_nil))
      (pss_cons (ps_set (i := 12) nd rfl (Or.inr rfl) ((pe_callF G_law_pool (hr.mono (by decide)) (by rfl) pass0 (pa_cons (pv 0) (pa_cons (pe_int) pa_nil)))))
      (pss_cons (ps_set (i := 13) nd rfl (Or.inl rfl) ((pe_callF G_law_turned (hr.mono (by decide)) (by rfl) pass0 (pa_cons (pv 12) (pa_cons (pv 8) pa_nil)))))
      (pss_cons (ps_setLc (i := 14) (own := [("row", 21)]) (g := (gName 21)) (tt := (tOr ((tTest (tOp (rInD K) (tVar 21) (tVar 9)))) ((tTest (tOp (rEqU K) ((tCall (sp_law_draw K) [] E0 (tCons (tVar 12) (tCons ((tC (.int 2))) tNil)))) ((tC (.int 0)))))))) rfl nd rfl rfl (sw_true rfl rfl rfl (by decide +kernel)) ((pi_seqU (pv 13))) (blkOk_by (N := (N_law : List Str)) (sc := defScope s_law) (by decide +kernel)) (fun _ _ _ _ _ => (pg_name (i := 21) nd rfl (Or.inl rfl))) (fun _ _ _ _ _ => (pts_one ((PW.pt (pw_or ((pt_cmpR (op_inD (hu65 hr)) (pv 21) (pv 9) (by with_unfolding_all rfl))) (pw_or1 ((pt_cmpR (op_eqU hr.units) ((pe_callF G_law_draw (hr.mono (by decide)) (by rfl) pass0 (pa_cons (pv 12) (pa_cons (pe_int) pa_nil)))) (pe_int) (nomark _))))))))) (fun _ _ _ _ _ => pv 21))
      (pss_cons (ps_if ((pt_not ((pt_truU ((pe_callF G_law_same (hr.mono (by decide)) (by rfl) pass0 (pa_cons ((pe_callF G_closure (hr.mono (by decide)) (by rfl) passL (pa_cons (pv 2) (pa_cons ((pe_tupP (by rfl) B.n_tuple (pv 13))) (pa_cons ((pe_callB call_lenU (by rfl) B.n_len (by decide +kernel) (pa_cons (pv 10) pa_nil))) pa_nil))))) (pa_cons (pv 10) pa_nil)))) (by intro _; rfl))))) (pss_one (ps_ret (pe_bl))) (pss_nil))
      (pss_cons (ps_if ((pt_not ((pt_truU ((pe_callF G_law_same (hr.mono (by decide)) (by rfl) pass0 (pa_cons ((pe_callF G_closure (hr.mono (by decide)) (by rfl) passL (pa_cons (pv 2) (pa_cons ((pe_tupP (by rfl) B.n_tuple (pv 14))) (pa_cons ((pe_callB call_lenU (by rfl) B.n_len (by decide +kernel) (pa_cons (pv 10) pa_nil))) pa_nil))))) (pa_cons (pv 10) pa_nil)))) (by intro _; rfl))))) (pss_one (ps_ret (pe_bl))) (pss_nil))
      (pss_cons (ps_set (i := 15) nd rfl (Or.inl rfl) ((pe_callF G_law_pool (hr.mono (by decide)) (by rfl) pass0 (pa_cons (pv 0) (pa_cons (pe_int) pa_nil)))))
      (pss_cons (ps_set (i := 16) nd rfl (Or.inl rfl) ((pe_ix ix_seq (pv 10) ((pe_callF G_law_draw (hr.mono (by decide)) (by rfl) pass0 (pa_cons (pv 15) (pa_cons ((pe_callB call_lenU (by rfl) B.n_len (by decide +kernel) (pa_cons (pv 10) pa_nil))) pa_nil)))) (fun _ _ => rfl))))
      (pss_cons (ps_set (i := 17) nd rfl (Or.inl rfl) ((pe_ix ix_seq (pv 10) ((pe_callF G_law_draw (hr.mono (by decide)) (by rfl) pass0 (pa_cons (pv 15) (pa_cons ((pe_callB call_lenU (by rfl) B.n_len (by decide +kernel) (pa_cons (pv 10) pa_nil))) pa_nil)))) (fun _ _ => rfl))))
      (pss_cons (ps_set (i := 18) nd rfl (Or.inl rfl) ((pe_callF G_law_draw (hr.mono (by decide)) (by rfl) pass0 (pa_cons (pv 15) (pa_cons ((pe_op op_addU ((pe_callB call_lenU (by rfl) B.n_len (by decide +kernel) (pa_cons (pv 9) pa_nil))) (pe_int))) pa_nil)))))
      (pss_cons (ps_if ((pt_not ((pt_truU ((pe_callF G_law_same (hr.mono (by decide)) (by rfl) pass0 (pa_cons ((pe_callF G_closure (hr.mono (by decide)) (by rfl) passL (pa_cons (pv 2) (pa_cons ((pe_tupP (by rfl) B.n_tuple ((pe_op op_addU ((pe_op op_addU ((pe_slice sl_U (pv 9) po_none (po_some (pv 18)))) ((pe_lst (pa_cons (pv 16) pa_nil))))) ((pe_slice sl_U (pv 9) (po_some (pv 18)) po_none)))))) (pa_cons ((pe_callB call_lenU (by rfl) B.n_len (by decide +kernel) (pa_cons (pv 10) pa_nil))) pa_nil))))) (pa_cons (pv 10) pa_nil)))) (by intro _; rfl))))) (pss_one (ps_ret (pe_bl))) (pss_nil))
      (pss_cons (ps_if ((PW.pt (pw_or ((pt_cmpR (op_notInDT (hu65 hr)) ((pe_callF G_law_times (hr.mono (by decide)) (by rfl) pass0 (pa_cons (pv 16) (pa_cons (pv 17) pa_nil)))) (pv 11) (by with_unfolding_all rfl))) (pw_or1 ((pt_cmpR (op_notInDT (hu65 hr)) ((pe_callF G_law_inverse (hr.mono (by decide)) (by rfl) pass0 (pa_cons (pv 16) pa_nil))) (pv 11) (by with_unfolding_all rfl))))))) (pss_one (ps_ret (pe_bl))) (pss_nil))
      (pss_cons (ps_set (i := 19) nd rfl (Or.inl rfl) ((pe_callF G_law_outside (hr.mono (by decide)) (by rfl) pass0 (pa_cons (pv 15) (pa_cons (pv 2) (pa_cons (pv 8) pa_nil))))))
      (pss_cons (ps_if ((PW.pt (pw_and ((pt_cmpR op_notNU (pv 19) (pe_non) (nomark _))) (pw_and1 ((pt_not ((pt_truU ((pe_callF G_law_larger (hr.mono (by decide)) (by rfl) pass0 (pa_cons (pv 2) (pa_cons ((pe_op op_addU ((pe_op op_addU ((pe_slice sl_U (pv 9) po_none (po_some (pv 18)))) ((pe_lst (pa_cons (pv 19) pa_nil))))) ((pe_slice sl_U (pv 9) (po_some (pv 18)) po_none)))) (pa_cons (pv 8) (pa_cons (pv 19) pa_nil)))))) (by intro _; rfl))))))))) (pss_one (ps_ret (pe_bl))) (pss_nil))
      (pss_cons (ps_if ((pt_not ((pt_truU ((pe_callF G_law_within (hr.mono (by decide)) (by rfl) pass0 (pa_cons (pv 2) (pa_cons (pv 6) (pa_cons (pv 8) (pa_cons ((pe_slice sl_U ((pe_lst (pa_cons (pv 16) (pa_cons (pv 17) pa_nil)))) po_none (po_some ((pe_op op_addU (pe_int) ((pe_callF G_law_draw (hr.mono (by decide)) (by rfl) pass0 (pa_cons (pv 15) (pa_cons (pe_int) pa_nil))))))))) pa_nil)))))) (by intro _; rfl))))) (pss_one (ps_ret (pe_bl))) (pss_nil))
      (pss_one (ps_ret ((pe_callF G_law_same (hr.mono (by decide)) (by rfl) pass0 (pa_cons ((pe_callF G_closure (hr.mono (by decide)) (by rfl) passL (pa_cons (pv 2) (pa_cons ((pe_tupP (by rfl) B.n_tuple (pv 6))) (pa_cons ((pe_callB call_lenU (by rfl) B.n_len (by decide +kernel) (pa_cons (pv 10) pa_nil))) pa_nil))))) (pa_cons (pv 10) pa_nil))))))))))))))))))))))))))))))))))
end
theorem all_mk {l : PySem.W.OpenLaw} {w : World} {K : PySem.W.Frag} {h : Heap} {mg : Str → Option Value} {fa : Addr} (X : K.In h) (G : h.Ns mainGlobals mg) (hfa : mg "law" = some (.ref fa))
    {f1 : Addr} {od1 an1 : Option Addr} {sl1 : Array (Option Value)} {oc1 kV1 dc1 pm1 cd1 ct1 : Value}
    {f2 : Addr} {od2 an2 : Option Addr} {sl2 : Array (Option Value)} {oc2 kV2 dc2 pm2 cd2 ct2 : Value}
    {f3 : Addr} {od3 an3 : Option Addr} {sl3 : Array (Option Value)} {oc3 kV3 dc3 pm3 cd3 ct3 : Value}
    {f4 : Addr} {od4 an4 : Option Addr} {sl4 : Array (Option Value)} {oc4 kV4 dc4 pm4 cd4 ct4 : Value}
    {f5 : Addr} {od5 an5 : Option Addr} {sl5 : Array (Option Value)} {oc5 kV5 dc5 pm5 cd5 ct5 : Value}
    {f6 : Addr} {od6 an6 : Option Addr} {sl6 : Array (Option Value)} {oc6 kV6 dc6 pm6 cd6 ct6 : Value}
    {f7 : Addr} {od7 an7 : Option Addr} {sl7 : Array (Option Value)} {oc7 kV7 dc7 pm7 cd7 ct7 : Value}
    {f8 : Addr} {od8 an8 : Option Addr} {sl8 : Array (Option Value)} {oc8 kV8 dc8 pm8 cd8 ct8 : Value}
    {f9 : Addr} {od9 an9 : Option Addr} {sl9 : Array (Option Value)} {oc9 kV9 dc9 pm9 cd9 ct9 : Value}
    {f10 : Addr} {od10 an10 : Option Addr} {sl10 : Array (Option Value)} {oc10 kV10 dc10 pm10 cd10 ct10 : Value}
    {f11 : Addr} {od11 an11 : Option Addr} {sl11 : Array (Option Value)} {oc11 kV11 dc11 pm11 cd11 ct11 : Value}
    {f12 : Addr} {od12 an12 : Option Addr} {sl12 : Array (Option Value)} {oc12 kV12 dc12 pm12 cd12 ct12 : Value}
    {f13 : Addr} {od13 an13 : Option Addr} {sl13 : Array (Option Value)} {oc13 kV13 dc13 pm13 cd13 ct13 : Value}
    {f14 : Addr} {od14 an14 : Option Addr} {sl14 : Array (Option Value)} {oc14 kV14 dc14 pm14 cd14 ct14 : Value}
    {f15 : Addr} {od15 an15 : Option Addr} {sl15 : Array (Option Value)} {oc15 kV15 dc15 pm15 cd15 ct15 : Value}
    {f16 : Addr} {od16 an16 : Option Addr} {sl16 : Array (Option Value)} {oc16 kV16 dc16 pm16 cd16 ct16 : Value}
    {f17 : Addr} {od17 an17 : Option Addr} {sl17 : Array (Option Value)} {oc17 kV17 dc17 pm17 cd17 ct17 : Value}
    {f18 : Addr} {od18 an18 : Option Addr} {sl18 : Array (Option Value)} {oc18 kV18 dc18 pm18 cd18 ct18 : Value}
    {f19 : Addr} {od19 an19 : Option Addr} {sl19 : Array (Option Value)} {oc19 kV19 dc19 pm19 cd19 ct19 : Value}
    {f20 : Addr} {od20 an20 : Option Addr} {sl20 : Array (Option Value)} {oc20 kV20 dc20 pm20 cd20 ct20 : Value}
    {f21 : Addr} {od21 an21 : Option Addr} {sl21 : Array (Option Value)} {oc21 kV21 dc21 pm21 cd21 ct21 : Value}
    {f22 : Addr} {od22 an22 : Option Addr} {sl22 : Array (Option Value)} {oc22 kV22 dc22 pm22 cd22 ct22 : Value}
    {f23 : Addr} {od23 an23 : Option Addr} {sl23 : Array (Option Value)} {oc23 kV23 dc23 pm23 cd23 ct23 : Value}
    {C_ChamberError : Addr}
    {C_BadStage : Addr}
    {C_Unlike : Addr}
    {C_TooManyHeads : Addr}
    {C_TooManyPlaces : Addr}
    {fI_ChamberError cc_ChamberError : Addr} {od_ChamberError an_ChamberError cld_ChamberError : Option Addr} {sl_ChamberError csl_ChamberError : Array (Option Value)} {oc_ChamberError kV_ChamberError dc_ChamberError pm_ChamberError cd_ChamberError ct_ChamberError cl_ChamberError : Value}
    {fI_BadStage cc_BadStage : Addr} {od_BadStage an_BadStage cld_BadStage : Option Addr} {sl_BadStage csl_BadStage : Array (Option Value)} {oc_BadStage kV_BadStage dc_BadStage pm_BadStage cd_BadStage ct_BadStage cl_BadStage : Value}
    {fI_Unlike cc_Unlike : Addr} {od_Unlike an_Unlike cld_Unlike : Option Addr} {sl_Unlike csl_Unlike : Array (Option Value)} {oc_Unlike kV_Unlike dc_Unlike pm_Unlike cd_Unlike ct_Unlike cl_Unlike : Value}
    {fI_TooManyHeads cc_TooManyHeads : Addr} {od_TooManyHeads an_TooManyHeads cld_TooManyHeads : Option Addr} {sl_TooManyHeads csl_TooManyHeads : Array (Option Value)} {oc_TooManyHeads kV_TooManyHeads dc_TooManyHeads pm_TooManyHeads cd_TooManyHeads ct_TooManyHeads cl_TooManyHeads : Value}
    {t_SIGNS : Tok}
    (a1 : PySem.W.nsIn K mainGlobals "check_stage" = some (some (.ref f1))) (l1 : K.lookup f1 = some ⟨oc1, od1, .func (PySem.W.fnOf "check_stage" "check_stage" (defArgs s_check_stage) (defBody s_check_stage) (defScope s_check_stage) .none kV1 dc1 pm1 an1 cd1 ct1), sl1⟩) (c1 : PySem.W.codeIn K cd1 "check_stage" = true) (k1 : PySem.W.keepIn K (.ref f1) = true)
    (a2 : PySem.W.nsIn K mainGlobals "rounds" = some (some (.ref f2))) (l2 : K.lookup f2 = some ⟨oc2, od2, .func (PySem.W.fnOf "rounds" "rounds" (defArgs s_rounds) (defBody s_rounds) (defScope s_rounds) .none kV2 dc2 pm2 an2 cd2 ct2), sl2⟩) (c2 : PySem.W.codeIn K cd2 "rounds" = true) (k2 : PySem.W.keepIn K (.ref f2) = true)
    (a3 : PySem.W.nsIn K mainGlobals "times" = some (some (.ref f3))) (l3 : K.lookup f3 = some ⟨oc3, od3, .func (PySem.W.fnOf "times" "times" (defArgs s_times) (defBody s_times) (defScope s_times) .none kV3 dc3 pm3 an3 cd3 ct3), sl3⟩) (c3 : PySem.W.codeIn K cd3 "times" = true) (k3 : PySem.W.keepIn K (.ref f3) = true)
    (a4 : PySem.W.nsIn K mainGlobals "check_stages" = some (some (.ref f4))) (l4 : K.lookup f4 = some ⟨oc4, od4, .func (PySem.W.fnOf "check_stages" "check_stages" (defArgs s_check_stages) (defBody s_check_stages) (defScope s_check_stages) .none kV4 dc4 pm4 an4 cd4 ct4), sl4⟩) (c4 : PySem.W.codeIn K cd4 "check_stages" = true) (k4 : PySem.W.keepIn K (.ref f4) = true)
    (a5 : PySem.W.nsIn K mainGlobals "products_of" = some (some (.ref f5))) (l5 : K.lookup f5 = some ⟨oc5, od5, .func (PySem.W.fnOf "products_of" "products_of" (defArgs s_products_of) (defBody s_products_of) (defScope s_products_of) .none kV5 dc5 pm5 an5 cd5 ct5), sl5⟩) (c5 : PySem.W.codeIn K cd5 "products_of" = true) (k5 : PySem.W.keepIn K (.ref f5) = true)
    (a6 : PySem.W.nsIn K mainGlobals "closure" = some (some (.ref f6))) (l6 : K.lookup f6 = some ⟨oc6, od6, .func (PySem.W.fnOf "closure" "closure" (defArgs s_closure) (defBody s_closure) (defScope s_closure) .none kV6 dc6 pm6 an6 cd6 ct6), sl6⟩) (c6 : PySem.W.codeIn K cd6 "closure" = true) (k6 : PySem.W.keepIn K (.ref f6) = true)
    (a7 : PySem.W.nsIn K mainGlobals "cosets" = some (some (.ref f7))) (l7 : K.lookup f7 = some ⟨oc7, od7, .func (PySem.W.fnOf "cosets" "cosets" (defArgs s_cosets) (defBody s_cosets) (defScope s_cosets) .none kV7 dc7 pm7 an7 cd7 ct7), sl7⟩) (c7 : PySem.W.codeIn K cd7 "cosets" = true) (k7 : PySem.W.keepIn K (.ref f7) = true)
    (a8 : PySem.W.nsIn K mainGlobals "_law_cell" = some (some (.ref f8))) (l8 : K.lookup f8 = some ⟨oc8, od8, .func (PySem.W.fnOf "_law_cell" "_law_cell" (defArgs s_law_cell) (defBody s_law_cell) (defScope s_law_cell) .none kV8 dc8 pm8 an8 cd8 ct8), sl8⟩) (c8 : PySem.W.codeIn K cd8 "_law_cell" = true) (k8 : PySem.W.keepIn K (.ref f8) = true)
    (a9 : PySem.W.nsIn K mainGlobals "_law_pool" = some (some (.ref f9))) (l9 : K.lookup f9 = some ⟨oc9, od9, .func (PySem.W.fnOf "_law_pool" "_law_pool" (defArgs s_law_pool) (defBody s_law_pool) (defScope s_law_pool) .none kV9 dc9 pm9 an9 cd9 ct9), sl9⟩) (c9 : PySem.W.codeIn K cd9 "_law_pool" = true) (k9 : PySem.W.keepIn K (.ref f9) = true)
    (a10 : PySem.W.nsIn K mainGlobals "_law_draw" = some (some (.ref f10))) (l10 : K.lookup f10 = some ⟨oc10, od10, .func (PySem.W.fnOf "_law_draw" "_law_draw" (defArgs s_law_draw) (defBody s_law_draw) (defScope s_law_draw) .none kV10 dc10 pm10 an10 cd10 ct10), sl10⟩) (c10 : PySem.W.codeIn K cd10 "_law_draw" = true) (k10 : PySem.W.keepIn K (.ref f10) = true)
    (a11 : PySem.W.nsIn K mainGlobals "_law_rounds" = some (some (.ref f11))) (l11 : K.lookup f11 = some ⟨oc11, od11, .func (PySem.W.fnOf "_law_rounds" "_law_rounds" (defArgs s_law_rounds) (defBody s_law_rounds) (defScope s_law_rounds) .none kV11 dc11 pm11 an11 cd11 ct11), sl11⟩) (c11 : PySem.W.codeIn K cd11 "_law_rounds" = true) (k11 : PySem.W.keepIn K (.ref f11) = true)
    (a12 : PySem.W.nsIn K mainGlobals "_law_times" = some (some (.ref f12))) (l12 : K.lookup f12 = some ⟨oc12, od12, .func (PySem.W.fnOf "_law_times" "_law_times" (defArgs s_law_times) (defBody s_law_times) (defScope s_law_times) .none kV12 dc12 pm12 an12 cd12 ct12), sl12⟩) (c12 : PySem.W.codeIn K cd12 "_law_times" = true) (k12 : PySem.W.keepIn K (.ref f12) = true)
    (a13 : PySem.W.nsIn K mainGlobals "_law_inverse" = some (some (.ref f13))) (l13 : K.lookup f13 = some ⟨oc13, od13, .func (PySem.W.fnOf "_law_inverse" "_law_inverse" (defArgs s_law_inverse) (defBody s_law_inverse) (defScope s_law_inverse) .none kV13 dc13 pm13 an13 cd13 ct13), sl13⟩) (c13 : PySem.W.codeIn K cd13 "_law_inverse" = true) (k13 : PySem.W.keepIn K (.ref f13) = true)
    (a14 : PySem.W.nsIn K mainGlobals "_law_row_draw" = some (some (.ref f14))) (l14 : K.lookup f14 = some ⟨oc14, od14, .func (PySem.W.fnOf "_law_row_draw" "_law_row_draw" (defArgs s_law_row_draw) (defBody s_law_row_draw) (defScope s_law_row_draw) .none kV14 dc14 pm14 an14 cd14 ct14), sl14⟩) (c14 : PySem.W.codeIn K cd14 "_law_row_draw" = true) (k14 : PySem.W.keepIn K (.ref f14) = true)
    (a15 : PySem.W.nsIn K mainGlobals "_law_same" = some (some (.ref f15))) (l15 : K.lookup f15 = some ⟨oc15, od15, .func (PySem.W.fnOf "_law_same" "_law_same" (defArgs s_law_same) (defBody s_law_same) (defScope s_law_same) .none kV15 dc15 pm15 an15 cd15 ct15), sl15⟩) (c15 : PySem.W.codeIn K cd15 "_law_same" = true) (k15 : PySem.W.keepIn K (.ref f15) = true)
    (a16 : PySem.W.nsIn K mainGlobals "_law_window_row" = some (some (.ref f16))) (l16 : K.lookup f16 = some ⟨oc16, od16, .func (PySem.W.fnOf "_law_window_row" "_law_window_row" (defArgs s_law_window_row) (defBody s_law_window_row) (defScope s_law_window_row) .none kV16 dc16 pm16 an16 cd16 ct16), sl16⟩) (c16 : PySem.W.codeIn K cd16 "_law_window_row" = true) (k16 : PySem.W.keepIn K (.ref f16) = true)
    (a17 : PySem.W.nsIn K mainGlobals "_law_closure" = some (some (.ref f17))) (l17 : K.lookup f17 = some ⟨oc17, od17, .func (PySem.W.fnOf "_law_closure" "_law_closure" (defArgs s_law_closure) (defBody s_law_closure) (defScope s_law_closure) .none kV17 dc17 pm17 an17 cd17 ct17), sl17⟩) (c17 : PySem.W.codeIn K cd17 "_law_closure" = true) (k17 : PySem.W.keepIn K (.ref f17) = true)
    (a18 : PySem.W.nsIn K mainGlobals "_law_turned" = some (some (.ref f18))) (l18 : K.lookup f18 = some ⟨oc18, od18, .func (PySem.W.fnOf "_law_turned" "_law_turned" (defArgs s_law_turned) (defBody s_law_turned) (defScope s_law_turned) .none kV18 dc18 pm18 an18 cd18 ct18), sl18⟩) (c18 : PySem.W.codeIn K cd18 "_law_turned" = true) (k18 : PySem.W.keepIn K (.ref f18) = true)
    (a19 : PySem.W.nsIn K mainGlobals "_law_outside" = some (some (.ref f19))) (l19 : K.lookup f19 = some ⟨oc19, od19, .func (PySem.W.fnOf "_law_outside" "_law_outside" (defArgs s_law_outside) (defBody s_law_outside) (defScope s_law_outside) .none kV19 dc19 pm19 an19 cd19 ct19), sl19⟩) (c19 : PySem.W.codeIn K cd19 "_law_outside" = true) (k19 : PySem.W.keepIn K (.ref f19) = true)
    (a20 : PySem.W.nsIn K mainGlobals "_law_refused" = some (some (.ref f20))) (l20 : K.lookup f20 = some ⟨oc20, od20, .func (PySem.W.fnOf "_law_refused" "_law_refused" (defArgs s_law_refused) (defBody s_law_refused) (defScope s_law_refused) .none kV20 dc20 pm20 an20 cd20 ct20), sl20⟩) (c20 : PySem.W.codeIn K cd20 "_law_refused" = true) (k20 : PySem.W.keepIn K (.ref f20) = true)
    (a21 : PySem.W.nsIn K mainGlobals "_law_larger" = some (some (.ref f21))) (l21 : K.lookup f21 = some ⟨oc21, od21, .func (PySem.W.fnOf "_law_larger" "_law_larger" (defArgs s_law_larger) (defBody s_law_larger) (defScope s_law_larger) .none kV21 dc21 pm21 an21 cd21 ct21), sl21⟩) (c21 : PySem.W.codeIn K cd21 "_law_larger" = true) (k21 : PySem.W.keepIn K (.ref f21) = true)
    (a22 : PySem.W.nsIn K mainGlobals "_law_within" = some (some (.ref f22))) (l22 : K.lookup f22 = some ⟨oc22, od22, .func (PySem.W.fnOf "_law_within" "_law_within" (defArgs s_law_within) (defBody s_law_within) (defScope s_law_within) .none kV22 dc22 pm22 an22 cd22 ct22), sl22⟩) (c22 : PySem.W.codeIn K cd22 "_law_within" = true) (k22 : PySem.W.keepIn K (.ref f22) = true)
    (a23 : PySem.W.nsIn K mainGlobals "law" = some (some (.ref f23))) (l23 : K.lookup f23 = some ⟨oc23, od23, .func (PySem.W.fnOf "law" "law" (defArgs s_law) (defBody s_law) (defScope s_law) .none kV23 dc23 pm23 an23 cd23 ct23), sl23⟩) (c23 : PySem.W.codeIn K cd23 "law" = true) (k23 : PySem.W.keepIn K (.ref f23) = true)
    (z_ValueError : PySem.W.nsIn K mainGlobals "ValueError" = some none)
    (z_abs : PySem.W.nsIn K mainGlobals "abs" = some none)
    (z_bool : PySem.W.nsIn K mainGlobals "bool" = some none)
    (z_int : PySem.W.nsIn K mainGlobals "int" = some none)
    (z_isinstance : PySem.W.nsIn K mainGlobals "isinstance" = some none)
    (z_len : PySem.W.nsIn K mainGlobals "len" = some none)
    (z_list : PySem.W.nsIn K mainGlobals "list" = some none)
    (z_min : PySem.W.nsIn K mainGlobals "min" = some none)
    (z_range : PySem.W.nsIn K mainGlobals "range" = some none)
    (z_sorted : PySem.W.nsIn K mainGlobals "sorted" = some none)
    (z_str : PySem.W.nsIn K mainGlobals "str" = some none)
    (z_tuple : PySem.W.nsIn K mainGlobals "tuple" = some none)
    (q_SIGNS : PySem.W.nsIn K mainGlobals "SIGNS" = some (some (.str "1234567890ET" t_SIGNS)))
    (e_ChamberError : PySem.W.nsIn K mainGlobals "ChamberError" = some (some (.ref C_ChamberError)))
    (e_BadStage : PySem.W.nsIn K mainGlobals "BadStage" = some (some (.ref C_BadStage)))
    (e_Unlike : PySem.W.nsIn K mainGlobals "Unlike" = some (some (.ref C_Unlike)))
    (e_TooManyHeads : PySem.W.nsIn K mainGlobals "TooManyHeads" = some (some (.ref C_TooManyHeads)))
    (e_TooManyPlaces : PySem.W.nsIn K mainGlobals "TooManyPlaces" = some (some (.ref C_TooManyPlaces)))
    (xs : exsB K C_ChamberError [("ChamberError", C_ChamberError), ("BadStage", C_BadStage), ("Unlike", C_Unlike), ("TooManyHeads", C_TooManyHeads), ("TooManyPlaces", C_TooManyPlaces)] = true)
    (zsu : PySem.W.nsIn K mainGlobals "super" = some none) (tp : (l.prog.main.scope.names.lookup ("super" : Str)).isSome = false)
    (i1_ChamberError : PySem.W.findIn K (.ref C_ChamberError) "__init__" = some (some (.ref fI_ChamberError))) (i2_ChamberError : PySem.W.typeIn K (.ref fI_ChamberError) = some (.type "function"))
    (i3_ChamberError : K.lookup fI_ChamberError = some ⟨oc_ChamberError, od_ChamberError, .func (PySem.W.ksFn "__init__" "ChamberError.__init__" (defArgs i_ChamberError) (defBody i_ChamberError) (defScope i_ChamberError) .none kV_ChamberError dc_ChamberError pm_ChamberError an_ChamberError cd_ChamberError ct_ChamberError cc_ChamberError), sl_ChamberError⟩)
    (i4_ChamberError : PySem.W.codeIn K cd_ChamberError "ChamberError.__init__" = true) (i5_ChamberError : K.lookup cc_ChamberError = some ⟨cl_ChamberError, cld_ChamberError, .cell (some (.ref C_ChamberError)), csl_ChamberError⟩) (i6_ChamberError : fileB K cd_ChamberError l.prog.main.file = true)
    (i1_BadStage : PySem.W.findIn K (.ref C_BadStage) "__init__" = some (some (.ref fI_BadStage))) (i2_BadStage : PySem.W.typeIn K (.ref fI_BadStage) = some (.type "function"))
    (i3_BadStage : K.lookup fI_BadStage = some ⟨oc_BadStage, od_BadStage, .func (PySem.W.ksFn "__init__" "BadStage.__init__" (defArgs i_BadStage) (defBody i_BadStage) (defScope i_BadStage) .none kV_BadStage dc_BadStage pm_BadStage an_BadStage cd_BadStage ct_BadStage cc_BadStage), sl_BadStage⟩)
    (i4_BadStage : PySem.W.codeIn K cd_BadStage "BadStage.__init__" = true) (i5_BadStage : K.lookup cc_BadStage = some ⟨cl_BadStage, cld_BadStage, .cell (some (.ref C_BadStage)), csl_BadStage⟩) (i6_BadStage : fileB K cd_BadStage l.prog.main.file = true)
    (i7_BadStage : PySem.W.ks_superIn K C_BadStage C_BadStage "__init__" = some (some (.ref fI_ChamberError))) (i8_BadStage : PySem.W.mroIn K C_BadStage (.ref C_BadStage) = some true)
    (i1_Unlike : PySem.W.findIn K (.ref C_Unlike) "__init__" = some (some (.ref fI_Unlike))) (i2_Unlike : PySem.W.typeIn K (.ref fI_Unlike) = some (.type "function"))
    (i3_Unlike : K.lookup fI_Unlike = some ⟨oc_Unlike, od_Unlike, .func (PySem.W.ksFn "__init__" "Unlike.__init__" (defArgs i_Unlike) (defBody i_Unlike) (defScope i_Unlike) .none kV_Unlike dc_Unlike pm_Unlike an_Unlike cd_Unlike ct_Unlike cc_Unlike), sl_Unlike⟩)
    (i4_Unlike : PySem.W.codeIn K cd_Unlike "Unlike.__init__" = true) (i5_Unlike : K.lookup cc_Unlike = some ⟨cl_Unlike, cld_Unlike, .cell (some (.ref C_Unlike)), csl_Unlike⟩) (i6_Unlike : fileB K cd_Unlike l.prog.main.file = true)
    (i7_Unlike : PySem.W.ks_superIn K C_Unlike C_Unlike "__init__" = some (some (.ref fI_ChamberError))) (i8_Unlike : PySem.W.mroIn K C_Unlike (.ref C_Unlike) = some true)
    (i1_TooManyHeads : PySem.W.findIn K (.ref C_TooManyHeads) "__init__" = some (some (.ref fI_TooManyHeads))) (i2_TooManyHeads : PySem.W.typeIn K (.ref fI_TooManyHeads) = some (.type "function"))
    (i3_TooManyHeads : K.lookup fI_TooManyHeads = some ⟨oc_TooManyHeads, od_TooManyHeads, .func (PySem.W.ksFn "__init__" "TooManyHeads.__init__" (defArgs i_TooManyHeads) (defBody i_TooManyHeads) (defScope i_TooManyHeads) .none kV_TooManyHeads dc_TooManyHeads pm_TooManyHeads an_TooManyHeads cd_TooManyHeads ct_TooManyHeads cc_TooManyHeads), sl_TooManyHeads⟩)
    (i4_TooManyHeads : PySem.W.codeIn K cd_TooManyHeads "TooManyHeads.__init__" = true) (i5_TooManyHeads : K.lookup cc_TooManyHeads = some ⟨cl_TooManyHeads, cld_TooManyHeads, .cell (some (.ref C_TooManyHeads)), csl_TooManyHeads⟩) (i6_TooManyHeads : fileB K cd_TooManyHeads l.prog.main.file = true)
    (i7_TooManyHeads : PySem.W.ks_superIn K C_TooManyHeads C_TooManyHeads "__init__" = some (some (.ref fI_ChamberError))) (i8_TooManyHeads : PySem.W.mroIn K C_TooManyHeads (.ref C_TooManyHeads) = some true)
    (i9_TooManyHeads : PySem.W.findIn K (.ref C_TooManyHeads) "most" = some none)
    (kf : PySem.W.fnIn K fI_ChamberError = true)
    : ∃ fd : FuncData, (∀ (s : Shared) (v : Value), BindsTo s fd ⟨[v], []⟩ [("script", v)]) ∧ ∀ base : Heap, K.In base → base.Ns mainGlobals mg → FnOk l.prog w K mg base CX0 10 fa fd ["script"] (sp_law K) := by
  have e := hfa.symm.trans (PySem.W.mg_of X G a23)
  cases e
  have B : Bn mg := ⟨PySem.W.mg_none_of X G z_ValueError, PySem.W.mg_none_of X G z_abs, PySem.W.mg_none_of X G z_bool, PySem.W.mg_none_of X G z_int, PySem.W.mg_none_of X G z_isinstance, PySem.W.mg_none_of X G z_len, PySem.W.mg_none_of X G z_list, PySem.W.mg_none_of X G z_min, PySem.W.mg_none_of X G z_range, PySem.W.mg_none_of X G z_sorted, PySem.W.mg_none_of X G z_str, PySem.W.mg_none_of X G z_tuple, ⟨_, PySem.W.mg_of X G q_SIGNS⟩⟩
  have D1 : At K mg "check_stage" s_check_stage := ⟨_, _, fun_mk (st := s_check_stage) l1 c1 k1, PySem.W.mg_of X G a1⟩
  have D2 : At K mg "rounds" s_rounds := ⟨_, _, fun_mk (st := s_rounds) l2 c2 k2, PySem.W.mg_of X G a2⟩
  have D3 : At K mg "times" s_times := ⟨_, _, fun_mk (st := s_times) l3 c3 k3, PySem.W.mg_of X G a3⟩
  have D4 : At K mg "check_stages" s_check_stages := ⟨_, _, fun_mk (st := s_check_stages) l4 c4 k4, PySem.W.mg_of X G a4⟩
  have D5 : At K mg "products_of" s_products_of := ⟨_, _, fun_mk (st := s_products_of) l5 c5 k5, PySem.W.mg_of X G a5⟩
  have D6 : At K mg "closure" s_closure := ⟨_, _, fun_mk (st := s_closure) l6 c6 k6, PySem.W.mg_of X G a6⟩
  have D7 : At K mg "cosets" s_cosets := ⟨_, _, fun_mk (st := s_cosets) l7 c7 k7, PySem.W.mg_of X G a7⟩
  have D8 : At K mg "_law_cell" s_law_cell := ⟨_, _, fun_mk (st := s_law_cell) l8 c8 k8, PySem.W.mg_of X G a8⟩
  have D9 : At K mg "_law_pool" s_law_pool := ⟨_, _, fun_mk (st := s_law_pool) l9 c9 k9, PySem.W.mg_of X G a9⟩
  have D10 : At K mg "_law_draw" s_law_draw := ⟨_, _, fun_mk (st := s_law_draw) l10 c10 k10, PySem.W.mg_of X G a10⟩
  have D11 : At K mg "_law_rounds" s_law_rounds := ⟨_, _, fun_mk (st := s_law_rounds) l11 c11 k11, PySem.W.mg_of X G a11⟩
  have D12 : At K mg "_law_times" s_law_times := ⟨_, _, fun_mk (st := s_law_times) l12 c12 k12, PySem.W.mg_of X G a12⟩
  have D13 : At K mg "_law_inverse" s_law_inverse := ⟨_, _, fun_mk (st := s_law_inverse) l13 c13 k13, PySem.W.mg_of X G a13⟩
  have D14 : At K mg "_law_row_draw" s_law_row_draw := ⟨_, _, fun_mk (st := s_law_row_draw) l14 c14 k14, PySem.W.mg_of X G a14⟩
  have D15 : At K mg "_law_same" s_law_same := ⟨_, _, fun_mk (st := s_law_same) l15 c15 k15, PySem.W.mg_of X G a15⟩
  have D16 : At K mg "_law_window_row" s_law_window_row := ⟨_, _, fun_mk (st := s_law_window_row) l16 c16 k16, PySem.W.mg_of X G a16⟩
  have D17 : At K mg "_law_closure" s_law_closure := ⟨_, _, fun_mk (st := s_law_closure) l17 c17 k17, PySem.W.mg_of X G a17⟩
  have D18 : At K mg "_law_turned" s_law_turned := ⟨_, _, fun_mk (st := s_law_turned) l18 c18 k18, PySem.W.mg_of X G a18⟩
  have D19 : At K mg "_law_outside" s_law_outside := ⟨_, _, fun_mk (st := s_law_outside) l19 c19 k19, PySem.W.mg_of X G a19⟩
  have D20 : At K mg "_law_refused" s_law_refused := ⟨_, _, fun_mk (st := s_law_refused) l20 c20 k20, PySem.W.mg_of X G a20⟩
  have D21 : At K mg "_law_larger" s_law_larger := ⟨_, _, fun_mk (st := s_law_larger) l21 c21 k21, PySem.W.mg_of X G a21⟩
  have D22 : At K mg "_law_within" s_law_within := ⟨_, _, fun_mk (st := s_law_within) l22 c22 k22, PySem.W.mg_of X G a22⟩
  have D23 : At K mg "law" s_law := ⟨_, _, fun_mk (st := s_law) l23 c23 k23, PySem.W.mg_of X G a23⟩
  have FL := fun_mk (st := s_law) l23 c23 k23
  have M_ChamberError : mg "ChamberError" = some (.ref C_ChamberError) := PySem.W.mg_of X G e_ChamberError
  have M_BadStage : mg "BadStage" = some (.ref C_BadStage) := PySem.W.mg_of X G e_BadStage
  have M_Unlike : mg "Unlike" = some (.ref C_Unlike) := PySem.W.mg_of X G e_Unlike
  have M_TooManyHeads : mg "TooManyHeads" = some (.ref C_TooManyHeads) := PySem.W.mg_of X G e_TooManyHeads
  have M_TooManyPlaces : mg "TooManyPlaces" = some (.ref C_TooManyPlaces) := PySem.W.mg_of X G e_TooManyPlaces
  have XS : Exs K (ecOf mg) XN := exs_of (l := [("ChamberError", C_ChamberError), ("BadStage", C_BadStage), ("Unlike", C_Unlike), ("TooManyHeads", C_TooManyHeads), ("TooManyPlaces", C_TooManyPlaces)]) M_ChamberError (by simp only [List.forall_mem_cons]; exact ⟨M_ChamberError, M_BadStage, M_Unlike, M_TooManyHeads, M_TooManyPlaces, fun _ h => nomatch h⟩) xs
  have EX : ExAt mg (ecOf mg) XN := by
    unfold ExAt
    simp only [XN, List.forall_mem_cons]
    exact ⟨by rw [ecOf_at M_ChamberError]; exact M_ChamberError, by rw [ecOf_at M_BadStage]; exact M_BadStage, by rw [ecOf_at M_Unlike]; exact M_Unlike, by rw [ecOf_at M_TooManyHeads]; exact M_TooManyHeads, by rw [ecOf_at M_TooManyPlaces]; exact M_TooManyPlaces, fun _ h => nomatch h⟩
  have BC_ChamberError : Bad K C_ChamberError C_ChamberError := by have z := XS.bad "ChamberError" (by decide); simp only [ecOf_at M_ChamberError, ecOf_at M_ChamberError] at z; exact z
  have BC_BadStage : Bad K C_BadStage C_ChamberError := by have z := XS.bad "BadStage" (by decide); simp only [ecOf_at M_BadStage, ecOf_at M_ChamberError] at z; exact z
  have BC_Unlike : Bad K C_Unlike C_ChamberError := by have z := XS.bad "Unlike" (by decide); simp only [ecOf_at M_Unlike, ecOf_at M_ChamberError] at z; exact z
  have BC_TooManyHeads : Bad K C_TooManyHeads C_ChamberError := by have z := XS.bad "TooManyHeads" (by decide); simp only [ecOf_at M_TooManyHeads, ecOf_at M_ChamberError] at z; exact z
  have BC_TooManyPlaces : Bad K C_TooManyPlaces C_ChamberError := by have z := XS.bad "TooManyPlaces" (by decide); simp only [ecOf_at M_TooManyPlaces, ecOf_at M_ChamberError] at z; exact z
  refine ⟨PySem.W.fnOf "law" "law" (defArgs s_law) (defBody s_law) (defScope s_law) .none kV23 dc23 pm23 an23 cd23 ct23, fun s v => .of_eq rfl, fun base _ _ => ?_⟩
  have FC := ok_CE (w := w) (base := base) (D := C_ChamberError) (S := (⟨⟨_, _, _, _, _, _, _, _, _, _, _, _, _, _, rfl, i3_ChamberError, i4_ChamberError, i5_ChamberError, i6_ChamberError⟩, ⟨rfl, rfl, rfl, by decide +kernel, rfl, by decide +kernel, by decide +kernel, by decide +kernel⟩, rfl, rfl, rfl, ⟨_, rfl, rfl⟩, PySem.W.mg_none_of X G zsu, tp, BC_ChamberError.cls⟩ : SupI l.prog K mg "ChamberError.__init__" i_ChamberError C_ChamberError ["self", "word"] fI_ChamberError _)) rfl ⟨_, fun _ => rfl⟩ rfl
  have BCE : Binds K _ ["self", "word"] [] := Binds.all (fd := PySem.W.ksFn "__init__" "ChamberError.__init__" (defArgs i_ChamberError) (defBody i_ChamberError) (defScope i_ChamberError) .none kV_ChamberError dc_ChamberError pm_ChamberError an_ChamberError cd_ChamberError ct_ChamberError cc_ChamberError) fun us hl => match us, hl with | [_, _], _ => rfl
  have Z_BadStage : Rz0 l.prog w K mg base "BadStage" (ecOf mg "BadStage") := by
    rw [ecOf_at M_BadStage]
    exact ⟨⟨_, _, i1_BadStage, i2_BadStage, ok_B0 (w := w) (base := base) (nm := "BadStage") (S := (⟨⟨_, _, _, _, _, _, _, _, _, _, _, _, _, _, rfl, i3_BadStage, i4_BadStage, i5_BadStage, i6_BadStage⟩, ⟨rfl, rfl, rfl, by decide +kernel, rfl, by decide +kernel, by decide +kernel, by decide +kernel⟩, rfl, rfl, rfl, ⟨_, rfl, rfl⟩, PySem.W.mg_none_of X G zsu, tp, BC_BadStage.cls⟩ : SupI l.prog K mg "BadStage.__init__" i_BadStage C_BadStage ["self"] fI_BadStage _)) rfl ⟨_, fun _ => rfl⟩ FC BCE BC_BadStage i8_BadStage i7_BadStage i2_ChamberError kf, Binds.all fun us hl => match us, hl with | [_], _ => rfl⟩, BC_BadStage.ox, M_BadStage⟩
  have Z_TooManyHeads : Rz1 l.prog w K mg base "TooManyHeads" "most" (ecOf mg "TooManyHeads") := by
    rw [ecOf_at M_TooManyHeads]
    exact ⟨⟨_, _, i1_TooManyHeads, i2_TooManyHeads, ok_B1 (w := w) (base := base) (nm := "TooManyHeads") (at1 := "most") (S := (⟨⟨_, _, _, _, _, _, _, _, _, _, _, _, _, _, rfl, i3_TooManyHeads, i4_TooManyHeads, i5_TooManyHeads, i6_TooManyHeads⟩, ⟨rfl, rfl, rfl, by decide +kernel, rfl, by decide +kernel, by decide +kernel, by decide +kernel⟩, rfl, rfl, rfl, ⟨_, rfl, rfl⟩, PySem.W.mg_none_of X G zsu, tp, BC_TooManyHeads.cls⟩ : SupI l.prog K mg "TooManyHeads.__init__" i_TooManyHeads C_TooManyHeads ["self", "most"] fI_TooManyHeads _)) rfl ⟨_, fun _ => rfl⟩ rfl (by decide) (by decide) i9_TooManyHeads FC BCE BC_TooManyHeads i8_TooManyHeads i7_TooManyHeads i2_ChamberError kf, Binds.all fun us hl => match us, hl with | [_, _], _ => rfl⟩, BC_TooManyHeads.ox, M_TooManyHeads⟩
  have Z_Unlike : Rz0 l.prog w K mg base "Unlike" (ecOf mg "Unlike") := by
    rw [ecOf_at M_Unlike]
    exact ⟨⟨_, _, i1_Unlike, i2_Unlike, ok_B0 (w := w) (base := base) (nm := "Unlike") (S := (⟨⟨_, _, _, _, _, _, _, _, _, _, _, _, _, _, rfl, i3_Unlike, i4_Unlike, i5_Unlike, i6_Unlike⟩, ⟨rfl, rfl, rfl, by decide +kernel, rfl, by decide +kernel, by decide +kernel, by decide +kernel⟩, rfl, rfl, rfl, ⟨_, rfl, rfl⟩, PySem.W.mg_none_of X G zsu, tp, BC_Unlike.cls⟩ : SupI l.prog K mg "Unlike.__init__" i_Unlike C_Unlike ["self"] fI_Unlike _)) rfl ⟨_, fun _ => rfl⟩ FC BCE BC_Unlike i8_Unlike i7_Unlike i2_ChamberError kf, Binds.all fun us hl => match us, hl with | [_], _ => rfl⟩, BC_Unlike.ox, M_Unlike⟩
  have G1 := ok_check_stage (P := l.prog) (w := w) (base := base) D1 B XS EX Z_BadStage
  have G2 := ok_rounds (P := l.prog) (w := w) (base := base) D2 B XS EX G1
  have G3 := ok_times (P := l.prog) (w := w) (base := base) D3 B XS EX Z_Unlike
  have G4 := ok_check_stages (P := l.prog) (w := w) (base := base) D4 B XS EX Z_Unlike
  have G5 := ok_products_of (P := l.prog) (w := w) (base := base) D5 B XS EX G2 G3 Z_TooManyHeads
  have G6 := ok_closure (P := l.prog) (w := w) (base := base) D6 B XS EX G1 G4 G5
  have G7 := ok_cosets (P := l.prog) (w := w) (base := base) D7 B XS EX G6 G3
  have G8 := ok_law_cell (P := l.prog) (w := w) (base := base) D8 B
  have G9 := ok_law_pool (P := l.prog) (w := w) (base := base) D9 B G8
  have G10 := ok_law_draw (P := l.prog) (w := w) (base := base) D10 B
  have G11 := ok_law_rounds (P := l.prog) (w := w) (base := base) D11 B
  have G12 := ok_law_times (P := l.prog) (w := w) (base := base) D12 B
  have G13 := ok_law_inverse (P := l.prog) (w := w) (base := base) D13 B
  have G14 := ok_law_row_draw (P := l.prog) (w := w) (base := base) D14 B G10
  have G15 := ok_law_same (P := l.prog) (w := w) (base := base) D15 B
  have G16 := ok_law_window_row (P := l.prog) (w := w) (base := base) D16 B G14
  have G17 := ok_law_closure (P := l.prog) (w := w) (base := base) D17 B G11 G12
  have G18 := ok_law_turned (P := l.prog) (w := w) (base := base) D18 B G10
  have G19 := ok_law_outside (P := l.prog) (w := w) (base := base) D19 B G14 G10
  have G20 := ok_law_refused (P := l.prog) (w := w) (base := base) D20 B XS EX G6 G15
  have G21 := ok_law_larger (P := l.prog) (w := w) (base := base) D21 B XS EX G20 G17 G15 G6
  have G22 := ok_law_within (P := l.prog) (w := w) (base := base) D22 B XS EX G17 G15 G6 G7
  exact ok_lawF FL B XS EX G9 G10 G14 G16 G17 G20 G6 G15 G18 G12 G13 G19 G21 G22
end K5.K7
end Kb
open PySem PySem.W PyProof.Rows
set_option maxRecDepth 100000 in
set_option maxHeartbeats 0 in
theorem PySem.Challenge.cw_ringingchamber_k07_whole_closure_of_clos_holds : PySem.Challenge.rw_ringingchamber_k07_whole_closure_of_clos.Holds := by
  w_on; o_law; k_head; (case hw => w_witness2)
  k_fill
  refine L2.walk_of (l := PySem.Challenge.rw_ringingchamber_k07_whole_closure_of_clos) (n := 63) (k := 10) (x := "script") (CX := fun _ => L2.CX0) (sp := fun w => Kb.K5.K7.sp_law _) rfl (by decide) rfl ⟨rfl, by decide, by decide⟩ (fun w h Y => PySem.W.kIn_of Y) ?F (fun _ _ a ns hl _ hS => ⟨a, ns, rfl, hS, hl, fun _ => rfl⟩) (fun _ _ _ _ _ h => h)
  case F =>
    intro w mg fa h KX G hmg
    refine' Kb.K5.K7.all_mk KX G hmg ?a1 ?l1 ?c1 ?k1 ?a2 ?l2 ?c2 ?k2 ?a3 ?l3 ?c3 ?k3 ?a4 ?l4 ?c4 ?k4 ?a5 ?l5 ?c5 ?k5 ?a6 ?l6 ?c6 ?k6 ?a7 ?l7 ?c7 ?k7 ?a8 ?l8 ?c8 ?k8 ?a9 ?l9 ?c9 ?k9 ?a10 ?l10 ?c10 ?k10 ?a11 ?l11 ?c11 ?k11 ?a12 ?l12 ?c12 ?k12 ?a13 ?l13 ?c13 ?k13 ?a14 ?l14 ?c14 ?k14 ?a15 ?l15 ?c15 ?k15 ?a16 ?l16 ?c16 ?k16 ?a17 ?l17 ?c17 ?k17 ?a18 ?l18 ?c18 ?k18 ?a19 ?l19 ?c19 ?k19 ?a20 ?l20 ?c20 ?k20 ?a21 ?l21 ?c21 ?k21 ?a22 ?l22 ?c22 ?k22 ?a23 ?l23 ?c23 ?k23 ?z_ValueError ?z_abs ?z_bool ?z_int ?z_isinstance ?z_len ?z_list ?z_min ?z_range ?z_sorted ?z_str ?z_tuple ?q_SIGNS ?e_ChamberError ?e_BadStage ?e_Unlike ?e_TooManyHeads ?e_TooManyPlaces ?xs ?zsu ?tp ?i1_ChamberError ?i2_ChamberError ?i3_ChamberError ?i4_ChamberError ?i5_ChamberError ?i6_ChamberError ?i1_BadStage ?i2_BadStage ?i3_BadStage ?i4_BadStage ?i5_BadStage ?i6_BadStage ?i7_BadStage ?i8_BadStage ?i1_Unlike ?i2_Unlike ?i3_Unlike ?i4_Unlike ?i5_Unlike ?i6_Unlike ?i7_Unlike ?i8_Unlike ?i1_TooManyHeads ?i2_TooManyHeads ?i3_TooManyHeads ?i4_TooManyHeads ?i5_TooManyHeads ?i6_TooManyHeads ?i7_TooManyHeads ?i8_TooManyHeads ?i9_TooManyHeads ?kf
    (case a1 => k_is); (case l1 => k_is); (case c1 => k_is); (case k1 => k_is); (case a2 => k_is); (case l2 => k_is); (case c2 => k_is); (case k2 => k_is); (case a3 => k_is); (case l3 => k_is); (case c3 => k_is); (case k3 => k_is); (case a4 => k_is); (case l4 => k_is); (case c4 => k_is); (case k4 => k_is); (case a5 => k_is); (case l5 => k_is); (case c5 => k_is); (case k5 => k_is); (case a6 => k_is); (case l6 => k_is); (case c6 => k_is); (case k6 => k_is); (case a7 => k_is); (case l7 => k_is); (case c7 => k_is); (case k7 => k_is); (case a8 => k_is); (case l8 => k_is); (case c8 => k_is); (case k8 => k_is); (case a9 => k_is); (case l9 => k_is); (case c9 => k_is); (case k9 => k_is); (case a10 => k_is); (case l10 => k_is); (case c10 => k_is); (case k10 => k_is); (case a11 => k_is); (case l11 => k_is); (case c11 => k_is); (case k11 => k_is); (case a12 => k_is); (case l12 => k_is); (case c12 => k_is); (case k12 => k_is); (case a13 => k_is); (case l13 => k_is); (case c13 => k_is); (case k13 => k_is); (case a14 => k_is); (case l14 => k_is); (case c14 => k_is); (case k14 => k_is); (case a15 => k_is); (case l15 => k_is); (case c15 => k_is); (case k15 => k_is); (case a16 => k_is); (case l16 => k_is); (case c16 => k_is); (case k16 => k_is); (case a17 => k_is); (case l17 => k_is); (case c17 => k_is); (case k17 => k_is); (case a18 => k_is); (case l18 => k_is); (case c18 => k_is); (case k18 => k_is); (case a19 => k_is); (case l19 => k_is); (case c19 => k_is); (case k19 => k_is); (case a20 => k_is); (case l20 => k_is); (case c20 => k_is); (case k20 => k_is); (case a21 => k_is); (case l21 => k_is); (case c21 => k_is); (case k21 => k_is); (case a22 => k_is); (case l22 => k_is); (case c22 => k_is); (case k22 => k_is); (case a23 => k_is); (case l23 => k_is); (case c23 => k_is); (case k23 => k_is); (case z_ValueError => k_is); (case z_abs => k_is); (case z_bool => k_is); (case z_int => k_is); (case z_isinstance => k_is); (case z_len => k_is); (case z_list => k_is); (case z_min => k_is); (case z_range => k_is); (case z_sorted => k_is); (case z_str => k_is); (case z_tuple => k_is); (case q_SIGNS => k_is); (case e_ChamberError => k_is); (case e_BadStage => k_is); (case e_Unlike => k_is); (case e_TooManyHeads => k_is); (case e_TooManyPlaces => k_is); (case xs => kernel_rfl); (case zsu => k_is); (case tp => decide +kernel); (case i1_ChamberError => k_is); (case i2_ChamberError => k_is); (case i3_ChamberError => k_is); (case i4_ChamberError => k_is); (case i5_ChamberError => k_is); (case i6_ChamberError => kernel_rfl); (case i1_BadStage => k_is); (case i2_BadStage => k_is); (case i3_BadStage => k_is); (case i4_BadStage => k_is); (case i5_BadStage => k_is); (case i6_BadStage => kernel_rfl); (case i7_BadStage => kernel_rfl); (case i8_BadStage => k_is); (case i1_Unlike => k_is); (case i2_Unlike => k_is); (case i3_Unlike => k_is); (case i4_Unlike => k_is); (case i5_Unlike => k_is); (case i6_Unlike => kernel_rfl); (case i7_Unlike => kernel_rfl); (case i8_Unlike => k_is); (case i1_TooManyHeads => k_is); (case i2_TooManyHeads => k_is); (case i3_TooManyHeads => k_is); (case i4_TooManyHeads => k_is); (case i5_TooManyHeads => k_is); (case i6_TooManyHeads => kernel_rfl); (case i7_TooManyHeads => kernel_rfl); (case i8_TooManyHeads => k_is); (case i9_TooManyHeads => k_is); (case kf => k_is)
