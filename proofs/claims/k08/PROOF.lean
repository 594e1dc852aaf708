import PyProof.Rows.All
import Wide.All
import OpenK.AllK
import Wide.FinOn
import HandS.ForMost
import HandS.Conv
import HandS.IsInst
import HandS.Wide
import HandS.TupAny
import HandS.TupLe
import HandS.TupMul
import KE.KExcSuper
import KE.KExcIs
import HandS.Exc
import HandS.ExcInit
import HandS.ExcField
import HandS.ExcIs
import HandS.WordsExc
import KE.GoesEnumKw
import HandS.Iter
import HandS.Strs
import HandS.SetFor
import HandS.List
import KE.LtData
import HandS.Style
import HandS.Codes
import HandS.More
import KE.SortData
import PyProof.Rows.StrFirst
import PyProof.SliceStr2
import HandS.SortInts
import PySem.Challenge.RW_ringingchamber_k08_changes_of_a_stage
set_option Elab.async false
set_option linter.all false
set_option maxRecDepth 100000
namespace Kb
open PySem PySem.Spec PyProof.Rows L2
section
variable {X : Cx}
def rAddU (K : PySem.W.Frag) : R2 := fun x y H Q => rI0 (fun i j => .int (i + j)) x y H Q ∨
  ((fun x y H Q => ∃ i j, x = V.str i ∧ y = V.str j ∧ i.length + j.length ≤ sizeLine ∧ Q (V.str (i ++ j)) H) x y H Q ∨ (rCat x y H Q ∨ rCatA K x y H Q))
theorem op_addU : OpR X (binaryOp .Add) (rAddU X.K) := OpR.or op_add (OpR.or op_add_str (OpR.or op_cat op_catA))
def rMulU (K : PySem.W.Frag) : R2 := fun x y H Q => rI CMul (fun i j => .int (i * j)) x y H Q ∨ (rI CMulW (fun i j => .int (i * j)) x y H Q ∨ (rRep x y H Q ∨ rRepT K x y H Q))
theorem op_mulU : OpR X (binaryOp .Mult) (rMulU X.K) := OpR.or op_mul (OpR.or op_mulW (OpR.or op_rep op_repT))
def rFdivU : R2 := rI CDivW (fun i j => .int (i / j))
theorem op_fdivU : OpR X (binaryOp .FloorDiv) rFdivU := op_fdivW
def rModU : R2 := rI (fun _ j => 0 < j) (fun i j => .int (i % j))
theorem op_modU : OpR X (binaryOp .Mod) rModU := op_mod
def rSubU : R2 := rI0 (fun i j => .int (i - j))
theorem op_subU : OpR X (binaryOp .Sub) rSubU := op_sub
def rPowU : R2 := rI CPow (fun i j => .int (i ^ j.toNat))
theorem op_powU : OpR X (binaryOp .Pow) rPowU := op_pow
def rEqU (K : PySem.W.Frag) : R2 := fun x y H Q => rEq x y H Q ∨ rEqD K x y H Q
theorem op_eqU (hu : X.A.units + 64 < cLine) : OpR X (compareOp .Eq) (rEqU X.K) := OpR.or op_eq (op_eqD hu)
def rNeU (K : PySem.W.Frag) : R2 := fun x y H Q => rNe x y H Q ∨ rNeD K x y H Q
theorem op_neU (hu : X.A.units + 64 < cLine) : OpR X (compareOp .NotEq) (rNeU X.K) := OpR.or op_ne (op_neD hu)
def rLtU (K : PySem.W.Frag) : R2 := fun x y H Q => rI0 (fun i j => .bl (decide (i < j))) x y H Q ∨
  ((fun x y H Q => ∃ i j, x = V.str i ∧ y = V.str j ∧ Q (V.bl (decide (i.cps.toList < j.cps.toList))) H) x y H Q ∨ rLtT K x y H Q)
theorem op_ltU (hu : X.A.units + 64 < cLine) : OpR X (compareOp .Lt) (rLtU X.K) := OpR.or op_lt (OpR.or op_lt_str (op_ltT (by omega)))
def rLeU (K : PySem.W.Frag) : R2 := fun x y H Q => rI0 (fun i j => .bl (decide (i ≤ j))) x y H Q ∨
  ((fun x y H Q => ∃ i j, x = V.str i ∧ y = V.str j ∧ Q (V.bl (!decide (j.cps.toList < i.cps.toList))) H) x y H Q ∨ rLeT K x y H Q)
theorem op_leU (hu : X.A.units + 64 < cLine) : OpR X (compareOp .LtE) (rLeU X.K) := OpR.or op_le (OpR.or op_le_str (op_leT (by omega)))
def rGtU : R2 := fun x y H Q => rI0 (fun i j => .bl (decide (j < i))) x y H Q ∨
  (fun x y H Q => ∃ i j, x = V.str i ∧ y = V.str j ∧ Q (V.bl (decide (j.cps.toList < i.cps.toList))) H) x y H Q
theorem op_gtU : OpR X (compareOp .Gt) rGtU := OpR.or op_gt op_gt_str
def rGeU : R2 := fun x y H Q => rI0 (fun i j => .bl (decide (j ≤ i))) x y H Q ∨
  (fun x y H Q => ∃ i j, x = V.str i ∧ y = V.str j ∧ Q (V.bl (!decide (i.cps.toList < j.cps.toList))) H) x y H Q
theorem op_geU : OpR X (compareOp .GtE) rGeU := OpR.or op_ge op_ge_str
def rInU (K : PySem.W.Frag) : R2 := fun x y H Q => rIn K false x y H Q ∨
  (fun x y H Q => ∃ (c : Nat) (z : Str), x = V.str ⟨#[c]⟩ ∧ y = V.str z ∧ Q (V.bl (decide (c ∈ z.cps.toList))) H) x y H Q
theorem op_inU : OpR X (compareOp .In) (rInU X.K) := OpR.or op_in_seq op_in_sign
def rNotInU (K : PySem.W.Frag) : R2 := fun x y H Q => rIn K true x y H Q ∨
  (fun x y H Q => ∃ (c : Nat) (z : Str), x = V.str ⟨#[c]⟩ ∧ y = V.str z ∧ Q (V.bl (!decide (c ∈ z.cps.toList))) H) x y H Q
theorem op_notInU : OpR X (compareOp .NotIn) (rNotInU X.K) := OpR.or op_notIn_seq op_notIn_sign
def rIsNU : R2 := fun x y H Q => y = V.non ∧ Q (V.bl (decide (x = V.non))) H
def rNotNU : R2 := fun x y H Q => y = V.non ∧ Q (V.bl (!decide (x = V.non))) H
theorem op_notNU : OpR X (compareOp .IsNot) rNotNU := op_notN
def rSlU (K : PySem.W.Frag) : V → Option Int → Option Int → Hp → VK → Prop := fun x lo hi H Q => rSlL K x lo hi H Q ∨ (rSlA K x lo hi H Q ∨ rSlS x lo hi H Q)
theorem sl_U : SlR X (rSlU X.K) := SlR.or sl_list (SlR.or sl_tupA sl_str)
def rLenU (K : PySem.W.Frag) : List V → Hp → VK → Prop := fun xs H Q => (fun xs H Q => ∃ p ys, xs = [V.ref p] ∧ (SqL K H p ys ∨ SqT K H p ys) ∧ Q (V.int ys.length) H) xs H Q ∨
  ((fun xs H Q => ∃ z, xs = [V.str z] ∧ z.length ≤ sizeLine ∧ Q (V.int z.length) H) xs H Q ∨ (fun xs H Q => ∃ a kvs, xs = [V.ref a] ∧ H a = some (.dK kvs) ∧ Q (.int kvs.length) H) xs H Q)
theorem call_lenU : CallR X (.builtin "len") (rLenU X.K) := CallR.or call_len_seq (CallR.or call_len_str call_lenD)
def rIntU : List V → Hp → VK → Prop := fun xs H Q => ∃ i, xs = [V.int i] ∧ Q (V.int i) H
theorem call_intU : CallR X (.type "int") rIntU := fun pins s σ H xs us Q I r h => call_int1 pins s σ H xs us Q I r (.inl h)
def rAbsU : List V → Hp → VK → Prop := fun xs H Q => ∃ i, xs = [V.int i] ∧ Q (V.int (if i < 0 then -i else i)) H
theorem call_absU : CallR X (.builtin "abs") rAbsU := call_abs
def rListU (K : PySem.W.Frag) : List V → Hp → VK → Prop := fun xs H Q => ∃ p ys, xs = [V.ref p] ∧ (SqL K H p ys ∨ SqT K H p ys) ∧ ∀ l, H l = none → Q (V.ref l) (upd H l (.lst ys))
theorem call_listU : CallR X (.type "list") (rListU X.K) := call_list_of
theorem PI.or {tg e : Expr} {w1 w2 : TI} (h1 : PI X tg e w1) (h2 : PI X tg e w2) : PI X tg e (fun σ H R => w1 σ H R ∨ w2 σ H R) := by
  refine ⟨fun pins s σ H R I h => ?_⟩
  rcases h with h | h
  · exact h1.run pins s σ H R I h
  · exact h2.run pins s σ H R I h
def iSeqU (K : PySem.W.Frag) (te : TE) : TI := fun σ H R => iList K te σ H R ∨ (iTup K te σ H R ∨ iStr te σ H R)
theorem pi_seqU {tg e : Expr} {te : TE} (he : PE X e te) : PI X tg e (iSeqU X.K te) := PI.or (pi_list he) (PI.or (pi_tup he) (pi_str he))
def tTru (K : PySem.W.Frag) (ta : TE) : TT := fun σ H Q => ta σ H fun x H' => ∃ k, TruV K x H' k ∧ Q k H'
theorem pt_truU {a : Expr} {ta : TE} (h : PE X a ta) (hq : ∀ whole, isTrue a X.env whole = (do let v ← whole; standAt a.pos; holding [v] (truthy v))) : PT X a (tTru X.K ta) := pt_truth h hq
/-- a tuple that tuple(..) has made: the object is told, it has no dict (a method may be asked of it) -/
def kTupD (K : PySem.W.Frag) (x : V) (H : Hp) (Q : VK) : Prop :=
  (∃ p xs, x = .ref p ∧ SqL K H p xs ∧ ∀ (q : Addr) (o : Obj), H q = none → o.dict = none → Q (.ref q) (upd H q (.frz o (.tup xs)))) ∨ (∃ p xs, x = .ref p ∧ SqT K H p xs ∧ Q (.ref p) H)
theorem rl_tupD (pins : List (Addr × Obj)) (s : Shared) (σ : L2.St) (H : Hp) (x : V) (v : Value) (Q : VK) (I : Inv X pins σ H s) (r : RelV x v) (h : kTupD X.K x H Q) :
    wpAny (model X.prog X.w) X.A (call (.type "tuple") [v]) (EP X pins σ Q) X.xe s := by
  rcases h with ⟨p, xs, rfl, hs, q⟩ | ⟨p, xs, rfl, hs, q⟩
  · obtain rfl : v = .ref p := r
    obtain ⟨its, rv, pl, hz⟩ := I.list hs
    refine call_tuple_list pl.isList (fun h' hk => ?_) (by rw [List.size_toArray, ← rv.length]; exact hz)
    have I1 : Inv X pins σ H { s with heap := h' } := I.kept (t' := s.toks) hk
    have I2 : Inv X pins σ (upd H h'.objs.size (.frz { cls := .type "tuple", data := .seq its.toArray } (.tup xs))) { s with heap := h'.push { cls := .type "tuple", data := .seq its.toArray } } :=
      I1.laid (t' := s.toks) (fun b o e => Heap.get?_push_of_some _ e) (Nat.le_refl _) (show ObjOk X.prog X.w _ _ _ (.frz _ (.tup xs)) from ⟨Heap.get?_push_size _ rfl, hz, its, rv, IsTup.new _ _⟩)
    exact ⟨.ref h'.objs.size, _, I2, rfl, q _ _ (I1.hok.fresh (Nat.le_refl _)) rfl⟩
  · obtain rfl : v = .ref p := r
    obtain ⟨its, rv, pl, hz⟩ := I.tuple hs
    exact call_tuple_tup pl ⟨.ref p, H, I, rfl, q⟩
theorem pe_tupD {a : Expr} {ta : TE} {p pos : Pos} (hg : Gl X "tuple") (hm : X.mg "tuple" = none) (ha : PE X a ta) (na : starEach [a] X.env = (false, eval a X.env) :: starEach [] X.env := by rfl) :
    PE X (.Call (.Name "tuple" p) [a] [] pos) (tThen ta (kTupD X.K)) := by
  refine ⟨fun pins s σ H Q I h => ?_⟩
  exact Call_ (ld_blt I hg hm boot_tuple (PyProof.Rows.callWith_type1 (one_arg ha I h (fun v s2 x H2 I2 r q => rl_tupD pins s2 σ H2 x v Q I2 r q) na) na))
/-- the object at p is told and has no dict -/
def NoD (H : Hp) (p : Addr) : Prop := ∃ (o : Obj) (u : HO), H p = some (.frz o u) ∧ o.dict = none
def tBMT (K : PySem.W.Frag) (r : V → List V → Hp → VK → Prop) (to : TE) (t : TA) : TE := fun σ H Q => to σ H fun x H1 => (∃ p xs, x = .ref p ∧ SqT K H1 p xs ∧ NoD H1 p) ∧ t σ H1 fun xs H2 => r x xs H2 Q
end
end Kb
set_option Elab.async false
set_option linter.all false
set_option maxRecDepth 100000
namespace Kb
open PySem PySem.Spec PyProof.Rows L2
structure Fn (P : Program) (w : World) (K : PySem.W.Frag) (mg : Str → Option Value) (base : Heap) (CX : CXT) (k : Nat) (x : Str) (ps : List Str) (sp : Sp) : Prop where
  ex : ∃ f fd, FnOk P w K mg base CX k f fd ps sp ∧ mg x = some (.ref f) ∧ PySem.W.keepIn K (.ref f) = true ∧ Binds K fd ps []
def At (K : PySem.W.Frag) (mg : Str → Option Value) (x : Str) (st : Stmt) : Prop := ∃ f fd, Fun K x x st f fd ∧ mg x = some (.ref f)
section
variable {X : Cx} {CX : CXT} {k : Nat} {ps : List Str} {sp : Sp} {E : XK} {x : Str} {p pos : Pos} {e : Expr} {es : List Expr} {t : TA}
theorem pe_callF (G : Fn X.prog X.w X.K X.mg X.base CX k x ps sp) (hr : Room k X.A) (hg : Gl X x) (hx : Passes CX X E) (ha : PA X (e :: es) t) (hdb : (x == ("__debug__" : Str)) = false := by decide)
    (he : starEach (e :: es) X.env = (false, eval e X.env) :: starEach es X.env := by rfl) (hpl : (backTo pos (starEach es X.env)).any (·.1) = false := by rfl) : PE X (.Call (.Name x p) (e :: es) [] pos) (tCall sp [] E t) := by
  obtain ⟨f, fd, F, hm, hk, hb⟩ := G.ex
  exact pe_call F hr hg hm hk hb .nil hx ha hdb he hpl
end
/-- all but l is as it was -/
def But (l : Addr) (H H' : Hp) : Prop := ∀ b o, b ≠ l → H b = some o → H' b = some o
section
variable {K : PySem.W.Frag} {H H1 H2 H' : Hp} {a l p : Addr} {o u : HO} {xs ys : List V} {ns : List Int}
theorem same_new (h : H p = none) : Same H (upd H p o) := fun b x e => by rw [upd_ne (ne_of_none e h)]; exact e
theorem but_upd : But l H (upd H l o) := fun b x n e => by rw [upd_ne n]; exact e
theorem But.trans (a : But l H H1) (b : But l H1 H2) : But l H H2 := fun c o n h => b c o n (a c o n h)
theorem But.refl : But l H H := fun _ _ _ h => h
theorem Same.but (s : Same H H') : But l H H' := fun b o _ h => s b o h
theorem rd_same (s : Same H H') (h : Rd H a u) : Rd H' a u := by
  rcases h with h | ⟨o, h⟩
  · exact .inl (s _ _ h)
  · exact .inr ⟨o, s _ _ h⟩
theorem sqT_same (s : Same H H') (h : SqT K H a xs) : SqT K H' a xs := by
  rcases h with h | h
  · exact .inl (rd_same s h)
  · exact .inr h
theorem sqL_same (s : Same H H') (h : SqL K H a xs) : SqL K H' a xs := s.seq h
theorem sqT_but (b : But l H H') (hl : H l = some (.lst ys)) (h : SqT K H a xs) : SqT K H' a xs := by
  rcases h with (h | ⟨o, h⟩) | h
  · exact .inl (.inl (b _ _ (ne_of h hl (by intro z; cases z)) h))
  · exact .inl (.inr ⟨o, b _ _ (ne_of h hl (by intro z; cases z)) h⟩)
  · exact .inr h
theorem sqL_but (b : But l H H') (hne : a ≠ l) (h : SqL K H a xs) : SqL K H' a xs := by
  rcases h with (h | ⟨o, h⟩) | h
  · exact .inl (.inl (b _ _ hne h))
  · exact .inl (.inr ⟨o, b _ _ hne h⟩)
  · exact .inr h
theorem at_same (s : Same H H') (h : H a = some o) : H' a = some o := s _ _ h
theorem at_but (b : But l H H') (hne : a ≠ l) (h : H a = some o) : H' a = some o := b _ _ hne h
theorem sqL_of (h : H a = some (.lst xs)) : SqL K H a xs := .inl (.inl h)
theorem sqT_of (h : H a = some (.tup xs)) : SqT K H a xs := .inl (.inl h)
/-- a but of an object that the first heap doesn't know is a same -/
theorem But.same (b : But l H H') (h : H l = none) : Same H H' := fun c o e => b c o (ne_of_none e h) e
theorem same_but (s : Same H H1) (b : But l H1 H2) (h : H l = none) : Same H H2 := fun c o e => b c o (ne_of_none e h) (s c o e)
end
def PB (x : V) (H : Hp) (QB : Bool → Hp → Prop) : Prop := ∃ k, x = .bl k ∧ QB k H
def PIf (x : V) (A B : Prop) : Prop := ∃ c, x = .bl c ∧ if c = true then A else B
def PTr (K : PySem.W.Frag) (x : V) (H : Hp) (QB : Bool → Hp → Prop) : Prop := ∃ k, TruV K x H k ∧ QB k H
def PNew (z : Prop) (o : HO) (H : Hp) (Q : VK) : Prop := z ∧ ∀ p, H p = none → Q (.ref p) (upd H p o)
def PI2 (x y : V) (QR : Int → Int → Prop) : Prop := ∃ i j, x = .int i ∧ y = .int j ∧ QR i j
def PI1 (x : V) (QR : Int → Prop) : Prop := ∃ i, x = .int i ∧ QR i
def PNot (x : V) (H : Hp) (Q : VK) : Prop := ∃ c, x = .bl c ∧ Q (.bl (!c)) H
section
variable {K : PySem.W.Frag} {D : Ends} {σ : L2.St} {H : Hp} {t u : TS} {te ta tb : TE} {g : TG} {c d : TT} {Q : VK} {QB : Bool → Hp → Prop} {v x y : V} {i j : Nat} {m n : Int} {b : Bool}
theorem r_seq (h : t { D with nx := u D } σ H) : tSeq t u D σ H := h
theorem r_next (h : D.nx σ H) : tNext D σ H := h
theorem r_asg (h : te σ H fun x H1 => g x σ H1 D.nx) : tAsg te g D σ H := h
theorem r_name {N : L2.St → Hp → Prop} (h : N (σ.set i (some v)) H) : gName i v σ H N := h
theorem r_drop (h : te σ H fun _ H1 => D.nx σ H1) : tDrop te D σ H := h
theorem r_ret (h : te σ H D.rt) : tRet te D σ H := h
theorem r_retN (h : D.rt .non H) : tRetN D σ H := h
theorem r_if (h : c σ H fun b H1 => if b = true then t D σ H1 else u D σ H1) : tIfS c t u D σ H := h
theorem r_brk (h : D.bk σ H) : tBreak D σ H := h
theorem r_cont (h : D.ct σ H) : tCont D σ H := h
theorem r_var (h : σ[i]? = some (some v)) (q : Q v H) : tVar i σ H Q := ⟨v, h, q⟩
theorem r_c (q : Q v H) : tC v σ H Q := q
theorem r_op {r : R2} (h : ta σ H fun x H1 => tb σ H1 fun y H2 => r x y H2 Q) : tOp r ta tb σ H Q := h
theorem r_un {r : V → Hp → VK → Prop} (h : ta σ H fun x H1 => r x H1 Q) : tUn r ta σ H Q := h
theorem r_neg (q : Q (.int (-m)) H) : rU (fun i => .int (-i)) (.int m) H Q := ⟨m, rfl, q⟩
theorem r_addI (q : Q (.int (m + n)) H) : rAddU K (.int m) (.int n) H Q := .inl ⟨m, n, rfl, rfl, q⟩
theorem r_subI (q : Q (.int (m - n)) H) : rSubU (.int m) (.int n) H Q := ⟨m, n, rfl, rfl, q⟩
theorem r_mulI (c : CMul m n) (q : Q (.int (m * n)) H) : rMulU K (.int m) (.int n) H Q := .inl ⟨m, n, rfl, rfl, c, q⟩
theorem r_fdiv (h0 : 0 < n) (h1 : n.natAbs.log2 < 9000) (q : Q (.int (m / n)) H) : rFdivU (.int m) (.int n) H Q := ⟨m, n, rfl, rfl, ⟨h0, h1⟩, q⟩
theorem r_mod (h0 : 0 < n) (q : Q (.int (m % n)) H) : rModU (.int m) (.int n) H Q := ⟨m, n, rfl, rfl, h0, q⟩
theorem r_pow (h0 : CPow m n) (q : Q (.int (m ^ n.toNat)) H) : rPowU (.int m) (.int n) H Q := ⟨m, n, rfl, rfl, h0, q⟩
theorem r_eqI (q : Q (.bl (decide (m = n))) H) : rEqU K (.int m) (.int n) H Q := .inl ⟨rfl, by
  have e : decide (V.int m = V.int n) = decide (m = n) := by by_cases h : m = n <;> simp [h]
  rw [e]; exact q⟩
theorem r_neI (q : Q (.bl (!decide (m = n))) H) : rNeU K (.int m) (.int n) H Q := .inl ⟨rfl, by
  have e : decide (V.int m = V.int n) = decide (m = n) := by by_cases h : m = n <;> simp [h]
  rw [e]; exact q⟩
theorem r_ltI (q : Q (.bl (decide (m < n))) H) : rLtU K (.int m) (.int n) H Q := .inl ⟨m, n, rfl, rfl, q⟩
theorem r_leI (q : Q (.bl (decide (m ≤ n))) H) : rLeU K (.int m) (.int n) H Q := .inl ⟨m, n, rfl, rfl, q⟩
theorem r_gtI (q : Q (.bl (decide (n < m))) H) : rGtU (.int m) (.int n) H Q := .inl ⟨m, n, rfl, rfl, q⟩
theorem r_geI (q : Q (.bl (decide (n ≤ m))) H) : rGeU (.int m) (.int n) H Q := .inl ⟨m, n, rfl, rfl, q⟩
theorem r_isN (q : Q (.bl (decide (x = .non))) H) : rIsNU x .non H Q := ⟨rfl, q⟩
theorem r_notN (q : Q (.bl (!decide (x = .non))) H) : rNotNU x .non H Q := ⟨rfl, q⟩
theorem r_test (h : te σ H fun x H' => PB x H' QB) : tTest te σ H QB := h
theorem r_B (h : te σ H fun x H' => PB x H' QB) : tB te σ H QB := h
theorem r_k (q : QB b H) : PB (.bl b) H QB := ⟨b, rfl, q⟩
theorem r_not (h : c σ H fun b H1 => QB (!b) H1) : tNot c σ H QB := h
theorem r_and (h : c σ H fun b H1 => if b = true then d σ H1 QB else QB false H1) : tAnd c d σ H QB := h
theorem r_or (h : c σ H fun b H1 => if b = true then QB true H1 else d σ H1 QB) : tOr c d σ H QB := h
theorem r_andV (h : ta σ H fun x H1 => PIf x (tb σ H1 Q) (Q (.bl false) H1)) : tAndV ta tb σ H Q := h
theorem r_orV (h : ta σ H fun x H1 => PIf x (Q (.bl true) H1) (tb σ H1 Q)) : tOrV ta tb σ H Q := h
theorem r_pif {A B : Prop} (h : if b = true then A else B) : PIf (.bl b) A B := ⟨b, rfl, h⟩
theorem r_notV (h : ta σ H fun x H1 => PNot x H1 Q) : tNotV ta σ H Q := h
theorem r_pnot (q : Q (.bl (!b)) H) : PNot (.bl b) H Q := ⟨b, rfl, q⟩
theorem r_ifE (h : c σ H fun b H1 => if b = true then ta σ H1 Q else tb σ H1 Q) : tIf c ta tb σ H Q := h
theorem r_chain {r r' : R2} {tc : TE} (h : ta σ H fun x H1 => tb σ H1 fun y H2 => r x y H2 fun z H3 => PIf z (tc σ H3 fun w' H4 => r' y w' H4 Q) (Q (.bl false) H3)) : tChain r r' ta tb tc σ H Q := h
theorem r_tru (h : ta σ H fun x H' => PTr K x H' QB) : tTru K ta σ H QB := h
theorem r_truB (q : QB b H) : PTr K (.bl b) H QB := ⟨b, rfl, q⟩
theorem r_truI (q : QB (m != 0) H) : PTr K (.int m) H QB := ⟨_, rfl, q⟩
theorem r_truL {p : Addr} {xs : List V} (h : SqL K H p xs) (q : QB (!xs.isEmpty) H) : PTr K (.ref p) H QB := ⟨_, .inl ⟨xs, h, rfl⟩, q⟩
theorem r_truT {p : Addr} {xs : List V} (h : SqT K H p xs) (q : QB (!xs.isEmpty) H) : PTr K (.ref p) H QB := ⟨_, .inr (.inl ⟨xs, h, rfl⟩), q⟩
theorem r_nil {QA : List V → Hp → Prop} (q : QA [] H) : tNil σ H QA := q
theorem r_cons {tr : TA} {QA : List V → Hp → Prop} (h : ta σ H fun x H1 => tr σ H1 fun xs H2 => QA (x :: xs) H2) : tCons ta tr σ H QA := h
theorem r_CB {r : List V → Hp → VK → Prop} {ts : TA} (h : ts σ H fun vs H1 => r vs H1 Q) : tCB r ts σ H Q := h
theorem r_lenL {p : Addr} {xs : List V} (h : SqL K H p xs) (q : Q (.int (xs.length : Int)) H) : rLenU K [.ref p] H Q := .inl ⟨p, xs, rfl, .inl h, q⟩
theorem r_lenT {p : Addr} {xs : List V} (h : SqT K H p xs) (q : Q (.int (xs.length : Int)) H) : rLenU K [.ref p] H Q := .inl ⟨p, xs, rfl, .inr h, q⟩
theorem r_lenS {z : Str} (h : z.length ≤ sizeLine) (q : Q (.int (z.length : Int)) H) : rLenU K [.str z] H Q := .inr (.inl ⟨z, rfl, h, q⟩)
theorem r_int (q : Q (.int m) H) : rIntU [.int m] H Q := ⟨m, rfl, q⟩
theorem r_abs (q : Q (.int (if m < 0 then -m else m)) H) : rAbsU [.int m] H Q := ⟨m, rfl, q⟩
theorem r_ixL {p : Addr} {xs : List V} (h : SqL K H p xs) (ha : atI xs m = some v) (q : Q v H) : rIx K (.ref p) (.int m) H Q := .inl ⟨p, xs, m, v, rfl, rfl, h, ha, q⟩
theorem r_ixT {p : Addr} {xs : List V} (h : SqT K H p xs) (ha : atI xs m = some v) (q : Q v H) : rIx K (.ref p) (.int m) H Q := .inr (.inl ⟨p, xs, m, v, rfl, rfl, h, ha, q⟩)
theorem r_ixS {z : Str} {c : Nat} (h : z.length ≤ sizeLine) (ha : atI z.cps.toList m = some c) (q : Q (.str ⟨#[c]⟩) H) : rIx K (.str z) (.int m) H Q := .inr (.inr ⟨z, m, c, rfl, rfl, h, ha, q⟩)
theorem r_tup {ts : TA} (h : ts σ H fun xs H1 => PNew (xs.length ≤ sizeLine) (.tup xs) H1 Q) : tTup ts σ H Q := h
theorem r_lst {ts : TA} (h : ts σ H fun xs H1 => PNew (xs.length ≤ sizeLine) (.lst xs) H1 Q) : tLst ts σ H Q := h
theorem r_new {z : Prop} {o : HO} (hz : z) (k : ∀ p H', H p = none → Same H H' → H' p = some o → Q (.ref p) H') : PNew z o H Q := ⟨hz, fun p hp => k p _ hp (same_new hp) upd_same⟩
theorem r_call {sp : Sp} {E : XK} {ts : TA} (h : ts σ H fun vs H1 => sp (vs ++ []) H1 Q E) : tCall sp [] E ts σ H Q := h
theorem r_BM {T : String} {r : V → List V → Hp → VK → Prop} {ts : TA} (h : ta σ H fun x H1 => tyV K T x H1 ∧ ts σ H1 fun xs H2 => r x xs H2 Q) : tBM K T r ta ts σ H Q := h
theorem r_BM0 {T : String} {r : V → List V → Hp → VK → Prop} (h : ta σ H fun x H1 => tyV K T x H1 ∧ r x [] H1 Q) : tBM0 K T r ta σ H Q := h
theorem r_tyL {p : Addr} {xs : List V} {A : Prop} (h : SqL K H p xs) (a : A) : tyV K "list" (.ref p) H ∧ A := ⟨Or.inl ⟨rfl, _, h⟩, a⟩
theorem r_tyS {z : Str} {A : Prop} (a : A) : tyV K "str" (.str z) H ∧ A := ⟨rfl, a⟩
theorem r_append {p : Addr} {xs : List V} (h : H p = some (.lst xs)) (hz : xs.length < sizeLine) (k : ∀ H', But p H H' → H' p = some (.lst (xs ++ [y])) → Q .non H') : rAppend (.ref p) [y] H Q := ⟨p, xs, y, rfl, rfl, h, hz, k _ but_upd upd_same⟩
theorem r_pop {p : Addr} {xs : List V} (h : H p = some (.lst (xs ++ [y]))) (k : ∀ H', But p H H' → H' p = some (.lst xs) → Q y H') : rPop (.ref p) [] H Q := by
  refine ⟨p, xs ++ [y], y, rfl, rfl, h, ?_, ?_⟩
  · simp
  · rw [List.dropLast_concat]; exact k _ but_upd upd_same
theorem r_then {kk : V → Hp → VK → Prop} (h : ta σ H fun x H1 => kk x H1 Q) : tThen ta kk σ H Q := h
theorem r_kTupL {p : Addr} {xs : List V} (h : SqL K H p xs) (k : ∀ q H', H q = none → Same H H' → (∃ o : Obj, H' q = some (.frz o (.tup xs)) ∧ o.dict = none) → Q (.ref q) H') : kTupD K (.ref p) H Q := .inl ⟨p, xs, rfl, h, fun q o hq ho => k q _ hq (same_new hq) ⟨o, upd_same, ho⟩⟩
theorem r_kTupT {p : Addr} {xs : List V} (h : SqT K H p xs) (q : Q (.ref p) H) : kTupD K (.ref p) H Q := .inr ⟨p, xs, rfl, h, q⟩
theorem sqT_ofD {q : Addr} {xs : List V} (h : ∃ o : Obj, H q = some (.frz o (.tup xs)) ∧ o.dict = none) : SqT K H q xs := by
  obtain ⟨o, e, _⟩ := h
  exact .inl (.inr ⟨o, e⟩)
theorem noD_of {q : Addr} {xs : List V} (h : ∃ o : Obj, H q = some (.frz o (.tup xs)) ∧ o.dict = none) : NoD H q := by
  obtain ⟨o, e, d⟩ := h
  exact ⟨o, _, e, d⟩
theorem noD_same {H H' : Hp} {q : Addr} (s : Same H H') (h : NoD H q) : NoD H' q := by
  obtain ⟨o, u, e, d⟩ := h
  exact ⟨o, u, s _ _ e, d⟩
theorem r_listL {p : Addr} {xs : List V} (h : SqL K H p xs) (k : ∀ q H', H q = none → Same H H' → H' q = some (.lst xs) → Q (.ref q) H') : rListU K [.ref p] H Q := ⟨p, xs, rfl, .inl h, fun q hq => k q _ hq (same_new hq) upd_same⟩
theorem r_listT {p : Addr} {xs : List V} (h : SqT K H p xs) (k : ∀ q H', H q = none → Same H H' → H' q = some (.lst xs) → Q (.ref q) H') : rListU K [.ref p] H Q := ⟨p, xs, rfl, .inr h, fun q hq => k q _ hq (same_new hq) upd_same⟩
theorem r_lstRg {tr : L2.St → Hp → (Int → Int → Hp → Prop) → Prop} (h : tr σ H fun a b H1 => PNew (RgOk a b) (.lst (rgV a b)) H1 Q) : tLstRg tr σ H Q := h
theorem r_tupRg {tr : L2.St → Hp → (Int → Int → Hp → Prop) → Prop} (h : tr σ H fun a b H1 => PNew (RgOk a b) (.tup (rgV a b)) H1 Q) : tTupRg tr σ H Q := h
theorem r_rg2 {QR : Int → Int → Hp → Prop} (h : ta σ H fun x H1 => tb σ H1 fun y H2 => PI2 x y fun i j => QR i j H2) : tRg2 ta tb σ H QR := h
theorem r_rg1 {QR : Int → Int → Hp → Prop} (h : ta σ H fun x H1 => PI1 x fun n => QR 0 n H1) : tRg1 ta σ H QR := h
theorem r_ii {QR : Int → Int → Prop} (q : QR m n) : PI2 (.int m) (.int n) QR := ⟨m, n, rfl, rfl, q⟩
theorem r_i {QR : Int → Prop} (q : QR m) : PI1 (.int m) QR := ⟨m, rfl, q⟩
theorem r_gsub {ti : TE} {to : TE} {ts : TSet} {N : L2.St → Hp → Prop} (h : to σ H fun o H1 => ti σ H1 fun i H2 => ts o i v H2 fun H3 => N σ H3) : gSub to ti ts v σ H N := h
theorem r_setL {N : Hp → Prop} {p : Addr} {xs : List V} {k : Nat} (h : H p = some (.lst xs)) (hk : ixN xs.length m = some k) (q : ∀ H', But p H H' → H' p = some (.lst (xs.set k v)) → N H') : rSetL (.ref p) (.int m) v H N := ⟨p, xs, m, k, rfl, rfl, h, hk, q _ but_upd upd_same⟩
theorem r_aug {ti : TIp} (h : σ[i]? = some (some x)) (q : te σ H fun y H1 => ti x y H1 fun z H2 => D.nx (σ.set i (some z)) H2) : tAug i te ti D σ H := ⟨x, h, q⟩
theorem r_ipI {f : Int → Int → Int} (q : Q (.int (f m n)) H) : ipI f (.int m) (.int n) H Q := ⟨m, n, rfl, rfl, q⟩
theorem r_noPart {QO : Option Int → Hp → Prop} (q : QO none H) : tNoPart σ H QO := q
theorem r_part {QO : Option Int → Hp → Prop} (h : te σ H fun x H1 => PI1 x fun i => QO (some i) H1) : tPart te σ H QO := h
theorem r_sl {r : V → Option Int → Option Int → Hp → VK → Prop} {tl th : TO} (h : te σ H fun x H1 => tl σ H1 fun l H2 => th σ H2 fun u H3 => r x l u H3 Q) : tSl r te tl th σ H Q := h
theorem r_ite {c : Prop} [Decidable c] {A B : Prop} (h1 : c → A) (h2 : ¬ c → B) : if decide c = true then A else B := by
  by_cases h : c
  · rw [if_pos (decide_eq_true h)]; exact h1 h
  · rw [if_neg (by simp [h])]; exact h2 h
theorem r_iteN {c : Prop} [Decidable c] {A B : Prop} (h1 : ¬ c → A) (h2 : c → B) : if (!decide c) = true then A else B := by
  by_cases h : c
  · rw [if_neg (by simp [h])]; exact h2 h
  · rw [if_pos (by simp [h])]; exact h1 h
theorem r_iteP {c : Prop} [Decidable c] {A B : Prop} (h : c) (a : A) : if decide c = true then A else B := by rw [if_pos (decide_eq_true h)]; exact a
theorem r_iteNP {c : Prop} [Decidable c] {A B : Prop} (h : c) (a : B) : if (!decide c) = true then A else B := by rw [if_neg (by simp [h])]; exact a
theorem r_iteNM {c : Prop} [Decidable c] {A B : Prop} (h : ¬ c) (a : A) : if (!decide c) = true then A else B := by rw [if_pos (by simp [h])]; exact a
theorem r_T {A B : Prop} (a : A) : if true = true then A else B := by rw [if_pos rfl]; exact a
theorem r_F {A B : Prop} (a : B) : if false = true then A else B := by rw [if_neg (by decide)]; exact a
theorem r_nT {A B : Prop} (a : B) : if (!true) = true then A else B := r_F a
theorem r_nF {A B : Prop} (a : A) : if (!false) = true then A else B := r_T a
end
end Kb
set_option Elab.async false
set_option linter.all false
set_option maxRecDepth 100000
set_option maxHeartbeats 4000000
namespace Kb
open PySem PySem.Spec PyProof.Rows L2
local macro_rules | `(tactic| walk_at "tk") => `(tactic| first
  | assumption
  | ((with_reducible refine' sqT_of ?k); (case k => assumption))
  | ((with_reducible refine' sqT_ofD ?k); (case k => assumption))
  | ((with_reducible refine' noD_of ?k); (case k => assumption))
  | ((with_reducible refine' noD_same ?s ?k); (case s => assumption); (case k => walk_at "tk"))
  | ((with_reducible refine' sqL_of ?k); (case k => assumption))
  | ((with_reducible refine' sqT_same ?s ?k); (case s => assumption); (case k => walk_at "tk"))
  | ((with_reducible refine' sqL_same ?s ?k); (case s => assumption); (case k => walk_at "tk"))
  | ((with_reducible refine' sqT_but ?s ?t ?k); (case s => assumption); (case t => walk_at "tk"); (case k => walk_at "tk"))
  | ((with_reducible refine' sqL_but ?s ?t ?k); (case s => assumption); (case t => walk_at "ne"); (case k => walk_at "tk"))
  | ((with_reducible refine' sqL_of ?k); (case k => walk_at "tk"))
  | ((with_reducible refine' sqT_of ?k); (case k => walk_at "tk"))
  | ((with_reducible refine' at_same ?s ?k); (case s => assumption); (case k => walk_at "tk"))
  | ((with_reducible refine' at_but ?s ?t ?k); (case s => assumption); (case t => walk_at "ne"); (case k => walk_at "tk")))
local macro_rules | `(tactic| walk_at "ne") => `(tactic| first
  | assumption
  | (refine Ne.symm ?_; assumption)
  | exact ne_of_none (by assumption) (by assumption)
  | exact (ne_of_none (by assumption) (by assumption)).symm)
local macro_rules | `(tactic| walk_at "side") => `(tactic| first
  | assumption
  | omega
  | (simp only [sizeLine_eq, List.length_cons, List.length_nil, List.length_map]; omega)
  | (show _ ≤ sizeLine; decide))
local macro_rules | `(tactic| walk_at "kit") => `(tactic| first
  | (show kitB _ _ = some true; decide +kernel)
  | (show kitB _ _ = some false; decide +kernel))
local macro_rules | `(tactic| walk_at "rng") => `(tactic| first
  | (refine ⟨by omega, by omega, by omega, by omega⟩)
  | (refine ⟨by omega, by omega⟩)
  | ((simp only [List.length_map]); (refine ⟨by omega, by omega, by omega, by omega⟩))
  | ((simp only [List.length_map]); (refine ⟨by omega, by omega⟩)))
local macro_rules | `(tactic| walk_at "rd1") => `(tactic| first
  | with_reducible refine r_seq ?_
  | ((with_reducible refine' r_var ?k0 ?_); (case k0 => rfl))
  | with_reducible refine r_op ?_
  | with_reducible refine r_c ?_
  | with_reducible refine r_asg ?_
  | with_reducible refine r_name ?_
  | with_reducible refine r_cons ?_
  | with_reducible refine r_nil ?_
  | with_reducible refine r_CB ?_
  | with_reducible refine r_if ?_
  | with_reducible refine r_test ?_
  | with_reducible refine r_k ?_
  | with_reducible refine r_T ?_
  | with_reducible refine r_F ?_
  | with_reducible refine r_nT ?_
  | with_reducible refine r_nF ?_
  | with_reducible refine r_ret ?_
  | with_reducible refine r_drop ?_
  | with_reducible refine r_next ?_
  | with_reducible refine r_call ?_
  | with_reducible refine r_addI ?_
  | with_reducible refine r_subI ?_
  | with_reducible refine r_ltI ?_
  | with_reducible refine r_gtI ?_
  | with_reducible refine r_leI ?_
  | with_reducible refine r_geI ?_
  | with_reducible refine r_eqI ?_
  | with_reducible refine r_neI ?_
  | with_reducible refine r_int ?_
  | with_reducible refine r_abs ?_
  | with_reducible refine r_not ?_
  | with_reducible refine r_and ?_
  | with_reducible refine r_or ?_
  | with_reducible refine r_tru ?_
  | with_reducible refine r_truB ?_
  | with_reducible refine r_lst ?_
  | with_reducible refine r_tup ?_
  | with_reducible refine r_BM ?_
  | with_reducible refine r_BM0 ?_
  | with_reducible refine r_tyS ?_
  | with_reducible refine r_gsub ?_
  | with_reducible refine r_then ?_
  | with_reducible refine r_lstRg ?_
  | with_reducible refine r_tupRg ?_
  | with_reducible refine r_rg2 ?_
  | with_reducible refine r_rg1 ?_
  | with_reducible refine r_ii ?_
  | with_reducible refine r_i ?_
  | with_reducible refine r_ipI ?_
  | with_reducible refine r_un ?_
  | with_reducible refine r_neg ?_
  | with_reducible refine r_isN ?_
  | with_reducible refine r_notN ?_
  | with_reducible refine r_notV ?_
  | with_reducible refine r_pnot ?_
  | with_reducible refine r_pif ?_
  | with_reducible refine r_andV ?_
  | with_reducible refine r_orV ?_
  | with_reducible refine r_ifE ?_
  | with_reducible refine r_chain ?_
  | with_reducible refine r_sl ?_
  | with_reducible refine r_noPart ?_
  | with_reducible refine r_part ?_
  | with_reducible refine r_brk ?_
  | with_reducible refine r_cont ?_
  | with_reducible refine r_retN ?_
  | with_reducible refine r_truI ?_
  | with_reducible refine r_B ?_
  | ((with_reducible refine' r_mod ?k0 ?_); (case k0 => walk_at "side"))
  | ((with_reducible refine' r_mulI ?k0 ?_); (case k0 => first | exact Or.inl ⟨by omega, by omega⟩ | exact Or.inr ⟨by omega, by omega⟩))
  | ((with_reducible refine' r_lenL ?k0 ?_); (case k0 => walk_at "tk"))
  | ((with_reducible refine' r_lenT ?k0 ?_); (case k0 => walk_at "tk"))
  | ((with_reducible refine' r_truL ?k0 ?_); (case k0 => walk_at "tk"))
  | ((with_reducible refine' r_truT ?k0 ?_); (case k0 => walk_at "tk"))
  | ((with_reducible refine' r_ixL ?k0 ?k1 ?_); (case k0 => walk_at "tk"); (case k1 => first | assumption | rfl))
  | ((with_reducible refine' r_ixT ?k0 ?k1 ?_); (case k0 => walk_at "tk"); (case k1 => first | assumption | rfl))
  | ((with_reducible refine' r_new ?k0 ?_); (case k0 => walk_at "side"))
  | ((with_reducible refine' r_tyL ?k0 ?_); (case k0 => walk_at "tk"))
  | ((with_reducible refine' r_append ?k0 ?k1 ?_); (case k0 => walk_at "tk"); (case k1 => walk_at "side"))
  | ((with_reducible refine' r_setL ?k0 ?k1 ?_); (case k0 => walk_at "tk"); (case k1 => first | assumption | rfl))
  | ((with_reducible refine' r_kTupL ?k0 ?_); (case k0 => walk_at "tk"))
  | ((with_reducible refine' r_kTupT ?k0 ?_); (case k0 => walk_at "tk"))
  | ((with_reducible refine' r_listL ?k0 ?_); (case k0 => walk_at "tk"))
  | ((with_reducible refine' r_listT ?k0 ?_); (case k0 => walk_at "tk"))
  | ((with_reducible refine' r_aug ?k0 ?_); (case k0 => rfl))
  | ((with_reducible refine' r_lenS ?k0 ?_); (case k0 => walk_at "side"))
  | ((with_reducible refine' r_pop ?k0 ?_); (case k0 => walk_at "tk")))
local macro_rules | `(tactic| walk_at "rd") => `(tactic| ((repeat (walk_at "rd1")); (try dsimp only)))
def sp_law_cell (K : PySem.W.Frag) : Sp := fun vs H Q _ => ∃ (a : Addr) (ns : List Int) (k : Int), vs = [.ref a, .int k] ∧ SqL K H a (ns.map V.int) ∧ ns.length ≤ 63 ∧ 0 ≤ k ∧ ∀ n, Q (.int n) H
def Pl (H : Hp) (p : Addr) : Prop := ∃ x y z, H p = some (.lst [.int x, .int y, .int z])
def sp_law_pool (K : PySem.W.Frag) : Sp := fun vs H Q _ => ∃ (a : Addr) (ns : List Int) (k : Int), vs = [.ref a, .int k] ∧ SqL K H a (ns.map V.int) ∧ ns.length ≤ 63 ∧ 0 ≤ k ∧ ∀ p H', H p = none → Same H H' → Pl H' p → Q (.ref p) H'
def sp_law_draw (K : PySem.W.Frag) : Sp := fun vs H Q _ => ∃ (p : Addr) (m : Int), vs = [.ref p, .int m] ∧ Pl H p ∧ 0 < m ∧ m < 2 ^ 200 ∧ ∀ v H', 0 ≤ v → v < m → But p H H' → Pl H' p → Q (.int v) H'
abbrev N_law_cell : List Str := ["script", "k"]
def t_law_cell (K : PySem.W.Frag) : TS :=
  tSeq (tIfS ((tTest (tOp (rLtU K) (tVar 1) ((tCB (rLenU K) (tCons (tVar 0) tNil)))))) ((tRet ((tCB rAbsU (tCons ((tCB rIntU (tCons ((tOp (rIx K) (tVar 0) (tVar 1))) tNil))) tNil))))) (tNext))
  (tSeq (tIfS ((tTest (tOp (rEqU K) ((tCB (rLenU K) (tCons (tVar 0) tNil))) ((tC (.int 0)))))) ((tRet ((tC (.int 0))))) (tNext))
  ((tRet ((tOp rModU ((tCB rAbsU (tCons ((tCB rIntU (tCons ((tOp (rIx K) (tVar 0) ((tOp rModU ((tCB rIntU (tCons (tVar 1) tNil))) ((tCB (rLenU K) (tCons (tVar 0) tNil))))))) tNil))) tNil))) ((tC (.int 999999999999999989))))))))
abbrev N_law_pool : List Str := ["script", "k", "cell"]
def t_law_pool (K : PySem.W.Frag) : TS :=
  tSeq (tAsg ((tCall (sp_law_cell K) [] E0 (tCons (tVar 0) (tCons (tVar 1) tNil)))) (gName 2))
  (tSeq (tIfS ((tTest (tOp rGeU (tVar 2) ((tOp rPowU ((tC (.int 10))) ((tC (.int 18)))))))) ((tRet ((tLst (tCons ((tOp rSubU (tVar 2) ((tOp rPowU ((tC (.int 10))) ((tC (.int 18))))))) (tCons ((tOp rModU ((tCB rIntU (tCons (tVar 2) tNil))) ((tC (.int 1000003))))) (tCons ((tC (.int 0))) tNil))))))) (tNext))
  ((tRet ((tLst (tCons ((tC (.int 0))) (tCons ((tOp (rAddU K) (tVar 2) ((tOp (rMulU K) ((tC (.int 104729))) ((tOp (rAddU K) (tVar 1) ((tC (.int 1))))))))) (tCons ((tC (.int 0))) tNil))))))))
abbrev N_law_draw : List Str := ["pool", "many", "value", "mixed"]
def t_law_draw (K : PySem.W.Frag) : TS :=
  tSeq (tAsg ((tOp (rAddU K) ((tOp (rIx K) (tVar 0) ((tC (.int 2))))) ((tC (.int 1))))) (gSub (tVar 0) ((tC (.int 2))) rSetL))
  (tSeq (tIfS ((tTest (tOp rGtU ((tOp (rIx K) (tVar 0) ((tC (.int 0))))) ((tC (.int 1)))))) (tSeq (tAsg ((tOp rModU ((tCB rIntU (tCons ((tOp (rIx K) (tVar 0) ((tC (.int 0))))) tNil))) (tVar 1))) (gName 2))
  (tSeq (tAsg ((tOp rFdivU ((tOp (rIx K) (tVar 0) ((tC (.int 0))))) (tVar 1))) (gSub (tVar 0) ((tC (.int 0))) rSetL))
  ((tRet (tVar 2))))) (tNext))
  (tSeq (tAsg ((tOp rModU ((tCB rIntU (tCons ((tOp (rAddU K) ((tOp (rIx K) (tVar 0) ((tC (.int 1))))) ((tOp (rMulU K) ((tC (.int 7919))) ((tOp (rIx K) (tVar 0) ((tC (.int 2))))))))) tNil))) ((tC (.int 1000003))))) (gName 3))
  (tSeq (tAsg ((tOp rModU ((tCB rIntU (tCons ((tOp (rAddU K) ((tOp (rAddU K) ((tOp (rMulU K) (tVar 3) (tVar 3))) ((tOp (rMulU K) ((tC (.int 48271))) ((tOp (rIx K) (tVar 0) ((tC (.int 2))))))))) ((tOp (rIx K) (tVar 0) ((tC (.int 1))))))) tNil))) ((tC (.int 998244353))))) (gName 3))
  (tSeq (tAsg ((tOp rModU ((tCB rIntU (tCons ((tOp (rAddU K) ((tOp (rMulU K) (tVar 3) (tVar 3))) ((tC (.int 69621))))) tNil))) ((tC (.int 2147483647))))) (gName 3))
  ((tRet ((tOp rModU ((tCB rIntU (tCons ((tOp rFdivU (tVar 3) ((tC (.int 7))))) tNil))) (tVar 1)))))))))
theorem len_law_cell {K : PySem.W.Frag} {vs : List V} {H : Hp} {Q : VK} {E : XK} (h : sp_law_cell K vs H Q E) : vs.length = 2 := by
  obtain ⟨a, ns, k, rfl, _⟩ := h; rfl
theorem len_law_pool {K : PySem.W.Frag} {vs : List V} {H : Hp} {Q : VK} {E : XK} (h : sp_law_pool K vs H Q E) : vs.length = 2 := by
  obtain ⟨a, ns, k, rfl, _⟩ := h; rfl
theorem len_law_draw {K : PySem.W.Frag} {vs : List V} {H : Hp} {Q : VK} {E : XK} (h : sp_law_draw K vs H Q E) : vs.length = 2 := by
  obtain ⟨a, m, rfl, _⟩ := h; rfl
abbrev En (Q : VK) : Ends := { nx := fun _ H' => Q .non H', rt := Q }
theorem atI_ints {ns : List Int} {k : Int} (h0 : 0 ≤ k) (h1 : k < (ns.length : Int)) : ∃ n, atI (ns.map V.int) k = some (.int n) ∧ ns[k.toNat]? = some n := by
  have h2 : k.toNat < ns.length := by omega
  refine ⟨ns[k.toNat], ?_, List.getElem?_eq_getElem h2⟩
  have e : ((k.toNat : Nat) : Int) = k := by omega
  have h3 : (ns.map V.int)[k.toNat]? = some (.int ns[k.toNat]) := by rw [List.getElem?_map, List.getElem?_eq_getElem h2]; rfl
  have h4 := atI_nat h3
  rw [e] at h4
  exact h4
theorem pure_law_cell {K : PySem.W.Frag} {vs : List V} {H : Hp} {Q : VK} {E : XK} (h : sp_law_cell K vs H Q E) : t_law_cell K (En Q) (start N_law_cell vs) H := by
  obtain ⟨a, ns, k, rfl, hS, hn, hk, q⟩ := h
  unfold t_law_cell
  walk_at "rd"
  rw [List.length_map]
  refine r_ite (fun hlt => ?_) (fun hge => ?_)
  · obtain ⟨n, e1, _⟩ := atI_ints hk hlt
    walk_at "rd"
    exact q _
  · walk_at "rd"
    rw [List.length_map]
    refine r_ite (fun h0 => ?_) (fun h0 => ?_)
    · walk_at "rd"
      exact q _
    · have hp : (0 : Int) < ((ns.map V.int).length : Int) := by rw [List.length_map]; omega
      walk_at "rd"
      obtain ⟨n, e1, _⟩ := atI_ints (ns := ns) (k := k % ((ns.map V.int).length : Int)) (Int.emod_nonneg _ (by omega)) (by rw [List.length_map] at hp ⊢; exact Int.emod_lt_of_pos _ hp)
      walk_at "rd"
      exact q _
theorem c18 : CPow 10 18 := ⟨by decide, by decide, by decide⟩
theorem pure_law_pool {K : PySem.W.Frag} {vs : List V} {H : Hp} {Q : VK} {E : XK} (h : sp_law_pool K vs H Q E) : t_law_pool K (En Q) (start N_law_pool vs) H := by
  obtain ⟨a, ns, k, rfl, hS, hn, hk, q⟩ := h
  unfold t_law_pool
  walk_at "rd"
  refine ⟨a, ns, k, rfl, hS, hn, hk, fun n => ?_⟩
  walk_at "rd"
  refine r_pow c18 ?_
  walk_at "rd"
  refine r_ite (fun h1 => ?_) (fun h1 => ?_)
  · walk_at "rd"
    refine r_pow c18 ?_
    walk_at "rd"
    intro p H' hp s e
    exact q p H' hp s ⟨_, _, _, e⟩
  · walk_at "rd"
    intro p H' hp s e
    exact q p H' hp s ⟨_, _, _, e⟩
theorem log2_small {m : Int} (h0 : 0 < m) (h1 : m < 2 ^ 200) : m.natAbs.log2 < 9000 := (wide_div (i := 0) h0 (b := 200) (by omega) (by decide) (by decide)).2
theorem pure_law_draw {K : PySem.W.Frag} {vs : List V} {H : Hp} {Q : VK} {E : XK} (h : sp_law_draw K vs H Q E) : t_law_draw K (En Q) (start N_law_draw vs) H := by
  obtain ⟨p, m, rfl, ⟨x, y, z, hp⟩, h0, h1, q⟩ := h
  have hl := log2_small h0 h1
  unfold t_law_draw
  walk_at "rd"
  intro H1 b1 e1
  have e1 : H1 p = some (.lst [.int x, .int y, .int (z + 1)]) := e1
  walk_at "rd"
  refine r_ite (fun hx => ?_) (fun hx => ?_)
  · walk_at "rd"
    refine r_fdiv h0 hl ?_
    walk_at "rd"
    intro H2 b2 e2
    walk_at "rd"
    exact q _ _ (Int.emod_nonneg _ (by omega)) (Int.emod_lt_of_pos _ h0) (b1.trans b2) ⟨_, _, _, e2⟩
  · walk_at "rd"
    refine r_fdiv (by decide) (by decide) ?_
    walk_at "rd"
    exact q _ _ (Int.emod_nonneg _ (by omega)) (Int.emod_lt_of_pos _ h0) b1 ⟨_, _, _, e1⟩
end Kb
set_option Elab.async false
set_option linter.all false
set_option maxRecDepth 100000
set_option maxHeartbeats 4000000
namespace Kb
open PySem PySem.Spec PyProof.Rows L2
section
variable {K : PySem.W.Frag} {D : Ends} {σ : L2.St} {H : Hp} {tb : TS} {te ta : TE} {g : TG} {c : TT} {i j : Nat} {m n l : Int} {R : It → Hp → Prop}
/-- the body of a while, from a state that holds with the measure m -/
def PBody (W : Nat → L2.St → Hp → Prop) (m : Nat) (tb : TS) (D : Ends) (σ : L2.St) (H : Hp) : Prop := ∃ N : L2.St → Hp → Prop, (∀ σ' H', N σ' H' → ∃ m', m' < m ∧ W m' σ' H') ∧ tb { D with nx := N, ct := N, bk := D.nx } σ H
theorem r_while (W : Nat → L2.St → Hp → Prop) (m : Nat) (h0 : W m σ H)
    (hs : ∀ m σ H, W m σ H → c σ H fun b H1 => if b = true then PBody W m tb D σ H1 else D.nx σ H1) : tWhile c tb D σ H := ⟨W, ⟨m, h0⟩, hs⟩
theorem r_body {W : Nat → L2.St → Hp → Prop} {m : Nat} (h : tb { D with nx := fun σ' H' => ∃ m', m' < m ∧ W m' σ' H', ct := fun σ' H' => ∃ m', m' < m ∧ W m' σ' H', bk := D.nx } σ H) : PBody W m tb D σ H := ⟨_, fun _ _ h => h, h⟩
def PFor (J : It) (g : TG) (tb : TS) (D : Ends) (σ : L2.St) (H : Hp) : Prop := ∃ W : Nat → Nat → L2.St → Hp → Prop, (∃ m, W 0 m σ H) ∧ ∀ i m σ H, W i m σ H →
  (J.stop i H ∧ D.nx σ H) ∨ (J.go i H ∧ ∃ N : L2.St → Hp → Prop, (∀ σ' H', N σ' H' → ∃ m', m' < m ∧ W (i + 1) m' σ' H') ∧ ∀ x H', J.yld i H x H' → g x σ H' fun σ2 H2 => tb { D with nx := N, ct := N, bk := D.nx } σ2 H2)
theorem r_for {wi : TI} (h : wi σ H fun J H1 => PFor J g tb D σ H1) : tFor wi g tb D σ H := h
def PR1 (vs : List V) (R : It → Prop) : Prop := ∃ j : Int, vs = [.int j] ∧ -(2 ^ 62) ≤ j ∧ j < 2 ^ 62 ∧ R (Itr 0 j.toNat)
def PR2 (vs : List V) (R : It → Prop) : Prop := ∃ i j : Int, vs = [.int i, .int j] ∧ (-(2 ^ 62) ≤ i ∧ i < 2 ^ 62 ∧ -(2 ^ 62) ≤ j ∧ j < 2 ^ 62) ∧ R (Itr i (j - i).toNat)
def PR3 (vs : List V) (R : It → Prop) : Prop := ∃ (i j c : Int) (n : Nat), vs = [.int i, .int j, .int c] ∧ RgC i j c n ∧ R (Itc i c n)
theorem r_rng1 {ts : TA} (h : ts σ H fun vs H1 => PR1 vs fun J => R J H1) : iRng1 ts σ H R := h
theorem r_rng2 {ts : TA} (h : ts σ H fun vs H1 => PR2 vs fun J => R J H1) : iRng2 ts σ H R := h
theorem r_rng3 {ts : TA} (h : ts σ H fun vs H1 => PR3 vs fun J => R J H1) : iRng3 ts σ H R := h
theorem r_pr1 {R : It → Prop} (h : -(2 ^ 62) ≤ m ∧ m < 2 ^ 62) (q : R (Itr 0 m.toNat)) : PR1 [.int m] R := ⟨m, rfl, h.1, h.2, q⟩
theorem r_pr2 {R : It → Prop} (h : -(2 ^ 62) ≤ l ∧ l < 2 ^ 62 ∧ -(2 ^ 62) ≤ m ∧ m < 2 ^ 62) (q : R (Itr l (m - l).toNat)) : PR2 [.int l, .int m] R := ⟨l, m, rfl, h, q⟩
theorem r_pr3d {R : It → Prop} (h : -(2 ^ 62) ≤ l ∧ l < 2 ^ 62 ∧ -(2 ^ 62) ≤ m ∧ m < 2 ^ 62) (q : R (Itc l (-1) (l - m).toNat)) : PR3 [.int l, .int m, .int (-1)] R := ⟨l, m, -1, _, rfl, RgC.neg h.1 h.2.1 h.2.2.1 h.2.2.2, q⟩
theorem r_forRange {lo : Int} {n : Nat} (Pv : Nat → L2.St → Hp → Prop) (h0 : Pv 0 σ H)
    (hs : ∀ i σ' H', i < n → Pv i σ' H' → tb { D with nx := Pv (i + 1), ct := Pv (i + 1), bk := D.nx } (σ'.set j (some (.int (lo + (i : Int))))) H')
    (hd : ∀ σ' H', Pv n σ' H' → D.nx σ' H') : PFor (Itr lo n) (gName j) tb D σ H := for_range Pv h0 hs hd
theorem r_forRange0 {n : Nat} (Pv : Nat → L2.St → Hp → Prop) (h0 : Pv 0 σ H)
    (hs : ∀ i σ' H', i < n → Pv i σ' H' → tb { D with nx := Pv (i + 1), ct := Pv (i + 1), bk := D.nx } (σ'.set j (some (.int (i : Int)))) H')
    (hd : ∀ σ' H', Pv n σ' H' → D.nx σ' H') : PFor (Itr 0 n) (gName j) tb D σ H := for_range Pv h0 (fun i σ' H' hi p => by
      show tb _ (σ'.set j (some (.int ((0 : Int) + (i : Int))))) H'
      rw [Int.zero_add]
      exact hs i σ' H' hi p) hd
def PSeqT (K : PySem.W.Frag) (x : V) (H : Hp) (R : It → Hp → Prop) : Prop := ∃ a, x = .ref a ∧ (∃ xs, SqT K H a xs) ∧ R (Itt K a) H
def PSeqL (K : PySem.W.Frag) (x : V) (H : Hp) (R : It → Hp → Prop) : Prop := ∃ a, x = .ref a ∧ (∃ xs, SqL K H a xs) ∧ R (Itl K a) H
def PSeqS (x : V) (H : Hp) (R : It → Hp → Prop) : Prop := ∃ z, x = .str z ∧ R (Its z) H
theorem r_seqT (h : te σ H fun x H1 => PSeqT K x H1 R) : iSeqU K te σ H R := .inr (.inl h)
theorem r_seqL (h : te σ H fun x H1 => PSeqL K x H1 R) : iSeqU K te σ H R := .inl h
theorem r_seqS (h : te σ H fun x H1 => PSeqS x H1 R) : iSeqU K te σ H R := .inr (.inr h)
theorem r_pseqT {a : Addr} {xs : List V} (h : SqT K H a xs) (q : R (Itt K a) H) : PSeqT K (.ref a) H R := ⟨a, rfl, ⟨xs, h⟩, q⟩
theorem r_pseqL {a : Addr} {xs : List V} (h : SqL K H a xs) (q : R (Itl K a) H) : PSeqL K (.ref a) H R := ⟨a, rfl, ⟨xs, h⟩, q⟩
theorem r_pseqS {z : Str} (q : R (Its z) H) : PSeqS (.str z) H R := ⟨z, rfl, q⟩
theorem r_forTup {a : Addr} {xs : List V} (Pv : Nat → L2.St → Hp → Prop) (h0 : Pv 0 σ H) (hl : ∀ i σ' H', i ≤ xs.length → Pv i σ' H' → SqT K H' a xs)
    (hs : ∀ i x σ' H', xs[i]? = some x → Pv i σ' H' → g x σ' H' fun σ2 H2 => tb { D with nx := Pv (i + 1), ct := Pv (i + 1), bk := D.nx } σ2 H2)
    (hd : ∀ σ' H', Pv xs.length σ' H' → D.nx σ' H') : PFor (Itt K a) g tb D σ H := for_tup Pv h0 hl hs hd
theorem r_forLst {a : Addr} {xs : List V} (Pv : Nat → L2.St → Hp → Prop) (h0 : Pv 0 σ H) (hl : ∀ i σ' H', i ≤ xs.length → Pv i σ' H' → SqL K H' a xs)
    (hs : ∀ i x σ' H', xs[i]? = some x → Pv i σ' H' → g x σ' H' fun σ2 H2 => tb { D with nx := Pv (i + 1), ct := Pv (i + 1), bk := D.nx } σ2 H2)
    (hd : ∀ σ' H', Pv xs.length σ' H' → D.nx σ' H') : PFor (Itl K a) g tb D σ H := for_list Pv h0 hl hs hd
def PLc (J : It) (g : TG) (tt : TT) (te : TE) (vs : List Nat) (σ : L2.St) (H1 : Hp) (Q : VK) : Prop := ∀ D, H1 D = none → ∃ W : Nat → Nat → Hp → Prop, (∃ m, W 0 m (upd H1 D (.lst []))) ∧ ∀ i m H, W i m H →
  (J.stop i H ∧ Q (.ref D) H) ∨ (J.go i H ∧ ∃ Nx : Hp → Prop, (∀ H', Nx H' → ∃ m', m' < m ∧ W (i + 1) m' H') ∧ ∀ x H', J.yld i H x H' → g x (wipe σ vs) H' fun σ2 H2 => wipe σ2 vs = wipe σ vs ∧ tt σ2 H2 fun b H3 =>
    if b = true then te σ2 H3 fun y H4 => ∃ acc, H4 D = some (.lst acc) ∧ acc.length < sizeLine ∧ Nx (upd H4 D (.lst (acc ++ [y]))) else Nx H3)
theorem r_lc {wi : TI} {tt : TT} {vs : List Nat} {Q : VK} (h : wi σ H fun J H1 => PLc J g tt te vs σ H1 Q) : tLc wi g tt te vs σ H Q := h
theorem r_yes {QB : Bool → Hp → Prop} (q : QB true H) : tYes σ H QB := q
/-- the made item goes into the list at D -/
def PAcc (D : Addr) (Nx : Hp → Prop) (y : V) (H : Hp) : Prop := ∃ acc, H D = some (.lst acc) ∧ acc.length < sizeLine ∧ Nx (upd H D (.lst (acc ++ [y])))
theorem r_acc {D : Addr} {Nx : Hp → Prop} {y : V} {acc : List V} (h : H D = some (.lst acc)) (hz : acc.length ≤ 1000000) (k : ∀ H', But D H H' → H' D = some (.lst (acc ++ [y])) → Nx H') : PAcc D Nx y H :=
  ⟨acc, h, by rw [sizeLine_eq]; omega, k _ but_upd upd_same⟩
/-- over a tuple: Pv tells the new list's place, the turn, the heap -/
theorem r_lcT {a : Addr} {xs : List V} {Q : VK} {tt : TT} {vs : List Nat} (Pv : Addr → Nat → Hp → Prop) (hw : ∀ x, wipe ((wipe σ vs).set j (some x)) vs = wipe σ vs)
    (h0 : ∀ D H', H D = none → Same H H' → H' D = some (.lst []) → Pv D 0 H') (hl : ∀ D i H', Pv D i H' → SqT K H' a xs)
    (hs : ∀ D i x H', xs[i]? = some x → Pv D i H' → tt ((wipe σ vs).set j (some x)) H' fun b H3 => if b = true then te ((wipe σ vs).set j (some x)) H3 (fun y H4 => PAcc D (Pv D (i + 1)) y H4) else Pv D (i + 1) H3)
    (hd : ∀ D H', H D = none → Pv D xs.length H' → Q (.ref D) H') : PLc (Itt K a) (gName j) tt te vs σ H Q := by
  intro D hD
  exact lc_tup (xs := xs) (Pv D) (h0 D _ hD (same_new hD) upd_same) (fun i H' _ p => hl D i H' p) (fun i x H' hi p => ⟨hw x, hs D i x H' hi p⟩) (fun H' p => hd D H' hD p)
theorem r_lcL {a : Addr} {xs : List V} {Q : VK} {tt : TT} {vs : List Nat} (Pv : Addr → Nat → Hp → Prop) (hw : ∀ x, wipe ((wipe σ vs).set j (some x)) vs = wipe σ vs)
    (h0 : ∀ D H', H D = none → Same H H' → H' D = some (.lst []) → Pv D 0 H') (hl : ∀ D i H', Pv D i H' → SqL K H' a xs)
    (hs : ∀ D i x H', xs[i]? = some x → Pv D i H' → tt ((wipe σ vs).set j (some x)) H' fun b H3 => if b = true then te ((wipe σ vs).set j (some x)) H3 (fun y H4 => PAcc D (Pv D (i + 1)) y H4) else Pv D (i + 1) H3)
    (hd : ∀ D H', H D = none → Pv D xs.length H' → Q (.ref D) H') : PLc (Itl K a) (gName j) tt te vs σ H Q := by
  intro D hD
  exact lc_list (xs := xs) (Pv D) (h0 D _ hD (same_new hD) upd_same) (fun i H' _ p => hl D i H' p) (fun i x H' hi p => ⟨hw x, hs D i x H' hi p⟩) (fun H' p => hd D H' hD p)
theorem r_lcR {lo : Int} {n : Nat} {Q : VK} {tt : TT} {vs : List Nat} (Pv : Addr → Nat → Hp → Prop) (hw : ∀ x, wipe ((wipe σ vs).set j (some x)) vs = wipe σ vs)
    (h0 : ∀ D H', H D = none → Same H H' → H' D = some (.lst []) → Pv D 0 H')
    (hs : ∀ D i H', i < n → Pv D i H' → tt ((wipe σ vs).set j (some (.int (lo + (i : Int))))) H' fun b H3 => if b = true then te ((wipe σ vs).set j (some (.int (lo + (i : Int))))) H3 (fun y H4 => PAcc D (Pv D (i + 1)) y H4) else Pv D (i + 1) H3)
    (hd : ∀ D H', H D = none → Pv D n H' → Q (.ref D) H') : PLc (Itr lo n) (gName j) tt te vs σ H Q := by
  intro D hD
  exact lc_range (Pv D) (h0 D _ hD (same_new hD) upd_same) (fun i H' hi p => ⟨hw _, hs D i H' hi p⟩) (fun H' p => hd D H' hD p)
/-- the plain case: a tuple's items, each gives a value that its own place and item tell; nothing else is changed -/
theorem r_lcTm {a : Addr} {xs : List V} {Q : VK} {vs : List Nat} (f : Nat → V → V) (hx : SqT K H a xs) (hz : xs.length ≤ 1000000) (hw : ∀ x, wipe ((wipe σ vs).set j (some x)) vs = wipe σ vs)
    (hs : ∀ i x H1 (Q' : VK), xs[i]? = some x → Same H H1 → (∀ H2, Same H1 H2 → Q' (f i x) H2) → te ((wipe σ vs).set j (some x)) H1 Q')
    (hd : ∀ p H', H p = none → Same H H' → H' p = some (.lst ((List.range xs.length).zipWith f xs)) → Q (.ref p) H') : PLc (Itt K a) (gName j) tYes te vs σ H Q := by
  refine r_lcT (xs := xs) (fun D i H' => H D = none ∧ Same H H' ∧ H' D = some (.lst (((List.range xs.length).zipWith f xs).take i))) hw (fun D H' hD s e => ⟨hD, s, by rw [e]; rfl⟩) (fun D i H' p => sqT_same p.2.1 hx) (fun D i x H' hi p => ?_) (fun D H' hD p => ?_)
  · refine r_yes ?_
    refine r_T ?_
    have hil : i < xs.length := (List.getElem?_eq_some_iff.mp hi).1
    refine hs i x H' _ hi p.2.1 (fun H2 s2 => r_acc (s2 _ _ p.2.2) ?_ fun H5 b5 e5 => ⟨p.1, same_but (p.2.1.trans s2) b5 p.1, ?_⟩)
    · rw [List.length_take, List.length_zipWith, List.length_range]; omega
    · rw [e5, List.take_add_one]
      have e : ((List.range xs.length).zipWith f xs)[i]? = some (f i x) := by
        rw [List.getElem?_zipWith, hi, List.getElem?_range hil]
      rw [e]
      rfl
  · refine hd D H' hD p.2.1 ?_
    have e := p.2.2
    rw [List.take_of_length_le (by rw [List.length_zipWith, List.length_range]; omega)] at e
    exact e
end
end Kb
set_option Elab.async false
set_option linter.all false
set_option maxRecDepth 100000
set_option maxHeartbeats 4000000
namespace Kb
open PySem PySem.Spec PyProof.Rows L2
inductive Dat where | int (i : Int) | bl (b : Bool) | str (s : Str) | non | tup (ds : List Dat)
mutual
def Dat.size : Dat → Nat
  | .tup ds => 1 + Dat.sizes ds
  | _ => 1
def Dat.sizes : List Dat → Nat
  | [] => 0
  | d :: ds => d.size + Dat.sizes ds
end
theorem Dat.size_pos : ∀ d : Dat, 0 < d.size
  | .int _ => by simp [Dat.size]
  | .bl _ => by simp [Dat.size]
  | .str _ => by simp [Dat.size]
  | .non => by simp [Dat.size]
  | .tup _ => by simp [Dat.size]; omega
mutual
inductive Rp (K : PySem.W.Frag) (H : Hp) : V → Dat → Prop
  | int (i : Int) : Rp K H (.int i) (.int i)
  | bl (b : Bool) : Rp K H (.bl b) (.bl b)
  | str (s : Str) : Rp K H (.str s) (.str s)
  | non : Rp K H .non .non
  | tup {a : Addr} {xs : List V} {ds : List Dat} : SqT K H a xs → RpL K H xs ds → Rp K H (.ref a) (.tup ds)
inductive RpL (K : PySem.W.Frag) (H : Hp) : List V → List Dat → Prop
  | nil : RpL K H [] []
  | cons {v : V} {vs : List V} {d : Dat} {ds : List Dat} : Rp K H v d → RpL K H vs ds → RpL K H (v :: vs) (d :: ds)
end
section
variable {K : PySem.W.Frag} {H H' : Hp} {l : Addr} {ys : List V}
/-- tuples stay -/
def TK (K : PySem.W.Frag) (H H' : Hp) : Prop := ∀ a xs, SqT K H a xs → SqT K H' a xs
theorem tk_same (s : Same H H') : TK K H H' := fun _ _ h => sqT_same s h
theorem tk_but (b : But l H H') (hl : H l = some (.lst ys)) : TK K H H' := fun _ _ h => sqT_but b hl h
mutual
theorem rp_keep (k : TK K H H') : ∀ {v : V} {d : Dat}, Rp K H v d → Rp K H' v d
  | _, _, .int i => .int i
  | _, _, .bl b => .bl b
  | _, _, .str s => .str s
  | _, _, .non => .non
  | _, _, .tup h hr => .tup (k _ _ h) (rpL_keep k hr)
theorem rpL_keep (k : TK K H H') : ∀ {vs : List V} {ds : List Dat}, RpL K H vs ds → RpL K H' vs ds
  | _, _, .nil => .nil
  | _, _, .cons h hr => .cons (rp_keep k h) (rpL_keep k hr)
end
theorem rp_same {v : V} {d : Dat} (s : Same H H') (h : Rp K H v d) : Rp K H' v d := rp_keep (tk_same s) h
theorem rp_but {v : V} {d : Dat} (b : But l H H') (hl : H l = some (.lst ys)) (h : Rp K H v d) : Rp K H' v d := rp_keep (tk_but b hl) h
theorem rpL_length : ∀ {vs : List V} {ds : List Dat}, RpL K H vs ds → vs.length = ds.length
  | _, _, .nil => rfl
  | _, _, .cons _ hr => by simp [rpL_length hr]
theorem rpL_get : ∀ {vs : List V} {ds : List Dat} {i : Nat} {d : Dat}, RpL K H vs ds → ds[i]? = some d → ∃ v, vs[i]? = some v ∧ Rp K H v d
  | _, _, _, _, .nil, e => by simp at e
  | _, _, 0, _, .cons h _, e => by simp at e; subst e; exact ⟨_, rfl, h⟩
  | _, _, i + 1, _, .cons _ hr, e => by
    obtain ⟨v, h1, h2⟩ := rpL_get (i := i) hr (by simpa using e)
    exact ⟨v, by simpa using h1, h2⟩
theorem rpL_ints (ns : List Int) : RpL K H (ns.map V.int) (ns.map Dat.int) := by
  induction ns with
  | nil => exact .nil
  | cons n ns ih => exact .cons (.int n) ih
theorem rp_ints {a : Addr} {ns : List Int} (h : SqT K H a (ns.map V.int)) : Rp K H (.ref a) (.tup (ns.map Dat.int)) := .tup h (rpL_ints ns)
end
section
variable {K : PySem.W.Frag} {H : Hp} {Q : VK}
theorem r_isiT {a : Addr} {xs : List V} {b : Bool} {T : String} (h : SqT K H a xs) (hb : kitB "tuple" T = some b) (q : Q (.bl b) H) : rIsi K [.ref a, .ty T] H Q := by
  refine ⟨.ref a, .ty T, .type "tuple", .type T, b, rfl, .ty T, ?_, kit_ty hb, q⟩
  rcases h with (h | ⟨o, h⟩) | h
  · exact .base (.tup h)
  · exact .fTuple h
  · obtain ⟨o, its, n, h1, h2, _⟩ := h
    exact .kTuple h1 h2
theorem r_isiI {i : Int} {b : Bool} {T : String} (hb : kitB "int" T = some b) (q : Q (.bl b) H) : rIsi K [.int i, .ty T] H Q := ⟨_, _, _, _, b, rfl, .ty T, .base (.int i), kit_ty hb, q⟩
theorem r_isiB {i : Bool} {b : Bool} {T : String} (hb : kitB "bool" T = some b) (q : Q (.bl b) H) : rIsi K [.bl i, .ty T] H Q := ⟨_, _, _, _, b, rfl, .ty T, .base (.bl i), kit_ty hb, q⟩
theorem r_isiS {i : Str} {b : Bool} {T : String} (hb : kitB "str" T = some b) (q : Q (.bl b) H) : rIsi K [.str i, .ty T] H Q := ⟨_, _, _, _, b, rfl, .ty T, .base (.str i), kit_ty hb, q⟩
theorem r_isiN {b : Bool} {T : String} (hb : kitB "NoneType" T = some b) (q : Q (.bl b) H) : rIsi K [.non, .ty T] H Q := ⟨_, _, _, _, b, rfl, .ty T, .base .non, kit_ty hb, q⟩
end
local macro_rules | `(tactic| walk_at "tk") => `(tactic| first
  | assumption
  | ((with_reducible refine' sqT_of ?k); (case k => assumption))
  | ((with_reducible refine' sqT_ofD ?k); (case k => assumption))
  | ((with_reducible refine' noD_of ?k); (case k => assumption))
  | ((with_reducible refine' noD_same ?s ?k); (case s => assumption); (case k => walk_at "tk"))
  | ((with_reducible refine' sqL_of ?k); (case k => assumption))
  | ((with_reducible refine' sqT_same ?s ?k); (case s => assumption); (case k => walk_at "tk"))
  | ((with_reducible refine' sqL_same ?s ?k); (case s => assumption); (case k => walk_at "tk"))
  | ((with_reducible refine' sqT_but ?s ?t ?k); (case s => assumption); (case t => walk_at "tk"); (case k => walk_at "tk"))
  | ((with_reducible refine' sqL_but ?s ?t ?k); (case s => assumption); (case t => walk_at "ne"); (case k => walk_at "tk"))
  | ((with_reducible refine' sqL_of ?k); (case k => walk_at "tk"))
  | ((with_reducible refine' sqT_of ?k); (case k => walk_at "tk"))
  | ((with_reducible refine' at_same ?s ?k); (case s => assumption); (case k => walk_at "tk"))
  | ((with_reducible refine' at_but ?s ?t ?k); (case s => assumption); (case t => walk_at "ne"); (case k => walk_at "tk")))
local macro_rules | `(tactic| walk_at "ne") => `(tactic| first
  | assumption
  | (refine Ne.symm ?_; assumption)
  | exact ne_of_none (by assumption) (by assumption)
  | exact (ne_of_none (by assumption) (by assumption)).symm)
local macro_rules | `(tactic| walk_at "side") => `(tactic| first
  | assumption
  | omega
  | (simp only [sizeLine_eq, List.length_cons, List.length_nil, List.length_map]; omega)
  | (show _ ≤ sizeLine; decide))
local macro_rules | `(tactic| walk_at "kit") => `(tactic| first
  | (show kitB _ _ = some true; decide +kernel)
  | (show kitB _ _ = some false; decide +kernel))
local macro_rules | `(tactic| walk_at "rng") => `(tactic| first
  | (refine ⟨by omega, by omega, by omega, by omega⟩)
  | (refine ⟨by omega, by omega⟩)
  | ((simp only [List.length_map]); (refine ⟨by omega, by omega, by omega, by omega⟩))
  | ((simp only [List.length_map]); (refine ⟨by omega, by omega⟩)))
local macro_rules | `(tactic| walk_at "rd1") => `(tactic| first
  | with_reducible refine r_seq ?_
  | ((with_reducible refine' r_var ?k0 ?_); (case k0 => rfl))
  | with_reducible refine r_op ?_
  | with_reducible refine r_c ?_
  | with_reducible refine r_asg ?_
  | with_reducible refine r_name ?_
  | with_reducible refine r_cons ?_
  | with_reducible refine r_nil ?_
  | with_reducible refine r_CB ?_
  | with_reducible refine r_if ?_
  | with_reducible refine r_test ?_
  | with_reducible refine r_k ?_
  | with_reducible refine r_T ?_
  | with_reducible refine r_F ?_
  | with_reducible refine r_nT ?_
  | with_reducible refine r_nF ?_
  | with_reducible refine r_ret ?_
  | with_reducible refine r_drop ?_
  | with_reducible refine r_next ?_
  | with_reducible refine r_call ?_
  | with_reducible refine r_addI ?_
  | with_reducible refine r_subI ?_
  | with_reducible refine r_ltI ?_
  | with_reducible refine r_gtI ?_
  | with_reducible refine r_leI ?_
  | with_reducible refine r_geI ?_
  | with_reducible refine r_eqI ?_
  | with_reducible refine r_neI ?_
  | with_reducible refine r_int ?_
  | with_reducible refine r_abs ?_
  | with_reducible refine r_not ?_
  | with_reducible refine r_and ?_
  | with_reducible refine r_or ?_
  | with_reducible refine r_tru ?_
  | with_reducible refine r_truB ?_
  | with_reducible refine r_lst ?_
  | with_reducible refine r_tup ?_
  | with_reducible refine r_BM ?_
  | with_reducible refine r_BM0 ?_
  | with_reducible refine r_tyS ?_
  | with_reducible refine r_gsub ?_
  | with_reducible refine r_then ?_
  | with_reducible refine r_lstRg ?_
  | with_reducible refine r_tupRg ?_
  | with_reducible refine r_rg2 ?_
  | with_reducible refine r_rg1 ?_
  | with_reducible refine r_ii ?_
  | with_reducible refine r_i ?_
  | with_reducible refine r_ipI ?_
  | with_reducible refine r_un ?_
  | with_reducible refine r_neg ?_
  | with_reducible refine r_isN ?_
  | with_reducible refine r_notN ?_
  | with_reducible refine r_notV ?_
  | with_reducible refine r_pnot ?_
  | with_reducible refine r_pif ?_
  | with_reducible refine r_andV ?_
  | with_reducible refine r_orV ?_
  | with_reducible refine r_ifE ?_
  | with_reducible refine r_chain ?_
  | with_reducible refine r_sl ?_
  | with_reducible refine r_noPart ?_
  | with_reducible refine r_part ?_
  | with_reducible refine r_brk ?_
  | with_reducible refine r_cont ?_
  | with_reducible refine r_retN ?_
  | with_reducible refine r_truI ?_
  | with_reducible refine r_B ?_
  | with_reducible refine r_for ?_
  | with_reducible refine r_rng1 ?_
  | with_reducible refine r_rng2 ?_
  | with_reducible refine r_rng3 ?_
  | with_reducible refine r_body ?_
  | with_reducible refine r_lc ?_
  | with_reducible refine r_yes ?_
  | ((with_reducible refine' r_mod ?k0 ?_); (case k0 => walk_at "side"))
  | ((with_reducible refine' r_mulI ?k0 ?_); (case k0 => first | exact Or.inl ⟨by omega, by omega⟩ | exact Or.inr ⟨by omega, by omega⟩))
  | ((with_reducible refine' r_lenL ?k0 ?_); (case k0 => walk_at "tk"))
  | ((with_reducible refine' r_lenT ?k0 ?_); (case k0 => walk_at "tk"))
  | ((with_reducible refine' r_truL ?k0 ?_); (case k0 => walk_at "tk"))
  | ((with_reducible refine' r_truT ?k0 ?_); (case k0 => walk_at "tk"))
  | ((with_reducible refine' r_ixL ?k0 ?k1 ?_); (case k0 => walk_at "tk"); (case k1 => first | assumption | rfl))
  | ((with_reducible refine' r_ixT ?k0 ?k1 ?_); (case k0 => walk_at "tk"); (case k1 => first | assumption | rfl))
  | ((with_reducible refine' r_new ?k0 ?_); (case k0 => walk_at "side"))
  | ((with_reducible refine' r_tyL ?k0 ?_); (case k0 => walk_at "tk"))
  | ((with_reducible refine' r_append ?k0 ?k1 ?_); (case k0 => walk_at "tk"); (case k1 => walk_at "side"))
  | ((with_reducible refine' r_setL ?k0 ?k1 ?_); (case k0 => walk_at "tk"); (case k1 => first | assumption | rfl))
  | ((with_reducible refine' r_kTupL ?k0 ?_); (case k0 => walk_at "tk"))
  | ((with_reducible refine' r_kTupT ?k0 ?_); (case k0 => walk_at "tk"))
  | ((with_reducible refine' r_listL ?k0 ?_); (case k0 => walk_at "tk"))
  | ((with_reducible refine' r_listT ?k0 ?_); (case k0 => walk_at "tk"))
  | ((with_reducible refine' r_aug ?k0 ?_); (case k0 => rfl))
  | ((with_reducible refine' r_lenS ?k0 ?_); (case k0 => walk_at "side"))
  | ((with_reducible refine' r_pop ?k0 ?_); (case k0 => walk_at "tk"))
  | ((with_reducible refine' r_pr1 ?k0 ?_); (case k0 => walk_at "rng"))
  | ((with_reducible refine' r_pr2 ?k0 ?_); (case k0 => walk_at "rng"))
  | ((with_reducible refine' r_pr3d ?k0 ?_); (case k0 => walk_at "rng"))
  | ((with_reducible refine' r_isiI ?k0 ?_); (case k0 => walk_at "kit"))
  | ((with_reducible refine' r_isiB ?k0 ?_); (case k0 => walk_at "kit"))
  | ((with_reducible refine' r_isiS ?k0 ?_); (case k0 => walk_at "kit"))
  | ((with_reducible refine' r_isiN ?k0 ?_); (case k0 => walk_at "kit"))
  | ((with_reducible refine' r_isiT ?k0 ?k1 ?_); (case k0 => walk_at "tk"); (case k1 => walk_at "kit"))
  | ((with_reducible refine r_seqT ?_); (repeat (walk_at "rd1")); ((with_reducible refine' r_pseqT ?k0 ?_); (case k0 => walk_at "tk")))
  | ((with_reducible refine r_seqL ?_); (repeat (walk_at "rd1")); ((with_reducible refine' r_pseqL ?k0 ?_); (case k0 => walk_at "tk")))
  | ((with_reducible refine r_seqS ?_); (repeat (walk_at "rd1")); (with_reducible refine r_pseqS ?_)))
local macro_rules | `(tactic| walk_at "rd") => `(tactic| ((repeat (walk_at "rd1")); (try dsimp only)))
def sp_law_same (K : PySem.W.Frag) : Sp := fun vs H Q _ => ∃ (x y : V) (d : Dat), vs = [x, y] ∧ Rp K H x d ∧ Rp K H y d ∧ d.size ≤ 1000000 ∧ ∀ H', Same H H' → Q (.bl true) H'
abbrev N_law_same : List Str := ["got", "due", "stack", "pair", "k"]
def t_law_same (K : PySem.W.Frag) : TS :=
  tSeq (tAsg ((tLst (tCons ((tLst (tCons (tVar 0) (tCons (tVar 1) tNil)))) tNil))) (gName 2))
  (tSeq (tWhile ((tTru K (tVar 2))) (tSeq (tAsg ((tBM0 K "list" rPop (tVar 2))) (gName 3))
  ((tIfS ((tTru K ((tCB (rIsi K) (tCons ((tOp (rIx K) (tVar 3) ((tC (.int 1))))) (tCons ((tC (.ty "tuple"))) tNil)))))) (tSeq (tIfS ((tOr ((tNot ((tTru K ((tCB (rIsi K) (tCons ((tOp (rIx K) (tVar 3) ((tC (.int 0))))) (tCons ((tC (.ty "tuple"))) tNil)))))))) ((tTest (tOp (rNeU K) ((tCB (rLenU K) (tCons ((tOp (rIx K) (tVar 3) ((tC (.int 0))))) tNil))) ((tCB (rLenU K) (tCons ((tOp (rIx K) (tVar 3) ((tC (.int 1))))) tNil)))))))) ((tRet ((tC (.bl false))))) (tNext))
  ((tFor (iRng1 (tCons ((tCB (rLenU K) (tCons ((tOp (rIx K) (tVar 3) ((tC (.int 1))))) tNil))) tNil)) (gName 4) ((tDrop ((tBM K "list" rAppend (tVar 2) (tCons ((tLst (tCons ((tOp (rIx K) ((tOp (rIx K) (tVar 3) ((tC (.int 0))))) (tVar 4))) (tCons ((tOp (rIx K) ((tOp (rIx K) (tVar 3) ((tC (.int 1))))) (tVar 4))) tNil)))) tNil)))))))) ((tIfS ((tTru K ((tCB (rIsi K) (tCons ((tOp (rIx K) (tVar 3) ((tC (.int 1))))) (tCons ((tC (.ty "bool"))) tNil)))))) ((tIfS ((tOr ((tNot ((tTru K ((tCB (rIsi K) (tCons ((tOp (rIx K) (tVar 3) ((tC (.int 0))))) (tCons ((tC (.ty "bool"))) tNil)))))))) ((tTest (tOp (rNeU K) ((tOp (rIx K) (tVar 3) ((tC (.int 0))))) ((tOp (rIx K) (tVar 3) ((tC (.int 1)))))))))) ((tRet ((tC (.bl false))))) (tNext))) ((tIfS ((tTru K ((tCB (rIsi K) (tCons ((tOp (rIx K) (tVar 3) ((tC (.int 1))))) (tCons ((tC (.ty "int"))) tNil)))))) ((tIfS ((tOr ((tNot ((tTru K ((tCB (rIsi K) (tCons ((tOp (rIx K) (tVar 3) ((tC (.int 0))))) (tCons ((tC (.ty "int"))) tNil)))))))) ((tOr ((tTru K ((tCB (rIsi K) (tCons ((tOp (rIx K) (tVar 3) ((tC (.int 0))))) (tCons ((tC (.ty "bool"))) tNil)))))) ((tTest (tOp (rNeU K) ((tOp (rIx K) (tVar 3) ((tC (.int 0))))) ((tOp (rIx K) (tVar 3) ((tC (.int 1)))))))))))) ((tRet ((tC (.bl false))))) (tNext))) ((tIfS ((tTru K ((tCB (rIsi K) (tCons ((tOp (rIx K) (tVar 3) ((tC (.int 1))))) (tCons ((tC (.ty "str"))) tNil)))))) ((tIfS ((tOr ((tNot ((tTru K ((tCB (rIsi K) (tCons ((tOp (rIx K) (tVar 3) ((tC (.int 0))))) (tCons ((tC (.ty "str"))) tNil)))))))) ((tTest (tOp (rNeU K) ((tOp (rIx K) (tVar 3) ((tC (.int 0))))) ((tOp (rIx K) (tVar 3) ((tC (.int 1)))))))))) ((tRet ((tC (.bl false))))) (tNext))) ((tIfS ((tTest (tOp rNotNU ((tOp (rIx K) (tVar 3) ((tC (.int 0))))) ((tC .non))))) ((tRet ((tC (.bl false))))) (tNext)))))))))))))
  ((tRet ((tC (.bl true))))))
theorem len_law_same {K : PySem.W.Frag} {vs : List V} {H : Hp} {Q : VK} {E : XK} (h : sp_law_same K vs H Q E) : vs.length = 2 := by
  obtain ⟨x, y, d, rfl, _⟩ := h; rfl
theorem r_neSame {K : PySem.W.Frag} {x : V} {H : Hp} {Q : VK} (h : scal x x = true) (q : Q (.bl false) H) : rNeU K x x H Q := .inl ⟨h, by rw [decide_eq_true rfl]; exact q⟩
structure Item where
  q : Addr
  x : V
  y : V
  d : Dat
def Items (K : PySem.W.Frag) (H : Hp) (s : Addr) (its : List Item) : Prop := ∀ it ∈ its, it.q ≠ s ∧ H it.q = some (.lst [it.x, it.y]) ∧ Rp K H it.x it.d ∧ Rp K H it.y it.d
theorem Items.same {K : PySem.W.Frag} {H H' : Hp} {s : Addr} {its : List Item} (h : Items K H s its) (e : Same H H') : Items K H' s its := fun it hi =>
  let ⟨a, b, c, d⟩ := h it hi
  ⟨a, e _ _ b, rp_same e c, rp_same e d⟩
theorem Items.but {K : PySem.W.Frag} {H H' : Hp} {s : Addr} {its : List Item} {ys : List V} (h : Items K H s its) (e : But s H H') (hs : H s = some (.lst ys)) : Items K H' s its := fun it hi =>
  let ⟨a, b, c, d⟩ := h it hi
  ⟨a, e _ _ a b, rp_but e hs c, rp_but e hs d⟩
def total (its : List Item) : Nat := (its.map fun it => it.d.size).sum
def refs (its : List Item) : List V := its.map fun it => .ref it.q
theorem total_append (a b : List Item) : total (a ++ b) = total a + total b := by simp [total]
theorem refs_append (a b : List Item) : refs (a ++ b) = refs a ++ refs b := by simp [refs]
theorem length_le_total : ∀ its : List Item, its.length ≤ total its
  | [] => Nat.le_refl _
  | it :: r => by
    have h1 := length_le_total r
    have h2 := it.d.size_pos
    show r.length + 1 ≤ total ([it] ++ r)
    rw [total_append]
    simp [total] at *
    omega
theorem sizes_take : ∀ (ds : List Dat) (i : Nat) (d : Dat), ds[i]? = some d → Dat.sizes (ds.take (i + 1)) = Dat.sizes (ds.take i) + d.size
  | [], _, _, h => by simp at h
  | e :: r, 0, d, h => by simp at h; subst h; simp [Dat.sizes]
  | e :: r, i + 1, d, h => by
    have := sizes_take r i d (by simpa using h)
    simp only [List.take_succ_cons, Dat.sizes, this]
    omega
theorem sizes_take_le : ∀ (ds : List Dat) (i : Nat), Dat.sizes (ds.take i) ≤ Dat.sizes ds
  | [], i => by simp [Dat.sizes]
  | e :: r, 0 => by simp [Dat.sizes]
  | e :: r, i + 1 => by
    have := sizes_take_le r i
    simp only [List.take_succ_cons, Dat.sizes]
    omega
theorem len_sizes : ∀ (ds : List Dat), ds.length ≤ Dat.sizes ds
  | [] => by simp [Dat.sizes]
  | e :: r => by
    have := len_sizes r
    have := e.size_pos
    simp only [List.length_cons, Dat.sizes]
    omega
theorem pure_law_same {K : PySem.W.Frag} {vs : List V} {H : Hp} {Q : VK} {E : XK} (h : sp_law_same K vs H Q E) : t_law_same K (En Q) (start N_law_same vs) H := by
  obtain ⟨x0, y0, d0, rfl, hx0, hy0, hd0, q⟩ := h
  unfold t_law_same
  walk_at "rd"
  intro p1 H1 np1 s1 e1
  walk_at "rd"
  intro st H2 nst s2 e2
  walk_at "rd"
  have hne : p1 ≠ st := ne_of_none e1 nst
  refine r_while (fun m σ H' => ∃ (its : List Item) (z3 z4 : Option V), σ = [some x0, some y0, some (.ref st), z3, z4] ∧ Same H H' ∧ H st = none ∧ H' st = some (.lst (refs its)) ∧ Items K H' st its ∧ m = total its ∧ m ≤ 1000000) d0.size
    ⟨[⟨p1, x0, y0, d0⟩], none, none, rfl, s1.trans s2, s1.free nst, e2, ?_, ?_, hd0⟩ (fun m σ H' hW => ?_)
  · intro it hi
    rw [List.mem_singleton] at hi
    subst hi
    exact ⟨hne, s2 _ _ e1, rp_same (s1.trans s2) hx0, rp_same (s1.trans s2) hy0⟩
  · simp [total]
  obtain ⟨its, z3, z4, rfl, s3, nst0, e3, hI, rfl, hm⟩ := hW
  walk_at "rd"
  rcases List.eq_nil_or_concat its with rfl | ⟨rest, it, rfl⟩
  · -- the stack is empty
    refine r_F ?_
    walk_at "rd"
    exact q _ s3
  · rw [List.concat_eq_append] at *
    have hb : (!(refs (rest ++ [it])).isEmpty) = true := by rw [refs_append]; simp [refs]
    rw [if_pos hb]
    have e3' : H' st = some (.lst (refs rest ++ [.ref it.q])) := by rw [e3, refs_append]; rfl
    obtain ⟨hq, eq, hx, hy⟩ := hI it (by simp)
    have hR : Items K H' st rest := fun i hi => hI i (by simp [hi])
    obtain ⟨q0, x, y, d⟩ := it
    dsimp only at hq eq hx hy e3'
    have ht : total (rest ++ [⟨q0, x, y, d⟩]) = total rest + d.size := by rw [total_append]; simp [total]
    rw [ht] at hm ⊢
    walk_at "rd"
    intro H4 b4 e4
    have eq4 : H4 q0 = some (.lst [x, y]) := b4 _ _ hq eq
    have hx4 := rp_but b4 e3' hx
    have hy4 := rp_but b4 e3' hy
    have hR4 := hR.but b4 e3'
    have s4 : Same H H4 := same_but s3 b4 nst0
    have dp := d.size_pos
    have fin : ∃ m', m' < total rest + d.size ∧ ∃ (its : List Item) (y3 y4 : Option V), ([some x0, some y0, some (.ref st), some (.ref q0), z4] : L2.St) = [some x0, some y0, some (.ref st), y3, y4] ∧ Same H H4 ∧ H st = none ∧ H4 st = some (.lst (refs its)) ∧ Items K H4 st its ∧ m' = total its ∧ m' ≤ 1000000 :=
      ⟨total rest, by omega, rest, _, _, rfl, s4, nst0, e4, hR4, rfl, by omega⟩
    walk_at "rd"
    cases hy4 with
    | @tup b ys ds hbt hrb =>
      cases hx4 with
      | @tup a xs _ ha hra =>
        have lx := rpL_length hra
        have ly := rpL_length hrb
        walk_at "rd"
        rw [lx, ly]
        refine r_iteNP rfl ?_
        walk_at "rd"
        have hl := len_sizes ds
        have hs : (Dat.tup ds).size = 1 + Dat.sizes ds := by simp [Dat.size]
        refine r_pr1 ⟨by omega, by omega⟩ ?_
        rw [Int.toNat_natCast, ly]
        refine r_forRange0 (fun i σ' H' => ∃ (its : List Item) (z : Option V), σ' = [some x0, some y0, some (.ref st), some (.ref q0), z] ∧ Same H H' ∧ H' st = some (.lst (refs its)) ∧ Items K H' st its ∧ total its = total rest + Dat.sizes (ds.take i) ∧
          H' q0 = some (.lst [.ref a, .ref b]) ∧ SqT K H' a xs ∧ SqT K H' b ys ∧ RpL K H' xs ds ∧ RpL K H' ys ds)
          ⟨rest, _, rfl, s4, e4, hR4, by simp [Dat.sizes], eq4, ha, hbt, hra, hrb⟩ (fun i σ' H5 hi hP => ?_) (fun σ' H5 hP => ?_)
        · obtain ⟨its, z, rfl, s5, e5, hI5, ht5, eq5, ha5, hb5, hra5, hrb5⟩ := hP
          have hd : ds[i]? = some ds[i] := List.getElem?_eq_getElem hi
          obtain ⟨vx, gx, rx⟩ := rpL_get hra5 hd
          obtain ⟨vy, gy, ry⟩ := rpL_get hrb5 hd
          have gx' := atI_nat gx
          have gy' := atI_nat gy
          walk_at "rd"
          intro p H6 np s6 e6
          have hpq : p ≠ st := (ne_of_none e5 np).symm
          have e56 := s6 _ _ e5
          have hle : Dat.sizes (ds.take (i + 1)) ≤ Dat.sizes ds := sizes_take_le ds _
          have h1 := sizes_take ds i _ hd
          have h2 := (ds[i]).size_pos
          have hz : (refs its).length ≤ total its := by rw [show (refs its).length = its.length by simp [refs]]; exact length_le_total its
          walk_at "rd"
          intro H7 b7 e7
          walk_at "rd"
          refine ⟨its ++ [⟨p, vx, vy, ds[i]⟩], _, rfl, same_but (s5.trans s6) b7 nst0, by rw [e7, refs_append]; rfl, ?_, ?_, b7 _ _ hq (s6 _ _ eq5), sqT_but b7 e56 (sqT_same s6 ha5), sqT_but b7 e56 (sqT_same s6 hb5), rpL_keep (tk_but b7 e56) (rpL_keep (tk_same s6) hra5), rpL_keep (tk_but b7 e56) (rpL_keep (tk_same s6) hrb5)⟩
          · intro it hit
            rcases List.mem_append.mp hit with hit | hit
            · exact ((hI5.same s6).but b7 e56) it hit
            · rw [List.mem_singleton] at hit
              subst hit
              exact ⟨hpq, b7 _ _ hpq e6, rp_but b7 e56 (rp_same s6 rx), rp_but b7 e56 (rp_same s6 ry)⟩
          · rw [total_append, ht5, h1]
            simp [total]
            omega
        · obtain ⟨its, z, rfl, s5, e5, hI5, ht5, eq5, ha5, hb5, hra5, hrb5⟩ := hP
          rw [List.take_length] at ht5
          exact ⟨total its, by omega, its, _, _, rfl, s5, nst0, e5, hI5, rfl, by omega⟩
    | bl c =>
      cases hx4 with
      | bl _ =>
        walk_at "rd"
        refine r_neSame rfl ?_
        walk_at "rd"
        exact fin
    | int c =>
      cases hx4 with
      | int _ =>
        walk_at "rd"
        refine r_iteNP rfl ?_
        walk_at "rd"
        exact fin
    | str c =>
      cases hx4 with
      | str _ =>
        walk_at "rd"
        refine r_neSame rfl ?_
        walk_at "rd"
        exact fin
    | non =>
      cases hx4 with
      | non =>
        walk_at "rd"
        refine r_iteNP rfl ?_
        walk_at "rd"
        exact fin
end Kb
set_option maxRecDepth 100000
set_option linter.all false
namespace Kb
def IsRow (r : List Int) (n : Nat) : Prop := r.length = n ∧ r.Nodup ∧ ∀ x ∈ r, 1 ≤ x ∧ x ≤ (n : Int)
def mulR (x y : List Int) : List Int := y.map fun b => x.getD (b - 1).toNat 0
def roundsR (n : Nat) : List Int := (List.range n).map fun (i : Nat) => 1 + (i : Int)
def nx (r : List Int) (b : Int) : Int := r.getD (b - 1).toNat 0
theorem nodup_erase_len {α : Type} [DecidableEq α] {l : List α} {x : α} (h : x ∈ l) : (l.erase x).length + 1 = l.length := by
  rw [List.length_erase_of_mem h]
  have := List.length_pos_of_mem h
  omega
theorem nodup_le : ∀ (n : Nat) (l : List Int), l.Nodup → (∀ x ∈ l, 1 ≤ x ∧ x ≤ (n : Int)) → l.length ≤ n
  | 0, l, _, h => by
    cases l with
    | nil => exact Nat.le_refl _
    | cons x r => have := h x List.mem_cons_self; omega
  | n + 1, l, nd, h => by
    by_cases hm : ((n : Int) + 1) ∈ l
    · have h1 := nodup_le n (l.erase ((n : Int) + 1)) (nd.erase _) (fun x hx => by
        have h2 := h x (List.mem_of_mem_erase hx)
        have h3 : x ≠ (n : Int) + 1 := fun e => by
          subst e
          exact (List.Nodup.mem_erase_iff nd).mp hx |>.1 rfl
        omega)
      have := nodup_erase_len hm
      omega
    · have := nodup_le n l nd (fun x hx => by
        have h2 := h x hx
        have h3 : x ≠ (n : Int) + 1 := fun e => hm (e ▸ hx)
        omega)
      omega
/-- a row holds every bell -/
theorem row_mem {r : List Int} {n : Nat} (h : IsRow r n) {b : Int} (h1 : 1 ≤ b) (h2 : b ≤ n) : b ∈ r := by
  refine Decidable.byContradiction fun hm => ?_
  have := nodup_le n (b :: r) (List.nodup_cons.mpr ⟨hm, h.2.1⟩) (fun x hx => by
    rcases List.mem_cons.mp hx with rfl | hx
    · exact ⟨h1, h2⟩
    · exact h.2.2 x hx)
  rw [List.length_cons, h.1] at this
  omega
theorem mem_rounds {n : Nat} {x : Int} : x ∈ roundsR n ↔ 1 ≤ x ∧ x ≤ (n : Int) := by
  unfold roundsR
  rw [List.mem_map]
  constructor
  · rintro ⟨i, hi, rfl⟩
    rw [List.mem_range] at hi
    omega
  · rintro ⟨h1, h2⟩
    exact ⟨(x - 1).toNat, List.mem_range.mpr (by omega), by omega⟩
def pw (r : List Int) : Nat → List Int
  | 0 => r
  | m + 1 => mulR (pw r m) r
theorem roundsR_row' (n : Nat) : IsRow (roundsR n) n := by
  refine ⟨by simp [roundsR], ?_, fun x hx => mem_rounds.mp hx⟩
  unfold roundsR
  rw [List.nodup_iff_pairwise_ne, List.pairwise_map]
  exact List.nodup_range.imp fun h e => h (by omega)
theorem row_perm {r : List Int} {n : Nat} (h : IsRow r n) : r.Perm (roundsR n) := by
  rw [List.perm_ext_iff_of_nodup h.2.1 (roundsR_row' n).2.1]
  intro x
  rw [mem_rounds]
  exact ⟨h.2.2 x, fun hx => row_mem h hx.1 hx.2⟩
end Kb
set_option Elab.async false
set_option linter.all false
set_option maxRecDepth 100000
set_option maxHeartbeats 4000000
namespace Kb
open PySem PySem.Spec PyProof.Rows L2
local macro_rules | `(tactic| walk_at "tk") => `(tactic| first
  | assumption
  | ((with_reducible refine' sqT_of ?k); (case k => assumption))
  | ((with_reducible refine' sqT_ofD ?k); (case k => assumption))
  | ((with_reducible refine' noD_of ?k); (case k => assumption))
  | ((with_reducible refine' noD_same ?s ?k); (case s => assumption); (case k => walk_at "tk"))
  | ((with_reducible refine' sqL_of ?k); (case k => assumption))
  | ((with_reducible refine' sqT_same ?s ?k); (case s => assumption); (case k => walk_at "tk"))
  | ((with_reducible refine' sqL_same ?s ?k); (case s => assumption); (case k => walk_at "tk"))
  | ((with_reducible refine' sqT_but ?s ?t ?k); (case s => assumption); (case t => walk_at "tk"); (case k => walk_at "tk"))
  | ((with_reducible refine' sqL_but ?s ?t ?k); (case s => assumption); (case t => walk_at "ne"); (case k => walk_at "tk"))
  | ((with_reducible refine' sqL_of ?k); (case k => walk_at "tk"))
  | ((with_reducible refine' sqT_of ?k); (case k => walk_at "tk"))
  | ((with_reducible refine' at_same ?s ?k); (case s => assumption); (case k => walk_at "tk"))
  | ((with_reducible refine' at_but ?s ?t ?k); (case s => assumption); (case t => walk_at "ne"); (case k => walk_at "tk")))
local macro_rules | `(tactic| walk_at "ne") => `(tactic| first
  | assumption
  | (refine Ne.symm ?_; assumption)
  | exact ne_of_none (by assumption) (by assumption)
  | exact (ne_of_none (by assumption) (by assumption)).symm)
local macro_rules | `(tactic| walk_at "side") => `(tactic| first
  | assumption
  | omega
  | (simp only [sizeLine_eq, List.length_cons, List.length_nil, List.length_map]; omega)
  | (show _ ≤ sizeLine; decide))
local macro_rules | `(tactic| walk_at "kit") => `(tactic| first
  | (show kitB _ _ = some true; decide +kernel)
  | (show kitB _ _ = some false; decide +kernel))
local macro_rules | `(tactic| walk_at "rng") => `(tactic| first
  | (refine ⟨by omega, by omega, by omega, by omega⟩)
  | (refine ⟨by omega, by omega⟩)
  | ((simp only [List.length_map]); (refine ⟨by omega, by omega, by omega, by omega⟩))
  | ((simp only [List.length_map]); (refine ⟨by omega, by omega⟩)))
local macro_rules | `(tactic| walk_at "rd1") => `(tactic| first
  | with_reducible refine r_seq ?_
  | ((with_reducible refine' r_var ?k0 ?_); (case k0 => rfl))
  | with_reducible refine r_op ?_
  | with_reducible refine r_c ?_
  | with_reducible refine r_asg ?_
  | with_reducible refine r_name ?_
  | with_reducible refine r_cons ?_
  | with_reducible refine r_nil ?_
  | with_reducible refine r_CB ?_
  | with_reducible refine r_if ?_
  | with_reducible refine r_test ?_
  | with_reducible refine r_k ?_
  | with_reducible refine r_T ?_
  | with_reducible refine r_F ?_
  | with_reducible refine r_nT ?_
  | with_reducible refine r_nF ?_
  | with_reducible refine r_ret ?_
  | with_reducible refine r_drop ?_
  | with_reducible refine r_next ?_
  | with_reducible refine r_call ?_
  | with_reducible refine r_addI ?_
  | with_reducible refine r_subI ?_
  | with_reducible refine r_ltI ?_
  | with_reducible refine r_gtI ?_
  | with_reducible refine r_leI ?_
  | with_reducible refine r_geI ?_
  | with_reducible refine r_eqI ?_
  | with_reducible refine r_neI ?_
  | with_reducible refine r_int ?_
  | with_reducible refine r_abs ?_
  | with_reducible refine r_not ?_
  | with_reducible refine r_and ?_
  | with_reducible refine r_or ?_
  | with_reducible refine r_tru ?_
  | with_reducible refine r_truB ?_
  | with_reducible refine r_lst ?_
  | with_reducible refine r_tup ?_
  | with_reducible refine r_BM ?_
  | with_reducible refine r_BM0 ?_
  | with_reducible refine r_tyS ?_
  | with_reducible refine r_gsub ?_
  | with_reducible refine r_then ?_
  | with_reducible refine r_lstRg ?_
  | with_reducible refine r_tupRg ?_
  | with_reducible refine r_rg2 ?_
  | with_reducible refine r_rg1 ?_
  | with_reducible refine r_ii ?_
  | with_reducible refine r_i ?_
  | with_reducible refine r_ipI ?_
  | with_reducible refine r_un ?_
  | with_reducible refine r_neg ?_
  | with_reducible refine r_isN ?_
  | with_reducible refine r_notN ?_
  | with_reducible refine r_notV ?_
  | with_reducible refine r_pnot ?_
  | with_reducible refine r_pif ?_
  | with_reducible refine r_andV ?_
  | with_reducible refine r_orV ?_
  | with_reducible refine r_ifE ?_
  | with_reducible refine r_chain ?_
  | with_reducible refine r_sl ?_
  | with_reducible refine r_noPart ?_
  | with_reducible refine r_part ?_
  | with_reducible refine r_brk ?_
  | with_reducible refine r_cont ?_
  | with_reducible refine r_retN ?_
  | with_reducible refine r_truI ?_
  | with_reducible refine r_B ?_
  | with_reducible refine r_for ?_
  | with_reducible refine r_rng1 ?_
  | with_reducible refine r_rng2 ?_
  | with_reducible refine r_rng3 ?_
  | with_reducible refine r_body ?_
  | with_reducible refine r_lc ?_
  | with_reducible refine r_yes ?_
  | ((with_reducible refine' r_mod ?k0 ?_); (case k0 => walk_at "side"))
  | ((with_reducible refine' r_mulI ?k0 ?_); (case k0 => first | exact Or.inl ⟨by omega, by omega⟩ | exact Or.inr ⟨by omega, by omega⟩))
  | ((with_reducible refine' r_lenL ?k0 ?_); (case k0 => walk_at "tk"))
  | ((with_reducible refine' r_lenT ?k0 ?_); (case k0 => walk_at "tk"))
  | ((with_reducible refine' r_truL ?k0 ?_); (case k0 => walk_at "tk"))
  | ((with_reducible refine' r_truT ?k0 ?_); (case k0 => walk_at "tk"))
  | ((with_reducible refine' r_ixL ?k0 ?k1 ?_); (case k0 => walk_at "tk"); (case k1 => first | assumption | rfl))
  | ((with_reducible refine' r_ixT ?k0 ?k1 ?_); (case k0 => walk_at "tk"); (case k1 => first | assumption | rfl))
  | ((with_reducible refine' r_new ?k0 ?_); (case k0 => walk_at "side"))
  | ((with_reducible refine' r_tyL ?k0 ?_); (case k0 => walk_at "tk"))
  | ((with_reducible refine' r_append ?k0 ?k1 ?_); (case k0 => walk_at "tk"); (case k1 => walk_at "side"))
  | ((with_reducible refine' r_setL ?k0 ?k1 ?_); (case k0 => walk_at "tk"); (case k1 => first | assumption | rfl))
  | ((with_reducible refine' r_kTupL ?k0 ?_); (case k0 => walk_at "tk"))
  | ((with_reducible refine' r_kTupT ?k0 ?_); (case k0 => walk_at "tk"))
  | ((with_reducible refine' r_listL ?k0 ?_); (case k0 => walk_at "tk"))
  | ((with_reducible refine' r_listT ?k0 ?_); (case k0 => walk_at "tk"))
  | ((with_reducible refine' r_aug ?k0 ?_); (case k0 => rfl))
  | ((with_reducible refine' r_lenS ?k0 ?_); (case k0 => walk_at "side"))
  | ((with_reducible refine' r_pop ?k0 ?_); (case k0 => walk_at "tk"))
  | ((with_reducible refine' r_pr1 ?k0 ?_); (case k0 => walk_at "rng"))
  | ((with_reducible refine' r_pr2 ?k0 ?_); (case k0 => walk_at "rng"))
  | ((with_reducible refine' r_pr3d ?k0 ?_); (case k0 => walk_at "rng"))
  | ((with_reducible refine' r_isiI ?k0 ?_); (case k0 => walk_at "kit"))
  | ((with_reducible refine' r_isiB ?k0 ?_); (case k0 => walk_at "kit"))
  | ((with_reducible refine' r_isiS ?k0 ?_); (case k0 => walk_at "kit"))
  | ((with_reducible refine' r_isiN ?k0 ?_); (case k0 => walk_at "kit"))
  | ((with_reducible refine' r_isiT ?k0 ?k1 ?_); (case k0 => walk_at "tk"); (case k1 => walk_at "kit"))
  | ((with_reducible refine r_seqT ?_); (repeat (walk_at "rd1")); ((with_reducible refine' r_pseqT ?k0 ?_); (case k0 => walk_at "tk")))
  | ((with_reducible refine r_seqL ?_); (repeat (walk_at "rd1")); ((with_reducible refine' r_pseqL ?k0 ?_); (case k0 => walk_at "tk")))
  | ((with_reducible refine r_seqS ?_); (repeat (walk_at "rd1")); (with_reducible refine r_pseqS ?_)))
local macro_rules | `(tactic| walk_at "rd") => `(tactic| ((repeat (walk_at "rd1")); (try dsimp only)))
section
variable {K : PySem.W.Frag} {σ : L2.St} {H : Hp} {te : TE} {tt : TT} {j : Nat} {vs : List Nat} {Q : VK} {a : Addr} {ns : List Int}
theorem filter_take {p : Int → Bool} {f : Int → Int} {i : Nat} {x : Int} (h : ns[i]? = some x) : ((ns.take (i + 1)).filter p).map (fun y => V.int (f y)) = ((ns.take i).filter p).map (fun y => V.int (f y)) ++ (if p x = true then [V.int (f x)] else []) := by
  rw [List.take_add_one, h, List.filter_append, List.map_append]
  congr 1
  show List.map _ (List.filter p [x]) = _
  by_cases hp : p x = true
  · rw [List.filter_cons_of_pos hp, if_pos hp]; rfl
  · rw [List.filter_cons_of_neg hp, if_neg hp]; rfl
theorem r_lcLf (p : Int → Bool) (f : Int → Int) (hx : SqL K H a (ns.map V.int)) (hz : ns.length ≤ 1000000) (hw : ∀ x, wipe ((wipe σ vs).set j (some x)) vs = wipe σ vs)
    (ht : ∀ x H1 (QB : Bool → Hp → Prop), x ∈ ns → Same H H1 → QB (p x) H1 → tt ((wipe σ vs).set j (some (.int x))) H1 QB)
    (he : ∀ x H1 (Q' : VK), x ∈ ns → Same H H1 → p x = true → Q' (.int (f x)) H1 → te ((wipe σ vs).set j (some (.int x))) H1 Q')
    (hd : ∀ q H', H q = none → Same H H' → H' q = some (.lst ((ns.filter p).map fun y => V.int (f y))) → Q (.ref q) H') : PLc (Itl K a) (gName j) tt te vs σ H Q := by
  refine r_lcL (xs := ns.map V.int) (fun D i H' => H D = none ∧ Same H H' ∧ H' D = some (.lst (((ns.take i).filter p).map fun y => V.int (f y)))) hw (fun D H' hD s e => ⟨hD, s, by rw [e]; rfl⟩) (fun D i H' q => sqL_same q.2.1 hx) (fun D i x H' hi q => ?_) (fun D H' hD q => ?_)
  · obtain ⟨hD, s, e⟩ := q
    rw [List.getElem?_map] at hi
    obtain ⟨y, hy, rfl⟩ := Option.map_eq_some_iff.mp hi
    have hm := List.mem_of_getElem? hy
    refine ht y H' _ hm s ?_
    by_cases hp : p y = true
    · rw [hp]
      refine r_T ?_
      refine he y H' _ hm s hp ?_
      refine r_acc e ?_ (fun H5 b5 e5 => ⟨hD, same_but s b5 hD, ?_⟩)
      · rw [List.length_map]
        have h1 := List.length_filter_le p (ns.take i)
        have h2 := List.length_take_le i ns
        have h3 : (ns.take i).length ≤ ns.length := by rw [List.length_take]; omega
        omega
      · rw [e5, filter_take hy, if_pos hp]
    · rw [Bool.eq_false_iff.mpr hp]
      refine r_F ⟨hD, s, ?_⟩
      rw [e, filter_take hy, if_neg hp, List.append_nil]
  · obtain ⟨_, s, e⟩ := q
    rw [List.length_map, List.take_length] at e
    exact hd D H' hD s e
end
theorem eqvAll_ints : ∀ ns ms : List Int, PyData.eqvAll (ns.map PyData.int) (ms.map PyData.int) = decide (ns = ms)
  | [], [] => by simp [PyData.eqvAll]
  | [], _ :: _ => by simp [PyData.eqvAll]
  | _ :: _, [] => by simp [PyData.eqvAll]
  | a :: r, b :: t => by
    simp only [List.map_cons, PyData.eqvAll, PyData.eqv, eqvAll_ints r t]
    by_cases h : a = b <;> by_cases h' : r = t <;> simp [h, h']
theorem shaped_ints (ns : List Int) : SeqAt.shaped (.tuple (ns.map PyData.int)) = true := by
  simp [SeqAt.shaped, PyData.canLay0, PyData.depth, PySem.W.ke_canLayAll0, PySem.W.ke_depthAll]
section
variable {K : PySem.W.Frag} {H : Hp} {Q : VK} {a b : Addr} {ns ms : List Int}
theorem dpAll_ints : ∀ ns : List Int, DpAll K H (ns.map V.int) (ns.map PyData.int)
  | [] => .nil
  | n :: r => .cons (.int n) (dpAll_ints r)
theorem r_neT (h1 : SqT K H a (ns.map V.int)) (h2 : SqT K H b (ms.map V.int)) (q : Q (.bl (!decide (ns = ms))) H) : rNeU K (.ref a) (.ref b) H Q :=
  .inr ⟨_, _, .tup h1 (dpAll_ints ns), .tup h2 (dpAll_ints ms), shaped_ints ns, shaped_ints ms, by
    show Q (.bl (!PyData.eqvAll _ _)) H
    rw [eqvAll_ints]; exact q⟩
end
theorem atI_row {r : List Int} {n : Nat} (h : IsRow r n) {b : Int} (h1 : 1 ≤ b) (h2 : b ≤ n) : atI (r.map V.int) (b - 1) = some (.int (r.getD (b - 1).toNat 0)) := by
  have hl : (b - 1).toNat < r.length := by rw [h.1]; omega
  have e : (((b - 1).toNat : Nat) : Int) = b - 1 := by omega
  have h4 := atI_nat (xs := r.map V.int) (j := (b - 1).toNat) (v := .int (r.getD (b - 1).toNat 0)) (by rw [List.getElem?_map, List.getElem?_eq_getElem hl, List.getD_eq_getElem?_getD, List.getElem?_eq_getElem hl]; rfl)
  rw [e] at h4
  exact h4
/-- a promise that gives a row -/
def sp_law_rounds (K : PySem.W.Frag) : Sp := fun vs H Q _ => ∃ n : Nat, vs = [.int (n : Int)] ∧ n ≤ 1000 ∧ ∀ p H', H p = none → Same H H' → SqT K H' p ((roundsR n).map V.int) → NoD H' p → Q (.ref p) H'
def sp_law_times (K : PySem.W.Frag) : Sp := fun vs H Q _ => ∃ (a b : Addr) (x y : List Int) (n : Nat), vs = [.ref a, .ref b] ∧ SqT K H a (x.map V.int) ∧ SqT K H b (y.map V.int) ∧ IsRow x n ∧ IsRow y n ∧ n ≤ 1000 ∧ ∀ p H', H p = none → Same H H' → SqT K H' p ((mulR x y).map V.int) → NoD H' p → Q (.ref p) H'
abbrev N_law_rounds : List Str := ["stage"]
def t_law_rounds (K : PySem.W.Frag) : TS :=
  (tRet ((tThen ((tLstRg (tRg2 ((tC (.int 1))) ((tOp (rAddU K) (tVar 0) ((tC (.int 1)))))))) (kTupD K))))
abbrev N_law_times : List Str := ["first", "second", "bell"]
def t_law_times (K : PySem.W.Frag) : TS :=
  (tRet ((tThen ((tLc ((iSeqU K (tVar 1))) ((gName 2)) (tYes) ((tOp (rIx K) (tVar 0) ((tOp rSubU (tVar 2) ((tC (.int 1))))))) [2])) (kTupD K))))
section
variable {K : PySem.W.Frag} {vs : List V} {H : Hp} {Q : VK} {E : XK}
theorem len_law_rounds (h : sp_law_rounds K vs H Q E) : vs.length = 1 := by
  obtain ⟨n, rfl, _⟩ := h; rfl
theorem len_law_times (h : sp_law_times K vs H Q E) : vs.length = 2 := by
  obtain ⟨a, b, x, y, n, rfl, _⟩ := h; rfl
theorem rgV_rounds (n : Nat) : rgV 1 ((n : Int) + 1) = (roundsR n).map V.int := by
  unfold rgV roundsR
  rw [List.map_map, show ((n : Int) + 1 - 1).toNat = n by omega]
  rfl
theorem pure_law_rounds (h : sp_law_rounds K vs H Q E) : t_law_rounds K (En Q) (start N_law_rounds vs) H := by
  obtain ⟨n, rfl, hn, q⟩ := h
  unfold t_law_rounds
  walk_at "rd"
  refine r_new (RgOk.of_le (by omega) (by omega) (by omega) (by omega)) ?_
  intro p H1 np s e
  rw [rgV_rounds] at e
  walk_at "rd"
  intro p2 H2 np2 s2 e2
  exact q p2 H2 (s.free np2) (s.trans s2) (sqT_ofD e2) (noD_of e2)
theorem pure_law_times (h : sp_law_times K vs H Q E) : t_law_times K (En Q) (start N_law_times vs) H := by
  obtain ⟨a, b, x, y, n, rfl, hx, hy, rx, ry, hn, q⟩ := h
  unfold t_law_times
  walk_at "rd"
  refine r_lcTm (fun i v => match v with | .int b => .int (x.getD (b - 1).toNat 0) | _ => .non) hy (by rw [List.length_map, ry.1]; omega) (fun _ => rfl) (fun i v H1 Q' hi s k => ?_) (fun p H' np s e => ?_)
  · rw [List.getElem?_map] at hi
    obtain ⟨b', hb, rfl⟩ := Option.map_eq_some_iff.mp hi
    have hm := ry.2.2 b' (List.mem_of_getElem? hb)
    have ha := atI_row rx hm.1 hm.2
    walk_at "rd"
    exact k H1 (Same.refl _)
  · have ee : (List.range (y.map V.int).length).zipWith (fun (i : Nat) v => match v with | .int b => V.int (x.getD (b - 1).toNat 0) | _ => .non) (y.map V.int) = (mulR x y).map V.int := by
      apply List.ext_getElem?
      intro i
      rw [List.getElem?_zipWith, List.getElem?_map, List.length_map]
      unfold mulR
      rw [List.getElem?_map, List.getElem?_map]
      by_cases hi : i < y.length
      · rw [List.getElem?_range hi, List.getElem?_eq_getElem hi]; rfl
      · rw [List.getElem?_eq_none (by omega : y.length ≤ i)]
        simp
    rw [ee] at e
    walk_at "rd"
    intro p2 H2 np2 s2 e2
    exact q p2 H2 (s.free np2) (s.trans s2) (sqT_ofD e2) (noD_of e2)
theorem roundsR_row (n : Nat) : IsRow (roundsR n) n := by
  refine ⟨by simp [roundsR], ?_, ?_⟩
  · unfold roundsR
    rw [List.nodup_iff_pairwise_ne, List.pairwise_map]
    exact List.nodup_range.imp fun h e => h (by omega)
  · intro x hx
    obtain ⟨i, hi, rfl⟩ := List.mem_map.mp hx
    rw [List.mem_range] at hi
    omega
theorem but_via {p l : Addr} {H H1 H2 : Hp} (a : But p H H1) (b : But l H1 H2) (h : H l = none) : But p H H2 := fun c o n e => b c o (ne_of_none e h) (a c o n e)
end
end Kb
set_option Elab.async false
set_option linter.all false
set_option maxRecDepth 100000
set_option maxHeartbeats 4000000
namespace Kb
open PySem PySem.Spec PyProof.Rows L2
/-- what the frame of an __init__ that says super() must say; D: the class that its body stands in -/
structure SupK (X : Cx) (D : Addr) : Prop where
  gs : Gl X "super"
  kc : X.env.kindOf "__class__" = some .free
  ks : X.env.kindOf "self" = some .local
  fn : ∃ (f : Addr) (oc : Value) (od : Option Addr) (fd : FuncData) (osl : Array (Option Value)) (ar : Arg), X.env.func = some f ∧ X.K.lookup f = some ⟨oc, od, .func fd, osl⟩ ∧ (fd.params.posonlyargs ++ fd.params.args).head? = some ar ∧ ar.arg = "self"
  cd : ∃ (cda : Addr) (ccl : Value) (cdd : Option Addr) (vs : Array Value) (ccs : Array (Option Value)) (file : Str) (tf : Tok), X.env.code = .ref cda ∧ X.K.lookup cda = some ⟨ccl, cdd, .fields vs, ccs⟩ ∧ vs[2]? = some (.str file tf) ∧ ((X.prog.main.file : Str) == file) = true
  cl : ∃ (cc : Addr) (cl : Value) (cld : Option Addr) (csl : Array (Option Value)), X.env.cells.lookup ("__class__" : Str) = some cc ∧ X.K.lookup cc = some ⟨cl, cld, .cell (some (.ref D)), csl⟩
  su : X.mg "super" = none
  tp : (X.prog.main.scope.names.lookup ("super" : Str)).isSome = false
  dc : ∃ cdD, PySem.W.clsIn X.K D = some cdD
section
variable {X : Cx} {pins : List (Addr × Obj)} {σ : L2.St} {H : Hp} {s : Shared} {a C D : Addr}
theorem exo_ne (T : OexC X.K C) (I : Inv X pins σ H s) (ea : H a = some (exo a C none)) : a ≠ C := by
  rintro rfl
  obtain ⟨nm, q, N, bs, bm, sn, sub, ab, col, dd, k0, k1, k2, k3, k5, hC, hbm⟩ := T.cls
  obtain ⟨t1, ho⟩ := exo_at I.hok ea
  have e := I.kIn _ _ hC
  rw [ho] at e
  cases e
theorem boot_super : bootBuiltins "super" = some (.type "super") := by first | boot_by_name | rfl | kernel_rfl
/-- a new object that is pinned -/
theorem pin_new {h' : Heap} {t' : Nat} {o : Obj} (I : Inv X pins σ H s) (k : ∀ b u, s.heap.get? b = some u → h'.get? b = some u) (e : h'.get? s.heap.objs.size = some o) (hn : ∀ v, o.data ≠ .cell v) :
    Inv X ((s.heap.objs.size, o) :: pins) σ H { s with heap := h', toks := t' } := by
  have J := I.kept (t' := t') k
  refine J.pins_of fun p hp => ?_
  rcases List.mem_cons.mp hp with rfl | hp
  · exact ⟨e, I.hok.fresh (Nat.le_refl _), Nat.ne_of_gt I.lt, I.nofs (Nat.le_refl _), hn⟩
  · exact J.pin p (List.mem_append_right _ hp)
theorem sup_base {body : List Stmt} {p0 p1 : Pos} {attr : Str} {whole : Sem Value} {Q : Value → Shared → Prop} {E : Value → Shared → Prop} (S : SupK X D) (I : Inv X pins σ H s) (hN : X.N[0]? = some ("self" : Str)) (hs : σ[0]? = some (some (V.ref a)))
    (T : OexC X.K C) (ea : H a = some (exo a C none)) (sub : PySem.W.mroIn X.K C (.ref D) = some true) (hat : (attr == ("__class__" : Str)) = false)
    (h : ∀ so s', Inv X ((so, PySem.W.ks_superObj D a C) :: pins) σ H s' → Q (.ref so) s') :
    _root_.PySem.wpAt (model X.prog X.w) X.A (.func body X.env) (attributeBase (.Call (.Name "super" p0) [] [] p1) attr X.env whole) Q E s := by
  obtain ⟨f, oc, od, fd, osl, ar, hfu, hf, hp, har⟩ := S.fn
  obtain ⟨cda, ccl, cdd, vs, ccs, file, tf, hco, hcode, hvs, hfile⟩ := S.cd
  obtain ⟨cc, cl, cld, csl, hcc, hcell⟩ := S.cl
  obtain ⟨cdD, hD⟩ := S.dc
  have KX := I.kIn
  have hg : X.env.globals = mainGlobals := I.ok.glob
  obtain ⟨m, hn, hlk⟩ := id I.loc
  obtain ⟨u, ru, lu⟩ := hlk 0 "self" (.ref a) hN hs (.inl S.ks)
  obtain rfl : u = Value.ref a := ru
  have hv : m "self" = some (.ref a) := by
    rcases lu with ⟨_, e⟩ | ⟨k, _⟩
    · exact e
    · rw [S.ks] at k
      rcases k with k | k <;> cases k
  obtain ⟨t1, ho⟩ := exo_at I.hok ea
  obtain ⟨oD, hD1, hD2⟩ : ∃ oD, s.heap.get? D = some oD ∧ oD.data = .cls cdD := by
    unfold PySem.W.clsIn at hD
    split at hD
    · rename_i c d cd' sl ho
      cases hD
      exact ⟨_, KX _ _ ho, rfl⟩
    · cases hD
  obtain ⟨hh, g, d, t, os⟩ := s
  refine ks_wpAt_super_base (env := X.env) S.gs S.kc hat hfu (KX _ _ hf) rfl hp hco (KX _ _ hcode) rfl hvs hfile S.tp ?_
  obtain ⟨mb, b1, b2⟩ := I.mod.blt
  refine PySem.W.ks_loadName_global I.ok.kind S.gs (Calls.loadGlobal_builtin (by rw [I.ok.glob]; exact I.mod.glob.keeps I.bk) S.su (by rw [I.ok.blt]; exact b1.keeps I.bk) ((b2 _ (by decide)).trans boot_super) ⟨rfl, ?_⟩)
  refine wpAny_loadName_free I.ok.kind S.kc hcc ⟨_, KX _ _ hcell, rfl⟩ ?_
  rw [har]
  refine wpAny_loadName_local I.ok.kind S.ks hn hv ?_
  refine ks_wpAny_isType_cls hD1 hD2 ⟨rfl, ?_⟩
  refine ks_wpAny_call_super hD1 hD2 ho rfl (fun c e => by cases e) (PySem.W.looks_mroIn KX sub) (fun h' e k => ?_)
  exact h _ _ (pin_new (s := ⟨hh, g, d, t, os⟩) (t' := t) I k e (fun v z => by cases z))
/-- super().__init__(e, ..), the next class ValueError: nothing of it is told -/
def tSupV (K : PySem.W.Frag) (D : Addr) (ta : TA) : TS := fun R σ H => ∃ a C : Addr, σ[0]? = some (some (V.ref a)) ∧ H a = some (exo a C none) ∧ OexC K C ∧ PySem.W.mroIn K C (.ref D) = some true ∧
  PySem.W.nsIn K PySem.cStatics "thirdparty.any" = some none ∧ PySem.W.ks_superIn K C D "__init__" = some (some (.builtin "ValueError.__init__")) ∧ PySem.W.subIn K (.ref C) (.type "ValueError") = some true ∧
  ta σ H fun vs H1 => vs.length ≤ 1000 ∧ H1 a = some (exo a C none) ∧ R.nx σ H1
/-- a statement that is run in its own frame -/
def PSat (X : Cx) (body : List Stmt) (st : Stmt) (t : TS) : Prop := ∀ (pins : List (Addr × Obj)) (s : Shared) (σ : L2.St) (H : Hp) (R : Ends), Inv X pins σ H s → t R σ H →
  _root_.PySem.wpAt (model X.prog X.w) X.A (.func body X.env) (exec st X.env) (SP X pins R) X.xe s
theorem sup_method {Q : Value × List Value → Shared → Prop} {E : Value → Shared → Prop} {A : Around} {pl : Sem Bool} {B i : String} {so : Addr} (KF : PySem.W.KxsFacts B i) (I : Inv X ((so, PySem.W.ks_superObj D a C) :: pins) σ H s) (T : OexC X.K C) (ea : H a = some (exo a C none))
    (opq : PySem.W.nsIn X.K PySem.cStatics "thirdparty.any" = some none) (hm : PySem.W.ks_superIn X.K C D "__init__" = some (some (.builtin i))) (hB : PySem.W.subIn X.K (.ref C) (.type B) = some true)
    (h : ∀ u s', Inv X ((u, PySem.W.kxs_mw i a) :: pins) σ H s' → Q (.ref u, []) s') : wpAny (model X.prog X.w) A (getMethod (.ref so) "__init__" pl) Q E s := by
  have KX := I.kIn
  obtain ⟨hso, _⟩ := I.pin _ (List.mem_append_right _ List.mem_cons_self)
  obtain ⟨t1, ho⟩ := exo_at I.hok ea
  have IA : PySem.W.InstAt s.heap a _ C none := ⟨ho, rfl, rfl, trivial⟩
  have hI : PySem.W.Looks (model X.prog X.w) s.heap (isInstance (.ref a) (.type B)) true := IA.type.andThen (PySem.W.looks_subIn KX hB)
  have hne := exo_ne T I ea
  obtain ⟨hh, g, d, t, os⟩ := s
  cases hc : PySem.W.clsIn X.K C with
  | none => unfold PySem.W.ks_superIn at hm; rw [hc] at hm; cases hm
  | some cd =>
    unfold PySem.W.ks_superIn at hm
    rw [hc] at hm
    refine PySem.W.kxs_getMethod KF hso (PySem.W.looks_opaque KX opq) (l₀ := cd.mro) (fun A Q E s k q => wpAny_bind ((PySem.W.looks_clsIn KX hc) A _ E s k (wpAny_pure q))) rfl KX hm hI hne (by decide) ?_
    have J := pin_new (s := ⟨hh, g, d, t, os⟩) (t' := t + 1) (o := PySem.W.kxs_mw i a) I (fun b o e => Heap.get?_push_of_some _ e) (Heap.get?_push_at rfl rfl) (fun v z => by cases z)
    exact h _ _ (J.pins_of fun p hp => J.pin p (List.mem_append_right _ (by
      rcases List.mem_cons.mp hp with rfl | hp
      · exact List.mem_cons_self
      · exact List.mem_cons_of_mem _ (List.mem_cons_of_mem _ hp))))
theorem sup_wrapper {u : Addr} {us : List Value} {Q : Value → Shared → Prop} {E : Value → Shared → Prop} {A : Around} (I : Inv X ((u, PySem.W.kxs_mw "ValueError.__init__" a) :: pins) σ H s) (T : OexC X.K C) (ea : H a = some (exo a C none)) (hl : us.length ≤ sizeLine)
    (h : ∀ s', Inv X pins σ H s' → Q .none s') : wpAny (model X.prog X.w) A (call (.ref u) us) Q E s := by
  obtain ⟨hu, _⟩ := I.pin _ (List.mem_append_right _ List.mem_cons_self)
  obtain ⟨nm, q, N, bs, bm, sn, sub, ab, col, dd, k0, k1, k2, k3, k5, hC, hbm⟩ := T.cls
  obtain ⟨t1, ho⟩ := exo_at I.hok ea
  obtain ⟨hp, g, d, t, os⟩ := s
  refine wpAny_call (codeAny_of_tree ?_)
  show wpAny _ A.in1 (callAny (.ref u) ⟨us, []⟩) _ _ _
  simp only [callAny]
  refine wpAny_bind (wpAny_load hu ?_)
  simp only [PySem.W.kxs_mw, show (Value.type "method-wrapper" == Value.type "method" || Value.type "method-wrapper" == Value.type "builtin_function_or_method" || Value.type "method-wrapper" == Value.type "method-wrapper") = true by decide, if_true]
  refine PySem.W.KFB.if_so (by decide) ?_
  refine wpAny_bind (PySem.W.check_bound_init F.excBase_ValueError.toExcCallFacts (I.kIn _ _ hC) ho rfl ?_)
  refine wpAny_bind (wpAny_pure (wpAny_pure ?_))
  refine ⟨plainId_quiet F.excBase_ValueError.init.plain _, codeAny_builtin F.excBase_ValueError.initEntry ?_⟩
  refine PySem.W.exc_init_tree (cls := .ref C) (t0 := t1) (dv := none) (c2 := .none) (c3 := .none) (b4 := .bool false) ho hl fun h' k hx _ => ?_
  have I0 : Inv X pins σ H ⟨hp, g, d, t, os⟩ := I.pins_of fun p hp => I.pin p (List.mem_append_right _ (List.mem_cons_of_mem _ hp))
  have J := I0.write (t' := t) (x := a) (e := a) (o := exo a C none) (by rw [ea]; exact True.intro) (.inl rfl) k ⟨_, hx⟩ (exo_ok hx)
  have eu : upd H a (exo a C none) = H := by
    funext b
    by_cases hb : b = a
    · rw [hb, upd_same, ea]
    · rw [upd_ne hb]
  rw [eu] at J
  exact h _ J
end
section
variable {M : Model} {A : Around} {E : Value → Shared → Prop} {s : Shared} {u x g : Addr} {i : String} {pos : Pos} {env : Env} {e : Expr} {rest : List Expr} {Q : Value → Shared → Prop} {K : PySem.W.Frag}
theorem cw_wrap (h : wpAny M A (spliced (backTo pos (starEach (e :: rest) env))) (fun vs s₁ => PySem.W.KxsAt i u x s₁.heap ∧ wpAny M A (call (.ref u) vs) Q E s₁) E s)
    (he : starEach (e :: rest) env = (false, eval e env) :: starEach rest env) (hplain : (backTo pos (starEach rest env)).any (·.1) = false) :
    wpAny M A (callWith pos (.ref u) [] (backTo pos (starEach (e :: rest) env)) []) Q E s := by
  rw [he] at h ⊢
  refine PySem.W.kxs_callWith (i := i) (x := x) (by show (false || (backTo pos (starEach rest env)).any (·.1)) = false; rw [hplain]; rfl) ?_
  exact PySem.Calls.evalArgs_plain h
theorem cw_meth {self : Value} (hf : PySem.W.fnIn K g = true) (h : wpAny M A (spliced (backTo pos (starEach (e :: rest) env))) (fun vs s₁ => PySem.W.MethP K u g self s₁.heap ∧ wpAny M A (call (.ref u) vs) Q E s₁) E s)
    (he : starEach (e :: rest) env = (false, eval e env) :: starEach rest env) (hplain : (backTo pos (starEach rest env)).any (·.1) = false) :
    wpAny M A (callWith pos (.ref u) [] (backTo pos (starEach (e :: rest) env)) []) Q E s := by
  rw [he] at h ⊢
  exact PySem.W.callWith_of (by show ((false || (backTo pos (starEach rest env)).any (·.1)) || false) = false; rw [hplain]; rfl) (PySem.W.keeps_M hf) (PySem.Calls.evalArgs_plain h)
end
section
variable {X : Cx} {D : Addr} {body : List Stmt} {e : Expr} {es : List Expr} {ta : TA} {p0 p1 p2 p3 p4 : Pos}
abbrev supStmt (e : Expr) (es : List Expr) (p0 p1 p2 p3 p4 : Pos) : Stmt := .Expr (.Call (.Attribute (.Call (.Name "super" p0) [] [] p1) "__init__" p2) (e :: es) [] p3) p4
theorem pst_supV {pl : Sem Bool} (S : SupK X D) (hN : X.N[0]? = some ("self" : Str)) (ha : PA X (e :: es) ta)
    (hc : eval (.Call (.Attribute (.Call (.Name "super" p0) [] [] p1) "__init__" p2) (e :: es) [] p3) X.env = (do
      let ov ← attributeBase (.Call (.Name "super" p0) [] [] p1) "__init__" X.env (eval (.Call (.Name "super" p0) [] [] p1) X.env)
      standAt p2.atName
      let (f, first) ← holding [ov] (getMethod ov "__init__" pl)
      callWith p3 f first (backTo p3 (starEach (e :: es) X.env)) []) := by rfl) (hsw : swapsWith (.Call (.Attribute (.Call (.Name "super" p0) [] [] p1) "__init__" p2) (e :: es) [] p3) none p4.line X.env = pure false := by rfl)
    (he : starEach (e :: es) X.env = (false, eval e X.env) :: starEach es X.env := by rfl) (hpl : (backTo p3 (starEach es X.env)).any (·.1) = false := by rfl) :
    PSat X body (supStmt e es p0 p1 p2 p3 p4) (tSupV X.K D ta) := by
  intro pins s σ H R I h
  obtain ⟨a, C, hs, ea, T, sub, opq, hm, hB, h⟩ := h
  refine ks_wpAt_Expr_any (ks_wpAt_MethodCall (pl := pl) ?_ hc) I.quiet hsw
  · refine sup_base S I hN hs T ea sub (by decide) fun so s1 I1 => ?_
    refine sup_method PySem.W.kxs_ValueError I1 T ea opq hm hB fun u s2 I2 => ?_
    show wpAny _ _ (callWith p3 (.ref u) [] (backTo p3 (starEach (e :: es) X.env)) []) _ _ _
    refine cw_wrap (i := "ValueError.__init__") (x := a) (thn (ha.run p3 _ s2 σ H _ I2 h) fun us s3 ⟨vs, H1, I3, r1, hl, ea1, q⟩ => ⟨?_, ?_⟩) he hpl
    · exact (I3.pin _ (List.mem_append_right _ List.mem_cons_self)).1
    · refine sup_wrapper I3 T ea1 ?_ fun s4 I4 => ⟨σ, H1, I4, q⟩
      rw [← Paired.length r1, sizeLine_eq]
      omega
/-- super().__init__(e, ..), the next class's own __init__ keeping sp -/
def tSupF (K : PySem.W.Frag) (D f2 : Addr) (sp : Sp) (ta : TA) : TS := fun R σ H => ∃ a C : Addr, σ[0]? = some (some (V.ref a)) ∧ H a = some (exo a C none) ∧ OexC K C ∧ PySem.W.mroIn K C (.ref D) = some true ∧
  PySem.W.nsIn K PySem.cStatics "thirdparty.any" = some none ∧ PySem.W.ks_superIn K C D "__init__" = some (some (.ref f2)) ∧
  ta σ H fun vs H1 => sp (.ref a :: vs) H1 (fun _ H2 => R.nx σ H2) (fun _ _ _ => False)
theorem sup_methodF {pins : List (Addr × Obj)} {σ : L2.St} {H : Hp} {s : Shared} {a C f2 so : Addr} {Q : Value × List Value → Shared → Prop} {E : Value → Shared → Prop} {A : Around} {pl : Sem Bool} (I : Inv X ((so, PySem.W.ks_superObj D a C) :: pins) σ H s) (T : OexC X.K C) (ea : H a = some (exo a C none))
    (opq : PySem.W.nsIn X.K PySem.cStatics "thirdparty.any" = some none) (hm : PySem.W.ks_superIn X.K C D "__init__" = some (some (.ref f2))) (ht : PySem.W.typeIn X.K (.ref f2) = some (.type "function"))
    (h : ∀ u s', Inv X ((u, PySem.W.methodObj (.ref f2) (.ref a)) :: pins) σ H s' → Q (.ref u, []) s') : wpAny (model X.prog X.w) A (getMethod (.ref so) "__init__" pl) Q E s := by
  have KX := I.kIn
  obtain ⟨hso, _⟩ := I.pin _ (List.mem_append_right _ List.mem_cons_self)
  have hne := exo_ne T I ea
  obtain ⟨hh, g, d, t, os⟩ := s
  cases hc : PySem.W.clsIn X.K C with
  | none => unfold PySem.W.ks_superIn at hm; rw [hc] at hm; cases hm
  | some cd =>
    unfold PySem.W.ks_superIn at hm
    rw [hc] at hm
    obtain ⟨of, hof, hofc⟩ : ∃ of, hh.get? f2 = some of ∧ of.cls = .type "function" := by
      have ht' : (X.K.lookup f2).map (·.cls) = some (.type "function") := ht
      cases z : X.K.lookup f2 with
      | none => rw [z] at ht'; cases ht'
      | some of => rw [z] at ht'; exact ⟨of, KX _ _ z, Option.some.inj ht'⟩
    refine ks_wpAny_getMethod_super hso (PySem.W.looks_opaque KX opq) (l₀ := cd.mro) (fun A Q E s k q => wpAny_bind ((PySem.W.looks_clsIn KX hc) A _ E s k (wpAny_pure q))) rfl KX hm hof hofc hne (by decide) ?_
    have J := pin_new (s := ⟨hh, g, d, t, os⟩) (t' := t + 1) (o := PySem.W.methodObj (.ref f2) (.ref a)) I (fun b o e => Heap.get?_push_of_some _ e) (Heap.get?_push_at rfl rfl) (fun v z => by cases z)
    exact h _ _ (J.pins_of fun p hp => J.pin p (List.mem_append_right _ (by
      rcases List.mem_cons.mp hp with rfl | hp
      · exact List.mem_cons_self
      · exact List.mem_cons_of_mem _ (List.mem_cons_of_mem _ hp))))
theorem pst_supF {pl : Sem Bool} {CX : CXT} {k : Nat} {f2 : Addr} {fd : FuncData} {ps : List Str} {sp : Sp} (S : SupK X D) (hN : X.N[0]? = some ("self" : Str)) (F1 : FnOk X.prog X.w X.K X.mg X.base CX k f2 fd ps sp) (hr : Room k X.A) (hb : Binds X.K fd ps [])
    (hx : Passes CX X (fun _ _ _ => False)) (ht : PySem.W.typeIn X.K (.ref f2) = some (.type "function")) (hf : PySem.W.fnIn X.K f2 = true) (ha : PA X (e :: es) ta)
    (hc : eval (.Call (.Attribute (.Call (.Name "super" p0) [] [] p1) "__init__" p2) (e :: es) [] p3) X.env = (do
      let ov ← attributeBase (.Call (.Name "super" p0) [] [] p1) "__init__" X.env (eval (.Call (.Name "super" p0) [] [] p1) X.env)
      standAt p2.atName
      let (f, first) ← holding [ov] (getMethod ov "__init__" pl)
      callWith p3 f first (backTo p3 (starEach (e :: es) X.env)) []) := by rfl) (hsw : swapsWith (.Call (.Attribute (.Call (.Name "super" p0) [] [] p1) "__init__" p2) (e :: es) [] p3) none p4.line X.env = pure false := by rfl)
    (he : starEach (e :: es) X.env = (false, eval e X.env) :: starEach es X.env := by rfl) (hpl : (backTo p3 (starEach es X.env)).any (·.1) = false := by rfl) :
    PSat X body (supStmt e es p0 p1 p2 p3 p4) (tSupF X.K D f2 sp ta) := by
  intro pins s σ H R I h
  obtain ⟨a, C, hs, ea, T, sub, opq, hm, h⟩ := h
  refine ks_wpAt_Expr_any (ks_wpAt_MethodCall (pl := pl) ?_ hc) I.quiet hsw
  · refine sup_base S I hN hs T ea sub (by decide) fun so s1 I1 => ?_
    refine sup_methodF I1 T ea opq hm ht fun u s2 I2 => ?_
    show wpAny _ _ (callWith p3 (.ref u) [] (backTo p3 (starEach (e :: es) X.env)) []) _ _ _
    refine cw_meth (g := f2) (self := .ref a) hf (thn (ha.run p3 _ s2 σ H _ I2 h) fun us s3 ⟨vs, H1, I3, r1, q⟩ => ⟨⟨?_, I3.kIn⟩, ?_⟩) he hpl
    · exact (I3.pin _ (List.mem_append_right _ List.mem_cons_self)).1
    · have hu := (I3.pin _ (List.mem_append_right _ List.mem_cons_self)).1
      have I4 : Inv X pins σ H1 s3 := I3.pins_of fun p hp => I3.pin p (List.mem_append_right _ (List.mem_cons_of_mem _ hp))
      have r2 : Vals (V.ref a :: vs) (Value.ref a :: us) := .cons rfl r1
      have hl : (Value.ref a :: us).length = ps.length := by
        rw [← r2.length]
        exact F1.len _ _ _ _ q
      refine wpAny_call (ks_codeAny_call_bound hu (codeAny_mono (F1.run _ X.stack _ _ ⟨Value.ref a :: us, []⟩ (Value.ref a :: us) _ _ (fun _ _ _ => False) hr I4.env0 (by have z := hb s3 (Value.ref a :: us) I4.kIn (by simpa using hl); rw [List.append_nil] at z; exact z) r2 q) fun r s' hq' => ?_))
      cases r with
      | error er => exact hx pins σ _ _ er s' I4 hq'
      | ok fl =>
        cases fl with
        | ret u2 =>
          obtain ⟨v, H', I5, rv, q5⟩ := I4.after hq'
          exact ⟨σ, H', I5, q5⟩
        | next => exact False.elim hq'
        | brk => exact False.elim hq'
        | cont => exact False.elim hq'
end
end Kb
set_option Elab.async false
set_option linter.all false
set_option maxRecDepth 100000
set_option maxHeartbeats 4000000
namespace Kb
open PySem PySem.Spec PyProof.Rows L2
theorem lookup_nodup {y : Str} {u : Value} : ∀ {l : List (Str × Value)}, (l.map (·.1)).Nodup → (y, u) ∈ l → l.lookup y = some u
  | [], _, h => by cases h
  | (z, w) :: r, nd, h => by
    rw [List.map_cons, List.nodup_cons] at nd
    rcases List.mem_cons.mp h with h | h
    · obtain ⟨rfl, rfl⟩ := Prod.mk.inj h
      simp [List.lookup]
    · have ne : (y == z) = false := by
        refine beq_eq_false_iff_ne.mpr fun e => nd.1 ?_
        rw [← e]
        exact List.mem_map.mpr ⟨(y, u), h, rfl⟩
      rw [List.lookup, ne]
      exact lookup_nodup nd.2 h
/-- the scope of an __init__ that says super() -/
structure SupScope (N P : List Str) (sc : Scope) : Prop where
  kind : sc.kind = .function
  co : sc.isCoroutine = false
  gen : sc.isGenerator = false
  nd : N.Nodup
  pre : N.take P.length = P
  par : ∀ x ∈ P, sc.names.lookup x = some .local
  nocell : ∀ y ∈ sc.names, y.2 ≠ .cell
  free : ∀ y ∈ sc.names, y.2 = .free → y.1 = "__class__"
/-- the context of its body -/
def cxS (P : Program) (w : World) (K : PySem.W.Frag) (mg : Str → Option Value) (base : Heap) (N : List Str) (qual : Str) (scope : Scope) (f : Addr) (cd : Value) (cc : Addr) (A : Around) (outer : List Env) (s : Shared) (H : Hp) : Cx where
  prog := P
  w := w
  K := K
  mg := mg
  base := base
  A := A.deeper (PySem.W.ksEnv qual scope s.heap.objs.size f cd cc)
  N := N
  s_0 := s
  H_0 := H
  env := PySem.W.ksEnv qual scope s.heap.objs.size f cd cc
  outer := outer
  stack := PySem.W.ksEnv qual scope s.heap.objs.size f cd cc :: outer
  ex := []
  calm := true
  fn := fun _ => false
  pn := []
  xe := fun _ _ => False
theorem inv_startS {P : Program} {w : World} {K : PySem.W.Frag} {mg : Str → Option Value} {base : Heap} {N ps : List Str} {qual : Str} {scope : Scope} {f : Addr} {cd : Value} {cc : Addr} {A : Around} {outer : List Env} {s : Shared} {H : Hp} {us : List Value} {vs : List V} {h₁ : Heap} {t' : Nat} {cl : Value} {cld : Option Addr} {v0 : Option Value} {csl : Array (Option Value)}
    (S : SupScope N ps scope) (hd : A.handled = none) (e0 : Env0 P w K mg base A outer s H) (hl : vs.length = ps.length) (r : Vals vs us) (hcell : K.lookup cc = some ⟨cl, cld, .cell v0, csl⟩)
    (hn : h₁.Ns s.heap.objs.size (fun x => (ps.zip us).reverse.lookup x)) (k : ∀ b o, s.heap.get? b = some o → h₁.get? b = some o) :
    Inv (cxS P w K mg base N qual scope f cd cc A outer s H) [] (start N vs) H { s with heap := h₁, toks := t' } := by
  have hpl : ps.length ≤ N.length := by have := congrArg List.length S.pre; rw [List.length_take] at this; omega
  have noA : ∀ b : Addr, b ∉ (cxS P w K mg base N qual scope f cd cc A outer s H).ex := fun b z => absurd (show b ∈ ([] : List Addr) from z) (by simp)
  have hb := e0.bs cc _ (e0.mod.kin _ _ hcell)
  have cell1 : ∀ y c, (cxS P w K mg base N qual scope f cd cc A outer s H).env.cells.lookup y = some c → y = ("__class__" : Str) ∧ c = cc := fun y c h => by
    have h : List.lookup y [(("__class__" : Str), cc)] = some c := h
    rw [List.lookup] at h
    split at h
    · rename_i z
      exact ⟨beq_iff_eq.mp z, (Option.some.inj h).symm⟩
    · cases h
  refine ⟨⟨e0.mod, S.kind, rfl, rfl, Nat.le_refl _, fun y z c h1 h2 => (cell1 y c h1).1.trans (cell1 z c h2).1.symm, fun y hy => ?_, fun y c z h => Bool.noConfusion z, fun _ => hd, Around.frames_deeper e0.frames, .inr ⟨rfl, rfl⟩, fun b z => absurd z (noA b), e0.bs, e0.bsz, fun b _ _ => noA b, fun b z => absurd z (noA b), e0.funs, e0.frf⟩,
    rfl, e0.bare, Un.kept k, ⟨_, hn, fun i y v h1 h2 h3 => ?_⟩, fun y c h => ⟨v0, ⟨cl, cld, .cell v0, csl⟩, k _ _ (by obtain ⟨_, e⟩ := cell1 y c h; subst e; exact hb.1), rfl⟩, e0.hok.fresh (Nat.le_refl _), fun y c h => by obtain ⟨_, e⟩ := cell1 y c h; subst e; exact hb.2, fun p hp => absurd (show p ∈ ([] : List (Addr × Obj)) from hp) (by simp), e0.hok.kept k, ?_⟩
  · have hy : scope.names.lookup y = some .cell ∨ scope.names.lookup y = some .free := hy
    rcases hy with hy | hy
    · exact absurd rfl (S.nocell _ (PySem.mem_of_lookup hy))
    · have e : y = ("__class__" : Str) := S.free _ (PySem.mem_of_lookup hy) rfl
      subst e
      exact ⟨cc, by show List.lookup ("__class__" : Str) [(("__class__" : Str), cc)] = some cc; simp [List.lookup]⟩
  · have hi : i < vs.length := by
      unfold L2.start at h2
      by_cases hi : i < vs.length
      · exact hi
      · rw [List.getElem?_append_right (by simpa using hi)] at h2
        rw [List.getElem?_replicate] at h2
        split at h2 <;> cases h2
    have ha : vs[i]? = some v := by
      unfold L2.start at h2
      rw [List.getElem?_append_left (by simpa using hi), List.getElem?_map] at h2
      cases e : vs[i]? with
      | none => rw [e] at h2; cases h2
      | some a => rw [e] at h2; cases h2; rfl
    obtain ⟨u, hu, rv⟩ := r.get ha
    have hp : ps[i]? = some y := by
      rw [← S.pre, List.getElem?_take_of_lt (by omega)]; exact h1
    have ndP : ps.Nodup := by rw [← S.pre]; exact S.nd.sublist (List.take_sublist _ _)
    refine ⟨u, rv, .inl ⟨S.par y (List.mem_of_getElem? hp), ?_⟩⟩
    have hlen : us.length = ps.length := by rw [← r.length]; exact hl
    refine lookup_nodup ?_ ?_
    · rw [List.map_reverse, List.map_fst_zip (by omega)]
      exact (List.reverse_perm ps).nodup_iff.mpr ndP
    · rw [List.mem_reverse]
      exact List.mem_of_getElem? (i := i) (by rw [List.getElem?_zip_eq_some]; exact ⟨hp, hu⟩)
  · unfold L2.start
    show _ = N.length
    rw [List.length_append, List.length_map, List.length_replicate]
    omega
/-- THE RULE: an __init__ that says super() first, by its body -/
theorem fn_sup {P : Program} {w : World} {K : PySem.W.Frag} {mg : Str → Option Value} {base : Heap} {k : Nat} {f : Addr} {name qual : Str} {params : Arguments} {b0 : Stmt} {body : List Stmt} {scope : Scope} {dV kV doc pm cdv ct oc : Value} {an od : Option Addr} {cc : Addr}
    {osl : Array (Option Value)} {N ps : List Str} {sp : Sp} {cl : Value} {cld : Option Addr} {v0 : Option Value} {csl : Array (Option Value)}
    (lk : K.lookup f = some ⟨oc, od, .func (PySem.W.ksFn name qual params (b0 :: body) scope dV kV doc pm an cdv ct cc), osl⟩) (hcd : PySem.W.codeIn K cdv qual = true) (hcell : K.lookup cc = some ⟨cl, cld, .cell v0, csl⟩) (S : SupScope N ps scope)
    (len : ∀ vs H Q E, sp vs H Q E → vs.length = ps.length)
    (hbody : ∀ (A : Around) (outer : List Env) (s : Shared) (H : Hp) (vs : List V) (Q : VK) (E : XK), Room k (A.deeper (PySem.W.ksEnv qual scope s.heap.objs.size f cdv cc)) → sp vs H Q E →
      ∃ t u, PSat (cxS P w K mg base N qual scope f cdv cc A outer s H) (b0 :: body) b0 t ∧ PSs (cxS P w K mg base N qual scope f cdv cc A outer s H) body u ∧ t { nx := fun σ' H' => u { nx := fun _ H' => Q .non H', rt := Q } σ' H', rt := Q } (start N vs) H) :
    FnOk P w K mg base CX0 (k + 1) f (PySem.W.ksFn name qual params (b0 :: body) scope dV kV doc pm an cdv ct cc) ps sp := by
  refine ⟨len, fun A outer s H args us vs Q E hr e0 hb r hsp => ?_⟩
  have hl := len _ _ _ _ hsp
  have KX : K.In s.heap := e0.mod.kin.keeps fun b o e => (e0.bs b o e).1
  have lim : s.heap.NoLimit := e0.mod.nolimit.keeps fun b o e => (e0.bs b o e).1
  refine ks_codeAny_call_defAt (body := b0 :: body) (binds := ps.zip us) hr.depth (KX _ _ lk) rfl lim (PySem.W.codeRec_of KX hcd) rfl hb S.nocell (fun y hy => S.par y.1 (List.of_mem_zip (show (y.1, y.2) ∈ ps.zip us from hy)).1) (fun h₁ hns hk => ?_) S.co S.gen S.kind
  obtain ⟨t, u, ht, hu, hq⟩ := hbody A outer s H vs Q E (hr.deeper _) hsp
  have I : Inv (cxS P w K mg base N qual scope f cdv cc A outer s H) [] (start N vs) H { s with heap := h₁, toks := s.toks + (ps.zip us).length } := inv_startS S hr.hd e0 hl r hcell hns hk
  have fin : ∀ {s' : Shared} {σ' : L2.St} {H' : Hp} {v : V} {u : Value}, Inv (cxS P w K mg base N qual scope f cdv cc A outer s H) [] σ' H' s' → RelV v u → Q v H' → CE outer P w H s Q u s' :=
    fun {s' σ' H' v u} J rv q => ⟨v, H', J.os, J.bare, J.base, J.hok, rv, q⟩
  have last : ∀ (fl : Flow) (s' : Shared), SP (cxS P w K mg base N qual scope f cdv cc A outer s H) [] { nx := fun _ H' => Q .non H', rt := Q } fl s' → CR CX0 outer P w H s Q E (.ok (.ret (match fl with | .ret v => v | _ => .none))) s' := by
    intro fl s' hs
    cases fl with
    | ret u =>
      obtain ⟨v, σ', H', J, rv, q⟩ := hs
      exact fin J rv q
    | next =>
      obtain ⟨σ', H', J, q⟩ := hs
      exact fin (v := V.non) (u := Value.none) J rfl q
    | brk =>
      obtain ⟨_, _, _, q⟩ := hs
      exact False.elim q
    | cont =>
      obtain ⟨_, _, _, q⟩ := hs
      exact False.elim q
  show _root_.PySem.wpAt (model P w) (A.deeper (PySem.W.ksEnv qual scope s.heap.objs.size f cdv cc)) (.func (b0 :: body) (PySem.W.ksEnv qual scope s.heap.objs.size f cdv cc)) (execs (b0 :: body) (PySem.W.ksEnv qual scope s.heap.objs.size f cdv cc)) _ _ _
  refine ks_wpAt_execs_cons (ks_wpAt_mono (ht [] _ _ _ _ I hq) (fun fl s' hs => ?_) fun e s' hs => False.elim hs)
  cases fl with
  | next =>
    obtain ⟨σ', H', J, q⟩ := hs
    exact wpAt_of_wpAny (wpAny_mono (hu.run [] s' σ' H' _ J q) (fun fl s2 hs => last fl s2 hs) fun e s' hs => False.elim hs)
  | ret u => exact last (.ret u) s' hs
  | brk =>
    obtain ⟨_, _, _, q⟩ := hs
    exact False.elim q
  | cont =>
    obtain ⟨_, _, _, q⟩ := hs
    exact False.elim q
end Kb
set_option Elab.async false
set_option linter.all false
set_option maxRecDepth 100000
set_option maxHeartbeats 4000000
namespace Kb
open PySem PySem.Spec PyProof.Rows L2
def oexB (K : PySem.W.Frag) (C : Addr) : Bool := match K.lookup C with
  | some ⟨.type "type", _, .cls cd, sl⟩ => (match cd.mro, sl.toList with
    | .ref C' :: bm, [_, _, _, _, some (.builtin n), _] => C' == C && n == "ValueError.__new__" && !cd.hasDel && cd.hasDict && PySem.HandSPX.refsVE bm
    | _, _ => false)
  | _ => false
theorem oexB_ok {K : PySem.W.Frag} {C : Addr} (q : oexB K C = true) : ∃ nm q N bs bm sn sub ab col dd k0 k1 k2 k3 k5, K.lookup C = some (excClassObj nm q C N bs bm true sn sub ab col dd k0 k1 k2 k3 k5 "ValueError.__new__") ∧ PySem.HandSPX.refsVE bm = true := by
  unfold oexB at q
  split at q
  · rename_i dd cd sl ho
    split at q
    · rename_i C' bm k0 k1 k2 k3 n k5 hm hs
      simp only [Bool.and_eq_true, beq_iff_eq, Bool.not_eq_true'] at q
      obtain ⟨⟨⟨⟨rfl, rfl⟩, hdel⟩, hdict⟩, ht⟩ := q
      obtain ⟨nm, bs, mro, ns, qn, hd, sn, sub, ab, col, del⟩ := cd
      dsimp only at hm hdel hdict
      subst hm hdel hdict
      have hsl : sl = #[k0, k1, k2, k3, some (.builtin "ValueError.__new__"), k5] := by
        obtain ⟨l⟩ := sl
        simp only at hs
        rw [hs]
      subst hsl
      exact ⟨nm, qn, ns, bs, bm, sn, sub, ab, col, dd, k0, k1, k2, k3, k5, ho, ht⟩
    · cases q
  · cases q
/-- the fields that errors have beside their word -/
abbrev errFlds : List Str := ["column", "first", "letter", "most", "name", "number", "second", "sign"]
/-- C, an error class below D (or D itself) -/
structure Bad (K : PySem.W.Frag) (C D : Addr) : Prop where
  ox : OexC K C
  sub : PySem.W.mroIn K C (.ref D) = some true
  opq : PySem.W.nsIn K PySem.cStatics "thirdparty.any" = some none
  sV : PySem.W.subIn K (.ref C) (.type "ValueError") = some true
  smV : PySem.W.ks_superIn K C D "__init__" = some (some (.builtin "ValueError.__init__"))
  ex : ExcC K C
  nw : PySem.W.findIn K (.ref C) "word" = some none
  nf : ∀ f ∈ errFlds, PySem.W.findIn K (.ref C) f = some none
def badL (K : PySem.W.Frag) (C D : Addr) : List Bool :=
  [oexB K C, decide (PySem.W.findIn K (.ref C) "__setattr__" = some (some (.builtin "object.__setattr__"))), decide (PySem.W.subIn K (.ref C) (.type "BaseException") = some true), decide (PySem.W.typeIn K (.ref C) = some (.type "type")), PySem.W.keepIn K (.ref C),
   decide (PySem.W.mroIn K C (.ref D) = some true), decide (PySem.W.nsIn K PySem.cStatics "thirdparty.any" = some none), decide (PySem.W.subIn K (.ref C) (.type "ValueError") = some true), decide (PySem.W.ks_superIn K C D "__init__" = some (some (.builtin "ValueError.__init__"))),
   decide (PySem.W.findIn K (.ref C) "__getattribute__" = some (some (.builtin "BaseException.__getattribute__"))), decide (PySem.W.findIn K (.ref C) "__getattr__" = some none), PySem.W.hasDictIn K C, decide (PySem.W.findIn K (.ref C) "__class__" = some (some (.builtin "object.__class__"))),
   decide (PySem.W.specialIn K (.builtin "object.__class__") "__get__" = some (some (.builtin "getset_descriptor.__get__"))), decide (PySem.W.takesIn K (.builtin "object.__class__") = some true), decide (PySem.W.mroIn K C (.type "object") = some true), decide (PySem.W.findIn K (.ref C) "word" = some none),
   errFlds.all fun f => decide (PySem.W.findIn K (.ref C) f = some none)]
def badB (K : PySem.W.Frag) (C D : Addr) : Bool := (badL K C D).all id
theorem bad_of {K : PySem.W.Frag} {C D : Addr} (h : badB K C D = true) : Bad K C D := by
  unfold badB badL at h
  rw [List.all_cons, List.all_cons, List.all_cons, List.all_cons, List.all_cons, List.all_cons, List.all_cons, List.all_cons, List.all_cons, List.all_cons, List.all_cons, List.all_cons, List.all_cons, List.all_cons, List.all_cons, List.all_cons, List.all_cons, List.all_cons, List.all_nil] at h
  simp only [id_eq, Bool.and_true, Bool.and_eq_true, decide_eq_true_eq] at h
  obtain ⟨h1, h2, h3, h4, h5, h6, h7, h8, h9, h10, h11, h12, h13, h14, h15, h16, h17, h18⟩ := h
  exact ⟨⟨oexB_ok h1, h2, h3, h4, h5⟩, h6, h7, h8, h9, ⟨h10, h11, h3, h12, h13, h14, h15, h16⟩, h17, fun f hf => of_decide_eq_true (List.all_eq_true.mp h18 f hf)⟩
theorem Bad.xf {K : PySem.W.Frag} {C D : Addr} (B : Bad K C D) : XfC K C := ⟨B.ex.hg, B.ex.hk, B.ex.hs, B.ex.hd⟩
theorem Bad.cls {K : PySem.W.Frag} {C D : Addr} (B : Bad K C D) : ∃ cd, PySem.W.clsIn K C = some cd := by
  obtain ⟨nm, q, N, bs, bm, sn, sub, ab, col, dd, k0, k1, k2, k3, k5, hC, hbm⟩ := B.ox.cls
  exact ⟨_, by unfold PySem.W.clsIn; rw [hC] <;> rfl⟩
def fileB (K : PySem.W.Frag) (cd : Value) (file : Str) : Bool := match cd with
  | .ref c => (match K.lookup c with
    | some ⟨_, _, .fields vs, _⟩ => (match (vs[2]? : Option Value) with
      | some (Value.str f _) => file == f
      | _ => false)
    | _ => false)
  | _ => false
theorem fileB_ok {K : PySem.W.Frag} {cd : Value} {file : Str} (h : fileB K cd file = true) : ∃ (cda : Addr) (ccl : Value) (cdd : Option Addr) (vs : Array Value) (ccs : Array (Option Value)) (f : Str) (tf : Tok), cd = .ref cda ∧ K.lookup cda = some ⟨ccl, cdd, .fields vs, ccs⟩ ∧ vs[2]? = some (.str f tf) ∧ (file == f) = true := by
  unfold fileB at h
  split at h
  · split at h
    · rename_i hl
      split at h
      · rename_i hv
        exact ⟨_, _, _, _, _, _, _, rfl, hl, hv, h⟩
      · cases h
    · cases h
  · cases h
def sp_CE (K : PySem.W.Frag) (D : Addr) : Sp := fun vs H Q E => ∃ (a C : Addr) (v : V), vs = [.ref a, v] ∧ Bad K C D ∧ H a = some (exo a C none) ∧
  ∀ dx, H dx = none → dx ≠ a → Q .non (upd (upd H dx (exd dx [("word", v)])) a (exo a C (some dx)))
def sp_B0 (C : Addr) (nm : Str) : Sp := fun vs H Q E => ∃ (a : Addr), vs = [.ref a] ∧ H a = some (exo a C none) ∧
  ∀ dx, H dx = none → dx ≠ a → Q .non (upd (upd H dx (exd dx [("word", .str nm)])) a (exo a C (some dx)))
section
variable {P : Program} {w : World} {K : PySem.W.Frag} {mg : Str → Option Value} {base : Heap}
/-- an __init__ of the text that says super() -/
structure SupI (P : Program) (K : PySem.W.Frag) (mg : Str → Option Value) (qual : Str) (s : Stmt) (D : Addr) (N : List Str) (f : Addr) (fd : FuncData) : Prop where
  ex : ∃ (oc : Value) (od : Option Addr) (dV kV doc pm : Value) (an : Option Addr) (cdv ct : Value) (osl : Array (Option Value)) (cc : Addr) (cl : Value) (cld : Option Addr) (csl : Array (Option Value)),
    fd = PySem.W.ksFn "__init__" qual (defArgs s) (defBody s) (defScope s) dV kV doc pm an cdv ct cc ∧ K.lookup f = some ⟨oc, od, .func fd, osl⟩ ∧ PySem.W.codeIn K cdv qual = true ∧ K.lookup cc = some ⟨cl, cld, .cell (some (.ref D)), csl⟩ ∧ fileB K cdv P.main.file = true
  sc : SupScope N N (defScope s)
  hs : (defScope s).names.lookup ("super" : Str) = some .globalImplicit
  hc : (defScope s).names.lookup ("__class__" : Str) = some .free
  hl : (defScope s).names.lookup ("self" : Str) = some .local
  ar : ∃ ar : Arg, ((defArgs s).posonlyargs ++ (defArgs s).args).head? = some ar ∧ ar.arg = "self"
  su : mg "super" = none
  tp : (P.main.scope.names.lookup ("super" : Str)).isSome = false
  dc : ∃ cd, PySem.W.clsIn K D = some cd
theorem SupI.supK {qual : Str} {s : Stmt} {D f : Addr} {fd : FuncData} {N : List Str} (S : SupI P K mg qual s D N f fd) {oc : Value} {od : Option Addr} {dV kV doc pm : Value} {an : Option Addr} {cdv ct : Value} {osl : Array (Option Value)} {cc : Addr} {cl : Value} {cld : Option Addr} {csl : Array (Option Value)}
    (hfd : fd = PySem.W.ksFn "__init__" qual (defArgs s) (defBody s) (defScope s) dV kV doc pm an cdv ct cc) (lk : K.lookup f = some ⟨oc, od, .func fd, osl⟩) (lc : K.lookup cc = some ⟨cl, cld, .cell (some (.ref D)), csl⟩) (hf : fileB K cdv P.main.file = true)
    (A : Around) (outer : List Env) (sh : Shared) (H : Hp) : SupK (cxS P w K mg base N qual (defScope s) f cdv cc A outer sh H) D := by
  obtain ⟨ar, h1, h2⟩ := S.ar
  obtain ⟨cda, ccl, cdd, vs, ccs, fl, tf, e, l, v, b⟩ := fileB_ok hf
  exact ⟨S.hs, S.hc, S.hl, ⟨f, oc, od, fd, osl, ar, rfl, lk, by subst hfd; exact h1, h2⟩, ⟨cda, ccl, cdd, vs, ccs, fl, tf, e, l, v, b⟩, ⟨cc, cl, cld, csl, by show List.lookup ("__class__" : Str) [(("__class__" : Str), cc)] = some cc; simp [List.lookup], lc⟩, S.su, S.tp, S.dc⟩
/-- super().__init__(e, ..) is a call of a method as it stands on one line -/
def SupEv (e : Expr) (es : List Expr) (p0 p1 p2 p3 p4 : Pos) : Prop := ∃ pl : Sem Bool, ∀ env : Env, eval (.Call (.Attribute (.Call (.Name "super" p0) [] [] p1) "__init__" p2) (e :: es) [] p3) env = (do
      let ov ← attributeBase (.Call (.Name "super" p0) [] [] p1) "__init__" env (eval (.Call (.Name "super" p0) [] [] p1) env)
      standAt p2.atName
      let (f, first) ← holding [ov] (getMethod ov "__init__" pl)
      callWith p3 f first (backTo p3 (starEach (e :: es) env)) [])
theorem ok_CE {s : Stmt} {D f : Addr} {fd : FuncData} {p0 p1 p2 p3 p4 q0 q1 q2 q3 q4 : Pos} (S : SupI P K mg "ChamberError.__init__" s D ["self", "word"] f fd)
    (hb : defBody s = [supStmt (.Name "word" q0) [] p0 p1 p2 p3 p4, .Assign [.Attribute (.Name "self" q1) "word" q2] (.Name "word" q3) q4])
    (ev : SupEv (.Name "word" q0) [] p0 p1 p2 p3 p4) (hw : (defScope s).names.lookup ("word" : Str) = some .local) : FnOk P w K mg base CX0 1 f fd ["self", "word"] (sp_CE K D) := by
  obtain ⟨oc, od, dV, kV, doc, pm, an, cdv, ct, osl, cc, cl, cld, csl, hfd, lk, hcd, lc, hf⟩ := S.ex
  have hfd' := hfd
  rw [hb] at hfd
  have lk' := lk
  subst hfd
  refine fn_sup lk' hcd lc S.sc (fun vs H Q E ⟨a, C, v, e, _⟩ => by rw [e]; rfl) fun A outer sh H vs Q E hr hsp => ?_
  have SK := S.supK (w := w) (base := base) hfd' lk lc hf A outer sh H
  have nd := S.sc.nd
  refine ⟨_, _, pst_supV SK rfl (pa_cons (pe_var (i := 1) rfl (.inl hw)) pa_nil) (hc := ev.choose_spec _), pss_one (ps_ost (pe_var (i := 0) rfl (.inl S.hl)) (pe_var (i := 1) rfl (.inl hw))), ?_⟩
  obtain ⟨a, C, v, rfl, B, ea, hq⟩ := hsp
  refine ⟨a, C, rfl, ea, B.ox, B.sub, B.opq, B.smV, B.sV, ?_⟩
  refine ⟨v, rfl, by simp, ea, ?_⟩
  exact ⟨v, rfl, .ref a, rfl, a, C, rfl, B.ox, B.nw, .inl ⟨ea, fun dx n ne => hq dx n ne⟩⟩
theorem ok_B0 {s : Stmt} {C D f f2 : Addr} {qual nm : Str} {fd fd2 : FuncData} {jc : Nat} {p0 p1 p2 p3 p4 q0 : Pos} (S : SupI P K mg qual s C ["self"] f fd)
    (hb : defBody s = [supStmt (.Constant (.str nm) jc q0) [] p0 p1 p2 p3 p4]) (ev : SupEv (.Constant (.str nm) jc q0) [] p0 p1 p2 p3 p4)
    (F1 : FnOk P w K mg base CX0 1 f2 fd2 ["self", "word"] (sp_CE K D)) (hbs : Binds K fd2 ["self", "word"] []) (B : Bad K C D) (sub : PySem.W.mroIn K C (.ref C) = some true) (sm : PySem.W.ks_superIn K C C "__init__" = some (some (.ref f2)))
    (ht : PySem.W.typeIn K (.ref f2) = some (.type "function")) (hf2 : PySem.W.fnIn K f2 = true) : FnOk P w K mg base CX0 2 f fd ["self"] (sp_B0 C nm) := by
  obtain ⟨oc, od, dV, kV, doc, pm, an, cdv, ct, osl, cc, cl, cld, csl, hfd, lk, hcd, lc, hf⟩ := S.ex
  have hfd' := hfd
  rw [hb] at hfd
  have lk' := lk
  subst hfd
  refine fn_sup lk' hcd lc S.sc (fun vs H Q E ⟨a, e, _⟩ => by rw [e]; rfl) fun A outer sh H vs Q E hr hsp => ?_
  have SK := S.supK (w := w) (base := base) hfd' lk lc hf A outer sh H
  refine ⟨_, _, pst_supF SK rfl F1 hr hbs pass0 ht hf2 (pa_cons pe_str pa_nil) (hc := ev.choose_spec _), pss_nil, ?_⟩
  obtain ⟨a, rfl, ea, hq⟩ := hsp
  refine ⟨a, C, rfl, ea, B.ox, sub, B.opq, sm, ?_⟩
  exact ⟨a, C, .str nm, rfl, B, ea, fun dx n ne => hq dx n ne⟩
end
def tBad (C : Addr) (nm : Str) : L2.St → Hp → XK → Prop := fun σ H Q => ∀ d, H d = none → Q (.ref C) (some d) (upd H d (.xd [("word", .str nm)]))
theorem heap_end {H : Hp} {a dx : Addr} {o1 o2 o3 : HO} {fs : List (Str × V)} (n : H a = none) (ne : dx ≠ a) : upd (del (upd (upd (upd H a o1) dx o2) a o3) a) dx (.xd fs) = upd H dx (.xd fs) := by
  funext b
  by_cases h1 : b = dx
  · rw [h1, upd_same, upd_same]
  · rw [upd_ne h1, upd_ne h1]
    by_cases h2 : b = a
    · rw [h2, del_same, n]
    · rw [del_ne h2, upd_ne h2, upd_ne h1, upd_ne h2]
section
variable {X : Cx} {x : Str} {C fI : Addr} {k : Nat} {fd : FuncData} {p pos : Pos}
theorem run_bad {ps : List Str} {sp : Sp} (T : OexC X.K C) (iC : PySem.W.findIn X.K (.ref C) "__init__" = some (some (.ref fI))) (tI : PySem.W.typeIn X.K (.ref fI) = some (.type "function"))
    (F1 : FnOk X.prog X.w X.K X.mg X.base CX0 k fI fd ps sp) (hr : Room (k + 1) X.A) (hb : Binds X.K fd ps []) {pins : List (Addr × Obj)} {σ : L2.St} {H : Hp} {s : Shared} {Q : XK} (I : Inv X pins σ H s)
    (h : ∀ a, H a = none → sp [.ref a] (upd H a (exo a C none)) (fun v H2 => v = .non ∧ ∃ (d : Addr) (fs : List (Str × V)), H2 a = some (exo a C (some d)) ∧ H2 d = some (exd d fs) ∧ H d = none ∧ Q (.ref C) (some d) (upd (del H2 a) d (.xd fs))) (fun _ _ _ => False)) :
    wpAny (model X.prog X.w) X.A (call (.ref C) []) (MkP X pins σ Q) X.xe s := by
  obtain ⟨nm, q, N, bs, bm, sn, sub, ab, col, dd, k0, k1, k2, k3, k5, hC, hbm⟩ := T.cls
  obtain ⟨hp, g, dr, tk, os⟩ := s
  have hsz : hp.objs.size ≤ hp.objs.size + 1 := Nat.le_succ _
  have hn : H (hp.objs.size + 1) = none := I.hok.fresh hsz
  have hq := h (hp.objs.size + 1) hn
  have kk : ∀ b o, hp.get? b = some o → ((hp.push (PySem.W.kdv_tup [])).push (PySem.HandSPX.excO C hp.objs.size)).get? b = some o := fun b o e => Heap.get?_push_of_some _ (Heap.get?_push_of_some _ e)
  have hget : ((hp.push (PySem.W.kdv_tup [])).push (PySem.HandSPX.excO C hp.objs.size)).get? (hp.objs.size + 1) = some (PySem.HandSPX.excO C hp.objs.size) := by heap_get
  have I2 : Inv X pins σ (upd H (hp.objs.size + 1) (exo (hp.objs.size + 1) C none)) ⟨(hp.push (PySem.W.kdv_tup [])).push (PySem.HandSPX.excO C hp.objs.size), g, dr, tk, os⟩ :=
    I.laid (t' := tk) (a := hp.objs.size + 1) (o := exo (hp.objs.size + 1) C none) (h' := (hp.push (PySem.W.kdv_tup [])).push (PySem.HandSPX.excO C hp.objs.size)) kk hsz (exo_ok hget)
  have r2 : Vals [V.ref (hp.objs.size + 1)] [Value.ref (hp.objs.size + 1)] := .cons rfl .nil
  have hl : ([Value.ref (hp.objs.size + 1)] ++ []).length = ps.length := by
    have e := r2.length
    rw [F1.len _ _ _ _ hq] at e
    exact e.symm
  refine wpAny_call (PySem.HandSPX.call_own (rest := []) F.excBase_ValueError (fun Y => PySem.HandSPX.refsVE_contains Y bm hbm) (I.kIn _ _ hC) (PySem.W.looks_findIn I.kIn iC) (fun self => PySem.W.bind_fn I.kIn self tI) (Nat.zero_le _)
    (codeAny_mono (F1.run _ X.stack _ _ ⟨[Value.ref (hp.objs.size + 1)], []⟩ ([Value.ref (hp.objs.size + 1)] ++ []) _ _ (fun _ _ _ => False) (hr.make C [] []) (I2.env0.make C [] []) (hb _ [Value.ref (hp.objs.size + 1)] I2.kIn hl) r2 hq) fun r s' hq' => ?_))
  cases r with
  | error er => exact False.elim hq'
  | ok fl =>
    cases fl with
    | ret u =>
      obtain ⟨v, H2, os2, bare2, un2, hok2, rv, ev, d, fs, ea, ed, hd1, q2⟩ := hq'
      subst ev
      obtain ⟨h2, g2, d2, t2, os'⟩ := s'
      exact ⟨rv, mk_end (raises_own T.exC T.tyC) I hsz kk un2 hok2 os2 bare2 ea ed hd1 q2⟩
    | next => exact False.elim hq'
    | brk => exact False.elim hq'
    | cont => exact False.elim hq'
theorem pmk_bad0 {nm : Str} (T : OexC X.K C) (iC : PySem.W.findIn X.K (.ref C) "__init__" = some (some (.ref fI))) (tI : PySem.W.typeIn X.K (.ref fI) = some (.type "function"))
    (F1 : FnOk X.prog X.w X.K X.mg X.base CX0 k fI fd ["self"] (sp_B0 C nm)) (hr : Room (k + 1) X.A) (hb : Binds X.K fd ["self"] []) (hg : Gl X x) (hm : X.mg x = some (.ref C)) (hdb : (x == ("__debug__" : Str)) = false := by decide) :
    PMk X (.Call (.Name x p) [] [] pos) (tBad C nm) := by
  intro pins s σ H Q I h
  refine wpAny_Call_Name_kw (ld_glob I hg hm ?_ hdb)
  refine PySem.W.callWith_K0 I.kIn T.kC ?_
  refine run_bad T iC tI F1 hr hb I fun a na => ⟨a, rfl, upd_same, fun dx nx ne => ?_⟩
  have nx0 : H dx = none := by rw [upd_ne ne] at nx; exact nx
  refine ⟨rfl, dx, _, upd_same, by rw [upd_ne ne, upd_same], nx0, ?_⟩
  rw [heap_end na ne]
  exact h dx nx0
end
end Kb
set_option Elab.async false
set_option linter.all false
set_option maxRecDepth 100000
set_option maxHeartbeats 4000000
namespace Kb
open PySem PySem.Spec PyProof.Rows L2
structure Cl where
  c : Value
  slot : Option Nat
  ts : Addr → Value → Option Addr → TS
def endsOf (D : Ends) : Option Nat → Ends
  | none => D
  | some i => { nx := fun σ' H' => D.nx (σ'.set i none) H', rt := D.rt, bk := fun σ' H' => D.bk (σ'.set i none) H', ct := fun σ' H' => D.ct (σ'.set i none) H' }
def setOf (σ : L2.St) (a : Addr) : Option Nat → L2.St
  | none => σ
  | some i => σ.set i (some (.ref a))
/-- what the clauses wish of an exception of the body, one after the other -/
def wAll (K : PySem.W.Frag) (Wout : WX) (D : Ends) : List Cl → WX
  | [] => Wout
  | q :: r => fun cls d σ H => ∃ b, PySem.W.exmOne K cls q.c = some b ∧ (b = true → ∀ a, H a = none → q.ts a cls d (endsOf D q.slot) (setOf σ a q.slot) H) ∧ (b = false → wAll K Wout D r cls d σ H)
inductive HdsA (X : Cx) : List ExceptHandler → List Cl → Prop
  | nil : HdsA X [] []
  | no {x : Str} {c : Value} {ts : Addr → Value → Option Addr → TS} {b₀ : Stmt} {suite : List Stmt} {np pos' : Pos} {hds : List ExceptHandler} {l : List Cl} (hc : Names X x c)
      (hsu : ∀ (a : Addr) (oe : Obj) (cls : Value) (d : Option Addr) (pn : List (Addr × Obj)), Zc cls d oe → (∃ vs, oe.data = .fields vs) → PSs (X.suite a ((a, oe) :: pn)) (b₀ :: suite) (ts a cls d)) (r : HdsA X hds l) :
      HdsA X (.ExceptHandler (some (.Name x np)) none (b₀ :: suite) pos' :: hds) (⟨c, none, ts⟩ :: l)
  | as {x n : Str} {i : Nat} {c : Value} {ts : Addr → Value → Option Addr → TS} {b₀ : Stmt} {suite : List Stmt} {np pos' : Pos} {hds : List ExceptHandler} {l : List Cl} (hc : Names X x c) (hi : X.N[i]? = some n) (hln : X.env.kindOf n = some .local)
      (hsu : ∀ (a : Addr) (oe : Obj) (cls : Value) (d : Option Addr) (pn : List (Addr × Obj)), Zc cls d oe → (∃ vs, oe.data = .fields vs) → PSs (X.suite a ((a, oe) :: pn)) (b₀ :: suite) (ts a cls d)) (r : HdsA X hds l) :
      HdsA X (.ExceptHandler (some (.Name x np)) (some n) (b₀ :: suite) pos' :: hds) (⟨c, some i, ts⟩ :: l)
section
variable {X : Cx} {body : List Stmt} {h₀ : ExceptHandler} {hds : List ExceptHandler} {l : List Cl} {pos : Pos} {tb : WX → TS} {Wout : WX}
theorem ps_try_all (hs : X.stack = X.env :: X.outer) (hf : X.env.frame = some X.env.locals) (hN : X.N.Nodup) (tk : Takes X Wout)
    (hb : ∀ (W : WX) (pn : List (Addr × Obj)) (xe : Value → Shared → Prop), Takes (X.tr pn xe) W → PassesOwn (model X.prog X.w) X.A X.env xe → PSs (X.tr pn xe) body (tb W))
    (hh : HdsA X (h₀ :: hds) l) : PS X (.Try body (h₀ :: hds) [] [] pos) (fun D σ H => tb (wAll X.K Wout D l) D σ H) := by
  refine ⟨fun pins s σ H D I h => ?_⟩
  have ok := I.ok
  have hfr : X.A.frames = some (X.env :: X.outer) := by rw [ok.frames, hs]
  refine wpAny_Try_except ?_
  refine wpAny_mono ((hb (wAll X.K Wout D l) (X.pn ++ pins) (fun e s₁ => wpAny (model X.prog X.w) X.A (noteFrame e X.env) (fun _ s₂ => wpAny (model X.prog X.w) X.A (setFlight e none) (fun _ s₃ =>
    wpAny (model X.prog X.w) X.A (handleBy e X.env (h₀ :: hds)) (SP X pins D) X.xe s₃) X.xe s₂) X.xe s₁) (fun u s' xx => ?_) PassesOwn.looking).run [] s σ H D (I.toTry _) h) (fun f s1 hsp => ?_) (fun e s1 he => he)
  · obtain ⟨a, B, sI, pins', σ', H', cls, d, rfl, J', nb, up, sky, na, os, ag, w⟩ := xx
    have J : Inv X pins σ' H' sI := J'.ofTry ok
    have sky' : Sky B (X.env :: X.outer) a (Zc cls d) X.env.locals s'.heap := by rw [← hs]; exact sky
    show wpAny (model X.prog X.w) X.A (noteFrame (.ref a) X.env) _ _ _
    refine Sky.land Zc.steady hfr hf sky' fun h3 fl3 up3 => ?_
    have J3 : Inv X pins σ' H' { s' with heap := h3 } := J.landed nb fl3.1 (up.trans up3) os ag
    obtain ⟨oe3, vs3, he3, hz3, hd3⟩ := fl3.there
    have notFr : ∀ {h : Heap} {o : Obj} {vs : Array Value}, h.FunFrames B (X.env :: X.outer) → h.get? a = some o → o.data = .fields vs → a ∉ frs (X.env :: X.outer) := fun {h o vs} ff e dd hm => by
      obtain ⟨_, o', e', hnf⟩ := ff.mem hm
      rw [e] at e'; cases e'
      exact hnf _ dd
    have nfr := notFr fl3.2.2.1 he3 hd3
    have nL : a ≠ X.env.locals := fun z => nfr (List.mem_filterMap.mpr ⟨X.env, List.mem_cons_self, by rw [hf, z]⟩)
    have nF : a ∉ X.fs := fun hm => by
      obtain ⟨e, he, q⟩ := List.mem_filterMap.mp hm
      exact nfr (List.mem_filterMap.mpr ⟨e, List.mem_cons_of_mem _ he, q⟩)
    have S3 := J3.suite he3 hd3 na nL nF
    have test : ∀ {x : Str} {c : Value} {np : Pos}, Names X x c → ∀ {Q : Value → Shared → Prop} {E : Value → Shared → Prop}, Q c { s' with heap := h3 } → wpAny (model X.prog X.w) (X.A.mark (some (.ref a))) (eval (.Name x np) X.env) Q E { s' with heap := h3 } := fun {x c np} hc {Q E} q => by
      obtain ⟨hg, hdbg, hm | ⟨hm, hv, hnn⟩⟩ := hc
      · exact ld_glob (X := X.suite a ((a, oe3) :: (X.pn ++ pins))) S3 hg hm q hdbg
      · exact ld_blt (X := X.suite a ((a, oe3) :: (X.pn ++ pins))) S3 hg hm hv q hnn hdbg
    have LT : PySem.W.Looks (model X.prog X.w) h3 (typeOf (.ref a)) cls := fun A Q E s k q => wpAny_typeOf_ref (k _ _ he3) (by rw [hz3.1]; exact q)
    have go : ∀ {hds' : List ExceptHandler} {l' : List Cl}, HdsA X hds' l' → wAll X.K Wout D l' cls d σ' H' →
        wpAny (model X.prog X.w) X.A (handleBy (.ref a) X.env hds') (SP X pins D) X.xe { s' with heap := h3 } := by
      intro hds' l' hk
      induction hk with
      | nil =>
        intro w
        refine wpAny_handleBy_nil ?_
        obtain ⟨k1, k2, k3, oe, vs, T, oT, ts', he, hz, hd, h1, hr⟩ := id fl3
        unfold PySem.passOn
        refine wpAny_bind (wpAny_field he hd h1 ?_)
        rw [if_neg (show ¬ ((Value.ref T == Value.none) = true) from by simp)]
        have fin : wpAny (model X.prog X.w) X.A (setFlight (.ref a) X.env.frame) (fun _ s4 => wpAny (model X.prog X.w) X.A (throw (.ref a) : Sem Flow) (SP X pins D) X.xe s4) X.xe { s' with heap := h3 } := by
          rw [hf]
          refine HandSPX.setFlight_upZ fl3 fun h4 hh4 up4 => wpAny_throw (tk _ _ ?_)
          exact ⟨a, B, sI, pins, σ', H', cls, d, rfl, J, nb, (up.trans up3).trans up4, .inr (.inr (by rw [hs]; exact hh4)), na, os, ag, w⟩
        first
          | exact wpAny_bind (wpAny_pure (wpAny_bind fin))
          | exact wpAny_bind fin
      | @no x c ts b₀ suite np pos' hds2 l2 hc hsu r ih =>
        intro w
        obtain ⟨b, hb1, hyes, hno⟩ := w
        refine wpAny_handleBy_cons (codeAny_handlers_test ?_) (by intro q; cases q)
        refine test hc ((PySem.W.exm_one (M := model X.prog X.w) (J3.kIn) LT hb1).here ?_)
        cases b with
        | true =>
          refine codeAny_handlers_suite ?_
          refine HandSPX.lands_againZ fl3 fun h4 fl4 up4 => ?_
          have J4 : Inv X pins σ' H' { s' with heap := h4 } := J.landed nb fl4.1 ((up.trans up3).trans up4) os ag
          obtain ⟨oe4, vs4, he4, hz4, hd4⟩ := fl4.there
          have S4 := J4.suite he4 hd4 na nL nF
          refine wpAny_mono ((hsu a oe4 cls d (X.pn ++ pins) hz4 ⟨_, hd4⟩).run [] _ _ H' _ S4 (hyes rfl a na)) (fun f s6 hsp => ?_) (fun _ _ z => False.elim z)
          cases f with
          | next =>
            obtain ⟨σ6, H6, S6, q6⟩ := hsp
            exact ⟨_, _, S6.unsuite ok, q6⟩
          | brk =>
            obtain ⟨σ6, H6, S6, q6⟩ := hsp
            exact ⟨_, _, S6.unsuite ok, q6⟩
          | cont =>
            obtain ⟨σ6, H6, S6, q6⟩ := hsp
            exact ⟨_, _, S6.unsuite ok, q6⟩
          | ret u =>
            obtain ⟨v6, σ6, H6, S6, r6, q6⟩ := hsp
            exact ⟨_, _, _, S6.unsuite ok, r6, q6⟩
        | false =>
          show wpAny _ X.A (handleBy (.ref a) X.env hds2) _ _ _
          exact ih (hno rfl)
      | @as x n i c ts b₀ suite np pos' hds2 l2 hc hi hln hsu r ih =>
        intro w
        obtain ⟨b, hb1, hyes, hno⟩ := w
        have hloc : Loc X.env.scope n := .inl hln
        refine wpAny_handleBy_cons (codeAny_handlers_test ?_) (by intro q; cases q)
        refine test hc ((PySem.W.exm_one (M := model X.prog X.w) (J3.kIn) LT hb1).here ?_)
        cases b with
        | true =>
          refine codeAny_handlers_suite_as ?_
          refine HandSPX.lands_againZ fl3 fun h4 fl4 up4 => ?_
          have J4 : Inv X pins σ' H' { s' with heap := h4 } := J.landed nb fl4.1 ((up.trans up3).trans up4) os ag
          obtain ⟨oe4, vs4, he4, hz4, hd4⟩ := fl4.there
          have S4 := J4.suite he4 hd4 na nL nF
          refine store_ok (X := X.suite a ((a, oe4) :: (X.pn ++ pins))) (v := .ref a) S4 hN hi hloc rfl (fun s5 S5 => ?_) (.inr hln)
          refine wpAny_mono ((hsu a oe4 cls d (X.pn ++ pins) hz4 ⟨_, hd4⟩).run [] s5 _ H' _ S5 (hyes rfl a na)) (fun f s6 hsp => ?_) (fun _ _ z => False.elim z)
          have end_ : ∀ {σ6 : L2.St} {H6 : Hp} {Q : Shared → Prop}, Inv (X.suite a ((a, oe4) :: (X.pn ++ pins))) [] σ6 H6 s6 → (∀ s7, Inv X pins (σ6.set i none) H6 s7 → Q s7) →
              wpAny (model X.prog X.w) X.A (do bindName X.env n .none; unbindBehindTheSuite X.env n pos') (fun _ s7 => Q s7) X.xe s6 := fun {σ6 H6 Q} S6 hq => gone_ok (S6.unsuite ok) hN hi hln hq
          cases f with
          | next =>
            obtain ⟨σ6, H6, S6, q6⟩ := hsp
            exact end_ S6 fun s7 J7 => ⟨_, _, J7, q6⟩
          | brk =>
            obtain ⟨σ6, H6, S6, q6⟩ := hsp
            exact end_ S6 fun s7 J7 => ⟨_, _, J7, q6⟩
          | cont =>
            obtain ⟨σ6, H6, S6, q6⟩ := hsp
            exact end_ S6 fun s7 J7 => ⟨_, _, J7, q6⟩
          | ret u =>
            obtain ⟨v6, σ6, H6, S6, r6, q6⟩ := hsp
            exact end_ S6 fun s7 J7 => ⟨_, _, _, J7, r6, q6⟩
        | false =>
          show wpAny _ X.A (handleBy (.ref a) X.env hds2) _ _ _
          exact ih (hno rfl)
    exact go hh w
  · cases f with
    | next =>
      obtain ⟨σ', H', J', q⟩ := hsp
      exact wpAny_execs_nil ⟨σ', H', J'.ofTry ok, q⟩
    | brk =>
      obtain ⟨σ', H', J', q⟩ := hsp
      exact ⟨σ', H', J'.ofTry ok, q⟩
    | cont =>
      obtain ⟨σ', H', J', q⟩ := hsp
      exact ⟨σ', H', J'.ofTry ok, q⟩
    | ret u =>
      obtain ⟨v, σ', H', J', r, q⟩ := hsp
      exact ⟨v, σ', H', J'.ofTry ok, r, q⟩
end
def tCallW (sp : Sp) (W : WX) (t : TA) : TE := fun σ H Q => t σ H fun vs H1 => sp vs H1 Q (fun cls d H' => W cls d σ H')
section
variable {X : Cx} {k : Nat} {ps : List Str} {sp : Sp} {x : Str} {p pos : Pos} {e : Expr} {es : List Expr} {t : TA} {W : WX}
theorem pe_callW (tk : Takes X W) (G : Fn X.prog X.w X.K X.mg X.base (L2.CX X.prog X.w) k x ps sp) (hr : Room k X.A) (hg : Gl X x) (ha : PA X (e :: es) t) (hdb : (x == ("__debug__" : Str)) = false := by decide)
    (he : starEach (e :: es) X.env = (false, eval e X.env) :: starEach es X.env := by rfl) (hpl : (backTo pos (starEach es X.env)).any (·.1) = false := by rfl) : PE X (.Call (.Name x p) (e :: es) [] pos) (tCallW sp W t) := by
  obtain ⟨f, fd, F, hm, hk, hb⟩ := G.ex
  refine ⟨fun pins s σ H Q I h => ?_⟩
  refine wpAny_Call_Name_kw (ld_glob I hg hm ?_ hdb)
  refine PySem.W.callWith_K (h₀ := X.base) I.ok.mod.kin hk (thn (ha.run pos pins s σ H _ I h) fun us s1 ⟨vs, H1, I1, r, q⟩ => ⟨I1.kIn, ?_⟩) he hpl
  show wpAny _ _ (call (.ref f) us) _ _ _
  have hl : (us ++ []).length = ps.length := by rw [List.append_nil, ← r.length]; exact F.len _ _ _ _ q
  have hbs := hb s1 us I1.kIn hl
  rw [List.append_nil] at hbs
  refine wpAny_call (codeAny_mono (F.run X.A X.stack s1 H1 ⟨us, []⟩ us vs Q (fun cls d H' => W cls d σ H') hr I1.env0 hbs r q) fun r s' hq => ?_)
  cases r with
  | error e => exact tk e s' (XE.of_call I1 (fun cls d H' h => h) hq)
  | ok fl =>
    cases fl with
    | ret u => exact I1.after hq
    | next => exact False.elim hq
    | brk => exact False.elim hq
    | cont => exact False.elim hq
end
/-- e.f -/
def tXfA (K : PySem.W.Frag) (a : Addr) (cls : Value) (d : Option Addr) (n : Str) (te : TE) : TE := fun σ H Q => ∃ C : Addr, cls = .ref C ∧ XfC K C ∧ PySem.W.findIn K (.ref C) n = some none ∧ tXf a cls d C n te σ H Q
/-- what isinstance's second says -/
def IsOf (K : PySem.W.Frag) (H : Hp) (C : Addr) (c : V) (b : Bool) : Prop :=
  (∃ cv, (∀ u, RelV c u → u = cv) ∧ PySem.W.kitOne K (.ref C) cv = some b) ∨ ∃ (tp : Addr) (cs : List V) (its : List Value), c = .ref tp ∧ SqT K H tp cs ∧ (∀ us, Vals cs us → us = its) ∧ PySem.W.kitAny K (.ref C) its = some b
def rIsX (K : PySem.W.Frag) (a : Addr) (cls : Value) (d : Option Addr) : List V → Hp → VK → Prop := fun xs H Q =>
  ∃ (c : V) (C dd : Addr) (fs : List (Str × V)) (b : Bool), xs = [.ref a, c] ∧ cls = .ref C ∧ d = some dd ∧ H dd = some (.xd fs) ∧ ExcC K C ∧ IsOf K H C c b ∧ Q (.bl b) H
section
variable {X : Cx} {a : Addr} {oe : Obj} {cls : Value} {d : Option Addr} {pn : List (Addr × Obj)} {e : Expr} {te : TE} {pos : Pos} {n : Str}
theorem pe_xfA (hz : Zc cls d oe) (hf : ∃ vs, oe.data = .fields vs) (he : PE (X.suite a ((a, oe) :: pn)) e te) (hb : attributeBase e n X.env (eval e X.env) = eval e X.env := by rfl) :
    PE (X.suite a ((a, oe) :: pn)) (.Attribute e n pos) (tXfA X.K a cls d n te) := by
  refine ⟨fun pins s σ H Q I h => ?_⟩
  obtain ⟨C, ec, T, hno, h⟩ := h
  exact (pe_xf T hno hz hf he hb).run pins s σ H Q I h
theorem call_isX (hz : Zc cls d oe) (hf : ∃ vs, oe.data = .fields vs) : CallR (X.suite a ((a, oe) :: pn)) (.builtin "isinstance") (rIsX X.K a cls d) := by
  intro pins s σ H xs us Q I r h
  obtain ⟨c, C, dd, fs, b, rfl, ec, ed, hdd, E, io, q⟩ := h
  subst ec
  subst ed
  cases r with
  | cons rx rr =>
    cases rr with
    | cons rt rr =>
      cases rr
      cases rx
      obtain ⟨hget, _⟩ := I.pin (a, oe) (List.mem_append.mpr (.inl List.mem_cons_self))
      obtain ⟨vs, hv⟩ := hf
      have hx : ObjOk X.prog X.w H s.heap dd (.xd fs) := I.hok dd _ hdd
      obtain ⟨od, hod⟩ : ∃ od, s.heap.get? dd = some od := by
        obtain ⟨mA, ⟨o, es, ep, e1, _⟩, _⟩ := hx
        exact ⟨o, e1⟩
      have J : PySem.W.InstAt s.heap a oe C (some od) := by
        obtain ⟨oc, od', oda, osl⟩ := oe
        obtain ⟨h1, h2⟩ := hz
        dsimp only at h1 h2 hv
        subst h1 h2 hv
        exact ⟨hget, rfl, rfl, hod⟩
      obtain ⟨cd, hcd, _⟩ := PySem.W.any_some E.hd
      have KT := PySem.W.kitx_exc (x := a) (ox := oe) (od := some od) (by rw [hcd]; rfl) E.hg E.hk E.hs E.ha E.hn E.ht E.hm
      rcases io with ⟨cv, hcv, e⟩ | ⟨tp, cs, its, rfl, htp, hits, e⟩
      · have ec := hcv _ rt
        subst ec
        exact PySem.W.kia_one KT I.kIn J e (fun z => nomatch z) fun tk => ⟨.bl b, H, I.kept (t' := tk) fun _ _ z => z, rfl, q⟩
      · obtain ⟨its', r', ⟨o, eo, oc, nn, dt⟩, _⟩ := I.tuple htp
        have e2 := hits _ r'
        subst e2
        cases rt
        obtain ⟨o1, o2, o3, o4⟩ := o
        dsimp only at oc dt
        subst oc
        subst dt
        exact PySem.W.kia_tup KT I.kIn J (its := its') eo e (fun z => nomatch z) fun tk => ⟨.bl b, H, I.kept (t' := tk) fun _ _ z => z, rfl, q⟩
end
end Kb
set_option Elab.async false
set_option linter.all false
set_option maxRecDepth 100000
set_option maxHeartbeats 4000000
namespace Kb
open PySem PySem.Spec PyProof.Rows L2
def IteT (K : PySem.W.Frag) (a : Addr) (k : Int) : It :=
  ⟨fun i H => ∃ (xs : List V) (x : V), SqT K H a xs ∧ xs[i]? = some x, fun i H v H' => ∃ T x, v = .ref T ∧ H T = none ∧ H' = upd H T (.tup [.int (k + (i : Nat)), x]) ∧ ∀ xs, SqT K H a xs → xs[i]? = some x, fun i H => ∃ xs : List V, SqT K H a xs ∧ xs.length = i⟩
/-- enumerate(t), enumerate(t, start=k): t a tuple -/
def iEnT (K : PySem.W.Frag) (k : Int) (ta : TA) : TI := fun σ H R => ta σ H fun vs H1 => ∃ a xs, vs = [.ref a] ∧ SqT K H1 a xs ∧ R (IteT K a k) H1
end Kb
set_option Elab.async false
set_option linter.all false
set_option maxRecDepth 100000
set_option maxHeartbeats 4000000
set_option Elab.async false
set_option linter.all false
set_option maxRecDepth 100000
set_option maxHeartbeats 4000000
namespace Kb
open PySem PySem.Spec PyProof.Rows L2
structure Exs (K : PySem.W.Frag) (ec : Str → Addr) (ns : List Str) : Prop where
  bad : ∀ x ∈ ns, Bad K (ec x) (ec "ChamberError")
  kitV : ∀ x ∈ ns, PySem.W.kitOne K (.ref (ec x)) (.type "ValueError") = some true
  kit : ∀ x ∈ ns, ∀ y ∈ ns, PySem.W.kitOne K (.ref (ec x)) (.ref (ec y)) = some (x == y || y == "ChamberError")
  exm : ∀ x ∈ ns, ∀ y ∈ ns, PySem.W.exmOne K (.ref (ec x)) (.ref (ec y)) = some (x == y || y == "ChamberError")
def exsB (K : PySem.W.Frag) (D : Addr) (l : List (Str × Addr)) : Bool :=
  l.all fun p => badB K p.2 D && (PySem.W.kitOne K (.ref p.2) (.type "ValueError") == some true && l.all fun q =>
    PySem.W.kitOne K (.ref p.2) (.ref q.2) == some (p.1 == q.1 || q.1 == "ChamberError") && PySem.W.exmOne K (.ref p.2) (.ref q.2) == some (p.1 == q.1 || q.1 == "ChamberError"))
def ecOf (mg : Str → Option Value) : Str → Addr := fun x => match mg x with
  | some (.ref a) => a
  | _ => 0
theorem ecOf_at {mg : Str → Option Value} {x : Str} {a : Addr} (h : mg x = some (.ref a)) : ecOf mg x = a := by unfold ecOf; rw [h]
theorem exs_of {K : PySem.W.Frag} {mg : Str → Option Value} {D : Addr} {l : List (Str × Addr)} (hD : mg "ChamberError" = some (.ref D)) (hl : ∀ p ∈ l, mg p.1 = some (.ref p.2)) (h : exsB K D l = true) : Exs K (ecOf mg) (l.map (·.1)) := by
  have key : ∀ x ∈ l.map (·.1), ∃ a, (x, a) ∈ l ∧ ecOf mg x = a := by
    intro x hx
    obtain ⟨p, hp, rfl⟩ := List.mem_map.mp hx
    exact ⟨p.2, hp, ecOf_at (hl p hp)⟩
  unfold exsB at h
  rw [List.all_eq_true] at h
  refine ⟨fun x hx => ?_, fun x hx => ?_, fun x hx y hy => ?_, fun x hx y hy => ?_⟩
  · obtain ⟨a, ha, e⟩ := key x hx
    have z := h _ ha
    simp only [Bool.and_eq_true] at z
    rw [e, ecOf_at hD]
    exact bad_of z.1
  · obtain ⟨a, ha, e⟩ := key x hx
    have z := h _ ha
    simp only [Bool.and_eq_true, beq_iff_eq] at z
    rw [e]
    exact z.2.1
  · obtain ⟨a, ha, e⟩ := key x hx
    obtain ⟨b, hb, e2⟩ := key y hy
    have z := h _ ha
    simp only [Bool.and_eq_true] at z
    have z2 := List.all_eq_true.mp z.2.2 _ hb
    simp only [Bool.and_eq_true] at z2
    rw [e, e2]
    exact beq_iff_eq.mp z2.1
  · obtain ⟨a, ha, e⟩ := key x hx
    obtain ⟨b, hb, e2⟩ := key y hy
    have z := h _ ha
    simp only [Bool.and_eq_true] at z
    have z2 := List.all_eq_true.mp z.2.2 _ hb
    simp only [Bool.and_eq_true] at z2
    rw [e, e2]
    exact beq_iff_eq.mp z2.2
def ExAt (mg : Str → Option Value) (ec : Str → Addr) (ns : List Str) : Prop := ∀ x ∈ ns, mg x = some (.ref (ec x))
/-- a class that is raised, its __init__ kept -/
structure Rz0 (P : Program) (w : World) (K : PySem.W.Frag) (mg : Str → Option Value) (base : Heap) (x : Str) (C : Addr) : Prop where
  ex : ∃ (fI : Addr) (fd : FuncData), PySem.W.findIn K (.ref C) "__init__" = some (some (.ref fI)) ∧ PySem.W.typeIn K (.ref fI) = some (.type "function") ∧ FnOk P w K mg base CX0 2 fI fd ["self"] (sp_B0 C x) ∧ Binds K fd ["self"] []
  ox : OexC K C
  at_ : mg x = some (.ref C)
/-- raise .. -/
def sRaise (W : WX) (t : L2.St → Hp → XK → Prop) : TS := fun _ σ H => t σ H fun cls d H' => W cls d σ H'
def tTry (K : PySem.W.Frag) (Wout : WX) (l : List Cl) (tb : WX → TS) : TS := fun D σ H => tb (wAll K Wout D l) D σ H
abbrev W0 : WX := fun _ _ _ _ => False
section
variable {X : Cx} {x at1 : Str} {C : Addr} {p pos pos' : Pos} {W : WX} {e : Expr} {te : TE}
theorem ps_rz0 (hc : X.calm = true) (tk : Takes X W) (R : Rz0 X.prog X.w X.K X.mg X.base x C) (hr : Room 3 X.A) (hg : Gl X x) (hdb : (x == ("__debug__" : Str)) = false := by decide) :
    PS X (.Raise (some (.Call (.Name x p) [] [] pos)) none pos') (sRaise W (tBad C x)) := by
  obtain ⟨fI, fd, h1, h2, h3, h4⟩ := R.ex
  exact ps_raise hc tk (pmk_bad0 R.ox h1 h2 h3 hr h4 hg R.at_ hdb)
theorem ps_tryT {body : List Stmt} {h₀ : ExceptHandler} {hds : List ExceptHandler} {l : List Cl} {tb : WX → TS} {Wout : WX} (hs : X.stack = X.env :: X.outer) (hf : X.env.frame = some X.env.locals) (hN : X.N.Nodup) (tk : Takes X Wout)
    (hb : ∀ (W : WX) (pn : List (Addr × Obj)) (xe : Value → Shared → Prop), Takes (X.tr pn xe) W → PassesOwn (model X.prog X.w) X.A X.env xe → PSs (X.tr pn xe) body (tb W))
    (hh : HdsA X (h₀ :: hds) l) : PS X (.Try body (h₀ :: hds) [] [] pos) (tTry X.K Wout l tb) := ps_try_all hs hf hN tk hb hh
end
section
variable {K : PySem.W.Frag} {ec : Str → Addr} {ns : List Str} {W : WX} {D : Ends} {σ : L2.St} {H : Hp} {C : Addr} {x at1 : Str}
theorem r_raise (h : ∀ d H', Same H H' → H d = none → H' d = some (.xd [("word", .str x)]) → W (.ref C) (some d) σ H') : sRaise W (tBad C x) D σ H := fun d nd => h d _ (same_new nd) nd upd_same
theorem r_try {Wout : WX} {l : List Cl} {tb : WX → TS} (h : tb (wAll K Wout D l) D σ H) : tTry K Wout l tb D σ H := h
/-- the clause is taken -/
theorem w_yes {Wout : WX} {q : Cl} {r : List Cl} {d : Option Addr} {cls : Value} (e : PySem.W.exmOne K cls q.c = some true) (h : ∀ a, H a = none → q.ts a cls d (endsOf D q.slot) (setOf σ a q.slot) H) : wAll K Wout D (q :: r) cls d σ H :=
  ⟨true, e, fun _ => h, fun z => nomatch z⟩
/-- e.f of the caught -/
theorem r_xfV {a : Addr} {d : Addr} {n : Str} {i : Nat} {Q : VK} {fs : List (Str × V)} {v : V} (XF : XfC K C) (hn : PySem.W.findIn K (.ref C) n = some none) (hσ : σ[i]? = some (some (.ref a))) (hd : H d = some (.xd fs)) (hl : fs.lookup n = some v) (q : Q v H) : tXfA K a (.ref C) (some d) n (tVar i) σ H Q :=
  ⟨C, rfl, XF, hn, .ref a, hσ, rfl, rfl, d, fs, v, rfl, hd, hl, q⟩
/-- isinstance(e, c) -/
theorem r_isX {a d : Addr} {c : V} {b : Bool} {fs : List (Str × V)} {Q : VK} (hd : H d = some (.xd fs)) (E : ExcC K C) (io : IsOf K H C c b) (q : Q (.bl b) H) : rIsX K a (.ref C) (some d) [.ref a, c] H Q := ⟨c, C, d, fs, b, rfl, rfl, rfl, hd, E, io, q⟩
theorem is_cls (XS : Exs K ec ns) {y : Str} (hx : x ∈ ns) (hy : y ∈ ns) : IsOf K H (ec x) (.ref (ec y)) (x == y || y == "ChamberError") := .inl ⟨_, fun u r => r, XS.kit x hx y hy⟩
theorem is_VE (XS : Exs K ec ns) (hx : x ∈ ns) : IsOf K H (ec x) (.ty "ValueError") true := .inl ⟨_, fun u r => r, XS.kitV x hx⟩
theorem vals_refs : ∀ {cs : List Addr} {us : List Value}, Vals (cs.map V.ref) us → us = cs.map Value.ref
  | [], _, r => by cases r; rfl
  | c :: cs, _, r => by
    cases r with
    | cons h r =>
      rw [vals_refs r]
      have h : _ = Value.ref c := h
      rw [h]
      rfl
theorem kitAny_names (XS : Exs K ec ns) (hx : x ∈ ns) : ∀ {ys : List Str}, (∀ y ∈ ys, y ∈ ns) → PySem.W.kitAny K (.ref (ec x)) ((ys.map ec).map Value.ref) = some (ys.any fun y => x == y || y == "ChamberError")
  | [], _ => rfl
  | y :: ys, h => by
    have e := XS.kit x hx y (h y List.mem_cons_self)
    have r := kitAny_names XS hx (ys := ys) fun z hz => h z (List.mem_cons_of_mem _ hz)
    rw [List.map_cons, List.map_cons, List.any_cons]
    unfold PySem.W.kitAny
    rw [e]
    cases (x == y || y == "ChamberError") with
    | true => rfl
    | false => rw [Bool.false_or]; exact r
theorem is_tup (XS : Exs K ec ns) (hx : x ∈ ns) {tp : Addr} {ys : List Str} (hy : ∀ y ∈ ys, y ∈ ns) (ht : SqT K H tp ((ys.map ec).map V.ref)) : IsOf K H (ec x) (.ref tp) (ys.any fun y => x == y || y == "ChamberError") :=
  .inr ⟨tp, _, _, rfl, ht, fun us r => vals_refs r, kitAny_names XS hx hy⟩
end
theorem r_callW {sp : Sp} {W : WX} {t : TA} {σ : L2.St} {H : Hp} {Q : VK} (h : t σ H fun vs H1 => sp vs H1 Q (fun cls d H' => W cls d σ H')) : tCallW sp W t σ H Q := h
def PEn (K : PySem.W.Frag) (k : Int) (vs : List V) (H1 : Hp) (R : It → Hp → Prop) : Prop := ∃ a xs, vs = [.ref a] ∧ SqT K H1 a xs ∧ R (IteT K a k) H1
theorem r_enT {K : PySem.W.Frag} {k : Int} {ta : TA} {σ : L2.St} {H : Hp} {R : It → Hp → Prop} (h : ta σ H fun vs H1 => PEn K k vs H1 R) : iEnT K k ta σ H R := h
theorem r_pen {K : PySem.W.Frag} {k : Int} {a : Addr} {xs : List V} {H : Hp} {R : It → Hp → Prop} (h : SqT K H a xs) (q : R (IteT K a k) H) : PEn K k [.ref a] H R := ⟨a, xs, rfl, h, q⟩
theorem r_eqS {K : PySem.W.Frag} {x y : Str} {H : Hp} {Q : VK} (q : Q (.bl (decide (x = y))) H) : rEqU K (.str x) (.str y) H Q := .inl ⟨rfl, by
  have e : decide (V.str x = V.str y) = decide (x = y) := by by_cases h : x = y <;> simp [h]
  rw [e]; exact q⟩
theorem r_neS {K : PySem.W.Frag} {x y : Str} {H : Hp} {Q : VK} (q : Q (.bl (!decide (x = y))) H) : rNeU K (.str x) (.str y) H Q := .inl ⟨rfl, by
  have e : decide (V.str x = V.str y) = decide (x = y) := by by_cases h : x = y <;> simp [h]
  rw [e]; exact q⟩
theorem r_endsAs {D : Ends} {i : Nat} {σ : L2.St} {H : Hp} (h : D.nx (σ.set i none) H) : (endsOf D (some i)).nx σ H := h
def PTp (K : PySem.W.Frag) (x : V) (H1 : Hp) : Prop := ∃ p xs, x = .ref p ∧ SqT K H1 p xs ∧ NoD H1 p
theorem r_BMT {K : PySem.W.Frag} {r : V → List V → Hp → VK → Prop} {to : TE} {t : TA} {σ : L2.St} {H : Hp} {Q : VK} (h : to σ H fun x H1 => PTp K x H1 ∧ t σ H1 fun xs H2 => r x xs H2 Q) : tBMT K r to t σ H Q := h
theorem r_ptp {K : PySem.W.Frag} {p : Addr} {xs : List V} {H : Hp} {A : Prop} (h : SqT K H p xs) (d : NoD H p) (a : A) : PTp K (.ref p) H ∧ A := ⟨⟨p, xs, rfl, h, d⟩, a⟩
theorem ixN_n {n k : Nat} (h : k < n) : ixN n (k : Int) = some k := by
  unfold ixN
  rw [if_pos (by omega), if_pos (by omega)]
  rfl
theorem map_set {bs : List Int} {k : Nat} {x : Int} : (bs.map V.int).set k (.int x) = (bs.set k x).map V.int := by rw [List.map_set]
section
local macro_rules | `(tactic| walk_at "tk") => `(tactic| first
  | assumption
  | ((with_reducible refine' sqT_of ?k); (case k => assumption))
  | ((with_reducible refine' sqT_ofD ?k); (case k => assumption))
  | ((with_reducible refine' noD_of ?k); (case k => assumption))
  | ((with_reducible refine' noD_same ?s ?k); (case s => assumption); (case k => walk_at "tk"))
  | ((with_reducible refine' sqL_of ?k); (case k => assumption))
  | ((with_reducible refine' sqT_same ?s ?k); (case s => assumption); (case k => walk_at "tk"))
  | ((with_reducible refine' sqL_same ?s ?k); (case s => assumption); (case k => walk_at "tk"))
  | ((with_reducible refine' sqT_but ?s ?t ?k); (case s => assumption); (case t => walk_at "tk"); (case k => walk_at "tk"))
  | ((with_reducible refine' sqL_but ?s ?t ?k); (case s => assumption); (case t => walk_at "ne"); (case k => walk_at "tk"))
  | ((with_reducible refine' sqL_of ?k); (case k => walk_at "tk"))
  | ((with_reducible refine' sqT_of ?k); (case k => walk_at "tk"))
  | ((with_reducible refine' at_same ?s ?k); (case s => assumption); (case k => walk_at "tk"))
  | ((with_reducible refine' at_but ?s ?t ?k); (case s => assumption); (case t => walk_at "ne"); (case k => walk_at "tk")))
local macro_rules | `(tactic| walk_at "ne") => `(tactic| first
  | assumption
  | (refine Ne.symm ?_; assumption)
  | exact ne_of_none (by assumption) (by assumption)
  | exact (ne_of_none (by assumption) (by assumption)).symm)
local macro_rules | `(tactic| walk_at "side") => `(tactic| first
  | assumption
  | omega
  | (simp only [sizeLine_eq, List.length_cons, List.length_nil, List.length_map]; omega)
  | (show _ ≤ sizeLine; decide))
local macro_rules | `(tactic| walk_at "kit") => `(tactic| first
  | (show kitB _ _ = some true; decide +kernel)
  | (show kitB _ _ = some false; decide +kernel))
local macro_rules | `(tactic| walk_at "rng") => `(tactic| first
  | (refine ⟨by omega, by omega, by omega, by omega⟩)
  | (refine ⟨by omega, by omega⟩)
  | ((simp only [List.length_map]); (refine ⟨by omega, by omega, by omega, by omega⟩))
  | ((simp only [List.length_map]); (refine ⟨by omega, by omega⟩)))
local macro_rules | `(tactic| walk_at "rd1") => `(tactic| first
  | with_reducible refine r_seq ?_
  | ((with_reducible refine' r_var ?k0 ?_); (case k0 => rfl))
  | with_reducible refine r_op ?_
  | with_reducible refine r_c ?_
  | with_reducible refine r_asg ?_
  | with_reducible refine r_name ?_
  | with_reducible refine r_cons ?_
  | with_reducible refine r_nil ?_
  | with_reducible refine r_CB ?_
  | with_reducible refine r_if ?_
  | with_reducible refine r_test ?_
  | with_reducible refine r_k ?_
  | with_reducible refine r_T ?_
  | with_reducible refine r_F ?_
  | with_reducible refine r_nT ?_
  | with_reducible refine r_nF ?_
  | with_reducible refine r_ret ?_
  | with_reducible refine r_drop ?_
  | with_reducible refine r_next ?_
  | with_reducible refine r_call ?_
  | with_reducible refine r_addI ?_
  | with_reducible refine r_subI ?_
  | with_reducible refine r_ltI ?_
  | with_reducible refine r_gtI ?_
  | with_reducible refine r_leI ?_
  | with_reducible refine r_geI ?_
  | with_reducible refine r_eqI ?_
  | with_reducible refine r_neI ?_
  | with_reducible refine r_int ?_
  | with_reducible refine r_abs ?_
  | with_reducible refine r_not ?_
  | with_reducible refine r_and ?_
  | with_reducible refine r_or ?_
  | with_reducible refine r_tru ?_
  | with_reducible refine r_truB ?_
  | with_reducible refine r_lst ?_
  | with_reducible refine r_tup ?_
  | with_reducible refine r_BM ?_
  | with_reducible refine r_BM0 ?_
  | with_reducible refine r_tyS ?_
  | with_reducible refine r_gsub ?_
  | with_reducible refine r_then ?_
  | with_reducible refine r_lstRg ?_
  | with_reducible refine r_tupRg ?_
  | with_reducible refine r_rg2 ?_
  | with_reducible refine r_rg1 ?_
  | with_reducible refine r_ii ?_
  | with_reducible refine r_i ?_
  | with_reducible refine r_ipI ?_
  | with_reducible refine r_un ?_
  | with_reducible refine r_neg ?_
  | with_reducible refine r_isN ?_
  | with_reducible refine r_notN ?_
  | with_reducible refine r_notV ?_
  | with_reducible refine r_pnot ?_
  | with_reducible refine r_pif ?_
  | with_reducible refine r_andV ?_
  | with_reducible refine r_orV ?_
  | with_reducible refine r_ifE ?_
  | with_reducible refine r_chain ?_
  | with_reducible refine r_sl ?_
  | with_reducible refine r_noPart ?_
  | with_reducible refine r_part ?_
  | with_reducible refine r_brk ?_
  | with_reducible refine r_cont ?_
  | with_reducible refine r_retN ?_
  | with_reducible refine r_truI ?_
  | with_reducible refine r_B ?_
  | with_reducible refine r_for ?_
  | with_reducible refine r_rng1 ?_
  | with_reducible refine r_rng2 ?_
  | with_reducible refine r_rng3 ?_
  | with_reducible refine r_body ?_
  | with_reducible refine r_lc ?_
  | with_reducible refine r_yes ?_
  | ((with_reducible refine' r_mod ?k0 ?_); (case k0 => walk_at "side"))
  | ((with_reducible refine' r_mulI ?k0 ?_); (case k0 => first | exact Or.inl ⟨by omega, by omega⟩ | exact Or.inr ⟨by omega, by omega⟩))
  | ((with_reducible refine' r_lenL ?k0 ?_); (case k0 => walk_at "tk"))
  | ((with_reducible refine' r_lenT ?k0 ?_); (case k0 => walk_at "tk"))
  | ((with_reducible refine' r_truL ?k0 ?_); (case k0 => walk_at "tk"))
  | ((with_reducible refine' r_truT ?k0 ?_); (case k0 => walk_at "tk"))
  | ((with_reducible refine' r_ixL ?k0 ?k1 ?_); (case k0 => walk_at "tk"); (case k1 => first | assumption | rfl))
  | ((with_reducible refine' r_ixT ?k0 ?k1 ?_); (case k0 => walk_at "tk"); (case k1 => first | assumption | rfl))
  | ((with_reducible refine' r_new ?k0 ?_); (case k0 => walk_at "side"))
  | ((with_reducible refine' r_tyL ?k0 ?_); (case k0 => walk_at "tk"))
  | ((with_reducible refine' r_append ?k0 ?k1 ?_); (case k0 => walk_at "tk"); (case k1 => walk_at "side"))
  | ((with_reducible refine' r_setL ?k0 ?k1 ?_); (case k0 => walk_at "tk"); (case k1 => first | assumption | rfl))
  | ((with_reducible refine' r_kTupL ?k0 ?_); (case k0 => walk_at "tk"))
  | ((with_reducible refine' r_kTupT ?k0 ?_); (case k0 => walk_at "tk"))
  | ((with_reducible refine' r_listL ?k0 ?_); (case k0 => walk_at "tk"))
  | ((with_reducible refine' r_listT ?k0 ?_); (case k0 => walk_at "tk"))
  | ((with_reducible refine' r_aug ?k0 ?_); (case k0 => rfl))
  | ((with_reducible refine' r_lenS ?k0 ?_); (case k0 => walk_at "side"))
  | ((with_reducible refine' r_pop ?k0 ?_); (case k0 => walk_at "tk"))
  | ((with_reducible refine' r_pr1 ?k0 ?_); (case k0 => walk_at "rng"))
  | ((with_reducible refine' r_pr2 ?k0 ?_); (case k0 => walk_at "rng"))
  | ((with_reducible refine' r_pr3d ?k0 ?_); (case k0 => walk_at "rng"))
  | ((with_reducible refine' r_isiI ?k0 ?_); (case k0 => walk_at "kit"))
  | ((with_reducible refine' r_isiB ?k0 ?_); (case k0 => walk_at "kit"))
  | ((with_reducible refine' r_isiS ?k0 ?_); (case k0 => walk_at "kit"))
  | ((with_reducible refine' r_isiN ?k0 ?_); (case k0 => walk_at "kit"))
  | ((with_reducible refine' r_isiT ?k0 ?k1 ?_); (case k0 => walk_at "tk"); (case k1 => walk_at "kit"))
  | ((with_reducible refine r_seqT ?_); (repeat (walk_at "rd1")); ((with_reducible refine' r_pseqT ?k0 ?_); (case k0 => walk_at "tk")))
  | ((with_reducible refine r_seqL ?_); (repeat (walk_at "rd1")); ((with_reducible refine' r_pseqL ?k0 ?_); (case k0 => walk_at "tk")))
  | ((with_reducible refine r_seqS ?_); (repeat (walk_at "rd1")); (with_reducible refine r_pseqS ?_)))
local macro_rules | `(tactic| walk_at "rd") => `(tactic| ((repeat (walk_at "rd1")); (try dsimp only)))
/-- alone = isinstance(e, ChamberError) and isinstance(e, ValueError) and not isinstance(e, (A, B)) -/
theorem r_alone {K : PySem.W.Frag} {ec : Str → Addr} {ns : List Str} {σ : L2.St} {H : Hp} {Q : VK} {i : Nat} {a d : Addr} {x A B : Str} {fs : List (Str × V)} (XS : Exs K ec ns) (hx : x ∈ ns) (hC : ("ChamberError" : Str) ∈ ns) (hA : A ∈ ns) (hB : B ∈ ns)
    (nA : (x == A || A == "ChamberError") = false) (nB : (x == B || B == "ChamberError") = false) (hσ : σ[i]? = some (some (V.ref a))) (e : H d = some (.xd fs)) (q : ∀ H', Same H H' → Q (.bl true) H') :
    tAndV (tCB (rIsX K a (.ref (ec x)) (some d)) (tCons (tVar i) (tCons (tC (.ref (ec "ChamberError"))) tNil))) (tAndV (tCB (rIsX K a (.ref (ec x)) (some d)) (tCons (tVar i) (tCons (tC (.ty "ValueError")) tNil)))
      (tNotV (tCB (rIsX K a (.ref (ec x)) (some d)) (tCons (tVar i) (tCons (tTup (tCons (tC (.ref (ec A))) (tCons (tC (.ref (ec B))) tNil))) tNil))))) σ H Q := by
  have BX := XS.bad x hx
  refine r_andV (r_CB (r_cons (r_var hσ (r_cons (r_c (r_nil ?_)))))) 
  refine r_isX (b := true) e BX.ex ?_ ?_
  · have z := is_cls (H := H) XS hx hC
    rw [show (x == "ChamberError" || ("ChamberError" : Str) == "ChamberError") = true by rw [show (("ChamberError" : Str) == "ChamberError") = true by decide, Bool.or_true]] at z
    exact z
  refine r_pif (r_T ?_)
  refine r_andV (r_CB (r_cons (r_var hσ (r_cons (r_c (r_nil ?_))))))
  refine r_isX (b := true) e BX.ex (is_VE XS hx) ?_
  refine r_pif (r_T ?_)
  refine r_notV (r_CB (r_cons (r_var hσ (r_cons ?_))))
  walk_at "rd"
  intro tp H1 ntp s1 e1
  walk_at "rd"
  refine r_isX (b := false) (s1 _ _ e) BX.ex ?_ ?_
  · have z := is_tup (H := H1) XS hx (tp := tp) (ys := [A, B]) (by intro y hy; rcases List.mem_cons.mp hy with rfl | hy; exact hA; rcases List.mem_cons.mp hy with rfl | hy; exact hB; cases hy) (sqT_of e1)
    rw [show ([A, B].any fun y => x == y || y == "ChamberError") = false by simp only [List.any_cons, List.any_nil, nA, nB, Bool.or_false]] at z
    exact z
  exact r_pnot (q H1 s1)
end
end Kb
set_option Elab.async false
set_option linter.all false
set_option maxRecDepth 100000
set_option maxHeartbeats 4000000
namespace Kb
open PySem PySem.Spec PyProof.Rows L2
section
variable {K : PySem.W.Frag} {H : Hp} {Q : VK} {E : XK}
theorem pl_same {H H' : Hp} {p : Addr} (s : Same H H') (h : Pl H p) : Pl H' p := by
  obtain ⟨x, y, z, e⟩ := h
  exact ⟨x, y, z, s _ _ e⟩
theorem size_ints : ∀ r : List Int, Dat.sizes (r.map Dat.int) = r.length
  | [] => rfl
  | x :: r => by
    rw [List.map_cons]
    show Dat.size (.int x) + Dat.sizes (r.map Dat.int) = _
    rw [size_ints r, List.length_cons, show Dat.size (.int x) = 1 from rfl, Nat.add_comm]
theorem sm {a b : Addr} {r : List Int} {n : Nat} (h1 : SqT K H a (r.map V.int)) (h2 : SqT K H b (r.map V.int)) (hR : IsRow r n) (hn : n ≤ 12) (q : ∀ H', Same H H' → Q (.bl true) H') : sp_law_same K [.ref a, .ref b] H Q E :=
  ⟨_, _, .tup (r.map .int), rfl, rp_ints h1, rp_ints h2, by show 1 + Dat.sizes (r.map Dat.int) ≤ _; rw [size_ints, hR.1]; omega, q⟩
end
end Kb
set_option Elab.async false
set_option linter.all false
set_option maxRecDepth 100000
set_option maxHeartbeats 4000000
namespace Kb
open PySem PySem.Spec PyProof.Rows L2
section
variable {prog : Program} {w : World} {A : Around} {E : Value → Shared → Prop} {s : Shared}
theorem sliceApplied_rev {sl : Addr} {vk : Value} {n : Nat} {Q : Int × Int × Nat → Shared → Prop} (hs : s.heap.IsSliceOf sl .none .none vk) (pk : IsPart vk (some (-1)))
    (h : Q ((n : Int) - 1, -1, n) s) : wpAny (model prog w) A (Builtin.Slice.sliceApplied (.ref sl) (pure (n : Int))) Q E s := by
  obtain ⟨os, hos, hcs, hds⟩ := id hs
  unfold Builtin.Slice.sliceApplied Builtin.Slice.sliceFields
  refine wpAny_bind (wpAny_bind (wpAny_field hos hds (x := .none) rfl (wpAny_bind (wpAny_field hos hds (x := .none) rfl (wpAny_bind (wpAny_field hos hds (x := vk) rfl (wpAny_pure ?_)))))))
  refine wpAny_bind (HT.slicePart_ pk ?_)
  show wpAny _ _ (if ((-1 : Int) == 0) = true then _ else _) _ _ s
  rw [if_neg (by decide)]
  refine wpAny_bind (HT.slicePart_ .none (wpAny_bind (HT.slicePart_ .none (wpAny_bind (wpAny_pure ?_)))))
  show wpAny _ _ (pure ((n : Int) - 1, (-1 : Int), Builtin.Slice.slicePlaces ((n : Int) - 1) (-1) (-1))) _ _ s
  have e : Builtin.Slice.slicePlaces ((n : Int) - 1) (-1) (-1) = n := by
    unfold Builtin.Slice.slicePlaces
    rw [if_neg (by decide)]
    split
    · rw [show (-(-1) : Int) = 1 by decide, Int.ediv_one]; omega
    · omega
  rw [e]
  exact wpAny_pure h
theorem fm_congr {α β : Type} {f g : α → Option β} : ∀ {l : List α}, (∀ x ∈ l, f x = g x) → l.filterMap f = l.filterMap g
  | [], _ => rfl
  | a :: l, h => by
    rw [List.filterMap_cons, List.filterMap_cons, h a List.mem_cons_self, fm_congr fun x hx => h x (List.mem_cons_of_mem _ hx)]
theorem pick_rev (xs : Array Value) : ((List.range xs.size).filterMap fun (m : Nat) => xs[(((xs.size : Int) - 1) + (m : Int) * (-1)).toNat]?).toArray = xs.toList.reverse.toArray := by
  congr 1
  have e : ∀ m ∈ List.range xs.size, xs[(((xs.size : Int) - 1) + (m : Int) * (-1)).toNat]? = xs.toList.reverse[m]? := fun m hm => by
    rw [List.mem_range] at hm
    rw [List.getElem?_reverse (by rw [Array.length_toList]; exact hm), Array.length_toList, Array.getElem?_toList]
    congr 1
    omega
  rw [fm_congr e]
  have key : ∀ l : List Value, (List.range l.length).filterMap (fun m => l[m]?) = l := fun l => by
    induction l with
    | nil => rfl
    | cons a l ih =>
      rw [List.length_cons, List.range_succ_eq_map, List.filterMap_cons]
      simp only [List.getElem?_cons_zero, List.filterMap_map]
      congr 1
  have := key xs.toList.reverse
  rw [List.length_reverse, Array.length_toList] at this
  exact this
theorem getItem_tuple_rev {t sl : Addr} {items : Array Value} {vk : Value} {Q : Value → Shared → Prop} (ht : IsTup s.heap t items) (hs : s.heap.IsSliceOf sl .none .none vk) (pk : IsPart vk (some (-1)))
    (h : Q (.ref s.heap.objs.size) { s with heap := s.heap.push { cls := .type "tuple", data := .seq items.toList.reverse.toArray } })
    (hsz : items.size ≤ sizeLine) : wpAny (model prog w) A (getItem (.ref t) (.ref sl)) Q E s := by
  have htake : sizeOk (.seq items.toList.reverse.toArray) := by
    show items.toList.reverse.toArray.size ≤ sizeLine
    rw [List.size_toArray, List.length_reverse, Array.length_toList]
    exact hsz
  obtain ⟨os, hos, hcs, hds⟩ := id hs
  have hTs : s.TypeIs (.ref sl) "slice" := ⟨os, hos, hcs⟩
  unfold getItem
  try with_reducible refine wpAny_holding ?_
  first | refine wpAny_bind (wpAny_pure ?_) | skip
  refine wpAny_bind (wpAny_sequenceKey ht.typeIs (by decide) ?_)
  refine wpAny_bind (wpAny_callSpecial?_slot (name := Str.ofString "__getitem__") ht.typeIs PyProof.Rows.slot_tuple_getitem
    (wpAny_call_entry PyProof.Rows.slot_tuple_getitem ht.typeIs entry_tuple_getitem ?_ (args_tuple_getitem _ _)))
  show wpAny _ _ (Builtin.Tuple.tupleItemsOf (.ref t) >>= _) _ _ s
  refine wpAny_bind (tupleItemsOf_ ht ?_)
  refine wpAny_bind (wpAny_typeOf hTs ?_)
  rw [if_pos (by decide)]
  refine wpAny_bind (sliceApplied_rev hs pk ?_)
  show wpAny _ _ (if ((items.size : Int) - 1 == 0 && (-1 : Int) == 1 && items.size == items.size) = true then _ else _) _ _ s
  rw [if_neg (by rw [show ((-1 : Int) == 1) = false by decide, Bool.and_false, Bool.false_and]; decide), pick_rev]
  first
    | exact wpAny_bind (m := Builtin.Tuple.tupleExact _) (wpAny_newObj_type (wpAny_pure ⟨_, rfl, wpAny_pure h⟩) htake)
    | exact wpAny_bind (m := Builtin.Tuple.tupleExact _) (wpAny_newObj_type (wpAny_bind (wpAny_pure (wpAny_pure ⟨_, rfl, wpAny_pure h⟩))) htake)
    | exact wpAny_bind (wpAny_bind (m := Builtin.Tuple.tupleExact _) (wpAny_newObj_type (wpAny_pure (wpAny_pure ⟨_, rfl, wpAny_pure h⟩)) htake))
    | exact wpAny_bind (wpAny_bind (m := Builtin.Tuple.tupleExact _) (wpAny_newObj_type (wpAny_pure ⟨_, rfl, wpAny_pure h⟩) htake))
end
/-- t[::k], k being -1 -/
def PRev (K : PySem.W.Frag) (x : V) (k : Option Int) (H : Hp) (Q : VK) : Prop := k = some (-1) ∧ ∃ a xs, x = .ref a ∧ SqT K H a xs ∧ ∀ p, H p = none → Q (.ref p) (upd H p (.tup xs.reverse))
def tRevU (K : PySem.W.Frag) (te : TE) (tk : TO) : TE := fun σ H Q => te σ H fun x H1 => tk σ H1 fun k H2 => PRev K x k H2 Q
theorem vals_rev : ∀ {xs : List V} {us : List Value}, Vals xs us → Vals xs.reverse us.reverse
  | _, _, .nil => .nil
  | _, _, .cons h r => by
    rw [List.reverse_cons, List.reverse_cons]
    exact (vals_rev r).append (.cons h .nil)
section
variable {X : Cx} {e : Expr} {te : TE} {st : Expr} {tk : TO} {pos p2 : Pos}
theorem pe_revU (he : PE X e te) (hk : PO X (some st) tk) : PE X (.Subscript e (.Slice none none (some st) p2) pos) (tRevU X.K te tk) := by
  refine ⟨fun pins s σ H Q I h => ?_⟩
  refine Subscript_ (thn (he.run pins s σ H _ I h) fun v s1 ⟨x, H1, I1, r1, q1⟩ => ?_)
  refine wpAny_Slice ?_
  rw [evalPart_none]
  refine wpAny_pure (wpAny_pure ?_)
  refine thn (hk.run pins s1 σ H1 _ I1 q1) fun vk s2 ⟨k, H2, I2, pk, q2⟩ => ?_
  obtain ⟨rfl, a, xs, rfl, hx, q⟩ := q2
  cases r1
  have I4 : Inv X pins σ H2 { s2 with heap := s2.heap.push { cls := .type "slice", data := .fields #[.none, .none, vk] } } := I2.kept (t' := s2.toks) fun b ob q => Heap.get?_push_of_some _ q
  obtain ⟨its, r, ht, hz⟩ := I4.tuple hx
  have hlen : its.toArray.size = xs.length := by rw [List.size_toArray]; exact r.length.symm
  show wpAny (model X.prog X.w) X.A (subscriptTail e (.Slice none none (some st) p2) (.ref a) (.ref s2.heap.objs.size)) (EP X pins σ Q) X.xe { s2 with heap := s2.heap.push { cls := .type "slice", data := .fields #[.none, .none, vk] } }
  refine tail_any ht.typeIs PyProof.Rows.slot_tuple_getitem.lookup ?_ (by with_unfolding_all rfl)
  refine getItem_tuple_rev ht (Heap.IsSliceOf.new ..) pk ?_ (by rw [hlen]; exact hz)
  refine ⟨.ref _, _, I4.laid (t' := s2.toks) (o := .tup xs.reverse) (fun b ob q => Heap.get?_push_of_some _ q) (Nat.le_refl _) ?_, rfl, q _ (I4.hok.fresh (Nat.le_refl _))⟩
  exact ⟨by rw [List.length_reverse]; exact hz, _, vals_rev r, IsTup.new _ _⟩
end
/-- x, y = a, b -/
def PPar (vs : List V) (R : V → V → Prop) : Prop := ∃ v w, vs = [v, w] ∧ R v w
theorem r_par {D : Ends} {σ : L2.St} {H : Hp} {i j : Nat} {ta : TA} (h : ta σ H fun vs H1 => PPar vs fun v w => D.nx ((σ.set i (some v)).set j (some w)) H1) : tPar i j ta D σ H := h
theorem r_parV {v w : V} {R : V → V → Prop} (q : R v w) : PPar [v, w] R := ⟨v, w, rfl, q⟩
theorem r_revU {K : PySem.W.Frag} {te : TE} {tk : TO} {σ : L2.St} {H : Hp} {Q : VK} (h : te σ H fun x H1 => tk σ H1 fun k H2 => PRev K x k H2 Q) : tRevU K te tk σ H Q := h
theorem r_prev {K : PySem.W.Frag} {a : Addr} {xs : List V} {H : Hp} {Q : VK} (h : SqT K H a xs) (q : ∀ p H', H p = none → Same H H' → H' p = some (.tup xs.reverse) → Q (.ref p) H') : PRev K (.ref a) (some (-1)) H Q :=
  ⟨rfl, a, xs, rfl, h, fun p np => q p _ np (same_new np) upd_same⟩
end Kb
set_option Elab.async false
set_option linter.all false
set_option maxRecDepth 100000
namespace Kb
def ccP : Nat → Nat × Nat
  | 0 => (1, 1)
  | n + 1 => ((ccP n).2, (ccP n).1 + (ccP n).2)
def ccN (s : Nat) : Nat := (ccP (s - 1)).2
end Kb
set_option Elab.async false
set_option linter.all false
set_option maxRecDepth 100000
set_option maxHeartbeats 4000000
namespace Kb
open PySem PySem.Spec PyProof.Rows L2
local macro_rules | `(tactic| walk_at "tk") => `(tactic| first
  | assumption
  | ((with_reducible refine' sqT_of ?k); (case k => assumption))
  | ((with_reducible refine' sqT_ofD ?k); (case k => assumption))
  | ((with_reducible refine' noD_of ?k); (case k => assumption))
  | ((with_reducible refine' noD_same ?s ?k); (case s => assumption); (case k => walk_at "tk"))
  | ((with_reducible refine' sqL_of ?k); (case k => assumption))
  | ((with_reducible refine' sqT_same ?s ?k); (case s => assumption); (case k => walk_at "tk"))
  | ((with_reducible refine' sqL_same ?s ?k); (case s => assumption); (case k => walk_at "tk"))
  | ((with_reducible refine' sqT_but ?s ?t ?k); (case s => assumption); (case t => walk_at "tk"); (case k => walk_at "tk"))
  | ((with_reducible refine' sqL_but ?s ?t ?k); (case s => assumption); (case t => walk_at "ne"); (case k => walk_at "tk"))
  | ((with_reducible refine' sqL_of ?k); (case k => walk_at "tk"))
  | ((with_reducible refine' sqT_of ?k); (case k => walk_at "tk"))
  | ((with_reducible refine' at_same ?s ?k); (case s => assumption); (case k => walk_at "tk"))
  | ((with_reducible refine' at_but ?s ?t ?k); (case s => assumption); (case t => walk_at "ne"); (case k => walk_at "tk")))
local macro_rules | `(tactic| walk_at "ne") => `(tactic| first
  | assumption
  | (refine Ne.symm ?_; assumption)
  | exact ne_of_none (by assumption) (by assumption)
  | exact (ne_of_none (by assumption) (by assumption)).symm)
local macro_rules | `(tactic| walk_at "side") => `(tactic| first
  | assumption
  | omega
  | (simp only [sizeLine_eq, List.length_cons, List.length_nil, List.length_map]; omega)
  | (show _ ≤ sizeLine; decide))
local macro_rules | `(tactic| walk_at "kit") => `(tactic| first
  | (show kitB _ _ = some true; decide +kernel)
  | (show kitB _ _ = some false; decide +kernel))
local macro_rules | `(tactic| walk_at "rng") => `(tactic| first
  | (refine ⟨by omega, by omega, by omega, by omega⟩)
  | (refine ⟨by omega, by omega⟩)
  | ((simp only [List.length_map]); (refine ⟨by omega, by omega, by omega, by omega⟩))
  | ((simp only [List.length_map]); (refine ⟨by omega, by omega⟩)))
local macro_rules | `(tactic| walk_at "rd1") => `(tactic| first
  | with_reducible refine r_seq ?_
  | ((with_reducible refine' r_var ?k0 ?_); (case k0 => rfl))
  | with_reducible refine r_op ?_
  | with_reducible refine r_c ?_
  | with_reducible refine r_asg ?_
  | with_reducible refine r_name ?_
  | with_reducible refine r_cons ?_
  | with_reducible refine r_nil ?_
  | with_reducible refine r_CB ?_
  | with_reducible refine r_if ?_
  | with_reducible refine r_test ?_
  | with_reducible refine r_k ?_
  | with_reducible refine r_T ?_
  | with_reducible refine r_F ?_
  | with_reducible refine r_nT ?_
  | with_reducible refine r_nF ?_
  | with_reducible refine r_ret ?_
  | with_reducible refine r_drop ?_
  | with_reducible refine r_next ?_
  | with_reducible refine r_call ?_
  | with_reducible refine r_addI ?_
  | with_reducible refine r_subI ?_
  | with_reducible refine r_ltI ?_
  | with_reducible refine r_gtI ?_
  | with_reducible refine r_leI ?_
  | with_reducible refine r_geI ?_
  | with_reducible refine r_eqI ?_
  | with_reducible refine r_neI ?_
  | with_reducible refine r_int ?_
  | with_reducible refine r_abs ?_
  | with_reducible refine r_not ?_
  | with_reducible refine r_and ?_
  | with_reducible refine r_or ?_
  | with_reducible refine r_tru ?_
  | with_reducible refine r_truB ?_
  | with_reducible refine r_lst ?_
  | with_reducible refine r_tup ?_
  | with_reducible refine r_BM ?_
  | with_reducible refine r_BM0 ?_
  | with_reducible refine r_tyS ?_
  | with_reducible refine r_gsub ?_
  | with_reducible refine r_then ?_
  | with_reducible refine r_lstRg ?_
  | with_reducible refine r_tupRg ?_
  | with_reducible refine r_rg2 ?_
  | with_reducible refine r_rg1 ?_
  | with_reducible refine r_ii ?_
  | with_reducible refine r_i ?_
  | with_reducible refine r_ipI ?_
  | with_reducible refine r_un ?_
  | with_reducible refine r_neg ?_
  | with_reducible refine r_isN ?_
  | with_reducible refine r_notN ?_
  | with_reducible refine r_notV ?_
  | with_reducible refine r_pnot ?_
  | with_reducible refine r_pif ?_
  | with_reducible refine r_andV ?_
  | with_reducible refine r_orV ?_
  | with_reducible refine r_ifE ?_
  | with_reducible refine r_chain ?_
  | with_reducible refine r_sl ?_
  | with_reducible refine r_noPart ?_
  | with_reducible refine r_part ?_
  | with_reducible refine r_brk ?_
  | with_reducible refine r_cont ?_
  | with_reducible refine r_retN ?_
  | with_reducible refine r_truI ?_
  | with_reducible refine r_B ?_
  | with_reducible refine r_for ?_
  | with_reducible refine r_rng1 ?_
  | with_reducible refine r_rng2 ?_
  | with_reducible refine r_rng3 ?_
  | with_reducible refine r_body ?_
  | with_reducible refine r_lc ?_
  | with_reducible refine r_yes ?_
  | ((with_reducible refine' r_mod ?k0 ?_); (case k0 => walk_at "side"))
  | ((with_reducible refine' r_mulI ?k0 ?_); (case k0 => first | exact Or.inl ⟨by omega, by omega⟩ | exact Or.inr ⟨by omega, by omega⟩))
  | ((with_reducible refine' r_lenL ?k0 ?_); (case k0 => walk_at "tk"))
  | ((with_reducible refine' r_lenT ?k0 ?_); (case k0 => walk_at "tk"))
  | ((with_reducible refine' r_truL ?k0 ?_); (case k0 => walk_at "tk"))
  | ((with_reducible refine' r_truT ?k0 ?_); (case k0 => walk_at "tk"))
  | ((with_reducible refine' r_ixL ?k0 ?k1 ?_); (case k0 => walk_at "tk"); (case k1 => first | assumption | rfl))
  | ((with_reducible refine' r_ixT ?k0 ?k1 ?_); (case k0 => walk_at "tk"); (case k1 => first | assumption | rfl))
  | ((with_reducible refine' r_new ?k0 ?_); (case k0 => walk_at "side"))
  | ((with_reducible refine' r_tyL ?k0 ?_); (case k0 => walk_at "tk"))
  | ((with_reducible refine' r_append ?k0 ?k1 ?_); (case k0 => walk_at "tk"); (case k1 => walk_at "side"))
  | ((with_reducible refine' r_setL ?k0 ?k1 ?_); (case k0 => walk_at "tk"); (case k1 => first | assumption | rfl))
  | ((with_reducible refine' r_kTupL ?k0 ?_); (case k0 => walk_at "tk"))
  | ((with_reducible refine' r_kTupT ?k0 ?_); (case k0 => walk_at "tk"))
  | ((with_reducible refine' r_listL ?k0 ?_); (case k0 => walk_at "tk"))
  | ((with_reducible refine' r_listT ?k0 ?_); (case k0 => walk_at "tk"))
  | ((with_reducible refine' r_aug ?k0 ?_); (case k0 => rfl))
  | ((with_reducible refine' r_lenS ?k0 ?_); (case k0 => walk_at "side"))
  | ((with_reducible refine' r_pop ?k0 ?_); (case k0 => walk_at "tk"))
  | ((with_reducible refine' r_pr1 ?k0 ?_); (case k0 => walk_at "rng"))
  | ((with_reducible refine' r_pr2 ?k0 ?_); (case k0 => walk_at "rng"))
  | ((with_reducible refine' r_pr3d ?k0 ?_); (case k0 => walk_at "rng"))
  | ((with_reducible refine' r_isiI ?k0 ?_); (case k0 => walk_at "kit"))
  | ((with_reducible refine' r_isiB ?k0 ?_); (case k0 => walk_at "kit"))
  | ((with_reducible refine' r_isiS ?k0 ?_); (case k0 => walk_at "kit"))
  | ((with_reducible refine' r_isiN ?k0 ?_); (case k0 => walk_at "kit"))
  | ((with_reducible refine' r_isiT ?k0 ?k1 ?_); (case k0 => walk_at "tk"); (case k1 => walk_at "kit"))
  | ((with_reducible refine r_seqT ?_); (repeat (walk_at "rd1")); ((with_reducible refine' r_pseqT ?k0 ?_); (case k0 => walk_at "tk")))
  | ((with_reducible refine r_seqL ?_); (repeat (walk_at "rd1")); ((with_reducible refine' r_pseqL ?k0 ?_); (case k0 => walk_at "tk")))
  | ((with_reducible refine r_seqS ?_); (repeat (walk_at "rd1")); (with_reducible refine r_pseqS ?_)))
local macro_rules | `(tactic| walk_at "rd") => `(tactic| ((repeat (walk_at "rd1")); (try dsimp only)))
local macro_rules | `(tactic| walk_at "rd1") => `(tactic| first
  | with_reducible refine r_BMT ?_
  | with_reducible refine r_par ?_
  | with_reducible refine r_parV ?_
  | ((with_reducible refine' r_ptp ?k0 ?k1 ?_); (case k0 => walk_at "tk"); (case k1 => walk_at "tk"))
  | with_reducible refine r_eqS ?_
  | with_reducible refine r_neS ?_
  | with_reducible refine r_callW ?_
  | with_reducible refine r_try ?_
  | with_reducible refine r_enT ?_
  | ((with_reducible refine' r_pen ?k0 ?_); (case k0 => walk_at "tk")))
def sp_check_stage (K : PySem.W.Frag) (ec : Str → Addr) : Sp := fun vs H Q E => ∃ (s : Int), vs = [.int s] ∧ (1 ≤ s ∧ s ≤ 12 → Q .non H) ∧
  (¬ (1 ≤ s ∧ s ≤ 12) → ∀ d H', Same H H' → H d = none → H' d = some (.xd [("word", .str "BadStage")]) → E (.ref (ec "BadStage")) (some d) H')
def sp_change_count (K : PySem.W.Frag) (ec : Str → Addr) : Sp := fun vs H Q E => ∃ (s : Int), vs = [.int s] ∧ (1 ≤ s ∧ s ≤ 12 → ∀ H', Same H H' → Q (.int (ccN s.toNat : Nat)) H') ∧
  (¬ (1 ≤ s ∧ s ≤ 12) → ∀ d H', Same H H' → H d = none → H' d = some (.xd [("word", .str "BadStage")]) → E (.ref (ec "BadStage")) (some d) H')
abbrev N_check_stage : List Str := ["stage"]
def t_check_stage (K : PySem.W.Frag) (ec : Str → Addr) (E : XK) : TS :=
  (tIfS ((tNot ((tTest (tChain (rLeU K) (rLeU K) ((tC (.int 1))) (tVar 0) ((tCB (rLenU K) (tCons ((tC (.str "1234567890ET"))) tNil)))))))) ((sRaise (fun cls d _ H => E cls d H) (tBad (ec "BadStage") "BadStage"))) (tNext))
abbrev N_change_count : List Str := ["stage", "before", "count", "_"]
def t_change_count (K : PySem.W.Frag) (ec : Str → Addr) (E : XK) : TS :=
  tSeq (tDrop ((tCallW (sp_check_stage K ec) (fun cls d _ H => E cls d H) (tCons (tVar 0) tNil))))
  (tSeq (tAsg ((tC (.int 1))) (gName 1))
  (tSeq (tAsg ((tC (.int 1))) (gName 2))
  (tSeq (tFor (iRng1 (tCons ((tOp rSubU (tVar 0) ((tC (.int 1))))) tNil)) (gName 3) ((tPar 1 2 (tCons (tVar 2) (tCons ((tOp (rAddU K) (tVar 1) (tVar 2))) tNil)))))
  ((tRet (tVar 2))))))
section
variable {K : PySem.W.Frag} {ec : Str → Addr} {ns : List Str} {vs : List V} {H : Hp} {Q : VK} {E : XK}
theorem len_check_stage (h : sp_check_stage K ec vs H Q E) : vs.length = 1 := by obtain ⟨s, rfl, _⟩ := h; rfl
theorem len_change_count (h : sp_change_count K ec vs H Q E) : vs.length = 1 := by obtain ⟨s, rfl, _⟩ := h; rfl
theorem signs_len : (("1234567890ET" : Str).length : Int) = 12 := by decide
theorem pure_check_stage (XS : Exs K ec ns) (h : sp_check_stage K ec vs H Q E) : t_check_stage K ec E (En Q) (start N_check_stage vs) H := by
  obtain ⟨s, rfl, q, qE⟩ := h
  unfold t_check_stage
  walk_at "rd"
  refine r_ite (fun h1 => ?_) (fun h1 => ?_)
  · walk_at "rd"
    rw [signs_len]
    refine r_iteN (fun h2 => ?_) (fun h2 => ?_)
    · exact r_raise fun d H' s nd e => qE (fun z => h2 z.2) d H' s nd e
    · walk_at "rd"
      exact q ⟨h1, h2⟩
  · walk_at "rd"
    exact r_raise fun d H' s nd e => qE (fun z => h1 z.1) d H' s nd e
theorem pure_change_count (XS : Exs K ec ns) (h : sp_change_count K ec vs H Q E) : t_change_count K ec E (En Q) (start N_change_count vs) H := by
  obtain ⟨s, rfl, q, qE⟩ := h
  unfold t_change_count
  walk_at "rd"
  refine ⟨s, rfl, fun hs => ?_, fun hns d H' s' nd e => qE hns d H' s' nd e⟩
  walk_at "rd"
  refine r_forRange0 (fun i σ' H' => ∃ (z3 : Option V), σ' = [some (.int s), some (.int ((ccP i).1 : Nat)), some (.int ((ccP i).2 : Nat)), z3] ∧ Same H H')
    ⟨none, rfl, Same.refl _⟩ (fun i σ' H' hi hW => ?_) (fun σ' H' hW => ?_)
  · obtain ⟨z3, rfl, s1⟩ := hW
    walk_at "rd"
    exact ⟨_, rfl, s1⟩
  · obtain ⟨z3, rfl, s1⟩ := hW
    walk_at "rd"
    rw [show (s - 1).toNat = s.toNat - 1 by omega]
    exact q hs _ s1
end
end Kb
set_option Elab.async false
set_option linter.all false
set_option maxRecDepth 100000
set_option maxHeartbeats 4000000
set_option Elab.async false
set_option linter.all false
set_option maxRecDepth 100000
set_option maxHeartbeats 4000000
namespace Kb
open PySem PySem.Spec PyProof.Rows L2 PySem.SeqAt
section
variable {K : PySem.W.Frag} {σ : L2.St} {H : Hp} {te : TE} {Q : VK} {a b : Addr}
theorem r_catL {xs ys : List V} (h1 : H a = some (.lst xs)) (h2 : H b = some (.lst ys)) (hz : xs.length + ys.length ≤ sizeLine) (k : ∀ p H', H p = none → Same H H' → H' p = some (.lst (xs ++ ys)) → Q (.ref p) H') : rAddU K (.ref a) (.ref b) H Q :=
  .inr (.inr (.inl ⟨a, b, xs, ys, rfl, rfl, h1, h2, hz, fun p hp => k p _ hp (same_new hp) upd_same⟩))
end
end Kb
set_option Elab.async false
set_option linter.all false
set_option maxRecDepth 100000
set_option maxHeartbeats 4000000
namespace Kb
open PySem PySem.Spec PyProof.Rows L2 SX PySem.Builtin.Str
def rJoin (K : PySem.W.Frag) : V → List V → Hp → VK → Prop := fun x xs H Q => ∃ a p, ∃ ys : List Str, x = .str a ∧ xs = [.ref p] ∧ (SqL K H p (ys.map V.str) ∨ SqT K H p (ys.map V.str)) ∧ (ys.map (·.length)).sum + ys.length * a.length ≤ 16777216 ∧ Q (.str (Txt.join a ys)) H
section
variable {K : PySem.W.Frag} {H : Hp} {Q : VK} {a : Addr} {z w : Str} {y : V}
theorem joinL_nil : ∀ ys : List (List Nat), TL.joinL [] ys = ys.flatten
  | [] => rfl
  | [a] => by simp [TL.joinL]
  | a :: b :: r => by
    have := joinL_nil (b :: r)
    simp only [TL.joinL, List.flatten_cons] at *
    rw [this]
    simp
/-- ''.join of a list of texts -/
theorem r_join {ys : List (List Nat)} (h : SqL K H a (ys.map fun y => V.str (S y))) (hz : ys.flatten.length ≤ 16777216) (q : Q (.str (S ys.flatten)) H) : rJoin K (.str ⟨#[]⟩) [.ref a] H Q := by
  refine ⟨_, a, ys.map S, rfl, rfl, .inl (by rw [List.map_map]; exact h), ?_, ?_⟩
  · rw [lens, show (⟨#[]⟩ : Str).length = 0 from rfl, Nat.mul_zero, Nat.add_zero]
    rw [List.length_flatten] at hz
    exact hz
  · have := join_S [] ys
    rw [joinL_nil] at this
    rw [show (⟨#[]⟩ : Str) = S [] from rfl, this]
    exact q
end
end Kb
set_option Elab.async false
set_option linter.all false
set_option maxRecDepth 100000
set_option maxHeartbeats 4000000
namespace Kb
open PySem PySem.Spec PyProof.Rows L2 SX
def cutA {α : Type} (xs : List α) (lo hi : Option Int) : List α := (xs.drop (HT.sIx xs.length 0 lo)).take (HT.sIx xs.length xs.length hi - HT.sIx xs.length 0 lo)
section
variable {K : PySem.W.Frag} {H H' : Hp} {Q : VK} {E : XK} {p a b l : Addr} {m : Int} {ns ms : List Int} {xs ys : List V} {lo hi : Option Int}
theorem cut_map {α : Type} (f : α → V) (ns : List α) : cutV (ns.map f) lo hi = (cutA ns lo hi).map f := by
  unfold cutV cutA
  rw [List.length_map, List.map_take, List.map_drop]
theorem cutA_len {α : Type} (ns : List α) : (cutA ns lo hi).length ≤ ns.length := by
  unfold cutA
  rw [List.length_take, List.length_drop]; omega
theorem cutA_whole {α : Type} {ns : List α} (h : HT.sIx ns.length 0 lo = 0 ∧ HT.sIx ns.length ns.length hi = ns.length) : cutA ns lo hi = ns := by
  unfold cutA
  rw [h.1, h.2, List.drop_zero, Nat.sub_zero, List.take_length]
/-- a slice of a tuple: the tuple itself or a new one -/
theorem r_slT (h : SqT K H a xs) (q : ∀ p H', Same H H' → SqT K H' p (cutA xs lo hi) → Q (.ref p) H') : rSlU K (.ref a) lo hi H Q := by
  refine .inr (.inl ⟨a, xs, rfl, h, fun z => q a H (Same.refl _) (by rw [cutA_whole z]; exact h), fun _ p hp => q p _ (same_new hp) (sqT_of ?_)⟩)
  rw [upd_same]
  have := cut_map (lo := lo) (hi := hi) id xs
  rw [List.map_id, List.map_id] at this
  rw [this]
theorem r_slI (h : SqT K H a (ns.map V.int)) (q : ∀ p H', Same H H' → SqT K H' p ((cutA ns lo hi).map V.int) → Q (.ref p) H') : rSlU K (.ref a) lo hi H Q :=
  r_slT h fun p H' s e => q p H' s (by rw [← cut_map]; have := cut_map (lo := lo) (hi := hi) id (ns.map V.int); rw [List.map_id, List.map_id] at this; rw [this]; exact e)
theorem r_catTT (h1 : SqT K H a xs) (h2 : SqT K H b ys) (hz : xs.length + ys.length ≤ sizeLine) (q : ∀ p H', Same H H' → SqT K H' p (xs ++ ys) → Q (.ref p) H') : rAddU K (.ref a) (.ref b) H Q := by
  refine .inr (.inr (.inr ⟨a, b, xs, ys, rfl, rfl, h1, h2, hz, fun e => ?_, fun _ e => ?_, fun _ _ p hp => ?_⟩))
  · exact q b H (Same.refl _) (by rw [e]; exact h2)
  · exact q a H (Same.refl _) (by rw [e, List.append_nil]; exact h1)
  · exact q p _ (same_new hp) (sqT_of upd_same)
theorem r_catII (h1 : SqT K H a (ns.map V.int)) (h2 : SqT K H b (ms.map V.int)) (hz : ns.length + ms.length ≤ 16000000) (q : ∀ p H', Same H H' → SqT K H' p ((ns ++ ms).map V.int) → Q (.ref p) H') : rAddU K (.ref a) (.ref b) H Q :=
  r_catTT h1 h2 (by rw [List.length_map, List.length_map, sizeLine_eq]; omega) fun p H' s e => q p H' s (by rw [List.map_append]; exact e)
theorem r_draw (hp : Pl H p) (h0 : 0 < m) (h1 : m < 2 ^ 200) (q : ∀ v H', 0 ≤ v → v < m → But p H H' → Pl H' p → Q (.int v) H') : sp_law_draw K ([.ref p, .int m] ++ []) H Q E := ⟨p, m, rfl, hp, h0, h1, q⟩
theorem sqT_pl (b : But p H H') (hp : Pl H p) (h : SqT K H a xs) : SqT K H' a xs := by
  obtain ⟨x, y, z, e⟩ := hp
  exact sqT_but b e h
theorem ne_pl (hn : H l = none) (hp : Pl H p) : l ≠ p := by
  obtain ⟨x, y, z, e⟩ := hp
  exact (ne_of_none e hn).symm
theorem pl_butL (b : But l H H') (n : p ≠ l) (h : Pl H p) : Pl H' p := by
  obtain ⟨x, y, z, e⟩ := h
  exact ⟨x, y, z, b _ _ n e⟩
theorem free_but (b : But p H H') (n : a ≠ p) (h : H' a = none) : H a = none := by
  cases e : H a with
  | none => rfl
  | some u => rw [b _ _ n e] at h; cases h
theorem rp_pl {v : V} {d : Dat} (b : But p H H') (hp : Pl H p) (h : Rp K H v d) : Rp K H' v d := by
  obtain ⟨x, y, z, e⟩ := hp
  exact rp_but b e h
theorem sqI_of (h : H a = some (.tup (ns.map V.int))) : SqT K H a (ns.map V.int) := sqT_of h
theorem sqI_0 (h : H a = some (.tup [])) : SqT K H a (([] : List Int).map V.int) := sqT_of h
theorem sqI_1 {i : Int} (h : H a = some (.tup [.int i])) : SqT K H a ([i].map V.int) := sqT_of h
theorem sqI_D (h : ∃ o : Obj, H a = some (.frz o (.tup (ns.map V.int))) ∧ o.dict = none) : SqT K H a (ns.map V.int) := sqT_ofD h
theorem r_ixSS {l : List Nat} {c : Nat} (hz : l.length ≤ 16000000) (ha : atI l m = some c) (q : Q (.str (S [c])) H) : rIx K (.str (S l)) (.int m) H Q := r_ixS (by rw [S_len, sizeLine_eq]; omega) ha q
end
end Kb
set_option linter.all false
namespace Kb
/-- the rest of a change of n behind the place last -/
def isC (n last : Int) : List Int → Bool
  | [] => decide ((n - last) % 2 = 0)
  | p :: r => decide (last < p) && (decide (p ≤ n) && (!decide ((p - last) % 2 = 0) && isC n p r))
def Chg (n : Int) (cs : List Int) : Prop := isC n 0 cs = true
theorem isC_cons {n last p : Int} {r : List Int} : isC n last (p :: r) = true ↔ last < p ∧ p ≤ n ∧ ¬ (p - last) % 2 = 0 ∧ isC n p r = true := by
  simp [isC]
/-- behind the members of cs, one by one -/
def okC (n : Int) (last : Int) : List Int → Bool
  | [] => true
  | p :: r => decide (last < p) && (decide (p ≤ n) && (!decide ((p - last) % 2 = 0) && okC n p r))
def lastC (last : Int) : List Int → Int
  | [] => last
  | p :: r => lastC p r
theorem isC_iff {n : Int} : ∀ {cs : List Int} {last : Int}, isC n last cs = true ↔ okC n last cs = true ∧ (n - lastC last cs) % 2 = 0
  | [], last => by simp [isC, okC, lastC]
  | p :: r, last => by
    have := isC_iff (n := n) (cs := r) (last := p)
    simp only [isC, okC, lastC, Bool.and_eq_true]
    rw [this]
    constructor
    · rintro ⟨a, b, c, d, e⟩; exact ⟨⟨a, b, c, d⟩, e⟩
    · rintro ⟨⟨a, b, c, d⟩, e⟩; exact ⟨a, b, c, d, e⟩
theorem okC_snoc {n : Int} {x : Int} : ∀ {cs : List Int} {last : Int}, okC n last (cs ++ [x]) = true ↔ okC n last cs = true ∧ lastC last cs < x ∧ x ≤ n ∧ ¬ (x - lastC last cs) % 2 = 0
  | [], last => by simp [okC, lastC]
  | p :: r, last => by
    have := okC_snoc (n := n) (x := x) (cs := r) (last := p)
    simp only [List.cons_append, okC, lastC, Bool.and_eq_true]
    rw [this]
    constructor
    · rintro ⟨a, b, c, d, e⟩; exact ⟨⟨a, b, c, d⟩, e⟩
    · rintro ⟨⟨a, b, c, d⟩, e⟩; exact ⟨a, b, c, d, e⟩
theorem lastC_snoc {x : Int} : ∀ {cs : List Int} {last : Int}, lastC last (cs ++ [x]) = x
  | [], _ => rfl
  | p :: r, _ => lastC_snoc (cs := r) (last := p)
theorem okC_mem {n : Int} : ∀ {cs : List Int} {last : Int}, okC n last cs = true → ∀ x ∈ cs, last < x ∧ x ≤ n
  | [], _, _, x, hx => nomatch hx
  | p :: r, last, h, x, hx => by
    simp only [okC, Bool.and_eq_true, decide_eq_true_eq] at h
    rcases List.mem_cons.mp hx with rfl | hx
    · exact ⟨h.1, h.2.1⟩
    · have := okC_mem h.2.2.2 x hx
      omega
theorem okC_len {n : Int} : ∀ {cs : List Int} {last : Int}, 0 ≤ last → last ≤ n → okC n last cs = true → (cs.length : Int) + last ≤ n
  | [], _, _, h, _ => by simpa using h
  | p :: r, last, h0, _, h => by
    simp only [okC, Bool.and_eq_true, decide_eq_true_eq] at h
    have := okC_len (cs := r) (last := p) (by omega) h.2.1 h.2.2.2
    simp only [List.length_cons]
    omega
theorem Chg.mem {n : Int} {cs : List Int} (h : Chg n cs) : ∀ x ∈ cs, 1 ≤ x ∧ x ≤ n := fun x hx => by
  have := okC_mem (isC_iff.mp h).1 x hx
  omega
theorem Chg.len {n : Int} {cs : List Int} (h : Chg n cs) (hn : 0 ≤ n) : (cs.length : Int) ≤ n := by
  have := okC_len (Int.le_refl 0) hn (isC_iff.mp h).1
  omega
def evG (last : Int) : List Int → Bool
  | [] => true
  | p :: r => decide (last < p) && (!decide ((p - last) % 2 = 0) && evG p r)
theorem evG_isC {n : Int} : ∀ {cs : List Int} {last : Int}, evG last (cs ++ [n + 1]) = true ↔ last ≤ n ∧ isC n last cs = true
  | [], last => by
    simp only [List.nil_append, evG, isC, Bool.and_eq_true, decide_eq_true_eq, Bool.not_eq_true', decide_eq_false_iff_not, and_true]
    omega
  | p :: r, last => by
    have ih := evG_isC (n := n) (cs := r) (last := p)
    simp only [List.cons_append, evG, isC, Bool.and_eq_true, decide_eq_true_eq]
    rw [ih]
    constructor
    · rintro ⟨a, b, c, d⟩; exact ⟨by omega, a, c, b, d⟩
    · rintro ⟨a, b, c, d, e⟩; exact ⟨b, d, c, e⟩
theorem even_gaps {n : Int} (hn : 0 ≤ n) {cs : List Int} : evG 0 (cs ++ [n + 1]) = true ↔ Chg n cs := by
  rw [evG_isC]
  exact ⟨fun h => h.2, fun h => ⟨hn, h⟩⟩
def genC : Nat → Nat → Nat → List (List Int)
  | 0, _, _ => []
  | f + 1, n, last => (if (n - last) % 2 = 0 then [[]] else []) ++ ((List.range (n + 1)).filter fun p => decide (last < p) && decide ((p - last) % 2 = 1)).flatMap fun p => (genC f n p).map ((p : Int) :: ·)
theorem genC_mem {n : Nat} : ∀ {f : Nat} {cs : List Int} {last : Nat}, last ≤ n → n < f + last → isC n last cs = true → cs ∈ genC f n last
  | 0, _, _, h1, h2, _ => absurd h1 (by omega)
  | f + 1, [], last, h1, _, h => by
    simp only [isC, decide_eq_true_eq] at h
    unfold genC
    rw [if_pos (by omega)]
    simp
  | f + 1, p :: r, last, h1, h2, h => by
    obtain ⟨a, b, c, d⟩ := isC_cons.mp h
    obtain ⟨q, rfl⟩ : ∃ q : Nat, p = (q : Int) := ⟨p.toNat, by omega⟩
    unfold genC
    refine List.mem_append.mpr (.inr (List.mem_flatMap.mpr ⟨q, List.mem_filter.mpr ⟨List.mem_range.mpr (by omega), ?_⟩, List.mem_map.mpr ⟨r, genC_mem (by omega) (by omega) d, rfl⟩⟩))
    rw [Bool.and_eq_true, decide_eq_true_eq, decide_eq_true_eq]
    omega
theorem chg_all {n : Nat} {cs : List Int} (h : Chg n cs) : cs ∈ genC (n + 1) n 0 := genC_mem (Nat.zero_le _) (by omega) h
/-- what a finite look at all changes of all stages tells -/
theorem chg_check {p : Nat → List Int → Bool} (h : ((List.range 13).all fun n => (genC (n + 1) n 0).all (p n)) = true) {n : Nat} {cs : List Int} (hn : n ≤ 12) (hc : Chg n cs) : p n cs = true :=
  List.all_eq_true.mp (List.all_eq_true.mp h n (List.mem_range.mpr (by omega))) cs (chg_all hc)
def signsL : List Nat := [49, 50, 51, 52, 53, 54, 55, 56, 57, 48, 69, 84]
def sgAt (p : Int) : Nat := signsL.getD (p - 1).toNat 0
end Kb
set_option Elab.async false
set_option linter.all false
set_option maxRecDepth 100000
set_option maxHeartbeats 4000000
namespace Kb
open PySem PySem.Spec PyProof.Rows L2 SX
local macro_rules | `(tactic| walk_at "tk") => `(tactic| first
  | assumption
  | ((with_reducible refine' sqT_of ?k); (case k => assumption))
  | ((with_reducible refine' sqT_ofD ?k); (case k => assumption))
  | ((with_reducible refine' noD_of ?k); (case k => assumption))
  | ((with_reducible refine' noD_same ?s ?k); (case s => assumption); (case k => walk_at "tk"))
  | ((with_reducible refine' sqL_of ?k); (case k => assumption))
  | ((with_reducible refine' sqT_same ?s ?k); (case s => assumption); (case k => walk_at "tk"))
  | ((with_reducible refine' sqL_same ?s ?k); (case s => assumption); (case k => walk_at "tk"))
  | ((with_reducible refine' sqT_but ?s ?t ?k); (case s => assumption); (case t => walk_at "tk"); (case k => walk_at "tk"))
  | ((with_reducible refine' sqL_but ?s ?t ?k); (case s => assumption); (case t => walk_at "ne"); (case k => walk_at "tk"))
  | ((with_reducible refine' sqL_of ?k); (case k => walk_at "tk"))
  | ((with_reducible refine' sqT_of ?k); (case k => walk_at "tk"))
  | ((with_reducible refine' at_same ?s ?k); (case s => assumption); (case k => walk_at "tk"))
  | ((with_reducible refine' at_but ?s ?t ?k); (case s => assumption); (case t => walk_at "ne"); (case k => walk_at "tk")))
local macro_rules | `(tactic| walk_at "ne") => `(tactic| first
  | assumption
  | (refine Ne.symm ?_; assumption)
  | exact ne_of_none (by assumption) (by assumption)
  | exact (ne_of_none (by assumption) (by assumption)).symm)
local macro_rules | `(tactic| walk_at "side") => `(tactic| first
  | assumption
  | omega
  | (simp only [sizeLine_eq, List.length_cons, List.length_nil, List.length_map]; omega)
  | (show _ ≤ sizeLine; decide))
local macro_rules | `(tactic| walk_at "kit") => `(tactic| first
  | (show kitB _ _ = some true; decide +kernel)
  | (show kitB _ _ = some false; decide +kernel))
local macro_rules | `(tactic| walk_at "rng") => `(tactic| first
  | (refine ⟨by omega, by omega, by omega, by omega⟩)
  | (refine ⟨by omega, by omega⟩)
  | ((simp only [List.length_map]); (refine ⟨by omega, by omega, by omega, by omega⟩))
  | ((simp only [List.length_map]); (refine ⟨by omega, by omega⟩)))
local macro_rules | `(tactic| walk_at "rd1") => `(tactic| first
  | with_reducible refine r_seq ?_
  | ((with_reducible refine' r_var ?k0 ?_); (case k0 => rfl))
  | with_reducible refine r_op ?_
  | with_reducible refine r_c ?_
  | with_reducible refine r_asg ?_
  | with_reducible refine r_name ?_
  | with_reducible refine r_cons ?_
  | with_reducible refine r_nil ?_
  | with_reducible refine r_CB ?_
  | with_reducible refine r_if ?_
  | with_reducible refine r_test ?_
  | with_reducible refine r_k ?_
  | with_reducible refine r_T ?_
  | with_reducible refine r_F ?_
  | with_reducible refine r_nT ?_
  | with_reducible refine r_nF ?_
  | with_reducible refine r_ret ?_
  | with_reducible refine r_drop ?_
  | with_reducible refine r_next ?_
  | with_reducible refine r_call ?_
  | with_reducible refine r_addI ?_
  | with_reducible refine r_subI ?_
  | with_reducible refine r_ltI ?_
  | with_reducible refine r_gtI ?_
  | with_reducible refine r_leI ?_
  | with_reducible refine r_geI ?_
  | with_reducible refine r_eqI ?_
  | with_reducible refine r_neI ?_
  | with_reducible refine r_int ?_
  | with_reducible refine r_abs ?_
  | with_reducible refine r_not ?_
  | with_reducible refine r_and ?_
  | with_reducible refine r_or ?_
  | with_reducible refine r_tru ?_
  | with_reducible refine r_truB ?_
  | with_reducible refine r_lst ?_
  | with_reducible refine r_tup ?_
  | with_reducible refine r_BM ?_
  | with_reducible refine r_BM0 ?_
  | with_reducible refine r_tyS ?_
  | with_reducible refine r_gsub ?_
  | with_reducible refine r_then ?_
  | with_reducible refine r_lstRg ?_
  | with_reducible refine r_tupRg ?_
  | with_reducible refine r_rg2 ?_
  | with_reducible refine r_rg1 ?_
  | with_reducible refine r_ii ?_
  | with_reducible refine r_i ?_
  | with_reducible refine r_ipI ?_
  | with_reducible refine r_un ?_
  | with_reducible refine r_neg ?_
  | with_reducible refine r_isN ?_
  | with_reducible refine r_notN ?_
  | with_reducible refine r_notV ?_
  | with_reducible refine r_pnot ?_
  | with_reducible refine r_pif ?_
  | with_reducible refine r_andV ?_
  | with_reducible refine r_orV ?_
  | with_reducible refine r_ifE ?_
  | with_reducible refine r_chain ?_
  | with_reducible refine r_sl ?_
  | with_reducible refine r_noPart ?_
  | with_reducible refine r_part ?_
  | with_reducible refine r_brk ?_
  | with_reducible refine r_cont ?_
  | with_reducible refine r_retN ?_
  | with_reducible refine r_truI ?_
  | with_reducible refine r_B ?_
  | with_reducible refine r_for ?_
  | with_reducible refine r_rng1 ?_
  | with_reducible refine r_rng2 ?_
  | with_reducible refine r_rng3 ?_
  | with_reducible refine r_body ?_
  | with_reducible refine r_lc ?_
  | with_reducible refine r_yes ?_
  | ((with_reducible refine' r_mod ?k0 ?_); (case k0 => walk_at "side"))
  | ((with_reducible refine' r_mulI ?k0 ?_); (case k0 => first | exact Or.inl ⟨by omega, by omega⟩ | exact Or.inr ⟨by omega, by omega⟩))
  | ((with_reducible refine' r_lenL ?k0 ?_); (case k0 => walk_at "tk"))
  | ((with_reducible refine' r_lenT ?k0 ?_); (case k0 => walk_at "tk"))
  | ((with_reducible refine' r_truL ?k0 ?_); (case k0 => walk_at "tk"))
  | ((with_reducible refine' r_truT ?k0 ?_); (case k0 => walk_at "tk"))
  | ((with_reducible refine' r_ixL ?k0 ?k1 ?_); (case k0 => walk_at "tk"); (case k1 => first | assumption | rfl))
  | ((with_reducible refine' r_ixT ?k0 ?k1 ?_); (case k0 => walk_at "tk"); (case k1 => first | assumption | rfl))
  | ((with_reducible refine' r_new ?k0 ?_); (case k0 => walk_at "side"))
  | ((with_reducible refine' r_tyL ?k0 ?_); (case k0 => walk_at "tk"))
  | ((with_reducible refine' r_append ?k0 ?k1 ?_); (case k0 => walk_at "tk"); (case k1 => walk_at "side"))
  | ((with_reducible refine' r_setL ?k0 ?k1 ?_); (case k0 => walk_at "tk"); (case k1 => first | assumption | rfl))
  | ((with_reducible refine' r_kTupL ?k0 ?_); (case k0 => walk_at "tk"))
  | ((with_reducible refine' r_kTupT ?k0 ?_); (case k0 => walk_at "tk"))
  | ((with_reducible refine' r_listL ?k0 ?_); (case k0 => walk_at "tk"))
  | ((with_reducible refine' r_listT ?k0 ?_); (case k0 => walk_at "tk"))
  | ((with_reducible refine' r_aug ?k0 ?_); (case k0 => rfl))
  | ((with_reducible refine' r_lenS ?k0 ?_); (case k0 => walk_at "side"))
  | ((with_reducible refine' r_pop ?k0 ?_); (case k0 => walk_at "tk"))
  | ((with_reducible refine' r_pr1 ?k0 ?_); (case k0 => walk_at "rng"))
  | ((with_reducible refine' r_pr2 ?k0 ?_); (case k0 => walk_at "rng"))
  | ((with_reducible refine' r_pr3d ?k0 ?_); (case k0 => walk_at "rng"))
  | ((with_reducible refine' r_isiI ?k0 ?_); (case k0 => walk_at "kit"))
  | ((with_reducible refine' r_isiB ?k0 ?_); (case k0 => walk_at "kit"))
  | ((with_reducible refine' r_isiS ?k0 ?_); (case k0 => walk_at "kit"))
  | ((with_reducible refine' r_isiN ?k0 ?_); (case k0 => walk_at "kit"))
  | ((with_reducible refine' r_isiT ?k0 ?k1 ?_); (case k0 => walk_at "tk"); (case k1 => walk_at "kit"))
  | ((with_reducible refine r_seqT ?_); (repeat (walk_at "rd1")); ((with_reducible refine' r_pseqT ?k0 ?_); (case k0 => walk_at "tk")))
  | ((with_reducible refine r_seqL ?_); (repeat (walk_at "rd1")); ((with_reducible refine' r_pseqL ?k0 ?_); (case k0 => walk_at "tk")))
  | ((with_reducible refine r_seqS ?_); (repeat (walk_at "rd1")); (with_reducible refine r_pseqS ?_)))
local macro_rules | `(tactic| walk_at "rd") => `(tactic| ((repeat (walk_at "rd1")); (try dsimp only)))
local macro_rules | `(tactic| walk_at "rd1") => `(tactic| first
  | with_reducible refine r_BMT ?_
  | with_reducible refine r_par ?_
  | with_reducible refine r_parV ?_
  | ((with_reducible refine' r_ptp ?k0 ?k1 ?_); (case k0 => walk_at "tk"); (case k1 => walk_at "tk"))
  | with_reducible refine r_eqS ?_
  | with_reducible refine r_neS ?_
  | with_reducible refine r_callW ?_
  | with_reducible refine r_try ?_
  | with_reducible refine r_enT ?_
  | ((with_reducible refine' r_pen ?k0 ?_); (case k0 => walk_at "tk")))
local macro_rules | `(tactic| walk_at "pl0") => `(tactic| first
  | assumption
  | exact pl_same (by assumption) (by assumption)
  | exact pl_same (by assumption) (pl_same (by assumption) (by assumption))
  | exact pl_same (by assumption) (pl_same (by assumption) (pl_same (by assumption) (by assumption))))
local macro_rules | `(tactic| walk_at "pl") => `(tactic| first
  | walk_at "pl0"
  | ((with_reducible refine' pl_butL ?s ?n ?k); (case s => assumption); (case n => walk_at "ne"); (case k => walk_at "pl"))
  | ((with_reducible refine' pl_same ?s ?k); (case s => assumption); (case k => walk_at "pl")))
local macro_rules | `(tactic| walk_at "ne") => `(tactic| first
  | exact ne_pl (by assumption) (by walk_at "pl0")
  | exact (ne_pl (by assumption) (by walk_at "pl0")).symm)
local macro_rules | `(tactic| walk_at "fr") => `(tactic| first
  | assumption
  | ((with_reducible refine' free_but ?b ?n ?h); (case h => assumption); (case n => walk_at "ne"); (case b => walk_at "but"))
  | ((with_reducible refine' Same.free ?b ?h); (case h => assumption); (case b => walk_at "same")))
local macro_rules | `(tactic| walk_at "but") => `(tactic| first
  | assumption
  | exact But.refl
  | ((with_reducible refine' But.trans ?a ?b); (case b => assumption); (case a => walk_at "but"))
  | ((with_reducible refine' But.trans ?a (Same.but ?b)); (case b => assumption); (case a => walk_at "but"))
  | ((with_reducible refine' but_via ?a ?b ?c); (case b => assumption); (case c => walk_at "fr"); (case a => walk_at "but")))
local macro_rules | `(tactic| walk_at "same") => `(tactic| first
  | assumption
  | exact Same.refl _
  | ((with_reducible refine' Same.trans ?a ?b); (case b => assumption); (case a => walk_at "same"))
  | ((with_reducible refine' same_but ?a ?b ?c); (case b => assumption); (case c => walk_at "fr"); (case a => walk_at "same")))
local macro_rules | `(tactic| walk_at "tk") => `(tactic| first
  | ((with_reducible refine' sqT_pl ?s ?t ?k); (case s => assumption); (case t => walk_at "pl0"); (case k => walk_at "tk"))
  | ((with_reducible refine' rp_same ?s ?k); (case s => assumption); (case k => walk_at "tk"))
  | ((with_reducible refine' rp_pl ?s ?t ?k); (case s => assumption); (case t => walk_at "pl0"); (case k => walk_at "tk")))
local macro_rules | `(tactic| walk_at "it") => `(tactic| first
  | assumption
  | ((with_reducible refine' sqI_1 ?k); (case k => assumption))
  | ((with_reducible refine' sqI_0 ?k); (case k => assumption))
  | ((with_reducible refine' sqI_of ?k); (case k => assumption))
  | ((with_reducible refine' sqI_D ?k); (case k => assumption))
  | ((with_reducible refine' sqT_same ?s ?k); (case s => assumption); (case k => walk_at "it"))
  | ((with_reducible refine' sqT_but ?s ?t ?k); (case s => assumption); (case t => assumption); (case k => walk_at "it"))
  | ((with_reducible refine' sqT_pl ?s ?t ?k); (case s => assumption); (case t => walk_at "pl0"); (case k => walk_at "it")))
local macro_rules | `(tactic| walk_at "sz") => `(tactic| first | omega | ((try simp only [List.length_cons, List.length_nil] at *); omega))
local macro_rules | `(tactic| walk_at "au1") => `(tactic| first
  | walk_at "rd1"
  | ((with_reducible refine' r_draw ?k0 ?k1 ?k2 ?_); (case k0 => walk_at "pl"); (case k1 => omega); (case k2 => omega); (intro _ _ _ _ _ _))
  | ((with_reducible refine' r_slN ?k0 ?_); (case k0 => walk_at "it"); (intro _ _ _ _ _ _))
  | ((with_reducible refine' r_catN ?k0 ?k1 ?k2 ?_); (case k0 => walk_at "it"); (case k1 => walk_at "it"); (case k2 => walk_at "sz"); (intro _ _ _ _ _ _))
  | ((with_reducible refine' r_pow ?k0 ?_); (case k0 => exact ⟨by decide, by decide, by decide⟩))
  | ((with_reducible refine' r_ixI ?k0 ?k1 ?k2 ?_); (case k0 => walk_at "it"); (case k1 => omega); (case k2 => omega); (intro _ _))
  | ((with_reducible refine' r_setI ?k0 ?k1 ?k2 ?_); (case k0 => walk_at "tk"); (case k1 => omega); (case k2 => omega); (intro _ _ _ _ _))
  | ((with_reducible refine' r_kTupI ?k0 ?_); (case k0 => walk_at "tk"); (intro _ _ _ _ _))
  | ((with_reducible refine' r_listI ?k0 ?_); (case k0 => walk_at "it"); (intro _ _ _ _ _))
  | (with_reducible refine r_revU ?_)
  | ((with_reducible refine' r_prevN ?k0 ?_); (case k0 => walk_at "it"); (intro _ _ _ _ _ _))
  | (intro _ _ _ _ _))
local macro_rules | `(tactic| walk_at "go") => `(tactic| ((repeat (walk_at "au1")); (first
  | ((with_reducible refine r_ite (fun _ => ?_) (fun _ => ?_)) <;> (walk_at "go"))
  | ((with_reducible refine r_iteN (fun _ => ?_) (fun _ => ?_)) <;> (walk_at "go"))
  | dsimp only
  | skip)))
def isNum : Dat → Bool
  | .int _ => true
  | _ => false
def chD (n last : Int) : List Dat → Bool
  | [] => decide ((n - last) % 2 = 0)
  | .int p :: r => decide (last < p) && (decide (p ≤ n) && (!decide ((p - last) % 2 = 0) && chD n p r))
  | _ :: _ => false
def isChD (n : Int) : Dat → Bool
  | .tup ds => chD n 0 ds
  | _ => false
theorem chD_ints {n : Int} : ∀ {cs : List Int} {last : Int}, chD n last (cs.map Dat.int) = isC n last cs
  | [], _ => rfl
  | p :: r, last => by
    show (decide (last < p) && (decide (p ≤ n) && (!decide ((p - last) % 2 = 0) && chD n p (r.map Dat.int)))) = _
    rw [chD_ints]; rfl
def noStage (ec : Str → Addr) (H : Hp) (E : XK) : Prop := ∀ d H', Same H H' → H d = none → H' d = some (.xd [("word", .str "BadStage")]) → E (.ref (ec "BadStage")) (some d) H'
def noChange (ec : Str → Addr) (H : Hp) (E : XK) : Prop := ∀ d H', Same H H' → H d = none → H' d = some (.xd [("word", .str "BadChange")]) → E (.ref (ec "BadChange")) (some d) H'
def Stg (s : Int) : Prop := 1 ≤ s ∧ s ≤ 12
def sp_is_number (K : PySem.W.Frag) : Sp := fun vs H Q _ => ∃ (v : V) (d : Dat), vs = [v] ∧ Rp K H v d ∧ Q (.bl (isNum d)) H
def sp_is_change (K : PySem.W.Frag) (ec : Str → Addr) : Sp := fun vs H Q E => ∃ (s : Int) (v : V) (d : Dat), vs = [.int s, v] ∧ Rp K H v d ∧ d.size ≤ 1000000 ∧ (Stg s → ∀ H', Same H H' → Q (.bl (isChD s d)) H') ∧ (¬ Stg s → noStage ec H E)
def sp_check_change (K : PySem.W.Frag) (ec : Str → Addr) : Sp := fun vs H Q E => ∃ (s : Int) (v : V) (d : Dat), vs = [.int s, v] ∧ Rp K H v d ∧ d.size ≤ 1000000 ∧ (Stg s → isChD s d = true → ∀ H', Same H H' → Q .non H') ∧ (¬ Stg s → noStage ec H E) ∧ (Stg s → isChD s d = false → noChange ec H E)
abbrev N_is_number : List Str := ["told"]
def t_is_number (K : PySem.W.Frag) : TS :=
  (tRet ((tAndV ((tCB (rIsi K) (tCons (tVar 0) (tCons ((tC (.ty "int"))) tNil)))) ((tNotV ((tCB (rIsi K) (tCons (tVar 0) (tCons ((tC (.ty "bool"))) tNil)))))))))
abbrev N_is_change : List Str := ["stage", "told", "last", "place"]
def t_is_change (K : PySem.W.Frag) (ec : Str → Addr) (E : XK) : TS :=
  tSeq (tDrop ((tCallW (sp_check_stage K ec) (fun cls d _ H => E cls d H) (tCons (tVar 0) tNil))))
  (tSeq (tIfS ((tNot ((tTru K ((tCB (rIsi K) (tCons (tVar 1) (tCons ((tC (.ty "tuple"))) tNil)))))))) ((tRet ((tC (.bl false))))) (tNext))
  (tSeq (tAsg ((tC (.int 0))) (gName 2))
  (tSeq (tFor (iSeqU K (tVar 1)) (gName 3) (tSeq (tIfS ((tOr ((tNot ((tTru K ((tCall (sp_is_number K) [] E0 (tCons (tVar 3) tNil))))))) ((tNot ((tTest (tChain (rLtU K) (rLeU K) (tVar 2) (tVar 3) (tVar 0)))))))) ((tRet ((tC (.bl false))))) (tNext))
  (tSeq (tIfS ((tTest (tOp (rEqU K) ((tOp rModU ((tOp rSubU (tVar 3) (tVar 2))) ((tC (.int 2))))) ((tC (.int 0)))))) ((tRet ((tC (.bl false))))) (tNext))
  ((tAsg (tVar 3) (gName 2))))))
  ((tRet ((tOp (rEqU K) ((tOp rModU ((tOp rSubU (tVar 0) (tVar 2))) ((tC (.int 2))))) ((tC (.int 0))))))))))
abbrev N_check_change : List Str := ["stage", "change"]
def t_check_change (K : PySem.W.Frag) (ec : Str → Addr) (E : XK) : TS :=
  (tIfS ((tNot ((tTru K ((tCallW (sp_is_change K ec) (fun cls d _ H => E cls d H) (tCons (tVar 0) (tCons (tVar 1) tNil)))))))) ((sRaise (fun cls d _ H => E cls d H) (tBad (ec "BadChange") "BadChange"))) (tNext))
section
variable {K : PySem.W.Frag} {ec : Str → Addr} {ns : List Str} {vs : List V} {H : Hp} {Q : VK} {E : XK}
theorem len_is_number (h : sp_is_number K vs H Q E) : vs.length = 1 := by obtain ⟨s, d, rfl, _⟩ := h; rfl
theorem len_is_change (h : sp_is_change K ec vs H Q E) : vs.length = 2 := by obtain ⟨s, v, d, rfl, _⟩ := h; rfl
theorem len_check_change (h : sp_check_change K ec vs H Q E) : vs.length = 2 := by obtain ⟨s, v, d, rfl, _⟩ := h; rfl
theorem noStage.same {H' : Hp} (h : noStage ec H E) (s : Same H H') : noStage ec H' E := fun d H2 s2 nd e => h d H2 (s.trans s2) (s.free nd) e
theorem pure_is_number (h : sp_is_number K vs H Q E) : t_is_number K (En Q) (start N_is_number vs) H := by
  obtain ⟨v, d, rfl, hr, q⟩ := h
  unfold t_is_number
  cases hr with
  | int i => walk_at "rd"; exact q
  | bl b => walk_at "rd"; exact q
  | str z => walk_at "rd"; exact q
  | non => walk_at "rd"; exact q
  | tup ht hd => walk_at "rd"; exact q
theorem r_iteB' {b : Bool} {A B : Prop} (h1 : b = true → A) (h2 : b = false → B) : if b = true then A else B := by
  cases b with
  | true => exact r_T (h1 rfl)
  | false => exact r_F (h2 rfl)
theorem pure_is_change (XS : Exs K ec ns) (h : sp_is_change K ec vs H Q E) : t_is_change K ec E (En Q) (start N_is_change vs) H := by
  obtain ⟨s, v, d, rfl, hr, hz, q, qE⟩ := h
  unfold t_is_change
  walk_at "rd"
  refine ⟨s, rfl, fun hs => ?_, fun hs => qE hs⟩
  cases hr with
  | int i => walk_at "rd"; exact q hs H (Same.refl _)
  | bl b => walk_at "rd"; exact q hs H (Same.refl _)
  | str z => walk_at "rd"; exact q hs H (Same.refl _)
  | non => walk_at "rd"; exact q hs H (Same.refl _)
  | @tup a xs ds ht hd =>
    have hlen := rpL_length hd
    walk_at "rd"
    refine r_forTup (xs := xs) (fun i σ' H' => ∃ (last : Int) (z3 : Option V), σ' = [some (.int s), some (.ref a), some (.int last), z3] ∧ H' = H ∧ chD s 0 ds = chD s last (ds.drop i))
      ⟨0, none, rfl, rfl, rfl⟩ (fun i σ' H' _ hW => ?_) (fun i x σ' H' hi hW => ?_) (fun σ' H' hW => ?_)
    · obtain ⟨last, z3, rfl, rfl, _⟩ := hW
      exact ht
    · obtain ⟨last, z3, rfl, rfl, hc⟩ := hW
      have hil : i < ds.length := by rw [← hlen]; exact (List.getElem?_eq_some_iff.mp hi).1
      obtain ⟨y, hy, ry⟩ := rpL_get hd (List.getElem?_eq_getElem hil)
      rw [hi] at hy
      obtain rfl := Option.some.inj hy
      rw [List.drop_eq_getElem_cons hil] at hc
      have hq := q hs H' (Same.refl _)
      have hq' : Q (.bl (chD s 0 ds)) H' := hq
      rw [hc] at hq'
      obtain ⟨d', hd'⟩ : ∃ d', ds[i] = d' := ⟨_, rfl⟩
      rw [hd'] at ry hq' hc
      walk_at "rd"
      refine ⟨x, d', rfl, ry, ?_⟩
      cases d' with
      | int p =>
        cases ry
        dsimp only [isNum]
        walk_at "rd"
        refine r_ite (fun h1 => ?_) (fun h1 => ?_)
        · walk_at "rd"
          refine r_iteN (fun h2 => ?_) (fun h2 => ?_)
          · walk_at "rd"
            have : chD s last (.int p :: ds.drop (i + 1)) = false := by simp [chD, h2]
            rw [this] at hq'; exact hq'
          · walk_at "rd"
            refine r_ite (fun h3 => ?_) (fun h3 => ?_)
            · walk_at "rd"
              have : chD s last (.int p :: ds.drop (i + 1)) = false := by simp [chD, h3]
              rw [this] at hq'; exact hq'
            · walk_at "rd"
              refine ⟨p, _, rfl, rfl, ?_⟩
              rw [hc]
              simp [chD, h1, h2, h3]
        · walk_at "rd"
          have : chD s last (.int p :: ds.drop (i + 1)) = false := by simp [chD, h1]
          rw [this] at hq'; exact hq'
      | bl b => dsimp only [isNum]; walk_at "rd"; exact hq'
      | str b => dsimp only [isNum]; walk_at "rd"; exact hq'
      | non => dsimp only [isNum]; walk_at "rd"; exact hq'
      | tup b => dsimp only [isNum]; walk_at "rd"; exact hq'
    · obtain ⟨last, z3, rfl, rfl, hc⟩ := hW
      walk_at "rd"
      rw [hlen, List.drop_length] at hc
      have hq' : Q (.bl (chD s 0 ds)) H' := q hs H' (Same.refl _)
      rw [hc] at hq'
      exact hq'
theorem pure_check_change (XS : Exs K ec ns) (h : sp_check_change K ec vs H Q E) : t_check_change K ec E (En Q) (start N_check_change vs) H := by
  obtain ⟨s, v, d, rfl, hr, hz, q, qE, qC⟩ := h
  unfold t_check_change
  walk_at "rd"
  refine ⟨s, v, d, rfl, hr, hz, fun hs H1 s1 => ?_, fun hs => qE hs⟩
  walk_at "rd"
  refine r_iteB' (fun hb => ?_) (fun hb => ?_)
  · exact r_raise fun dd H' s' nd e => qC hs (by simpa using hb) dd H' (s1.trans s') (s1.free nd) e
  · walk_at "rd"
    exact q hs (by simpa using hb) H1 s1
theorem signs_tl : (("1234567890ET" : Str).cps.toList) = signsL := by decide
end
end Kb
set_option linter.all false
set_option Elab.async false
set_option linter.all false
set_option maxRecDepth 100000
set_option maxHeartbeats 4000000
namespace Kb
open PySem PySem.Spec PyProof.Rows L2 SX
local macro_rules | `(tactic| walk_at "tk") => `(tactic| first
  | assumption
  | ((with_reducible refine' sqT_of ?k); (case k => assumption))
  | ((with_reducible refine' sqT_ofD ?k); (case k => assumption))
  | ((with_reducible refine' noD_of ?k); (case k => assumption))
  | ((with_reducible refine' noD_same ?s ?k); (case s => assumption); (case k => walk_at "tk"))
  | ((with_reducible refine' sqL_of ?k); (case k => assumption))
  | ((with_reducible refine' sqT_same ?s ?k); (case s => assumption); (case k => walk_at "tk"))
  | ((with_reducible refine' sqL_same ?s ?k); (case s => assumption); (case k => walk_at "tk"))
  | ((with_reducible refine' sqT_but ?s ?t ?k); (case s => assumption); (case t => walk_at "tk"); (case k => walk_at "tk"))
  | ((with_reducible refine' sqL_but ?s ?t ?k); (case s => assumption); (case t => walk_at "ne"); (case k => walk_at "tk"))
  | ((with_reducible refine' sqL_of ?k); (case k => walk_at "tk"))
  | ((with_reducible refine' sqT_of ?k); (case k => walk_at "tk"))
  | ((with_reducible refine' at_same ?s ?k); (case s => assumption); (case k => walk_at "tk"))
  | ((with_reducible refine' at_but ?s ?t ?k); (case s => assumption); (case t => walk_at "ne"); (case k => walk_at "tk")))
local macro_rules | `(tactic| walk_at "ne") => `(tactic| first
  | assumption
  | (refine Ne.symm ?_; assumption)
  | exact ne_of_none (by assumption) (by assumption)
  | exact (ne_of_none (by assumption) (by assumption)).symm)
local macro_rules | `(tactic| walk_at "side") => `(tactic| first
  | assumption
  | omega
  | (simp only [sizeLine_eq, List.length_cons, List.length_nil, List.length_map]; omega)
  | (show _ ≤ sizeLine; decide))
local macro_rules | `(tactic| walk_at "kit") => `(tactic| first
  | (show kitB _ _ = some true; decide +kernel)
  | (show kitB _ _ = some false; decide +kernel))
local macro_rules | `(tactic| walk_at "rng") => `(tactic| first
  | (refine ⟨by omega, by omega, by omega, by omega⟩)
  | (refine ⟨by omega, by omega⟩)
  | ((simp only [List.length_map]); (refine ⟨by omega, by omega, by omega, by omega⟩))
  | ((simp only [List.length_map]); (refine ⟨by omega, by omega⟩)))
local macro_rules | `(tactic| walk_at "rd1") => `(tactic| first
  | with_reducible refine r_seq ?_
  | ((with_reducible refine' r_var ?k0 ?_); (case k0 => rfl))
  | with_reducible refine r_op ?_
  | with_reducible refine r_c ?_
  | with_reducible refine r_asg ?_
  | with_reducible refine r_name ?_
  | with_reducible refine r_cons ?_
  | with_reducible refine r_nil ?_
  | with_reducible refine r_CB ?_
  | with_reducible refine r_if ?_
  | with_reducible refine r_test ?_
  | with_reducible refine r_k ?_
  | with_reducible refine r_T ?_
  | with_reducible refine r_F ?_
  | with_reducible refine r_nT ?_
  | with_reducible refine r_nF ?_
  | with_reducible refine r_ret ?_
  | with_reducible refine r_drop ?_
  | with_reducible refine r_next ?_
  | with_reducible refine r_call ?_
  | with_reducible refine r_addI ?_
  | with_reducible refine r_subI ?_
  | with_reducible refine r_ltI ?_
  | with_reducible refine r_gtI ?_
  | with_reducible refine r_leI ?_
  | with_reducible refine r_geI ?_
  | with_reducible refine r_eqI ?_
  | with_reducible refine r_neI ?_
  | with_reducible refine r_int ?_
  | with_reducible refine r_abs ?_
  | with_reducible refine r_not ?_
  | with_reducible refine r_and ?_
  | with_reducible refine r_or ?_
  | with_reducible refine r_tru ?_
  | with_reducible refine r_truB ?_
  | with_reducible refine r_lst ?_
  | with_reducible refine r_tup ?_
  | with_reducible refine r_BM ?_
  | with_reducible refine r_BM0 ?_
  | with_reducible refine r_tyS ?_
  | with_reducible refine r_gsub ?_
  | with_reducible refine r_then ?_
  | with_reducible refine r_lstRg ?_
  | with_reducible refine r_tupRg ?_
  | with_reducible refine r_rg2 ?_
  | with_reducible refine r_rg1 ?_
  | with_reducible refine r_ii ?_
  | with_reducible refine r_i ?_
  | with_reducible refine r_ipI ?_
  | with_reducible refine r_un ?_
  | with_reducible refine r_neg ?_
  | with_reducible refine r_isN ?_
  | with_reducible refine r_notN ?_
  | with_reducible refine r_notV ?_
  | with_reducible refine r_pnot ?_
  | with_reducible refine r_pif ?_
  | with_reducible refine r_andV ?_
  | with_reducible refine r_orV ?_
  | with_reducible refine r_ifE ?_
  | with_reducible refine r_chain ?_
  | with_reducible refine r_sl ?_
  | with_reducible refine r_noPart ?_
  | with_reducible refine r_part ?_
  | with_reducible refine r_brk ?_
  | with_reducible refine r_cont ?_
  | with_reducible refine r_retN ?_
  | with_reducible refine r_truI ?_
  | with_reducible refine r_B ?_
  | with_reducible refine r_for ?_
  | with_reducible refine r_rng1 ?_
  | with_reducible refine r_rng2 ?_
  | with_reducible refine r_rng3 ?_
  | with_reducible refine r_body ?_
  | with_reducible refine r_lc ?_
  | with_reducible refine r_yes ?_
  | ((with_reducible refine' r_mod ?k0 ?_); (case k0 => walk_at "side"))
  | ((with_reducible refine' r_mulI ?k0 ?_); (case k0 => first | exact Or.inl ⟨by omega, by omega⟩ | exact Or.inr ⟨by omega, by omega⟩))
  | ((with_reducible refine' r_lenL ?k0 ?_); (case k0 => walk_at "tk"))
  | ((with_reducible refine' r_lenT ?k0 ?_); (case k0 => walk_at "tk"))
  | ((with_reducible refine' r_truL ?k0 ?_); (case k0 => walk_at "tk"))
  | ((with_reducible refine' r_truT ?k0 ?_); (case k0 => walk_at "tk"))
  | ((with_reducible refine' r_ixL ?k0 ?k1 ?_); (case k0 => walk_at "tk"); (case k1 => first | assumption | rfl))
  | ((with_reducible refine' r_ixT ?k0 ?k1 ?_); (case k0 => walk_at "tk"); (case k1 => first | assumption | rfl))
  | ((with_reducible refine' r_new ?k0 ?_); (case k0 => walk_at "side"))
  | ((with_reducible refine' r_tyL ?k0 ?_); (case k0 => walk_at "tk"))
  | ((with_reducible refine' r_append ?k0 ?k1 ?_); (case k0 => walk_at "tk"); (case k1 => walk_at "side"))
  | ((with_reducible refine' r_setL ?k0 ?k1 ?_); (case k0 => walk_at "tk"); (case k1 => first | assumption | rfl))
  | ((with_reducible refine' r_kTupL ?k0 ?_); (case k0 => walk_at "tk"))
  | ((with_reducible refine' r_kTupT ?k0 ?_); (case k0 => walk_at "tk"))
  | ((with_reducible refine' r_listL ?k0 ?_); (case k0 => walk_at "tk"))
  | ((with_reducible refine' r_listT ?k0 ?_); (case k0 => walk_at "tk"))
  | ((with_reducible refine' r_aug ?k0 ?_); (case k0 => rfl))
  | ((with_reducible refine' r_lenS ?k0 ?_); (case k0 => walk_at "side"))
  | ((with_reducible refine' r_pop ?k0 ?_); (case k0 => walk_at "tk"))
  | ((with_reducible refine' r_pr1 ?k0 ?_); (case k0 => walk_at "rng"))
  | ((with_reducible refine' r_pr2 ?k0 ?_); (case k0 => walk_at "rng"))
  | ((with_reducible refine' r_pr3d ?k0 ?_); (case k0 => walk_at "rng"))
  | ((with_reducible refine' r_isiI ?k0 ?_); (case k0 => walk_at "kit"))
  | ((with_reducible refine' r_isiB ?k0 ?_); (case k0 => walk_at "kit"))
  | ((with_reducible refine' r_isiS ?k0 ?_); (case k0 => walk_at "kit"))
  | ((with_reducible refine' r_isiN ?k0 ?_); (case k0 => walk_at "kit"))
  | ((with_reducible refine' r_isiT ?k0 ?k1 ?_); (case k0 => walk_at "tk"); (case k1 => walk_at "kit"))
  | ((with_reducible refine r_seqT ?_); (repeat (walk_at "rd1")); ((with_reducible refine' r_pseqT ?k0 ?_); (case k0 => walk_at "tk")))
  | ((with_reducible refine r_seqL ?_); (repeat (walk_at "rd1")); ((with_reducible refine' r_pseqL ?k0 ?_); (case k0 => walk_at "tk")))
  | ((with_reducible refine r_seqS ?_); (repeat (walk_at "rd1")); (with_reducible refine r_pseqS ?_)))
local macro_rules | `(tactic| walk_at "rd") => `(tactic| ((repeat (walk_at "rd1")); (try dsimp only)))
local macro_rules | `(tactic| walk_at "rd1") => `(tactic| first
  | with_reducible refine r_BMT ?_
  | with_reducible refine r_par ?_
  | with_reducible refine r_parV ?_
  | ((with_reducible refine' r_ptp ?k0 ?k1 ?_); (case k0 => walk_at "tk"); (case k1 => walk_at "tk"))
  | with_reducible refine r_eqS ?_
  | with_reducible refine r_neS ?_
  | with_reducible refine r_callW ?_
  | with_reducible refine r_try ?_
  | with_reducible refine r_enT ?_
  | ((with_reducible refine' r_pen ?k0 ?_); (case k0 => walk_at "tk")))
local macro_rules | `(tactic| walk_at "pl0") => `(tactic| first
  | assumption
  | exact pl_same (by assumption) (by assumption)
  | exact pl_same (by assumption) (pl_same (by assumption) (by assumption))
  | exact pl_same (by assumption) (pl_same (by assumption) (pl_same (by assumption) (by assumption))))
local macro_rules | `(tactic| walk_at "pl") => `(tactic| first
  | walk_at "pl0"
  | ((with_reducible refine' pl_butL ?s ?n ?k); (case s => assumption); (case n => walk_at "ne"); (case k => walk_at "pl"))
  | ((with_reducible refine' pl_same ?s ?k); (case s => assumption); (case k => walk_at "pl")))
local macro_rules | `(tactic| walk_at "ne") => `(tactic| first
  | exact ne_pl (by assumption) (by walk_at "pl0")
  | exact (ne_pl (by assumption) (by walk_at "pl0")).symm)
local macro_rules | `(tactic| walk_at "fr") => `(tactic| first
  | assumption
  | ((with_reducible refine' free_but ?b ?n ?h); (case h => assumption); (case n => walk_at "ne"); (case b => walk_at "but"))
  | ((with_reducible refine' Same.free ?b ?h); (case h => assumption); (case b => walk_at "same")))
local macro_rules | `(tactic| walk_at "but") => `(tactic| first
  | assumption
  | exact But.refl
  | ((with_reducible refine' But.trans ?a ?b); (case b => assumption); (case a => walk_at "but"))
  | ((with_reducible refine' But.trans ?a (Same.but ?b)); (case b => assumption); (case a => walk_at "but"))
  | ((with_reducible refine' but_via ?a ?b ?c); (case b => assumption); (case c => walk_at "fr"); (case a => walk_at "but")))
local macro_rules | `(tactic| walk_at "same") => `(tactic| first
  | assumption
  | exact Same.refl _
  | ((with_reducible refine' Same.trans ?a ?b); (case b => assumption); (case a => walk_at "same"))
  | ((with_reducible refine' same_but ?a ?b ?c); (case b => assumption); (case c => walk_at "fr"); (case a => walk_at "same")))
local macro_rules | `(tactic| walk_at "tk") => `(tactic| first
  | ((with_reducible refine' sqT_pl ?s ?t ?k); (case s => assumption); (case t => walk_at "pl0"); (case k => walk_at "tk"))
  | ((with_reducible refine' rp_same ?s ?k); (case s => assumption); (case k => walk_at "tk"))
  | ((with_reducible refine' rp_pl ?s ?t ?k); (case s => assumption); (case t => walk_at "pl0"); (case k => walk_at "tk")))
local macro_rules | `(tactic| walk_at "it") => `(tactic| first
  | assumption
  | ((with_reducible refine' sqI_1 ?k); (case k => assumption))
  | ((with_reducible refine' sqI_0 ?k); (case k => assumption))
  | ((with_reducible refine' sqI_of ?k); (case k => assumption))
  | ((with_reducible refine' sqI_D ?k); (case k => assumption))
  | ((with_reducible refine' sqT_same ?s ?k); (case s => assumption); (case k => walk_at "it"))
  | ((with_reducible refine' sqT_but ?s ?t ?k); (case s => assumption); (case t => assumption); (case k => walk_at "it"))
  | ((with_reducible refine' sqT_pl ?s ?t ?k); (case s => assumption); (case t => walk_at "pl0"); (case k => walk_at "it")))
local macro_rules | `(tactic| walk_at "sz") => `(tactic| first | omega | ((try simp only [List.length_cons, List.length_nil] at *); omega))
local macro_rules | `(tactic| walk_at "au1") => `(tactic| first
  | walk_at "rd1"
  | ((with_reducible refine' r_draw ?k0 ?k1 ?k2 ?_); (case k0 => walk_at "pl"); (case k1 => omega); (case k2 => omega); (intro _ _ _ _ _ _))
  | ((with_reducible refine' r_slN ?k0 ?_); (case k0 => walk_at "it"); (intro _ _ _ _ _ _))
  | ((with_reducible refine' r_catN ?k0 ?k1 ?k2 ?_); (case k0 => walk_at "it"); (case k1 => walk_at "it"); (case k2 => walk_at "sz"); (intro _ _ _ _ _ _))
  | ((with_reducible refine' r_pow ?k0 ?_); (case k0 => exact ⟨by decide, by decide, by decide⟩))
  | ((with_reducible refine' r_ixI ?k0 ?k1 ?k2 ?_); (case k0 => walk_at "it"); (case k1 => omega); (case k2 => omega); (intro _ _))
  | ((with_reducible refine' r_setI ?k0 ?k1 ?k2 ?_); (case k0 => walk_at "tk"); (case k1 => omega); (case k2 => omega); (intro _ _ _ _ _))
  | ((with_reducible refine' r_kTupI ?k0 ?_); (case k0 => walk_at "tk"); (intro _ _ _ _ _))
  | ((with_reducible refine' r_listI ?k0 ?_); (case k0 => walk_at "it"); (intro _ _ _ _ _))
  | (with_reducible refine r_revU ?_)
  | ((with_reducible refine' r_prevN ?k0 ?_); (case k0 => walk_at "it"); (intro _ _ _ _ _ _))
  | (intro _ _ _ _ _))
local macro_rules | `(tactic| walk_at "go") => `(tactic| ((repeat (walk_at "au1")); (first
  | ((with_reducible refine r_ite (fun _ => ?_) (fun _ => ?_)) <;> (walk_at "go"))
  | ((with_reducible refine r_iteN (fun _ => ?_) (fun _ => ?_)) <;> (walk_at "go"))
  | dsimp only
  | skip)))
def sp_law_change_draw (K : PySem.W.Frag) : Sp := fun vs H Q _ => ∃ (p : Addr) (n : Nat), vs = [.ref p, .int (n : Int)] ∧ Pl H p ∧ 1 ≤ n ∧ n ≤ 12 ∧ ∀ a H' cs, H a = none → But p H H' → Pl H' p → SqT K H' a (cs.map V.int) → Chg n cs → Q (.ref a) H'
abbrev N_law_change_draw : List Str := ["pool", "stage", "out", "place", "k"]
def t_law_change_draw (K : PySem.W.Frag) : TS :=
  tSeq (tAsg ((tLst tNil)) (gName 2))
  (tSeq (tAsg ((tC (.int 1))) (gName 3))
  (tSeq (tFor (iRng1 (tCons (tVar 1) tNil)) (gName 4) ((tIfS ((tTest (tOp (rEqU K) (tVar 3) (tVar 1)))) (tSeq (tDrop ((tBM K "list" rAppend (tVar 2) (tCons (tVar 3) tNil))))
  ((tAsg ((tOp (rAddU K) (tVar 3) ((tC (.int 1))))) (gName 3)))) ((tIfS ((tTest (tOp (rLtU K) (tVar 3) (tVar 1)))) ((tIfS ((tTest (tOp (rEqU K) ((tCall (sp_law_draw K) [] E0 (tCons (tVar 0) (tCons ((tC (.int 2))) tNil)))) ((tC (.int 0)))))) (tSeq (tDrop ((tBM K "list" rAppend (tVar 2) (tCons (tVar 3) tNil))))
  ((tAsg ((tOp (rAddU K) (tVar 3) ((tC (.int 1))))) (gName 3)))) ((tAsg ((tOp (rAddU K) (tVar 3) ((tC (.int 2))))) (gName 3))))) (tNext))))))
  ((tRet ((tThen (tVar 2) (kTupD K)))))))
section
variable {K : PySem.W.Frag} {ec : Str → Addr} {ns : List Str} {vs : List V} {H : Hp} {Q : VK} {E : XK}
theorem len_law_change_draw (h : sp_law_change_draw K vs H Q E) : vs.length = 2 := by obtain ⟨s, d, rfl, _⟩ := h; rfl
theorem sizes_ints : ∀ cs : List Int, Dat.sizes (cs.map Dat.int) = cs.length
  | [] => rfl
  | c :: r => by
    show (Dat.int c).size + Dat.sizes (r.map Dat.int) = _
    rw [sizes_ints r, List.length_cons]
    show 1 + _ = _
    omega
theorem size_row (cs : List Int) : (Dat.tup (cs.map Dat.int)).size = cs.length + 1 := by
  show 1 + Dat.sizes (cs.map Dat.int) = _
  rw [sizes_ints]; omega
theorem sgn_at {x : Int} (h1 : 1 ≤ x) (h2 : x ≤ 12) : atI signsL (x - 1) = some (sgAt x) := by
  have hl : (x - 1).toNat < signsL.length := by show _ < 12; omega
  have := atI_nat (xs := signsL) (j := (x - 1).toNat) (v := sgAt x) (by unfold sgAt; rw [List.getD_eq_getElem?_getD, List.getElem?_eq_getElem hl]; rfl)
  rw [show (((x - 1).toNat : Nat) : Int) = x - 1 by omega] at this
  exact this
theorem signs_S : ("1234567890ET" : Str) = S signsL := by
  have := S_tl ("1234567890ET" : Str)
  rw [signs_tl] at this
  exact this.symm
theorem flat_one {α : Type} (f : Int → α) : ∀ cs : List Int, (cs.map fun x => [f x]).flatten = cs.map f
  | [] => rfl
  | c :: r => by rw [List.map_cons, List.flatten_cons, flat_one f r]; rfl
theorem join_signs {a : Addr} {cs : List Int} {H : Hp} {Q : VK} (h : H a = some (.lst (cs.map fun x => V.str (S [sgAt x])))) (hl : cs.length ≤ 1000) (q : Q (.str (S (cs.map sgAt))) H) : rJoin K (.str "") [.ref a] H Q := by
  have e : ((cs.map fun x => [sgAt x]).map fun y => V.str (S y)) = cs.map fun x => V.str (S [sgAt x]) := by rw [List.map_map]; rfl
  refine r_join (ys := cs.map fun x => [sgAt x]) (sqL_of (by rw [e]; exact h)) ?_ ?_
  · rw [flat_one, List.length_map]; omega
  · rw [flat_one]; exact q
theorem pure_law_change_draw (h : sp_law_change_draw K vs H Q E) : t_law_change_draw K (En Q) (start N_law_change_draw vs) H := by
  obtain ⟨p, n, rfl, hp, h1, h2, q⟩ := h
  unfold t_law_change_draw
  walk_at "rd"
  intro o H1 no s1 e1
  have po : o ≠ p := ne_pl no hp
  walk_at "rd"
  rw [Int.toNat_natCast]
  refine r_forRange0 (fun i σ' H' => ∃ (cs : List Int) (P : Int) (z4 : Option V), σ' = [some (.ref p), some (.int (n : Int)), some (.ref o), some (.int P), z4] ∧ But p H H' ∧ Pl H' p ∧ H' o = some (.lst (cs.map V.int)) ∧ okC n 0 cs = true ∧ lastC 0 cs < P ∧ P ≤ n + 1 ∧ (P - 1 - lastC 0 cs) % 2 = 0 ∧ (i : Int) + 1 ≤ P ∧ cs.length ≤ i)
    ⟨[], 1, none, rfl, Same.but s1, pl_same s1 hp, e1, rfl, by show (0 : Int) < 1; decide, by omega, rfl, by omega, Nat.le_refl _⟩ (fun i σ' H' hi hW => ?_) (fun σ' H' hW => ?_)
  · obtain ⟨cs, P, z4, rfl, bt, hp', eo, ok, c1, c2, c3, c4, c5⟩ := hW
    have nH : H o = none := no
    have app : ∀ (H2 : Hp), But p H' H2 → Pl H2 p → P ≤ n → ∀ H3, But o H2 H3 → H3 o = some (.lst (cs.map V.int ++ [.int P])) → ∃ (cs : List Int) (P' : Int) (z4 : Option V), ([some (.ref p), some (.int (n : Int)), some (.ref o), some (.int (P + 1)), some (.int (i : Int))] : L2.St) = [some (.ref p), some (.int (n : Int)), some (.ref o), some (.int P'), z4] ∧ But p H H3 ∧ Pl H3 p ∧ H3 o = some (.lst (cs.map V.int)) ∧ okC n 0 cs = true ∧ lastC 0 cs < P' ∧ P' ≤ n + 1 ∧ (P' - 1 - lastC 0 cs) % 2 = 0 ∧ ((i + 1 : Nat) : Int) + 1 ≤ P' ∧ cs.length ≤ i + 1 := by
      intro H2 b2 hp2 hP H3 b3 e3
      refine ⟨cs ++ [P], P + 1, _, rfl, but_via (bt.trans b2) b3 nH, pl_butL b3 po.symm hp2, by rw [e3, List.map_append]; rfl, okC_snoc.mpr ⟨ok, c1, hP, by omega⟩, ?_, by omega, ?_, by omega, by rw [List.length_append]; simp; exact c5⟩
      · rw [lastC_snoc]; omega
      · rw [lastC_snoc]; omega
    walk_at "rd"
    refine r_ite (fun h0 => ?_) (fun h0 => ?_)
    · walk_at "rd"
      intro H3 b3 e3
      walk_at "rd"
      exact app H' But.refl hp' (by omega) H3 b3 e3
    · walk_at "rd"
      refine r_ite (fun h3 => ?_) (fun h3 => ?_)
      · walk_at "rd"
        refine r_draw hp' (by omega) (by omega) fun v H2 v0 v1 b2 hp2 => ?_
        have eo2 := b2 _ _ po eo
        walk_at "rd"
        refine r_ite (fun h4 => ?_) (fun h4 => ?_)
        · walk_at "rd"
          intro H3 b3 e3
          walk_at "rd"
          exact app H2 b2 hp2 (by omega) H3 b3 e3
        · walk_at "rd"
          exact ⟨cs, P + 2, _, rfl, bt.trans b2, hp2, eo2, ok, by omega, by omega, by omega, by omega, by omega⟩
      · walk_at "rd"
        exact ⟨cs, P, _, rfl, bt, hp', eo, ok, c1, c2, c3, by omega, by omega⟩
  · obtain ⟨cs, P, z4, rfl, bt, hp', eo, ok, c1, c2, c3, c4, c5⟩ := hW
    walk_at "rd"
    intro t H3 nt s3 e3
    have tp : t ≠ p := ne_pl nt hp'
    refine q t H3 cs (free_but bt tp nt) (bt.trans (Same.but s3)) (pl_same s3 hp') (sqT_ofD e3) (isC_iff.mpr ⟨ok, ?_⟩)
    omega
end
end Kb
set_option Elab.async false
set_option linter.all false
set_option maxRecDepth 100000
set_option maxHeartbeats 4000000
namespace Kb
open PySem PySem.Spec PyProof.Rows L2 SX
section
variable {K : PySem.W.Frag} {H H' : Hp} {Q : VK} {E : XK} {p a b l : Addr} {m : Int} {xs ys : List V} {lo hi : Option Int}
variable {ns ms : List Int} {j k : Nat}
theorem r_slN (h : SqT K H a (ns.map V.int)) (q : ∀ p H' (ms : List Int), Same H H' → SqT K H' p (ms.map V.int) → ms.length ≤ ns.length → Q (.ref p) H') : rSlU K (.ref a) lo hi H Q :=
  r_slI h fun p H' s e => q p H' _ s e (cutA_len ns)
theorem r_catN (h1 : SqT K H a (ns.map V.int)) (h2 : SqT K H b (ms.map V.int)) (hz : ns.length + ms.length ≤ 16000000) (q : ∀ p H' (us : List Int), Same H H' → SqT K H' p (us.map V.int) → us.length = ns.length + ms.length → Q (.ref p) H') : rAddU K (.ref a) (.ref b) H Q :=
  r_catII h1 h2 hz fun p H' s e => q p H' _ s e (List.length_append ..)
theorem r_prevN (h : SqT K H a (ns.map V.int)) (q : ∀ p H' (ms : List Int), Same H H' → SqT K H' p (ms.map V.int) → ms.length = ns.length → Q (.ref p) H') : PRev K (.ref a) (some (-1)) H Q :=
  r_prev h fun p H' np s e => q p H' ns.reverse s (by rw [List.map_reverse]; exact sqT_of e) (List.length_reverse ..)
/-- t[m] of a tuple of ints, somewhere in it -/
theorem r_ixI (h : SqT K H a (ns.map V.int)) (h0 : 0 ≤ m) (h1 : m < (ns.length : Int)) (q : ∀ i, ns[m.toNat]? = some i → Q (.int i) H) : rIx K (.ref a) (.int m) H Q := by
  obtain ⟨n, e1, e2⟩ := atI_ints h0 h1
  exact r_ixT h e1 (q n e2)
theorem r_setI {N : Hp → Prop} {i : Int} (h : H p = some (.lst (ns.map V.int))) (h0 : 0 ≤ m) (h1 : m < (ns.length : Int)) (q : ∀ H' ns', But p H H' → H' p = some (.lst ((ns' : List Int).map V.int)) → ns'.length = ns.length → N H') : rSetL (.ref p) (.int m) (.int i) H N := by
  refine r_setL (k := m.toNat) h ?_ fun H' b e => q H' (ns.set m.toNat i) b (by rw [e, List.map_set]) (List.length_set ..)
  rw [List.length_map]
  have := ixN_n (n := ns.length) (k := m.toNat) (by omega)
  rw [show ((m.toNat : Nat) : Int) = m by omega] at this
  exact this
theorem r_kTupI (h : H p = some (.lst (ns.map V.int))) (q : ∀ a H', H a = none → Same H H' → SqT K H' a (ns.map V.int) → Q (.ref a) H') : kTupD K (.ref p) H Q := r_kTupL (sqL_of h) fun a H' na s e => q a H' na s (sqT_ofD e)
theorem r_listI (h : SqT K H p (ns.map V.int)) (q : ∀ a H', H a = none → Same H H' → H' a = some (.lst (ns.map V.int)) → Q (.ref a) H') : rListU K [.ref p] H Q := r_listT h q
/-- [f(x) for x in t] with whole numbers, whichever -/
theorem r_lcN {σ : L2.St} {te : TE} {j : Nat} (h : SqT K H a (ns.map V.int)) (hz : ns.length ≤ 1000000) (he : ∀ x, ∃ i : Int, ∀ H1 (Q' : VK), Q' (.int i) H1 → te ((σ.set j none).set j (some (.int x))) H1 Q')
    (hd : ∀ q H' (ms : List Int), H q = none → Same H H' → H' q = some (.lst (ms.map V.int)) → ms.length = ns.length → Q (.ref q) H') : PLc (Itt K a) (gName j) tYes te [j] σ H Q := by
  refine r_lcT (xs := ns.map V.int) (fun D i H' => H D = none ∧ Same H H' ∧ ∃ ms : List Int, H' D = some (.lst (ms.map V.int)) ∧ ms.length = i)
    (fun x => by show ((σ.set j none).set j (some x)).set j none = σ.set j none; rw [List.set_set, List.set_set]) (fun D H' hD s e => ⟨hD, s, [], e, rfl⟩) (fun D i H' q => sqT_same q.2.1 h) (fun D i x H' hi q => ?_) (fun D H' hD q => ?_)
  · obtain ⟨hD, s, ms, e, hl⟩ := q
    have hil : i < (ns.map V.int).length := (List.getElem?_eq_some_iff.mp hi).1
    rw [List.length_map] at hil
    rw [List.getElem?_map] at hi
    obtain ⟨y, hy, rfl⟩ := Option.map_eq_some_iff.mp hi
    obtain ⟨v, hv⟩ := he y
    refine r_yes (r_T (hv H' _ ?_))
    refine r_acc e (by rw [List.length_map]; omega) fun H5 b5 e5 => ⟨hD, same_but s b5 hD, ms ++ [v], by rw [e5, List.map_append]; rfl, by rw [List.length_append, hl]; rfl⟩
  · obtain ⟨hD, s, ms, e, hl⟩ := q
    rw [List.length_map] at hl
    exact hd D H' ms hD s e hl
/-- [f() for k in range(n)] with whole numbers that are drawn -/
theorem r_lcDr {σ : L2.St} {te : TE} {j n : Nat} {lo : Int} (hp : Pl H p) (hz : n ≤ 1000000) (he : ∀ (x : Int) H1 (Q' : VK), But p H H1 → Pl H1 p → (∀ i H2, But p H1 H2 → Pl H2 p → Q' (.int i) H2) → te ((σ.set j none).set j (some (.int x))) H1 Q')
    (hd : ∀ q H' (ms : List Int), H q = none → But p H H' → Pl H' p → H' q = some (.lst (ms.map V.int)) → ms.length = n → Q (.ref q) H') : PLc (Itr lo n) (gName j) tYes te [j] σ H Q := by
  refine r_lcR (fun D i H' => H D = none ∧ D ≠ p ∧ But p H H' ∧ Pl H' p ∧ ∃ ms : List Int, H' D = some (.lst (ms.map V.int)) ∧ ms.length = i)
    (fun x => by show ((σ.set j none).set j (some x)).set j none = σ.set j none; rw [List.set_set, List.set_set]) (fun D H' hD s e => ⟨hD, ne_pl hD hp, Same.but s, pl_same s hp, [], e, rfl⟩) (fun D i H' hi q => ?_) (fun D H' hD q => ?_)
  · obtain ⟨hD, hne, b, hp', ms, e, hl⟩ := q
    refine r_yes (r_T (he _ H' _ b hp' fun v H2 b2 hp2 => ?_))
    refine r_acc (b2 _ _ hne e) (by rw [List.length_map]; omega) fun H5 b5 e5 => ⟨hD, hne, but_via (b.trans b2) b5 hD, pl_butL b5 hne.symm hp2, ms ++ [v], by rw [e5, List.map_append]; rfl, by rw [List.length_append, hl]; rfl⟩
  · obtain ⟨hD, hne, b, hp', ms, e, hl⟩ := q
    exact hd D H' ms hD b hp' e hl
/-- a list that stood before p was made -/
theorem sqL_via (np : H p = none) (b : But p H H') (h : SqL K H a xs) : SqL K H' a xs := by
  rcases h with (h | ⟨o, h⟩) | h
  · exact .inl (.inl (b _ _ (ne_of_none h np) h))
  · exact .inl (.inr ⟨o, b _ _ (ne_of_none h np) h⟩)
  · exact .inr h
end
end Kb
set_option Elab.async false
set_option linter.all false
set_option maxRecDepth 100000
set_option maxHeartbeats 4000000
set_option Elab.async false
set_option linter.all false
set_option maxRecDepth 100000
set_option maxHeartbeats 4000000
namespace Kb
open PySem PySem.Spec PyProof.Rows L2 PySem.W
abbrev VR := V × List Int
def encR (b : VR) : PyData := .tuple (b.2.map .int)
def rowLe (b c : VR) : Bool := decide (b.2 ≤ c.2)
theorem rowLe_data : dataLe false encR = rowLe := by
  funext p q
  show (!dataLt (.tuple (q.2.map .int)) (.tuple (p.2.map .int))) = _
  rw [dataLt_tuple]
  show (!rowLt (q.2.map .int) (p.2.map .int)) = _
  rw [dataLt_ints]
  unfold rowLe
  by_cases h : q.2 < p.2
  · have h' : ¬ p.2 ≤ q.2 := fun r => List.not_lt.mpr r h
    simp [h, h']
  · have h' : p.2 ≤ q.2 := List.not_lt.mp h
    simp [h, h']
section
variable {X : Cx}
theorem vals_each {us : List Value} : ∀ {bs : List VR} {us : List Value}, Vals (bs.map (·.1)) us → EachIs (fun v b => RelV b.1 v) us bs
  | [], _, h => by
    rw [List.map_nil] at h
    cases h; exact .nil
  | b :: bs, _, h => by
    rw [List.map_cons] at h
    cases h with
    | cons r t => exact .cons r (vals_each (us := []) t)
theorem each_vals : ∀ {bs : List VR} {us : List Value}, EachIs (fun v b => RelV b.1 v) us bs → Vals (bs.map (·.1)) us
  | _, _, .nil => .nil
  | _, _, .cons r t => .cons r (each_vals t)
theorem each_imp {α β : Type} {R S : α → β → Prop} : ∀ {as : List α} {bs : List β}, EachIs R as bs → (∀ a b, b ∈ bs → R a b → S a b) → EachIs S as bs
  | _, _, .nil, _ => .nil
  | _, _, .cons r t, h => .cons (h _ _ (by simp) r) (each_imp t fun a b hb => h a b (by simp [hb]))
theorem reads_ints {h : Heap} : ∀ {ns : List Int} {us : List Value}, Vals (ns.map V.int) us → ReadsAll h us (ns.map .int) []
  | [], _, r => by
    rw [List.map_nil] at r
    cases r; exact .nil
  | n :: ns, _, r => by
    rw [List.map_cons] at r
    cases r with
    | cons r t =>
      obtain ⟨k, rfl⟩ := r
      exact .cons (as := []) (bs := []) (.int n k) (reads_ints t)
end
end Kb
set_option Elab.async false
set_option linter.all false
set_option maxRecDepth 100000
set_option maxHeartbeats 4000000
namespace Kb
open PySem PySem.Spec PyProof.Rows L2 PySem.W PySem.SeqAt
section
variable {prog : Program} {w : World} {A : Around} {E : Value → Shared → Prop} {s : Shared}
theorem call_tuple_lt0 {Q : Value → Shared → Prop} {l b : Addr} {items items2 : Array Value} {e r : Nat → Bool} (hl : s.heap.IsTuple l items) (hb : s.heap.IsTuple b items2)
    (he : ∀ j (h1 : j < items.size) (h2 : j < items2.size), SeqAt.EqAt A.in1 s items[j] items2[j] (e j)) (hr : ∀ j (h1 : j < items.size) (h2 : j < items2.size), e j = false → SeqAt.RcLt A.in1 s items[j] items2[j] (r j))
    (h : Q (.bool (SeqAt.firstLt e r (decide (items.size < items2.size)) (List.range (min items.size items2.size)))) s) : wpAny (model prog w) A (call (.builtin "tuple.__lt__") [.ref l, .ref b]) Q E s := by
  obtain ⟨⟨cls, dd, data, sl⟩, ho, hc, n, hd⟩ := id hl
  obtain ⟨⟨cls2, dd2, data2, sl2⟩, ho2, hc2, n2, hd2⟩ := id hb
  simp only at hc hd hc2 hd2
  subst hc hd hc2 hd2
  exact call_meets F.slot_tuple_lt ⟨_, ho, rfl⟩ F.entry_tuple_lt (F.args_tuple_lt_2 _ _) (SeqAt.tuple_ltAt l b items items2 n n2 dd dd2 sl sl2 e r) ⟨ho, ho2, he, hr, h⟩
theorem oneLt_tup {a b : Value} {xs ys : List PyData} {as bs : List Addr} {Q : Bool → Shared → Prop} (ra : Reads s.heap a (.tuple xs) as) (rb : Reads s.heap b (.tuple ys) bs) (hal : alikeAll xs ys = true)
    (hu : A.units + min (PyData.tuple xs).depth (PyData.tuple ys).depth < cLine) (hq : Q (dataLt (.tuple xs) (.tuple ys)) s) : wpAny (model prog w) A (oneLt' true a b) Q E s := by
  cases ra with
  | @tuple l o vs n _ as₁ h1 h2 h3 h4 =>
    cases rb with
    | @tuple l' o' vs' n' _ bs₁ k1 k2 k3 k4 =>
      have n1 : vs.size = xs.length := by simpa using SeqAt.ReadsAll.length _ _ _ h4
      have n2 : vs'.size = ys.length := by simpa using SeqAt.ReadsAll.length _ _ _ k4
      rw [dataLt_tuple, ← firstLt_toks xs ys hal, ← n1, ← n2] at hq
      rw [oneLt'_eq]
      simp only [if_true]
      refine wpAny_bind (wpAny_cRoomFor (SeqAt.room_here hu) ?_)
      refine wpAny_bind (wpAny_callSpecialIfBound?_slot (T := "tuple") ⟨_, h1, h2⟩ F.slot_tuple_lt (call_tuple_lt0 (e := pairEq xs ys) (r := fun j => dataLt (xs.getD j .none) (ys.getD j .none)) ⟨_, h1, h2, _, h3⟩ ⟨_, k1, k2, _, k3⟩ (fun j j1 j2 => ?_) (fun j j1 j2 hj => ?_) ?_))
      · have := eqAt_alikeAll xs ys A.in1 s vs.toList vs'.toList _ _ h4 k4 hal (SeqAt.room_in hu) j (by simpa using j1) (by simpa using j2)
        simpa using this
      · have := rcLt_alikeAll xs ys A.in1 s vs.toList vs'.toList _ _ h4 k4 hal (SeqAt.room_in hu) j (by simpa using j1) (by simpa using j2) hj
        simpa using this
      · exact wpAny_truthy_bool hq
/-- the first items of tuples of data, none where a tuple is empty -/
theorem firsts0 {M : Model} : ∀ {vs : List Value} {ds : List (List PyData)}, EachIs (fun v d => ∃ as, Reads s.heap v (.tuple d) as) vs ds →
    ∃ fs : List (Option Value), fs.map (·.isSome) = ds.map (fun l => !l.isEmpty) ∧ ∀ {E : Value → Shared → Prop} {Q : List (Option Value) → Shared → Prop}, Q fs s → wpAny M A (vs.mapM firstOfTuple') Q E s
  | _, _, .nil => ⟨[], rfl, fun h => by rw [List.mapM_nil]; exact wpAny_pure h⟩
  | v :: vs, d :: ds, .cons ⟨as, r⟩ t => by
    obtain ⟨fs, h1, h2⟩ := firsts0 t
    cases r with
    | @tuple l o xs n _ _ ho hc hd h4 =>
      have n1 : xs.size = d.length := by simpa using SeqAt.ReadsAll.length _ _ _ h4
      refine ⟨xs[0]? :: fs, ?_, fun {E Q} h => ?_⟩
      · rw [List.map_cons, List.map_cons, h1]
        congr 1
        cases d with
        | nil =>
          have : xs[0]? = none := by rw [Array.getElem?_eq_none_iff, n1]; exact Nat.le_refl _
          rw [this]; rfl
        | cons y ys =>
          have h0 : 0 < xs.size := by rw [n1]; simp
          rw [Array.getElem?_eq_getElem h0]; rfl
      · rw [List.mapM_cons]
        refine wpAny_bind ?_
        rw [kas_first_eq]
        refine wpAny_bind (Looks.here (show Looks M s.heap (typeOf (.ref l)) o.cls from (Looks.ld ho).andThen .now) ?_)
        rw [hc, if_neg (by first | decide | simp)]
        refine wpAny_bind (listItems_at ho hd (wpAny_pure ?_))
        exact wpAny_bind (h2 (wpAny_pure h))
theorem kind0 {M : Model} {vs : List Value} {ds : List (List PyData)} (e : EachIs (fun v d => ∃ as, Reads s.heap v (.tuple d) as) vs ds) (h0 : [] ∈ ds) : ∃ kd, (kd = general' ∨ kd = oneType') ∧
    ∀ {E : Value → Shared → Prop} {Q : SortKind → Shared → Prop}, Q kd s → wpAny M A (keyKind' vs.toArray) Q E s := by
  obtain ⟨fs, h1, h2⟩ := firsts0 (M := M) (A := A) e
  have hall : (fs.toArray.all fun x => x.isSome) = false := by
    rw [List.all_toArray]
    have : (fs.all fun x => x.isSome) = (fs.map (·.isSome)).all id := by rw [List.all_map]; rfl
    rw [this, h1, List.all_map, List.all_eq_false]
    exact ⟨[], h0, by simp⟩
  by_cases hf : ((fs.toArray[0]?).bind id).isSome = true
  · refine ⟨general', .inl rfl, fun {E Q} hq => ?_⟩
    rw [kat_kind_eq, List.mapM_toArray, map_eq_pure_bind]
    refine wpAny_bind (wpAny_bind (h2 (wpAny_pure ?_)))
    rw [hall, if_neg (by simp), if_pos hf]
    exact wpAny_pure hq
  · refine ⟨oneType', .inr rfl, fun {E Q} hq => ?_⟩
    rw [kat_kind_eq, List.mapM_toArray, map_eq_pure_bind]
    refine wpAny_bind (wpAny_bind (h2 (wpAny_pure ?_)))
    rw [hall, if_neg (by simp), if_neg hf]
    cases e with
    | nil => exact absurd h0 (by simp)
    | @cons v₁ d₁ vr dr r t =>
      have lk : ∀ v ∈ v₁ :: vr, Looks M s.heap (typeOf v) (Value.type "tuple") := fun v hv => by
        obtain ⟨d, _, as, rr⟩ := (EachIs.cons r t).left v hv
        exact looks_reads rr
      rw [oneTypeOnly'_eq, List.mapM_toArray, map_eq_pure_bind]
      refine wpAny_bind (wpAny_bind (wpAny_bind (kas_mapM (r := Value.type "tuple") _ (fun v hv Q' hq => (lk v hv).here hq) (wpAny_pure ?_))))
      have hall2 : ((List.map (fun _ => Value.type "tuple") (v₁ :: vr)).toArray.all fun x => x == Value.type "tuple") = true := by
        simp only [List.all_toArray, List.all_map, List.all_eq_true]
        intro _ _
        rfl
      have h3 : (List.map (fun _ => Value.type "tuple") (v₁ :: vr)).toArray[0]? = some (Value.type "tuple") := by simp
      rw [h3]
      simp only [hall2, if_true]
      exact wpAny_pure (wpAny_pure hq)
theorem sortsAt0 {vs : List Value} {bs : List (List PyData)} (e : EachIs (fun v d => ∃ as, Reads s.heap v d as) vs (bs.map .tuple)) (hal : AllAlike (bs.map .tuple)) (hu : ∀ d, d ∈ bs.map PyData.tuple → A.units + d.depth < cLine) :
    SortsAt prog w A s (dataKind s.heap (bs.map .tuple)) vs := by
  by_cases h0 : [] ∈ bs
  · have e' : EachIs (fun v d => ∃ as, Reads s.heap v (.tuple d) as) vs bs := by
      clear hal hu h0
      induction bs generalizing vs with
      | nil => cases e; exact .nil
      | cons b bs ih =>
        rw [List.map_cons] at e
        cases e with
        | cons r t => exact .cons r (ih t)
    obtain ⟨kd, hk, hw⟩ := kind0 (M := model prog w) (A := A) e' h0
    have room : ∀ {d d' : PyData}, d ∈ bs.map PyData.tuple → A.units + min d.depth d'.depth < cLine := fun {d d'} hd => Nat.lt_of_le_of_lt (Nat.add_le_add_left (Nat.min_le_left _ _) _) (hu d hd)
    refine ⟨fun v hv => ?_, kd, ?_, fun _ E Q hq => hw hq⟩
    · obtain ⟨d, hd, as, r⟩ := e.left v hv
      exact ⟨_, dataKind_some hal hd r⟩
    · intro E x y a b Q ha hb hq
      obtain ⟨d, as, hd, ra, rfl⟩ := dataKind_inv ha
      obtain ⟨d', as', hd', rb, rfl⟩ := dataKind_inv hb
      have hdd := hal d hd d' hd'
      have hroom := room (d' := d') hd
      obtain ⟨l1, m1, rfl⟩ := List.mem_map.mp hd
      obtain ⟨l2, m2, rfl⟩ := List.mem_map.mp hd'
      rcases hk with rfl | rfl
      · show wpAny (model prog w) A (oneLt' false x y) Q E s
        exact oneLt_alike (f := false) (fun z => absurd z (by simp)) ra rb hdd (fun z => by cases z) hroom hq
      · rw [keyLt'_oneType]
        exact oneLt_tup ra rb (by simpa [alike] using hdd) hroom hq
  · refine SortsAt.data e hal (.inl fun d hd => ?_) hu
    obtain ⟨l, hl, rfl⟩ := List.mem_map.mp hd
    cases l with
    | nil => exact absurd hl h0
    | cons x r => exact ⟨x, r, rfl⟩
theorem sorted_data0 {β : Type} {vs : List Value} {bs : List β} {enc : β → List PyData} {R : Value → β → Prop} {l : Addr} {Q : Value → Shared → Prop} (hl : s.heap.IsList l vs.toArray) (e : EachIs R vs bs) (er : EachIs (fun v b => ∃ as, Reads s.heap v (.tuple (enc b)) as) vs bs)
    (hal : AllAlike (bs.map fun b => .tuple (enc b))) (hL : bs.length ≤ sizeLine) (hu : ∀ b, b ∈ bs → A.units + 2 + (PyData.tuple (enc b)).depth < cLine)
    (h : ∀ out, out.length = bs.length → EachIs R out (bs.mergeSort (dataLe false fun b => .tuple (enc b))) → Q (.ref (s.heap.objs.size + 1)) { s with heap := sortedAll s.heap vs (List.toArray out) }) :
    wpAny (model prog w) A (call (.builtin "sorted") [.ref l]) Q E s := by
  have er' : EachIs (fun v b => ∃ as, Reads (sortingHeap (copyHeap s.heap vs) (s.heap.objs.size + 1) vs) v (.tuple (enc b)) as) vs bs := er.mono fun _ _ ⟨as, r⟩ => ⟨as, PyProof.Rows.Reads.keeps (fun _ _ => sorting_copy_old) r⟩
  have em : bs.map (fun b => PyData.tuple (enc b)) = (bs.map enc).map .tuple := by rw [List.map_map]; rfl
  refine sorted_vals (κ := dataKind (sortingHeap (copyHeap s.heap vs) (s.heap.objs.size + 1) vs) (bs.map fun b => PyData.tuple (enc b))) hl ?_ (by rw [e.length]; exact hL)
    (h _ (by rw [sortVals_length false rfl]; exact e.length) (sortVals_data false e er' hal))
  have e2 := each_map (R := fun v d => ∃ as, Reads (sortingHeap (copyHeap s.heap vs) (s.heap.objs.size + 1) vs) v d as) (fun b => PyData.tuple (enc b)) er'
  have b2 := bound_map (A := A.in1.in1) (bs := bs) (enc := fun b => PyData.tuple (enc b)) hu
  rw [em] at e2 hal b2 ⊢
  exact sortsAt0 (s := { s with heap := sortingHeap (copyHeap s.heap vs) (s.heap.objs.size + 1) vs }) e2 hal b2
end
def rSortRow0 (K : PySem.W.Frag) : List V → Hp → VK → Prop := fun vs H Q => ∃ (a : Addr) (bs : List VR), vs = [V.ref a] ∧ SqL K H a (bs.map (·.1)) ∧ (∀ b ∈ bs, ∃ t : Addr, b.1 = .ref t ∧ SqT K H t (b.2.map V.int)) ∧
  ∀ p, H p = none → Q (.ref p) (upd H p (.lst ((bs.mergeSort rowLe).map (·.1))))
section
variable {X : Cx}
theorem cr_sortRow0 (hu : X.A.units + 64 < cLine) : CallR X (.builtin "sorted") (rSortRow0 X.K) := by
  intro pins s σ H vs us Q I r h
  obtain ⟨a, bs, rfl, hs, hx, q⟩ := h
  obtain ⟨its, rv, hl, hz⟩ := I.list hs
  rw [Vals.ref1 r]
  have e := vals_each (us := []) rv
  have hz' : bs.length ≤ sizeLine := by rw [List.length_map] at hz; exact hz
  have er : EachIs (fun v b => ∃ as, Reads s.heap v (.tuple (b.2.map .int)) as) its bs := each_imp e fun v b hb rb => by
    obtain ⟨t, e1, ht⟩ := hx b hb
    rw [e1] at rb
    cases rb
    obtain ⟨ts, r2, ⟨⟨cls, dd, dt, sl⟩, ho, hc, n, hd⟩, _⟩ := I.tuple ht
    simp only at hc hd
    subst hc hd
    exact ⟨_, .tuple ho rfl rfl (reads_ints r2)⟩
  have dep : ∀ b : VR, (encR b).depth ≤ 1 := fun b => by
    show (PyData.tuple (b.2.map .int)).depth ≤ 1
    rw [PyData.depth, depth_ints]; exact Nat.le_refl _
  refine sorted_data0 (enc := fun b : VR => b.2.map .int) (R := fun v b => RelV b.1 v) hl.isList e er ?_ hz' (fun b _ => by have := dep b; change _ + (encR b).depth < _; omega) fun out h1 h2 => ?_
  · refine AllAlike.of fun b b' => ?_
    show alike (.tuple (b.2.map .int)) (.tuple (b'.2.map .int)) = true
    rw [alike]; exact alike_ints _ _
  · have h2' : EachIs (fun v b => RelV b.1 v) out (bs.mergeSort (dataLe false encR)) := h2
    rw [rowLe_data] at h2'
    obtain ⟨ep, he'⟩ := PyProof.Rows.sortedAll_at s.heap its out.toArray
    have hlen : ((bs.mergeSort rowLe).map (·.1)).length ≤ sizeLine := by rw [List.length_map, List.length_mergeSort]; exact hz'
    exact ⟨.ref _, upd H (s.heap.objs.size + 1) (.lst ((bs.mergeSort rowLe).map (·.1))), I.laid (t' := s.toks) (fun _ _ => PyProof.Rows.sortedAll_old) (Nat.le_succ _) ⟨hlen, out, ep, each_vals h2', he'⟩, rfl, q _ (I.hok.fresh (Nat.le_succ _))⟩
end
end Kb
set_option linter.all false
set_option maxRecDepth 100000
namespace Kb
namespace K8
def acP : Nat → List (List Int) × List (List Int)
  | 0 => ([[]], [[1]])
  | i + 1 => ((acP i).2, (acP i).2.map (· ++ [(2 : Int) + i]) ++ (acP i).1)
abbrev St := List Int × Int
def lsT (n : Int) (og : List (List Int) × List St) (s : St) : List (List Int) × List St :=
  if n < s.2 then (og.1 ++ [s.1], og.2) else if s.2 < n then (og.1, og.2 ++ [(s.1 ++ [s.2], s.2 + 1), (s.1, s.2 + 2)]) else (og.1, og.2 ++ [(s.1 ++ [s.2], s.2 + 1)])
def lsI (n : Int) : Nat → List (List Int) × List St
  | 0 => ([], [([], 1)])
  | i + 1 => (lsI n i).2.foldl (lsT n) ((lsI n i).1, [])
theorem lsT_len (n : Int) (og : List (List Int) × List St) (s : St) : (lsT n og s).1.length ≤ og.1.length + 1 ∧ (lsT n og s).2.length ≤ og.2.length + 2 := by
  unfold lsT
  split
  · simp
  · split <;> simp
theorem lsF_len (n : Int) : ∀ (l : List St) (og : List (List Int) × List St), (l.foldl (lsT n) og).1.length ≤ og.1.length + l.length ∧ (l.foldl (lsT n) og).2.length ≤ og.2.length + 2 * l.length
  | [], og => by simp
  | s :: l, og => by
    have h1 := lsF_len n l (lsT n og s)
    have h2 := lsT_len n og s
    rw [List.foldl_cons, List.length_cons]
    omega
def lists (n : Nat) : List (List Int) := (lsI n (n + 1)).1
def changes (n : Nat) : List (List Int) := (acP (n - 1)).2
theorem ls_small : ((List.range 13).all fun n => (List.range 14).all fun i => decide ((lsI n i).1.length ≤ 1000) && (decide ((lsI n i).2.length ≤ 1000) && ((lsI n i).2.all fun s => decide (s.1.length ≤ 100)))) = true := by decide +kernel
theorem ls_bd {n i : Nat} (hn : n ≤ 12) (hi : i ≤ 13) : (lsI n i).1.length ≤ 1000 ∧ (lsI n i).2.length ≤ 1000 ∧ ∀ s ∈ (lsI n i).2, s.1.length ≤ 100 := by
  have h := List.all_eq_true.mp (List.all_eq_true.mp ls_small n (List.mem_range.mpr (by omega))) i (List.mem_range.mpr (by omega))
  rw [Bool.and_eq_true, Bool.and_eq_true, decide_eq_true_eq, decide_eq_true_eq, List.all_eq_true] at h
  exact ⟨h.1, h.2.1, fun s hs => of_decide_eq_true (h.2.2 s hs)⟩
theorem ac_small : ((List.range 12).all fun i => decide ((acP i).1.length ≤ 1000) && (decide ((acP i).2.length ≤ 1000) && ((acP i).2.all fun c => decide (c.length ≤ 100)))) = true := by decide +kernel
theorem ac_bd {i : Nat} (hi : i ≤ 11) : (acP i).1.length ≤ 1000 ∧ (acP i).2.length ≤ 1000 ∧ ∀ c ∈ (acP i).2, c.length ≤ 100 := by
  have h := List.all_eq_true.mp ac_small i (List.mem_range.mpr (by omega))
  rw [Bool.and_eq_true, Bool.and_eq_true, decide_eq_true_eq, decide_eq_true_eq, List.all_eq_true] at h
  exact ⟨h.1, h.2.1, fun s hs => of_decide_eq_true (h.2.2 s hs)⟩
theorem perm_ok : ((List.range 13).all fun n => n == 0 || ((changes n).isPerm (lists n) && (changes n).all (isC n 0))) = true := by decide +kernel
theorem ch_perm {n : Nat} (h1 : 1 ≤ n) (hn : n ≤ 12) : (changes n).Perm (lists n) ∧ ∀ c ∈ changes n, Chg n c := by
  have h := List.all_eq_true.mp perm_ok n (List.mem_range.mpr (by omega))
  rw [Bool.or_eq_true, Bool.and_eq_true, beq_iff_eq] at h
  rcases h with z | ⟨a, b⟩
  · omega
  · exact ⟨List.isPerm_iff.mp a, fun c hc => List.all_eq_true.mp b c hc⟩
def sortL (xs : List (List Int)) : List (List Int) := xs.mergeSort fun a b => decide (a ≤ b)
theorem sortL_perm (xs : List (List Int)) : (sortL xs).Perm xs := List.mergeSort_perm _ _
theorem sortL_sorted (xs : List (List Int)) : (sortL xs).Pairwise (· ≤ ·) := by
  have := List.pairwise_mergeSort (le := fun (a b : List Int) => decide (a ≤ b)) (fun a b c h1 h2 => decide_eq_true (List.le_trans (of_decide_eq_true h1) (of_decide_eq_true h2))) (fun a b => by
    rcases List.le_total a b with h | h
    · simp [h]
    · simp [h]) xs
  exact this.imp fun h => of_decide_eq_true h
theorem sorted_eq {xs ys : List (List Int)} (hx : xs.Pairwise (· ≤ ·)) (hy : ys.Pairwise (· ≤ ·)) (p : xs.Perm ys) : xs = ys :=
  List.Perm.eq_of_pairwise (le := fun a b : List Int => a ≤ b) (fun a b _ _ h1 h2 => List.le_antisymm h1 h2) hx hy p
theorem sortL_eq {xs ys : List (List Int)} (p : xs.Perm ys) : sortL xs = sortL ys := sorted_eq (sortL_sorted xs) (sortL_sorted ys) ((sortL_perm xs).trans (p.trans (sortL_perm ys).symm))
theorem sort_same {n : Nat} (h1 : 1 ≤ n) (hn : n ≤ 12) : sortL (changes n) = sortL (lists n) := sortL_eq (ch_perm h1 hn).1
def lcP : Nat → Nat × Nat
  | 0 => (1, 2)
  | i + 1 => ((lcP i).2, (lcP i).1 + (lcP i).2)
theorem count_ok : ((List.range 13).all fun n => decide ((lcP (n - 1)).1 = ccN n)) = true := by decide +kernel
theorem count_eq {n : Nat} (hn : n ≤ 12) : (lcP (n - 1)).1 = ccN n := of_decide_eq_true (List.all_eq_true.mp count_ok n (List.mem_range.mpr (by omega)))
def asW (n : Nat) (cs : List Int) : Nat → Nat → List Int → List Int
  | 0, _, R => R
  | f + 1, p, R => if n < p then R else if (p : Int) ∈ cs then asW n cs f (p + 1) R else asW n cs f (p + 2) ((R.set (p - 1) ((p : Int) + 1)).set p (p : Int))
def asR (n : Nat) (cs : List Int) : List Int := asW n cs (n + 1) 1 (roundsR n)
def mvC (n : Nat) (cs : List Int) : List Int := (roundsR n).filter fun p => !decide (p ∈ cs)
def exW (m : List Int) : Nat → List Int → List Int
  | 0, R => R
  | k + 1, R => ((exW m k R).set (m.getD (2 * k) 0 - 1).toNat (m.getD (2 * k + 1) 0)).set (m.getD (2 * k + 1) 0 - 1).toNat (m.getD (2 * k) 0)
def exR (n : Nat) (cs : List Int) : List Int := exW (mvC n cs) ((mvC n cs).length / 2) (roundsR n)
def asRowB (n : Nat) (cs : List Int) : Bool := decide (asR n cs = exR n cs) && (decide (mulR (asR n cs) (asR n cs) = roundsR n) && (decide ((asR n cs).length = n) && ((asR n cs).isPerm (roundsR n))))
theorem as_ok : ((List.range 13).all fun n => (genC (n + 1) n 0).all (asRowB n)) = true := by decide +kernel
theorem roundsR_row (n : Nat) : IsRow (roundsR n) n := by
  refine ⟨by simp [roundsR], ?_, fun x hx => ?_⟩
  · unfold roundsR
    exact List.Pairwise.map _ (fun a b (h : a ≠ b) => by omega) List.nodup_range
  · unfold roundsR at hx
    obtain ⟨i, hi, rfl⟩ := List.mem_map.mp hx
    have := List.mem_range.mp hi
    omega
theorem row_perm {r : List Int} {n : Nat} (p : r.Perm (roundsR n)) : IsRow r n :=
  ⟨by rw [p.length_eq]; exact (roundsR_row n).1, p.nodup_iff.mpr (roundsR_row n).2.1, fun x hx => (roundsR_row n).2.2 x (p.mem_iff.mp hx)⟩
theorem as_all {n : Nat} {cs : List Int} (hn : n ≤ 12) (hc : Chg n cs) : asR n cs = exR n cs ∧ mulR (asR n cs) (asR n cs) = roundsR n ∧ IsRow (asR n cs) n := by
  have h := chg_check as_ok hn hc
  unfold asRowB at h
  rw [Bool.and_eq_true, Bool.and_eq_true, Bool.and_eq_true, decide_eq_true_eq, decide_eq_true_eq] at h
  exact ⟨h.1, h.2.1, row_perm (List.isPerm_iff.mp h.2.2.2)⟩
end K8
end Kb
namespace Kb
namespace K8
theorem pos_ok : ((List.range 13).all fun n => n == 0 || !(changes n).isEmpty) = true := by decide +kernel
theorem sort_pos {n : Nat} (h1 : 1 ≤ n) (hn : n ≤ 12) : 0 < (sortL (lists n)).length ∧ (sortL (lists n)).length ≤ 1000 ∧ ∀ c ∈ sortL (lists n), Chg n c := by
  have h := List.all_eq_true.mp pos_ok n (List.mem_range.mpr (by omega))
  have l1 := (sortL_perm (lists n)).length_eq
  have l2 := (ch_perm h1 hn).1.length_eq
  have l3 := (ls_bd (n := n) (i := n + 1) hn (by omega)).1
  have l4 : (lists n).length ≤ 1000 := l3
  refine ⟨?_, by omega, fun c hc => (ch_perm h1 hn).2 c ((ch_perm h1 hn).1.mem_iff.mpr ((sortL_perm _).mem_iff.mp hc))⟩
  rw [Bool.or_eq_true, beq_iff_eq] at h
  rcases h with z | z
  · omega
  · cases e : changes n with
    | nil => rw [e] at z; exact nomatch z
    | cons x r => rw [e, List.length_cons] at l2; omega
end K8
end Kb
set_option Elab.async false
set_option linter.all false
set_option maxRecDepth 100000
set_option maxHeartbeats 4000000
namespace Kb
namespace K8
open PySem PySem.Spec PyProof.Rows L2 SX
local macro_rules | `(tactic| walk_at "tk") => `(tactic| first
  | assumption
  | ((with_reducible refine' sqT_of ?k); (case k => assumption))
  | ((with_reducible refine' sqT_ofD ?k); (case k => assumption))
  | ((with_reducible refine' noD_of ?k); (case k => assumption))
  | ((with_reducible refine' noD_same ?s ?k); (case s => assumption); (case k => walk_at "tk"))
  | ((with_reducible refine' sqL_of ?k); (case k => assumption))
  | ((with_reducible refine' sqT_same ?s ?k); (case s => assumption); (case k => walk_at "tk"))
  | ((with_reducible refine' sqL_same ?s ?k); (case s => assumption); (case k => walk_at "tk"))
  | ((with_reducible refine' sqT_but ?s ?t ?k); (case s => assumption); (case t => walk_at "tk"); (case k => walk_at "tk"))
  | ((with_reducible refine' sqL_but ?s ?t ?k); (case s => assumption); (case t => walk_at "ne"); (case k => walk_at "tk"))
  | ((with_reducible refine' sqL_of ?k); (case k => walk_at "tk"))
  | ((with_reducible refine' sqT_of ?k); (case k => walk_at "tk"))
  | ((with_reducible refine' at_same ?s ?k); (case s => assumption); (case k => walk_at "tk"))
  | ((with_reducible refine' at_but ?s ?t ?k); (case s => assumption); (case t => walk_at "ne"); (case k => walk_at "tk")))
local macro_rules | `(tactic| walk_at "ne") => `(tactic| first
  | assumption
  | (refine Ne.symm ?_; assumption)
  | exact ne_of_none (by assumption) (by assumption)
  | exact (ne_of_none (by assumption) (by assumption)).symm)
local macro_rules | `(tactic| walk_at "side") => `(tactic| first
  | assumption
  | omega
  | (simp only [sizeLine_eq, List.length_cons, List.length_nil, List.length_map]; omega)
  | (show _ ≤ sizeLine; decide))
local macro_rules | `(tactic| walk_at "kit") => `(tactic| first
  | (show kitB _ _ = some true; decide +kernel)
  | (show kitB _ _ = some false; decide +kernel))
local macro_rules | `(tactic| walk_at "rng") => `(tactic| first
  | (refine ⟨by omega, by omega, by omega, by omega⟩)
  | (refine ⟨by omega, by omega⟩)
  | ((simp only [List.length_map]); (refine ⟨by omega, by omega, by omega, by omega⟩))
  | ((simp only [List.length_map]); (refine ⟨by omega, by omega⟩)))
local macro_rules | `(tactic| walk_at "rd1") => `(tactic| first
  | with_reducible refine r_seq ?_
  | ((with_reducible refine' r_var ?k0 ?_); (case k0 => rfl))
  | with_reducible refine r_op ?_
  | with_reducible refine r_c ?_
  | with_reducible refine r_asg ?_
  | with_reducible refine r_name ?_
  | with_reducible refine r_cons ?_
  | with_reducible refine r_nil ?_
  | with_reducible refine r_CB ?_
  | with_reducible refine r_if ?_
  | with_reducible refine r_test ?_
  | with_reducible refine r_k ?_
  | with_reducible refine r_T ?_
  | with_reducible refine r_F ?_
  | with_reducible refine r_nT ?_
  | with_reducible refine r_nF ?_
  | with_reducible refine r_ret ?_
  | with_reducible refine r_drop ?_
  | with_reducible refine r_next ?_
  | with_reducible refine r_call ?_
  | with_reducible refine r_addI ?_
  | with_reducible refine r_subI ?_
  | with_reducible refine r_ltI ?_
  | with_reducible refine r_gtI ?_
  | with_reducible refine r_leI ?_
  | with_reducible refine r_geI ?_
  | with_reducible refine r_eqI ?_
  | with_reducible refine r_neI ?_
  | with_reducible refine r_int ?_
  | with_reducible refine r_abs ?_
  | with_reducible refine r_not ?_
  | with_reducible refine r_and ?_
  | with_reducible refine r_or ?_
  | with_reducible refine r_tru ?_
  | with_reducible refine r_truB ?_
  | with_reducible refine r_lst ?_
  | with_reducible refine r_tup ?_
  | with_reducible refine r_BM ?_
  | with_reducible refine r_BM0 ?_
  | with_reducible refine r_tyS ?_
  | with_reducible refine r_gsub ?_
  | with_reducible refine r_then ?_
  | with_reducible refine r_lstRg ?_
  | with_reducible refine r_tupRg ?_
  | with_reducible refine r_rg2 ?_
  | with_reducible refine r_rg1 ?_
  | with_reducible refine r_ii ?_
  | with_reducible refine r_i ?_
  | with_reducible refine r_ipI ?_
  | with_reducible refine r_un ?_
  | with_reducible refine r_neg ?_
  | with_reducible refine r_isN ?_
  | with_reducible refine r_notN ?_
  | with_reducible refine r_notV ?_
  | with_reducible refine r_pnot ?_
  | with_reducible refine r_pif ?_
  | with_reducible refine r_andV ?_
  | with_reducible refine r_orV ?_
  | with_reducible refine r_ifE ?_
  | with_reducible refine r_chain ?_
  | with_reducible refine r_sl ?_
  | with_reducible refine r_noPart ?_
  | with_reducible refine r_part ?_
  | with_reducible refine r_brk ?_
  | with_reducible refine r_cont ?_
  | with_reducible refine r_retN ?_
  | with_reducible refine r_truI ?_
  | with_reducible refine r_B ?_
  | with_reducible refine r_for ?_
  | with_reducible refine r_rng1 ?_
  | with_reducible refine r_rng2 ?_
  | with_reducible refine r_rng3 ?_
  | with_reducible refine r_body ?_
  | with_reducible refine r_lc ?_
  | with_reducible refine r_yes ?_
  | ((with_reducible refine' r_mod ?k0 ?_); (case k0 => walk_at "side"))
  | ((with_reducible refine' r_mulI ?k0 ?_); (case k0 => first | exact Or.inl ⟨by omega, by omega⟩ | exact Or.inr ⟨by omega, by omega⟩))
  | ((with_reducible refine' r_lenL ?k0 ?_); (case k0 => walk_at "tk"))
  | ((with_reducible refine' r_lenT ?k0 ?_); (case k0 => walk_at "tk"))
  | ((with_reducible refine' r_truL ?k0 ?_); (case k0 => walk_at "tk"))
  | ((with_reducible refine' r_truT ?k0 ?_); (case k0 => walk_at "tk"))
  | ((with_reducible refine' r_ixL ?k0 ?k1 ?_); (case k0 => walk_at "tk"); (case k1 => first | assumption | rfl))
  | ((with_reducible refine' r_ixT ?k0 ?k1 ?_); (case k0 => walk_at "tk"); (case k1 => first | assumption | rfl))
  | ((with_reducible refine' r_new ?k0 ?_); (case k0 => walk_at "side"))
  | ((with_reducible refine' r_tyL ?k0 ?_); (case k0 => walk_at "tk"))
  | ((with_reducible refine' r_append ?k0 ?k1 ?_); (case k0 => walk_at "tk"); (case k1 => walk_at "side"))
  | ((with_reducible refine' r_setL ?k0 ?k1 ?_); (case k0 => walk_at "tk"); (case k1 => first | assumption | rfl))
  | ((with_reducible refine' r_kTupL ?k0 ?_); (case k0 => walk_at "tk"))
  | ((with_reducible refine' r_kTupT ?k0 ?_); (case k0 => walk_at "tk"))
  | ((with_reducible refine' r_listL ?k0 ?_); (case k0 => walk_at "tk"))
  | ((with_reducible refine' r_listT ?k0 ?_); (case k0 => walk_at "tk"))
  | ((with_reducible refine' r_aug ?k0 ?_); (case k0 => rfl))
  | ((with_reducible refine' r_lenS ?k0 ?_); (case k0 => walk_at "side"))
  | ((with_reducible refine' r_pop ?k0 ?_); (case k0 => walk_at "tk"))
  | ((with_reducible refine' r_pr1 ?k0 ?_); (case k0 => walk_at "rng"))
  | ((with_reducible refine' r_pr2 ?k0 ?_); (case k0 => walk_at "rng"))
  | ((with_reducible refine' r_pr3d ?k0 ?_); (case k0 => walk_at "rng"))
  | ((with_reducible refine' r_isiI ?k0 ?_); (case k0 => walk_at "kit"))
  | ((with_reducible refine' r_isiB ?k0 ?_); (case k0 => walk_at "kit"))
  | ((with_reducible refine' r_isiS ?k0 ?_); (case k0 => walk_at "kit"))
  | ((with_reducible refine' r_isiN ?k0 ?_); (case k0 => walk_at "kit"))
  | ((with_reducible refine' r_isiT ?k0 ?k1 ?_); (case k0 => walk_at "tk"); (case k1 => walk_at "kit"))
  | ((with_reducible refine r_seqT ?_); (repeat (walk_at "rd1")); ((with_reducible refine' r_pseqT ?k0 ?_); (case k0 => walk_at "tk")))
  | ((with_reducible refine r_seqL ?_); (repeat (walk_at "rd1")); ((with_reducible refine' r_pseqL ?k0 ?_); (case k0 => walk_at "tk")))
  | ((with_reducible refine r_seqS ?_); (repeat (walk_at "rd1")); (with_reducible refine r_pseqS ?_)))
local macro_rules | `(tactic| walk_at "rd") => `(tactic| ((repeat (walk_at "rd1")); (try dsimp only)))
local macro_rules | `(tactic| walk_at "rd1") => `(tactic| first
  | with_reducible refine r_BMT ?_
  | with_reducible refine r_par ?_
  | with_reducible refine r_parV ?_
  | ((with_reducible refine' r_ptp ?k0 ?k1 ?_); (case k0 => walk_at "tk"); (case k1 => walk_at "tk"))
  | with_reducible refine r_eqS ?_
  | with_reducible refine r_neS ?_
  | with_reducible refine r_callW ?_
  | with_reducible refine r_try ?_
  | with_reducible refine r_enT ?_
  | ((with_reducible refine' r_pen ?k0 ?_); (case k0 => walk_at "tk")))
local macro_rules | `(tactic| walk_at "pl0") => `(tactic| first
  | assumption
  | exact pl_same (by assumption) (by assumption)
  | exact pl_same (by assumption) (pl_same (by assumption) (by assumption))
  | exact pl_same (by assumption) (pl_same (by assumption) (pl_same (by assumption) (by assumption))))
local macro_rules | `(tactic| walk_at "pl") => `(tactic| first
  | walk_at "pl0"
  | ((with_reducible refine' pl_butL ?s ?n ?k); (case s => assumption); (case n => walk_at "ne"); (case k => walk_at "pl"))
  | ((with_reducible refine' pl_same ?s ?k); (case s => assumption); (case k => walk_at "pl")))
local macro_rules | `(tactic| walk_at "ne") => `(tactic| first
  | exact ne_pl (by assumption) (by walk_at "pl0")
  | exact (ne_pl (by assumption) (by walk_at "pl0")).symm)
local macro_rules | `(tactic| walk_at "fr") => `(tactic| first
  | assumption
  | ((with_reducible refine' free_but ?b ?n ?h); (case h => assumption); (case n => walk_at "ne"); (case b => walk_at "but"))
  | ((with_reducible refine' Same.free ?b ?h); (case h => assumption); (case b => walk_at "same")))
local macro_rules | `(tactic| walk_at "but") => `(tactic| first
  | assumption
  | exact But.refl
  | ((with_reducible refine' But.trans ?a ?b); (case b => assumption); (case a => walk_at "but"))
  | ((with_reducible refine' But.trans ?a (Same.but ?b)); (case b => assumption); (case a => walk_at "but"))
  | ((with_reducible refine' but_via ?a ?b ?c); (case b => assumption); (case c => walk_at "fr"); (case a => walk_at "but")))
local macro_rules | `(tactic| walk_at "same") => `(tactic| first
  | assumption
  | exact Same.refl _
  | ((with_reducible refine' Same.trans ?a ?b); (case b => assumption); (case a => walk_at "same"))
  | ((with_reducible refine' same_but ?a ?b ?c); (case b => assumption); (case c => walk_at "fr"); (case a => walk_at "same")))
local macro_rules | `(tactic| walk_at "tk") => `(tactic| first
  | ((with_reducible refine' sqT_pl ?s ?t ?k); (case s => assumption); (case t => walk_at "pl0"); (case k => walk_at "tk"))
  | ((with_reducible refine' rp_same ?s ?k); (case s => assumption); (case k => walk_at "tk"))
  | ((with_reducible refine' rp_pl ?s ?t ?k); (case s => assumption); (case t => walk_at "pl0"); (case k => walk_at "tk")))
local macro_rules | `(tactic| walk_at "it") => `(tactic| first
  | assumption
  | ((with_reducible refine' sqI_1 ?k); (case k => assumption))
  | ((with_reducible refine' sqI_0 ?k); (case k => assumption))
  | ((with_reducible refine' sqI_of ?k); (case k => assumption))
  | ((with_reducible refine' sqI_D ?k); (case k => assumption))
  | ((with_reducible refine' sqT_same ?s ?k); (case s => assumption); (case k => walk_at "it"))
  | ((with_reducible refine' sqT_but ?s ?t ?k); (case s => assumption); (case t => assumption); (case k => walk_at "it"))
  | ((with_reducible refine' sqT_pl ?s ?t ?k); (case s => assumption); (case t => walk_at "pl0"); (case k => walk_at "it")))
local macro_rules | `(tactic| walk_at "sz") => `(tactic| first | omega | ((try simp only [List.length_cons, List.length_nil] at *); omega))
local macro_rules | `(tactic| walk_at "au1") => `(tactic| first
  | walk_at "rd1"
  | ((with_reducible refine' r_draw ?k0 ?k1 ?k2 ?_); (case k0 => walk_at "pl"); (case k1 => omega); (case k2 => omega); (intro _ _ _ _ _ _))
  | ((with_reducible refine' r_slN ?k0 ?_); (case k0 => walk_at "it"); (intro _ _ _ _ _ _))
  | ((with_reducible refine' r_catN ?k0 ?k1 ?k2 ?_); (case k0 => walk_at "it"); (case k1 => walk_at "it"); (case k2 => walk_at "sz"); (intro _ _ _ _ _ _))
  | ((with_reducible refine' r_pow ?k0 ?_); (case k0 => exact ⟨by decide, by decide, by decide⟩))
  | ((with_reducible refine' r_ixI ?k0 ?k1 ?k2 ?_); (case k0 => walk_at "it"); (case k1 => omega); (case k2 => omega); (intro _ _))
  | ((with_reducible refine' r_setI ?k0 ?k1 ?k2 ?_); (case k0 => walk_at "tk"); (case k1 => omega); (case k2 => omega); (intro _ _ _ _ _))
  | ((with_reducible refine' r_kTupI ?k0 ?_); (case k0 => walk_at "tk"); (intro _ _ _ _ _))
  | ((with_reducible refine' r_listI ?k0 ?_); (case k0 => walk_at "it"); (intro _ _ _ _ _))
  | (with_reducible refine r_revU ?_)
  | ((with_reducible refine' r_prevN ?k0 ?_); (case k0 => walk_at "it"); (intro _ _ _ _ _ _))
  | (intro _ _ _ _ _))
local macro_rules | `(tactic| walk_at "go") => `(tactic| ((repeat (walk_at "au1")); (first
  | ((with_reducible refine r_ite (fun _ => ?_) (fun _ => ?_)) <;> (walk_at "go"))
  | ((with_reducible refine r_iteN (fun _ => ?_) (fun _ => ?_)) <;> (walk_at "go"))
  | dsimp only
  | skip)))
/-- the values ys are tuples of ints, css -/
def TL (K : PySem.W.Frag) (H : Hp) (ys : List V) (css : List (List Int)) : Prop := ∃ bs : List VR, ys = bs.map (·.1) ∧ css = bs.map (·.2) ∧ ∀ b ∈ bs, ∃ t : Addr, b.1 = .ref t ∧ SqT K H t (b.2.map V.int)
section
variable {K : PySem.W.Frag} {ec : Str → Addr} {ns : List Str} {vs : List V} {H H' : Hp} {Q : VK} {E : XK} {ys zs : List V} {css dss : List (List Int)} {l a : Addr}
theorem TL.keep (k : TK K H H') (h : TL K H ys css) : TL K H' ys css := by
  obtain ⟨bs, e1, e2, h⟩ := h
  exact ⟨bs, e1, e2, fun b hb => by obtain ⟨t, e, s⟩ := h b hb; exact ⟨t, e, k _ _ s⟩⟩
theorem TL.same (s : Same H H') (h : TL K H ys css) : TL K H' ys css := h.keep (tk_same s)
theorem TL.but {xs : List V} (b : But l H H') (hl : H l = some (.lst xs)) (h : TL K H ys css) : TL K H' ys css := h.keep (tk_but b hl)
theorem TL.nil : TL K H [] [] := ⟨[], rfl, rfl, fun _ h => (nomatch h)⟩
theorem TL.app (h : TL K H ys css) (h2 : TL K H zs dss) : TL K H (ys ++ zs) (css ++ dss) := by
  obtain ⟨bs, rfl, rfl, h⟩ := h
  obtain ⟨ds, rfl, rfl, h2⟩ := h2
  refine ⟨bs ++ ds, List.map_append.symm, List.map_append.symm, fun b hb => ?_⟩
  rcases List.mem_append.mp hb with z | z
  · exact h b z
  · exact h2 b z
theorem TL.one {t : Addr} {c : List Int} (h : SqT K H t (c.map V.int)) : TL K H [.ref t] [c] := ⟨[(.ref t, c)], rfl, rfl, fun b hb => by rw [List.mem_singleton] at hb; subst hb; exact ⟨t, rfl, h⟩⟩
theorem TL.len (h : TL K H ys css) : ys.length = css.length := by
  obtain ⟨bs, rfl, rfl, h⟩ := h
  rw [List.length_map, List.length_map]
theorem TL.get {i : Nat} {x : V} (h : TL K H ys css) (hi : ys[i]? = some x) : ∃ (t : Addr) (c : List Int), x = .ref t ∧ css[i]? = some c ∧ SqT K H t (c.map V.int) := by
  obtain ⟨bs, rfl, rfl, h⟩ := h
  rw [List.getElem?_map] at hi
  obtain ⟨b, hb, rfl⟩ := Option.map_eq_some_iff.mp hi
  obtain ⟨t, e, s⟩ := h b (List.mem_of_getElem? hb)
  exact ⟨t, b.2, e, by rw [List.getElem?_map, hb]; rfl, s⟩
theorem TL.rp {p : Addr} (hp : SqT K H p ys) (h : TL K H ys css) : Rp K H (.ref p) (.tup (css.map fun c => .tup (c.map .int))) := by
  refine .tup hp ?_
  obtain ⟨bs, rfl, rfl, h⟩ := h
  clear hp
  induction bs with
  | nil => exact .nil
  | cons b bs ih =>
    obtain ⟨t, e, s⟩ := h b (by simp)
    refine .cons ?_ (ih fun c hc => h c (by simp [hc]))
    show Rp K H b.1 _
    rw [e]; exact rp_ints s
theorem TL.refs (h : TL K H ys css) : ∀ x ∈ ys, ∃ t : Addr, x = .ref t := fun x hx => by
  obtain ⟨bs, rfl, rfl, h⟩ := h
  obtain ⟨b, hb, rfl⟩ := List.mem_map.mp hx
  obtain ⟨t, e, _⟩ := h b hb
  exact ⟨t, e⟩
theorem r_sort0 (h : SqL K H a ys) (t : TL K H ys css) (k : ∀ p H' zs, H p = none → Same H H' → H' p = some (.lst zs) → TL K H' zs (sortL css) → Q (.ref p) H') : rSortRow0 K [.ref a] H Q := by
  obtain ⟨bs, rfl, rfl, ht⟩ := t
  refine ⟨a, bs, rfl, h, ht, fun p np => k p _ _ np (same_new np) upd_same ⟨bs.mergeSort rowLe, rfl, ?_, fun b hb => ?_⟩⟩
  · exact (List.map_mergeSort (f := fun b : VR => b.2) (r := rowLe) (fun a _ b _ => rfl)).symm
  · obtain ⟨t, e, s⟩ := ht b ((List.mergeSort_perm bs rowLe).mem_iff.mp hb)
    exact ⟨t, e, sqT_same (same_new np) s⟩
end
def sp_as_row (K : PySem.W.Frag) (ec : Str → Addr) : Sp := fun vs H Q E => ∃ (s : Int) (a : Addr) (cs : List Int), vs = [.int s, .ref a] ∧ SqT K H a (cs.map V.int) ∧ cs.length ≤ 100000 ∧ (¬ Stg s → noStage ec H E) ∧ (Stg s → isC s 0 cs = false → noChange ec H E) ∧
  (∀ n : Nat, s = (n : Int) → 1 ≤ n → n ≤ 12 → Chg n cs → ∀ p H', H p = none → Same H H' → SqT K H' p ((asR n cs).map V.int) → NoD H' p → Q (.ref p) H')
def sp_all_changes (K : PySem.W.Frag) (ec : Str → Addr) : Sp := fun vs H Q E => ∃ (s : Int), vs = [.int s] ∧ (¬ Stg s → noStage ec H E) ∧
  (∀ n : Nat, s = (n : Int) → 1 ≤ n → n ≤ 12 → ∀ p H' ys, H p = none → Same H H' → SqT K H' p ys → TL K H' ys (sortL (changes n)) → NoD H' p → Q (.ref p) H')
abbrev N_all_changes : List Str := ["stage", "before", "found", "place", "longer", "change"]
def t_all_changes (K : PySem.W.Frag) (ec : Str → Addr) (E : XK) : TS :=
  tSeq (tDrop ((tCallW (sp_check_stage K ec) (fun cls d _ H => E cls d H) (tCons (tVar 0) tNil))))
  (tSeq (tAsg ((tLst (tCons ((tTup tNil)) tNil))) (gName 1))
  (tSeq (tAsg ((tLst (tCons ((tTup (tCons ((tC (.int 1))) tNil))) tNil))) (gName 2))
  (tSeq (tFor (iRng2 (tCons ((tC (.int 2))) (tCons ((tOp (rAddU K) (tVar 0) ((tC (.int 1))))) tNil))) (gName 3) (tSeq (tAsg (tLc ((iSeqU K (tVar 2))) ((gName 5)) (tYes) ((tOp (rAddU K) (tVar 5) ((tTup (tCons (tVar 3) tNil))))) [5]) (gName 4))
  ((tPar 1 2 (tCons (tVar 2) (tCons ((tOp (rAddU K) (tVar 4) (tVar 1))) tNil))))))
  ((tRet ((tThen ((tCB (rSortRow0 K) (tCons (tVar 2) tNil))) (kTupD K))))))))
abbrev N_as_row : List Str := ["stage", "change", "row", "place"]
def t_as_row (K : PySem.W.Frag) (ec : Str → Addr) (E : XK) : TS :=
  tSeq (tDrop ((tCallW (sp_check_change K ec) (fun cls d _ H => E cls d H) (tCons (tVar 0) (tCons (tVar 1) tNil)))))
  (tSeq (tAsg ((tLstRg (tRg2 ((tC (.int 1))) ((tOp (rAddU K) (tVar 0) ((tC (.int 1)))))))) (gName 2))
  (tSeq (tAsg ((tC (.int 1))) (gName 3))
  (tSeq (tWhile ((tTest (tOp (rLeU K) (tVar 3) (tVar 0)))) ((tIfS ((tTest (tOp (rInU K) (tVar 3) (tVar 1)))) ((tAug 3 ((tC (.int 1))) (ipI fun i j => i + j))) (tSeq (tAsg ((tOp (rAddU K) (tVar 3) ((tC (.int 1))))) (gSub (tVar 2) ((tOp rSubU (tVar 3) ((tC (.int 1))))) rSetL))
  (tSeq (tAsg (tVar 3) (gSub (tVar 2) (tVar 3) rSetL))
  ((tAug 3 ((tC (.int 2))) (ipI fun i j => i + j))))))))
  ((tRet ((tThen (tVar 2) (kTupD K))))))))
section
variable {K : PySem.W.Frag} {ec : Str → Addr} {ns : List Str} {vs : List V} {H : Hp} {Q : VK} {E : XK}
theorem len_as_row (h : sp_as_row K ec vs H Q E) : vs.length = 2 := by obtain ⟨s, d, cs, rfl, _⟩ := h; rfl
theorem len_all_changes (h : sp_all_changes K ec vs H Q E) : vs.length = 1 := by obtain ⟨s, rfl, _⟩ := h; rfl
theorem r_inTI {m : Int} {l : Addr} {r : List Int} (h : SqT K H l (r.map V.int)) (q : Q (.bl (decide (m ∈ r))) H) : rInU K (.int m) (.ref l) H Q := by
  refine .inl ⟨l, _, rfl, .inr h, rfl, ?_, ?_⟩
  · rw [List.all_eq_true]
    intro x hx
    obtain ⟨i, _, rfl⟩ := List.mem_map.mp hx
    rfl
  · show Q (.bl (inV (.int m) (r.map V.int))) H
    have : inV (.int m) (r.map V.int) = decide (m ∈ r) := by
      show ((r.map V.int).any fun x => eqV x (.int m)) = _
      rw [List.any_map, Bool.eq_iff_iff, List.any_eq_true, decide_eq_true_eq]
      constructor
      · rintro ⟨x, hx, e⟩
        have : x = m := by simpa [eqV] using e
        subst this; exact hx
      · intro h
        exact ⟨m, h, by simp [eqV]⟩
    rw [this]; exact q
theorem chD_of {s : Int} {cs : List Int} : isChD s (.tup (cs.map Dat.int)) = isC s 0 cs := chD_ints
theorem pure_as_row (XS : Exs K ec ns) (h : sp_as_row K ec vs H Q E) : t_as_row K ec E (En Q) (start N_as_row vs) H := by
  obtain ⟨s, a, cs, rfl, ha, hl, qS, qC, q⟩ := h
  unfold t_as_row
  walk_at "rd"
  refine ⟨s, .ref a, _, rfl, rp_ints ha, by rw [size_row]; omega, fun hs hb H1 s1 => ?_, qS, fun hs hb => qC hs (by rw [← chD_of]; exact hb)⟩
  rw [chD_of] at hb
  obtain ⟨n, rfl⟩ : ∃ n : Nat, s = (n : Int) := ⟨s.toNat, by have := hs.1; omega⟩
  have n1 : 1 ≤ n := by have := hs.1; omega
  have n2 : n ≤ 12 := by have := hs.2; omega
  have hc : Chg n cs := hb
  have q := q n rfl n1 n2 hc
  walk_at "rd"
  refine r_new (RgOk.of_le (by omega) (by omega) (by omega) (by omega)) ?_
  intro l H2 nl s2 e2
  rw [rgV_rounds] at e2
  have nl0 := s1.free nl
  walk_at "rd"
  refine r_while (fun m σ' H' => ∃ (p f : Nat) (done r R : List Int), m = n + 3 - p ∧ p ≤ n + 2 ∧ σ' = [some (.int (n : Int)), some (.ref a), some (.ref l), some (.int (p : Int))] ∧ Same H1 H' ∧ H' l = some (.lst (R.map V.int)) ∧ 1 ≤ p ∧ n + 1 ≤ p + f ∧ R.length = n ∧
      cs = done ++ r ∧ (∀ x ∈ done, x < (p : Int)) ∧ isC n ((p : Int) - 1) r = true ∧ asW n cs f p R = asR n cs) (n + 2)
    ⟨1, n + 1, [], cs, roundsR n, by omega, by omega, rfl, s2, e2, by omega, by omega, (roundsR_row n).1, rfl, (fun _ h => (nomatch h)), hc, rfl⟩ (fun m σ' H' hW => ?_)
  obtain ⟨p, f, done, r, R, em, hp2, rfl, s3, e3, hp1, hf, hR, ecs, hd, hr, hA⟩ := hW
  walk_at "rd"
  refine r_ite (fun hp => ?_) (fun hp => ?_)
  · obtain ⟨f', rfl⟩ : ∃ f', f = f' + 1 := ⟨f - 1, by omega⟩
    have hA' : asW n cs (f' + 1) p R = if n < p then R else if (p : Int) ∈ cs then asW n cs f' (p + 1) R else asW n cs f' (p + 2) ((R.set (p - 1) ((p : Int) + 1)).set p (p : Int)) := rfl
    rw [hA', if_neg (by omega)] at hA
    have hmem : ∀ {x : Int} {r' : List Int} {last : Int}, isC n last r' = true → x ∈ r' → last < x ∧ x ≤ n := fun h hx => okC_mem (isC_iff.mp h).1 _ hx
    walk_at "rd"
    refine r_inTI (sqT_same (s1.trans s3) ha) ?_
    walk_at "rd"
    refine r_ite (fun hin => ?_) (fun hin => ?_)
    · rw [if_pos hin] at hA
      walk_at "rd"
      have hin' : (p : Int) ∈ r := by
        rw [ecs] at hin
        rcases List.mem_append.mp hin with z | z
        · have := hd _ z; omega
        · exact z
      cases r with
      | nil => exact nomatch hin'
      | cons y r' =>
        obtain ⟨c1, c2, c3, c4⟩ := isC_cons.mp hr
        have hy : y = (p : Int) := by
          rcases List.mem_cons.mp hin' with z | z
          · exact z.symm
          · have := (hmem c4 z).1; omega
        subst hy
        refine ⟨_, ?_, p + 1, f', done ++ [(p : Int)], r', R, rfl, by omega, rfl, s3, e3, by omega, by omega, hR, by rw [ecs, List.append_assoc]; rfl, fun x hx => ?_, ?_, hA⟩
        · omega
        · rcases List.mem_append.mp hx with z | z
          · have := hd x z; omega
          · rw [List.mem_singleton] at z; omega
        · rw [show (((p + 1 : Nat) : Int) - 1) = (p : Int) by omega]; exact c4
    · rw [if_neg hin] at hA
      have hnr : (p : Int) ∉ r := fun z => hin (by rw [ecs]; exact List.mem_append_right _ z)
      have hpn : p + 1 ≤ n ∧ isC n ((p : Int) + 1) r = true := by
        cases r with
        | nil =>
          have h0 : ((n : Int) - ((p : Int) - 1)) % 2 = 0 := by simpa [isC] using hr
          refine ⟨by omega, ?_⟩
          simp [isC]; omega
        | cons y r' =>
          obtain ⟨c1, c2, c3, c4⟩ := isC_cons.mp hr
          have : y ≠ (p : Int) := fun z => hnr (by rw [z]; simp)
          refine ⟨by omega, isC_cons.mpr ⟨by omega, c2, by omega, c4⟩⟩
      walk_at "rd"
      have ix1 : ixN (R.map V.int).length ((p : Int) - 1) = some (p - 1) := by
        unfold ixN
        rw [List.length_map, hR, if_pos (by omega), if_pos (by omega)]
        congr 1; omega
      refine r_setL e3 ix1 fun H4 b4 e4 => ?_
      walk_at "rd"
      have ix2 : ixN ((R.map V.int).set (p - 1) (.int ((p : Int) + 1))).length (p : Int) = some p := by
        unfold ixN
        rw [List.length_set, List.length_map, hR, if_pos (by omega), if_pos (by omega)]
        congr 1
      refine r_setL e4 ix2 fun H5 b5 e5 => ?_
      walk_at "rd"
      refine ⟨_, ?_, p + 2, f', done, r, (R.set (p - 1) ((p : Int) + 1)).set p (p : Int), rfl, by omega, rfl, same_but (same_but s3 b4 nl) b5 nl, ?_, by omega, by omega, by rw [List.length_set, List.length_set]; exact hR, ecs, fun x hx => ?_, ?_, hA⟩
      · omega
      · rw [e5, List.map_set, List.map_set]
      · have := hd x hx; omega
      · rw [show (((p + 2 : Nat) : Int) - 1) = (p : Int) + 1 by omega]; exact hpn.2
  · have hA' : R = asR n cs := by
      rw [← hA]
      cases f with
      | zero => rfl
      | succ f => show R = if n < p then R else _; rw [if_pos (by omega)]
    walk_at "rd"
    intro t H4 nt s4 e4
    exact q t H4 ((s1.trans s3).free nt) ((s1.trans s3).trans s4) (by rw [← hA']; exact sqT_ofD e4) (noD_of e4)
theorem pure_all_changes (XS : Exs K ec ns) (h : sp_all_changes K ec vs H Q E) : t_all_changes K ec E (En Q) (start N_all_changes vs) H := by
  obtain ⟨s, rfl, qS, q⟩ := h
  unfold t_all_changes
  walk_at "rd"
  refine ⟨s, rfl, fun hs => ?_, fun hs => qS hs⟩
  obtain ⟨n, rfl⟩ : ∃ n : Nat, s = (n : Int) := ⟨s.toNat, by have := hs.1; omega⟩
  have n1 : 1 ≤ n := by have := hs.1; omega
  have n2 : n ≤ 12 := by have := hs.2; omega
  have q := q n rfl n1 n2
  walk_at "rd"
  intro t0 H1 nt0 s1 e1
  walk_at "rd"
  intro l0 H2 nl0 s2 e2
  walk_at "rd"
  intro t1 H3 nt1 s3 e3
  walk_at "rd"
  intro l1 H4 nl1 s4 e4
  walk_at "rd"
  have e14 := s4 _ _ (s3 _ _ (s2 _ _ e1))
  have e24 := s4 _ _ (s3 _ _ e2)
  have e34 := s4 _ _ e3
  refine r_forRange (fun i σ' H' => ∃ (b f : Addr) (ys zs : List V) (z3 z4 : Option V), σ' = [some (.int (n : Int)), some (.ref b), some (.ref f), z3, z4, none] ∧ Same H H' ∧ H' b = some (.lst ys) ∧ TL K H' ys (acP i).1 ∧ H' f = some (.lst zs) ∧ TL K H' zs (acP i).2)
    ⟨l0, l1, [.ref t0], [.ref t1], none, none, rfl, ((s1.trans s2).trans s3).trans s4, e24, TL.one (c := []) (sqT_of e14), e4, TL.one (c := [1]) (sqT_of e34)⟩ (fun i σ' H' hi hW => ?_) (fun σ' H' hW => ?_)
  · obtain ⟨b, f, ys, zs, z3, z4, rfl, st, eb, tb, ef, tf⟩ := hW
    obtain ⟨bd1, bd2, bd3⟩ := ac_bd (i := i) (by omega)
    have ly := tb.len
    have lz := tf.len
    walk_at "rd"
    refine r_lcL (xs := zs) (fun D j H5 => H' D = none ∧ Same H' H5 ∧ ∃ ws : List V, H5 D = some (.lst ws) ∧ TL K H5 ws (((acP i).2.take j).map (· ++ [(2 : Int) + i]))) (fun _ => rfl)
      (fun D H5 nD s e => ⟨nD, s, [], e, TL.nil⟩) (fun D j H5 P => sqL_of (P.2.1 _ _ ef)) (fun D j x H5 hj P => ?_) (fun D H5 nD P => ?_)
    · obtain ⟨nD, s5, ws, e5, t5⟩ := P
      obtain ⟨t, c, rfl, hc, et⟩ := (tf.same s5).get hj
      have hjl : j < (acP i).2.length := (List.getElem?_eq_some_iff.mp hc).1
      have lw := t5.len
      rw [List.length_map, List.length_take] at lw
      have lc := bd3 c (List.mem_of_getElem? hc)
      refine r_yes (r_T ?_)
      walk_at "rd"
      intro u H6 nu s6 e6
      refine r_catII (sqT_same s6 et) (sqI_1 e6) (by simp; omega) fun v H7 s7 e7 => ?_
      have e57 := s7 _ _ (s6 _ _ e5)
      refine r_acc e57 (by omega) fun H8 b8 e8 => ⟨nD, same_but ((s5.trans s6).trans s7) b8 nD, _, e8, ?_⟩
      rw [List.take_add_one, hc, List.map_append]
      exact (((t5.same s6).same s7).app (TL.one e7)).but b8 e57
    · obtain ⟨nD, s5, ws, e5, t5⟩ := P
      have t5 : TL K H5 ws (((acP i).2.take zs.length).map (· ++ [(2 : Int) + i])) := t5
      rw [lz, List.take_length] at t5
      have lw := t5.len
      rw [List.length_map] at lw
      have eb5 := s5 _ _ eb
      walk_at "rd"
      refine r_catL e5 eb5 (by rw [sizeLine_eq]; omega) fun g H6 ng s6 e6 => ?_
      walk_at "rd"
      exact ⟨f, g, zs, ws ++ ys, _, _, rfl, (st.trans s5).trans s6, s6 _ _ (s5 _ _ ef), (tf.same s5).same s6, e6, (t5.same s6).app ((tb.same s5).same s6)⟩
  · obtain ⟨b, f, ys, zs, z3, z4, rfl, st, eb, tb, ef, tf⟩ := hW
    have hi : ((n : Int) + 1 - 2).toNat = n - 1 := by omega
    have tf : TL K H' zs (acP ((n : Int) + 1 - 2).toNat).2 := tf
    rw [hi] at tf
    walk_at "rd"
    refine r_sort0 (sqL_of ef) tf fun p H5 ws np s5 e5 t5 => ?_
    walk_at "rd"
    intro t H6 nt s6 e6
    exact q t H6 ws ((st.trans s5).free nt) ((st.trans s5).trans s6) (sqT_ofD e6) (t5.same s6) (noD_of e6)
end
end K8
end Kb
set_option Elab.async false
set_option linter.all false
set_option maxRecDepth 100000
set_option maxHeartbeats 4000000
namespace Kb
open PySem PySem.Spec PyProof.Rows L2 SX
local macro_rules | `(tactic| walk_at "tk") => `(tactic| first
  | assumption
  | ((with_reducible refine' sqT_of ?k); (case k => assumption))
  | ((with_reducible refine' sqT_ofD ?k); (case k => assumption))
  | ((with_reducible refine' noD_of ?k); (case k => assumption))
  | ((with_reducible refine' noD_same ?s ?k); (case s => assumption); (case k => walk_at "tk"))
  | ((with_reducible refine' sqL_of ?k); (case k => assumption))
  | ((with_reducible refine' sqT_same ?s ?k); (case s => assumption); (case k => walk_at "tk"))
  | ((with_reducible refine' sqL_same ?s ?k); (case s => assumption); (case k => walk_at "tk"))
  | ((with_reducible refine' sqT_but ?s ?t ?k); (case s => assumption); (case t => walk_at "tk"); (case k => walk_at "tk"))
  | ((with_reducible refine' sqL_but ?s ?t ?k); (case s => assumption); (case t => walk_at "ne"); (case k => walk_at "tk"))
  | ((with_reducible refine' sqL_of ?k); (case k => walk_at "tk"))
  | ((with_reducible refine' sqT_of ?k); (case k => walk_at "tk"))
  | ((with_reducible refine' at_same ?s ?k); (case s => assumption); (case k => walk_at "tk"))
  | ((with_reducible refine' at_but ?s ?t ?k); (case s => assumption); (case t => walk_at "ne"); (case k => walk_at "tk")))
local macro_rules | `(tactic| walk_at "ne") => `(tactic| first
  | assumption
  | (refine Ne.symm ?_; assumption)
  | exact ne_of_none (by assumption) (by assumption)
  | exact (ne_of_none (by assumption) (by assumption)).symm)
local macro_rules | `(tactic| walk_at "side") => `(tactic| first
  | assumption
  | omega
  | (simp only [sizeLine_eq, List.length_cons, List.length_nil, List.length_map]; omega)
  | (show _ ≤ sizeLine; decide))
local macro_rules | `(tactic| walk_at "kit") => `(tactic| first
  | (show kitB _ _ = some true; decide +kernel)
  | (show kitB _ _ = some false; decide +kernel))
local macro_rules | `(tactic| walk_at "rng") => `(tactic| first
  | (refine ⟨by omega, by omega, by omega, by omega⟩)
  | (refine ⟨by omega, by omega⟩)
  | ((simp only [List.length_map]); (refine ⟨by omega, by omega, by omega, by omega⟩))
  | ((simp only [List.length_map]); (refine ⟨by omega, by omega⟩)))
local macro_rules | `(tactic| walk_at "rd1") => `(tactic| first
  | with_reducible refine r_seq ?_
  | ((with_reducible refine' r_var ?k0 ?_); (case k0 => rfl))
  | with_reducible refine r_op ?_
  | with_reducible refine r_c ?_
  | with_reducible refine r_asg ?_
  | with_reducible refine r_name ?_
  | with_reducible refine r_cons ?_
  | with_reducible refine r_nil ?_
  | with_reducible refine r_CB ?_
  | with_reducible refine r_if ?_
  | with_reducible refine r_test ?_
  | with_reducible refine r_k ?_
  | with_reducible refine r_T ?_
  | with_reducible refine r_F ?_
  | with_reducible refine r_nT ?_
  | with_reducible refine r_nF ?_
  | with_reducible refine r_ret ?_
  | with_reducible refine r_drop ?_
  | with_reducible refine r_next ?_
  | with_reducible refine r_call ?_
  | with_reducible refine r_addI ?_
  | with_reducible refine r_subI ?_
  | with_reducible refine r_ltI ?_
  | with_reducible refine r_gtI ?_
  | with_reducible refine r_leI ?_
  | with_reducible refine r_geI ?_
  | with_reducible refine r_eqI ?_
  | with_reducible refine r_neI ?_
  | with_reducible refine r_int ?_
  | with_reducible refine r_abs ?_
  | with_reducible refine r_not ?_
  | with_reducible refine r_and ?_
  | with_reducible refine r_or ?_
  | with_reducible refine r_tru ?_
  | with_reducible refine r_truB ?_
  | with_reducible refine r_lst ?_
  | with_reducible refine r_tup ?_
  | with_reducible refine r_BM ?_
  | with_reducible refine r_BM0 ?_
  | with_reducible refine r_tyS ?_
  | with_reducible refine r_gsub ?_
  | with_reducible refine r_then ?_
  | with_reducible refine r_lstRg ?_
  | with_reducible refine r_tupRg ?_
  | with_reducible refine r_rg2 ?_
  | with_reducible refine r_rg1 ?_
  | with_reducible refine r_ii ?_
  | with_reducible refine r_i ?_
  | with_reducible refine r_ipI ?_
  | with_reducible refine r_un ?_
  | with_reducible refine r_neg ?_
  | with_reducible refine r_isN ?_
  | with_reducible refine r_notN ?_
  | with_reducible refine r_notV ?_
  | with_reducible refine r_pnot ?_
  | with_reducible refine r_pif ?_
  | with_reducible refine r_andV ?_
  | with_reducible refine r_orV ?_
  | with_reducible refine r_ifE ?_
  | with_reducible refine r_chain ?_
  | with_reducible refine r_sl ?_
  | with_reducible refine r_noPart ?_
  | with_reducible refine r_part ?_
  | with_reducible refine r_brk ?_
  | with_reducible refine r_cont ?_
  | with_reducible refine r_retN ?_
  | with_reducible refine r_truI ?_
  | with_reducible refine r_B ?_
  | with_reducible refine r_for ?_
  | with_reducible refine r_rng1 ?_
  | with_reducible refine r_rng2 ?_
  | with_reducible refine r_rng3 ?_
  | with_reducible refine r_body ?_
  | with_reducible refine r_lc ?_
  | with_reducible refine r_yes ?_
  | ((with_reducible refine' r_mod ?k0 ?_); (case k0 => walk_at "side"))
  | ((with_reducible refine' r_mulI ?k0 ?_); (case k0 => first | exact Or.inl ⟨by omega, by omega⟩ | exact Or.inr ⟨by omega, by omega⟩))
  | ((with_reducible refine' r_lenL ?k0 ?_); (case k0 => walk_at "tk"))
  | ((with_reducible refine' r_lenT ?k0 ?_); (case k0 => walk_at "tk"))
  | ((with_reducible refine' r_truL ?k0 ?_); (case k0 => walk_at "tk"))
  | ((with_reducible refine' r_truT ?k0 ?_); (case k0 => walk_at "tk"))
  | ((with_reducible refine' r_ixL ?k0 ?k1 ?_); (case k0 => walk_at "tk"); (case k1 => first | assumption | rfl))
  | ((with_reducible refine' r_ixT ?k0 ?k1 ?_); (case k0 => walk_at "tk"); (case k1 => first | assumption | rfl))
  | ((with_reducible refine' r_new ?k0 ?_); (case k0 => walk_at "side"))
  | ((with_reducible refine' r_tyL ?k0 ?_); (case k0 => walk_at "tk"))
  | ((with_reducible refine' r_append ?k0 ?k1 ?_); (case k0 => walk_at "tk"); (case k1 => walk_at "side"))
  | ((with_reducible refine' r_setL ?k0 ?k1 ?_); (case k0 => walk_at "tk"); (case k1 => first | assumption | rfl))
  | ((with_reducible refine' r_kTupL ?k0 ?_); (case k0 => walk_at "tk"))
  | ((with_reducible refine' r_kTupT ?k0 ?_); (case k0 => walk_at "tk"))
  | ((with_reducible refine' r_listL ?k0 ?_); (case k0 => walk_at "tk"))
  | ((with_reducible refine' r_listT ?k0 ?_); (case k0 => walk_at "tk"))
  | ((with_reducible refine' r_aug ?k0 ?_); (case k0 => rfl))
  | ((with_reducible refine' r_lenS ?k0 ?_); (case k0 => walk_at "side"))
  | ((with_reducible refine' r_pop ?k0 ?_); (case k0 => walk_at "tk"))
  | ((with_reducible refine' r_pr1 ?k0 ?_); (case k0 => walk_at "rng"))
  | ((with_reducible refine' r_pr2 ?k0 ?_); (case k0 => walk_at "rng"))
  | ((with_reducible refine' r_pr3d ?k0 ?_); (case k0 => walk_at "rng"))
  | ((with_reducible refine' r_isiI ?k0 ?_); (case k0 => walk_at "kit"))
  | ((with_reducible refine' r_isiB ?k0 ?_); (case k0 => walk_at "kit"))
  | ((with_reducible refine' r_isiS ?k0 ?_); (case k0 => walk_at "kit"))
  | ((with_reducible refine' r_isiN ?k0 ?_); (case k0 => walk_at "kit"))
  | ((with_reducible refine' r_isiT ?k0 ?k1 ?_); (case k0 => walk_at "tk"); (case k1 => walk_at "kit"))
  | ((with_reducible refine r_seqT ?_); (repeat (walk_at "rd1")); ((with_reducible refine' r_pseqT ?k0 ?_); (case k0 => walk_at "tk")))
  | ((with_reducible refine r_seqL ?_); (repeat (walk_at "rd1")); ((with_reducible refine' r_pseqL ?k0 ?_); (case k0 => walk_at "tk")))
  | ((with_reducible refine r_seqS ?_); (repeat (walk_at "rd1")); (with_reducible refine r_pseqS ?_)))
local macro_rules | `(tactic| walk_at "rd") => `(tactic| ((repeat (walk_at "rd1")); (try dsimp only)))
local macro_rules | `(tactic| walk_at "rd1") => `(tactic| first
  | with_reducible refine r_BMT ?_
  | with_reducible refine r_par ?_
  | with_reducible refine r_parV ?_
  | ((with_reducible refine' r_ptp ?k0 ?k1 ?_); (case k0 => walk_at "tk"); (case k1 => walk_at "tk"))
  | with_reducible refine r_eqS ?_
  | with_reducible refine r_neS ?_
  | with_reducible refine r_callW ?_
  | with_reducible refine r_try ?_
  | with_reducible refine r_enT ?_
  | ((with_reducible refine' r_pen ?k0 ?_); (case k0 => walk_at "tk")))
local macro_rules | `(tactic| walk_at "pl0") => `(tactic| first
  | assumption
  | exact pl_same (by assumption) (by assumption)
  | exact pl_same (by assumption) (pl_same (by assumption) (by assumption))
  | exact pl_same (by assumption) (pl_same (by assumption) (pl_same (by assumption) (by assumption))))
local macro_rules | `(tactic| walk_at "pl") => `(tactic| first
  | walk_at "pl0"
  | ((with_reducible refine' pl_butL ?s ?n ?k); (case s => assumption); (case n => walk_at "ne"); (case k => walk_at "pl"))
  | ((with_reducible refine' pl_same ?s ?k); (case s => assumption); (case k => walk_at "pl")))
local macro_rules | `(tactic| walk_at "ne") => `(tactic| first
  | exact ne_pl (by assumption) (by walk_at "pl0")
  | exact (ne_pl (by assumption) (by walk_at "pl0")).symm)
local macro_rules | `(tactic| walk_at "fr") => `(tactic| first
  | assumption
  | ((with_reducible refine' free_but ?b ?n ?h); (case h => assumption); (case n => walk_at "ne"); (case b => walk_at "but"))
  | ((with_reducible refine' Same.free ?b ?h); (case h => assumption); (case b => walk_at "same")))
local macro_rules | `(tactic| walk_at "but") => `(tactic| first
  | assumption
  | exact But.refl
  | ((with_reducible refine' But.trans ?a ?b); (case b => assumption); (case a => walk_at "but"))
  | ((with_reducible refine' But.trans ?a (Same.but ?b)); (case b => assumption); (case a => walk_at "but"))
  | ((with_reducible refine' but_via ?a ?b ?c); (case b => assumption); (case c => walk_at "fr"); (case a => walk_at "but")))
local macro_rules | `(tactic| walk_at "same") => `(tactic| first
  | assumption
  | exact Same.refl _
  | ((with_reducible refine' Same.trans ?a ?b); (case b => assumption); (case a => walk_at "same"))
  | ((with_reducible refine' same_but ?a ?b ?c); (case b => assumption); (case c => walk_at "fr"); (case a => walk_at "same")))
local macro_rules | `(tactic| walk_at "tk") => `(tactic| first
  | ((with_reducible refine' sqT_pl ?s ?t ?k); (case s => assumption); (case t => walk_at "pl0"); (case k => walk_at "tk"))
  | ((with_reducible refine' rp_same ?s ?k); (case s => assumption); (case k => walk_at "tk"))
  | ((with_reducible refine' rp_pl ?s ?t ?k); (case s => assumption); (case t => walk_at "pl0"); (case k => walk_at "tk")))
local macro_rules | `(tactic| walk_at "it") => `(tactic| first
  | assumption
  | ((with_reducible refine' sqI_1 ?k); (case k => assumption))
  | ((with_reducible refine' sqI_0 ?k); (case k => assumption))
  | ((with_reducible refine' sqI_of ?k); (case k => assumption))
  | ((with_reducible refine' sqI_D ?k); (case k => assumption))
  | ((with_reducible refine' sqT_same ?s ?k); (case s => assumption); (case k => walk_at "it"))
  | ((with_reducible refine' sqT_but ?s ?t ?k); (case s => assumption); (case t => assumption); (case k => walk_at "it"))
  | ((with_reducible refine' sqT_pl ?s ?t ?k); (case s => assumption); (case t => walk_at "pl0"); (case k => walk_at "it")))
local macro_rules | `(tactic| walk_at "sz") => `(tactic| first | omega | ((try simp only [List.length_cons, List.length_nil] at *); omega))
local macro_rules | `(tactic| walk_at "au1") => `(tactic| first
  | walk_at "rd1"
  | ((with_reducible refine' r_draw ?k0 ?k1 ?k2 ?_); (case k0 => walk_at "pl"); (case k1 => omega); (case k2 => omega); (intro _ _ _ _ _ _))
  | ((with_reducible refine' r_slN ?k0 ?_); (case k0 => walk_at "it"); (intro _ _ _ _ _ _))
  | ((with_reducible refine' r_catN ?k0 ?k1 ?k2 ?_); (case k0 => walk_at "it"); (case k1 => walk_at "it"); (case k2 => walk_at "sz"); (intro _ _ _ _ _ _))
  | ((with_reducible refine' r_pow ?k0 ?_); (case k0 => exact ⟨by decide, by decide, by decide⟩))
  | ((with_reducible refine' r_ixI ?k0 ?k1 ?k2 ?_); (case k0 => walk_at "it"); (case k1 => omega); (case k2 => omega); (intro _ _))
  | ((with_reducible refine' r_setI ?k0 ?k1 ?k2 ?_); (case k0 => walk_at "tk"); (case k1 => omega); (case k2 => omega); (intro _ _ _ _ _))
  | ((with_reducible refine' r_kTupI ?k0 ?_); (case k0 => walk_at "tk"); (intro _ _ _ _ _))
  | ((with_reducible refine' r_listI ?k0 ?_); (case k0 => walk_at "it"); (intro _ _ _ _ _))
  | (with_reducible refine r_revU ?_)
  | ((with_reducible refine' r_prevN ?k0 ?_); (case k0 => walk_at "it"); (intro _ _ _ _ _ _))
  | (intro _ _ _ _ _))
local macro_rules | `(tactic| walk_at "go") => `(tactic| ((repeat (walk_at "au1")); (first
  | ((with_reducible refine r_ite (fun _ => ?_) (fun _ => ?_)) <;> (walk_at "go"))
  | ((with_reducible refine r_iteN (fun _ => ?_) (fun _ => ?_)) <;> (walk_at "go"))
  | dsimp only
  | skip)))
def sp_law_bent (K : PySem.W.Frag) : Sp := fun vs H Q _ => ∃ (p a : Addr) (ns : List Int), vs = [.ref p, .ref a] ∧ Pl H p ∧ SqT K H a (ns.map V.int) ∧ ns.length ≤ 100 ∧ ∀ b H' ms, But p H H' → Pl H' p → SqT K H' b ((ms : List Int).map V.int) → ms.length ≤ 300 → Q (.ref b) H'
def sp_law_near (K : PySem.W.Frag) : Sp := fun vs H Q _ => ∃ (p a : Addr) (n : Nat) (ns : List Int), vs = [.ref p, .int (n : Int), .ref a] ∧ Pl H p ∧ n ≤ 12 ∧ SqT K H a (ns.map V.int) ∧ ns.length ≤ 100 ∧ ∀ b H' ms, But p H H' → Pl H' p → SqT K H' b ((ms : List Int).map V.int) → ms.length ≤ 500 → Q (.ref b) H'
abbrev N_law_bent : List Str := ["pool", "part", "at", "other", "way", "turned"]
def t_law_bent (K : PySem.W.Frag) : TS :=
  tSeq (tIfS ((tTest (tOp (rEqU K) ((tCB (rLenU K) (tCons (tVar 1) tNil))) ((tC (.int 0)))))) ((tRet ((tTup (tCons ((tC (.int 0))) tNil))))) (tNext))
  (tSeq (tAsg ((tCall (sp_law_draw K) [] E0 (tCons (tVar 0) (tCons ((tCB (rLenU K) (tCons (tVar 1) tNil))) tNil)))) (gName 2))
  (tSeq (tAsg ((tCall (sp_law_draw K) [] E0 (tCons (tVar 0) (tCons ((tCB (rLenU K) (tCons (tVar 1) tNil))) tNil)))) (gName 3))
  (tSeq (tAsg ((tCall (sp_law_draw K) [] E0 (tCons (tVar 0) (tCons ((tC (.int 4))) tNil)))) (gName 4))
  (tSeq (tIfS ((tTest (tOp (rEqU K) (tVar 4) ((tC (.int 0)))))) ((tRet ((tOp (rAddU K) ((tSl (rSlU K) (tVar 1) tNoPart (tPart (tVar 2)))) ((tSl (rSlU K) (tVar 1) (tPart ((tOp (rAddU K) (tVar 2) ((tC (.int 1)))))) tNoPart)))))) (tNext))
  (tSeq (tIfS ((tTest (tOp (rEqU K) (tVar 4) ((tC (.int 1)))))) ((tRet ((tOp (rAddU K) ((tSl (rSlU K) (tVar 1) tNoPart (tPart ((tOp (rAddU K) (tVar 2) ((tC (.int 1)))))))) ((tSl (rSlU K) (tVar 1) (tPart (tVar 2)) tNoPart)))))) (tNext))
  (tSeq (tIfS ((tTest (tOp (rEqU K) (tVar 4) ((tC (.int 2)))))) (tSeq (tAsg ((tCB (rListU K) (tCons (tVar 1) tNil))) (gName 5))
  (tSeq (tAsg ((tOp (rIx K) (tVar 1) (tVar 3))) (gSub (tVar 5) (tVar 2) rSetL))
  (tSeq (tAsg ((tOp (rIx K) (tVar 1) (tVar 2))) (gSub (tVar 5) (tVar 3) rSetL))
  ((tRet ((tThen (tVar 5) (kTupD K)))))))) (tNext))
  ((tRet ((tOp (rAddU K) (tVar 1) ((tTup (tCons ((tCall (sp_law_draw K) [] E0 (tCons (tVar 0) (tCons ((tC (.int 3))) tNil)))) tNil)))))))))))))
abbrev N_law_near : List Str := ["pool", "stage", "change", "way", "at", "number", "step", "place", "k"]
def t_law_near (K : PySem.W.Frag) : TS :=
  tSeq (tAsg ((tCall (sp_law_draw K) [] E0 (tCons (tVar 0) (tCons ((tC (.int 10))) tNil)))) (gName 3))
  (tSeq (tAsg ((tCall (sp_law_draw K) [] E0 (tCons (tVar 0) (tCons ((tOp (rAddU K) ((tCB (rLenU K) (tCons (tVar 2) tNil))) ((tC (.int 1))))) tNil)))) (gName 4))
  (tSeq (tAsg ((tOp rSubU ((tCall (sp_law_draw K) [] E0 (tCons (tVar 0) (tCons ((tOp (rAddU K) (tVar 1) ((tC (.int 3))))) tNil)))) ((tC (.int 1))))) (gName 5))
  (tSeq (tIfS ((tTest (tOp (rEqU K) (tVar 3) ((tC (.int 0)))))) ((tRet ((tCall (sp_law_bent K) [] E0 (tCons (tVar 0) (tCons (tVar 2) tNil)))))) (tNext))
  (tSeq (tIfS ((tTest (tOp (rEqU K) (tVar 3) ((tC (.int 1)))))) ((tRet ((tOp (rAddU K) ((tOp (rAddU K) ((tSl (rSlU K) (tVar 2) tNoPart (tPart (tVar 4)))) ((tTup (tCons (tVar 5) tNil))))) ((tSl (rSlU K) (tVar 2) (tPart ((tOp (rAddU K) (tVar 4) ((tC (.int 1)))))) tNoPart)))))) (tNext))
  (tSeq (tIfS ((tTest (tOp (rEqU K) (tVar 3) ((tC (.int 2)))))) ((tRet ((tOp (rAddU K) ((tOp (rAddU K) ((tSl (rSlU K) (tVar 2) tNoPart (tPart (tVar 4)))) ((tTup (tCons (tVar 5) tNil))))) ((tSl (rSlU K) (tVar 2) (tPart (tVar 4)) tNoPart)))))) (tNext))
  (tSeq (tIfS ((tTest (tOp (rEqU K) (tVar 3) ((tC (.int 3)))))) ((tRet ((tOp (rAddU K) ((tSl (rSlU K) (tVar 2) tNoPart (tPart (tVar 4)))) ((tSl (rSlU K) (tVar 2) (tPart ((tOp (rAddU K) (tVar 4) ((tC (.int 1)))))) tNoPart)))))) (tNext))
  (tSeq (tIfS ((tTest (tOp (rEqU K) (tVar 3) ((tC (.int 4)))))) ((tRet ((tOp (rAddU K) ((tSl (rSlU K) (tVar 2) tNoPart (tPart (tVar 4)))) ((tSl (rSlU K) (tVar 2) (tPart ((tOp (rAddU K) (tVar 4) ((tC (.int 2)))))) tNoPart)))))) (tNext))
  (tSeq (tIfS ((tTest (tOp (rEqU K) (tVar 3) ((tC (.int 5)))))) (tSeq (tAsg ((tOp rSubU ((tC (.int 1))) ((tOp (rMulU K) ((tC (.int 2))) ((tCall (sp_law_draw K) [] E0 (tCons (tVar 0) (tCons ((tC (.int 2))) tNil)))))))) (gName 6))
  ((tRet ((tThen ((tLc ((iSeqU K (tVar 2))) ((gName 7)) (tYes) ((tOp (rAddU K) (tVar 7) (tVar 6))) [7])) (kTupD K)))))) (tNext))
  (tSeq (tIfS ((tTest (tOp (rEqU K) (tVar 3) ((tC (.int 6)))))) ((tRet ((tRevU K (tVar 2) (tPart ((tUn (rU fun i => .int (-i)) ((tC (.int 1)))))))))) (tNext))
  (tSeq (tIfS ((tTest (tOp (rEqU K) (tVar 3) ((tC (.int 7)))))) ((tRet ((tOp (rAddU K) (tVar 2) ((tTup (tCons ((tOp (rAddU K) ((tOp rPowU ((tC (.int 10))) ((tC (.int 20))))) (tVar 5))) tNil))))))) (tNext))
  (tSeq (tIfS ((tTest (tOp (rEqU K) (tVar 3) ((tC (.int 8)))))) ((tRet ((tCall (sp_law_change_draw K) [] E0 (tCons (tVar 0) (tCons ((tOp (rAddU K) ((tC (.int 1))) ((tCall (sp_law_draw K) [] E0 (tCons (tVar 0) (tCons ((tC (.int 12))) tNil)))))) tNil)))))) (tNext))
  ((tRet ((tThen ((tLc ((iRng1 (tCons ((tCall (sp_law_draw K) [] E0 (tCons (tVar 0) (tCons ((tC (.int 8))) tNil)))) tNil))) ((gName 8)) (tYes) ((tOp rSubU ((tCall (sp_law_draw K) [] E0 (tCons (tVar 0) (tCons ((tC (.int 15))) tNil)))) ((tC (.int 1))))) [8])) (kTupD K))))))))))))))))
section
variable {K : PySem.W.Frag} {ec : Str → Addr} {vs : List V} {H : Hp} {Q : VK} {E : XK}
theorem len_law_bent (h : sp_law_bent K vs H Q E) : vs.length = 2 := by obtain ⟨s, d, cs, rfl, _⟩ := h; rfl
theorem len_law_near (h : sp_law_near K vs H Q E) : vs.length = 3 := by obtain ⟨s, d, n, cs, rfl, _⟩ := h; rfl
theorem pure_law_bent (h : sp_law_bent K vs H Q E) : t_law_bent K (En Q) (start N_law_bent vs) H := by
  obtain ⟨p, a, ns, rfl, hp, ha, hl, q⟩ := h
  have hm : (ns.map V.int).length = ns.length := List.length_map ..
  unfold t_law_bent
  walk_at "go"
  all_goals exact q _ _ _ (by walk_at "but") (by walk_at "pl") (by walk_at "it") (by walk_at "sz")
theorem pure_law_near (h : sp_law_near K vs H Q E) : t_law_near K (En Q) (start N_law_near vs) H := by
  obtain ⟨p, a, n, ns, rfl, hp, hn, ha, hl, q⟩ := h
  have hm : (ns.map V.int).length = ns.length := List.length_map ..
  unfold t_law_near
  walk_at "go"
  all_goals (try exact q _ _ _ (by walk_at "but") (by walk_at "pl") (by walk_at "it") (by walk_at "sz"))
  · exact ⟨p, a, ns, rfl, by walk_at "pl", by walk_at "it", hl, fun b H' ms b1 p1 e1 l1 => q b H' ms (by walk_at "but") p1 e1 (by omega)⟩
  · rename_i v H1 v0 v1 b1 p1
    refine r_lcN (by walk_at "it") (by omega) (fun x => ⟨x + (1 - 2 * v), fun H1 Q' k => ?_⟩) fun t H' ms nt s e hl' => ?_
    · repeat (walk_at "au1")
      exact k
    · walk_at "go"
      exact q _ _ _ (by walk_at "but") (by walk_at "pl") (by walk_at "it") (by walk_at "sz")
  · rename_i v H1 v0 v1 b1 p1
    refine ⟨p, (1 + v).toNat, by rw [show (((1 + v).toNat : Nat) : Int) = 1 + v by omega]; rfl, p1, by omega, by omega, fun t H' cs nt b2 p2 e2 hc => ?_⟩
    have := hc.len (by omega)
    exact q t H' cs (by walk_at "but") p2 e2 (by omega)
  · rename_i v H1 v0 v1 b1 p1
    refine r_lcDr p1 (by omega) (fun x H2 Q' b2 p2 k => ?_) fun t H' ms nt b2 p2 e2 hl' => ?_
    · repeat (walk_at "au1")
      exact k _ _ (by walk_at "but") (by walk_at "pl")
    · walk_at "go"
      exact q _ _ _ (by walk_at "but") (by walk_at "pl") (by walk_at "it") (by walk_at "sz")
end
end Kb
set_option Elab.async false
set_option linter.all false
set_option maxRecDepth 100000
set_option maxHeartbeats 4000000
namespace Kb
namespace K8
open PySem PySem.Spec PyProof.Rows L2 SX
local macro_rules | `(tactic| walk_at "tk") => `(tactic| first
  | assumption
  | ((with_reducible refine' sqT_of ?k); (case k => assumption))
  | ((with_reducible refine' sqT_ofD ?k); (case k => assumption))
  | ((with_reducible refine' noD_of ?k); (case k => assumption))
  | ((with_reducible refine' noD_same ?s ?k); (case s => assumption); (case k => walk_at "tk"))
  | ((with_reducible refine' sqL_of ?k); (case k => assumption))
  | ((with_reducible refine' sqT_same ?s ?k); (case s => assumption); (case k => walk_at "tk"))
  | ((with_reducible refine' sqL_same ?s ?k); (case s => assumption); (case k => walk_at "tk"))
  | ((with_reducible refine' sqT_but ?s ?t ?k); (case s => assumption); (case t => walk_at "tk"); (case k => walk_at "tk"))
  | ((with_reducible refine' sqL_but ?s ?t ?k); (case s => assumption); (case t => walk_at "ne"); (case k => walk_at "tk"))
  | ((with_reducible refine' sqL_of ?k); (case k => walk_at "tk"))
  | ((with_reducible refine' sqT_of ?k); (case k => walk_at "tk"))
  | ((with_reducible refine' at_same ?s ?k); (case s => assumption); (case k => walk_at "tk"))
  | ((with_reducible refine' at_but ?s ?t ?k); (case s => assumption); (case t => walk_at "ne"); (case k => walk_at "tk")))
local macro_rules | `(tactic| walk_at "ne") => `(tactic| first
  | assumption
  | (refine Ne.symm ?_; assumption)
  | exact ne_of_none (by assumption) (by assumption)
  | exact (ne_of_none (by assumption) (by assumption)).symm)
local macro_rules | `(tactic| walk_at "side") => `(tactic| first
  | assumption
  | omega
  | (simp only [sizeLine_eq, List.length_cons, List.length_nil, List.length_map]; omega)
  | (show _ ≤ sizeLine; decide))
local macro_rules | `(tactic| walk_at "kit") => `(tactic| first
  | (show kitB _ _ = some true; decide +kernel)
  | (show kitB _ _ = some false; decide +kernel))
local macro_rules | `(tactic| walk_at "rng") => `(tactic| first
  | (refine ⟨by omega, by omega, by omega, by omega⟩)
  | (refine ⟨by omega, by omega⟩)
  | ((simp only [List.length_map]); (refine ⟨by omega, by omega, by omega, by omega⟩))
  | ((simp only [List.length_map]); (refine ⟨by omega, by omega⟩)))
local macro_rules | `(tactic| walk_at "rd1") => `(tactic| first
  | with_reducible refine r_seq ?_
  | ((with_reducible refine' r_var ?k0 ?_); (case k0 => rfl))
  | with_reducible refine r_op ?_
  | with_reducible refine r_c ?_
  | with_reducible refine r_asg ?_
  | with_reducible refine r_name ?_
  | with_reducible refine r_cons ?_
  | with_reducible refine r_nil ?_
  | with_reducible refine r_CB ?_
  | with_reducible refine r_if ?_
  | with_reducible refine r_test ?_
  | with_reducible refine r_k ?_
  | with_reducible refine r_T ?_
  | with_reducible refine r_F ?_
  | with_reducible refine r_nT ?_
  | with_reducible refine r_nF ?_
  | with_reducible refine r_ret ?_
  | with_reducible refine r_drop ?_
  | with_reducible refine r_next ?_
  | with_reducible refine r_call ?_
  | with_reducible refine r_addI ?_
  | with_reducible refine r_subI ?_
  | with_reducible refine r_ltI ?_
  | with_reducible refine r_gtI ?_
  | with_reducible refine r_leI ?_
  | with_reducible refine r_geI ?_
  | with_reducible refine r_eqI ?_
  | with_reducible refine r_neI ?_
  | with_reducible refine r_int ?_
  | with_reducible refine r_abs ?_
  | with_reducible refine r_not ?_
  | with_reducible refine r_and ?_
  | with_reducible refine r_or ?_
  | with_reducible refine r_tru ?_
  | with_reducible refine r_truB ?_
  | with_reducible refine r_lst ?_
  | with_reducible refine r_tup ?_
  | with_reducible refine r_BM ?_
  | with_reducible refine r_BM0 ?_
  | with_reducible refine r_tyS ?_
  | with_reducible refine r_gsub ?_
  | with_reducible refine r_then ?_
  | with_reducible refine r_lstRg ?_
  | with_reducible refine r_tupRg ?_
  | with_reducible refine r_rg2 ?_
  | with_reducible refine r_rg1 ?_
  | with_reducible refine r_ii ?_
  | with_reducible refine r_i ?_
  | with_reducible refine r_ipI ?_
  | with_reducible refine r_un ?_
  | with_reducible refine r_neg ?_
  | with_reducible refine r_isN ?_
  | with_reducible refine r_notN ?_
  | with_reducible refine r_notV ?_
  | with_reducible refine r_pnot ?_
  | with_reducible refine r_pif ?_
  | with_reducible refine r_andV ?_
  | with_reducible refine r_orV ?_
  | with_reducible refine r_ifE ?_
  | with_reducible refine r_chain ?_
  | with_reducible refine r_sl ?_
  | with_reducible refine r_noPart ?_
  | with_reducible refine r_part ?_
  | with_reducible refine r_brk ?_
  | with_reducible refine r_cont ?_
  | with_reducible refine r_retN ?_
  | with_reducible refine r_truI ?_
  | with_reducible refine r_B ?_
  | with_reducible refine r_for ?_
  | with_reducible refine r_rng1 ?_
  | with_reducible refine r_rng2 ?_
  | with_reducible refine r_rng3 ?_
  | with_reducible refine r_body ?_
  | with_reducible refine r_lc ?_
  | with_reducible refine r_yes ?_
  | ((with_reducible refine' r_mod ?k0 ?_); (case k0 => walk_at "side"))
  | ((with_reducible refine' r_mulI ?k0 ?_); (case k0 => first | exact Or.inl ⟨by omega, by omega⟩ | exact Or.inr ⟨by omega, by omega⟩))
  | ((with_reducible refine' r_lenL ?k0 ?_); (case k0 => walk_at "tk"))
  | ((with_reducible refine' r_lenT ?k0 ?_); (case k0 => walk_at "tk"))
  | ((with_reducible refine' r_truL ?k0 ?_); (case k0 => walk_at "tk"))
  | ((with_reducible refine' r_truT ?k0 ?_); (case k0 => walk_at "tk"))
  | ((with_reducible refine' r_ixL ?k0 ?k1 ?_); (case k0 => walk_at "tk"); (case k1 => first | assumption | rfl))
  | ((with_reducible refine' r_ixT ?k0 ?k1 ?_); (case k0 => walk_at "tk"); (case k1 => first | assumption | rfl))
  | ((with_reducible refine' r_new ?k0 ?_); (case k0 => walk_at "side"))
  | ((with_reducible refine' r_tyL ?k0 ?_); (case k0 => walk_at "tk"))
  | ((with_reducible refine' r_append ?k0 ?k1 ?_); (case k0 => walk_at "tk"); (case k1 => walk_at "side"))
  | ((with_reducible refine' r_setL ?k0 ?k1 ?_); (case k0 => walk_at "tk"); (case k1 => first | assumption | rfl))
  | ((with_reducible refine' r_kTupL ?k0 ?_); (case k0 => walk_at "tk"))
  | ((with_reducible refine' r_kTupT ?k0 ?_); (case k0 => walk_at "tk"))
  | ((with_reducible refine' r_listL ?k0 ?_); (case k0 => walk_at "tk"))
  | ((with_reducible refine' r_listT ?k0 ?_); (case k0 => walk_at "tk"))
  | ((with_reducible refine' r_aug ?k0 ?_); (case k0 => rfl))
  | ((with_reducible refine' r_lenS ?k0 ?_); (case k0 => walk_at "side"))
  | ((with_reducible refine' r_pop ?k0 ?_); (case k0 => walk_at "tk"))
  | ((with_reducible refine' r_pr1 ?k0 ?_); (case k0 => walk_at "rng"))
  | ((with_reducible refine' r_pr2 ?k0 ?_); (case k0 => walk_at "rng"))
  | ((with_reducible refine' r_pr3d ?k0 ?_); (case k0 => walk_at "rng"))
  | ((with_reducible refine' r_isiI ?k0 ?_); (case k0 => walk_at "kit"))
  | ((with_reducible refine' r_isiB ?k0 ?_); (case k0 => walk_at "kit"))
  | ((with_reducible refine' r_isiS ?k0 ?_); (case k0 => walk_at "kit"))
  | ((with_reducible refine' r_isiN ?k0 ?_); (case k0 => walk_at "kit"))
  | ((with_reducible refine' r_isiT ?k0 ?k1 ?_); (case k0 => walk_at "tk"); (case k1 => walk_at "kit"))
  | ((with_reducible refine r_seqT ?_); (repeat (walk_at "rd1")); ((with_reducible refine' r_pseqT ?k0 ?_); (case k0 => walk_at "tk")))
  | ((with_reducible refine r_seqL ?_); (repeat (walk_at "rd1")); ((with_reducible refine' r_pseqL ?k0 ?_); (case k0 => walk_at "tk")))
  | ((with_reducible refine r_seqS ?_); (repeat (walk_at "rd1")); (with_reducible refine r_pseqS ?_)))
local macro_rules | `(tactic| walk_at "rd") => `(tactic| ((repeat (walk_at "rd1")); (try dsimp only)))
local macro_rules | `(tactic| walk_at "rd1") => `(tactic| first
  | with_reducible refine r_BMT ?_
  | with_reducible refine r_par ?_
  | with_reducible refine r_parV ?_
  | ((with_reducible refine' r_ptp ?k0 ?k1 ?_); (case k0 => walk_at "tk"); (case k1 => walk_at "tk"))
  | with_reducible refine r_eqS ?_
  | with_reducible refine r_neS ?_
  | with_reducible refine r_callW ?_
  | with_reducible refine r_try ?_
  | with_reducible refine r_enT ?_
  | ((with_reducible refine' r_pen ?k0 ?_); (case k0 => walk_at "tk")))
local macro_rules | `(tactic| walk_at "pl0") => `(tactic| first
  | assumption
  | exact pl_same (by assumption) (by assumption)
  | exact pl_same (by assumption) (pl_same (by assumption) (by assumption))
  | exact pl_same (by assumption) (pl_same (by assumption) (pl_same (by assumption) (by assumption))))
local macro_rules | `(tactic| walk_at "pl") => `(tactic| first
  | walk_at "pl0"
  | ((with_reducible refine' pl_butL ?s ?n ?k); (case s => assumption); (case n => walk_at "ne"); (case k => walk_at "pl"))
  | ((with_reducible refine' pl_same ?s ?k); (case s => assumption); (case k => walk_at "pl")))
local macro_rules | `(tactic| walk_at "ne") => `(tactic| first
  | exact ne_pl (by assumption) (by walk_at "pl0")
  | exact (ne_pl (by assumption) (by walk_at "pl0")).symm)
local macro_rules | `(tactic| walk_at "fr") => `(tactic| first
  | assumption
  | ((with_reducible refine' free_but ?b ?n ?h); (case h => assumption); (case n => walk_at "ne"); (case b => walk_at "but"))
  | ((with_reducible refine' Same.free ?b ?h); (case h => assumption); (case b => walk_at "same")))
local macro_rules | `(tactic| walk_at "but") => `(tactic| first
  | assumption
  | exact But.refl
  | ((with_reducible refine' But.trans ?a ?b); (case b => assumption); (case a => walk_at "but"))
  | ((with_reducible refine' But.trans ?a (Same.but ?b)); (case b => assumption); (case a => walk_at "but"))
  | ((with_reducible refine' but_via ?a ?b ?c); (case b => assumption); (case c => walk_at "fr"); (case a => walk_at "but")))
local macro_rules | `(tactic| walk_at "same") => `(tactic| first
  | assumption
  | exact Same.refl _
  | ((with_reducible refine' Same.trans ?a ?b); (case b => assumption); (case a => walk_at "same"))
  | ((with_reducible refine' same_but ?a ?b ?c); (case b => assumption); (case c => walk_at "fr"); (case a => walk_at "same")))
local macro_rules | `(tactic| walk_at "tk") => `(tactic| first
  | ((with_reducible refine' sqT_pl ?s ?t ?k); (case s => assumption); (case t => walk_at "pl0"); (case k => walk_at "tk"))
  | ((with_reducible refine' rp_same ?s ?k); (case s => assumption); (case k => walk_at "tk"))
  | ((with_reducible refine' rp_pl ?s ?t ?k); (case s => assumption); (case t => walk_at "pl0"); (case k => walk_at "tk")))
local macro_rules | `(tactic| walk_at "it") => `(tactic| first
  | assumption
  | ((with_reducible refine' sqI_1 ?k); (case k => assumption))
  | ((with_reducible refine' sqI_0 ?k); (case k => assumption))
  | ((with_reducible refine' sqI_of ?k); (case k => assumption))
  | ((with_reducible refine' sqI_D ?k); (case k => assumption))
  | ((with_reducible refine' sqT_same ?s ?k); (case s => assumption); (case k => walk_at "it"))
  | ((with_reducible refine' sqT_but ?s ?t ?k); (case s => assumption); (case t => assumption); (case k => walk_at "it"))
  | ((with_reducible refine' sqT_pl ?s ?t ?k); (case s => assumption); (case t => walk_at "pl0"); (case k => walk_at "it")))
local macro_rules | `(tactic| walk_at "sz") => `(tactic| first | omega | ((try simp only [List.length_cons, List.length_nil] at *); omega))
local macro_rules | `(tactic| walk_at "au1") => `(tactic| first
  | walk_at "rd1"
  | ((with_reducible refine' r_draw ?k0 ?k1 ?k2 ?_); (case k0 => walk_at "pl"); (case k1 => omega); (case k2 => omega); (intro _ _ _ _ _ _))
  | ((with_reducible refine' r_slN ?k0 ?_); (case k0 => walk_at "it"); (intro _ _ _ _ _ _))
  | ((with_reducible refine' r_catN ?k0 ?k1 ?k2 ?_); (case k0 => walk_at "it"); (case k1 => walk_at "it"); (case k2 => walk_at "sz"); (intro _ _ _ _ _ _))
  | ((with_reducible refine' r_pow ?k0 ?_); (case k0 => exact ⟨by decide, by decide, by decide⟩))
  | ((with_reducible refine' r_ixI ?k0 ?k1 ?k2 ?_); (case k0 => walk_at "it"); (case k1 => omega); (case k2 => omega); (intro _ _))
  | ((with_reducible refine' r_setI ?k0 ?k1 ?k2 ?_); (case k0 => walk_at "tk"); (case k1 => omega); (case k2 => omega); (intro _ _ _ _ _))
  | ((with_reducible refine' r_kTupI ?k0 ?_); (case k0 => walk_at "tk"); (intro _ _ _ _ _))
  | ((with_reducible refine' r_listI ?k0 ?_); (case k0 => walk_at "it"); (intro _ _ _ _ _))
  | (with_reducible refine r_revU ?_)
  | ((with_reducible refine' r_prevN ?k0 ?_); (case k0 => walk_at "it"); (intro _ _ _ _ _ _))
  | (intro _ _ _ _ _))
local macro_rules | `(tactic| walk_at "go") => `(tactic| ((repeat (walk_at "au1")); (first
  | ((with_reducible refine r_ite (fun _ => ?_) (fun _ => ?_)) <;> (walk_at "go"))
  | ((with_reducible refine r_iteN (fun _ => ?_) (fun _ => ?_)) <;> (walk_at "go"))
  | dsimp only
  | skip)))
/-- the values xs are lists of a tuple of ints and a number, ss -/
def BL (K : PySem.W.Frag) (H : Hp) (xs : List V) (ss : List St) : Prop := ∃ bs : List (Addr × Addr × St), xs = bs.map (fun b => V.ref b.1) ∧ ss = bs.map (·.2.2) ∧ ∀ b ∈ bs, H b.1 = some (.lst [.ref b.2.1, .int b.2.2.2]) ∧ SqT K H b.2.1 (b.2.2.1.map V.int)
def Refs (ys : List V) : Prop := ∀ x ∈ ys, ∃ t : Addr, x = V.ref t
section
variable {K : PySem.W.Frag} {ec : Str → Addr} {ns : List Str} {vs : List V} {H H' : Hp} {Q : VK} {E : XK} {xs ys zs : List V} {ss qs : List St} {l a t : Addr} {p : Int} {c : List Int}
theorem ne_pair (h : H a = some (.lst [.ref t, .int p])) (hl : H l = some (.lst ys)) (r : Refs ys) : a ≠ l := fun e => by
  subst e
  rw [h] at hl
  obtain rfl : [V.ref t, V.int p] = ys := by injection (Option.some.inj hl)
  obtain ⟨t, e⟩ := r (.int p) (by simp)
  cases e
theorem BL.same (s : Same H H') (h : BL K H xs ss) : BL K H' xs ss := by
  obtain ⟨bs, e1, e2, h⟩ := h
  exact ⟨bs, e1, e2, fun b hb => ⟨s _ _ (h b hb).1, sqT_same s (h b hb).2⟩⟩
theorem BL.but (b : But l H H') (hl : H l = some (.lst ys)) (r : Refs ys) (h : BL K H xs ss) : BL K H' xs ss := by
  obtain ⟨bs, e1, e2, h⟩ := h
  exact ⟨bs, e1, e2, fun d hd => ⟨b _ _ (ne_pair (h d hd).1 hl r) (h d hd).1, sqT_but b hl (h d hd).2⟩⟩
theorem BL.nil : BL K H [] [] := ⟨[], rfl, rfl, fun _ h => (nomatch h)⟩
theorem BL.one (h : H a = some (.lst [.ref t, .int p])) (ht : SqT K H t (c.map V.int)) : BL K H [.ref a] [(c, p)] := ⟨[(a, t, c, p)], rfl, rfl, fun b hb => by rw [List.mem_singleton] at hb; subst hb; exact ⟨h, ht⟩⟩
theorem BL.app (h : BL K H xs ss) (h2 : BL K H ys qs) : BL K H (xs ++ ys) (ss ++ qs) := by
  obtain ⟨bs, rfl, rfl, h⟩ := h
  obtain ⟨ds, rfl, rfl, h2⟩ := h2
  refine ⟨bs ++ ds, List.map_append.symm, List.map_append.symm, fun b hb => ?_⟩
  rcases List.mem_append.mp hb with z | z
  · exact h b z
  · exact h2 b z
theorem BL.len (h : BL K H xs ss) : xs.length = ss.length := by
  obtain ⟨bs, rfl, rfl, h⟩ := h
  rw [List.length_map, List.length_map]
theorem BL.refs (h : BL K H xs ss) : Refs xs := fun x hx => by
  obtain ⟨bs, rfl, rfl, h⟩ := h
  obtain ⟨b, hb, rfl⟩ := List.mem_map.mp hx
  exact ⟨b.1, rfl⟩
theorem BL.get {i : Nat} {x : V} (h : BL K H xs ss) (hi : xs[i]? = some x) : ∃ (a t : Addr) (c : List Int) (p : Int), x = .ref a ∧ ss[i]? = some (c, p) ∧ H a = some (.lst [.ref t, .int p]) ∧ SqT K H t (c.map V.int) := by
  obtain ⟨bs, rfl, rfl, h⟩ := h
  rw [List.getElem?_map] at hi
  obtain ⟨b, hb, rfl⟩ := Option.map_eq_some_iff.mp hi
  obtain ⟨e, s⟩ := h b (List.mem_of_getElem? hb)
  exact ⟨b.1, b.2.1, b.2.2.1, b.2.2.2, rfl, by rw [List.getElem?_map, hb]; rfl, e, s⟩
end
def noB : Dat → Bool
  | .tup ds => ds.all fun d => match d with | .bl _ => false | _ => true
  | _ => true
def sp_law_listed (K : PySem.W.Frag) : Sp := fun vs H Q _ => ∃ (n : Nat), vs = [.int (n : Int)] ∧ 1 ≤ n ∧ n ≤ 12 ∧ ∀ p H' ys, H p = none → Same H H' → H' p = some (.lst ys) → TL K H' ys (sortL (lists n)) → Q (.ref p) H'
def sp_law_count (K : PySem.W.Frag) : Sp := fun vs H Q _ => ∃ (n : Nat), vs = [.int (n : Int)] ∧ 1 ≤ n ∧ n ≤ 12 ∧ ∀ H', Same H H' → Q (.int (ccN n : Nat)) H'
def sp_law_exchanged (K : PySem.W.Frag) : Sp := fun vs H Q _ => ∃ (n : Nat) (a : Addr) (cs : List Int), vs = [.int (n : Int), .ref a] ∧ SqT K H a (cs.map V.int) ∧ cs.length ≤ 100000 ∧ n ≤ 1000 ∧ ∀ p H', Same H H' → SqT K H' p ((exR n cs).map V.int) → Q (.ref p) H'
def sp_law_even_gaps (K : PySem.W.Frag) : Sp := fun vs H Q _ => ∃ (n : Nat) (v : V) (d : Dat), vs = [.int (n : Int), v] ∧ Rp K H v d ∧ noB d = true ∧ d.size ≤ 100000 ∧ n ≤ 1000 ∧ ∀ H', Same H H' → Q (.bl (isChD n d)) H'
abbrev N_law_listed : List Str := ["stage", "out", "begun", "step", "grown", "state"]
def t_law_listed (K : PySem.W.Frag) : TS :=
  tSeq (tAsg ((tLst tNil)) (gName 1))
  (tSeq (tAsg ((tLst (tCons ((tLst (tCons ((tTup tNil)) (tCons ((tC (.int 1))) tNil)))) tNil))) (gName 2))
  (tSeq (tFor (iRng1 (tCons ((tOp (rAddU K) (tVar 0) ((tC (.int 1))))) tNil)) (gName 3) (tSeq (tAsg ((tLst tNil)) (gName 4))
  (tSeq (tFor (iSeqU K (tVar 2)) (gName 5) ((tIfS ((tTest (tOp rGtU ((tOp (rIx K) (tVar 5) ((tC (.int 1))))) (tVar 0)))) ((tDrop ((tBM K "list" rAppend (tVar 1) (tCons ((tOp (rIx K) (tVar 5) ((tC (.int 0))))) tNil))))) (tSeq (tDrop ((tBM K "list" rAppend (tVar 4) (tCons ((tLst (tCons ((tOp (rAddU K) ((tOp (rIx K) (tVar 5) ((tC (.int 0))))) ((tTup (tCons ((tOp (rIx K) (tVar 5) ((tC (.int 1))))) tNil))))) (tCons ((tOp (rAddU K) ((tOp (rIx K) (tVar 5) ((tC (.int 1))))) ((tC (.int 1))))) tNil)))) tNil))))
  ((tIfS ((tTest (tOp (rLtU K) ((tOp (rIx K) (tVar 5) ((tC (.int 1))))) (tVar 0)))) ((tDrop ((tBM K "list" rAppend (tVar 4) (tCons ((tLst (tCons ((tOp (rIx K) (tVar 5) ((tC (.int 0))))) (tCons ((tOp (rAddU K) ((tOp (rIx K) (tVar 5) ((tC (.int 1))))) ((tC (.int 2))))) tNil)))) tNil))))) (tNext)))))))
  ((tAsg ((tCB (rListU K) (tCons (tVar 4) tNil))) (gName 2))))))
  ((tRet ((tCB (rSortRow0 K) (tCons (tVar 1) tNil)))))))
abbrev N_law_count : List Str := ["stage", "one", "two", "k", "both"]
def t_law_count (K : PySem.W.Frag) : TS :=
  tSeq (tAsg ((tC (.int 1))) (gName 1))
  (tSeq (tAsg ((tC (.int 2))) (gName 2))
  (tSeq (tFor (iRng1 (tCons ((tOp rSubU (tVar 0) ((tC (.int 1))))) tNil)) (gName 3) (tSeq (tAsg ((tOp (rAddU K) (tVar 1) (tVar 2))) (gName 4))
  (tSeq (tAsg (tVar 2) (gName 1))
  ((tAsg (tVar 4) (gName 2))))))
  ((tRet (tVar 1)))))
abbrev N_law_even_gaps : List Str := ["stage", "value", "place", "edges", "k", "gap"]
def t_law_even_gaps (K : PySem.W.Frag) : TS :=
  tSeq (tIfS ((tNot ((tTru K ((tCB (rIsi K) (tCons (tVar 1) (tCons ((tC (.ty "tuple"))) tNil)))))))) ((tRet ((tC (.bl false))))) (tNext))
  (tSeq (tFor (iSeqU K (tVar 1)) (gName 2) ((tIfS ((tNot ((tTru K ((tCB (rIsi K) (tCons (tVar 2) (tCons ((tC (.ty "int"))) tNil)))))))) ((tRet ((tC (.bl false))))) (tNext))))
  (tSeq (tAsg ((tOp (rAddU K) ((tOp (rAddU K) ((tLst (tCons ((tC (.int 0))) tNil))) ((tCB (rListU K) (tCons (tVar 1) tNil))))) ((tLst (tCons ((tOp (rAddU K) (tVar 0) ((tC (.int 1))))) tNil))))) (gName 3))
  (tSeq (tFor (iRng1 (tCons ((tOp rSubU ((tCB (rLenU K) (tCons (tVar 3) tNil))) ((tC (.int 1))))) tNil)) (gName 4) (tSeq (tAsg ((tOp rSubU ((tOp rSubU ((tOp (rIx K) (tVar 3) ((tOp (rAddU K) (tVar 4) ((tC (.int 1))))))) ((tOp (rIx K) (tVar 3) (tVar 4))))) ((tC (.int 1))))) (gName 5))
  ((tIfS ((tOr ((tTest (tOp (rLtU K) (tVar 5) ((tC (.int 0)))))) ((tTest (tOp (rEqU K) ((tOp rModU ((tCB rIntU (tCons (tVar 5) tNil))) ((tC (.int 2))))) ((tC (.int 1)))))))) ((tRet ((tC (.bl false))))) (tNext)))))
  ((tRet ((tC (.bl true))))))))
abbrev N_law_exchanged : List Str := ["stage", "change", "row", "moving", "k", "place"]
def t_law_exchanged (K : PySem.W.Frag) : TS :=
  tSeq (tAsg ((tLstRg (tRg2 ((tC (.int 1))) ((tOp (rAddU K) (tVar 0) ((tC (.int 1)))))))) (gName 2))
  (tSeq (tAsg (tLc ((iSeqU K (tVar 2))) ((gName 5)) ((tTest (tOp (rNotInU K) (tVar 5) (tVar 1)))) (tVar 5) [5]) (gName 3))
  (tSeq (tFor (iRng1 (tCons ((tOp rFdivU ((tCB (rLenU K) (tCons (tVar 3) tNil))) ((tC (.int 2))))) tNil)) (gName 4) (tSeq (tAsg ((tOp (rIx K) (tVar 3) ((tOp (rAddU K) ((tOp (rMulU K) ((tC (.int 2))) (tVar 4))) ((tC (.int 1))))))) (gSub (tVar 2) ((tOp rSubU ((tOp (rIx K) (tVar 3) ((tOp (rMulU K) ((tC (.int 2))) (tVar 4))))) ((tC (.int 1))))) rSetL))
  ((tAsg ((tOp (rIx K) (tVar 3) ((tOp (rMulU K) ((tC (.int 2))) (tVar 4))))) (gSub (tVar 2) ((tOp rSubU ((tOp (rIx K) (tVar 3) ((tOp (rAddU K) ((tOp (rMulU K) ((tC (.int 2))) (tVar 4))) ((tC (.int 1))))))) ((tC (.int 1))))) rSetL)))))
  ((tRet ((tThen (tVar 2) (kTupD K)))))))
section
variable {K : PySem.W.Frag} {ec : Str → Addr} {ns : List Str} {vs : List V} {H : Hp} {Q : VK} {E : XK}
theorem len_law_listed (h : sp_law_listed K vs H Q E) : vs.length = 1 := by obtain ⟨s, rfl, _⟩ := h; rfl
theorem len_law_count (h : sp_law_count K vs H Q E) : vs.length = 1 := by obtain ⟨s, rfl, _⟩ := h; rfl
theorem len_law_exchanged (h : sp_law_exchanged K vs H Q E) : vs.length = 2 := by obtain ⟨s, d, cs, rfl, _⟩ := h; rfl
theorem len_law_even_gaps (h : sp_law_even_gaps K vs H Q E) : vs.length = 2 := by obtain ⟨s, d, cs, rfl, _⟩ := h; rfl
theorem pure_law_count (h : sp_law_count K vs H Q E) : t_law_count K (En Q) (start N_law_count vs) H := by
  obtain ⟨n, rfl, h1, hn, q⟩ := h
  unfold t_law_count
  walk_at "rd"
  refine r_forRange0 (fun i σ' H' => ∃ (z3 z4 : Option V), σ' = [some (.int (n : Int)), some (.int ((lcP i).1 : Nat)), some (.int ((lcP i).2 : Nat)), z3, z4] ∧ Same H H')
    ⟨none, none, rfl, Same.refl _⟩ (fun i σ' H' hi hW => ?_) (fun σ' H' hW => ?_)
  · obtain ⟨z3, z4, rfl, s1⟩ := hW
    walk_at "rd"
    exact ⟨_, _, rfl, s1⟩
  · obtain ⟨z3, z4, rfl, s1⟩ := hW
    walk_at "rd"
    rw [show ((n : Int) - 1).toNat = n - 1 by omega, count_eq hn]
    exact q _ s1
theorem pure_law_listed (h : sp_law_listed K vs H Q E) : t_law_listed K (En Q) (start N_law_listed vs) H := by
  obtain ⟨n, rfl, h1, hn, q⟩ := h
  unfold t_law_listed
  walk_at "rd"
  intro l0 H1 nl0 s1 e1
  walk_at "rd"
  intro t0 H2 nt0 s2 e2
  walk_at "rd"
  intro a0 H3 na0 s3 e3
  walk_at "rd"
  intro b0 H4 nb0 s4 e4
  walk_at "rd"
  have e14 := s4 _ _ (s3 _ _ (s2 _ _ e1))
  have e24 := s4 _ _ (s3 _ _ e2)
  have e34 := s4 _ _ e3
  have s04 := ((s1.trans s2).trans s3).trans s4
  have nb : b0 ≠ l0 := fun z => by
    subst z
    have := s3 _ _ (s2 _ _ e1)
    rw [nb0] at this; cases this
  refine r_forRange0 (fun i σ' H' => ∃ (bg : Addr) (ys xs : List V) (z3 z4 z5 : Option V), σ' = [some (.int (n : Int)), some (.ref l0), some (.ref bg), z3, z4, z5] ∧ Same H H' ∧ bg ≠ l0 ∧ H' l0 = some (.lst ys) ∧ TL K H' ys (lsI n i).1 ∧ H' bg = some (.lst xs) ∧ BL K H' xs (lsI n i).2)
    ⟨b0, [], [.ref a0], none, none, none, rfl, s04, nb, e14, TL.nil, e4, BL.one (c := []) e34 (sqT_of e24)⟩ (fun i σ' H' hi hW => ?_) (fun σ' H' hW => ?_)
  · obtain ⟨bg, ys, xs, z3, z4, z5, rfl, st, nbl, el, tl, eb, bl⟩ := hW
    have hi : i < n + 1 := by omega
    obtain ⟨bd1, bd2, bd3⟩ := ls_bd (n := n) (i := i) hn (by omega)
    obtain ⟨bd4, bd5, _⟩ := ls_bd (n := n) (i := i + 1) hn (by omega)
    have lx := bl.len
    walk_at "rd"
    intro g H5 ng s5 e5
    have el5 := s5 _ _ el
    have eb5 := s5 _ _ eb
    have ngl : g ≠ l0 := fun z => by subst z; rw [el] at ng; cases ng
    have ngb : g ≠ bg := fun z => by subst z; rw [eb] at ng; cases ng
    walk_at "rd"
    refine r_forLst (xs := xs) (fun j σ' H6 => ∃ (ys' gs : List V) (z5 : Option V), σ' = [some (.int (n : Int)), some (.ref l0), some (.ref bg), some (.int (i : Int)), some (.ref g), z5] ∧ Same H H6 ∧ H6 l0 = some (.lst ys') ∧ TL K H6 ys' (((lsI n i).2.take j).foldl (lsT n) ((lsI n i).1, [])).1 ∧
        H6 g = some (.lst gs) ∧ BL K H6 gs (((lsI n i).2.take j).foldl (lsT n) ((lsI n i).1, [])).2 ∧ H6 bg = some (.lst xs) ∧ BL K H6 xs (lsI n i).2)
      ⟨ys, [], _, rfl, st.trans s5, el5, tl.same s5, e5, BL.nil, eb5, bl.same s5⟩ (fun j σ' H6 hj hW => ?_) (fun j x σ' H6 hj hW => ?_) (fun σ' H6 hW => ?_)
    · obtain ⟨ys', gs, z5, rfl, s6, el6, t6, eg6, b6, eb6, bb6⟩ := hW
      exact sqL_of eb6
    · obtain ⟨ys', gs, z5, rfl, s6, el6, t6, eg6, b6, eb6, bb6⟩ := hW
      obtain ⟨a, t, c, p, rfl, hc, ea, et⟩ := bb6.get hj
      have hjl : j < (lsI n i).2.length := (List.getElem?_eq_some_iff.mp hc).1
      have lc := bd3 _ (List.mem_of_getElem? hc)
      have lc : c.length ≤ 100 := lc
      have ly := t6.len
      have lg := b6.len
      have hfl := lsF_len n ((lsI n i).2.take j) ((lsI n i).1, [])
      rw [List.length_take] at hfl
      have hfl1 : (((lsI n i).2.take j).foldl (lsT n) ((lsI n i).1, [])).1.length ≤ 2000 := by
        have := hfl.1; dsimp only at this; omega
      have hfl2 : (((lsI n i).2.take j).foldl (lsT n) ((lsI n i).1, [])).2.length ≤ 2000 := by
        have := hfl.2; simp only [List.length_nil] at this; omega
      have stp : ((lsI n i).2.take (j + 1)).foldl (lsT n) ((lsI n i).1, []) = lsT n (((lsI n i).2.take j).foldl (lsT n) ((lsI n i).1, [])) (c, p) := by
        rw [List.take_add_one, hc, List.foldl_append]; rfl
      generalize ((lsI n i).2.take j).foldl (lsT n) ((lsI n i).1, []) = og at t6 b6 ly lg hfl1 hfl2 stp
      have ry := t6.refs
      have rg := b6.refs
      have hlsz := sizeLine_eq
      have at0' : atI [V.ref t, V.int p] 0 = some (.ref t) := rfl
      have at1' : atI [V.ref t, V.int p] 1 = some (.int p) := rfl
      have nl0' : H l0 = none := nl0
      have ng0 : H g = none := st.free ng
      walk_at "rd"
      refine r_ite (fun hp => ?_) (fun hp => ?_)
      · walk_at "rd"
        intro H7 b7 e7
        refine ⟨ys' ++ [.ref t], gs, _, rfl, same_but s6 b7 nl0, e7, ?_, b7 _ _ ngl eg6, ?_, b7 _ _ nbl eb6, bb6.but b7 el6 ry⟩
        · rw [stp]; unfold lsT; rw [if_pos hp]
          exact (t6.app (TL.one et)).but b7 el6
        · rw [stp]; unfold lsT; rw [if_pos hp]
          exact b6.but b7 el6 ry
      · walk_at "rd"
        intro u H7 nu s7 e7
        refine r_catII (sqT_same s7 et) (sqI_1 e7) (by simp; omega) fun v H8 s8 e8 => ?_
        have ea8 := s8 _ _ (s7 _ _ ea)
        walk_at "rd"
        intro w H9 nw s9 e9
        have s69 : Same H6 H9 := (s7.trans s8).trans s9
        have eg9 := s69 _ _ eg6
        walk_at "rd"
        intro H10 b10 e10
        have rg9 : Refs gs := rg
        have ea9 := s69 _ _ ea
        have ea10 := b10 _ _ (ne_pair ea9 eg9 rg9) ea9
        have et10 : SqT K H10 t (c.map V.int) := sqT_but b10 eg9 (sqT_same s69 et)
        have bw : BL K H10 [.ref w] [(c ++ [p], p + 1)] := (BL.one e9 (sqT_same s9 e8)).but b10 eg9 rg9
        have b9 := ((b6.same s69).but b10 eg9 rg9).app bw
        have s10 := same_but (s6.trans s69) b10 ng0
        have el10 := b10 _ _ ngl.symm (s69 _ _ el6)
        have eb10 := b10 _ _ ngb.symm (s69 _ _ eb6)
        have bb10 := (bb6.same s69).but b10 eg9 rg9
        have t10 := (t6.same s69).but b10 eg9
        walk_at "rd"
        refine r_ite (fun hp2 => ?_) (fun hp2 => ?_)
        · walk_at "rd"
          intro w2 H11 nw2 s11 e11
          have e1011 := s11 _ _ e10
          have lgs : (gs ++ [V.ref w]).length < sizeLine := by rw [List.length_append, List.length_singleton]; omega
          walk_at "rd"
          intro H12 b12 e12
          have rg12 : Refs (gs ++ [V.ref w]) := fun x hx => by
            rcases List.mem_append.mp hx with z | z
            · exact rg x z
            · exact ⟨w, List.mem_singleton.mp z⟩
          have bw2 : BL K H11 [.ref w2] [(c, p + 2)] := BL.one e11 (sqT_same s11 et10)
          refine ⟨ys', (gs ++ [.ref w]) ++ [.ref w2], _, rfl, same_but (s10.trans s11) b12 ng0, b12 _ _ ngl.symm (s11 _ _ el10), ?_, e12, ?_, b12 _ _ ngb.symm (s11 _ _ eb10), (bb10.same s11).but b12 e1011 rg12⟩
          · rw [stp]; unfold lsT; rw [if_neg hp, if_pos hp2]
            exact (t10.same s11).but b12 e1011
          · rw [stp]; unfold lsT; rw [if_neg hp, if_pos hp2]
            show BL K H12 ((gs ++ [.ref w]) ++ [.ref w2]) (og.2 ++ ([(c ++ [p], p + 1)] ++ [(c, p + 2)]))
            rw [← List.append_assoc]
            exact ((b9.same s11).app bw2).but b12 e1011 rg12
        · walk_at "rd"
          refine ⟨ys', gs ++ [.ref w], _, rfl, s10, el10, ?_, e10, ?_, eb10, bb10⟩
          · rw [stp]; unfold lsT; rw [if_neg hp, if_neg hp2]
            exact t10
          · rw [stp]; unfold lsT; rw [if_neg hp, if_neg hp2]
            exact b9
    · obtain ⟨ys', gs, z5, rfl, s6, el6, t6, eg6, b6, eb6, bb6⟩ := hW
      rw [lx, List.take_length] at t6 b6
      walk_at "rd"
      intro b2 H7 nb2 s7 e7
      have n2 : b2 ≠ l0 := fun z => by subst z; rw [el6] at nb2; cases nb2
      exact ⟨b2, ys', gs, _, _, _, rfl, s6.trans s7, n2, s7 _ _ el6, t6.same s7, e7, b6.same s7⟩
  · obtain ⟨bg, ys, xs, z3, z4, z5, rfl, st, nbl, el, tl, eb, bl⟩ := hW
    have hi : ((n : Int) + 1).toNat = n + 1 := by omega
    rw [hi] at tl
    walk_at "rd"
    refine r_sort0 (sqL_of el) tl fun p H5 ws np s5 e5 t5 => ?_
    exact q p H5 ws (st.free np) (st.trans s5) e5 t5
theorem r_notInTI {m : Int} {l : Addr} {r : List Int} (h : SqT K H l (r.map V.int)) (q : Q (.bl (!decide (m ∈ r))) H) : rNotInU K (.int m) (.ref l) H Q := by
  refine .inl ⟨l, _, rfl, .inr h, rfl, ?_, ?_⟩
  · rw [List.all_eq_true]
    intro x hx
    obtain ⟨i, _, rfl⟩ := List.mem_map.mp hx
    rfl
  · show Q (.bl (!inV (.int m) (r.map V.int))) H
    have : inV (.int m) (r.map V.int) = decide (m ∈ r) := by
      show ((r.map V.int).any fun x => eqV x (.int m)) = _
      rw [List.any_map, Bool.eq_iff_iff, List.any_eq_true, decide_eq_true_eq]
      constructor
      · rintro ⟨x, hx, e⟩
        have : x = m := by simpa [eqV] using e
        subst this; exact hx
      · intro h
        exact ⟨m, h, by simp [eqV]⟩
    rw [this]; exact q
theorem at_int {m : List Int} {k : Int} {j : Nat} (e : k = (j : Int)) (h : j < m.length) : atI (m.map V.int) k = some (.int (m.getD j 0)) := by
  subst e
  have := atI_nat (xs := m.map V.int) (j := j) (v := .int (m.getD j 0)) (by rw [List.getElem?_map, List.getElem?_eq_getElem h, List.getD_eq_getElem?_getD, List.getElem?_eq_getElem h]; rfl)
  exact this
theorem getD_mem {m : List Int} {j : Nat} (h : j < m.length) : m.getD j 0 ∈ m := by
  rw [List.getD_eq_getElem?_getD, List.getElem?_eq_getElem h]; exact List.getElem_mem h
theorem ix_row {R : List Int} {n : Nat} {x : Int} (hR : R.length = n) (h1 : 1 ≤ x) (h2 : x ≤ n) : ixN (R.map V.int).length (x - 1) = some (x - 1).toNat := by
  unfold ixN
  rw [List.length_map, hR, if_pos (by omega), if_pos (by omega)]
theorem pure_law_exchanged (h : sp_law_exchanged K vs H Q E) : t_law_exchanged K (En Q) (start N_law_exchanged vs) H := by
  obtain ⟨n, a, cs, rfl, ha, hl, hn, q⟩ := h
  unfold t_law_exchanged
  walk_at "rd"
  refine r_new (RgOk.of_le (by omega) (by omega) (by omega) (by omega)) ?_
  intro l H1 nl s1 e1
  rw [rgV_rounds] at e1
  have hr := roundsR_row n
  walk_at "rd"
  refine r_lcLf (fun p => !decide (p ∈ cs)) (fun x => x) (sqL_of e1) (by rw [hr.1]; omega) (fun _ => rfl) (fun x H2 QB hx s2 k => ?_) (fun x H2 Q' hx s2 hp k => ?_) fun m H2 nm s2 e2 => ?_
  · walk_at "rd"
    refine r_notInTI (sqT_same (s1.trans s2) ha) ?_
    walk_at "rd"
    exact k
  · walk_at "rd"
    exact k
  have e2 : H2 m = some (.lst ((mvC n cs).map V.int)) := e2
  have hm : ∀ x ∈ mvC n cs, 1 ≤ x ∧ x ≤ (n : Int) := fun x hx => hr.2.2 x (List.mem_filter.mp hx).1
  have hml : (mvC n cs).length ≤ n := by
    have := List.length_filter_le (fun p => !decide (p ∈ cs)) (roundsR n)
    rw [hr.1] at this
    exact this
  have nml : m ≠ l := fun z => by subst z; rw [e1] at nm; cases nm
  have exR_eq : exR n cs = exW (mvC n cs) ((mvC n cs).length / 2) (roundsR n) := rfl
  generalize mvC n cs = mv at e2 hm hml exR_eq
  walk_at "rd"
  rw [List.length_map]
  refine r_fdiv (by omega) (by decide) ?_
  walk_at "rd"
  refine r_forRange0 (fun i σ' H' => ∃ (z4 : Option V) (R : List Int), σ' = [some (.int (n : Int)), some (.ref a), some (.ref l), some (.ref m), z4, none] ∧ Same H H' ∧ H' m = some (.lst (mv.map V.int)) ∧ H' l = some (.lst (R.map V.int)) ∧ R.length = n ∧ R = exW mv i (roundsR n))
    ⟨none, roundsR n, rfl, s1.trans s2, e2, s2 _ _ e1, hr.1, rfl⟩ (fun i σ' H' hi hW => ?_) (fun σ' H' hW => ?_)
  · obtain ⟨z4, R, rfl, st, em, el, hR, eR⟩ := hW
    have j1 : 2 * i < mv.length := by omega
    have j2 : 2 * i + 1 < mv.length := by omega
    have a1 : atI (mv.map V.int) (2 * (i : Int) + 1) = some (.int (mv.getD (2 * i + 1) 0)) := at_int (by omega) j2
    have a0 : atI (mv.map V.int) (2 * (i : Int)) = some (.int (mv.getD (2 * i) 0)) := at_int (by omega) j1
    have m1 := hm _ (getD_mem j1)
    have m2 := hm _ (getD_mem j2)
    have stp : exW mv (i + 1) (roundsR n) = ((exW mv i (roundsR n)).set (mv.getD (2 * i) 0 - 1).toNat (mv.getD (2 * i + 1) 0)).set (mv.getD (2 * i + 1) 0 - 1).toNat (mv.getD (2 * i) 0) := rfl
    rw [← eR] at stp
    generalize mv.getD (2 * i) 0 = x at a0 m1 stp
    generalize mv.getD (2 * i + 1) 0 = y at a1 m2 stp
    have ix1 := ix_row hR m1.1 m1.2
    walk_at "rd"
    intro H3 b3 e3
    have e3' : H3 l = some (.lst ((R.set (x - 1).toNat y).map V.int)) := by rw [e3, List.map_set]
    have em3 := b3 _ _ nml em
    have ix2 := ix_row (R := R.set (x - 1).toNat y) (by rw [List.length_set]; exact hR) m2.1 m2.2
    clear e3 el ix1
    walk_at "rd"
    intro H4 b4 e4
    refine ⟨_, (R.set (x - 1).toNat y).set (y - 1).toNat x, rfl, same_but (same_but st b3 nl) b4 nl, b4 _ _ nml em3, by rw [e4, ← List.map_set], by rw [List.length_set, List.length_set]; exact hR, stp.symm⟩
  · obtain ⟨z4, R, rfl, st, em, el, hR, eR⟩ := hW
    walk_at "rd"
    intro t H4 nt s4 e4
    refine q t H4 (st.trans s4) ?_
    have : R = exR n cs := by
      rw [eR, exR_eq]
      congr 1
    rw [← this]; exact sqT_ofD e4
theorem all_ints {xs : List V} : ∀ {ds : List Dat}, RpL K H xs ds → (∀ e ∈ ds, isNum e = true) → ∃ cs : List Int, ds = cs.map Dat.int ∧ xs = cs.map V.int
  | _, .nil, _ => ⟨[], rfl, rfl⟩
  | d :: ds, .cons r t, h => by
    obtain ⟨cs, e1, e2⟩ := all_ints t fun e he => h e (by simp [he])
    have h1 := h d (by simp)
    cases d with
    | int i =>
      cases r
      exact ⟨i :: cs, by rw [e1]; rfl, by rw [e2]; rfl⟩
    | _ => exact nomatch h1
theorem chD_not {n : Int} : ∀ {ds : List Dat} {last : Int}, (∃ e ∈ ds, isNum e = false) → chD n last ds = false
  | [], _, h => by obtain ⟨e, he, _⟩ := h; exact nomatch he
  | d :: ds, last, h => by
    cases d with
    | int p =>
      have : ∃ e ∈ ds, isNum e = false := by
        obtain ⟨e, he, hb⟩ := h
        rcases List.mem_cons.mp he with rfl | z
        · cases hb
        · exact ⟨e, z, hb⟩
      show (decide (last < p) && (decide (p ≤ n) && (!decide ((p - last) % 2 = 0) && chD n p ds))) = false
      rw [chD_not this]; simp
    | _ => rfl
theorem isC_evG {n : Nat} {cs : List Int} : isC n 0 cs = evG 0 (cs ++ [(n : Int) + 1]) := by
  have := even_gaps (n := (n : Int)) (by omega) (cs := cs)
  unfold Chg at this
  cases h : isC n 0 cs with
  | true => rw [this.mpr h]
  | false =>
    cases h' : evG 0 (cs ++ [(n : Int) + 1]) with
    | true => rw [this.mp h'] at h; cases h
    | false => rfl
theorem pure_law_even_gaps (h : sp_law_even_gaps K vs H Q E) : t_law_even_gaps K (En Q) (start N_law_even_gaps vs) H := by
  obtain ⟨n, v, d, rfl, hr, hb, hz, hn, q⟩ := h
  unfold t_law_even_gaps
  cases hr with
  | int i => walk_at "rd"; exact q H (Same.refl _)
  | bl b => walk_at "rd"; exact q H (Same.refl _)
  | str z => walk_at "rd"; exact q H (Same.refl _)
  | non => walk_at "rd"; exact q H (Same.refl _)
  | @tup a xs ds ht hd =>
    have hlen := rpL_length hd
    have q : ∀ H', Same H H' → Q (.bl (chD n 0 ds)) H' := q
    walk_at "rd"
    refine r_forTup (xs := xs) (fun i σ' H' => ∃ (z2 : Option V), σ' = [some (.int (n : Int)), some (.ref a), z2, none, none, none] ∧ H' = H ∧ ∀ e ∈ ds.take i, isNum e = true)
      ⟨none, rfl, rfl, fun e he => (nomatch he)⟩ (fun i σ' H' _ hW => ?_) (fun i x σ' H' hi hW => ?_) (fun σ' H' hW => ?_)
    · obtain ⟨z2, rfl, rfl, _⟩ := hW
      exact ht
    · obtain ⟨z2, rfl, rfl, hc⟩ := hW
      have hil : i < ds.length := by rw [← hlen]; exact (List.getElem?_eq_some_iff.mp hi).1
      obtain ⟨y, hy, ry⟩ := rpL_get hd (List.getElem?_eq_getElem hil)
      rw [hi] at hy
      obtain rfl := Option.some.inj hy
      have hmem : ds[i] ∈ ds := List.getElem_mem hil
      have hbl : ∀ b, ds[i] ≠ .bl b := fun b z => by
        have := List.all_eq_true.mp hb _ hmem
        rw [z] at this; cases this
      have hno : isNum ds[i] = false → Q (.bl false) H' := fun z => by
        have := q H' (Same.refl _)
        rw [chD_not ⟨_, hmem, z⟩] at this
        exact this
      have htk : ds.take (i + 1) = ds.take i ++ [ds[i]] := by rw [List.take_add_one, List.getElem?_eq_getElem hil]; rfl
      generalize ds[i] = d' at ry hbl hno htk
      cases ry with
      | int p =>
        walk_at "rd"
        refine ⟨_, rfl, rfl, fun e he => ?_⟩
        rw [htk] at he
        rcases List.mem_append.mp he with z | z
        · exact hc e z
        · rw [List.mem_singleton] at z; subst z; rfl
      | bl b => exact absurd rfl (hbl b)
      | str b => walk_at "rd"; exact hno rfl
      | non => walk_at "rd"; exact hno rfl
      | tup b c => walk_at "rd"; exact hno rfl
    · obtain ⟨z2, rfl, rfl, hc⟩ := hW
      rw [hlen, List.take_length] at hc
      obtain ⟨cs, rfl, rfl⟩ := all_ints hd hc
      rw [chD_ints, isC_evG] at q
      have hcl : cs.length ≤ 100000 := by rw [size_row] at hz; omega
      have hlsz := sizeLine_eq
      walk_at "rd"
      intro l1 H1 nl1 s1 e1
      have ht1 := sqT_same s1 ht
      walk_at "rd"
      intro l2 H2 nl2 s2 e2
      have e12 := s2 _ _ e1
      refine r_catL e12 e2 (by rw [List.length_singleton, List.length_map]; omega) fun l3 H3 nl3 s3 e3 => ?_
      walk_at "rd"
      intro l4 H4 nl4 s4 e4
      have e34 := s4 _ _ e3
      refine r_catL e34 e4 (by simp; omega) fun l5 H5 nl5 s5 e5 => ?_
      have e5 : H5 l5 = some (.lst ((0 :: (cs ++ [(n : Int) + 1])).map V.int)) := by rw [e5, List.map_cons, List.map_append]; rfl
      have elen : (0 :: (cs ++ [(n : Int) + 1])).length = cs.length + 2 := by simp
      have edrop : ∀ i x, (0 :: (cs ++ [(n : Int) + 1]))[i + 1]? = some x → (0 :: (cs ++ [(n : Int) + 1])).drop (i + 1) = x :: (0 :: (cs ++ [(n : Int) + 1])).drop (i + 2) := fun i x hx => by
        have hl := (List.getElem?_eq_some_iff.mp hx).1
        rw [List.drop_eq_getElem_cons hl]
        rw [List.getElem?_eq_getElem hl] at hx
        rw [Option.some.inj hx]
      have st5 : Same H' H5 := (((s1.trans s2).trans s3).trans s4).trans s5
      have e0 : evG 0 (cs ++ [(n : Int) + 1]) = evG ((0 :: (cs ++ [(n : Int) + 1])).getD 0 0) ((0 :: (cs ++ [(n : Int) + 1])).drop (0 + 1)) := rfl
      generalize 0 :: (cs ++ [(n : Int) + 1]) = es at e5 elen edrop e0
      walk_at "rd"
      rw [List.length_map, elen]
      refine r_forRange0 (fun i σ' H' => ∃ (z4 z5 : Option V), σ' = [some (.int (n : Int)), some (.ref a), z2, some (.ref l5), z4, z5] ∧ H' = H5 ∧ evG 0 (cs ++ [(n : Int) + 1]) = evG (es.getD i 0) (es.drop (i + 1)))
        ⟨none, none, rfl, rfl, e0⟩ (fun i σ' H6 hi hW => ?_) (fun σ' H6 hW => ?_)
      · obtain ⟨z4, z5, rfl, rfl, hg⟩ := hW
        have j1 : i < es.length := by omega
        have j2 : i + 1 < es.length := by omega
        have a1 : atI (es.map V.int) ((i : Int) + 1) = some (.int (es.getD (i + 1) 0)) := at_int (by omega) j2
        have a0 : atI (es.map V.int) (i : Int) = some (.int (es.getD i 0)) := at_int rfl j1
        have hx : es[i + 1]? = some (es.getD (i + 1) 0) := by rw [List.getD_eq_getElem?_getD, List.getElem?_eq_getElem j2]; rfl
        rw [edrop i _ hx] at hg
        have hq := q H6 st5
        rw [hg] at hq
        generalize es.getD (i + 1) 0 = y at a1 hg hq
        generalize es.getD i 0 = last at a0 hg hq
        walk_at "rd"
        refine r_ite (fun h0 => ?_) (fun h0 => ?_)
        · refine r_T ?_
          walk_at "rd"
          have : evG last (y :: es.drop (i + 2)) = false := by simp [evG]; omega
          rw [this] at hq; exact hq
        · walk_at "rd"
          refine r_ite (fun h1 => ?_) (fun h1 => ?_)
          · walk_at "rd"
            have : evG last (y :: es.drop (i + 2)) = false := by
              show (decide (last < y) && (!decide ((y - last) % 2 = 0) && evG y (es.drop (i + 2)))) = false
              rw [decide_eq_true (p := (y - last) % 2 = 0) (by omega)]; simp
            rw [this] at hq; exact hq
          · walk_at "rd"
            refine ⟨_, _, rfl, rfl, ?_⟩
            rw [hg]
            show (decide (last < y) && (!decide ((y - last) % 2 = 0) && evG y (es.drop (i + 2)))) = evG y (es.drop (i + 2))
            rw [decide_eq_true (p := last < y) (by omega), decide_eq_false (p := (y - last) % 2 = 0) (by omega)]; simp
      · obtain ⟨z4, z5, rfl, rfl, hg⟩ := hW
        have hi : ((cs.length + 2 : Nat) - (1 : Int)).toNat = cs.length + 1 := by omega
        rw [hi] at hg
        rw [List.drop_eq_nil_of_le (by omega)] at hg
        walk_at "rd"
        have hq := q H6 st5
        rw [hg] at hq
        exact hq
end
end K8
end Kb
set_option Elab.async false
set_option linter.all false
set_option maxRecDepth 100000
set_option maxHeartbeats 4000000
namespace Kb
namespace K8
open PySem PySem.Spec PyProof.Rows L2 SX
local macro_rules | `(tactic| walk_at "tk") => `(tactic| first
  | assumption
  | ((with_reducible refine' sqT_of ?k); (case k => assumption))
  | ((with_reducible refine' sqT_ofD ?k); (case k => assumption))
  | ((with_reducible refine' noD_of ?k); (case k => assumption))
  | ((with_reducible refine' noD_same ?s ?k); (case s => assumption); (case k => walk_at "tk"))
  | ((with_reducible refine' sqL_of ?k); (case k => assumption))
  | ((with_reducible refine' sqT_same ?s ?k); (case s => assumption); (case k => walk_at "tk"))
  | ((with_reducible refine' sqL_same ?s ?k); (case s => assumption); (case k => walk_at "tk"))
  | ((with_reducible refine' sqT_but ?s ?t ?k); (case s => assumption); (case t => walk_at "tk"); (case k => walk_at "tk"))
  | ((with_reducible refine' sqL_but ?s ?t ?k); (case s => assumption); (case t => walk_at "ne"); (case k => walk_at "tk"))
  | ((with_reducible refine' sqL_of ?k); (case k => walk_at "tk"))
  | ((with_reducible refine' sqT_of ?k); (case k => walk_at "tk"))
  | ((with_reducible refine' at_same ?s ?k); (case s => assumption); (case k => walk_at "tk"))
  | ((with_reducible refine' at_but ?s ?t ?k); (case s => assumption); (case t => walk_at "ne"); (case k => walk_at "tk")))
local macro_rules | `(tactic| walk_at "ne") => `(tactic| first
  | assumption
  | (refine Ne.symm ?_; assumption)
  | exact ne_of_none (by assumption) (by assumption)
  | exact (ne_of_none (by assumption) (by assumption)).symm)
local macro_rules | `(tactic| walk_at "side") => `(tactic| first
  | assumption
  | omega
  | (simp only [sizeLine_eq, List.length_cons, List.length_nil, List.length_map]; omega)
  | (show _ ≤ sizeLine; decide))
local macro_rules | `(tactic| walk_at "kit") => `(tactic| first
  | (show kitB _ _ = some true; decide +kernel)
  | (show kitB _ _ = some false; decide +kernel))
local macro_rules | `(tactic| walk_at "rng") => `(tactic| first
  | (refine ⟨by omega, by omega, by omega, by omega⟩)
  | (refine ⟨by omega, by omega⟩)
  | ((simp only [List.length_map]); (refine ⟨by omega, by omega, by omega, by omega⟩))
  | ((simp only [List.length_map]); (refine ⟨by omega, by omega⟩)))
local macro_rules | `(tactic| walk_at "rd1") => `(tactic| first
  | with_reducible refine r_seq ?_
  | ((with_reducible refine' r_var ?k0 ?_); (case k0 => rfl))
  | with_reducible refine r_op ?_
  | with_reducible refine r_c ?_
  | with_reducible refine r_asg ?_
  | with_reducible refine r_name ?_
  | with_reducible refine r_cons ?_
  | with_reducible refine r_nil ?_
  | with_reducible refine r_CB ?_
  | with_reducible refine r_if ?_
  | with_reducible refine r_test ?_
  | with_reducible refine r_k ?_
  | with_reducible refine r_T ?_
  | with_reducible refine r_F ?_
  | with_reducible refine r_nT ?_
  | with_reducible refine r_nF ?_
  | with_reducible refine r_ret ?_
  | with_reducible refine r_drop ?_
  | with_reducible refine r_next ?_
  | with_reducible refine r_call ?_
  | with_reducible refine r_addI ?_
  | with_reducible refine r_subI ?_
  | with_reducible refine r_ltI ?_
  | with_reducible refine r_gtI ?_
  | with_reducible refine r_leI ?_
  | with_reducible refine r_geI ?_
  | with_reducible refine r_eqI ?_
  | with_reducible refine r_neI ?_
  | with_reducible refine r_int ?_
  | with_reducible refine r_abs ?_
  | with_reducible refine r_not ?_
  | with_reducible refine r_and ?_
  | with_reducible refine r_or ?_
  | with_reducible refine r_tru ?_
  | with_reducible refine r_truB ?_
  | with_reducible refine r_lst ?_
  | with_reducible refine r_tup ?_
  | with_reducible refine r_BM ?_
  | with_reducible refine r_BM0 ?_
  | with_reducible refine r_tyS ?_
  | with_reducible refine r_gsub ?_
  | with_reducible refine r_then ?_
  | with_reducible refine r_lstRg ?_
  | with_reducible refine r_tupRg ?_
  | with_reducible refine r_rg2 ?_
  | with_reducible refine r_rg1 ?_
  | with_reducible refine r_ii ?_
  | with_reducible refine r_i ?_
  | with_reducible refine r_ipI ?_
  | with_reducible refine r_un ?_
  | with_reducible refine r_neg ?_
  | with_reducible refine r_isN ?_
  | with_reducible refine r_notN ?_
  | with_reducible refine r_notV ?_
  | with_reducible refine r_pnot ?_
  | with_reducible refine r_pif ?_
  | with_reducible refine r_andV ?_
  | with_reducible refine r_orV ?_
  | with_reducible refine r_ifE ?_
  | with_reducible refine r_chain ?_
  | with_reducible refine r_sl ?_
  | with_reducible refine r_noPart ?_
  | with_reducible refine r_part ?_
  | with_reducible refine r_brk ?_
  | with_reducible refine r_cont ?_
  | with_reducible refine r_retN ?_
  | with_reducible refine r_truI ?_
  | with_reducible refine r_B ?_
  | with_reducible refine r_for ?_
  | with_reducible refine r_rng1 ?_
  | with_reducible refine r_rng2 ?_
  | with_reducible refine r_rng3 ?_
  | with_reducible refine r_body ?_
  | with_reducible refine r_lc ?_
  | with_reducible refine r_yes ?_
  | ((with_reducible refine' r_mod ?k0 ?_); (case k0 => walk_at "side"))
  | ((with_reducible refine' r_mulI ?k0 ?_); (case k0 => first | exact Or.inl ⟨by omega, by omega⟩ | exact Or.inr ⟨by omega, by omega⟩))
  | ((with_reducible refine' r_lenL ?k0 ?_); (case k0 => walk_at "tk"))
  | ((with_reducible refine' r_lenT ?k0 ?_); (case k0 => walk_at "tk"))
  | ((with_reducible refine' r_truL ?k0 ?_); (case k0 => walk_at "tk"))
  | ((with_reducible refine' r_truT ?k0 ?_); (case k0 => walk_at "tk"))
  | ((with_reducible refine' r_ixL ?k0 ?k1 ?_); (case k0 => walk_at "tk"); (case k1 => first | assumption | rfl))
  | ((with_reducible refine' r_ixT ?k0 ?k1 ?_); (case k0 => walk_at "tk"); (case k1 => first | assumption | rfl))
  | ((with_reducible refine' r_new ?k0 ?_); (case k0 => walk_at "side"))
  | ((with_reducible refine' r_tyL ?k0 ?_); (case k0 => walk_at "tk"))
  | ((with_reducible refine' r_append ?k0 ?k1 ?_); (case k0 => walk_at "tk"); (case k1 => walk_at "side"))
  | ((with_reducible refine' r_setL ?k0 ?k1 ?_); (case k0 => walk_at "tk"); (case k1 => first | assumption | rfl))
  | ((with_reducible refine' r_kTupL ?k0 ?_); (case k0 => walk_at "tk"))
  | ((with_reducible refine' r_kTupT ?k0 ?_); (case k0 => walk_at "tk"))
  | ((with_reducible refine' r_listL ?k0 ?_); (case k0 => walk_at "tk"))
  | ((with_reducible refine' r_listT ?k0 ?_); (case k0 => walk_at "tk"))
  | ((with_reducible refine' r_aug ?k0 ?_); (case k0 => rfl))
  | ((with_reducible refine' r_lenS ?k0 ?_); (case k0 => walk_at "side"))
  | ((with_reducible refine' r_pop ?k0 ?_); (case k0 => walk_at "tk"))
  | ((with_reducible refine' r_pr1 ?k0 ?_); (case k0 => walk_at "rng"))
  | ((with_reducible refine' r_pr2 ?k0 ?_); (case k0 => walk_at "rng"))
  | ((with_reducible refine' r_pr3d ?k0 ?_); (case k0 => walk_at "rng"))
  | ((with_reducible refine' r_isiI ?k0 ?_); (case k0 => walk_at "kit"))
  | ((with_reducible refine' r_isiB ?k0 ?_); (case k0 => walk_at "kit"))
  | ((with_reducible refine' r_isiS ?k0 ?_); (case k0 => walk_at "kit"))
  | ((with_reducible refine' r_isiN ?k0 ?_); (case k0 => walk_at "kit"))
  | ((with_reducible refine' r_isiT ?k0 ?k1 ?_); (case k0 => walk_at "tk"); (case k1 => walk_at "kit"))
  | ((with_reducible refine r_seqT ?_); (repeat (walk_at "rd1")); ((with_reducible refine' r_pseqT ?k0 ?_); (case k0 => walk_at "tk")))
  | ((with_reducible refine r_seqL ?_); (repeat (walk_at "rd1")); ((with_reducible refine' r_pseqL ?k0 ?_); (case k0 => walk_at "tk")))
  | ((with_reducible refine r_seqS ?_); (repeat (walk_at "rd1")); (with_reducible refine r_pseqS ?_)))
local macro_rules | `(tactic| walk_at "rd") => `(tactic| ((repeat (walk_at "rd1")); (try dsimp only)))
local macro_rules | `(tactic| walk_at "rd1") => `(tactic| first
  | with_reducible refine r_BMT ?_
  | with_reducible refine r_par ?_
  | with_reducible refine r_parV ?_
  | ((with_reducible refine' r_ptp ?k0 ?k1 ?_); (case k0 => walk_at "tk"); (case k1 => walk_at "tk"))
  | with_reducible refine r_eqS ?_
  | with_reducible refine r_neS ?_
  | with_reducible refine r_callW ?_
  | with_reducible refine r_try ?_
  | with_reducible refine r_enT ?_
  | ((with_reducible refine' r_pen ?k0 ?_); (case k0 => walk_at "tk")))
local macro_rules | `(tactic| walk_at "pl0") => `(tactic| first
  | assumption
  | exact pl_same (by assumption) (by assumption)
  | exact pl_same (by assumption) (pl_same (by assumption) (by assumption))
  | exact pl_same (by assumption) (pl_same (by assumption) (pl_same (by assumption) (by assumption))))
local macro_rules | `(tactic| walk_at "pl") => `(tactic| first
  | walk_at "pl0"
  | ((with_reducible refine' pl_butL ?s ?n ?k); (case s => assumption); (case n => walk_at "ne"); (case k => walk_at "pl"))
  | ((with_reducible refine' pl_same ?s ?k); (case s => assumption); (case k => walk_at "pl")))
local macro_rules | `(tactic| walk_at "ne") => `(tactic| first
  | exact ne_pl (by assumption) (by walk_at "pl0")
  | exact (ne_pl (by assumption) (by walk_at "pl0")).symm)
local macro_rules | `(tactic| walk_at "fr") => `(tactic| first
  | assumption
  | ((with_reducible refine' free_but ?b ?n ?h); (case h => assumption); (case n => walk_at "ne"); (case b => walk_at "but"))
  | ((with_reducible refine' Same.free ?b ?h); (case h => assumption); (case b => walk_at "same")))
local macro_rules | `(tactic| walk_at "but") => `(tactic| first
  | assumption
  | exact But.refl
  | ((with_reducible refine' But.trans ?a ?b); (case b => assumption); (case a => walk_at "but"))
  | ((with_reducible refine' But.trans ?a (Same.but ?b)); (case b => assumption); (case a => walk_at "but"))
  | ((with_reducible refine' but_via ?a ?b ?c); (case b => assumption); (case c => walk_at "fr"); (case a => walk_at "but")))
local macro_rules | `(tactic| walk_at "same") => `(tactic| first
  | assumption
  | exact Same.refl _
  | ((with_reducible refine' Same.trans ?a ?b); (case b => assumption); (case a => walk_at "same"))
  | ((with_reducible refine' same_but ?a ?b ?c); (case b => assumption); (case c => walk_at "fr"); (case a => walk_at "same")))
local macro_rules | `(tactic| walk_at "tk") => `(tactic| first
  | ((with_reducible refine' sqT_pl ?s ?t ?k); (case s => assumption); (case t => walk_at "pl0"); (case k => walk_at "tk"))
  | ((with_reducible refine' rp_same ?s ?k); (case s => assumption); (case k => walk_at "tk"))
  | ((with_reducible refine' rp_pl ?s ?t ?k); (case s => assumption); (case t => walk_at "pl0"); (case k => walk_at "tk")))
local macro_rules | `(tactic| walk_at "it") => `(tactic| first
  | assumption
  | ((with_reducible refine' sqI_1 ?k); (case k => assumption))
  | ((with_reducible refine' sqI_0 ?k); (case k => assumption))
  | ((with_reducible refine' sqI_of ?k); (case k => assumption))
  | ((with_reducible refine' sqI_D ?k); (case k => assumption))
  | ((with_reducible refine' sqT_same ?s ?k); (case s => assumption); (case k => walk_at "it"))
  | ((with_reducible refine' sqT_but ?s ?t ?k); (case s => assumption); (case t => assumption); (case k => walk_at "it"))
  | ((with_reducible refine' sqT_pl ?s ?t ?k); (case s => assumption); (case t => walk_at "pl0"); (case k => walk_at "it")))
local macro_rules | `(tactic| walk_at "sz") => `(tactic| first | omega | ((try simp only [List.length_cons, List.length_nil] at *); omega))
local macro_rules | `(tactic| walk_at "au1") => `(tactic| first
  | walk_at "rd1"
  | ((with_reducible refine' r_draw ?k0 ?k1 ?k2 ?_); (case k0 => walk_at "pl"); (case k1 => omega); (case k2 => omega); (intro _ _ _ _ _ _))
  | ((with_reducible refine' r_slN ?k0 ?_); (case k0 => walk_at "it"); (intro _ _ _ _ _ _))
  | ((with_reducible refine' r_catN ?k0 ?k1 ?k2 ?_); (case k0 => walk_at "it"); (case k1 => walk_at "it"); (case k2 => walk_at "sz"); (intro _ _ _ _ _ _))
  | ((with_reducible refine' r_pow ?k0 ?_); (case k0 => exact ⟨by decide, by decide, by decide⟩))
  | ((with_reducible refine' r_ixI ?k0 ?k1 ?k2 ?_); (case k0 => walk_at "it"); (case k1 => omega); (case k2 => omega); (intro _ _))
  | ((with_reducible refine' r_setI ?k0 ?k1 ?k2 ?_); (case k0 => walk_at "tk"); (case k1 => omega); (case k2 => omega); (intro _ _ _ _ _))
  | ((with_reducible refine' r_kTupI ?k0 ?_); (case k0 => walk_at "tk"); (intro _ _ _ _ _))
  | ((with_reducible refine' r_listI ?k0 ?_); (case k0 => walk_at "it"); (intro _ _ _ _ _))
  | (with_reducible refine r_revU ?_)
  | ((with_reducible refine' r_prevN ?k0 ?_); (case k0 => walk_at "it"); (intro _ _ _ _ _ _))
  | (intro _ _ _ _ _))
local macro_rules | `(tactic| walk_at "go") => `(tactic| ((repeat (walk_at "au1")); (first
  | ((with_reducible refine r_ite (fun _ => ?_) (fun _ => ?_)) <;> (walk_at "go"))
  | ((with_reducible refine r_iteN (fun _ => ?_) (fun _ => ?_)) <;> (walk_at "go"))
  | dsimp only
  | skip)))
def sp_law_near (K : PySem.W.Frag) : Sp := fun vs H Q _ => ∃ (p a : Addr) (n : Nat) (ns : List Int), vs = [.ref p, .int (n : Int), .ref a] ∧ Pl H p ∧ n ≤ 12 ∧ SqT K H a (ns.map V.int) ∧ ns.length ≤ 100 ∧ ∀ b H' ms, But p H H' → Pl H' p → SqT K H' b ((ms : List Int).map V.int) → ms.length ≤ 500 → Q (.ref b) H'
def sp_law_odd (K : PySem.W.Frag) : Sp := fun vs H Q _ => ∃ (p a : Addr) (n : Nat) (cs : List Int), vs = [.ref p, .int (n : Int), .ref a] ∧ Pl H p ∧ n ≤ 12 ∧ SqT K H a (cs.map V.int) ∧ Chg n cs ∧ ∀ v d H', But p H H' → Pl H' p → Rp K H' v d → noB d = true → d.size ≤ 1000 → Q v H'
abbrev N_law_near : List Str := ["pool", "stage", "change", "way", "at", "number", "step", "many", "place", "k"]
def t_law_near (K : PySem.W.Frag) : TS :=
  tSeq (tAsg ((tCall (sp_law_draw K) [] E0 (tCons (tVar 0) (tCons ((tC (.int 12))) tNil)))) (gName 3))
  (tSeq (tAsg ((tCall (sp_law_draw K) [] E0 (tCons (tVar 0) (tCons ((tOp (rAddU K) ((tCB (rLenU K) (tCons (tVar 2) tNil))) ((tC (.int 1))))) tNil)))) (gName 4))
  (tSeq (tAsg ((tOp rSubU ((tCall (sp_law_draw K) [] E0 (tCons (tVar 0) (tCons ((tOp (rAddU K) (tVar 1) ((tC (.int 3))))) tNil)))) ((tC (.int 1))))) (gName 5))
  (tSeq (tIfS ((tTest (tOp (rEqU K) (tVar 3) ((tC (.int 0)))))) ((tRet ((tCall (sp_law_bent K) [] E0 (tCons (tVar 0) (tCons (tVar 2) tNil)))))) (tNext))
  (tSeq (tIfS ((tTest (tOp (rEqU K) (tVar 3) ((tC (.int 1)))))) ((tRet ((tOp (rAddU K) ((tOp (rAddU K) ((tSl (rSlU K) (tVar 2) tNoPart (tPart (tVar 4)))) ((tTup (tCons (tVar 5) tNil))))) ((tSl (rSlU K) (tVar 2) (tPart ((tOp (rAddU K) (tVar 4) ((tC (.int 1)))))) tNoPart)))))) (tNext))
  (tSeq (tIfS ((tTest (tOp (rEqU K) (tVar 3) ((tC (.int 2)))))) ((tRet ((tOp (rAddU K) ((tOp (rAddU K) ((tSl (rSlU K) (tVar 2) tNoPart (tPart (tVar 4)))) ((tTup (tCons (tVar 5) tNil))))) ((tSl (rSlU K) (tVar 2) (tPart (tVar 4)) tNoPart)))))) (tNext))
  (tSeq (tIfS ((tTest (tOp (rEqU K) (tVar 3) ((tC (.int 3)))))) ((tRet ((tThen ((tCB (rSortedI K) (tCons ((tOp (rAddU K) ((tCB (rListU K) (tCons (tVar 2) tNil))) ((tLst (tCons (tVar 5) tNil))))) tNil))) (kTupD K))))) (tNext))
  (tSeq (tIfS ((tTest (tOp (rEqU K) (tVar 3) ((tC (.int 4)))))) ((tRet ((tOp (rAddU K) ((tSl (rSlU K) (tVar 2) tNoPart (tPart (tVar 4)))) ((tSl (rSlU K) (tVar 2) (tPart ((tOp (rAddU K) (tVar 4) ((tC (.int 1)))))) tNoPart)))))) (tNext))
  (tSeq (tIfS ((tTest (tOp (rEqU K) (tVar 3) ((tC (.int 5)))))) ((tRet ((tOp (rAddU K) ((tSl (rSlU K) (tVar 2) tNoPart (tPart (tVar 4)))) ((tSl (rSlU K) (tVar 2) (tPart ((tOp (rAddU K) (tVar 4) ((tC (.int 2)))))) tNoPart)))))) (tNext))
  (tSeq (tIfS ((tTest (tOp (rEqU K) (tVar 3) ((tC (.int 6)))))) ((tRet ((tThen ((tCB (rSortedI K) (tCons ((tOp (rAddU K) ((tCB (rListU K) (tCons (tVar 2) tNil))) ((tLst (tCons (tVar 5) (tCons ((tOp (rAddU K) (tVar 5) ((tC (.int 1))))) tNil)))))) tNil))) (kTupD K))))) (tNext))
  (tSeq (tIfS ((tTest (tOp (rEqU K) (tVar 3) ((tC (.int 7)))))) (tSeq (tAsg ((tOp rSubU ((tC (.int 1))) ((tOp (rMulU K) ((tC (.int 2))) ((tCall (sp_law_draw K) [] E0 (tCons (tVar 0) (tCons ((tC (.int 2))) tNil)))))))) (gName 6))
  ((tRet ((tThen ((tLc ((iSeqU K (tVar 2))) ((gName 8)) (tYes) ((tOp (rAddU K) (tVar 8) (tVar 6))) [8])) (kTupD K)))))) (tNext))
  (tSeq (tIfS ((tTest (tOp (rEqU K) (tVar 3) ((tC (.int 8)))))) ((tRet ((tRevU K (tVar 2) (tPart ((tUn (rU fun i => .int (-i)) ((tC (.int 1)))))))))) (tNext))
  (tSeq (tIfS ((tTest (tOp (rEqU K) (tVar 3) ((tC (.int 9)))))) ((tRet ((tOp (rAddU K) (tVar 2) ((tTup (tCons ((tOp (rAddU K) ((tOp rPowU ((tC (.int 10))) ((tC (.int 20))))) (tVar 5))) tNil))))))) (tNext))
  (tSeq (tIfS ((tTest (tOp (rEqU K) (tVar 3) ((tC (.int 10)))))) ((tRet ((tCall (sp_law_change_draw K) [] E0 (tCons (tVar 0) (tCons ((tOp (rAddU K) ((tC (.int 1))) ((tCall (sp_law_draw K) [] E0 (tCons (tVar 0) (tCons ((tC (.int 12))) tNil)))))) tNil)))))) (tNext))
  (tSeq (tAsg ((tCall (sp_law_draw K) [] E0 (tCons (tVar 0) (tCons ((tC (.int 8))) tNil)))) (gName 7))
  (tSeq (tIfS ((tTest (tOp (rEqU K) ((tCall (sp_law_draw K) [] E0 (tCons (tVar 0) (tCons ((tC (.int 10))) tNil)))) ((tC (.int 0)))))) ((tAsg ((tC (.int 40))) (gName 7))) (tNext))
  ((tRet ((tThen ((tLc ((iRng1 (tCons (tVar 7) tNil))) ((gName 9)) (tYes) ((tOp rSubU ((tCall (sp_law_draw K) [] E0 (tCons (tVar 0) (tCons ((tC (.int 15))) tNil)))) ((tC (.int 1))))) [9])) (kTupD K))))))))))))))))))))
abbrev N_law_odd : List Str := ["pool", "stage", "change", "way", "at", "signs", "text", "place"]
def t_law_odd (K : PySem.W.Frag) : TS :=
  tSeq (tAsg ((tCall (sp_law_draw K) [] E0 (tCons (tVar 0) (tCons ((tC (.int 6))) tNil)))) (gName 3))
  (tSeq (tAsg ((tCall (sp_law_draw K) [] E0 (tCons (tVar 0) (tCons ((tOp (rAddU K) ((tCB (rLenU K) (tCons (tVar 2) tNil))) ((tC (.int 1))))) tNil)))) (gName 4))
  (tSeq (tAsg ((tC (.str "1234567890ET"))) (gName 5))
  (tSeq (tAsg ((tBM K "str" (rJoin K) ((tC (.str ""))) (tCons ((tLc ((iSeqU K (tVar 2))) ((gName 7)) (tYes) ((tOp (rIx K) (tVar 5) ((tOp rSubU (tVar 7) ((tC (.int 1))))))) [7])) tNil))) (gName 6))
  (tSeq (tIfS ((tTest (tOp (rEqU K) (tVar 3) ((tC (.int 0)))))) ((tRet (tVar 6))) (tNext))
  (tSeq (tIfS ((tTest (tOp (rEqU K) (tVar 3) ((tC (.int 1)))))) ((tRet (tVar 1))) (tNext))
  (tSeq (tIfS ((tTest (tOp (rEqU K) (tVar 3) ((tC (.int 2)))))) ((tRet ((tTup (tCons (tVar 2) tNil))))) (tNext))
  (tSeq (tIfS ((tTest (tOp (rEqU K) (tVar 3) ((tC (.int 3)))))) ((tRet ((tOp (rAddU K) ((tOp (rAddU K) ((tSl (rSlU K) (tVar 2) tNoPart (tPart (tVar 4)))) ((tTup (tCons ((tOp (rIx K) (tVar 5) ((tOp rSubU (tVar 4) ((tC (.int 1))))))) tNil))))) ((tSl (rSlU K) (tVar 2) (tPart ((tOp (rAddU K) (tVar 4) ((tC (.int 1)))))) tNoPart)))))) (tNext))
  (tSeq (tIfS ((tTest (tOp (rEqU K) (tVar 3) ((tC (.int 4)))))) ((tRet ((tOp (rAddU K) ((tOp (rAddU K) ((tSl (rSlU K) (tVar 2) tNoPart (tPart (tVar 4)))) ((tTup (tCons (tVar 2) tNil))))) ((tSl (rSlU K) (tVar 2) (tPart (tVar 4)) tNoPart)))))) (tNext))
  ((tRet ((tOp (rAddU K) ((tOp (rAddU K) ((tSl (rSlU K) (tVar 2) tNoPart (tPart (tVar 4)))) ((tTup (tCons (tVar 6) tNil))))) ((tSl (rSlU K) (tVar 2) (tPart (tVar 4)) tNoPart))))))))))))))
section
variable {K : PySem.W.Frag} {ec : Str → Addr} {vs : List V} {H : Hp} {Q : VK} {E : XK}
theorem len_law_near (h : sp_law_near K vs H Q E) : vs.length = 3 := by obtain ⟨s, d, n, cs, rfl, _⟩ := h; rfl
theorem len_law_odd (h : sp_law_odd K vs H Q E) : vs.length = 3 := by obtain ⟨s, d, n, cs, rfl, _⟩ := h; rfl
theorem r_sortI {a : Addr} {ns : List Int} (h : SqL K H a (ns.map V.int)) (k : ∀ ms p H', (ms : List Int).length = ns.length → H p = none → Same H H' → H' p = some (.lst (ms.map V.int)) → Q (.ref p) H') : rSortedI K [.ref a] H Q :=
  ⟨a, ns, rfl, h, fun ns' p hp _ np => k ns' p _ hp.length_eq np (same_new np) upd_same⟩
theorem pure_law_near (h : sp_law_near K vs H Q E) : t_law_near K (En Q) (start N_law_near vs) H := by
  obtain ⟨p, a, n, ns, rfl, hp, hn, ha, hl, q⟩ := h
  have hm : (ns.map V.int).length = ns.length := List.length_map ..
  unfold t_law_near
  walk_at "go"
  all_goals (try exact q _ _ _ (by walk_at "but") (by walk_at "pl") (by walk_at "it") (by walk_at "sz"))
  · exact ⟨p, a, ns, rfl, by walk_at "pl", by walk_at "it", hl, fun b H' ms b1 p1 e1 l1 => q b H' ms (by walk_at "but") p1 e1 (by omega)⟩
  · rename_i f H1 nf sf ef g H2 ng sg eg
    have ef2 := sg _ _ ef
    refine r_catL ef2 eg (by rw [sizeLine_eq, List.length_map]; simp; omega) fun r H3 nr sr er => ?_
    rename_i w H0 w0 w1 bw pw _ _ _ _
    have er' : H3 r = some (.lst ((ns ++ [w - 1]).map V.int)) := by rw [er, List.map_append]; rfl
    walk_at "rd"
    refine r_sortI (sqL_of er') fun ms u H4 hl4 nu su eu => ?_
    have hl4' : ms.length = ns.length + 1 := by rw [hl4, List.length_append]; rfl
    walk_at "go"
    exact q _ _ _ (by walk_at "but") (by walk_at "pl") (by walk_at "it") (by walk_at "sz")
  · rename_i f H1 nf sf ef g H2 ng sg eg
    have ef2 := sg _ _ ef
    refine r_catL ef2 eg (by rw [sizeLine_eq, List.length_map]; simp; omega) fun r H3 nr sr er => ?_
    rename_i w H0 w0 w1 bw pw _ _ _ _ _ _ _
    have er' : H3 r = some (.lst ((ns ++ [w - 1, w - 1 + 1]).map V.int)) := by rw [er, List.map_append]; rfl
    walk_at "rd"
    refine r_sortI (sqL_of er') fun ms u H4 hl4 nu su eu => ?_
    have hl4' : ms.length = ns.length + 2 := by rw [hl4, List.length_append]; rfl
    walk_at "go"
    exact q _ _ _ (by walk_at "but") (by walk_at "pl") (by walk_at "it") (by walk_at "sz")
  · rename_i v H1 v0 v1 b1 p1
    refine r_lcN (by walk_at "it") (by omega) (fun x => ⟨x + (1 - 2 * v), fun H1 Q' k => ?_⟩) fun t H' ms nt s e hl' => ?_
    · repeat (walk_at "au1")
      exact k
    · walk_at "go"
      exact q _ _ _ (by walk_at "but") (by walk_at "pl") (by walk_at "it") (by walk_at "sz")
  · rename_i v H1 v0 v1 b1 p1
    refine ⟨p, (1 + v).toNat, by rw [show (((1 + v).toNat : Nat) : Int) = 1 + v by omega]; rfl, p1, by omega, by omega, fun t H' cs nt b2 p2 e2 hc => ?_⟩
    have := hc.len (by omega)
    exact q t H' cs (by walk_at "but") p2 e2 (by omega)
  · rename_i v H1 v0 v1 b1 p1 _
    refine r_lcDr p1 (by omega) (fun x H2 Q' b2 p2 k => ?_) fun t H' ms nt b2 p2 e2 hl' => ?_
    · repeat (walk_at "au1")
      exact k _ _ (by walk_at "but") (by walk_at "pl")
    · have hl2 : ms.length = 40 := hl'
      clear hl'
      walk_at "go"
      exact q _ _ _ (by walk_at "but") (by walk_at "pl") (by walk_at "it") (by walk_at "sz")
  · rename_i v0 H0 v00 v01 b0 p0 v H1 _ v1 b1 p1 _
    refine r_lcDr p1 (by omega) (fun x H2 Q' b2 p2 k => ?_) fun t H' ms nt b2 p2 e2 hl' => ?_
    · repeat (walk_at "au1")
      exact k _ _ (by walk_at "but") (by walk_at "pl")
    · walk_at "go"
      exact q _ _ _ (by walk_at "but") (by walk_at "pl") (by walk_at "it") (by walk_at "sz")
theorem rpL_app {xs ys : List V} {ds es : List Dat} (h : RpL K H xs ds) (h2 : RpL K H ys es) : RpL K H (xs ++ ys) (ds ++ es) := by
  induction xs generalizing ds with
  | nil => cases h; exact h2
  | cons x xs ih =>
    cases h with
    | cons r t => exact .cons r (ih t)
theorem sizes_app (a b : List Dat) : Dat.sizes (a ++ b) = Dat.sizes a + Dat.sizes b := by
  induction a with
  | nil => simp [Dat.sizes]
  | cons x a ih => rw [List.cons_append, Dat.sizes, Dat.sizes, ih]; omega
theorem noB_mix {ms us : List Int} {e : Dat} (he : ∀ b, e ≠ .bl b) : noB (.tup ((ms.map Dat.int ++ [e]) ++ us.map Dat.int)) = true := by
  show List.all _ _ = true
  rw [List.all_eq_true]
  intro d hd
  rcases List.mem_append.mp hd with z | z
  · rcases List.mem_append.mp z with z | z
    · obtain ⟨i, _, rfl⟩ := List.mem_map.mp z; rfl
    · rw [List.mem_singleton] at z
      subst z
      cases d with
      | bl b => exact absurd rfl (he b)
      | _ => rfl
  · obtain ⟨i, _, rfl⟩ := List.mem_map.mp z; rfl
theorem size_mix {ms us : List Int} {e : Dat} {k : Nat} (h1 : ms.length ≤ 20) (h2 : us.length ≤ 20) (he : e.size ≤ k) : (Dat.tup ((ms.map Dat.int ++ [e]) ++ us.map Dat.int)).size ≤ k + 41 := by
  show 1 + Dat.sizes _ ≤ _
  rw [sizes_app, sizes_app, sizes_ints, sizes_ints]
  simp only [Dat.sizes]
  omega
theorem lc_signs5 {σ : L2.St} {a : Addr} {cs : List Int} (h5 : σ[5]? = some (some (.str "1234567890ET"))) (hj : 7 < σ.length) (h : SqT K H a (cs.map V.int)) (hm : ∀ x ∈ cs, 1 ≤ x ∧ x ≤ 12) (hl : cs.length ≤ 1000)
    (hd : ∀ p H', H p = none → Same H H' → H' p = some (.lst (cs.map fun x => V.str (S [sgAt x]))) → Q (.ref p) H') : PLc (Itt K a) (gName 7) tYes (tOp (rIx K) (tVar 5) (tOp rSubU (tVar 7) (tC (.int 1)))) [7] σ H Q := by
  refine r_lcT (xs := cs.map V.int) (fun D i H' => H D = none ∧ Same H H' ∧ H' D = some (.lst ((cs.take i).map fun x => V.str (S [sgAt x]))))
    (fun x => by show ((σ.set 7 none).set 7 (some x)).set 7 none = σ.set 7 none; rw [List.set_set, List.set_set]) (fun D H' hD s e => ⟨hD, s, e⟩) (fun D i H' q => sqT_same q.2.1 h) (fun D i x H' hi q => ?_) (fun D H' hD q => ?_)
  · obtain ⟨hD, s, e⟩ := q
    rw [List.getElem?_map] at hi
    obtain ⟨y, hy, rfl⟩ := Option.map_eq_some_iff.mp hi
    have hy2 := hm y (List.mem_of_getElem? hy)
    have w5 : ((wipe σ [7]).set 7 (some (.int y)))[5]? = some (some (.str "1234567890ET")) := by
      show ((σ.set 7 none).set 7 (some (.int y)))[5]? = _
      rw [List.set_set, List.getElem?_set_ne (by decide)]; exact h5
    have w7 : ((wipe σ [7]).set 7 (some (.int y)))[7]? = some (some (.int y)) := by
      show ((σ.set 7 none).set 7 (some (.int y)))[7]? = _
      rw [List.set_set, List.getElem?_set_self hj]
    refine r_yes (r_T ?_)
    refine r_op (r_var w5 (r_op (r_var w7 (r_c (r_subI ?_)))))
    rw [signs_S]
    refine r_ixSS (by decide) (sgn_at hy2.1 hy2.2) ?_
    refine r_acc e (by rw [List.length_map, List.length_take]; omega) fun H5 b5 e5 => ⟨hD, same_but s b5 hD, ?_⟩
    rw [e5, List.take_add_one, hy, List.map_append]
    rfl
  · obtain ⟨_, s, e⟩ := q
    rw [List.length_map, List.take_length] at e
    exact hd D H' hD s e
theorem sgn_any {m : Int} (h1 : 0 ≤ m) (h2 : m ≤ 12) : ∃ c, atI signsL (m - 1) = some c := by
  by_cases h : m = 0
  · subst h; exact ⟨84, by decide⟩
  · exact ⟨_, sgn_at (x := m) (by omega) h2⟩
theorem pure_law_odd (h : sp_law_odd K vs H Q E) : t_law_odd K (En Q) (start N_law_odd vs) H := by
  obtain ⟨p, a, n, cs, rfl, hp, hn, ha, hc, q⟩ := h
  have hlen := hc.len (by omega)
  have hm : (cs.map V.int).length = cs.length := List.length_map ..
  unfold t_law_odd
  walk_at "rd"
  refine r_draw hp (by omega) (by omega) fun way H1 w0 w1 b1 p1 => ?_
  have ha1 := sqT_pl b1 hp ha
  walk_at "rd"
  rw [hm]
  refine r_draw p1 (by omega) (by omega) fun at1 H2 a0 a1 b2 p2 => ?_
  have ha2 := sqT_pl b2 p1 ha1
  have b12 : But p H H2 := b1.trans b2
  walk_at "rd"
  refine lc_signs5 rfl (by show 7 < 8; decide) ha2 (fun x hx => by have := hc.mem x hx; omega) (by omega) fun l H3 nl s3 e3 => ?_
  have ha3 := sqT_same s3 ha2
  have b13 : But p H H3 := b12.trans (Same.but s3)
  have p3 := pl_same s3 p2
  walk_at "rd"
  refine join_signs e3 (by omega) ?_
  walk_at "rd"
  generalize cs.map sgAt = tx
  have fin : ∀ (v : V) (e : Dat) (H4 H5 H6 : Hp) (f g : Addr) (ms us : List Int), Same H3 H4 → Rp K H4 v e → (∀ b, e ≠ .bl b) → e.size ≤ 100 → ms.length ≤ cs.length → us.length ≤ cs.length → SqT K H4 f (ms.map V.int) → Same H4 H5 → H5 g = some (.tup [v]) → Same H5 H6 →
      ∀ r H7, Same H6 H7 → SqT K H7 r ((ms.map V.int ++ [v]) ++ us.map V.int) → Q (.ref r) H7 := fun v e H4 H5 H6 f g ms us s4 rv hv sz lm lu ef s5 eg s6 r H7 s7 er => by
    refine q _ _ H7 (b13.trans (Same.but (((s4.trans s5).trans s6).trans s7))) (pl_same (((s4.trans s5).trans s6).trans s7) p3) (.tup er (rpL_app (rpL_app (rpL_ints ms) (.cons (rp_same ((s5.trans s6).trans s7) rv) .nil)) (rpL_ints us))) (noB_mix hv) ?_
    have := size_mix (ms := ms) (us := us) (e := e) (k := 100) (by omega) (by omega) sz
    omega
  refine r_ite (fun h0 => ?_) (fun h0 => ?_)
  · walk_at "rd"
    exact q _ (.str (S tx)) H3 b13 p3 (.str _) rfl (by show 1 ≤ 1000; decide)
  walk_at "rd"
  refine r_ite (fun h1 => ?_) (fun h1 => ?_)
  · walk_at "rd"
    exact q _ (.int n) H3 b13 p3 (.int _) rfl (by show 1 ≤ 1000; decide)
  walk_at "rd"
  refine r_ite (fun h2 => ?_) (fun h2 => ?_)
  · walk_at "rd"
    intro r H4 nr s4 e4
    refine q _ (.tup [.tup (cs.map Dat.int)]) H4 (b13.trans (Same.but s4)) (pl_same s4 p3) (.tup (sqT_of e4) (.cons (rp_ints (sqT_same s4 ha3)) .nil)) rfl ?_
    show 1 + (Dat.size (.tup (cs.map Dat.int)) + 0) ≤ 1000
    rw [size_row]; omega
  walk_at "rd"
  refine r_ite (fun h3 => ?_) (fun h3 => ?_)
  · walk_at "rd"
    refine r_slN ha3 fun f H4 ms s4 ef lm => ?_
    have ha4 := sqT_same s4 ha3
    walk_at "rd"
    obtain ⟨c, hcc⟩ := sgn_any (m := at1) a0 (by omega)
    rw [signs_S]
    refine r_ixSS (by decide) hcc ?_
    walk_at "rd"
    intro g H5 ng s5 eg
    refine r_catTT (sqT_same s5 ef) (sqT_of eg) (by rw [sizeLine_eq, List.length_map]; simp; omega) fun r H6 s6 er => ?_
    have ha6 := sqT_same s6 (sqT_same s5 ha4)
    walk_at "rd"
    refine r_slN ha6 fun u H7 us s7 eu lu => ?_
    walk_at "rd"
    refine r_catTT (sqT_same s7 er) eu (by rw [sizeLine_eq, List.length_append, List.length_map, List.length_map]; simp; omega) fun z H8 s8 ez => ?_
    exact fin (.str (S [c])) (.str (S [c])) H4 H5 H6 f g ms us s4 (.str _) (fun b z => by cases z) (by show 1 ≤ 100; decide) lm lu ef s5 eg s6 z H8 (s7.trans s8) ez
  walk_at "rd"
  refine r_ite (fun h4 => ?_) (fun h4 => ?_)
  · walk_at "rd"
    refine r_slN ha3 fun f H4 ms s4 ef lm => ?_
    have ha4 := sqT_same s4 ha3
    walk_at "rd"
    intro g H5 ng s5 eg
    refine r_catTT (sqT_same s5 ef) (sqT_of eg) (by rw [sizeLine_eq, List.length_map]; simp; omega) fun r H6 s6 er => ?_
    have ha6 := sqT_same s6 (sqT_same s5 ha4)
    walk_at "rd"
    refine r_slN ha6 fun u H7 us s7 eu lu => ?_
    walk_at "rd"
    refine r_catTT (sqT_same s7 er) eu (by rw [sizeLine_eq, List.length_append, List.length_map, List.length_map]; simp; omega) fun z H8 s8 ez => ?_
    exact fin (.ref a) (.tup (cs.map Dat.int)) H4 H5 H6 f g ms us s4 (rp_ints ha4) (fun b z => by cases z) (by rw [size_row]; omega) lm lu ef s5 eg s6 z H8 (s7.trans s8) ez
  · walk_at "rd"
    refine r_slN ha3 fun f H4 ms s4 ef lm => ?_
    have ha4 := sqT_same s4 ha3
    walk_at "rd"
    intro g H5 ng s5 eg
    refine r_catTT (sqT_same s5 ef) (sqT_of eg) (by rw [sizeLine_eq, List.length_map]; simp; omega) fun r H6 s6 er => ?_
    have ha6 := sqT_same s6 (sqT_same s5 ha4)
    walk_at "rd"
    refine r_slN ha6 fun u H7 us s7 eu lu => ?_
    walk_at "rd"
    refine r_catTT (sqT_same s7 er) eu (by rw [sizeLine_eq, List.length_append, List.length_map, List.length_map]; simp; omega) fun z H8 s8 ez => ?_
    exact fin (.str (S tx)) (.str (S tx)) H4 H5 H6 f g ms us s4 (.str _) (fun b z => by cases z) (by show 1 ≤ 100; decide) lm lu ef s5 eg s6 z H8 (s7.trans s8) ez
end
end K8
end Kb
set_option Elab.async false
set_option linter.all false
set_option maxRecDepth 100000
set_option maxHeartbeats 4000000
namespace Kb
namespace K8
open PySem PySem.Spec PyProof.Rows L2 SX
local macro_rules | `(tactic| walk_at "tk") => `(tactic| first
  | assumption
  | ((with_reducible refine' sqT_of ?k); (case k => assumption))
  | ((with_reducible refine' sqT_ofD ?k); (case k => assumption))
  | ((with_reducible refine' noD_of ?k); (case k => assumption))
  | ((with_reducible refine' noD_same ?s ?k); (case s => assumption); (case k => walk_at "tk"))
  | ((with_reducible refine' sqL_of ?k); (case k => assumption))
  | ((with_reducible refine' sqT_same ?s ?k); (case s => assumption); (case k => walk_at "tk"))
  | ((with_reducible refine' sqL_same ?s ?k); (case s => assumption); (case k => walk_at "tk"))
  | ((with_reducible refine' sqT_but ?s ?t ?k); (case s => assumption); (case t => walk_at "tk"); (case k => walk_at "tk"))
  | ((with_reducible refine' sqL_but ?s ?t ?k); (case s => assumption); (case t => walk_at "ne"); (case k => walk_at "tk"))
  | ((with_reducible refine' sqL_of ?k); (case k => walk_at "tk"))
  | ((with_reducible refine' sqT_of ?k); (case k => walk_at "tk"))
  | ((with_reducible refine' at_same ?s ?k); (case s => assumption); (case k => walk_at "tk"))
  | ((with_reducible refine' at_but ?s ?t ?k); (case s => assumption); (case t => walk_at "ne"); (case k => walk_at "tk")))
local macro_rules | `(tactic| walk_at "ne") => `(tactic| first
  | assumption
  | (refine Ne.symm ?_; assumption)
  | exact ne_of_none (by assumption) (by assumption)
  | exact (ne_of_none (by assumption) (by assumption)).symm)
local macro_rules | `(tactic| walk_at "side") => `(tactic| first
  | assumption
  | omega
  | (simp only [sizeLine_eq, List.length_cons, List.length_nil, List.length_map]; omega)
  | (show _ ≤ sizeLine; decide))
local macro_rules | `(tactic| walk_at "kit") => `(tactic| first
  | (show kitB _ _ = some true; decide +kernel)
  | (show kitB _ _ = some false; decide +kernel))
local macro_rules | `(tactic| walk_at "rng") => `(tactic| first
  | (refine ⟨by omega, by omega, by omega, by omega⟩)
  | (refine ⟨by omega, by omega⟩)
  | ((simp only [List.length_map]); (refine ⟨by omega, by omega, by omega, by omega⟩))
  | ((simp only [List.length_map]); (refine ⟨by omega, by omega⟩)))
local macro_rules | `(tactic| walk_at "rd1") => `(tactic| first
  | with_reducible refine r_seq ?_
  | ((with_reducible refine' r_var ?k0 ?_); (case k0 => rfl))
  | with_reducible refine r_op ?_
  | with_reducible refine r_c ?_
  | with_reducible refine r_asg ?_
  | with_reducible refine r_name ?_
  | with_reducible refine r_cons ?_
  | with_reducible refine r_nil ?_
  | with_reducible refine r_CB ?_
  | with_reducible refine r_if ?_
  | with_reducible refine r_test ?_
  | with_reducible refine r_k ?_
  | with_reducible refine r_T ?_
  | with_reducible refine r_F ?_
  | with_reducible refine r_nT ?_
  | with_reducible refine r_nF ?_
  | with_reducible refine r_ret ?_
  | with_reducible refine r_drop ?_
  | with_reducible refine r_next ?_
  | with_reducible refine r_call ?_
  | with_reducible refine r_addI ?_
  | with_reducible refine r_subI ?_
  | with_reducible refine r_ltI ?_
  | with_reducible refine r_gtI ?_
  | with_reducible refine r_leI ?_
  | with_reducible refine r_geI ?_
  | with_reducible refine r_eqI ?_
  | with_reducible refine r_neI ?_
  | with_reducible refine r_int ?_
  | with_reducible refine r_abs ?_
  | with_reducible refine r_not ?_
  | with_reducible refine r_and ?_
  | with_reducible refine r_or ?_
  | with_reducible refine r_tru ?_
  | with_reducible refine r_truB ?_
  | with_reducible refine r_lst ?_
  | with_reducible refine r_tup ?_
  | with_reducible refine r_BM ?_
  | with_reducible refine r_BM0 ?_
  | with_reducible refine r_tyS ?_
  | with_reducible refine r_gsub ?_
  | with_reducible refine r_then ?_
  | with_reducible refine r_lstRg ?_
  | with_reducible refine r_tupRg ?_
  | with_reducible refine r_rg2 ?_
  | with_reducible refine r_rg1 ?_
  | with_reducible refine r_ii ?_
  | with_reducible refine r_i ?_
  | with_reducible refine r_ipI ?_
  | with_reducible refine r_un ?_
  | with_reducible refine r_neg ?_
  | with_reducible refine r_isN ?_
  | with_reducible refine r_notN ?_
  | with_reducible refine r_notV ?_
  | with_reducible refine r_pnot ?_
  | with_reducible refine r_pif ?_
  | with_reducible refine r_andV ?_
  | with_reducible refine r_orV ?_
  | with_reducible refine r_ifE ?_
  | with_reducible refine r_chain ?_
  | with_reducible refine r_sl ?_
  | with_reducible refine r_noPart ?_
  | with_reducible refine r_part ?_
  | with_reducible refine r_brk ?_
  | with_reducible refine r_cont ?_
  | with_reducible refine r_retN ?_
  | with_reducible refine r_truI ?_
  | with_reducible refine r_B ?_
  | with_reducible refine r_for ?_
  | with_reducible refine r_rng1 ?_
  | with_reducible refine r_rng2 ?_
  | with_reducible refine r_rng3 ?_
  | with_reducible refine r_body ?_
  | with_reducible refine r_lc ?_
  | with_reducible refine r_yes ?_
  | ((with_reducible refine' r_mod ?k0 ?_); (case k0 => walk_at "side"))
  | ((with_reducible refine' r_mulI ?k0 ?_); (case k0 => first | exact Or.inl ⟨by omega, by omega⟩ | exact Or.inr ⟨by omega, by omega⟩))
  | ((with_reducible refine' r_lenL ?k0 ?_); (case k0 => walk_at "tk"))
  | ((with_reducible refine' r_lenT ?k0 ?_); (case k0 => walk_at "tk"))
  | ((with_reducible refine' r_truL ?k0 ?_); (case k0 => walk_at "tk"))
  | ((with_reducible refine' r_truT ?k0 ?_); (case k0 => walk_at "tk"))
  | ((with_reducible refine' r_ixL ?k0 ?k1 ?_); (case k0 => walk_at "tk"); (case k1 => first | assumption | rfl))
  | ((with_reducible refine' r_ixT ?k0 ?k1 ?_); (case k0 => walk_at "tk"); (case k1 => first | assumption | rfl))
  | ((with_reducible refine' r_new ?k0 ?_); (case k0 => walk_at "side"))
  | ((with_reducible refine' r_tyL ?k0 ?_); (case k0 => walk_at "tk"))
  | ((with_reducible refine' r_append ?k0 ?k1 ?_); (case k0 => walk_at "tk"); (case k1 => walk_at "side"))
  | ((with_reducible refine' r_setL ?k0 ?k1 ?_); (case k0 => walk_at "tk"); (case k1 => first | assumption | rfl))
  | ((with_reducible refine' r_kTupL ?k0 ?_); (case k0 => walk_at "tk"))
  | ((with_reducible refine' r_kTupT ?k0 ?_); (case k0 => walk_at "tk"))
  | ((with_reducible refine' r_listL ?k0 ?_); (case k0 => walk_at "tk"))
  | ((with_reducible refine' r_listT ?k0 ?_); (case k0 => walk_at "tk"))
  | ((with_reducible refine' r_aug ?k0 ?_); (case k0 => rfl))
  | ((with_reducible refine' r_lenS ?k0 ?_); (case k0 => walk_at "side"))
  | ((with_reducible refine' r_pop ?k0 ?_); (case k0 => walk_at "tk"))
  | ((with_reducible refine' r_pr1 ?k0 ?_); (case k0 => walk_at "rng"))
  | ((with_reducible refine' r_pr2 ?k0 ?_); (case k0 => walk_at "rng"))
  | ((with_reducible refine' r_pr3d ?k0 ?_); (case k0 => walk_at "rng"))
  | ((with_reducible refine' r_isiI ?k0 ?_); (case k0 => walk_at "kit"))
  | ((with_reducible refine' r_isiB ?k0 ?_); (case k0 => walk_at "kit"))
  | ((with_reducible refine' r_isiS ?k0 ?_); (case k0 => walk_at "kit"))
  | ((with_reducible refine' r_isiN ?k0 ?_); (case k0 => walk_at "kit"))
  | ((with_reducible refine' r_isiT ?k0 ?k1 ?_); (case k0 => walk_at "tk"); (case k1 => walk_at "kit"))
  | ((with_reducible refine r_seqT ?_); (repeat (walk_at "rd1")); ((with_reducible refine' r_pseqT ?k0 ?_); (case k0 => walk_at "tk")))
  | ((with_reducible refine r_seqL ?_); (repeat (walk_at "rd1")); ((with_reducible refine' r_pseqL ?k0 ?_); (case k0 => walk_at "tk")))
  | ((with_reducible refine r_seqS ?_); (repeat (walk_at "rd1")); (with_reducible refine r_pseqS ?_)))
local macro_rules | `(tactic| walk_at "rd") => `(tactic| ((repeat (walk_at "rd1")); (try dsimp only)))
local macro_rules | `(tactic| walk_at "rd1") => `(tactic| first
  | with_reducible refine r_BMT ?_
  | with_reducible refine r_par ?_
  | with_reducible refine r_parV ?_
  | ((with_reducible refine' r_ptp ?k0 ?k1 ?_); (case k0 => walk_at "tk"); (case k1 => walk_at "tk"))
  | with_reducible refine r_eqS ?_
  | with_reducible refine r_neS ?_
  | with_reducible refine r_callW ?_
  | with_reducible refine r_try ?_
  | with_reducible refine r_enT ?_
  | ((with_reducible refine' r_pen ?k0 ?_); (case k0 => walk_at "tk")))
local macro_rules | `(tactic| walk_at "pl0") => `(tactic| first
  | assumption
  | exact pl_same (by assumption) (by assumption)
  | exact pl_same (by assumption) (pl_same (by assumption) (by assumption))
  | exact pl_same (by assumption) (pl_same (by assumption) (pl_same (by assumption) (by assumption))))
local macro_rules | `(tactic| walk_at "pl") => `(tactic| first
  | walk_at "pl0"
  | ((with_reducible refine' pl_butL ?s ?n ?k); (case s => assumption); (case n => walk_at "ne"); (case k => walk_at "pl"))
  | ((with_reducible refine' pl_same ?s ?k); (case s => assumption); (case k => walk_at "pl")))
local macro_rules | `(tactic| walk_at "ne") => `(tactic| first
  | exact ne_pl (by assumption) (by walk_at "pl0")
  | exact (ne_pl (by assumption) (by walk_at "pl0")).symm)
local macro_rules | `(tactic| walk_at "fr") => `(tactic| first
  | assumption
  | ((with_reducible refine' free_but ?b ?n ?h); (case h => assumption); (case n => walk_at "ne"); (case b => walk_at "but"))
  | ((with_reducible refine' Same.free ?b ?h); (case h => assumption); (case b => walk_at "same")))
local macro_rules | `(tactic| walk_at "but") => `(tactic| first
  | assumption
  | exact But.refl
  | ((with_reducible refine' But.trans ?a ?b); (case b => assumption); (case a => walk_at "but"))
  | ((with_reducible refine' But.trans ?a (Same.but ?b)); (case b => assumption); (case a => walk_at "but"))
  | ((with_reducible refine' but_via ?a ?b ?c); (case b => assumption); (case c => walk_at "fr"); (case a => walk_at "but")))
local macro_rules | `(tactic| walk_at "same") => `(tactic| first
  | assumption
  | exact Same.refl _
  | ((with_reducible refine' Same.trans ?a ?b); (case b => assumption); (case a => walk_at "same"))
  | ((with_reducible refine' same_but ?a ?b ?c); (case b => assumption); (case c => walk_at "fr"); (case a => walk_at "same")))
local macro_rules | `(tactic| walk_at "tk") => `(tactic| first
  | ((with_reducible refine' sqT_pl ?s ?t ?k); (case s => assumption); (case t => walk_at "pl0"); (case k => walk_at "tk"))
  | ((with_reducible refine' rp_same ?s ?k); (case s => assumption); (case k => walk_at "tk"))
  | ((with_reducible refine' rp_pl ?s ?t ?k); (case s => assumption); (case t => walk_at "pl0"); (case k => walk_at "tk")))
local macro_rules | `(tactic| walk_at "it") => `(tactic| first
  | assumption
  | ((with_reducible refine' sqI_1 ?k); (case k => assumption))
  | ((with_reducible refine' sqI_0 ?k); (case k => assumption))
  | ((with_reducible refine' sqI_of ?k); (case k => assumption))
  | ((with_reducible refine' sqI_D ?k); (case k => assumption))
  | ((with_reducible refine' sqT_same ?s ?k); (case s => assumption); (case k => walk_at "it"))
  | ((with_reducible refine' sqT_but ?s ?t ?k); (case s => assumption); (case t => assumption); (case k => walk_at "it"))
  | ((with_reducible refine' sqT_pl ?s ?t ?k); (case s => assumption); (case t => walk_at "pl0"); (case k => walk_at "it")))
local macro_rules | `(tactic| walk_at "sz") => `(tactic| first | omega | ((try simp only [List.length_cons, List.length_nil] at *); omega))
local macro_rules | `(tactic| walk_at "au1") => `(tactic| first
  | walk_at "rd1"
  | ((with_reducible refine' r_draw ?k0 ?k1 ?k2 ?_); (case k0 => walk_at "pl"); (case k1 => omega); (case k2 => omega); (intro _ _ _ _ _ _))
  | ((with_reducible refine' r_slN ?k0 ?_); (case k0 => walk_at "it"); (intro _ _ _ _ _ _))
  | ((with_reducible refine' r_catN ?k0 ?k1 ?k2 ?_); (case k0 => walk_at "it"); (case k1 => walk_at "it"); (case k2 => walk_at "sz"); (intro _ _ _ _ _ _))
  | ((with_reducible refine' r_pow ?k0 ?_); (case k0 => exact ⟨by decide, by decide, by decide⟩))
  | ((with_reducible refine' r_ixI ?k0 ?k1 ?k2 ?_); (case k0 => walk_at "it"); (case k1 => omega); (case k2 => omega); (intro _ _))
  | ((with_reducible refine' r_setI ?k0 ?k1 ?k2 ?_); (case k0 => walk_at "tk"); (case k1 => omega); (case k2 => omega); (intro _ _ _ _ _))
  | ((with_reducible refine' r_kTupI ?k0 ?_); (case k0 => walk_at "tk"); (intro _ _ _ _ _))
  | ((with_reducible refine' r_listI ?k0 ?_); (case k0 => walk_at "it"); (intro _ _ _ _ _))
  | (with_reducible refine r_revU ?_)
  | ((with_reducible refine' r_prevN ?k0 ?_); (case k0 => walk_at "it"); (intro _ _ _ _ _ _))
  | (intro _ _ _ _ _))
local macro_rules | `(tactic| walk_at "go") => `(tactic| ((repeat (walk_at "au1")); (first
  | ((with_reducible refine r_ite (fun _ => ?_) (fun _ => ?_)) <;> (walk_at "go"))
  | ((with_reducible refine r_iteN (fun _ => ?_) (fun _ => ?_)) <;> (walk_at "go"))
  | dsimp only
  | skip)))
abbrev XN : List Str := ["ChamberError", "BadStage", "BadChange", "BadNotation"]
def sp_law_row_told (K : PySem.W.Frag) : Sp := fun vs H Q _ => ∃ (n : Nat) (a : Addr) (cs : List Int), vs = [.int (n : Int), .ref a] ∧ SqT K H a (cs.map V.int) ∧ cs.length ≤ 1000 ∧ 1 ≤ n ∧ n ≤ 12 ∧
  ∀ p H' (k : Str) (v : V), Same H H' → H' p = some (.lst [.str k, v]) → (Chg n cs → k = "" ∧ ∃ t : Addr, v = .ref t ∧ SqT K H' t ((asR n cs).map V.int)) → (¬ Chg n cs → k = "BadChange") → Q (.ref p) H'
def sp_law_stage_refused (K : PySem.W.Frag) : Sp := fun vs H Q _ => ∃ (w s : Int) (a : Addr) (cs : List Int), vs = [.int w, .int s, .ref a] ∧ SqT K H a (cs.map V.int) ∧ cs.length ≤ 1000 ∧ ¬ Stg s ∧ ∀ H', Same H H' → Q (.bl true) H'
def sp_law (K : PySem.W.Frag) : Sp := fun vs H Q _ => ∃ (a : Addr) (ns : List Int), vs = [.ref a] ∧ SqL K H a (ns.map V.int) ∧ ns.length ≤ 63 ∧ ∀ H', Q (.bl true) H'
abbrev N_law_row_told : List Str := ["stage", "change", "kind", "word", "alone", "told", "e"]
def t_law_row_told (K : PySem.W.Frag) (ec : Str → Addr) : TS :=
  tSeq (tAsg ((tC (.str ""))) (gName 2))
  (tSeq (tAsg ((tC (.str ""))) (gName 3))
  (tSeq (tAsg ((tC (.bl true))) (gName 4))
  (tSeq (tAsg ((tC .non)) (gName 5))
  (tSeq (tTry K W0 [⟨.ref (ec "BadChange"), some 6, fun a cls d => tSeq (tAsg ((tC (.str "BadChange"))) (gName 2))
  (tSeq (tAsg ((tXfA K a cls d "word" (tVar 6))) (gName 3))
  ((tAsg ((tAndV ((tCB (rIsX K a cls d) (tCons (tVar 6) (tCons ((tC (.ref (ec "ChamberError")))) tNil)))) ((tAndV ((tCB (rIsX K a cls d) (tCons (tVar 6) (tCons ((tC (.ty "ValueError"))) tNil)))) ((tNotV ((tCB (rIsX K a cls d) (tCons (tVar 6) (tCons ((tTup (tCons ((tC (.ref (ec "BadStage")))) (tCons ((tC (.ref (ec "BadNotation")))) tNil)))) tNil)))))))))) (gName 4))))⟩, ⟨.ref (ec "ChamberError"), none, fun a cls d => (tAsg ((tC (.str "another"))) (gName 2))⟩] (fun W => (tAsg ((tCallW (sp_as_row K ec) W (tCons (tVar 0) (tCons (tVar 1) tNil)))) (gName 5))))
  (tSeq (tIfS ((tAnd ((tTest (tOp (rNeU K) (tVar 2) ((tC (.str "")))))) ((tNot ((tAnd ((tTru K (tVar 4))) ((tTru K ((tCall (sp_law_same K) [] E0 (tCons (tVar 3) (tCons (tVar 2) tNil)))))))))))) ((tAsg ((tC (.str "another"))) (gName 2))) (tNext))
  ((tRet ((tLst (tCons (tVar 2) (tCons (tVar 5) tNil)))))))))))
abbrev N_law_stage_refused : List Str := ["which", "stage", "change", "word", "alone", "e"]
def t_law_stage_refused (K : PySem.W.Frag) (ec : Str → Addr) : TS :=
  tSeq (tAsg ((tC (.str ""))) (gName 3))
  (tSeq (tAsg ((tC (.bl false))) (gName 4))
  (tSeq (tTry K W0 [⟨.ref (ec "BadStage"), some 5, fun a cls d => tSeq (tAsg ((tXfA K a cls d "word" (tVar 5))) (gName 3))
  ((tAsg ((tAndV ((tCB (rIsX K a cls d) (tCons (tVar 5) (tCons ((tC (.ref (ec "ChamberError")))) tNil)))) ((tAndV ((tCB (rIsX K a cls d) (tCons (tVar 5) (tCons ((tC (.ty "ValueError"))) tNil)))) ((tNotV ((tCB (rIsX K a cls d) (tCons (tVar 5) (tCons ((tTup (tCons ((tC (.ref (ec "BadChange")))) (tCons ((tC (.ref (ec "BadNotation")))) tNil)))) tNil)))))))))) (gName 4)))⟩, ⟨.ref (ec "ChamberError"), none, fun a cls d => (tAsg ((tC (.str "another"))) (gName 3))⟩] (fun W => (tIfS ((tTest (tOp (rEqU K) (tVar 0) ((tC (.int 0)))))) ((tDrop ((tCallW (sp_all_changes K ec) W (tCons (tVar 1) tNil))))) ((tIfS ((tTest (tOp (rEqU K) (tVar 0) ((tC (.int 1)))))) ((tDrop ((tCallW (sp_change_count K ec) W (tCons (tVar 1) tNil))))) ((tIfS ((tTest (tOp (rEqU K) (tVar 0) ((tC (.int 2)))))) ((tDrop ((tCallW (sp_is_change K ec) W (tCons (tVar 1) (tCons (tVar 2) tNil)))))) ((tDrop ((tCallW (sp_as_row K ec) W (tCons (tVar 1) (tCons (tVar 2) tNil)))))))))))))
  ((tRet ((tAndV (tVar 4) ((tCall (sp_law_same K) [] E0 (tCons (tVar 3) (tCons ((tC (.str "BadStage"))) tNil))))))))))
abbrev N_law : List Str := ["script", "pool", "stage", "listed", "change", "told", "near", "bent", "k", "good", "odd", "value", "far", "strange", "which"]
def t_law (K : PySem.W.Frag) (ec : Str → Addr) : TS :=
  tSeq (tAsg ((tCall (sp_law_pool K) [] E0 (tCons (tVar 0) (tCons ((tC (.int 0))) tNil)))) (gName 1))
  (tSeq (tAsg ((tOp (rAddU K) ((tC (.int 1))) ((tCall (sp_law_draw K) [] E0 (tCons (tVar 1) (tCons ((tC (.int 12))) tNil)))))) (gName 2))
  (tSeq (tAsg ((tCall (sp_law_listed K) [] E0 (tCons (tVar 2) tNil))) (gName 3))
  (tSeq (tIfS ((tOr ((tNot ((tTru K ((tCall (sp_law_same K) [] E0 (tCons ((tCall (sp_all_changes K ec) [] E0 (tCons (tVar 2) tNil))) (tCons ((tThen (tVar 3) (kTupD K))) tNil)))))))) ((tNot ((tTru K ((tCall (sp_law_same K) [] E0 (tCons ((tCall (sp_change_count K ec) [] E0 (tCons (tVar 2) tNil))) (tCons ((tCall (sp_law_count K) [] E0 (tCons (tVar 2) tNil))) tNil)))))))))) ((tRet ((tC (.bl false))))) (tNext))
  (tSeq (tAsg ((tOp (rIx K) (tVar 3) ((tCall (sp_law_draw K) [] E0 (tCons (tVar 1) (tCons ((tCB (rLenU K) (tCons (tVar 3) tNil))) tNil)))))) (gName 4))
  (tSeq (tAsg ((tCall (sp_law_row_told K) [] E0 (tCons (tVar 2) (tCons (tVar 4) tNil)))) (gName 5))
  (tSeq (tIfS ((tOr ((tTest (tOp (rNeU K) ((tOp (rIx K) (tVar 5) ((tC (.int 0))))) ((tC (.str "")))))) ((tNot ((tTru K ((tCall (sp_law_same K) [] E0 (tCons ((tOp (rIx K) (tVar 5) ((tC (.int 1))))) (tCons ((tCall (sp_law_exchanged K) [] E0 (tCons (tVar 2) (tCons (tVar 4) tNil)))) tNil)))))))))) ((tRet ((tC (.bl false))))) (tNext))
  (tSeq (tIfS ((tOr ((tTest (tOp (rNeU K) ((tCall (sp_law_times K) [] E0 (tCons ((tOp (rIx K) (tVar 5) ((tC (.int 1))))) (tCons ((tOp (rIx K) (tVar 5) ((tC (.int 1))))) tNil)))) ((tCall (sp_law_rounds K) [] E0 (tCons (tVar 2) tNil)))))) ((tNot ((tTru K ((tCall (sp_law_same K) [] E0 (tCons ((tCall (sp_is_change K ec) [] E0 (tCons (tVar 2) (tCons (tVar 4) tNil)))) (tCons ((tC (.bl true))) tNil)))))))))) ((tRet ((tC (.bl false))))) (tNext))
  (tSeq (tAsg ((tCall (sp_law_pool K) [] E0 (tCons (tVar 0) (tCons ((tC (.int 1))) tNil)))) (gName 6))
  (tSeq (tAsg (tVar 4) (gName 7))
  (tSeq (tFor (iRng1 (tCons ((tC (.int 5))) tNil)) (gName 8) (tSeq (tAsg ((tCall (sp_law_near K) [] E0 (tCons (tVar 6) (tCons (tVar 2) (tCons (tVar 4) tNil))))) (gName 7))
  (tSeq (tAsg ((tCall (sp_law_even_gaps K) [] E0 (tCons (tVar 2) (tCons (tVar 7) tNil)))) (gName 9))
  (tSeq (tAsg ((tCall (sp_law_row_told K) [] E0 (tCons (tVar 2) (tCons (tVar 7) tNil)))) (gName 5))
  (tSeq (tIfS ((tNot ((tTru K ((tCall (sp_law_same K) [] E0 (tCons ((tCall (sp_is_change K ec) [] E0 (tCons (tVar 2) (tCons (tVar 7) tNil)))) (tCons (tVar 9) tNil)))))))) ((tRet ((tC (.bl false))))) (tNext))
  (tSeq (tIfS ((tAnd ((tTru K (tVar 9))) ((tOr ((tTest (tOp (rNeU K) ((tOp (rIx K) (tVar 5) ((tC (.int 0))))) ((tC (.str "")))))) ((tNot ((tTru K ((tCall (sp_law_same K) [] E0 (tCons ((tOp (rIx K) (tVar 5) ((tC (.int 1))))) (tCons ((tCall (sp_law_exchanged K) [] E0 (tCons (tVar 2) (tCons (tVar 7) tNil)))) tNil)))))))))))) ((tRet ((tC (.bl false))))) (tNext))
  ((tIfS ((tAnd ((tNot ((tTru K (tVar 9))))) ((tTest (tOp (rNeU K) ((tOp (rIx K) (tVar 5) ((tC (.int 0))))) ((tC (.str "BadChange")))))))) ((tRet ((tC (.bl false))))) (tNext)))))))))
  (tSeq (tAsg ((tCall (sp_law_pool K) [] E0 (tCons (tVar 0) (tCons ((tC (.int 2))) tNil)))) (gName 10))
  (tSeq (tFor (iRng1 (tCons ((tC (.int 2))) tNil)) (gName 8) (tSeq (tAsg ((tCall (sp_law_odd K) [] E0 (tCons (tVar 10) (tCons (tVar 2) (tCons (tVar 4) tNil))))) (gName 11))
  ((tIfS ((tNot ((tTru K ((tCall (sp_law_same K) [] E0 (tCons ((tCall (sp_is_change K ec) [] E0 (tCons (tVar 2) (tCons (tVar 11) tNil)))) (tCons ((tCall (sp_law_even_gaps K) [] E0 (tCons (tVar 2) (tCons (tVar 11) tNil)))) tNil)))))))) ((tRet ((tC (.bl false))))) (tNext)))))
  (tSeq (tAsg ((tOp (rAddU K) ((tOp (rMulU K) ((tCall (sp_law_draw K) [] E0 (tCons (tVar 10) (tCons ((tOp rPowU ((tC (.int 10))) ((tC (.int 8))))) tNil)))) ((tOp rPowU ((tC (.int 10))) ((tC (.int 8))))))) ((tCall (sp_law_draw K) [] E0 (tCons (tVar 10) (tCons ((tOp rPowU ((tC (.int 10))) ((tC (.int 8))))) tNil)))))) (gName 12))
  (tSeq (tAsg ((tOp (rIx K) ((tLst (tCons ((tC (.int 0))) (tCons ((tC (.int 13))) (tCons ((tUn (rU fun i => .int (-i)) (tVar 12))) (tCons ((tOp (rAddU K) ((tC (.int 13))) (tVar 12))) tNil)))))) ((tCall (sp_law_draw K) [] E0 (tCons (tVar 10) (tCons ((tC (.int 4))) tNil)))))) (gName 13))
  (tSeq (tFor (iRng1 (tCons ((tC (.int 4))) tNil)) (gName 14) ((tIfS ((tNot ((tTru K ((tCall (sp_law_stage_refused K) [] E0 (tCons (tVar 14) (tCons (tVar 13) (tCons (tVar 7) tNil))))))))) ((tRet ((tC (.bl false))))) (tNext))))
  (tSeq (tAsg ((tCall (sp_law_row_told K) [] E0 (tCons (tVar 2) (tCons (tVar 4) tNil)))) (gName 5))
  ((tRet ((tAndV ((tOp (rEqU K) ((tOp (rIx K) (tVar 5) ((tC (.int 0))))) ((tC (.str ""))))) ((tCall (sp_law_same K) [] E0 (tCons ((tOp (rIx K) (tVar 5) ((tC (.int 1))))) (tCons ((tCall (sp_law_exchanged K) [] E0 (tCons (tVar 2) (tCons (tVar 4) tNil)))) tNil))))))))))))))))))))))))
section
variable {K : PySem.W.Frag} {ec : Str → Addr} {vs : List V} {H : Hp} {Q : VK} {E : XK}
theorem len_law_row_told (h : sp_law_row_told K vs H Q E) : vs.length = 2 := by obtain ⟨s, d, cs, rfl, _⟩ := h; rfl
theorem len_law_stage_refused (h : sp_law_stage_refused K vs H Q E) : vs.length = 3 := by obtain ⟨w, s, d, cs, rfl, _⟩ := h; rfl
theorem len_law (h : sp_law K vs H Q E) : vs.length = 1 := by obtain ⟨a, r, rfl, _⟩ := h; rfl
theorem pure_law_row_told (XS : Exs K ec XN) (h : sp_law_row_told K vs H Q E) : t_law_row_told K ec (En Q) (start N_law_row_told vs) H := by
  obtain ⟨n, a, cs, rfl, ha, hl, n1, n2, q⟩ := h
  have hS : Stg (n : Int) := ⟨by omega, by omega⟩
  unfold t_law_row_told
  walk_at "rd"
  refine ⟨n, a, cs, rfl, ha, by omega, fun hs => absurd hS hs, fun hs hc d H' s' nd e => ?_, fun m em _ m2 hc p H1 np s1 e1 _ => ?_⟩
  · have BU := XS.bad "BadChange" (by decide)
    have hc' : ¬ Chg n cs := fun z => by unfold Chg at z; rw [hc] at z; cases z
    refine w_yes (by rw [XS.exm "BadChange" (by decide) "BadChange" (by decide)]; rfl) fun ea na => ?_
    dsimp only
    refine r_seq (r_asg (r_c (r_name ?_)))
    dsimp only
    refine r_seq (r_asg ?_)
    refine r_xfV (v := .str "BadChange") BU.xf BU.nw rfl e rfl ?_
    refine r_name ?_
    dsimp only
    refine r_asg ?_
    refine r_alone XS (x := "BadChange") (by decide) (by decide) (by decide) (by decide) (by decide) (by decide) rfl e fun H2 s2 => ?_
    refine r_name (r_endsAs ?_)
    dsimp only
    walk_at "rd"
    refine r_iteNM (by decide) ?_
    walk_at "rd"
    refine ⟨.str "BadChange", .str "BadChange", .str "BadChange", rfl, .str _, .str _, by decide, fun H3 s3 => ?_⟩
    walk_at "rd"
    intro p H4 np s4 e4
    exact q p H4 "BadChange" _ (((s'.trans s2).trans s3).trans s4) e4 (fun z => absurd z hc') (fun _ => rfl)
  · obtain rfl : n = m := by omega
    walk_at "rd"
    refine r_iteNP rfl ?_
    refine r_F (r_next ?_)
    walk_at "rd"
    intro p4 H4 np4 s4 e4
    exact q p4 H4 "" _ (s1.trans s4) e4 (fun _ => ⟨rfl, p, rfl, sqT_same s4 e1⟩) (fun z => absurd hc z)
theorem r_tryW {Wout : WX} {l : List Cl} {tb : WX → TS} {D : Ends} {σ : L2.St} (P : WX → Prop) (hP : P (wAll K Wout D l)) (k : ∀ W, P W → tb W D σ H) : tTry K Wout l tb D σ H := k _ hP
theorem pure_law_stage_refused (XS : Exs K ec XN) (h : sp_law_stage_refused K vs H Q E) : t_law_stage_refused K ec (En Q) (start N_law_stage_refused vs) H := by
  obtain ⟨w, s, a, cs, rfl, ha, hl, hs, q⟩ := h
  unfold t_law_stage_refused
  refine r_seq (r_asg (r_c (r_name ?_)))
  dsimp only
  refine r_seq (r_asg (r_c (r_name ?_)))
  dsimp only
  refine r_seq ?_
  refine r_tryW (fun W => ∀ d H', Same H H' → H d = none → H' d = some (.xd [("word", .str "BadStage")]) → W (.ref (ec "BadStage")) (some d) [some (.int w), some (.int s), some (.ref a), some (.str ""), some (.bl false), none] H') (fun d H' s' nd e => ?_) (fun W hW => ?_)
  · have BU := XS.bad "BadStage" (by decide)
    refine w_yes (by rw [XS.exm "BadStage" (by decide) "BadStage" (by decide)]; rfl) fun ea na => ?_
    dsimp only
    refine r_seq (r_asg ?_)
    refine r_xfV (v := .str "BadStage") BU.xf BU.nw rfl e rfl ?_
    refine r_name ?_
    dsimp only
    refine r_asg ?_
    refine r_alone XS (x := "BadStage") (by decide) (by decide) (by decide) (by decide) (by decide) (by decide) rfl e fun H2 s2 => ?_
    refine r_name (r_endsAs ?_)
    dsimp only
    walk_at "rd"
    refine ⟨.str "BadStage", .str "BadStage", .str "BadStage", rfl, .str _, .str _, by decide, fun H3 s3 => ?_⟩
    exact q H3 ((s'.trans s2).trans s3)
  · have hn : noStage ec H (fun cls d H' => W cls d [some (.int w), some (.int s), some (.ref a), some (.str ""), some (.bl false), none] H') := fun d H' s' nd e => hW d H' s' nd e
    dsimp only [L2.start]
    walk_at "rd"
    refine r_ite (fun h0 => ?_) (fun h0 => ?_)
    · walk_at "rd"
      exact ⟨s, rfl, fun _ => hn, fun n en h1 h2 => absurd ⟨by omega, by omega⟩ hs⟩
    · walk_at "rd"
      refine r_ite (fun h1 => ?_) (fun h1 => ?_)
      · walk_at "rd"
        exact ⟨s, rfl, fun z => absurd z hs, fun _ => hn⟩
      · walk_at "rd"
        refine r_ite (fun h2 => ?_) (fun h2 => ?_)
        · walk_at "rd"
          exact ⟨s, .ref a, _, rfl, rp_ints ha, by rw [size_row]; omega, fun z => absurd z hs, fun _ => hn⟩
        · walk_at "rd"
          exact ⟨s, a, cs, rfl, ha, by omega, fun _ => hn, fun z => absurd z hs, fun n en h1 h2 hc => absurd ⟨by omega, by omega⟩ hs⟩
theorem far4 {v f : Int} (h0 : 0 ≤ v) (h1 : v < 4) (hf : 0 ≤ f) : ∃ s : Int, atI [V.int 0, .int 13, .int (-f), .int (13 + f)] v = some (.int s) ∧ ¬ Stg s := by
  have : v = 0 ∨ v = 1 ∨ v = 2 ∨ v = 3 := by omega
  rcases this with rfl | rfl | rfl | rfl
  · exact ⟨0, rfl, fun z => by have := z.1; omega⟩
  · exact ⟨13, rfl, fun z => by have := z.2; omega⟩
  · exact ⟨-f, rfl, fun z => by have := z.1; omega⟩
  · exact ⟨13 + f, rfl, fun z => by have := z.2; omega⟩
theorem at1 {k v : V} : atI [k, v] 1 = some v := rfl
theorem p8 : (10 : Int) ^ (8 : Int).toNat = 100000000 := by decide
theorem noB_ints {ms : List Int} : noB (.tup (ms.map Dat.int)) = true := by
  show List.all _ _ = true
  rw [List.all_eq_true]
  intro d hd
  obtain ⟨i, _, rfl⟩ := List.mem_map.mp hd; rfl
theorem size_css {k : Nat} : ∀ {L : List (List Int)}, (∀ r ∈ L, r.length ≤ k) → Dat.sizes (L.map fun c => Dat.tup (c.map Dat.int)) ≤ L.length * (k + 1)
  | [], _ => Nat.zero_le _
  | r :: L, h => by
    have := size_css (L := L) fun w hw => h w (by simp [hw])
    have h1 := h r (by simp)
    rw [List.map_cons, Dat.sizes, size_row, List.length_cons, Nat.succ_mul]
    omega
theorem pure_law (XS : Exs K ec XN) (h : sp_law K vs H Q E) : t_law K ec (En Q) (start N_law vs) H := by
  obtain ⟨a, ns, rfl, hA, hn, q⟩ := h
  unfold t_law
  walk_at "rd"
  refine ⟨a, ns, 0, rfl, hA, hn, by omega, fun p H1 np s1 hp1 => ?_⟩
  walk_at "rd"
  refine r_draw hp1 (by omega) (by omega) fun v H2 v0 v1 b2 hp2 => ?_
  obtain ⟨n, en⟩ : ∃ n : Nat, 1 + v = (n : Int) := ⟨(1 + v).toNat, by omega⟩
  have hn1 : 1 ≤ n := by omega
  have hn2 : n ≤ 12 := by omega
  have hS : Stg (n : Int) := ⟨by omega, by omega⟩
  obtain ⟨so1, so2, so3⟩ := sort_pos hn1 hn2
  have hcss : sortL (changes n) = sortL (lists n) := sort_same hn1 hn2
  obtain ⟨css, ecss⟩ : ∃ css, sortL (lists n) = css := ⟨_, rfl⟩
  rw [ecss] at so1 so2 so3 hcss
  have hsz : (Dat.tup (css.map fun c => .tup (c.map .int))).size ≤ 1000000 := by
    have h1 := size_css (k := 12) (L := css) fun r hr => by have := (so3 r hr).len (by omega); omega
    have h2 : css.length * (12 + 1) ≤ 1000 * (12 + 1) := Nat.mul_le_mul_right _ so2
    show 1 + Dat.sizes _ ≤ _
    omega
  walk_at "rd"
  rw [en]
  refine ⟨n, rfl, hn1, hn2, fun l H3 ys nl s3 el tl => ?_⟩
  rw [ecss] at tl
  have hp3 := pl_same s3 hp2
  have lys := tl.len
  walk_at "rd"
  refine ⟨n, rfl, fun z => absurd hS z, fun m em h1 h2 t1 H4 zs nt1 s4 et1 tz _ => ?_⟩
  obtain rfl : n = m := by omega
  rw [hcss] at tz
  have el4 := s4 _ _ el
  walk_at "rd"
  intro t2 H5 nt2 s5 et2
  walk_at "rd"
  refine ⟨_, _, _, rfl, TL.rp (sqT_same s5 et1) (tz.same s5), TL.rp (sqT_ofD et2) ((tl.same s4).same s5), hsz, fun H6 s6 => ?_⟩
  walk_at "rd"
  refine ⟨n, rfl, fun _ H7 s7 => ?_, fun z => absurd hS z⟩
  rw [Int.toNat_natCast]
  walk_at "rd"
  refine ⟨n, rfl, hn1, hn2, fun H8 s8 => ?_⟩
  walk_at "rd"
  refine ⟨_, _, .int (ccN n : Nat), rfl, .int _, .int _, by show 1 ≤ 1000000; decide, fun H9 s9 => ?_⟩
  have s39 : Same H3 H9 := ((((s4.trans s5).trans s6).trans s7).trans s8).trans s9
  have el9 := s39 _ _ el
  have tl9 := tl.same s39
  have hp9 := pl_same s39 hp3
  walk_at "rd"
  refine r_draw hp9 (by omega) (by omega) fun k H10 k0 k1 b10 hp10 => ?_
  have nlp : l ≠ p := ne_pl nl hp2
  have el10 := b10 _ _ nlp el9
  have tl10 : TL K H10 ys css := tl9.keep fun _ _ h => sqT_pl b10 hp9 h
  have hk : k.toNat < ys.length := by omega
  obtain ⟨f, cs, ef, hcs, tf⟩ := tl10.get (List.getElem?_eq_getElem hk)
  have hat : atI ys k = some (.ref f) := by
    have := atI_nat (xs := ys) (j := k.toNat) (v := .ref f) (by rw [List.getElem?_eq_getElem hk, ef])
    rw [show ((k.toNat : Nat) : Int) = k by omega] at this
    exact this
  have hc := so3 cs (List.mem_of_getElem? hcs)
  have clen := hc.len (by omega)
  obtain ⟨q1, q2, q3⟩ := as_all hn2 hc
  have hA10 : SqL K H10 a (ns.map V.int) := sqL_via np ((((Same.but s1).trans b2).trans (Same.but (s3.trans s39))).trans b10) hA
  refine r_ixL (sqL_of el10) hat ?_
  walk_at "rd"
  refine ⟨n, f, cs, rfl, tf, by omega, hn1, hn2, fun o H11 kk w s11 e11 c1 _ => ?_⟩
  obtain ⟨rfl, t, rfl, et⟩ := c1 hc
  have tf11 := sqT_same s11 tf
  walk_at "rd"
  refine r_iteNP rfl ?_
  walk_at "rd"
  refine ⟨n, f, cs, rfl, tf11, by omega, by omega, fun u H12 s12 eu => ?_⟩
  have et12 := sqT_same s12 et
  have e12 := s12 _ _ e11
  rw [← q1] at eu
  walk_at "rd"
  refine ⟨_, _, _, rfl, rp_ints et12, rp_ints eu, by rw [size_row, q3.1]; omega, fun H13 s13 => ?_⟩
  have et13 := sqT_same s13 et12
  have e13 := s13 _ _ e12
  have tf13 := sqT_same s13 (sqT_same s12 tf11)
  walk_at "rd"
  refine ⟨t, t, asR n cs, asR n cs, n, rfl, et13, et13, q3, q3, by omega, fun t3 H14 nt3 s14 et3 _ => ?_⟩
  walk_at "rd"
  refine ⟨n, rfl, by omega, fun t4 H15 nt4 s15 et4 _ => ?_⟩
  refine r_neT (sqT_same s15 et3) et4 ?_
  walk_at "rd"
  refine r_iteNP q2 ?_
  have tf15 := sqT_same s15 (sqT_same s14 tf13)
  walk_at "rd"
  refine ⟨n, .ref f, _, rfl, rp_ints tf15, by rw [size_row]; omega, fun _ H16 s16 => ?_, fun z => absurd hS z⟩
  rw [chD_of, show isC (n : Int) 0 cs = true from hc]
  walk_at "rd"
  refine ⟨_, _, .bl true, rfl, .bl _, .bl _, by show 1 ≤ 1000000; decide, fun H17 s17 => ?_⟩
  have s1017 : Same H10 H17 := ((((((s11.trans s12).trans s13).trans s14).trans s15).trans s16).trans s17)
  have tf17 := sqT_same (s16.trans s17) tf15
  have hA17 := sqL_same s1017 hA10
  walk_at "rd"
  refine ⟨a, ns, 1, rfl, hA17, hn, by omega, fun p2 H18 np2 s18 hp18 => ?_⟩
  have tf18 := sqT_same s18 tf17
  have hA18 := sqL_same s18 hA17
  walk_at "rd"
  refine r_forRange0 (fun i σ' H' => ∃ (b : Addr) (ms : List Int) (z5 z8 z9 : Option V), σ' = [some (.ref a), some (.ref p), some (.int (n : Int)), some (.ref l), some (.ref f), z5, some (.ref p2), some (.ref b), z8, z9, none, none, none, none, none] ∧ But p2 H18 H' ∧ Pl H' p2 ∧ SqT K H' f (cs.map V.int) ∧ SqT K H' b (ms.map V.int) ∧ ms.length ≤ 500)
    ⟨f, cs, _, none, none, rfl, But.refl, hp18, tf18, tf18, by omega⟩ (fun i σ' H' hi hW => ?_) (fun σ' H' hW => ?_)
  · obtain ⟨b, ms, z5, z8, z9, rfl, bt, hp', ef', eb', hl'⟩ := hW
    walk_at "rd"
    refine ⟨p2, f, n, cs, rfl, hp', hn2, ef', by omega, fun b2 H19 us b19 hp19 eb19 hl19 => ?_⟩
    have ef19 := sqT_pl b19 hp' ef'
    walk_at "rd"
    refine ⟨n, .ref b2, _, rfl, rp_ints eb19, noB_ints, by rw [size_row]; omega, by omega, fun H20 s20 => ?_⟩
    have eb20 := sqT_same s20 eb19
    rw [chD_of]
    walk_at "rd"
    refine ⟨n, b2, us, rfl, eb20, by omega, hn1, hn2, fun o2 H21 k2 w2 s21 e21 d1 d2 => ?_⟩
    have eb21 := sqT_same s21 eb20
    walk_at "rd"
    refine ⟨n, .ref b2, _, rfl, rp_ints eb21, by rw [size_row]; omega, fun _ H22 s22 => ?_, fun z => absurd hS z⟩
    rw [chD_of]
    walk_at "rd"
    refine ⟨_, _, .bl (isC n 0 us), rfl, .bl _, .bl _, by show 1 ≤ 1000000; decide, fun H23 s23 => ?_⟩
    have s2123 := s22.trans s23
    have s1923 : Same H19 H23 := (s20.trans s21).trans s2123
    have e23 := s2123 _ _ e21
    have eb23 := sqT_same s2123 eb21
    have hp23 := pl_same s1923 hp19
    have ef23 := sqT_same s1923 ef19
    have b23 : But p2 H18 H23 := (bt.trans b19).trans (Same.but s1923)
    walk_at "rd"
    refine r_iteB' (fun hb => ?_) (fun hb => ?_)
    · have hcu : Chg n us := hb
      have ulen := hcu.len (by omega)
      obtain ⟨rfl, t5, rfl, et5⟩ := d1 hcu
      obtain ⟨r1, _, r3⟩ := as_all hn2 hcu
      walk_at "rd"
      refine r_iteNP rfl ?_
      walk_at "rd"
      refine ⟨n, b2, us, rfl, eb23, by omega, by omega, fun u2 H24 s24 eu2 => ?_⟩
      rw [← r1] at eu2
      walk_at "rd"
      refine ⟨_, _, _, rfl, rp_ints (sqT_same (s2123.trans s24) et5), rp_ints eu2, by rw [size_row, r3.1]; omega, fun H25 s25 => ?_⟩
      walk_at "rd"
      refine r_iteB' (fun hb2 => (by rw [hb] at hb2; cases hb2)) (fun _ => ?_)
      refine r_F ?_
      walk_at "rd"
      exact ⟨b2, us, _, _, _, rfl, b23.trans (Same.but (s24.trans s25)), pl_same (s24.trans s25) hp23, sqT_same (s24.trans s25) ef23, sqT_same (s24.trans s25) eb23, hl19⟩
    · have hcu : ¬ Chg n us := fun z => by unfold Chg at z; rw [hb] at z; cases z
      have := d2 hcu
      subst this
      refine r_F ?_
      walk_at "rd"
      rw [hb]
      walk_at "rd"
      refine r_iteNP rfl ?_
      walk_at "rd"
      exact ⟨b2, us, _, _, _, rfl, b23, hp23, ef23, eb23, hl19⟩
  · obtain ⟨b, ms, z5, z8, z9, rfl, bt, hp', ef', eb', hl'⟩ := hW
    have hA' : SqL K H' a (ns.map V.int) := sqL_via np2 ((Same.but s18).trans bt) hA17
    walk_at "rd"
    refine ⟨a, ns, 2, rfl, hA', hn, by omega, fun p3 H19 np3 s19 hp19 => ?_⟩
    have ef19 := sqT_same s19 ef'
    have eb19 := sqT_same s19 eb'
    walk_at "rd"
    refine r_forRange0 (fun i σ' H' => ∃ (z8 z11 : Option V), σ' = [some (.ref a), some (.ref p), some (.int (n : Int)), some (.ref l), some (.ref f), z5, some (.ref p2), some (.ref b), z8, z9, some (.ref p3), z11, none, none, none] ∧ But p3 H19 H' ∧ Pl H' p3 ∧ SqT K H' f (cs.map V.int) ∧ SqT K H' b (ms.map V.int))
      ⟨_, none, rfl, But.refl, hp19, ef19, eb19⟩ (fun i σ' H20 hi hW => ?_) (fun σ' H20 hW => ?_)
    · obtain ⟨z8, z11, rfl, bt2, hp20, ef20, eb20⟩ := hW
      walk_at "rd"
      refine ⟨p3, f, n, cs, rfl, hp20, hn2, ef20, hc, fun v d H21 b21 hp21 rv nb sz => ?_⟩
      have ef21 := sqT_pl b21 hp20 ef20
      have eb21 := sqT_pl b21 hp20 eb20
      walk_at "rd"
      refine ⟨n, v, d, rfl, rv, by omega, fun _ H22 s22 => ?_, fun z => absurd hS z⟩
      walk_at "rd"
      refine ⟨n, v, d, rfl, rp_same s22 rv, nb, by omega, by omega, fun H23 s23 => ?_⟩
      walk_at "rd"
      refine ⟨_, _, .bl (isChD n d), rfl, .bl _, .bl _, by show 1 ≤ 1000000; decide, fun H24 s24 => ?_⟩
      have s2124 := (s22.trans s23).trans s24
      walk_at "rd"
      exact ⟨_, _, rfl, (bt2.trans b21).trans (Same.but s2124), pl_same s2124 hp21, sqT_same s2124 ef21, sqT_same s2124 eb21⟩
    · obtain ⟨z8, z11, rfl, bt2, hp20, ef20, eb20⟩ := hW
      walk_at "rd"
      refine r_pow ⟨by decide, by decide, by decide⟩ ?_
      rw [p8]
      walk_at "rd"
      refine r_draw hp20 (by omega) (by omega) fun v1 H21 c0 c1 b21 hp21 => ?_
      walk_at "rd"
      refine r_pow ⟨by decide, by decide, by decide⟩ ?_
      rw [p8]
      walk_at "rd"
      refine r_pow ⟨by decide, by decide, by decide⟩ ?_
      rw [p8]
      walk_at "rd"
      refine r_draw hp21 (by omega) (by omega) fun v2 H22 c2 c3 b22 hp22 => ?_
      have ef22 := sqT_pl b22 hp21 (sqT_pl b21 hp20 ef20)
      have eb22 := sqT_pl b22 hp21 (sqT_pl b21 hp20 eb20)
      walk_at "rd"
      intro o H23 no s23 e23
      have hp23 := pl_same s23 hp22
      walk_at "rd"
      refine r_draw hp23 (by omega) (by omega) fun v3 H24 c4 c5 b24 hp24 => ?_
      have e24 := b24 _ _ (ne_pl no hp22) e23
      have ef24 := sqT_pl b24 hp23 (sqT_same s23 ef22)
      have eb24 := sqT_pl b24 hp23 (sqT_same s23 eb22)
      obtain ⟨s, es, hs⟩ := far4 (f := v1 * 100000000 + v2) c4 c5 (by omega)
      refine r_ixL (sqL_of e24) es ?_
      walk_at "rd"
      refine r_forRange0 (fun i σ' H' => ∃ (z14 : Option V), σ' = [some (.ref a), some (.ref p), some (.int (n : Int)), some (.ref l), some (.ref f), z5, some (.ref p2), some (.ref b), z8, z9, some (.ref p3), z11, some (.int (v1 * 100000000 + v2)), some (.int s), z14] ∧ SqT K H' f (cs.map V.int) ∧ SqT K H' b (ms.map V.int))
        ⟨none, rfl, ef24, eb24⟩ (fun i σ' H25 hi hW => ?_) (fun σ' H25 hW => ?_)
      · obtain ⟨z14, rfl, ef25, eb25⟩ := hW
        walk_at "rd"
        refine ⟨i, s, b, ms, rfl, eb25, by omega, hs, fun H26 s26 => ?_⟩
        walk_at "rd"
        exact ⟨_, rfl, sqT_same s26 ef25, sqT_same s26 eb25⟩
      · obtain ⟨z14, rfl, ef25, eb25⟩ := hW
        walk_at "rd"
        refine ⟨n, f, cs, rfl, ef25, by omega, hn1, hn2, fun o3 H26 kk w s26 e26 d1 _ => ?_⟩
        obtain ⟨rfl, t6, rfl, et6⟩ := d1 hc
        have ef26 := sqT_same s26 ef25
        walk_at "rd"
        refine r_iteP rfl ?_
        walk_at "rd"
        refine ⟨n, f, cs, rfl, ef26, by omega, by omega, fun u3 H27 s27 eu3 => ?_⟩
        rw [← q1] at eu3
        walk_at "rd"
        exact ⟨_, _, _, rfl, rp_ints (sqT_same s27 et6), rp_ints eu3, by rw [size_row, q3.1]; omega, fun H28 _ => q H28⟩
end
end K8
end Kb
set_option Elab.async false
set_option linter.all false
set_option maxRecDepth 100000
set_option maxHeartbeats 4000000
namespace Kb
namespace K8
open PySem PySem.Spec PyProof.Rows L2 SX
def top (i : Nat) : Stmt := PySem.Challenge.pw_ringingchamber_k08_changes_of_a_stage.main.body.getD i (.Pass ⟨0, 0, 0, 0⟩)
abbrev s_check_stage : Stmt := top 7
abbrev s_is_number : Stmt := top 8
abbrev s_is_change : Stmt := top 10
abbrev s_check_change : Stmt := top 11
abbrev s_change_count : Stmt := top 12
abbrev s_all_changes : Stmt := top 13
abbrev s_as_row : Stmt := top 14
abbrev s_law_cell : Stmt := top 16
abbrev s_law_pool : Stmt := top 17
abbrev s_law_draw : Stmt := top 18
abbrev s_law_rounds : Stmt := top 19
abbrev s_law_times : Stmt := top 20
abbrev s_law_change_draw : Stmt := top 21
abbrev s_law_same : Stmt := top 22
abbrev s_law_bent : Stmt := top 23
abbrev s_law_listed : Stmt := top 24
abbrev s_law_count : Stmt := top 25
abbrev s_law_even_gaps : Stmt := top 26
abbrev s_law_exchanged : Stmt := top 27
abbrev s_law_near : Stmt := top 28
abbrev s_law_odd : Stmt := top 29
abbrev s_law_row_told : Stmt := top 30
abbrev s_law_stage_refused : Stmt := top 31
abbrev s_law : Stmt := top 32
structure Bn (mg : Str → Option Value) : Prop where
  n_ValueError : mg "ValueError" = none
  n_abs : mg "abs" = none
  n_bool : mg "bool" = none
  n_int : mg "int" = none
  n_isinstance : mg "isinstance" = none
  n_len : mg "len" = none
  n_list : mg "list" = none
  n_range : mg "range" = none
  n_sorted : mg "sorted" = none
  n_str : mg "str" = none
  n_tuple : mg "tuple" = none
  c_SIGNS : ∃ t, mg "SIGNS" = some (.str "1234567890ET" t)
abbrev i_ChamberError : Stmt := inClass (top 1) 0
abbrev i_BadStage : Stmt := inClass (top 2) 0
abbrev i_BadChange : Stmt := inClass (top 3) 0
section
variable {P : Program} {w : World} {K : PySem.W.Frag} {mg : Str → Option Value} {base : Heap}
theorem sc_check_stage : FnScope N_check_stage ["stage"] (defScope s_check_stage) := ⟨rfl, rfl, rfl, by decide +kernel, rfl, by decide +kernel, by decide +kernel⟩
theorem ok_check_stage (D : At K mg "check_stage" s_check_stage) (B : Bn mg) {ec : Str → Addr} (XS : Exs K ec XN) (EX : ExAt mg ec XN) (Z_BadStage : Rz0 P w K mg base "BadStage" (ec "BadStage")) : Fn P w K mg base (L2.CX P w) 4 "check_stage" ["stage"] (sp_check_stage K ec) := by
  obtain ⟨f, fd, F, hm⟩ := D
  refine ⟨f, fd, F.okX sc_check_stage (fun vs H Q E h => len_check_stage h) (fun cdv A outer s H vs Q E hr h => ⟨t_check_stage K ec E, ?_, pure_check_stage XS h⟩), hm, F.kp, F.binds fun _ _ _ _ _ _ us hl => match us, hl with | [_], _ => rfl⟩
  have nd := sc_check_stage.nd
  exact pss_one (ps_if ((pt_not ((pt_chain (op_leU hr.units) (op_leU hr.units) (pe_int) (pv 0) ((pe_callB call_lenU (by rfl) B.n_len (by decide +kernel) (pa_cons ((pe_glob rfl B.c_SIGNS.choose_spec ⟨_, rfl⟩)) pa_nil))))))) (pss_one (ps_rz0 rfl (takes_of rfl rfl rfl rfl) Z_BadStage (hr.mono (by decide)) (by rfl))) (pss_nil))
theorem sc_is_number : FnScope N_is_number ["told"] (defScope s_is_number) := ⟨rfl, rfl, rfl, by decide +kernel, rfl, by decide +kernel, by decide +kernel⟩
theorem ok_is_number (D : At K mg "is_number" s_is_number) (B : Bn mg) : Fn P w K mg base CX0 1 "is_number" ["told"] (sp_is_number K) := by
  obtain ⟨f, fd, F, hm⟩ := D
  refine ⟨f, fd, F.ok sc_is_number (fun vs H Q E h => len_is_number h) (fun cdv A outer s H vs Q E hr h => ⟨t_is_number K, ?_, pure_is_number h⟩), hm, F.kp, F.binds fun _ _ _ _ _ _ us hl => match us, hl with | [_], _ => rfl⟩
  have nd := sc_is_number.nd
  exact pss_one (ps_ret ((pe_and ((pe_callB call_isi (by rfl) B.n_isinstance (by decide +kernel) (pa_cons (pv 0) (pa_cons ((pe_bltn (by rfl) B.n_int (by decide +kernel) rfl)) pa_nil)))) (pe_one ((pe_not ((pe_callB call_isi (by rfl) B.n_isinstance (by decide +kernel) (pa_cons (pv 0) (pa_cons ((pe_bltn (by rfl) B.n_bool (by decide +kernel) rfl)) pa_nil))))))))))
theorem sc_is_change : FnScope N_is_change ["stage", "told"] (defScope s_is_change) := ⟨rfl, rfl, rfl, by decide +kernel, rfl, by decide +kernel, by decide +kernel⟩
theorem ok_is_change (D : At K mg "is_change" s_is_change) (B : Bn mg) {ec : Str → Addr} (XS : Exs K ec XN) (EX : ExAt mg ec XN) (G_check_stage : Fn P w K mg base (L2.CX P w) 4 "check_stage" ["stage"] (sp_check_stage K ec)) (G_is_number : Fn P w K mg base CX0 1 "is_number" ["told"] (sp_is_number K)) : Fn P w K mg base (L2.CX P w) 5 "is_change" ["stage", "told"] (sp_is_change K ec) := by
  obtain ⟨f, fd, F, hm⟩ := D
  refine ⟨f, fd, F.okX sc_is_change (fun vs H Q E h => len_is_change h) (fun cdv A outer s H vs Q E hr h => ⟨t_is_change K ec E, ?_, pure_is_change XS h⟩), hm, F.kp, F.binds fun _ _ _ _ _ _ us hl => match us, hl with | [_, _], _ => rfl⟩
  have nd := sc_is_change.nd
  exact pss_cons (ps_expr ((pe_callW (takes_of rfl rfl rfl rfl) G_check_stage (hr.mono (by decide)) (by rfl) (pa_cons (pv 0) pa_nil))))
      (pss_cons (ps_if ((pt_not ((pt_truU ((pe_callB call_isi (by rfl) B.n_isinstance (by decide +kernel) (pa_cons (pv 1) (pa_cons ((pe_bltn (by rfl) B.n_tuple (by decide +kernel) rfl)) pa_nil)))) (by intro _; rfl))))) (pss_one (ps_ret (pe_bl))) (pss_nil))
      (pss_cons (ps_set (i := 2) nd rfl (Or.inl rfl) (pe_int))
      (pss_cons (ps_for (passes_of rfl) rfl (pi_seqU (pv 1)) (pg_name (i := 3) nd rfl (Or.inl rfl)) (pss_cons (ps_if ((PW.pt (pw_or ((pt_not ((pt_truU ((pe_callF G_is_number (hr.mono (by decide)) (by rfl) pass0 (pa_cons (pv 3) pa_nil))) (by intro _; rfl))))) (pw_or1 ((pt_not ((pt_chain (op_ltU hr.units) (op_leU hr.units) (pv 2) (pv 3) (pv 0))))))))) (pss_one (ps_ret (pe_bl))) (pss_nil))
      (pss_cons (ps_if ((pt_cmpR (op_eqU hr.units) ((pe_op op_modU ((pe_op op_subU (pv 3) (pv 2))) (pe_int))) (pe_int) (nomark _))) (pss_one (ps_ret (pe_bl))) (pss_nil))
      (pss_one (ps_set (i := 2) nd rfl (Or.inl rfl) (pv 3))))))
      (pss_one (ps_ret ((pe_cmpR (op_eqU hr.units) ((pe_op op_modU ((pe_op op_subU (pv 0) (pv 2))) (pe_int))) (pe_int) (nomark _))))))))
theorem sc_check_change : FnScope N_check_change ["stage", "change"] (defScope s_check_change) := ⟨rfl, rfl, rfl, by decide +kernel, rfl, by decide +kernel, by decide +kernel⟩
theorem ok_check_change (D : At K mg "check_change" s_check_change) (B : Bn mg) {ec : Str → Addr} (XS : Exs K ec XN) (EX : ExAt mg ec XN) (G_is_change : Fn P w K mg base (L2.CX P w) 5 "is_change" ["stage", "told"] (sp_is_change K ec)) (Z_BadChange : Rz0 P w K mg base "BadChange" (ec "BadChange")) : Fn P w K mg base (L2.CX P w) 6 "check_change" ["stage", "change"] (sp_check_change K ec) := by
  obtain ⟨f, fd, F, hm⟩ := D
  refine ⟨f, fd, F.okX sc_check_change (fun vs H Q E h => len_check_change h) (fun cdv A outer s H vs Q E hr h => ⟨t_check_change K ec E, ?_, pure_check_change XS h⟩), hm, F.kp, F.binds fun _ _ _ _ _ _ us hl => match us, hl with | [_, _], _ => rfl⟩
  have nd := sc_check_change.nd
  exact pss_one (ps_if ((pt_not ((pt_truU ((pe_callW (takes_of rfl rfl rfl rfl) G_is_change (hr.mono (by decide)) (by rfl) (pa_cons (pv 0) (pa_cons (pv 1) pa_nil)))) (by intro _; rfl))))) (pss_one (ps_rz0 rfl (takes_of rfl rfl rfl rfl) Z_BadChange (hr.mono (by decide)) (by rfl))) (pss_nil))
theorem sc_change_count : FnScope N_change_count ["stage"] (defScope s_change_count) := ⟨rfl, rfl, rfl, by decide +kernel, rfl, by decide +kernel, by decide +kernel⟩
theorem ok_change_count (D : At K mg "change_count" s_change_count) (B : Bn mg) {ec : Str → Addr} (XS : Exs K ec XN) (EX : ExAt mg ec XN) (G_check_stage : Fn P w K mg base (L2.CX P w) 4 "check_stage" ["stage"] (sp_check_stage K ec)) : Fn P w K mg base (L2.CX P w) 5 "change_count" ["stage"] (sp_change_count K ec) := by
  obtain ⟨f, fd, F, hm⟩ := D
  refine ⟨f, fd, F.okX sc_change_count (fun vs H Q E h => len_change_count h) (fun cdv A outer s H vs Q E hr h => ⟨t_change_count K ec E, ?_, pure_change_count XS h⟩), hm, F.kp, F.binds fun _ _ _ _ _ _ us hl => match us, hl with | [_], _ => rfl⟩
  have nd := sc_change_count.nd
  exact pss_cons (ps_expr ((pe_callW (takes_of rfl rfl rfl rfl) G_check_stage (hr.mono (by decide)) (by rfl) (pa_cons (pv 0) pa_nil))))
      (pss_cons (ps_set (i := 1) nd rfl (Or.inl rfl) (pe_int))
      (pss_cons (ps_set (i := 2) nd rfl (Or.inl rfl) (pe_int))
      (pss_cons (ps_for (passes_of rfl) rfl (pi_range1 (by rfl) B.n_range (pa_cons ((pe_op op_subU (pv 0) (pe_int))) pa_nil)) (pg_name (i := 3) nd rfl (Or.inl rfl)) (pss_one (ps_par (i := 1) (j := 2) rfl nd rfl rfl (by decide) rfl rfl (pa_cons (pv 2) (pa_cons ((pe_op op_addU (pv 1) (pv 2))) pa_nil)) (by rfl))))
      (pss_one (ps_ret (pv 2))))))
theorem sc_all_changes : FnScope N_all_changes ["stage"] (defScope s_all_changes) := ⟨rfl, rfl, rfl, by decide +kernel, rfl, by decide +kernel, by decide +kernel⟩
theorem ok_all_changes (D : At K mg "all_changes" s_all_changes) (B : Bn mg) {ec : Str → Addr} (XS : Exs K ec XN) (EX : ExAt mg ec XN) (G_check_stage : Fn P w K mg base (L2.CX P w) 4 "check_stage" ["stage"] (sp_check_stage K ec)) : Fn P w K mg base (L2.CX P w) 5 "all_changes" ["stage"] (sp_all_changes K ec) := by
  obtain ⟨f, fd, F, hm⟩ := D
  refine ⟨f, fd, F.okX sc_all_changes (fun vs H Q E h => len_all_changes h) (fun cdv A outer s H vs Q E hr h => ⟨t_all_changes K ec E, ?_, pure_all_changes XS h⟩), hm, F.kp, F.binds fun _ _ _ _ _ _ us hl => match us, hl with | [_], _ => rfl⟩
  have nd := sc_all_changes.nd
  exact pss_cons (ps_expr ((pe_callW (takes_of rfl rfl rfl rfl) G_check_stage (hr.mono (by decide)) (by rfl) (pa_cons (pv 0) pa_nil))))
      (pss_cons (ps_set (i := 1) nd rfl (Or.inl rfl) ((pe_lst (pa_cons ((pe_tup pa_nil)) pa_nil))))
      (pss_cons (ps_set (i := 2) nd rfl (Or.inl rfl) ((pe_lst (pa_cons ((pe_tup (pa_cons (pe_int) pa_nil))) pa_nil))))
      (pss_cons (ps_for (passes_of rfl) rfl (pi_range2 (by rfl) B.n_range (pa_cons (pe_int) (pa_cons ((pe_op op_addU (pv 0) (pe_int))) pa_nil))) (pg_name (i := 3) nd rfl (Or.inr rfl)) (pss_cons (ps_setLc (i := 4) (own := [("change", 5)]) (g := (gName 5)) (tt := tYes) rfl nd rfl rfl (sw_true rfl rfl rfl (by decide +kernel)) ((pi_seqU (pv 2))) (blkOk_by (N := (N_all_changes : List Str)) (sc := defScope s_all_changes) (by decide +kernel)) (fun _ _ _ _ _ => (pg_name (i := 5) nd rfl (Or.inl rfl))) (fun _ _ _ _ _ => pts_nil) (fun _ _ _ _ _ => (pe_op op_addU (pv 5) ((pe_tup (pa_cons (pv 3) pa_nil))))))
      (pss_one (ps_par (i := 1) (j := 2) rfl nd rfl rfl (by decide) rfl rfl (pa_cons (pv 2) (pa_cons ((pe_op op_addU (pv 4) (pv 1))) pa_nil)) (by rfl)))))
      (pss_one (ps_ret ((pe_tupD (by rfl) B.n_tuple ((pe_callB (cr_sortRow0 hr.units) (by rfl) B.n_sorted (by decide +kernel) (pa_cons (pv 2) pa_nil))))))))))
theorem sc_as_row : FnScope N_as_row ["stage", "change"] (defScope s_as_row) := ⟨rfl, rfl, rfl, by decide +kernel, rfl, by decide +kernel, by decide +kernel⟩
theorem ok_as_row (D : At K mg "as_row" s_as_row) (B : Bn mg) {ec : Str → Addr} (XS : Exs K ec XN) (EX : ExAt mg ec XN) (G_check_change : Fn P w K mg base (L2.CX P w) 6 "check_change" ["stage", "change"] (sp_check_change K ec)) : Fn P w K mg base (L2.CX P w) 7 "as_row" ["stage", "change"] (sp_as_row K ec) := by
  obtain ⟨f, fd, F, hm⟩ := D
  refine ⟨f, fd, F.okX sc_as_row (fun vs H Q E h => len_as_row h) (fun cdv A outer s H vs Q E hr h => ⟨t_as_row K ec E, ?_, pure_as_row XS h⟩), hm, F.kp, F.binds fun _ _ _ _ _ _ us hl => match us, hl with | [_, _], _ => rfl⟩
  have nd := sc_as_row.nd
  exact pss_cons (ps_expr ((pe_callW (takes_of rfl rfl rfl rfl) G_check_change (hr.mono (by decide)) (by rfl) (pa_cons (pv 0) (pa_cons (pv 1) pa_nil)))))
      (pss_cons (ps_set (i := 2) nd rfl (Or.inl rfl) ((pe_listRg rfl (by rfl) B.n_list (prg_2 (by rfl) B.n_range (pe_int) ((pe_op op_addU (pv 0) (pe_int)))))))
      (pss_cons (ps_set (i := 3) nd rfl (Or.inl rfl) (pe_int))
      (pss_cons (ps_while (passes_of rfl) ((pt_cmpR (op_leU hr.units) (pv 3) (pv 0) (nomark _))) (pss_one (ps_if ((pt_cmpR op_inU (pv 3) (pv 1) (by with_unfolding_all rfl))) (pss_one (ps_aug (i := 3) nd rfl (Or.inl rfl) (pe_int) ip_add)) (pss_cons (ps_asg ((pe_op op_addU (pv 3) (pe_int))) (pg_sub (pv 2) ((pe_op op_subU (pv 3) (pe_int))) set_list))
      (pss_cons (ps_asg (pv 3) (pg_sub (pv 2) (pv 3) set_list))
      (pss_one (ps_aug (i := 3) nd rfl (Or.inl rfl) (pe_int) ip_add)))))))
      (pss_one (ps_ret ((pe_tupD (by rfl) B.n_tuple (pv 2))))))))
theorem sc_law_cell : FnScope N_law_cell ["script", "k"] (defScope s_law_cell) := ⟨rfl, rfl, rfl, by decide +kernel, rfl, by decide +kernel, by decide +kernel⟩
theorem ok_law_cell (D : At K mg "_law_cell" s_law_cell) (B : Bn mg) : Fn P w K mg base CX0 1 "_law_cell" ["script", "k"] (sp_law_cell K) := by
  obtain ⟨f, fd, F, hm⟩ := D
  refine ⟨f, fd, F.ok sc_law_cell (fun vs H Q E h => len_law_cell h) (fun cdv A outer s H vs Q E hr h => ⟨t_law_cell K, ?_, pure_law_cell h⟩), hm, F.kp, F.binds fun _ _ _ _ _ _ us hl => match us, hl with | [_, _], _ => rfl⟩
  have nd := sc_law_cell.nd
  exact pss_cons (ps_if ((pt_cmpR (op_ltU hr.units) (pv 1) ((pe_callB call_lenU (by rfl) B.n_len (by decide +kernel) (pa_cons (pv 0) pa_nil))) (nomark _))) (pss_one (ps_ret ((pe_callB call_absU (by rfl) B.n_abs (by decide +kernel) (pa_cons ((pe_callTy call_intU (by rfl) B.n_int (by decide +kernel) (pa_cons ((pe_ix ix_seq (pv 0) (pv 1) (fun _ _ => rfl))) pa_nil))) pa_nil))))) (pss_nil))
      (pss_cons (ps_if ((pt_cmpR (op_eqU hr.units) ((pe_callB call_lenU (by rfl) B.n_len (by decide +kernel) (pa_cons (pv 0) pa_nil))) (pe_int) (nomark _))) (pss_one (ps_ret (pe_int))) (pss_nil))
      (pss_one (ps_ret ((pe_op op_modU ((pe_callB call_absU (by rfl) B.n_abs (by decide +kernel) (pa_cons ((pe_callTy call_intU (by rfl) B.n_int (by decide +kernel) (pa_cons ((pe_ix ix_seq (pv 0) ((pe_op op_modU ((pe_callTy call_intU (by rfl) B.n_int (by decide +kernel) (pa_cons (pv 1) pa_nil))) ((pe_callB call_lenU (by rfl) B.n_len (by decide +kernel) (pa_cons (pv 0) pa_nil))))) (fun _ _ => rfl))) pa_nil))) pa_nil))) (pe_int))))))
theorem sc_law_pool : FnScope N_law_pool ["script", "k"] (defScope s_law_pool) := ⟨rfl, rfl, rfl, by decide +kernel, rfl, by decide +kernel, by decide +kernel⟩
theorem ok_law_pool (D : At K mg "_law_pool" s_law_pool) (B : Bn mg) (G_law_cell : Fn P w K mg base CX0 1 "_law_cell" ["script", "k"] (sp_law_cell K)) : Fn P w K mg base CX0 2 "_law_pool" ["script", "k"] (sp_law_pool K) := by
  obtain ⟨f, fd, F, hm⟩ := D
  refine ⟨f, fd, F.ok sc_law_pool (fun vs H Q E h => len_law_pool h) (fun cdv A outer s H vs Q E hr h => ⟨t_law_pool K, ?_, pure_law_pool h⟩), hm, F.kp, F.binds fun _ _ _ _ _ _ us hl => match us, hl with | [_, _], _ => rfl⟩
  have nd := sc_law_pool.nd
  exact pss_cons (ps_set (i := 2) nd rfl (Or.inl rfl) ((pe_callF G_law_cell (hr.mono (by decide)) (by rfl) pass0 (pa_cons (pv 0) (pa_cons (pv 1) pa_nil)))))
      (pss_cons (ps_if ((pt_cmpR op_geU (pv 2) ((pe_op op_powU (pe_int) (pe_int))) (nomark _))) (pss_one (ps_ret ((pe_lst (pa_cons ((pe_op op_subU (pv 2) ((pe_op op_powU (pe_int) (pe_int))))) (pa_cons ((pe_op op_modU ((pe_callTy call_intU (by rfl) B.n_int (by decide +kernel) (pa_cons (pv 2) pa_nil))) (pe_int))) (pa_cons (pe_int) pa_nil))))))) (pss_nil))
      (pss_one (ps_ret ((pe_lst (pa_cons (pe_int) (pa_cons ((pe_op op_addU (pv 2) ((pe_op op_mulU (pe_int) ((pe_op op_addU (pv 1) (pe_int))))))) (pa_cons (pe_int) pa_nil))))))))
theorem sc_law_draw : FnScope N_law_draw ["pool", "many"] (defScope s_law_draw) := ⟨rfl, rfl, rfl, by decide +kernel, rfl, by decide +kernel, by decide +kernel⟩
theorem ok_law_draw (D : At K mg "_law_draw" s_law_draw) (B : Bn mg) : Fn P w K mg base CX0 1 "_law_draw" ["pool", "many"] (sp_law_draw K) := by
  obtain ⟨f, fd, F, hm⟩ := D
  refine ⟨f, fd, F.ok sc_law_draw (fun vs H Q E h => len_law_draw h) (fun cdv A outer s H vs Q E hr h => ⟨t_law_draw K, ?_, pure_law_draw h⟩), hm, F.kp, F.binds fun _ _ _ _ _ _ us hl => match us, hl with | [_, _], _ => rfl⟩
  have nd := sc_law_draw.nd
  exact pss_cons (ps_asg ((pe_op op_addU ((pe_ix ix_seq (pv 0) (pe_int) (fun _ _ => rfl))) (pe_int))) (pg_sub (pv 0) (pe_int) set_list))
      (pss_cons (ps_if ((pt_cmpR op_gtU ((pe_ix ix_seq (pv 0) (pe_int) (fun _ _ => rfl))) (pe_int) (nomark _))) (pss_cons (ps_set (i := 2) nd rfl (Or.inl rfl) ((pe_op op_modU ((pe_callTy call_intU (by rfl) B.n_int (by decide +kernel) (pa_cons ((pe_ix ix_seq (pv 0) (pe_int) (fun _ _ => rfl))) pa_nil))) (pv 1))))
      (pss_cons (ps_asg ((pe_op op_fdivU ((pe_ix ix_seq (pv 0) (pe_int) (fun _ _ => rfl))) (pv 1))) (pg_sub (pv 0) (pe_int) set_list))
      (pss_one (ps_ret (pv 2))))) (pss_nil))
      (pss_cons (ps_set (i := 3) nd rfl (Or.inl rfl) ((pe_op op_modU ((pe_callTy call_intU (by rfl) B.n_int (by decide +kernel) (pa_cons ((pe_op op_addU ((pe_ix ix_seq (pv 0) (pe_int) (fun _ _ => rfl))) ((pe_op op_mulU (pe_int) ((pe_ix ix_seq (pv 0) (pe_int) (fun _ _ => rfl))))))) pa_nil))) (pe_int))))
      (pss_cons (ps_set (i := 3) nd rfl (Or.inl rfl) ((pe_op op_modU ((pe_callTy call_intU (by rfl) B.n_int (by decide +kernel) (pa_cons ((pe_op op_addU ((pe_op op_addU ((pe_op op_mulU (pv 3) (pv 3))) ((pe_op op_mulU (pe_int) ((pe_ix ix_seq (pv 0) (pe_int) (fun _ _ => rfl))))))) ((pe_ix ix_seq (pv 0) (pe_int) (fun _ _ => rfl))))) pa_nil))) (pe_int))))
      (pss_cons (ps_set (i := 3) nd rfl (Or.inl rfl) ((pe_op op_modU ((pe_callTy call_intU (by rfl) B.n_int (by decide +kernel) (pa_cons ((pe_op op_addU ((pe_op op_mulU (pv 3) (pv 3))) (pe_int))) pa_nil))) (pe_int))))
      (pss_one (ps_ret ((pe_op op_modU ((pe_callTy call_intU (by rfl) B.n_int (by decide +kernel) (pa_cons ((pe_op op_fdivU (pv 3) (pe_int))) pa_nil))) (pv 1)))))))))
theorem sc_law_rounds : FnScope N_law_rounds ["stage"] (defScope s_law_rounds) := ⟨rfl, rfl, rfl, by decide +kernel, rfl, by decide +kernel, by decide +kernel⟩
theorem ok_law_rounds (D : At K mg "_law_rounds" s_law_rounds) (B : Bn mg) : Fn P w K mg base CX0 1 "_law_rounds" ["stage"] (sp_law_rounds K) := by
  obtain ⟨f, fd, F, hm⟩ := D
  refine ⟨f, fd, F.ok sc_law_rounds (fun vs H Q E h => len_law_rounds h) (fun cdv A outer s H vs Q E hr h => ⟨t_law_rounds K, ?_, pure_law_rounds h⟩), hm, F.kp, F.binds fun _ _ _ _ _ _ us hl => match us, hl with | [_], _ => rfl⟩
  have nd := sc_law_rounds.nd
  exact pss_one (ps_ret ((pe_tupD (by rfl) B.n_tuple ((pe_listRg rfl (by rfl) B.n_list (prg_2 (by rfl) B.n_range (pe_int) ((pe_op op_addU (pv 0) (pe_int)))))))))
theorem sc_law_times : FnScope N_law_times ["first", "second"] (defScope s_law_times) := ⟨rfl, rfl, rfl, by decide +kernel, rfl, by decide +kernel, by decide +kernel⟩
theorem ok_law_times (D : At K mg "_law_times" s_law_times) (B : Bn mg) : Fn P w K mg base CX0 1 "_law_times" ["first", "second"] (sp_law_times K) := by
  obtain ⟨f, fd, F, hm⟩ := D
  refine ⟨f, fd, F.ok sc_law_times (fun vs H Q E h => len_law_times h) (fun cdv A outer s H vs Q E hr h => ⟨t_law_times K, ?_, pure_law_times h⟩), hm, F.kp, F.binds fun _ _ _ _ _ _ us hl => match us, hl with | [_, _], _ => rfl⟩
  have nd := sc_law_times.nd
  exact pss_one (ps_ret ((pe_tupD (by rfl) B.n_tuple ((pe_lc (own := [("bell", 2)]) (g := (gName 2)) (tt := tYes) rfl nd ((pi_seqU (pv 1))) (blkOk_by (N := (N_law_times : List Str)) (sc := defScope s_law_times) (by decide +kernel)) (fun _ _ _ _ _ => (pg_name (i := 2) nd rfl (Or.inl rfl))) (fun _ _ _ _ _ => pts_nil) (fun _ _ _ _ _ => (pe_ix ix_seq (pv 0) ((pe_op op_subU (pv 2) (pe_int))) (fun _ _ => rfl))))))))
theorem sc_law_change_draw : FnScope N_law_change_draw ["pool", "stage"] (defScope s_law_change_draw) := ⟨rfl, rfl, rfl, by decide +kernel, rfl, by decide +kernel, by decide +kernel⟩
theorem ok_law_change_draw (D : At K mg "_law_change_draw" s_law_change_draw) (B : Bn mg) (G_law_draw : Fn P w K mg base CX0 1 "_law_draw" ["pool", "many"] (sp_law_draw K)) : Fn P w K mg base CX0 2 "_law_change_draw" ["pool", "stage"] (sp_law_change_draw K) := by
  obtain ⟨f, fd, F, hm⟩ := D
  refine ⟨f, fd, F.ok sc_law_change_draw (fun vs H Q E h => len_law_change_draw h) (fun cdv A outer s H vs Q E hr h => ⟨t_law_change_draw K, ?_, pure_law_change_draw h⟩), hm, F.kp, F.binds fun _ _ _ _ _ _ us hl => match us, hl with | [_, _], _ => rfl⟩
  have nd := sc_law_change_draw.nd
  exact pss_cons (ps_set (i := 2) nd rfl (Or.inl rfl) ((pe_lst pa_nil)))
      (pss_cons (ps_set (i := 3) nd rfl (Or.inl rfl) (pe_int))
      (pss_cons (ps_for PassesOwn.never rfl (pi_range1 (by rfl) B.n_range (pa_cons (pv 1) pa_nil)) (pg_name (i := 4) nd rfl (Or.inl rfl)) (pss_one (ps_if ((pt_cmpR (op_eqU hr.units) (pv 3) (pv 1) (nomark _))) (pss_cons (ps_expr ((pe_bm PySem.F.plainAttrs_list PySem.F.slot_list_append PySem.F.type_list_append mt_append (pv 2) (pa_cons (pv 3) pa_nil))))
      (pss_one (ps_set (i := 3) nd rfl (Or.inl rfl) ((pe_op op_addU (pv 3) (pe_int)))))) (pss_one (ps_if ((pt_cmpR (op_ltU hr.units) (pv 3) (pv 1) (nomark _))) (pss_one (ps_if ((pt_cmpR (op_eqU hr.units) ((pe_callF G_law_draw (hr.mono (by decide)) (by rfl) pass0 (pa_cons (pv 0) (pa_cons (pe_int) pa_nil)))) (pe_int) (nomark _))) (pss_cons (ps_expr ((pe_bm PySem.F.plainAttrs_list PySem.F.slot_list_append PySem.F.type_list_append mt_append (pv 2) (pa_cons (pv 3) pa_nil))))
      (pss_one (ps_set (i := 3) nd rfl (Or.inl rfl) ((pe_op op_addU (pv 3) (pe_int)))))) (pss_one (ps_set (i := 3) nd rfl (Or.inl rfl) ((pe_op op_addU (pv 3) (pe_int))))))) (pss_nil))))))
      (pss_one (ps_ret ((pe_tupD (by rfl) B.n_tuple (pv 2)))))))
theorem sc_law_same : FnScope N_law_same ["got", "due"] (defScope s_law_same) := ⟨rfl, rfl, rfl, by decide +kernel, rfl, by decide +kernel, by decide +kernel⟩
theorem ok_law_same (D : At K mg "_law_same" s_law_same) (B : Bn mg) : Fn P w K mg base CX0 1 "_law_same" ["got", "due"] (sp_law_same K) := by
  obtain ⟨f, fd, F, hm⟩ := D
  refine ⟨f, fd, F.ok sc_law_same (fun vs H Q E h => len_law_same h) (fun cdv A outer s H vs Q E hr h => ⟨t_law_same K, ?_, pure_law_same h⟩), hm, F.kp, F.binds fun _ _ _ _ _ _ us hl => match us, hl with | [_, _], _ => rfl⟩
  have nd := sc_law_same.nd
  exact pss_cons (ps_set (i := 2) nd rfl (Or.inl rfl) ((pe_lst (pa_cons ((pe_lst (pa_cons (pv 0) (pa_cons (pv 1) pa_nil)))) pa_nil))))
      (pss_cons (ps_while PassesOwn.never ((pt_truU (pv 2) (by intro _; rfl))) (pss_cons (ps_set (i := 3) nd rfl (Or.inl rfl) ((pe_bm0 PySem.F.plainAttrs_list PySem.F.slot_list_pop PySem.F.type_list_pop mt_pop (pv 2))))
      (pss_one (ps_if ((pt_truU ((pe_callB call_isi (by rfl) B.n_isinstance (by decide +kernel) (pa_cons ((pe_ix ix_seq (pv 3) (pe_int) (fun _ _ => rfl))) (pa_cons ((pe_bltn (by rfl) B.n_tuple (by decide +kernel) rfl)) pa_nil)))) (by intro _; rfl))) (pss_cons (ps_if ((PW.pt (pw_or ((pt_not ((pt_truU ((pe_callB call_isi (by rfl) B.n_isinstance (by decide +kernel) (pa_cons ((pe_ix ix_seq (pv 3) (pe_int) (fun _ _ => rfl))) (pa_cons ((pe_bltn (by rfl) B.n_tuple (by decide +kernel) rfl)) pa_nil)))) (by intro _; rfl))))) (pw_or1 ((pt_cmpR (op_neU hr.units) ((pe_callB call_lenU (by rfl) B.n_len (by decide +kernel) (pa_cons ((pe_ix ix_seq (pv 3) (pe_int) (fun _ _ => rfl))) pa_nil))) ((pe_callB call_lenU (by rfl) B.n_len (by decide +kernel) (pa_cons ((pe_ix ix_seq (pv 3) (pe_int) (fun _ _ => rfl))) pa_nil))) (nomark _))))))) (pss_one (ps_ret (pe_bl))) (pss_nil))
      (pss_one (ps_for PassesOwn.never rfl (pi_range1 (by rfl) B.n_range (pa_cons ((pe_callB call_lenU (by rfl) B.n_len (by decide +kernel) (pa_cons ((pe_ix ix_seq (pv 3) (pe_int) (fun _ _ => rfl))) pa_nil))) pa_nil)) (pg_name (i := 4) nd rfl (Or.inl rfl)) (pss_one (ps_expr ((pe_bm PySem.F.plainAttrs_list PySem.F.slot_list_append PySem.F.type_list_append mt_append (pv 2) (pa_cons ((pe_lst (pa_cons ((pe_ix ix_seq ((pe_ix ix_seq (pv 3) (pe_int) (fun _ _ => rfl))) (pv 4) (fun _ _ => rfl))) (pa_cons ((pe_ix ix_seq ((pe_ix ix_seq (pv 3) (pe_int) (fun _ _ => rfl))) (pv 4) (fun _ _ => rfl))) pa_nil)))) pa_nil)))))))) (pss_one (ps_if ((pt_truU ((pe_callB call_isi (by rfl) B.n_isinstance (by decide +kernel) (pa_cons ((pe_ix ix_seq (pv 3) (pe_int) (fun _ _ => rfl))) (pa_cons ((pe_bltn (by rfl) B.n_bool (by decide +kernel) rfl)) pa_nil)))) (by intro _; rfl))) (pss_one (ps_if ((PW.pt (pw_or ((pt_not ((pt_truU ((pe_callB call_isi (by rfl) B.n_isinstance (by decide +kernel) (pa_cons ((pe_ix ix_seq (pv 3) (pe_int) (fun _ _ => rfl))) (pa_cons ((pe_bltn (by rfl) B.n_bool (by decide +kernel) rfl)) pa_nil)))) (by intro _; rfl))))) (pw_or1 ((pt_cmpR (op_neU hr.units) ((pe_ix ix_seq (pv 3) (pe_int) (fun _ _ => rfl))) ((pe_ix ix_seq (pv 3) (pe_int) (fun _ _ => rfl))) (nomark _))))))) (pss_one (ps_ret (pe_bl))) (pss_nil))) (pss_one (ps_if ((pt_truU ((pe_callB call_isi (by rfl) B.n_isinstance (by decide +kernel) (pa_cons ((pe_ix ix_seq (pv 3) (pe_int) (fun _ _ => rfl))) (pa_cons ((pe_bltn (by rfl) B.n_int (by decide +kernel) rfl)) pa_nil)))) (by intro _; rfl))) (pss_one (ps_if ((PW.pt (pw_or ((pt_not ((pt_truU ((pe_callB call_isi (by rfl) B.n_isinstance (by decide +kernel) (pa_cons ((pe_ix ix_seq (pv 3) (pe_int) (fun _ _ => rfl))) (pa_cons ((pe_bltn (by rfl) B.n_int (by decide +kernel) rfl)) pa_nil)))) (by intro _; rfl))))) (pw_or ((pt_truU ((pe_callB call_isi (by rfl) B.n_isinstance (by decide +kernel) (pa_cons ((pe_ix ix_seq (pv 3) (pe_int) (fun _ _ => rfl))) (pa_cons ((pe_bltn (by rfl) B.n_bool (by decide +kernel) rfl)) pa_nil)))) (by intro _; rfl))) (pw_or1 ((pt_cmpR (op_neU hr.units) ((pe_ix ix_seq (pv 3) (pe_int) (fun _ _ => rfl))) ((pe_ix ix_seq (pv 3) (pe_int) (fun _ _ => rfl))) (nomark _)))))))) (pss_one (ps_ret (pe_bl))) (pss_nil))) (pss_one (ps_if ((pt_truU ((pe_callB call_isi (by rfl) B.n_isinstance (by decide +kernel) (pa_cons ((pe_ix ix_seq (pv 3) (pe_int) (fun _ _ => rfl))) (pa_cons ((pe_bltn (by rfl) B.n_str (by decide +kernel) rfl)) pa_nil)))) (by intro _; rfl))) (pss_one (ps_if ((PW.pt (pw_or ((pt_not ((pt_truU ((pe_callB call_isi (by rfl) B.n_isinstance (by decide +kernel) (pa_cons ((pe_ix ix_seq (pv 3) (pe_int) (fun _ _ => rfl))) (pa_cons ((pe_bltn (by rfl) B.n_str (by decide +kernel) rfl)) pa_nil)))) (by intro _; rfl))))) (pw_or1 ((pt_cmpR (op_neU hr.units) ((pe_ix ix_seq (pv 3) (pe_int) (fun _ _ => rfl))) ((pe_ix ix_seq (pv 3) (pe_int) (fun _ _ => rfl))) (nomark _))))))) (pss_one (ps_ret (pe_bl))) (pss_nil))) (pss_one (ps_if ((pt_cmpR op_notNU ((pe_ix ix_seq (pv 3) (pe_int) (fun _ _ => rfl))) (pe_non) (nomark _))) (pss_one (ps_ret (pe_bl))) (pss_nil)))))))))))))
      (pss_one (ps_ret (pe_bl))))
theorem sc_law_bent : FnScope N_law_bent ["pool", "part"] (defScope s_law_bent) := ⟨rfl, rfl, rfl, by decide +kernel, rfl, by decide +kernel, by decide +kernel⟩
theorem ok_law_bent (D : At K mg "_law_bent" s_law_bent) (B : Bn mg) (G_law_draw : Fn P w K mg base CX0 1 "_law_draw" ["pool", "many"] (sp_law_draw K)) : Fn P w K mg base CX0 2 "_law_bent" ["pool", "part"] (sp_law_bent K) := by
  obtain ⟨f, fd, F, hm⟩ := D
  refine ⟨f, fd, F.ok sc_law_bent (fun vs H Q E h => len_law_bent h) (fun cdv A outer s H vs Q E hr h => ⟨t_law_bent K, ?_, pure_law_bent h⟩), hm, F.kp, F.binds fun _ _ _ _ _ _ us hl => match us, hl with | [_, _], _ => rfl⟩
  have nd := sc_law_bent.nd
  exact pss_cons (ps_if ((pt_cmpR (op_eqU hr.units) ((pe_callB call_lenU (by rfl) B.n_len (by decide +kernel) (pa_cons (pv 1) pa_nil))) (pe_int) (nomark _))) (pss_one (ps_ret ((pe_tup (pa_cons (pe_int) pa_nil))))) (pss_nil))
      (pss_cons (ps_set (i := 2) nd rfl (Or.inl rfl) ((pe_callF G_law_draw (hr.mono (by decide)) (by rfl) pass0 (pa_cons (pv 0) (pa_cons ((pe_callB call_lenU (by rfl) B.n_len (by decide +kernel) (pa_cons (pv 1) pa_nil))) pa_nil)))))
      (pss_cons (ps_set (i := 3) nd rfl (Or.inl rfl) ((pe_callF G_law_draw (hr.mono (by decide)) (by rfl) pass0 (pa_cons (pv 0) (pa_cons ((pe_callB call_lenU (by rfl) B.n_len (by decide +kernel) (pa_cons (pv 1) pa_nil))) pa_nil)))))
      (pss_cons (ps_set (i := 4) nd rfl (Or.inl rfl) ((pe_callF G_law_draw (hr.mono (by decide)) (by rfl) pass0 (pa_cons (pv 0) (pa_cons (pe_int) pa_nil)))))
      (pss_cons (ps_if ((pt_cmpR (op_eqU hr.units) (pv 4) (pe_int) (nomark _))) (pss_one (ps_ret ((pe_op op_addU ((pe_slice sl_U (pv 1) po_none (po_some (pv 2)))) ((pe_slice sl_U (pv 1) (po_some ((pe_op op_addU (pv 2) (pe_int)))) po_none)))))) (pss_nil))
      (pss_cons (ps_if ((pt_cmpR (op_eqU hr.units) (pv 4) (pe_int) (nomark _))) (pss_one (ps_ret ((pe_op op_addU ((pe_slice sl_U (pv 1) po_none (po_some ((pe_op op_addU (pv 2) (pe_int)))))) ((pe_slice sl_U (pv 1) (po_some (pv 2)) po_none)))))) (pss_nil))
      (pss_cons (ps_if ((pt_cmpR (op_eqU hr.units) (pv 4) (pe_int) (nomark _))) (pss_cons (ps_set (i := 5) nd rfl (Or.inl rfl) ((pe_callTy call_listU (by rfl) B.n_list (by decide +kernel) (pa_cons (pv 1) pa_nil))))
      (pss_cons (ps_asg ((pe_ix ix_seq (pv 1) (pv 3) (fun _ _ => rfl))) (pg_sub (pv 5) (pv 2) set_list))
      (pss_cons (ps_asg ((pe_ix ix_seq (pv 1) (pv 2) (fun _ _ => rfl))) (pg_sub (pv 5) (pv 3) set_list))
      (pss_one (ps_ret ((pe_tupD (by rfl) B.n_tuple (pv 5)))))))) (pss_nil))
      (pss_one (ps_ret ((pe_op op_addU (pv 1) ((pe_tup (pa_cons ((pe_callF G_law_draw (hr.mono (by decide)) (by rfl) pass0 (pa_cons (pv 0) (pa_cons (pe_int) pa_nil)))) pa_nil)))))))))))))
theorem sc_law_listed : FnScope N_law_listed ["stage"] (defScope s_law_listed) := ⟨rfl, rfl, rfl, by decide +kernel, rfl, by decide +kernel, by decide +kernel⟩
theorem ok_law_listed (D : At K mg "_law_listed" s_law_listed) (B : Bn mg) : Fn P w K mg base CX0 1 "_law_listed" ["stage"] (sp_law_listed K) := by
  obtain ⟨f, fd, F, hm⟩ := D
  refine ⟨f, fd, F.ok sc_law_listed (fun vs H Q E h => len_law_listed h) (fun cdv A outer s H vs Q E hr h => ⟨t_law_listed K, ?_, pure_law_listed h⟩), hm, F.kp, F.binds fun _ _ _ _ _ _ us hl => match us, hl with | [_], _ => rfl⟩
  have nd := sc_law_listed.nd
  exact pss_cons (ps_set (i := 1) nd rfl (Or.inl rfl) ((pe_lst pa_nil)))
      (pss_cons (ps_set (i := 2) nd rfl (Or.inl rfl) ((pe_lst (pa_cons ((pe_lst (pa_cons ((pe_tup pa_nil)) (pa_cons (pe_int) pa_nil)))) pa_nil))))
      (pss_cons (ps_for PassesOwn.never rfl (pi_range1 (by rfl) B.n_range (pa_cons ((pe_op op_addU (pv 0) (pe_int))) pa_nil)) (pg_name (i := 3) nd rfl (Or.inl rfl)) (pss_cons (ps_set (i := 4) nd rfl (Or.inl rfl) ((pe_lst pa_nil)))
      (pss_cons (ps_for PassesOwn.never rfl (pi_seqU (pv 2)) (pg_name (i := 5) nd rfl (Or.inl rfl)) (pss_one (ps_if ((pt_cmpR op_gtU ((pe_ix ix_seq (pv 5) (pe_int) (fun _ _ => rfl))) (pv 0) (nomark _))) (pss_one (ps_expr ((pe_bm PySem.F.plainAttrs_list PySem.F.slot_list_append PySem.F.type_list_append mt_append (pv 1) (pa_cons ((pe_ix ix_seq (pv 5) (pe_int) (fun _ _ => rfl))) pa_nil))))) (pss_cons (ps_expr ((pe_bm PySem.F.plainAttrs_list PySem.F.slot_list_append PySem.F.type_list_append mt_append (pv 4) (pa_cons ((pe_lst (pa_cons ((pe_op op_addU ((pe_ix ix_seq (pv 5) (pe_int) (fun _ _ => rfl))) ((pe_tup (pa_cons ((pe_ix ix_seq (pv 5) (pe_int) (fun _ _ => rfl))) pa_nil))))) (pa_cons ((pe_op op_addU ((pe_ix ix_seq (pv 5) (pe_int) (fun _ _ => rfl))) (pe_int))) pa_nil)))) pa_nil))))
      (pss_one (ps_if ((pt_cmpR (op_ltU hr.units) ((pe_ix ix_seq (pv 5) (pe_int) (fun _ _ => rfl))) (pv 0) (nomark _))) (pss_one (ps_expr ((pe_bm PySem.F.plainAttrs_list PySem.F.slot_list_append PySem.F.type_list_append mt_append (pv 4) (pa_cons ((pe_lst (pa_cons ((pe_ix ix_seq (pv 5) (pe_int) (fun _ _ => rfl))) (pa_cons ((pe_op op_addU ((pe_ix ix_seq (pv 5) (pe_int) (fun _ _ => rfl))) (pe_int))) pa_nil)))) pa_nil))))) (pss_nil)))))))
      (pss_one (ps_set (i := 2) nd rfl (Or.inl rfl) ((pe_callTy call_listU (by rfl) B.n_list (by decide +kernel) (pa_cons (pv 4) pa_nil))))))))
      (pss_one (ps_ret ((pe_callB (cr_sortRow0 hr.units) (by rfl) B.n_sorted (by decide +kernel) (pa_cons (pv 1) pa_nil)))))))
theorem sc_law_count : FnScope N_law_count ["stage"] (defScope s_law_count) := ⟨rfl, rfl, rfl, by decide +kernel, rfl, by decide +kernel, by decide +kernel⟩
theorem ok_law_count (D : At K mg "_law_count" s_law_count) (B : Bn mg) : Fn P w K mg base CX0 1 "_law_count" ["stage"] (sp_law_count K) := by
  obtain ⟨f, fd, F, hm⟩ := D
  refine ⟨f, fd, F.ok sc_law_count (fun vs H Q E h => len_law_count h) (fun cdv A outer s H vs Q E hr h => ⟨t_law_count K, ?_, pure_law_count h⟩), hm, F.kp, F.binds fun _ _ _ _ _ _ us hl => match us, hl with | [_], _ => rfl⟩
  have nd := sc_law_count.nd
  exact pss_cons (ps_set (i := 1) nd rfl (Or.inl rfl) (pe_int))
      (pss_cons (ps_set (i := 2) nd rfl (Or.inl rfl) (pe_int))
      (pss_cons (ps_for PassesOwn.never rfl (pi_range1 (by rfl) B.n_range (pa_cons ((pe_op op_subU (pv 0) (pe_int))) pa_nil)) (pg_name (i := 3) nd rfl (Or.inl rfl)) (pss_cons (ps_set (i := 4) nd rfl (Or.inl rfl) ((pe_op op_addU (pv 1) (pv 2))))
      (pss_cons (ps_set (i := 1) nd rfl (Or.inl rfl) (pv 2))
      (pss_one (ps_set (i := 2) nd rfl (Or.inl rfl) (pv 4))))))
      (pss_one (ps_ret (pv 1)))))
theorem sc_law_even_gaps : FnScope N_law_even_gaps ["stage", "value"] (defScope s_law_even_gaps) := ⟨rfl, rfl, rfl, by decide +kernel, rfl, by decide +kernel, by decide +kernel⟩
theorem ok_law_even_gaps (D : At K mg "_law_even_gaps" s_law_even_gaps) (B : Bn mg) : Fn P w K mg base CX0 1 "_law_even_gaps" ["stage", "value"] (sp_law_even_gaps K) := by
  obtain ⟨f, fd, F, hm⟩ := D
  refine ⟨f, fd, F.ok sc_law_even_gaps (fun vs H Q E h => len_law_even_gaps h) (fun cdv A outer s H vs Q E hr h => ⟨t_law_even_gaps K, ?_, pure_law_even_gaps h⟩), hm, F.kp, F.binds fun _ _ _ _ _ _ us hl => match us, hl with | [_, _], _ => rfl⟩
  have nd := sc_law_even_gaps.nd
  exact pss_cons (ps_if ((pt_not ((pt_truU ((pe_callB call_isi (by rfl) B.n_isinstance (by decide +kernel) (pa_cons (pv 1) (pa_cons ((pe_bltn (by rfl) B.n_tuple (by decide +kernel) rfl)) pa_nil)))) (by intro _; rfl))))) (pss_one (ps_ret (pe_bl))) (pss_nil))
      (pss_cons (ps_for PassesOwn.never rfl (pi_seqU (pv 1)) (pg_name (i := 2) nd rfl (Or.inl rfl)) (pss_one (ps_if ((pt_not ((pt_truU ((pe_callB call_isi (by rfl) B.n_isinstance (by decide +kernel) (pa_cons (pv 2) (pa_cons ((pe_bltn (by rfl) B.n_int (by decide +kernel) rfl)) pa_nil)))) (by intro _; rfl))))) (pss_one (ps_ret (pe_bl))) (pss_nil))))
      (pss_cons (ps_set (i := 3) nd rfl (Or.inl rfl) ((pe_op op_addU ((pe_op op_addU ((pe_lst (pa_cons (pe_int) pa_nil))) ((pe_callTy call_listU (by rfl) B.n_list (by decide +kernel) (pa_cons (pv 1) pa_nil))))) ((pe_lst (pa_cons ((pe_op op_addU (pv 0) (pe_int))) pa_nil))))))
      (pss_cons (ps_for PassesOwn.never rfl (pi_range1 (by rfl) B.n_range (pa_cons ((pe_op op_subU ((pe_callB call_lenU (by rfl) B.n_len (by decide +kernel) (pa_cons (pv 3) pa_nil))) (pe_int))) pa_nil)) (pg_name (i := 4) nd rfl (Or.inl rfl)) (pss_cons (ps_set (i := 5) nd rfl (Or.inl rfl) ((pe_op op_subU ((pe_op op_subU ((pe_ix ix_seq (pv 3) ((pe_op op_addU (pv 4) (pe_int))) (fun _ _ => rfl))) ((pe_ix ix_seq (pv 3) (pv 4) (fun _ _ => rfl))))) (pe_int))))
      (pss_one (ps_if ((PW.pt (pw_or ((pt_cmpR (op_ltU hr.units) (pv 5) (pe_int) (nomark _))) (pw_or1 ((pt_cmpR (op_eqU hr.units) ((pe_op op_modU ((pe_callTy call_intU (by rfl) B.n_int (by decide +kernel) (pa_cons (pv 5) pa_nil))) (pe_int))) (pe_int) (nomark _))))))) (pss_one (ps_ret (pe_bl))) (pss_nil)))))
      (pss_one (ps_ret (pe_bl))))))
theorem sc_law_exchanged : FnScope N_law_exchanged ["stage", "change"] (defScope s_law_exchanged) := ⟨rfl, rfl, rfl, by decide +kernel, rfl, by decide +kernel, by decide +kernel⟩
theorem ok_law_exchanged (D : At K mg "_law_exchanged" s_law_exchanged) (B : Bn mg) : Fn P w K mg base CX0 1 "_law_exchanged" ["stage", "change"] (sp_law_exchanged K) := by
  obtain ⟨f, fd, F, hm⟩ := D
  refine ⟨f, fd, F.ok sc_law_exchanged (fun vs H Q E h => len_law_exchanged h) (fun cdv A outer s H vs Q E hr h => ⟨t_law_exchanged K, ?_, pure_law_exchanged h⟩), hm, F.kp, F.binds fun _ _ _ _ _ _ us hl => match us, hl with | [_, _], _ => rfl⟩
  have nd := sc_law_exchanged.nd
  exact pss_cons (ps_set (i := 2) nd rfl (Or.inl rfl) ((pe_listRg rfl (by rfl) B.n_list (prg_2 (by rfl) B.n_range (pe_int) ((pe_op op_addU (pv 0) (pe_int)))))))
      (pss_cons (ps_setLc (i := 3) (own := [("place", 5)]) (g := (gName 5)) (tt := (tTest (tOp (rNotInU K) (tVar 5) (tVar 1)))) rfl nd rfl rfl (sw_true rfl rfl rfl (by decide +kernel)) ((pi_seqU (pv 2))) (blkOk_by (N := (N_law_exchanged : List Str)) (sc := defScope s_law_exchanged) (by decide +kernel)) (fun _ _ _ _ _ => (pg_name (i := 5) nd rfl (Or.inl rfl))) (fun _ _ _ _ _ => (pts_one ((pt_cmpR op_notInU (pv 5) (pv 1) (by with_unfolding_all rfl))))) (fun _ _ _ _ _ => pv 5))
      (pss_cons (ps_for PassesOwn.never rfl (pi_range1 (by rfl) B.n_range (pa_cons ((pe_op op_fdivU ((pe_callB call_lenU (by rfl) B.n_len (by decide +kernel) (pa_cons (pv 3) pa_nil))) (pe_int))) pa_nil)) (pg_name (i := 4) nd rfl (Or.inl rfl)) (pss_cons (ps_asg ((pe_ix ix_seq (pv 3) ((pe_op op_addU ((pe_op op_mulU (pe_int) (pv 4))) (pe_int))) (fun _ _ => rfl))) (pg_sub (pv 2) ((pe_op op_subU ((pe_ix ix_seq (pv 3) ((pe_op op_mulU (pe_int) (pv 4))) (fun _ _ => rfl))) (pe_int))) set_list))
      (pss_one (ps_asg ((pe_ix ix_seq (pv 3) ((pe_op op_mulU (pe_int) (pv 4))) (fun _ _ => rfl))) (pg_sub (pv 2) ((pe_op op_subU ((pe_ix ix_seq (pv 3) ((pe_op op_addU ((pe_op op_mulU (pe_int) (pv 4))) (pe_int))) (fun _ _ => rfl))) (pe_int))) set_list)))))
      (pss_one (ps_ret ((pe_tupD (by rfl) B.n_tuple (pv 2)))))))
theorem sc_law_near : FnScope N_law_near ["pool", "stage", "change"] (defScope s_law_near) := ⟨rfl, rfl, rfl, by decide +kernel, rfl, by decide +kernel, by decide +kernel⟩
theorem ok_law_near (D : At K mg "_law_near" s_law_near) (B : Bn mg) (G_law_draw : Fn P w K mg base CX0 1 "_law_draw" ["pool", "many"] (sp_law_draw K)) (G_law_bent : Fn P w K mg base CX0 2 "_law_bent" ["pool", "part"] (sp_law_bent K)) (G_law_change_draw : Fn P w K mg base CX0 2 "_law_change_draw" ["pool", "stage"] (sp_law_change_draw K)) : Fn P w K mg base CX0 3 "_law_near" ["pool", "stage", "change"] (sp_law_near K) := by
  obtain ⟨f, fd, F, hm⟩ := D
  refine ⟨f, fd, F.ok sc_law_near (fun vs H Q E h => len_law_near h) (fun cdv A outer s H vs Q E hr h => ⟨t_law_near K, ?_, pure_law_near h⟩), hm, F.kp, F.binds fun _ _ _ _ _ _ us hl => match us, hl with | [_, _, _], _ => rfl⟩
  have nd := sc_law_near.nd
  exact pss_cons (ps_set (i := 3) nd rfl (Or.inl rfl) ((pe_callF G_law_draw (hr.mono (by decide)) (by rfl) pass0 (pa_cons (pv 0) (pa_cons (pe_int) pa_nil)))))
      (pss_cons (ps_set (i := 4) nd rfl (Or.inl rfl) ((pe_callF G_law_draw (hr.mono (by decide)) (by rfl) pass0 (pa_cons (pv 0) (pa_cons ((pe_op op_addU ((pe_callB call_lenU (by rfl) B.n_len (by decide +kernel) (pa_cons (pv 2) pa_nil))) (pe_int))) pa_nil)))))
      (pss_cons (ps_set (i := 5) nd rfl (Or.inl rfl) ((pe_op op_subU ((pe_callF G_law_draw (hr.mono (by decide)) (by rfl) pass0 (pa_cons (pv 0) (pa_cons ((pe_op op_addU (pv 1) (pe_int))) pa_nil)))) (pe_int))))
      (pss_cons (ps_if ((pt_cmpR (op_eqU hr.units) (pv 3) (pe_int) (nomark _))) (pss_one (ps_ret ((pe_callF G_law_bent (hr.mono (by decide)) (by rfl) pass0 (pa_cons (pv 0) (pa_cons (pv 2) pa_nil)))))) (pss_nil))
      (pss_cons (ps_if ((pt_cmpR (op_eqU hr.units) (pv 3) (pe_int) (nomark _))) (pss_one (ps_ret ((pe_op op_addU ((pe_op op_addU ((pe_slice sl_U (pv 2) po_none (po_some (pv 4)))) ((pe_tup (pa_cons (pv 5) pa_nil))))) ((pe_slice sl_U (pv 2) (po_some ((pe_op op_addU (pv 4) (pe_int)))) po_none)))))) (pss_nil))
      (pss_cons (ps_if ((pt_cmpR (op_eqU hr.units) (pv 3) (pe_int) (nomark _))) (pss_one (ps_ret ((pe_op op_addU ((pe_op op_addU ((pe_slice sl_U (pv 2) po_none (po_some (pv 4)))) ((pe_tup (pa_cons (pv 5) pa_nil))))) ((pe_slice sl_U (pv 2) (po_some (pv 4)) po_none)))))) (pss_nil))
      (pss_cons (ps_if ((pt_cmpR (op_eqU hr.units) (pv 3) (pe_int) (nomark _))) (pss_one (ps_ret ((pe_tupD (by rfl) B.n_tuple ((pe_callB cr_sortedI (by rfl) B.n_sorted (by decide +kernel) (pa_cons ((pe_op op_addU ((pe_callTy call_listU (by rfl) B.n_list (by decide +kernel) (pa_cons (pv 2) pa_nil))) ((pe_lst (pa_cons (pv 5) pa_nil))))) pa_nil))))))) (pss_nil))
      (pss_cons (ps_if ((pt_cmpR (op_eqU hr.units) (pv 3) (pe_int) (nomark _))) (pss_one (ps_ret ((pe_op op_addU ((pe_slice sl_U (pv 2) po_none (po_some (pv 4)))) ((pe_slice sl_U (pv 2) (po_some ((pe_op op_addU (pv 4) (pe_int)))) po_none)))))) (pss_nil))
      (pss_cons (ps_if ((pt_cmpR (op_eqU hr.units) (pv 3) (pe_int) (nomark _))) (pss_one (ps_ret ((pe_op op_addU ((pe_slice sl_U (pv 2) po_none (po_some (pv 4)))) ((pe_slice sl_U (pv 2) (po_some ((pe_op op_addU (pv 4) (pe_int)))) po_none)))))) (pss_nil))
      (pss_cons (ps_if ((pt_cmpR (op_eqU hr.units) (pv 3) (pe_int) (nomark _))) (pss_one (ps_ret ((pe_tupD (by rfl) B.n_tuple ((pe_callB cr_sortedI (by rfl) B.n_sorted (by decide +kernel) (pa_cons ((pe_op op_addU ((pe_callTy call_listU (by rfl) B.n_list (by decide +kernel) (pa_cons (pv 2) pa_nil))) ((pe_lst (pa_cons (pv 5) (pa_cons ((pe_op op_addU (pv 5) (pe_int))) pa_nil)))))) pa_nil))))))) (pss_nil))
      (pss_cons (ps_if ((pt_cmpR (op_eqU hr.units) (pv 3) (pe_int) (nomark _))) (pss_cons (ps_set (i := 6) nd rfl (Or.inr rfl) ((pe_op op_subU (pe_int) ((pe_op op_mulU (pe_int) ((pe_callF G_law_draw (hr.mono (by decide)) (by rfl) pass0 (pa_cons (pv 0) (pa_cons (pe_int) pa_nil)))))))))
      (pss_one (ps_ret ((pe_tupD (by rfl) B.n_tuple ((pe_lc (own := [("place", 8)]) (g := (gName 8)) (tt := tYes) rfl nd ((pi_seqU (pv 2))) (blkOk_by (N := (N_law_near : List Str)) (sc := defScope s_law_near) (by decide +kernel)) (fun _ _ _ _ _ => (pg_name (i := 8) nd rfl (Or.inl rfl))) (fun _ _ _ _ _ => pts_nil) (fun _ _ _ _ _ => (pe_op op_addU (pv 8) (pv 6)))))))))) (pss_nil))
      (pss_cons (ps_if ((pt_cmpR (op_eqU hr.units) (pv 3) (pe_int) (nomark _))) (pss_one (ps_ret ((pe_revU (pv 2) (po_some ((pe_un un_neg (pe_int)))))))) (pss_nil))
      (pss_cons (ps_if ((pt_cmpR (op_eqU hr.units) (pv 3) (pe_int) (nomark _))) (pss_one (ps_ret ((pe_op op_addU (pv 2) ((pe_tup (pa_cons ((pe_op op_addU ((pe_op op_powU (pe_int) (pe_int))) (pv 5))) pa_nil))))))) (pss_nil))
      (pss_cons (ps_if ((pt_cmpR (op_eqU hr.units) (pv 3) (pe_int) (nomark _))) (pss_one (ps_ret ((pe_callF G_law_change_draw (hr.mono (by decide)) (by rfl) pass0 (pa_cons (pv 0) (pa_cons ((pe_op op_addU (pe_int) ((pe_callF G_law_draw (hr.mono (by decide)) (by rfl) pass0 (pa_cons (pv 0) (pa_cons (pe_int) pa_nil)))))) pa_nil)))))) (pss_nil))
      (pss_cons (ps_set (i := 7) nd rfl (Or.inl rfl) ((pe_callF G_law_draw (hr.mono (by decide)) (by rfl) pass0 (pa_cons (pv 0) (pa_cons (pe_int) pa_nil)))))
      (pss_cons (ps_if ((pt_cmpR (op_eqU hr.units) ((pe_callF G_law_draw (hr.mono (by decide)) (by rfl) pass0 (pa_cons (pv 0) (pa_cons (pe_int) pa_nil)))) (pe_int) (nomark _))) (pss_one (ps_set (i := 7) nd rfl (Or.inl rfl) (pe_int))) (pss_nil))
      (pss_one (ps_ret ((pe_tupD (by rfl) B.n_tuple ((pe_lc (own := [("k", 9)]) (g := (gName 9)) (tt := tYes) rfl nd ((pi_range1 (by rfl) B.n_range (pa_cons (pv 7) pa_nil))) (blkOk_by (N := (N_law_near : List Str)) (sc := defScope s_law_near) (by decide +kernel)) (fun _ _ _ _ _ => (pg_name (i := 9) nd rfl (Or.inl rfl))) (fun _ _ _ _ _ => pts_nil) (fun _ _ _ _ _ => (pe_op op_subU ((pe_callF G_law_draw (hr.mono (by decide)) (by rfl) pass0 (pa_cons (pv 0) (pa_cons (pe_int) pa_nil)))) (pe_int))))))))))))))))))))))))
theorem sc_law_odd : FnScope N_law_odd ["pool", "stage", "change"] (defScope s_law_odd) := ⟨rfl, rfl, rfl, by decide +kernel, rfl, by decide +kernel, by decide +kernel⟩
theorem ok_law_odd (D : At K mg "_law_odd" s_law_odd) (B : Bn mg) (G_law_draw : Fn P w K mg base CX0 1 "_law_draw" ["pool", "many"] (sp_law_draw K)) : Fn P w K mg base CX0 2 "_law_odd" ["pool", "stage", "change"] (sp_law_odd K) := by
  obtain ⟨f, fd, F, hm⟩ := D
  refine ⟨f, fd, F.ok sc_law_odd (fun vs H Q E h => len_law_odd h) (fun cdv A outer s H vs Q E hr h => ⟨t_law_odd K, ?_, pure_law_odd h⟩), hm, F.kp, F.binds fun _ _ _ _ _ _ us hl => match us, hl with | [_, _, _], _ => rfl⟩
  have nd := sc_law_odd.nd
  exact pss_cons (ps_set (i := 3) nd rfl (Or.inl rfl) ((pe_callF G_law_draw (hr.mono (by decide)) (by rfl) pass0 (pa_cons (pv 0) (pa_cons (pe_int) pa_nil)))))
      (pss_cons (ps_set (i := 4) nd rfl (Or.inl rfl) ((pe_callF G_law_draw (hr.mono (by decide)) (by rfl) pass0 (pa_cons (pv 0) (pa_cons ((pe_op op_addU ((pe_callB call_lenU (by rfl) B.n_len (by decide +kernel) (pa_cons (pv 2) pa_nil))) (pe_int))) pa_nil)))))
      (pss_cons (ps_set (i := 5) nd rfl (Or.inr rfl) (pe_str))
      (pss_cons (ps_set (i := 6) nd rfl (Or.inl rfl) ((pe_bm PySem.F.plainAttrs_str PySem.F.slot_str_join PySem.F.type_str_join mt_join (pe_str) (pa_cons ((pe_lc (own := [("place", 7)]) (g := (gName 7)) (tt := tYes) rfl nd ((pi_seqU (pv 2))) (blkOk_by (N := (N_law_odd : List Str)) (sc := defScope s_law_odd) (by decide +kernel)) (fun _ _ _ _ _ => (pg_name (i := 7) nd rfl (Or.inl rfl))) (fun _ _ _ _ _ => pts_nil) (fun _ _ _ _ _ => (pe_ix ix_seq (pv 5) ((pe_op op_subU (pv 7) (pe_int))) (fun _ _ => rfl))))) pa_nil))))
      (pss_cons (ps_if ((pt_cmpR (op_eqU hr.units) (pv 3) (pe_int) (nomark _))) (pss_one (ps_ret (pv 6))) (pss_nil))
      (pss_cons (ps_if ((pt_cmpR (op_eqU hr.units) (pv 3) (pe_int) (nomark _))) (pss_one (ps_ret (pv 1))) (pss_nil))
      (pss_cons (ps_if ((pt_cmpR (op_eqU hr.units) (pv 3) (pe_int) (nomark _))) (pss_one (ps_ret ((pe_tup (pa_cons (pv 2) pa_nil))))) (pss_nil))
      (pss_cons (ps_if ((pt_cmpR (op_eqU hr.units) (pv 3) (pe_int) (nomark _))) (pss_one (ps_ret ((pe_op op_addU ((pe_op op_addU ((pe_slice sl_U (pv 2) po_none (po_some (pv 4)))) ((pe_tup (pa_cons ((pe_ix ix_seq (pv 5) ((pe_op op_subU (pv 4) (pe_int))) (fun _ _ => rfl))) pa_nil))))) ((pe_slice sl_U (pv 2) (po_some ((pe_op op_addU (pv 4) (pe_int)))) po_none)))))) (pss_nil))
      (pss_cons (ps_if ((pt_cmpR (op_eqU hr.units) (pv 3) (pe_int) (nomark _))) (pss_one (ps_ret ((pe_op op_addU ((pe_op op_addU ((pe_slice sl_U (pv 2) po_none (po_some (pv 4)))) ((pe_tup (pa_cons (pv 2) pa_nil))))) ((pe_slice sl_U (pv 2) (po_some (pv 4)) po_none)))))) (pss_nil))
      (pss_one (ps_ret ((pe_op op_addU ((pe_op op_addU ((pe_slice sl_U (pv 2) po_none (po_some (pv 4)))) ((pe_tup (pa_cons (pv 6) pa_nil))))) ((pe_slice sl_U (pv 2) (po_some (pv 4)) po_none))))))))))))))
theorem sc_law_row_told : FnScope N_law_row_told ["stage", "change"] (defScope s_law_row_told) := ⟨rfl, rfl, rfl, by decide +kernel, rfl, by decide +kernel, by decide +kernel⟩
theorem ok_law_row_told (D : At K mg "_law_row_told" s_law_row_told) (B : Bn mg) {ec : Str → Addr} (XS : Exs K ec XN) (EX : ExAt mg ec XN) (G_as_row : Fn P w K mg base (L2.CX P w) 7 "as_row" ["stage", "change"] (sp_as_row K ec)) (G_law_same : Fn P w K mg base CX0 1 "_law_same" ["got", "due"] (sp_law_same K)) : Fn P w K mg base CX0 8 "_law_row_told" ["stage", "change"] (sp_law_row_told K) := by
  obtain ⟨f, fd, F, hm⟩ := D
  refine ⟨f, fd, F.ok sc_law_row_told (fun vs H Q E h => len_law_row_told h) (fun cdv A outer s H vs Q E hr h => ⟨t_law_row_told K ec, ?_, pure_law_row_told XS h⟩), hm, F.kp, F.binds fun _ _ _ _ _ _ us hl => match us, hl with | [_, _], _ => rfl⟩
  have nd := sc_law_row_told.nd
  exact pss_cons (ps_set (i := 2) nd rfl (Or.inl rfl) (pe_str))
      (pss_cons (ps_set (i := 3) nd rfl (Or.inl rfl) (pe_str))
      (pss_cons (ps_set (i := 4) nd rfl (Or.inl rfl) (pe_bl))
      (pss_cons (ps_set (i := 5) nd rfl (Or.inl rfl) (pe_non))
      (pss_cons (ps_tryT rfl rfl nd takes0 (fun W pn xe htk hpo => pss_one (ps_set (i := 5) nd rfl (Or.inl rfl) ((pe_callW htk G_as_row (hr.mono (by decide)) (by rfl) (pa_cons (pv 0) (pa_cons (pv 1) pa_nil)))))) (HdsA.as ⟨rfl, by decide, .inl (EX "BadChange" (by decide))⟩ rfl rfl (fun a oe cls d pn hz hf => pss_cons (ps_set (i := 2) nd rfl (Or.inl rfl) (pe_str))
      (pss_cons (ps_set (i := 3) nd rfl (Or.inl rfl) ((pe_xfA hz hf (pv 6))))
      (pss_one (ps_set (i := 4) nd rfl (Or.inl rfl) ((pe_and ((pe_callB (call_isX hz hf) (by rfl) B.n_isinstance (by decide +kernel) (pa_cons (pv 6) (pa_cons ((pe_glob rfl (EX "ChamberError" (by decide)) rfl)) pa_nil)))) (pe_and ((pe_callB (call_isX hz hf) (by rfl) B.n_isinstance (by decide +kernel) (pa_cons (pv 6) (pa_cons ((pe_bltn (by rfl) B.n_ValueError (by decide +kernel) rfl)) pa_nil)))) (pe_one ((pe_not ((pe_callB (call_isX hz hf) (by rfl) B.n_isinstance (by decide +kernel) (pa_cons (pv 6) (pa_cons ((pe_tup (pa_cons ((pe_glob rfl (EX "BadStage" (by decide)) rfl)) (pa_cons ((pe_glob rfl (EX "BadNotation" (by decide)) rfl)) pa_nil)))) pa_nil)))))))))))))) (HdsA.no ⟨rfl, by decide, .inl (EX "ChamberError" (by decide))⟩ (fun a oe cls d pn hz hf => pss_one (ps_set (i := 2) nd rfl (Or.inl rfl) (pe_str))) HdsA.nil)))
      (pss_cons (ps_if ((PW.pt (pw_and ((pt_cmpR (op_neU hr.units) (pv 2) (pe_str) (nomark _))) (pw_and1 ((pt_not ((PW.pt (pw_and ((pt_truU (pv 4) (by intro _; rfl))) (pw_and1 ((pt_truU ((pe_callF G_law_same (hr.mono (by decide)) (by rfl) pass0 (pa_cons (pv 3) (pa_cons (pv 2) pa_nil)))) (by intro _; rfl))))))))))))) (pss_one (ps_set (i := 2) nd rfl (Or.inl rfl) (pe_str))) (pss_nil))
      (pss_one (ps_ret ((pe_lst (pa_cons (pv 2) (pa_cons (pv 5) pa_nil)))))))))))
theorem sc_law_stage_refused : FnScope N_law_stage_refused ["which", "stage", "change"] (defScope s_law_stage_refused) := ⟨rfl, rfl, rfl, by decide +kernel, rfl, by decide +kernel, by decide +kernel⟩
theorem ok_law_stage_refused (D : At K mg "_law_stage_refused" s_law_stage_refused) (B : Bn mg) {ec : Str → Addr} (XS : Exs K ec XN) (EX : ExAt mg ec XN) (G_all_changes : Fn P w K mg base (L2.CX P w) 5 "all_changes" ["stage"] (sp_all_changes K ec)) (G_change_count : Fn P w K mg base (L2.CX P w) 5 "change_count" ["stage"] (sp_change_count K ec)) (G_is_change : Fn P w K mg base (L2.CX P w) 5 "is_change" ["stage", "told"] (sp_is_change K ec)) (G_as_row : Fn P w K mg base (L2.CX P w) 7 "as_row" ["stage", "change"] (sp_as_row K ec)) (G_law_same : Fn P w K mg base CX0 1 "_law_same" ["got", "due"] (sp_law_same K)) : Fn P w K mg base CX0 8 "_law_stage_refused" ["which", "stage", "change"] (sp_law_stage_refused K) := by
  obtain ⟨f, fd, F, hm⟩ := D
  refine ⟨f, fd, F.ok sc_law_stage_refused (fun vs H Q E h => len_law_stage_refused h) (fun cdv A outer s H vs Q E hr h => ⟨t_law_stage_refused K ec, ?_, pure_law_stage_refused XS h⟩), hm, F.kp, F.binds fun _ _ _ _ _ _ us hl => match us, hl with | [_, _, _], _ => rfl⟩
  have nd := sc_law_stage_refused.nd
  exact pss_cons (ps_set (i := 3) nd rfl (Or.inl rfl) (pe_str))
      (pss_cons (ps_set (i := 4) nd rfl (Or.inl rfl) (pe_bl))
      (pss_cons (ps_tryT rfl rfl nd takes0 (fun W pn xe htk hpo => pss_one (ps_if ((pt_cmpR (op_eqU hr.units) (pv 0) (pe_int) (nomark _))) (pss_one (ps_expr ((pe_callW htk G_all_changes (hr.mono (by decide)) (by rfl) (pa_cons (pv 1) pa_nil))))) (pss_one (ps_if ((pt_cmpR (op_eqU hr.units) (pv 0) (pe_int) (nomark _))) (pss_one (ps_expr ((pe_callW htk G_change_count (hr.mono (by decide)) (by rfl) (pa_cons (pv 1) pa_nil))))) (pss_one (ps_if ((pt_cmpR (op_eqU hr.units) (pv 0) (pe_int) (nomark _))) (pss_one (ps_expr ((pe_callW htk G_is_change (hr.mono (by decide)) (by rfl) (pa_cons (pv 1) (pa_cons (pv 2) pa_nil)))))) (pss_one (ps_expr ((pe_callW htk G_as_row (hr.mono (by decide)) (by rfl) (pa_cons (pv 1) (pa_cons (pv 2) pa_nil)))))))))))) (HdsA.as ⟨rfl, by decide, .inl (EX "BadStage" (by decide))⟩ rfl rfl (fun a oe cls d pn hz hf => pss_cons (ps_set (i := 3) nd rfl (Or.inl rfl) ((pe_xfA hz hf (pv 5))))
      (pss_one (ps_set (i := 4) nd rfl (Or.inl rfl) ((pe_and ((pe_callB (call_isX hz hf) (by rfl) B.n_isinstance (by decide +kernel) (pa_cons (pv 5) (pa_cons ((pe_glob rfl (EX "ChamberError" (by decide)) rfl)) pa_nil)))) (pe_and ((pe_callB (call_isX hz hf) (by rfl) B.n_isinstance (by decide +kernel) (pa_cons (pv 5) (pa_cons ((pe_bltn (by rfl) B.n_ValueError (by decide +kernel) rfl)) pa_nil)))) (pe_one ((pe_not ((pe_callB (call_isX hz hf) (by rfl) B.n_isinstance (by decide +kernel) (pa_cons (pv 5) (pa_cons ((pe_tup (pa_cons ((pe_glob rfl (EX "BadChange" (by decide)) rfl)) (pa_cons ((pe_glob rfl (EX "BadNotation" (by decide)) rfl)) pa_nil)))) pa_nil))))))))))))) (HdsA.no ⟨rfl, by decide, .inl (EX "ChamberError" (by decide))⟩ (fun a oe cls d pn hz hf => pss_one (ps_set (i := 3) nd rfl (Or.inl rfl) (pe_str))) HdsA.nil)))
      (pss_one (ps_ret ((pe_and (pv 4) (pe_one ((pe_callF G_law_same (hr.mono (by decide)) (by rfl) pass0 (pa_cons (pv 3) (pa_cons (pe_str) pa_nil)))))))))))
theorem sc_law : FnScope N_law ["script"] (defScope s_law) := ⟨rfl, rfl, rfl, by decide +kernel, rfl, by decide +kernel, by decide +kernel⟩
theorem ok_lawF {f : Addr} {fd : FuncData} (F : Fun K "law" "law" s_law f fd) (B : Bn mg) {ec : Str → Addr} (XS : Exs K ec XN) (EX : ExAt mg ec XN) (G_law_pool : Fn P w K mg base CX0 2 "_law_pool" ["script", "k"] (sp_law_pool K)) (G_law_draw : Fn P w K mg base CX0 1 "_law_draw" ["pool", "many"] (sp_law_draw K)) (G_law_listed : Fn P w K mg base CX0 1 "_law_listed" ["stage"] (sp_law_listed K)) (G_law_same : Fn P w K mg base CX0 1 "_law_same" ["got", "due"] (sp_law_same K)) (G_all_changes : Fn P w K mg base (L2.CX P w) 5 "all_changes" ["stage"] (sp_all_changes K ec)) (G_change_count : Fn P w K mg base (L2.CX P w) 5 "change_count" ["stage"] (sp_change_count K ec)) (G_law_count : Fn P w K mg base CX0 1 "_law_count" ["stage"] (sp_law_count K)) (G_law_row_told : Fn P w K mg base CX0 8 "_law_row_told" ["stage", "change"] (sp_law_row_told K)) (G_law_exchanged : Fn P w K mg base CX0 1 "_law_exchanged" ["stage", "change"] (sp_law_exchanged K)) (G_law_times : Fn P w K mg base CX0 1 "_law_times" ["first", "second"] (sp_law_times K)) (G_law_rounds : Fn P w K mg base CX0 1 "_law_rounds" ["stage"] (sp_law_rounds K)) (G_is_change : Fn P w K mg base (L2.CX P w) 5 "is_change" ["stage", "told"] (sp_is_change K ec)) (G_law_near : Fn P w K mg base CX0 3 "_law_near" ["pool", "stage", "change"] (sp_law_near K)) (G_law_even_gaps : Fn P w K mg base CX0 1 "_law_even_gaps" ["stage", "value"] (sp_law_even_gaps K)) (G_law_odd : Fn P w K mg base CX0 2 "_law_odd" ["pool", "stage", "change"] (sp_law_odd K)) (G_law_stage_refused : Fn P w K mg base CX0 8 "_law_stage_refused" ["which", "stage", "change"] (sp_law_stage_refused K)) : FnOk P w K mg base CX0 9 f fd ["script"] (sp_law K) := by
  refine F.ok sc_law (fun vs H Q E h => len_law h) (fun cdv A outer s H vs Q E hr h => ⟨t_law K ec, ?_, pure_law XS h⟩)
  have nd := sc_law.nd
  exact pss_cons (ps_set (i := 1) nd rfl (Or.inl rfl) ((pe_callF G_law_pool (hr.mono (by decide)) (by rfl) pass0 (pa_cons (pv 0) (pa_cons (pe_int) pa_nil)))))
      (pss_cons (ps_set (i := 2) nd rfl (Or.inl rfl) ((pe_op op_addU (pe_int) ((pe_callF G_law_draw (hr.mono (by decide)) (by rfl) pass0 (pa_cons (pv 1) (pa_cons (pe_int) pa_nil)))))))
      (pss_cons (ps_set (i := 3) nd rfl (Or.inl rfl) ((pe_callF G_law_listed (hr.mono (by decide)) (by rfl) pass0 (pa_cons (pv 2) pa_nil))))
      (pss_cons (ps_if ((PW.pt (pw_or ((pt_not ((pt_truU ((pe_callF G_law_same (hr.mono (by decide)) (by rfl) pass0 (pa_cons ((pe_callF G_all_changes (hr.mono (by decide)) (by rfl) passL (pa_cons (pv 2) pa_nil))) (pa_cons ((pe_tupD (by rfl) B.n_tuple (pv 3))) pa_nil)))) (by intro _; rfl))))) (pw_or1 ((pt_not ((pt_truU ((pe_callF G_law_same (hr.mono (by decide)) (by rfl) pass0 (pa_cons ((pe_callF G_change_count (hr.mono (by decide)) (by rfl) passL (pa_cons (pv 2) pa_nil))) (pa_cons ((pe_callF G_law_count (hr.mono (by decide)) (by rfl) pass0 (pa_cons (pv 2) pa_nil))) pa_nil)))) (by intro _; rfl))))))))) (pss_one (ps_ret (pe_bl))) (pss_nil))
      (pss_cons (ps_set (i := 4) nd rfl (Or.inl rfl) ((pe_ix ix_seq (pv 3) ((pe_callF G_law_draw (hr.mono (by decide)) (by rfl) pass0 (pa_cons (pv 1) (pa_cons ((pe_callB call_lenU (by rfl) B.n_len (by decide +kernel) (pa_cons (pv 3) pa_nil))) pa_nil)))) (fun _ _ => rfl))))
      (pss_cons (ps_set (i := 5) nd rfl (Or.inl rfl) ((pe_callF G_law_row_told (hr.mono (by decide)) (by rfl) pass0 (pa_cons (pv 2) (pa_cons (pv 4) pa_nil)))))
      (pss_cons (ps_if ((PW.pt (pw_or ((pt_cmpR (op_neU hr.units) ((pe_ix ix_seq (pv 5) (pe_int) (fun _ _ => rfl))) (pe_str) (nomark _))) (pw_or1 ((pt_not ((pt_truU ((pe_callF G_law_same (hr.mono (by decide)) (by rfl) pass0 (pa_cons ((pe_ix ix_seq (pv 5) (pe_int) (fun _ _ => rfl))) (pa_cons ((pe_callF G_law_exchanged (hr.mono (by decide)) (by rfl) pass0 (pa_cons (pv 2) (pa_cons (pv 4) pa_nil)))) pa_nil)))) (by intro _; rfl))))))))) (pss_one (ps_ret (pe_bl))) (pss_nil))
      (pss_cons (ps_if ((PW.pt (pw_or ((pt_cmpR (op_neU hr.units) ((pe_callF G_law_times (hr.mono (by decide)) (by rfl) pass0 (pa_cons ((pe_ix ix_seq (pv 5) (pe_int) (fun _ _ => rfl))) (pa_cons ((pe_ix ix_seq (pv 5) (pe_int) (fun _ _ => rfl))) pa_nil)))) ((pe_callF G_law_rounds (hr.mono (by decide)) (by rfl) pass0 (pa_cons (pv 2) pa_nil))) (nomark _))) (pw_or1 ((pt_not ((pt_truU ((pe_callF G_law_same (hr.mono (by decide)) (by rfl) pass0 (pa_cons ((pe_callF G_is_change (hr.mono (by decide)) (by rfl) passL (pa_cons (pv 2) (pa_cons (pv 4) pa_nil)))) (pa_cons (pe_bl) pa_nil)))) (by intro _; rfl))))))))) (pss_one (ps_ret (pe_bl))) (pss_nil))
      (pss_cons (ps_set (i := 6) nd rfl (Or.inl rfl) ((pe_callF G_law_pool (hr.mono (by decide)) (by rfl) pass0 (pa_cons (pv 0) (pa_cons (pe_int) pa_nil)))))
      (pss_cons (ps_set (i := 7) nd rfl (Or.inl rfl) (pv 4))
      (pss_cons (ps_for PassesOwn.never rfl (pi_range1 (by rfl) B.n_range (pa_cons (pe_int) pa_nil)) (pg_name (i := 8) nd rfl (Or.inl rfl)) (pss_cons (ps_set (i := 7) nd rfl (Or.inl rfl) ((pe_callF G_law_near (hr.mono (by decide)) (by rfl) pass0 (pa_cons (pv 6) (pa_cons (pv 2) (pa_cons (pv 4) pa_nil))))))
      (pss_cons (ps_set (i := 9) nd rfl (Or.inl rfl) ((pe_callF G_law_even_gaps (hr.mono (by decide)) (by rfl) pass0 (pa_cons (pv 2) (pa_cons (pv 7) pa_nil)))))
      (pss_cons (ps_set (i := 5) nd rfl (Or.inl rfl) ((pe_callF G_law_row_told (hr.mono (by decide)) (by rfl) pass0 (pa_cons (pv 2) (pa_cons (pv 7) pa_nil)))))
      (pss_cons (ps_if ((pt_not ((pt_truU ((pe_callF G_law_same (hr.mono (by decide)) (by rfl) pass0 (pa_cons ((pe_callF G_is_change (hr.mono (by decide)) (by rfl) passL (pa_cons (pv 2) (pa_cons (pv 7) pa_nil)))) (pa_cons (pv 9) pa_nil)))) (by intro _; rfl))))) (pss_one (ps_ret (pe_bl))) (pss_nil))
      (pss_cons (ps_if ((PW.pt (pw_and ((pt_truU (pv 9) (by intro _; rfl))) (pw_and1 ((PW.pt (pw_or ((pt_cmpR (op_neU hr.units) ((pe_ix ix_seq (pv 5) (pe_int) (fun _ _ => rfl))) (pe_str) (nomark _))) (pw_or1 ((pt_not ((pt_truU ((pe_callF G_law_same (hr.mono (by decide)) (by rfl) pass0 (pa_cons ((pe_ix ix_seq (pv 5) (pe_int) (fun _ _ => rfl))) (pa_cons ((pe_callF G_law_exchanged (hr.mono (by decide)) (by rfl) pass0 (pa_cons (pv 2) (pa_cons (pv 7) pa_nil)))) pa_nil)))) (by intro _; rfl))))))))))))) (pss_one (ps_ret (pe_bl))) (pss_nil))
      (pss_one (ps_if ((PW.pt (pw_and ((pt_not ((pt_truU (pv 9) (by intro _; rfl))))) (pw_and1 ((pt_cmpR (op_neU hr.units) ((pe_ix ix_seq (pv 5) (pe_int) (fun _ _ => rfl))) (pe_str) (nomark _))))))) (pss_one (ps_ret (pe_bl))) (pss_nil)))))))))
      (pss_cons (ps_set (i := 10) nd rfl (Or.inl rfl) ((pe_callF G_law_pool (hr.mono (by decide)) (by rfl) pass0 (pa_cons (pv 0) (pa_cons (pe_int) pa_nil)))))
      (pss_cons (ps_for PassesOwn.never rfl (pi_range1 (by rfl) B.n_range (pa_cons (pe_int) pa_nil)) (pg_name (i := 8) nd rfl (Or.inl rfl)) (pss_cons (ps_set (i := 11) nd rfl (Or.inl rfl) ((pe_callF G_law_odd (hr.mono (by decide)) (by rfl) pass0 (pa_cons (pv 10) (pa_cons (pv 2) (pa_cons (pv 4) pa_nil))))))
      (pss_one (ps_if ((pt_not ((pt_truU ((pe_callF G_law_same (hr.mono (by decide)) (by rfl) pass0 (pa_cons ((pe_callF G_is_change (hr.mono (by decide)) (by rfl) passL (pa_cons (pv 2) (pa_cons (pv 11) pa_nil)))) (pa_cons ((pe_callF G_law_even_gaps (hr.mono (by decide)) (by rfl) pass0 (pa_cons (pv 2) (pa_cons (pv 11) pa_nil)))) pa_nil)))) (by intro _; rfl))))) (pss_one (ps_ret (pe_bl))) (pss_nil)))))
      (pss_cons (ps_set (i := 12) nd rfl (Or.inl rfl) ((pe_op op_addU ((pe_op op_mulU ((pe_callF G_law_draw (hr.mono (by decide)) (by rfl) pass0 (pa_cons (pv 10) (pa_cons ((pe_op op_powU (pe_int) (pe_int))) pa_nil)))) ((pe_op op_powU (pe_int) (pe_int))))) ((pe_callF G_law_draw (hr.mono (by decide)) (by rfl) pass0 (pa_cons (pv 10) (pa_cons ((pe_op op_powU (pe_int) (pe_int))) pa_nil)))))))
      (pss_cons (ps_set (i := 13) nd rfl (Or.inl rfl) ((pe_ix ix_seq ((pe_lst (pa_cons (pe_int) (pa_cons (pe_int) (pa_cons ((pe_un un_neg (pv 12))) (pa_cons ((pe_op op_addU (pe_int) (pv 12))) pa_nil)))))) ((pe_callF G_law_draw (hr.mono (by decide)) (by rfl) pass0 (pa_cons (pv 10) (pa_cons (pe_int) pa_nil)))) (fun _ _ => rfl))))
      (pss_cons (ps_for PassesOwn.never rfl (pi_range1 (by rfl) B.n_range (pa_cons (pe_int) pa_nil)) (pg_name (i := 14) nd rfl (Or.inl rfl)) (pss_one (ps_if ((pt_not ((pt_truU ((pe_callF G_law_stage_refused (hr.mono (by decide)) (by rfl) pass0 (pa_cons (pv 14) (pa_cons (pv 13) (pa_cons (pv 7) pa_nil))))) (by intro _; rfl))))) (pss_one (ps_ret (pe_bl))) (pss_nil))))
      (pss_cons (ps_set (i := 5) nd rfl (Or.inl rfl) ((pe_callF G_law_row_told (hr.mono (by decide)) (by rfl) pass0 (pa_cons (pv 2) (pa_cons (pv 4) pa_nil)))))
      (pss_one (ps_ret ((pe_and ((pe_cmpR (op_eqU hr.units) ((pe_ix ix_seq (pv 5) (pe_int) (fun _ _ => rfl))) (pe_str) (nomark _))) (pe_one ((pe_callF G_law_same (hr.mono (by decide)) (by rfl) pass0 (pa_cons ((pe_ix ix_seq (pv 5) (pe_int) (fun _ _ => rfl))) (pa_cons ((pe_callF G_law_exchanged (hr.mono (by decide)) (by rfl) pass0 (pa_cons (pv 2) (pa_cons (pv 4) pa_nil)))) pa_nil)))))))))))))))))))))))))
end
theorem all_mk {l : PySem.W.OpenLaw} {w : World} {K : PySem.W.Frag} {h : Heap} {mg : Str → Option Value} {fa : Addr} (X : K.In h) (G : h.Ns mainGlobals mg) (hfa : mg "law" = some (.ref fa))
    {f1 : Addr} {od1 an1 : Option Addr} {sl1 : Array (Option Value)} {oc1 kV1 dc1 pm1 cd1 ct1 : Value}
    {f2 : Addr} {od2 an2 : Option Addr} {sl2 : Array (Option Value)} {oc2 kV2 dc2 pm2 cd2 ct2 : Value}
    {f3 : Addr} {od3 an3 : Option Addr} {sl3 : Array (Option Value)} {oc3 kV3 dc3 pm3 cd3 ct3 : Value}
    {f4 : Addr} {od4 an4 : Option Addr} {sl4 : Array (Option Value)} {oc4 kV4 dc4 pm4 cd4 ct4 : Value}
    {f5 : Addr} {od5 an5 : Option Addr} {sl5 : Array (Option Value)} {oc5 kV5 dc5 pm5 cd5 ct5 : Value}
    {f6 : Addr} {od6 an6 : Option Addr} {sl6 : Array (Option Value)} {oc6 kV6 dc6 pm6 cd6 ct6 : Value}
    {f7 : Addr} {od7 an7 : Option Addr} {sl7 : Array (Option Value)} {oc7 kV7 dc7 pm7 cd7 ct7 : Value}
    {f8 : Addr} {od8 an8 : Option Addr} {sl8 : Array (Option Value)} {oc8 kV8 dc8 pm8 cd8 ct8 : Value}
    {f9 : Addr} {od9 an9 : Option Addr} {sl9 : Array (Option Value)} {oc9 kV9 dc9 pm9 cd9 ct9 : Value}
    {f10 : Addr} {od10 an10 : Option Addr} {sl10 : Array (Option Value)} {oc10 kV10 dc10 pm10 cd10 ct10 : Value}
    {f11 : Addr} {od11 an11 : Option Addr} {sl11 : Array (Option Value)} {oc11 kV11 dc11 pm11 cd11 ct11 : Value}
    {f12 : Addr} {od12 an12 : Option Addr} {sl12 : Array (Option Value)} {oc12 kV12 dc12 pm12 cd12 ct12 : Value}
    {f13 : Addr} {od13 an13 : Option Addr} {sl13 : Array (Option Value)} {oc13 kV13 dc13 pm13 cd13 ct13 : Value}
    {f14 : Addr} {od14 an14 : Option Addr} {sl14 : Array (Option Value)} {oc14 kV14 dc14 pm14 cd14 ct14 : Value}
    {f15 : Addr} {od15 an15 : Option Addr} {sl15 : Array (Option Value)} {oc15 kV15 dc15 pm15 cd15 ct15 : Value}
    {f16 : Addr} {od16 an16 : Option Addr} {sl16 : Array (Option Value)} {oc16 kV16 dc16 pm16 cd16 ct16 : Value}
    {f17 : Addr} {od17 an17 : Option Addr} {sl17 : Array (Option Value)} {oc17 kV17 dc17 pm17 cd17 ct17 : Value}
    {f18 : Addr} {od18 an18 : Option Addr} {sl18 : Array (Option Value)} {oc18 kV18 dc18 pm18 cd18 ct18 : Value}
    {f19 : Addr} {od19 an19 : Option Addr} {sl19 : Array (Option Value)} {oc19 kV19 dc19 pm19 cd19 ct19 : Value}
    {f20 : Addr} {od20 an20 : Option Addr} {sl20 : Array (Option Value)} {oc20 kV20 dc20 pm20 cd20 ct20 : Value}
    {f21 : Addr} {od21 an21 : Option Addr} {sl21 : Array (Option Value)} {oc21 kV21 dc21 pm21 cd21 ct21 : Value}
    {f22 : Addr} {od22 an22 : Option Addr} {sl22 : Array (Option Value)} {oc22 kV22 dc22 pm22 cd22 ct22 : Value}
    {f23 : Addr} {od23 an23 : Option Addr} {sl23 : Array (Option Value)} {oc23 kV23 dc23 pm23 cd23 ct23 : Value}
    {f24 : Addr} {od24 an24 : Option Addr} {sl24 : Array (Option Value)} {oc24 kV24 dc24 pm24 cd24 ct24 : Value}
    {C_ChamberError : Addr}
    {C_BadStage : Addr}
    {C_BadChange : Addr}
    {C_BadNotation : Addr}
    {fI_ChamberError cc_ChamberError : Addr} {od_ChamberError an_ChamberError cld_ChamberError : Option Addr} {sl_ChamberError csl_ChamberError : Array (Option Value)} {oc_ChamberError kV_ChamberError dc_ChamberError pm_ChamberError cd_ChamberError ct_ChamberError cl_ChamberError : Value}
    {fI_BadStage cc_BadStage : Addr} {od_BadStage an_BadStage cld_BadStage : Option Addr} {sl_BadStage csl_BadStage : Array (Option Value)} {oc_BadStage kV_BadStage dc_BadStage pm_BadStage cd_BadStage ct_BadStage cl_BadStage : Value}
    {fI_BadChange cc_BadChange : Addr} {od_BadChange an_BadChange cld_BadChange : Option Addr} {sl_BadChange csl_BadChange : Array (Option Value)} {oc_BadChange kV_BadChange dc_BadChange pm_BadChange cd_BadChange ct_BadChange cl_BadChange : Value}
    {t_SIGNS : Tok}
    (a1 : PySem.W.nsIn K mainGlobals "check_stage" = some (some (.ref f1))) (l1 : K.lookup f1 = some ⟨oc1, od1, .func (PySem.W.fnOf "check_stage" "check_stage" (defArgs s_check_stage) (defBody s_check_stage) (defScope s_check_stage) .none kV1 dc1 pm1 an1 cd1 ct1), sl1⟩) (c1 : PySem.W.codeIn K cd1 "check_stage" = true) (k1 : PySem.W.keepIn K (.ref f1) = true)
    (a2 : PySem.W.nsIn K mainGlobals "is_number" = some (some (.ref f2))) (l2 : K.lookup f2 = some ⟨oc2, od2, .func (PySem.W.fnOf "is_number" "is_number" (defArgs s_is_number) (defBody s_is_number) (defScope s_is_number) .none kV2 dc2 pm2 an2 cd2 ct2), sl2⟩) (c2 : PySem.W.codeIn K cd2 "is_number" = true) (k2 : PySem.W.keepIn K (.ref f2) = true)
    (a3 : PySem.W.nsIn K mainGlobals "is_change" = some (some (.ref f3))) (l3 : K.lookup f3 = some ⟨oc3, od3, .func (PySem.W.fnOf "is_change" "is_change" (defArgs s_is_change) (defBody s_is_change) (defScope s_is_change) .none kV3 dc3 pm3 an3 cd3 ct3), sl3⟩) (c3 : PySem.W.codeIn K cd3 "is_change" = true) (k3 : PySem.W.keepIn K (.ref f3) = true)
    (a4 : PySem.W.nsIn K mainGlobals "check_change" = some (some (.ref f4))) (l4 : K.lookup f4 = some ⟨oc4, od4, .func (PySem.W.fnOf "check_change" "check_change" (defArgs s_check_change) (defBody s_check_change) (defScope s_check_change) .none kV4 dc4 pm4 an4 cd4 ct4), sl4⟩) (c4 : PySem.W.codeIn K cd4 "check_change" = true) (k4 : PySem.W.keepIn K (.ref f4) = true)
    (a5 : PySem.W.nsIn K mainGlobals "change_count" = some (some (.ref f5))) (l5 : K.lookup f5 = some ⟨oc5, od5, .func (PySem.W.fnOf "change_count" "change_count" (defArgs s_change_count) (defBody s_change_count) (defScope s_change_count) .none kV5 dc5 pm5 an5 cd5 ct5), sl5⟩) (c5 : PySem.W.codeIn K cd5 "change_count" = true) (k5 : PySem.W.keepIn K (.ref f5) = true)
    (a6 : PySem.W.nsIn K mainGlobals "all_changes" = some (some (.ref f6))) (l6 : K.lookup f6 = some ⟨oc6, od6, .func (PySem.W.fnOf "all_changes" "all_changes" (defArgs s_all_changes) (defBody s_all_changes) (defScope s_all_changes) .none kV6 dc6 pm6 an6 cd6 ct6), sl6⟩) (c6 : PySem.W.codeIn K cd6 "all_changes" = true) (k6 : PySem.W.keepIn K (.ref f6) = true)
    (a7 : PySem.W.nsIn K mainGlobals "as_row" = some (some (.ref f7))) (l7 : K.lookup f7 = some ⟨oc7, od7, .func (PySem.W.fnOf "as_row" "as_row" (defArgs s_as_row) (defBody s_as_row) (defScope s_as_row) .none kV7 dc7 pm7 an7 cd7 ct7), sl7⟩) (c7 : PySem.W.codeIn K cd7 "as_row" = true) (k7 : PySem.W.keepIn K (.ref f7) = true)
    (a8 : PySem.W.nsIn K mainGlobals "_law_cell" = some (some (.ref f8))) (l8 : K.lookup f8 = some ⟨oc8, od8, .func (PySem.W.fnOf "_law_cell" "_law_cell" (defArgs s_law_cell) (defBody s_law_cell) (defScope s_law_cell) .none kV8 dc8 pm8 an8 cd8 ct8), sl8⟩) (c8 : PySem.W.codeIn K cd8 "_law_cell" = true) (k8 : PySem.W.keepIn K (.ref f8) = true)
    (a9 : PySem.W.nsIn K mainGlobals "_law_pool" = some (some (.ref f9))) (l9 : K.lookup f9 = some ⟨oc9, od9, .func (PySem.W.fnOf "_law_pool" "_law_pool" (defArgs s_law_pool) (defBody s_law_pool) (defScope s_law_pool) .none kV9 dc9 pm9 an9 cd9 ct9), sl9⟩) (c9 : PySem.W.codeIn K cd9 "_law_pool" = true) (k9 : PySem.W.keepIn K (.ref f9) = true)
    (a10 : PySem.W.nsIn K mainGlobals "_law_draw" = some (some (.ref f10))) (l10 : K.lookup f10 = some ⟨oc10, od10, .func (PySem.W.fnOf "_law_draw" "_law_draw" (defArgs s_law_draw) (defBody s_law_draw) (defScope s_law_draw) .none kV10 dc10 pm10 an10 cd10 ct10), sl10⟩) (c10 : PySem.W.codeIn K cd10 "_law_draw" = true) (k10 : PySem.W.keepIn K (.ref f10) = true)
    (a11 : PySem.W.nsIn K mainGlobals "_law_rounds" = some (some (.ref f11))) (l11 : K.lookup f11 = some ⟨oc11, od11, .func (PySem.W.fnOf "_law_rounds" "_law_rounds" (defArgs s_law_rounds) (defBody s_law_rounds) (defScope s_law_rounds) .none kV11 dc11 pm11 an11 cd11 ct11), sl11⟩) (c11 : PySem.W.codeIn K cd11 "_law_rounds" = true) (k11 : PySem.W.keepIn K (.ref f11) = true)
    (a12 : PySem.W.nsIn K mainGlobals "_law_times" = some (some (.ref f12))) (l12 : K.lookup f12 = some ⟨oc12, od12, .func (PySem.W.fnOf "_law_times" "_law_times" (defArgs s_law_times) (defBody s_law_times) (defScope s_law_times) .none kV12 dc12 pm12 an12 cd12 ct12), sl12⟩) (c12 : PySem.W.codeIn K cd12 "_law_times" = true) (k12 : PySem.W.keepIn K (.ref f12) = true)
    (a13 : PySem.W.nsIn K mainGlobals "_law_change_draw" = some (some (.ref f13))) (l13 : K.lookup f13 = some ⟨oc13, od13, .func (PySem.W.fnOf "_law_change_draw" "_law_change_draw" (defArgs s_law_change_draw) (defBody s_law_change_draw) (defScope s_law_change_draw) .none kV13 dc13 pm13 an13 cd13 ct13), sl13⟩) (c13 : PySem.W.codeIn K cd13 "_law_change_draw" = true) (k13 : PySem.W.keepIn K (.ref f13) = true)
    (a14 : PySem.W.nsIn K mainGlobals "_law_same" = some (some (.ref f14))) (l14 : K.lookup f14 = some ⟨oc14, od14, .func (PySem.W.fnOf "_law_same" "_law_same" (defArgs s_law_same) (defBody s_law_same) (defScope s_law_same) .none kV14 dc14 pm14 an14 cd14 ct14), sl14⟩) (c14 : PySem.W.codeIn K cd14 "_law_same" = true) (k14 : PySem.W.keepIn K (.ref f14) = true)
    (a15 : PySem.W.nsIn K mainGlobals "_law_bent" = some (some (.ref f15))) (l15 : K.lookup f15 = some ⟨oc15, od15, .func (PySem.W.fnOf "_law_bent" "_law_bent" (defArgs s_law_bent) (defBody s_law_bent) (defScope s_law_bent) .none kV15 dc15 pm15 an15 cd15 ct15), sl15⟩) (c15 : PySem.W.codeIn K cd15 "_law_bent" = true) (k15 : PySem.W.keepIn K (.ref f15) = true)
    (a16 : PySem.W.nsIn K mainGlobals "_law_listed" = some (some (.ref f16))) (l16 : K.lookup f16 = some ⟨oc16, od16, .func (PySem.W.fnOf "_law_listed" "_law_listed" (defArgs s_law_listed) (defBody s_law_listed) (defScope s_law_listed) .none kV16 dc16 pm16 an16 cd16 ct16), sl16⟩) (c16 : PySem.W.codeIn K cd16 "_law_listed" = true) (k16 : PySem.W.keepIn K (.ref f16) = true)
    (a17 : PySem.W.nsIn K mainGlobals "_law_count" = some (some (.ref f17))) (l17 : K.lookup f17 = some ⟨oc17, od17, .func (PySem.W.fnOf "_law_count" "_law_count" (defArgs s_law_count) (defBody s_law_count) (defScope s_law_count) .none kV17 dc17 pm17 an17 cd17 ct17), sl17⟩) (c17 : PySem.W.codeIn K cd17 "_law_count" = true) (k17 : PySem.W.keepIn K (.ref f17) = true)
    (a18 : PySem.W.nsIn K mainGlobals "_law_even_gaps" = some (some (.ref f18))) (l18 : K.lookup f18 = some ⟨oc18, od18, .func (PySem.W.fnOf "_law_even_gaps" "_law_even_gaps" (defArgs s_law_even_gaps) (defBody s_law_even_gaps) (defScope s_law_even_gaps) .none kV18 dc18 pm18 an18 cd18 ct18), sl18⟩) (c18 : PySem.W.codeIn K cd18 "_law_even_gaps" = true) (k18 : PySem.W.keepIn K (.ref f18) = true)
    (a19 : PySem.W.nsIn K mainGlobals "_law_exchanged" = some (some (.ref f19))) (l19 : K.lookup f19 = some ⟨oc19, od19, .func (PySem.W.fnOf "_law_exchanged" "_law_exchanged" (defArgs s_law_exchanged) (defBody s_law_exchanged) (defScope s_law_exchanged) .none kV19 dc19 pm19 an19 cd19 ct19), sl19⟩) (c19 : PySem.W.codeIn K cd19 "_law_exchanged" = true) (k19 : PySem.W.keepIn K (.ref f19) = true)
    (a20 : PySem.W.nsIn K mainGlobals "_law_near" = some (some (.ref f20))) (l20 : K.lookup f20 = some ⟨oc20, od20, .func (PySem.W.fnOf "_law_near" "_law_near" (defArgs s_law_near) (defBody s_law_near) (defScope s_law_near) .none kV20 dc20 pm20 an20 cd20 ct20), sl20⟩) (c20 : PySem.W.codeIn K cd20 "_law_near" = true) (k20 : PySem.W.keepIn K (.ref f20) = true)
    (a21 : PySem.W.nsIn K mainGlobals "_law_odd" = some (some (.ref f21))) (l21 : K.lookup f21 = some ⟨oc21, od21, .func (PySem.W.fnOf "_law_odd" "_law_odd" (defArgs s_law_odd) (defBody s_law_odd) (defScope s_law_odd) .none kV21 dc21 pm21 an21 cd21 ct21), sl21⟩) (c21 : PySem.W.codeIn K cd21 "_law_odd" = true) (k21 : PySem.W.keepIn K (.ref f21) = true)
    (a22 : PySem.W.nsIn K mainGlobals "_law_row_told" = some (some (.ref f22))) (l22 : K.lookup f22 = some ⟨oc22, od22, .func (PySem.W.fnOf "_law_row_told" "_law_row_told" (defArgs s_law_row_told) (defBody s_law_row_told) (defScope s_law_row_told) .none kV22 dc22 pm22 an22 cd22 ct22), sl22⟩) (c22 : PySem.W.codeIn K cd22 "_law_row_told" = true) (k22 : PySem.W.keepIn K (.ref f22) = true)
    (a23 : PySem.W.nsIn K mainGlobals "_law_stage_refused" = some (some (.ref f23))) (l23 : K.lookup f23 = some ⟨oc23, od23, .func (PySem.W.fnOf "_law_stage_refused" "_law_stage_refused" (defArgs s_law_stage_refused) (defBody s_law_stage_refused) (defScope s_law_stage_refused) .none kV23 dc23 pm23 an23 cd23 ct23), sl23⟩) (c23 : PySem.W.codeIn K cd23 "_law_stage_refused" = true) (k23 : PySem.W.keepIn K (.ref f23) = true)
    (a24 : PySem.W.nsIn K mainGlobals "law" = some (some (.ref f24))) (l24 : K.lookup f24 = some ⟨oc24, od24, .func (PySem.W.fnOf "law" "law" (defArgs s_law) (defBody s_law) (defScope s_law) .none kV24 dc24 pm24 an24 cd24 ct24), sl24⟩) (c24 : PySem.W.codeIn K cd24 "law" = true) (k24 : PySem.W.keepIn K (.ref f24) = true)
    (z_ValueError : PySem.W.nsIn K mainGlobals "ValueError" = some none)
    (z_abs : PySem.W.nsIn K mainGlobals "abs" = some none)
    (z_bool : PySem.W.nsIn K mainGlobals "bool" = some none)
    (z_int : PySem.W.nsIn K mainGlobals "int" = some none)
    (z_isinstance : PySem.W.nsIn K mainGlobals "isinstance" = some none)
    (z_len : PySem.W.nsIn K mainGlobals "len" = some none)
    (z_list : PySem.W.nsIn K mainGlobals "list" = some none)
    (z_range : PySem.W.nsIn K mainGlobals "range" = some none)
    (z_sorted : PySem.W.nsIn K mainGlobals "sorted" = some none)
    (z_str : PySem.W.nsIn K mainGlobals "str" = some none)
    (z_tuple : PySem.W.nsIn K mainGlobals "tuple" = some none)
    (q_SIGNS : PySem.W.nsIn K mainGlobals "SIGNS" = some (some (.str "1234567890ET" t_SIGNS)))
    (e_ChamberError : PySem.W.nsIn K mainGlobals "ChamberError" = some (some (.ref C_ChamberError)))
    (e_BadStage : PySem.W.nsIn K mainGlobals "BadStage" = some (some (.ref C_BadStage)))
    (e_BadChange : PySem.W.nsIn K mainGlobals "BadChange" = some (some (.ref C_BadChange)))
    (e_BadNotation : PySem.W.nsIn K mainGlobals "BadNotation" = some (some (.ref C_BadNotation)))
    (xs : exsB K C_ChamberError [("ChamberError", C_ChamberError), ("BadStage", C_BadStage), ("BadChange", C_BadChange), ("BadNotation", C_BadNotation)] = true)
    (zsu : PySem.W.nsIn K mainGlobals "super" = some none) (tp : (l.prog.main.scope.names.lookup ("super" : Str)).isSome = false)
    (i1_ChamberError : PySem.W.findIn K (.ref C_ChamberError) "__init__" = some (some (.ref fI_ChamberError))) (i2_ChamberError : PySem.W.typeIn K (.ref fI_ChamberError) = some (.type "function"))
    (i3_ChamberError : K.lookup fI_ChamberError = some ⟨oc_ChamberError, od_ChamberError, .func (PySem.W.ksFn "__init__" "ChamberError.__init__" (defArgs i_ChamberError) (defBody i_ChamberError) (defScope i_ChamberError) .none kV_ChamberError dc_ChamberError pm_ChamberError an_ChamberError cd_ChamberError ct_ChamberError cc_ChamberError), sl_ChamberError⟩)
    (i4_ChamberError : PySem.W.codeIn K cd_ChamberError "ChamberError.__init__" = true) (i5_ChamberError : K.lookup cc_ChamberError = some ⟨cl_ChamberError, cld_ChamberError, .cell (some (.ref C_ChamberError)), csl_ChamberError⟩) (i6_ChamberError : fileB K cd_ChamberError l.prog.main.file = true)
    (i1_BadStage : PySem.W.findIn K (.ref C_BadStage) "__init__" = some (some (.ref fI_BadStage))) (i2_BadStage : PySem.W.typeIn K (.ref fI_BadStage) = some (.type "function"))
    (i3_BadStage : K.lookup fI_BadStage = some ⟨oc_BadStage, od_BadStage, .func (PySem.W.ksFn "__init__" "BadStage.__init__" (defArgs i_BadStage) (defBody i_BadStage) (defScope i_BadStage) .none kV_BadStage dc_BadStage pm_BadStage an_BadStage cd_BadStage ct_BadStage cc_BadStage), sl_BadStage⟩)
    (i4_BadStage : PySem.W.codeIn K cd_BadStage "BadStage.__init__" = true) (i5_BadStage : K.lookup cc_BadStage = some ⟨cl_BadStage, cld_BadStage, .cell (some (.ref C_BadStage)), csl_BadStage⟩) (i6_BadStage : fileB K cd_BadStage l.prog.main.file = true)
    (i7_BadStage : PySem.W.ks_superIn K C_BadStage C_BadStage "__init__" = some (some (.ref fI_ChamberError))) (i8_BadStage : PySem.W.mroIn K C_BadStage (.ref C_BadStage) = some true)
    (i1_BadChange : PySem.W.findIn K (.ref C_BadChange) "__init__" = some (some (.ref fI_BadChange))) (i2_BadChange : PySem.W.typeIn K (.ref fI_BadChange) = some (.type "function"))
    (i3_BadChange : K.lookup fI_BadChange = some ⟨oc_BadChange, od_BadChange, .func (PySem.W.ksFn "__init__" "BadChange.__init__" (defArgs i_BadChange) (defBody i_BadChange) (defScope i_BadChange) .none kV_BadChange dc_BadChange pm_BadChange an_BadChange cd_BadChange ct_BadChange cc_BadChange), sl_BadChange⟩)
    (i4_BadChange : PySem.W.codeIn K cd_BadChange "BadChange.__init__" = true) (i5_BadChange : K.lookup cc_BadChange = some ⟨cl_BadChange, cld_BadChange, .cell (some (.ref C_BadChange)), csl_BadChange⟩) (i6_BadChange : fileB K cd_BadChange l.prog.main.file = true)
    (i7_BadChange : PySem.W.ks_superIn K C_BadChange C_BadChange "__init__" = some (some (.ref fI_ChamberError))) (i8_BadChange : PySem.W.mroIn K C_BadChange (.ref C_BadChange) = some true)
    (kf : PySem.W.fnIn K fI_ChamberError = true)
    : ∃ fd : FuncData, (∀ (s : Shared) (v : Value), BindsTo s fd ⟨[v], []⟩ [("script", v)]) ∧ ∀ base : Heap, K.In base → base.Ns mainGlobals mg → FnOk l.prog w K mg base CX0 9 fa fd ["script"] (sp_law K) := by
  have e := hfa.symm.trans (PySem.W.mg_of X G a24)
  cases e
  have B : Bn mg := ⟨PySem.W.mg_none_of X G z_ValueError, PySem.W.mg_none_of X G z_abs, PySem.W.mg_none_of X G z_bool, PySem.W.mg_none_of X G z_int, PySem.W.mg_none_of X G z_isinstance, PySem.W.mg_none_of X G z_len, PySem.W.mg_none_of X G z_list, PySem.W.mg_none_of X G z_range, PySem.W.mg_none_of X G z_sorted, PySem.W.mg_none_of X G z_str, PySem.W.mg_none_of X G z_tuple, ⟨_, PySem.W.mg_of X G q_SIGNS⟩⟩
  have D1 : At K mg "check_stage" s_check_stage := ⟨_, _, fun_mk (st := s_check_stage) l1 c1 k1, PySem.W.mg_of X G a1⟩
  have D2 : At K mg "is_number" s_is_number := ⟨_, _, fun_mk (st := s_is_number) l2 c2 k2, PySem.W.mg_of X G a2⟩
  have D3 : At K mg "is_change" s_is_change := ⟨_, _, fun_mk (st := s_is_change) l3 c3 k3, PySem.W.mg_of X G a3⟩
  have D4 : At K mg "check_change" s_check_change := ⟨_, _, fun_mk (st := s_check_change) l4 c4 k4, PySem.W.mg_of X G a4⟩
  have D5 : At K mg "change_count" s_change_count := ⟨_, _, fun_mk (st := s_change_count) l5 c5 k5, PySem.W.mg_of X G a5⟩
  have D6 : At K mg "all_changes" s_all_changes := ⟨_, _, fun_mk (st := s_all_changes) l6 c6 k6, PySem.W.mg_of X G a6⟩
  have D7 : At K mg "as_row" s_as_row := ⟨_, _, fun_mk (st := s_as_row) l7 c7 k7, PySem.W.mg_of X G a7⟩
  have D8 : At K mg "_law_cell" s_law_cell := ⟨_, _, fun_mk (st := s_law_cell) l8 c8 k8, PySem.W.mg_of X G a8⟩
  have D9 : At K mg "_law_pool" s_law_pool := ⟨_, _, fun_mk (st := s_law_pool) l9 c9 k9, PySem.W.mg_of X G a9⟩
  have D10 : At K mg "_law_draw" s_law_draw := ⟨_, _, fun_mk (st := s_law_draw) l10 c10 k10, PySem.W.mg_of X G a10⟩
  have D11 : At K mg "_law_rounds" s_law_rounds := ⟨_, _, fun_mk (st := s_law_rounds) l11 c11 k11, PySem.W.mg_of X G a11⟩
  have D12 : At K mg "_law_times" s_law_times := ⟨_, _, fun_mk (st := s_law_times) l12 c12 k12, PySem.W.mg_of X G a12⟩
  have D13 : At K mg "_law_change_draw" s_law_change_draw := ⟨_, _, fun_mk (st := s_law_change_draw) l13 c13 k13, PySem.W.mg_of X G a13⟩
  have D14 : At K mg "_law_same" s_law_same := ⟨_, _, fun_mk (st := s_law_same) l14 c14 k14, PySem.W.mg_of X G a14⟩
  have D15 : At K mg "_law_bent" s_law_bent := ⟨_, _, fun_mk (st := s_law_bent) l15 c15 k15, PySem.W.mg_of X G a15⟩
  have D16 : At K mg "_law_listed" s_law_listed := ⟨_, _, fun_mk (st := s_law_listed) l16 c16 k16, PySem.W.mg_of X G a16⟩
  have D17 : At K mg "_law_count" s_law_count := ⟨_, _, fun_mk (st := s_law_count) l17 c17 k17, PySem.W.mg_of X G a17⟩
  have D18 : At K mg "_law_even_gaps" s_law_even_gaps := ⟨_, _, fun_mk (st := s_law_even_gaps) l18 c18 k18, PySem.W.mg_of X G a18⟩
  have D19 : At K mg "_law_exchanged" s_law_exchanged := ⟨_, _, fun_mk (st := s_law_exchanged) l19 c19 k19, PySem.W.mg_of X G a19⟩
  have D20 : At K mg "_law_near" s_law_near := ⟨_, _, fun_mk (st := s_law_near) l20 c20 k20, PySem.W.mg_of X G a20⟩
  have D21 : At K mg "_law_odd" s_law_odd := ⟨_, _, fun_mk (st := s_law_odd) l21 c21 k21, PySem.W.mg_of X G a21⟩
  have D22 : At K mg "_law_row_told" s_law_row_told := ⟨_, _, fun_mk (st := s_law_row_told) l22 c22 k22, PySem.W.mg_of X G a22⟩
  have D23 : At K mg "_law_stage_refused" s_law_stage_refused := ⟨_, _, fun_mk (st := s_law_stage_refused) l23 c23 k23, PySem.W.mg_of X G a23⟩
  have D24 : At K mg "law" s_law := ⟨_, _, fun_mk (st := s_law) l24 c24 k24, PySem.W.mg_of X G a24⟩
  have FL := fun_mk (st := s_law) l24 c24 k24
  have M_ChamberError : mg "ChamberError" = some (.ref C_ChamberError) := PySem.W.mg_of X G e_ChamberError
  have M_BadStage : mg "BadStage" = some (.ref C_BadStage) := PySem.W.mg_of X G e_BadStage
  have M_BadChange : mg "BadChange" = some (.ref C_BadChange) := PySem.W.mg_of X G e_BadChange
  have M_BadNotation : mg "BadNotation" = some (.ref C_BadNotation) := PySem.W.mg_of X G e_BadNotation
  have XS : Exs K (ecOf mg) XN := exs_of (l := [("ChamberError", C_ChamberError), ("BadStage", C_BadStage), ("BadChange", C_BadChange), ("BadNotation", C_BadNotation)]) M_ChamberError (by simp only [List.forall_mem_cons]; exact ⟨M_ChamberError, M_BadStage, M_BadChange, M_BadNotation, fun _ h => nomatch h⟩) xs
  have EX : ExAt mg (ecOf mg) XN := by
    unfold ExAt
    simp only [XN, List.forall_mem_cons]
    exact ⟨by rw [ecOf_at M_ChamberError]; exact M_ChamberError, by rw [ecOf_at M_BadStage]; exact M_BadStage, by rw [ecOf_at M_BadChange]; exact M_BadChange, by rw [ecOf_at M_BadNotation]; exact M_BadNotation, fun _ h => nomatch h⟩
  have BC_ChamberError : Bad K C_ChamberError C_ChamberError := by have z := XS.bad "ChamberError" (by decide); simp only [ecOf_at M_ChamberError, ecOf_at M_ChamberError] at z; exact z
  have BC_BadStage : Bad K C_BadStage C_ChamberError := by have z := XS.bad "BadStage" (by decide); simp only [ecOf_at M_BadStage, ecOf_at M_ChamberError] at z; exact z
  have BC_BadChange : Bad K C_BadChange C_ChamberError := by have z := XS.bad "BadChange" (by decide); simp only [ecOf_at M_BadChange, ecOf_at M_ChamberError] at z; exact z
  have BC_BadNotation : Bad K C_BadNotation C_ChamberError := by have z := XS.bad "BadNotation" (by decide); simp only [ecOf_at M_BadNotation, ecOf_at M_ChamberError] at z; exact z
  refine ⟨PySem.W.fnOf "law" "law" (defArgs s_law) (defBody s_law) (defScope s_law) .none kV24 dc24 pm24 an24 cd24 ct24, fun s v => .of_eq rfl, fun base _ _ => ?_⟩
  have FC := ok_CE (w := w) (base := base) (D := C_ChamberError) (S := (⟨⟨_, _, _, _, _, _, _, _, _, _, _, _, _, _, rfl, i3_ChamberError, i4_ChamberError, i5_ChamberError, i6_ChamberError⟩, ⟨rfl, rfl, rfl, by decide +kernel, rfl, by decide +kernel, by decide +kernel, by decide +kernel⟩, rfl, rfl, rfl, ⟨_, rfl, rfl⟩, PySem.W.mg_none_of X G zsu, tp, BC_ChamberError.cls⟩ : SupI l.prog K mg "ChamberError.__init__" i_ChamberError C_ChamberError ["self", "word"] fI_ChamberError _)) rfl ⟨_, fun _ => rfl⟩ rfl
  have BCE : Binds K _ ["self", "word"] [] := Binds.all (fd := PySem.W.ksFn "__init__" "ChamberError.__init__" (defArgs i_ChamberError) (defBody i_ChamberError) (defScope i_ChamberError) .none kV_ChamberError dc_ChamberError pm_ChamberError an_ChamberError cd_ChamberError ct_ChamberError cc_ChamberError) fun us hl => match us, hl with | [_, _], _ => rfl
  have Z_BadChange : Rz0 l.prog w K mg base "BadChange" (ecOf mg "BadChange") := by
    rw [ecOf_at M_BadChange]
    exact ⟨⟨_, _, i1_BadChange, i2_BadChange, ok_B0 (w := w) (base := base) (nm := "BadChange") (S := (⟨⟨_, _, _, _, _, _, _, _, _, _, _, _, _, _, rfl, i3_BadChange, i4_BadChange, i5_BadChange, i6_BadChange⟩, ⟨rfl, rfl, rfl, by decide +kernel, rfl, by decide +kernel, by decide +kernel, by decide +kernel⟩, rfl, rfl, rfl, ⟨_, rfl, rfl⟩, PySem.W.mg_none_of X G zsu, tp, BC_BadChange.cls⟩ : SupI l.prog K mg "BadChange.__init__" i_BadChange C_BadChange ["self"] fI_BadChange _)) rfl ⟨_, fun _ => rfl⟩ FC BCE BC_BadChange i8_BadChange i7_BadChange i2_ChamberError kf, Binds.all fun us hl => match us, hl with | [_], _ => rfl⟩, BC_BadChange.ox, M_BadChange⟩
  have Z_BadStage : Rz0 l.prog w K mg base "BadStage" (ecOf mg "BadStage") := by
    rw [ecOf_at M_BadStage]
    exact ⟨⟨_, _, i1_BadStage, i2_BadStage, ok_B0 (w := w) (base := base) (nm := "BadStage") (S := (⟨⟨_, _, _, _, _, _, _, _, _, _, _, _, _, _, rfl, i3_BadStage, i4_BadStage, i5_BadStage, i6_BadStage⟩, ⟨rfl, rfl, rfl, by decide +kernel, rfl, by decide +kernel, by decide +kernel, by decide +kernel⟩, rfl, rfl, rfl, ⟨_, rfl, rfl⟩, PySem.W.mg_none_of X G zsu, tp, BC_BadStage.cls⟩ : SupI l.prog K mg "BadStage.__init__" i_BadStage C_BadStage ["self"] fI_BadStage _)) rfl ⟨_, fun _ => rfl⟩ FC BCE BC_BadStage i8_BadStage i7_BadStage i2_ChamberError kf, Binds.all fun us hl => match us, hl with | [_], _ => rfl⟩, BC_BadStage.ox, M_BadStage⟩
  have G1 := ok_check_stage (P := l.prog) (w := w) (base := base) D1 B XS EX Z_BadStage
  have G2 := ok_is_number (P := l.prog) (w := w) (base := base) D2 B
  have G3 := ok_is_change (P := l.prog) (w := w) (base := base) D3 B XS EX G1 G2
  have G4 := ok_check_change (P := l.prog) (w := w) (base := base) D4 B XS EX G3 Z_BadChange
  have G5 := ok_change_count (P := l.prog) (w := w) (base := base) D5 B XS EX G1
  have G6 := ok_all_changes (P := l.prog) (w := w) (base := base) D6 B XS EX G1
  have G7 := ok_as_row (P := l.prog) (w := w) (base := base) D7 B XS EX G4
  have G8 := ok_law_cell (P := l.prog) (w := w) (base := base) D8 B
  have G9 := ok_law_pool (P := l.prog) (w := w) (base := base) D9 B G8
  have G10 := ok_law_draw (P := l.prog) (w := w) (base := base) D10 B
  have G11 := ok_law_rounds (P := l.prog) (w := w) (base := base) D11 B
  have G12 := ok_law_times (P := l.prog) (w := w) (base := base) D12 B
  have G13 := ok_law_change_draw (P := l.prog) (w := w) (base := base) D13 B G10
  have G14 := ok_law_same (P := l.prog) (w := w) (base := base) D14 B
  have G15 := ok_law_bent (P := l.prog) (w := w) (base := base) D15 B G10
  have G16 := ok_law_listed (P := l.prog) (w := w) (base := base) D16 B
  have G17 := ok_law_count (P := l.prog) (w := w) (base := base) D17 B
  have G18 := ok_law_even_gaps (P := l.prog) (w := w) (base := base) D18 B
  have G19 := ok_law_exchanged (P := l.prog) (w := w) (base := base) D19 B
  have G20 := ok_law_near (P := l.prog) (w := w) (base := base) D20 B G10 G15 G13
  have G21 := ok_law_odd (P := l.prog) (w := w) (base := base) D21 B G10
  have G22 := ok_law_row_told (P := l.prog) (w := w) (base := base) D22 B XS EX G7 G14
  have G23 := ok_law_stage_refused (P := l.prog) (w := w) (base := base) D23 B XS EX G6 G5 G3 G7 G14
  exact ok_lawF FL B XS EX G9 G10 G16 G14 G6 G5 G17 G22 G19 G12 G11 G3 G20 G18 G21 G23
end K8
end Kb
open PySem PySem.W PyProof.Rows
set_option maxRecDepth 100000 in
set_option maxHeartbeats 0 in
theorem PySem.Challenge.cw_ringingchamber_k08_changes_of_a_stage_holds : PySem.Challenge.rw_ringingchamber_k08_changes_of_a_stage.Holds := by
  w_on; o_law; k_head; (case hw => w_witness2)
  k_fill
  refine L2.walk_of (l := PySem.Challenge.rw_ringingchamber_k08_changes_of_a_stage) (n := 63) (k := 9) (x := "script") (CX := fun _ => L2.CX0) (sp := fun w => Kb.K8.sp_law _) rfl (by decide) rfl ⟨rfl, by decide, by decide⟩ (fun w h Y => PySem.W.kIn_of Y) ?F (fun _ _ a ns hl _ hS => ⟨a, ns, rfl, hS, hl, fun _ => rfl⟩) (fun _ _ _ _ _ h => h)
  case F =>
    intro w mg fa h KX G hmg
    refine' Kb.K8.all_mk KX G hmg ?a1 ?l1 ?c1 ?k1 ?a2 ?l2 ?c2 ?k2 ?a3 ?l3 ?c3 ?k3 ?a4 ?l4 ?c4 ?k4 ?a5 ?l5 ?c5 ?k5 ?a6 ?l6 ?c6 ?k6 ?a7 ?l7 ?c7 ?k7 ?a8 ?l8 ?c8 ?k8 ?a9 ?l9 ?c9 ?k9 ?a10 ?l10 ?c10 ?k10 ?a11 ?l11 ?c11 ?k11 ?a12 ?l12 ?c12 ?k12 ?a13 ?l13 ?c13 ?k13 ?a14 ?l14 ?c14 ?k14 ?a15 ?l15 ?c15 ?k15 ?a16 ?l16 ?c16 ?k16 ?a17 ?l17 ?c17 ?k17 ?a18 ?l18 ?c18 ?k18 ?a19 ?l19 ?c19 ?k19 ?a20 ?l20 ?c20 ?k20 ?a21 ?l21 ?c21 ?k21 ?a22 ?l22 ?c22 ?k22 ?a23 ?l23 ?c23 ?k23 ?a24 ?l24 ?c24 ?k24 ?z_ValueError ?z_abs ?z_bool ?z_int ?z_isinstance ?z_len ?z_list ?z_range ?z_sorted ?z_str ?z_tuple ?q_SIGNS ?e_ChamberError ?e_BadStage ?e_BadChange ?e_BadNotation ?xs ?zsu ?tp ?i1_ChamberError ?i2_ChamberError ?i3_ChamberError ?i4_ChamberError ?i5_ChamberError ?i6_ChamberError ?i1_BadStage ?i2_BadStage ?i3_BadStage ?i4_BadStage ?i5_BadStage ?i6_BadStage ?i7_BadStage ?i8_BadStage ?i1_BadChange ?i2_BadChange ?i3_BadChange ?i4_BadChange ?i5_BadChange ?i6_BadChange ?i7_BadChange ?i8_BadChange ?kf
    (case a1 => k_is); (case l1 => k_is); (case c1 => k_is); (case k1 => k_is); (case a2 => k_is); (case l2 => k_is); (case c2 => k_is); (case k2 => k_is); (case a3 => k_is); (case l3 => k_is); (case c3 => k_is); (case k3 => k_is); (case a4 => k_is); (case l4 => k_is); (case c4 => k_is); (case k4 => k_is); (case a5 => k_is); (case l5 => k_is); (case c5 => k_is); (case k5 => k_is); (case a6 => k_is); (case l6 => k_is); (case c6 => k_is); (case k6 => k_is); (case a7 => k_is); (case l7 => k_is); (case c7 => k_is); (case k7 => k_is); (case a8 => k_is); (case l8 => k_is); (case c8 => k_is); (case k8 => k_is); (case a9 => k_is); (case l9 => k_is); (case c9 => k_is); (case k9 => k_is); (case a10 => k_is); (case l10 => k_is); (case c10 => k_is); (case k10 => k_is); (case a11 => k_is); (case l11 => k_is); (case c11 => k_is); (case k11 => k_is); (case a12 => k_is); (case l12 => k_is); (case c12 => k_is); (case k12 => k_is); (case a13 => k_is); (case l13 => k_is); (case c13 => k_is); (case k13 => k_is); (case a14 => k_is); (case l14 => k_is); (case c14 => k_is); (case k14 => k_is); (case a15 => k_is); (case l15 => k_is); (case c15 => k_is); (case k15 => k_is); (case a16 => k_is); (case l16 => k_is); (case c16 => k_is); (case k16 => k_is); (case a17 => k_is); (case l17 => k_is); (case c17 => k_is); (case k17 => k_is); (case a18 => k_is); (case l18 => k_is); (case c18 => k_is); (case k18 => k_is); (case a19 => k_is); (case l19 => k_is); (case c19 => k_is); (case k19 => k_is); (case a20 => k_is); (case l20 => k_is); (case c20 => k_is); (case k20 => k_is); (case a21 => k_is); (case l21 => k_is); (case c21 => k_is); (case k21 => k_is); (case a22 => k_is); (case l22 => k_is); (case c22 => k_is); (case k22 => k_is); (case a23 => k_is); (case l23 => k_is); (case c23 => k_is); (case k23 => k_is); (case a24 => k_is); (case l24 => k_is); (case c24 => k_is); (case k24 => k_is); (case z_ValueError => k_is); (case z_abs => k_is); (case z_bool => k_is); (case z_int => k_is); (case z_isinstance => k_is); (case z_len => k_is); (case z_list => k_is); (case z_range => k_is); (case z_sorted => k_is); (case z_str => k_is); (case z_tuple => k_is); (case q_SIGNS => k_is); (case e_ChamberError => k_is); (case e_BadStage => k_is); (case e_BadChange => k_is); (case e_BadNotation => k_is); (case xs => kernel_rfl); (case zsu => k_is); (case tp => decide +kernel); (case i1_ChamberError => k_is); (case i2_ChamberError => k_is); (case i3_ChamberError => k_is); (case i4_ChamberError => k_is); (case i5_ChamberError => k_is); (case i6_ChamberError => kernel_rfl); (case i1_BadStage => k_is); (case i2_BadStage => k_is); (case i3_BadStage => k_is); (case i4_BadStage => k_is); (case i5_BadStage => k_is); (case i6_BadStage => kernel_rfl); (case i7_BadStage => kernel_rfl); (case i8_BadStage => k_is); (case i1_BadChange => k_is); (case i2_BadChange => k_is); (case i3_BadChange => k_is); (case i4_BadChange => k_is); (case i5_BadChange => k_is); (case i6_BadChange => kernel_rfl); (case i7_BadChange => kernel_rfl); (case i8_BadChange => k_is); (case kf => k_is)
